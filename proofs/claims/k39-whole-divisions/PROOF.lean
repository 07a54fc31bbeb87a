import PyProof.Rows.All
import Wide.All
import OpenK.AllK
import Wide.FinOn
import HandS.ForMost
import HandS.Exc
import HandS.WordsExc
import HandS.TryOnly
import HandS.Defaults
import HandS.IsInst
import HandS.Rev
import HandS.Zip
import HandS.TupAny
import HandS.SortInts
import HandS.Style
import HandS.Walk
import KE.GoesZip
import KE.GoesMore
import KE.GoesEnum
import KE.KIndexOf
import KE.KSortedM
import HandS.Head0
import HandS.Head1
import HandS.Head2
import HandS.HeadEnd
import HandS.HeadHook1
import HandS.HeadHook2
import KE.KStateDown
import PySem.Challenge.RW_rankwords_k39_whole_divisions_zeros_and
set_option Elab.async false
set_option linter.all false
section
set_option maxRecDepth 100000
set_option autoImplicit false
/-! S0: rules that the layer lacks: tuples whose object is known, enumerate and zip over lists and tuples alike, any of ints, index of ints -/
namespace K39
open PySem PySem.Spec PyProof.Rows L2

/-! ### new tuples, the object known (no dict) -/
section
variable {X : Cx} {pins : List (Addr × Obj)} {σ : L2.St} {H : Hp} {s : Shared}
abbrev tupO (us : List Value) : Obj := { cls := .type "tuple", data := .seq us.toArray }
theorem tup_lay {h1 : Heap} {t : Nat} {xs : List V} {us : List Value} (I : Inv X pins σ H { s with heap := h1 }) (r : Vals xs us) (hz : xs.length ≤ sizeLine) :
    Inv X pins σ (upd H h1.objs.size (.frz (tupO us) (.tup xs))) { s with heap := h1.push (tupO us), toks := t } ∧ H h1.objs.size = none :=
  have J : Inv X pins σ H { s with heap := h1, toks := t } := I.tok t
  ⟨J.laid (t' := t) (fun b o e => Heap.get?_push_of_some _ e) (Nat.le_refl _) ⟨Heap.get?_push_size _ rfl, hz, us, r, IsTup.new _ _⟩, I.hok.fresh (Nat.le_refl _)⟩
def NewT (H : Hp) (xs : List V) (Q : VK) : Prop := ∀ p o, H p = none → o.dict = none → Q (.ref p) (upd H p (.frz o (.tup xs)))
def tTupF (t : TA) : TE := fun σ H Q => t σ H fun xs H1 => xs.length ≤ sizeLine ∧ NewT H1 xs Q
theorem pe_tupF {es : List Expr} {t : TA} {x1 : Nat} {pos : Pos} (h : PA X es t) : PE X (.Tuple es x1 pos) (tTupF t) := ⟨fun pins s σ H Q I hq => by
  refine wpAny_Tuple_spliced (thn (h.run pos pins s σ H _ I hq) ?_)
  rintro us s1 ⟨xs, H1, I1, r, z, q⟩
  obtain ⟨J, hf⟩ := tup_lay (s := s1) (h1 := s1.heap) (t := s1.toks) I1 r z
  exact ⟨by rw [← r.length]; exact z, .ref _, _, J, rfl, q _ _ hf rfl⟩⟩
def rCatF (K : PySem.W.Frag) : R2 := fun x y H Q => ∃ a b xs ys, x = .ref a ∧ y = .ref b ∧ SqT K H a xs ∧ SqT K H b ys ∧ xs.length + ys.length ≤ sizeLine ∧
  (xs = [] → Q (.ref b) H) ∧ (xs ≠ [] → ys = [] → Q (.ref a) H) ∧ (xs ≠ [] → ys ≠ [] → NewT H (xs ++ ys) Q)
theorem op_catF : OpR X (binaryOp .Add) (rCatF X.K) := by
  rintro pins s σ H x y v u Q I rx ry ⟨a, b, xs, ys, rfl, rfl, ha, hb, hz, q0, q1, q2⟩
  cases rx
  cases ry
  obtain ⟨its, r1, p1, _⟩ := I.tuple ha
  obtain ⟨jts, r2, p2, _⟩ := I.tuple hb
  by_cases hx : xs = []
  · subst hx
    cases r1
    exact cat_tup0 p1 p2 ⟨.ref b, H, I, rfl, q0 rfl⟩
  · refine HT.cat_tup p1 p2 (fun z => hx (r1.nil_iff.mp z)) (fun z => ⟨.ref a, H, I, rfl, q1 hx (r2.nil_iff.mp z)⟩) (fun z => ?_) (by rw [← r1.length, ← r2.length]; exact hz)
    obtain ⟨J, hf⟩ := tup_lay (s := s) (h1 := s.heap) (t := s.toks) I (r1.append r2) (by rw [List.length_append]; exact hz)
    exact ⟨.ref _, _, J, rfl, q2 hx (fun w => z (r2.nil_iff.mpr w)) _ _ hf rfl⟩
def rSlF (K : PySem.W.Frag) : V → Option Int → Option Int → Hp → VK → Prop := fun x lo hi H Q => ∃ a xs, x = .ref a ∧ SqT K H a xs ∧
  (HT.sIx xs.length 0 lo = 0 ∧ HT.sIx xs.length xs.length hi = xs.length → Q (.ref a) H) ∧ (¬ (HT.sIx xs.length 0 lo = 0 ∧ HT.sIx xs.length xs.length hi = xs.length) → NewT H (cutV xs lo hi) Q)
theorem sl_tupF : SlR X (rSlF X.K) := by
  rintro pins s σ H x v vl vu lo hi sl Q I rx hs pl pu ⟨a, xs, rfl, hx, q1, q2⟩
  cases rx
  obtain ⟨its, r, ht, hz⟩ := I.tuple hx
  have el : its.toArray.size = xs.length := (List.size_toArray ..).trans r.length.symm
  refine ⟨"tuple", _, PyProof.Rows.slot_tuple_getitem.lookup, ht.typeIs, ?_⟩
  by_cases hw : HT.sIx xs.length 0 lo = 0 ∧ HT.sIx xs.length xs.length hi = xs.length
  · exact getItem_tuple_whole ht hs pl pu (by rw [el]; exact hw) ⟨.ref a, H, I, rfl, q1 hw⟩
  · refine HT.getItem_tuple_cut ht hs pl pu (by rw [el]; exact hw) ?_ (by rw [el]; exact hz)
    rw [el]
    obtain ⟨J, hf⟩ := tup_lay (s := s) (h1 := s.heap) (t := s.toks) I ((r.drop (HT.sIx xs.length 0 lo)).take (HT.sIx xs.length xs.length hi - HT.sIx xs.length 0 lo)) (Nat.le_trans (cutV_length xs lo hi) hz)
    exact ⟨.ref _, _, J, rfl, q2 hw _ _ hf rfl⟩
theorem call_tupF : CallR X (.type "tuple") (fun xs H Q => ∃ p ys, xs = [.ref p] ∧ ((SqL X.K H p ys ∧ NewT H ys Q) ∨ (SqT X.K H p ys ∧ Q (.ref p) H))) := by
  rintro pins s σ H xs us Q I r ⟨p, ys, rfl, h⟩
  obtain ⟨u, rfl, rx⟩ := vals1 r
  cases rx
  rcases h with ⟨hq, q⟩ | ⟨hq, q⟩
  · obtain ⟨its, r', pl, hz⟩ := I.list hq
    have el := r'.length
    refine call_tuple_list pl.isList (fun h1 kp => ?_) (by simp only [List.size_toArray]; omega)
    obtain ⟨J, hf⟩ := tup_lay (s := s) (h1 := h1) (t := s.toks) (I.kept (t' := s.toks) kp) r' hz
    exact ⟨.ref _, _, J, rfl, q _ _ hf rfl⟩
  · obtain ⟨its, r', pl, hz⟩ := I.tuple hq
    exact call_tuple_same pl ⟨.ref p, H, I, rfl, q⟩
end

/-! ### a list or a tuple -/
def SqK (K : PySem.W.Frag) (k : Bool) (H : Hp) (a : Addr) (xs : List V) : Prop := match k with
  | true => SqL K H a xs
  | false => SqT K H a xs
def IsIt (k : Bool) (h : Heap) (it a : Addr) (i : Nat) : Prop := match k with
  | true => h.IsListIter it a i
  | false => h.IsTupleIter it a i
def IsSq (k : Bool) (h : Heap) (a : Addr) (its : Array Value) : Prop := match k with
  | true => h.IsList a its
  | false => h.IsTuple a its
def itO (k : Bool) (a : Addr) : Obj := match k with
  | true => { cls := .type "list_iterator", data := .fields #[.ref a, .int 0 0] }
  | false => { cls := .type "tuple_iterator", data := .fields #[.ref a, .int 0 0] }
theorem draws_k {prog : Program} {w : World} {A : Around} (k : Bool) (hh : A.handled = none) (it a : Addr) (hne : a ≠ it) (its : Array Value) :
    Draws prog w A it [it, a] its.size (fun i v => its[i]? = some v) (fun i h => IsIt k h it a i ∧ IsSq k h a its) := by
  cases k with
  | true => exact Draws.list hh it a hne its
  | false => exact Draws.tuple hh it a hne its
theorem begins_k (k : Bool) (a : Addr) (its : Array Value) : Begins (.ref a) (itO k a) fun h => IsSq k h a its := by
  cases k with
  | true => exact begins_list a its
  | false => exact begins_tuple a its
theorem isIt_new {k : Bool} {h : Heap} {it a : Addr} (e : h.get? it = some (itO k a)) : IsIt k h it a 0 := by
  cases k with
  | true => exact ⟨_, e, rfl, rfl⟩
  | false => exact ⟨_, e, rfl, rfl⟩
theorem isIt_at {k : Bool} {h h' : Heap} {it a : Addr} {i : Nat} (x : IsIt k h it a i) (e : ∀ o, h.get? it = some o → h'.get? it = some o) : IsIt k h' it a i := by
  cases k with
  | true => exact Heap.IsListIter.at x e
  | false => exact Heap.IsTupleIter.at x e
theorem isIt_obj {k : Bool} {h : Heap} {it a : Addr} {i : Nat} (x : IsIt k h it a i) : ∃ o, h.get? it = some o ∧ ∀ v, o.data ≠ .cell v := by
  cases k with
  | true =>
    obtain ⟨o, e, _, d⟩ := x
    exact ⟨o, e, fun v z => by rw [d] at z; cases z⟩
  | false =>
    obtain ⟨o, e, _, d⟩ := x
    exact ⟨o, e, fun v z => by rw [d] at z; cases z⟩
section
variable {X : Cx} {pins : List (Addr × Obj)} {σ : L2.St} {H : Hp} {s : Shared} {a : Addr} {xs ys : List V} {k : Bool}
theorem inv_sq (I : Inv X pins σ H s) (h : SqK X.K k H a xs) : ∃ its : List Value, Vals xs its ∧ IsSq k s.heap a its.toArray ∧ a < s.heap.objs.size := by
  cases k with
  | true =>
    obtain ⟨its, r, p, _⟩ := I.list h
    exact ⟨its, r, p.isList, p.lt⟩
  | false =>
    obtain ⟨its, r, p, _⟩ := I.tuple h
    exact ⟨its, r, p, p.lt⟩
theorem inv_sq_inj (I : Inv X pins σ H s) (h : SqK X.K k H a xs) (h' : SqK X.K k H a ys) : xs = ys := by
  cases k with
  | true => exact I.list_inj h h'
  | false => exact I.tuple_inj h h'
end

/-! ### enumerate -/
set_option maxHeartbeats 2000000 in
theorem meets_enum1 {v : Value} {o : Obj} {H : Heap → Prop} (B : Begins v o H) :
    Meets (Builtin.«enumerate.__new__» ⟨[.type "enumerate", v], []⟩) (fun _ R s => H s.heap ∧
      R (.ok (.ret (.ref (s.heap.push o).objs.size))) { s with heap := (s.heap.push o).push { cls := .type "enumerate", data := .fields #[.none, .bool false, .ref s.heap.objs.size, rawInt 0, .none, .none] } }) :=
  .of_wp fun prog w A R s hx => by
    rcases s with ⟨hp, g, d, tk, os⟩
    rcases hx with ⟨h1, h⟩
    have hsub := sub_enumerate
    have go : ∀ {A' : Around} {E : Value → Shared → Prop} {Q : Value → Shared → Prop}, Q (.ref hp.objs.size) ⟨hp.push o, g, d, tk, os⟩ → wpAny (model prog w) A' (pyIter v) Q E ⟨hp, g, d, tk, os⟩ :=
      fun {A' E Q} q => B.iter prog w A' E ⟨hp, g, d, tk, os⟩ Q h1 q
    wp_walk using go
    refine wpAny_stack_any fun st => wpAny_pure ?_
    split
    · rename_i c _ _ _ _ _
      cases (c == Value.type "enumerate") <;> (wp_walk using go; exact ⟨_, rfl, h⟩)
    · wp_walk using go
      exact ⟨_, rfl, h⟩
theorem enum1 {prog : Program} {w : World} {A : Around} {E : Value → Shared → Prop} {s : Shared} {v : Value} {o : Obj} {H : Heap → Prop} {Q : Value → Shared → Prop} (B : Begins v o H) (h1 : H s.heap)
    (h : ∀ h', IsEnum h' (s.heap.objs.size + 1) s.heap.objs.size 0 .none → h'.get? s.heap.objs.size = some o → (∀ b ob, s.heap.get? b = some ob → h'.get? b = some ob) → Q (.ref (s.heap.objs.size + 1)) { s with heap := h' }) :
    wpAny (model prog w) A (call (.type "enumerate") [v]) Q E s := by
  refine callType_new F.called_enumerate (by decide) (F.typeCall_enumerate_1 _) (F.newCall_enumerate_1 _) (fun obj => F.args_object_init_2 obj _) F.entry_enumerate_new (meets_enum1 B) ⟨h1, ?_⟩
  have hz : (s.heap.push o).objs.size = s.heap.objs.size + 1 := by rw [Heap.size_push]
  show _ ∧ _
  rw [hz]
  have he := Heap.get?_push_size (s.heap.push o) (o := { cls := .type "enumerate", data := .fields #[.none, .bool false, .ref s.heap.objs.size, rawInt 0, .none, .none] }) rfl
  rw [hz] at he
  exact ⟨⟨_, he, rfl⟩, h _ he (Heap.get?_push_of_some _ (Heap.get?_push_size _ B.free)) fun b ob x => Heap.get?_push_of_some _ (Heap.get?_push_of_some _ x)⟩

def IteK (K : PySem.W.Frag) (k : Bool) (a : Addr) : It where
  go := fun i H => ∃ (xs : List V) (x : V), SqK K k H a xs ∧ xs[i]? = some x
  yld := fun i H v H' => ∃ T x, v = .ref T ∧ H T = none ∧ H' = upd H T (.tup [.int (i : Nat), x]) ∧ ∀ xs, SqK K k H a xs → xs[i]? = some x
  stop := fun i H => ∃ xs : List V, SqK K k H a xs ∧ xs.length ≤ i
theorem turn_enumK {P : Program} {w : World} {K : PySem.W.Frag} {k : Bool} {elts : List Expr} {kk : Nat} {tpos : Pos} (a e it : Addr) :
    Turn P w K (.Tuple elts kk tpos) (IteK K k a) [e, it] e (fun i h => (∃ old, IsEnum h e it ((i : Nat) : Int) old) ∧ IsIt k h it a i ∧ e ≠ it ∧ a ≠ it ∧ e ≠ a) where
  mem := List.mem_cons_self ..
  obj := fun i h st b hb => by
    obtain ⟨⟨old, he⟩, hi, _⟩ := st
    rcases List.mem_cons.mp hb with rfl | hb
    · exact ⟨_, he, fun v q => nomatch q⟩
    · rcases List.mem_singleton.mp hb with rfl
      exact isIt_obj hi
  keep := fun i h h' st kp => by
    obtain ⟨⟨old, he⟩, hi, n1, n2, n3⟩ := st
    exact ⟨⟨old, kp e (List.mem_cons_self ..) _ he⟩, isIt_at hi fun o q => kp it (by simp) o q, n1, n2, n3⟩
  item := by
    intro X hP hw hK hc i pins s σ H E I hf st hg
    subst hP hw hK
    obtain ⟨⟨old, he⟩, hit, hne, hai, hea⟩ := st
    obtain ⟨xs, x, hq, hx⟩ := hg
    obtain ⟨its, rv, sq, hal⟩ := inv_sq I hq
    obtain ⟨u, hu, ru⟩ := rv.get hx
    have hil : i < its.toArray.size := by
      rw [List.size_toArray]
      exact (List.getElem?_eq_some_iff.mp hu).1
    have el : e < s.heap.objs.size := Heap.lt_size he
    have il : it < s.heap.objs.size := by
      obtain ⟨_, q, _⟩ := isIt_obj hit
      exact Heap.lt_size q
    refine wpAny_pyNext_enum_itemD (draws_k k (A := X.A.in1) (I.ok.hd hc) it a hai its.toArray) he ⟨hit, sq⟩ hil hne (by simp [hne, hea]) fun z h' tk hz ho hst hT hsz hk => ?_
    have ez : z = u := by
      rw [List.getElem?_toArray, hu] at hz
      exact (Option.some.inj hz).symm
    subst ez
    refine ⟨_, rfl, wpAny_letOwnedTupleGo_enum (s := { s with heap := h', toks := tk + 1 }) ho fun h'' he' sb => ?_⟩
    have hT2 := (sb.2 _ (Nat.ne_of_gt el)).trans hT
    have new : ObjOk X.prog X.w (upd H s.heap.objs.size (.tup [.int (i : Nat), x])) h'' s.heap.objs.size (.tup [.int (i : Nat), x]) :=
      ⟨by show 2 ≤ sizeLine; decide, [.int i tk, z], .cons ⟨_, rfl⟩ (.cons ru .nil), ⟨_, hT2, rfl, _, rfl⟩⟩
    have ne2 : ∀ b, b ∉ [e, it] → b ≠ e ∧ b ≠ it := fun b hb => ⟨fun z => hb (by simp [z]), fun z => hb (by simp [z])⟩
    have J := I.turnedNew (t' := tk + 1) (ch := [e, it]) (fun b ob hb q => (sb.2 b (ne2 b hb).1).trans (hk b ob (ne2 b hb).1 (ne2 b hb).2 q)) hf (Nat.le_refl _) new
    refine ⟨.ref s.heap.objs.size, _, J, rfl, ⟨_, x, rfl, I.hok.fresh (Nat.le_refl _), rfl, fun ys hy => by rw [inv_sq_inj I hy hq]; exact hx⟩, ⟨⟨z, ?_⟩, isIt_at hst.1 fun o q => (sb.2 it (Ne.symm hne)).trans q, hne, hai, hea⟩, fun b hb => ?_⟩
    · rw [show ((i + 1 : Nat) : Int) = (i : Int) + 1 by omega]
      exact he'
    · have hb' : b < s.heap.objs.size := by
        rcases List.mem_cons.mp hb with q | hb
        · rw [q]; exact el
        · rw [List.mem_singleton.mp hb]; exact il
      rw [upd_ne (Nat.ne_of_lt hb')]
      exact (hf b hb).1
  done := by
    intro X hP hw hK hc i pins s σ H E I hf st hg
    subst hP hw hK
    obtain ⟨⟨old, he⟩, hit, hne, hai, hea⟩ := st
    obtain ⟨xs, hq, hx⟩ := hg
    obtain ⟨its, rv, sq, hal⟩ := inv_sq I hq
    obtain ⟨f0, f1, f2, f3, f4, f5⟩ := hf it (by simp)
    have hl := rv.length
    cases k with
    | true => exact wpAny_pyNext_enum_end (I.ok.hd hc) he hit sq (by rw [List.getElem?_toArray]; exact List.getElem?_eq_none (by omega)) fun h' eb => ⟨rfl, I.turned (t' := s.toks) (fun b o hb q => eb b o hb q) f0 f1 f3 f4 f5⟩
    | false =>
      have D := draws_k (prog := X.prog) (w := X.w) false (A := X.A.in1) (I.ok.hd hc) it a hai its.toArray
      have D' : Draws X.prog X.w X.A.in1 it [it, a] i (fun _ _ => False) (fun j h => (j = i ∧ h.IsTupleIter it a i ∧ h.IsTuple a its.toArray)) := by
        refine ⟨fun j h z => ?_, fun j h h' z kp => ?_, fun j s Q E lt z _ => absurd lt (by rw [z.1]; exact Nat.lt_irrefl _), fun s Q E z hE => ?_⟩
        · obtain ⟨o, e, _⟩ := z.2.1
          exact ⟨o, e⟩
        · exact ⟨z.1, z.2.1.at fun o e => kp it (by simp) o e, z.2.2.at fun o e => kp a (by simp) o e⟩
        · exact wpAny_nextOf_tuple_end (I.ok.hd hc) z.2.1 z.2.2 (by rw [List.getElem?_toArray]; exact List.getElem?_eq_none (by omega)) hE
      exact wpAny_pyNext_enum_endD D' he ⟨rfl, hit, sq⟩ fun h' eb => ⟨rfl, I.turned (t' := s.toks) (fun b o hb q => eb b o hb q) f0 f1 f3 f4 f5⟩
  self := fun A i s Q E st h => by
    obtain ⟨⟨_, he⟩, _⟩ := st
    exact wpAny_pyIter_enum he h
def iEnumK (K : PySem.W.Frag) (ta : TA) : TI := fun σ H R => ta σ H fun vs H1 => ∃ k a xs, vs = [.ref a] ∧ SqK K k H1 a xs ∧ R (IteK K k a) H1
theorem pi_enumK {X : Cx} {e : Expr} {ta : TA} {p pos tpos : Pos} {elts : List Expr} {kk : Nat} (hg : Gl X "enumerate") (hm : X.mg "enumerate" = none) (ha : PA X [e] ta) (hs : starEach [e] X.env = [(false, eval e X.env)] := by rfl) :
    PI X (.Tuple elts kk tpos) (.Call (.Name "enumerate" p) [e] [] pos) (iEnumK X.K ta) := ⟨fun pins s σ H R I h => by
  refine Call_ (ld_blt I hg hm boot_enumerate (PyProof.Rows.callWith_type1 (thn (ha.run pos pins s σ H _ I h) ?_) hs rfl))
  rintro us s1 ⟨vs, H1, I1, r1, k, a, xs, rfl, hq, q⟩
  obtain ⟨u, rfl, ru⟩ := vals1 r1
  cases ru
  obtain ⟨its, rv, sq, hal⟩ := inv_sq I1 hq
  refine enum1 (begins_k k a its.toArray) sq fun h' he hit hk => wpAny_pyIter_enum he ?_
  have I2 : Inv X pins σ H1 { s1 with heap := h' } := I1.kept (t' := s1.toks) hk
  refine ⟨s1.heap.objs.size + 1, [s1.heap.objs.size + 1, s1.heap.objs.size], _, _, H1, rfl, I2, turn_enumK a (s1.heap.objs.size + 1) s1.heap.objs.size, ⟨⟨.none, he⟩, isIt_new hit, Nat.succ_ne_self _, Nat.ne_of_lt hal, Nat.ne_of_gt (Nat.lt_succ_of_lt hal)⟩, fun b hb => ?_, q⟩
  have hle : s1.heap.objs.size ≤ b := by
    rcases List.mem_cons.mp hb with z | hb
    · rw [z]; exact Nat.le_succ _
    · rw [List.mem_singleton.mp hb]; exact Nat.le_refl _
  exact I1.fpOk hle (I1.hok.fresh hle)⟩

/-! ### zip of two, each a list or a tuple -/
def ItzK (K : PySem.W.Frag) (k l : Bool) (a b : Addr) : It where
  go := fun i H => ∃ (xs ys : List V) (x y : V), SqK K k H a xs ∧ SqK K l H b ys ∧ xs[i]? = some x ∧ ys[i]? = some y
  yld := fun i H v H' => ∃ T x y, v = .ref T ∧ H T = none ∧ H' = upd H T (.tup [x, y]) ∧ (∀ xs, SqK K k H a xs → xs[i]? = some x) ∧ ∀ ys, SqK K l H b ys → ys[i]? = some y
  stop := fun i H => ∃ xs ys : List V, SqK K k H a xs ∧ SqK K l H b ys ∧ i ≤ xs.length ∧ i ≤ ys.length ∧ (i = xs.length ∨ i = ys.length)
theorem sep_ka {z TI TO i1 i2 a b : Addr} (S : ZipSep2 z TI TO i1 i2 [i1, a] [i2, b]) : a ≠ i2 ∧ b ≠ i1 ∧ i1 ≠ i2 := by
  refine ⟨fun e => S.sep2_1 (by simp [e]), fun e => S.sep1_2 (by simp [e]), fun e => S.sep1_2 (by simp [e])⟩
theorem turn_zipK {P : Program} {w : World} {K : PySem.W.Frag} {k l : Bool} {elts : List Expr} {kk : Nat} {tpos : Pos} {a b z TI TO i1 i2 : Addr} (S : ZipSep2 z TI TO i1 i2 [i1, a] [i2, b]) (na : a ≠ i1) (nb : b ≠ i2) :
    Turn P w K (.Tuple elts kk tpos) (ItzK K k l a b) [z, TI, TO, i1, i2] z (fun i h => IsZip h z TI TO .none ∧ IsTupOf2 h TI (.ref i1) (.ref i2) ∧ (∃ x y, IsTupOf2 h TO x y) ∧ IsIt k h i1 a i ∧ IsIt l h i2 b i) where
  mem := List.mem_cons_self ..
  obj := fun i h st c hc => by
    obtain ⟨hz, hTI, ⟨x, y, hTO⟩, h1, h2⟩ := st
    rcases List.mem_cons.mp hc with rfl | hc
    · exact ⟨_, hz, fun v q => nomatch q⟩
    rcases List.mem_cons.mp hc with rfl | hc
    · exact ⟨_, hTI, fun v q => nomatch q⟩
    rcases List.mem_cons.mp hc with rfl | hc
    · exact ⟨_, hTO, fun v q => nomatch q⟩
    rcases List.mem_cons.mp hc with rfl | hc
    · exact isIt_obj h1
    · rcases List.mem_singleton.mp hc with rfl
      exact isIt_obj h2
  keep := fun i h h' st kp => by
    obtain ⟨hz, hTI, ⟨x, y, hTO⟩, h1, h2⟩ := st
    exact ⟨kp z (by simp) _ hz, kp TI (by simp) _ hTI, ⟨x, y, kp TO (by simp) _ hTO⟩, isIt_at h1 fun o q => kp i1 (by simp) o q, isIt_at h2 fun o q => kp i2 (by simp) o q⟩
  item := by
    intro X hP hw hK hc i pins s σ H E I hf st hg
    subst hP hw hK
    obtain ⟨hz, hTI, ⟨x0, y0, hTO⟩, h1, h2⟩ := st
    obtain ⟨xs, ys, x, y, hqx, hqy, hx, hy⟩ := hg
    obtain ⟨its, rv, sq1, _⟩ := inv_sq I hqx
    obtain ⟨jts, rw, sq2, _⟩ := inv_sq I hqy
    obtain ⟨u, hu, ru⟩ := rv.get hx
    obtain ⟨t, ht, rt⟩ := rw.get hy
    have l1 : i < its.toArray.size := by
      rw [List.size_toArray]
      exact (List.getElem?_eq_some_iff.mp hu).1
    have l2 : i < jts.toArray.size := by
      rw [List.size_toArray]
      exact (List.getElem?_eq_some_iff.mp ht).1
    have zl : z < s.heap.objs.size := Heap.lt_size hz
    refine wpAny_pyNext_zipD2_item S (draws_k k (A := X.A.in1) (I.ok.hd hc) i1 a na its.toArray) (draws_k l (A := X.A.in1) (I.ok.hd hc) i2 b nb jts.toArray) hz hTI hTO ⟨h1, sq1⟩ ⟨h2, sq2⟩ l1 l2
      fun u' t' h' tk e1 e2 z' TO' st1 st2 hT hsz hk => ?_
    have eu : u' = u := by
      rw [List.getElem?_toArray, hu] at e1
      exact (Option.some.inj e1).symm
    have et : t' = t := by
      rw [List.getElem?_toArray, ht] at e2
      exact (Option.some.inj e2).symm
    subst eu et
    refine ⟨_, rfl, wpAny_letOwnedTupleGo_zip (s := { s with heap := h', toks := tk }) z' fun h'' z'' sb => ?_⟩
    have hT2 := (sb.2 _ (Nat.ne_of_gt zl)).trans hT
    have new : ObjOk X.prog X.w (upd H s.heap.objs.size (.tup [x, y])) h'' s.heap.objs.size (.tup [x, y]) :=
      ⟨by show 2 ≤ sizeLine; decide, [u', t'], .cons ru (.cons rt .nil), ⟨_, hT2, rfl, _, rfl⟩⟩
    have far : ∀ c, c ∉ [z, TI, TO, i1, i2] → c ≠ z ∧ c ≠ TO ∧ c ≠ i1 ∧ c ≠ i2 := fun c hb => ⟨fun q => hb (by simp [q]), fun q => hb (by simp [q]), fun q => hb (by simp [q]), fun q => hb (by simp [q])⟩
    have J := I.turnedNew (t' := tk) (ch := [z, TI, TO, i1, i2]) (fun c o hb q => (sb.2 c (far c hb).1).trans (hk c o (far c hb).1 (far c hb).2.1 (far c hb).2.2.1 (far c hb).2.2.2 q)) hf (Nat.le_refl _) new
    refine ⟨.ref s.heap.objs.size, _, J, rfl, ⟨_, x, y, rfl, I.hok.fresh (Nat.le_refl _), rfl, fun q hq => by rw [inv_sq_inj I hq hqx]; exact hx, fun q hq => by rw [inv_sq_inj I hq hqy]; exact hy⟩, ⟨z'', ?_, ⟨u', t', ?_⟩, ?_, ?_⟩, fun c hcm => ?_⟩
    · exact (sb.2 _ S.TIz).trans (hk _ _ S.TIz S.TITO S.TIi1 S.TIi2 hTI)
    · exact (sb.2 _ S.TOz).trans TO'
    · exact isIt_at st1.1 fun o q => (sb.2 _ (Ne.symm S.zi1)).trans q
    · exact isIt_at st2.1 fun o q => (sb.2 _ (Ne.symm S.zi2)).trans q
    · have old : ∃ o, s.heap.get? c = some o := by
        rcases List.mem_cons.mp hcm with q | hcm
        · exact ⟨_, q ▸ hz⟩
        rcases List.mem_cons.mp hcm with q | hcm
        · exact ⟨_, q ▸ hTI⟩
        rcases List.mem_cons.mp hcm with q | hcm
        · exact ⟨_, q ▸ hTO⟩
        rcases List.mem_cons.mp hcm with q | hcm
        · obtain ⟨o, e, _⟩ := isIt_obj h1
          exact ⟨o, q ▸ e⟩
        · obtain ⟨o, e, _⟩ := isIt_obj h2
          exact ⟨o, List.mem_singleton.mp hcm ▸ e⟩
      obtain ⟨o, eo⟩ := old
      rw [upd_ne (Nat.ne_of_lt (Heap.lt_size eo))]
      exact (hf c (by assumption)).1
  done := by
    intro X hP hw hK hc i pins s σ H E I hf st hg
    subst hP hw hK
    obtain ⟨hz, hTI, ⟨x0, y0, hTO⟩, h1, h2⟩ := st
    obtain ⟨xs, ys, hqx, hqy, b1, b2, hend⟩ := hg
    obtain ⟨its, rv, sq1, _⟩ := inv_sq I hqx
    obtain ⟨jts, rw, sq2, _⟩ := inv_sq I hqy
    have l1 := rv.length
    have l2 := rw.length
    refine wpAny_pyNext_zipD2_end S (draws_k k (A := X.A.in1) (I.ok.hd hc) i1 a na its.toArray) (draws_k l (A := X.A.in1) (I.ok.hd hc) i2 b nb jts.toArray) hz hTI hTO ⟨h1, sq1⟩ ⟨h2, sq2⟩
      (by rw [List.size_toArray]; omega) (by rw [List.size_toArray]; omega) (by rw [List.size_toArray, List.size_toArray]; omega) fun h' tk hk => ⟨rfl, I.turnedL (t' := tk) (ch := [z, TI, TO, i1, i2]) (fun c o hb q => ?_) hf⟩
    exact hk c o (fun q => hb (by simp [q])) (fun q => hb (by simp [q])) (fun q => hb (by simp [q])) (fun q => hb (by simp [q])) q
  self := fun A i s Q E st h => wpAny_pyIter_zip st.1 h
def iZipK (K : PySem.W.Frag) (ta : TA) : TI := fun σ H R => ta σ H fun vs H1 => ∃ k l a b xs ys, vs = [.ref a, .ref b] ∧ SqK K k H1 a xs ∧ SqK K l H1 b ys ∧ R (ItzK K k l a b) H1
theorem pi_zipK {X : Cx} {e e2 : Expr} {ta : TA} {p pos tpos : Pos} {elts : List Expr} {kk : Nat} (hg : Gl X "zip") (hm : X.mg "zip" = none) (ha : PA X [e, e2] ta)
    (hs : starEach [e, e2] X.env = (false, eval e X.env) :: starEach [e2] X.env := by rfl) (hpl : (backTo pos (starEach [e2] X.env)).any (·.1) = false := by rfl) :
    PI X (.Tuple elts kk tpos) (.Call (.Name "zip" p) [e, e2] [] pos) (iZipK X.K ta) := ⟨fun pins s σ H R I h => by
  refine Call_ (ld_blt I hg hm PyProof.Rows.boot_zip (PyProof.Rows.callWith_type1 (thn (ha.run pos pins s σ H _ I h) ?_) hs hpl))
  rintro us s1 ⟨vs, H1, I1, r1, k, l, a, b, xs, ys, rfl, hqx, hqy, q⟩
  obtain ⟨u1, u2, rfl, ru, ru2⟩ := vals2 r1
  cases ru
  cases ru2
  obtain ⟨its, rv, sq1, la⟩ := inv_sq I1 hqx
  obtain ⟨jts, rw, sq2, lb⟩ := inv_sq I1 hqy
  refine zip_begins2 (begins_k k a its.toArray) (begins_k l b jts.toArray) sq1 sq2 fun h' hz hTI hTO g1 g2 hsz hk => wpAny_pyIter_zip hz ?_
  have I2 : Inv X pins σ H1 { s1 with heap := h' } := I1.kept (t' := s1.toks) hk
  have S := zip_sep2 (N := s1.heap.objs.size) (fp1 := [a]) (fp2 := [b]) (fun c hc => by rw [List.mem_singleton.mp hc]; exact la) (fun c hc => by rw [List.mem_singleton.mp hc]; exact lb)
  refine ⟨s1.heap.objs.size + 4, [s1.heap.objs.size + 4, s1.heap.objs.size + 2, s1.heap.objs.size + 3, s1.heap.objs.size, s1.heap.objs.size + 1], _, _, H1, rfl, I2, turn_zipK S (Nat.ne_of_lt la) (Nat.ne_of_lt (Nat.lt_succ_of_lt lb)), ⟨hz, hTI, ⟨_, _, hTO⟩, isIt_new g1, isIt_new g2⟩, fun c hcm => ?_, q⟩
  have hle : s1.heap.objs.size ≤ c := by
    rcases List.mem_cons.mp hcm with z | hcm
    · rw [z]; exact Nat.le_add_right _ _
    rcases List.mem_cons.mp hcm with z | hcm
    · rw [z]; exact Nat.le_add_right _ _
    rcases List.mem_cons.mp hcm with z | hcm
    · rw [z]; exact Nat.le_add_right _ _
    rcases List.mem_cons.mp hcm with z | hcm
    · rw [z]; exact Nat.le_refl _
    · rw [List.mem_singleton.mp hcm]; exact Nat.le_add_right _ _
  exact I1.fpOk hle (I1.hok.fresh hle)⟩

/-! ### any of ints, index of ints -/
section
variable {X : Cx}
theorem any_rangeI : ∀ ns : List Int, (List.range ns.length).any (fun i => ns.getD i 0 != 0) = ns.any (· != 0)
  | [] => rfl
  | n :: ns => by
    have ih := any_rangeI ns
    rw [List.length_cons, List.range_succ_eq_map, List.any_cons, List.any_map, List.any_cons, ← ih]
    rfl
theorem vals_back : ∀ {xs : List V} {us : List Value} {i : Nat} {u : Value}, Vals xs us → us[i]? = some u → ∃ x, xs[i]? = some x ∧ RelV x u
  | _, _, _, _, .nil, h => by cases h
  | _, _, 0, _, .cons r _, h => by
    cases h
    exact ⟨_, rfl, r⟩
  | _, _, i + 1, _, .cons _ t, h => vals_back (i := i) t h
theorem truth_intsK {prog : Program} {w : World} {A : Around} {ns : List Int} {its : List Value} (e : Vals (ns.map V.int) its) : TruthOf prog w A (fun i v => its.toArray[i]? = some v) (fun i => ns.getD i 0 != 0) := fun i v s Q E hv hq => by
  have hv' : its[i]? = some v := by simpa using hv
  obtain ⟨x, hx, r⟩ := vals_back e hv'
  rw [List.getElem?_map] at hx
  obtain ⟨n, hn, rfl⟩ := Option.map_eq_some_iff.mp hx
  obtain ⟨t, rfl⟩ := r
  have hq2 : Q (ns.getD i 0 != 0) s := hq
  rw [List.getD_eq_getElem?_getD, hn] at hq2
  exact truthy_int hq2
def rAnyI (K : PySem.W.Frag) : List V → Hp → VK → Prop := fun vs H Q => ∃ (a : Addr) (ns : List Int), vs = [V.ref a] ∧ SqL K H a (ns.map V.int) ∧ Q (.bl (ns.any (· != 0))) H
theorem cr_anyI (hc : X.calm = true) : CallR X (.builtin "any") (rAnyI X.K) := by
  rintro pins s σ H vs us Q I r ⟨a, ns, rfl, hs, q⟩
  obtain ⟨its, rv, hl, _⟩ := I.list hs
  rw [Vals.ref1 r]
  refine call_any_walk (iter_any hl.isList fun s2 e2 st hne => ?_)
  subst e2
  refine ⟨_, _, _, _, _, _, _, rfl, Walks.list (A := X.A.in1) (I.ok.hd hc) _ a hne its.toArray, st, truth_intsK rv, fun h' tk hk => ?_⟩
  have el : its.toArray.size = ns.length := by
    rw [List.size_toArray, ← rv.length, List.length_map]
  refine ⟨.bl _, H, I.kept (t' := tk) fun b o eo => hk b o (fun hm => ?_) (Heap.get?_push_of_some _ eo), ?_, q⟩
  · rw [List.mem_singleton.mp hm] at eo
    exact absurd (Heap.lt_size eo) (Nat.lt_irrefl _)
  · show Value.bool _ = Value.bool _
    rw [el, any_rangeI]
/-- the first place -/
def rIdxL (K : PySem.W.Frag) : V → List V → Hp → VK → Prop := fun x xs H Q => ∃ (a : Addr) (ns : List Int) (k : Int), x = .ref a ∧ xs = [.int k] ∧ SqL K H a (ns.map V.int) ∧ k ∈ ns ∧ Q (.int (ns.idxOf k : Nat)) H
theorem mt_idxL : MtR X "list.index" (rIdxL X.K) := by
  rintro pins s σ H x xs v us Q I rx rs ⟨a, ns, k, rfl, rfl, hs, hk, q⟩
  obtain ⟨its, rv, hl, hz⟩ := I.list hs
  cases rx
  obtain ⟨u, rfl, t, rfl⟩ := vals1 rs
  rw [List.length_map] at hz
  exact PySem.SeqAt.list_index_ints hl.isList rv.ints hz hk ⟨.int _, H, I.tok _, ⟨_, rfl⟩, q⟩
def tIdxT (te ti : TE) : TE := fun σ H Q => te σ H fun x H1 => ∃ (a : Addr) (o : Obj) (ns : List Int), x = .ref a ∧ o.dict = none ∧ H1 a = some (.frz o (.tup (ns.map V.int))) ∧ ti σ H1 fun y H2 => ∃ k, [y] = [V.int k] ∧ k ∈ ns ∧ H2 a = some (.frz o (.tup (ns.map V.int))) ∧ Q (.int (ns.idxOf k : Nat)) H2
theorem pe_idxT {o e : Expr} {to te : TE} {apos cpos : Pos} (ho : PE X o to) (he : PE X e te)
    (hbase : attributeBase o "index" X.env (eval o X.env) = eval o X.env := by rfl)
    (hfew : ((backTo cpos (starEach [e] X.env)).all (fun x => !x.1) && (backToKw cpos (keywordEach [] X.env)).all (fun x => x.1.isSome) && decide ([e].length + ([] : List Keyword).length + (if ([] : List Keyword).isEmpty then 0 else 1) < 30)) = true := by rfl)
    (hline : (apos.endLine == cpos.line) = true := by rfl) (hs : starEach [e] X.env = (false, eval e X.env) :: starEach [] X.env := by rfl) (hplain : (backTo cpos (starEach [] X.env)).any (·.1) = false := by rfl) :
    PE X (.Call (.Attribute o "index" apos) [e] [] cpos) (tIdxT to te) := ⟨fun pins s σ H Q I h => by
  refine wpAny_Call_method_late hbase hfew hline rfl (thn (ho.run pins s σ H _ I h) ?_)
  rintro v s1 ⟨x, H1, I1, r1, a, ob, ns, rfl, hd, hH, q1⟩
  cases r1
  obtain ⟨g1, _, its, rv, pt⟩ := I1.hok a _ hH
  refine ⟨"tuple", _, PySem.F.plainAttrs_tuple, PySem.F.slot_tuple_index, PySem.F.type_tuple_index, pt.typeIs, fun b eb => ?_, ?_⟩
  · cases eb
    exact ⟨ob, g1, hd⟩
  · have ha := (pa_cons he pa_nil hs).run cpos pins s1 σ H1 (fun vs H2 => ∃ k, vs = [V.int k] ∧ k ∈ ns ∧ H2 a = some (.frz ob (.tup (ns.map V.int))) ∧ Q (.int (ns.idxOf k : Nat)) H2) I1 q1
    · rw [hs] at ha ⊢
      refine Calls.callWith_builtin (by show (false || (backTo cpos (starEach [] X.env)).any (·.1)) = false; rw [hplain]; rfl) (Calls.evalArgs_plain (thn ha ?_))
      rintro us s2 ⟨vs, H2, I2, r2, k, rfl, hk, hH2, q2⟩
      obtain ⟨u, rfl, t, rfl⟩ := vals1 r2
      obtain ⟨_, _, jts, rw, pt2⟩ := I2.hok a _ hH2
      exact PySem.SeqAt.tuple_index_ints (show s2.heap.IsTuple a jts.toArray from pt2) rw.ints hk ⟨.int _, H2, I2.tok _, ⟨_, rfl⟩, q2⟩⟩
end
end K39
end
section
set_option maxRecDepth 100000
set_option autoImplicit false
/-! S1: data, what stands for what, the canonical readings -/
namespace K39
open PySem PySem.Spec PyProof.Rows L2

inductive D where
  | non
  | bl (b : Bool)
  | int (i : Int)
  | tup (xs : List D)
  | lst (xs : List D)
  | scr (ns : List Int)
  | obj (xs : List D)
  | hand

def attrs : List Str := ["prime", "modulus", "degree", "size", "digit_rows", "sum_rows", "product_rows", "negatives", "inverses", "step_row"]

/-- what is fixed: the written part, the class Field, the hand (if there is one) -/
structure Gh where
  K : PySem.W.Frag
  C : Addr
  hd : Option Addr

mutual
def Rep (g : Gh) (S : Hp) : D → V → Prop
  | .non, v => v = .non
  | .bl b, v => v = .bl b
  | .int i, v => v = .int i
  | .tup ds, v => ∃ a vs o, v = .ref a ∧ o.dict = none ∧ S a = some (.frz o (.tup vs)) ∧ RepL g S ds vs
  | .lst ds, v => ∃ a vs, v = .ref a ∧ S a = some (.lst vs) ∧ RepL g S ds vs
  | .scr ns, v => ∃ a, v = .ref a ∧ SqL g.K S a (ns.map V.int)
  | .obj ds, v => ∃ a dx vs, v = .ref a ∧ S a = some (.ins g.C dx (attrs.zip vs)) ∧ ds.length ≤ 10 ∧ RepL g S ds vs
  | .hand, v => ∃ a, g.hd = some a ∧ v = .ref a
def RepL (g : Gh) (S : Hp) : List D → List V → Prop
  | [], vs => vs = []
  | d :: ds, vs => ∃ v r, vs = v :: r ∧ Rep g S d v ∧ RepL g S ds r
end

variable {g : Gh} {S H S' H' S2 H2 : Hp}

mutual
theorem Rep.mono (e : Same S S') : ∀ (d : D) (v : V), Rep g S d v → Rep g S' d v
  | .non, _, h => h
  | .bl _, _, h => h
  | .int _, _, h => h
  | .tup ds, _, h => by
    obtain ⟨a, vs, o, r, h0, h1, h2⟩ := h
    exact ⟨a, vs, o, r, h0, e _ _ h1, RepL.mono e ds vs h2⟩
  | .lst ds, _, h => by
    obtain ⟨a, vs, r, h1, h2⟩ := h
    exact ⟨a, vs, r, e _ _ h1, RepL.mono e ds vs h2⟩
  | .scr ns, _, h => by
    obtain ⟨a, r, h1⟩ := h
    exact ⟨a, r, e.seq h1⟩
  | .obj ds, _, h => by
    obtain ⟨a, dx, vs, r, h1, hl, h2⟩ := h
    exact ⟨a, dx, vs, r, e _ _ h1, hl, RepL.mono e ds vs h2⟩
  | .hand, _, h => h
theorem RepL.mono (e : Same S S') : ∀ (ds : List D) (vs : List V), RepL g S ds vs → RepL g S' ds vs
  | [], _, h => h
  | d :: ds, _, h => by
    obtain ⟨v, r, rfl, h1, h2⟩ := h
    exact ⟨v, r, rfl, Rep.mono e d v h1, RepL.mono e ds r h2⟩
end

theorem RepL.len : ∀ {ds : List D} {vs : List V}, RepL g S ds vs → vs.length = ds.length
  | [], _, h => by
    have e : _ = ([] : List V) := h
    rw [e]
    rfl
  | d :: ds, _, h => by
    obtain ⟨v, r, rfl, h1, h2⟩ := h
    rw [List.length_cons, List.length_cons, h2.len]
theorem RepL.get : ∀ {ds : List D} {vs : List V} {i : Nat} {d : D}, RepL g S ds vs → ds[i]? = some d → ∃ v, vs[i]? = some v ∧ Rep g S d v
  | [], _, _, _, _, e => by cases e
  | d :: ds, _, 0, _, h, e => by
    obtain ⟨v, r, rfl, h1, h2⟩ := h
    cases e
    exact ⟨v, rfl, h1⟩
  | d :: ds, _, i + 1, _, h, e => by
    obtain ⟨v, r, rfl, h1, h2⟩ := h
    exact h2.get (i := i) e
theorem RepL.get' : ∀ {ds : List D} {vs : List V} {i : Nat} {v : V}, RepL g S ds vs → vs[i]? = some v → ∃ d, ds[i]? = some d ∧ Rep g S d v
  | [], _, _, _, h, e => by
    have q : _ = ([] : List V) := h
    rw [q] at e
    cases e
  | d :: ds, _, 0, _, h, e => by
    obtain ⟨v, r, rfl, h1, h2⟩ := h
    cases e
    exact ⟨d, rfl, h1⟩
  | d :: ds, _, i + 1, _, h, e => by
    obtain ⟨v, r, rfl, h1, h2⟩ := h
    exact h2.get' (i := i) e
theorem RepL.app : ∀ {ds es : List D} {vs us : List V}, RepL g S ds vs → RepL g S es us → RepL g S (ds ++ es) (vs ++ us)
  | [], _, _, _, h, k => by
    have e : _ = ([] : List V) := h
    rw [e]
    exact k
  | d :: ds, _, _, _, h, k => by
    obtain ⟨v, r, rfl, h1, h2⟩ := h
    exact ⟨v, r ++ _, rfl, h1, h2.app k⟩
theorem RepL.one {d : D} {v : V} (h : Rep g S d v) : RepL g S [d] [v] := ⟨v, [], rfl, h, rfl⟩
theorem RepL.drop : ∀ {ds : List D} {vs : List V} (n : Nat), RepL g S ds vs → RepL g S (ds.drop n) (vs.drop n)
  | _, _, 0, h => h
  | [], _, n + 1, h => by
    have e : _ = ([] : List V) := h
    rw [e]
    rfl
  | d :: ds, _, n + 1, h => by
    obtain ⟨v, r, rfl, h1, h2⟩ := h
    exact h2.drop n
theorem RepL.take : ∀ {ds : List D} {vs : List V} (n : Nat), RepL g S ds vs → RepL g S (ds.take n) (vs.take n)
  | _, _, 0, _ => by
    rw [List.take_zero, List.take_zero]
    rfl
  | [], _, n + 1, h => by
    have e : _ = ([] : List V) := h
    rw [e]
    rfl
  | d :: ds, _, n + 1, h => by
    obtain ⟨v, r, rfl, h1, h2⟩ := h
    exact ⟨v, r.take n, rfl, h1, h2.take n⟩
theorem RepL.set {d : D} {v : V} (k : Rep g S d v) : ∀ {ds : List D} {vs : List V} (i : Nat), RepL g S ds vs → RepL g S (ds.set i d) (vs.set i v)
  | [], _, _, h => by
    have e : _ = ([] : List V) := h
    rw [e]
    rfl
  | _ :: ds, _, 0, h => by
    obtain ⟨u, r, rfl, h1, h2⟩ := h
    exact ⟨v, r, rfl, k, h2⟩
  | _ :: ds, _, i + 1, h => by
    obtain ⟨u, r, rfl, h1, h2⟩ := h
    exact ⟨u, r.set i v, rfl, h1, h2.set k i⟩
theorem RepL.erase : ∀ {ds : List D} {vs : List V} (i : Nat), RepL g S ds vs → RepL g S (ds.eraseIdx i) (vs.eraseIdx i)
  | [], _, _, h => by
    have e : _ = ([] : List V) := h
    rw [e]
    rfl
  | _ :: ds, _, 0, h => by
    obtain ⟨u, r, rfl, h1, h2⟩ := h
    exact h2
  | _ :: ds, _, i + 1, h => by
    obtain ⟨u, r, rfl, h1, h2⟩ := h
    exact ⟨u, r.eraseIdx i, rfl, h1, h2.erase i⟩
theorem RepL.rev : ∀ {ds : List D} {vs : List V}, RepL g S ds vs → RepL g S ds.reverse vs.reverse
  | [], _, h => by
    have e : _ = ([] : List V) := h
    rw [e]
    rfl
  | d :: ds, _, h => by
    obtain ⟨u, r, rfl, h1, h2⟩ := h
    rw [List.reverse_cons, List.reverse_cons]
    exact h2.rev.app (.one h1)
theorem RepL.rep {d : D} {v : V} (k : Rep g S d v) : ∀ n : Nat, RepL g S (List.replicate n d) (List.replicate n v)
  | 0 => rfl
  | n + 1 => ⟨v, List.replicate n v, rfl, k, RepL.rep k n⟩

/-- ints -/
def dI (ns : List Int) : List D := ns.map D.int
theorem RepL.ofI : ∀ {ns : List Int} {vs : List V}, RepL g S (dI ns) vs → vs = ns.map V.int
  | [], _, h => h
  | n :: ns, _, h => by
    obtain ⟨v, r, rfl, h1, h2⟩ := h
    have e : v = V.int n := h1
    rw [e, RepL.ofI (ns := ns) h2]
    rfl
theorem RepL.toI : ∀ (ns : List Int), RepL g S (dI ns) (ns.map V.int)
  | [] => rfl
  | n :: ns => ⟨V.int n, ns.map V.int, rfl, rfl, RepL.toI ns⟩
/-- the ints of a list of data, if they are all ints -/
def unInts : List D → Option (List Int)
  | [] => some []
  | .int i :: ds => (unInts ds).map (i :: ·)
  | _ :: _ => none
theorem unInts_ok : ∀ {ds : List D} {ns : List Int}, unInts ds = some ns → ds = dI ns
  | [], ns, h => by
    cases h
    rfl
  | .int i :: ds, ns, h => by
    have h2 : (unInts ds).map (i :: ·) = some ns := h
    cases e : unInts ds with
    | none =>
      rw [e] at h2
      cases h2
    | some ms =>
      rw [e] at h2
      cases h2
      rw [unInts_ok e]
      rfl
  | .non :: _, _, h => by cases h
  | .bl _ :: _, _, h => by cases h
  | .tup _ :: _, _, h => by cases h
  | .lst _ :: _, _, h => by cases h
  | .scr _ :: _, _, h => by cases h
  | .obj _ :: _, _, h => by cases h
  | .hand :: _, _, h => by cases h
theorem unInts_ints : ∀ ns : List Int, unInts (dI ns) = some ns
  | [] => rfl
  | n :: ns => by
    show (unInts (dI ns)).map (n :: ·) = _
    rw [unInts_ints ns]
    rfl

/-! ### steps -/
/-- S the stable part, H all that is tracked -/
structure Step (hd : Option Addr) (S H S' H' : Hp) : Prop where
  ss : Same S S'
  sh : Same S' H'
  kp : ∀ a o, H a = some o → hd ≠ some a → H' a = some o
  tr : ∀ a o, H a = some o → ∃ o', H' a = some o'
  un : ∀ a o, H a = some o → S a = none → S' a = none
theorem Step.refl {hd : Option Addr} (h : Same S H) : Step hd S H S H := ⟨.refl _, h, fun _ _ e _ => e, fun _ o e => ⟨o, e⟩, fun _ _ _ e => e⟩
theorem Step.trans {hd : Option Addr} (a : Step hd S H S' H') (b : Step hd S' H' S2 H2) : Step hd S H S2 H2 :=
  ⟨a.ss.trans b.ss, b.sh, fun x o e ne => b.kp x o (a.kp x o e ne) ne, fun x o e => let ⟨o', e'⟩ := a.tr x o e; b.tr x o' e', fun x o e ne => let ⟨o', e'⟩ := a.tr x o e; b.un x o' e' (a.un x o e ne)⟩
theorem Step.any {hd : Option Addr} (a : Step none S H S' H') : Step hd S H S' H' := ⟨a.ss, a.sh, fun x o e _ => a.kp x o e (fun z => nomatch z), a.tr, a.un⟩
theorem free_S (h : Same S H) {p : Addr} (hp : H p = none) : S p = none := h.free hp
/-- a new object, not yet stable -/
theorem Step.new {p : Addr} {o : HO} (h : Same S H) (hp : H p = none) : Step none S H S (upd H p o) :=
  ⟨.refl _, fun a u e => by rw [upd_ne (ne_of_none (h a u e) hp)]; exact h a u e, fun a u e _ => by rw [upd_ne (ne_of_none e hp)]; exact e,
    fun a u e => ⟨u, by rw [upd_ne (ne_of_none e hp)]; exact e⟩, fun _ _ _ e => e⟩
/-- a new object, stable -/
theorem Step.lay {p : Addr} {o : HO} (h : Same S H) (hp : H p = none) : Step none S H (upd S p o) (upd H p o) :=
  ⟨fun a u e => by rw [upd_ne (ne_of_none e (free_S h hp))]; exact e, fun a u e => by
    by_cases q : a = p
    · subst q
      rw [upd_same] at e ⊢
      exact e
    · rw [upd_ne q] at e ⊢
      exact h a u e, fun a u e _ => by rw [upd_ne (ne_of_none e hp)]; exact e,
    fun a u e => ⟨u, by rw [upd_ne (ne_of_none e hp)]; exact e⟩, fun a u e n => by rw [upd_ne (ne_of_none e hp)]; exact n⟩
/-- a fresh object becomes stable -/
theorem Step.fix {hd : Option Addr} {p : Addr} {o : HO} (s : Step hd S H S' H') (h : Same S H) (hp : H p = none) (q : S' p = none) (h' : H' p = some o) : Step hd S H (upd S' p o) H' :=
  ⟨fun a u e => by
    rw [upd_ne (ne_of_none (s.ss a u e) q)]
    exact s.ss a u e, fun a u e => by
    by_cases z : a = p
    · subst z
      rw [upd_same] at e
      cases e
      exact h'
    · rw [upd_ne z] at e
      exact s.sh a u e, s.kp, s.tr, fun a u e n => by rw [upd_ne (ne_of_none e hp)]; exact s.un a u e n⟩
end K39
end
section
set_option maxRecDepth 100000
set_option autoImplicit false
/-! S2: environments, the canonical readings, expressions -/
namespace K39
open PySem PySem.Spec PyProof.Rows L2

/-- a slot: nothing is known; data; a list of this frame's own, changed in place -/
inductive Sl where
  | no
  | val (d : D)
  | own (ds : List D)
abbrev En := List Sl
abbrev Wd := List D

structure EnOk (g : Gh) (S H : Hp) (σ : L2.St) (ρ : En) : Prop where
  len : σ.length = ρ.length
  val : ∀ (i : Nat) d, ρ[i]? = some (Sl.val d) → ∃ v, σ[i]? = some (some v) ∧ Rep g S d v
  own : ∀ (i : Nat) ds, ρ[i]? = some (Sl.own ds) → ∃ a vs, σ[i]? = some (some (V.ref a)) ∧ g.hd ≠ some a ∧ S a = none ∧ H a = some (.lst vs) ∧ RepL g S ds vs
  sep : ∀ (i j : Nat) ds es a, ρ[i]? = some (Sl.own ds) → ρ[j]? = some (Sl.own es) → σ[i]? = some (some (V.ref a)) → σ[j]? = some (some (V.ref a)) → i = j
def HandOk (g : Gh) (S H : Hp) (w : Wd) : Prop := ∀ h, g.hd = some h → S h = none ∧ ∃ vs, H h = some (.lst vs) ∧ RepL g S w vs
structure Ok (g : Gh) (S H : Hp) (σ : L2.St) (ρ : En) (w : Wd) : Prop where
  sm : Same S H
  en : EnOk g S H σ ρ
  hn : HandOk g S H w
variable {g : Gh} {S H S' H' S2 H2 : Hp} {σ : L2.St} {ρ : En} {w w' : Wd}
theorem EnOk.step (h : EnOk g S H σ ρ) (s : Step g.hd S H S' H') : EnOk g S' H' σ ρ where
  len := h.len
  val := fun i d e => let ⟨v, h1, h2⟩ := h.val i d e; ⟨v, h1, h2.mono s.ss⟩
  own := fun i ds e => by
    obtain ⟨a, vs, h1, h2, h3, h4, h5⟩ := h.own i ds e
    exact ⟨a, vs, h1, h2, s.un a _ h4 h3, s.kp a _ h4 h2, RepL.mono s.ss _ _ h5⟩
  sep := h.sep
theorem HandOk.pure (h : HandOk g S H w) (s : Step none S H S' H') : HandOk g S' H' w := fun a e => by
  obtain ⟨h1, vs, h2, h3⟩ := h a e
  exact ⟨s.un a _ h2 h1, vs, s.kp a _ h2 (fun z => nomatch z), RepL.mono s.ss _ _ h3⟩
theorem Ok.step (h : Ok g S H σ ρ w) (s : Step g.hd S H S' H') (k : HandOk g S' H' w') : Ok g S' H' σ ρ w' := ⟨s.sh, h.en.step s, k⟩
theorem Ok.pure (h : Ok g S H σ ρ w) (s : Step none S H S' H') : Ok g S' H' σ ρ w := h.step s.any (h.hn.pure s)

/-- a value that stands for d: stable, or a list of the frame's own -/
def RepB (g : Gh) (S H : Hp) (d : D) (v : V) : Prop := Rep g S d v ∨ ∃ ds a vs, d = .lst ds ∧ v = .ref a ∧ g.hd ≠ some a ∧ H a = some (.lst vs) ∧ RepL g S ds vs
theorem RepB.step {d : D} {v : V} (h : RepB g S H d v) (s : Step g.hd S H S' H') : RepB g S' H' d v := by
  rcases h with h | ⟨ds, a, vs, h1, h2, h3, h4, h5⟩
  · exact .inl (h.mono s.ss)
  · exact .inr ⟨ds, a, vs, h1, h2, h3, s.kp a _ h4 h3, RepL.mono s.ss _ _ h5⟩
theorem RepB.int {i : Int} {v : V} (h : RepB g S H (.int i) v) : v = .int i := by
  rcases h with h | ⟨_, _, _, h, _⟩
  · exact h
  · cases h
theorem RepB.bl {b : Bool} {v : V} (h : RepB g S H (.bl b) v) : v = .bl b := by
  rcases h with h | ⟨_, _, _, h, _⟩
  · exact h
  · cases h
theorem RepB.non {v : V} (h : RepB g S H .non v) : v = .non := by
  rcases h with h | ⟨_, _, _, h, _⟩
  · exact h
  · cases h
theorem RepB.lst {ds : List D} {v : V} (h : RepB g S H (.lst ds) v) (m : Same S H) : ∃ a vs, v = .ref a ∧ H a = some (.lst vs) ∧ RepL g S ds vs := by
  rcases h with ⟨a, vs, h1, h2, h3⟩ | ⟨es, a, vs, h1, h2, h3, h4, h5⟩
  · exact ⟨a, vs, h1, m _ _ h2, h3⟩
  · cases h1
    exact ⟨a, vs, h2, h4, h5⟩
theorem sqt_of {K : PySem.W.Frag} {H : Hp} {a : Addr} {o : Obj} {xs : List V} (h : H a = some (.frz o (.tup xs))) : SqT K H a xs := .inl (.inr ⟨o, h⟩)
theorem RepB.tup {ds : List D} {v : V} (h : RepB g S H (.tup ds) v) (m : Same S H) : ∃ a vs o, v = .ref a ∧ o.dict = none ∧ S a = some (.frz o (.tup vs)) ∧ H a = some (.frz o (.tup vs)) ∧ RepL g S ds vs := by
  rcases h with ⟨a, vs, o, h1, h0, h2, h3⟩ | ⟨es, a, vs, h1, _⟩
  · exact ⟨a, vs, o, h1, h0, h2, m _ _ h2, h3⟩
  · cases h1
theorem RepB.lstI {ns : List Int} {v : V} (h : RepB g S H (.lst (dI ns)) v) (m : Same S H) : ∃ a, v = .ref a ∧ H a = some (.lst (ns.map V.int)) := by
  obtain ⟨a, vs, h1, h2, h3⟩ := h.lst m
  rw [h3.ofI] at h2
  exact ⟨a, h1, h2⟩
theorem RepB.tupI {K : PySem.W.Frag} {ns : List Int} {v : V} (h : RepB g S H (.tup (dI ns)) v) (m : Same S H) : ∃ a, v = .ref a ∧ SqT K H a (ns.map V.int) := by
  obtain ⟨a, vs, o, h1, _, _, h2, h3⟩ := h.tup m
  rw [h3.ofI] at h2
  exact ⟨a, h1, sqt_of h2⟩

/-! ### canonical readings -/
abbrev FE := En → Wd → Option (D × Wd)
abbrev FL := En → Wd → Option (List D × Wd)
abbrev FT := En → Wd → Option (Bool × Wd)
section
variable (K : PySem.W.Frag) (C : Addr)
def canE (f : FE) : TE := fun σ H Q => ∃ hd S ρ w d w', Ok ⟨K, C, hd⟩ S H σ ρ w ∧ f ρ w = some (d, w') ∧ ∀ v S' H', Step hd S H S' H' → HandOk ⟨K, C, hd⟩ S' H' w' → Rep ⟨K, C, hd⟩ S' d v → Q v H'
def canB (f : FE) : TE := fun σ H Q => ∃ hd S ρ w d w', Ok ⟨K, C, hd⟩ S H σ ρ w ∧ f ρ w = some (d, w') ∧ ∀ v S' H', Step hd S H S' H' → HandOk ⟨K, C, hd⟩ S' H' w' → RepB ⟨K, C, hd⟩ S' H' d v → Q v H'
/-- a new list, not yet stable -/
def canL (f : FL) : TE := fun σ H Q => ∃ hd S ρ w ds w', Ok ⟨K, C, hd⟩ S H σ ρ w ∧ f ρ w = some (ds, w') ∧ ∀ p vs S' H', Step hd S H S' H' → HandOk ⟨K, C, hd⟩ S' H' w' → H p = none → S' p = none → H' p = some (.lst vs) → RepL ⟨K, C, hd⟩ S' ds vs → Q (.ref p) H'
def canA (f : FL) : TA := fun σ H Q => ∃ hd S ρ w ds w', Ok ⟨K, C, hd⟩ S H σ ρ w ∧ f ρ w = some (ds, w') ∧ ∀ vs S' H', Step hd S H S' H' → HandOk ⟨K, C, hd⟩ S' H' w' → RepL ⟨K, C, hd⟩ S' ds vs → Q vs H'
def canT (f : FT) : TT := fun σ H Q => ∃ hd S ρ w b w', Ok ⟨K, C, hd⟩ S H σ ρ w ∧ f ρ w = some (b, w') ∧ ∀ S' H', Step hd S H S' H' → HandOk ⟨K, C, hd⟩ S' H' w' → Q b H'
end
abbrev CE (C : Addr) (X : Cx) (e : Expr) (f : FE) : Prop := PE X e (canE X.K C f)
abbrev CB (C : Addr) (X : Cx) (e : Expr) (f : FE) : Prop := PE X e (canB X.K C f)
abbrev CL (C : Addr) (X : Cx) (e : Expr) (f : FL) : Prop := PE X e (canL X.K C f)
abbrev CA (C : Addr) (X : Cx) (es : List Expr) (f : FL) : Prop := PA X es (canA X.K C f)
abbrev CT (C : Addr) (X : Cx) (e : Expr) (f : FT) : Prop := PT X e (canT X.K C f)
theorem pe_imp {X : Cx} {e : Expr} {t t' : TE} (h : PE X e t) (k : ∀ σ H Q, t' σ H Q → t σ H Q) : PE X e t' := ⟨fun pins s σ H Q I q => h.run pins s σ H Q I (k σ H Q q)⟩
theorem pt_imp {X : Cx} {e : Expr} {t t' : TT} (h : PT X e t) (k : ∀ σ H Q, t' σ H Q → t σ H Q) : PT X e t' := ⟨fun pins s σ H Q I q => h.run pins s σ H Q I (k σ H Q q)⟩
theorem pa_imp {X : Cx} {es : List Expr} {t t' : TA} (h : PA X es t) (k : ∀ σ H Q, t' σ H Q → t σ H Q) : PA X es t' := ⟨fun pos pins s σ H Q I q => h.run pos pins s σ H Q I (k σ H Q q)⟩
def asE (f : FL) : FE := fun ρ w => (f ρ w).map fun r => (.lst r.1, r.2)

section
variable {X : Cx} {C : Addr} {e e1 e2 e3 : Expr} {es : List Expr} {f f1 f2 f3 : FE} {fl : FL} {ft ft1 ft2 : FT} {pos p : Pos}
/-- a stable value may be borrowed -/
theorem CE.toB (h : CE C X e f) : CB C X e f := pe_imp h fun σ H Q ⟨hd, S, ρ, w, d, w', ok, hf, k⟩ => ⟨hd, S, ρ, w, d, w', ok, hf, fun v S' H' s hn r => k v S' H' s hn (.inl r)⟩
/-- a new list becomes stable -/
theorem asE_down {K : PySem.W.Frag} {C : Addr} {fl : FL} : ∀ σ H Q, canE K C (asE fl) σ H Q → canL K C fl σ H Q := fun σ H Q ⟨hd, S, ρ, w, d, w', ok, hf, k⟩ => by
  unfold asE at hf
  cases e : fl ρ w with
  | none =>
    rw [e] at hf
    cases hf
  | some r =>
    obtain ⟨ds, w2⟩ := r
    rw [e] at hf
    cases hf
    refine ⟨hd, S, ρ, w, ds, w2, ok, e, fun p vs S' H' s hn hp hq h' r => ?_⟩
    have s2 := s.fix ok.sm hp hq h'
    have ss : Same S' (upd S' p (.lst vs)) := Same.trans (fun a u z => by rw [upd_ne (ne_of_none z hq)]; exact z) (.refl _)
    refine k (.ref p) (upd S' p (.lst vs)) H' s2 (fun a ea => ?_) ⟨p, vs, rfl, upd_same, RepL.mono ss _ _ r⟩
    obtain ⟨h1, us, h2, h3⟩ := hn a ea
    obtain ⟨h4, us2, h5, h6⟩ := ok.hn a ea
    have ne : a ≠ p := fun z => by
      rw [z, hp] at h5
      cases h5
    exact ⟨by rw [upd_ne ne]; exact h1, us, h2, RepL.mono ss _ _ h3⟩
theorem CL.toE (h : CL C X e fl) : CE C X e (asE fl) := pe_imp h asE_down
theorem CL.toB (h : CL C X e fl) : CB C X e (asE fl) := h.toE.toB

/-! ### names, constants -/
def fVar (i : Nat) : FE := fun ρ w => match ρ[i]? with
  | some (.val d) => some (d, w)
  | _ => none
def fVarB (i : Nat) : FE := fun ρ w => match ρ[i]? with
  | some (.val d) => some (d, w)
  | some (.own ds) => some (.lst ds, w)
  | _ => none
theorem ce_var (i : Nat) {x : Str} (h : PE X (.Name x pos) (tVar i)) : CE C X (.Name x pos) (fVar i) := pe_imp h fun σ H Q ⟨hd, S, ρ, w, d, w', ok, hf, k⟩ => by
  unfold fVar at hf
  split at hf
  · rename_i d0 e0
    cases hf
    obtain ⟨v, h1, h2⟩ := ok.en.val i _ e0
    exact ⟨v, h1, k v S H (.refl ok.sm) ok.hn h2⟩
  · cases hf
theorem cb_var (i : Nat) {x : Str} (h : PE X (.Name x pos) (tVar i)) : CB C X (.Name x pos) (fVarB i) := pe_imp h fun σ H Q ⟨hd, S, ρ, w, d, w', ok, hf, k⟩ => by
  unfold fVarB at hf
  split at hf
  · rename_i d0 e0
    cases hf
    obtain ⟨v, h1, h2⟩ := ok.en.val i _ e0
    exact ⟨v, h1, k v S H (.refl ok.sm) ok.hn (.inl h2)⟩
  · rename_i ds e0
    cases hf
    obtain ⟨a, vs, h1, h2, h3, h4, h5⟩ := ok.en.own i _ e0
    exact ⟨.ref a, h1, k _ S H (.refl ok.sm) ok.hn (.inr ⟨ds, a, vs, rfl, rfl, h2, h4, h5⟩)⟩
  · cases hf
def fC (d : D) : FE := fun _ w => some (d, w)
theorem ce_const {v : V} {d : D} (h : PE X e (tC v)) (r : ∀ g S, Rep g S d v) : CE C X e (fC d) := pe_imp h fun σ H Q ⟨hd, S, ρ, w, d', w', ok, hf, k⟩ => by
  cases hf
  exact k v S H (.refl ok.sm) ok.hn (r _ _)
theorem ce_int {i : Int} {j : Nat} : CE C X (.Constant (.int i) j pos) (fC (.int i)) := ce_const pe_int fun _ _ => rfl
theorem ce_bl {b : Bool} {j : Nat} : CE C X (.Constant (.bool b) j pos) (fC (.bl b)) := ce_const pe_bl fun _ _ => rfl
theorem ce_non {j : Nat} : CE C X (.Constant .none j pos) (fC .non) := ce_const pe_non fun _ _ => rfl
def fNever : FE := fun _ _ => none
theorem ce_never (h : PE X e (fun _ _ _ => False)) : CE C X e fNever := pe_imp h fun σ H Q ⟨hd, S, ρ, w, d', w', ok, hf, k⟩ => by cases hf

/-! ### operators -/
def OpV (K : PySem.W.Frag) (C : Addr) (r : R2) (op : D → D → Option D) : Prop := ∀ (hd : Option Addr) (S H : Hp) (x y : D) (v u : V) (d : D), Same S H → op x y = some d → RepB ⟨K, C, hd⟩ S H x v → RepB ⟨K, C, hd⟩ S H y u →
  ∀ Q : VK, (∀ z S' H', Step none S H S' H' → Rep ⟨K, C, hd⟩ S' d z → Q z H') → r v u H Q
/-- .. whose result is a new list -/
def OpN (K : PySem.W.Frag) (C : Addr) (r : R2) (op : D → D → Option (List D)) : Prop := ∀ (hd : Option Addr) (S H : Hp) (x y : D) (v u : V) (ds : List D), Same S H → op x y = some ds → RepB ⟨K, C, hd⟩ S H x v → RepB ⟨K, C, hd⟩ S H y u →
  ∀ Q : VK, (∀ p vs H', Step none S H S H' → H p = none → H' p = some (.lst vs) → RepL ⟨K, C, hd⟩ S ds vs → Q (.ref p) H') → r v u H Q
def fOp (op : D → D → Option D) (f1 f2 : FE) : FE := fun ρ w => (f1 ρ w).bind fun a => (f2 ρ a.2).bind fun b => (op a.1 b.1).map fun d => (d, b.2)
def fOpN (op : D → D → Option (List D)) (f1 f2 : FE) : FL := fun ρ w => (f1 ρ w).bind fun a => (f2 ρ a.2).bind fun b => (op a.1 b.1).map fun d => (d, b.2)
theorem bind_some' {α β : Type} {o : Option α} {k : α → Option β} {b : β} (h : o.bind k = some b) : ∃ a, o = some a ∧ k a = some b := Option.bind_eq_some_iff.mp h
theorem map_some' {α β : Type} {o : Option α} {k : α → β} {b : β} (h : o.map k = some b) : ∃ a, o = some a ∧ k a = b := Option.map_eq_some_iff.mp h
theorem ce_op' {r : R2} {op : D → D → Option D} {E : Expr} (hv : OpV X.K C r op) (h : PE X E (tOp r (canB X.K C f1) (canB X.K C f2))) : CE C X E (fOp op f1 f2) :=
  pe_imp h fun σ H Q ⟨hd, S, ρ, w, d, w', ok, hf, k⟩ => by
    obtain ⟨⟨x, w1⟩, hx, hf⟩ := bind_some' hf
    obtain ⟨⟨y, w2⟩, hy, hf⟩ := bind_some' hf
    obtain ⟨d', hd', hf⟩ := map_some' hf
    cases hf
    refine ⟨hd, S, ρ, w, x, w1, ok, hx, fun v S1 H1 s1 n1 r1 => ?_⟩
    have ok1 := ok.step s1 n1
    refine ⟨hd, S1, ρ, w1, y, w2, ok1, hy, fun u S2 H2 s2 n2 r2 => ?_⟩
    refine hv hd S2 H2 x y v u d s2.sh hd' (r1.step s2) r2 _ fun z S3 H3 s3 r3 => ?_
    exact k z S3 H3 ((s1.trans s2).trans s3.any) (n2.pure s3) r3
theorem cl_op' {r : R2} {op : D → D → Option (List D)} {E : Expr} (hv : OpN X.K C r op) (h : PE X E (tOp r (canB X.K C f1) (canB X.K C f2))) : CL C X E (fOpN op f1 f2) :=
  pe_imp h fun σ H Q ⟨hd, S, ρ, w, d, w', ok, hf, k⟩ => by
    obtain ⟨⟨x, w1⟩, hx, hf⟩ := bind_some' hf
    obtain ⟨⟨y, w2⟩, hy, hf⟩ := bind_some' hf
    obtain ⟨d', hd', hf⟩ := map_some' hf
    cases hf
    refine ⟨hd, S, ρ, w, x, w1, ok, hx, fun v S1 H1 s1 n1 r1 => ?_⟩
    have ok1 := ok.step s1 n1
    refine ⟨hd, S1, ρ, w1, y, w2, ok1, hy, fun u S2 H2 s2 n2 r2 => ?_⟩
    refine hv hd S2 H2 x y v u d s2.sh hd' (r1.step s2) r2 _ fun q vs H3 s3 q1 q2 q3 => ?_
    have sA := s1.trans s2
    have fp : H q = none := by
      cases z : H q with
      | none => rfl
      | some o =>
        obtain ⟨o', e'⟩ := sA.tr q o z
        rw [q1] at e'
        cases e'
    exact k q vs S2 H3 (sA.trans s3.any) (n2.pure s3) fp (free_S s2.sh q1) q2 q3
theorem ce_op {r : R2} {op : D → D → Option D} {o : Operator} (ho : OpR X (binaryOp o) r) (hv : OpV X.K C r op) (h1 : CB C X e1 f1) (h2 : CB C X e2 f2) : CE C X (.BinOp e1 o e2 pos) (fOp op f1 f2) := ce_op' hv (pe_op ho h1 h2)
theorem cl_op {r : R2} {op : D → D → Option (List D)} {o : Operator} (ho : OpR X (binaryOp o) r) (hv : OpN X.K C r op) (h1 : CB C X e1 f1) (h2 : CB C X e2 f2) : CL C X (.BinOp e1 o e2 pos) (fOpN op f1 f2) := cl_op' hv (pe_op ho h1 h2)
theorem ce_cmp {r : R2} {op : D → D → Option D} {o : CmpOp} (ho : OpR X (compareOp o) r) (hv : OpV X.K C r op) (h1 : CB C X e1 f1) (h2 : CB C X e2 f2) (hm : behindInMarks o e2 = false) : CE C X (.Compare e1 [o] [e2] pos) (fOp op f1 f2) := ce_op' hv (pe_cmpR ho h1 h2 hm)
end
end K39
end
section
set_option maxRecDepth 100000
set_option autoImplicit false
/-! S3: operators by values, subscripts, slices, displays -/
namespace K39
open PySem PySem.Spec PyProof.Rows L2
variable {K : PySem.W.Frag} {C : Addr}

def cap : Nat := 100000
theorem cap_le {n : Nat} (h : n ≤ cap) : n ≤ sizeLine := Nat.le_trans h (by decide)
theorem cap_lt {n : Nat} (h : n < cap) : n < sizeLine := Nat.lt_of_lt_of_le h (by decide)

def rEither (r1 r2 : R2) : R2 := fun x y H Q => r1 x y H Q ∨ r2 x y H Q
theorem opEither {X : Cx} {f : Value → Value → Sem Value} {r1 r2 : R2} (h1 : OpR X f r1) (h2 : OpR X f r2) : OpR X f (rEither r1 r2) := by
  intro pins s σ H x y v u Q I rx ry h
  rcases h with h | h
  · exact h1 pins s σ H x y v u Q I rx ry h
  · exact h2 pins s σ H x y v u Q I rx ry h

/-! ### + -/
abbrev rAdd3 (K : PySem.W.Frag) : R2 := rEither (rI0 fun i j => .int (i + j)) (rEither rCat (rCatF K))
theorem op_add3 {X : Cx} : OpR X (binaryOp .Add) (rAdd3 X.K) := opEither op_add (opEither op_cat op_catF)
def dAdd : D → D → Option D
  | .int i, .int j => some (.int (i + j))
  | .lst xs, .lst ys => if xs.length + ys.length ≤ cap then some (.lst (xs ++ ys)) else none
  | .tup xs, .tup ys => if xs.length + ys.length ≤ cap then some (.tup (xs ++ ys)) else none
  | _, _ => none
theorem ov_add : OpV K C (rAdd3 K) dAdd := by
  intro hd S H x y v u d m hf r1 r2 Q k
  unfold dAdd at hf
  split at hf
  · cases hf
    exact .inl ⟨_, _, r1.int, r2.int, k _ S H (.refl m) rfl⟩
  · rename_i xs ys
    split at hf
    · rename_i hc
      cases hf
      obtain ⟨a, vs, rfl, h1, h2⟩ := r1.lst m
      obtain ⟨b, us, rfl, h3, h4⟩ := r2.lst m
      refine .inr (.inl ⟨a, b, vs, us, rfl, rfl, h1, h3, by rw [h2.len, h4.len]; exact cap_le hc, fun p hp => ?_⟩)
      exact k _ _ _ (.lay m hp) ⟨p, _, rfl, upd_same, RepL.mono (Step.lay m hp).ss _ _ (h2.app h4)⟩
    · cases hf
  · rename_i xs ys
    split at hf
    · rename_i hc
      cases hf
      obtain ⟨a, vs, o, rfl, h9, h0, h1, h2⟩ := r1.tup m
      obtain ⟨b, us, o2, rfl, h8, h5, h3, h4⟩ := r2.tup m
      refine .inr (.inr ⟨a, b, vs, us, rfl, rfl, sqt_of h1, sqt_of h3, by rw [h2.len, h4.len]; exact cap_le hc, fun e => ?_, fun _ e => ?_, fun _ _ p o3 hp hd => ?_⟩)
      · subst e
        have l := h2.len
        have e0 : xs = [] := List.eq_nil_of_length_eq_zero l.symm
        subst e0
        exact k _ S H (.refl m) ⟨b, us, o2, rfl, h8, h5, h4⟩
      · subst e
        have l := h4.len
        have e0 : ys = [] := List.eq_nil_of_length_eq_zero l.symm
        subst e0
        rw [List.append_nil] at k
        exact k _ S H (.refl m) ⟨a, vs, o, rfl, h9, h0, h2⟩
      · exact k _ _ _ (.lay m hp) ⟨p, _, o3, rfl, hd, upd_same, RepL.mono (Step.lay m hp).ss _ _ (h2.app h4)⟩
    · cases hf
  · cases hf
/-- a list as a new list -/
def nCat : D → D → Option (List D)
  | .lst xs, .lst ys => if xs.length + ys.length ≤ cap then some (xs ++ ys) else none
  | _, _ => none
theorem on_cat : OpN K C rCat nCat := by
  intro hd S H x y v u d m hf r1 r2 Q k
  unfold nCat at hf
  split at hf
  · rename_i xs ys
    split at hf
    · rename_i hc
      cases hf
      obtain ⟨a, vs, rfl, h1, h2⟩ := r1.lst m
      obtain ⟨b, us, rfl, h3, h4⟩ := r2.lst m
      refine ⟨a, b, vs, us, rfl, rfl, h1, h3, by rw [h2.len, h4.len]; exact cap_le hc, fun p hp => ?_⟩
      exact k _ _ _ (.new m hp) hp upd_same (h2.app h4)
    · cases hf
  · cases hf

/-! ### the other operators of ints -/
def dII (g : Int → Int → Option D) : D → D → Option D
  | .int i, .int j => g i j
  | _, _ => none
theorem ov_I {c : Int → Int → Prop} {q : Int → Int → V} {g : Int → Int → Option D} (h : ∀ i j d, g i j = some d → c i j ∧ ∀ (gg : Gh) S, Rep gg S d (q i j)) : OpV K C (rI c q) (dII g) := by
  intro hd S H x y v u d m hf r1 r2 Q k
  unfold dII at hf
  split at hf
  · obtain ⟨h1, h2⟩ := h _ _ _ hf
    exact ⟨_, _, r1.int, r2.int, h1, k _ S H (.refl m) (h2 _ _)⟩
  · cases hf
theorem ov_I0 {q : Int → Int → V} {g : Int → Int → Option D} (h : ∀ i j d, g i j = some d → ∀ (gg : Gh) S, Rep gg S d (q i j)) : OpV K C (rI0 q) (dII g) := by
  intro hd S H x y v u d m hf r1 r2 Q k
  unfold dII at hf
  split at hf
  · exact ⟨_, _, r1.int, r2.int, k _ S H (.refl m) (h _ _ _ hf _ _)⟩
  · cases hf
def dSub : D → D → Option D := dII fun i j => some (.int (i - j))
theorem ov_sub : OpV K C (rI0 fun i j => .int (i - j)) dSub := ov_I0 fun i j d h gg S => by cases h; rfl
def dMod : D → D → Option D := dII fun i j => if 0 < j then some (.int (i % j)) else none
theorem ov_mod : OpV K C (rI (fun _ j => 0 < j) fun i j => .int (i % j)) dMod := ov_I fun i j d h => by
  split at h
  · rename_i hc
    cases h
    exact ⟨hc, fun _ _ => rfl⟩
  · cases h
def dDiv : D → D → Option D := dII fun i j => if 0 < j ∧ j.natAbs < 1073741824 then some (.int (i / j)) else none
theorem ov_div : OpV K C (rI CDiv fun i j => .int (i / j)) dDiv := ov_I fun i j d h => by
  split at h
  · rename_i hc
    cases h
    exact ⟨⟨hc.1, by omega⟩, fun _ _ => rfl⟩
  · cases h
def dPow : D → D → Option D := dII fun i j => if 0 ≤ j ∧ j ≤ 1000000 ∧ i.natAbs < 2 ^ 64 then some (.int (i ^ j.toNat)) else none
theorem ov_pow : OpV K C (rI CPow fun i j => .int (i ^ j.toNat)) dPow := ov_I fun i j d h => by
  split at h
  · rename_i hc
    cases h
    exact ⟨hc, fun _ _ => rfl⟩
  · cases h
abbrev rMul2 : R2 := rEither (rI CMul fun i j => .int (i * j)) rRep
theorem op_mul2 {X : Cx} : OpR X (binaryOp .Mult) rMul2 := opEither op_mul op_rep
def small64 (i : Int) : Bool := decide (i.natAbs < 18446744073709551616)
theorem small64_ok {i : Int} (h : small64 i = true) : -(2 ^ 64) < i ∧ i < 2 ^ 64 := by
  have := of_decide_eq_true h
  omega
def dMul : D → D → Option D
  | .int i, .int j => if (small64 i || small64 j) = true then some (.int (i * j)) else none
  | .lst [x], .int k => if 0 ≤ k ∧ k ≤ 1000 then some (.lst (List.replicate k.toNat x)) else none
  | _, _ => none
theorem flat_rep {α : Type} (x : α) : ∀ n : Nat, (List.replicate n [x]).flatten = List.replicate n x
  | 0 => rfl
  | n + 1 => by
    show [x] ++ (List.replicate n [x]).flatten = x :: List.replicate n x
    rw [flat_rep x n]
    rfl
theorem ov_mul : OpV K C rMul2 dMul := by
  intro hd S H x y v u d m hf r1 r2 Q k
  unfold dMul at hf
  split at hf
  · rename_i i j
    split at hf
    · rename_i hc
      cases hf
      refine .inl ⟨_, _, r1.int, r2.int, ?_, k _ S H (.refl m) rfl⟩
      rcases (Bool.or_eq_true _ _).mp hc with h | h
      · exact .inl (small64_ok h)
      · exact .inr (small64_ok h)
    · cases hf
  · rename_i x j
    split at hf
    · rename_i hc
      cases hf
      obtain ⟨a, vs, rfl, h1, h2⟩ := r1.lst m
      obtain ⟨z, r, rfl, h3, h4⟩ := h2
      have h4 : r = [] := h4
      subst h4
      refine .inr ⟨a, j, [z], rfl, r2.int, h1, by omega, by omega, ?_, fun p hp => ?_⟩
      · rw [show ([z] : List V).length = 1 from rfl, Nat.one_mul]
        exact cap_le (Nat.le_trans (show j.toNat ≤ 1000 by omega) (by decide))
      · rw [flat_rep]
        exact k _ _ _ (.lay m hp) ⟨p, _, rfl, upd_same, RepL.mono (Step.lay m hp).ss _ _ (RepL.rep h3 _)⟩
    · cases hf
  · cases hf
def nRep : D → D → Option (List D)
  | .lst [x], .int k => if 0 ≤ k ∧ k ≤ 1000 then some (List.replicate k.toNat x) else none
  | _, _ => none
theorem on_rep : OpN K C rRep nRep := by
  intro hd S H x y v u d m hf r1 r2 Q k
  unfold nRep at hf
  split at hf
  · rename_i x j
    split at hf
    · rename_i hc
      cases hf
      obtain ⟨a, vs, rfl, h1, h2⟩ := r1.lst m
      obtain ⟨z, r, rfl, h3, h4⟩ := h2
      have h4 : r = [] := h4
      subst h4
      refine ⟨a, j, [z], rfl, r2.int, h1, by omega, by omega, ?_, fun p hp => ?_⟩
      · rw [show ([z] : List V).length = 1 from rfl, Nat.one_mul]
        exact cap_le (Nat.le_trans (show j.toNat ≤ 1000 by omega) (by decide))
      · rw [flat_rep]
        exact k _ _ _ (.new m hp) hp upd_same (RepL.rep h3 _)
    · cases hf
  · cases hf

/-! ### comparisons -/
def dLt : D → D → Option D := dII fun i j => some (.bl (decide (i < j)))
def dLe : D → D → Option D := dII fun i j => some (.bl (decide (i ≤ j)))
def dGt : D → D → Option D := dII fun i j => some (.bl (decide (j < i)))
def dGe : D → D → Option D := dII fun i j => some (.bl (decide (j ≤ i)))
theorem ov_lt : OpV K C (rI0 fun i j => .bl (decide (i < j))) dLt := ov_I0 fun i j d h gg S => by cases h; rfl
theorem ov_le : OpV K C (rI0 fun i j => .bl (decide (i ≤ j))) dLe := ov_I0 fun i j d h gg S => by cases h; rfl
theorem ov_gt : OpV K C (rI0 fun i j => .bl (decide (j < i))) dGt := ov_I0 fun i j d h gg S => by cases h; rfl
theorem ov_ge : OpV K C (rI0 fun i j => .bl (decide (j ≤ i))) dGe := ov_I0 fun i j d h gg S => by cases h; rfl

/-- is it empty: a list or a tuple of ints beside an empty one -/
def eqEmpty : D → D → Option Bool
  | .lst ds, .lst [] => (unInts ds).map List.isEmpty
  | .tup ds, .tup [] => (unInts ds).map List.isEmpty
  | _, _ => none
def dEq : D → D → Option D
  | .int i, .int j => some (.bl (decide (i = j)))
  | .bl i, .bl j => some (.bl (decide (i = j)))
  | x, y => (eqEmpty x y).map .bl
def dNe : D → D → Option D
  | .int i, .int j => some (.bl (!decide (i = j)))
  | .bl i, .bl j => some (.bl (!decide (i = j)))
  | x, y => (eqEmpty x y).map fun b => .bl (!b)
theorem dp_ints {K : PySem.W.Frag} {H : Hp} : ∀ ns : List Int, DpAll K H (ns.map V.int) (ns.map PyData.int)
  | [] => .nil
  | n :: ns => .cons (.int n) (dp_ints ns)
theorem canLay_ints : ∀ ns : List Int, PyData.canLayAll0 (ns.map PyData.int) = true
  | [] => by
    rw [List.map_nil]
    unfold PyData.canLayAll0
    rfl
  | n :: ns => by
    rw [List.map_cons]
    unfold PyData.canLayAll0
    rw [canLay_ints ns]
    unfold PyData.canLay0
    rfl
theorem depth_ints : ∀ ns : List Int, PyData.depthAll (ns.map PyData.int) ≤ 1
  | [] => by
    rw [List.map_nil]
    unfold PyData.depthAll
    exact Nat.zero_le _
  | n :: ns => by
    rw [List.map_cons]
    unfold PyData.depthAll
    have h := depth_ints ns
    have h2 : PyData.depth (PyData.int n) ≤ 1 := by
      unfold PyData.depth
      omega
    omega
theorem shaped_lst (ns : List Int) : SeqAt.shaped (.list (ns.map PyData.int)) = true := by
  unfold SeqAt.shaped
  have h1 : (PyData.list (ns.map PyData.int)).canLay0 = true := by
    unfold PyData.canLay0
    exact canLay_ints ns
  have h2 : (PyData.list (ns.map PyData.int)).depth ≤ 64 := by
    have h := depth_ints ns
    unfold PyData.depth
    omega
  rw [h1, decide_eq_true h2]
  rfl
theorem shaped_tup (ns : List Int) : SeqAt.shaped (.tuple (ns.map PyData.int)) = true := by
  unfold SeqAt.shaped
  have h1 : (PyData.tuple (ns.map PyData.int)).canLay0 = true := by
    unfold PyData.canLay0
    exact canLay_ints ns
  have h2 : (PyData.tuple (ns.map PyData.int)).depth ≤ 64 := by
    have h := depth_ints ns
    unfold PyData.depth
    omega
  rw [h1, decide_eq_true h2]
  rfl
theorem eqv_nilL (ns : List Int) : PyData.eqv (.list (ns.map PyData.int)) (.list []) = ns.isEmpty := by
  unfold PyData.eqv
  cases ns with
  | nil =>
    rw [List.map_nil]
    unfold PyData.eqvAll
    rfl
  | cons n ns =>
    rw [List.map_cons]
    unfold PyData.eqvAll
    rfl
theorem eqv_nilT (ns : List Int) : PyData.eqv (.tuple (ns.map PyData.int)) (.tuple []) = ns.isEmpty := by
  unfold PyData.eqv
  cases ns with
  | nil =>
    rw [List.map_nil]
    unfold PyData.eqvAll
    rfl
  | cons n ns =>
    rw [List.map_cons]
    unfold PyData.eqvAll
    rfl
theorem isEmpty_dI : ∀ ns : List Int, (dI ns).isEmpty = ns.isEmpty
  | [] => rfl
  | _ :: _ => rfl
/-- what stands behind eqEmpty -/
theorem eqEmpty_ok {hd : Option Addr} {S H : Hp} {x y : D} {v u : V} {b : Bool} (m : Same S H) (h : eqEmpty x y = some b) (r1 : RepB ⟨K, C, hd⟩ S H x v) (r2 : RepB ⟨K, C, hd⟩ S H y u) :
    ∃ d e, Dp K H v d ∧ Dp K H u e ∧ SeqAt.shaped d = true ∧ SeqAt.shaped e = true ∧ PyData.eqv d e = b := by
  unfold eqEmpty at h
  split at h
  · rename_i ds
    obtain ⟨ns, h1, rfl⟩ := map_some' h
    have e := unInts_ok h1
    subst e
    obtain ⟨a, rfl, h2⟩ := r1.lstI m
    obtain ⟨c, rfl, h3⟩ := RepB.lstI (ns := []) r2 m
    exact ⟨_, _, .lst (.of h2) (dp_ints ns), .lst (.of h3) .nil, shaped_lst ns, shaped_lst [], eqv_nilL ns⟩
  · rename_i ds
    obtain ⟨ns, h1, rfl⟩ := map_some' h
    have e := unInts_ok h1
    subst e
    obtain ⟨a, rfl, h2⟩ := r1.tupI m
    obtain ⟨c, rfl, h3⟩ := RepB.tupI (ns := []) r2 m
    exact ⟨_, _, .tup h2 (dp_ints ns), .tup h3 .nil, shaped_tup ns, shaped_tup [], eqv_nilT ns⟩
  · cases h
abbrev rEq2 (K : PySem.W.Frag) : R2 := rEither rEq (rEqD K)
abbrev rNe2 (K : PySem.W.Frag) : R2 := rEither rNe (rNeD K)
theorem op_eq2 {X : Cx} (hu : X.A.units + 64 < cLine) : OpR X (compareOp .Eq) (rEq2 X.K) := opEither op_eq (op_eqD hu)
theorem op_ne2 {X : Cx} (hu : X.A.units + 64 < cLine) : OpR X (compareOp .NotEq) (rNe2 X.K) := opEither op_ne (op_neD hu)
theorem vint_dec (i j : Int) : decide (V.int i = V.int j) = decide (i = j) := by
  by_cases h : i = j
  · subst h
    rw [decide_eq_true rfl, decide_eq_true rfl]
  · rw [decide_eq_false h, decide_eq_false (fun z => h (V.int.inj z))]
theorem vbl_dec (i j : Bool) : decide (V.bl i = V.bl j) = decide (i = j) := by
  by_cases h : i = j
  · subst h
    rw [decide_eq_true rfl, decide_eq_true rfl]
  · rw [decide_eq_false h, decide_eq_false (fun z => h (V.bl.inj z))]
theorem ov_eq : OpV K C (rEq2 K) dEq := by
  intro hd S H x y v u d m hf r1 r2 Q k
  unfold dEq at hf
  split at hf
  · cases hf
    rw [r1.int, r2.int]
    refine .inl ⟨rfl, ?_⟩
    rw [vint_dec]
    exact k _ S H (.refl m) rfl
  · cases hf
    rw [r1.bl, r2.bl]
    refine .inl ⟨rfl, ?_⟩
    rw [vbl_dec]
    exact k _ S H (.refl m) rfl
  · obtain ⟨b, h1, rfl⟩ := map_some' hf
    obtain ⟨d, e, h2, h3, h4, h5, h6⟩ := eqEmpty_ok m h1 r1 r2
    refine .inr ⟨d, e, h2, h3, h4, h5, ?_⟩
    rw [h6]
    exact k _ S H (.refl m) rfl
theorem ov_ne : OpV K C (rNe2 K) dNe := by
  intro hd S H x y v u d m hf r1 r2 Q k
  unfold dNe at hf
  split at hf
  · cases hf
    rw [r1.int, r2.int]
    refine .inl ⟨rfl, ?_⟩
    rw [vint_dec]
    exact k _ S H (.refl m) rfl
  · cases hf
    rw [r1.bl, r2.bl]
    refine .inl ⟨rfl, ?_⟩
    rw [vbl_dec]
    exact k _ S H (.refl m) rfl
  · obtain ⟨b, h1, rfl⟩ := map_some' hf
    obtain ⟨d, e, h2, h3, h4, h5, h6⟩ := eqEmpty_ok m h1 r1 r2
    refine .inr ⟨d, e, h2, h3, h4, h5, ?_⟩
    rw [h6]
    exact k _ S H (.refl m) rfl

/-! ### in, not in -/
theorem flat_ints : ∀ ns : List Int, (ns.map V.int).all flatV = true
  | [] => rfl
  | n :: ns => by
    rw [List.map_cons, List.all_cons, flat_ints ns]
    rfl
theorem inV_ints (i : Int) : ∀ ns : List Int, inV (.int i) (ns.map V.int) = decide (i ∈ ns)
  | [] => rfl
  | n :: ns => by
    show (eqV (.int n) (.int i) || inV (.int i) (ns.map V.int)) = _
    rw [inV_ints i ns]
    show ((n == i) || decide (i ∈ ns)) = decide (i ∈ n :: ns)
    by_cases h : i = n
    · subst h
      rw [show (i == i) = true from beq_self_eq_true i, decide_eq_true (List.mem_cons_self ..)]
      rfl
    · rw [show (n == i) = false from beq_eq_false_iff_ne.mpr fun z => h z.symm, Bool.false_or]
      by_cases h2 : i ∈ ns
      · rw [decide_eq_true h2, decide_eq_true (List.mem_cons_of_mem _ h2)]
      · rw [decide_eq_false h2, decide_eq_false fun z => (List.mem_cons.mp z).elim h h2]
def dIn (neg : Bool) : D → D → Option D
  | .int i, .lst ds => (unInts ds).map fun ns => .bl (if neg then !decide (i ∈ ns) else decide (i ∈ ns))
  | .int i, .tup ds => (unInts ds).map fun ns => .bl (if neg then !decide (i ∈ ns) else decide (i ∈ ns))
  | _, _ => none
theorem ov_in (neg : Bool) : OpV K C (rIn K neg) (dIn neg) := by
  intro hd S H x y v u d m hf r1 r2 Q k
  unfold dIn at hf
  split at hf
  · obtain ⟨ns, h1, rfl⟩ := map_some' hf
    have e := unInts_ok h1
    subst e
    obtain ⟨a, rfl, h2⟩ := r2.lstI m
    rw [r1.int]
    refine ⟨a, _, rfl, .inl (.of h2), rfl, flat_ints ns, ?_⟩
    rw [inV_ints]
    exact k _ S H (.refl m) rfl
  · obtain ⟨ns, h1, rfl⟩ := map_some' hf
    have e := unInts_ok h1
    subst e
    obtain ⟨a, rfl, h2⟩ := r2.tupI m
    rw [r1.int]
    refine ⟨a, _, rfl, .inr h2, rfl, flat_ints ns, ?_⟩
    rw [inV_ints]
    exact k _ S H (.refl m) rfl
  · cases hf

/-! ### is, is not -/
def isNonD : D → Bool
  | .non => true
  | _ => false
theorem non_dec {hd : Option Addr} {S H : Hp} {x : D} {v : V} (r : RepB ⟨K, C, hd⟩ S H x v) : decide (v = V.non) = isNonD x := by
  rcases r with r | ⟨ds, a, vs, rfl, rfl, _⟩
  · cases x with
    | non =>
      have e : v = .non := r
      rw [e]
      rfl
    | bl b =>
      have e : v = .bl b := r
      rw [e]
      rfl
    | int i =>
      have e : v = .int i := r
      rw [e]
      rfl
    | tup ds =>
      obtain ⟨a, vs, o, rfl, _⟩ := r
      rfl
    | lst ds =>
      obtain ⟨a, vs, rfl, _⟩ := r
      rfl
    | scr ns =>
      obtain ⟨a, rfl, _⟩ := r
      rfl
    | obj ds =>
      obtain ⟨a, dx, vs, rfl, _⟩ := r
      rfl
    | hand =>
      obtain ⟨a, _, rfl⟩ := r
      rfl
  · rfl
abbrev rIsN0 : R2 := fun x y H Q => y = .non ∧ Q (.bl (decide (x = .non))) H
abbrev rNotN0 : R2 := fun x y H Q => y = .non ∧ Q (.bl (!decide (x = .non))) H
def dIs : D → D → Option D
  | x, .non => some (.bl (isNonD x))
  | _, _ => none
def dIsNot : D → D → Option D
  | x, .non => some (.bl (!isNonD x))
  | .bl a, .bl b => some (.bl (!decide (a = b)))
  | _, _ => none
theorem ov_is : OpV K C rIsN0 dIs := by
  intro hd S H x y v u d m hf r1 r2 Q k
  unfold dIs at hf
  split at hf
  · cases hf
    refine ⟨r2.non, ?_⟩
    rw [non_dec r1]
    exact k _ S H (.refl m) rfl
  · cases hf
abbrev rIsNot2 : R2 := rEither rNotN0 rNotB
theorem op_isNot2 {X : Cx} : OpR X (compareOp .IsNot) rIsNot2 := opEither op_notN op_notBl
theorem ov_isNot : OpV K C rIsNot2 dIsNot := by
  intro hd S H x y v u d m hf r1 r2 Q k
  unfold dIsNot at hf
  split at hf
  · cases hf
    refine .inl ⟨r2.non, ?_⟩
    rw [non_dec r1]
    exact k _ S H (.refl m) rfl
  · cases hf
    exact .inr ⟨_, _, r1.bl, r2.bl, k _ S H (.refl m) rfl⟩
  · cases hf

/-! ### subscripts -/
theorem RepL.at {g : Gh} {S : Hp} {ds : List D} {vs : List V} {i : Int} {d : D} (h : RepL g S ds vs) (e : atI ds i = some d) : ∃ v, atI vs i = some v ∧ Rep g S d v := by
  unfold atI at e ⊢
  rw [h.len]
  cases q : ixN ds.length i with
  | none =>
    rw [q] at e
    cases e
  | some j =>
    rw [q] at e
    exact h.get (i := j) e
abbrev rIx2 (K : PySem.W.Frag) : R2 := fun x y H Q => rIxL K x y H Q ∨ rIxT K x y H Q
def dIx : D → D → Option D
  | .lst ds, .int i => atI ds i
  | .tup ds, .int i => atI ds i
  | _, _ => none
theorem ov_ix : OpV K C (rIx2 K) dIx := by
  intro hd S H x y v u d m hf r1 r2 Q k
  unfold dIx at hf
  split at hf
  · obtain ⟨a, vs, rfl, h1, h2⟩ := r1.lst m
    obtain ⟨z, h3, h4⟩ := h2.at hf
    exact .inl ⟨a, vs, _, z, rfl, r2.int, .of h1, h3, k _ S H (.refl m) h4⟩
  · obtain ⟨a, vs, o, rfl, _, _, h1, h2⟩ := r1.tup m
    obtain ⟨z, h3, h4⟩ := h2.at hf
    exact .inr ⟨a, vs, _, z, rfl, r2.int, sqt_of h1, h3, k _ S H (.refl m) h4⟩
  · cases hf
section
variable {X : Cx} {e e1 e2 e3 : Expr} {es : List Expr} {f f1 f2 f3 : FE} {fl : FL} {ft ft1 ft2 : FT} {pos p p2 : Pos}
theorem ce_ix (h1 : CB C X e1 f1) (h2 : CB C X e2 f2) (hs : PlainIx e2) : CE C X (.Subscript e1 e2 pos) (fOp dIx f1 f2) := ce_op' ov_ix (pe_ix (ix_list.or ix_tup) h1 h2 hs)

/-! ### the hand: read and written through .hand -/
/-- hand[i], read -/
def fHand (i : Nat) (k : Int) : FE := fun ρ w => match ρ[i]? with
  | some (.val .hand) => (atI w k).map fun d => (d, w)
  | _ => none
theorem ce_hand (i : Nat) {k : Int} {j : Nat} {x : Str} {p3 : Pos} (h : PE X (.Name x p) (tVar i)) : CE C X (.Subscript (.Name x p) (.Constant (.int k) j p3) pos) (fHand i k) := by
  refine pe_imp (pe_ix ix_list h pe_int (fun _ _ => rfl)) fun σ H Q ⟨hd, S, ρ, w, d, w', ok, hf, q⟩ => ?_
  unfold fHand at hf
  split at hf
  · rename_i e0
    obtain ⟨d', h1, hf⟩ := map_some' hf
    cases hf
    obtain ⟨v, h2, a, h3, rfl⟩ := ok.en.val i _ e0
    obtain ⟨h4, vs, h5, h6⟩ := ok.hn a h3
    obtain ⟨z, h7, h8⟩ := h6.at h1
    exact ⟨.ref a, h2, a, vs, k, z, rfl, rfl, .of h5, h7, q z S H (.refl ok.sm) ok.hn h8⟩
  · cases hf

/-! ### slices -/
def cutD (xs : List D) (lo hi : Option Int) : List D := (xs.drop (HT.sIx xs.length 0 lo)).take (HT.sIx xs.length xs.length hi - HT.sIx xs.length 0 lo)
theorem RepL.cut {g : Gh} {S : Hp} {ds : List D} {vs : List V} (h : RepL g S ds vs) (lo hi : Option Int) : RepL g S (cutD ds lo hi) (cutV vs lo hi) := by
  unfold cutD cutV
  rw [h.len]
  exact RepL.take _ (RepL.drop _ h)
abbrev FO := En → Wd → Option (Option Int × Wd)
def canO (K : PySem.W.Frag) (C : Addr) (f : FO) : TO := fun σ H Q => ∃ hd S ρ w o w', Ok ⟨K, C, hd⟩ S H σ ρ w ∧ f ρ w = some (o, w') ∧ ∀ S' H', Step hd S H S' H' → HandOk ⟨K, C, hd⟩ S' H' w' → Q o H'
abbrev CO (C : Addr) (X : Cx) (e : Option Expr) (f : FO) : Prop := PO X e (canO X.K C f)
theorem po_imp {e : Option Expr} {t t' : TO} (h : PO X e t) (k : ∀ σ H Q, t' σ H Q → t σ H Q) : PO X e t' := ⟨fun pins s σ H Q I q => h.run pins s σ H Q I (k σ H Q q)⟩
def fNo : FO := fun _ w => some (none, w)
def fPart (f : FE) : FO := fun ρ w => (f ρ w).bind fun r => match r.1 with
  | .int i => some (some i, r.2)
  | _ => none
theorem co_none : CO C X none fNo := po_imp po_none fun σ H Q ⟨hd, S, ρ, w, d, w', ok, hf, k⟩ => by
  cases hf
  exact k S H (.refl ok.sm) ok.hn
theorem co_some (h : CE C X e f) : CO C X (some e) (fPart f) := po_imp (po_some h) fun σ H Q ⟨hd, S, ρ, w, d, w', ok, hf, k⟩ => by
  obtain ⟨⟨x, w1⟩, hx, hf⟩ := bind_some' hf
  cases x with
  | int i =>
    cases hf
    exact ⟨hd, S, ρ, w, .int i, _, ok, hx, fun v S1 H1 s1 n1 r1 => ⟨i, r1, k S1 H1 s1 n1⟩⟩
  | _ => cases hf
abbrev rSl2 (K : PySem.W.Frag) : V → Option Int → Option Int → Hp → VK → Prop := fun x lo hi H Q => rSlL K x lo hi H Q ∨ rSlF K x lo hi H Q
def dCut : D → Option Int → Option Int → Option D
  | .lst ds, lo, hi => some (.lst (cutD ds lo hi))
  | .tup ds, lo, hi => some (.tup (cutD ds lo hi))
  | _, _, _ => none
def fSl (f : FE) (a b : FO) : FE := fun ρ w => (f ρ w).bind fun r => (a ρ r.2).bind fun x => (b ρ x.2).bind fun y => (dCut r.1 x.1 y.1).map fun d => (d, y.2)
theorem cut_whole {xs : List D} {lo hi : Option Int} (h : HT.sIx xs.length 0 lo = 0 ∧ HT.sIx xs.length xs.length hi = xs.length) : cutD xs lo hi = xs := by
  unfold cutD
  rw [h.1, h.2, List.drop_zero, Nat.sub_zero, List.take_length]
theorem ce_sl {lo hi : Option Expr} {a b : FO} (h : CB C X e f) (hl : CO C X lo a) (hu : CO C X hi b) : CE C X (.Subscript e (.Slice lo hi none p2) pos) (fSl f a b) := by
  refine pe_imp (pe_slice (sl_list.or sl_tupF) h hl hu) fun σ H Q ⟨hd, S, ρ, w, d, w', ok, hf, k⟩ => ?_
  obtain ⟨⟨x, w1⟩, hx, hf⟩ := bind_some' hf
  obtain ⟨⟨l, w2⟩, hl2, hf⟩ := bind_some' hf
  obtain ⟨⟨u, w3⟩, hu2, hf⟩ := bind_some' hf
  obtain ⟨d', hd', hf⟩ := map_some' hf
  cases hf
  refine ⟨hd, S, ρ, w, x, w1, ok, hx, fun v S1 H1 s1 n1 r1 => ?_⟩
  have ok1 := ok.step s1 n1
  refine ⟨hd, S1, ρ, w1, l, w2, ok1, hl2, fun S2 H2 s2 n2 => ?_⟩
  have ok2 := ok1.step s2 n2
  refine ⟨hd, S2, ρ, w2, u, w3, ok2, hu2, fun S3 H3 s3 n3 => ?_⟩
  have r3 := (r1.step s2).step s3
  have sA := (s1.trans s2).trans s3
  have hd2 : dCut x l u = some d := hd'
  unfold dCut at hd2
  split at hd2
  · cases hd2
    obtain ⟨a, vs, rfl, h1, h2⟩ := r3.lst s3.sh
    refine .inl ⟨a, vs, rfl, .of h1, fun q hq => ?_⟩
    have st := Step.lay (o := .lst (cutV vs l u)) s3.sh hq
    exact k _ _ _ (sA.trans st.any) (n3.pure st) ⟨q, _, rfl, upd_same, RepL.mono st.ss _ _ (h2.cut l u)⟩
  · rename_i ds _ _
    cases hd2
    obtain ⟨a, vs, o, rfl, h9, h0, h1, h2⟩ := r3.tup s3.sh
    refine .inr ⟨a, vs, rfl, sqt_of h1, fun hw => ?_, fun _ q o2 hq hd => ?_⟩
    · rw [h2.len] at hw
      refine k _ _ _ sA n3 ?_
      show Rep _ S3 (.tup (cutD ds l u)) _
      rw [cut_whole hw]
      exact ⟨a, vs, o, rfl, h9, h0, h2⟩
    · have st := Step.lay (o := .frz o2 (.tup (cutV vs l u))) s3.sh hq
      exact k _ _ _ (sA.trans st.any) (n3.pure st) ⟨q, _, o2, rfl, hd, upd_same, RepL.mono st.ss _ _ (h2.cut l u)⟩
  · cases hd2

/-! ### arguments, displays -/
def fNil : FL := fun _ w => some ([], w)
def fCons (f : FE) (r : FL) : FL := fun ρ w => (f ρ w).bind fun a => (r ρ a.2).map fun b => (a.1 :: b.1, b.2)
theorem ca_nil : CA C X [] fNil := pa_imp pa_nil fun σ H Q ⟨hd, S, ρ, w, d, w', ok, hf, k⟩ => by
  cases hf
  exact k [] S H (.refl ok.sm) ok.hn rfl
theorem ca_cons (h : CE C X e f) (hr : CA C X es fl) (hs : starEach (e :: es) X.env = (false, eval e X.env) :: starEach es X.env := by rfl) : CA C X (e :: es) (fCons f fl) :=
  pa_imp (pa_cons h hr hs) fun σ H Q ⟨hd, S, ρ, w, d, w', ok, hf, k⟩ => by
    obtain ⟨⟨x, w1⟩, hx, hf⟩ := bind_some' hf
    obtain ⟨⟨xs, w2⟩, hx2, hf⟩ := map_some' hf
    cases hf
    refine ⟨hd, S, ρ, w, x, w1, ok, hx, fun v S1 H1 s1 n1 r1 => ?_⟩
    refine ⟨hd, S1, ρ, w1, xs, w2, ok.step s1 n1, hx2, fun vs S2 H2 s2 n2 r2 => ?_⟩
    exact k (v :: vs) S2 H2 (s1.trans s2) n2 ⟨v, vs, rfl, r1.mono s2.ss, r2⟩
def fTup (fl : FL) : FE := fun ρ w => (fl ρ w).bind fun r => if r.1.length ≤ cap then some (.tup r.1, r.2) else none
def fLst (fl : FL) : FL := fun ρ w => (fl ρ w).bind fun r => if r.1.length ≤ cap then some r else none
theorem ce_tup {k : Nat} (h : CA C X es fl) : CE C X (.Tuple es k pos) (fTup fl) := pe_imp (pe_tupF h) fun σ H Q ⟨hd, S, ρ, w, d, w', ok, hf, k⟩ => by
  obtain ⟨⟨xs, w1⟩, hx, hf⟩ := bind_some' hf
  split at hf
  · rename_i hc
    cases hf
    refine ⟨hd, S, ρ, w, xs, _, ok, hx, fun vs S1 H1 s1 n1 r1 => ⟨by rw [r1.len]; exact cap_le hc, fun q o2 hq hd => ?_⟩⟩
    have st := Step.lay (o := .frz o2 (.tup vs)) s1.sh hq
    exact k _ _ _ (s1.trans st.any) (n1.pure st) ⟨q, _, o2, rfl, hd, upd_same, RepL.mono st.ss _ _ r1⟩
  · cases hf
theorem cl_lst (h : CA C X es fl) : CL C X (.List es pos) (fLst fl) := pe_imp (pe_lst h) fun σ H Q ⟨hd, S, ρ, w, d, w', ok, hf, k⟩ => by
  obtain ⟨⟨xs, w1⟩, hx, hf⟩ := bind_some' hf
  split at hf
  · rename_i hc
    cases hf
    refine ⟨hd, S, ρ, w, _, _, ok, hx, fun vs S1 H1 s1 n1 r1 => ⟨by rw [r1.len]; exact cap_le hc, fun q hq => ?_⟩⟩
    have st := Step.new (o := .lst vs) s1.sh hq
    have fp : H q = none := by
      cases z : H q with
      | none => rfl
      | some o =>
        obtain ⟨o', e'⟩ := s1.tr q o z
        rw [hq] at e'
        cases e'
    exact k q vs _ _ (s1.trans st.any) (n1.pure st) fp (free_S s1.sh hq) upd_same r1
  · cases hf

/-! ### fields -/
theorem zip_lookup : ∀ {xs : List Str} {vs : List V} {k : Nat} {x : Str} {v : V}, xs.Nodup → xs[k]? = some x → vs[k]? = some v → (xs.zip vs).lookup x = some v
  | [], _, _, _, _, _, h, _ => by cases h
  | _ :: _, [], _, _, _, _, _, h => by cases h
  | y :: ys, u :: us, 0, x, v, _, h1, h2 => by
    cases h1
    cases h2
    show (match y == y with | true => some u | false => _) = _
    rw [beq_self_eq_true]
  | y :: ys, u :: us, k + 1, x, v, nd, h1, h2 => by
    have ne : (x == y) = false := beq_eq_false_iff_ne.mpr fun z => by
      subst z
      exact (List.nodup_cons.mp nd).1 (List.mem_of_getElem? (show ys[k]? = some x from h1))
    show (match x == y with | true => some u | false => (ys.zip us).lookup x) = _
    rw [ne]
    exact zip_lookup (k := k) (List.nodup_cons.mp nd).2 h1 h2
theorem zip_lookup_none : ∀ {xs : List Str} {vs : List V} {x : Str}, x ∉ xs → (xs.zip vs).lookup x = none
  | [], _, _, _ => rfl
  | _ :: _, [], _, _ => rfl
  | y :: ys, u :: us, x, h => by
    have ne : (x == y) = false := beq_eq_false_iff_ne.mpr fun z => h (by rw [z]; exact List.mem_cons_self)
    show (match x == y with | true => some u | false => (ys.zip us).lookup x) = _
    rw [ne]
    exact zip_lookup_none fun z => h (List.mem_cons_of_mem _ z)
theorem attrs_nd : attrs.Nodup := by decide +kernel
def fFld (k : Nat) (f : FE) : FE := fun ρ w => (f ρ w).bind fun r => match r.1 with
  | .obj ds => (ds[k]?).map fun d => (d, r.2)
  | _ => none
theorem ce_fld (k : Nat) {x : Str} (hx : attrs[k]? = some x) (cl : Cls X.K C) (na : NoAttr X.K C x) (h : CE C X e f) (hb : attributeBase e x X.env (eval e X.env) = eval e X.env) : CE C X (.Attribute e x pos) (fFld k f) :=
  pe_imp (pe_fld h hb) fun σ H Q ⟨hd, S, ρ, w, d, w', ok, hf, q⟩ => by
    obtain ⟨⟨y, w1⟩, hy, hf⟩ := bind_some' hf
    cases y with
    | obj ds =>
      obtain ⟨d', h1, hf⟩ := map_some' hf
      cases hf
      refine ⟨hd, S, ρ, w, _, _, ok, hy, fun v S1 H1 s1 n1 r1 => ?_⟩
      obtain ⟨a, dx, vs, rfl, h2, h3, h4⟩ := r1
      obtain ⟨z, h5, h6⟩ := h4.get h1
      exact ⟨a, C, dx, _, z, rfl, s1.sh _ _ h2, cl, na, zip_lookup attrs_nd hx h5, q z S1 H1 s1 n1 h6⟩
    | _ => cases hf
end
end K39
end
section
set_option maxRecDepth 100000
set_option autoImplicit false
/-! S4: calls, tests, what is walked, comprehensions -/
namespace K39
open PySem PySem.Spec PyProof.Rows L2
variable {K : PySem.W.Frag} {C : Addr}

/-! ### built-in functions of one argument -/
def CallV1 (K : PySem.W.Frag) (C : Addr) (r : List V → Hp → VK → Prop) (op : D → Option D) : Prop := ∀ (hd : Option Addr) (S H : Hp) (x : D) (v : V) (d : D), Same S H → op x = some d → RepB ⟨K, C, hd⟩ S H x v →
  ∀ Q : VK, (∀ z S' H', Step none S H S' H' → Rep ⟨K, C, hd⟩ S' d z → Q z H') → r [v] H Q
def CallN1 (K : PySem.W.Frag) (C : Addr) (r : List V → Hp → VK → Prop) (op : D → Option (List D)) : Prop := ∀ (hd : Option Addr) (S H : Hp) (x : D) (v : V) (ds : List D), Same S H → op x = some ds → RepB ⟨K, C, hd⟩ S H x v →
  ∀ Q : VK, (∀ p vs H', Step none S H S H' → H p = none → H' p = some (.lst vs) → RepL ⟨K, C, hd⟩ S ds vs → Q (.ref p) H') → r [v] H Q
def fOp1 (op : D → Option D) (f : FE) : FE := fun ρ w => (f ρ w).bind fun a => (op a.1).map fun d => (d, a.2)
def fOpN1 (op : D → Option (List D)) (f : FE) : FL := fun ρ w => (f ρ w).bind fun a => (op a.1).map fun d => (d, a.2)
section
variable {X : Cx} {e e1 e2 e3 : Expr} {es : List Expr} {f f1 f2 f3 : FE} {fl : FL} {ft ft1 ft2 : FT} {pos p p2 : Pos} {r : List V → Hp → VK → Prop}
theorem ce_c1 {op : D → Option D} {E : Expr} (hv : CallV1 X.K C r op) (h : PE X E (tCB r (tCons (canB X.K C f) tNil))) : CE C X E (fOp1 op f) := pe_imp h fun σ H Q ⟨hd, S, ρ, w, d, w', ok, hf, k⟩ => by
  obtain ⟨⟨x, w1⟩, hx, hf⟩ := bind_some' hf
  obtain ⟨d', hd', hf⟩ := map_some' hf
  cases hf
  refine ⟨hd, S, ρ, w, x, w1, ok, hx, fun v S1 H1 s1 n1 r1 => ?_⟩
  exact hv hd S1 H1 x v d s1.sh hd' r1 _ fun z S2 H2 s2 r2 => k z S2 H2 (s1.trans s2.any) (n1.pure s2) r2
theorem cl_c1 {op : D → Option (List D)} {E : Expr} (hv : CallN1 X.K C r op) (h : PE X E (tCB r (tCons (canB X.K C f) tNil))) : CL C X E (fOpN1 op f) := pe_imp h fun σ H Q ⟨hd, S, ρ, w, d, w', ok, hf, k⟩ => by
  obtain ⟨⟨x, w1⟩, hx, hf⟩ := bind_some' hf
  obtain ⟨d', hd', hf⟩ := map_some' hf
  cases hf
  refine ⟨hd, S, ρ, w, x, w1, ok, hx, fun v S1 H1 s1 n1 r1 => ?_⟩
  refine hv hd S1 H1 x v d s1.sh hd' r1 _ fun q vs H2 s2 q1 q2 q3 => ?_
  have fp : H q = none := by
    cases z : H q with
    | none => rfl
    | some o =>
      obtain ⟨o', e'⟩ := s1.tr q o z
      rw [q1] at e'
      cases e'
  exact k q vs S1 H2 (s1.trans s2.any) (n1.pure s2) fp (free_S s1.sh q1) q2 q3
end
def dLen : D → Option D
  | .lst ds => some (.int ds.length)
  | .tup ds => some (.int ds.length)
  | _ => none
theorem cv_len : CallV1 K C (fun xs H Q => ∃ p ys, xs = [.ref p] ∧ (SqL K H p ys ∨ SqT K H p ys) ∧ Q (.int ys.length) H) dLen := by
  intro hd S H x v d m hf r1 Q k
  unfold dLen at hf
  split at hf
  · cases hf
    obtain ⟨a, vs, rfl, h1, h2⟩ := r1.lst m
    refine ⟨a, vs, rfl, .inl (.of h1), ?_⟩
    rw [h2.len]
    exact k _ S H (.refl m) rfl
  · cases hf
    obtain ⟨a, vs, o, rfl, _, _, h1, h2⟩ := r1.tup m
    refine ⟨a, vs, rfl, .inr (sqt_of h1), ?_⟩
    rw [h2.len]
    exact k _ S H (.refl m) rfl
  · cases hf
def nList : D → Option (List D)
  | .lst ds => some ds
  | .tup ds => some ds
  | _ => none
theorem cn_list : CallN1 K C (fun xs H Q => ∃ p ys, xs = [.ref p] ∧ (SqL K H p ys ∨ SqT K H p ys) ∧ ∀ l, H l = none → Q (.ref l) (upd H l (.lst ys))) nList := by
  intro hd S H x v d m hf r1 Q k
  unfold nList at hf
  split at hf
  · cases hf
    obtain ⟨a, vs, rfl, h1, h2⟩ := r1.lst m
    exact ⟨a, vs, rfl, .inl (.of h1), fun l hl => k l vs _ (.new m hl) hl upd_same h2⟩
  · cases hf
    obtain ⟨a, vs, o, rfl, _, _, h1, h2⟩ := r1.tup m
    exact ⟨a, vs, rfl, .inr (sqt_of h1), fun l hl => k l vs _ (.new m hl) hl upd_same h2⟩
  · cases hf
def dTuple : D → Option D
  | .lst ds => some (.tup ds)
  | .tup ds => some (.tup ds)
  | _ => none
theorem cv_tuple : CallV1 K C (fun xs H Q => ∃ p ys, xs = [.ref p] ∧ ((SqL K H p ys ∧ NewT H ys Q) ∨ (SqT K H p ys ∧ Q (.ref p) H))) dTuple := by
  intro hd S H x v d m hf r1 Q k
  unfold dTuple at hf
  split at hf
  · cases hf
    obtain ⟨a, vs, rfl, h1, h2⟩ := r1.lst m
    refine ⟨a, vs, rfl, .inl ⟨.of h1, fun q o hq ho => ?_⟩⟩
    have st := Step.lay (o := .frz o (.tup vs)) m hq
    exact k _ _ _ st ⟨q, vs, o, rfl, ho, upd_same, RepL.mono st.ss _ _ h2⟩
  · cases hf
    obtain ⟨a, vs, o, rfl, h9, h0, h1, h2⟩ := r1.tup m
    exact ⟨a, vs, rfl, .inr ⟨sqt_of h1, k _ S H (.refl m) ⟨a, vs, o, rfl, h9, h0, h2⟩⟩⟩
  · cases hf
def dI1 (g : Int → Int) : D → Option D
  | .int i => some (.int (g i))
  | _ => none
theorem cv_abs : CallV1 K C (fun xs H Q => ∃ i, xs = [.int i] ∧ Q (.int (if i < 0 then -i else i)) H) (dI1 fun i => if i < 0 then -i else i) := by
  intro hd S H x v d m hf r1 Q k
  unfold dI1 at hf
  split at hf
  · cases hf
    rw [r1.int]
    exact ⟨_, rfl, k _ S H (.refl m) rfl⟩
  · cases hf
theorem cv_int : CallV1 K C (fun xs H Q => (∃ i, xs = [.int i] ∧ Q (.int i) H) ∨ ∃ k, xs = [.bl k] ∧ Q (.int (if k then 1 else 0)) H) (dI1 id) := by
  intro hd S H x v d m hf r1 Q k
  unfold dI1 at hf
  split at hf
  · cases hf
    rw [r1.int]
    exact .inl ⟨_, rfl, k _ S H (.refl m) rfl⟩
  · cases hf
def unBls : List D → Option (List Bool)
  | [] => some []
  | .bl b :: ds => (unBls ds).map (b :: ·)
  | _ :: _ => none
theorem unBls_ok {g : Gh} {S : Hp} : ∀ {ds : List D} {vs : List V} {bs : List Bool}, unBls ds = some bs → RepL g S ds vs → vs = bs.map V.bl
  | [], vs, bs, h, r => by
    cases h
    exact r
  | .bl b :: ds, vs, bs, h, r => by
    obtain ⟨bs', h2, rfl⟩ := map_some' (show (unBls ds).map (b :: ·) = some bs from h)
    obtain ⟨v, r', rfl, h3, h4⟩ := r
    have e : v = .bl b := h3
    rw [e, unBls_ok h2 h4]
    rfl
  | .non :: _, _, _, h, _ => by cases h
  | .int _ :: _, _, _, h, _ => by cases h
  | .tup _ :: _, _, _, h, _ => by cases h
  | .lst _ :: _, _, _, h, _ => by cases h
  | .scr _ :: _, _, _, h, _ => by cases h
  | .obj _ :: _, _, _, h, _ => by cases h
  | .hand :: _, _, _, h, _ => by cases h
def dAll : D → Option D
  | .lst ds => (unBls ds).map fun bs => .bl (bs.all id)
  | _ => none
theorem cv_all : CallV1 K C (rAll K) dAll := by
  intro hd S H x v d m hf r1 Q k
  unfold dAll at hf
  split at hf
  · obtain ⟨bs, h1, rfl⟩ := map_some' hf
    obtain ⟨a, vs, rfl, h2, h3⟩ := r1.lst m
    rw [unBls_ok h1 h3] at h2
    exact ⟨a, bs, rfl, .of h2, k _ S H (.refl m) rfl⟩
  · cases hf
def dAny : D → Option D
  | .lst ds => (unInts ds).map fun ns => .bl (ns.any (· != 0))
  | _ => none
theorem cv_any : CallV1 K C (rAnyI K) dAny := by
  intro hd S H x v d m hf r1 Q k
  unfold dAny at hf
  split at hf
  · obtain ⟨ns, h1, rfl⟩ := map_some' hf
    have e := unInts_ok h1
    subst e
    obtain ⟨a, rfl, h2⟩ := r1.lstI m
    exact ⟨a, ns, rfl, .of h2, k _ S H (.refl m) rfl⟩
  · cases hf
def insI (x : Int) : List Int → List Int
  | [] => [x]
  | y :: ys => if x ≤ y then x :: y :: ys else y :: insI x ys
def sortI : List Int → List Int
  | [] => []
  | x :: xs => insI x (sortI xs)
theorem insI_perm (x : Int) : ∀ ys : List Int, (insI x ys).Perm (x :: ys)
  | [] => .refl _
  | y :: ys => by
    unfold insI
    split
    · exact .refl _
    · exact ((insI_perm x ys).cons y).trans (.swap x y ys)
theorem sortI_perm : ∀ xs : List Int, (sortI xs).Perm xs
  | [] => .refl _
  | x :: xs => (insI_perm x (sortI xs)).trans ((sortI_perm xs).cons x)
theorem insI_sorted (x : Int) : ∀ ys : List Int, ys.Pairwise (· ≤ ·) → (insI x ys).Pairwise (· ≤ ·)
  | [], _ => List.pairwise_singleton ..
  | y :: ys, h => by
    unfold insI
    obtain ⟨h1, h2⟩ := List.pairwise_cons.mp h
    split
    · rename_i hx
      exact List.pairwise_cons.mpr ⟨fun z hz => (List.mem_cons.mp hz).elim (fun e => by rw [e]; exact hx) (fun hz => Int.le_trans hx (h1 z hz)), h⟩
    · rename_i hx
      refine List.pairwise_cons.mpr ⟨fun z hz => ?_, insI_sorted x ys h2⟩
      rcases List.mem_cons.mp ((insI_perm x ys).mem_iff.mp hz) with e | hz
      · rw [e]
        omega
      · exact h1 z hz
theorem sortI_sorted : ∀ xs : List Int, (sortI xs).Pairwise (· ≤ ·)
  | [] => .nil
  | x :: xs => insI_sorted x _ (sortI_sorted xs)
def dSorted : D → Option D
  | .lst ds => (unInts ds).map fun ns => .lst (dI (sortI ns))
  | _ => none
theorem cv_sorted : CallV1 K C (rSortedI K) dSorted := by
  intro hd S H x v d m hf r1 Q k
  unfold dSorted at hf
  split at hf
  · obtain ⟨ns, h1, rfl⟩ := map_some' hf
    have e := unInts_ok h1
    subst e
    obtain ⟨a, rfl, h2⟩ := r1.lstI m
    refine ⟨a, ns, rfl, .of h2, fun ns' q hp hs hq => ?_⟩
    have e2 : ns' = sortI ns := PySem.W.ksm_same (hp.trans (sortI_perm ns).symm) hs (sortI_sorted ns)
    subst e2
    exact k _ _ _ (.lay m hq) ⟨q, _, rfl, upd_same, RepL.toI _⟩
  · cases hf

section
variable {X : Cx} {e e1 e2 e3 : Expr} {es : List Expr} {f f1 f2 f3 : FE} {fl : FL} {ft ft1 ft2 : FT} {pos p p2 p3 p4 : Pos} {r : List V → Hp → VK → Prop}
theorem ce_len (hg : Gl X "len") (hm : X.mg "len" = none) (h : CB C X e f) (hs : starEach [e] X.env = (false, eval e X.env) :: starEach [] X.env := by rfl) (hpl : (backTo pos (starEach [] X.env)).any (·.1) = false := by rfl) : CE C X (.Call (.Name "len" p) [e] [] pos) (fOp1 dLen f) := ce_c1 cv_len (pe_callB call_len_seq hg hm boot_len (pa_cons h pa_nil hs) (he := hs) (hpl := hpl))
theorem cl_list (hg : Gl X "list") (hm : X.mg "list" = none) (h : CB C X e f) (hs : starEach [e] X.env = (false, eval e X.env) :: starEach [] X.env := by rfl) (hpl : (backTo pos (starEach [] X.env)).any (·.1) = false := by rfl) : CL C X (.Call (.Name "list" p) [e] [] pos) (fOpN1 nList f) := cl_c1 cn_list (pe_callTy call_list_of hg hm (by decide +kernel) (pa_cons h pa_nil hs) (he := hs) (hpl := hpl))
theorem ce_tuple (hg : Gl X "tuple") (hm : X.mg "tuple" = none) (h : CB C X e f) (hs : starEach [e] X.env = (false, eval e X.env) :: starEach [] X.env := by rfl) (hpl : (backTo pos (starEach [] X.env)).any (·.1) = false := by rfl) : CE C X (.Call (.Name "tuple" p) [e] [] pos) (fOp1 dTuple f) := ce_c1 cv_tuple (pe_callTy call_tupF hg hm (by decide +kernel) (pa_cons h pa_nil hs) (he := hs) (hpl := hpl))
theorem ce_abs (hg : Gl X "abs") (hm : X.mg "abs" = none) (h : CB C X e f) (hs : starEach [e] X.env = (false, eval e X.env) :: starEach [] X.env := by rfl) (hpl : (backTo pos (starEach [] X.env)).any (·.1) = false := by rfl) : CE C X (.Call (.Name "abs" p) [e] [] pos) (fOp1 (dI1 fun i => if i < 0 then -i else i) f) := ce_c1 cv_abs (pe_callB call_abs hg hm (by decide +kernel) (pa_cons h pa_nil hs) (he := hs) (hpl := hpl))
theorem ce_intc (hg : Gl X "int") (hm : X.mg "int" = none) (h : CB C X e f) (hs : starEach [e] X.env = (false, eval e X.env) :: starEach [] X.env := by rfl) (hpl : (backTo pos (starEach [] X.env)).any (·.1) = false := by rfl) : CE C X (.Call (.Name "int" p) [e] [] pos) (fOp1 (dI1 id) f) := ce_c1 cv_int (pe_callTy call_int1 hg hm boot_int (pa_cons h pa_nil hs) (he := hs) (hpl := hpl))
theorem ce_all (hc : X.calm = true) (hg : Gl X "all") (hm : X.mg "all" = none) (h : CB C X e f) (hs : starEach [e] X.env = (false, eval e X.env) :: starEach [] X.env := by rfl) (hpl : (backTo pos (starEach [] X.env)).any (·.1) = false := by rfl) : CE C X (.Call (.Name "all" p) [e] [] pos) (fOp1 dAll f) := ce_c1 cv_all (pe_callB (cr_all hc) hg hm (by decide +kernel) (pa_cons h pa_nil hs) (he := hs) (hpl := hpl))
theorem ce_any (hc : X.calm = true) (hg : Gl X "any") (hm : X.mg "any" = none) (h : CB C X e f) (hs : starEach [e] X.env = (false, eval e X.env) :: starEach [] X.env := by rfl) (hpl : (backTo pos (starEach [] X.env)).any (·.1) = false := by rfl) : CE C X (.Call (.Name "any" p) [e] [] pos) (fOp1 dAny f) := ce_c1 cv_any (pe_callB (cr_anyI hc) hg hm (by decide +kernel) (pa_cons h pa_nil hs) (he := hs) (hpl := hpl))
theorem ce_sorted (hg : Gl X "sorted") (hm : X.mg "sorted" = none) (h : CB C X e f) (hs : starEach [e] X.env = (false, eval e X.env) :: starEach [] X.env := by rfl) (hpl : (backTo pos (starEach [] X.env)).any (·.1) = false := by rfl) : CE C X (.Call (.Name "sorted" p) [e] [] pos) (fOp1 dSorted f) := ce_c1 cv_sorted (pe_callB cr_sortedI hg hm (by decide +kernel) (pa_cons h pa_nil hs) (he := hs) (hpl := hpl))
/-- max(a, b) -/
def fMax (f1 f2 : FE) : FE := fOp (dII fun i j => some (.int (if j > i then j else i))) f1 f2
theorem ce_max (hc : X.calm = true) (hg : Gl X "max") (hm : X.mg "max" = none) (h1 : CE C X e1 f1) (h2 : CE C X e2 f2) (hs : starEach [e1, e2] X.env = (false, eval e1 X.env) :: starEach [e2] X.env := by rfl) (hs2 : starEach [e2] X.env = (false, eval e2 X.env) :: starEach [] X.env := by rfl) (hpl : (backTo pos (starEach [e2] X.env)).any (·.1) = false := by rfl) :
    CE C X (.Call (.Name "max" p) [e1, e2] [] pos) (fMax f1 f2) := pe_imp (pe_callB (call_max2 hc) hg hm (by decide +kernel) (pa_cons h1 (pa_cons h2 pa_nil hs2) hs) (he := hs) (hpl := hpl)) fun σ H Q ⟨hd, S, ρ, w, d, w', ok, hf, k⟩ => by
  obtain ⟨⟨x, w1⟩, hx, hf⟩ := bind_some' hf
  obtain ⟨⟨y, w2⟩, hy, hf⟩ := bind_some' hf
  obtain ⟨d', hd', hf⟩ := map_some' hf
  cases hf
  refine ⟨hd, S, ρ, w, x, w1, ok, hx, fun v S1 H1 s1 n1 r1 => ?_⟩
  refine ⟨hd, S1, ρ, w1, y, w2, ok.step s1 n1, hy, fun u S2 H2 s2 n2 r2 => ?_⟩
  have hd2 : dII (fun i j => some (.int (if j > i then j else i))) x y = some d := hd'
  unfold dII at hd2
  split at hd2
  · cases hd2
    exact ⟨_, _, by rw [show v = _ from r1, show u = _ from r2], k _ S2 H2 (s1.trans s2) n2 rfl⟩
  · cases hd2

/-! ### isinstance -/
def tyD : D → Option String
  | .non => some "NoneType"
  | .bl _ => some "bool"
  | .int _ => some "int"
  | .tup _ => some "tuple"
  | .lst _ => some "list"
  | _ => none
theorem tyD_ok {hd : Option Addr} {S H : Hp} {x : D} {v : V} {t : String} (m : Same S H) (h : tyD x = some t) (r : Rep ⟨K, C, hd⟩ S x v) : TyX K H v (.type t) := by
  cases x with
  | non =>
    cases h
    have e : v = .non := r
    rw [e]
    exact .base .non
  | bl b =>
    cases h
    have e : v = .bl b := r
    rw [e]
    exact .base (.bl b)
  | int i =>
    cases h
    have e : v = .int i := r
    rw [e]
    exact .base (.int i)
  | tup ds =>
    cases h
    obtain ⟨a, vs, o, rfl, _, h1, _⟩ := r
    exact .fTuple (m _ _ h1)
  | lst ds =>
    cases h
    obtain ⟨a, vs, rfl, h1, _⟩ := r
    exact .base (.lst (m _ _ h1))
  | scr _ => cases h
  | obj _ => cases h
  | hand => cases h
/-- the answers, by the model's own tables -/
def isiD (T : String) (x : D) : Option Bool := (tyD x).bind fun t => kitB t T
def fIsi (T : String) (f : FE) : FE := fOp1 (fun x => (isiD T x).map .bl) f
theorem ce_isi {T : Str} {n : String} (hg : Gl X "isinstance") (hm : X.mg "isinstance" = none) (hgT : Gl X T) (hmT : X.mg T = none) (hvT : bootBuiltins T = some (.type n)) (h : CE C X e f)
    (hnT : T ≠ "__name__" := by decide) (hdT : (T == ("__debug__" : Str)) = false := by decide) (hs : starEach [e, .Name T p2] X.env = (false, eval e X.env) :: starEach [.Name T p2] X.env := by rfl) (hs2 : starEach [.Name T p2] X.env = (false, eval (.Name T p2) X.env) :: starEach [] X.env := by rfl)
    (hpl : (backTo pos (starEach [.Name T p2] X.env)).any (·.1) = false := by rfl) : CE C X (.Call (.Name "isinstance" p) [e, .Name T p2] [] pos) (fIsi n f) :=
  pe_imp (pe_callB call_isi hg hm (by decide +kernel) (pa_cons h (pa_cons (pe_bltn (v := .ty n) hgT hmT hvT rfl hnT hdT) pa_nil hs2) hs) (he := hs) (hpl := hpl)) fun σ H Q ⟨hd, S, ρ, w, d, w', ok, hf, k⟩ => by
    obtain ⟨⟨y, w1⟩, hy, hf⟩ := bind_some' hf
    obtain ⟨d', hd', hf⟩ := map_some' hf
    cases hf
    obtain ⟨b, hb, rfl⟩ := map_some' hd'
    obtain ⟨t, ht, hk⟩ := bind_some' hb
    refine ⟨hd, S, ρ, w, y, w1, ok, hy, fun v S1 H1 s1 n1 r1 => ?_⟩
    exact ⟨v, .ty n, .type t, .type n, b, rfl, .ty n, tyD_ok s1.sh ht r1, kit_ty hk, k _ S1 H1 s1 n1 rfl⟩
def isiD2 (T1 T2 : String) (x : D) : Option Bool := (isiD T1 x).bind fun b => if b = true then some true else isiD T2 x
def fIsi2 (T1 T2 : String) (f : FE) : FE := fOp1 (fun x => (isiD2 T1 T2 x).map .bl) f
theorem ce_isi2 {T1 T2 : Str} {n1 n2 : String} {k : Nat} (hg : Gl X "isinstance") (hm : X.mg "isinstance" = none) (hg1 : Gl X T1) (hm1 : X.mg T1 = none) (hv1 : bootBuiltins T1 = some (.type n1)) (hg2 : Gl X T2) (hm2 : X.mg T2 = none) (hv2 : bootBuiltins T2 = some (.type n2)) (h : CE C X e f)
    (hn1 : T1 ≠ "__name__" := by decide) (hd1 : (T1 == ("__debug__" : Str)) = false := by decide) (hn2 : T2 ≠ "__name__" := by decide) (hd2 : (T2 == ("__debug__" : Str)) = false := by decide)
    (hs : starEach [e, .Tuple [.Name T1 p2, .Name T2 p3] k p4] X.env = (false, eval e X.env) :: starEach [.Tuple [.Name T1 p2, .Name T2 p3] k p4] X.env := by rfl)
    (hs2 : starEach [.Tuple [.Name T1 p2, .Name T2 p3] k p4] X.env = (false, eval (.Tuple [.Name T1 p2, .Name T2 p3] k p4) X.env) :: starEach [] X.env := by rfl)
    (ht1 : starEach [.Name T1 p2, .Name T2 p3] X.env = (false, eval (.Name T1 p2) X.env) :: starEach [.Name T2 p3] X.env := by rfl) (ht2 : starEach [.Name T2 p3] X.env = (false, eval (.Name T2 p3) X.env) :: starEach [] X.env := by rfl)
    (hpl : (backTo pos (starEach [.Tuple [.Name T1 p2, .Name T2 p3] k p4] X.env)).any (·.1) = false := by rfl) : CE C X (.Call (.Name "isinstance" p) [e, .Tuple [.Name T1 p2, .Name T2 p3] k p4] [] pos) (fIsi2 n1 n2 f) :=
  pe_imp (pe_callB call_isiT hg hm (by decide +kernel) (pa_cons h (pa_cons (pe_tup (pa_cons (pe_bltn (v := .ty n1) hg1 hm1 hv1 rfl hn1 hd1) (pa_cons (pe_bltn (v := .ty n2) hg2 hm2 hv2 rfl hn2 hd2) pa_nil ht2) ht1)) pa_nil hs2) hs) (he := hs) (hpl := hpl)) fun σ H Q ⟨hd, S, ρ, w, d, w', ok, hf, kk⟩ => by
    obtain ⟨⟨y, w1⟩, hy, hf⟩ := bind_some' hf
    obtain ⟨d', hd', hf⟩ := map_some' hf
    cases hf
    obtain ⟨b, hb, rfl⟩ := map_some' hd'
    obtain ⟨b1, hb1, hb2⟩ := bind_some' hb
    obtain ⟨t, ht, hk⟩ := bind_some' hb1
    refine ⟨hd, S, ρ, w, y, w1, ok, hy, fun v S1 H1 s1 n1' r1 => ⟨by show 2 ≤ sizeLine; decide, fun q hq => ?_⟩⟩
    have st := Step.new (o := .tup [.ty n1, .ty n2]) s1.sh hq
    have m2 : Same S1 (upd H1 q (.tup [.ty n1, .ty n2])) := st.sh
    refine ⟨v, q, [.ty n1, .ty n2], .type t, [.type n1, .type n2], b, rfl, upd_same, .cons (.ty n1) (.cons (.ty n2) .nil), tyD_ok m2 ht r1, ?_, kk _ _ _ (s1.trans st.any) (n1'.pure st) rfl⟩
    refine kitAny_cons (kit_ty hk) (fun e => ?_) (fun e => ?_)
    · subst e
      rw [if_neg Bool.false_ne_true] at hb2
      obtain ⟨t', ht', hk'⟩ := bind_some' hb2
      rw [ht] at ht'
      cases ht'
      refine kitAny_cons (kit_ty hk') (fun e => ?_) (fun e => e)
      rw [e]
      exact kitAny_nil
    · subst e
      rw [if_pos rfl] at hb2
      exact (Option.some.inj hb2).symm

/-! ### truth: and, or, not, if .. else; tests -/
def fAnd (f1 f2 : FE) : FE := fun ρ w => (f1 ρ w).bind fun a => match a.1 with
  | .bl true => f2 ρ a.2
  | .bl false => some (.bl false, a.2)
  | _ => none
def fOr (f1 f2 : FE) : FE := fun ρ w => (f1 ρ w).bind fun a => match a.1 with
  | .bl true => some (.bl true, a.2)
  | .bl false => f2 ρ a.2
  | _ => none
def fNot (f : FE) : FE := fun ρ w => (f ρ w).bind fun a => match a.1 with
  | .bl b => some (.bl (!b), a.2)
  | _ => none
theorem ce_one {op : BoolOp} (h : CE C X e f) : CE C X (.BoolOp op [e] pos) f := pe_one h
theorem ce_and {rest : List Expr} (h1 : CE C X e1 f1) (h2 : CE C X (.BoolOp .And (e2 :: rest) pos) f2) : CE C X (.BoolOp .And (e1 :: e2 :: rest) pos) (fAnd f1 f2) := pe_imp (pe_and h1 h2) fun σ H Q ⟨hd, S, ρ, w, d, w', ok, hf, k⟩ => by
  obtain ⟨⟨x, w1⟩, hx, hf⟩ := bind_some' hf
  refine ⟨hd, S, ρ, w, x, w1, ok, hx, fun v S1 H1 s1 n1 r1 => ?_⟩
  cases x with
  | bl b =>
    refine ⟨b, r1, ?_⟩
    cases b with
    | true => exact iteT ⟨hd, S1, ρ, w1, d, w', ok.step s1 n1, hf, fun u S2 H2 s2 n2 r2 => k u S2 H2 (s1.trans s2) n2 r2⟩
    | false =>
      cases hf
      exact iteF (k _ S1 H1 s1 n1 rfl)
  | _ => cases hf
theorem ce_or {rest : List Expr} (h1 : CE C X e1 f1) (h2 : CE C X (.BoolOp .Or (e2 :: rest) pos) f2) : CE C X (.BoolOp .Or (e1 :: e2 :: rest) pos) (fOr f1 f2) := pe_imp (pe_or h1 h2) fun σ H Q ⟨hd, S, ρ, w, d, w', ok, hf, k⟩ => by
  obtain ⟨⟨x, w1⟩, hx, hf⟩ := bind_some' hf
  refine ⟨hd, S, ρ, w, x, w1, ok, hx, fun v S1 H1 s1 n1 r1 => ?_⟩
  cases x with
  | bl b =>
    refine ⟨b, r1, ?_⟩
    cases b with
    | true =>
      cases hf
      exact iteT (k _ S1 H1 s1 n1 rfl)
    | false => exact iteF ⟨hd, S1, ρ, w1, d, w', ok.step s1 n1, hf, fun u S2 H2 s2 n2 r2 => k u S2 H2 (s1.trans s2) n2 r2⟩
  | _ => cases hf
theorem ce_not (h : CE C X e f) : CE C X (.UnaryOp .Not e pos) (fNot f) := pe_imp (pe_not h) fun σ H Q ⟨hd, S, ρ, w, d, w', ok, hf, k⟩ => by
  obtain ⟨⟨x, w1⟩, hx, hf⟩ := bind_some' hf
  refine ⟨hd, S, ρ, w, x, w1, ok, hx, fun v S1 H1 s1 n1 r1 => ?_⟩
  cases x with
  | bl b =>
    cases hf
    exact ⟨b, r1, k _ S1 H1 s1 n1 rfl⟩
  | _ => cases hf
def fNeg (f : FE) : FE := fOp1 (dI1 fun i => -i) f
theorem ce_neg (h : CE C X e f) : CE C X (.UnaryOp .USub e pos) (fNeg f) := pe_imp (pe_un un_neg h) fun σ H Q ⟨hd, S, ρ, w, d, w', ok, hf, k⟩ => by
  obtain ⟨⟨x, w1⟩, hx, hf⟩ := bind_some' hf
  obtain ⟨d', hd', hf⟩ := map_some' hf
  cases hf
  refine ⟨hd, S, ρ, w, x, w1, ok, hx, fun v S1 H1 s1 n1 r1 => ?_⟩
  cases x with
  | int i =>
    cases hd'
    exact ⟨i, r1, k _ S1 H1 s1 n1 rfl⟩
  | _ => cases hd'
/-- tests -/
def ftVal (f : FE) : FT := fun ρ w => (f ρ w).bind fun a => match a.1 with
  | .bl b => some (b, a.2)
  | _ => none
theorem ct_val (h : CE C X e f) (he : ∀ whole, isTrue e X.env whole = (do let v ← whole; standAt e.pos; holding [v] (truthy v)) := by intro _; rfl) : CT C X e (ftVal f) := pt_imp (pt_val h he) fun σ H Q ⟨hd, S, ρ, w, d, w', ok, hf, k⟩ => by
  obtain ⟨⟨x, w1⟩, hx, hf⟩ := bind_some' hf
  refine ⟨hd, S, ρ, w, x, w1, ok, hx, fun v S1 H1 s1 n1 r1 => ?_⟩
  cases x with
  | bl b =>
    cases hf
    exact ⟨_, r1, k S1 H1 s1 n1⟩
  | _ => cases hf
theorem ct_cmp {r : R2} {op : D → D → Option D} {o : CmpOp} (ho : OpR X (compareOp o) r) (hv : OpV X.K C r op) (h1 : CB C X e1 f1) (h2 : CB C X e2 f2) (hm : behindInMarks o e2 = false) : CT C X (.Compare e1 [o] [e2] pos) (ftVal (fOp op f1 f2)) :=
  pt_imp (pt_cmpR ho h1 h2 hm) fun σ H Q ⟨hd, S, ρ, w, d, w', ok, hf, k⟩ => by
    obtain ⟨⟨z, w3⟩, hz, hf⟩ := bind_some' hf
    obtain ⟨⟨x, w1⟩, hx, hz⟩ := bind_some' hz
    obtain ⟨⟨y, w2⟩, hy, hz⟩ := bind_some' hz
    obtain ⟨d', hd', hz⟩ := map_some' hz
    cases hz
    refine ⟨hd, S, ρ, w, x, w1, ok, hx, fun v S1 H1 s1 n1 r1 => ?_⟩
    refine ⟨hd, S1, ρ, w1, y, w2, ok.step s1 n1, hy, fun u S2 H2 s2 n2 r2 => ?_⟩
    refine hv hd S2 H2 x y v u _ s2.sh hd' (r1.step s2) r2 _ fun t S3 H3 s3 r3 => ?_
    cases z with
    | bl b =>
      cases hf
      exact ⟨_, r3, k S3 H3 ((s1.trans s2).trans s3.any) (n2.pure s3)⟩
    | _ => cases hf
def ftNot (f : FT) : FT := fun ρ w => (f ρ w).map fun a => (!a.1, a.2)
theorem ct_not (h : CT C X e ft) : CT C X (.UnaryOp .Not e pos) (ftNot ft) := pt_imp (pt_not h) fun σ H Q ⟨hd, S, ρ, w, d, w', ok, hf, k⟩ => by
  obtain ⟨⟨x, w1⟩, hx, hf⟩ := map_some' hf
  cases hf
  exact ⟨hd, S, ρ, w, x, w1, ok, hx, fun S1 H1 s1 n1 => k S1 H1 s1 n1⟩
abbrev CW (C : Addr) (X : Cx) (e : Expr) (f : FT) : Prop := PW X e (canT X.K C f)
theorem pw_imp {t t' : TT} (h : PW X e t) (k : ∀ σ H Q, t' σ H Q → t σ H Q) : PW X e t' := ⟨fun wh pins s σ H Q I q => h.run wh pins s σ H Q I (k σ H Q q)⟩
def ftAnd (f1 f2 : FT) : FT := fun ρ w => (f1 ρ w).bind fun a => if a.1 = true then f2 ρ a.2 else some (false, a.2)
def ftOr (f1 f2 : FT) : FT := fun ρ w => (f1 ρ w).bind fun a => if a.1 = true then some (true, a.2) else f2 ρ a.2
theorem cw_and1 (h : CT C X e ft) : CW C X (.BoolOp .And [e] pos) ft := pw_and1 h
theorem cw_or1 (h : CT C X e ft) : CW C X (.BoolOp .Or [e] pos) ft := pw_or1 h
theorem cw_and {rest : List Expr} (h1 : CT C X e1 ft1) (h2 : CW C X (.BoolOp .And (e2 :: rest) pos) ft2) : CW C X (.BoolOp .And (e1 :: e2 :: rest) pos) (ftAnd ft1 ft2) := pw_imp (pw_and h1 h2) fun σ H Q ⟨hd, S, ρ, w, d, w', ok, hf, k⟩ => by
  obtain ⟨⟨x, w1⟩, hx, hf⟩ := bind_some' hf
  refine ⟨hd, S, ρ, w, x, w1, ok, hx, fun S1 H1 s1 n1 => ?_⟩
  cases x with
  | true => exact iteT ⟨hd, S1, ρ, w1, d, w', ok.step s1 n1, hf, fun S2 H2 s2 n2 => k S2 H2 (s1.trans s2) n2⟩
  | false =>
    cases hf
    exact iteF (k S1 H1 s1 n1)
theorem cw_or {rest : List Expr} (h1 : CT C X e1 ft1) (h2 : CW C X (.BoolOp .Or (e2 :: rest) pos) ft2) : CW C X (.BoolOp .Or (e1 :: e2 :: rest) pos) (ftOr ft1 ft2) := pw_imp (pw_or h1 h2) fun σ H Q ⟨hd, S, ρ, w, d, w', ok, hf, k⟩ => by
  obtain ⟨⟨x, w1⟩, hx, hf⟩ := bind_some' hf
  refine ⟨hd, S, ρ, w, x, w1, ok, hx, fun S1 H1 s1 n1 => ?_⟩
  cases x with
  | true =>
    cases hf
    exact iteT (k S1 H1 s1 n1)
  | false => exact iteF ⟨hd, S1, ρ, w1, d, w', ok.step s1 n1, hf, fun S2 H2 s2 n2 => k S2 H2 (s1.trans s2) n2⟩
theorem CW.t (h : CW C X e ft) : CT C X e ft := PW.pt h
/-- a < b < c, as a test -/
def ftChain (op1 op2 : D → D → Option D) (f1 f2 f3 : FE) : FT := fun ρ w => (f1 ρ w).bind fun a => (f2 ρ a.2).bind fun b => (op1 a.1 b.1).bind fun z => match z with
  | .bl true => (f3 ρ b.2).bind fun c => (op2 b.1 c.1).bind fun y => match y with
    | .bl t => some (t, c.2)
    | _ => none
  | .bl false => some (false, b.2)
  | _ => none
theorem ct_chain {o1 o2 : CmpOp} {g1 g2 : Int → Int → Bool} (ho : OpR X (compareOp o1) (rI0 fun i j => .bl (g1 i j))) (ho' : OpR X (compareOp o2) (rI0 fun i j => .bl (g2 i j)))
    (h : PT X e (fun σ H Q => tChain (rI0 fun i j => .bl (g1 i j)) (rI0 fun i j => .bl (g2 i j)) (canE X.K C f1) (canE X.K C f2) (canE X.K C f3) σ H fun x H' => ∃ k, x = .bl k ∧ Q k H')) :
    CT C X e (ftChain (dII fun i j => some (.bl (g1 i j))) (dII fun i j => some (.bl (g2 i j))) f1 f2 f3) := pt_imp h fun σ H Q ⟨hd, S, ρ, w, d, w', ok, hf, k⟩ => by
  obtain ⟨⟨x, w1⟩, hx, hf⟩ := bind_some' hf
  obtain ⟨⟨y, w2⟩, hy, hf⟩ := bind_some' hf
  obtain ⟨z, hz, hf⟩ := bind_some' hf
  refine ⟨hd, S, ρ, w, x, w1, ok, hx, fun v S1 H1 s1 n1 r1 => ?_⟩
  have ok1 := ok.step s1 n1
  refine ⟨hd, S1, ρ, w1, y, w2, ok1, hy, fun u S2 H2 s2 n2 r2 => ?_⟩
  have ok2 := ok1.step s2 n2
  cases x with
  | int i => cases y with
    | int j =>
      cases hz
      refine ⟨i, j, r1, r2, g1 i j, rfl, ?_⟩
      cases hb : g1 i j with
      | true =>
        rw [hb] at hf
        obtain ⟨⟨c, w3⟩, hc, hf⟩ := bind_some' hf
        obtain ⟨t, ht, hf⟩ := bind_some' hf
        refine iteT ⟨hd, S2, ρ, w2, c, w3, ok2, hc, fun q S3 H3 s3 n3 r3 => ?_⟩
        cases c with
        | int l =>
          cases ht
          cases hf
          exact ⟨_, _, r2, r3, _, rfl, k S3 H3 ((s1.trans s2).trans s3) n3⟩
        | _ => cases ht
      | false =>
        rw [hb] at hf
        cases hf
        exact iteF ⟨_, rfl, k S2 H2 (s1.trans s2) n2⟩
    | _ => cases hz
  | _ => cases hz
def fIfE (ft : FT) (f1 f2 : FE) : FE := fun ρ w => (ft ρ w).bind fun a => if a.1 = true then f1 ρ a.2 else f2 ρ a.2
theorem ce_ifE {c : Expr} (hc : CT C X c ft) (h1 : CE C X e1 f1) (h2 : CE C X e2 f2) : CE C X (.IfExp c e1 e2 pos) (fIfE ft f1 f2) := pe_imp (pe_ifExp hc h1 h2) fun σ H Q ⟨hd, S, ρ, w, d, w', ok, hf, k⟩ => by
  obtain ⟨⟨x, w1⟩, hx, hf⟩ := bind_some' hf
  refine ⟨hd, S, ρ, w, x, w1, ok, hx, fun S1 H1 s1 n1 => ?_⟩
  cases x with
  | true => exact iteT ⟨hd, S1, ρ, w1, d, w', ok.step s1 n1, hf, fun u S2 H2 s2 n2 r2 => k u S2 H2 (s1.trans s2) n2 r2⟩
  | false => exact iteF ⟨hd, S1, ρ, w1, d, w', ok.step s1 n1, hf, fun u S2 H2 s2 n2 r2 => k u S2 H2 (s1.trans s2) n2 r2⟩
end
end K39
end
section
set_option maxRecDepth 100000
set_option autoImplicit false
/-! S5: calls of defs and methods, what is walked, comprehensions -/
namespace K39
open PySem PySem.Spec PyProof.Rows L2
variable {K : PySem.W.Frag} {C : Addr}

/-! ### what a def promises: its meaning -/
abbrev Fn := List D → Wd → Option (D × Wd)
def spOf (K : PySem.W.Frag) (C : Addr) (n : Nat) (g : Fn) : Sp := fun vs H Q _ => ∃ hd S ds w d w', Same S H ∧ HandOk ⟨K, C, hd⟩ S H w ∧ RepL ⟨K, C, hd⟩ S ds vs ∧ vs.length = n ∧ g ds w = some (d, w') ∧
  ∀ v S' H', Step hd S H S' H' → HandOk ⟨K, C, hd⟩ S' H' w' → Rep ⟨K, C, hd⟩ S' d v → Q v H'
/-- the name x stands for a def of the meaning g; dd fills up its parameters -/
structure Callee (P : Program) (w : World) (K : PySem.W.Frag) (mg : Str → Option Value) (base : Heap) (C : Addr) (k : Nat) (x : Str) (n : Nat) (dd : List D) (g : Fn) : Prop where
  ex : ∃ (f : Addr) (fd : FuncData) (ps : List Str) (dvs : List V) (ds : List Value), FnOk P w K mg base CX0 k f fd ps (spOf K C n g) ∧ mg x = some (.ref f) ∧ PySem.W.keepIn K (.ref f) = true ∧ Binds K fd ps ds ∧ Vals dvs ds ∧ ∀ (g' : Gh) (S : Hp), RepL g' S dd dvs
structure MCallee (P : Program) (w : World) (K : PySem.W.Frag) (mg : Str → Option Value) (base : Heap) (C : Addr) (k : Nat) (m : Str) (n : Nat) (g : Fn) : Prop where
  ex : ∃ (f : Addr) (fd : FuncData) (ps : List Str), FnOk P w K mg base CX0 k f fd ps (spOf K C n g) ∧ Meth K C m f ∧ Binds K fd ps []
def fCall (g : Fn) (dd : List D) (n : Nat) (fl : FL) : FE := fun ρ w => (fl ρ w).bind fun a => if (a.1 ++ dd).length = n then g (a.1 ++ dd) a.2 else none
def fMeth (g : Fn) (n : Nat) (f : FE) (fl : FL) : FE := fun ρ w => (f ρ w).bind fun o => (fl ρ o.2).bind fun a => if a.1.length + 1 = n then (match o.1 with
  | .obj ds => g (.obj ds :: a.1) a.2
  | _ => none) else none
section
variable {X : Cx} {e e1 e2 e3 : Expr} {es : List Expr} {f f1 f2 f3 : FE} {fl : FL} {ft ft1 ft2 : FT} {pos p p2 p3 p4 apos : Pos} {k n : Nat} {x m : Str} {dd : List D} {g : Fn}
theorem ce_call (c : Callee X.prog X.w X.K X.mg X.base C k x n dd g) (hr : Room k X.A) (hg : Gl X x) (ha : CA C X (e :: es) fl) (hdb : (x == ("__debug__" : Str)) = false := by decide)
    (he : starEach (e :: es) X.env = (false, eval e X.env) :: starEach es X.env := by rfl) (hpl : (backTo pos (starEach es X.env)).any (·.1) = false := by rfl) : CE C X (.Call (.Name x p) (e :: es) [] pos) (fCall g dd n fl) := by
  obtain ⟨f, fd, ps, dvs, ds, F, hm, hk, hb, hv, hd⟩ := c.ex
  refine pe_imp (pe_call F hr hg hm hk hb hv pass0 ha hdb he hpl) fun σ H Q ⟨hd', S, ρ, w, d, w', ok, hf, q⟩ => ?_
  obtain ⟨⟨xs, w1⟩, hx, hf⟩ := bind_some' hf
  split at hf
  · rename_i hl
    refine ⟨hd', S, ρ, w, xs, w1, ok, hx, fun vs S1 H1 s1 n1 r1 => ?_⟩
    have r2 := r1.app (hd ⟨X.K, C, hd'⟩ S1)
    exact ⟨hd', S1, xs ++ dd, w1, d, w', s1.sh, n1, r2, by rw [r2.len]; exact hl, hf, fun v S2 H2 s2 n2 r => q v S2 H2 (s1.trans s2) n2 r⟩
  · cases hf
theorem ce_meth (c : MCallee X.prog X.w X.K X.mg X.base C k m n g) (hr : Room k X.A) (cl : Cls X.K C) (hna : m ∉ attrs) (ho : CE C X e1 f) (ha : CA C X (e :: es) fl) {pl : Sem Bool}
    (hst : starEach (e :: es) X.env = (false, eval e X.env) :: starEach es X.env := by rfl) (hpl : (backTo pos (starEach es X.env)).any (·.1) = false := by rfl)
    (ht : eval (.Call (.Attribute e1 m apos) (e :: es) [] pos) X.env = (do
      let ov ← eval e1 X.env
      standAt apos.atName
      let (f, first) ← holding [ov] (getMethod ov m pl)
      callWith pos f first (backTo pos (starEach (e :: es) X.env)) (backToKw pos (keywordEach [] X.env))) := by rfl) : CE C X (.Call (.Attribute e1 m apos) (e :: es) [] pos) (fMeth g n f fl) := by
  obtain ⟨fa, fd, ps, F, hm, hb⟩ := c.ex
  refine pe_imp (pe_meth ho cl hm F hr hb .nil pass0 ha hst hpl ht) fun σ H Q ⟨hd', S, ρ, w, d, w', ok, hf, q⟩ => ?_
  obtain ⟨⟨o, w1⟩, hx, hf⟩ := bind_some' hf
  obtain ⟨⟨xs, w2⟩, hx2, hf⟩ := bind_some' hf
  split at hf
  · rename_i hl
    cases o with
    | obj ds =>
      refine ⟨hd', S, ρ, w, _, _, ok, hx, fun v S1 H1 s1 n1 r1 => ?_⟩
      obtain ⟨a, dx, vs, rfl, h1, h2, h3⟩ := id r1
      refine ⟨a, dx, _, rfl, s1.sh _ _ h1, zip_lookup_none hna, hd', S1, ρ, w1, xs, w2, ok.step s1 n1, hx2, fun us S2 H2 s2 n2 r2 => ?_⟩
      refine ⟨hd', S2, .obj ds :: xs, w2, d, w', s2.sh, n2, ⟨_, us ++ [], rfl, r1.mono s2.ss, by rw [List.append_nil]; exact r2⟩, ?_, hf, fun v S3 H3 s3 n3 r => q v S3 H3 ((s1.trans s2).trans s3) n3 r⟩
      rw [List.length_cons, List.append_nil, r2.len]
      exact hl
    | _ => cases hf
  · cases hf

end

/-! ### index -/
def idxD (ds : List D) (k : Int) : Option Int := (unInts ds).bind fun ns => if k ∈ ns then some ((ns.idxOf k : Nat) : Int) else none
theorem idxD_ok {ds : List D} {k j : Int} (h : idxD ds k = some j) : ∃ ns, ds = dI ns ∧ k ∈ ns ∧ j = ((ns.idxOf k : Nat) : Int) := by
  obtain ⟨ns, h1, h2⟩ := bind_some' h
  by_cases hk : k ∈ ns
  · rw [if_pos hk] at h2
    exact ⟨ns, unInts_ok h1, hk, (Option.some.inj h2).symm⟩
  · rw [if_neg hk] at h2
    cases h2
def fIdx (f1 f2 : FE) : FE := fun ρ w => (f1 ρ w).bind fun a => (f2 ρ a.2).bind fun b => match a.1, b.1 with
  | .lst ds, .int k => (idxD ds k).map fun j => (.int j, b.2)
  | _, _ => none
def fIdxT (f1 f2 : FE) : FE := fun ρ w => (f1 ρ w).bind fun a => (f2 ρ a.2).bind fun b => match a.1, b.1 with
  | .tup ds, .int k => (idxD ds k).map fun j => (.int j, b.2)
  | _, _ => none
section
variable {X : Cx} {e e1 e2 e3 : Expr} {es : List Expr} {f f1 f2 f3 : FE} {fl : FL} {pos p p2 p3 p4 apos : Pos}
theorem ce_idxL (h1 : CE C X e1 f1) (h2 : CE C X e f2)
    (hbase : attributeBase e1 "index" X.env (eval e1 X.env) = eval e1 X.env := by rfl)
    (hfew : ((backTo pos (starEach [e] X.env)).all (fun x => !x.1) && (backToKw pos (keywordEach [] X.env)).all (fun x => x.1.isSome) && decide ([e].length + ([] : List Keyword).length + (if ([] : List Keyword).isEmpty then 0 else 1) < 30)) = true := by rfl)
    (hline : (apos.endLine == pos.line) = true := by rfl) (hs : starEach [e] X.env = (false, eval e X.env) :: starEach [] X.env := by rfl) (hplain : (backTo pos (starEach [] X.env)).any (·.1) = false := by rfl) :
    CE C X (.Call (.Attribute e1 "index" apos) [e] [] pos) (fIdx f1 f2) :=
  pe_imp (pe_bm PySem.F.plainAttrs_list PySem.F.slot_list_index PySem.F.type_list_index mt_idxL h1 (pa_cons h2 pa_nil hs) hbase hfew hline hs hplain) fun σ H Q ⟨hd, S, ρ, w, d, w', ok, hf, q⟩ => by
    obtain ⟨⟨a, w1⟩, ha, hf⟩ := bind_some' hf
    obtain ⟨⟨b, w2⟩, hb, hf⟩ := bind_some' hf
    cases a with
    | lst ds => cases b with
      | int k =>
        obtain ⟨j, h3, hf⟩ := map_some' hf
        cases hf
        obtain ⟨ns, rfl, hk, rfl⟩ := idxD_ok h3
        refine ⟨hd, S, ρ, w, _, _, ok, ha, fun v S1 H1 s1 n1 r1 => ?_⟩
        obtain ⟨z, rfl, h4⟩ := RepB.lstI (.inl r1) s1.sh
        refine ⟨.inl ⟨rfl, _, .of h4⟩, hd, S1, ρ, w1, _, _, ok.step s1 n1, hb, fun u S2 H2 s2 n2 r2 => ?_⟩
        obtain ⟨z', e4, h5⟩ := RepB.lstI (.inl (r1.mono s2.ss)) s2.sh
        cases e4
        exact ⟨z, ns, k, rfl, by rw [show u = _ from r2], .of h5, hk, q _ S2 H2 (s1.trans s2) n2 rfl⟩
      | _ => cases hf
    | _ => cases hf
theorem ce_idxT (h1 : CE C X e1 f1) (h2 : CE C X e f2)
    (hbase : attributeBase e1 "index" X.env (eval e1 X.env) = eval e1 X.env := by rfl)
    (hfew : ((backTo pos (starEach [e] X.env)).all (fun x => !x.1) && (backToKw pos (keywordEach [] X.env)).all (fun x => x.1.isSome) && decide ([e].length + ([] : List Keyword).length + (if ([] : List Keyword).isEmpty then 0 else 1) < 30)) = true := by rfl)
    (hline : (apos.endLine == pos.line) = true := by rfl) (hs : starEach [e] X.env = (false, eval e X.env) :: starEach [] X.env := by rfl) (hplain : (backTo pos (starEach [] X.env)).any (·.1) = false := by rfl) :
    CE C X (.Call (.Attribute e1 "index" apos) [e] [] pos) (fIdxT f1 f2) :=
  pe_imp (pe_idxT h1 h2 hbase hfew hline hs hplain) fun σ H Q ⟨hd, S, ρ, w, d, w', ok, hf, q⟩ => by
    obtain ⟨⟨a, w1⟩, ha, hf⟩ := bind_some' hf
    obtain ⟨⟨b, w2⟩, hb, hf⟩ := bind_some' hf
    cases a with
    | tup ds => cases b with
      | int k =>
        obtain ⟨j, h3, hf⟩ := map_some' hf
        cases hf
        obtain ⟨ns, rfl, hk, rfl⟩ := idxD_ok h3
        refine ⟨hd, S, ρ, w, _, _, ok, ha, fun v S1 H1 s1 n1 r1 => ?_⟩
        obtain ⟨z, vs, o, rfl, h4, h5, h6⟩ := r1
        rw [h6.ofI] at h5
        refine ⟨z, o, ns, rfl, h4, s1.sh _ _ h5, hd, S1, ρ, w1, _, _, ok.step s1 n1, hb, fun u S2 H2 s2 n2 r2 => ?_⟩
        exact ⟨k, by rw [show u = _ from r2], hk, s2.sh _ _ (s2.ss _ _ h5), q _ S2 H2 (s1.trans s2) n2 rfl⟩
      | _ => cases hf
    | _ => cases hf
end

/-! ### what is walked -/
/-- J walks the items while P holds of the stable part and the heap -/
structure WalkD {α : Type} (g : Gh) (RI : Gh → Hp → Hp → α → V → Prop) (J : It) (items : List α) (P : Hp → Hp → Prop) : Prop where
  ex : ∃ (Gd : Hp → Prop) (Y : Nat → Hp → V → Hp → Prop), Walk J items.length Gd Y ∧ (∀ S H, P S H → Gd H) ∧ ∀ i S H x H2 d, items[i]? = some d → P S H → Same S H → Y i H x H2 → ∃ S2, Step none S H S2 H2 ∧ RI g S2 H2 d x
theorem WalkD.imp {α : Type} {g : Gh} {RI : Gh → Hp → Hp → α → V → Prop} {J : It} {items : List α} {P P' : Hp → Hp → Prop} (h : WalkD g RI J items P) (k : ∀ S H, P' S H → P S H) : WalkD g RI J items P' := by
  obtain ⟨Gd, Y, h1, h2, h3⟩ := h.ex
  exact ⟨Gd, Y, h1, fun S H p => h2 S H (k S H p), fun i S H x H2 d hd p => h3 i S H x H2 d hd (k S H p)⟩
def RI1 (g : Gh) (S H : Hp) (d : D) (x : V) : Prop := Rep g S d x
def RI2 (g : Gh) (S H : Hp) (d : D × D) (x : V) : Prop := ∃ T v u, x = .ref T ∧ H T = some (.tup [v, u]) ∧ Rep g S d.1 v ∧ Rep g S d.2 u
/-- stable: the items' list may be anything that stays -/
def PS0 (S0 : Hp) : Hp → Hp → Prop := fun S H => Same S0 S ∧ Same S H
/-- borrowed: while every step is kept -/
def PB0 (hd : Option Addr) (S0 H0 : Hp) : Hp → Hp → Prop := fun S H => Step hd S0 H0 S H
abbrev FI (α : Type) := En → Wd → Option (List α × Wd)
def canI {α : Type} (RI : Gh → Hp → Hp → α → V → Prop) (K : PySem.W.Frag) (C : Addr) (f : FI α) : TI := fun σ H R => ∃ hd S ρ w items w', Ok ⟨K, C, hd⟩ S H σ ρ w ∧ f ρ w = some (items, w') ∧
  ∀ S' H' J, Step hd S H S' H' → HandOk ⟨K, C, hd⟩ S' H' w' → WalkD ⟨K, C, hd⟩ RI J items (PS0 S') → R J H'
def canIB {α : Type} (RI : Gh → Hp → Hp → α → V → Prop) (K : PySem.W.Frag) (C : Addr) (f : FI α) : TI := fun σ H R => ∃ hd S ρ w items w', Ok ⟨K, C, hd⟩ S H σ ρ w ∧ f ρ w = some (items, w') ∧
  ∀ S' H' J, Step hd S H S' H' → HandOk ⟨K, C, hd⟩ S' H' w' → WalkD ⟨K, C, hd⟩ RI J items (PB0 hd S' H') → R J H'
abbrev CI1 (C : Addr) (X : Cx) (tg e : Expr) (f : FI D) : Prop := PI X tg e (canI RI1 X.K C f)
abbrev CI2 (C : Addr) (X : Cx) (tg e : Expr) (f : FI (D × D)) : Prop := PI X tg e (canI RI2 X.K C f)
abbrev CB1 (C : Addr) (X : Cx) (tg e : Expr) (f : FI D) : Prop := PI X tg e (canIB RI1 X.K C f)
abbrev CB2 (C : Addr) (X : Cx) (tg e : Expr) (f : FI (D × D)) : Prop := PI X tg e (canIB RI2 X.K C f)
theorem pi_imp {X : Cx} {tg e : Expr} {t t' : TI} (h : PI X tg e t) (k : ∀ σ H R, t' σ H R → t σ H R) : PI X tg e t' := ⟨fun pins s σ H R I q => h.run pins s σ H R I (k σ H R q)⟩
theorem ps_pb {hd : Option Addr} {S0 H0 S H : Hp} (h : PB0 hd S0 H0 S H) : PS0 S0 S H := ⟨h.ss, h.sh⟩
theorem ci_b {α : Type} {RI : Gh → Hp → Hp → α → V → Prop} {X : Cx} {tg e : Expr} {f : FI α} (h : PI X tg e (canI RI X.K C f)) : PI X tg e (canIB RI X.K C f) :=
  pi_imp h fun σ H R ⟨hd, S, ρ, w, items, w', ok, hf, k⟩ => ⟨hd, S, ρ, w, items, w', ok, hf, fun S' H' J s n wk => k S' H' J s n (wk.imp fun _ _ => ps_pb)⟩

/-! a list or a tuple -/
def ItqK (K : PySem.W.Frag) (k : Bool) (a : Addr) : It := match k with
  | true => Itl K a
  | false => Itt K a
theorem walk_q {k : Bool} {a : Addr} {xs : List V} : Walk (ItqK K k a) xs.length (fun H => SqK K k H a xs) (YAt xs) := by
  cases k with
  | true => exact walk_list
  | false => exact walk_tup
def iSeqK (K : PySem.W.Frag) (te : TE) : TI := fun σ H R => te σ H fun v H1 => ∃ k a xs, v = .ref a ∧ SqK K k H1 a xs ∧ R (ItqK K k a) H1
theorem pi_seqK {X : Cx} {tg e : Expr} {te : TE} (he : PE X e te) : PI X tg e (iSeqK X.K te) := ⟨fun pins s σ H R I h => by
  refine thn (he.run pins s σ H _ I h) ?_
  rintro v s1 ⟨x, H1, I1, r1, k, a, xs, rfl, hq, q⟩
  cases r1
  have fresh : ∀ b ∈ [s1.heap.objs.size], FpOk X pins H1 b := fun b hb => by
    rw [List.mem_singleton.mp hb]
    exact I1.fpOk (Nat.le_refl _) (I1.hok.fresh (Nat.le_refl _))
  cases k with
  | true =>
    obtain ⟨its, rv, p, _⟩ := I1.list hq
    exact wpAny_pyIter_list p.isList ⟨_, [s1.heap.objs.size], _, _, H1, rfl, I1.kept (t' := s1.toks) fun b o e => Heap.get?_push_of_some _ e, turn_list a _, ⟨_, Heap.get?_push_size _ rfl, rfl, rfl⟩, fresh, q⟩
  | false =>
    obtain ⟨its, rv, p, _⟩ := I1.tuple hq
    exact wpAny_pyIter_tuple (show s1.heap.IsTuple a its.toArray from p) ⟨_, [s1.heap.objs.size], _, _, H1, rfl, I1.kept (t' := s1.toks) fun b o e => Heap.get?_push_of_some _ e, turn_tuple a _, ⟨_, Heap.get?_push_size _ rfl, rfl, rfl⟩, fresh, q⟩⟩
/-- the items of a value -/
def itemsD : D → Option (List D)
  | .lst ds => some ds
  | .tup ds => some ds
  | .scr ns => some (dI ns)
  | _ => none
theorem sqk_stable {hd : Option Addr} {S H : Hp} {d : D} {ds : List D} {v : V} (m : Same S H) (h : itemsD d = some ds) (r : Rep ⟨K, C, hd⟩ S d v) : ∃ k a vs, v = .ref a ∧ RepL ⟨K, C, hd⟩ S ds vs ∧ ∀ S' H', Same S S' → Same S' H' → SqK K k H' a vs := by
  cases d with
  | lst es =>
    cases h
    obtain ⟨a, vs, rfl, h1, h2⟩ := r
    exact ⟨true, a, vs, rfl, h2, fun S' H' s1 s2 => SqL.of (s2 _ _ (s1 _ _ h1))⟩
  | tup es =>
    cases h
    obtain ⟨a, vs, o, rfl, _, h1, h2⟩ := r
    exact ⟨false, a, vs, rfl, h2, fun S' H' s1 s2 => sqt_of (s2 _ _ (s1 _ _ h1))⟩
  | scr ns =>
    cases h
    obtain ⟨a, rfl, h1⟩ := r
    exact ⟨true, a, _, rfl, RepL.toI ns, fun S' H' s1 s2 => s2.seq (s1.seq h1)⟩
  | non => cases h
  | bl _ => cases h
  | int _ => cases h
  | obj _ => cases h
  | hand => cases h
theorem sqk_borrow {hd : Option Addr} {S H : Hp} {d : D} {ds : List D} {v : V} (m : Same S H) (h : itemsD d = some ds) (r : RepB ⟨K, C, hd⟩ S H d v) : ∃ k a vs, v = .ref a ∧ RepL ⟨K, C, hd⟩ S ds vs ∧ ∀ S' H', Step hd S H S' H' → SqK K k H' a vs := by
  rcases r with r | ⟨es, a, vs, rfl, rfl, h1, h2, h3⟩
  · obtain ⟨k, a, vs, h1, h2, h3⟩ := sqk_stable m h r
    exact ⟨k, a, vs, h1, h2, fun S' H' s => h3 S' H' s.ss s.sh⟩
  · cases h
    exact ⟨true, a, vs, rfl, h3, fun S' H' s => SqL.of (s.kp _ _ h2 h1)⟩
def fItems (f : FE) : FI D := fun ρ w => (f ρ w).bind fun a => (itemsD a.1).map fun ds => (ds, a.2)
def enumD : Nat → List D → List (D × D)
  | _, [] => []
  | i, d :: ds => (.int (i : Nat), d) :: enumD (i + 1) ds
theorem enumD_len : ∀ (ds : List D) (i : Nat), (enumD i ds).length = ds.length
  | [], _ => rfl
  | d :: ds, i => by
    show (enumD (i + 1) ds).length + 1 = ds.length + 1
    rw [enumD_len ds]
theorem enumD_get : ∀ (ds : List D) (i j : Nat), (enumD i ds)[j]? = (ds[j]?).map fun d => (.int ((i + j : Nat) : Int), d)
  | [], _, _ => rfl
  | d :: ds, i, 0 => rfl
  | d :: ds, i, j + 1 => by
    show (enumD (i + 1) ds)[j]? = (ds[j]?).map fun d => (.int ((i + (j + 1) : Nat) : Int), d)
    rw [enumD_get ds (i + 1) j, show i + 1 + j = i + (j + 1) by omega]
def fEnum (f : FE) : FI (D × D) := fun ρ w => (f ρ w).bind fun a => (itemsD a.1).map fun ds => (enumD 0 ds, a.2)
def fZip (f1 f2 : FE) : FI (D × D) := fun ρ w => (f1 ρ w).bind fun a => (f2 ρ a.2).bind fun b => (itemsD a.1).bind fun xs => (itemsD b.1).map fun ys => (xs.zip ys, b.2)
theorem yat_ok {hd : Option Addr} {S0 : Hp} {ds : List D} {vs : List V} {P : Hp → Hp → Prop} (r : RepL ⟨K, C, hd⟩ S0 ds vs) (hp : ∀ S H, P S H → Same S0 S) : ∀ i S H x H2 d, ds[i]? = some d → P S H → Same S H → YAt vs i H x H2 → ∃ S2, Step none S H S2 H2 ∧ RI1 ⟨K, C, hd⟩ S2 H2 d x := by
  rintro i S H x H2 d hd' p m ⟨rfl, hx⟩
  obtain ⟨v, h1, h2⟩ := r.get hd'
  rw [hx] at h1
  cases h1
  exact ⟨S, .refl m, h2.mono (hp S _ p)⟩
theorem pair_ok {g : Gh} {S H : Hp} {T : Addr} {v u : V} {a b : D} (m : Same S H) (hT : H T = none) (r1 : Rep g S a v) (r2 : Rep g S b u) : ∃ S2, Step none S H S2 (upd H T (.tup [v, u])) ∧ RI2 g S2 (upd H T (.tup [v, u])) (a, b) (.ref T) :=
  ⟨S, .new m hT, T, v, u, rfl, upd_same, r1, r2⟩
section
variable {X : Cx} {tg e e1 e2 e3 : Expr} {es : List Expr} {f f1 f2 f3 : FE} {fl : FL} {pos p tpos : Pos} {elts : List Expr} {kk : Nat}
theorem ci_seq (h : CE C X e f) : CI1 C X tg e (fItems f) := pi_imp (pi_seqK h) fun σ H R ⟨hd, S, ρ, w, items, w', ok, hf, k⟩ => by
  obtain ⟨⟨x, w1⟩, hx, hf⟩ := bind_some' hf
  obtain ⟨ds, hi, hf⟩ := map_some' hf
  cases hf
  refine ⟨hd, S, ρ, w, x, w1, ok, hx, fun v S1 H1 s1 n1 r1 => ?_⟩
  obtain ⟨kd, a, vs, rfl, h2, h3⟩ := sqk_stable s1.sh hi r1
  refine ⟨kd, a, vs, rfl, h3 S1 H1 (.refl _) s1.sh, k S1 H1 _ s1 n1 ⟨_, _, ?_, fun S' H' q => h3 S' H' q.1 q.2, yat_ok h2 fun _ _ q => q.1⟩⟩
  rw [← h2.len]
  exact walk_q
theorem cb_seq (h : CB C X e f) : CB1 C X tg e (fItems f) := pi_imp (pi_seqK h) fun σ H R ⟨hd, S, ρ, w, items, w', ok, hf, k⟩ => by
  obtain ⟨⟨x, w1⟩, hx, hf⟩ := bind_some' hf
  obtain ⟨ds, hi, hf⟩ := map_some' hf
  cases hf
  refine ⟨hd, S, ρ, w, x, w1, ok, hx, fun v S1 H1 s1 n1 r1 => ?_⟩
  obtain ⟨kd, a, vs, rfl, h2, h3⟩ := sqk_borrow s1.sh hi r1
  refine ⟨kd, a, vs, rfl, h3 S1 H1 (.refl s1.sh), k S1 H1 _ s1 n1 ⟨_, _, ?_, fun S' H' q => h3 S' H' q, yat_ok h2 fun _ _ q => q.ss⟩⟩
  rw [← h2.len]
  exact walk_q
theorem walk_e {k : Bool} {a : Addr} {xs : List V} : Walk (IteK K k a) xs.length (fun H => SqK K k H a xs) (YPair (fun i => some (.int (i : Nat))) (fun i => xs[i]?)) where
  goes := fun i _ hi q => ⟨xs, xs[i], q, List.getElem?_eq_getElem hi⟩
  stops := fun _ q => ⟨xs, q, Nat.le_refl _⟩
  yields := fun i H v H' _ q ⟨T, x, h1, h2, h3, h4⟩ => ⟨T, .int (i : Nat), x, h1, h2, h3, rfl, h4 xs q⟩
theorem walk_z {k l : Bool} {a b : Addr} {xs ys : List V} : Walk (ItzK K k l a b) (min xs.length ys.length) (fun H => SqK K k H a xs ∧ SqK K l H b ys) (YPair (fun i => xs[i]?) (fun i => ys[i]?)) where
  goes := fun i _ hi q => ⟨xs, ys, xs[i]'(by omega), ys[i]'(by omega), q.1, q.2, List.getElem?_eq_getElem (by omega), List.getElem?_eq_getElem (by omega)⟩
  stops := fun _ q => ⟨xs, ys, q.1, q.2, by omega, by omega, by omega⟩
  yields := fun i H v H' _ q ⟨T, x, y, h1, h2, h3, h4, h5⟩ => ⟨T, x, y, h1, h2, h3, h4 xs q.1, h5 ys q.2⟩
theorem ypair_e {hd : Option Addr} {S0 : Hp} {ds : List D} {vs : List V} {P : Hp → Hp → Prop} (r : RepL ⟨K, C, hd⟩ S0 ds vs) (hp : ∀ S H, P S H → Same S0 S) : ∀ i S H x H2 d, (enumD 0 ds)[i]? = some d → P S H → Same S H → YPair (fun i => some (.int (i : Nat))) (fun i => vs[i]?) i H x H2 → ∃ S2, Step none S H S2 H2 ∧ RI2 ⟨K, C, hd⟩ S2 H2 d x := by
  rintro i S H x H2 d hd' p m ⟨T, v, u, rfl, hT, rfl, hv, hu⟩
  rw [enumD_get] at hd'
  obtain ⟨d0, h0, rfl⟩ := map_some' hd'
  obtain ⟨u', h1, h2⟩ := r.get h0
  have hu' : vs[i]? = some u := hu
  rw [h1] at hu'
  cases hu'
  cases hv
  refine pair_ok m hT ?_ (h2.mono (hp S _ p))
  rw [Nat.zero_add]
  rfl
theorem ypair_z {hd : Option Addr} {S0 : Hp} {ds es : List D} {vs us : List V} {P : Hp → Hp → Prop} (r : RepL ⟨K, C, hd⟩ S0 ds vs) (r2 : RepL ⟨K, C, hd⟩ S0 es us) (hp : ∀ S H, P S H → Same S0 S) : ∀ i S H x H2 d, (ds.zip es)[i]? = some d → P S H → Same S H → YPair (fun i => vs[i]?) (fun i => us[i]?) i H x H2 → ∃ S2, Step none S H S2 H2 ∧ RI2 ⟨K, C, hd⟩ S2 H2 d x := by
  rintro i S H x H2 ⟨d1, d2⟩ hd' p m ⟨T, v, u, rfl, hT, rfl, hv, hu⟩
  obtain ⟨h1, h2⟩ := List.getElem?_zip_eq_some.mp hd'
  obtain ⟨v', h3, h4⟩ := r.get h1
  obtain ⟨u', h5, h6⟩ := r2.get h2
  have hv' : vs[i]? = some v := hv
  have hu' : us[i]? = some u := hu
  rw [h3] at hv'
  rw [h5] at hu'
  cases hv'
  cases hu'
  exact pair_ok m hT (h4.mono (hp S _ p)) (h6.mono (hp S _ p))
theorem ci_enum (hg : Gl X "enumerate") (hm : X.mg "enumerate" = none) (h : CE C X e f) (hs : starEach [e] X.env = [(false, eval e X.env)] := by rfl) (hs2 : starEach [e] X.env = (false, eval e X.env) :: starEach [] X.env := by rfl) :
    CI2 C X (.Tuple elts kk tpos) (.Call (.Name "enumerate" p) [e] [] pos) (fEnum f) := pi_imp (pi_enumK hg hm (pa_cons h pa_nil hs2) hs) fun σ H R ⟨hd, S, ρ, w, items, w', ok, hf, k⟩ => by
  obtain ⟨⟨x, w1⟩, hx, hf⟩ := bind_some' hf
  obtain ⟨ds, hi, hf⟩ := map_some' hf
  cases hf
  refine ⟨hd, S, ρ, w, x, w1, ok, hx, fun v S1 H1 s1 n1 r1 => ?_⟩
  obtain ⟨kd, a, vs, rfl, h2, h3⟩ := sqk_stable s1.sh hi r1
  refine ⟨kd, a, vs, rfl, h3 S1 H1 (.refl _) s1.sh, k S1 H1 _ s1 n1 ⟨_, _, ?_, fun S' H' q => h3 S' H' q.1 q.2, ypair_e h2 fun _ _ q => q.1⟩⟩
  rw [enumD_len, ← h2.len]
  exact walk_e
theorem cb_enum (hg : Gl X "enumerate") (hm : X.mg "enumerate" = none) (h : CB C X e f) (hs : starEach [e] X.env = [(false, eval e X.env)] := by rfl) (hs2 : starEach [e] X.env = (false, eval e X.env) :: starEach [] X.env := by rfl) :
    CB2 C X (.Tuple elts kk tpos) (.Call (.Name "enumerate" p) [e] [] pos) (fEnum f) := pi_imp (pi_enumK hg hm (pa_cons h pa_nil hs2) hs) fun σ H R ⟨hd, S, ρ, w, items, w', ok, hf, k⟩ => by
  obtain ⟨⟨x, w1⟩, hx, hf⟩ := bind_some' hf
  obtain ⟨ds, hi, hf⟩ := map_some' hf
  cases hf
  refine ⟨hd, S, ρ, w, x, w1, ok, hx, fun v S1 H1 s1 n1 r1 => ?_⟩
  obtain ⟨kd, a, vs, rfl, h2, h3⟩ := sqk_borrow s1.sh hi r1
  refine ⟨kd, a, vs, rfl, h3 S1 H1 (.refl s1.sh), k S1 H1 _ s1 n1 ⟨_, _, ?_, fun S' H' q => h3 S' H' q, ypair_e h2 fun _ _ q => q.ss⟩⟩
  rw [enumD_len, ← h2.len]
  exact walk_e
theorem ci_zip (hg : Gl X "zip") (hm : X.mg "zip" = none) (h1 : CE C X e1 f1) (h2 : CE C X e2 f2) (hs : starEach [e1, e2] X.env = (false, eval e1 X.env) :: starEach [e2] X.env := by rfl) (hs2 : starEach [e2] X.env = (false, eval e2 X.env) :: starEach [] X.env := by rfl) (hpl : (backTo pos (starEach [e2] X.env)).any (·.1) = false := by rfl) :
    CI2 C X (.Tuple elts kk tpos) (.Call (.Name "zip" p) [e1, e2] [] pos) (fZip f1 f2) := pi_imp (pi_zipK hg hm (pa_cons h1 (pa_cons h2 pa_nil hs2) hs) hs hpl) fun σ H R ⟨hd, S, ρ, w, items, w', ok, hf, k⟩ => by
  obtain ⟨⟨x, w1⟩, hx, hf⟩ := bind_some' hf
  obtain ⟨⟨y, w2⟩, hy, hf⟩ := bind_some' hf
  obtain ⟨xs, hi, hf⟩ := bind_some' hf
  obtain ⟨ys, hj, hf⟩ := map_some' hf
  cases hf
  refine ⟨hd, S, ρ, w, x, w1, ok, hx, fun v S1 H1 s1 n1 r1 => ?_⟩
  refine ⟨hd, S1, ρ, w1, y, w2, ok.step s1 n1, hy, fun u S2 H2 s2 n2 r2 => ?_⟩
  obtain ⟨kd, a, vs, rfl, q1, q2⟩ := sqk_stable s2.sh hi (r1.mono s2.ss)
  obtain ⟨ke, b, us, rfl, q3, q4⟩ := sqk_stable s2.sh hj r2
  have wk : WalkD ⟨X.K, C, hd⟩ RI2 (ItzK X.K kd ke a b) (xs.zip ys) (PS0 S2) := by
    refine ⟨fun H => SqK X.K kd H a vs ∧ SqK X.K ke H b us, _, ?_, fun S' H' q => ⟨q2 S' H' q.1 q.2, q4 S' H' q.1 q.2⟩, ypair_z q1 q3 fun _ _ q => q.1⟩
    rw [List.length_zip, ← q1.len, ← q3.len]
    exact walk_z
  exact ⟨kd, ke, a, b, vs, us, rfl, q2 S2 H2 (.refl _) s2.sh, q4 S2 H2 (.refl _) s2.sh, k S2 H2 _ (s1.trans s2) n2 wk⟩
/-! ranges -/
def big (i : Int) : Bool := decide (i.natAbs < 4611686018427387904)
theorem big_ok {i : Int} (h : big i = true) : -(2 ^ 62) ≤ i ∧ i < 2 ^ 62 := by
  have := of_decide_eq_true h
  omega
def rangeD (lo c : Int) (n : Nat) : List D := (List.range n).map fun i => .int (lo + (i : Nat) * c)
theorem rangeD_len (lo c : Int) (n : Nat) : (rangeD lo c n).length = n := by
  unfold rangeD
  rw [List.length_map, List.length_range]
theorem rangeD_get {lo c : Int} {n i : Nat} {d : D} (h : (rangeD lo c n)[i]? = some d) : d = .int (lo + (i : Nat) * c) := by
  unfold rangeD at h
  rw [List.getElem?_map] at h
  obtain ⟨j, h1, rfl⟩ := map_some' h
  obtain ⟨h2, h3⟩ := List.getElem?_eq_some_iff.mp h1
  rw [List.getElem_range] at h3
  rw [h3]
theorem range_walk {g : Gh} {P : Hp → Hp → Prop} {lo : Int} {n : Nat} : WalkD g RI1 (Itr lo n) (rangeD lo 1 n) P := by
  refine ⟨fun _ => True, YFn fun i => .int (lo + i), by rw [rangeD_len]; exact walk_range, fun _ _ _ => trivial, ?_⟩
  rintro i S H x H2 d hd p m ⟨rfl, rfl⟩
  refine ⟨S, .refl m, ?_⟩
  rw [rangeD_get hd, Int.mul_one]
  rfl
theorem rangeC_walk {g : Gh} {P : Hp → Hp → Prop} {lo c : Int} {n : Nat} : WalkD g RI1 (Itc lo c n) (rangeD lo c n) P := by
  refine ⟨fun _ => True, YFn fun i => .int (lo + (i : Nat) * c), by rw [rangeD_len]; exact walk_rangeC, fun _ _ _ => trivial, ?_⟩
  rintro i S H x H2 d hd p m ⟨rfl, rfl⟩
  refine ⟨S, .refl m, ?_⟩
  rw [rangeD_get hd]
  rfl
def rng : List D → Option (List D)
  | [.int j] => if big j = true then some (rangeD 0 1 j.toNat) else none
  | [.int i, .int j] => if (big i && big j) = true then some (rangeD i 1 (j - i).toNat) else none
  | [.int i, .int j, .int c] => if (big i && big j) = true ∧ c = -1 then some (rangeD i (-1) (i - j).toNat) else none
  | _ => none
def fRng (fl : FL) : FI D := fun ρ w => (fl ρ w).bind fun a => (rng a.1).map fun ds => (ds, a.2)
theorem repl1 {g : Gh} {S : Hp} {d : D} {vs : List V} (r : RepL g S [d] vs) : ∃ v, vs = [v] ∧ Rep g S d v := by
  obtain ⟨v, t, rfl, h1, h2⟩ := r
  have e : t = [] := h2
  exact ⟨v, by rw [e], h1⟩
theorem ci_rng1 (hg : Gl X "range") (hm : X.mg "range" = none) (ha : CA C X [e] fl) (hs : starEach [e] X.env = [(false, eval e X.env)] := by rfl) (h1 : ∀ ρ w ds w', fl ρ w = some (ds, w') → ds.length = 1) : CI1 C X tg (.Call (.Name "range" p) [e] [] pos) (fRng fl) :=
  pi_imp (pi_range1 hg hm ha hs) fun σ H R ⟨hd, S, ρ, w, items, w', ok, hf, k⟩ => by
    obtain ⟨⟨xs, w1⟩, hx, hf⟩ := bind_some' hf
    obtain ⟨ds, hi, hf⟩ := map_some' hf
    cases hf
    refine ⟨hd, S, ρ, w, xs, w1, ok, hx, fun vs S1 H1 s1 n1 r1 => ?_⟩
    have hl := h1 ρ w xs w1 hx
    match xs, hl, hi, r1 with
    | [x], _, hi, r1 =>
      cases x with
      | int j =>
        have hi2 : (if big j = true then some (rangeD 0 1 j.toNat) else none) = some items := hi
        by_cases hb : big j = true
        · rw [if_pos hb] at hi2
          cases hi2
          obtain ⟨v, rfl, r2⟩ := repl1 r1
          obtain ⟨b1, b2⟩ := big_ok hb
          exact ⟨_, by rw [show v = _ from r2], b1, b2, k S1 H1 _ s1 n1 range_walk⟩
        · rw [if_neg hb] at hi2
          cases hi2
      | _ => cases hi
theorem ci_rng2 (hg : Gl X "range") (hm : X.mg "range" = none) (ha : CA C X [e1, e2] fl) (hs : starEach [e1, e2] X.env = [(false, eval e1 X.env), (false, eval e2 X.env)] := by rfl) (hs2 : starEach [e2] X.env = [(false, eval e2 X.env)] := by rfl) (h1 : ∀ ρ w ds w', fl ρ w = some (ds, w') → ds.length = 2) : CI1 C X tg (.Call (.Name "range" p) [e1, e2] [] pos) (fRng fl) :=
  pi_imp (pi_range2 hg hm ha hs hs2) fun σ H R ⟨hd, S, ρ, w, items, w', ok, hf, k⟩ => by
    obtain ⟨⟨xs, w1⟩, hx, hf⟩ := bind_some' hf
    obtain ⟨ds, hi, hf⟩ := map_some' hf
    cases hf
    refine ⟨hd, S, ρ, w, xs, w1, ok, hx, fun vs S1 H1 s1 n1 r1 => ?_⟩
    have hl := h1 ρ w xs w1 hx
    match xs, hl, hi, r1 with
    | [x, y], _, hi, r1 =>
      cases x with
      | int i => cases y with
        | int j =>
          have hi2 : (if (big i && big j) = true then some (rangeD i 1 (j - i).toNat) else none) = some items := hi
          by_cases hb : (big i && big j) = true
          · rw [if_pos hb] at hi2
            cases hi2
            obtain ⟨v, t, rfl, r2, r3⟩ := r1
            obtain ⟨u, rfl, r4⟩ := repl1 r3
            obtain ⟨c1, c2⟩ := (Bool.and_eq_true _ _).mp hb
            obtain ⟨b1, b2⟩ := big_ok c1
            obtain ⟨b3, b4⟩ := big_ok c2
            exact ⟨_, _, by rw [show v = _ from r2, show u = _ from r4], ⟨b1, b2, b3, b4⟩, k S1 H1 _ s1 n1 range_walk⟩
          · rw [if_neg hb] at hi2
            cases hi2
        | _ => cases hi
      | _ => cases hi
theorem ci_rng3 (hg : Gl X "range") (hm : X.mg "range" = none) (ha : CA C X [e1, e2, e3] fl) (hs : starEach [e1, e2, e3] X.env = (false, eval e1 X.env) :: starEach [e2, e3] X.env := by rfl) (hpl : (backTo pos (starEach [e2, e3] X.env)).any (·.1) = false := by rfl) (h1 : ∀ ρ w ds w', fl ρ w = some (ds, w') → ds.length = 3) : CI1 C X tg (.Call (.Name "range" p) [e1, e2, e3] [] pos) (fRng fl) :=
  pi_imp (pi_range3 hg hm ha hs hpl) fun σ H R ⟨hd, S, ρ, w, items, w', ok, hf, k⟩ => by
    obtain ⟨⟨xs, w1⟩, hx, hf⟩ := bind_some' hf
    obtain ⟨ds, hi, hf⟩ := map_some' hf
    cases hf
    refine ⟨hd, S, ρ, w, xs, w1, ok, hx, fun vs S1 H1 s1 n1 r1 => ?_⟩
    have hl := h1 ρ w xs w1 hx
    match xs, hl, hi, r1 with
    | [x, y, z], _, hi, r1 =>
      cases x with
      | int i => cases y with
        | int j => cases z with
          | int c =>
            have hi2 : (if (big i && big j) = true ∧ c = -1 then some (rangeD i (-1) (i - j).toNat) else none) = some items := hi
            by_cases hb : (big i && big j) = true ∧ c = -1
            · rw [if_pos hb] at hi2
              cases hi2
              obtain ⟨v, t, rfl, r2, r3⟩ := r1
              obtain ⟨u, t2, rfl, r4, r5⟩ := r3
              obtain ⟨z, rfl, r6⟩ := repl1 r5
              obtain ⟨hb, rfl⟩ := hb
              obtain ⟨c1, c2⟩ := (Bool.and_eq_true _ _).mp hb
              obtain ⟨b1, b2⟩ := big_ok c1
              obtain ⟨b3, b4⟩ := big_ok c2
              exact ⟨_, _, _, _, by rw [show v = _ from r2, show u = _ from r4, show z = _ from r6], RgC.neg b1 b2 b3 b4, k S1 H1 _ s1 n1 rangeC_walk⟩
            · rw [if_neg hb] at hi2
              cases hi2
          | _ => cases hi
        | _ => cases hi
      | _ => cases hi
theorem len_nil {ρ : En} {w : Wd} {ds : List D} {w' : Wd} (h : fNil ρ w = some (ds, w')) : ds.length = 0 := by
  cases h
  rfl
theorem len_cons {n : Nat} (h : ∀ ρ w ds w', fl ρ w = some (ds, w') → ds.length = n) : ∀ ρ w ds w', fCons f fl ρ w = some (ds, w') → ds.length = n + 1 := fun ρ w ds w' hf => by
  obtain ⟨⟨x, w1⟩, hx, hf⟩ := bind_some' hf
  obtain ⟨⟨xs, w2⟩, hx2, hf⟩ := map_some' hf
  cases hf
  show xs.length + 1 = n + 1
  rw [h _ _ _ _ hx2]
/-! reversed -/
theorem walk_rvT {a : Addr} {xs : List V} : Walk (RT.ItvT K a xs.length) xs.length (fun H => SqT K H a xs) (fun i H x H' => H' = H ∧ xs[xs.length - 1 - i]? = some x) where
  goes := fun i _ hi q => ⟨hi, xs, xs[xs.length - 1 - i]'(by omega), q, List.getElem?_eq_getElem (by omega)⟩
  stops := fun _ _ => Nat.le_refl _
  yields := fun _ _ _ _ _ q y => ⟨y.1, y.2 xs q⟩
def fRev (f : FE) : FI D := fun ρ w => (f ρ w).bind fun a => match a.1 with
  | .lst ds => some (ds.reverse, a.2)
  | .tup ds => some (ds.reverse, a.2)
  | _ => none
theorem yrev_ok {hd : Option Addr} {S0 : Hp} {ds : List D} {vs : List V} (r : RepL ⟨K, C, hd⟩ S0 ds vs) : ∀ i S H x H2 d, ds.reverse[i]? = some d → PS0 S0 S H → Same S H → (H2 = H ∧ vs[vs.length - 1 - i]? = some x) → ∃ S2, Step none S H S2 H2 ∧ RI1 ⟨K, C, hd⟩ S2 H2 d x := by
  rintro i S H x H2 d hd' p m ⟨rfl, hx⟩
  have hi : i < ds.length := by
    have := (List.getElem?_eq_some_iff.mp hd').1
    rwa [List.length_reverse] at this
  rw [List.getElem?_reverse hi] at hd'
  obtain ⟨v, h1, h2⟩ := r.get hd'
  rw [r.len, h1] at hx
  cases hx
  exact ⟨S, .refl m, h2.mono p.1⟩
theorem ci_rev (hg : Gl X "reversed") (hm : X.mg "reversed" = none) (h : CE C X e f) (hs : starEach [e] X.env = (false, eval e X.env) :: starEach [] X.env := by rfl) : CI1 C X tg (.Call (.Name "reversed" p) [e] [] pos) (fRev f) :=
  pi_imp (RT.pi_revA hg hm h hs) fun σ H R ⟨hd, S, ρ, w, items, w', ok, hf, k⟩ => by
    obtain ⟨⟨x, w1⟩, hx, hf⟩ := bind_some' hf
    refine ⟨hd, S, ρ, w, x, w1, ok, hx, fun v S1 H1 s1 n1 r1 => ?_⟩
    cases x with
    | lst ds =>
      cases hf
      obtain ⟨a, vs, rfl, h2, h3⟩ := r1
      refine ⟨a, vs, rfl, .inl ⟨.of (s1.sh _ _ h2), k S1 H1 _ s1 n1 ⟨_, _, ?_, fun S' H' q => (SqL.of (q.2 _ _ (q.1 _ _ h2)) : SqL X.K H' a vs), yrev_ok h3⟩⟩⟩
      rw [List.length_reverse, ← h3.len]
      exact walk_rev
    | tup ds =>
      cases hf
      obtain ⟨a, vs, o, rfl, _, h2, h3⟩ := r1
      refine ⟨a, vs, rfl, .inr ⟨sqt_of (s1.sh _ _ h2), k S1 H1 _ s1 n1 ⟨_, _, ?_, fun S' H' q => (sqt_of (q.2 _ _ (q.1 _ _ h2)) : SqT X.K H' a vs), yrev_ok h3⟩⟩⟩
      rw [List.length_reverse, ← h3.len]
      exact walk_rvT
    | _ => cases hf
end
end K39
end
section
set_option maxRecDepth 100000
set_option autoImplicit false
/-! S6: comprehensions, statements -/
namespace K39
open PySem PySem.Spec PyProof.Rows L2
variable {K : PySem.W.Frag} {C : Addr}

/-! ### environments changed -/
section
variable {g : Gh} {S H S' H' : Hp} {σ : L2.St} {ρ : En} {w w' : Wd}
theorem set_get {α : Type} {l : List α} {i j : Nat} {a b : α} (h : (l.set i a)[j]? = some b) : (i = j ∧ b = a ∧ i < l.length) ∨ (i ≠ j ∧ l[j]? = some b) := by
  by_cases e : i = j
  · subst e
    by_cases hl : i < l.length
    · rw [List.getElem?_set_self hl] at h
      cases h
      exact .inl ⟨rfl, rfl, hl⟩
    · rw [List.getElem?_eq_none (by rw [List.length_set]; omega)] at h
      cases h
  · rw [List.getElem?_set_ne e] at h
    exact .inr ⟨e, h⟩
theorem EnOk.setV {i : Nat} {d : D} {v : V} (h : EnOk g S H σ ρ) (r : Rep g S d v) : EnOk g S H (σ.set i (some v)) (ρ.set i (.val d)) where
  len := by rw [List.length_set, List.length_set, h.len]
  val := fun j d' e => by
    rcases set_get e with ⟨rfl, e2, hl⟩ | ⟨ne, e⟩
    · cases e2
      exact ⟨v, List.getElem?_set_self (by rw [h.len]; exact hl), r⟩
    · rw [List.getElem?_set_ne ne]
      exact h.val j d' e
  own := fun j ds e => by
    rcases set_get e with ⟨rfl, e2, hl⟩ | ⟨ne, e⟩
    · cases e2
    · rw [List.getElem?_set_ne ne]
      exact h.own j ds e
  sep := fun j k ds es a e1 e2 e3 e4 => by
    rcases set_get e1 with ⟨rfl, e5, hl⟩ | ⟨ne, e1⟩
    · cases e5
    rcases set_get e2 with ⟨rfl, e5, hl⟩ | ⟨ne2, e2⟩
    · cases e5
    rw [List.getElem?_set_ne ne] at e3
    rw [List.getElem?_set_ne ne2] at e4
    exact h.sep j k ds es a e1 e2 e3 e4
theorem EnOk.setN {i : Nat} (h : EnOk g S H σ ρ) : EnOk g S H (σ.set i none) (ρ.set i .no) where
  len := by rw [List.length_set, List.length_set, h.len]
  val := fun j d' e => by
    rcases set_get e with ⟨rfl, e2, hl⟩ | ⟨ne, e⟩
    · cases e2
    · rw [List.getElem?_set_ne ne]
      exact h.val j d' e
  own := fun j ds e => by
    rcases set_get e with ⟨rfl, e2, hl⟩ | ⟨ne, e⟩
    · cases e2
    · rw [List.getElem?_set_ne ne]
      exact h.own j ds e
  sep := fun j k ds es a e1 e2 e3 e4 => by
    rcases set_get e1 with ⟨rfl, e5, hl⟩ | ⟨ne, e1⟩
    · cases e5
    rcases set_get e2 with ⟨rfl, e5, hl⟩ | ⟨ne2, e2⟩
    · cases e5
    rw [List.getElem?_set_ne ne] at e3
    rw [List.getElem?_set_ne ne2] at e4
    exact h.sep j k ds es a e1 e2 e3 e4
/-- the slot i gets a new list of its own -/
theorem EnOk.setO {i : Nat} {ds : List D} {p : Addr} {vs : List V} (h : EnOk g S H σ ρ) (hp : S p = none) (hh : g.hd ≠ some p) (hl : H p = some (.lst vs)) (r : RepL g S ds vs)
    (ap : ∀ (j : Nat) es, ρ[j]? = some (Sl.own es) → σ[j]? = some (some (V.ref p)) → j = i) : EnOk g S H (σ.set i (some (.ref p))) (ρ.set i (.own ds)) where
  len := by rw [List.length_set, List.length_set, h.len]
  val := fun j d' e => by
    rcases set_get e with ⟨rfl, e2, hl⟩ | ⟨ne, e⟩
    · cases e2
    · rw [List.getElem?_set_ne ne]
      exact h.val j d' e
  own := fun j es e => by
    rcases set_get e with ⟨rfl, e2, hl2⟩ | ⟨ne, e⟩
    · cases e2
      exact ⟨p, vs, List.getElem?_set_self (by rw [h.len]; exact hl2), hh, hp, hl, r⟩
    · rw [List.getElem?_set_ne ne]
      exact h.own j es e
  sep := fun j k es fs a e1 e2 e3 e4 => by
    rcases set_get e1 with ⟨rfl, e5, hl1⟩ | ⟨ne, e1⟩
    · rcases set_get e2 with ⟨rfl, e6, hl2⟩ | ⟨ne2, e2⟩
      · rfl
      · rw [List.getElem?_set_self (by rw [h.len]; exact hl1)] at e3
        rw [List.getElem?_set_ne ne2] at e4
        cases e3
        exact (ap k fs e2 e4).symm
    · rw [List.getElem?_set_ne ne] at e3
      rcases set_get e2 with ⟨rfl, e6, hl2⟩ | ⟨ne2, e2⟩
      · rw [List.getElem?_set_self (by rw [h.len]; exact hl2)] at e4
        cases e4
        exact ap j es e1 e3
      · rw [List.getElem?_set_ne ne2] at e4
        exact h.sep j k es fs a e1 e2 e3 e4
/-- the list of the slot i is changed in place -/
theorem EnOk.mutO {i : Nat} {ds es : List D} {p : Addr} {us : List V} (h : EnOk g S H σ ρ) (hi : ρ[i]? = some (Sl.own ds)) (hp : σ[i]? = some (some (V.ref p))) (r : RepL g S es us) : EnOk g S (upd H p (.lst us)) σ (ρ.set i (.own es)) where
  len := by rw [List.length_set, h.len]
  val := fun j d' e => by
    rcases set_get e with ⟨rfl, e2, hl⟩ | ⟨ne, e⟩
    · cases e2
    · exact h.val j d' e
  own := fun j fs e => by
    rcases set_get e with ⟨rfl, e2, hl2⟩ | ⟨ne, e⟩
    · cases e2
      obtain ⟨a, ws, h1, h2, h3, h4, h5⟩ := h.own i ds hi
      rw [hp] at h1
      cases h1
      exact ⟨p, us, hp, h2, h3, upd_same, r⟩
    · obtain ⟨a, ws, h1, h2, h3, h4, h5⟩ := h.own j fs e
      have na : a ≠ p := fun z => by
        subst z
        exact ne (h.sep i j ds fs a hi e hp h1)
      exact ⟨a, ws, h1, h2, h3, by rw [upd_ne na]; exact h4, h5⟩
  sep := fun j k fs gs a e1 e2 e3 e4 => by
    have f1 : ∃ fs', ρ[j]? = some (Sl.own fs') := by
      rcases set_get e1 with ⟨rfl, e5, hl1⟩ | ⟨ne, e1⟩
      · exact ⟨ds, hi⟩
      · exact ⟨fs, e1⟩
    have f2 : ∃ gs', ρ[k]? = some (Sl.own gs') := by
      rcases set_get e2 with ⟨rfl, e5, hl1⟩ | ⟨ne, e2⟩
      · exact ⟨ds, hi⟩
      · exact ⟨gs, e2⟩
    obtain ⟨fs', f1⟩ := f1
    obtain ⟨gs', f2⟩ := f2
    exact h.sep j k fs' gs' a f1 f2 e3 e4
end
theorem Step.mutN {hd : Option Addr} {S H S' H' : Hp} {p : Addr} {o : HO} (s : Step hd S H S' H') (hp : H p = none) (hq : S' p = none) : Step hd S H S' (upd H' p o) where
  ss := s.ss
  sh := fun a u e => by
    rw [upd_ne (ne_of_none e hq)]
    exact s.sh a u e
  kp := fun a u e ne => by
    rw [upd_ne (ne_of_none e hp)]
    exact s.kp a u e ne
  tr := fun a u e => by
    rw [upd_ne (ne_of_none e hp)]
    exact s.tr a u e
  un := s.un
theorem HandOk.ne {g : Gh} {S H : Hp} {w : Wd} {p : Addr} (h : HandOk g S H w) (hp : H p = none) : g.hd ≠ some p := fun e => by
  obtain ⟨_, vs, h2, _⟩ := h p e
  rw [hp] at h2
  cases h2
theorem HandOk.updN {g : Gh} {S H : Hp} {w : Wd} {p : Addr} {o : HO} (h : HandOk g S H w) (hp : g.hd ≠ some p) : HandOk g S (upd H p o) w := fun a e => by
  obtain ⟨h1, vs, h2, h3⟩ := h a e
  have ne : a ≠ p := fun z => hp (by rw [← z]; exact e)
  exact ⟨h1, vs, by rw [upd_ne ne]; exact h2, h3⟩

/-! ### comprehensions -/
def wipeE (ρ : En) : List Nat → En
  | [] => ρ
  | v :: vs => (wipeE ρ vs).set v .no
theorem EnOk.wipe {g : Gh} {S H : Hp} {σ : L2.St} {ρ : En} (h : EnOk g S H σ ρ) : ∀ vs : List Nat, EnOk g S H (wipe σ vs) (wipeE ρ vs)
  | [] => h
  | v :: vs => (h.wipe vs).setN
def lcLoop {α : Type} (bnd : α → En → En) (ft : FT) (fe : FE) : List α → En → Wd → Option (List D × Wd)
  | [], _, w => some ([], w)
  | a :: as, ρ, w => (ft (bnd a ρ) w).bind fun t => if t.1 = true then (fe (bnd a ρ) t.2).bind fun y => (lcLoop bnd ft fe as ρ y.2).map fun r => (y.1 :: r.1, r.2) else lcLoop bnd ft fe as ρ t.2
def fLc {α : Type} (vs : List Nat) (bnd : α → En → En) (fi : FI α) (ft : FT) (fe : FE) : FL := fun ρ w => (fi ρ w).bind fun a => if a.1.length ≤ cap then lcLoop bnd ft fe a.1 (wipeE ρ vs) a.2 else none
/-- how a target takes an item -/
def Binds1 {α : Type} (RI : Gh → Hp → Hp → α → V → Prop) (K : PySem.W.Frag) (C : Addr) (bnd : α → En → En) (gt : TG) (vs : List Nat) : Prop := ∀ (hd : Option Addr) (S H : Hp) (σ : L2.St) (ρ : En) (a : α) (x : V) (Q : L2.St → Hp → Prop), EnOk ⟨K, C, hd⟩ S H (wipe σ vs) ρ → RI ⟨K, C, hd⟩ S H a x →
  (∀ σ2, EnOk ⟨K, C, hd⟩ S H σ2 (bnd a ρ) → wipe σ2 vs = wipe σ vs → Q σ2 H) → gt x (wipe σ vs) H Q
theorem lc_sound {α : Type} {RI : Gh → Hp → Hp → α → V → Prop} {vs : List Nat} {bnd : α → En → En} {fi : FI α} {ft : FT} {fe : FE} {gt : TG} (hb : Binds1 RI K C bnd gt vs) : ∀ σ H Q, canL K C (fLc vs bnd fi ft fe) σ H Q → tLc (canIB RI K C fi) gt (canT K C ft) (canE K C fe) vs σ H Q := by
  rintro σ H Q ⟨hd, S, ρ, w, ds, w', ok, hf, k⟩
  obtain ⟨⟨items, w1⟩, hx, hf⟩ := bind_some' hf
  split at hf
  · rename_i hcap
    refine ⟨hd, S, ρ, w, items, w1, ok, hx, fun S1 H1 J s1 n1 wk L hL => ?_⟩
    obtain ⟨Gd, Y, wJ, hG, hY⟩ := wk.ex
    have ok1 := ok.step s1 n1
    have hLH : H L = none := by
      cases z : H L with
      | none => rfl
      | some o =>
        obtain ⟨o', e'⟩ := s1.tr L o z
        rw [hL] at e'
        cases e'
    refine lc_it (D := L) (H1 := H1) wJ (fun i H' => ∃ S' wi acc da rest, Step hd S1 H1 S' H' ∧ HandOk ⟨K, C, hd⟩ S' H' wi ∧ H' L = some (.lst acc) ∧ S' L = none ∧ RepL ⟨K, C, hd⟩ S' da acc ∧
      lcLoop bnd ft fe (items.drop i) (wipeE ρ vs) wi = some (rest, w') ∧ da ++ rest = ds ∧ acc.length ≤ i) ?_ ?_ ?_ ?_
    · have st := Step.new (o := .lst []) s1.sh hL
      exact ⟨S1, w1, [], [], ds, st.any, n1.pure st, upd_same, free_S s1.sh hL, rfl, hf, rfl, Nat.zero_le _⟩
    · rintro i H' hi ⟨S', wi, acc, da, rest, st, _⟩
      exact hG S' H' st
    · rintro i x Hi Hx hi ⟨S', wi, acc, da, rest, st, hn, hl, hs, hr, hlp, hds, hac⟩ hy
      have hg : items[i]? = some items[i] := List.getElem?_eq_getElem hi
      obtain ⟨S2, st2, ri⟩ := hY i S' Hi x Hx _ hg st st.sh hy
      have en2 : EnOk ⟨K, C, hd⟩ S2 Hx (wipe σ vs) (wipeE ρ vs) := (ok1.en.step (st.trans st2.any)).wipe vs
      refine hb hd S2 Hx σ (wipeE ρ vs) items[i] x _ en2 ri fun σ2 en3 hw => ⟨hw, ?_⟩
      have hn2 := hn.pure st2
      rw [List.drop_eq_getElem_cons hi] at hlp
      obtain ⟨⟨t, w2⟩, ht, hlp⟩ := bind_some' hlp
      refine ⟨hd, S2, bnd items[i] (wipeE ρ vs), wi, t, w2, ⟨st2.sh, en3, hn2⟩, ht, fun S3 H3 st3 hn3 => ?_⟩
      have stA := (st.trans st2.any).trans st3
      have hne : hd ≠ some L := n1.ne hL
      have hl3 : H3 L = some (.lst acc) := st3.kp L _ (st2.kp L _ hl (fun z => nomatch z)) hne
      have hs3 : S3 L = none := st3.un L _ (st2.kp L _ hl (fun z => nomatch z)) (st2.un L _ hl hs)
      have hr3 := RepL.mono (st2.ss.trans st3.ss) _ _ hr
      cases t with
      | true =>
        rw [if_pos rfl] at hlp
        obtain ⟨⟨y, w3⟩, hy3, hlp⟩ := bind_some' hlp
        obtain ⟨⟨rs, w4⟩, hrs, hlp⟩ := map_some' hlp
        cases hlp
        refine iteT ⟨hd, S3, bnd items[i] (wipeE ρ vs), w2, y, w3, ⟨st3.sh, en3.step st3, hn3⟩, hy3, fun v S4 H4 st4 hn4 rv => ?_⟩
        have hl4 : H4 L = some (.lst acc) := st4.kp L _ hl3 hne
        have hs4 : S4 L = none := st4.un L _ hl3 hs3
        refine ⟨acc, hl4, ?_, S4, w3, acc ++ [v], da ++ [y], rs, (stA.trans st4).mutN hL hs4, hn4.updN hne, upd_same, hs4, (RepL.mono st4.ss _ _ hr3).app (.one rv), hrs, ?_, ?_⟩
        · exact cap_lt (Nat.lt_of_le_of_lt hac (Nat.lt_of_lt_of_le hi hcap))
        · rw [← hds, List.append_assoc]
          rfl
        · rw [List.length_append]
          exact Nat.succ_le_succ hac
      | false =>
        rw [if_neg Bool.false_ne_true] at hlp
        exact iteF ⟨S3, w2, acc, da, rest, stA, hn3, hl3, hs3, hr3, hlp, hds, Nat.le_succ_of_le hac⟩
    · rintro H' ⟨S', wi, acc, da, rest, st, hn, hl, hs, hr, hlp, hds, hac⟩
      rw [List.drop_length] at hlp
      cases hlp
      rw [List.append_nil] at hds
      subst hds
      exact k L acc S' H' (s1.trans st) hn hLH hs hl hr
  · cases hf
def bnd1 (i : Nat) : D → En → En := fun d ρ => ρ.set i (.val d)
def bnd2 (i j : Nat) : D × D → En → En := fun d ρ => (ρ.set i (.val d.1)).set j (.val d.2)
theorem binds1 {i : Nat} : Binds1 RI1 K C (bnd1 i) (gName i) [i] := fun hd S H σ ρ a x Q en r k => by
  refine k _ (en.setV r) ?_
  show (((σ.set i none).set i (some x)).set i none) = σ.set i none
  rw [List.set_set, List.set_set]
theorem binds2 {i j : Nat} (hij : i ≠ j) : Binds1 RI2 K C (bnd2 i j) (gTup K 2 (gCons (gName i) (gCons (gName j) gNil))) [i, j] := fun hd S H σ ρ a x Q en r k => by
  obtain ⟨T, v, u, rfl, hT, r1, r2⟩ := r
  refine ⟨T, [v, u], rfl, .of hT, rfl, v, [u], rfl, u, [], rfl, rfl, k _ ((en.setV r1).setV r2) ?_⟩
  show (((((σ.set j none).set i none).set i (some v)).set j (some u)).set j none).set i none = (σ.set j none).set i none
  rw [List.set_set, List.set_set, List.set_comm _ _ hij, List.set_set, List.set_set]
def ftYes : FT := fun _ w => some (true, w)
theorem pts_yes {X : Cx} : PTs X [] (canT X.K C ftYes) := ⟨fun pins s σ H Q I ⟨hd, S, ρ, w, b, w', ok, hf, k⟩ => by
  cases hf
  exact pts_nil.run pins s σ H Q I (k S H (.refl ok.sm) ok.hn)⟩
section
variable {X : Cx} {tg elt iter c : Expr} {ft : FT} {fe : FE} {fi1 : FI D} {fi2 : FI (D × D)} {scope : Scope} {pos : Pos}
/-- [elt for x in iter], the slot i is x's -/
theorem cl_lc1 (i : Nat) {x : Str} {ifs : List Expr} {px : Pos} (hc : X.calm = true) (hN : X.N.Nodup) (ok : BlkOk X.N X.env.scope scope [(x, i)]) (hi : CB1 C X (.Name x px) iter fi1)
    (hg : ∀ (s : Shared) (H : Hp) (D' : Addr) (cl : List (Str × Addr)) (fp : List Addr), PG (X.blk s H scope (compEnvC scope cl D' X.env) fp) (.Name x px) (gName i))
    (ht : ∀ (s : Shared) (H : Hp) (D' : Addr) (cl : List (Str × Addr)) (fp : List Addr), PTs (X.blk s H scope (compEnvC scope cl D' X.env) fp) ifs (canT X.K C ft))
    (he : ∀ (s : Shared) (H : Hp) (D' : Addr) (cl : List (Str × Addr)) (fp : List Addr), PE (X.blk s H scope (compEnvC scope cl D' X.env) fp) elt (canE X.K C fe)) (hs : ∀ x, foldedSetIterable iter X.env x = pure x := by intro _; rfl) :
    CL C X (.ListComp elt [⟨.Name x px, iter, ifs, 0⟩] scope pos) (fLc [i] (bnd1 i) fi1 ft fe) := pe_imp (pe_lc (own := [(x, i)]) hc hN hi ok hg ht he hs) (lc_sound binds1)
theorem cl_lc2 (i j : Nat) {x y : Str} {ifs : List Expr} {px py pt : Pos} {kt : Nat} (hij : i ≠ j) (hc : X.calm = true) (hN : X.N.Nodup) (ok : BlkOk X.N X.env.scope scope [(x, i), (y, j)]) (hi : CB2 C X (.Tuple [.Name x px, .Name y py] kt pt) iter fi2)
    (hg : ∀ (s : Shared) (H : Hp) (D' : Addr) (cl : List (Str × Addr)) (fp : List Addr), PG (X.blk s H scope (compEnvC scope cl D' X.env) fp) (.Tuple [.Name x px, .Name y py] kt pt) (gTup X.K 2 (gCons (gName i) (gCons (gName j) gNil))))
    (ht : ∀ (s : Shared) (H : Hp) (D' : Addr) (cl : List (Str × Addr)) (fp : List Addr), PTs (X.blk s H scope (compEnvC scope cl D' X.env) fp) ifs (canT X.K C ft))
    (he : ∀ (s : Shared) (H : Hp) (D' : Addr) (cl : List (Str × Addr)) (fp : List Addr), PE (X.blk s H scope (compEnvC scope cl D' X.env) fp) elt (canE X.K C fe)) (hs : ∀ x, foldedSetIterable iter X.env x = pure x := by intro _; rfl) :
    CL C X (.ListComp elt [⟨.Tuple [.Name x px, .Name y py] kt pt, iter, ifs, 0⟩] scope pos) (fLc [i, j] (bnd2 i j) fi2 ft fe) := pe_imp (pe_lc (own := [(x, i), (y, j)]) hc hN hi ok hg ht he hs) (lc_sound (binds2 hij))
end
end K39
end
section
set_option maxRecDepth 100000
set_option autoImplicit false
/-! S7: statements, defs -/
namespace K39
open PySem PySem.Spec PyProof.Rows L2
variable {K : PySem.W.Frag} {C : Addr}

inductive Out where
  | nx (ρ : En)
  | bk (ρ : En)
  | ct (ρ : En)
  | rt (d : D)
abbrev FS := En → Wd → Option (Out × Wd)
/-- S_0, H_0: at the def's entry -/
structure OkS (g : Gh) (S0 H0 S H : Hp) (σ : L2.St) (ρ : En) (w : Wd) : Prop where
  st : Step g.hd S0 H0 S H
  en : EnOk g S H σ ρ
  fr : ∀ (i : Nat) ds a, ρ[i]? = some (Sl.own ds) → σ[i]? = some (some (V.ref a)) → H0 a = none
  hn : HandOk g S H w
def Fin (g : Gh) (S0 H0 S H : Hp) (w : Wd) (o : Out) (D : Ends) : Prop := match o with
  | .nx ρ => ∀ σ, OkS g S0 H0 S H σ ρ w → D.nx σ H
  | .bk ρ => ∀ σ, OkS g S0 H0 S H σ ρ w → D.bk σ H
  | .ct ρ => ∀ σ, OkS g S0 H0 S H σ ρ w → D.ct σ H
  | .rt d => ∀ v, Step g.hd S0 H0 S H → HandOk g S H w → Rep g S d v → D.rt v H
def canS (K : PySem.W.Frag) (C : Addr) (f : FS) : TS := fun D σ H => ∃ hd S0 H0 S ρ w o w', OkS ⟨K, C, hd⟩ S0 H0 S H σ ρ w ∧ f ρ w = some (o, w') ∧ ∀ S' H', Same S S' → Fin ⟨K, C, hd⟩ S0 H0 S' H' w' o D
abbrev CS (C : Addr) (X : Cx) (st : Stmt) (f : FS) : Prop := PS X st (canS X.K C f)
abbrev CSs (C : Addr) (X : Cx) (sts : List Stmt) (f : FS) : Prop := PSs X sts (canS X.K C f)
section
variable {g : Gh} {S0 H0 S H S' H' : Hp} {σ : L2.St} {ρ : En} {w w' : Wd}
theorem OkS.ok (h : OkS g S0 H0 S H σ ρ w) : Ok g S H σ ρ w := ⟨h.st.sh, h.en, h.hn⟩
theorem OkS.step (h : OkS g S0 H0 S H σ ρ w) (s : Step g.hd S H S' H') (n : HandOk g S' H' w') : OkS g S0 H0 S' H' σ ρ w' := ⟨h.st.trans s, h.en.step s, h.fr, n⟩
theorem OkS.setV {i : Nat} {d : D} {v : V} (h : OkS g S0 H0 S H σ ρ w) (r : Rep g S d v) : OkS g S0 H0 S H (σ.set i (some v)) (ρ.set i (.val d)) w :=
  ⟨h.st, h.en.setV r, fun j ds a e1 e2 => by
    rcases set_get e1 with ⟨rfl, e5, _⟩ | ⟨ne, e1⟩
    · cases e5
    · rw [List.getElem?_set_ne ne] at e2
      exact h.fr j ds a e1 e2, h.hn⟩
end
section
variable {X : Cx} {st : Stmt} {sts rest : List Stmt} {e e1 e2 : Expr} {f f1 f2 : FS} {fe fe1 fe2 : FE} {fl : FL} {ft : FT} {pos p p2 pos' : Pos}
theorem ps_imp {t t' : TS} (h : PS X st t) (k : ∀ D σ H, t' D σ H → t D σ H) : PS X st t' := ⟨fun pins s σ H D I q => h.run pins s σ H D I (k D σ H q)⟩
theorem pss_imp {t t' : TS} (h : PSs X sts t) (k : ∀ D σ H, t' D σ H → t D σ H) : PSs X sts t' := ⟨fun pins s σ H D I q => h.run pins s σ H D I (k D σ H q)⟩
def fPass : FS := fun ρ w => some (.nx ρ, w)
def fSeq (f1 f2 : FS) : FS := fun ρ w => (f1 ρ w).bind fun a => match a.1 with
  | .nx ρ1 => f2 ρ1 a.2
  | o => some (o, a.2)
theorem css_nil : CSs C X [] fPass := pss_imp pss_nil fun D σ H ⟨hd, S0, H0, S, ρ, w, o, w', ok, hf, k⟩ => by
  cases hf
  exact k S H (.refl _) σ ok
theorem css_one (h : CS C X st f) : CSs C X [st] f := pss_one h
theorem css_cons (h1 : CS C X st f1) (h2 : CSs C X rest f2) : CSs C X (st :: rest) (fSeq f1 f2) := pss_imp (pss_cons h1 h2) fun D σ H ⟨hd, S0, H0, S, ρ, w, o, w', ok, hf, k⟩ => by
  obtain ⟨⟨o1, w1⟩, h3, hf⟩ := bind_some' hf
  refine ⟨hd, S0, H0, S, ρ, w, o1, w1, ok, h3, fun S1 H1 m1 => ?_⟩
  cases o1 with
  | nx ρ1 => exact fun σ1 ok1 => ⟨hd, S0, H0, S1, ρ1, w1, o, w', ok1, hf, fun S2 H2 m2 => k S2 H2 (m1.trans m2)⟩
  | bk ρ1 =>
    cases hf
    exact k S1 H1 m1
  | ct ρ1 =>
    cases hf
    exact k S1 H1 m1
  | rt d =>
    cases hf
    exact k S1 H1 m1
def fNeverS : FS := fun _ _ => none
theorem cs_never : CS C X st fNeverS := ⟨fun _ _ _ _ _ _ ⟨hd, S0, H0, S, ρ, w, o, w', ok, hf, k⟩ => by cases hf⟩
theorem css_never : CSs C X sts fNeverS := ⟨fun _ _ _ _ _ _ ⟨hd, S0, H0, S, ρ, w, o, w', ok, hf, k⟩ => by cases hf⟩
theorem cs_pass : CS C X (.Pass pos) fPass := ps_imp ps_pass fun D σ H ⟨hd, S0, H0, S, ρ, w, o, w', ok, hf, k⟩ => by
  cases hf
  exact k S H (.refl _) σ ok
def fBreak : FS := fun ρ w => some (.bk ρ, w)
def fCont : FS := fun ρ w => some (.ct ρ, w)
theorem cs_break : CS C X (.Break pos) fBreak := ps_imp ps_break fun D σ H ⟨hd, S0, H0, S, ρ, w, o, w', ok, hf, k⟩ => by
  cases hf
  exact k S H (.refl _) σ ok
theorem cs_cont : CS C X (.Continue pos) fCont := ps_imp ps_continue fun D σ H ⟨hd, S0, H0, S, ρ, w, o, w', ok, hf, k⟩ => by
  cases hf
  exact k S H (.refl _) σ ok
def fRet (fe : FE) : FS := fun ρ w => (fe ρ w).map fun a => (.rt a.1, a.2)
theorem cs_ret (h : CE C X e fe) : CS C X (.Return (some e) pos) (fRet fe) := ps_imp (ps_ret h) fun D σ H ⟨hd, S0, H0, S, ρ, w, o, w', ok, hf, k⟩ => by
  obtain ⟨⟨d, w1⟩, h3, hf⟩ := map_some' hf
  cases hf
  exact ⟨hd, S, ρ, w, d, w1, ok.ok, h3, fun v S1 H1 s1 n1 r1 => k S1 H1 s1.ss v (ok.st.trans s1) n1 r1⟩
def fDrop (fe : FE) : FS := fun ρ w => (fe ρ w).map fun a => (.nx ρ, a.2)
theorem cs_drop (h : CE C X e fe) (hs : swapsWith e none pos.line X.env = pure false := by rfl) : CS C X (.Expr e pos) (fDrop fe) := ps_imp (ps_expr h hs) fun D σ H ⟨hd, S0, H0, S, ρ, w, o, w', ok, hf, k⟩ => by
  obtain ⟨⟨d, w1⟩, h3, hf⟩ := map_some' hf
  cases hf
  exact ⟨hd, S, ρ, w, d, w1, ok.ok, h3, fun v S1 H1 s1 n1 r1 => k S1 H1 s1.ss σ (ok.step s1 n1)⟩
def fIf (ft : FT) (f1 f2 : FS) : FS := fun ρ w => (ft ρ w).bind fun a => if a.1 = true then f1 ρ a.2 else f2 ρ a.2
theorem cs_if {a b : List Stmt} (hc : CT C X e ft) (h1 : CSs C X a f1) (h2 : CSs C X b f2) : CS C X (.If e a b pos) (fIf ft f1 f2) := ps_imp (ps_if hc h1 h2) fun D σ H ⟨hd, S0, H0, S, ρ, w, o, w', ok, hf, k⟩ => by
  obtain ⟨⟨t, w1⟩, h3, hf⟩ := bind_some' hf
  refine ⟨hd, S, ρ, w, t, w1, ok.ok, h3, fun S1 H1 s1 n1 => ?_⟩
  cases t with
  | true => exact iteT ⟨hd, S0, H0, S1, ρ, w1, o, w', ok.step s1 n1, hf, fun S2 H2 m2 => k S2 H2 (s1.ss.trans m2)⟩
  | false => exact iteF ⟨hd, S0, H0, S1, ρ, w1, o, w', ok.step s1 n1, hf, fun S2 H2 m2 => k S2 H2 (s1.ss.trans m2)⟩

/-! ### assignments -/
def fAsg (i : Nat) (fe : FE) : FS := fun ρ w => (fe ρ w).map fun a => (.nx (ρ.set i (.val a.1)), a.2)
theorem asg_sound {i : Nat} : ∀ D σ H, canS K C (fAsg i fe) D σ H → tAsg (canE K C fe) (gName i) D σ H := fun D σ H ⟨hd, S0, H0, S, ρ, w, o, w', ok, hf, k⟩ => by
  obtain ⟨⟨d, w1⟩, h3, hf⟩ := map_some' hf
  cases hf
  exact ⟨hd, S, ρ, w, d, w1, ok.ok, h3, fun v S1 H1 s1 n1 r1 => k S1 H1 s1.ss _ ((ok.step s1 n1).setV r1)⟩
theorem cs_asg (i : Nat) {x : Str} {px : Pos} (h : CE C X e fe) (hN : X.N.Nodup) (hi : X.N[i]? = some x) (hx : Loc X.env.scope x) (hs : swapsWith e (some (.Name x px)) pos.line X.env = pure false) (hf : X.fn x = true ∨ X.env.scope.names.lookup x = some .local) :
    CS C X (.Assign [.Name x px] e pos) (fAsg i fe) := ps_imp (ps_set hN hi hx h hs hf) asg_sound
/-- x = a new list, x's own from here on -/
def fOwn (i : Nat) (fl : FL) : FS := fun ρ w => (fl ρ w).map fun a => (.nx (ρ.set i (.own a.1)), a.2)
theorem OkS.setO {g : Gh} {S0 H0 S H : Hp} {σ : L2.St} {ρ : En} {w : Wd} {i : Nat} {ds : List D} {p : Addr} {vs : List V} (h : OkS g S0 H0 S H σ ρ w) (hp : S p = none) (hh : g.hd ≠ some p) (hl : H p = some (.lst vs)) (r : RepL g S ds vs) (h0 : H0 p = none)
    (ap : ∀ (j : Nat) es, ρ[j]? = some (Sl.own es) → σ[j]? ≠ some (some (V.ref p))) : OkS g S0 H0 S H (σ.set i (some (.ref p))) (ρ.set i (.own ds)) w :=
  ⟨h.st, h.en.setO hp hh hl r fun j es e1 e2 => absurd e2 (ap j es e1), fun j es a e1 e2 => by
    rcases set_get e1 with ⟨rfl, e5, hl2⟩ | ⟨ne, e1⟩
    · rw [List.getElem?_set_self (by rw [h.en.len]; exact hl2)] at e2
      cases e2
      exact h0
    · rw [List.getElem?_set_ne ne] at e2
      exact h.fr j es a e1 e2, h.hn⟩
theorem own_sound {i : Nat} : ∀ D σ H, canS K C (fOwn i fl) D σ H → tAsg (canL K C fl) (gName i) D σ H := fun D σ H ⟨hd, S0, H0, S, ρ, w, o, w', ok, hf, k⟩ => by
  obtain ⟨⟨ds, w1⟩, h3, hf⟩ := map_some' hf
  cases hf
  refine ⟨hd, S, ρ, w, ds, w1, ok.ok, h3, fun q vs S1 H1 s1 n1 hq hs hl r1 => k S1 H1 s1.ss _ ((ok.step s1 n1).setO hs (ok.hn.ne hq) hl r1 ?_ ?_)⟩
  · cases z : H0 q with
    | none => rfl
    | some ob =>
      obtain ⟨o', e'⟩ := ok.st.tr q ob z
      rw [hq] at e'
      cases e'
  · intro j es e1 e2
    obtain ⟨a, us, e3, _, _, e4, _⟩ := ok.en.own j es e1
    rw [e2] at e3
    cases e3
    rw [hq] at e4
    cases e4
theorem cs_own (i : Nat) {x : Str} {px : Pos} (h : CL C X e fl) (hN : X.N.Nodup) (hi : X.N[i]? = some x) (hx : Loc X.env.scope x) (hs : swapsWith e (some (.Name x px)) pos.line X.env = pure false) (hf : X.fn x = true ∨ X.env.scope.names.lookup x = some .local) :
    CS C X (.Assign [.Name x px] e pos) (fOwn i fl) := ps_imp (ps_set hN hi hx h hs hf) own_sound
/-! the statement y = [.. for x in ..], y a plain local name -/
section
variable {tg elt iter : Expr} {fi1 : FI D} {fi2 : FI (D × D)} {scope : Scope} {spos : Pos}
abbrev BlkE (X : Cx) (C : Addr) (scope : Scope) (elt : Expr) (f : FE) : Prop := ∀ (s : Shared) (H : Hp) (D' : Addr) (cl : List (Str × Addr)) (fp : List Addr), PE (X.blk s H scope (compEnvC scope cl D' X.env) fp) elt (canE X.K C f)
abbrev BlkG (X : Cx) (scope : Scope) (tg : Expr) (g : TG) : Prop := ∀ (s : Shared) (H : Hp) (D' : Addr) (cl : List (Str × Addr)) (fp : List Addr), PG (X.blk s H scope (compEnvC scope cl D' X.env) fp) tg g
abbrev BlkT (X : Cx) (C : Addr) (scope : Scope) (ifs : List Expr) (f : FT) : Prop := ∀ (s : Shared) (H : Hp) (D' : Addr) (cl : List (Str × Addr)) (fp : List Addr), PTs (X.blk s H scope (compEnvC scope cl D' X.env) fp) ifs (canT X.K C f)
theorem cs_ownLc1 (k i : Nat) {y x : Str} {py px : Pos} {ifs : List Expr} (hc : X.calm = true) (hN : X.N.Nodup) (hy : X.N[k]? = some y) (hyl : X.env.scope.names.lookup y = some .local) (hsw : swapsWith (.ListComp elt [⟨.Name x px, iter, ifs, 0⟩] scope pos) (some (.Name y py)) spos.line X.env = pure true)
    (ok : BlkOk X.N X.env.scope scope [(x, i)]) (hi : CB1 C X (.Name x px) iter fi1) (hg : BlkG X scope (.Name x px) (gName i)) (ht : BlkT X C scope ifs ft) (he : BlkE X C scope elt fe) (hs : ∀ x, foldedSetIterable iter X.env x = pure x := by intro _; rfl) :
    CS C X (.Assign [.Name y py] (.ListComp elt [⟨.Name x px, iter, ifs, 0⟩] scope pos) spos) (fOwn k (fLc [i] (bnd1 i) fi1 ft fe)) :=
  ps_imp (ps_setLc (own := [(x, i)]) hc hN hy hyl hsw hi ok hg ht he hs) fun D σ H h => lc_sound binds1 _ _ _ (own_sound D σ H h)
theorem cs_asgLc1 (k i : Nat) {y x : Str} {py px : Pos} {ifs : List Expr} (hc : X.calm = true) (hN : X.N.Nodup) (hy : X.N[k]? = some y) (hyl : X.env.scope.names.lookup y = some .local) (hsw : swapsWith (.ListComp elt [⟨.Name x px, iter, ifs, 0⟩] scope pos) (some (.Name y py)) spos.line X.env = pure true)
    (ok : BlkOk X.N X.env.scope scope [(x, i)]) (hi : CB1 C X (.Name x px) iter fi1) (hg : BlkG X scope (.Name x px) (gName i)) (ht : BlkT X C scope ifs ft) (he : BlkE X C scope elt fe) (hs : ∀ x, foldedSetIterable iter X.env x = pure x := by intro _; rfl) :
    CS C X (.Assign [.Name y py] (.ListComp elt [⟨.Name x px, iter, ifs, 0⟩] scope pos) spos) (fAsg k (asE (fLc [i] (bnd1 i) fi1 ft fe))) :=
  ps_imp (ps_setLc (own := [(x, i)]) hc hN hy hyl hsw hi ok hg ht he hs) fun D σ H h => by
    have h2 := asg_sound (fe := asE (fLc [i] (bnd1 i) fi1 ft fe)) D σ H h
    exact lc_sound binds1 _ _ _ (asE_down _ _ _ h2)
theorem cs_asgLc2 (k i j : Nat) {y x x2 : Str} {py px px2 pt : Pos} {kt : Nat} {ifs : List Expr} (hij : i ≠ j) (hc : X.calm = true) (hN : X.N.Nodup) (hy : X.N[k]? = some y) (hyl : X.env.scope.names.lookup y = some .local) (hsw : swapsWith (.ListComp elt [⟨.Tuple [.Name x px, .Name x2 px2] kt pt, iter, ifs, 0⟩] scope pos) (some (.Name y py)) spos.line X.env = pure true)
    (ok : BlkOk X.N X.env.scope scope [(x, i), (x2, j)]) (hi : CB2 C X (.Tuple [.Name x px, .Name x2 px2] kt pt) iter fi2) (hg : BlkG X scope (.Tuple [.Name x px, .Name x2 px2] kt pt) (gTup X.K 2 (gCons (gName i) (gCons (gName j) gNil)))) (ht : BlkT X C scope ifs ft) (he : BlkE X C scope elt fe) (hs : ∀ x, foldedSetIterable iter X.env x = pure x := by intro _; rfl) :
    CS C X (.Assign [.Name y py] (.ListComp elt [⟨.Tuple [.Name x px, .Name x2 px2] kt pt, iter, ifs, 0⟩] scope pos) spos) (fAsg k (asE (fLc [i, j] (bnd2 i j) fi2 ft fe))) :=
  ps_imp (ps_setLc (own := [(x, i), (x2, j)]) hc hN hy hyl hsw hi ok hg ht he hs) fun D σ H h => by
    have h2 := asg_sound (fe := asE (fLc [i, j] (bnd2 i j) fi2 ft fe)) D σ H h
    exact lc_sound (binds2 hij) _ _ _ (asE_down _ _ _ h2)
end
end
end K39
end
section
set_option maxRecDepth 100000
set_option autoImplicit false
/-! S8: more statements, loops, defs -/
namespace K39
open PySem PySem.Spec PyProof.Rows L2
variable {K : PySem.W.Frag} {C : Addr}
section
variable {X : Cx} {st : Stmt} {sts rest body : List Stmt} {e e1 e2 tg iter test : Expr} {f f1 f2 : FS} {fe fe1 fe2 : FE} {fl : FL} {ft : FT} {pos p p2 pos' tpos : Pos}

/-! ### a, b = e -/
def fTup2 (i j : Nat) (fe : FE) : FS := fun ρ w => (fe ρ w).bind fun a => match a.1 with
  | .tup [x, y] => some (.nx ((ρ.set i (.val x)).set j (.val y)), a.2)
  | _ => none
theorem cs_tup2 (i j : Nat) (h : CE C X e fe) (hg : PG X tg (gTup X.K 2 (gCons (gName i) (gCons (gName j) gNil)))) (hs : swapsWithSole [tg] e pos.line X.env = pure false := by rfl) (hw : swappedStores [tg] e X.env = pure none := by rfl)
    (h1 : (assignEach [tg] X.env).map (·.2) = [assign tg X.env] := by rfl) : CS C X (.Assign [tg] e pos) (fTup2 i j fe) := ps_imp (ps_asg h hg hs hw h1) fun D σ H ⟨hd, S0, H0, S, ρ, w, o, w', ok, hf, k⟩ => by
  obtain ⟨⟨d, w1⟩, h3, hf⟩ := bind_some' hf
  have hf2 : (match (generalizing := false) d with
    | .tup [x, y] => some (Out.nx ((ρ.set i (.val x)).set j (.val y)), w1)
    | _ => none) = some (o, w') := hf
  split at hf2
  · cases hf2
    refine ⟨hd, S, ρ, w, _, _, ok.ok, h3, fun v S1 H1 s1 n1 r1 => ?_⟩
    obtain ⟨a, vs, ob, rfl, _, h4, v1, t, rfl, h5, h6⟩ := r1
    obtain ⟨v2, rfl, h7⟩ := repl1 h6
    exact ⟨a, [v1, v2], rfl, sqt_of (s1.sh _ _ h4), rfl, v1, [v2], rfl, v2, [], rfl, rfl, k S1 H1 s1.ss _ (((ok.step s1 n1).setV h5).setV h7)⟩
  · cases hf2
/-- a, b = x, y -/
def fPar (i j : Nat) (fl : FL) : FS := fun ρ w => (fl ρ w).bind fun a => match a.1 with
  | [x, y] => some (.nx ((ρ.set i (.val x)).set j (.val y)), a.2)
  | _ => none
theorem par_sound {i j : Nat} : ∀ D σ H, canS K C (fPar i j fl) D σ H → tPar i j (canA K C fl) D σ H := fun D σ H ⟨hd, S0, H0, S, ρ, w, o, w', ok, hf, k⟩ => by
  obtain ⟨⟨ds, w1⟩, h3, hf⟩ := bind_some' hf
  have hf2 : (match (generalizing := false) ds with
    | [x, y] => some (Out.nx ((ρ.set i (.val x)).set j (.val y)), w1)
    | _ => none) = some (o, w') := hf
  split at hf2
  · cases hf2
    refine ⟨hd, S, ρ, w, _, _, ok.ok, h3, fun vs S1 H1 s1 n1 r1 => ?_⟩
    obtain ⟨v1, t, rfl, h5, h6⟩ := r1
    obtain ⟨v2, rfl, h7⟩ := repl1 h6
    exact ⟨v1, v2, rfl, k S1 H1 s1.ss _ (((ok.step s1 n1).setV h5).setV h7)⟩
  · cases hf2
theorem cs_par (i j : Nat) {x y : Str} {px py pt : Pos} {kt k2 : Nat} {pt2 : Pos} (hc : X.calm = true) (hN : X.N.Nodup) (hi : X.N[i]? = some x) (hj : X.N[j]? = some y) (hij : i ≠ j) (hx : X.env.scope.names.lookup x = some .local) (hy : X.env.scope.names.lookup y = some .local) (ha : CA C X [e1, e2] fl)
    (hw : swappedStores [.Tuple [.Name x px, .Name y py] kt pt] (.Tuple [e1, e2] k2 pt2) X.env = pure (some [x, y])) (hs : swapsWithSole [.Tuple [.Name x px, .Name y py] kt pt] (.Tuple [e1, e2] k2 pt2) pos.line X.env = pure false := by rfl) :
    CS C X (.Assign [.Tuple [.Name x px, .Name y py] kt pt] (.Tuple [e1, e2] k2 pt2) pos) (fPar i j fl) := ps_imp (ps_par hc hN hi hj hij hx hy ha hw hs) par_sound
/-- x -= e -/
def fAug (i : Nat) (g : Int → Int → Int) (fe : FE) : FS := fun ρ w => match ρ[i]? with
  | some (.val (.int a)) => (fe ρ w).bind fun b => match b.1 with
    | .int c => some (.nx (ρ.set i (.val (.int (g a c)))), b.2)
    | _ => none
  | _ => none
theorem cs_aug (i : Nat) {x : Str} {g : Int → Int → Int} {op : Operator} (hN : X.N.Nodup) (hi : X.N[i]? = some x) (hx : Loc X.env.scope x) (h : CE C X e fe) (ho : PIp X op (ipI g)) (hf : X.fn x = true ∨ X.env.scope.names.lookup x = some .local) :
    CS C X (.AugAssign (.Name x p) op e pos) (fAug i g fe) := ps_imp (ps_aug hN hi hx h ho hf) fun D σ H ⟨hd, S0, H0, S, ρ, w, o, w', ok, hf, k⟩ => by
  unfold fAug at hf
  split at hf
  · rename_i a e0
    obtain ⟨⟨d, w1⟩, h3, hf⟩ := bind_some' hf
    cases d with
    | int c =>
      cases hf
      obtain ⟨v, h1, h2⟩ := ok.en.val i _ e0
      refine ⟨v, h1, hd, S, ρ, w, _, _, ok.ok, h3, fun u S1 H1 s1 n1 r1 => ?_⟩
      exact ⟨a, c, h2, r1, k S1 H1 s1.ss _ ((ok.step s1 n1).setV rfl)⟩
    | _ => cases hf
  · cases hf

/-! ### lists of one's own, changed in place -/
theorem OkS.mutO {g : Gh} {S0 H0 S H : Hp} {σ : L2.St} {ρ : En} {w : Wd} {i : Nat} {ds es : List D} {a : Addr} {us : List V} (h : OkS g S0 H0 S H σ ρ w) (hi : ρ[i]? = some (Sl.own ds)) (hp : σ[i]? = some (some (V.ref a))) (r : RepL g S es us) :
    OkS g S0 H0 S (upd H a (.lst us)) σ (ρ.set i (.own es)) w := by
  obtain ⟨b, vs, h1, h2, h3, h4, h5⟩ := h.en.own i ds hi
  rw [hp] at h1
  cases h1
  exact ⟨h.st.mutN (h.fr i ds a hi hp) h3, h.en.mutO hi hp r, fun j fs c e1 e2 => by
    rcases set_get e1 with ⟨rfl, e5, _⟩ | ⟨ne, e1⟩
    · exact h.fr i ds c hi e2
    · exact h.fr j fs c e1 e2, h.hn.updN h2⟩
def fApp (i : Nat) (fe : FE) : FS := fun ρ w => match ρ[i]? with
  | some (.own ds) => (fe ρ w).bind fun a => if ds.length < cap then some (.nx (ρ.set i (.own (ds ++ [a.1]))), a.2) else none
  | _ => none
theorem cs_app (i : Nat) {x : Str} {apos : Pos} (hv : PE X (.Name x p) (tVar i)) (h : CE C X e fe)
    (hbase : attributeBase (.Name x p) "append" X.env (eval (.Name x p) X.env) = eval (.Name x p) X.env := by rfl)
    (hfew : ((backTo pos (starEach [e] X.env)).all (fun x => !x.1) && (backToKw pos (keywordEach [] X.env)).all (fun x => x.1.isSome) && decide ([e].length + ([] : List Keyword).length + (if ([] : List Keyword).isEmpty then 0 else 1) < 30)) = true := by rfl)
    (hline : (apos.endLine == pos.line) = true := by rfl) (hs : starEach [e] X.env = (false, eval e X.env) :: starEach [] X.env := by rfl) (hplain : (backTo pos (starEach [] X.env)).any (·.1) = false := by rfl)
    (hsw : swapsWith (.Call (.Attribute (.Name x p) "append" apos) [e] [] pos) none pos'.line X.env = pure false := by rfl) :
    CS C X (.Expr (.Call (.Attribute (.Name x p) "append" apos) [e] [] pos) pos') (fApp i fe) :=
  ps_imp (ps_expr (pe_bm PySem.F.plainAttrs_list PySem.F.slot_list_append PySem.F.type_list_append mt_append hv (pa_cons h pa_nil hs) hbase hfew hline hs hplain) hsw) fun D σ H ⟨hd, S0, H0, S, ρ, w, o, w', ok, hf, k⟩ => by
    unfold fApp at hf
    split at hf
    · rename_i ds e0
      obtain ⟨⟨d, w1⟩, h3, hf⟩ := bind_some' hf
      split at hf
      · rename_i hc
        cases hf
        obtain ⟨a, vs, h1, h2, h4, h5, h6⟩ := ok.en.own i _ e0
        refine ⟨_, h1, .inl ⟨rfl, _, .of h5⟩, hd, S, ρ, w, _, _, ok.ok, h3, fun u S1 H1 s1 n1 r1 => ?_⟩
        have ok1 := ok.step s1 n1
        obtain ⟨a', vs', h1', _, h4', h5', h6'⟩ := ok1.en.own i _ e0
        rw [h1] at h1'
        cases h1'
        exact ⟨a, vs', u, rfl, rfl, h5', by rw [h6'.len]; exact cap_lt hc, k S1 _ s1.ss _ (ok1.mutO e0 h1 (h6'.app (.one r1)))⟩
      · cases hf
    · cases hf
def fSto (i : Nat) (fi fe : FE) : FS := fun ρ w => (fe ρ w).bind fun a => (fi ρ a.2).bind fun b => match b.1, ρ[i]? with
  | .int k, some (.own ds) => (ixN ds.length k).map fun j => (.nx (ρ.set i (.own (ds.set j a.1))), b.2)
  | .int k, some (.val .hand) => (ixN b.2.length k).map fun j => (.nx ρ, b.2.set j a.1)
  | _, _ => none
theorem cs_sto (i : Nat) {x : Str} (hv : PE X (.Name x p) (tVar i)) (hi : CE C X e1 fe1) (h : CE C X e fe)
    (ha : ∀ v, assign (.Subscript (.Name x p) e1 pos) X.env v = (do
      let ov ← holding [v] (eval (.Name x p) X.env)
      let iv ← holding [v, ov] (eval e1 X.env)
      standAt pos
      holding [v, ov, iv] (setItem ov iv v)
      release [v, ov, iv] []) := by intro _; rfl) (hs : swapsWithSole [.Subscript (.Name x p) e1 pos] e pos'.line X.env = pure false := by rfl) (hw : swappedStores [.Subscript (.Name x p) e1 pos] e X.env = pure none := by rfl)
    (hq : (assignEach [.Subscript (.Name x p) e1 pos] X.env).map (·.2) = [assign (.Subscript (.Name x p) e1 pos) X.env] := by rfl) :
    CS C X (.Assign [.Subscript (.Name x p) e1 pos] e pos') (fSto i fe1 fe) := ps_imp (ps_asg h (pg_sub hv hi set_list ha) hs hw hq) fun D σ H ⟨hd, S0, H0, S, ρ, w, o, w', ok, hf, k⟩ => by
  obtain ⟨⟨d, w1⟩, h3, hf⟩ := bind_some' hf
  obtain ⟨⟨c, w2⟩, h4, hf⟩ := bind_some' hf
  refine ⟨hd, S, ρ, w, d, w1, ok.ok, h3, fun u S1 H1 s1 n1 r1 => ?_⟩
  have ok1 := ok.step s1 n1
  have hf2 : (match (generalizing := false) c, ρ[i]? with
    | .int k, some (.own ds) => (ixN ds.length k).map fun j => (Out.nx (ρ.set i (.own (ds.set j d))), w2)
    | .int k, some (.val .hand) => (ixN w2.length k).map fun j => (Out.nx ρ, w2.set j d)
    | _, _ => none) = some (o, w') := hf
  split at hf2
  · rename_i kk ds e0
    obtain ⟨j, hj, hf2⟩ := map_some' hf2
    cases hf2
    obtain ⟨a, vs, h5, _⟩ := ok1.en.own i _ e0
    refine ⟨.ref a, h5, hd, S1, ρ, w1, _, _, ok1.ok, h4, fun iv S2 H2 s2 n2 r2 => ?_⟩
    have ok2 := ok1.step s2 n2
    obtain ⟨a', vs', h1', _, h4', h5', h6'⟩ := ok2.en.own i _ e0
    rw [h5] at h1'
    cases h1'
    refine ⟨a, vs', kk, j, rfl, r2, h5', by rw [h6'.len]; exact hj, k S2 _ (s1.ss.trans s2.ss) _ (ok2.mutO e0 h5 (h6'.set (r1.mono s2.ss) j))⟩
  · rename_i kk e0
    obtain ⟨j, hj, hf2⟩ := map_some' hf2
    cases hf2
    obtain ⟨v, h5, a, h6, rfl⟩ := ok1.en.val i _ e0
    refine ⟨.ref a, h5, hd, S1, ρ, w1, _, _, ok1.ok, h4, fun iv S2 H2 s2 n2 r2 => ?_⟩
    have ok2 := ok1.step s2 n2
    obtain ⟨g1, vs, g2, g3⟩ := n2 a h6
    refine ⟨a, vs, kk, j, rfl, r2, g2, by rw [g3.len]; exact hj, k S2 _ (s1.ss.trans s2.ss) _ ?_⟩
    have keepA : ∀ b ob, b ≠ a → H2 b = some ob → (upd H2 a (.lst (vs.set j u))) b = some ob := fun b ob ne q => by rw [upd_ne ne]; exact q
    refine ⟨⟨ok2.st.ss, fun b ob q => keepA b ob (ne_of_none q g1) (ok2.st.sh b ob q), fun b ob q ne => keepA b ob (fun z => ne (by rw [z]; exact h6)) (ok2.st.kp b ob q ne), fun b ob q => ?_, ok2.st.un⟩, ⟨ok2.en.len, ok2.en.val, fun l ds q => ?_, ok2.en.sep⟩, ok2.fr, fun b q => ?_⟩
    · by_cases z : b = a
      · rw [z]
        exact ⟨_, upd_same⟩
      · obtain ⟨o', q'⟩ := ok2.st.tr b ob q
        exact ⟨o', keepA b o' z q'⟩
    · obtain ⟨b, us, q1, q2, q3, q4, q5⟩ := ok2.en.own l ds q
      exact ⟨b, us, q1, q2, q3, keepA b _ (fun z => q2 (by rw [z]; exact h6)) q4, q5⟩
    · have e2 : a = b := Option.some.inj (h6.symm.trans q)
      subst e2
      exact ⟨g1, _, upd_same, g3.set (r1.mono s2.ss) j⟩
  · cases hf2
/-- y = x.pop(k) -/
def fPop (j i : Nat) (fi : FE) : FS := fun ρ w => match ρ[i]? with
  | some (.own ds) => (fi ρ w).bind fun a => match a.1 with
    | .int k => if 0 ≤ k ∧ k < ds.length ∧ k < 1000 then (ds[k.toNat]?).map fun d => (.nx ((ρ.set i (.own (ds.eraseIdx k.toNat))).set j (.val d)), a.2) else none
    | _ => none
  | _ => none
theorem cs_pop (j i : Nat) {x y : Str} {apos py : Pos} (hv : PE X (.Name x p) (tVar i)) (h : CE C X e fe) (hN : X.N.Nodup) (hj : X.N[j]? = some y) (hy : Loc X.env.scope y) (hsw : swapsWith (.Call (.Attribute (.Name x p) "pop" apos) [e] [] pos) (some (.Name y py)) pos'.line X.env = pure false) (hfn : X.fn y = true ∨ X.env.scope.names.lookup y = some .local)
    (hbase : attributeBase (.Name x p) "pop" X.env (eval (.Name x p) X.env) = eval (.Name x p) X.env := by rfl)
    (hfew : ((backTo pos (starEach [e] X.env)).all (fun x => !x.1) && (backToKw pos (keywordEach [] X.env)).all (fun x => x.1.isSome) && decide ([e].length + ([] : List Keyword).length + (if ([] : List Keyword).isEmpty then 0 else 1) < 30)) = true := by rfl)
    (hline : (apos.endLine == pos.line) = true := by rfl) (hs : starEach [e] X.env = (false, eval e X.env) :: starEach [] X.env := by rfl) (hplain : (backTo pos (starEach [] X.env)).any (·.1) = false := by rfl) :
    CS C X (.Assign [.Name y py] (.Call (.Attribute (.Name x p) "pop" apos) [e] [] pos) pos') (fPop j i fe) :=
  ps_imp (ps_set hN hj hy (pe_bm PySem.F.plainAttrs_list PySem.F.slot_list_pop PySem.F.type_list_pop mt_popAt hv (pa_cons h pa_nil hs) hbase hfew hline hs hplain) hsw hfn) fun D σ H ⟨hd, S0, H0, S, ρ, w, o, w', ok, hf, k⟩ => by
    unfold fPop at hf
    split at hf
    · rename_i ds e0
      obtain ⟨⟨c, w1⟩, h3, hf⟩ := bind_some' hf
      cases c with
      | int kk =>
        have hf2 : (if 0 ≤ kk ∧ kk < ds.length ∧ kk < 1000 then (ds[kk.toNat]?).map fun d => (Out.nx ((ρ.set i (.own (ds.eraseIdx kk.toNat))).set j (.val d)), w1) else none) = some (o, w') := hf
        split at hf2
        · rename_i hc
          obtain ⟨d, hd', hf2⟩ := map_some' hf2
          cases hf2
          obtain ⟨a, vs, h1, h2, h4, h5, h6⟩ := ok.en.own i _ e0
          refine ⟨_, h1, .inl ⟨rfl, _, .of h5⟩, hd, S, ρ, w, _, _, ok.ok, h3, fun u S1 H1 s1 n1 r1 => ?_⟩
          have ok1 := ok.step s1 n1
          obtain ⟨a', vs', h1', _, h4', h5', h6'⟩ := ok1.en.own i _ e0
          rw [h1] at h1'
          cases h1'
          obtain ⟨v, hv1, hv2⟩ := h6'.get hd'
          refine ⟨a, vs', kk, kk.toNat, v, rfl, by rw [show u = _ from r1], h5', ?_, ?_, by rw [h6'.len]; exact seqIndex_of hc.1 hc.2.1, hv1, k S1 _ s1.ss _ ((ok1.mutO e0 h1 (h6'.erase _)).setV hv2)⟩
          · omega
          · omega
        · cases hf2
      | _ => cases hf
    · cases hf
end
end K39
end
section
set_option maxRecDepth 100000
set_option autoImplicit false
/-! S9: the ghost step, loops, try, defs -/
namespace K39
open PySem PySem.Spec PyProof.Rows L2
variable {K : PySem.W.Frag} {C : Addr}

/-! ### a list of one's own becomes data -/
def fFreeze (i : Nat) (f : FS) : FS := fun ρ w => match ρ[i]? with
  | some (.own ds) => f (ρ.set i (.val (.lst ds))) w
  | _ => f ρ w
theorem Step.fixO {hd : Option Addr} {S H S' H' : Hp} {p : Addr} {o : HO} (s : Step hd S H S' H') (hp : H p = none) (q : S' p = none) (h' : H' p = some o) : Step hd S H (upd S' p o) H' where
  ss := fun a u e => by
    rw [upd_ne (ne_of_none (s.ss a u e) q)]
    exact s.ss a u e
  sh := fun a u e => by
    by_cases z : a = p
    · subst z
      rw [upd_same] at e
      cases e
      exact h'
    · rw [upd_ne z] at e
      exact s.sh a u e
  kp := s.kp
  tr := s.tr
  un := fun a u e n => by
    rw [upd_ne (ne_of_none e hp)]
    exact s.un a u e n
theorem freeze_sound {i : Nat} {f : FS} : ∀ D σ H, canS K C (fFreeze i f) D σ H → canS K C f D σ H := fun D σ H ⟨hd, S0, H0, S, ρ, w, o, w', ok, hf, k⟩ => by
  unfold fFreeze at hf
  split at hf
  · rename_i ds e0
    obtain ⟨a, vs, h1, h2, h3, h4, h5⟩ := ok.en.own i ds e0
    have ss : Same S (upd S a (.lst vs)) := fun b u e => by
      rw [upd_ne (ne_of_none e h3)]
      exact e
    refine ⟨hd, S0, H0, upd S a (.lst vs), ρ.set i (.val (.lst ds)), w, o, w', ⟨ok.st.fixO (ok.fr i ds a e0 h1) h3 h4, ⟨by rw [List.length_set, ok.en.len], fun j d e => ?_, fun j es e => ?_, fun j l es fs b e1 e2 e3 e4 => ?_⟩, fun j es b e1 e2 => ?_, fun b eb => ?_⟩, hf, fun S' H' m => k S' H' (ss.trans m)⟩
    · rcases set_get e with ⟨rfl, e2, _⟩ | ⟨ne, e⟩
      · cases e2
        exact ⟨_, h1, a, vs, rfl, upd_same, RepL.mono ss _ _ h5⟩
      · obtain ⟨v, q1, q2⟩ := ok.en.val j d e
        exact ⟨v, q1, q2.mono ss⟩
    · rcases set_get e with ⟨rfl, e2, _⟩ | ⟨ne, e⟩
      · cases e2
      · obtain ⟨b, us, q1, q2, q3, q4, q5⟩ := ok.en.own j es e
        have nb : b ≠ a := fun z => by
          subst z
          exact ne (ok.en.sep i j ds es b e0 e h1 q1)
        exact ⟨b, us, q1, q2, by rw [upd_ne nb]; exact q3, q4, RepL.mono ss _ _ q5⟩
    · rcases set_get e1 with ⟨rfl, e5, _⟩ | ⟨_, e1⟩
      · cases e5
      rcases set_get e2 with ⟨rfl, e5, _⟩ | ⟨_, e2⟩
      · cases e5
      exact ok.en.sep j l es fs b e1 e2 e3 e4
    · rcases set_get e1 with ⟨rfl, e5, _⟩ | ⟨_, e1⟩
      · cases e5
      exact ok.fr j es b e1 e2
    · obtain ⟨q1, us, q2, q3⟩ := ok.hn b eb
      have nb : b ≠ a := fun z => h2 (by rw [← z]; exact eb)
      exact ⟨by rw [upd_ne nb]; exact q1, us, q2, RepL.mono ss _ _ q3⟩
  · exact ⟨hd, S0, H0, S, ρ, w, o, w', ok, hf, k⟩
section
variable {X : Cx} {st : Stmt} {sts rest body : List Stmt} {e e1 e2 tg iter test : Expr} {f f1 f2 : FS} {fe fe1 fe2 : FE} {fl : FL} {ft : FT} {pos p p2 pos' tpos : Pos}
theorem cs_freeze (i : Nat) (h : CS C X st f) : CS C X st (fFreeze i f) := ps_imp h freeze_sound

/-! ### for -/
def forLoop {α : Type} (bnd : α → En → En) (f : FS) : List α → En → Wd → Option (Out × Wd)
  | [], ρ, w => some (.nx ρ, w)
  | a :: as, ρ, w => (f (bnd a ρ) w).bind fun r => match r.1 with
    | .nx ρ1 => forLoop bnd f as ρ1 r.2
    | .ct ρ1 => forLoop bnd f as ρ1 r.2
    | .bk ρ1 => some (.nx ρ1, r.2)
    | .rt d => some (.rt d, r.2)
def fFor {α : Type} (bnd : α → En → En) (fi : FI α) (f : FS) : FS := fun ρ w => (fi ρ w).bind fun a => forLoop bnd f a.1 ρ a.2
def BindsF {α : Type} (RI : Gh → Hp → Hp → α → V → Prop) (K : PySem.W.Frag) (C : Addr) (bnd : α → En → En) (gt : TG) : Prop := ∀ (hd : Option Addr) (S0 H0 S H : Hp) (σ : L2.St) (ρ : En) (w : Wd) (a : α) (x : V) (Q : L2.St → Hp → Prop), OkS ⟨K, C, hd⟩ S0 H0 S H σ ρ w → RI ⟨K, C, hd⟩ S H a x →
  (∀ σ2, OkS ⟨K, C, hd⟩ S0 H0 S H σ2 (bnd a ρ) w → Q σ2 H) → gt x σ H Q
theorem for_sound {α : Type} {RI : Gh → Hp → Hp → α → V → Prop} {bnd : α → En → En} {fi : FI α} {gt : TG} (hb : BindsF RI K C bnd gt) : ∀ D σ H, canS K C (fFor bnd fi f) D σ H → tFor (canI RI K C fi) gt (canS K C f) D σ H := fun D σ H ⟨hd, S0, H0, S, ρ, w, o, w', ok, hf, k⟩ => by
  obtain ⟨⟨items, w1⟩, hx, hf⟩ := bind_some' hf
  refine ⟨hd, S, ρ, w, items, w1, ok.ok, hx, fun S1 H1 J s1 n1 wk => ?_⟩
  obtain ⟨Gd, Y, wJ, hG, hY⟩ := wk.ex
  refine for_it wJ (fun i σ' H' => ∃ S' ρ' wi, Same S1 S' ∧ OkS ⟨K, C, hd⟩ S0 H0 S' H' σ' ρ' wi ∧ forLoop bnd f (items.drop i) ρ' wi = some (o, w')) ?_ ?_ ?_ ?_
  · exact ⟨S1, ρ, w1, .refl _, ok.step s1 n1, hf⟩
  · rintro i σ' H' _ ⟨S', ρ', wi, m, ok', _⟩
    exact hG S' H' ⟨m, ok'.st.sh⟩
  · rintro i x σ' Hi Hx hi ⟨S', ρ', wi, m, ok', hlp⟩ hy
    have hg : items[i]? = some items[i] := List.getElem?_eq_getElem hi
    obtain ⟨S2, st2, ri⟩ := hY i S' Hi x Hx _ hg ⟨m, ok'.st.sh⟩ ok'.st.sh hy
    have ok2 := ok'.step st2.any (ok'.hn.pure st2)
    rw [List.drop_eq_getElem_cons hi] at hlp
    obtain ⟨⟨o1, w2⟩, h1, hlp⟩ := bind_some' hlp
    refine hb hd S0 H0 S2 Hx σ' ρ' wi items[i] x _ ok2 ri fun σ2 ok3 => ⟨hd, S0, H0, S2, _, wi, o1, w2, ok3, h1, fun S3 H3 m3 => ?_⟩
    have mA : Same S1 S3 := (m.trans st2.ss).trans m3
    cases o1 with
    | nx ρ1 => exact fun σ3 ok4 => ⟨S3, ρ1, w2, mA, ok4, hlp⟩
    | ct ρ1 => exact fun σ3 ok4 => ⟨S3, ρ1, w2, mA, ok4, hlp⟩
    | bk ρ1 =>
      cases hlp
      exact k S3 H3 (s1.ss.trans mA)
    | rt d =>
      cases hlp
      exact k S3 H3 (s1.ss.trans mA)
  · rintro σ' H' ⟨S', ρ', wi, m, ok', hlp⟩
    rw [List.drop_length] at hlp
    cases hlp
    exact k S' H' (s1.ss.trans m) σ' ok'
theorem bindsF1 {i : Nat} : BindsF RI1 K C (bnd1 i) (gName i) := fun hd S0 H0 S H σ ρ w a x Q ok r k => k _ (ok.setV r)
theorem bindsF2 {i j : Nat} : BindsF RI2 K C (bnd2 i j) (gTup K 2 (gCons (gName i) (gCons (gName j) gNil))) := fun hd S0 H0 S H σ ρ w a x Q ok r k => by
  obtain ⟨T, v, u, rfl, hT, r1, r2⟩ := r
  exact ⟨T, [v, u], rfl, .of hT, rfl, v, [u], rfl, u, [], rfl, rfl, k _ ((ok.setV r1).setV r2)⟩
theorem cs_for1 (i : Nat) {fi : FI D} (hp : PassesOwn (model X.prog X.w) X.A X.env X.xe) (hc : X.calm = true) (hi : CI1 C X tg iter fi) (hg : PG X tg (gName i)) (hb : CSs C X body f) (hs : ∀ x, foldedSetIterable iter X.env x = pure x := by intro _; rfl) :
    CS C X (.For tg iter body [] pos) (fFor (bnd1 i) fi f) := ps_imp (ps_for hp hc hi hg hb hs) (for_sound bindsF1)
theorem cs_for2 (i j : Nat) {fi : FI (D × D)} (hp : PassesOwn (model X.prog X.w) X.A X.env X.xe) (hc : X.calm = true) (hi : CI2 C X tg iter fi) (hg : PG X tg (gTup X.K 2 (gCons (gName i) (gCons (gName j) gNil)))) (hb : CSs C X body f) (hs : ∀ x, foldedSetIterable iter X.env x = pure x := by intro _; rfl) :
    CS C X (.For tg iter body [] pos) (fFor (bnd2 i j) fi f) := ps_imp (ps_for hp hc hi hg hb hs) (for_sound bindsF2)

/-! ### while -/
def whileLoop (ft : FT) (f : FS) : Nat → En → Wd → Option (Out × Wd)
  | 0, _, _ => none
  | n + 1, ρ, w => (ft ρ w).bind fun t => if t.1 = true then (f ρ t.2).bind fun r => match r.1 with
    | .nx ρ1 => whileLoop ft f n ρ1 r.2
    | .ct ρ1 => whileLoop ft f n ρ1 r.2
    | .bk ρ1 => some (.nx ρ1, r.2)
    | .rt d => some (.rt d, r.2) else some (.nx ρ, t.2)
def fWhile (n : Nat) (ft : FT) (f : FS) : FS := whileLoop ft f n
theorem while_sound {n : Nat} : ∀ D σ H, canS K C (fWhile n ft f) D σ H → tWhile (canT K C ft) (canS K C f) D σ H := fun D σ H ⟨hd, S0, H0, S, ρ, w, o, w', ok, hf, k⟩ => by
  refine ⟨fun m σ' H' => ∃ S' ρ' wi, Same S S' ∧ OkS ⟨K, C, hd⟩ S0 H0 S' H' σ' ρ' wi ∧ whileLoop ft f m ρ' wi = some (o, w'), ⟨n, S, ρ, w, .refl _, ok, hf⟩, ?_⟩
  rintro m σ' H' ⟨S', ρ', wi, mm, ok', hlp⟩
  cases m with
  | zero => cases hlp
  | succ m =>
    obtain ⟨⟨t, w1⟩, ht, hlp⟩ := bind_some' hlp
    refine ⟨hd, S', ρ', wi, t, w1, ok'.ok, ht, fun S1 H1 s1 n1 => ?_⟩
    have ok1 := ok'.step s1 n1
    have mA : Same S S1 := mm.trans s1.ss
    cases t with
    | true =>
      rw [if_pos rfl] at hlp
      obtain ⟨⟨o1, w2⟩, h1, hlp⟩ := bind_some' hlp
      refine iteT ⟨fun σ2 H2 => ∃ S2 ρ2 wj, Same S S2 ∧ OkS ⟨K, C, hd⟩ S0 H0 S2 H2 σ2 ρ2 wj ∧ whileLoop ft f m ρ2 wj = some (o, w'), fun σ2 H2 q => ⟨m, Nat.lt_succ_self m, q⟩, hd, S0, H0, S1, ρ', w1, o1, w2, ok1, h1, fun S3 H3 m3 => ?_⟩
      cases o1 with
      | nx ρ1 => exact fun σ3 ok4 => ⟨S3, ρ1, w2, mA.trans m3, ok4, hlp⟩
      | ct ρ1 => exact fun σ3 ok4 => ⟨S3, ρ1, w2, mA.trans m3, ok4, hlp⟩
      | bk ρ1 =>
        cases hlp
        exact k S3 H3 (mA.trans m3)
      | rt d =>
        cases hlp
        exact k S3 H3 (mA.trans m3)
    | false =>
      rw [if_neg Bool.false_ne_true] at hlp
      cases hlp
      exact iteF (k S1 H1 mA σ' ok1)
theorem cs_while (n : Nat) (hp : PassesOwn (model X.prog X.w) X.A X.env X.xe) (hc : CT C X test ft) (hb : CSs C X body f) : CS C X (.While test body [] pos) (fWhile n ft f) := ps_imp (ps_while hp hc hb) while_sound

/-! ### for a, b in enumerate(own list): if test: s = a; break -/
def findSet (i s : Nat) (ρ : En) (w : Wd) : Option (En × Wd) := match ρ[i]? with
  | some (.val d) => some (ρ.set s (.val d), w)
  | _ => none
theorem findSet_inv {i s : Nat} {ρ : En} {w : Wd} {r : En × Wd} (h : findSet i s ρ w = some r) : ∃ d, ρ[i]? = some (.val d) ∧ r = (ρ.set s (.val d), w) := by
  unfold findSet at h
  split at h
  · rename_i d e0
    cases h
    exact ⟨d, e0, rfl⟩
  · cases h
def findLoop (i j s : Nat) (ft : FT) : List (D × D) → En → Wd → Option (En × Wd)
  | [], ρ, w => some (ρ, w)
  | a :: as, ρ, w => (ft (bnd2 i j a ρ) w).bind fun t => if t.1 = true then findSet i s (bnd2 i j a ρ) t.2 else findLoop i j s ft as (bnd2 i j a ρ) t.2
def fFind (i j s : Nat) (fi : FI (D × D)) (ft : FT) : FS := fun ρ w => (fi ρ w).bind fun a => (findLoop i j s ft a.1 ρ a.2).map fun r => (.nx r.1, r.2)
theorem find_sound {i j s : Nat} {fi : FI (D × D)} :
    ∀ D σ H, canS K C (fFind i j s fi ft) D σ H → tFor (canIB RI2 K C fi) (gTup K 2 (gCons (gName i) (gCons (gName j) gNil))) (tIfS (canT K C ft) (tSeq (tAsg (tVar i) (gName s)) tBreak) tNext) D σ H := fun D σ H ⟨hd, S0, H0, S, ρ, w, o, w', ok, hf, k⟩ => by
  obtain ⟨⟨items, w1⟩, hx, hf⟩ := bind_some' hf
  obtain ⟨⟨ρF, w2⟩, hlp, hf⟩ := map_some' hf
  cases hf
  refine ⟨hd, S, ρ, w, items, w1, ok.ok, hx, fun S1 H1 J s1 n1 wk => ?_⟩
  obtain ⟨Gd, Y, wJ, hG, hY⟩ := wk.ex
  refine for_it wJ (fun n σ' H' => ∃ S' ρ' wi, Step hd S1 H1 S' H' ∧ OkS ⟨K, C, hd⟩ S0 H0 S' H' σ' ρ' wi ∧ findLoop i j s ft (items.drop n) ρ' wi = some (ρF, w2)) ?_ ?_ ?_ ?_
  · exact ⟨S1, ρ, w1, .refl s1.sh, ok.step s1 n1, hlp⟩
  · rintro n σ' H' _ ⟨S', ρ', wi, m, ok', _⟩
    exact hG S' H' m
  · rintro n x σ' Hi Hx hi ⟨S', ρ', wi, m, ok', hlp⟩ hy
    have hg : items[n]? = some items[n] := List.getElem?_eq_getElem hi
    obtain ⟨S2, st2, T, v, u, rfl, hT, r1, r2⟩ := hY n S' Hi x Hx _ hg m ok'.st.sh hy
    have ok2 := ok'.step st2.any (ok'.hn.pure st2)
    rw [List.drop_eq_getElem_cons hi] at hlp
    obtain ⟨⟨t, w3⟩, ht, hlp⟩ := bind_some' hlp
    refine ⟨T, [v, u], rfl, .of hT, rfl, v, [u], rfl, u, [], rfl, rfl, ?_⟩
    have ok3 : OkS ⟨K, C, hd⟩ S0 H0 S2 Hx ((σ'.set i (some v)).set j (some u)) (bnd2 i j items[n] ρ') wi := (ok2.setV r1).setV r2
    refine ⟨hd, S2, _, wi, t, w3, ok3.ok, ht, fun S3 H3 s3 n3 => ?_⟩
    have ok4 := ok3.step s3 n3
    have mA : Step hd S1 H1 S3 H3 := (m.trans st2.any).trans s3
    cases t with
    | true =>
      rw [if_pos rfl] at hlp
      obtain ⟨d, e0, e1⟩ := findSet_inv hlp
      cases e1
      obtain ⟨z, q1, q2⟩ := ok4.en.val i _ e0
      exact iteT ⟨z, q1, k S3 H3 (s1.ss.trans mA.ss) _ (ok4.setV q2)⟩
    | false =>
      rw [if_neg Bool.false_ne_true] at hlp
      exact iteF ⟨S3, _, w3, mA, ok4, hlp⟩
  · rintro σ' H' ⟨S', ρ', wi, m, ok', hlp⟩
    rw [List.drop_length] at hlp
    cases hlp
    exact k S' H' (s1.ss.trans m.ss) σ' ok'
theorem cs_find (i j s : Nat) {fi : FI (D × D)} {x y z x2 : Str} {px py pt pz px2 ps pb : Pos} {kt : Nat} (hp : PassesOwn (model X.prog X.w) X.A X.env X.xe) (hc : X.calm = true) (hi : CB2 C X (.Tuple [.Name x px, .Name y py] kt pt) iter fi)
    (hg : PG X (.Tuple [.Name x px, .Name y py] kt pt) (gTup X.K 2 (gCons (gName i) (gCons (gName j) gNil)))) (ht : CT C X test ft) (hv : PE X (.Name x2 px2) (tVar i)) (hN : X.N.Nodup) (hz : X.N[s]? = some z) (hzl : Loc X.env.scope z) (hsw : swapsWith (.Name x2 px2) (some (.Name z pz)) ps.line X.env = pure false)
    (hf : X.fn z = true ∨ X.env.scope.names.lookup z = some .local) (hs : ∀ x, foldedSetIterable iter X.env x = pure x := by intro _; rfl) :
    CS C X (.For (.Tuple [.Name x px, .Name y py] kt pt) iter [.If test [.Assign [.Name z pz] (.Name x2 px2) ps, .Break pb] [] p2] [] pos) (fFind i j s fi ft) :=
  ps_imp (ps_for hp hc hi hg (pss_one (ps_if ht (pss_cons (ps_set hN hz hzl hv hsw hf) (pss_one ps_break)) pss_nil)) hs) find_sound

/-! ### try: a body that raises nothing -/
theorem cs_try {x : Str} {c : Value} {suite : List Stmt} {b0 : Stmt} {np : Pos} (hs : X.stack = X.env :: X.outer) (hf : X.env.frame = some X.env.locals) (hc : Names X x c)
    (hb : ∀ (pn : List (Addr × Obj)) (xe : Value → Shared → Prop), PassesOwn (model X.prog X.w) X.A X.env xe → CSs C (X.tr pn xe) body f) :
    CS C X (.Try body [.ExceptHandler (some (.Name x np)) none (b0 :: suite) pos'] [] [] pos) f :=
  ps_imp (ps_try_only (tb := fun _ => canS X.K C f) (ts := fun _ _ _ => tNever) hs hf hc takes0 (fun W pn xe _ hp => hb pn xe hp) (fun a oe cls d pn _ _ => pss_never)) fun D σ H h => h
end

/-! ### a def's meaning -/
def startE (N : Nat) (ds : List D) : En := ds.map .val ++ List.replicate (N - ds.length) .no
def fnD (N : Nat) (f : FS) : Fn := fun ds w => match f (startE N ds) w with
  | some (.rt d, w') => some (d, w')
  | some (.nx _, w') => some (.non, w')
  | _ => none
theorem start_ok {g : Gh} {S H : Hp} {N : List Str} {ds : List D} {vs : List V} {w : Wd} (m : Same S H) (hn : HandOk g S H w) (r : RepL g S ds vs) : OkS g S H S H (L2.start N vs) (startE N.length ds) w := by
  have noOwn : ∀ (i : Nat) es, (startE N.length ds)[i]? ≠ some (Sl.own es) := fun i es e => by
    have hm := List.mem_of_getElem? e
    unfold startE at hm
    rcases List.mem_append.mp hm with hm | hm
    · obtain ⟨d, _, q⟩ := List.mem_map.mp hm
      cases q
    · cases (List.mem_replicate.mp hm).2
  refine ⟨.refl m, ⟨?_, fun i d e => ?_, fun i es e => absurd e (noOwn i es), fun i j es fs a e => absurd e (noOwn i es)⟩, fun i es a e => absurd e (noOwn i es), hn⟩
  · unfold L2.start startE
    rw [List.length_append, List.length_append, List.length_map, List.length_map, List.length_replicate, List.length_replicate, r.len]
  · unfold startE at e
    by_cases hi : i < ds.length
    · rw [List.getElem?_append_left (by rw [List.length_map]; exact hi), List.getElem?_map] at e
      obtain ⟨d', h1, h2⟩ := map_some' e
      cases h2
      obtain ⟨v, h3, h4⟩ := r.get h1
      refine ⟨v, ?_, h4⟩
      unfold L2.start
      rw [List.getElem?_append_left (by rw [List.length_map, r.len]; exact hi), List.getElem?_map, h3]
      rfl
    · rw [List.getElem?_append_right (by rw [List.length_map]; omega)] at e
      have hm := List.mem_of_getElem? e
      cases (List.mem_replicate.mp hm).2
theorem fn_meaning {P : Program} {w : World} {mg : Str → Option Value} {base : Heap} {x qual : Str} {params : Arguments} {body : List Stmt} {scope : Scope} {dvs : List V} {f : Addr} {fd : FuncData} {N ps : List Str} {k : Nat} {fb : FS}
    (F : FunD K x qual params body scope dvs [] f fd) (S : FnScope N ps scope)
    (hb : ∀ (cdv : Value) (A : Around) (outer : List Env) (s : Shared) (H : Hp) (E : XK), Room k (A.deeper (envOfC qual scope s.heap.objs.size f cdv)) → CSs C (cxOf CX0 P w K mg base N qual scope f cdv A outer s H E).nox body fb) :
    FnOk P w K mg base CX0 (k + 1) f fd ps (spOf K C ps.length (fnD N.length fb)) := by
  refine F.ok S (fun vs H Q E h => ?_) (fun cdv A outer s H vs Q E hr h => ⟨canS K C fb, PSs.nox (hb cdv A outer s H E hr), ?_⟩)
  · obtain ⟨hd, S', ds, w', d, w2, _, _, _, hl, _⟩ := h
    exact hl
  · obtain ⟨hd, S', ds, w', d, w2, m, hn, r, hl, hf, k⟩ := h
    unfold fnD at hf
    split at hf
    · rename_i d0 w0 e0
      cases hf
      exact ⟨hd, S', H, S', _, w', _, _, start_ok m hn r, e0, fun S1 H1 m1 v st n1 r1 => k v S1 H1 st n1 r1⟩
    · rename_i ρ0 w0 e0
      cases hf
      exact ⟨hd, S', H, S', _, w', _, _, start_ok m hn r, e0, fun S1 H1 m1 σ1 ok1 => k .non S1 H1 ok1.st ok1.hn rfl⟩
    · cases hf
end K39
end
section
set_option maxRecDepth 100000
set_option autoImplicit false
/-! S10: Field(..) and its __init__ -/
namespace K39
open PySem PySem.Spec PyProof.Rows L2
variable {K : PySem.W.Frag} {C : Addr}

/-! ### plain data: nothing of it hangs on an instance -/
mutual
def D.pl : D → Bool
  | .non => true
  | .bl _ => true
  | .int _ => true
  | .tup xs => plL xs
  | .lst xs => plL xs
  | .scr _ => false
  | .obj _ => false
  | .hand => false
def plL : List D → Bool
  | [] => true
  | d :: ds => d.pl && plL ds
end
mutual
theorem Rep.swap {g : Gh} {S : Hp} {a : Addr} {C' : Addr} {dx : Addr} {fs : List (Str × V)} {o : HO} (ha : S a = some (.ins C' dx fs)) : ∀ (d : D) (v : V), d.pl = true → Rep g S d v → Rep g (upd S a o) d v
  | .non, _, _, h => h
  | .bl _, _, _, h => h
  | .int _, _, _, h => h
  | .tup ds, _, p, h => by
    obtain ⟨b, vs, o1, r, h0, h1, h2⟩ := h
    have ne : b ≠ a := fun z => by
      rw [z, ha] at h1
      cases h1
    exact ⟨b, vs, o1, r, h0, by rw [upd_ne ne]; exact h1, RepL.swap ha ds vs p h2⟩
  | .lst ds, _, p, h => by
    obtain ⟨b, vs, r, h1, h2⟩ := h
    have ne : b ≠ a := fun z => by
      rw [z, ha] at h1
      cases h1
    exact ⟨b, vs, r, by rw [upd_ne ne]; exact h1, RepL.swap ha ds vs p h2⟩
  | .scr ns, _, p, h => by cases p
  | .obj ds, _, p, h => by cases p
  | .hand, _, p, h => by cases p
theorem RepL.swap {g : Gh} {S : Hp} {a : Addr} {C' : Addr} {dx : Addr} {fs : List (Str × V)} {o : HO} (ha : S a = some (.ins C' dx fs)) : ∀ (ds : List D) (vs : List V), plL ds = true → RepL g S ds vs → RepL g (upd S a o) ds vs
  | [], _, _, h => h
  | d :: ds, _, p, h => by
    obtain ⟨v, r, e, h1, h2⟩ := h
    have q : d.pl = true ∧ plL ds = true := by
      have p2 : (d.pl && plL ds) = true := p
      rw [Bool.and_eq_true] at p2
      exact p2
    exact ⟨v, r, e, Rep.swap ha d v q.1 h1, RepL.swap ha ds r q.2 h2⟩
end
def Sl.pl : Sl → Bool
  | .no => true
  | .val d => d.pl
  | .own _ => false
def enPl : En → Bool
  | [] => true
  | s :: r => s.pl && enPl r
theorem enPl_get : ∀ {ρ : En} {i : Nat} {s : Sl}, enPl ρ = true → ρ[i]? = some s → s.pl = true
  | [], _, _, _, h => by cases h
  | x :: r, i, s, p, h => by
    have p2 : (x.pl && enPl r) = true := p
    rw [Bool.and_eq_true] at p2
    cases i with
    | zero =>
      cases h
      exact p2.1
    | succ i => exact enPl_get p2.2 h
theorem putF_new : ∀ {ks : List Str} {vs : List V} {x : Str} {v : V}, ks.Nodup → ks[vs.length]? = some x → putF x v (ks.zip vs) = ks.zip (vs ++ [v])
  | [], vs, x, v, _, h => by cases h
  | k :: ks, [], x, v, _, h => by
    cases h
    show [(k, v)] = (k, v) :: ks.zip []
    rw [List.zip_nil_right]
  | k :: ks, u :: vs, x, v, nd, h => by
    have h2 : ks[vs.length]? = some x := h
    have ne : k ≠ x := fun z => (List.nodup_cons.mp nd).1 (by rw [z]; exact List.mem_of_getElem? h2)
    show (if k = x then (k, v) :: ks.zip vs else (k, u) :: putF x v (ks.zip vs)) = (k, u) :: ks.zip (vs ++ [v])
    rw [if_neg ne, putF_new (List.nodup_cons.mp nd).2 h2]

/-! ### the statements of __init__; slot 0 is self -/
abbrev FN := En → Wd → Option (En × Wd)
def canN (K : PySem.W.Frag) (C : Addr) (f : FN) : TS := fun D σ H => ∃ hd S0 H0 S a dx vs ρ w ρ' w', OkS ⟨K, C, hd⟩ S0 H0 S H σ ρ w ∧ H0 a = none ∧ S0 a = none ∧ σ[0]? = some (some (V.ref a)) ∧ S a = some (.ins C dx (attrs.zip vs)) ∧ f ρ w = some (ρ', w') ∧
  ∀ σ' S' H' vs', OkS ⟨K, C, hd⟩ S0 H0 S' H' σ' ρ' w' → σ'[0]? = some (some (V.ref a)) → S' a = some (.ins C dx (attrs.zip vs')) → D.nx σ' H'
section
variable {X : Cx} {st : Stmt} {sts rest : List Stmt} {e : Expr} {f f1 f2 : FN} {fe : FE} {ft : FT} {pos p p2 : Pos}
def nSeq (f1 f2 : FN) : FN := fun ρ w => (f1 ρ w).bind fun a => f2 a.1 a.2
theorem cn_one (h : PS X st (canN X.K C f)) : PSs X [st] (canN X.K C f) := pss_one h
theorem cn_cons (h1 : PS X st (canN X.K C f1)) (h2 : PSs X rest (canN X.K C f2)) : PSs X (st :: rest) (canN X.K C (nSeq f1 f2)) := pss_imp (pss_cons h1 h2) fun D σ H ⟨hd, S0, H0, S, a, dx, vs, ρ, w, ρ', w', ok, ha, na0, h0, hs, hf, k⟩ => by
  obtain ⟨⟨ρ1, w1⟩, h3, hf⟩ := bind_some' hf
  exact ⟨hd, S0, H0, S, a, dx, vs, ρ, w, ρ1, w1, ok, ha, na0, h0, hs, h3, fun σ1 S1 H1 vs1 ok1 q1 q2 => ⟨hd, S0, H0, S1, a, dx, vs1, ρ1, w1, ρ', w', ok1, ha, na0, q1, q2, hf, k⟩⟩
def nAsg (i : Nat) (fe : FE) : FN := fun ρ w => (fe ρ w).map fun a => (ρ.set (i + 1) (.val a.1), a.2)
theorem cn_asg (i : Nat) {x : Str} {px : Pos} (h : CE C X e fe) (hN : X.N.Nodup) (hi : X.N[i + 1]? = some x) (hx : Loc X.env.scope x) (hs : swapsWith e (some (.Name x px)) pos.line X.env = pure false) (hf : X.fn x = true ∨ X.env.scope.names.lookup x = some .local) :
    PS X (.Assign [.Name x px] e pos) (canN X.K C (nAsg i fe)) := ps_imp (ps_set hN hi hx h hs hf) fun D σ H ⟨hd, S0, H0, S, a, dx, vs, ρ, w, ρ', w', ok, ha, na0, h0, hs, hf, k⟩ => by
  obtain ⟨⟨d, w1⟩, h3, hf⟩ := map_some' hf
  cases hf
  refine ⟨hd, S, ρ, w, d, w1, ok.ok, h3, fun v S1 H1 s1 n1 r1 => k _ S1 H1 vs ((ok.step s1 n1).setV r1) ?_ (s1.ss _ _ hs)⟩
  rw [List.getElem?_set_ne (Nat.succ_ne_zero i)]
  exact h0
def nGuard (ft : FT) : FN := fun ρ w => (ft ρ w).bind fun a => if a.1 = true then none else some (ρ, a.2)
theorem cn_guard {b : List Stmt} (hc : CT C X e ft) : PS X (.If e b [] pos) (canN X.K C (nGuard ft)) := ps_imp (ps_if hc (css_never (C := C)) pss_nil) fun D σ H ⟨hd, S0, H0, S, a, dx, vs, ρ, w, ρ', w', ok, ha, na0, h0, hs, hf, k⟩ => by
  obtain ⟨⟨t, w1⟩, h3, hf⟩ := bind_some' hf
  refine ⟨hd, S, ρ, w, t, w1, ok.ok, h3, fun S1 H1 s1 n1 => ?_⟩
  cases t with
  | true => cases hf
  | false =>
    cases hf
    exact iteF (k σ S1 H1 vs (ok.step s1 n1) h0 (s1.ss _ _ hs))
def nFld (j : Nat) (fe : FE) : FN := fun ρ w => (fe ρ w).bind fun a => match ρ with
  | .val (.obj fs) :: r => if fs.length = j ∧ j < 10 ∧ a.1.pl = true ∧ plL fs = true ∧ enPl r = true ∧ plL a.2 = true then some (.val (.obj (fs ++ [a.1])) :: r, a.2) else none
  | _ => none
theorem cn_fld (j : Nat) {x y : Str} {py pos' : Pos} (hx : attrs[j]? = some x) (cl : Cls X.K C) (na : NoAttr X.K C x) (h : CE C X e fe) (hv : PE X (.Name y py) (tVar 0)) (hs : swapsWith e (some (.Attribute (.Name y py) x pos')) pos.line X.env = pure false) :
    PS X (.Assign [.Attribute (.Name y py) x pos'] e pos) (canN X.K C (nFld j fe)) := ps_imp (ps_fld hv h hs) fun D σ H ⟨hd, S0, H0, S, a, dx, vs, ρ, w, ρ', w', ok, ha, na0, h0, hs, hf, k⟩ => by
  obtain ⟨⟨d, w1⟩, h3, hf⟩ := bind_some' hf
  cases ρ with
  | nil => cases hf
  | cons s r =>
  cases s with
  | no => cases hf
  | own _ => cases hf
  | val d0 =>
  cases d0 with
  | obj fs =>
    dsimp only at hf
    split at hf
    · rename_i hc
      obtain ⟨hl, h10, pd, pf, pr, pw⟩ := hc
      cases hf
      refine ⟨hd, S, _, w, d, _, ok.ok, h3, fun v S1 H1 s1 n1 r1 => ?_⟩
      have ok1 := ok.step s1 n1
      have hs1 := s1.ss _ _ hs
      obtain ⟨v0, q1, q2⟩ := ok1.en.val 0 _ rfl
      rw [h0] at q1
      cases q1
      obtain ⟨a', dx', vs', e1, e2, _, e3⟩ := q2
      cases e1
      rw [hs1] at e2
      injection e2 with e2
      injection e2 with _ e4 e5
      rw [e5] at hs1
      have hl2 : vs'.length = j := by rw [e3.len]; exact hl
      have hH1 : H1 a = some (.ins C dx (attrs.zip vs')) := s1.sh _ _ hs1
      have hp : putF x v (attrs.zip vs') = attrs.zip (vs' ++ [v]) := putF_new attrs_nd (by rw [hl2]; exact hx)
      refine ⟨_, h0, a, C, dx, attrs.zip vs', rfl, hH1, cl, na, ?_, ?_⟩
      · rw [List.length_zip]
        have : attrs.length = 10 := rfl
        omega
      rw [hp]
      have sm : Same (upd S1 a (.ins C dx (attrs.zip (vs' ++ [v])))) (upd H1 a (.ins C dx (attrs.zip (vs' ++ [v])))) := fun b u e => by
        by_cases z : b = a
        · subst z
          rw [upd_same] at e ⊢
          exact e
        · rw [upd_ne z] at e ⊢
          exact s1.sh _ _ e
      have sL : ∀ (ds : List K39.D) (us : List V), plL ds = true → RepL ⟨X.K, C, hd⟩ S1 ds us → RepL ⟨X.K, C, hd⟩ (upd S1 a (.ins C dx (attrs.zip (vs' ++ [v])))) ds us := fun ds us p r => RepL.swap hs1 ds us p r
      have noOwn : ∀ (i : Nat) es, (Sl.val (.obj (fs ++ [d])) :: r)[i]? ≠ some (Sl.own es) := fun i es e => by
        cases i with
        | zero => cases e
        | succ i => cases enPl_get pr e
      refine k σ (upd S1 a (.ins C dx (attrs.zip (vs' ++ [v])))) _ (vs' ++ [v]) ⟨⟨fun b u e => ?_, sm, fun b u e ne => ?_, fun b u e => ?_, fun b u e n => ?_⟩, ⟨ok1.en.len, fun i d2 e => ?_, fun i es e => absurd e (noOwn i es), fun i j es fs2 b e5 => absurd e5 (noOwn i es)⟩, fun i es b e5 => absurd e5 (noOwn i es), fun b eb => ?_⟩ h0 upd_same
      · rw [upd_ne (ne_of_none e na0)]
        exact ok1.st.ss _ _ e
      · rw [upd_ne (ne_of_none e ha)]
        exact ok1.st.kp _ _ e ne
      · rw [upd_ne (ne_of_none e ha)]
        exact ok1.st.tr _ _ e
      · rw [upd_ne (ne_of_none e ha)]
        exact ok1.st.un _ _ e n
      · cases i with
        | zero =>
          cases e
          refine ⟨_, h0, a, dx, vs' ++ [v], rfl, upd_same, ?_, ?_⟩
          · rw [List.length_append]
            show fs.length + 1 ≤ 10
            omega
          · exact (sL _ _ pf e3).app (RepL.one (Rep.swap hs1 _ _ pd r1))
        | succ i =>
          obtain ⟨u, q3, q4⟩ := ok1.en.val (i + 1) d2 e
          exact ⟨u, q3, Rep.swap hs1 _ _ (enPl_get pr e) q4⟩
      · obtain ⟨q3, us, q4, q5⟩ := ok1.hn b eb
        have nb : b ≠ a := fun z => by
          rw [z, hs1] at q3
          cases q3
        exact ⟨by rw [upd_ne nb]; exact q3, us, by rw [upd_ne nb]; exact q4, sL _ _ pw q5⟩
    · cases hf
  | _ => cases hf
end

/-! ### Field(..) -/
def fieldD (N : Nat) (f : FN) : Fn := fun ds w => match f (startE N (.obj [] :: ds)) w with
  | some (.val (.obj fs) :: _, w') => some (.obj fs, w')
  | _ => none
theorem fieldD_inv {N : Nat} {f : FN} {ds : List D} {w : Wd} {d : D} {w' : Wd} (h : fieldD N f ds w = some (d, w')) : ∃ fs r, d = .obj fs ∧ f (startE N (.obj [] :: ds)) w = some (.val (.obj fs) :: r, w') := by
  unfold fieldD at h
  split at h
  · rename_i fs r w2 e0
    cases h
    exact ⟨fs, r, rfl, e0⟩
  · cases h
def spInit (K : PySem.W.Frag) (C : Addr) (n : Nat) (g : Fn) : Sp := fun us H Q _ => ∃ hd S H1 a dx ds vs w d w', H = upd (upd H1 dx (.own a)) a (.ins C dx []) ∧ H1 a = none ∧ H1 dx = none ∧ dx ≠ a ∧ Same S H1 ∧ HandOk ⟨K, C, hd⟩ S H1 w ∧ RepL ⟨K, C, hd⟩ S ds vs ∧ us = .ref a :: vs ∧ us.length = n ∧
  g ds w = some (d, w') ∧ ∀ S' H', Step hd S H1 S' H' → HandOk ⟨K, C, hd⟩ S' H' w' → Rep ⟨K, C, hd⟩ S' d (.ref a) → Q .non H'
theorem init_meaning {P : Program} {w : World} {mg : Str → Option Value} {base : Heap} {x qual : Str} {params : Arguments} {body : List Stmt} {scope : Scope} {dvs : List V} {f : Addr} {fd : FuncData} {N ps : List Str} {k : Nat} {fb : FN}
    (F : FunD K x qual params body scope dvs [] f fd) (Sc : FnScope N ps scope)
    (hb : ∀ (cdv : Value) (A : Around) (outer : List Env) (s : Shared) (H : Hp) (E : XK), Room k (A.deeper (envOfC qual scope s.heap.objs.size f cdv)) → PSs (cxOf CX0 P w K mg base N qual scope f cdv A outer s H E).nox body (canN K C fb)) :
    FnOk P w K mg base CX0 (k + 1) f fd ps (spInit K C ps.length (fieldD N.length fb)) := by
  refine F.ok Sc (fun vs H Q E h => ?_) (fun cdv A outer s H vs Q E hr h => ⟨canN K C fb, PSs.nox (hb cdv A outer s H E hr), ?_⟩)
  · obtain ⟨hd, S, H1, a, dx, ds, us, w1, d, w', _, _, _, _, _, _, _, _, hl, _⟩ := h
    exact hl
  · obtain ⟨hd, S, H1, a, dx, ds, us, w1, d, w', rfl, ha, hdx, ne, sm, hn, r, rfl, hl, hf, k⟩ := h
    obtain ⟨fs, rr, rfl, hf3⟩ := fieldD_inv hf
    have na : S a = none := sm.free ha
    have st0 : Step hd S H1 (upd S a (.ins C dx [])) (upd (upd H1 dx (.own a)) a (.ins C dx [])) := by
      have s1 : Step none S H1 S (upd H1 dx (.own a)) := Step.new sm hdx
      exact (s1.trans (Step.lay s1.sh (by rw [upd_ne ne.symm]; exact ha))).any
    have rs : RepL ⟨K, C, hd⟩ (upd S a (.ins C dx [])) (.obj [] :: ds) (.ref a :: us) := ⟨.ref a, us, rfl, ⟨a, dx, [], rfl, by rw [upd_same, List.zip_nil_right], Nat.zero_le _, rfl⟩, RepL.mono st0.ss _ _ r⟩
    have hn2 : HandOk ⟨K, C, hd⟩ (upd S a (.ins C dx [])) (upd (upd H1 dx (.own a)) a (.ins C dx [])) w1 := fun b eb => by
      obtain ⟨q1, vs2, q2, q3⟩ := hn b eb
      have nb : b ≠ a := ne_of_none q2 ha
      have nd : b ≠ dx := ne_of_none q2 hdx
      exact ⟨by rw [upd_ne nb]; exact q1, vs2, by rw [upd_ne nb, upd_ne nd]; exact q2, RepL.mono st0.ss _ _ q3⟩
    have ok0 : OkS ⟨K, C, hd⟩ (upd S a (.ins C dx [])) (upd (upd H1 dx (.own a)) a (.ins C dx [])) (upd S a (.ins C dx [])) (upd (upd H1 dx (.own a)) a (.ins C dx [])) (L2.start N (.ref a :: us)) (startE N.length (.obj [] :: ds)) w1 := start_ok st0.sh hn2 rs
    have noOwn : ∀ (i : Nat) es, (startE N.length (.obj [] :: ds))[i]? ≠ some (Sl.own es) := fun i es e => by
      have hm := List.mem_of_getElem? e
      unfold startE at hm
      rcases List.mem_append.mp hm with hm | hm
      · obtain ⟨d, _, q⟩ := List.mem_map.mp hm
        cases q
      · cases (List.mem_replicate.mp hm).2
    refine ⟨hd, S, H1, upd S a (.ins C dx []), a, dx, [], _, w1, _, w', ⟨st0, ok0.en, fun i es b e => absurd e (noOwn i es), ok0.hn⟩, ha, na, rfl, by rw [upd_same, List.zip_nil_right], hf3, fun σ' S' H' vs' ok' q1 q2 => ?_⟩
    refine k S' H' ok'.st ok'.hn ?_
    obtain ⟨v, q3, q4⟩ := ok'.en.val 0 _ rfl
    rw [q1] at q3
    cases q3
    exact q4
/-- the name x stands for a class of the meaning g -/
structure Maker (P : Program) (w : World) (K : PySem.W.Frag) (mg : Str → Option Value) (base : Heap) (C : Addr) (k : Nat) (x : Str) (n : Nat) (g : Fn) : Prop where
  ex : ∃ (f : Addr) (fd : FuncData) (ps : List Str), FnOk P w K mg base CX0 k f fd ps (spInit K C (n + 1) g) ∧ mg x = some (.ref C) ∧ Mk K C f ∧ Binds K fd ps []
theorem ce_make {X : Cx} {e : Expr} {es : List Expr} {fl : FL} {pos p : Pos} {k n : Nat} {x : Str} {g : Fn} (c : Maker X.prog X.w X.K X.mg X.base C k x n g) (hr : Room (k + 1) X.A) (hg : Gl X x) (ha : CA C X (e :: es) fl) (hdb : (x == ("__debug__" : Str)) = false := by decide)
    (he : starEach (e :: es) X.env = (false, eval e X.env) :: starEach es X.env := by rfl) (hpl : (backTo pos (starEach es X.env)).any (·.1) = false := by rfl) : CE C X (.Call (.Name x p) (e :: es) [] pos) (fCall g [] n fl) := by
  obtain ⟨f, fd, ps, F, hm, M, hb⟩ := c.ex
  refine pe_imp (pe_make M F hr hg hm hb .nil pass0 ha hdb he hpl) fun σ H Q ⟨hd', S, ρ, w, d, w', ok, hf, q⟩ => ?_
  obtain ⟨⟨xs, w1⟩, hx, hf⟩ := bind_some' hf
  split at hf
  · rename_i hl
    refine ⟨hd', S, ρ, w, xs, w1, ok, hx, fun vs S1 H1 s1 n1 r1 a dx h1 h2 h3 => ?_⟩
    rw [List.append_nil] at hf hl
    refine ⟨hd', S1, H1, a, dx, xs, vs, w1, d, w', rfl, h1, h2, h3, s1.sh, n1, r1, by rw [List.append_nil], ?_, hf, fun S2 H2 s2 n2 r => ⟨rfl, q _ S2 H2 (s1.trans s2) n2 r⟩⟩
    rw [List.length_cons, List.append_nil, r1.len, hl]
  · cases hf
end K39
end
section
set_option maxRecDepth 100000
set_option maxHeartbeats 0
/-! ### the text -/
namespace K39
open PySem PySem.Spec PyProof.Rows L2
def top (i : Nat) : Stmt := PySem.Challenge.pw_rankwords_k39_whole_divisions_zeros_and.main.body.getD i (.Pass ⟨0, 0, 0, 0⟩)
abbrev s_is_whole : Stmt := top 10
abbrev s_is_sequence : Stmt := top 11
abbrev s_power_of : Stmt := top 12
abbrev s_base_digits : Stmt := top 14
abbrev s_digits_value : Stmt := top 15
abbrev s_is_digit_row : Stmt := top 16
abbrev s_rest_by_monic : Stmt := top 17
abbrev s_has_divisor : Stmt := top 18
abbrev s_field_fault : Stmt := top 19
abbrev s_sums_of : Stmt := top 20
abbrev s_products_of : Stmt := top 21
abbrev s_check_thing : Stmt := top 22
abbrev s_check_things : Stmt := top 23
abbrev s_F_init : Stmt := inClass (top 24) 0
abbrev s_F_raised : Stmt := inClass (top 24) 2
abbrev s_F_plus : Stmt := inClass (top 24) 3
abbrev s_F_negative : Stmt := inClass (top 24) 5
abbrev s_F_times : Stmt := inClass (top 24) 6
abbrev s_F_inverse : Stmt := inClass (top 24) 7
abbrev s_F_over : Stmt := inClass (top 24) 8
abbrev s_F_stepped : Stmt := inClass (top 24) 9
abbrev s_F_multiple : Stmt := inClass (top 24) 10
abbrev s_F_digits_of : Stmt := inClass (top 24) 11
abbrev s_F_thing_of : Stmt := inClass (top 24) 12
abbrev s_checked_rows : Stmt := top 26
abbrev s_less_multiple : Stmt := top 27
abbrev s_reduced_rows : Stmt := top 28
abbrev s_lead_of : Stmt := top 29
abbrev s_echelon : Stmt := top 30
abbrev s_contrary : Stmt := top 31
abbrev s_meet_spaces : Stmt := top 32
abbrev s_things_space : Stmt := top 33
abbrev s_space_things : Stmt := top 34
abbrev s_holds_thing : Stmt := top 35
abbrev s_check_poly : Stmt := top 37
abbrev s_trimmed : Stmt := top 38
abbrev s_reached_value : Stmt := top 39
abbrev s_scaled_terms : Stmt := top 40
abbrev s_added_terms : Stmt := top 41
abbrev s_taken_terms : Stmt := top 42
abbrev s_nested_terms : Stmt := top 43
abbrev s_unit_things : Stmt := top 44
abbrev s_map_rows : Stmt := top 45
abbrev s_value_at : Stmt := top 46
abbrev s_put_into : Stmt := top 47
abbrev s_zeros_of : Stmt := top 48
abbrev s_parted_within : Stmt := top 50
abbrev s_parted_about : Stmt := top 51
abbrev s_checked_divisor : Stmt := top 52
abbrev s_divided_within : Stmt := top 53
abbrev s_divided_about : Stmt := top 54
abbrev s_last_rows : Stmt := top 55
abbrev s_common_parts : Stmt := top 56
abbrev s_common_about : Stmt := top 57
abbrev s_least_about : Stmt := top 58
abbrev s_widened_poly : Stmt := top 60
abbrev s_poly_of_space : Stmt := top 61
abbrev s_l_stir : Stmt := top 63
abbrev s_l_hand : Stmt := top 64
abbrev s_l_draw : Stmt := top 65
abbrev s_l_moduli : Stmt := top 66
abbrev s_l_power : Stmt := top 67
abbrev s_l_sums : Stmt := top 68
abbrev s_l_products : Stmt := top 69
abbrev s_l_world : Stmt := top 70
abbrev s_l_field : Stmt := top 71
abbrev s_l_inverse : Stmt := top 72
abbrev s_l_trim : Stmt := top 73
abbrev s_l_value : Stmt := top 74
abbrev s_l_added : Stmt := top 75
abbrev s_l_put : Stmt := top 76
abbrev s_l_poly : Stmt := top 77
abbrev s_l_given : Stmt := top 78
abbrev s_l_digits : Stmt := top 79
abbrev s_l_span : Stmt := top 80
abbrev s_l_first : Stmt := top 81
abbrev s_l_basis : Stmt := top 82
abbrev s_l_space_poly : Stmt := top 83
abbrev s_l_same : Stmt := top 84
abbrev s_l_two_spaces : Stmt := top 85
abbrev s_l_rows : Stmt := top 86
abbrev s_l_spaces_led : Stmt := top 87
abbrev s_l_parts : Stmt := top 88
abbrev s_l_zeros : Stmt := top 89
abbrev s_l_common_zeros : Stmt := top 90
abbrev s_l_put_zeros : Stmt := top 91
abbrev s_law : Stmt := top 92
abbrev FnP (K : PySem.W.Frag) (x : Str) (st : Stmt) (f : Addr) (fd : FuncData) : Prop := FunD K x x (defArgs st) (defBody st) (defScope st) [] [] f fd
/-! ### the head: facts by names, the run -/
def dd_is_whole : He.DefD := ⟨("is_whole", none), "is_whole", "is_whole", defArgs s_is_whole, defBody s_is_whole, defScope s_is_whole, [.non, .non], []⟩
def dd_is_sequence : He.DefD := ⟨("is_sequence", none), "is_sequence", "is_sequence", defArgs s_is_sequence, defBody s_is_sequence, defScope s_is_sequence, [], []⟩
def dd_power_of : He.DefD := ⟨("power_of", none), "power_of", "power_of", defArgs s_power_of, defBody s_power_of, defScope s_power_of, [], []⟩
def dd_base_digits : He.DefD := ⟨("base_digits", none), "base_digits", "base_digits", defArgs s_base_digits, defBody s_base_digits, defScope s_base_digits, [], []⟩
def dd_digits_value : He.DefD := ⟨("digits_value", none), "digits_value", "digits_value", defArgs s_digits_value, defBody s_digits_value, defScope s_digits_value, [], []⟩
def dd_is_digit_row : He.DefD := ⟨("is_digit_row", none), "is_digit_row", "is_digit_row", defArgs s_is_digit_row, defBody s_is_digit_row, defScope s_is_digit_row, [], []⟩
def dd_rest_by_monic : He.DefD := ⟨("rest_by_monic", none), "rest_by_monic", "rest_by_monic", defArgs s_rest_by_monic, defBody s_rest_by_monic, defScope s_rest_by_monic, [], []⟩
def dd_has_divisor : He.DefD := ⟨("has_divisor", none), "has_divisor", "has_divisor", defArgs s_has_divisor, defBody s_has_divisor, defScope s_has_divisor, [], []⟩
def dd_field_fault : He.DefD := ⟨("field_fault", none), "field_fault", "field_fault", defArgs s_field_fault, defBody s_field_fault, defScope s_field_fault, [], []⟩
def dd_sums_of : He.DefD := ⟨("sums_of", none), "sums_of", "sums_of", defArgs s_sums_of, defBody s_sums_of, defScope s_sums_of, [], []⟩
def dd_products_of : He.DefD := ⟨("products_of", none), "products_of", "products_of", defArgs s_products_of, defBody s_products_of, defScope s_products_of, [], []⟩
def dd_check_thing : He.DefD := ⟨("check_thing", none), "check_thing", "check_thing", defArgs s_check_thing, defBody s_check_thing, defScope s_check_thing, [.int 0], []⟩
def dd_check_things : He.DefD := ⟨("check_things", none), "check_things", "check_things", defArgs s_check_things, defBody s_check_things, defScope s_check_things, [], []⟩
def dd_F_init : He.DefD := ⟨("Field", some "__init__"), "__init__", "Field.__init__", defArgs s_F_init, defBody s_F_init, defScope s_F_init, [], []⟩
def dd_F_raised : He.DefD := ⟨("Field", some "raised"), "raised", "Field.raised", defArgs s_F_raised, defBody s_F_raised, defScope s_F_raised, [], []⟩
def dd_F_plus : He.DefD := ⟨("Field", some "plus"), "plus", "Field.plus", defArgs s_F_plus, defBody s_F_plus, defScope s_F_plus, [], []⟩
def dd_F_negative : He.DefD := ⟨("Field", some "negative"), "negative", "Field.negative", defArgs s_F_negative, defBody s_F_negative, defScope s_F_negative, [], []⟩
def dd_F_times : He.DefD := ⟨("Field", some "times"), "times", "Field.times", defArgs s_F_times, defBody s_F_times, defScope s_F_times, [], []⟩
def dd_F_inverse : He.DefD := ⟨("Field", some "inverse"), "inverse", "Field.inverse", defArgs s_F_inverse, defBody s_F_inverse, defScope s_F_inverse, [], []⟩
def dd_F_over : He.DefD := ⟨("Field", some "over"), "over", "Field.over", defArgs s_F_over, defBody s_F_over, defScope s_F_over, [], []⟩
def dd_F_stepped : He.DefD := ⟨("Field", some "stepped"), "stepped", "Field.stepped", defArgs s_F_stepped, defBody s_F_stepped, defScope s_F_stepped, [], []⟩
def dd_F_multiple : He.DefD := ⟨("Field", some "multiple"), "multiple", "Field.multiple", defArgs s_F_multiple, defBody s_F_multiple, defScope s_F_multiple, [], []⟩
def dd_F_digits_of : He.DefD := ⟨("Field", some "digits_of"), "digits_of", "Field.digits_of", defArgs s_F_digits_of, defBody s_F_digits_of, defScope s_F_digits_of, [], []⟩
def dd_F_thing_of : He.DefD := ⟨("Field", some "thing_of"), "thing_of", "Field.thing_of", defArgs s_F_thing_of, defBody s_F_thing_of, defScope s_F_thing_of, [], []⟩
def dd_checked_rows : He.DefD := ⟨("checked_rows", none), "checked_rows", "checked_rows", defArgs s_checked_rows, defBody s_checked_rows, defScope s_checked_rows, [], []⟩
def dd_less_multiple : He.DefD := ⟨("less_multiple", none), "less_multiple", "less_multiple", defArgs s_less_multiple, defBody s_less_multiple, defScope s_less_multiple, [], []⟩
def dd_reduced_rows : He.DefD := ⟨("reduced_rows", none), "reduced_rows", "reduced_rows", defArgs s_reduced_rows, defBody s_reduced_rows, defScope s_reduced_rows, [], []⟩
def dd_lead_of : He.DefD := ⟨("lead_of", none), "lead_of", "lead_of", defArgs s_lead_of, defBody s_lead_of, defScope s_lead_of, [], []⟩
def dd_echelon : He.DefD := ⟨("echelon", none), "echelon", "echelon", defArgs s_echelon, defBody s_echelon, defScope s_echelon, [], []⟩
def dd_contrary : He.DefD := ⟨("contrary", none), "contrary", "contrary", defArgs s_contrary, defBody s_contrary, defScope s_contrary, [], []⟩
def dd_meet_spaces : He.DefD := ⟨("meet_spaces", none), "meet_spaces", "meet_spaces", defArgs s_meet_spaces, defBody s_meet_spaces, defScope s_meet_spaces, [], []⟩
def dd_things_space : He.DefD := ⟨("things_space", none), "things_space", "things_space", defArgs s_things_space, defBody s_things_space, defScope s_things_space, [], []⟩
def dd_space_things : He.DefD := ⟨("space_things", none), "space_things", "space_things", defArgs s_space_things, defBody s_space_things, defScope s_space_things, [], []⟩
def dd_holds_thing : He.DefD := ⟨("holds_thing", none), "holds_thing", "holds_thing", defArgs s_holds_thing, defBody s_holds_thing, defScope s_holds_thing, [], []⟩
def dd_check_poly : He.DefD := ⟨("check_poly", none), "check_poly", "check_poly", defArgs s_check_poly, defBody s_check_poly, defScope s_check_poly, [.int 16], []⟩
def dd_trimmed : He.DefD := ⟨("trimmed", none), "trimmed", "trimmed", defArgs s_trimmed, defBody s_trimmed, defScope s_trimmed, [], []⟩
def dd_reached_value : He.DefD := ⟨("reached_value", none), "reached_value", "reached_value", defArgs s_reached_value, defBody s_reached_value, defScope s_reached_value, [], []⟩
def dd_scaled_terms : He.DefD := ⟨("scaled_terms", none), "scaled_terms", "scaled_terms", defArgs s_scaled_terms, defBody s_scaled_terms, defScope s_scaled_terms, [], []⟩
def dd_added_terms : He.DefD := ⟨("added_terms", none), "added_terms", "added_terms", defArgs s_added_terms, defBody s_added_terms, defScope s_added_terms, [], []⟩
def dd_taken_terms : He.DefD := ⟨("taken_terms", none), "taken_terms", "taken_terms", defArgs s_taken_terms, defBody s_taken_terms, defScope s_taken_terms, [], []⟩
def dd_nested_terms : He.DefD := ⟨("nested_terms", none), "nested_terms", "nested_terms", defArgs s_nested_terms, defBody s_nested_terms, defScope s_nested_terms, [], []⟩
def dd_unit_things : He.DefD := ⟨("unit_things", none), "unit_things", "unit_things", defArgs s_unit_things, defBody s_unit_things, defScope s_unit_things, [], []⟩
def dd_map_rows : He.DefD := ⟨("map_rows", none), "map_rows", "map_rows", defArgs s_map_rows, defBody s_map_rows, defScope s_map_rows, [], []⟩
def dd_value_at : He.DefD := ⟨("value_at", none), "value_at", "value_at", defArgs s_value_at, defBody s_value_at, defScope s_value_at, [], []⟩
def dd_put_into : He.DefD := ⟨("put_into", none), "put_into", "put_into", defArgs s_put_into, defBody s_put_into, defScope s_put_into, [], []⟩
def dd_zeros_of : He.DefD := ⟨("zeros_of", none), "zeros_of", "zeros_of", defArgs s_zeros_of, defBody s_zeros_of, defScope s_zeros_of, [], []⟩
def dd_parted_within : He.DefD := ⟨("parted_within", none), "parted_within", "parted_within", defArgs s_parted_within, defBody s_parted_within, defScope s_parted_within, [], []⟩
def dd_parted_about : He.DefD := ⟨("parted_about", none), "parted_about", "parted_about", defArgs s_parted_about, defBody s_parted_about, defScope s_parted_about, [], []⟩
def dd_checked_divisor : He.DefD := ⟨("checked_divisor", none), "checked_divisor", "checked_divisor", defArgs s_checked_divisor, defBody s_checked_divisor, defScope s_checked_divisor, [], []⟩
def dd_divided_within : He.DefD := ⟨("divided_within", none), "divided_within", "divided_within", defArgs s_divided_within, defBody s_divided_within, defScope s_divided_within, [], []⟩
def dd_divided_about : He.DefD := ⟨("divided_about", none), "divided_about", "divided_about", defArgs s_divided_about, defBody s_divided_about, defScope s_divided_about, [], []⟩
def dd_last_rows : He.DefD := ⟨("last_rows", none), "last_rows", "last_rows", defArgs s_last_rows, defBody s_last_rows, defScope s_last_rows, [], []⟩
def dd_common_parts : He.DefD := ⟨("common_parts", none), "common_parts", "common_parts", defArgs s_common_parts, defBody s_common_parts, defScope s_common_parts, [], []⟩
def dd_common_about : He.DefD := ⟨("common_about", none), "common_about", "common_about", defArgs s_common_about, defBody s_common_about, defScope s_common_about, [], []⟩
def dd_least_about : He.DefD := ⟨("least_about", none), "least_about", "least_about", defArgs s_least_about, defBody s_least_about, defScope s_least_about, [], []⟩
def dd_widened_poly : He.DefD := ⟨("widened_poly", none), "widened_poly", "widened_poly", defArgs s_widened_poly, defBody s_widened_poly, defScope s_widened_poly, [], []⟩
def dd_poly_of_space : He.DefD := ⟨("poly_of_space", none), "poly_of_space", "poly_of_space", defArgs s_poly_of_space, defBody s_poly_of_space, defScope s_poly_of_space, [], []⟩
def dd_l_stir : He.DefD := ⟨("_law_stir", none), "_law_stir", "_law_stir", defArgs s_l_stir, defBody s_l_stir, defScope s_l_stir, [], []⟩
def dd_l_hand : He.DefD := ⟨("_law_hand", none), "_law_hand", "_law_hand", defArgs s_l_hand, defBody s_l_hand, defScope s_l_hand, [], []⟩
def dd_l_draw : He.DefD := ⟨("_law_draw", none), "_law_draw", "_law_draw", defArgs s_l_draw, defBody s_l_draw, defScope s_l_draw, [], []⟩
def dd_l_moduli : He.DefD := ⟨("_law_moduli", none), "_law_moduli", "_law_moduli", defArgs s_l_moduli, defBody s_l_moduli, defScope s_l_moduli, [], []⟩
def dd_l_power : He.DefD := ⟨("_law_power", none), "_law_power", "_law_power", defArgs s_l_power, defBody s_l_power, defScope s_l_power, [], []⟩
def dd_l_sums : He.DefD := ⟨("_law_sums", none), "_law_sums", "_law_sums", defArgs s_l_sums, defBody s_l_sums, defScope s_l_sums, [], []⟩
def dd_l_products : He.DefD := ⟨("_law_products", none), "_law_products", "_law_products", defArgs s_l_products, defBody s_l_products, defScope s_l_products, [], []⟩
def dd_l_world : He.DefD := ⟨("_law_world", none), "_law_world", "_law_world", defArgs s_l_world, defBody s_l_world, defScope s_l_world, [], []⟩
def dd_l_field : He.DefD := ⟨("_law_field", none), "_law_field", "_law_field", defArgs s_l_field, defBody s_l_field, defScope s_l_field, [], []⟩
def dd_l_inverse : He.DefD := ⟨("_law_inverse", none), "_law_inverse", "_law_inverse", defArgs s_l_inverse, defBody s_l_inverse, defScope s_l_inverse, [], []⟩
def dd_l_trim : He.DefD := ⟨("_law_trim", none), "_law_trim", "_law_trim", defArgs s_l_trim, defBody s_l_trim, defScope s_l_trim, [], []⟩
def dd_l_value : He.DefD := ⟨("_law_value", none), "_law_value", "_law_value", defArgs s_l_value, defBody s_l_value, defScope s_l_value, [], []⟩
def dd_l_added : He.DefD := ⟨("_law_added", none), "_law_added", "_law_added", defArgs s_l_added, defBody s_l_added, defScope s_l_added, [], []⟩
def dd_l_put : He.DefD := ⟨("_law_put", none), "_law_put", "_law_put", defArgs s_l_put, defBody s_l_put, defScope s_l_put, [], []⟩
def dd_l_poly : He.DefD := ⟨("_law_poly", none), "_law_poly", "_law_poly", defArgs s_l_poly, defBody s_l_poly, defScope s_l_poly, [], []⟩
def dd_l_given : He.DefD := ⟨("_law_given", none), "_law_given", "_law_given", defArgs s_l_given, defBody s_l_given, defScope s_l_given, [], []⟩
def dd_l_digits : He.DefD := ⟨("_law_digits", none), "_law_digits", "_law_digits", defArgs s_l_digits, defBody s_l_digits, defScope s_l_digits, [], []⟩
def dd_l_span : He.DefD := ⟨("_law_span", none), "_law_span", "_law_span", defArgs s_l_span, defBody s_l_span, defScope s_l_span, [], []⟩
def dd_l_first : He.DefD := ⟨("_law_first", none), "_law_first", "_law_first", defArgs s_l_first, defBody s_l_first, defScope s_l_first, [], []⟩
def dd_l_basis : He.DefD := ⟨("_law_basis", none), "_law_basis", "_law_basis", defArgs s_l_basis, defBody s_l_basis, defScope s_l_basis, [], []⟩
def dd_l_space_poly : He.DefD := ⟨("_law_space_poly", none), "_law_space_poly", "_law_space_poly", defArgs s_l_space_poly, defBody s_l_space_poly, defScope s_l_space_poly, [], []⟩
def dd_l_same : He.DefD := ⟨("_law_same", none), "_law_same", "_law_same", defArgs s_l_same, defBody s_l_same, defScope s_l_same, [], []⟩
def dd_l_two_spaces : He.DefD := ⟨("_law_two_spaces", none), "_law_two_spaces", "_law_two_spaces", defArgs s_l_two_spaces, defBody s_l_two_spaces, defScope s_l_two_spaces, [], []⟩
def dd_l_rows : He.DefD := ⟨("_law_rows", none), "_law_rows", "_law_rows", defArgs s_l_rows, defBody s_l_rows, defScope s_l_rows, [], []⟩
def dd_l_spaces_led : He.DefD := ⟨("_law_spaces_led", none), "_law_spaces_led", "_law_spaces_led", defArgs s_l_spaces_led, defBody s_l_spaces_led, defScope s_l_spaces_led, [], []⟩
def dd_l_parts : He.DefD := ⟨("_law_parts", none), "_law_parts", "_law_parts", defArgs s_l_parts, defBody s_l_parts, defScope s_l_parts, [], []⟩
def dd_l_zeros : He.DefD := ⟨("_law_zeros", none), "_law_zeros", "_law_zeros", defArgs s_l_zeros, defBody s_l_zeros, defScope s_l_zeros, [], []⟩
def dd_l_common_zeros : He.DefD := ⟨("_law_common_zeros", none), "_law_common_zeros", "_law_common_zeros", defArgs s_l_common_zeros, defBody s_l_common_zeros, defScope s_l_common_zeros, [], []⟩
def dd_l_put_zeros : He.DefD := ⟨("_law_put_zeros", none), "_law_put_zeros", "_law_put_zeros", defArgs s_l_put_zeros, defBody s_l_put_zeros, defScope s_l_put_zeros, [], []⟩
def dd_law : He.DefD := ⟨("law", none), "law", "law", defArgs s_law, defBody s_law, defScope s_law, [], []⟩
def fn : List He.DefD := ([dd_is_whole, dd_is_sequence, dd_power_of, dd_base_digits, dd_digits_value, dd_is_digit_row, dd_rest_by_monic, dd_has_divisor, dd_field_fault, dd_sums_of, dd_products_of, dd_check_thing, dd_check_things, dd_F_init, dd_F_raised, dd_F_plus, dd_F_negative, dd_F_times, dd_F_inverse, dd_F_over, dd_F_stepped, dd_F_multiple, dd_F_digits_of, dd_F_thing_of, dd_checked_rows, dd_less_multiple, dd_reduced_rows, dd_lead_of, dd_echelon, dd_contrary] : List He.DefD) ++ ([dd_meet_spaces, dd_things_space, dd_space_things, dd_holds_thing, dd_check_poly, dd_trimmed, dd_reached_value, dd_scaled_terms, dd_added_terms, dd_taken_terms, dd_nested_terms, dd_unit_things, dd_map_rows, dd_value_at, dd_put_into, dd_zeros_of, dd_parted_within, dd_parted_about, dd_checked_divisor, dd_divided_within, dd_divided_about, dd_last_rows, dd_common_parts, dd_common_about, dd_least_about, dd_widened_poly, dd_poly_of_space, dd_l_stir, dd_l_hand, dd_l_draw] : List He.DefD) ++ ([dd_l_moduli, dd_l_power, dd_l_sums, dd_l_products, dd_l_world, dd_l_field, dd_l_inverse, dd_l_trim, dd_l_value, dd_l_added, dd_l_put, dd_l_poly, dd_l_given, dd_l_digits, dd_l_span, dd_l_first, dd_l_basis, dd_l_space_poly, dd_l_same, dd_l_two_spaces, dd_l_rows, dd_l_spaces_led, dd_l_parts, dd_l_zeros, dd_l_common_zeros, dd_l_put_zeros, dd_law] : List He.DefD)
def fa : List He.Fa := ([.glo "RankError", .glo "BadField", .glo "BadThing", .glo "ZeroThing", .glo "BadRow", .glo "BadPoly", .glo "NoDivisor", .glo "is_whole", .glo "is_sequence", .glo "power_of", .glo "base_digits", .glo "digits_value", .glo "is_digit_row", .glo "rest_by_monic", .glo "has_divisor", .glo "field_fault", .glo "sums_of", .glo "products_of", .glo "check_thing", .glo "check_things", .glo "Field", .glo "checked_rows", .glo "less_multiple", .glo "reduced_rows", .glo "lead_of", .glo "echelon", .glo "contrary", .glo "meet_spaces", .glo "things_space", .glo "space_things"] : List He.Fa) ++ ([.glo "holds_thing", .glo "check_poly", .glo "trimmed", .glo "reached_value", .glo "scaled_terms", .glo "added_terms", .glo "taken_terms", .glo "nested_terms", .glo "unit_things", .glo "map_rows", .glo "value_at", .glo "put_into", .glo "zeros_of", .glo "parted_within", .glo "parted_about", .glo "checked_divisor", .glo "divided_within", .glo "divided_about", .glo "last_rows", .glo "common_parts", .glo "common_about", .glo "least_about", .glo "widened_poly", .glo "poly_of_space", .glo "_law_stir", .glo "_law_hand", .glo "_law_draw", .glo "_law_moduli", .glo "_law_power", .glo "_law_sums"] : List He.Fa) ++ ([.glo "_law_products", .glo "_law_world", .glo "_law_field", .glo "_law_inverse", .glo "_law_trim", .glo "_law_value", .glo "_law_added", .glo "_law_put", .glo "_law_poly", .glo "_law_given", .glo "_law_digits", .glo "_law_span", .glo "_law_first", .glo "_law_basis", .glo "_law_space_poly", .glo "_law_same", .glo "_law_two_spaces", .glo "_law_rows", .glo "_law_spaces_led", .glo "_law_parts", .glo "_law_zeros", .glo "_law_common_zeros", .glo "_law_put_zeros", .glo "law", .free "abs", .free "all", .free "any", .free "bool", .free "enumerate", .free "int"] : List He.Fa) ++ ([.free "isinstance", .free "len", .free "list", .free "max", .free "range", .free "reversed", .free "sorted", .free "tuple", .free "zip", .cls "Field", .mkr "Field", .noat "Field" "prime", .noat "Field" "modulus", .noat "Field" "degree", .noat "Field" "size", .noat "Field" "digit_rows", .noat "Field" "sum_rows", .noat "Field" "product_rows", .noat "Field" "negatives", .noat "Field" "inverses", .noat "Field" "step_row", .meth "Field" "raised", .meth "Field" "plus", .meth "Field" "negative", .meth "Field" "times", .meth "Field" "inverse", .meth "Field" "over", .meth "Field" "stepped", .meth "Field" "multiple", .meth "Field" "digits_of"] : List He.Fa) ++ ([.meth "Field" "thing_of"] : List He.Fa)
def loose : List PySem.Str := (["_wall", "RankError", "BadField", "BadThing", "ZeroThing", "BadRow", "BadPoly", "NoDivisor", "is_whole", "is_sequence", "power_of", "base_digits", "digits_value", "is_digit_row", "rest_by_monic", "has_divisor", "field_fault", "sums_of", "products_of", "check_thing", "check_things", "Field", "checked_rows", "less_multiple", "reduced_rows", "lead_of", "echelon", "contrary", "meet_spaces", "things_space"] : List PySem.Str) ++ (["space_things", "holds_thing", "check_poly", "trimmed", "reached_value", "scaled_terms", "added_terms", "taken_terms", "nested_terms", "unit_things", "map_rows", "value_at", "put_into", "zeros_of", "parted_within", "parted_about", "checked_divisor", "divided_within", "divided_about", "last_rows", "common_parts", "common_about", "least_about", "widened_poly", "poly_of_space", "_law_stir", "_law_hand", "_law_draw", "_law_moduli", "_law_power"] : List PySem.Str) ++ (["_law_sums", "_law_products", "_law_world", "_law_field", "_law_inverse", "_law_trim", "_law_value", "_law_added", "_law_put", "_law_poly", "_law_given", "_law_digits", "_law_span", "_law_first", "_law_basis", "_law_space_poly", "_law_same", "_law_two_spaces", "_law_rows", "_law_spaces_led", "_law_parts", "_law_zeros", "_law_common_zeros", "_law_put_zeros"] : List PySem.Str)
end K39
end
section
set_option maxRecDepth 100000
set_option maxHeartbeats 0
/-! ### the meanings -/
namespace K39
open PySem PySem.Spec PyProof.Rows L2
def f_is_whole : FS := (fSeq (fIf (ftOr (ftNot (ftVal (fIsi "int" (fVar 0)))) (ftVal (fIsi "bool" (fVar 0)))) (fRet (fC (.bl false))) fPass)
  (fSeq (fIf (ftAnd (ftVal (fOp dIsNot (fVarB 1) (fC .non))) (ftVal (fOp dLt (fVarB 0) (fVarB 1)))) (fRet (fC (.bl false))) fPass)
  (fRet (fOr (fOp dIs (fVarB 2) (fC .non)) (fOp dLe (fVarB 0) (fVarB 2))))))
def m_is_whole : Fn := fnD 3 f_is_whole
def f_is_sequence : FS := (fRet (fIsi2 "list" "tuple" (fVar 0)))
def m_is_sequence : Fn := fnD 1 f_is_sequence
def b_power_of_1 : FS := (fAsg 2 (fOp dMul (fVarB 2) (fVarB 0)))
def f_power_of : FS := (fSeq (fAsg 2 (fC (.int 1)))
  (fSeq (fFor (bnd1 3) (fRng (fCons (fVar 1) fNil)) b_power_of_1)
  (fRet (fVar 2))))
def m_power_of : Fn := fnD 4 f_power_of
def b_base_digits_1 : FS := (fSeq (fApp 3 (fOp dMod (fVarB 2) (fVarB 0)))
  (fAsg 2 (fOp dDiv (fVarB 2) (fVarB 0))))
def f_base_digits : FS := (fSeq (fOwn 3 (fLst fNil))
  (fSeq (fFor (bnd1 4) (fRng (fCons (fVar 1) fNil)) b_base_digits_1)
  (fRet (fOp1 dTuple (fVarB 3)))))
def m_base_digits : Fn := fnD 5 f_base_digits
def b_digits_value_1 : FS := (fAsg 2 (fOp dAdd (fOp dMul (fVarB 2) (fVarB 0)) (fVarB 3)))
def f_digits_value : FS := (fSeq (fAsg 2 (fC (.int 0)))
  (fSeq (fFor (bnd1 3) (fRev (asE (fOpN1 nList (fVarB 1)))) b_digits_value_1)
  (fRet (fVar 2))))
def m_digits_value : Fn := fnD 4 f_digits_value
def f_is_digit_row : FS := (fSeq (fIf (ftOr (ftNot (ftVal (fCall m_is_sequence [] 1 (fCons (fVar 2) fNil)))) (ftVal (fOp dNe (fOp1 dLen (fVarB 2)) (fVarB 1)))) (fRet (fC (.bl false))) fPass)
  (fRet (fOp1 dAll (asE (fLc [3] (bnd1 3) (fItems (fVarB 2)) ftYes (fCall m_is_whole [] 3 (fCons (fVar 3) (fCons (fC (.int 0)) (fCons (fOp dSub (fVarB 0) (fC (.int 1))) fNil)))))))))
def m_is_digit_row : Fn := fnD 4 f_is_digit_row
def b_rest_by_monic_1 : FS := (fSeq (fAsg 8 (fOp dAdd (fOp dSub (fVarB 5) (fVarB 4)) (fVarB 7)))
  (fSto 3 (fVar 8) (fOp dMod (fOp dSub (fOp dIx (fVarB 3) (fVarB 8)) (fOp dMul (fVarB 6) (fOp dIx (fVarB 2) (fVarB 7)))) (fVarB 0))))
def b_rest_by_monic_2 : FS := (fSeq (fAsg 6 (fOp dIx (fVarB 3) (fVarB 5)))
  (fFor (bnd1 7) (fRng (fCons (fOp dAdd (fVarB 4) (fC (.int 1))) fNil)) b_rest_by_monic_1))
def f_rest_by_monic : FS := (fSeq (fOwn 3 (fOpN1 nList (fVarB 1)))
  (fSeq (fAsg 4 (fOp dSub (fOp1 dLen (fVarB 2)) (fC (.int 1))))
  (fSeq (fFor (bnd1 5) (fRng (fCons (fOp dSub (fOp1 dLen (fVarB 3)) (fC (.int 1))) (fCons (fOp dSub (fVarB 4) (fC (.int 1))) (fCons (fNeg (fC (.int 1))) fNil)))) b_rest_by_monic_2)
  (fRet (fSl (fVarB 3) fNo (fPart (fVar 4)))))))
def m_rest_by_monic : Fn := fnD 9 f_rest_by_monic
def b_has_divisor_1 : FS := (fSeq (fAsg 4 (fOp dAdd (fCall m_base_digits [] 3 (fCons (fVar 0) (fCons (fVar 2) (fCons (fVar 3) fNil)))) (fTup (fCons (fC (.int 1)) fNil))))
  (fIf (ftNot (ftVal (fOp1 dAny (fCall m_rest_by_monic [] 3 (fCons (fVar 0) (fCons (fVar 1) (fCons (fVar 4) fNil))))))) (fRet (fC (.bl true))) fPass))
def b_has_divisor_2 : FS := (fFor (bnd1 3) (fRng (fCons (fCall m_power_of [] 2 (fCons (fVar 0) (fCons (fVar 2) fNil))) fNil)) b_has_divisor_1)
def f_has_divisor : FS := (fSeq (fFor (bnd1 2) (fRng (fCons (fC (.int 1)) (fCons (fOp dAdd (fOp dDiv (fOp dSub (fOp1 dLen (fVarB 1)) (fC (.int 1))) (fC (.int 2))) (fC (.int 1))) fNil))) b_has_divisor_2)
  (fRet (fC (.bl false))))
def m_has_divisor : Fn := fnD 5 f_has_divisor
def f_field_fault : FS := (fSeq (fIf (ftNot (ftVal (fCall m_is_whole [] 3 (fCons (fVar 0) (fCons (fC (.int 2)) (fCons (fC (.int 3)) fNil)))))) fNeverS fPass)
  (fSeq (fIf (ftOr (ftNot (ftVal (fCall m_is_sequence [] 1 (fCons (fVar 1) fNil)))) (ftNot (ftChain dLe dLe (fC (.int 2)) (fOp1 dLen (fVarB 1)) (fC (.int 5))))) fNeverS fPass)
  (fSeq (fIf (ftOr (ftNot (ftVal (fCall m_is_digit_row [] 3 (fCons (fVar 0) (fCons (fOp1 dLen (fVarB 1)) (fCons (fVar 1) fNil)))))) (ftVal (fOp dNe (fOp dIx (fVarB 1) (fNeg (fC (.int 1)))) (fC (.int 1))))) fNeverS fPass)
  (fSeq (fIf (ftVal (fOp dGt (fCall m_power_of [] 2 (fCons (fVar 0) (fCons (fOp dSub (fOp1 dLen (fVarB 1)) (fC (.int 1))) fNil))) (fC (.int 27)))) fNeverS fPass)
  (fSeq (fIf (ftVal (fCall m_has_divisor [] 2 (fCons (fVar 0) (fCons (fVar 1) fNil)))) fNeverS fPass)
  (fRet (fC .non)))))))
def m_field_fault : Fn := fnD 2 f_field_fault
def b_sums_of_1 : FS := (fApp 4 (fCall m_digits_value [] 2 (fCons (fVar 0) (fCons (asE (fLc [6, 7] (bnd2 6 7) (fZip (fVar 3) (fVar 5)) ftYes (fOp dMod (fOp dAdd (fVarB 6) (fVarB 7)) (fVarB 0)))) fNil))))
def b_sums_of_2 : FS := (fSeq (fOwn 4 (fLst fNil))
  (fSeq (fFor (bnd1 5) (fItems (fVar 1)) b_sums_of_1)
  (fApp 2 (fOp1 dTuple (fVarB 4)))))
def f_sums_of : FS := (fSeq (fOwn 2 (fLst fNil))
  (fSeq (fFor (bnd1 3) (fItems (fVar 1)) b_sums_of_2)
  (fRet (fOp1 dTuple (fVarB 2)))))
def m_sums_of : Fn := fnD 8 f_sums_of
def b_products_of_1 : FS := (fSeq (fApp 7 (fCall m_digits_value [] 2 (fCons (fVar 0) (fCons (fVar 8) fNil))))
  (fAsg 8 (fCall m_rest_by_monic [] 3 (fCons (fVar 0) (fCons (asE (fOpN nCat (asE (fLst (fCons (fC (.int 0)) fNil))) (fVarB 8))) (fCons (fVar 1) fNil))))))
def b_products_of_2 : FS := (fApp 10 (fOp dIx (fOp dIx (fVarB 3) (fOp dIx (fVarB 10) (fOp dSub (fOp1 dLen (fVarB 10)) (fVarB 13)))) (fVarB 12)))
def b_products_of_3 : FS := (fSeq (fAsg 12 (fOp dIx (fVarB 7) (fVarB 11)))
  (fSeq (fAsg 13 (fOp1 dLen (fVarB 10)))
  (fFor (bnd1 9) (fRng (fCons (fOp dMul (fOp dSub (fVarB 0) (fC (.int 1))) (fVarB 13)) fNil)) b_products_of_2)))
def b_products_of_4 : FS := (fSeq (fOwn 7 (fLst fNil))
  (fSeq (fAsg 8 (asE (fOpN1 nList (fVarB 6))))
  (fSeq (fFor (bnd1 9) (fRng (fCons (fVar 4) fNil)) b_products_of_1)
  (fSeq (fOwn 10 (fLst (fCons (fC (.int 0)) fNil)))
  (fSeq (fFor (bnd1 11) (fRng (fCons (fVar 4) fNil)) b_products_of_3)
  (fApp 5 (fOp1 dTuple (fVarB 10))))))))
def f_products_of : FS := (fSeq (fAsg 4 (fOp dSub (fOp1 dLen (fVarB 1)) (fC (.int 1))))
  (fSeq (fOwn 5 (fLst fNil))
  (fSeq (fFor (bnd1 6) (fItems (fVar 2)) b_products_of_4)
  (fRet (fOp1 dTuple (fVarB 5))))))
def m_products_of : Fn := fnD 14 f_products_of
def f_check_thing : FS := (fSeq (fIf (ftNot (ftVal (fCall m_is_whole [] 3 (fCons (fVar 1) (fCons (fC (.int 0)) (fCons (fOp dSub (fFld 3 (fVar 0)) (fC (.int 1))) fNil)))))) fNeverS fPass)
  (fRet (fVar 1)))
def m_check_thing : Fn := fnD 3 f_check_thing
def b_check_things_1 : FS := (fDrop (fCall m_check_thing [] 3 (fCons (fVar 0) (fCons (fVar 4) (fCons (fVar 3) fNil)))))
def f_check_things : FS := (fSeq (fIf (ftOr (ftNot (ftVal (fCall m_is_sequence [] 1 (fCons (fVar 1) fNil)))) (ftVal (fOp dGt (fOp1 dLen (fVarB 1)) (fVarB 2)))) fNeverS fPass)
  (fSeq (fFor (bnd2 3 4) (fEnum (fVar 1)) b_check_things_1)
  (fRet (fOp1 dTuple (fVarB 1)))))
def m_check_things : Fn := fnD 5 f_check_things
def b_F_raised_1 : FS := (fAsg 2 (fOp dIx (fOp dIx (fFld 6 (fVar 0)) (fVarB 2)) (fVarB 1)))
def f_F_raised : FS := (fSeq (fAsg 2 (fVar 1))
  (fSeq (fFor (bnd1 3) (fRng (fCons (fOp dSub (fFld 0 (fVar 0)) (fC (.int 1))) fNil)) b_F_raised_1)
  (fRet (fVar 2))))
def m_F_raised : Fn := fnD 4 f_F_raised
def f_F_init : FN := (nSeq (nAsg 2 (fCall m_field_fault [] 2 (fCons (fVar 1) (fCons (fVar 2) fNil))))
  (nSeq (nGuard (ftVal (fOp dIsNot (fVarB 3) (fC .non))))
  (nSeq (nFld 0 (fVar 1))
  (nSeq (nFld 1 (fOp1 dTuple (fVarB 2)))
  (nSeq (nFld 2 (fOp dSub (fOp1 dLen (fFld 1 (fVar 0))) (fC (.int 1))))
  (nSeq (nFld 3 (fCall m_power_of [] 2 (fCons (fVar 1) (fCons (fFld 2 (fVar 0)) fNil))))
  (nSeq (nFld 4 (fOp1 dTuple (asE (fLc [4] (bnd1 4) (fRng (fCons (fFld 3 (fVar 0)) fNil)) ftYes (fCall m_base_digits [] 3 (fCons (fVar 1) (fCons (fFld 2 (fVar 0)) (fCons (fVar 4) fNil))))))))
  (nSeq (nFld 5 (fCall m_sums_of [] 2 (fCons (fVar 1) (fCons (fFld 4 (fVar 0)) fNil))))
  (nSeq (nFld 6 (fCall m_products_of [] 4 (fCons (fVar 1) (fCons (fFld 1 (fVar 0)) (fCons (fFld 4 (fVar 0)) (fCons (fFld 5 (fVar 0)) fNil))))))
  (nSeq (nFld 7 (fOp1 dTuple (asE (fLc [5] (bnd1 5) (fItems (fFld 5 (fVar 0))) ftYes (fIdxT (fVar 5) (fC (.int 0)))))))
  (nSeq (nFld 8 (fOp dAdd (fTup (fCons (fC (.int 0)) fNil)) (fOp1 dTuple (asE (fLc [5] (bnd1 5) (fItems (fSl (fFld 6 (fVar 0)) (fPart (fC (.int 1))) fNo)) ftYes (fIdxT (fVar 5) (fC (.int 1))))))))
  (nFld 9 (fOp1 dTuple (asE (fLc [4] (bnd1 4) (fRng (fCons (fFld 3 (fVar 0)) fNil)) ftYes (fMeth m_F_raised 2 (fVar 0) (fCons (fVar 4) fNil)))))))))))))))))
def m_F_init : Fn := fieldD 6 f_F_init
def lv_F_init : Nat := 4
def f_F_plus : FS := (fRet (fOp dIx (fOp dIx (fFld 5 (fVar 0)) (fVarB 1)) (fVarB 2)))
def m_F_plus : Fn := fnD 3 f_F_plus
def f_F_negative : FS := (fRet (fOp dIx (fFld 7 (fVar 0)) (fVarB 1)))
def m_F_negative : Fn := fnD 2 f_F_negative
def f_F_times : FS := (fRet (fOp dIx (fOp dIx (fFld 6 (fVar 0)) (fVarB 1)) (fVarB 2)))
def m_F_times : Fn := fnD 3 f_F_times
def f_F_inverse : FS := (fSeq (fIf (ftVal (fOp dEq (fVarB 1) (fC (.int 0)))) fNeverS fPass)
  (fRet (fOp dIx (fFld 8 (fVar 0)) (fVarB 1))))
def m_F_inverse : Fn := fnD 2 f_F_inverse
def f_F_over : FS := (fRet (fOp dIx (fOp dIx (fFld 6 (fVar 0)) (fVarB 1)) (fMeth m_F_inverse 2 (fVar 0) (fCons (fVar 2) fNil))))
def m_F_over : Fn := fnD 3 f_F_over
def b_F_stepped_1 : FS := (fAsg 3 (fOp dIx (fFld 9 (fVar 0)) (fVarB 3)))
def f_F_stepped : FS := (fSeq (fAsg 3 (fVar 1))
  (fSeq (fFor (bnd1 4) (fRng (fCons (fOp dMod (fVarB 2) (fFld 2 (fVar 0))) fNil)) b_F_stepped_1)
  (fRet (fVar 3))))
def m_F_stepped : Fn := fnD 5 f_F_stepped
def b_F_multiple_1 : FS := (fAsg 3 (fOp dIx (fOp dIx (fFld 5 (fVar 0)) (fVarB 3)) (fVarB 2)))
def f_F_multiple : FS := (fSeq (fAsg 3 (fC (.int 0)))
  (fSeq (fFor (bnd1 4) (fRng (fCons (fOp dMod (fVarB 1) (fFld 0 (fVar 0))) fNil)) b_F_multiple_1)
  (fRet (fVar 3))))
def m_F_multiple : Fn := fnD 5 f_F_multiple
def f_F_digits_of : FS := (fRet (fOp dIx (fFld 4 (fVar 0)) (fVarB 1)))
def m_F_digits_of : Fn := fnD 2 f_F_digits_of
def f_F_thing_of : FS := (fRet (fCall m_digits_value [] 2 (fCons (fFld 0 (fVar 0)) (fCons (fVar 1) fNil))))
def m_F_thing_of : Fn := fnD 2 f_F_thing_of
def b_checked_rows_1 : FS := (fIf (ftNot (ftVal (fCall m_is_digit_row [] 3 (fCons (fVar 0) (fCons (fVar 1) (fCons (fVar 4) fNil)))))) fNeverS fPass)
def f_checked_rows : FS := (fSeq (fIf (ftNot (ftVal (fCall m_is_sequence [] 1 (fCons (fVar 2) fNil)))) fNeverS fPass)
  (fSeq (fFor (bnd2 3 4) (fEnum (fVar 2)) b_checked_rows_1)
  (fRet (asE (fLc [4] (bnd1 4) (fItems (fVarB 2)) ftYes (fOp1 dTuple (fVarB 4)))))))
def m_checked_rows : Fn := fnD 5 f_checked_rows
def f_less_multiple : FS := (fRet (asE (fLc [4, 5] (bnd2 4 5) (fZip (fVar 1) (fVar 3)) ftYes (fOp dMod (fOp dSub (fVarB 4) (fOp dMul (fVarB 2) (fVarB 5))) (fVarB 0)))))
def m_less_multiple : Fn := fnD 6 f_less_multiple
def b_reduced_rows_1 : FS := (fSeq (fAsg 7 (fNeg (fC (.int 1))))
  (fSeq (fFind 8 4 7 (fEnum (fVarB 3)) (ftVal (fOp dNe (fOp dIx (fVarB 4) (fVarB 6)) (fC (.int 0)))))
  (fSeq (fIf (ftVal (fOp dLt (fVarB 7) (fC (.int 0)))) fCont fPass)
  (fSeq (fPop 9 3 (fVar 7))
  (fSeq (fAsg 9 (asE (fLc [10] (bnd1 10) (fItems (fVarB 9)) ftYes (fOp dMod (fOp dMul (fOp dIx (fVarB 9) (fVarB 6)) (fVarB 10)) (fVarB 0)))))
  (fSeq (fOwn 3 (fLc [4] (bnd1 4) (fItems (fVarB 3)) ftYes (fCall m_less_multiple [] 4 (fCons (fVar 0) (fCons (fVar 4) (fCons (fOp dIx (fVarB 4) (fVarB 6)) (fCons (fVar 9) fNil)))))))
  (fSeq (fOwn 5 (fLc [4] (bnd1 4) (fItems (fVarB 5)) ftYes (fCall m_less_multiple [] 4 (fCons (fVar 0) (fCons (fVar 4) (fCons (fOp dIx (fVarB 4) (fVarB 6)) (fCons (fVar 9) fNil)))))))
  (fApp 5 (fVar 9)))))))))
def f_reduced_rows : FS := (fSeq (fOwn 3 (fLc [4] (bnd1 4) (fItems (fVarB 2)) ftYes (asE (fOpN1 nList (fVarB 4)))))
  (fSeq (fOwn 5 (fLst fNil))
  (fSeq (fFor (bnd1 6) (fRng (fCons (fVar 1) fNil)) b_reduced_rows_1)
  (fRet (fOp1 dTuple (asE (fLc [4] (bnd1 4) (fItems (fVarB 5)) ftYes (fOp1 dTuple (fVarB 4)))))))))
def m_reduced_rows : Fn := fnD 11 f_reduced_rows
def b_lead_of_1 : FS := (fIf (ftVal (fOp dNe (fVarB 2) (fC (.int 0)))) (fRet (fVar 1)) fPass)
def f_lead_of : FS := (fSeq (fFor (bnd2 1 2) (fEnum (fVar 0)) b_lead_of_1)
  (fRet (fOp1 dLen (fVarB 0))))
def m_lead_of : Fn := fnD 3 f_lead_of
def f_echelon : FS := (fRet (fCall m_reduced_rows [] 3 (fCons (fVar 0) (fCons (fVar 1) (fCons (fCall m_checked_rows [] 3 (fCons (fVar 0) (fCons (fVar 1) (fCons (fVar 2) fNil)))) fNil)))))
def m_echelon : Fn := fnD 3 f_echelon
def b_contrary_1 : FS := (fSto 5 (fVar 8) (fOp dMod (fNeg (fOp dIx (fVarB 9) (fVarB 7))) (fVarB 0)))
def b_contrary_2 : FS := (fSeq (fIf (ftVal (fOp (dIn false) (fVarB 7) (fVarB 4))) fCont fPass)
  (fSeq (fOwn 5 (fOpN nRep (asE (fLst (fCons (fC (.int 0)) fNil))) (fVarB 1)))
  (fSeq (fSto 5 (fVar 7) (fC (.int 1)))
  (fSeq (fFor (bnd2 8 9) (fZip (fVar 4) (fVar 3)) b_contrary_1)
  (fFreeze 5 (fApp 6 (fVar 5)))))))
def f_contrary : FS := (fSeq (fAsg 3 (fCall m_echelon [] 3 (fCons (fVar 0) (fCons (fVar 1) (fCons (fVar 2) fNil)))))
  (fSeq (fFreeze 5 (fAsg 4 (asE (fLc [5] (bnd1 5) (fItems (fVarB 3)) ftYes (fCall m_lead_of [] 1 (fCons (fVar 5) fNil))))))
  (fSeq (fOwn 6 (fLst fNil))
  (fSeq (fFor (bnd1 7) (fRng (fCons (fVar 1) fNil)) b_contrary_2)
  (fFreeze 6 (fRet (fCall m_reduced_rows [] 3 (fCons (fVar 0) (fCons (fVar 1) (fCons (fVar 6) fNil))))))))))
def m_contrary : Fn := fnD 10 f_contrary
def f_meet_spaces : FS := (fSeq (fAsg 4 (fCall m_contrary [] 3 (fCons (fVar 0) (fCons (fVar 1) (fCons (fVar 2) fNil)))))
  (fSeq (fAsg 5 (fCall m_contrary [] 3 (fCons (fVar 0) (fCons (fVar 1) (fCons (fVar 3) fNil)))))
  (fRet (fCall m_contrary [] 3 (fCons (fVar 0) (fCons (fVar 1) (fCons (fOp dAdd (fVarB 4) (fVarB 5)) fNil)))))))
def m_meet_spaces : Fn := fnD 6 f_meet_spaces
def f_things_space : FS := (fSeq (fAsg 2 (fCall m_check_things [] 3 (fCons (fVar 0) (fCons (fVar 1) (fCons (fC (.int 16)) fNil)))))
  (fSeq (fAsg 3 (asE (fLc [4] (bnd1 4) (fItems (fVarB 2)) ftYes (fMeth m_F_digits_of 2 (fVar 0) (fCons (fVar 4) fNil)))))
  (fRet (fOp1 dTuple (asE (fLc [5] (bnd1 5) (fItems (fCall m_reduced_rows [] 3 (fCons (fFld 0 (fVar 0)) (fCons (fFld 2 (fVar 0)) (fCons (fVar 3) fNil))))) ftYes (fMeth m_F_thing_of 2 (fVar 0) (fCons (fVar 5) fNil))))))))
def m_things_space : Fn := fnD 6 f_things_space
def b_space_things_1 : FS := (fApp 4 (fMeth m_F_plus 3 (fVar 0) (fCons (fVar 5) (fCons (fMeth m_F_multiple 3 (fVar 0) (fCons (fVar 6) (fCons (fVar 3) fNil))) fNil))))
def b_space_things_2 : FS := (fFor (bnd1 6) (fRng (fCons (fFld 0 (fVar 0)) fNil)) b_space_things_1)
def b_space_things_3 : FS := (fSeq (fOwn 4 (fLst fNil))
  (fSeq (fFor (bnd1 5) (fItems (fVar 2)) b_space_things_2)
  (fAsg 2 (asE (fOpN1 nList (fVarB 4))))))
def f_space_things : FS := (fSeq (fAsg 2 (asE (fLst (fCons (fC (.int 0)) fNil))))
  (fSeq (fFor (bnd1 3) (fItems (fCall m_things_space [] 2 (fCons (fVar 0) (fCons (fVar 1) fNil)))) b_space_things_3)
  (fRet (fOp1 dTuple (fOp1 dSorted (fVarB 2))))))
def m_space_things : Fn := fnD 7 f_space_things
def f_holds_thing : FS := (fSeq (fAsg 3 (fCall m_things_space [] 2 (fCons (fVar 0) (fCons (fVar 1) fNil))))
  (fSeq (fDrop (fCall m_check_things [] 3 (fCons (fVar 0) (fCons (asE (fLst (fCons (fVar 2) fNil))) (fCons (fC (.int 1)) fNil)))))
  (fRet (fOp dEq (fOp1 dLen (fCall m_things_space [] 2 (fCons (fVar 0) (fCons (fOp dAdd (fVarB 3) (fTup (fCons (fVar 2) fNil))) fNil)))) (fOp1 dLen (fVarB 3))))))
def m_holds_thing : Fn := fnD 4 f_holds_thing
def b_check_poly_1 : FS := (fDrop (fCall m_check_thing [.int 0] 3 (fCons (fVar 0) (fCons (fVar 4) fNil))))
def f_check_poly : FS := (fSeq (fIf (ftOr (ftNot (ftVal (fIsi2 "list" "tuple" (fVar 1)))) (ftVal (fOp dGt (fOp1 dLen (fVarB 1)) (fVarB 2)))) fNeverS fPass)
  (fSeq (fFor (bnd2 3 4) (fEnum (fVar 1)) b_check_poly_1)
  (fSeq (fIf (ftAnd (ftVal (fOp dGt (fOp1 dLen (fVarB 1)) (fC (.int 0)))) (ftVal (fOp dEq (fOp dIx (fVarB 1) (fNeg (fC (.int 1)))) (fC (.int 0))))) fNeverS fPass)
  (fRet (fOp1 dTuple (fVarB 1))))))
def m_check_poly : Fn := fnD 5 f_check_poly
def t_trimmed_1 : FT := (ftAnd (ftVal (fOp dGt (fVarB 1) (fC (.int 0)))) (ftVal (fOp dEq (fOp dIx (fVarB 0) (fOp dSub (fVarB 1) (fC (.int 1)))) (fC (.int 0)))))
def b_trimmed_1 : FS := (fAug 1 (fun i j => i - j) (fC (.int 1)))
def f_trimmed : FS := (fSeq (fAsg 1 (fOp1 dLen (fVarB 0)))
  (fSeq (fWhile 200 t_trimmed_1 b_trimmed_1)
  (fRet (fOp1 dTuple (fSl (fVarB 0) fNo (fPart (fVar 1)))))))
def m_trimmed : Fn := fnD 2 f_trimmed
def b_reached_value_1 : FS := (fSeq (fAsg 3 (fMeth m_F_plus 3 (fVar 0) (fCons (fVar 3) (fCons (fMeth m_F_times 3 (fVar 0) (fCons (fVar 5) (fCons (fVar 4) fNil))) fNil))))
  (fAsg 4 (fMeth m_F_stepped 3 (fVar 0) (fCons (fVar 4) (fCons (fC (.int 1)) fNil)))))
def f_reached_value : FS := (fSeq (fAsg 3 (fC (.int 0)))
  (fSeq (fAsg 4 (fVar 2))
  (fSeq (fFor (bnd1 5) (fItems (fVar 1)) b_reached_value_1)
  (fRet (fVar 3)))))
def m_reached_value : Fn := fnD 6 f_reached_value
def f_scaled_terms : FS := (fRet (fCall m_trimmed [] 1 (fCons (asE (fLc [3] (bnd1 3) (fItems (fVarB 2)) ftYes (fMeth m_F_times 3 (fVar 0) (fCons (fVar 1) (fCons (fVar 3) fNil))))) fNil)))
def m_scaled_terms : Fn := fnD 4 f_scaled_terms
def f_added_terms : FS := (fSeq (fTup2 3 4 (fIfE (ftVal (fOp dLe (fOp1 dLen (fVarB 1)) (fOp1 dLen (fVarB 2)))) (fTup (fCons (fVar 1) (fCons (fVar 2) fNil))) (fTup (fCons (fVar 2) (fCons (fVar 1) fNil)))))
  (fSeq (fAsg 5 (asE (fLc [6, 7] (bnd2 6 7) (fEnum (fVarB 3)) ftYes (fMeth m_F_plus 3 (fVar 0) (fCons (fVar 7) (fCons (fOp dIx (fVarB 4) (fVarB 6)) fNil))))))
  (fRet (fCall m_trimmed [] 1 (fCons (fOp dAdd (fVarB 5) (asE (fOpN1 nList (fSl (fVarB 4) (fPart (fOp1 dLen (fVarB 3))) fNo)))) fNil)))))
def m_added_terms : Fn := fnD 8 f_added_terms
def f_taken_terms : FS := (fRet (fCall m_added_terms [] 3 (fCons (fVar 0) (fCons (fVar 1) (fCons (asE (fLc [3] (bnd1 3) (fItems (fVarB 2)) ftYes (fMeth m_F_negative 2 (fVar 0) (fCons (fVar 3) fNil)))) fNil)))))
def m_taken_terms : Fn := fnD 4 f_taken_terms
def b_nested_terms_1 : FS := (fSto 3 (fOp dAdd (fVarB 5) (fVarB 7)) (fMeth m_F_plus 3 (fVar 0) (fCons (fOp dIx (fVarB 3) (fOp dAdd (fVarB 5) (fVarB 7))) (fCons (fMeth m_F_times 3 (fVar 0) (fCons (fVar 6) (fCons (fVar 8) fNil))) fNil))))
def b_nested_terms_2 : FS := (fSeq (fFor (bnd2 7 8) (fEnum (fVar 4)) b_nested_terms_1)
  (fAsg 4 (asE (fLc [8] (bnd1 8) (fItems (fVarB 4)) ftYes (fMeth m_F_stepped 3 (fVar 0) (fCons (fVar 8) (fCons (fC (.int 1)) fNil)))))))
def f_nested_terms : FS := (fSeq (fIf (ftOr (ftVal (fOp dEq (fOp1 dLen (fVarB 1)) (fC (.int 0)))) (ftVal (fOp dEq (fOp1 dLen (fVarB 2)) (fC (.int 0))))) (fRet (fTup fNil)) fPass)
  (fSeq (fOwn 3 (fOpN nRep (asE (fLst (fCons (fC (.int 0)) fNil))) (fOp dSub (fOp dAdd (fOp1 dLen (fVarB 1)) (fOp1 dLen (fVarB 2))) (fC (.int 1)))))
  (fSeq (fAsg 4 (asE (fOpN1 nList (fVarB 2))))
  (fSeq (fFor (bnd2 5 6) (fEnum (fVar 1)) b_nested_terms_2)
  (fFreeze 3 (fRet (fCall m_trimmed [] 1 (fCons (fVar 3) fNil))))))))
def m_nested_terms : Fn := fnD 9 f_nested_terms
def t_unit_things_1 : FT := (ftVal (fOp dLt (fOp1 dLen (fVarB 1)) (fFld 2 (fVar 0))))
def b_unit_things_1 : FS := (fApp 1 (fOp dMul (fOp dIx (fVarB 1) (fNeg (fC (.int 1)))) (fFld 0 (fVar 0))))
def f_unit_things : FS := (fSeq (fOwn 1 (fLst (fCons (fC (.int 1)) fNil)))
  (fSeq (fWhile 10 t_unit_things_1 b_unit_things_1)
  (fRet (fOp1 dTuple (fVarB 1)))))
def m_unit_things : Fn := fnD 2 f_unit_things
def f_map_rows : FS := (fSeq (fAsg 2 (asE (fLc [3] (bnd1 3) (fItems (fCall m_unit_things [] 1 (fCons (fVar 0) fNil))) ftYes (fMeth m_F_digits_of 2 (fVar 0) (fCons (fCall m_reached_value [] 3 (fCons (fVar 0) (fCons (fVar 1) (fCons (fVar 3) fNil)))) fNil)))))
  (fRet (fOp1 dTuple (asE (fLc [4] (bnd1 4) (fRng (fCons (fFld 2 (fVar 0)) fNil)) ftYes (fOp1 dTuple (asE (fLc [5] (bnd1 5) (fItems (fVarB 2)) ftYes (fOp dIx (fVarB 5) (fVarB 4))))))))))
def m_map_rows : Fn := fnD 6 f_map_rows
def f_value_at : FS := (fSeq (fAsg 3 (fCall m_check_poly [.int 16] 3 (fCons (fVar 0) (fCons (fVar 1) fNil))))
  (fRet (fCall m_reached_value [] 3 (fCons (fVar 0) (fCons (fVar 3) (fCons (fCall m_check_thing [.int 0] 3 (fCons (fVar 0) (fCons (fVar 2) fNil))) fNil))))))
def m_value_at : Fn := fnD 4 f_value_at
def f_put_into : FS := (fSeq (fAsg 3 (fCall m_check_poly [.int 16] 3 (fCons (fVar 0) (fCons (fVar 1) fNil))))
  (fRet (fCall m_nested_terms [] 3 (fCons (fVar 0) (fCons (fVar 3) (fCons (fCall m_check_poly [.int 16] 3 (fCons (fVar 0) (fCons (fVar 2) fNil))) fNil))))))
def m_put_into : Fn := fnD 4 f_put_into
def f_zeros_of : FS := (fSeq (fAsg 2 (fCall m_contrary [] 3 (fCons (fFld 0 (fVar 0)) (fCons (fFld 2 (fVar 0)) (fCons (fCall m_map_rows [] 2 (fCons (fVar 0) (fCons (fCall m_check_poly [.int 16] 3 (fCons (fVar 0) (fCons (fVar 1) fNil))) fNil))) fNil)))))
  (fRet (fOp1 dTuple (asE (fLc [3] (bnd1 3) (fItems (fVarB 2)) ftYes (fMeth m_F_thing_of 2 (fVar 0) (fCons (fVar 3) fNil)))))))
def m_zeros_of : Fn := fnD 4 f_zeros_of
def t_parted_within_1 : FT := (ftVal (fOp dGt (fOp1 dLen (fVarB 5)) (fVarB 3)))
def b_parted_within_1 : FS := (fSeq (fAsg 6 (fMeth m_F_stepped 3 (fVar 0) (fCons (fMeth m_F_over 3 (fVar 0) (fCons (fOp dIx (fVarB 5) (fNeg (fC (.int 1)))) (fCons (fOp dIx (fVarB 2) (fNeg (fC (.int 1)))) fNil))) (fCons (fNeg (fVar 3)) fNil))))
  (fSeq (fAsg 7 (fOp1 dTuple (asE (fOpN nCat (asE (fOpN nRep (asE (fLst (fCons (fC (.int 0)) fNil))) (fOp dSub (fOp dSub (fOp1 dLen (fVarB 5)) (fC (.int 1))) (fVarB 3)))) (asE (fLst (fCons (fVar 6) fNil)))))))
  (fSeq (fAsg 4 (fCall m_added_terms [] 3 (fCons (fVar 0) (fCons (fVar 4) (fCons (fVar 7) fNil)))))
  (fAsg 5 (fCall m_taken_terms [] 3 (fCons (fVar 0) (fCons (fVar 5) (fCons (fCall m_nested_terms [] 3 (fCons (fVar 0) (fCons (fVar 2) (fCons (fVar 7) fNil)))) fNil))))))))
def f_parted_within : FS := (fSeq (fAsg 3 (fOp dSub (fOp1 dLen (fVarB 2)) (fC (.int 1))))
  (fSeq (fAsg 4 (fTup fNil))
  (fSeq (fAsg 5 (fOp1 dTuple (fVarB 1)))
  (fSeq (fWhile 100 t_parted_within_1 b_parted_within_1)
  (fRet (fTup (fCons (fVar 4) (fCons (fVar 5) fNil))))))))
def m_parted_within : Fn := fnD 8 f_parted_within
def t_parted_about_1 : FT := (ftVal (fOp dGt (fOp1 dLen (fVarB 5)) (fVarB 3)))
def b_parted_about_1 : FS := (fSeq (fAsg 6 (fOp dSub (fOp dSub (fOp1 dLen (fVarB 5)) (fC (.int 1))) (fVarB 3)))
  (fSeq (fAsg 7 (fMeth m_F_over 3 (fVar 0) (fCons (fOp dIx (fVarB 5) (fNeg (fC (.int 1)))) (fCons (fMeth m_F_stepped 3 (fVar 0) (fCons (fOp dIx (fVarB 2) (fNeg (fC (.int 1)))) (fCons (fVar 6) fNil))) fNil))))
  (fSeq (fAsg 8 (fOp1 dTuple (asE (fOpN nCat (asE (fOpN nRep (asE (fLst (fCons (fC (.int 0)) fNil))) (fVarB 6))) (asE (fLst (fCons (fVar 7) fNil)))))))
  (fSeq (fAsg 4 (fCall m_added_terms [] 3 (fCons (fVar 0) (fCons (fVar 4) (fCons (fVar 8) fNil)))))
  (fAsg 5 (fCall m_taken_terms [] 3 (fCons (fVar 0) (fCons (fVar 5) (fCons (fCall m_nested_terms [] 3 (fCons (fVar 0) (fCons (fVar 8) (fCons (fVar 2) fNil)))) fNil)))))))))
def f_parted_about : FS := (fSeq (fAsg 3 (fOp dSub (fOp1 dLen (fVarB 2)) (fC (.int 1))))
  (fSeq (fAsg 4 (fTup fNil))
  (fSeq (fAsg 5 (fOp1 dTuple (fVarB 1)))
  (fSeq (fWhile 100 t_parted_about_1 b_parted_about_1)
  (fRet (fTup (fCons (fVar 4) (fCons (fVar 5) fNil))))))))
def m_parted_about : Fn := fnD 9 f_parted_about
def f_checked_divisor : FS := (fSeq (fAsg 3 (fCall m_check_poly [.int 16] 3 (fCons (fVar 0) (fCons (fVar 1) fNil))))
  (fSeq (fAsg 4 (fCall m_check_poly [.int 16] 3 (fCons (fVar 0) (fCons (fVar 2) fNil))))
  (fSeq (fIf (ftVal (fOp dEq (fOp1 dLen (fVarB 4)) (fC (.int 0)))) fNeverS fPass)
  (fRet (fTup (fCons (fVar 3) (fCons (fVar 4) fNil)))))))
def m_checked_divisor : Fn := fnD 5 f_checked_divisor
def f_divided_within : FS := (fSeq (fTup2 3 4 (fCall m_checked_divisor [] 3 (fCons (fVar 0) (fCons (fVar 1) (fCons (fVar 2) fNil)))))
  (fRet (fCall m_parted_within [] 3 (fCons (fVar 0) (fCons (fVar 3) (fCons (fVar 4) fNil))))))
def m_divided_within : Fn := fnD 5 f_divided_within
def f_divided_about : FS := (fSeq (fTup2 3 4 (fCall m_checked_divisor [] 3 (fCons (fVar 0) (fCons (fVar 1) (fCons (fVar 2) fNil)))))
  (fRet (fCall m_parted_about [] 3 (fCons (fVar 0) (fCons (fVar 3) (fCons (fVar 4) fNil))))))
def m_divided_about : Fn := fnD 5 f_divided_about
def t_last_rows_1 : FT := (ftVal (fOp dGt (fOp1 dLen (fOp dIx (fVarB 4) (fC (.int 0)))) (fC (.int 0))))
def b_last_rows_1 : FS := (fSeq (fTup2 5 6 (fCall m_parted_about [] 3 (fCons (fVar 0) (fCons (fOp dIx (fVarB 3) (fC (.int 0))) (fCons (fOp dIx (fVarB 4) (fC (.int 0))) fNil)))))
  (fSeq (fAsg 7 (fCall m_taken_terms [] 3 (fCons (fVar 0) (fCons (fOp dIx (fVarB 3) (fC (.int 1))) (fCons (fCall m_nested_terms [] 3 (fCons (fVar 0) (fCons (fVar 5) (fCons (fOp dIx (fVarB 4) (fC (.int 1))) fNil)))) fNil)))))
  (fSeq (fAsg 8 (fCall m_taken_terms [] 3 (fCons (fVar 0) (fCons (fOp dIx (fVarB 3) (fC (.int 2))) (fCons (fCall m_nested_terms [] 3 (fCons (fVar 0) (fCons (fVar 5) (fCons (fOp dIx (fVarB 4) (fC (.int 2))) fNil)))) fNil)))))
  (fPar 3 4 (fCons (fVar 4) (fCons (fTup (fCons (fVar 6) (fCons (fVar 7) (fCons (fVar 8) fNil)))) fNil))))))
def f_last_rows : FS := (fSeq (fAsg 3 (fTup (fCons (fVar 1) (fCons (fTup (fCons (fC (.int 1)) fNil)) (fCons (fTup fNil) fNil)))))
  (fSeq (fAsg 4 (fTup (fCons (fVar 2) (fCons (fTup fNil) (fCons (fTup (fCons (fC (.int 1)) fNil)) fNil)))))
  (fSeq (fWhile 100 t_last_rows_1 b_last_rows_1)
  (fRet (fTup (fCons (fVar 3) (fCons (fVar 4) fNil)))))))
def m_last_rows : Fn := fnD 9 f_last_rows
def f_common_parts : FS := (fSeq (fAsg 3 (fCall m_check_poly [.int 16] 3 (fCons (fVar 0) (fCons (fVar 1) fNil))))
  (fSeq (fAsg 4 (fCall m_check_poly [.int 16] 3 (fCons (fVar 0) (fCons (fVar 2) fNil))))
  (fSeq (fIf (ftAnd (ftVal (fOp dEq (fOp1 dLen (fVarB 3)) (fC (.int 0)))) (ftVal (fOp dEq (fOp1 dLen (fVarB 4)) (fC (.int 0))))) (fRet (fTup (fCons (fTup fNil) (fCons (fTup fNil) (fCons (fTup fNil) fNil))))) fPass)
  (fSeq (fAsg 5 (fOp dIx (fCall m_last_rows [] 3 (fCons (fVar 0) (fCons (fVar 3) (fCons (fVar 4) fNil)))) (fC (.int 0))))
  (fSeq (fAsg 6 (fMeth m_F_inverse 2 (fVar 0) (fCons (fOp dIx (fOp dIx (fVarB 5) (fC (.int 0))) (fNeg (fC (.int 1)))) fNil)))
  (fRet (fOp1 dTuple (asE (fLc [7] (bnd1 7) (fItems (fVarB 5)) ftYes (fCall m_scaled_terms [] 3 (fCons (fVar 0) (fCons (fVar 6) (fCons (fVar 7) fNil)))))))))))))
def m_common_parts : Fn := fnD 8 f_common_parts
def f_common_about : FS := (fRet (fOp dIx (fCall m_common_parts [] 3 (fCons (fVar 0) (fCons (fVar 1) (fCons (fVar 2) fNil)))) (fC (.int 0))))
def m_common_about : Fn := fnD 3 f_common_about
def f_least_about : FS := (fSeq (fAsg 3 (fCall m_check_poly [.int 16] 3 (fCons (fVar 0) (fCons (fVar 1) fNil))))
  (fSeq (fAsg 4 (fCall m_check_poly [.int 16] 3 (fCons (fVar 0) (fCons (fVar 2) fNil))))
  (fSeq (fIf (ftOr (ftVal (fOp dEq (fOp1 dLen (fVarB 3)) (fC (.int 0)))) (ftVal (fOp dEq (fOp1 dLen (fVarB 4)) (fC (.int 0))))) (fRet (fTup fNil)) fPass)
  (fSeq (fAsg 5 (fCall m_nested_terms [] 3 (fCons (fVar 0) (fCons (fOp dIx (fOp dIx (fCall m_last_rows [] 3 (fCons (fVar 0) (fCons (fVar 3) (fCons (fVar 4) fNil)))) (fC (.int 1))) (fC (.int 1))) (fCons (fVar 3) fNil)))))
  (fRet (fCall m_scaled_terms [] 3 (fCons (fVar 0) (fCons (fMeth m_F_inverse 2 (fVar 0) (fCons (fOp dIx (fVarB 5) (fNeg (fC (.int 1)))) fNil)) (fCons (fVar 5) fNil)))))))))
def m_least_about : Fn := fnD 6 f_least_about
def f_widened_poly : FS := (fSeq (fAsg 3 (fMeth m_F_over 3 (fVar 0) (fCons (fMeth m_F_stepped 3 (fVar 0) (fCons (fVar 2) (fCons (fC (.int 1)) fNil))) (fCons (fVar 2) fNil))))
  (fRet (fCall m_nested_terms [] 3 (fCons (fVar 0) (fCons (fTup (fCons (fMeth m_F_negative 2 (fVar 0) (fCons (fVar 3) fNil)) (fCons (fC (.int 1)) fNil))) (fCons (fVar 1) fNil))))))
def m_widened_poly : Fn := fnD 4 f_widened_poly
def b_poly_of_space_1 : FS := (fSeq (fAsg 4 (fCall m_reached_value [] 3 (fCons (fVar 0) (fCons (fVar 2) (fCons (fVar 3) fNil)))))
  (fIf (ftVal (fOp dNe (fVarB 4) (fC (.int 0)))) (fAsg 2 (fCall m_widened_poly [] 3 (fCons (fVar 0) (fCons (fVar 2) (fCons (fVar 4) fNil))))) fPass))
def f_poly_of_space : FS := (fSeq (fAsg 2 (fTup (fCons (fC (.int 1)) fNil)))
  (fSeq (fFor (bnd1 3) (fItems (fCall m_check_things [] 3 (fCons (fVar 0) (fCons (fVar 1) (fCons (fC (.int 32)) fNil))))) b_poly_of_space_1)
  (fRet (fVar 2))))
def m_poly_of_space : Fn := fnD 5 f_poly_of_space
def f_l_stir : FS := (fSeq (fAsg 2 (fOp dMod (fOp1 (dI1 id) (fOp dAdd (fOp dAdd (fOp dMul (fVarB 0) (fC (.int 69069))) (fOp dMul (fVarB 1) (fC (.int 40014)))) (fC (.int 50331)))) (fC (.int 2147483647))))
  (fSeq (fAsg 3 (fOp dMod (fOp1 (dI1 id) (fOp dAdd (fOp dAdd (fOp dMul (fVarB 2) (fVarB 2)) (fOp dMul (fOp dDiv (fVarB 2) (fC (.int 127))) (fC (.int 16807)))) (fOp dMul (fVarB 1) (fC (.int 48271))))) (fC (.int 2147483629))))
  (fRet (fOp dDiv (fOp dMod (fOp1 (dI1 id) (fOp dAdd (fOp dDiv (fOp dMul (fVarB 3) (fVarB 3)) (fC (.int 977))) (fOp dMul (fVarB 2) (fC (.int 31))))) (fC (.int 2147483587))) (fC (.int 8))))))
def m_l_stir : Fn := fnD 4 f_l_stir
def b_l_hand_1 : FS := (fAsg 1 (fOp dMod (fOp1 (dI1 id) (fOp dAdd (fOp dMul (fVarB 1) (fC (.int 41))) (fOp dMul (fOp1 (dI1 id) (fVarB 3)) (fOp dAdd (fVarB 2) (fC (.int 3)))))) (fC (.int 2147483579))))
def f_l_hand : FS := (fSeq (fAsg 1 (fC (.int 7)))
  (fSeq (fFor (bnd2 2 3) (fEnum (fVar 0)) b_l_hand_1)
  (fRet (asE (fLst (fCons (asE (fLc [3] (bnd1 3) (fItems (fVarB 0)) ftYes (fOp1 (dI1 fun i => if i < 0 then -i else i) (fOp1 (dI1 id) (fVarB 3))))) (fCons (fC (.int 0)) (fCons (fC (.int 0)) (fCons (fVar 1) fNil)))))))))
def m_l_hand : Fn := fnD 4 f_l_hand
def f_l_draw : FS := (fSeq (fIf (ftAnd (ftVal (fOp dEq (fHand 0 2) (fC (.int 0)))) (ftVal (fOp dLt (fHand 0 1) (fOp1 dLen (fHand 0 0))))) (fSeq (fAsg 2 (fOp dIx (fHand 0 0) (fHand 0 1)))
  (fSeq (fSto 0 (fC (.int 1)) (fOp dAdd (fHand 0 1) (fC (.int 1))))
  (fSeq (fIf (ftVal (fOp dLt (fVarB 2) (fOp dPow (fC (.int 10)) (fC (.int 18))))) (fRet (fOp dMod (fOp1 (dI1 id) (fCall m_l_stir [] 2 (fCons (fOp dMod (fOp1 (dI1 id) (fVarB 2)) (fC (.int 2147483647))) (fCons (fHand 0 1) fNil)))) (fVarB 1))) fPass)
  (fSto 0 (fC (.int 2)) (fVar 2))))) fPass)
  (fSeq (fIf (ftVal (fOp dGt (fHand 0 2) (fC (.int 0)))) (fSeq (fAsg 3 (fHand 0 2))
  (fSeq (fSto 0 (fC (.int 2)) (fOp dDiv (fVarB 3) (fVarB 1)))
  (fRet (fOp dMod (fOp1 (dI1 id) (fVarB 3)) (fVarB 1))))) fPass)
  (fSeq (fSto 0 (fC (.int 3)) (fOp dMod (fOp1 (dI1 id) (fOp dAdd (fHand 0 3) (fC (.int 1)))) (fC (.int 2147483579))))
  (fRet (fOp dMod (fOp1 (dI1 id) (fCall m_l_stir [] 2 (fCons (fHand 0 3) (fCons (fHand 0 1) fNil)))) (fVarB 1))))))
def m_l_draw : Fn := fnD 4 f_l_draw
def f_l_moduli : FS := (fSeq (fIf (ftVal (fOp dEq (fVarB 0) (fC (.int 2)))) (fSeq (fOwn 2 (fLst (fCons (asE (fLst (fCons (fTup (fCons (fC (.int 0)) (fCons (fC (.int 1)) fNil))) (fCons (fTup (fCons (fC (.int 1)) (fCons (fC (.int 1)) fNil))) fNil)))) (fCons (asE (fLst (fCons (fTup (fCons (fC (.int 1)) (fCons (fC (.int 1)) (fCons (fC (.int 1)) fNil)))) fNil))) (fCons (asE (fLst (fCons (fTup (fCons (fC (.int 1)) (fCons (fC (.int 1)) (fCons (fC (.int 0)) (fCons (fC (.int 1)) fNil))))) (fCons (fTup (fCons (fC (.int 1)) (fCons (fC (.int 0)) (fCons (fC (.int 1)) (fCons (fC (.int 1)) fNil))))) fNil)))) fNil)))))
  (fSeq (fApp 2 (asE (fLst (fCons (fTup (fCons (fC (.int 1)) (fCons (fC (.int 1)) (fCons (fC (.int 0)) (fCons (fC (.int 0)) (fCons (fC (.int 1)) fNil)))))) (fCons (fTup (fCons (fC (.int 1)) (fCons (fC (.int 0)) (fCons (fC (.int 0)) (fCons (fC (.int 1)) (fCons (fC (.int 1)) fNil)))))) (fCons (fTup (fCons (fC (.int 1)) (fCons (fC (.int 1)) (fCons (fC (.int 1)) (fCons (fC (.int 1)) (fCons (fC (.int 1)) fNil)))))) fNil))))))
  (fRet (fOp dIx (fVarB 2) (fOp dSub (fVarB 1) (fC (.int 1))))))) fPass)
  (fSeq (fOwn 2 (fLst (fCons (asE (fLst (fCons (fTup (fCons (fC (.int 0)) (fCons (fC (.int 1)) fNil))) (fCons (fTup (fCons (fC (.int 1)) (fCons (fC (.int 1)) fNil))) (fCons (fTup (fCons (fC (.int 2)) (fCons (fC (.int 1)) fNil))) fNil))))) (fCons (asE (fLst (fCons (fTup (fCons (fC (.int 1)) (fCons (fC (.int 0)) (fCons (fC (.int 1)) fNil)))) (fCons (fTup (fCons (fC (.int 2)) (fCons (fC (.int 1)) (fCons (fC (.int 1)) fNil)))) (fCons (fTup (fCons (fC (.int 2)) (fCons (fC (.int 2)) (fCons (fC (.int 1)) fNil)))) fNil))))) fNil))))
  (fSeq (fAsg 3 (asE (fLst (fCons (fTup (fCons (fC (.int 1)) (fCons (fC (.int 2)) (fCons (fC (.int 0)) (fCons (fC (.int 1)) fNil))))) (fCons (fTup (fCons (fC (.int 2)) (fCons (fC (.int 2)) (fCons (fC (.int 0)) (fCons (fC (.int 1)) fNil))))) (fCons (fTup (fCons (fC (.int 2)) (fCons (fC (.int 0)) (fCons (fC (.int 1)) (fCons (fC (.int 1)) fNil))))) (fCons (fTup (fCons (fC (.int 2)) (fCons (fC (.int 1)) (fCons (fC (.int 1)) (fCons (fC (.int 1)) fNil))))) fNil)))))))
  (fSeq (fApp 2 (fOp dAdd (fVarB 3) (asE (fLst (fCons (fTup (fCons (fC (.int 1)) (fCons (fC (.int 2)) (fCons (fC (.int 1)) (fCons (fC (.int 1)) fNil))))) (fCons (fTup (fCons (fC (.int 1)) (fCons (fC (.int 0)) (fCons (fC (.int 2)) (fCons (fC (.int 1)) fNil))))) (fCons (fTup (fCons (fC (.int 1)) (fCons (fC (.int 1)) (fCons (fC (.int 2)) (fCons (fC (.int 1)) fNil))))) (fCons (fTup (fCons (fC (.int 2)) (fCons (fC (.int 2)) (fCons (fC (.int 2)) (fCons (fC (.int 1)) fNil))))) fNil))))))))
  (fRet (fOp dIx (fVarB 2) (fOp dSub (fVarB 1) (fC (.int 1)))))))))
def m_l_moduli : Fn := fnD 4 f_l_moduli
def b_l_power_1 : FS := (fAsg 2 (fOp dMul (fVarB 2) (fVarB 0)))
def f_l_power : FS := (fSeq (fAsg 2 (fC (.int 1)))
  (fSeq (fFor (bnd1 3) (fRng (fCons (fVar 1) fNil)) b_l_power_1)
  (fRet (fVar 2))))
def m_l_power : Fn := fnD 4 f_l_power
def b_l_sums_1 : FS := (fSeq (fAsg 7 (fOp dIx (fVarB 2) (fOp dMod (fOp1 (dI1 id) (fVarB 6)) (fVarB 3))))
  (fSeq (fAsg 8 (fOp dDiv (fVarB 6) (fVarB 3)))
  (fApp 5 (asE (fLc [9] (bnd1 9) (fRng (fCons (fVar 4) fNil)) ftYes (fOp dAdd (fOp dIx (fVarB 7) (fOp dMod (fOp1 (dI1 id) (fVarB 9)) (fVarB 3))) (fOp dMul (fVarB 3) (fOp dMod (fOp1 (dI1 id) (fOp dAdd (fVarB 8) (fOp dDiv (fVarB 9) (fVarB 3)))) (fVarB 0)))))))))
def t_l_sums_1 : FT := (ftVal (fOp dLt (fVarB 3) (fVarB 1)))
def b_l_sums_2 : FS := (fSeq (fAsg 4 (fOp dMul (fVarB 3) (fVarB 0)))
  (fSeq (fOwn 5 (fLst fNil))
  (fSeq (fFor (bnd1 6) (fRng (fCons (fVar 4) fNil)) b_l_sums_1)
  (fSeq (fFreeze 5 (fAsg 2 (fVar 5)))
  (fAsg 3 (fVar 4))))))
def f_l_sums : FS := (fSeq (fAsg 2 (asE (fLst (fCons (asE (fLst (fCons (fC (.int 0)) fNil))) fNil))))
  (fSeq (fAsg 3 (fC (.int 1)))
  (fSeq (fWhile 10 t_l_sums_1 b_l_sums_2)
  (fRet (fVar 2)))))
def m_l_sums : Fn := fnD 10 f_l_sums
def b_l_products_1 : FS := (fAsg 4 (fOp dAdd (fOp dMul (fVarB 4) (fVarB 0)) (fVarB 5)))
def b_l_products_2 : FS := (fAsg 11 (fOp dIx (fOp dIx (fVarB 2) (fVarB 11)) (fVarB 6)))
def t_l_products_1 : FT := (ftVal (fOp dLt (fOp1 dLen (fVarB 10)) (fVarB 3)))
def b_l_products_3 : FS := (fSeq (fAsg 12 (asE (fLst (fCons (fC (.int 0)) (fCons (fVar 11) (fCons (fOp dIx (fOp dIx (fVarB 2) (fVarB 11)) (fVarB 11)) fNil))))))
  (fSeq (fAsg 13 (fOp1 dLen (fVarB 10)))
  (fSeq (fAsg 10 (asE (fLc [14] (bnd1 14) (fRng (fCons (fOp dMul (fVarB 13) (fVarB 0)) fNil)) ftYes (fOp dIx (fOp dIx (fVarB 2) (fOp dIx (fVarB 10) (fOp dMod (fOp1 (dI1 id) (fVarB 14)) (fVarB 13)))) (fOp dIx (fVarB 12) (fOp dDiv (fVarB 14) (fVarB 13)))))))
  (fSeq (fAsg 15 (fOp dDiv (fVarB 11) (fVarB 7)))
  (fSeq (fAsg 11 (fOp dMul (fOp dMod (fOp1 (dI1 id) (fVarB 11)) (fVarB 7)) (fVarB 0)))
  (fFor (bnd1 16) (fRng (fCons (fVar 15) fNil)) b_l_products_2))))))
def b_l_products_4 : FS := (fSeq (fAsg 10 (asE (fLst (fCons (fC (.int 0)) fNil))))
  (fSeq (fAsg 11 (fVar 9))
  (fSeq (fWhile 10 t_l_products_1 b_l_products_3)
  (fApp 8 (fVar 10)))))
def f_l_products : FS := (fSeq (fAsg 3 (fOp1 dLen (fVarB 2)))
  (fSeq (fAsg 4 (fC (.int 0)))
  (fSeq (fFor (bnd1 5) (fRev (fSl (fVarB 1) fNo (fPart (fNeg (fC (.int 1)))))) b_l_products_1)
  (fSeq (fAsg 6 (fIfE (ftVal (fOp dEq (fVarB 0) (fC (.int 2)))) (fVar 4) (fOp dIx (fOp dIx (fVarB 2) (fVarB 4)) (fVarB 4))))
  (fSeq (fAsg 7 (fOp dDiv (fVarB 3) (fVarB 0)))
  (fSeq (fOwn 8 (fLst fNil))
  (fSeq (fFor (bnd1 9) (fRng (fCons (fVar 3) fNil)) b_l_products_4)
  (fFreeze 8 (fRet (fVar 8))))))))))
def m_l_products : Fn := fnD 17 f_l_products
def f_l_world : FS := (fSeq (fAsg 2 (fOp dSub (fOp1 dLen (fVarB 1)) (fC (.int 1))))
  (fSeq (fAsg 3 (fCall m_l_power [] 2 (fCons (fVar 0) (fCons (fVar 2) fNil))))
  (fSeq (fAsg 4 (fCall m_l_sums [] 2 (fCons (fVar 0) (fCons (fVar 3) fNil))))
  (fSeq (fAsg 5 (fCall m_l_products [] 3 (fCons (fVar 0) (fCons (fVar 1) (fCons (fVar 4) fNil)))))
  (fSeq (fAsg 6 (asE (fLc [7] (bnd1 7) (fRng (fCons (fVar 3) fNil)) ftYes (fOp dIx (fOp dIx (fVarB 5) (fVarB 7)) (fVarB 7)))))
  (fSeq (fIf (ftVal (fOp dEq (fVarB 0) (fC (.int 3)))) (fAsg 6 (asE (fLc [7] (bnd1 7) (fRng (fCons (fVar 3) fNil)) ftYes (fOp dIx (fOp dIx (fVarB 5) (fOp dIx (fVarB 6) (fVarB 7))) (fVarB 7))))) fPass)
  (fSeq (fAsg 8 (asE (fLc [7] (bnd1 7) (fRng (fCons (fVar 3) fNil)) ftYes (fIfE (ftVal (fOp dEq (fVarB 0) (fC (.int 2)))) (fVar 7) (fOp dIx (fOp dIx (fVarB 4) (fVarB 7)) (fVarB 7))))))
  (fRet (asE (fLst (fCons (fVar 0) (fCons (fVar 2) (fCons (fVar 3) (fCons (fVar 4) (fCons (fVar 5) (fCons (fVar 6) (fCons (fVar 8) fNil)))))))))))))))))
def m_l_world : Fn := fnD 9 f_l_world
def f_l_field : FS := (fSeq (fAsg 1 (asE (fLst (fCons (fTup (fCons (fC (.int 2)) (fCons (fC (.int 1)) fNil))) (fCons (fTup (fCons (fC (.int 3)) (fCons (fC (.int 1)) fNil))) (fCons (fTup (fCons (fC (.int 2)) (fCons (fC (.int 2)) fNil))) (fCons (fTup (fCons (fC (.int 2)) (fCons (fC (.int 2)) fNil))) (fCons (fTup (fCons (fC (.int 2)) (fCons (fC (.int 3)) fNil))) (fCons (fTup (fCons (fC (.int 2)) (fCons (fC (.int 3)) fNil))) (fCons (fTup (fCons (fC (.int 2)) (fCons (fC (.int 3)) fNil))) (fCons (fTup (fCons (fC (.int 2)) (fCons (fC (.int 4)) fNil))) (fCons (fTup (fCons (fC (.int 2)) (fCons (fC (.int 4)) fNil))) (fCons (fTup (fCons (fC (.int 2)) (fCons (fC (.int 4)) fNil))) fNil)))))))))))))
  (fSeq (fAsg 1 (fOp dAdd (fVarB 1) (asE (fLst (fCons (fTup (fCons (fC (.int 3)) (fCons (fC (.int 2)) fNil))) (fCons (fTup (fCons (fC (.int 3)) (fCons (fC (.int 2)) fNil))) (fCons (fTup (fCons (fC (.int 3)) (fCons (fC (.int 2)) fNil))) (fCons (fTup (fCons (fC (.int 3)) (fCons (fC (.int 3)) fNil))) (fCons (fTup (fCons (fC (.int 3)) (fCons (fC (.int 3)) fNil))) (fCons (fTup (fCons (fC (.int 3)) (fCons (fC (.int 3)) fNil))) fNil))))))))))
  (fSeq (fTup2 2 3 (fOp dIx (fVarB 1) (fCall m_l_draw [] 2 (fCons (fVar 0) (fCons (fC (.int 16)) fNil)))))
  (fSeq (fAsg 4 (fCall m_l_moduli [] 2 (fCons (fVar 2) (fCons (fVar 3) fNil))))
  (fSeq (fAsg 5 (fOp dIx (fVarB 4) (fCall m_l_draw [] 2 (fCons (fVar 0) (fCons (fOp1 dLen (fVarB 4)) fNil)))))
  (fRet (fTup (fCons (fCall m_F_init [] 2 (fCons (fVar 2) (fCons (asE (fOpN1 nList (fVarB 5))) fNil))) (fCons (fCall m_l_world [] 2 (fCons (fVar 2) (fCons (fVar 5) fNil))) fNil)))))))))
def m_l_field : Fn := fnD 6 f_l_field
def f_l_inverse : FS := (fRet (fIdx (fOp dIx (fOp dIx (fVarB 0) (fC (.int 4))) (fVarB 1)) (fC (.int 1))))
def m_l_inverse : Fn := fnD 2 f_l_inverse
def t_l_trim_1 : FT := (ftAnd (ftVal (fOp dGt (fVarB 1) (fC (.int 0)))) (ftVal (fOp dEq (fOp dIx (fVarB 0) (fOp dSub (fVarB 1) (fC (.int 1)))) (fC (.int 0)))))
def b_l_trim_1 : FS := (fAsg 1 (fOp dSub (fVarB 1) (fC (.int 1))))
def f_l_trim : FS := (fSeq (fAsg 1 (fOp1 dLen (fVarB 0)))
  (fSeq (fWhile 200 t_l_trim_1 b_l_trim_1)
  (fRet (fOp1 dTuple (fSl (fVarB 0) fNo (fPart (fVar 1)))))))
def m_l_trim : Fn := fnD 2 f_l_trim
def b_l_value_1 : FS := (fSeq (fAsg 3 (fOp dIx (fOp dIx (fOp dIx (fVarB 0) (fC (.int 3))) (fVarB 3)) (fOp dIx (fOp dIx (fOp dIx (fVarB 0) (fC (.int 4))) (fVarB 4)) (fVarB 2))))
  (fAsg 2 (fOp dIx (fOp dIx (fVarB 0) (fC (.int 5))) (fVarB 2))))
def f_l_value : FS := (fSeq (fAsg 3 (fC (.int 0)))
  (fSeq (fFor (bnd1 4) (fItems (fVar 1)) b_l_value_1)
  (fRet (fVar 3))))
def m_l_value : Fn := fnD 5 f_l_value
def f_l_added : FS := (fSeq (fAsg 3 (fMax (fOp1 dLen (fVarB 1)) (fOp1 dLen (fVarB 2))))
  (fSeq (fAsg 4 (asE (fOpN nCat (asE (fOpN1 nList (fVarB 1))) (asE (fOpN nRep (asE (fLst (fCons (fC (.int 0)) fNil))) (fOp dSub (fVarB 3) (fOp1 dLen (fVarB 1))))))))
  (fSeq (fAsg 5 (asE (fOpN nCat (asE (fOpN1 nList (fVarB 2))) (asE (fOpN nRep (asE (fLst (fCons (fC (.int 0)) fNil))) (fOp dSub (fVarB 3) (fOp1 dLen (fVarB 2))))))))
  (fRet (fCall m_l_trim [] 1 (fCons (asE (fLc [6] (bnd1 6) (fRng (fCons (fVar 3) fNil)) ftYes (fOp dIx (fOp dIx (fOp dIx (fVarB 0) (fC (.int 3))) (fOp dIx (fVarB 4) (fVarB 6))) (fOp dIx (fVarB 5) (fVarB 6))))) fNil))))))
def m_l_added : Fn := fnD 7 f_l_added
def b_l_put_1 : FS := (fSeq (fAsg 3 (fCall m_l_added [] 3 (fCons (fVar 0) (fCons (fVar 3) (fCons (asE (fOpN nCat (asE (fOpN nRep (asE (fLst (fCons (fC (.int 0)) fNil))) (fVarB 5))) (asE (fLc [7] (bnd1 7) (fItems (fVarB 4)) ftYes (fOp dIx (fOp dIx (fOp dIx (fVarB 0) (fC (.int 4))) (fVarB 6)) (fVarB 7)))))) fNil)))))
  (fAsg 4 (asE (fLc [7] (bnd1 7) (fItems (fVarB 4)) ftYes (fOp dIx (fOp dIx (fVarB 0) (fC (.int 5))) (fVarB 7))))))
def f_l_put : FS := (fSeq (fAsg 3 (fTup fNil))
  (fSeq (fAsg 4 (asE (fOpN1 nList (fVarB 2))))
  (fSeq (fFor (bnd2 5 6) (fEnum (fVar 1)) b_l_put_1)
  (fRet (fVar 3)))))
def m_l_put : Fn := fnD 8 f_l_put
def b_l_poly_1 : FS := (fIf (ftVal (fOp dEq (fVarB 5) (fOp dSub (fVarB 3) (fC (.int 1))))) (fApp 4 (fOp dAdd (fC (.int 1)) (fCall m_l_draw [] 2 (fCons (fVar 0) (fCons (fOp dSub (fOp dIx (fVarB 1) (fC (.int 2))) (fC (.int 1))) fNil))))) (fIf (ftVal (fOp dEq (fCall m_l_draw [] 2 (fCons (fVar 0) (fCons (fC (.int 4)) fNil))) (fC (.int 0)))) (fApp 4 (fC (.int 0))) (fApp 4 (fCall m_l_draw [] 2 (fCons (fVar 0) (fCons (fOp dIx (fVarB 1) (fC (.int 2))) fNil))))))
def f_l_poly : FS := (fSeq (fAsg 3 (fCall m_l_draw [] 2 (fCons (fVar 0) (fCons (fOp dAdd (fVarB 2) (fC (.int 1))) fNil))))
  (fSeq (fOwn 4 (fLst fNil))
  (fSeq (fFor (bnd1 5) (fRng (fCons (fVar 3) fNil)) b_l_poly_1)
  (fRet (fOp1 dTuple (fVarB 4))))))
def m_l_poly : Fn := fnD 6 f_l_poly
def f_l_given : FS := (fRet (fIfE (ftVal (fOp dEq (fCall m_l_draw [] 2 (fCons (fVar 0) (fCons (fC (.int 2)) fNil))) (fC (.int 0)))) (asE (fOpN1 nList (fVarB 1))) (fOp1 dTuple (fVarB 1))))
def m_l_given : Fn := fnD 2 f_l_given
def b_l_digits_1 : FS := (fSeq (fApp 2 (fOp dMod (fOp1 (dI1 id) (fVarB 1)) (fOp dIx (fVarB 0) (fC (.int 0)))))
  (fAsg 1 (fOp dDiv (fVarB 1) (fOp dIx (fVarB 0) (fC (.int 0))))))
def f_l_digits : FS := (fSeq (fOwn 2 (fLst fNil))
  (fSeq (fFor (bnd1 3) (fRng (fCons (fOp dIx (fVarB 0) (fC (.int 1))) fNil)) b_l_digits_1)
  (fFreeze 2 (fRet (fVar 2)))))
def m_l_digits : Fn := fnD 4 f_l_digits
def b_l_span_1 : FS := (fAsg 5 (fOp dAdd (fVarB 5) (asE (fLc [7] (bnd1 7) (fItems (fVarB 2)) ftYes (fOp dIx (fOp dIx (fOp dIx (fVarB 0) (fC (.int 3))) (fVarB 7)) (fVarB 6))))))
def b_l_span_2 : FS := (fIf (ftVal (fOp (dIn true) (fVarB 3) (fVarB 2))) (fSeq (fAsg 4 (fSl (asE (fLst (fCons (fC (.int 0)) (fCons (fVar 3) (fCons (fOp dIx (fOp dIx (fOp dIx (fVarB 0) (fC (.int 3))) (fVarB 3)) (fVarB 3)) fNil))))) fNo (fPart (fOp dIx (fVarB 0) (fC (.int 0))))))
  (fSeq (fAsg 5 (asE (fLst fNil)))
  (fSeq (fFor (bnd1 6) (fItems (fVar 4)) b_l_span_1)
  (fAsg 2 (fVar 5))))) fPass)
def f_l_span : FS := (fSeq (fAsg 2 (asE (fLst (fCons (fC (.int 0)) fNil))))
  (fSeq (fFor (bnd1 3) (fItems (fVar 1)) b_l_span_2)
  (fRet (fVar 2))))
def m_l_span : Fn := fnD 8 f_l_span
def b_l_first_1 : FS := (fIf (ftVal (fOp dNe (fVarB 2) (fC (.int 0)))) (fRet (fVar 1)) fPass)
def f_l_first : FS := (fSeq (fFor (bnd2 1 2) (fEnum (fVar 0)) b_l_first_1)
  (fRet (fOp1 dLen (fVarB 0))))
def m_l_first : Fn := fnD 3 f_l_first
def b_l_basis_1 : FS := (fIf (ftAnd (ftVal (fOp dEq (fOp dIx (fVarB 4) (fVarB 11)) (fVarB 7))) (ftAnd (ftVal (fOp dEq (fOp dIx (fOp dIx (fVarB 5) (fC (.int 1))) (fVarB 7)) (fC (.int 1)))) (ftVal (fOp dEq (asE (fLc [10] (bnd1 10) (fItems (fVarB 9)) (ftVal (fOp dNe (fOp dIx (fOp dIx (fVarB 5) (fC (.int 1))) (fVarB 10)) (fC (.int 0)))) (fVar 10))) (asE (fLst fNil)))))) (fApp 8 (fOp dIx (fVarB 5) (fC (.int 0)))) fPass)
def b_l_basis_2 : FS := (fSeq (fAsg 9 (asE (fLc [10] (bnd1 10) (fItems (fVarB 6)) (ftVal (fOp dNe (fVarB 10) (fVarB 7))) (fVar 10))))
  (fFor (bnd2 11 5) (fEnum (fVar 2)) b_l_basis_1))
def f_l_basis : FS := (fSeq (fAsg 2 (asE (fLc [3] (bnd1 3) (fItems (fVarB 1)) (ftVal (fOp dNe (fVarB 3) (fC (.int 0)))) (fTup (fCons (fVar 3) (fCons (fCall m_l_digits [] 2 (fCons (fVar 0) (fCons (fVar 3) fNil))) fNil))))))
  (fSeq (fAsg 4 (asE (fLc [5] (bnd1 5) (fItems (fVarB 2)) ftYes (fCall m_l_first [] 1 (fCons (fOp dIx (fVarB 5) (fC (.int 1))) fNil)))))
  (fSeq (fAsg 6 (asE (fLc [7] (bnd1 7) (fRng (fCons (fOp dIx (fVarB 0) (fC (.int 1))) fNil)) (ftVal (fOp (dIn false) (fVarB 7) (fVarB 4))) (fVar 7))))
  (fSeq (fOwn 8 (fLst fNil))
  (fSeq (fFor (bnd1 7) (fItems (fVar 6)) b_l_basis_2)
  (fRet (fOp1 dTuple (fVarB 8))))))))
def m_l_basis : Fn := fnD 12 f_l_basis
def b_l_space_poly_1 : FS := (fSeq (fAsg 4 (fCall m_l_value [] 3 (fCons (fVar 0) (fCons (fVar 2) (fCons (fVar 3) fNil)))))
  (fIf (ftVal (fOp dNe (fVarB 4) (fC (.int 0)))) (fSeq (fAsg 5 (fOp dIx (fOp dIx (fOp dIx (fVarB 0) (fC (.int 4))) (fOp dIx (fOp dIx (fVarB 0) (fC (.int 5))) (fVarB 4))) (fCall m_l_inverse [] 2 (fCons (fVar 0) (fCons (fVar 4) fNil)))))
  (fAsg 2 (fCall m_l_put [] 3 (fCons (fVar 0) (fCons (fTup (fCons (fOp dIx (fOp dIx (fVarB 0) (fC (.int 6))) (fVarB 5)) (fCons (fC (.int 1)) fNil))) (fCons (fVar 2) fNil)))))) fPass))
def f_l_space_poly : FS := (fSeq (fAsg 2 (fTup (fCons (fC (.int 1)) fNil)))
  (fSeq (fFor (bnd1 3) (fItems (fVar 1)) b_l_space_poly_1)
  (fRet (fVar 2))))
def m_l_space_poly : Fn := fnD 6 f_l_space_poly
def f_l_same (rec : Fn) : FS := (fSeq (fIf (ftVal (fIsi "tuple" (fVar 1))) (fSeq (fIf (ftOr (ftNot (ftVal (fIsi "tuple" (fVar 0)))) (ftVal (fOp dNe (fOp1 dLen (fVarB 0)) (fOp1 dLen (fVarB 1))))) (fRet (fC (.bl false))) fPass)
  (fRet (fOp dEq (asE (fLc [2] (bnd1 2) (fRng (fCons (fOp1 dLen (fVarB 1)) fNil)) (ftNot (ftVal (fCall rec [] 2 (fCons (fOp dIx (fVarB 0) (fVarB 2)) (fCons (fOp dIx (fVarB 1) (fVarB 2)) fNil))))) (fVar 2))) (asE (fLst fNil))))) fPass)
  (fRet (fAnd (fIsi "int" (fVar 0)) (fAnd (fNot (fIsi "bool" (fVar 0))) (fOp dEq (fVarB 0) (fVarB 1))))))
def m_l_same : Nat → Fn
  | 0 => fun _ _ => none
  | n + 1 => fnD 3 (f_l_same (m_l_same n))
def f_l_two_spaces : FS := (fSeq (fAsg 2 (asE (fLc [3] (bnd1 3) (fRng (fCons (fCall m_l_draw [] 2 (fCons (fVar 0) (fCons (fC (.int 3)) fNil))) fNil)) ftYes (fCall m_l_draw [] 2 (fCons (fVar 0) (fCons (fOp dIx (fVarB 1) (fC (.int 2))) fNil))))))
  (fSeq (fAsg 4 (fOp dAdd (fVarB 2) (asE (fLc [3] (bnd1 3) (fRng (fCons (fCall m_l_draw [] 2 (fCons (fVar 0) (fCons (fC (.int 4)) fNil))) fNil)) ftYes (fCall m_l_draw [] 2 (fCons (fVar 0) (fCons (fOp dIx (fVarB 1) (fC (.int 2))) fNil)))))))
  (fSeq (fAsg 5 (asE (fOpN nCat (asE (fLc [3] (bnd1 3) (fRng (fCons (fCall m_l_draw [] 2 (fCons (fVar 0) (fCons (fC (.int 4)) fNil))) fNil)) ftYes (fCall m_l_draw [] 2 (fCons (fVar 0) (fCons (fOp dIx (fVarB 1) (fC (.int 2))) fNil))))) (fVarB 2))))
  (fRet (fTup (fCons (fVar 4) (fCons (fVar 5) fNil)))))))
def m_l_two_spaces : Fn := fnD 6 f_l_two_spaces
def f_l_rows : FS := (fRet (asE (fLc [2] (bnd1 2) (fItems (fVarB 1)) ftYes (fMeth m_F_digits_of 2 (fVar 0) (fCons (fVar 2) fNil)))))
def m_l_rows : Fn := fnD 3 f_l_rows
def f_l_parts : FS := (fSeq (fAsg 6 (fOp dEq (asE (fLc [7] (bnd1 7) (fItems (fVarB 5)) (ftVal (fOp (dIn true) (fVarB 7) (fVarB 4))) (fVar 7))) (asE (fLst fNil))))
  (fSeq (fTup2 8 9 (fCall m_divided_about [] 3 (fCons (fVar 0) (fCons (fVar 2) (fCons (fVar 3) fNil)))))
  (fSeq (fIf (ftVal (fOp dNe (fOp dEq (fVarB 9) (fTup fNil)) (fVarB 6))) (fRet (fC (.bl false))) fPass)
  (fSeq (fIf (ftAnd (ftVal (fOp dEq (fVarB 9) (fTup fNil))) (ftNot (ftVal (fCall (m_l_same 4) [] 2 (fCons (fCall m_put_into [] 3 (fCons (fVar 0) (fCons (fVar 8) (fCons (fVar 3) fNil)))) (fCons (fVar 2) fNil)))))) (fRet (fC (.bl false))) fPass)
  (fRet (fOr (fOp dNe (fVarB 9) (fTup fNil)) (fOp dEq (fOp1 dLen (fVarB 8)) (fOp dAdd (fOp dSub (fOp1 dLen (fVarB 2)) (fOp1 dLen (fVarB 3))) (fC (.int 1))))))))))
def m_l_parts : Fn := fnD 10 f_l_parts
def f_l_spaces_led : FS := (fSeq (fTup2 3 4 (fCall m_l_two_spaces [] 2 (fCons (fVar 0) (fCons (fVar 2) fNil))))
  (fSeq (fAsg 5 (fCall m_l_span [] 2 (fCons (fVar 2) (fCons (fVar 3) fNil))))
  (fSeq (fAsg 6 (fCall m_l_span [] 2 (fCons (fVar 2) (fCons (fVar 4) fNil))))
  (fSeq (fAsg 7 (asE (fLc [8] (bnd1 8) (fItems (fVarB 5)) (ftVal (fOp (dIn false) (fVarB 8) (fVarB 6))) (fVar 8))))
  (fSeq (fAsg 9 (fCall m_poly_of_space [] 2 (fCons (fVar 1) (fCons (fCall m_l_given [] 2 (fCons (fVar 0) (fCons (fVar 3) fNil))) fNil))))
  (fSeq (fAsg 10 (fCall m_poly_of_space [] 2 (fCons (fVar 1) (fCons (fCall m_l_given [] 2 (fCons (fVar 0) (fCons (fVar 4) fNil))) fNil))))
  (fSeq (fIf (ftOr (ftNot (ftVal (fCall (m_l_same 4) [] 2 (fCons (fVar 9) (fCons (fCall m_l_space_poly [] 2 (fCons (fVar 2) (fCons (fVar 3) fNil))) fNil))))) (ftNot (ftVal (fCall (m_l_same 4) [] 2 (fCons (fVar 10) (fCons (fCall m_l_space_poly [] 2 (fCons (fVar 2) (fCons (fVar 4) fNil))) fNil)))))) (fRet (fC (.bl false))) fPass)
  (fSeq (fAsg 11 (fCall m_l_basis [] 2 (fCons (fVar 2) (fCons (fVar 7) fNil))))
  (fSeq (fAsg 12 (fCall m_common_about [] 3 (fCons (fVar 1) (fCons (fVar 9) (fCons (fVar 10) fNil)))))
  (fSeq (fIf (ftOr (ftNot (ftVal (fCall (m_l_same 4) [] 2 (fCons (fVar 12) (fCons (fCall m_l_space_poly [] 2 (fCons (fVar 2) (fCons (fVar 11) fNil))) fNil))))) (ftNot (ftVal (fCall (m_l_same 4) [] 2 (fCons (fCall m_zeros_of [] 2 (fCons (fVar 1) (fCons (fVar 12) fNil))) (fCons (fVar 11) fNil)))))) (fRet (fC (.bl false))) fPass)
  (fSeq (fAsg 13 (fCall m_meet_spaces [] 4 (fCons (fOp dIx (fVarB 2) (fC (.int 0))) (fCons (fOp dIx (fVarB 2) (fC (.int 1))) (fCons (fCall m_l_rows [] 2 (fCons (fVar 1) (fCons (fVar 3) fNil))) (fCons (fCall m_l_rows [] 2 (fCons (fVar 1) (fCons (fVar 4) fNil))) fNil))))))
  (fSeq (fIf (ftNot (ftVal (fCall (m_l_same 4) [] 2 (fCons (fOp1 dTuple (asE (fLc [14] (bnd1 14) (fItems (fVarB 13)) ftYes (fMeth m_F_thing_of 2 (fVar 1) (fCons (fVar 14) fNil))))) (fCons (fVar 11) fNil))))) (fRet (fC (.bl false))) fPass)
  (fSeq (fAsg 15 (fCall m_least_about [] 3 (fCons (fVar 1) (fCons (fVar 9) (fCons (fVar 10) fNil)))))
  (fSeq (fIf (ftOr (ftNot (ftVal (fCall (m_l_same 4) [] 2 (fCons (fVar 15) (fCons (fCall m_l_space_poly [] 2 (fCons (fVar 2) (fCons (fOp dAdd (fVarB 3) (fVarB 4)) fNil))) fNil))))) (ftNot (ftVal (fCall (m_l_same 4) [] 2 (fCons (fVar 15) (fCons (fCall m_poly_of_space [] 2 (fCons (fVar 1) (fCons (fOp dAdd (fVarB 3) (fVarB 4)) fNil))) fNil)))))) (fRet (fC (.bl false))) fPass)
  (fSeq (fIf (ftNot (ftVal (fCall (m_l_same 4) [] 2 (fCons (fCall m_zeros_of [] 2 (fCons (fVar 1) (fCons (fVar 15) fNil))) (fCons (fCall m_things_space [] 2 (fCons (fVar 1) (fCons (fOp dAdd (fVarB 3) (fVarB 4)) fNil))) fNil))))) (fRet (fC (.bl false))) fPass)
  (fRet (fCall m_l_parts [] 6 (fCons (fVar 1) (fCons (fVar 2) (fCons (fVar 9) (fCons (fVar 10) (fCons (fVar 5) (fCons (fVar 6) fNil)))))))))))))))))))))))
def m_l_spaces_led : Fn := fnD 16 f_l_spaces_led
def f_l_zeros : FS := (fRet (asE (fLc [2] (bnd1 2) (fRng (fCons (fOp dIx (fVarB 0) (fC (.int 2))) fNil)) (ftVal (fOp dEq (fCall m_l_value [] 3 (fCons (fVar 0) (fCons (fVar 1) (fCons (fVar 2) fNil)))) (fC (.int 0)))) (fVar 2))))
def m_l_zeros : Fn := fnD 3 f_l_zeros
def f_l_common_zeros : FS := (fSeq (fAsg 3 (fCall m_l_poly [] 3 (fCons (fVar 0) (fCons (fVar 2) (fCons (fC (.int 3)) fNil)))))
  (fSeq (fAsg 4 (fCall m_l_poly [] 3 (fCons (fVar 0) (fCons (fVar 2) (fCons (fC (.int 6)) fNil)))))
  (fSeq (fAsg 5 (fCall m_l_poly [] 3 (fCons (fVar 0) (fCons (fVar 2) (fCons (fC (.int 6)) fNil)))))
  (fSeq (fIf (ftVal (fOp dGt (fCall m_l_draw [] 2 (fCons (fVar 0) (fCons (fC (.int 3)) fNil))) (fC (.int 0)))) (fSeq (fAsg 4 (fCall m_l_put [] 3 (fCons (fVar 2) (fCons (fCall m_l_poly [] 3 (fCons (fVar 0) (fCons (fVar 2) (fCons (fC (.int 3)) fNil)))) (fCons (fVar 3) fNil)))))
  (fAsg 5 (fCall m_l_put [] 3 (fCons (fVar 2) (fCons (fCall m_l_poly [] 3 (fCons (fVar 0) (fCons (fVar 2) (fCons (fC (.int 3)) fNil)))) (fCons (fVar 3) fNil)))))) fPass)
  (fSeq (fAsg 6 (asE (fLc [7] (bnd1 7) (fItems (fCall m_l_zeros [] 2 (fCons (fVar 2) (fCons (fVar 4) fNil)))) (ftVal (fOp dEq (fCall m_l_value [] 3 (fCons (fVar 2) (fCons (fVar 5) (fCons (fVar 7) fNil)))) (fC (.int 0)))) (fVar 7))))
  (fSeq (fAsg 8 (fCall m_common_about [] 3 (fCons (fVar 1) (fCons (fCall m_l_given [] 2 (fCons (fVar 0) (fCons (fVar 4) fNil))) (fCons (fCall m_l_given [] 2 (fCons (fVar 0) (fCons (fVar 5) fNil))) fNil)))))
  (fSeq (fIf (ftNot (ftVal (fCall (m_l_same 4) [] 2 (fCons (fCall m_zeros_of [] 2 (fCons (fVar 1) (fCons (fVar 8) fNil))) (fCons (fCall m_l_basis [] 2 (fCons (fVar 2) (fCons (fVar 6) fNil))) fNil))))) (fRet (fC (.bl false))) fPass)
  (fRet (fCall (m_l_same 4) [] 2 (fCons (fCall m_space_things [] 2 (fCons (fVar 1) (fCons (fCall m_zeros_of [] 2 (fCons (fVar 1) (fCons (fVar 8) fNil))) fNil))) (fCons (fOp1 dTuple (fOp1 dSorted (fVarB 6))) fNil)))))))))))
def m_l_common_zeros : Fn := fnD 9 f_l_common_zeros
def b_l_put_zeros_1 : FS := (fIf (ftOr (ftVal (fOp dIsNot (fCall m_holds_thing [] 3 (fCons (fVar 1) (fCons (fVar 7) (fCons (fVar 8) fNil)))) (fC (.bl true)))) (ftVal (fOp dNe (fCall m_value_at [] 3 (fCons (fVar 1) (fCons (fVar 6) (fCons (fVar 8) fNil)))) (fC (.int 0))))) (fRet (fC (.bl false))) fPass)
def b_l_put_zeros_2 : FS := (fIf (ftVal (fOp dNe (fOp dEq (fCall m_value_at [] 3 (fCons (fVar 1) (fCons (fVar 9) (fCons (fVar 8) fNil)))) (fC (.int 0))) (fOp (dIn false) (fCall m_l_value [] 3 (fCons (fVar 2) (fCons (fVar 3) (fCons (fVar 8) fNil)))) (fVarB 5)))) (fRet (fC (.bl false))) fPass)
def f_l_put_zeros : FS := (fSeq (fAsg 3 (fCall m_l_poly [] 3 (fCons (fVar 0) (fCons (fVar 2) (fCons (fC (.int 4)) fNil)))))
  (fSeq (fAsg 4 (fCall m_l_poly [] 3 (fCons (fVar 0) (fCons (fVar 2) (fCons (fC (.int 4)) fNil)))))
  (fSeq (fAsg 5 (fCall m_l_zeros [] 2 (fCons (fVar 2) (fCons (fVar 4) fNil))))
  (fSeq (fAsg 6 (fCall m_put_into [] 3 (fCons (fVar 1) (fCons (fVar 3) (fCons (fCall m_l_given [] 2 (fCons (fVar 0) (fCons (fVar 4) fNil))) fNil)))))
  (fSeq (fAsg 7 (fCall m_zeros_of [] 2 (fCons (fVar 1) (fCons (fVar 6) fNil))))
  (fSeq (fFor (bnd1 8) (fItems (fVar 5)) b_l_put_zeros_1)
  (fSeq (fAsg 9 (fCall m_put_into [] 3 (fCons (fVar 1) (fCons (fVar 4) (fCons (fCall m_l_given [] 2 (fCons (fVar 0) (fCons (fVar 3) fNil))) fNil)))))
  (fSeq (fFor (bnd1 8) (fRng (fCons (fOp dIx (fVarB 2) (fC (.int 2))) fNil)) b_l_put_zeros_2)
  (fSeq (fAsg 10 (asE (fLc [8] (bnd1 8) (fRng (fCons (fOp dIx (fVarB 2) (fC (.int 2))) fNil)) (ftVal (fOp (dIn false) (fCall m_l_value [] 3 (fCons (fVar 2) (fCons (fVar 3) (fCons (fVar 8) fNil)))) (fVarB 5))) (fVar 8))))
  (fSeq (fIf (ftNot (ftVal (fCall (m_l_same 4) [] 2 (fCons (fCall m_zeros_of [] 2 (fCons (fVar 1) (fCons (fVar 9) fNil))) (fCons (fCall m_l_basis [] 2 (fCons (fVar 2) (fCons (fVar 10) fNil))) fNil))))) (fRet (fC (.bl false))) fPass)
  (fSeq (fIf (ftVal (fOp dEq (fVarB 4) (fTup fNil))) (fRet (fC (.bl true))) fPass)
  (fSeq (fIf (ftNot (ftVal (fCall (m_l_same 4) [] 2 (fCons (fCall m_divided_within [] 3 (fCons (fVar 1) (fCons (fVar 9) (fCons (fVar 4) fNil)))) (fCons (fTup (fCons (fVar 3) (fCons (fTup fNil) fNil))) fNil))))) (fRet (fC (.bl false))) fPass)
  (fRet (fCall (m_l_same 4) [] 2 (fCons (fCall m_divided_about [] 3 (fCons (fVar 1) (fCons (fVar 6) (fCons (fVar 4) fNil)))) (fCons (fTup (fCons (fVar 3) (fCons (fTup fNil) fNil))) fNil))))))))))))))))
def m_l_put_zeros : Fn := fnD 11 f_l_put_zeros
def b_law_1 : FS := (fSeq (fIf (ftOr (ftNot (ftVal (fCall m_l_spaces_led [] 3 (fCons (fVar 1) (fCons (fVar 2) (fCons (fVar 3) fNil)))))) (ftNot (ftVal (fCall m_l_common_zeros [] 3 (fCons (fVar 1) (fCons (fVar 2) (fCons (fVar 3) fNil))))))) (fRet (fC (.bl false))) fPass)
  (fIf (ftNot (ftVal (fCall m_l_put_zeros [] 3 (fCons (fVar 1) (fCons (fVar 2) (fCons (fVar 3) fNil)))))) (fRet (fC (.bl false))) fPass))
def f_law : FS := (fSeq (fTup2 2 3 (fCall m_l_field [] 1 (fCons (fVar 1) fNil)))
  (fSeq (fFor (bnd1 4) (fRng (fCons (fC (.int 3)) fNil)) b_law_1)
  (fRet (fC (.bl true)))))
def n_law : Nat := 5
end K39
end
section
set_option maxRecDepth 100000
set_option maxHeartbeats 0
namespace K39
open PySem PySem.Spec PyProof.Rows L2

/-! ### what is known of the names -/
structure Wl (K : PySem.W.Frag) (mg : Str → Option Value) : Prop where
  c : He.SaysD fa fn K
  x : ∃ h : Heap, K.In h ∧ h.Ns mainGlobals mg
section
variable {K : PySem.W.Frag} {mg : Str → Option Value}
theorem Wl.glo (W : Wl K mg) (i : Nat) {x : Str} (h : fa[i]? = some (.glo x)) : mg x = some (.ref (He.ga K x)) := by
  obtain ⟨h0, X, G⟩ := W.x
  exact He.glo_ok X G (W.c.fact i h)
theorem Wl.free (W : Wl K mg) (i : Nat) {x : Str} (h : fa[i]? = some (.free x)) : mg x = none := by
  obtain ⟨h0, X, G⟩ := W.x
  exact He.free_ok X G (W.c.fact i h)
theorem Wl.cls (W : Wl K mg) : Cls K (He.ga K "Field") := He.cls_ok (W.c.fact 99 rfl)
theorem Wl.mkr (W : Wl K mg) : Mk K (He.ga K "Field") (He.ma K (He.ga K "Field") "__init__") := He.mkr_ok (W.c.fact 100 rfl)
theorem Wl.noat (W : Wl K mg) (i : Nat) {f : Str} (h : fa[i]? = some (.noat "Field" f)) : NoAttr K (He.ga K "Field") f := He.noat_ok (W.c.fact i h)
theorem Wl.meth (W : Wl K mg) (i : Nat) {m : Str} (h : fa[i]? = some (.meth "Field" m)) : Meth K (He.ga K "Field") m (He.ma K (He.ga K "Field") m) := He.meth_ok (W.c.fact i h)
end
section
variable {P : Program} {w : World} {K : PySem.W.Frag} {mg : Str → Option Value} {base : Heap} {C : Addr} {j k n : Nat} {x : Str} {dd : List D} {g : Fn}
theorem Callee.mono (c : Callee P w K mg base C j x n dd g) (h : j ≤ k) : Callee P w K mg base C k x n dd g := by
  obtain ⟨f, fd, ps, dvs, ds, F, r⟩ := c.ex
  exact ⟨f, fd, ps, dvs, ds, F.mono h, r⟩
theorem MCallee.mono (c : MCallee P w K mg base C j x n g) (h : j ≤ k) : MCallee P w K mg base C k x n g := by
  obtain ⟨f, fd, ps, F, r⟩ := c.ex
  exact ⟨f, fd, ps, F.mono h, r⟩
theorem Maker.mono (c : Maker P w K mg base C j x n g) (h : j ≤ k) : Maker P w K mg base C k x n g := by
  obtain ⟨f, fd, ps, F, r⟩ := c.ex
  exact ⟨f, fd, ps, F.mono h, r⟩
end
theorem sc_is_whole : FnScope ["thing", "low", "high"] ["thing", "low", "high"] (defScope s_is_whole) := ⟨rfl, rfl, rfl, by decide +kernel, rfl, by decide +kernel, by decide +kernel⟩
theorem k_is_whole {P : Program} {w : World} {K : PySem.W.Frag} {mg : Str → Option Value} {base : Heap} (W : Wl K mg) : ∃ fd, FunD K dd_is_whole.name dd_is_whole.qual dd_is_whole.params dd_is_whole.body dd_is_whole.scope (dd_is_whole.dvs K) (dd_is_whole.kws K) (He.fAd K dd_is_whole.at_) fd ∧ FnOk P w K mg base CX0 1 (He.fAd K dd_is_whole.at_) fd ["thing", "low", "high"] (spOf K (He.ga K "Field") 3 m_is_whole) := by
  obtain ⟨fd, F⟩ := W.c.def_ 0 (d := dd_is_whole) rfl
  have sc := sc_is_whole
  exact ⟨fd, F, fn_meaning F sc (fun cdv A outer s H E hr =>
    (css_cons (cs_if (CW.t (cw_or (ct_not (ct_val (ce_isi (n := "int") rfl (W.free 90 rfl) rfl (W.free 89 rfl) (by decide +kernel) (ce_var 0 (pv 0))))) (cw_or1 (ct_val (ce_isi (n := "bool") rfl (W.free 90 rfl) rfl (W.free 87 rfl) (by decide +kernel) (ce_var 0 (pv 0))))))) (css_one (cs_ret ce_bl)) css_nil)
    (css_cons (cs_if (CW.t (cw_and (ct_cmp op_isNot2 ov_isNot (cb_var 1 (pv 1)) (CE.toB ce_non) (nomark _)) (cw_and1 (ct_cmp op_lt ov_lt (cb_var 0 (pv 0)) (cb_var 1 (pv 1)) (nomark _))))) (css_one (cs_ret ce_bl)) css_nil)
    (css_one (cs_ret (ce_or (ce_cmp op_isN ov_is (cb_var 2 (pv 2)) (CE.toB ce_non) (nomark _)) (ce_one (ce_cmp op_le ov_le (cb_var 0 (pv 0)) (cb_var 2 (pv 2)) (nomark _)))))))))⟩
theorem c_is_whole {P : Program} {w : World} {K : PySem.W.Frag} {mg : Str → Option Value} {base : Heap} (W : Wl K mg) : Callee P w K mg base (He.ga K "Field") 1 "is_whole" 3 [] m_is_whole := by
  obtain ⟨fd, F, ok⟩ := k_is_whole (P := P) (w := w) (base := base) W
  obtain ⟨ds, hv, hb⟩ := F.binds1 (ps := ["thing", "low", "high"]) 3 2 (List.cons_ne_nil _ _) rfl (fun T kV doc pm an cdv ct us its h1 h2 => match us, its, h1, h2 with | [_, _, _], [_, _], _, _ => ⟨_, rfl, rfl⟩)
  exact ⟨_, fd, ["thing", "low", "high"], [], ds, ok, W.glo 7 rfl, F.kp, hb, hv, fun _ _ => rfl⟩
theorem sc_is_sequence : FnScope ["thing"] ["thing"] (defScope s_is_sequence) := ⟨rfl, rfl, rfl, by decide +kernel, rfl, by decide +kernel, by decide +kernel⟩
theorem c_is_sequence {P : Program} {w : World} {K : PySem.W.Frag} {mg : Str → Option Value} {base : Heap} (W : Wl K mg) : Callee P w K mg base (He.ga K "Field") 1 "is_sequence" 1 [] m_is_sequence := by
  obtain ⟨fd, F⟩ := W.c.def_ 1 (d := dd_is_sequence) rfl
  have sc := sc_is_sequence
  exact ⟨_, fd, ["thing"], [], [], fn_meaning F sc (fun cdv A outer s H E hr =>
    (css_one (cs_ret (ce_isi2 (n1 := "list") (n2 := "tuple") rfl (W.free 90 rfl) rfl (W.free 92 rfl) (by decide +kernel) rfl (W.free 97 rfl) (by decide +kernel) (ce_var 0 (pv 0)))))), W.glo 8 rfl, F.kp, F.bindsN fun _ _ _ _ _ _ us hl => match us, hl with | [_], _ => rfl, .nil, fun _ _ => rfl⟩
theorem sc_power_of : FnScope ["base", "exponent", "total", "turn"] ["base", "exponent"] (defScope s_power_of) := ⟨rfl, rfl, rfl, by decide +kernel, rfl, by decide +kernel, by decide +kernel⟩
theorem c_power_of {P : Program} {w : World} {K : PySem.W.Frag} {mg : Str → Option Value} {base : Heap} (W : Wl K mg) : Callee P w K mg base (He.ga K "Field") 1 "power_of" 2 [] m_power_of := by
  obtain ⟨fd, F⟩ := W.c.def_ 2 (d := dd_power_of) rfl
  have sc := sc_power_of
  exact ⟨_, fd, ["base", "exponent"], [], [], fn_meaning F sc (fun cdv A outer s H E hr =>
    (css_cons (cs_asg 2 ce_int sc.nd rfl (Or.inl rfl) rfl (Or.inl rfl))
    (css_cons (cs_for1 3 PassesOwn.never rfl (ci_rng1 rfl (W.free 94 rfl) (ca_cons (ce_var 1 (pv 1)) ca_nil) (h1 := (len_cons (fun _ _ _ _ h => len_nil h)))) (pg_name (i := 3) sc.nd rfl (Or.inl rfl)) (css_one (cs_asg 2 (ce_op op_mul2 ov_mul (cb_var 2 (pv 2)) (cb_var 0 (pv 0))) sc.nd rfl (Or.inl rfl) rfl (Or.inl rfl))))
    (css_one (cs_ret (ce_var 2 (pv 2))))))), W.glo 9 rfl, F.kp, F.bindsN fun _ _ _ _ _ _ us hl => match us, hl with | [_, _], _ => rfl, .nil, fun _ _ => rfl⟩
theorem sc_base_digits : FnScope ["prime", "many", "number", "digits", "turn"] ["prime", "many", "number"] (defScope s_base_digits) := ⟨rfl, rfl, rfl, by decide +kernel, rfl, by decide +kernel, by decide +kernel⟩
theorem c_base_digits {P : Program} {w : World} {K : PySem.W.Frag} {mg : Str → Option Value} {base : Heap} (W : Wl K mg) : Callee P w K mg base (He.ga K "Field") 1 "base_digits" 3 [] m_base_digits := by
  obtain ⟨fd, F⟩ := W.c.def_ 3 (d := dd_base_digits) rfl
  have sc := sc_base_digits
  exact ⟨_, fd, ["prime", "many", "number"], [], [], fn_meaning F sc (fun cdv A outer s H E hr =>
    (css_cons (cs_own 3 (cl_lst ca_nil) sc.nd rfl (Or.inl rfl) rfl (Or.inl rfl))
    (css_cons (cs_for1 4 PassesOwn.never rfl (ci_rng1 rfl (W.free 94 rfl) (ca_cons (ce_var 1 (pv 1)) ca_nil) (h1 := (len_cons (fun _ _ _ _ h => len_nil h)))) (pg_name (i := 4) sc.nd rfl (Or.inl rfl)) (css_cons (cs_app 3 (pv 3) (ce_op op_mod ov_mod (cb_var 2 (pv 2)) (cb_var 0 (pv 0))))
    (css_one (cs_asg 2 (ce_op op_fdiv ov_div (cb_var 2 (pv 2)) (cb_var 0 (pv 0))) sc.nd rfl (Or.inl rfl) rfl (Or.inl rfl)))))
    (css_one (cs_ret (ce_tuple rfl (W.free 97 rfl) (cb_var 3 (pv 3)))))))), W.glo 10 rfl, F.kp, F.bindsN fun _ _ _ _ _ _ us hl => match us, hl with | [_, _, _], _ => rfl, .nil, fun _ _ => rfl⟩
theorem sc_digits_value : FnScope ["prime", "digits", "total", "digit"] ["prime", "digits"] (defScope s_digits_value) := ⟨rfl, rfl, rfl, by decide +kernel, rfl, by decide +kernel, by decide +kernel⟩
theorem c_digits_value {P : Program} {w : World} {K : PySem.W.Frag} {mg : Str → Option Value} {base : Heap} (W : Wl K mg) : Callee P w K mg base (He.ga K "Field") 1 "digits_value" 2 [] m_digits_value := by
  obtain ⟨fd, F⟩ := W.c.def_ 4 (d := dd_digits_value) rfl
  have sc := sc_digits_value
  exact ⟨_, fd, ["prime", "digits"], [], [], fn_meaning F sc (fun cdv A outer s H E hr =>
    (css_cons (cs_asg 2 ce_int sc.nd rfl (Or.inl rfl) rfl (Or.inl rfl))
    (css_cons (cs_for1 3 PassesOwn.never rfl (ci_rev rfl (W.free 95 rfl) (CL.toE (cl_list rfl (W.free 92 rfl) (cb_var 1 (pv 1))))) (pg_name (i := 3) sc.nd rfl (Or.inl rfl)) (css_one (cs_asg 2 (ce_op op_add3 ov_add (CE.toB (ce_op op_mul2 ov_mul (cb_var 2 (pv 2)) (cb_var 0 (pv 0)))) (cb_var 3 (pv 3))) sc.nd rfl (Or.inl rfl) rfl (Or.inl rfl))))
    (css_one (cs_ret (ce_var 2 (pv 2))))))), W.glo 11 rfl, F.kp, F.bindsN fun _ _ _ _ _ _ us hl => match us, hl with | [_, _], _ => rfl, .nil, fun _ _ => rfl⟩
theorem sc_is_digit_row : FnScope ["prime", "width", "thing", "digit"] ["prime", "width", "thing"] (defScope s_is_digit_row) := ⟨rfl, rfl, rfl, by decide +kernel, rfl, by decide +kernel, by decide +kernel⟩
theorem c_is_digit_row {P : Program} {w : World} {K : PySem.W.Frag} {mg : Str → Option Value} {base : Heap} (W : Wl K mg) : Callee P w K mg base (He.ga K "Field") 2 "is_digit_row" 3 [] m_is_digit_row := by
  obtain ⟨fd, F⟩ := W.c.def_ 5 (d := dd_is_digit_row) rfl
  have sc := sc_is_digit_row
  exact ⟨_, fd, ["prime", "width", "thing"], [], [], fn_meaning F sc (fun cdv A outer s H E hr =>
    (css_cons (cs_if (CW.t (cw_or (ct_not (ct_val (ce_call ((c_is_sequence W).mono (by decide)) hr rfl (ca_cons (ce_var 2 (pv 2)) ca_nil)))) (cw_or1 (ct_cmp (op_ne2 hr.units) ov_ne (CE.toB (ce_len rfl (W.free 91 rfl) (cb_var 2 (pv 2)))) (cb_var 1 (pv 1)) (nomark _))))) (css_one (cs_ret ce_bl)) css_nil)
    (css_one (cs_ret (ce_all rfl rfl (W.free 85 rfl) (CL.toB (cl_lc1 3 rfl sc.nd (blkOk_by (by kernel_rfl)) (cb_seq (cb_var 2 (pv 2))) (fun _ _ _ _ _ => (pg_name (i := 3) sc.nd rfl (Or.inl rfl))) (fun _ _ _ _ _ => pts_yes) (fun _ _ _ _ _ => (ce_call ((c_is_whole W).mono (by decide)) hr rfl (ca_cons (ce_var 3 (pv 3)) (ca_cons ce_int (ca_cons (ce_op op_sub ov_sub (cb_var 0 (pv 0)) (CE.toB ce_int)) ca_nil)))))))))))), W.glo 12 rfl, F.kp, F.bindsN fun _ _ _ _ _ _ us hl => match us, hl with | [_, _, _], _ => rfl, .nil, fun _ _ => rfl⟩
theorem sc_rest_by_monic : FnScope ["prime", "digits", "divisor", "left", "short", "place", "lead", "at", "spot"] ["prime", "digits", "divisor"] (defScope s_rest_by_monic) := ⟨rfl, rfl, rfl, by decide +kernel, rfl, by decide +kernel, by decide +kernel⟩
theorem c_rest_by_monic {P : Program} {w : World} {K : PySem.W.Frag} {mg : Str → Option Value} {base : Heap} (W : Wl K mg) : Callee P w K mg base (He.ga K "Field") 1 "rest_by_monic" 3 [] m_rest_by_monic := by
  obtain ⟨fd, F⟩ := W.c.def_ 6 (d := dd_rest_by_monic) rfl
  have sc := sc_rest_by_monic
  exact ⟨_, fd, ["prime", "digits", "divisor"], [], [], fn_meaning F sc (fun cdv A outer s H E hr =>
    (css_cons (cs_own 3 (cl_list rfl (W.free 92 rfl) (cb_var 1 (pv 1))) sc.nd rfl (Or.inl rfl) rfl (Or.inl rfl))
    (css_cons (cs_asg 4 (ce_op op_sub ov_sub (CE.toB (ce_len rfl (W.free 91 rfl) (cb_var 2 (pv 2)))) (CE.toB ce_int)) sc.nd rfl (Or.inl rfl) rfl (Or.inl rfl))
    (css_cons (cs_for1 5 PassesOwn.never rfl (ci_rng3 rfl (W.free 94 rfl) (ca_cons (ce_op op_sub ov_sub (CE.toB (ce_len rfl (W.free 91 rfl) (cb_var 3 (pv 3)))) (CE.toB ce_int)) (ca_cons (ce_op op_sub ov_sub (cb_var 4 (pv 4)) (CE.toB ce_int)) (ca_cons (ce_neg ce_int) ca_nil))) (h1 := (len_cons (len_cons (len_cons (fun _ _ _ _ h => len_nil h)))))) (pg_name (i := 5) sc.nd rfl (Or.inl rfl)) (css_cons (cs_asg 6 (ce_ix (cb_var 3 (pv 3)) (cb_var 5 (pv 5)) (by intro _ _; rfl)) sc.nd rfl (Or.inl rfl) rfl (Or.inl rfl))
    (css_one (cs_for1 7 PassesOwn.never rfl (ci_rng1 rfl (W.free 94 rfl) (ca_cons (ce_op op_add3 ov_add (cb_var 4 (pv 4)) (CE.toB ce_int)) ca_nil) (h1 := (len_cons (fun _ _ _ _ h => len_nil h)))) (pg_name (i := 7) sc.nd rfl (Or.inl rfl)) (css_cons (cs_asg 8 (ce_op op_add3 ov_add (CE.toB (ce_op op_sub ov_sub (cb_var 5 (pv 5)) (cb_var 4 (pv 4)))) (cb_var 7 (pv 7))) sc.nd rfl (Or.inl rfl) rfl (Or.inl rfl))
    (css_one (cs_sto 3 (pv 3) (ce_var 8 (pv 8)) (ce_op op_mod ov_mod (CE.toB (ce_op op_sub ov_sub (CE.toB (ce_ix (cb_var 3 (pv 3)) (cb_var 8 (pv 8)) (by intro _ _; rfl))) (CE.toB (ce_op op_mul2 ov_mul (cb_var 6 (pv 6)) (CE.toB (ce_ix (cb_var 2 (pv 2)) (cb_var 7 (pv 7)) (by intro _ _; rfl))))))) (cb_var 0 (pv 0))))))))))
    (css_one (cs_ret (ce_sl (cb_var 3 (pv 3)) co_none (co_some (ce_var 4 (pv 4)))))))))), W.glo 13 rfl, F.kp, F.bindsN fun _ _ _ _ _ _ us hl => match us, hl with | [_, _, _], _ => rfl, .nil, fun _ _ => rfl⟩
theorem sc_has_divisor : FnScope ["prime", "modulus", "degree", "number", "divisor"] ["prime", "modulus"] (defScope s_has_divisor) := ⟨rfl, rfl, rfl, by decide +kernel, rfl, by decide +kernel, by decide +kernel⟩
theorem c_has_divisor {P : Program} {w : World} {K : PySem.W.Frag} {mg : Str → Option Value} {base : Heap} (W : Wl K mg) : Callee P w K mg base (He.ga K "Field") 2 "has_divisor" 2 [] m_has_divisor := by
  obtain ⟨fd, F⟩ := W.c.def_ 7 (d := dd_has_divisor) rfl
  have sc := sc_has_divisor
  exact ⟨_, fd, ["prime", "modulus"], [], [], fn_meaning F sc (fun cdv A outer s H E hr =>
    (css_cons (cs_for1 2 PassesOwn.never rfl (ci_rng2 rfl (W.free 94 rfl) (ca_cons ce_int (ca_cons (ce_op op_add3 ov_add (CE.toB (ce_op op_fdiv ov_div (CE.toB (ce_op op_sub ov_sub (CE.toB (ce_len rfl (W.free 91 rfl) (cb_var 1 (pv 1)))) (CE.toB ce_int))) (CE.toB ce_int))) (CE.toB ce_int)) ca_nil)) (h1 := (len_cons (len_cons (fun _ _ _ _ h => len_nil h))))) (pg_name (i := 2) sc.nd rfl (Or.inl rfl)) (css_one (cs_for1 3 PassesOwn.never rfl (ci_rng1 rfl (W.free 94 rfl) (ca_cons (ce_call ((c_power_of W).mono (by decide)) hr rfl (ca_cons (ce_var 0 (pv 0)) (ca_cons (ce_var 2 (pv 2)) ca_nil))) ca_nil) (h1 := (len_cons (fun _ _ _ _ h => len_nil h)))) (pg_name (i := 3) sc.nd rfl (Or.inl rfl)) (css_cons (cs_asg 4 (ce_op op_add3 ov_add (CE.toB (ce_call ((c_base_digits W).mono (by decide)) hr rfl (ca_cons (ce_var 0 (pv 0)) (ca_cons (ce_var 2 (pv 2)) (ca_cons (ce_var 3 (pv 3)) ca_nil))))) (CE.toB (ce_tup (ca_cons ce_int ca_nil)))) sc.nd rfl (Or.inl rfl) rfl (Or.inl rfl))
    (css_one (cs_if (ct_not (ct_val (ce_any rfl rfl (W.free 86 rfl) (CE.toB (ce_call ((c_rest_by_monic W).mono (by decide)) hr rfl (ca_cons (ce_var 0 (pv 0)) (ca_cons (ce_var 1 (pv 1)) (ca_cons (ce_var 4 (pv 4)) ca_nil)))))))) (css_one (cs_ret ce_bl)) css_nil))))))
    (css_one (cs_ret ce_bl)))), W.glo 14 rfl, F.kp, F.bindsN fun _ _ _ _ _ _ us hl => match us, hl with | [_, _], _ => rfl, .nil, fun _ _ => rfl⟩
theorem sc_field_fault : FnScope ["prime", "modulus"] ["prime", "modulus"] (defScope s_field_fault) := ⟨rfl, rfl, rfl, by decide +kernel, rfl, by decide +kernel, by decide +kernel⟩
theorem c_field_fault {P : Program} {w : World} {K : PySem.W.Frag} {mg : Str → Option Value} {base : Heap} (W : Wl K mg) : Callee P w K mg base (He.ga K "Field") 3 "field_fault" 2 [] m_field_fault := by
  obtain ⟨fd, F⟩ := W.c.def_ 8 (d := dd_field_fault) rfl
  have sc := sc_field_fault
  exact ⟨_, fd, ["prime", "modulus"], [], [], fn_meaning F sc (fun cdv A outer s H E hr =>
    (css_cons (cs_if (ct_not (ct_val (ce_call ((c_is_whole W).mono (by decide)) hr rfl (ca_cons (ce_var 0 (pv 0)) (ca_cons ce_int (ca_cons ce_int ca_nil)))))) (css_one cs_never) css_nil)
    (css_cons (cs_if (CW.t (cw_or (ct_not (ct_val (ce_call ((c_is_sequence W).mono (by decide)) hr rfl (ca_cons (ce_var 1 (pv 1)) ca_nil)))) (cw_or1 (ct_not (ct_chain op_le op_le (pt_chain op_le op_le ce_int (ce_len rfl (W.free 91 rfl) (cb_var 1 (pv 1))) ce_int)))))) (css_one cs_never) css_nil)
    (css_cons (cs_if (CW.t (cw_or (ct_not (ct_val (ce_call ((c_is_digit_row W).mono (by decide)) hr rfl (ca_cons (ce_var 0 (pv 0)) (ca_cons (ce_len rfl (W.free 91 rfl) (cb_var 1 (pv 1))) (ca_cons (ce_var 1 (pv 1)) ca_nil)))))) (cw_or1 (ct_cmp (op_ne2 hr.units) ov_ne (CE.toB (ce_ix (cb_var 1 (pv 1)) (CE.toB (ce_neg ce_int)) (by intro _ _; rfl))) (CE.toB ce_int) (nomark _))))) (css_one cs_never) css_nil)
    (css_cons (cs_if (ct_cmp op_gt ov_gt (CE.toB (ce_call ((c_power_of W).mono (by decide)) hr rfl (ca_cons (ce_var 0 (pv 0)) (ca_cons (ce_op op_sub ov_sub (CE.toB (ce_len rfl (W.free 91 rfl) (cb_var 1 (pv 1)))) (CE.toB ce_int)) ca_nil)))) (CE.toB ce_int) (nomark _)) (css_one cs_never) css_nil)
    (css_cons (cs_if (ct_val (ce_call ((c_has_divisor W).mono (by decide)) hr rfl (ca_cons (ce_var 0 (pv 0)) (ca_cons (ce_var 1 (pv 1)) ca_nil)))) (css_one cs_never) css_nil)
    (css_one (cs_ret ce_non)))))))), W.glo 15 rfl, F.kp, F.bindsN fun _ _ _ _ _ _ us hl => match us, hl with | [_, _], _ => rfl, .nil, fun _ _ => rfl⟩
theorem sc_sums_of : FnScope ["prime", "digit_rows", "table", "one", "row", "other", "a", "b"] ["prime", "digit_rows"] (defScope s_sums_of) := ⟨rfl, rfl, rfl, by decide +kernel, rfl, by decide +kernel, by decide +kernel⟩
theorem c_sums_of {P : Program} {w : World} {K : PySem.W.Frag} {mg : Str → Option Value} {base : Heap} (W : Wl K mg) : Callee P w K mg base (He.ga K "Field") 2 "sums_of" 2 [] m_sums_of := by
  obtain ⟨fd, F⟩ := W.c.def_ 9 (d := dd_sums_of) rfl
  have sc := sc_sums_of
  exact ⟨_, fd, ["prime", "digit_rows"], [], [], fn_meaning F sc (fun cdv A outer s H E hr =>
    (css_cons (cs_own 2 (cl_lst ca_nil) sc.nd rfl (Or.inl rfl) rfl (Or.inl rfl))
    (css_cons (cs_for1 3 PassesOwn.never rfl (ci_seq (ce_var 1 (pv 1))) (pg_name (i := 3) sc.nd rfl (Or.inl rfl)) (css_cons (cs_own 4 (cl_lst ca_nil) sc.nd rfl (Or.inl rfl) rfl (Or.inl rfl))
    (css_cons (cs_for1 5 PassesOwn.never rfl (ci_seq (ce_var 1 (pv 1))) (pg_name (i := 5) sc.nd rfl (Or.inl rfl)) (css_one (cs_app 4 (pv 4) (ce_call ((c_digits_value W).mono (by decide)) hr rfl (ca_cons (ce_var 0 (pv 0)) (ca_cons (CL.toE (cl_lc2 6 7 (by decide) rfl sc.nd (blkOk_by (by kernel_rfl)) (ci_b (ci_zip rfl (W.free 98 rfl) (ce_var 3 (pv 3)) (ce_var 5 (pv 5)))) (fun _ _ _ _ _ => (pg_tup rfl (pgs_cons (pg_name (i := 6) sc.nd rfl (Or.inl rfl)) (pgs_cons (pg_name (i := 7) sc.nd rfl (Or.inl rfl)) pgs_nil)))) (fun _ _ _ _ _ => pts_yes) (fun _ _ _ _ _ => (ce_op op_mod ov_mod (CE.toB (ce_op op_add3 ov_add (cb_var 6 (pv 6)) (cb_var 7 (pv 7)))) (cb_var 0 (pv 0)))))) ca_nil))))))
    (css_one (cs_app 2 (pv 2) (ce_tuple rfl (W.free 97 rfl) (cb_var 4 (pv 4))))))))
    (css_one (cs_ret (ce_tuple rfl (W.free 97 rfl) (cb_var 2 (pv 2)))))))), W.glo 16 rfl, F.kp, F.bindsN fun _ _ _ _ _ _ us hl => match us, hl with | [_, _], _ => rfl, .nil, fun _ _ => rfl⟩
theorem sc_products_of : FnScope ["prime", "modulus", "digit_rows", "sum_rows", "degree", "table", "one", "shifted", "left", "turn", "row", "place", "step", "below"] ["prime", "modulus", "digit_rows", "sum_rows"] (defScope s_products_of) := ⟨rfl, rfl, rfl, by decide +kernel, rfl, by decide +kernel, by decide +kernel⟩
theorem c_products_of {P : Program} {w : World} {K : PySem.W.Frag} {mg : Str → Option Value} {base : Heap} (W : Wl K mg) : Callee P w K mg base (He.ga K "Field") 2 "products_of" 4 [] m_products_of := by
  obtain ⟨fd, F⟩ := W.c.def_ 10 (d := dd_products_of) rfl
  have sc := sc_products_of
  exact ⟨_, fd, ["prime", "modulus", "digit_rows", "sum_rows"], [], [], fn_meaning F sc (fun cdv A outer s H E hr =>
    (css_cons (cs_asg 4 (ce_op op_sub ov_sub (CE.toB (ce_len rfl (W.free 91 rfl) (cb_var 1 (pv 1)))) (CE.toB ce_int)) sc.nd rfl (Or.inl rfl) rfl (Or.inl rfl))
    (css_cons (cs_own 5 (cl_lst ca_nil) sc.nd rfl (Or.inl rfl) rfl (Or.inl rfl))
    (css_cons (cs_for1 6 PassesOwn.never rfl (ci_seq (ce_var 2 (pv 2))) (pg_name (i := 6) sc.nd rfl (Or.inl rfl)) (css_cons (cs_own 7 (cl_lst ca_nil) sc.nd rfl (Or.inl rfl) rfl (Or.inl rfl))
    (css_cons (cs_asg 8 (CL.toE (cl_list rfl (W.free 92 rfl) (cb_var 6 (pv 6)))) sc.nd rfl (Or.inl rfl) rfl (Or.inl rfl))
    (css_cons (cs_for1 9 PassesOwn.never rfl (ci_rng1 rfl (W.free 94 rfl) (ca_cons (ce_var 4 (pv 4)) ca_nil) (h1 := (len_cons (fun _ _ _ _ h => len_nil h)))) (pg_name (i := 9) sc.nd rfl (Or.inl rfl)) (css_cons (cs_app 7 (pv 7) (ce_call ((c_digits_value W).mono (by decide)) hr rfl (ca_cons (ce_var 0 (pv 0)) (ca_cons (ce_var 8 (pv 8)) ca_nil))))
    (css_one (cs_asg 8 (ce_call ((c_rest_by_monic W).mono (by decide)) hr rfl (ca_cons (ce_var 0 (pv 0)) (ca_cons (CL.toE (cl_op op_cat on_cat (CL.toB (cl_lst (ca_cons ce_int ca_nil))) (cb_var 8 (pv 8)))) (ca_cons (ce_var 1 (pv 1)) ca_nil)))) sc.nd rfl (Or.inl rfl) rfl (Or.inl rfl)))))
    (css_cons (cs_own 10 (cl_lst (ca_cons ce_int ca_nil)) sc.nd rfl (Or.inl rfl) rfl (Or.inl rfl))
    (css_cons (cs_for1 11 PassesOwn.never rfl (ci_rng1 rfl (W.free 94 rfl) (ca_cons (ce_var 4 (pv 4)) ca_nil) (h1 := (len_cons (fun _ _ _ _ h => len_nil h)))) (pg_name (i := 11) sc.nd rfl (Or.inl rfl)) (css_cons (cs_asg 12 (ce_ix (cb_var 7 (pv 7)) (cb_var 11 (pv 11)) (by intro _ _; rfl)) sc.nd rfl (Or.inl rfl) rfl (Or.inl rfl))
    (css_cons (cs_asg 13 (ce_len rfl (W.free 91 rfl) (cb_var 10 (pv 10))) sc.nd rfl (Or.inl rfl) rfl (Or.inl rfl))
    (css_one (cs_for1 9 PassesOwn.never rfl (ci_rng1 rfl (W.free 94 rfl) (ca_cons (ce_op op_mul2 ov_mul (CE.toB (ce_op op_sub ov_sub (cb_var 0 (pv 0)) (CE.toB ce_int))) (cb_var 13 (pv 13))) ca_nil) (h1 := (len_cons (fun _ _ _ _ h => len_nil h)))) (pg_name (i := 9) sc.nd rfl (Or.inl rfl)) (css_one (cs_app 10 (pv 10) (ce_ix (CE.toB (ce_ix (cb_var 3 (pv 3)) (CE.toB (ce_ix (cb_var 10 (pv 10)) (CE.toB (ce_op op_sub ov_sub (CE.toB (ce_len rfl (W.free 91 rfl) (cb_var 10 (pv 10)))) (cb_var 13 (pv 13)))) (by intro _ _; rfl))) (by intro _ _; rfl))) (cb_var 12 (pv 12)) (by intro _ _; rfl)))))))))
    (css_one (cs_app 5 (pv 5) (ce_tuple rfl (W.free 97 rfl) (cb_var 10 (pv 10)))))))))))
    (css_one (cs_ret (ce_tuple rfl (W.free 97 rfl) (cb_var 5 (pv 5))))))))), W.glo 17 rfl, F.kp, F.bindsN fun _ _ _ _ _ _ us hl => match us, hl with | [_, _, _, _], _ => rfl, .nil, fun _ _ => rfl⟩
theorem sc_check_thing : FnScope ["field", "thing", "index"] ["field", "thing", "index"] (defScope s_check_thing) := ⟨rfl, rfl, rfl, by decide +kernel, rfl, by decide +kernel, by decide +kernel⟩
theorem k_check_thing {P : Program} {w : World} {K : PySem.W.Frag} {mg : Str → Option Value} {base : Heap} (W : Wl K mg) : ∃ fd, FunD K dd_check_thing.name dd_check_thing.qual dd_check_thing.params dd_check_thing.body dd_check_thing.scope (dd_check_thing.dvs K) (dd_check_thing.kws K) (He.fAd K dd_check_thing.at_) fd ∧ FnOk P w K mg base CX0 2 (He.fAd K dd_check_thing.at_) fd ["field", "thing", "index"] (spOf K (He.ga K "Field") 3 m_check_thing) := by
  obtain ⟨fd, F⟩ := W.c.def_ 11 (d := dd_check_thing) rfl
  have sc := sc_check_thing
  exact ⟨fd, F, fn_meaning F sc (fun cdv A outer s H E hr =>
    (css_cons (cs_if (ct_not (ct_val (ce_call ((c_is_whole W).mono (by decide)) hr rfl (ca_cons (ce_var 1 (pv 1)) (ca_cons ce_int (ca_cons (ce_op op_sub ov_sub (CE.toB (ce_fld 3 rfl W.cls (W.noat 104 rfl) (ce_var 0 (pv 0)) rfl)) (CE.toB ce_int)) ca_nil)))))) (css_one cs_never) css_nil)
    (css_one (cs_ret (ce_var 1 (pv 1))))))⟩
theorem c_check_thing {P : Program} {w : World} {K : PySem.W.Frag} {mg : Str → Option Value} {base : Heap} (W : Wl K mg) : Callee P w K mg base (He.ga K "Field") 2 "check_thing" 3 [] m_check_thing := by
  obtain ⟨fd, F, ok⟩ := k_check_thing (P := P) (w := w) (base := base) W
  obtain ⟨ds, hv, hb⟩ := F.binds1 (ps := ["field", "thing", "index"]) 3 1 (List.cons_ne_nil _ _) rfl (fun T kV doc pm an cdv ct us its h1 h2 => match us, its, h1, h2 with | [_, _, _], [_], _, _ => ⟨_, rfl, rfl⟩)
  exact ⟨_, fd, ["field", "thing", "index"], [], ds, ok, W.glo 18 rfl, F.kp, hb, hv, fun _ _ => rfl⟩
theorem c_check_thing_d {P : Program} {w : World} {K : PySem.W.Frag} {mg : Str → Option Value} {base : Heap} (W : Wl K mg) : Callee P w K mg base (He.ga K "Field") 2 "check_thing" 3 [.int 0] m_check_thing := by
  obtain ⟨fd, F, ok⟩ := k_check_thing (P := P) (w := w) (base := base) W
  obtain ⟨ds, hv, hb⟩ := F.binds1 (ps := ["field", "thing", "index"]) 2 0 (List.cons_ne_nil _ _) rfl (fun T kV doc pm an cdv ct us its h1 h2 => match us, its, h1, h2 with | [_, _], [_], _, _ => ⟨_, rfl, rfl⟩)
  exact ⟨_, fd, ["field", "thing", "index"], [V.int 0], ds, ok, W.glo 18 rfl, F.kp, hb, hv, fun _ _ => ⟨_, _, rfl, rfl, rfl⟩⟩
theorem sc_check_things : FnScope ["field", "things", "most", "index", "thing"] ["field", "things", "most"] (defScope s_check_things) := ⟨rfl, rfl, rfl, by decide +kernel, rfl, by decide +kernel, by decide +kernel⟩
theorem c_check_things {P : Program} {w : World} {K : PySem.W.Frag} {mg : Str → Option Value} {base : Heap} (W : Wl K mg) : Callee P w K mg base (He.ga K "Field") 3 "check_things" 3 [] m_check_things := by
  obtain ⟨fd, F⟩ := W.c.def_ 12 (d := dd_check_things) rfl
  have sc := sc_check_things
  exact ⟨_, fd, ["field", "things", "most"], [], [], fn_meaning F sc (fun cdv A outer s H E hr =>
    (css_cons (cs_if (CW.t (cw_or (ct_not (ct_val (ce_call ((c_is_sequence W).mono (by decide)) hr rfl (ca_cons (ce_var 1 (pv 1)) ca_nil)))) (cw_or1 (ct_cmp op_gt ov_gt (CE.toB (ce_len rfl (W.free 91 rfl) (cb_var 1 (pv 1)))) (cb_var 2 (pv 2)) (nomark _))))) (css_one cs_never) css_nil)
    (css_cons (cs_for2 3 4 PassesOwn.never rfl (ci_enum rfl (W.free 88 rfl) (ce_var 1 (pv 1))) (pg_tup rfl (pgs_cons (pg_name (i := 3) sc.nd rfl (Or.inl rfl)) (pgs_cons (pg_name (i := 4) sc.nd rfl (Or.inl rfl)) pgs_nil))) (css_one (cs_drop (ce_call ((c_check_thing W).mono (by decide)) hr rfl (ca_cons (ce_var 0 (pv 0)) (ca_cons (ce_var 4 (pv 4)) (ca_cons (ce_var 3 (pv 3)) ca_nil)))))))
    (css_one (cs_ret (ce_tuple rfl (W.free 97 rfl) (cb_var 1 (pv 1)))))))), W.glo 19 rfl, F.kp, F.bindsN fun _ _ _ _ _ _ us hl => match us, hl with | [_, _, _], _ => rfl, .nil, fun _ _ => rfl⟩
theorem sc_F_raised : FnScope ["self", "thing", "total", "turn"] ["self", "thing"] (defScope s_F_raised) := ⟨rfl, rfl, rfl, by decide +kernel, rfl, by decide +kernel, by decide +kernel⟩
theorem c_F_raised {P : Program} {w : World} {K : PySem.W.Frag} {mg : Str → Option Value} {base : Heap} (W : Wl K mg) : MCallee P w K mg base (He.ga K "Field") 1 "raised" 2 m_F_raised := by
  obtain ⟨fd, F⟩ := W.c.def_ 14 (d := dd_F_raised) rfl
  have sc := sc_F_raised
  exact ⟨_, fd, ["self", "thing"], fn_meaning F sc (fun cdv A outer s H E hr =>
    (css_cons (cs_asg 2 (ce_var 1 (pv 1)) sc.nd rfl (Or.inl rfl) rfl (Or.inl rfl))
    (css_cons (cs_for1 3 PassesOwn.never rfl (ci_rng1 rfl (W.free 94 rfl) (ca_cons (ce_op op_sub ov_sub (CE.toB (ce_fld 0 rfl W.cls (W.noat 101 rfl) (ce_var 0 (pv 0)) rfl)) (CE.toB ce_int)) ca_nil) (h1 := (len_cons (fun _ _ _ _ h => len_nil h)))) (pg_name (i := 3) sc.nd rfl (Or.inl rfl)) (css_one (cs_asg 2 (ce_ix (CE.toB (ce_ix (CE.toB (ce_fld 6 rfl W.cls (W.noat 107 rfl) (ce_var 0 (pv 0)) rfl)) (cb_var 2 (pv 2)) (by intro _ _; rfl))) (cb_var 1 (pv 1)) (by intro _ _; rfl)) sc.nd rfl (Or.inl rfl) rfl (Or.inl rfl))))
    (css_one (cs_ret (ce_var 2 (pv 2))))))), W.meth 111 rfl, F.bindsN fun _ _ _ _ _ _ us hl => match us, hl with | [_, _], _ => rfl⟩
theorem sc_F_init : FnScope ["self", "prime", "modulus", "fault", "thing", "row"] ["self", "prime", "modulus"] (defScope s_F_init) := ⟨rfl, rfl, rfl, by decide +kernel, rfl, by decide +kernel, by decide +kernel⟩
theorem c_F_init {P : Program} {w : World} {K : PySem.W.Frag} {mg : Str → Option Value} {base : Heap} (W : Wl K mg) : Maker P w K mg base (He.ga K "Field") 4 "Field" 2 m_F_init := by
  obtain ⟨fd, F⟩ := W.c.def_ 13 (d := dd_F_init) rfl
  have sc := sc_F_init
  exact ⟨_, fd, ["self", "prime", "modulus"], init_meaning F sc (fun cdv A outer s H E hr =>
    (cn_cons (cn_asg 2 (ce_call ((c_field_fault W).mono (by decide)) hr rfl (ca_cons (ce_var 1 (pv 1)) (ca_cons (ce_var 2 (pv 2)) ca_nil))) sc.nd rfl (Or.inl rfl) rfl (Or.inl rfl))
    (cn_cons (cn_guard (ct_cmp op_isNot2 ov_isNot (cb_var 3 (pv 3)) (CE.toB ce_non) (nomark _)))
    (cn_cons (cn_fld 0 rfl W.cls (W.noat 101 rfl) (ce_var 1 (pv 1)) (pv 0) rfl)
    (cn_cons (cn_fld 1 rfl W.cls (W.noat 102 rfl) (ce_tuple rfl (W.free 97 rfl) (cb_var 2 (pv 2))) (pv 0) rfl)
    (cn_cons (cn_fld 2 rfl W.cls (W.noat 103 rfl) (ce_op op_sub ov_sub (CE.toB (ce_len rfl (W.free 91 rfl) (CE.toB (ce_fld 1 rfl W.cls (W.noat 102 rfl) (ce_var 0 (pv 0)) rfl)))) (CE.toB ce_int)) (pv 0) rfl)
    (cn_cons (cn_fld 3 rfl W.cls (W.noat 104 rfl) (ce_call ((c_power_of W).mono (by decide)) hr rfl (ca_cons (ce_var 1 (pv 1)) (ca_cons (ce_fld 2 rfl W.cls (W.noat 103 rfl) (ce_var 0 (pv 0)) rfl) ca_nil))) (pv 0) rfl)
    (cn_cons (cn_fld 4 rfl W.cls (W.noat 105 rfl) (ce_tuple rfl (W.free 97 rfl) (CL.toB (cl_lc1 4 rfl sc.nd (blkOk_by (by kernel_rfl)) (ci_b (ci_rng1 rfl (W.free 94 rfl) (ca_cons (ce_fld 3 rfl W.cls (W.noat 104 rfl) (ce_var 0 (pv 0)) rfl) ca_nil) (h1 := (len_cons (fun _ _ _ _ h => len_nil h))))) (fun _ _ _ _ _ => (pg_name (i := 4) sc.nd rfl (Or.inl rfl))) (fun _ _ _ _ _ => pts_yes) (fun _ _ _ _ _ => (ce_call ((c_base_digits W).mono (by decide)) hr rfl (ca_cons (ce_var 1 (pv 1)) (ca_cons (ce_fld 2 rfl W.cls (W.noat 103 rfl) (ce_var 0 (pv 0)) rfl) (ca_cons (ce_var 4 (pv 4)) ca_nil)))))))) (pv 0) rfl)
    (cn_cons (cn_fld 5 rfl W.cls (W.noat 106 rfl) (ce_call ((c_sums_of W).mono (by decide)) hr rfl (ca_cons (ce_var 1 (pv 1)) (ca_cons (ce_fld 4 rfl W.cls (W.noat 105 rfl) (ce_var 0 (pv 0)) rfl) ca_nil))) (pv 0) rfl)
    (cn_cons (cn_fld 6 rfl W.cls (W.noat 107 rfl) (ce_call ((c_products_of W).mono (by decide)) hr rfl (ca_cons (ce_var 1 (pv 1)) (ca_cons (ce_fld 1 rfl W.cls (W.noat 102 rfl) (ce_var 0 (pv 0)) rfl) (ca_cons (ce_fld 4 rfl W.cls (W.noat 105 rfl) (ce_var 0 (pv 0)) rfl) (ca_cons (ce_fld 5 rfl W.cls (W.noat 106 rfl) (ce_var 0 (pv 0)) rfl) ca_nil))))) (pv 0) rfl)
    (cn_cons (cn_fld 7 rfl W.cls (W.noat 108 rfl) (ce_tuple rfl (W.free 97 rfl) (CL.toB (cl_lc1 5 rfl sc.nd (blkOk_by (by kernel_rfl)) (cb_seq (CE.toB (ce_fld 5 rfl W.cls (W.noat 106 rfl) (ce_var 0 (pv 0)) rfl))) (fun _ _ _ _ _ => (pg_name (i := 5) sc.nd rfl (Or.inl rfl))) (fun _ _ _ _ _ => pts_yes) (fun _ _ _ _ _ => (ce_idxT (ce_var 5 (pv 5)) ce_int))))) (pv 0) rfl)
    (cn_cons (cn_fld 8 rfl W.cls (W.noat 109 rfl) (ce_op op_add3 ov_add (CE.toB (ce_tup (ca_cons ce_int ca_nil))) (CE.toB (ce_tuple rfl (W.free 97 rfl) (CL.toB (cl_lc1 5 rfl sc.nd (blkOk_by (by kernel_rfl)) (cb_seq (CE.toB (ce_sl (CE.toB (ce_fld 6 rfl W.cls (W.noat 107 rfl) (ce_var 0 (pv 0)) rfl)) (co_some ce_int) co_none))) (fun _ _ _ _ _ => (pg_name (i := 5) sc.nd rfl (Or.inl rfl))) (fun _ _ _ _ _ => pts_yes) (fun _ _ _ _ _ => (ce_idxT (ce_var 5 (pv 5)) ce_int))))))) (pv 0) rfl)
    (cn_one (cn_fld 9 rfl W.cls (W.noat 110 rfl) (ce_tuple rfl (W.free 97 rfl) (CL.toB (cl_lc1 4 rfl sc.nd (blkOk_by (by kernel_rfl)) (ci_b (ci_rng1 rfl (W.free 94 rfl) (ca_cons (ce_fld 3 rfl W.cls (W.noat 104 rfl) (ce_var 0 (pv 0)) rfl) ca_nil) (h1 := (len_cons (fun _ _ _ _ h => len_nil h))))) (fun _ _ _ _ _ => (pg_name (i := 4) sc.nd rfl (Or.inl rfl))) (fun _ _ _ _ _ => pts_yes) (fun _ _ _ _ _ => (ce_meth ((c_F_raised W).mono (by decide)) hr W.cls (by decide +kernel) (ce_var 0 (pv 0)) (ca_cons (ce_var 4 (pv 4)) ca_nil)))))) (pv 0) rfl)))))))))))))), W.glo 20 rfl, W.mkr, F.bindsN fun _ _ _ _ _ _ us hl => match us, hl with | [_, _, _], _ => rfl⟩
theorem sc_F_plus : FnScope ["self", "one", "other"] ["self", "one", "other"] (defScope s_F_plus) := ⟨rfl, rfl, rfl, by decide +kernel, rfl, by decide +kernel, by decide +kernel⟩
theorem c_F_plus {P : Program} {w : World} {K : PySem.W.Frag} {mg : Str → Option Value} {base : Heap} (W : Wl K mg) : MCallee P w K mg base (He.ga K "Field") 1 "plus" 3 m_F_plus := by
  obtain ⟨fd, F⟩ := W.c.def_ 15 (d := dd_F_plus) rfl
  have sc := sc_F_plus
  exact ⟨_, fd, ["self", "one", "other"], fn_meaning F sc (fun cdv A outer s H E hr =>
    (css_one (cs_ret (ce_ix (CE.toB (ce_ix (CE.toB (ce_fld 5 rfl W.cls (W.noat 106 rfl) (ce_var 0 (pv 0)) rfl)) (cb_var 1 (pv 1)) (by intro _ _; rfl))) (cb_var 2 (pv 2)) (by intro _ _; rfl))))), W.meth 112 rfl, F.bindsN fun _ _ _ _ _ _ us hl => match us, hl with | [_, _, _], _ => rfl⟩
theorem sc_F_negative : FnScope ["self", "one"] ["self", "one"] (defScope s_F_negative) := ⟨rfl, rfl, rfl, by decide +kernel, rfl, by decide +kernel, by decide +kernel⟩
theorem c_F_negative {P : Program} {w : World} {K : PySem.W.Frag} {mg : Str → Option Value} {base : Heap} (W : Wl K mg) : MCallee P w K mg base (He.ga K "Field") 1 "negative" 2 m_F_negative := by
  obtain ⟨fd, F⟩ := W.c.def_ 16 (d := dd_F_negative) rfl
  have sc := sc_F_negative
  exact ⟨_, fd, ["self", "one"], fn_meaning F sc (fun cdv A outer s H E hr =>
    (css_one (cs_ret (ce_ix (CE.toB (ce_fld 7 rfl W.cls (W.noat 108 rfl) (ce_var 0 (pv 0)) rfl)) (cb_var 1 (pv 1)) (by intro _ _; rfl))))), W.meth 113 rfl, F.bindsN fun _ _ _ _ _ _ us hl => match us, hl with | [_, _], _ => rfl⟩
theorem sc_F_times : FnScope ["self", "one", "other"] ["self", "one", "other"] (defScope s_F_times) := ⟨rfl, rfl, rfl, by decide +kernel, rfl, by decide +kernel, by decide +kernel⟩
theorem c_F_times {P : Program} {w : World} {K : PySem.W.Frag} {mg : Str → Option Value} {base : Heap} (W : Wl K mg) : MCallee P w K mg base (He.ga K "Field") 1 "times" 3 m_F_times := by
  obtain ⟨fd, F⟩ := W.c.def_ 17 (d := dd_F_times) rfl
  have sc := sc_F_times
  exact ⟨_, fd, ["self", "one", "other"], fn_meaning F sc (fun cdv A outer s H E hr =>
    (css_one (cs_ret (ce_ix (CE.toB (ce_ix (CE.toB (ce_fld 6 rfl W.cls (W.noat 107 rfl) (ce_var 0 (pv 0)) rfl)) (cb_var 1 (pv 1)) (by intro _ _; rfl))) (cb_var 2 (pv 2)) (by intro _ _; rfl))))), W.meth 114 rfl, F.bindsN fun _ _ _ _ _ _ us hl => match us, hl with | [_, _, _], _ => rfl⟩
theorem sc_F_inverse : FnScope ["self", "one"] ["self", "one"] (defScope s_F_inverse) := ⟨rfl, rfl, rfl, by decide +kernel, rfl, by decide +kernel, by decide +kernel⟩
theorem c_F_inverse {P : Program} {w : World} {K : PySem.W.Frag} {mg : Str → Option Value} {base : Heap} (W : Wl K mg) : MCallee P w K mg base (He.ga K "Field") 1 "inverse" 2 m_F_inverse := by
  obtain ⟨fd, F⟩ := W.c.def_ 18 (d := dd_F_inverse) rfl
  have sc := sc_F_inverse
  exact ⟨_, fd, ["self", "one"], fn_meaning F sc (fun cdv A outer s H E hr =>
    (css_cons (cs_if (ct_cmp (op_eq2 hr.units) ov_eq (cb_var 1 (pv 1)) (CE.toB ce_int) (nomark _)) (css_one cs_never) css_nil)
    (css_one (cs_ret (ce_ix (CE.toB (ce_fld 8 rfl W.cls (W.noat 109 rfl) (ce_var 0 (pv 0)) rfl)) (cb_var 1 (pv 1)) (by intro _ _; rfl)))))), W.meth 115 rfl, F.bindsN fun _ _ _ _ _ _ us hl => match us, hl with | [_, _], _ => rfl⟩
theorem sc_F_over : FnScope ["self", "one", "other"] ["self", "one", "other"] (defScope s_F_over) := ⟨rfl, rfl, rfl, by decide +kernel, rfl, by decide +kernel, by decide +kernel⟩
theorem c_F_over {P : Program} {w : World} {K : PySem.W.Frag} {mg : Str → Option Value} {base : Heap} (W : Wl K mg) : MCallee P w K mg base (He.ga K "Field") 2 "over" 3 m_F_over := by
  obtain ⟨fd, F⟩ := W.c.def_ 19 (d := dd_F_over) rfl
  have sc := sc_F_over
  exact ⟨_, fd, ["self", "one", "other"], fn_meaning F sc (fun cdv A outer s H E hr =>
    (css_one (cs_ret (ce_ix (CE.toB (ce_ix (CE.toB (ce_fld 6 rfl W.cls (W.noat 107 rfl) (ce_var 0 (pv 0)) rfl)) (cb_var 1 (pv 1)) (by intro _ _; rfl))) (CE.toB (ce_meth ((c_F_inverse W).mono (by decide)) hr W.cls (by decide +kernel) (ce_var 0 (pv 0)) (ca_cons (ce_var 2 (pv 2)) ca_nil))) (by intro _ _; rfl))))), W.meth 116 rfl, F.bindsN fun _ _ _ _ _ _ us hl => match us, hl with | [_, _, _], _ => rfl⟩
theorem sc_F_stepped : FnScope ["self", "thing", "times", "result", "turn"] ["self", "thing", "times"] (defScope s_F_stepped) := ⟨rfl, rfl, rfl, by decide +kernel, rfl, by decide +kernel, by decide +kernel⟩
theorem c_F_stepped {P : Program} {w : World} {K : PySem.W.Frag} {mg : Str → Option Value} {base : Heap} (W : Wl K mg) : MCallee P w K mg base (He.ga K "Field") 1 "stepped" 3 m_F_stepped := by
  obtain ⟨fd, F⟩ := W.c.def_ 20 (d := dd_F_stepped) rfl
  have sc := sc_F_stepped
  exact ⟨_, fd, ["self", "thing", "times"], fn_meaning F sc (fun cdv A outer s H E hr =>
    (css_cons (cs_asg 3 (ce_var 1 (pv 1)) sc.nd rfl (Or.inl rfl) rfl (Or.inl rfl))
    (css_cons (cs_for1 4 PassesOwn.never rfl (ci_rng1 rfl (W.free 94 rfl) (ca_cons (ce_op op_mod ov_mod (cb_var 2 (pv 2)) (CE.toB (ce_fld 2 rfl W.cls (W.noat 103 rfl) (ce_var 0 (pv 0)) rfl))) ca_nil) (h1 := (len_cons (fun _ _ _ _ h => len_nil h)))) (pg_name (i := 4) sc.nd rfl (Or.inl rfl)) (css_one (cs_asg 3 (ce_ix (CE.toB (ce_fld 9 rfl W.cls (W.noat 110 rfl) (ce_var 0 (pv 0)) rfl)) (cb_var 3 (pv 3)) (by intro _ _; rfl)) sc.nd rfl (Or.inl rfl) rfl (Or.inl rfl))))
    (css_one (cs_ret (ce_var 3 (pv 3))))))), W.meth 117 rfl, F.bindsN fun _ _ _ _ _ _ us hl => match us, hl with | [_, _, _], _ => rfl⟩
theorem sc_F_multiple : FnScope ["self", "number", "thing", "total", "turn"] ["self", "number", "thing"] (defScope s_F_multiple) := ⟨rfl, rfl, rfl, by decide +kernel, rfl, by decide +kernel, by decide +kernel⟩
theorem c_F_multiple {P : Program} {w : World} {K : PySem.W.Frag} {mg : Str → Option Value} {base : Heap} (W : Wl K mg) : MCallee P w K mg base (He.ga K "Field") 1 "multiple" 3 m_F_multiple := by
  obtain ⟨fd, F⟩ := W.c.def_ 21 (d := dd_F_multiple) rfl
  have sc := sc_F_multiple
  exact ⟨_, fd, ["self", "number", "thing"], fn_meaning F sc (fun cdv A outer s H E hr =>
    (css_cons (cs_asg 3 ce_int sc.nd rfl (Or.inl rfl) rfl (Or.inl rfl))
    (css_cons (cs_for1 4 PassesOwn.never rfl (ci_rng1 rfl (W.free 94 rfl) (ca_cons (ce_op op_mod ov_mod (cb_var 1 (pv 1)) (CE.toB (ce_fld 0 rfl W.cls (W.noat 101 rfl) (ce_var 0 (pv 0)) rfl))) ca_nil) (h1 := (len_cons (fun _ _ _ _ h => len_nil h)))) (pg_name (i := 4) sc.nd rfl (Or.inl rfl)) (css_one (cs_asg 3 (ce_ix (CE.toB (ce_ix (CE.toB (ce_fld 5 rfl W.cls (W.noat 106 rfl) (ce_var 0 (pv 0)) rfl)) (cb_var 3 (pv 3)) (by intro _ _; rfl))) (cb_var 2 (pv 2)) (by intro _ _; rfl)) sc.nd rfl (Or.inl rfl) rfl (Or.inl rfl))))
    (css_one (cs_ret (ce_var 3 (pv 3))))))), W.meth 118 rfl, F.bindsN fun _ _ _ _ _ _ us hl => match us, hl with | [_, _, _], _ => rfl⟩
theorem sc_F_digits_of : FnScope ["self", "thing"] ["self", "thing"] (defScope s_F_digits_of) := ⟨rfl, rfl, rfl, by decide +kernel, rfl, by decide +kernel, by decide +kernel⟩
theorem c_F_digits_of {P : Program} {w : World} {K : PySem.W.Frag} {mg : Str → Option Value} {base : Heap} (W : Wl K mg) : MCallee P w K mg base (He.ga K "Field") 1 "digits_of" 2 m_F_digits_of := by
  obtain ⟨fd, F⟩ := W.c.def_ 22 (d := dd_F_digits_of) rfl
  have sc := sc_F_digits_of
  exact ⟨_, fd, ["self", "thing"], fn_meaning F sc (fun cdv A outer s H E hr =>
    (css_one (cs_ret (ce_ix (CE.toB (ce_fld 4 rfl W.cls (W.noat 105 rfl) (ce_var 0 (pv 0)) rfl)) (cb_var 1 (pv 1)) (by intro _ _; rfl))))), W.meth 119 rfl, F.bindsN fun _ _ _ _ _ _ us hl => match us, hl with | [_, _], _ => rfl⟩
theorem sc_F_thing_of : FnScope ["self", "digits"] ["self", "digits"] (defScope s_F_thing_of) := ⟨rfl, rfl, rfl, by decide +kernel, rfl, by decide +kernel, by decide +kernel⟩
theorem c_F_thing_of {P : Program} {w : World} {K : PySem.W.Frag} {mg : Str → Option Value} {base : Heap} (W : Wl K mg) : MCallee P w K mg base (He.ga K "Field") 2 "thing_of" 2 m_F_thing_of := by
  obtain ⟨fd, F⟩ := W.c.def_ 23 (d := dd_F_thing_of) rfl
  have sc := sc_F_thing_of
  exact ⟨_, fd, ["self", "digits"], fn_meaning F sc (fun cdv A outer s H E hr =>
    (css_one (cs_ret (ce_call ((c_digits_value W).mono (by decide)) hr rfl (ca_cons (ce_fld 0 rfl W.cls (W.noat 101 rfl) (ce_var 0 (pv 0)) rfl) (ca_cons (ce_var 1 (pv 1)) ca_nil)))))), W.meth 120 rfl, F.bindsN fun _ _ _ _ _ _ us hl => match us, hl with | [_, _], _ => rfl⟩
theorem sc_checked_rows : FnScope ["prime", "width", "rows", "index", "row"] ["prime", "width", "rows"] (defScope s_checked_rows) := ⟨rfl, rfl, rfl, by decide +kernel, rfl, by decide +kernel, by decide +kernel⟩
theorem c_checked_rows {P : Program} {w : World} {K : PySem.W.Frag} {mg : Str → Option Value} {base : Heap} (W : Wl K mg) : Callee P w K mg base (He.ga K "Field") 3 "checked_rows" 3 [] m_checked_rows := by
  obtain ⟨fd, F⟩ := W.c.def_ 24 (d := dd_checked_rows) rfl
  have sc := sc_checked_rows
  exact ⟨_, fd, ["prime", "width", "rows"], [], [], fn_meaning F sc (fun cdv A outer s H E hr =>
    (css_cons (cs_if (ct_not (ct_val (ce_call ((c_is_sequence W).mono (by decide)) hr rfl (ca_cons (ce_var 2 (pv 2)) ca_nil)))) (css_one cs_never) css_nil)
    (css_cons (cs_for2 3 4 PassesOwn.never rfl (ci_enum rfl (W.free 88 rfl) (ce_var 2 (pv 2))) (pg_tup rfl (pgs_cons (pg_name (i := 3) sc.nd rfl (Or.inl rfl)) (pgs_cons (pg_name (i := 4) sc.nd rfl (Or.inl rfl)) pgs_nil))) (css_one (cs_if (ct_not (ct_val (ce_call ((c_is_digit_row W).mono (by decide)) hr rfl (ca_cons (ce_var 0 (pv 0)) (ca_cons (ce_var 1 (pv 1)) (ca_cons (ce_var 4 (pv 4)) ca_nil)))))) (css_one cs_never) css_nil)))
    (css_one (cs_ret (CL.toE (cl_lc1 4 rfl sc.nd (blkOk_by (by kernel_rfl)) (cb_seq (cb_var 2 (pv 2))) (fun _ _ _ _ _ => (pg_name (i := 4) sc.nd rfl (Or.inl rfl))) (fun _ _ _ _ _ => pts_yes) (fun _ _ _ _ _ => (ce_tuple rfl (W.free 97 rfl) (cb_var 4 (pv 4))))))))))), W.glo 21 rfl, F.kp, F.bindsN fun _ _ _ _ _ _ us hl => match us, hl with | [_, _, _], _ => rfl, .nil, fun _ _ => rfl⟩
theorem sc_less_multiple : FnScope ["prime", "row", "times", "other", "a", "b"] ["prime", "row", "times", "other"] (defScope s_less_multiple) := ⟨rfl, rfl, rfl, by decide +kernel, rfl, by decide +kernel, by decide +kernel⟩
theorem c_less_multiple {P : Program} {w : World} {K : PySem.W.Frag} {mg : Str → Option Value} {base : Heap} (W : Wl K mg) : Callee P w K mg base (He.ga K "Field") 1 "less_multiple" 4 [] m_less_multiple := by
  obtain ⟨fd, F⟩ := W.c.def_ 25 (d := dd_less_multiple) rfl
  have sc := sc_less_multiple
  exact ⟨_, fd, ["prime", "row", "times", "other"], [], [], fn_meaning F sc (fun cdv A outer s H E hr =>
    (css_one (cs_ret (CL.toE (cl_lc2 4 5 (by decide) rfl sc.nd (blkOk_by (by kernel_rfl)) (ci_b (ci_zip rfl (W.free 98 rfl) (ce_var 1 (pv 1)) (ce_var 3 (pv 3)))) (fun _ _ _ _ _ => (pg_tup rfl (pgs_cons (pg_name (i := 4) sc.nd rfl (Or.inl rfl)) (pgs_cons (pg_name (i := 5) sc.nd rfl (Or.inl rfl)) pgs_nil)))) (fun _ _ _ _ _ => pts_yes) (fun _ _ _ _ _ => (ce_op op_mod ov_mod (CE.toB (ce_op op_sub ov_sub (cb_var 4 (pv 4)) (CE.toB (ce_op op_mul2 ov_mul (cb_var 2 (pv 2)) (cb_var 5 (pv 5)))))) (cb_var 0 (pv 0))))))))), W.glo 22 rfl, F.kp, F.bindsN fun _ _ _ _ _ _ us hl => match us, hl with | [_, _, _, _], _ => rfl, .nil, fun _ _ => rfl⟩
theorem sc_reduced_rows : FnScope ["prime", "width", "rows", "left", "row", "done", "place", "spot", "at", "lead", "digit"] ["prime", "width", "rows"] (defScope s_reduced_rows) := ⟨rfl, rfl, rfl, by decide +kernel, rfl, by decide +kernel, by decide +kernel⟩
theorem c_reduced_rows {P : Program} {w : World} {K : PySem.W.Frag} {mg : Str → Option Value} {base : Heap} (W : Wl K mg) : Callee P w K mg base (He.ga K "Field") 2 "reduced_rows" 3 [] m_reduced_rows := by
  obtain ⟨fd, F⟩ := W.c.def_ 26 (d := dd_reduced_rows) rfl
  have sc := sc_reduced_rows
  exact ⟨_, fd, ["prime", "width", "rows"], [], [], fn_meaning F sc (fun cdv A outer s H E hr =>
    (css_cons (cs_ownLc1 3 4 rfl sc.nd rfl rfl (sw_true rfl rfl rfl (by decide +kernel)) (blkOk_by (by kernel_rfl)) (cb_seq (cb_var 2 (pv 2))) (fun _ _ _ _ _ => (pg_name (i := 4) sc.nd rfl (Or.inl rfl))) (fun _ _ _ _ _ => pts_yes) (fun _ _ _ _ _ => (CL.toE (cl_list rfl (W.free 92 rfl) (cb_var 4 (pv 4))))))
    (css_cons (cs_own 5 (cl_lst ca_nil) sc.nd rfl (Or.inl rfl) rfl (Or.inl rfl))
    (css_cons (cs_for1 6 PassesOwn.never rfl (ci_rng1 rfl (W.free 94 rfl) (ca_cons (ce_var 1 (pv 1)) ca_nil) (h1 := (len_cons (fun _ _ _ _ h => len_nil h)))) (pg_name (i := 6) sc.nd rfl (Or.inr rfl)) (css_cons (cs_asg 7 (ce_neg ce_int) sc.nd rfl (Or.inl rfl) rfl (Or.inl rfl))
    (css_cons (cs_find 8 4 7 PassesOwn.never rfl (cb_enum rfl (W.free 88 rfl) (cb_var 3 (pv 3))) (pg_tup rfl (pgs_cons (pg_name (i := 8) sc.nd rfl (Or.inl rfl)) (pgs_cons (pg_name (i := 4) sc.nd rfl (Or.inl rfl)) pgs_nil))) (ct_cmp (op_ne2 hr.units) ov_ne (CE.toB (ce_ix (cb_var 4 (pv 4)) (cb_var 6 (pv 6)) (by intro _ _; rfl))) (CE.toB ce_int) (nomark _)) (pv 8) sc.nd rfl (Or.inl rfl) rfl (Or.inl rfl))
    (css_cons (cs_if (ct_cmp op_lt ov_lt (cb_var 7 (pv 7)) (CE.toB ce_int) (nomark _)) (css_one cs_cont) css_nil)
    (css_cons (cs_pop 9 3 (pv 3) (ce_var 7 (pv 7)) sc.nd rfl (Or.inr rfl) rfl (Or.inl rfl))
    (css_cons (cs_asg 9 (CL.toE (cl_lc1 10 rfl sc.nd (blkOk_by (by kernel_rfl)) (cb_seq (cb_var 9 (pv 9))) (fun _ _ _ _ _ => (pg_name (i := 10) sc.nd rfl (Or.inl rfl))) (fun _ _ _ _ _ => pts_yes) (fun _ _ _ _ _ => (ce_op op_mod ov_mod (CE.toB (ce_op op_mul2 ov_mul (CE.toB (ce_ix (cb_var 9 (pv 9)) (cb_var 6 (pv 6)) (by intro _ _; rfl))) (cb_var 10 (pv 10)))) (cb_var 0 (pv 0)))))) sc.nd rfl (Or.inr rfl) rfl (Or.inl rfl))
    (css_cons (cs_ownLc1 3 4 rfl sc.nd rfl rfl (sw_true rfl rfl rfl (by decide +kernel)) (blkOk_by (by kernel_rfl)) (cb_seq (cb_var 3 (pv 3))) (fun _ _ _ _ _ => (pg_name (i := 4) sc.nd rfl (Or.inl rfl))) (fun _ _ _ _ _ => pts_yes) (fun _ _ _ _ _ => (ce_call ((c_less_multiple W).mono (by decide)) hr rfl (ca_cons (ce_var 0 (pv 0)) (ca_cons (ce_var 4 (pv 4)) (ca_cons (ce_ix (cb_var 4 (pv 4)) (cb_var 6 (pv 6)) (by intro _ _; rfl)) (ca_cons (ce_var 9 (pv 9)) ca_nil)))))))
    (css_cons (cs_ownLc1 5 4 rfl sc.nd rfl rfl (sw_true rfl rfl rfl (by decide +kernel)) (blkOk_by (by kernel_rfl)) (cb_seq (cb_var 5 (pv 5))) (fun _ _ _ _ _ => (pg_name (i := 4) sc.nd rfl (Or.inl rfl))) (fun _ _ _ _ _ => pts_yes) (fun _ _ _ _ _ => (ce_call ((c_less_multiple W).mono (by decide)) hr rfl (ca_cons (ce_var 0 (pv 0)) (ca_cons (ce_var 4 (pv 4)) (ca_cons (ce_ix (cb_var 4 (pv 4)) (cb_var 6 (pv 6)) (by intro _ _; rfl)) (ca_cons (ce_var 9 (pv 9)) ca_nil)))))))
    (css_one (cs_app 5 (pv 5) (ce_var 9 (pv 9))))))))))))
    (css_one (cs_ret (ce_tuple rfl (W.free 97 rfl) (CL.toB (cl_lc1 4 rfl sc.nd (blkOk_by (by kernel_rfl)) (cb_seq (cb_var 5 (pv 5))) (fun _ _ _ _ _ => (pg_name (i := 4) sc.nd rfl (Or.inl rfl))) (fun _ _ _ _ _ => pts_yes) (fun _ _ _ _ _ => (ce_tuple rfl (W.free 97 rfl) (cb_var 4 (pv 4))))))))))))), W.glo 23 rfl, F.kp, F.bindsN fun _ _ _ _ _ _ us hl => match us, hl with | [_, _, _], _ => rfl, .nil, fun _ _ => rfl⟩
theorem sc_lead_of : FnScope ["row", "place", "digit"] ["row"] (defScope s_lead_of) := ⟨rfl, rfl, rfl, by decide +kernel, rfl, by decide +kernel, by decide +kernel⟩
theorem c_lead_of {P : Program} {w : World} {K : PySem.W.Frag} {mg : Str → Option Value} {base : Heap} (W : Wl K mg) : Callee P w K mg base (He.ga K "Field") 1 "lead_of" 1 [] m_lead_of := by
  obtain ⟨fd, F⟩ := W.c.def_ 27 (d := dd_lead_of) rfl
  have sc := sc_lead_of
  exact ⟨_, fd, ["row"], [], [], fn_meaning F sc (fun cdv A outer s H E hr =>
    (css_cons (cs_for2 1 2 PassesOwn.never rfl (ci_enum rfl (W.free 88 rfl) (ce_var 0 (pv 0))) (pg_tup rfl (pgs_cons (pg_name (i := 1) sc.nd rfl (Or.inl rfl)) (pgs_cons (pg_name (i := 2) sc.nd rfl (Or.inl rfl)) pgs_nil))) (css_one (cs_if (ct_cmp (op_ne2 hr.units) ov_ne (cb_var 2 (pv 2)) (CE.toB ce_int) (nomark _)) (css_one (cs_ret (ce_var 1 (pv 1)))) css_nil)))
    (css_one (cs_ret (ce_len rfl (W.free 91 rfl) (cb_var 0 (pv 0))))))), W.glo 24 rfl, F.kp, F.bindsN fun _ _ _ _ _ _ us hl => match us, hl with | [_], _ => rfl, .nil, fun _ _ => rfl⟩
theorem sc_echelon : FnScope ["prime", "width", "rows"] ["prime", "width", "rows"] (defScope s_echelon) := ⟨rfl, rfl, rfl, by decide +kernel, rfl, by decide +kernel, by decide +kernel⟩
theorem c_echelon {P : Program} {w : World} {K : PySem.W.Frag} {mg : Str → Option Value} {base : Heap} (W : Wl K mg) : Callee P w K mg base (He.ga K "Field") 4 "echelon" 3 [] m_echelon := by
  obtain ⟨fd, F⟩ := W.c.def_ 28 (d := dd_echelon) rfl
  have sc := sc_echelon
  exact ⟨_, fd, ["prime", "width", "rows"], [], [], fn_meaning F sc (fun cdv A outer s H E hr =>
    (css_one (cs_ret (ce_call ((c_reduced_rows W).mono (by decide)) hr rfl (ca_cons (ce_var 0 (pv 0)) (ca_cons (ce_var 1 (pv 1)) (ca_cons (ce_call ((c_checked_rows W).mono (by decide)) hr rfl (ca_cons (ce_var 0 (pv 0)) (ca_cons (ce_var 1 (pv 1)) (ca_cons (ce_var 2 (pv 2)) ca_nil)))) ca_nil))))))), W.glo 25 rfl, F.kp, F.bindsN fun _ _ _ _ _ _ us hl => match us, hl with | [_, _, _], _ => rfl, .nil, fun _ _ => rfl⟩
theorem sc_contrary : FnScope ["prime", "width", "rows", "basis", "leads", "row", "found", "place", "lead", "base"] ["prime", "width", "rows"] (defScope s_contrary) := ⟨rfl, rfl, rfl, by decide +kernel, rfl, by decide +kernel, by decide +kernel⟩
theorem c_contrary {P : Program} {w : World} {K : PySem.W.Frag} {mg : Str → Option Value} {base : Heap} (W : Wl K mg) : Callee P w K mg base (He.ga K "Field") 5 "contrary" 3 [] m_contrary := by
  obtain ⟨fd, F⟩ := W.c.def_ 29 (d := dd_contrary) rfl
  have sc := sc_contrary
  exact ⟨_, fd, ["prime", "width", "rows"], [], [], fn_meaning F sc (fun cdv A outer s H E hr =>
    (css_cons (cs_asg 3 (ce_call ((c_echelon W).mono (by decide)) hr rfl (ca_cons (ce_var 0 (pv 0)) (ca_cons (ce_var 1 (pv 1)) (ca_cons (ce_var 2 (pv 2)) ca_nil)))) sc.nd rfl (Or.inl rfl) rfl (Or.inl rfl))
    (css_cons (cs_freeze 5 (cs_asgLc1 4 5 rfl sc.nd rfl rfl (sw_true rfl rfl rfl (by decide +kernel)) (blkOk_by (by kernel_rfl)) (cb_seq (cb_var 3 (pv 3))) (fun _ _ _ _ _ => (pg_name (i := 5) sc.nd rfl (Or.inl rfl))) (fun _ _ _ _ _ => pts_yes) (fun _ _ _ _ _ => (ce_call ((c_lead_of W).mono (by decide)) hr rfl (ca_cons (ce_var 5 (pv 5)) ca_nil)))))
    (css_cons (cs_own 6 (cl_lst ca_nil) sc.nd rfl (Or.inl rfl) rfl (Or.inl rfl))
    (css_cons (cs_for1 7 PassesOwn.never rfl (ci_rng1 rfl (W.free 94 rfl) (ca_cons (ce_var 1 (pv 1)) ca_nil) (h1 := (len_cons (fun _ _ _ _ h => len_nil h)))) (pg_name (i := 7) sc.nd rfl (Or.inl rfl)) (css_cons (cs_if (ct_cmp op_in_seq (ov_in false) (cb_var 7 (pv 7)) (cb_var 4 (pv 4)) rfl) (css_one cs_cont) css_nil)
    (css_cons (cs_own 5 (cl_op op_rep on_rep (CL.toB (cl_lst (ca_cons ce_int ca_nil))) (cb_var 1 (pv 1))) sc.nd rfl (Or.inl rfl) rfl (Or.inl rfl))
    (css_cons (cs_sto 5 (pv 5) (ce_var 7 (pv 7)) ce_int)
    (css_cons (cs_for2 8 9 PassesOwn.never rfl (ci_zip rfl (W.free 98 rfl) (ce_var 4 (pv 4)) (ce_var 3 (pv 3))) (pg_tup rfl (pgs_cons (pg_name (i := 8) sc.nd rfl (Or.inl rfl)) (pgs_cons (pg_name (i := 9) sc.nd rfl (Or.inl rfl)) pgs_nil))) (css_one (cs_sto 5 (pv 5) (ce_var 8 (pv 8)) (ce_op op_mod ov_mod (CE.toB (ce_neg (ce_ix (cb_var 9 (pv 9)) (cb_var 7 (pv 7)) (by intro _ _; rfl)))) (cb_var 0 (pv 0))))))
    (css_one (cs_freeze 5 (cs_app 6 (pv 6) (ce_var 5 (pv 5))))))))))
    (css_one (cs_freeze 6 (cs_ret (ce_call ((c_reduced_rows W).mono (by decide)) hr rfl (ca_cons (ce_var 0 (pv 0)) (ca_cons (ce_var 1 (pv 1)) (ca_cons (ce_var 6 (pv 6)) ca_nil)))))))))))), W.glo 26 rfl, F.kp, F.bindsN fun _ _ _ _ _ _ us hl => match us, hl with | [_, _, _], _ => rfl, .nil, fun _ _ => rfl⟩
theorem sc_meet_spaces : FnScope ["prime", "width", "one", "other", "first", "second"] ["prime", "width", "one", "other"] (defScope s_meet_spaces) := ⟨rfl, rfl, rfl, by decide +kernel, rfl, by decide +kernel, by decide +kernel⟩
theorem c_meet_spaces {P : Program} {w : World} {K : PySem.W.Frag} {mg : Str → Option Value} {base : Heap} (W : Wl K mg) : Callee P w K mg base (He.ga K "Field") 6 "meet_spaces" 4 [] m_meet_spaces := by
  obtain ⟨fd, F⟩ := W.c.def_ 30 (d := dd_meet_spaces) rfl
  have sc := sc_meet_spaces
  exact ⟨_, fd, ["prime", "width", "one", "other"], [], [], fn_meaning F sc (fun cdv A outer s H E hr =>
    (css_cons (cs_asg 4 (ce_call ((c_contrary W).mono (by decide)) hr rfl (ca_cons (ce_var 0 (pv 0)) (ca_cons (ce_var 1 (pv 1)) (ca_cons (ce_var 2 (pv 2)) ca_nil)))) sc.nd rfl (Or.inl rfl) rfl (Or.inl rfl))
    (css_cons (cs_asg 5 (ce_call ((c_contrary W).mono (by decide)) hr rfl (ca_cons (ce_var 0 (pv 0)) (ca_cons (ce_var 1 (pv 1)) (ca_cons (ce_var 3 (pv 3)) ca_nil)))) sc.nd rfl (Or.inl rfl) rfl (Or.inl rfl))
    (css_one (cs_ret (ce_call ((c_contrary W).mono (by decide)) hr rfl (ca_cons (ce_var 0 (pv 0)) (ca_cons (ce_var 1 (pv 1)) (ca_cons (ce_op op_add3 ov_add (cb_var 4 (pv 4)) (cb_var 5 (pv 5))) ca_nil))))))))), W.glo 27 rfl, F.kp, F.bindsN fun _ _ _ _ _ _ us hl => match us, hl with | [_, _, _, _], _ => rfl, .nil, fun _ _ => rfl⟩
theorem sc_things_space : FnScope ["field", "things", "kept", "rows", "thing", "row"] ["field", "things"] (defScope s_things_space) := ⟨rfl, rfl, rfl, by decide +kernel, rfl, by decide +kernel, by decide +kernel⟩
theorem c_things_space {P : Program} {w : World} {K : PySem.W.Frag} {mg : Str → Option Value} {base : Heap} (W : Wl K mg) : Callee P w K mg base (He.ga K "Field") 4 "things_space" 2 [] m_things_space := by
  obtain ⟨fd, F⟩ := W.c.def_ 31 (d := dd_things_space) rfl
  have sc := sc_things_space
  exact ⟨_, fd, ["field", "things"], [], [], fn_meaning F sc (fun cdv A outer s H E hr =>
    (css_cons (cs_asg 2 (ce_call ((c_check_things W).mono (by decide)) hr rfl (ca_cons (ce_var 0 (pv 0)) (ca_cons (ce_var 1 (pv 1)) (ca_cons ce_int ca_nil)))) sc.nd rfl (Or.inl rfl) rfl (Or.inl rfl))
    (css_cons (cs_asgLc1 3 4 rfl sc.nd rfl rfl (sw_true rfl rfl rfl (by decide +kernel)) (blkOk_by (by kernel_rfl)) (cb_seq (cb_var 2 (pv 2))) (fun _ _ _ _ _ => (pg_name (i := 4) sc.nd rfl (Or.inl rfl))) (fun _ _ _ _ _ => pts_yes) (fun _ _ _ _ _ => (ce_meth ((c_F_digits_of W).mono (by decide)) hr W.cls (by decide +kernel) (ce_var 0 (pv 0)) (ca_cons (ce_var 4 (pv 4)) ca_nil))))
    (css_one (cs_ret (ce_tuple rfl (W.free 97 rfl) (CL.toB (cl_lc1 5 rfl sc.nd (blkOk_by (by kernel_rfl)) (cb_seq (CE.toB (ce_call ((c_reduced_rows W).mono (by decide)) hr rfl (ca_cons (ce_fld 0 rfl W.cls (W.noat 101 rfl) (ce_var 0 (pv 0)) rfl) (ca_cons (ce_fld 2 rfl W.cls (W.noat 103 rfl) (ce_var 0 (pv 0)) rfl) (ca_cons (ce_var 3 (pv 3)) ca_nil)))))) (fun _ _ _ _ _ => (pg_name (i := 5) sc.nd rfl (Or.inl rfl))) (fun _ _ _ _ _ => pts_yes) (fun _ _ _ _ _ => (ce_meth ((c_F_thing_of W).mono (by decide)) hr W.cls (by decide +kernel) (ce_var 0 (pv 0)) (ca_cons (ce_var 5 (pv 5)) ca_nil))))))))))), W.glo 28 rfl, F.kp, F.bindsN fun _ _ _ _ _ _ us hl => match us, hl with | [_, _], _ => rfl, .nil, fun _ _ => rfl⟩
theorem sc_space_things : FnScope ["field", "things", "found", "base", "grown", "thing", "number"] ["field", "things"] (defScope s_space_things) := ⟨rfl, rfl, rfl, by decide +kernel, rfl, by decide +kernel, by decide +kernel⟩
theorem c_space_things {P : Program} {w : World} {K : PySem.W.Frag} {mg : Str → Option Value} {base : Heap} (W : Wl K mg) : Callee P w K mg base (He.ga K "Field") 5 "space_things" 2 [] m_space_things := by
  obtain ⟨fd, F⟩ := W.c.def_ 32 (d := dd_space_things) rfl
  have sc := sc_space_things
  exact ⟨_, fd, ["field", "things"], [], [], fn_meaning F sc (fun cdv A outer s H E hr =>
    (css_cons (cs_asg 2 (CL.toE (cl_lst (ca_cons ce_int ca_nil))) sc.nd rfl (Or.inl rfl) rfl (Or.inl rfl))
    (css_cons (cs_for1 3 PassesOwn.never rfl (ci_seq (ce_call ((c_things_space W).mono (by decide)) hr rfl (ca_cons (ce_var 0 (pv 0)) (ca_cons (ce_var 1 (pv 1)) ca_nil)))) (pg_name (i := 3) sc.nd rfl (Or.inl rfl)) (css_cons (cs_own 4 (cl_lst ca_nil) sc.nd rfl (Or.inl rfl) rfl (Or.inl rfl))
    (css_cons (cs_for1 5 PassesOwn.never rfl (ci_seq (ce_var 2 (pv 2))) (pg_name (i := 5) sc.nd rfl (Or.inl rfl)) (css_one (cs_for1 6 PassesOwn.never rfl (ci_rng1 rfl (W.free 94 rfl) (ca_cons (ce_fld 0 rfl W.cls (W.noat 101 rfl) (ce_var 0 (pv 0)) rfl) ca_nil) (h1 := (len_cons (fun _ _ _ _ h => len_nil h)))) (pg_name (i := 6) sc.nd rfl (Or.inl rfl)) (css_one (cs_app 4 (pv 4) (ce_meth ((c_F_plus W).mono (by decide)) hr W.cls (by decide +kernel) (ce_var 0 (pv 0)) (ca_cons (ce_var 5 (pv 5)) (ca_cons (ce_meth ((c_F_multiple W).mono (by decide)) hr W.cls (by decide +kernel) (ce_var 0 (pv 0)) (ca_cons (ce_var 6 (pv 6)) (ca_cons (ce_var 3 (pv 3)) ca_nil))) ca_nil))))))))
    (css_one (cs_asg 2 (CL.toE (cl_list rfl (W.free 92 rfl) (cb_var 4 (pv 4)))) sc.nd rfl (Or.inl rfl) rfl (Or.inl rfl))))))
    (css_one (cs_ret (ce_tuple rfl (W.free 97 rfl) (CE.toB (ce_sorted rfl (W.free 96 rfl) (cb_var 2 (pv 2)))))))))), W.glo 29 rfl, F.kp, F.bindsN fun _ _ _ _ _ _ us hl => match us, hl with | [_, _], _ => rfl, .nil, fun _ _ => rfl⟩
theorem sc_holds_thing : FnScope ["field", "things", "thing", "basis"] ["field", "things", "thing"] (defScope s_holds_thing) := ⟨rfl, rfl, rfl, by decide +kernel, rfl, by decide +kernel, by decide +kernel⟩
theorem c_holds_thing {P : Program} {w : World} {K : PySem.W.Frag} {mg : Str → Option Value} {base : Heap} (W : Wl K mg) : Callee P w K mg base (He.ga K "Field") 5 "holds_thing" 3 [] m_holds_thing := by
  obtain ⟨fd, F⟩ := W.c.def_ 33 (d := dd_holds_thing) rfl
  have sc := sc_holds_thing
  exact ⟨_, fd, ["field", "things", "thing"], [], [], fn_meaning F sc (fun cdv A outer s H E hr =>
    (css_cons (cs_asg 3 (ce_call ((c_things_space W).mono (by decide)) hr rfl (ca_cons (ce_var 0 (pv 0)) (ca_cons (ce_var 1 (pv 1)) ca_nil))) sc.nd rfl (Or.inl rfl) rfl (Or.inl rfl))
    (css_cons (cs_drop (ce_call ((c_check_things W).mono (by decide)) hr rfl (ca_cons (ce_var 0 (pv 0)) (ca_cons (CL.toE (cl_lst (ca_cons (ce_var 2 (pv 2)) ca_nil))) (ca_cons ce_int ca_nil)))))
    (css_one (cs_ret (ce_cmp (op_eq2 hr.units) ov_eq (CE.toB (ce_len rfl (W.free 91 rfl) (CE.toB (ce_call ((c_things_space W).mono (by decide)) hr rfl (ca_cons (ce_var 0 (pv 0)) (ca_cons (ce_op op_add3 ov_add (cb_var 3 (pv 3)) (CE.toB (ce_tup (ca_cons (ce_var 2 (pv 2)) ca_nil)))) ca_nil)))))) (CE.toB (ce_len rfl (W.free 91 rfl) (cb_var 3 (pv 3)))) (nomark _))))))), W.glo 30 rfl, F.kp, F.bindsN fun _ _ _ _ _ _ us hl => match us, hl with | [_, _, _], _ => rfl, .nil, fun _ _ => rfl⟩
theorem sc_check_poly : FnScope ["field", "poly", "most", "at", "thing"] ["field", "poly", "most"] (defScope s_check_poly) := ⟨rfl, rfl, rfl, by decide +kernel, rfl, by decide +kernel, by decide +kernel⟩
theorem k_check_poly {P : Program} {w : World} {K : PySem.W.Frag} {mg : Str → Option Value} {base : Heap} (W : Wl K mg) : ∃ fd, FunD K dd_check_poly.name dd_check_poly.qual dd_check_poly.params dd_check_poly.body dd_check_poly.scope (dd_check_poly.dvs K) (dd_check_poly.kws K) (He.fAd K dd_check_poly.at_) fd ∧ FnOk P w K mg base CX0 3 (He.fAd K dd_check_poly.at_) fd ["field", "poly", "most"] (spOf K (He.ga K "Field") 3 m_check_poly) := by
  obtain ⟨fd, F⟩ := W.c.def_ 34 (d := dd_check_poly) rfl
  have sc := sc_check_poly
  exact ⟨fd, F, fn_meaning F sc (fun cdv A outer s H E hr =>
    (css_cons (cs_if (CW.t (cw_or (ct_not (ct_val (ce_isi2 (n1 := "list") (n2 := "tuple") rfl (W.free 90 rfl) rfl (W.free 92 rfl) (by decide +kernel) rfl (W.free 97 rfl) (by decide +kernel) (ce_var 1 (pv 1))))) (cw_or1 (ct_cmp op_gt ov_gt (CE.toB (ce_len rfl (W.free 91 rfl) (cb_var 1 (pv 1)))) (cb_var 2 (pv 2)) (nomark _))))) (css_one cs_never) css_nil)
    (css_cons (cs_for2 3 4 PassesOwn.never rfl (ci_enum rfl (W.free 88 rfl) (ce_var 1 (pv 1))) (pg_tup rfl (pgs_cons (pg_name (i := 3) sc.nd rfl (Or.inl rfl)) (pgs_cons (pg_name (i := 4) sc.nd rfl (Or.inl rfl)) pgs_nil))) (css_one (cs_try rfl rfl (c := .ref (He.ga K "BadThing")) ⟨rfl, by decide, .inl (W.glo 2 rfl)⟩ (fun pn xe hp => (css_one (cs_drop (ce_call ((c_check_thing_d W).mono (by decide)) hr rfl (ca_cons (ce_var 0 (pv 0)) (ca_cons (ce_var 4 (pv 4)) ca_nil)))))))))
    (css_cons (cs_if (CW.t (cw_and (ct_cmp op_gt ov_gt (CE.toB (ce_len rfl (W.free 91 rfl) (cb_var 1 (pv 1)))) (CE.toB ce_int) (nomark _)) (cw_and1 (ct_cmp (op_eq2 hr.units) ov_eq (CE.toB (ce_ix (cb_var 1 (pv 1)) (CE.toB (ce_neg ce_int)) (by intro _ _; rfl))) (CE.toB ce_int) (nomark _))))) (css_one cs_never) css_nil)
    (css_one (cs_ret (ce_tuple rfl (W.free 97 rfl) (cb_var 1 (pv 1)))))))))⟩
theorem c_check_poly_d {P : Program} {w : World} {K : PySem.W.Frag} {mg : Str → Option Value} {base : Heap} (W : Wl K mg) : Callee P w K mg base (He.ga K "Field") 3 "check_poly" 3 [.int 16] m_check_poly := by
  obtain ⟨fd, F, ok⟩ := k_check_poly (P := P) (w := w) (base := base) W
  obtain ⟨ds, hv, hb⟩ := F.binds1 (ps := ["field", "poly", "most"]) 2 0 (List.cons_ne_nil _ _) rfl (fun T kV doc pm an cdv ct us its h1 h2 => match us, its, h1, h2 with | [_, _], [_], _, _ => ⟨_, rfl, rfl⟩)
  exact ⟨_, fd, ["field", "poly", "most"], [V.int 16], ds, ok, W.glo 31 rfl, F.kp, hb, hv, fun _ _ => ⟨_, _, rfl, rfl, rfl⟩⟩
theorem sc_trimmed : FnScope ["things", "many"] ["things"] (defScope s_trimmed) := ⟨rfl, rfl, rfl, by decide +kernel, rfl, by decide +kernel, by decide +kernel⟩
theorem c_trimmed {P : Program} {w : World} {K : PySem.W.Frag} {mg : Str → Option Value} {base : Heap} (W : Wl K mg) : Callee P w K mg base (He.ga K "Field") 1 "trimmed" 1 [] m_trimmed := by
  obtain ⟨fd, F⟩ := W.c.def_ 35 (d := dd_trimmed) rfl
  have sc := sc_trimmed
  exact ⟨_, fd, ["things"], [], [], fn_meaning F sc (fun cdv A outer s H E hr =>
    (css_cons (cs_asg 1 (ce_len rfl (W.free 91 rfl) (cb_var 0 (pv 0))) sc.nd rfl (Or.inl rfl) rfl (Or.inl rfl))
    (css_cons (cs_while 200 PassesOwn.never (CW.t (cw_and (ct_cmp op_gt ov_gt (cb_var 1 (pv 1)) (CE.toB ce_int) (nomark _)) (cw_and1 (ct_cmp (op_eq2 hr.units) ov_eq (CE.toB (ce_ix (cb_var 0 (pv 0)) (CE.toB (ce_op op_sub ov_sub (cb_var 1 (pv 1)) (CE.toB ce_int))) (by intro _ _; rfl))) (CE.toB ce_int) (nomark _))))) (css_one (cs_aug 1 sc.nd rfl (Or.inl rfl) ce_int ip_sub (Or.inl rfl))))
    (css_one (cs_ret (ce_tuple rfl (W.free 97 rfl) (CE.toB (ce_sl (cb_var 0 (pv 0)) co_none (co_some (ce_var 1 (pv 1))))))))))), W.glo 32 rfl, F.kp, F.bindsN fun _ _ _ _ _ _ us hl => match us, hl with | [_], _ => rfl, .nil, fun _ _ => rfl⟩
theorem sc_reached_value : FnScope ["field", "poly", "thing", "total", "now", "term"] ["field", "poly", "thing"] (defScope s_reached_value) := ⟨rfl, rfl, rfl, by decide +kernel, rfl, by decide +kernel, by decide +kernel⟩
theorem c_reached_value {P : Program} {w : World} {K : PySem.W.Frag} {mg : Str → Option Value} {base : Heap} (W : Wl K mg) : Callee P w K mg base (He.ga K "Field") 2 "reached_value" 3 [] m_reached_value := by
  obtain ⟨fd, F⟩ := W.c.def_ 36 (d := dd_reached_value) rfl
  have sc := sc_reached_value
  exact ⟨_, fd, ["field", "poly", "thing"], [], [], fn_meaning F sc (fun cdv A outer s H E hr =>
    (css_cons (cs_asg 3 ce_int sc.nd rfl (Or.inl rfl) rfl (Or.inl rfl))
    (css_cons (cs_asg 4 (ce_var 2 (pv 2)) sc.nd rfl (Or.inl rfl) rfl (Or.inl rfl))
    (css_cons (cs_for1 5 PassesOwn.never rfl (ci_seq (ce_var 1 (pv 1))) (pg_name (i := 5) sc.nd rfl (Or.inl rfl)) (css_cons (cs_asg 3 (ce_meth ((c_F_plus W).mono (by decide)) hr W.cls (by decide +kernel) (ce_var 0 (pv 0)) (ca_cons (ce_var 3 (pv 3)) (ca_cons (ce_meth ((c_F_times W).mono (by decide)) hr W.cls (by decide +kernel) (ce_var 0 (pv 0)) (ca_cons (ce_var 5 (pv 5)) (ca_cons (ce_var 4 (pv 4)) ca_nil))) ca_nil))) sc.nd rfl (Or.inl rfl) rfl (Or.inl rfl))
    (css_one (cs_asg 4 (ce_meth ((c_F_stepped W).mono (by decide)) hr W.cls (by decide +kernel) (ce_var 0 (pv 0)) (ca_cons (ce_var 4 (pv 4)) (ca_cons ce_int ca_nil))) sc.nd rfl (Or.inl rfl) rfl (Or.inl rfl)))))
    (css_one (cs_ret (ce_var 3 (pv 3)))))))), W.glo 33 rfl, F.kp, F.bindsN fun _ _ _ _ _ _ us hl => match us, hl with | [_, _, _], _ => rfl, .nil, fun _ _ => rfl⟩
theorem sc_scaled_terms : FnScope ["field", "thing", "poly", "term"] ["field", "thing", "poly"] (defScope s_scaled_terms) := ⟨rfl, rfl, rfl, by decide +kernel, rfl, by decide +kernel, by decide +kernel⟩
theorem c_scaled_terms {P : Program} {w : World} {K : PySem.W.Frag} {mg : Str → Option Value} {base : Heap} (W : Wl K mg) : Callee P w K mg base (He.ga K "Field") 2 "scaled_terms" 3 [] m_scaled_terms := by
  obtain ⟨fd, F⟩ := W.c.def_ 37 (d := dd_scaled_terms) rfl
  have sc := sc_scaled_terms
  exact ⟨_, fd, ["field", "thing", "poly"], [], [], fn_meaning F sc (fun cdv A outer s H E hr =>
    (css_one (cs_ret (ce_call ((c_trimmed W).mono (by decide)) hr rfl (ca_cons (CL.toE (cl_lc1 3 rfl sc.nd (blkOk_by (by kernel_rfl)) (cb_seq (cb_var 2 (pv 2))) (fun _ _ _ _ _ => (pg_name (i := 3) sc.nd rfl (Or.inl rfl))) (fun _ _ _ _ _ => pts_yes) (fun _ _ _ _ _ => (ce_meth ((c_F_times W).mono (by decide)) hr W.cls (by decide +kernel) (ce_var 0 (pv 0)) (ca_cons (ce_var 1 (pv 1)) (ca_cons (ce_var 3 (pv 3)) ca_nil)))))) ca_nil))))), W.glo 34 rfl, F.kp, F.bindsN fun _ _ _ _ _ _ us hl => match us, hl with | [_, _, _], _ => rfl, .nil, fun _ _ => rfl⟩
theorem sc_added_terms : FnScope ["field", "one", "other", "low", "high", "told", "at", "term"] ["field", "one", "other"] (defScope s_added_terms) := ⟨rfl, rfl, rfl, by decide +kernel, rfl, by decide +kernel, by decide +kernel⟩
theorem c_added_terms {P : Program} {w : World} {K : PySem.W.Frag} {mg : Str → Option Value} {base : Heap} (W : Wl K mg) : Callee P w K mg base (He.ga K "Field") 2 "added_terms" 3 [] m_added_terms := by
  obtain ⟨fd, F⟩ := W.c.def_ 38 (d := dd_added_terms) rfl
  have sc := sc_added_terms
  exact ⟨_, fd, ["field", "one", "other"], [], [], fn_meaning F sc (fun cdv A outer s H E hr =>
    (css_cons (cs_tup2 3 4 (ce_ifE (ct_cmp op_le ov_le (CE.toB (ce_len rfl (W.free 91 rfl) (cb_var 1 (pv 1)))) (CE.toB (ce_len rfl (W.free 91 rfl) (cb_var 2 (pv 2)))) (nomark _)) (ce_tup (ca_cons (ce_var 1 (pv 1)) (ca_cons (ce_var 2 (pv 2)) ca_nil))) (ce_tup (ca_cons (ce_var 2 (pv 2)) (ca_cons (ce_var 1 (pv 1)) ca_nil)))) (pg_tup rfl (pgs_cons (pg_name (i := 3) sc.nd rfl (Or.inl rfl)) (pgs_cons (pg_name (i := 4) sc.nd rfl (Or.inr rfl)) pgs_nil))))
    (css_cons (cs_asgLc2 5 6 7 (by decide) rfl sc.nd rfl rfl (sw_true rfl rfl rfl (by decide +kernel)) (blkOk_by (by kernel_rfl)) (cb_enum rfl (W.free 88 rfl) (cb_var 3 (pv 3))) (fun _ _ _ _ _ => (pg_tup rfl (pgs_cons (pg_name (i := 6) sc.nd rfl (Or.inl rfl)) (pgs_cons (pg_name (i := 7) sc.nd rfl (Or.inl rfl)) pgs_nil)))) (fun _ _ _ _ _ => pts_yes) (fun _ _ _ _ _ => (ce_meth ((c_F_plus W).mono (by decide)) hr W.cls (by decide +kernel) (ce_var 0 (pv 0)) (ca_cons (ce_var 7 (pv 7)) (ca_cons (ce_ix (cb_var 4 (pv 4)) (cb_var 6 (pv 6)) (by intro _ _; rfl)) ca_nil)))))
    (css_one (cs_ret (ce_call ((c_trimmed W).mono (by decide)) hr rfl (ca_cons (ce_op op_add3 ov_add (cb_var 5 (pv 5)) (CL.toB (cl_list rfl (W.free 92 rfl) (CE.toB (ce_sl (cb_var 4 (pv 4)) (co_some (ce_len rfl (W.free 91 rfl) (cb_var 3 (pv 3)))) co_none))))) ca_nil))))))), W.glo 35 rfl, F.kp, F.bindsN fun _ _ _ _ _ _ us hl => match us, hl with | [_, _, _], _ => rfl, .nil, fun _ _ => rfl⟩
theorem sc_taken_terms : FnScope ["field", "one", "other", "term"] ["field", "one", "other"] (defScope s_taken_terms) := ⟨rfl, rfl, rfl, by decide +kernel, rfl, by decide +kernel, by decide +kernel⟩
theorem c_taken_terms {P : Program} {w : World} {K : PySem.W.Frag} {mg : Str → Option Value} {base : Heap} (W : Wl K mg) : Callee P w K mg base (He.ga K "Field") 3 "taken_terms" 3 [] m_taken_terms := by
  obtain ⟨fd, F⟩ := W.c.def_ 39 (d := dd_taken_terms) rfl
  have sc := sc_taken_terms
  exact ⟨_, fd, ["field", "one", "other"], [], [], fn_meaning F sc (fun cdv A outer s H E hr =>
    (css_one (cs_ret (ce_call ((c_added_terms W).mono (by decide)) hr rfl (ca_cons (ce_var 0 (pv 0)) (ca_cons (ce_var 1 (pv 1)) (ca_cons (CL.toE (cl_lc1 3 rfl sc.nd (blkOk_by (by kernel_rfl)) (cb_seq (cb_var 2 (pv 2))) (fun _ _ _ _ _ => (pg_name (i := 3) sc.nd rfl (Or.inl rfl))) (fun _ _ _ _ _ => pts_yes) (fun _ _ _ _ _ => (ce_meth ((c_F_negative W).mono (by decide)) hr W.cls (by decide +kernel) (ce_var 0 (pv 0)) (ca_cons (ce_var 3 (pv 3)) ca_nil))))) ca_nil))))))), W.glo 36 rfl, F.kp, F.bindsN fun _ _ _ _ _ _ us hl => match us, hl with | [_, _, _], _ => rfl, .nil, fun _ _ => rfl⟩
theorem sc_nested_terms : FnScope ["field", "outer", "inner", "told", "now", "high", "term", "low", "thing"] ["field", "outer", "inner"] (defScope s_nested_terms) := ⟨rfl, rfl, rfl, by decide +kernel, rfl, by decide +kernel, by decide +kernel⟩
theorem c_nested_terms {P : Program} {w : World} {K : PySem.W.Frag} {mg : Str → Option Value} {base : Heap} (W : Wl K mg) : Callee P w K mg base (He.ga K "Field") 2 "nested_terms" 3 [] m_nested_terms := by
  obtain ⟨fd, F⟩ := W.c.def_ 40 (d := dd_nested_terms) rfl
  have sc := sc_nested_terms
  exact ⟨_, fd, ["field", "outer", "inner"], [], [], fn_meaning F sc (fun cdv A outer s H E hr =>
    (css_cons (cs_if (CW.t (cw_or (ct_cmp (op_eq2 hr.units) ov_eq (CE.toB (ce_len rfl (W.free 91 rfl) (cb_var 1 (pv 1)))) (CE.toB ce_int) (nomark _)) (cw_or1 (ct_cmp (op_eq2 hr.units) ov_eq (CE.toB (ce_len rfl (W.free 91 rfl) (cb_var 2 (pv 2)))) (CE.toB ce_int) (nomark _))))) (css_one (cs_ret (ce_tup ca_nil))) css_nil)
    (css_cons (cs_own 3 (cl_op op_rep on_rep (CL.toB (cl_lst (ca_cons ce_int ca_nil))) (CE.toB (ce_op op_sub ov_sub (CE.toB (ce_op op_add3 ov_add (CE.toB (ce_len rfl (W.free 91 rfl) (cb_var 1 (pv 1)))) (CE.toB (ce_len rfl (W.free 91 rfl) (cb_var 2 (pv 2)))))) (CE.toB ce_int)))) sc.nd rfl (Or.inl rfl) rfl (Or.inl rfl))
    (css_cons (cs_asg 4 (CL.toE (cl_list rfl (W.free 92 rfl) (cb_var 2 (pv 2)))) sc.nd rfl (Or.inl rfl) rfl (Or.inl rfl))
    (css_cons (cs_for2 5 6 PassesOwn.never rfl (ci_enum rfl (W.free 88 rfl) (ce_var 1 (pv 1))) (pg_tup rfl (pgs_cons (pg_name (i := 5) sc.nd rfl (Or.inl rfl)) (pgs_cons (pg_name (i := 6) sc.nd rfl (Or.inl rfl)) pgs_nil))) (css_cons (cs_for2 7 8 PassesOwn.never rfl (ci_enum rfl (W.free 88 rfl) (ce_var 4 (pv 4))) (pg_tup rfl (pgs_cons (pg_name (i := 7) sc.nd rfl (Or.inl rfl)) (pgs_cons (pg_name (i := 8) sc.nd rfl (Or.inl rfl)) pgs_nil))) (css_one (cs_sto 3 (pv 3) (ce_op op_add3 ov_add (cb_var 5 (pv 5)) (cb_var 7 (pv 7))) (ce_meth ((c_F_plus W).mono (by decide)) hr W.cls (by decide +kernel) (ce_var 0 (pv 0)) (ca_cons (ce_ix (cb_var 3 (pv 3)) (CE.toB (ce_op op_add3 ov_add (cb_var 5 (pv 5)) (cb_var 7 (pv 7)))) (by intro _ _; rfl)) (ca_cons (ce_meth ((c_F_times W).mono (by decide)) hr W.cls (by decide +kernel) (ce_var 0 (pv 0)) (ca_cons (ce_var 6 (pv 6)) (ca_cons (ce_var 8 (pv 8)) ca_nil))) ca_nil))))))
    (css_one (cs_asgLc1 4 8 rfl sc.nd rfl rfl (sw_true rfl rfl rfl (by decide +kernel)) (blkOk_by (by kernel_rfl)) (cb_seq (cb_var 4 (pv 4))) (fun _ _ _ _ _ => (pg_name (i := 8) sc.nd rfl (Or.inl rfl))) (fun _ _ _ _ _ => pts_yes) (fun _ _ _ _ _ => (ce_meth ((c_F_stepped W).mono (by decide)) hr W.cls (by decide +kernel) (ce_var 0 (pv 0)) (ca_cons (ce_var 8 (pv 8)) (ca_cons ce_int ca_nil))))))))
    (css_one (cs_freeze 3 (cs_ret (ce_call ((c_trimmed W).mono (by decide)) hr rfl (ca_cons (ce_var 3 (pv 3)) ca_nil)))))))))), W.glo 37 rfl, F.kp, F.bindsN fun _ _ _ _ _ _ us hl => match us, hl with | [_, _, _], _ => rfl, .nil, fun _ _ => rfl⟩
theorem sc_unit_things : FnScope ["field", "told"] ["field"] (defScope s_unit_things) := ⟨rfl, rfl, rfl, by decide +kernel, rfl, by decide +kernel, by decide +kernel⟩
theorem c_unit_things {P : Program} {w : World} {K : PySem.W.Frag} {mg : Str → Option Value} {base : Heap} (W : Wl K mg) : Callee P w K mg base (He.ga K "Field") 1 "unit_things" 1 [] m_unit_things := by
  obtain ⟨fd, F⟩ := W.c.def_ 41 (d := dd_unit_things) rfl
  have sc := sc_unit_things
  exact ⟨_, fd, ["field"], [], [], fn_meaning F sc (fun cdv A outer s H E hr =>
    (css_cons (cs_own 1 (cl_lst (ca_cons ce_int ca_nil)) sc.nd rfl (Or.inl rfl) rfl (Or.inl rfl))
    (css_cons (cs_while 10 PassesOwn.never (ct_cmp op_lt ov_lt (CE.toB (ce_len rfl (W.free 91 rfl) (cb_var 1 (pv 1)))) (CE.toB (ce_fld 2 rfl W.cls (W.noat 103 rfl) (ce_var 0 (pv 0)) rfl)) (nomark _)) (css_one (cs_app 1 (pv 1) (ce_op op_mul2 ov_mul (CE.toB (ce_ix (cb_var 1 (pv 1)) (CE.toB (ce_neg ce_int)) (by intro _ _; rfl))) (CE.toB (ce_fld 0 rfl W.cls (W.noat 101 rfl) (ce_var 0 (pv 0)) rfl))))))
    (css_one (cs_ret (ce_tuple rfl (W.free 97 rfl) (cb_var 1 (pv 1)))))))), W.glo 38 rfl, F.kp, F.bindsN fun _ _ _ _ _ _ us hl => match us, hl with | [_], _ => rfl, .nil, fun _ _ => rfl⟩
theorem sc_map_rows : FnScope ["field", "poly", "columns", "unit", "row", "column"] ["field", "poly"] (defScope s_map_rows) := ⟨rfl, rfl, rfl, by decide +kernel, rfl, by decide +kernel, by decide +kernel⟩
theorem c_map_rows {P : Program} {w : World} {K : PySem.W.Frag} {mg : Str → Option Value} {base : Heap} (W : Wl K mg) : Callee P w K mg base (He.ga K "Field") 3 "map_rows" 2 [] m_map_rows := by
  obtain ⟨fd, F⟩ := W.c.def_ 42 (d := dd_map_rows) rfl
  have sc := sc_map_rows
  exact ⟨_, fd, ["field", "poly"], [], [], fn_meaning F sc (fun cdv A outer s H E hr =>
    (css_cons (cs_asg 2 (CL.toE (cl_lc1 3 rfl sc.nd (blkOk_by (by kernel_rfl)) (cb_seq (CE.toB (ce_call ((c_unit_things W).mono (by decide)) hr rfl (ca_cons (ce_var 0 (pv 0)) ca_nil)))) (fun _ _ _ _ _ => (pg_name (i := 3) sc.nd rfl (Or.inl rfl))) (fun _ _ _ _ _ => pts_yes) (fun _ _ _ _ _ => (ce_meth ((c_F_digits_of W).mono (by decide)) hr W.cls (by decide +kernel) (ce_var 0 (pv 0)) (ca_cons (ce_call ((c_reached_value W).mono (by decide)) hr rfl (ca_cons (ce_var 0 (pv 0)) (ca_cons (ce_var 1 (pv 1)) (ca_cons (ce_var 3 (pv 3)) ca_nil)))) ca_nil))))) sc.nd rfl (Or.inr rfl) rfl (Or.inl rfl))
    (css_one (cs_ret (ce_tuple rfl (W.free 97 rfl) (CL.toB (cl_lc1 4 rfl sc.nd (blkOk_by (by kernel_rfl)) (ci_b (ci_rng1 rfl (W.free 94 rfl) (ca_cons (ce_fld 2 rfl W.cls (W.noat 103 rfl) (ce_var 0 (pv 0)) rfl) ca_nil) (h1 := (len_cons (fun _ _ _ _ h => len_nil h))))) (fun _ _ _ _ _ => (pg_name (i := 4) sc.nd rfl (Or.inr rfl))) (fun _ _ _ _ _ => pts_yes) (fun _ _ _ _ _ => (ce_tuple rfl (W.free 97 rfl) (CL.toB (cl_lc1 5 rfl sc.nd (blkOk_by (by kernel_rfl)) (cb_seq (cb_var 2 (pv 2))) (fun _ _ _ _ _ => (pg_name (i := 5) sc.nd rfl (Or.inl rfl))) (fun _ _ _ _ _ => pts_yes) (fun _ _ _ _ _ => (ce_ix (cb_var 5 (pv 5)) (cb_var 4 (pv 4)) (by intro _ _; rfl)))))))))))))), W.glo 39 rfl, F.kp, F.bindsN fun _ _ _ _ _ _ us hl => match us, hl with | [_, _], _ => rfl, .nil, fun _ _ => rfl⟩
theorem sc_value_at : FnScope ["field", "poly", "thing", "terms"] ["field", "poly", "thing"] (defScope s_value_at) := ⟨rfl, rfl, rfl, by decide +kernel, rfl, by decide +kernel, by decide +kernel⟩
theorem c_value_at {P : Program} {w : World} {K : PySem.W.Frag} {mg : Str → Option Value} {base : Heap} (W : Wl K mg) : Callee P w K mg base (He.ga K "Field") 4 "value_at" 3 [] m_value_at := by
  obtain ⟨fd, F⟩ := W.c.def_ 43 (d := dd_value_at) rfl
  have sc := sc_value_at
  exact ⟨_, fd, ["field", "poly", "thing"], [], [], fn_meaning F sc (fun cdv A outer s H E hr =>
    (css_cons (cs_asg 3 (ce_call ((c_check_poly_d W).mono (by decide)) hr rfl (ca_cons (ce_var 0 (pv 0)) (ca_cons (ce_var 1 (pv 1)) ca_nil))) sc.nd rfl (Or.inl rfl) rfl (Or.inl rfl))
    (css_one (cs_ret (ce_call ((c_reached_value W).mono (by decide)) hr rfl (ca_cons (ce_var 0 (pv 0)) (ca_cons (ce_var 3 (pv 3)) (ca_cons (ce_call ((c_check_thing_d W).mono (by decide)) hr rfl (ca_cons (ce_var 0 (pv 0)) (ca_cons (ce_var 2 (pv 2)) ca_nil))) ca_nil)))))))), W.glo 40 rfl, F.kp, F.bindsN fun _ _ _ _ _ _ us hl => match us, hl with | [_, _, _], _ => rfl, .nil, fun _ _ => rfl⟩
theorem sc_put_into : FnScope ["field", "outer", "inner", "first"] ["field", "outer", "inner"] (defScope s_put_into) := ⟨rfl, rfl, rfl, by decide +kernel, rfl, by decide +kernel, by decide +kernel⟩
theorem c_put_into {P : Program} {w : World} {K : PySem.W.Frag} {mg : Str → Option Value} {base : Heap} (W : Wl K mg) : Callee P w K mg base (He.ga K "Field") 4 "put_into" 3 [] m_put_into := by
  obtain ⟨fd, F⟩ := W.c.def_ 44 (d := dd_put_into) rfl
  have sc := sc_put_into
  exact ⟨_, fd, ["field", "outer", "inner"], [], [], fn_meaning F sc (fun cdv A outer s H E hr =>
    (css_cons (cs_asg 3 (ce_call ((c_check_poly_d W).mono (by decide)) hr rfl (ca_cons (ce_var 0 (pv 0)) (ca_cons (ce_var 1 (pv 1)) ca_nil))) sc.nd rfl (Or.inl rfl) rfl (Or.inl rfl))
    (css_one (cs_ret (ce_call ((c_nested_terms W).mono (by decide)) hr rfl (ca_cons (ce_var 0 (pv 0)) (ca_cons (ce_var 3 (pv 3)) (ca_cons (ce_call ((c_check_poly_d W).mono (by decide)) hr rfl (ca_cons (ce_var 0 (pv 0)) (ca_cons (ce_var 2 (pv 2)) ca_nil))) ca_nil)))))))), W.glo 41 rfl, F.kp, F.bindsN fun _ _ _ _ _ _ us hl => match us, hl with | [_, _, _], _ => rfl, .nil, fun _ _ => rfl⟩
theorem sc_zeros_of : FnScope ["field", "poly", "rows", "row"] ["field", "poly"] (defScope s_zeros_of) := ⟨rfl, rfl, rfl, by decide +kernel, rfl, by decide +kernel, by decide +kernel⟩
theorem c_zeros_of {P : Program} {w : World} {K : PySem.W.Frag} {mg : Str → Option Value} {base : Heap} (W : Wl K mg) : Callee P w K mg base (He.ga K "Field") 6 "zeros_of" 2 [] m_zeros_of := by
  obtain ⟨fd, F⟩ := W.c.def_ 45 (d := dd_zeros_of) rfl
  have sc := sc_zeros_of
  exact ⟨_, fd, ["field", "poly"], [], [], fn_meaning F sc (fun cdv A outer s H E hr =>
    (css_cons (cs_asg 2 (ce_call ((c_contrary W).mono (by decide)) hr rfl (ca_cons (ce_fld 0 rfl W.cls (W.noat 101 rfl) (ce_var 0 (pv 0)) rfl) (ca_cons (ce_fld 2 rfl W.cls (W.noat 103 rfl) (ce_var 0 (pv 0)) rfl) (ca_cons (ce_call ((c_map_rows W).mono (by decide)) hr rfl (ca_cons (ce_var 0 (pv 0)) (ca_cons (ce_call ((c_check_poly_d W).mono (by decide)) hr rfl (ca_cons (ce_var 0 (pv 0)) (ca_cons (ce_var 1 (pv 1)) ca_nil))) ca_nil))) ca_nil)))) sc.nd rfl (Or.inl rfl) rfl (Or.inl rfl))
    (css_one (cs_ret (ce_tuple rfl (W.free 97 rfl) (CL.toB (cl_lc1 3 rfl sc.nd (blkOk_by (by kernel_rfl)) (cb_seq (cb_var 2 (pv 2))) (fun _ _ _ _ _ => (pg_name (i := 3) sc.nd rfl (Or.inl rfl))) (fun _ _ _ _ _ => pts_yes) (fun _ _ _ _ _ => (ce_meth ((c_F_thing_of W).mono (by decide)) hr W.cls (by decide +kernel) (ce_var 0 (pv 0)) (ca_cons (ce_var 3 (pv 3)) ca_nil)))))))))), W.glo 42 rfl, F.kp, F.bindsN fun _ _ _ _ _ _ us hl => match us, hl with | [_, _], _ => rfl, .nil, fun _ _ => rfl⟩
theorem sc_parted_within : FnScope ["field", "poly", "divisor", "high", "quotient", "rest", "part", "term"] ["field", "poly", "divisor"] (defScope s_parted_within) := ⟨rfl, rfl, rfl, by decide +kernel, rfl, by decide +kernel, by decide +kernel⟩
theorem c_parted_within {P : Program} {w : World} {K : PySem.W.Frag} {mg : Str → Option Value} {base : Heap} (W : Wl K mg) : Callee P w K mg base (He.ga K "Field") 4 "parted_within" 3 [] m_parted_within := by
  obtain ⟨fd, F⟩ := W.c.def_ 46 (d := dd_parted_within) rfl
  have sc := sc_parted_within
  exact ⟨_, fd, ["field", "poly", "divisor"], [], [], fn_meaning F sc (fun cdv A outer s H E hr =>
    (css_cons (cs_asg 3 (ce_op op_sub ov_sub (CE.toB (ce_len rfl (W.free 91 rfl) (cb_var 2 (pv 2)))) (CE.toB ce_int)) sc.nd rfl (Or.inl rfl) rfl (Or.inl rfl))
    (css_cons (cs_asg 4 (ce_tup ca_nil) sc.nd rfl (Or.inl rfl) rfl (Or.inl rfl))
    (css_cons (cs_asg 5 (ce_tuple rfl (W.free 97 rfl) (cb_var 1 (pv 1))) sc.nd rfl (Or.inl rfl) rfl (Or.inl rfl))
    (css_cons (cs_while 100 PassesOwn.never (ct_cmp op_gt ov_gt (CE.toB (ce_len rfl (W.free 91 rfl) (cb_var 5 (pv 5)))) (cb_var 3 (pv 3)) (nomark _)) (css_cons (cs_asg 6 (ce_meth ((c_F_stepped W).mono (by decide)) hr W.cls (by decide +kernel) (ce_var 0 (pv 0)) (ca_cons (ce_meth ((c_F_over W).mono (by decide)) hr W.cls (by decide +kernel) (ce_var 0 (pv 0)) (ca_cons (ce_ix (cb_var 5 (pv 5)) (CE.toB (ce_neg ce_int)) (by intro _ _; rfl)) (ca_cons (ce_ix (cb_var 2 (pv 2)) (CE.toB (ce_neg ce_int)) (by intro _ _; rfl)) ca_nil))) (ca_cons (ce_neg (ce_var 3 (pv 3))) ca_nil))) sc.nd rfl (Or.inl rfl) rfl (Or.inl rfl))
    (css_cons (cs_asg 7 (ce_tuple rfl (W.free 97 rfl) (CL.toB (cl_op op_cat on_cat (CL.toB (cl_op op_rep on_rep (CL.toB (cl_lst (ca_cons ce_int ca_nil))) (CE.toB (ce_op op_sub ov_sub (CE.toB (ce_op op_sub ov_sub (CE.toB (ce_len rfl (W.free 91 rfl) (cb_var 5 (pv 5)))) (CE.toB ce_int))) (cb_var 3 (pv 3)))))) (CL.toB (cl_lst (ca_cons (ce_var 6 (pv 6)) ca_nil)))))) sc.nd rfl (Or.inl rfl) rfl (Or.inl rfl))
    (css_cons (cs_asg 4 (ce_call ((c_added_terms W).mono (by decide)) hr rfl (ca_cons (ce_var 0 (pv 0)) (ca_cons (ce_var 4 (pv 4)) (ca_cons (ce_var 7 (pv 7)) ca_nil)))) sc.nd rfl (Or.inl rfl) rfl (Or.inl rfl))
    (css_one (cs_asg 5 (ce_call ((c_taken_terms W).mono (by decide)) hr rfl (ca_cons (ce_var 0 (pv 0)) (ca_cons (ce_var 5 (pv 5)) (ca_cons (ce_call ((c_nested_terms W).mono (by decide)) hr rfl (ca_cons (ce_var 0 (pv 0)) (ca_cons (ce_var 2 (pv 2)) (ca_cons (ce_var 7 (pv 7)) ca_nil)))) ca_nil)))) sc.nd rfl (Or.inl rfl) rfl (Or.inl rfl)))))))
    (css_one (cs_ret (ce_tup (ca_cons (ce_var 4 (pv 4)) (ca_cons (ce_var 5 (pv 5)) ca_nil)))))))))), W.glo 43 rfl, F.kp, F.bindsN fun _ _ _ _ _ _ us hl => match us, hl with | [_, _, _], _ => rfl, .nil, fun _ _ => rfl⟩
theorem sc_parted_about : FnScope ["field", "poly", "divisor", "high", "quotient", "rest", "above", "part", "term"] ["field", "poly", "divisor"] (defScope s_parted_about) := ⟨rfl, rfl, rfl, by decide +kernel, rfl, by decide +kernel, by decide +kernel⟩
theorem c_parted_about {P : Program} {w : World} {K : PySem.W.Frag} {mg : Str → Option Value} {base : Heap} (W : Wl K mg) : Callee P w K mg base (He.ga K "Field") 4 "parted_about" 3 [] m_parted_about := by
  obtain ⟨fd, F⟩ := W.c.def_ 47 (d := dd_parted_about) rfl
  have sc := sc_parted_about
  exact ⟨_, fd, ["field", "poly", "divisor"], [], [], fn_meaning F sc (fun cdv A outer s H E hr =>
    (css_cons (cs_asg 3 (ce_op op_sub ov_sub (CE.toB (ce_len rfl (W.free 91 rfl) (cb_var 2 (pv 2)))) (CE.toB ce_int)) sc.nd rfl (Or.inl rfl) rfl (Or.inl rfl))
    (css_cons (cs_asg 4 (ce_tup ca_nil) sc.nd rfl (Or.inl rfl) rfl (Or.inl rfl))
    (css_cons (cs_asg 5 (ce_tuple rfl (W.free 97 rfl) (cb_var 1 (pv 1))) sc.nd rfl (Or.inl rfl) rfl (Or.inl rfl))
    (css_cons (cs_while 100 PassesOwn.never (ct_cmp op_gt ov_gt (CE.toB (ce_len rfl (W.free 91 rfl) (cb_var 5 (pv 5)))) (cb_var 3 (pv 3)) (nomark _)) (css_cons (cs_asg 6 (ce_op op_sub ov_sub (CE.toB (ce_op op_sub ov_sub (CE.toB (ce_len rfl (W.free 91 rfl) (cb_var 5 (pv 5)))) (CE.toB ce_int))) (cb_var 3 (pv 3))) sc.nd rfl (Or.inl rfl) rfl (Or.inl rfl))
    (css_cons (cs_asg 7 (ce_meth ((c_F_over W).mono (by decide)) hr W.cls (by decide +kernel) (ce_var 0 (pv 0)) (ca_cons (ce_ix (cb_var 5 (pv 5)) (CE.toB (ce_neg ce_int)) (by intro _ _; rfl)) (ca_cons (ce_meth ((c_F_stepped W).mono (by decide)) hr W.cls (by decide +kernel) (ce_var 0 (pv 0)) (ca_cons (ce_ix (cb_var 2 (pv 2)) (CE.toB (ce_neg ce_int)) (by intro _ _; rfl)) (ca_cons (ce_var 6 (pv 6)) ca_nil))) ca_nil))) sc.nd rfl (Or.inl rfl) rfl (Or.inl rfl))
    (css_cons (cs_asg 8 (ce_tuple rfl (W.free 97 rfl) (CL.toB (cl_op op_cat on_cat (CL.toB (cl_op op_rep on_rep (CL.toB (cl_lst (ca_cons ce_int ca_nil))) (cb_var 6 (pv 6)))) (CL.toB (cl_lst (ca_cons (ce_var 7 (pv 7)) ca_nil)))))) sc.nd rfl (Or.inl rfl) rfl (Or.inl rfl))
    (css_cons (cs_asg 4 (ce_call ((c_added_terms W).mono (by decide)) hr rfl (ca_cons (ce_var 0 (pv 0)) (ca_cons (ce_var 4 (pv 4)) (ca_cons (ce_var 8 (pv 8)) ca_nil)))) sc.nd rfl (Or.inl rfl) rfl (Or.inl rfl))
    (css_one (cs_asg 5 (ce_call ((c_taken_terms W).mono (by decide)) hr rfl (ca_cons (ce_var 0 (pv 0)) (ca_cons (ce_var 5 (pv 5)) (ca_cons (ce_call ((c_nested_terms W).mono (by decide)) hr rfl (ca_cons (ce_var 0 (pv 0)) (ca_cons (ce_var 8 (pv 8)) (ca_cons (ce_var 2 (pv 2)) ca_nil)))) ca_nil)))) sc.nd rfl (Or.inl rfl) rfl (Or.inl rfl))))))))
    (css_one (cs_ret (ce_tup (ca_cons (ce_var 4 (pv 4)) (ca_cons (ce_var 5 (pv 5)) ca_nil)))))))))), W.glo 44 rfl, F.kp, F.bindsN fun _ _ _ _ _ _ us hl => match us, hl with | [_, _, _], _ => rfl, .nil, fun _ _ => rfl⟩
theorem sc_checked_divisor : FnScope ["field", "poly", "divisor", "first", "second"] ["field", "poly", "divisor"] (defScope s_checked_divisor) := ⟨rfl, rfl, rfl, by decide +kernel, rfl, by decide +kernel, by decide +kernel⟩
theorem c_checked_divisor {P : Program} {w : World} {K : PySem.W.Frag} {mg : Str → Option Value} {base : Heap} (W : Wl K mg) : Callee P w K mg base (He.ga K "Field") 4 "checked_divisor" 3 [] m_checked_divisor := by
  obtain ⟨fd, F⟩ := W.c.def_ 48 (d := dd_checked_divisor) rfl
  have sc := sc_checked_divisor
  exact ⟨_, fd, ["field", "poly", "divisor"], [], [], fn_meaning F sc (fun cdv A outer s H E hr =>
    (css_cons (cs_asg 3 (ce_call ((c_check_poly_d W).mono (by decide)) hr rfl (ca_cons (ce_var 0 (pv 0)) (ca_cons (ce_var 1 (pv 1)) ca_nil))) sc.nd rfl (Or.inl rfl) rfl (Or.inl rfl))
    (css_cons (cs_asg 4 (ce_call ((c_check_poly_d W).mono (by decide)) hr rfl (ca_cons (ce_var 0 (pv 0)) (ca_cons (ce_var 2 (pv 2)) ca_nil))) sc.nd rfl (Or.inl rfl) rfl (Or.inl rfl))
    (css_cons (cs_if (ct_cmp (op_eq2 hr.units) ov_eq (CE.toB (ce_len rfl (W.free 91 rfl) (cb_var 4 (pv 4)))) (CE.toB ce_int) (nomark _)) (css_one cs_never) css_nil)
    (css_one (cs_ret (ce_tup (ca_cons (ce_var 3 (pv 3)) (ca_cons (ce_var 4 (pv 4)) ca_nil))))))))), W.glo 45 rfl, F.kp, F.bindsN fun _ _ _ _ _ _ us hl => match us, hl with | [_, _, _], _ => rfl, .nil, fun _ _ => rfl⟩
theorem sc_divided_within : FnScope ["field", "poly", "divisor", "first", "second"] ["field", "poly", "divisor"] (defScope s_divided_within) := ⟨rfl, rfl, rfl, by decide +kernel, rfl, by decide +kernel, by decide +kernel⟩
theorem c_divided_within {P : Program} {w : World} {K : PySem.W.Frag} {mg : Str → Option Value} {base : Heap} (W : Wl K mg) : Callee P w K mg base (He.ga K "Field") 5 "divided_within" 3 [] m_divided_within := by
  obtain ⟨fd, F⟩ := W.c.def_ 49 (d := dd_divided_within) rfl
  have sc := sc_divided_within
  exact ⟨_, fd, ["field", "poly", "divisor"], [], [], fn_meaning F sc (fun cdv A outer s H E hr =>
    (css_cons (cs_tup2 3 4 (ce_call ((c_checked_divisor W).mono (by decide)) hr rfl (ca_cons (ce_var 0 (pv 0)) (ca_cons (ce_var 1 (pv 1)) (ca_cons (ce_var 2 (pv 2)) ca_nil)))) (pg_tup rfl (pgs_cons (pg_name (i := 3) sc.nd rfl (Or.inl rfl)) (pgs_cons (pg_name (i := 4) sc.nd rfl (Or.inl rfl)) pgs_nil))))
    (css_one (cs_ret (ce_call ((c_parted_within W).mono (by decide)) hr rfl (ca_cons (ce_var 0 (pv 0)) (ca_cons (ce_var 3 (pv 3)) (ca_cons (ce_var 4 (pv 4)) ca_nil)))))))), W.glo 46 rfl, F.kp, F.bindsN fun _ _ _ _ _ _ us hl => match us, hl with | [_, _, _], _ => rfl, .nil, fun _ _ => rfl⟩
theorem sc_divided_about : FnScope ["field", "poly", "divisor", "first", "second"] ["field", "poly", "divisor"] (defScope s_divided_about) := ⟨rfl, rfl, rfl, by decide +kernel, rfl, by decide +kernel, by decide +kernel⟩
theorem c_divided_about {P : Program} {w : World} {K : PySem.W.Frag} {mg : Str → Option Value} {base : Heap} (W : Wl K mg) : Callee P w K mg base (He.ga K "Field") 5 "divided_about" 3 [] m_divided_about := by
  obtain ⟨fd, F⟩ := W.c.def_ 50 (d := dd_divided_about) rfl
  have sc := sc_divided_about
  exact ⟨_, fd, ["field", "poly", "divisor"], [], [], fn_meaning F sc (fun cdv A outer s H E hr =>
    (css_cons (cs_tup2 3 4 (ce_call ((c_checked_divisor W).mono (by decide)) hr rfl (ca_cons (ce_var 0 (pv 0)) (ca_cons (ce_var 1 (pv 1)) (ca_cons (ce_var 2 (pv 2)) ca_nil)))) (pg_tup rfl (pgs_cons (pg_name (i := 3) sc.nd rfl (Or.inl rfl)) (pgs_cons (pg_name (i := 4) sc.nd rfl (Or.inl rfl)) pgs_nil))))
    (css_one (cs_ret (ce_call ((c_parted_about W).mono (by decide)) hr rfl (ca_cons (ce_var 0 (pv 0)) (ca_cons (ce_var 3 (pv 3)) (ca_cons (ce_var 4 (pv 4)) ca_nil)))))))), W.glo 47 rfl, F.kp, F.bindsN fun _ _ _ _ _ _ us hl => match us, hl with | [_, _, _], _ => rfl, .nil, fun _ _ => rfl⟩
theorem sc_last_rows : FnScope ["field", "one", "other", "high", "low", "quotient", "rest", "by_one", "by_other"] ["field", "one", "other"] (defScope s_last_rows) := ⟨rfl, rfl, rfl, by decide +kernel, rfl, by decide +kernel, by decide +kernel⟩
theorem c_last_rows {P : Program} {w : World} {K : PySem.W.Frag} {mg : Str → Option Value} {base : Heap} (W : Wl K mg) : Callee P w K mg base (He.ga K "Field") 5 "last_rows" 3 [] m_last_rows := by
  obtain ⟨fd, F⟩ := W.c.def_ 51 (d := dd_last_rows) rfl
  have sc := sc_last_rows
  exact ⟨_, fd, ["field", "one", "other"], [], [], fn_meaning F sc (fun cdv A outer s H E hr =>
    (css_cons (cs_asg 3 (ce_tup (ca_cons (ce_var 1 (pv 1)) (ca_cons (ce_tup (ca_cons ce_int ca_nil)) (ca_cons (ce_tup ca_nil) ca_nil)))) sc.nd rfl (Or.inl rfl) rfl (Or.inl rfl))
    (css_cons (cs_asg 4 (ce_tup (ca_cons (ce_var 2 (pv 2)) (ca_cons (ce_tup ca_nil) (ca_cons (ce_tup (ca_cons ce_int ca_nil)) ca_nil)))) sc.nd rfl (Or.inl rfl) rfl (Or.inl rfl))
    (css_cons (cs_while 100 PassesOwn.never (ct_cmp op_gt ov_gt (CE.toB (ce_len rfl (W.free 91 rfl) (CE.toB (ce_ix (cb_var 4 (pv 4)) (CE.toB ce_int) (by intro _ _; rfl))))) (CE.toB ce_int) (nomark _)) (css_cons (cs_tup2 5 6 (ce_call ((c_parted_about W).mono (by decide)) hr rfl (ca_cons (ce_var 0 (pv 0)) (ca_cons (ce_ix (cb_var 3 (pv 3)) (CE.toB ce_int) (by intro _ _; rfl)) (ca_cons (ce_ix (cb_var 4 (pv 4)) (CE.toB ce_int) (by intro _ _; rfl)) ca_nil)))) (pg_tup rfl (pgs_cons (pg_name (i := 5) sc.nd rfl (Or.inl rfl)) (pgs_cons (pg_name (i := 6) sc.nd rfl (Or.inl rfl)) pgs_nil))))
    (css_cons (cs_asg 7 (ce_call ((c_taken_terms W).mono (by decide)) hr rfl (ca_cons (ce_var 0 (pv 0)) (ca_cons (ce_ix (cb_var 3 (pv 3)) (CE.toB ce_int) (by intro _ _; rfl)) (ca_cons (ce_call ((c_nested_terms W).mono (by decide)) hr rfl (ca_cons (ce_var 0 (pv 0)) (ca_cons (ce_var 5 (pv 5)) (ca_cons (ce_ix (cb_var 4 (pv 4)) (CE.toB ce_int) (by intro _ _; rfl)) ca_nil)))) ca_nil)))) sc.nd rfl (Or.inl rfl) rfl (Or.inl rfl))
    (css_cons (cs_asg 8 (ce_call ((c_taken_terms W).mono (by decide)) hr rfl (ca_cons (ce_var 0 (pv 0)) (ca_cons (ce_ix (cb_var 3 (pv 3)) (CE.toB ce_int) (by intro _ _; rfl)) (ca_cons (ce_call ((c_nested_terms W).mono (by decide)) hr rfl (ca_cons (ce_var 0 (pv 0)) (ca_cons (ce_var 5 (pv 5)) (ca_cons (ce_ix (cb_var 4 (pv 4)) (CE.toB ce_int) (by intro _ _; rfl)) ca_nil)))) ca_nil)))) sc.nd rfl (Or.inl rfl) rfl (Or.inl rfl))
    (css_one (cs_par 3 4 rfl sc.nd rfl rfl (by decide) rfl rfl (ca_cons (ce_var 4 (pv 4)) (ca_cons (ce_tup (ca_cons (ce_var 6 (pv 6)) (ca_cons (ce_var 7 (pv 7)) (ca_cons (ce_var 8 (pv 8)) ca_nil)))) ca_nil)) rfl))))))
    (css_one (cs_ret (ce_tup (ca_cons (ce_var 3 (pv 3)) (ca_cons (ce_var 4 (pv 4)) ca_nil))))))))), W.glo 48 rfl, F.kp, F.bindsN fun _ _ _ _ _ _ us hl => match us, hl with | [_, _, _], _ => rfl, .nil, fun _ _ => rfl⟩
theorem sc_common_parts : FnScope ["field", "one", "other", "first", "second", "told", "factor", "terms"] ["field", "one", "other"] (defScope s_common_parts) := ⟨rfl, rfl, rfl, by decide +kernel, rfl, by decide +kernel, by decide +kernel⟩
theorem c_common_parts {P : Program} {w : World} {K : PySem.W.Frag} {mg : Str → Option Value} {base : Heap} (W : Wl K mg) : Callee P w K mg base (He.ga K "Field") 6 "common_parts" 3 [] m_common_parts := by
  obtain ⟨fd, F⟩ := W.c.def_ 52 (d := dd_common_parts) rfl
  have sc := sc_common_parts
  exact ⟨_, fd, ["field", "one", "other"], [], [], fn_meaning F sc (fun cdv A outer s H E hr =>
    (css_cons (cs_asg 3 (ce_call ((c_check_poly_d W).mono (by decide)) hr rfl (ca_cons (ce_var 0 (pv 0)) (ca_cons (ce_var 1 (pv 1)) ca_nil))) sc.nd rfl (Or.inl rfl) rfl (Or.inl rfl))
    (css_cons (cs_asg 4 (ce_call ((c_check_poly_d W).mono (by decide)) hr rfl (ca_cons (ce_var 0 (pv 0)) (ca_cons (ce_var 2 (pv 2)) ca_nil))) sc.nd rfl (Or.inl rfl) rfl (Or.inl rfl))
    (css_cons (cs_if (CW.t (cw_and (ct_cmp (op_eq2 hr.units) ov_eq (CE.toB (ce_len rfl (W.free 91 rfl) (cb_var 3 (pv 3)))) (CE.toB ce_int) (nomark _)) (cw_and1 (ct_cmp (op_eq2 hr.units) ov_eq (CE.toB (ce_len rfl (W.free 91 rfl) (cb_var 4 (pv 4)))) (CE.toB ce_int) (nomark _))))) (css_one (cs_ret (ce_tup (ca_cons (ce_tup ca_nil) (ca_cons (ce_tup ca_nil) (ca_cons (ce_tup ca_nil) ca_nil)))))) css_nil)
    (css_cons (cs_asg 5 (ce_ix (CE.toB (ce_call ((c_last_rows W).mono (by decide)) hr rfl (ca_cons (ce_var 0 (pv 0)) (ca_cons (ce_var 3 (pv 3)) (ca_cons (ce_var 4 (pv 4)) ca_nil))))) (CE.toB ce_int) (by intro _ _; rfl)) sc.nd rfl (Or.inl rfl) rfl (Or.inl rfl))
    (css_cons (cs_asg 6 (ce_meth ((c_F_inverse W).mono (by decide)) hr W.cls (by decide +kernel) (ce_var 0 (pv 0)) (ca_cons (ce_ix (CE.toB (ce_ix (cb_var 5 (pv 5)) (CE.toB ce_int) (by intro _ _; rfl))) (CE.toB (ce_neg ce_int)) (by intro _ _; rfl)) ca_nil)) sc.nd rfl (Or.inr rfl) rfl (Or.inl rfl))
    (css_one (cs_ret (ce_tuple rfl (W.free 97 rfl) (CL.toB (cl_lc1 7 rfl sc.nd (blkOk_by (by kernel_rfl)) (cb_seq (cb_var 5 (pv 5))) (fun _ _ _ _ _ => (pg_name (i := 7) sc.nd rfl (Or.inl rfl))) (fun _ _ _ _ _ => pts_yes) (fun _ _ _ _ _ => (ce_call ((c_scaled_terms W).mono (by decide)) hr rfl (ca_cons (ce_var 0 (pv 0)) (ca_cons (ce_var 6 (pv 6)) (ca_cons (ce_var 7 (pv 7)) ca_nil)))))))))))))))), W.glo 49 rfl, F.kp, F.bindsN fun _ _ _ _ _ _ us hl => match us, hl with | [_, _, _], _ => rfl, .nil, fun _ _ => rfl⟩
theorem sc_common_about : FnScope ["field", "one", "other"] ["field", "one", "other"] (defScope s_common_about) := ⟨rfl, rfl, rfl, by decide +kernel, rfl, by decide +kernel, by decide +kernel⟩
theorem c_common_about {P : Program} {w : World} {K : PySem.W.Frag} {mg : Str → Option Value} {base : Heap} (W : Wl K mg) : Callee P w K mg base (He.ga K "Field") 7 "common_about" 3 [] m_common_about := by
  obtain ⟨fd, F⟩ := W.c.def_ 53 (d := dd_common_about) rfl
  have sc := sc_common_about
  exact ⟨_, fd, ["field", "one", "other"], [], [], fn_meaning F sc (fun cdv A outer s H E hr =>
    (css_one (cs_ret (ce_ix (CE.toB (ce_call ((c_common_parts W).mono (by decide)) hr rfl (ca_cons (ce_var 0 (pv 0)) (ca_cons (ce_var 1 (pv 1)) (ca_cons (ce_var 2 (pv 2)) ca_nil))))) (CE.toB ce_int) (by intro _ _; rfl))))), W.glo 50 rfl, F.kp, F.bindsN fun _ _ _ _ _ _ us hl => match us, hl with | [_, _, _], _ => rfl, .nil, fun _ _ => rfl⟩
theorem sc_least_about : FnScope ["field", "one", "other", "first", "second", "told"] ["field", "one", "other"] (defScope s_least_about) := ⟨rfl, rfl, rfl, by decide +kernel, rfl, by decide +kernel, by decide +kernel⟩
theorem c_least_about {P : Program} {w : World} {K : PySem.W.Frag} {mg : Str → Option Value} {base : Heap} (W : Wl K mg) : Callee P w K mg base (He.ga K "Field") 6 "least_about" 3 [] m_least_about := by
  obtain ⟨fd, F⟩ := W.c.def_ 54 (d := dd_least_about) rfl
  have sc := sc_least_about
  exact ⟨_, fd, ["field", "one", "other"], [], [], fn_meaning F sc (fun cdv A outer s H E hr =>
    (css_cons (cs_asg 3 (ce_call ((c_check_poly_d W).mono (by decide)) hr rfl (ca_cons (ce_var 0 (pv 0)) (ca_cons (ce_var 1 (pv 1)) ca_nil))) sc.nd rfl (Or.inl rfl) rfl (Or.inl rfl))
    (css_cons (cs_asg 4 (ce_call ((c_check_poly_d W).mono (by decide)) hr rfl (ca_cons (ce_var 0 (pv 0)) (ca_cons (ce_var 2 (pv 2)) ca_nil))) sc.nd rfl (Or.inl rfl) rfl (Or.inl rfl))
    (css_cons (cs_if (CW.t (cw_or (ct_cmp (op_eq2 hr.units) ov_eq (CE.toB (ce_len rfl (W.free 91 rfl) (cb_var 3 (pv 3)))) (CE.toB ce_int) (nomark _)) (cw_or1 (ct_cmp (op_eq2 hr.units) ov_eq (CE.toB (ce_len rfl (W.free 91 rfl) (cb_var 4 (pv 4)))) (CE.toB ce_int) (nomark _))))) (css_one (cs_ret (ce_tup ca_nil))) css_nil)
    (css_cons (cs_asg 5 (ce_call ((c_nested_terms W).mono (by decide)) hr rfl (ca_cons (ce_var 0 (pv 0)) (ca_cons (ce_ix (CE.toB (ce_ix (CE.toB (ce_call ((c_last_rows W).mono (by decide)) hr rfl (ca_cons (ce_var 0 (pv 0)) (ca_cons (ce_var 3 (pv 3)) (ca_cons (ce_var 4 (pv 4)) ca_nil))))) (CE.toB ce_int) (by intro _ _; rfl))) (CE.toB ce_int) (by intro _ _; rfl)) (ca_cons (ce_var 3 (pv 3)) ca_nil)))) sc.nd rfl (Or.inl rfl) rfl (Or.inl rfl))
    (css_one (cs_ret (ce_call ((c_scaled_terms W).mono (by decide)) hr rfl (ca_cons (ce_var 0 (pv 0)) (ca_cons (ce_meth ((c_F_inverse W).mono (by decide)) hr W.cls (by decide +kernel) (ce_var 0 (pv 0)) (ca_cons (ce_ix (cb_var 5 (pv 5)) (CE.toB (ce_neg ce_int)) (by intro _ _; rfl)) ca_nil)) (ca_cons (ce_var 5 (pv 5)) ca_nil))))))))))), W.glo 51 rfl, F.kp, F.bindsN fun _ _ _ _ _ _ us hl => match us, hl with | [_, _, _], _ => rfl, .nil, fun _ _ => rfl⟩
theorem sc_widened_poly : FnScope ["field", "poly", "value", "part"] ["field", "poly", "value"] (defScope s_widened_poly) := ⟨rfl, rfl, rfl, by decide +kernel, rfl, by decide +kernel, by decide +kernel⟩
theorem c_widened_poly {P : Program} {w : World} {K : PySem.W.Frag} {mg : Str → Option Value} {base : Heap} (W : Wl K mg) : Callee P w K mg base (He.ga K "Field") 3 "widened_poly" 3 [] m_widened_poly := by
  obtain ⟨fd, F⟩ := W.c.def_ 55 (d := dd_widened_poly) rfl
  have sc := sc_widened_poly
  exact ⟨_, fd, ["field", "poly", "value"], [], [], fn_meaning F sc (fun cdv A outer s H E hr =>
    (css_cons (cs_asg 3 (ce_meth ((c_F_over W).mono (by decide)) hr W.cls (by decide +kernel) (ce_var 0 (pv 0)) (ca_cons (ce_meth ((c_F_stepped W).mono (by decide)) hr W.cls (by decide +kernel) (ce_var 0 (pv 0)) (ca_cons (ce_var 2 (pv 2)) (ca_cons ce_int ca_nil))) (ca_cons (ce_var 2 (pv 2)) ca_nil))) sc.nd rfl (Or.inl rfl) rfl (Or.inl rfl))
    (css_one (cs_ret (ce_call ((c_nested_terms W).mono (by decide)) hr rfl (ca_cons (ce_var 0 (pv 0)) (ca_cons (ce_tup (ca_cons (ce_meth ((c_F_negative W).mono (by decide)) hr W.cls (by decide +kernel) (ce_var 0 (pv 0)) (ca_cons (ce_var 3 (pv 3)) ca_nil)) (ca_cons ce_int ca_nil))) (ca_cons (ce_var 1 (pv 1)) ca_nil)))))))), W.glo 52 rfl, F.kp, F.bindsN fun _ _ _ _ _ _ us hl => match us, hl with | [_, _, _], _ => rfl, .nil, fun _ _ => rfl⟩
theorem sc_poly_of_space : FnScope ["field", "things", "told", "thing", "value"] ["field", "things"] (defScope s_poly_of_space) := ⟨rfl, rfl, rfl, by decide +kernel, rfl, by decide +kernel, by decide +kernel⟩
theorem c_poly_of_space {P : Program} {w : World} {K : PySem.W.Frag} {mg : Str → Option Value} {base : Heap} (W : Wl K mg) : Callee P w K mg base (He.ga K "Field") 4 "poly_of_space" 2 [] m_poly_of_space := by
  obtain ⟨fd, F⟩ := W.c.def_ 56 (d := dd_poly_of_space) rfl
  have sc := sc_poly_of_space
  exact ⟨_, fd, ["field", "things"], [], [], fn_meaning F sc (fun cdv A outer s H E hr =>
    (css_cons (cs_asg 2 (ce_tup (ca_cons ce_int ca_nil)) sc.nd rfl (Or.inl rfl) rfl (Or.inl rfl))
    (css_cons (cs_for1 3 PassesOwn.never rfl (ci_seq (ce_call ((c_check_things W).mono (by decide)) hr rfl (ca_cons (ce_var 0 (pv 0)) (ca_cons (ce_var 1 (pv 1)) (ca_cons ce_int ca_nil))))) (pg_name (i := 3) sc.nd rfl (Or.inl rfl)) (css_cons (cs_asg 4 (ce_call ((c_reached_value W).mono (by decide)) hr rfl (ca_cons (ce_var 0 (pv 0)) (ca_cons (ce_var 2 (pv 2)) (ca_cons (ce_var 3 (pv 3)) ca_nil)))) sc.nd rfl (Or.inl rfl) rfl (Or.inl rfl))
    (css_one (cs_if (ct_cmp (op_ne2 hr.units) ov_ne (cb_var 4 (pv 4)) (CE.toB ce_int) (nomark _)) (css_one (cs_asg 2 (ce_call ((c_widened_poly W).mono (by decide)) hr rfl (ca_cons (ce_var 0 (pv 0)) (ca_cons (ce_var 2 (pv 2)) (ca_cons (ce_var 4 (pv 4)) ca_nil)))) sc.nd rfl (Or.inl rfl) rfl (Or.inl rfl))) css_nil))))
    (css_one (cs_ret (ce_var 2 (pv 2))))))), W.glo 53 rfl, F.kp, F.bindsN fun _ _ _ _ _ _ us hl => match us, hl with | [_, _], _ => rfl, .nil, fun _ _ => rfl⟩
theorem sc_l_stir : FnScope ["_law_one", "_law_two", "_law_first_here", "_law_second"] ["_law_one", "_law_two"] (defScope s_l_stir) := ⟨rfl, rfl, rfl, by decide +kernel, rfl, by decide +kernel, by decide +kernel⟩
theorem c_l_stir {P : Program} {w : World} {K : PySem.W.Frag} {mg : Str → Option Value} {base : Heap} (W : Wl K mg) : Callee P w K mg base (He.ga K "Field") 1 "_law_stir" 2 [] m_l_stir := by
  obtain ⟨fd, F⟩ := W.c.def_ 57 (d := dd_l_stir) rfl
  have sc := sc_l_stir
  exact ⟨_, fd, ["_law_one", "_law_two"], [], [], fn_meaning F sc (fun cdv A outer s H E hr =>
    (css_cons (cs_asg 2 (ce_op op_mod ov_mod (CE.toB (ce_intc rfl (W.free 89 rfl) (CE.toB (ce_op op_add3 ov_add (CE.toB (ce_op op_add3 ov_add (CE.toB (ce_op op_mul2 ov_mul (cb_var 0 (pv 0)) (CE.toB ce_int))) (CE.toB (ce_op op_mul2 ov_mul (cb_var 1 (pv 1)) (CE.toB ce_int))))) (CE.toB ce_int))))) (CE.toB ce_int)) sc.nd rfl (Or.inl rfl) rfl (Or.inl rfl))
    (css_cons (cs_asg 3 (ce_op op_mod ov_mod (CE.toB (ce_intc rfl (W.free 89 rfl) (CE.toB (ce_op op_add3 ov_add (CE.toB (ce_op op_add3 ov_add (CE.toB (ce_op op_mul2 ov_mul (cb_var 2 (pv 2)) (cb_var 2 (pv 2)))) (CE.toB (ce_op op_mul2 ov_mul (CE.toB (ce_op op_fdiv ov_div (cb_var 2 (pv 2)) (CE.toB ce_int))) (CE.toB ce_int))))) (CE.toB (ce_op op_mul2 ov_mul (cb_var 1 (pv 1)) (CE.toB ce_int))))))) (CE.toB ce_int)) sc.nd rfl (Or.inl rfl) rfl (Or.inl rfl))
    (css_one (cs_ret (ce_op op_fdiv ov_div (CE.toB (ce_op op_mod ov_mod (CE.toB (ce_intc rfl (W.free 89 rfl) (CE.toB (ce_op op_add3 ov_add (CE.toB (ce_op op_fdiv ov_div (CE.toB (ce_op op_mul2 ov_mul (cb_var 3 (pv 3)) (cb_var 3 (pv 3)))) (CE.toB ce_int))) (CE.toB (ce_op op_mul2 ov_mul (cb_var 2 (pv 2)) (CE.toB ce_int))))))) (CE.toB ce_int))) (CE.toB ce_int))))))), W.glo 54 rfl, F.kp, F.bindsN fun _ _ _ _ _ _ us hl => match us, hl with | [_, _], _ => rfl, .nil, fun _ _ => rfl⟩
theorem sc_l_hand : FnScope ["_law_script", "_law_total", "_law_place", "_law_cell"] ["_law_script"] (defScope s_l_hand) := ⟨rfl, rfl, rfl, by decide +kernel, rfl, by decide +kernel, by decide +kernel⟩
theorem c_l_hand {P : Program} {w : World} {K : PySem.W.Frag} {mg : Str → Option Value} {base : Heap} (W : Wl K mg) : Callee P w K mg base (He.ga K "Field") 1 "_law_hand" 1 [] m_l_hand := by
  obtain ⟨fd, F⟩ := W.c.def_ 58 (d := dd_l_hand) rfl
  have sc := sc_l_hand
  exact ⟨_, fd, ["_law_script"], [], [], fn_meaning F sc (fun cdv A outer s H E hr =>
    (css_cons (cs_asg 1 ce_int sc.nd rfl (Or.inl rfl) rfl (Or.inl rfl))
    (css_cons (cs_for2 2 3 PassesOwn.never rfl (ci_enum rfl (W.free 88 rfl) (ce_var 0 (pv 0))) (pg_tup rfl (pgs_cons (pg_name (i := 2) sc.nd rfl (Or.inl rfl)) (pgs_cons (pg_name (i := 3) sc.nd rfl (Or.inl rfl)) pgs_nil))) (css_one (cs_asg 1 (ce_op op_mod ov_mod (CE.toB (ce_intc rfl (W.free 89 rfl) (CE.toB (ce_op op_add3 ov_add (CE.toB (ce_op op_mul2 ov_mul (cb_var 1 (pv 1)) (CE.toB ce_int))) (CE.toB (ce_op op_mul2 ov_mul (CE.toB (ce_intc rfl (W.free 89 rfl) (cb_var 3 (pv 3)))) (CE.toB (ce_op op_add3 ov_add (cb_var 2 (pv 2)) (CE.toB ce_int))))))))) (CE.toB ce_int)) sc.nd rfl (Or.inl rfl) rfl (Or.inl rfl))))
    (css_one (cs_ret (CL.toE (cl_lst (ca_cons (CL.toE (cl_lc1 3 rfl sc.nd (blkOk_by (by kernel_rfl)) (cb_seq (cb_var 0 (pv 0))) (fun _ _ _ _ _ => (pg_name (i := 3) sc.nd rfl (Or.inl rfl))) (fun _ _ _ _ _ => pts_yes) (fun _ _ _ _ _ => (ce_abs rfl (W.free 84 rfl) (CE.toB (ce_intc rfl (W.free 89 rfl) (cb_var 3 (pv 3)))))))) (ca_cons ce_int (ca_cons ce_int (ca_cons (ce_var 1 (pv 1)) ca_nil))))))))))), W.glo 55 rfl, F.kp, F.bindsN fun _ _ _ _ _ _ us hl => match us, hl with | [_], _ => rfl, .nil, fun _ _ => rfl⟩
theorem o_l_hand {P : Program} {w : World} {K : PySem.W.Frag} {mg : Str → Option Value} {base : Heap} (W : Wl K mg) {fd : FuncData} (F : FunD K dd_l_hand.name dd_l_hand.qual dd_l_hand.params dd_l_hand.body dd_l_hand.scope (dd_l_hand.dvs K) (dd_l_hand.kws K) (He.fAd K dd_l_hand.at_) fd) : FnOk P w K mg base CX0 1 (He.fAd K dd_l_hand.at_) fd ["_law_script"] (spOf K (He.ga K "Field") 1 m_l_hand) := by
  have sc := sc_l_hand
  exact fn_meaning F sc (fun cdv A outer s H E hr =>
    (css_cons (cs_asg 1 ce_int sc.nd rfl (Or.inl rfl) rfl (Or.inl rfl))
    (css_cons (cs_for2 2 3 PassesOwn.never rfl (ci_enum rfl (W.free 88 rfl) (ce_var 0 (pv 0))) (pg_tup rfl (pgs_cons (pg_name (i := 2) sc.nd rfl (Or.inl rfl)) (pgs_cons (pg_name (i := 3) sc.nd rfl (Or.inl rfl)) pgs_nil))) (css_one (cs_asg 1 (ce_op op_mod ov_mod (CE.toB (ce_intc rfl (W.free 89 rfl) (CE.toB (ce_op op_add3 ov_add (CE.toB (ce_op op_mul2 ov_mul (cb_var 1 (pv 1)) (CE.toB ce_int))) (CE.toB (ce_op op_mul2 ov_mul (CE.toB (ce_intc rfl (W.free 89 rfl) (cb_var 3 (pv 3)))) (CE.toB (ce_op op_add3 ov_add (cb_var 2 (pv 2)) (CE.toB ce_int))))))))) (CE.toB ce_int)) sc.nd rfl (Or.inl rfl) rfl (Or.inl rfl))))
    (css_one (cs_ret (CL.toE (cl_lst (ca_cons (CL.toE (cl_lc1 3 rfl sc.nd (blkOk_by (by kernel_rfl)) (cb_seq (cb_var 0 (pv 0))) (fun _ _ _ _ _ => (pg_name (i := 3) sc.nd rfl (Or.inl rfl))) (fun _ _ _ _ _ => pts_yes) (fun _ _ _ _ _ => (ce_abs rfl (W.free 84 rfl) (CE.toB (ce_intc rfl (W.free 89 rfl) (cb_var 3 (pv 3)))))))) (ca_cons ce_int (ca_cons ce_int (ca_cons (ce_var 1 (pv 1)) ca_nil)))))))))))
theorem sc_l_draw : FnScope ["_law_hand_here", "_law_many", "_law_cell", "_law_rest"] ["_law_hand_here", "_law_many"] (defScope s_l_draw) := ⟨rfl, rfl, rfl, by decide +kernel, rfl, by decide +kernel, by decide +kernel⟩
theorem c_l_draw {P : Program} {w : World} {K : PySem.W.Frag} {mg : Str → Option Value} {base : Heap} (W : Wl K mg) : Callee P w K mg base (He.ga K "Field") 2 "_law_draw" 2 [] m_l_draw := by
  obtain ⟨fd, F⟩ := W.c.def_ 59 (d := dd_l_draw) rfl
  have sc := sc_l_draw
  exact ⟨_, fd, ["_law_hand_here", "_law_many"], [], [], fn_meaning F sc (fun cdv A outer s H E hr =>
    (css_cons (cs_if (CW.t (cw_and (ct_cmp (op_eq2 hr.units) ov_eq (CE.toB (ce_hand 0 (pv 0))) (CE.toB ce_int) (nomark _)) (cw_and1 (ct_cmp op_lt ov_lt (CE.toB (ce_hand 0 (pv 0))) (CE.toB (ce_len rfl (W.free 91 rfl) (CE.toB (ce_hand 0 (pv 0))))) (nomark _))))) (css_cons (cs_asg 2 (ce_ix (CE.toB (ce_hand 0 (pv 0))) (CE.toB (ce_hand 0 (pv 0))) (by intro _ _; rfl)) sc.nd rfl (Or.inl rfl) rfl (Or.inl rfl))
    (css_cons (cs_sto 0 (pv 0) ce_int (ce_op op_add3 ov_add (CE.toB (ce_hand 0 (pv 0))) (CE.toB ce_int)))
    (css_cons (cs_if (ct_cmp op_lt ov_lt (cb_var 2 (pv 2)) (CE.toB (ce_op op_pow ov_pow (CE.toB ce_int) (CE.toB ce_int))) (nomark _)) (css_one (cs_ret (ce_op op_mod ov_mod (CE.toB (ce_intc rfl (W.free 89 rfl) (CE.toB (ce_call ((c_l_stir W).mono (by decide)) hr rfl (ca_cons (ce_op op_mod ov_mod (CE.toB (ce_intc rfl (W.free 89 rfl) (cb_var 2 (pv 2)))) (CE.toB ce_int)) (ca_cons (ce_hand 0 (pv 0)) ca_nil)))))) (cb_var 1 (pv 1))))) css_nil)
    (css_one (cs_sto 0 (pv 0) ce_int (ce_var 2 (pv 2))))))) css_nil)
    (css_cons (cs_if (ct_cmp op_gt ov_gt (CE.toB (ce_hand 0 (pv 0))) (CE.toB ce_int) (nomark _)) (css_cons (cs_asg 3 (ce_hand 0 (pv 0)) sc.nd rfl (Or.inl rfl) rfl (Or.inl rfl))
    (css_cons (cs_sto 0 (pv 0) ce_int (ce_op op_fdiv ov_div (cb_var 3 (pv 3)) (cb_var 1 (pv 1))))
    (css_one (cs_ret (ce_op op_mod ov_mod (CE.toB (ce_intc rfl (W.free 89 rfl) (cb_var 3 (pv 3)))) (cb_var 1 (pv 1))))))) css_nil)
    (css_cons (cs_sto 0 (pv 0) ce_int (ce_op op_mod ov_mod (CE.toB (ce_intc rfl (W.free 89 rfl) (CE.toB (ce_op op_add3 ov_add (CE.toB (ce_hand 0 (pv 0))) (CE.toB ce_int))))) (CE.toB ce_int)))
    (css_one (cs_ret (ce_op op_mod ov_mod (CE.toB (ce_intc rfl (W.free 89 rfl) (CE.toB (ce_call ((c_l_stir W).mono (by decide)) hr rfl (ca_cons (ce_hand 0 (pv 0)) (ca_cons (ce_hand 0 (pv 0)) ca_nil)))))) (cb_var 1 (pv 1))))))))), W.glo 56 rfl, F.kp, F.bindsN fun _ _ _ _ _ _ us hl => match us, hl with | [_, _], _ => rfl, .nil, fun _ _ => rfl⟩
theorem sc_l_moduli : FnScope ["_law_prime", "_law_degree", "_law_rows_here", "_law_wide"] ["_law_prime", "_law_degree"] (defScope s_l_moduli) := ⟨rfl, rfl, rfl, by decide +kernel, rfl, by decide +kernel, by decide +kernel⟩
theorem c_l_moduli {P : Program} {w : World} {K : PySem.W.Frag} {mg : Str → Option Value} {base : Heap} (W : Wl K mg) : Callee P w K mg base (He.ga K "Field") 1 "_law_moduli" 2 [] m_l_moduli := by
  obtain ⟨fd, F⟩ := W.c.def_ 60 (d := dd_l_moduli) rfl
  have sc := sc_l_moduli
  exact ⟨_, fd, ["_law_prime", "_law_degree"], [], [], fn_meaning F sc (fun cdv A outer s H E hr =>
    (css_cons (cs_if (ct_cmp (op_eq2 hr.units) ov_eq (cb_var 0 (pv 0)) (CE.toB ce_int) (nomark _)) (css_cons (cs_own 2 (cl_lst (ca_cons (CL.toE (cl_lst (ca_cons (ce_tup (ca_cons ce_int (ca_cons ce_int ca_nil))) (ca_cons (ce_tup (ca_cons ce_int (ca_cons ce_int ca_nil))) ca_nil)))) (ca_cons (CL.toE (cl_lst (ca_cons (ce_tup (ca_cons ce_int (ca_cons ce_int (ca_cons ce_int ca_nil)))) ca_nil))) (ca_cons (CL.toE (cl_lst (ca_cons (ce_tup (ca_cons ce_int (ca_cons ce_int (ca_cons ce_int (ca_cons ce_int ca_nil))))) (ca_cons (ce_tup (ca_cons ce_int (ca_cons ce_int (ca_cons ce_int (ca_cons ce_int ca_nil))))) ca_nil)))) ca_nil)))) sc.nd rfl (Or.inl rfl) rfl (Or.inl rfl))
    (css_cons (cs_app 2 (pv 2) (CL.toE (cl_lst (ca_cons (ce_tup (ca_cons ce_int (ca_cons ce_int (ca_cons ce_int (ca_cons ce_int (ca_cons ce_int ca_nil)))))) (ca_cons (ce_tup (ca_cons ce_int (ca_cons ce_int (ca_cons ce_int (ca_cons ce_int (ca_cons ce_int ca_nil)))))) (ca_cons (ce_tup (ca_cons ce_int (ca_cons ce_int (ca_cons ce_int (ca_cons ce_int (ca_cons ce_int ca_nil)))))) ca_nil))))))
    (css_one (cs_ret (ce_ix (cb_var 2 (pv 2)) (CE.toB (ce_op op_sub ov_sub (cb_var 1 (pv 1)) (CE.toB ce_int))) (by intro _ _; rfl)))))) css_nil)
    (css_cons (cs_own 2 (cl_lst (ca_cons (CL.toE (cl_lst (ca_cons (ce_tup (ca_cons ce_int (ca_cons ce_int ca_nil))) (ca_cons (ce_tup (ca_cons ce_int (ca_cons ce_int ca_nil))) (ca_cons (ce_tup (ca_cons ce_int (ca_cons ce_int ca_nil))) ca_nil))))) (ca_cons (CL.toE (cl_lst (ca_cons (ce_tup (ca_cons ce_int (ca_cons ce_int (ca_cons ce_int ca_nil)))) (ca_cons (ce_tup (ca_cons ce_int (ca_cons ce_int (ca_cons ce_int ca_nil)))) (ca_cons (ce_tup (ca_cons ce_int (ca_cons ce_int (ca_cons ce_int ca_nil)))) ca_nil))))) ca_nil))) sc.nd rfl (Or.inl rfl) rfl (Or.inl rfl))
    (css_cons (cs_asg 3 (CL.toE (cl_lst (ca_cons (ce_tup (ca_cons ce_int (ca_cons ce_int (ca_cons ce_int (ca_cons ce_int ca_nil))))) (ca_cons (ce_tup (ca_cons ce_int (ca_cons ce_int (ca_cons ce_int (ca_cons ce_int ca_nil))))) (ca_cons (ce_tup (ca_cons ce_int (ca_cons ce_int (ca_cons ce_int (ca_cons ce_int ca_nil))))) (ca_cons (ce_tup (ca_cons ce_int (ca_cons ce_int (ca_cons ce_int (ca_cons ce_int ca_nil))))) ca_nil)))))) sc.nd rfl (Or.inl rfl) rfl (Or.inl rfl))
    (css_cons (cs_app 2 (pv 2) (ce_op op_add3 ov_add (cb_var 3 (pv 3)) (CL.toB (cl_lst (ca_cons (ce_tup (ca_cons ce_int (ca_cons ce_int (ca_cons ce_int (ca_cons ce_int ca_nil))))) (ca_cons (ce_tup (ca_cons ce_int (ca_cons ce_int (ca_cons ce_int (ca_cons ce_int ca_nil))))) (ca_cons (ce_tup (ca_cons ce_int (ca_cons ce_int (ca_cons ce_int (ca_cons ce_int ca_nil))))) (ca_cons (ce_tup (ca_cons ce_int (ca_cons ce_int (ca_cons ce_int (ca_cons ce_int ca_nil))))) ca_nil))))))))
    (css_one (cs_ret (ce_ix (cb_var 2 (pv 2)) (CE.toB (ce_op op_sub ov_sub (cb_var 1 (pv 1)) (CE.toB ce_int))) (by intro _ _; rfl))))))))), W.glo 57 rfl, F.kp, F.bindsN fun _ _ _ _ _ _ us hl => match us, hl with | [_, _], _ => rfl, .nil, fun _ _ => rfl⟩
theorem sc_l_power : FnScope ["_law_base", "_law_times", "_law_told", "_law_turn"] ["_law_base", "_law_times"] (defScope s_l_power) := ⟨rfl, rfl, rfl, by decide +kernel, rfl, by decide +kernel, by decide +kernel⟩
theorem c_l_power {P : Program} {w : World} {K : PySem.W.Frag} {mg : Str → Option Value} {base : Heap} (W : Wl K mg) : Callee P w K mg base (He.ga K "Field") 1 "_law_power" 2 [] m_l_power := by
  obtain ⟨fd, F⟩ := W.c.def_ 61 (d := dd_l_power) rfl
  have sc := sc_l_power
  exact ⟨_, fd, ["_law_base", "_law_times"], [], [], fn_meaning F sc (fun cdv A outer s H E hr =>
    (css_cons (cs_asg 2 ce_int sc.nd rfl (Or.inl rfl) rfl (Or.inl rfl))
    (css_cons (cs_for1 3 PassesOwn.never rfl (ci_rng1 rfl (W.free 94 rfl) (ca_cons (ce_var 1 (pv 1)) ca_nil) (h1 := (len_cons (fun _ _ _ _ h => len_nil h)))) (pg_name (i := 3) sc.nd rfl (Or.inl rfl)) (css_one (cs_asg 2 (ce_op op_mul2 ov_mul (cb_var 2 (pv 2)) (cb_var 0 (pv 0))) sc.nd rfl (Or.inl rfl) rfl (Or.inl rfl))))
    (css_one (cs_ret (ce_var 2 (pv 2))))))), W.glo 58 rfl, F.kp, F.bindsN fun _ _ _ _ _ _ us hl => match us, hl with | [_, _], _ => rfl, .nil, fun _ _ => rfl⟩
theorem sc_l_sums : FnScope ["_law_prime", "_law_size", "_law_rows_here", "_law_many", "_law_wide", "_law_told", "_law_one", "_law_row", "_law_high", "_law_k"] ["_law_prime", "_law_size"] (defScope s_l_sums) := ⟨rfl, rfl, rfl, by decide +kernel, rfl, by decide +kernel, by decide +kernel⟩
theorem c_l_sums {P : Program} {w : World} {K : PySem.W.Frag} {mg : Str → Option Value} {base : Heap} (W : Wl K mg) : Callee P w K mg base (He.ga K "Field") 1 "_law_sums" 2 [] m_l_sums := by
  obtain ⟨fd, F⟩ := W.c.def_ 62 (d := dd_l_sums) rfl
  have sc := sc_l_sums
  exact ⟨_, fd, ["_law_prime", "_law_size"], [], [], fn_meaning F sc (fun cdv A outer s H E hr =>
    (css_cons (cs_asg 2 (CL.toE (cl_lst (ca_cons (CL.toE (cl_lst (ca_cons ce_int ca_nil))) ca_nil))) sc.nd rfl (Or.inl rfl) rfl (Or.inl rfl))
    (css_cons (cs_asg 3 ce_int sc.nd rfl (Or.inr rfl) rfl (Or.inl rfl))
    (css_cons (cs_while 10 PassesOwn.never (ct_cmp op_lt ov_lt (cb_var 3 (pv 3)) (cb_var 1 (pv 1)) (nomark _)) (css_cons (cs_asg 4 (ce_op op_mul2 ov_mul (cb_var 3 (pv 3)) (cb_var 0 (pv 0))) sc.nd rfl (Or.inl rfl) rfl (Or.inl rfl))
    (css_cons (cs_own 5 (cl_lst ca_nil) sc.nd rfl (Or.inl rfl) rfl (Or.inl rfl))
    (css_cons (cs_for1 6 PassesOwn.never rfl (ci_rng1 rfl (W.free 94 rfl) (ca_cons (ce_var 4 (pv 4)) ca_nil) (h1 := (len_cons (fun _ _ _ _ h => len_nil h)))) (pg_name (i := 6) sc.nd rfl (Or.inl rfl)) (css_cons (cs_asg 7 (ce_ix (cb_var 2 (pv 2)) (CE.toB (ce_op op_mod ov_mod (CE.toB (ce_intc rfl (W.free 89 rfl) (cb_var 6 (pv 6)))) (cb_var 3 (pv 3)))) (by intro _ _; rfl)) sc.nd rfl (Or.inr rfl) rfl (Or.inl rfl))
    (css_cons (cs_asg 8 (ce_op op_fdiv ov_div (cb_var 6 (pv 6)) (cb_var 3 (pv 3))) sc.nd rfl (Or.inr rfl) rfl (Or.inl rfl))
    (css_one (cs_app 5 (pv 5) (CL.toE (cl_lc1 9 rfl sc.nd (blkOk_by (by kernel_rfl)) (ci_b (ci_rng1 rfl (W.free 94 rfl) (ca_cons (ce_var 4 (pv 4)) ca_nil) (h1 := (len_cons (fun _ _ _ _ h => len_nil h))))) (fun _ _ _ _ _ => (pg_name (i := 9) sc.nd rfl (Or.inl rfl))) (fun _ _ _ _ _ => pts_yes) (fun _ _ _ _ _ => (ce_op op_add3 ov_add (CE.toB (ce_ix (cb_var 7 (pv 7)) (CE.toB (ce_op op_mod ov_mod (CE.toB (ce_intc rfl (W.free 89 rfl) (cb_var 9 (pv 9)))) (cb_var 3 (pv 3)))) (by intro _ _; rfl))) (CE.toB (ce_op op_mul2 ov_mul (cb_var 3 (pv 3)) (CE.toB (ce_op op_mod ov_mod (CE.toB (ce_intc rfl (W.free 89 rfl) (CE.toB (ce_op op_add3 ov_add (cb_var 8 (pv 8)) (CE.toB (ce_op op_fdiv ov_div (cb_var 9 (pv 9)) (cb_var 3 (pv 3)))))))) (cb_var 0 (pv 0)))))))))))))))
    (css_cons (cs_freeze 5 (cs_asg 2 (ce_var 5 (pv 5)) sc.nd rfl (Or.inl rfl) rfl (Or.inl rfl)))
    (css_one (cs_asg 3 (ce_var 4 (pv 4)) sc.nd rfl (Or.inr rfl) rfl (Or.inl rfl))))))))
    (css_one (cs_ret (ce_var 2 (pv 2)))))))), W.glo 59 rfl, F.kp, F.bindsN fun _ _ _ _ _ _ us hl => match us, hl with | [_, _], _ => rfl, .nil, fun _ _ => rfl⟩
theorem sc_l_products : FnScope ["_law_prime", "_law_modulus", "_law_sums_here", "_law_size", "_law_low", "_law_digit", "_law_less", "_law_lead", "_law_table", "_law_thing", "_law_row", "_law_now", "_law_copies", "_law_many", "_law_k", "_law_high", "_law_turn"] ["_law_prime", "_law_modulus", "_law_sums_here"] (defScope s_l_products) := ⟨rfl, rfl, rfl, by decide +kernel, rfl, by decide +kernel, by decide +kernel⟩
theorem c_l_products {P : Program} {w : World} {K : PySem.W.Frag} {mg : Str → Option Value} {base : Heap} (W : Wl K mg) : Callee P w K mg base (He.ga K "Field") 1 "_law_products" 3 [] m_l_products := by
  obtain ⟨fd, F⟩ := W.c.def_ 63 (d := dd_l_products) rfl
  have sc := sc_l_products
  exact ⟨_, fd, ["_law_prime", "_law_modulus", "_law_sums_here"], [], [], fn_meaning F sc (fun cdv A outer s H E hr =>
    (css_cons (cs_asg 3 (ce_len rfl (W.free 91 rfl) (cb_var 2 (pv 2))) sc.nd rfl (Or.inl rfl) rfl (Or.inl rfl))
    (css_cons (cs_asg 4 ce_int sc.nd rfl (Or.inl rfl) rfl (Or.inl rfl))
    (css_cons (cs_for1 5 PassesOwn.never rfl (ci_rev rfl (W.free 95 rfl) (ce_sl (cb_var 1 (pv 1)) co_none (co_some (ce_neg ce_int)))) (pg_name (i := 5) sc.nd rfl (Or.inl rfl)) (css_one (cs_asg 4 (ce_op op_add3 ov_add (CE.toB (ce_op op_mul2 ov_mul (cb_var 4 (pv 4)) (cb_var 0 (pv 0)))) (cb_var 5 (pv 5))) sc.nd rfl (Or.inl rfl) rfl (Or.inl rfl))))
    (css_cons (cs_asg 6 (ce_ifE (ct_cmp (op_eq2 hr.units) ov_eq (cb_var 0 (pv 0)) (CE.toB ce_int) (nomark _)) (ce_var 4 (pv 4)) (ce_ix (CE.toB (ce_ix (cb_var 2 (pv 2)) (cb_var 4 (pv 4)) (by intro _ _; rfl))) (cb_var 4 (pv 4)) (by intro _ _; rfl))) sc.nd rfl (Or.inl rfl) rfl (Or.inl rfl))
    (css_cons (cs_asg 7 (ce_op op_fdiv ov_div (cb_var 3 (pv 3)) (cb_var 0 (pv 0))) sc.nd rfl (Or.inl rfl) rfl (Or.inl rfl))
    (css_cons (cs_own 8 (cl_lst ca_nil) sc.nd rfl (Or.inl rfl) rfl (Or.inl rfl))
    (css_cons (cs_for1 9 PassesOwn.never rfl (ci_rng1 rfl (W.free 94 rfl) (ca_cons (ce_var 3 (pv 3)) ca_nil) (h1 := (len_cons (fun _ _ _ _ h => len_nil h)))) (pg_name (i := 9) sc.nd rfl (Or.inl rfl)) (css_cons (cs_asg 10 (CL.toE (cl_lst (ca_cons ce_int ca_nil))) sc.nd rfl (Or.inr rfl) rfl (Or.inl rfl))
    (css_cons (cs_asg 11 (ce_var 9 (pv 9)) sc.nd rfl (Or.inl rfl) rfl (Or.inl rfl))
    (css_cons (cs_while 10 PassesOwn.never (ct_cmp op_lt ov_lt (CE.toB (ce_len rfl (W.free 91 rfl) (cb_var 10 (pv 10)))) (cb_var 3 (pv 3)) (nomark _)) (css_cons (cs_asg 12 (CL.toE (cl_lst (ca_cons ce_int (ca_cons (ce_var 11 (pv 11)) (ca_cons (ce_ix (CE.toB (ce_ix (cb_var 2 (pv 2)) (cb_var 11 (pv 11)) (by intro _ _; rfl))) (cb_var 11 (pv 11)) (by intro _ _; rfl)) ca_nil))))) sc.nd rfl (Or.inr rfl) rfl (Or.inl rfl))
    (css_cons (cs_asg 13 (ce_len rfl (W.free 91 rfl) (cb_var 10 (pv 10))) sc.nd rfl (Or.inr rfl) rfl (Or.inl rfl))
    (css_cons (cs_asg 10 (CL.toE (cl_lc1 14 rfl sc.nd (blkOk_by (by kernel_rfl)) (ci_b (ci_rng1 rfl (W.free 94 rfl) (ca_cons (ce_op op_mul2 ov_mul (cb_var 13 (pv 13)) (cb_var 0 (pv 0))) ca_nil) (h1 := (len_cons (fun _ _ _ _ h => len_nil h))))) (fun _ _ _ _ _ => (pg_name (i := 14) sc.nd rfl (Or.inl rfl))) (fun _ _ _ _ _ => pts_yes) (fun _ _ _ _ _ => (ce_ix (CE.toB (ce_ix (cb_var 2 (pv 2)) (CE.toB (ce_ix (cb_var 10 (pv 10)) (CE.toB (ce_op op_mod ov_mod (CE.toB (ce_intc rfl (W.free 89 rfl) (cb_var 14 (pv 14)))) (cb_var 13 (pv 13)))) (by intro _ _; rfl))) (by intro _ _; rfl))) (CE.toB (ce_ix (cb_var 12 (pv 12)) (CE.toB (ce_op op_fdiv ov_div (cb_var 14 (pv 14)) (cb_var 13 (pv 13)))) (by intro _ _; rfl))) (by intro _ _; rfl))))) sc.nd rfl (Or.inr rfl) rfl (Or.inl rfl))
    (css_cons (cs_asg 15 (ce_op op_fdiv ov_div (cb_var 11 (pv 11)) (cb_var 7 (pv 7))) sc.nd rfl (Or.inl rfl) rfl (Or.inl rfl))
    (css_cons (cs_asg 11 (ce_op op_mul2 ov_mul (CE.toB (ce_op op_mod ov_mod (CE.toB (ce_intc rfl (W.free 89 rfl) (cb_var 11 (pv 11)))) (cb_var 7 (pv 7)))) (cb_var 0 (pv 0))) sc.nd rfl (Or.inl rfl) rfl (Or.inl rfl))
    (css_one (cs_for1 16 PassesOwn.never rfl (ci_rng1 rfl (W.free 94 rfl) (ca_cons (ce_var 15 (pv 15)) ca_nil) (h1 := (len_cons (fun _ _ _ _ h => len_nil h)))) (pg_name (i := 16) sc.nd rfl (Or.inl rfl)) (css_one (cs_asg 11 (ce_ix (CE.toB (ce_ix (cb_var 2 (pv 2)) (cb_var 11 (pv 11)) (by intro _ _; rfl))) (cb_var 6 (pv 6)) (by intro _ _; rfl)) sc.nd rfl (Or.inl rfl) rfl (Or.inl rfl)))))))))))
    (css_one (cs_app 8 (pv 8) (ce_var 10 (pv 10))))))))
    (css_one (cs_freeze 8 (cs_ret (ce_var 8 (pv 8))))))))))))), W.glo 60 rfl, F.kp, F.bindsN fun _ _ _ _ _ _ us hl => match us, hl with | [_, _, _], _ => rfl, .nil, fun _ _ => rfl⟩
theorem sc_l_world : FnScope ["_law_prime", "_law_modulus", "_law_degree", "_law_size", "_law_sums_here", "_law_products_here", "_law_steps", "_law_k", "_law_negatives"] ["_law_prime", "_law_modulus"] (defScope s_l_world) := ⟨rfl, rfl, rfl, by decide +kernel, rfl, by decide +kernel, by decide +kernel⟩
theorem c_l_world {P : Program} {w : World} {K : PySem.W.Frag} {mg : Str → Option Value} {base : Heap} (W : Wl K mg) : Callee P w K mg base (He.ga K "Field") 2 "_law_world" 2 [] m_l_world := by
  obtain ⟨fd, F⟩ := W.c.def_ 64 (d := dd_l_world) rfl
  have sc := sc_l_world
  exact ⟨_, fd, ["_law_prime", "_law_modulus"], [], [], fn_meaning F sc (fun cdv A outer s H E hr =>
    (css_cons (cs_asg 2 (ce_op op_sub ov_sub (CE.toB (ce_len rfl (W.free 91 rfl) (cb_var 1 (pv 1)))) (CE.toB ce_int)) sc.nd rfl (Or.inl rfl) rfl (Or.inl rfl))
    (css_cons (cs_asg 3 (ce_call ((c_l_power W).mono (by decide)) hr rfl (ca_cons (ce_var 0 (pv 0)) (ca_cons (ce_var 2 (pv 2)) ca_nil))) sc.nd rfl (Or.inl rfl) rfl (Or.inl rfl))
    (css_cons (cs_asg 4 (ce_call ((c_l_sums W).mono (by decide)) hr rfl (ca_cons (ce_var 0 (pv 0)) (ca_cons (ce_var 3 (pv 3)) ca_nil))) sc.nd rfl (Or.inr rfl) rfl (Or.inl rfl))
    (css_cons (cs_asg 5 (ce_call ((c_l_products W).mono (by decide)) hr rfl (ca_cons (ce_var 0 (pv 0)) (ca_cons (ce_var 1 (pv 1)) (ca_cons (ce_var 4 (pv 4)) ca_nil)))) sc.nd rfl (Or.inr rfl) rfl (Or.inl rfl))
    (css_cons (cs_asg 6 (CL.toE (cl_lc1 7 rfl sc.nd (blkOk_by (by kernel_rfl)) (ci_b (ci_rng1 rfl (W.free 94 rfl) (ca_cons (ce_var 3 (pv 3)) ca_nil) (h1 := (len_cons (fun _ _ _ _ h => len_nil h))))) (fun _ _ _ _ _ => (pg_name (i := 7) sc.nd rfl (Or.inl rfl))) (fun _ _ _ _ _ => pts_yes) (fun _ _ _ _ _ => (ce_ix (CE.toB (ce_ix (cb_var 5 (pv 5)) (cb_var 7 (pv 7)) (by intro _ _; rfl))) (cb_var 7 (pv 7)) (by intro _ _; rfl))))) sc.nd rfl (Or.inr rfl) rfl (Or.inl rfl))
    (css_cons (cs_if (ct_cmp (op_eq2 hr.units) ov_eq (cb_var 0 (pv 0)) (CE.toB ce_int) (nomark _)) (css_one (cs_asg 6 (CL.toE (cl_lc1 7 rfl sc.nd (blkOk_by (by kernel_rfl)) (ci_b (ci_rng1 rfl (W.free 94 rfl) (ca_cons (ce_var 3 (pv 3)) ca_nil) (h1 := (len_cons (fun _ _ _ _ h => len_nil h))))) (fun _ _ _ _ _ => (pg_name (i := 7) sc.nd rfl (Or.inl rfl))) (fun _ _ _ _ _ => pts_yes) (fun _ _ _ _ _ => (ce_ix (CE.toB (ce_ix (cb_var 5 (pv 5)) (CE.toB (ce_ix (cb_var 6 (pv 6)) (cb_var 7 (pv 7)) (by intro _ _; rfl))) (by intro _ _; rfl))) (cb_var 7 (pv 7)) (by intro _ _; rfl))))) sc.nd rfl (Or.inr rfl) rfl (Or.inl rfl))) css_nil)
    (css_cons (cs_asgLc1 8 7 rfl sc.nd rfl rfl (sw_true rfl rfl rfl (by decide +kernel)) (blkOk_by (by kernel_rfl)) (ci_b (ci_rng1 rfl (W.free 94 rfl) (ca_cons (ce_var 3 (pv 3)) ca_nil) (h1 := (len_cons (fun _ _ _ _ h => len_nil h))))) (fun _ _ _ _ _ => (pg_name (i := 7) sc.nd rfl (Or.inl rfl))) (fun _ _ _ _ _ => pts_yes) (fun _ _ _ _ _ => (ce_ifE (ct_cmp (op_eq2 hr.units) ov_eq (cb_var 0 (pv 0)) (CE.toB ce_int) (nomark _)) (ce_var 7 (pv 7)) (ce_ix (CE.toB (ce_ix (cb_var 4 (pv 4)) (cb_var 7 (pv 7)) (by intro _ _; rfl))) (cb_var 7 (pv 7)) (by intro _ _; rfl)))))
    (css_one (cs_ret (CL.toE (cl_lst (ca_cons (ce_var 0 (pv 0)) (ca_cons (ce_var 2 (pv 2)) (ca_cons (ce_var 3 (pv 3)) (ca_cons (ce_var 4 (pv 4)) (ca_cons (ce_var 5 (pv 5)) (ca_cons (ce_var 6 (pv 6)) (ca_cons (ce_var 8 (pv 8)) ca_nil))))))))))))))))))), W.glo 61 rfl, F.kp, F.bindsN fun _ _ _ _ _ _ us hl => match us, hl with | [_, _], _ => rfl, .nil, fun _ _ => rfl⟩
theorem sc_l_field : FnScope ["_law_hand_here", "_law_kinds", "_law_prime", "_law_degree", "_law_moduli_here", "_law_modulus"] ["_law_hand_here"] (defScope s_l_field) := ⟨rfl, rfl, rfl, by decide +kernel, rfl, by decide +kernel, by decide +kernel⟩
theorem c_l_field {P : Program} {w : World} {K : PySem.W.Frag} {mg : Str → Option Value} {base : Heap} (W : Wl K mg) : Callee P w K mg base (He.ga K "Field") 6 "_law_field" 1 [] m_l_field := by
  obtain ⟨fd, F⟩ := W.c.def_ 65 (d := dd_l_field) rfl
  have sc := sc_l_field
  exact ⟨_, fd, ["_law_hand_here"], [], [], fn_meaning F sc (fun cdv A outer s H E hr =>
    (css_cons (cs_asg 1 (CL.toE (cl_lst (ca_cons (ce_tup (ca_cons ce_int (ca_cons ce_int ca_nil))) (ca_cons (ce_tup (ca_cons ce_int (ca_cons ce_int ca_nil))) (ca_cons (ce_tup (ca_cons ce_int (ca_cons ce_int ca_nil))) (ca_cons (ce_tup (ca_cons ce_int (ca_cons ce_int ca_nil))) (ca_cons (ce_tup (ca_cons ce_int (ca_cons ce_int ca_nil))) (ca_cons (ce_tup (ca_cons ce_int (ca_cons ce_int ca_nil))) (ca_cons (ce_tup (ca_cons ce_int (ca_cons ce_int ca_nil))) (ca_cons (ce_tup (ca_cons ce_int (ca_cons ce_int ca_nil))) (ca_cons (ce_tup (ca_cons ce_int (ca_cons ce_int ca_nil))) (ca_cons (ce_tup (ca_cons ce_int (ca_cons ce_int ca_nil))) ca_nil)))))))))))) sc.nd rfl (Or.inl rfl) rfl (Or.inl rfl))
    (css_cons (cs_asg 1 (ce_op op_add3 ov_add (cb_var 1 (pv 1)) (CL.toB (cl_lst (ca_cons (ce_tup (ca_cons ce_int (ca_cons ce_int ca_nil))) (ca_cons (ce_tup (ca_cons ce_int (ca_cons ce_int ca_nil))) (ca_cons (ce_tup (ca_cons ce_int (ca_cons ce_int ca_nil))) (ca_cons (ce_tup (ca_cons ce_int (ca_cons ce_int ca_nil))) (ca_cons (ce_tup (ca_cons ce_int (ca_cons ce_int ca_nil))) (ca_cons (ce_tup (ca_cons ce_int (ca_cons ce_int ca_nil))) ca_nil))))))))) sc.nd rfl (Or.inl rfl) rfl (Or.inl rfl))
    (css_cons (cs_tup2 2 3 (ce_ix (cb_var 1 (pv 1)) (CE.toB (ce_call ((c_l_draw W).mono (by decide)) hr rfl (ca_cons (ce_var 0 (pv 0)) (ca_cons ce_int ca_nil)))) (by intro _ _; rfl)) (pg_tup rfl (pgs_cons (pg_name (i := 2) sc.nd rfl (Or.inl rfl)) (pgs_cons (pg_name (i := 3) sc.nd rfl (Or.inl rfl)) pgs_nil))))
    (css_cons (cs_asg 4 (ce_call ((c_l_moduli W).mono (by decide)) hr rfl (ca_cons (ce_var 2 (pv 2)) (ca_cons (ce_var 3 (pv 3)) ca_nil))) sc.nd rfl (Or.inl rfl) rfl (Or.inl rfl))
    (css_cons (cs_asg 5 (ce_ix (cb_var 4 (pv 4)) (CE.toB (ce_call ((c_l_draw W).mono (by decide)) hr rfl (ca_cons (ce_var 0 (pv 0)) (ca_cons (ce_len rfl (W.free 91 rfl) (cb_var 4 (pv 4))) ca_nil)))) (by intro _ _; rfl)) sc.nd rfl (Or.inl rfl) rfl (Or.inl rfl))
    (css_one (cs_ret (ce_tup (ca_cons (ce_make ((c_F_init W).mono (by decide : lv_F_init ≤ 4)) (hr.mono (by decide)) rfl (ca_cons (ce_var 2 (pv 2)) (ca_cons (CL.toE (cl_list rfl (W.free 92 rfl) (cb_var 5 (pv 5)))) ca_nil))) (ca_cons (ce_call ((c_l_world W).mono (by decide)) hr rfl (ca_cons (ce_var 2 (pv 2)) (ca_cons (ce_var 5 (pv 5)) ca_nil))) ca_nil))))))))))), W.glo 62 rfl, F.kp, F.bindsN fun _ _ _ _ _ _ us hl => match us, hl with | [_], _ => rfl, .nil, fun _ _ => rfl⟩
theorem sc_l_inverse : FnScope ["_law_w", "_law_thing"] ["_law_w", "_law_thing"] (defScope s_l_inverse) := ⟨rfl, rfl, rfl, by decide +kernel, rfl, by decide +kernel, by decide +kernel⟩
theorem c_l_inverse {P : Program} {w : World} {K : PySem.W.Frag} {mg : Str → Option Value} {base : Heap} (W : Wl K mg) : Callee P w K mg base (He.ga K "Field") 1 "_law_inverse" 2 [] m_l_inverse := by
  obtain ⟨fd, F⟩ := W.c.def_ 66 (d := dd_l_inverse) rfl
  have sc := sc_l_inverse
  exact ⟨_, fd, ["_law_w", "_law_thing"], [], [], fn_meaning F sc (fun cdv A outer s H E hr =>
    (css_one (cs_ret (ce_idxL (ce_ix (CE.toB (ce_ix (cb_var 0 (pv 0)) (CE.toB ce_int) (by intro _ _; rfl))) (cb_var 1 (pv 1)) (by intro _ _; rfl)) ce_int)))), W.glo 63 rfl, F.kp, F.bindsN fun _ _ _ _ _ _ us hl => match us, hl with | [_, _], _ => rfl, .nil, fun _ _ => rfl⟩
theorem sc_l_trim : FnScope ["_law_things", "_law_many"] ["_law_things"] (defScope s_l_trim) := ⟨rfl, rfl, rfl, by decide +kernel, rfl, by decide +kernel, by decide +kernel⟩
theorem c_l_trim {P : Program} {w : World} {K : PySem.W.Frag} {mg : Str → Option Value} {base : Heap} (W : Wl K mg) : Callee P w K mg base (He.ga K "Field") 1 "_law_trim" 1 [] m_l_trim := by
  obtain ⟨fd, F⟩ := W.c.def_ 67 (d := dd_l_trim) rfl
  have sc := sc_l_trim
  exact ⟨_, fd, ["_law_things"], [], [], fn_meaning F sc (fun cdv A outer s H E hr =>
    (css_cons (cs_asg 1 (ce_len rfl (W.free 91 rfl) (cb_var 0 (pv 0))) sc.nd rfl (Or.inl rfl) rfl (Or.inl rfl))
    (css_cons (cs_while 200 PassesOwn.never (CW.t (cw_and (ct_cmp op_gt ov_gt (cb_var 1 (pv 1)) (CE.toB ce_int) (nomark _)) (cw_and1 (ct_cmp (op_eq2 hr.units) ov_eq (CE.toB (ce_ix (cb_var 0 (pv 0)) (CE.toB (ce_op op_sub ov_sub (cb_var 1 (pv 1)) (CE.toB ce_int))) (by intro _ _; rfl))) (CE.toB ce_int) (nomark _))))) (css_one (cs_asg 1 (ce_op op_sub ov_sub (cb_var 1 (pv 1)) (CE.toB ce_int)) sc.nd rfl (Or.inl rfl) rfl (Or.inl rfl))))
    (css_one (cs_ret (ce_tuple rfl (W.free 97 rfl) (CE.toB (ce_sl (cb_var 0 (pv 0)) co_none (co_some (ce_var 1 (pv 1))))))))))), W.glo 64 rfl, F.kp, F.bindsN fun _ _ _ _ _ _ us hl => match us, hl with | [_], _ => rfl, .nil, fun _ _ => rfl⟩
theorem sc_l_value : FnScope ["_law_w", "_law_poly_here", "_law_thing", "_law_total", "_law_term"] ["_law_w", "_law_poly_here", "_law_thing"] (defScope s_l_value) := ⟨rfl, rfl, rfl, by decide +kernel, rfl, by decide +kernel, by decide +kernel⟩
theorem c_l_value {P : Program} {w : World} {K : PySem.W.Frag} {mg : Str → Option Value} {base : Heap} (W : Wl K mg) : Callee P w K mg base (He.ga K "Field") 1 "_law_value" 3 [] m_l_value := by
  obtain ⟨fd, F⟩ := W.c.def_ 68 (d := dd_l_value) rfl
  have sc := sc_l_value
  exact ⟨_, fd, ["_law_w", "_law_poly_here", "_law_thing"], [], [], fn_meaning F sc (fun cdv A outer s H E hr =>
    (css_cons (cs_asg 3 ce_int sc.nd rfl (Or.inl rfl) rfl (Or.inl rfl))
    (css_cons (cs_for1 4 PassesOwn.never rfl (ci_seq (ce_var 1 (pv 1))) (pg_name (i := 4) sc.nd rfl (Or.inl rfl)) (css_cons (cs_asg 3 (ce_ix (CE.toB (ce_ix (CE.toB (ce_ix (cb_var 0 (pv 0)) (CE.toB ce_int) (by intro _ _; rfl))) (cb_var 3 (pv 3)) (by intro _ _; rfl))) (CE.toB (ce_ix (CE.toB (ce_ix (CE.toB (ce_ix (cb_var 0 (pv 0)) (CE.toB ce_int) (by intro _ _; rfl))) (cb_var 4 (pv 4)) (by intro _ _; rfl))) (cb_var 2 (pv 2)) (by intro _ _; rfl))) (by intro _ _; rfl)) sc.nd rfl (Or.inl rfl) rfl (Or.inl rfl))
    (css_one (cs_asg 2 (ce_ix (CE.toB (ce_ix (cb_var 0 (pv 0)) (CE.toB ce_int) (by intro _ _; rfl))) (cb_var 2 (pv 2)) (by intro _ _; rfl)) sc.nd rfl (Or.inl rfl) rfl (Or.inl rfl)))))
    (css_one (cs_ret (ce_var 3 (pv 3))))))), W.glo 65 rfl, F.kp, F.bindsN fun _ _ _ _ _ _ us hl => match us, hl with | [_, _, _], _ => rfl, .nil, fun _ _ => rfl⟩
theorem sc_l_added : FnScope ["_law_w", "_law_one", "_law_other", "_law_many", "_law_low", "_law_high", "_law_k"] ["_law_w", "_law_one", "_law_other"] (defScope s_l_added) := ⟨rfl, rfl, rfl, by decide +kernel, rfl, by decide +kernel, by decide +kernel⟩
theorem c_l_added {P : Program} {w : World} {K : PySem.W.Frag} {mg : Str → Option Value} {base : Heap} (W : Wl K mg) : Callee P w K mg base (He.ga K "Field") 2 "_law_added" 3 [] m_l_added := by
  obtain ⟨fd, F⟩ := W.c.def_ 69 (d := dd_l_added) rfl
  have sc := sc_l_added
  exact ⟨_, fd, ["_law_w", "_law_one", "_law_other"], [], [], fn_meaning F sc (fun cdv A outer s H E hr =>
    (css_cons (cs_asg 3 (ce_max rfl rfl (W.free 93 rfl) (ce_len rfl (W.free 91 rfl) (cb_var 1 (pv 1))) (ce_len rfl (W.free 91 rfl) (cb_var 2 (pv 2)))) sc.nd rfl (Or.inl rfl) rfl (Or.inl rfl))
    (css_cons (cs_asg 4 (CL.toE (cl_op op_cat on_cat (CL.toB (cl_list rfl (W.free 92 rfl) (cb_var 1 (pv 1)))) (CL.toB (cl_op op_rep on_rep (CL.toB (cl_lst (ca_cons ce_int ca_nil))) (CE.toB (ce_op op_sub ov_sub (cb_var 3 (pv 3)) (CE.toB (ce_len rfl (W.free 91 rfl) (cb_var 1 (pv 1)))))))))) sc.nd rfl (Or.inr rfl) rfl (Or.inl rfl))
    (css_cons (cs_asg 5 (CL.toE (cl_op op_cat on_cat (CL.toB (cl_list rfl (W.free 92 rfl) (cb_var 2 (pv 2)))) (CL.toB (cl_op op_rep on_rep (CL.toB (cl_lst (ca_cons ce_int ca_nil))) (CE.toB (ce_op op_sub ov_sub (cb_var 3 (pv 3)) (CE.toB (ce_len rfl (W.free 91 rfl) (cb_var 2 (pv 2)))))))))) sc.nd rfl (Or.inr rfl) rfl (Or.inl rfl))
    (css_one (cs_ret (ce_call ((c_l_trim W).mono (by decide)) hr rfl (ca_cons (CL.toE (cl_lc1 6 rfl sc.nd (blkOk_by (by kernel_rfl)) (ci_b (ci_rng1 rfl (W.free 94 rfl) (ca_cons (ce_var 3 (pv 3)) ca_nil) (h1 := (len_cons (fun _ _ _ _ h => len_nil h))))) (fun _ _ _ _ _ => (pg_name (i := 6) sc.nd rfl (Or.inl rfl))) (fun _ _ _ _ _ => pts_yes) (fun _ _ _ _ _ => (ce_ix (CE.toB (ce_ix (CE.toB (ce_ix (cb_var 0 (pv 0)) (CE.toB ce_int) (by intro _ _; rfl))) (CE.toB (ce_ix (cb_var 4 (pv 4)) (cb_var 6 (pv 6)) (by intro _ _; rfl))) (by intro _ _; rfl))) (CE.toB (ce_ix (cb_var 5 (pv 5)) (cb_var 6 (pv 6)) (by intro _ _; rfl))) (by intro _ _; rfl))))) ca_nil)))))))), W.glo 66 rfl, F.kp, F.bindsN fun _ _ _ _ _ _ us hl => match us, hl with | [_, _, _], _ => rfl, .nil, fun _ _ => rfl⟩
theorem sc_l_put : FnScope ["_law_w", "_law_outer", "_law_inner", "_law_total", "_law_now", "_law_k", "_law_term", "_law_thing"] ["_law_w", "_law_outer", "_law_inner"] (defScope s_l_put) := ⟨rfl, rfl, rfl, by decide +kernel, rfl, by decide +kernel, by decide +kernel⟩
theorem c_l_put {P : Program} {w : World} {K : PySem.W.Frag} {mg : Str → Option Value} {base : Heap} (W : Wl K mg) : Callee P w K mg base (He.ga K "Field") 3 "_law_put" 3 [] m_l_put := by
  obtain ⟨fd, F⟩ := W.c.def_ 70 (d := dd_l_put) rfl
  have sc := sc_l_put
  exact ⟨_, fd, ["_law_w", "_law_outer", "_law_inner"], [], [], fn_meaning F sc (fun cdv A outer s H E hr =>
    (css_cons (cs_asg 3 (ce_tup ca_nil) sc.nd rfl (Or.inl rfl) rfl (Or.inl rfl))
    (css_cons (cs_asg 4 (CL.toE (cl_list rfl (W.free 92 rfl) (cb_var 2 (pv 2)))) sc.nd rfl (Or.inl rfl) rfl (Or.inl rfl))
    (css_cons (cs_for2 5 6 PassesOwn.never rfl (ci_enum rfl (W.free 88 rfl) (ce_var 1 (pv 1))) (pg_tup rfl (pgs_cons (pg_name (i := 5) sc.nd rfl (Or.inl rfl)) (pgs_cons (pg_name (i := 6) sc.nd rfl (Or.inr rfl)) pgs_nil))) (css_cons (cs_asg 3 (ce_call ((c_l_added W).mono (by decide)) hr rfl (ca_cons (ce_var 0 (pv 0)) (ca_cons (ce_var 3 (pv 3)) (ca_cons (CL.toE (cl_op op_cat on_cat (CL.toB (cl_op op_rep on_rep (CL.toB (cl_lst (ca_cons ce_int ca_nil))) (cb_var 5 (pv 5)))) (CL.toB (cl_lc1 7 rfl sc.nd (blkOk_by (by kernel_rfl)) (cb_seq (cb_var 4 (pv 4))) (fun _ _ _ _ _ => (pg_name (i := 7) sc.nd rfl (Or.inl rfl))) (fun _ _ _ _ _ => pts_yes) (fun _ _ _ _ _ => (ce_ix (CE.toB (ce_ix (CE.toB (ce_ix (cb_var 0 (pv 0)) (CE.toB ce_int) (by intro _ _; rfl))) (cb_var 6 (pv 6)) (by intro _ _; rfl))) (cb_var 7 (pv 7)) (by intro _ _; rfl))))))) ca_nil)))) sc.nd rfl (Or.inl rfl) rfl (Or.inl rfl))
    (css_one (cs_asgLc1 4 7 rfl sc.nd rfl rfl (sw_true rfl rfl rfl (by decide +kernel)) (blkOk_by (by kernel_rfl)) (cb_seq (cb_var 4 (pv 4))) (fun _ _ _ _ _ => (pg_name (i := 7) sc.nd rfl (Or.inl rfl))) (fun _ _ _ _ _ => pts_yes) (fun _ _ _ _ _ => (ce_ix (CE.toB (ce_ix (cb_var 0 (pv 0)) (CE.toB ce_int) (by intro _ _; rfl))) (cb_var 7 (pv 7)) (by intro _ _; rfl)))))))
    (css_one (cs_ret (ce_var 3 (pv 3)))))))), W.glo 67 rfl, F.kp, F.bindsN fun _ _ _ _ _ _ us hl => match us, hl with | [_, _, _], _ => rfl, .nil, fun _ _ => rfl⟩
theorem sc_l_poly : FnScope ["_law_hand_here", "_law_w", "_law_most", "_law_many", "_law_told", "_law_k"] ["_law_hand_here", "_law_w", "_law_most"] (defScope s_l_poly) := ⟨rfl, rfl, rfl, by decide +kernel, rfl, by decide +kernel, by decide +kernel⟩
theorem c_l_poly {P : Program} {w : World} {K : PySem.W.Frag} {mg : Str → Option Value} {base : Heap} (W : Wl K mg) : Callee P w K mg base (He.ga K "Field") 3 "_law_poly" 3 [] m_l_poly := by
  obtain ⟨fd, F⟩ := W.c.def_ 71 (d := dd_l_poly) rfl
  have sc := sc_l_poly
  exact ⟨_, fd, ["_law_hand_here", "_law_w", "_law_most"], [], [], fn_meaning F sc (fun cdv A outer s H E hr =>
    (css_cons (cs_asg 3 (ce_call ((c_l_draw W).mono (by decide)) hr rfl (ca_cons (ce_var 0 (pv 0)) (ca_cons (ce_op op_add3 ov_add (cb_var 2 (pv 2)) (CE.toB ce_int)) ca_nil))) sc.nd rfl (Or.inl rfl) rfl (Or.inl rfl))
    (css_cons (cs_own 4 (cl_lst ca_nil) sc.nd rfl (Or.inl rfl) rfl (Or.inl rfl))
    (css_cons (cs_for1 5 PassesOwn.never rfl (ci_rng1 rfl (W.free 94 rfl) (ca_cons (ce_var 3 (pv 3)) ca_nil) (h1 := (len_cons (fun _ _ _ _ h => len_nil h)))) (pg_name (i := 5) sc.nd rfl (Or.inl rfl)) (css_one (cs_if (ct_cmp (op_eq2 hr.units) ov_eq (cb_var 5 (pv 5)) (CE.toB (ce_op op_sub ov_sub (cb_var 3 (pv 3)) (CE.toB ce_int))) (nomark _)) (css_one (cs_app 4 (pv 4) (ce_op op_add3 ov_add (CE.toB ce_int) (CE.toB (ce_call ((c_l_draw W).mono (by decide)) hr rfl (ca_cons (ce_var 0 (pv 0)) (ca_cons (ce_op op_sub ov_sub (CE.toB (ce_ix (cb_var 1 (pv 1)) (CE.toB ce_int) (by intro _ _; rfl))) (CE.toB ce_int)) ca_nil))))))) (css_one (cs_if (ct_cmp (op_eq2 hr.units) ov_eq (CE.toB (ce_call ((c_l_draw W).mono (by decide)) hr rfl (ca_cons (ce_var 0 (pv 0)) (ca_cons ce_int ca_nil)))) (CE.toB ce_int) (nomark _)) (css_one (cs_app 4 (pv 4) ce_int)) (css_one (cs_app 4 (pv 4) (ce_call ((c_l_draw W).mono (by decide)) hr rfl (ca_cons (ce_var 0 (pv 0)) (ca_cons (ce_ix (cb_var 1 (pv 1)) (CE.toB ce_int) (by intro _ _; rfl)) ca_nil))))))))))
    (css_one (cs_ret (ce_tuple rfl (W.free 97 rfl) (cb_var 4 (pv 4))))))))), W.glo 68 rfl, F.kp, F.bindsN fun _ _ _ _ _ _ us hl => match us, hl with | [_, _, _], _ => rfl, .nil, fun _ _ => rfl⟩
theorem sc_l_given : FnScope ["_law_hand_here", "_law_things"] ["_law_hand_here", "_law_things"] (defScope s_l_given) := ⟨rfl, rfl, rfl, by decide +kernel, rfl, by decide +kernel, by decide +kernel⟩
theorem c_l_given {P : Program} {w : World} {K : PySem.W.Frag} {mg : Str → Option Value} {base : Heap} (W : Wl K mg) : Callee P w K mg base (He.ga K "Field") 3 "_law_given" 2 [] m_l_given := by
  obtain ⟨fd, F⟩ := W.c.def_ 72 (d := dd_l_given) rfl
  have sc := sc_l_given
  exact ⟨_, fd, ["_law_hand_here", "_law_things"], [], [], fn_meaning F sc (fun cdv A outer s H E hr =>
    (css_one (cs_ret (ce_ifE (ct_cmp (op_eq2 hr.units) ov_eq (CE.toB (ce_call ((c_l_draw W).mono (by decide)) hr rfl (ca_cons (ce_var 0 (pv 0)) (ca_cons ce_int ca_nil)))) (CE.toB ce_int) (nomark _)) (CL.toE (cl_list rfl (W.free 92 rfl) (cb_var 1 (pv 1)))) (ce_tuple rfl (W.free 97 rfl) (cb_var 1 (pv 1))))))), W.glo 69 rfl, F.kp, F.bindsN fun _ _ _ _ _ _ us hl => match us, hl with | [_, _], _ => rfl, .nil, fun _ _ => rfl⟩
theorem sc_l_digits : FnScope ["_law_w", "_law_thing", "_law_told", "_law_k"] ["_law_w", "_law_thing"] (defScope s_l_digits) := ⟨rfl, rfl, rfl, by decide +kernel, rfl, by decide +kernel, by decide +kernel⟩
theorem c_l_digits {P : Program} {w : World} {K : PySem.W.Frag} {mg : Str → Option Value} {base : Heap} (W : Wl K mg) : Callee P w K mg base (He.ga K "Field") 1 "_law_digits" 2 [] m_l_digits := by
  obtain ⟨fd, F⟩ := W.c.def_ 73 (d := dd_l_digits) rfl
  have sc := sc_l_digits
  exact ⟨_, fd, ["_law_w", "_law_thing"], [], [], fn_meaning F sc (fun cdv A outer s H E hr =>
    (css_cons (cs_own 2 (cl_lst ca_nil) sc.nd rfl (Or.inl rfl) rfl (Or.inl rfl))
    (css_cons (cs_for1 3 PassesOwn.never rfl (ci_rng1 rfl (W.free 94 rfl) (ca_cons (ce_ix (cb_var 0 (pv 0)) (CE.toB ce_int) (by intro _ _; rfl)) ca_nil) (h1 := (len_cons (fun _ _ _ _ h => len_nil h)))) (pg_name (i := 3) sc.nd rfl (Or.inl rfl)) (css_cons (cs_app 2 (pv 2) (ce_op op_mod ov_mod (CE.toB (ce_intc rfl (W.free 89 rfl) (cb_var 1 (pv 1)))) (CE.toB (ce_ix (cb_var 0 (pv 0)) (CE.toB ce_int) (by intro _ _; rfl)))))
    (css_one (cs_asg 1 (ce_op op_fdiv ov_div (cb_var 1 (pv 1)) (CE.toB (ce_ix (cb_var 0 (pv 0)) (CE.toB ce_int) (by intro _ _; rfl)))) sc.nd rfl (Or.inl rfl) rfl (Or.inl rfl)))))
    (css_one (cs_freeze 2 (cs_ret (ce_var 2 (pv 2)))))))), W.glo 70 rfl, F.kp, F.bindsN fun _ _ _ _ _ _ us hl => match us, hl with | [_, _], _ => rfl, .nil, fun _ _ => rfl⟩
theorem sc_l_span : FnScope ["_law_w", "_law_things", "_law_told", "_law_thing", "_law_copies", "_law_wide", "_law_copy", "_law_one"] ["_law_w", "_law_things"] (defScope s_l_span) := ⟨rfl, rfl, rfl, by decide +kernel, rfl, by decide +kernel, by decide +kernel⟩
theorem c_l_span {P : Program} {w : World} {K : PySem.W.Frag} {mg : Str → Option Value} {base : Heap} (W : Wl K mg) : Callee P w K mg base (He.ga K "Field") 1 "_law_span" 2 [] m_l_span := by
  obtain ⟨fd, F⟩ := W.c.def_ 74 (d := dd_l_span) rfl
  have sc := sc_l_span
  exact ⟨_, fd, ["_law_w", "_law_things"], [], [], fn_meaning F sc (fun cdv A outer s H E hr =>
    (css_cons (cs_asg 2 (CL.toE (cl_lst (ca_cons ce_int ca_nil))) sc.nd rfl (Or.inl rfl) rfl (Or.inl rfl))
    (css_cons (cs_for1 3 PassesOwn.never rfl (ci_seq (ce_var 1 (pv 1))) (pg_name (i := 3) sc.nd rfl (Or.inl rfl)) (css_one (cs_if (ct_cmp op_notIn_seq (ov_in true) (cb_var 3 (pv 3)) (cb_var 2 (pv 2)) rfl) (css_cons (cs_asg 4 (ce_sl (CL.toB (cl_lst (ca_cons ce_int (ca_cons (ce_var 3 (pv 3)) (ca_cons (ce_ix (CE.toB (ce_ix (CE.toB (ce_ix (cb_var 0 (pv 0)) (CE.toB ce_int) (by intro _ _; rfl))) (cb_var 3 (pv 3)) (by intro _ _; rfl))) (cb_var 3 (pv 3)) (by intro _ _; rfl)) ca_nil))))) co_none (co_some (ce_ix (cb_var 0 (pv 0)) (CE.toB ce_int) (by intro _ _; rfl)))) sc.nd rfl (Or.inl rfl) rfl (Or.inl rfl))
    (css_cons (cs_asg 5 (CL.toE (cl_lst ca_nil)) sc.nd rfl (Or.inl rfl) rfl (Or.inl rfl))
    (css_cons (cs_for1 6 PassesOwn.never rfl (ci_seq (ce_var 4 (pv 4))) (pg_name (i := 6) sc.nd rfl (Or.inr rfl)) (css_one (cs_asg 5 (ce_op op_add3 ov_add (cb_var 5 (pv 5)) (CL.toB (cl_lc1 7 rfl sc.nd (blkOk_by (by kernel_rfl)) (cb_seq (cb_var 2 (pv 2))) (fun _ _ _ _ _ => (pg_name (i := 7) sc.nd rfl (Or.inl rfl))) (fun _ _ _ _ _ => pts_yes) (fun _ _ _ _ _ => (ce_ix (CE.toB (ce_ix (CE.toB (ce_ix (cb_var 0 (pv 0)) (CE.toB ce_int) (by intro _ _; rfl))) (cb_var 7 (pv 7)) (by intro _ _; rfl))) (cb_var 6 (pv 6)) (by intro _ _; rfl)))))) sc.nd rfl (Or.inl rfl) rfl (Or.inl rfl))))
    (css_one (cs_asg 2 (ce_var 5 (pv 5)) sc.nd rfl (Or.inl rfl) rfl (Or.inl rfl)))))) css_nil)))
    (css_one (cs_ret (ce_var 2 (pv 2))))))), W.glo 71 rfl, F.kp, F.bindsN fun _ _ _ _ _ _ us hl => match us, hl with | [_, _], _ => rfl, .nil, fun _ _ => rfl⟩
theorem sc_l_first : FnScope ["_law_digits_here", "_law_place", "_law_digit"] ["_law_digits_here"] (defScope s_l_first) := ⟨rfl, rfl, rfl, by decide +kernel, rfl, by decide +kernel, by decide +kernel⟩
theorem c_l_first {P : Program} {w : World} {K : PySem.W.Frag} {mg : Str → Option Value} {base : Heap} (W : Wl K mg) : Callee P w K mg base (He.ga K "Field") 1 "_law_first" 1 [] m_l_first := by
  obtain ⟨fd, F⟩ := W.c.def_ 75 (d := dd_l_first) rfl
  have sc := sc_l_first
  exact ⟨_, fd, ["_law_digits_here"], [], [], fn_meaning F sc (fun cdv A outer s H E hr =>
    (css_cons (cs_for2 1 2 PassesOwn.never rfl (ci_enum rfl (W.free 88 rfl) (ce_var 0 (pv 0))) (pg_tup rfl (pgs_cons (pg_name (i := 1) sc.nd rfl (Or.inl rfl)) (pgs_cons (pg_name (i := 2) sc.nd rfl (Or.inl rfl)) pgs_nil))) (css_one (cs_if (ct_cmp (op_ne2 hr.units) ov_ne (cb_var 2 (pv 2)) (CE.toB ce_int) (nomark _)) (css_one (cs_ret (ce_var 1 (pv 1)))) css_nil)))
    (css_one (cs_ret (ce_len rfl (W.free 91 rfl) (cb_var 0 (pv 0))))))), W.glo 72 rfl, F.kp, F.bindsN fun _ _ _ _ _ _ us hl => match us, hl with | [_], _ => rfl, .nil, fun _ _ => rfl⟩
theorem sc_l_basis : FnScope ["_law_w", "_law_span_here", "_law_rows_here", "_law_thing", "_law_firsts", "_law_row", "_law_places", "_law_place", "_law_told", "_law_others", "_law_other", "_law_k"] ["_law_w", "_law_span_here"] (defScope s_l_basis) := ⟨rfl, rfl, rfl, by decide +kernel, rfl, by decide +kernel, by decide +kernel⟩
theorem c_l_basis {P : Program} {w : World} {K : PySem.W.Frag} {mg : Str → Option Value} {base : Heap} (W : Wl K mg) : Callee P w K mg base (He.ga K "Field") 2 "_law_basis" 2 [] m_l_basis := by
  obtain ⟨fd, F⟩ := W.c.def_ 76 (d := dd_l_basis) rfl
  have sc := sc_l_basis
  exact ⟨_, fd, ["_law_w", "_law_span_here"], [], [], fn_meaning F sc (fun cdv A outer s H E hr =>
    (css_cons (cs_asgLc1 2 3 rfl sc.nd rfl rfl (sw_true rfl rfl rfl (by decide +kernel)) (blkOk_by (by kernel_rfl)) (cb_seq (cb_var 1 (pv 1))) (fun _ _ _ _ _ => (pg_name (i := 3) sc.nd rfl (Or.inl rfl))) (fun _ _ _ _ _ => (pts_one (ct_cmp (op_ne2 hr.units) ov_ne (cb_var 3 (pv 3)) (CE.toB ce_int) (nomark _)))) (fun _ _ _ _ _ => (ce_tup (ca_cons (ce_var 3 (pv 3)) (ca_cons (ce_call ((c_l_digits W).mono (by decide)) hr rfl (ca_cons (ce_var 0 (pv 0)) (ca_cons (ce_var 3 (pv 3)) ca_nil))) ca_nil)))))
    (css_cons (cs_asg 4 (CL.toE (cl_lc1 5 rfl sc.nd (blkOk_by (by kernel_rfl)) (cb_seq (cb_var 2 (pv 2))) (fun _ _ _ _ _ => (pg_name (i := 5) sc.nd rfl (Or.inl rfl))) (fun _ _ _ _ _ => pts_yes) (fun _ _ _ _ _ => (ce_call ((c_l_first W).mono (by decide)) hr rfl (ca_cons (ce_ix (cb_var 5 (pv 5)) (CE.toB ce_int) (by intro _ _; rfl)) ca_nil))))) sc.nd rfl (Or.inr rfl) rfl (Or.inl rfl))
    (css_cons (cs_asgLc1 6 7 rfl sc.nd rfl rfl (sw_true rfl rfl rfl (by decide +kernel)) (blkOk_by (by kernel_rfl)) (ci_b (ci_rng1 rfl (W.free 94 rfl) (ca_cons (ce_ix (cb_var 0 (pv 0)) (CE.toB ce_int) (by intro _ _; rfl)) ca_nil) (h1 := (len_cons (fun _ _ _ _ h => len_nil h))))) (fun _ _ _ _ _ => (pg_name (i := 7) sc.nd rfl (Or.inl rfl))) (fun _ _ _ _ _ => (pts_one (ct_cmp op_in_seq (ov_in false) (cb_var 7 (pv 7)) (cb_var 4 (pv 4)) rfl))) (fun _ _ _ _ _ => (ce_var 7 (pv 7))))
    (css_cons (cs_own 8 (cl_lst ca_nil) sc.nd rfl (Or.inl rfl) rfl (Or.inl rfl))
    (css_cons (cs_for1 7 PassesOwn.never rfl (ci_seq (ce_var 6 (pv 6))) (pg_name (i := 7) sc.nd rfl (Or.inr rfl)) (css_cons (cs_asgLc1 9 10 rfl sc.nd rfl rfl (sw_true rfl rfl rfl (by decide +kernel)) (blkOk_by (by kernel_rfl)) (cb_seq (cb_var 6 (pv 6))) (fun _ _ _ _ _ => (pg_name (i := 10) sc.nd rfl (Or.inl rfl))) (fun _ _ _ _ _ => (pts_one (ct_cmp (op_ne2 hr.units) ov_ne (cb_var 10 (pv 10)) (cb_var 7 (pv 7)) (nomark _)))) (fun _ _ _ _ _ => (ce_var 10 (pv 10))))
    (css_one (cs_for2 11 5 PassesOwn.never rfl (ci_enum rfl (W.free 88 rfl) (ce_var 2 (pv 2))) (pg_tup rfl (pgs_cons (pg_name (i := 11) sc.nd rfl (Or.inl rfl)) (pgs_cons (pg_name (i := 5) sc.nd rfl (Or.inr rfl)) pgs_nil))) (css_one (cs_if (CW.t (cw_and (ct_cmp (op_eq2 hr.units) ov_eq (CE.toB (ce_ix (cb_var 4 (pv 4)) (cb_var 11 (pv 11)) (by intro _ _; rfl))) (cb_var 7 (pv 7)) (nomark _)) (cw_and (ct_cmp (op_eq2 hr.units) ov_eq (CE.toB (ce_ix (CE.toB (ce_ix (cb_var 5 (pv 5)) (CE.toB ce_int) (by intro _ _; rfl))) (cb_var 7 (pv 7)) (by intro _ _; rfl))) (CE.toB ce_int) (nomark _)) (cw_and1 (ct_cmp (op_eq2 hr.units) ov_eq (CL.toB (cl_lc1 10 rfl sc.nd (blkOk_by (by kernel_rfl)) (cb_seq (cb_var 9 (pv 9))) (fun _ _ _ _ _ => (pg_name (i := 10) sc.nd rfl (Or.inl rfl))) (fun _ _ _ _ _ => (pts_one (ct_cmp (op_ne2 hr.units) ov_ne (CE.toB (ce_ix (CE.toB (ce_ix (cb_var 5 (pv 5)) (CE.toB ce_int) (by intro _ _; rfl))) (cb_var 10 (pv 10)) (by intro _ _; rfl))) (CE.toB ce_int) (nomark _)))) (fun _ _ _ _ _ => (ce_var 10 (pv 10))))) (CL.toB (cl_lst ca_nil)) (nomark _)))))) (css_one (cs_app 8 (pv 8) (ce_ix (cb_var 5 (pv 5)) (CE.toB ce_int) (by intro _ _; rfl)))) css_nil))))))
    (css_one (cs_ret (ce_tuple rfl (W.free 97 rfl) (cb_var 8 (pv 8))))))))))), W.glo 73 rfl, F.kp, F.bindsN fun _ _ _ _ _ _ us hl => match us, hl with | [_, _], _ => rfl, .nil, fun _ _ => rfl⟩
theorem sc_l_space_poly : FnScope ["_law_w", "_law_things", "_law_told", "_law_thing", "_law_value_here", "_law_part"] ["_law_w", "_law_things"] (defScope s_l_space_poly) := ⟨rfl, rfl, rfl, by decide +kernel, rfl, by decide +kernel, by decide +kernel⟩
theorem c_l_space_poly {P : Program} {w : World} {K : PySem.W.Frag} {mg : Str → Option Value} {base : Heap} (W : Wl K mg) : Callee P w K mg base (He.ga K "Field") 4 "_law_space_poly" 2 [] m_l_space_poly := by
  obtain ⟨fd, F⟩ := W.c.def_ 77 (d := dd_l_space_poly) rfl
  have sc := sc_l_space_poly
  exact ⟨_, fd, ["_law_w", "_law_things"], [], [], fn_meaning F sc (fun cdv A outer s H E hr =>
    (css_cons (cs_asg 2 (ce_tup (ca_cons ce_int ca_nil)) sc.nd rfl (Or.inl rfl) rfl (Or.inl rfl))
    (css_cons (cs_for1 3 PassesOwn.never rfl (ci_seq (ce_var 1 (pv 1))) (pg_name (i := 3) sc.nd rfl (Or.inl rfl)) (css_cons (cs_asg 4 (ce_call ((c_l_value W).mono (by decide)) hr rfl (ca_cons (ce_var 0 (pv 0)) (ca_cons (ce_var 2 (pv 2)) (ca_cons (ce_var 3 (pv 3)) ca_nil)))) sc.nd rfl (Or.inl rfl) rfl (Or.inl rfl))
    (css_one (cs_if (ct_cmp (op_ne2 hr.units) ov_ne (cb_var 4 (pv 4)) (CE.toB ce_int) (nomark _)) (css_cons (cs_asg 5 (ce_ix (CE.toB (ce_ix (CE.toB (ce_ix (cb_var 0 (pv 0)) (CE.toB ce_int) (by intro _ _; rfl))) (CE.toB (ce_ix (CE.toB (ce_ix (cb_var 0 (pv 0)) (CE.toB ce_int) (by intro _ _; rfl))) (cb_var 4 (pv 4)) (by intro _ _; rfl))) (by intro _ _; rfl))) (CE.toB (ce_call ((c_l_inverse W).mono (by decide)) hr rfl (ca_cons (ce_var 0 (pv 0)) (ca_cons (ce_var 4 (pv 4)) ca_nil)))) (by intro _ _; rfl)) sc.nd rfl (Or.inl rfl) rfl (Or.inl rfl))
    (css_one (cs_asg 2 (ce_call ((c_l_put W).mono (by decide)) hr rfl (ca_cons (ce_var 0 (pv 0)) (ca_cons (ce_tup (ca_cons (ce_ix (CE.toB (ce_ix (cb_var 0 (pv 0)) (CE.toB ce_int) (by intro _ _; rfl))) (cb_var 5 (pv 5)) (by intro _ _; rfl)) (ca_cons ce_int ca_nil))) (ca_cons (ce_var 2 (pv 2)) ca_nil)))) sc.nd rfl (Or.inl rfl) rfl (Or.inl rfl)))) css_nil))))
    (css_one (cs_ret (ce_var 2 (pv 2))))))), W.glo 74 rfl, F.kp, F.bindsN fun _ _ _ _ _ _ us hl => match us, hl with | [_, _], _ => rfl, .nil, fun _ _ => rfl⟩
theorem sc_l_same : FnScope ["_law_told", "_law_due", "_law_k"] ["_law_told", "_law_due"] (defScope s_l_same) := ⟨rfl, rfl, rfl, by decide +kernel, rfl, by decide +kernel, by decide +kernel⟩
theorem fn_none {P : Program} {w : World} {K : PySem.W.Frag} {C : Addr} {mg : Str → Option Value} {base : Heap} {f : Addr} {fd : FuncData} {ps : List Str} {n : Nat} (h : ps.length = n) : FnOk P w K mg base CX0 0 f fd ps (spOf K C n fun _ _ => none) :=
  ⟨fun vs H Q E z => by
    obtain ⟨_, _, _, _, _, _, _, _, _, hl, _⟩ := z
    exact hl.trans h.symm, fun A outer s H args us vs Q E _ _ _ _ z => by
    obtain ⟨_, _, _, _, _, _, _, _, _, _, z, _⟩ := z
    cases z⟩
theorem c_l_same {P : Program} {w : World} {K : PySem.W.Frag} {mg : Str → Option Value} {base : Heap} (W : Wl K mg) : ∀ n : Nat, Callee P w K mg base (He.ga K "Field") n "_law_same" 2 [] (m_l_same n)
  | 0 => by
    obtain ⟨fd, F⟩ := W.c.def_ 78 (d := dd_l_same) rfl
    exact ⟨_, fd, ["_law_told", "_law_due"], [], [], fn_none rfl, W.glo 75 rfl, F.kp, F.bindsN fun _ _ _ _ _ _ us hl => match us, hl with | [_, _], _ => rfl, .nil, fun _ _ => rfl⟩
  | k + 1 => by
    have ih := c_l_same (P := P) (w := w) (base := base) W k
    obtain ⟨fd, F⟩ := W.c.def_ 78 (d := dd_l_same) rfl
    have sc := sc_l_same
    exact ⟨_, fd, ["_law_told", "_law_due"], [], [], fn_meaning F sc (fun cdv A outer s H E hr =>
    (css_cons (cs_if (ct_val (ce_isi (n := "tuple") rfl (W.free 90 rfl) rfl (W.free 97 rfl) (by decide +kernel) (ce_var 1 (pv 1)))) (css_cons (cs_if (CW.t (cw_or (ct_not (ct_val (ce_isi (n := "tuple") rfl (W.free 90 rfl) rfl (W.free 97 rfl) (by decide +kernel) (ce_var 0 (pv 0))))) (cw_or1 (ct_cmp (op_ne2 hr.units) ov_ne (CE.toB (ce_len rfl (W.free 91 rfl) (cb_var 0 (pv 0)))) (CE.toB (ce_len rfl (W.free 91 rfl) (cb_var 1 (pv 1)))) (nomark _))))) (css_one (cs_ret ce_bl)) css_nil)
    (css_one (cs_ret (ce_cmp (op_eq2 hr.units) ov_eq (CL.toB (cl_lc1 2 rfl sc.nd (blkOk_by (by kernel_rfl)) (ci_b (ci_rng1 rfl (W.free 94 rfl) (ca_cons (ce_len rfl (W.free 91 rfl) (cb_var 1 (pv 1))) ca_nil) (h1 := (len_cons (fun _ _ _ _ h => len_nil h))))) (fun _ _ _ _ _ => (pg_name (i := 2) sc.nd rfl (Or.inl rfl))) (fun _ _ _ _ _ => (pts_one (ct_not (ct_val (ce_call (ih) hr rfl (ca_cons (ce_ix (cb_var 0 (pv 0)) (cb_var 2 (pv 2)) (by intro _ _; rfl)) (ca_cons (ce_ix (cb_var 1 (pv 1)) (cb_var 2 (pv 2)) (by intro _ _; rfl)) ca_nil))))))) (fun _ _ _ _ _ => (ce_var 2 (pv 2))))) (CL.toB (cl_lst ca_nil)) (nomark _))))) css_nil)
    (css_one (cs_ret (ce_and (ce_isi (n := "int") rfl (W.free 90 rfl) rfl (W.free 89 rfl) (by decide +kernel) (ce_var 0 (pv 0))) (ce_and (ce_not (ce_isi (n := "bool") rfl (W.free 90 rfl) rfl (W.free 87 rfl) (by decide +kernel) (ce_var 0 (pv 0)))) (ce_one (ce_cmp (op_eq2 hr.units) ov_eq (cb_var 0 (pv 0)) (cb_var 1 (pv 1)) (nomark _))))))))), W.glo 75 rfl, F.kp, F.bindsN fun _ _ _ _ _ _ us hl => match us, hl with | [_, _], _ => rfl, .nil, fun _ _ => rfl⟩
theorem sc_l_two_spaces : FnScope ["_law_hand_here", "_law_w", "_law_both", "_law_k", "_law_one", "_law_other"] ["_law_hand_here", "_law_w"] (defScope s_l_two_spaces) := ⟨rfl, rfl, rfl, by decide +kernel, rfl, by decide +kernel, by decide +kernel⟩
theorem c_l_two_spaces {P : Program} {w : World} {K : PySem.W.Frag} {mg : Str → Option Value} {base : Heap} (W : Wl K mg) : Callee P w K mg base (He.ga K "Field") 3 "_law_two_spaces" 2 [] m_l_two_spaces := by
  obtain ⟨fd, F⟩ := W.c.def_ 79 (d := dd_l_two_spaces) rfl
  have sc := sc_l_two_spaces
  exact ⟨_, fd, ["_law_hand_here", "_law_w"], [], [], fn_meaning F sc (fun cdv A outer s H E hr =>
    (css_cons (cs_asgLc1 2 3 rfl sc.nd rfl rfl (sw_true rfl rfl rfl (by decide +kernel)) (blkOk_by (by kernel_rfl)) (ci_b (ci_rng1 rfl (W.free 94 rfl) (ca_cons (ce_call ((c_l_draw W).mono (by decide)) hr rfl (ca_cons (ce_var 0 (pv 0)) (ca_cons ce_int ca_nil))) ca_nil) (h1 := (len_cons (fun _ _ _ _ h => len_nil h))))) (fun _ _ _ _ _ => (pg_name (i := 3) sc.nd rfl (Or.inl rfl))) (fun _ _ _ _ _ => pts_yes) (fun _ _ _ _ _ => (ce_call ((c_l_draw W).mono (by decide)) hr rfl (ca_cons (ce_var 0 (pv 0)) (ca_cons (ce_ix (cb_var 1 (pv 1)) (CE.toB ce_int) (by intro _ _; rfl)) ca_nil)))))
    (css_cons (cs_asg 4 (ce_op op_add3 ov_add (cb_var 2 (pv 2)) (CL.toB (cl_lc1 3 rfl sc.nd (blkOk_by (by kernel_rfl)) (ci_b (ci_rng1 rfl (W.free 94 rfl) (ca_cons (ce_call ((c_l_draw W).mono (by decide)) hr rfl (ca_cons (ce_var 0 (pv 0)) (ca_cons ce_int ca_nil))) ca_nil) (h1 := (len_cons (fun _ _ _ _ h => len_nil h))))) (fun _ _ _ _ _ => (pg_name (i := 3) sc.nd rfl (Or.inl rfl))) (fun _ _ _ _ _ => pts_yes) (fun _ _ _ _ _ => (ce_call ((c_l_draw W).mono (by decide)) hr rfl (ca_cons (ce_var 0 (pv 0)) (ca_cons (ce_ix (cb_var 1 (pv 1)) (CE.toB ce_int) (by intro _ _; rfl)) ca_nil))))))) sc.nd rfl (Or.inl rfl) rfl (Or.inl rfl))
    (css_cons (cs_asg 5 (CL.toE (cl_op op_cat on_cat (CL.toB (cl_lc1 3 rfl sc.nd (blkOk_by (by kernel_rfl)) (ci_b (ci_rng1 rfl (W.free 94 rfl) (ca_cons (ce_call ((c_l_draw W).mono (by decide)) hr rfl (ca_cons (ce_var 0 (pv 0)) (ca_cons ce_int ca_nil))) ca_nil) (h1 := (len_cons (fun _ _ _ _ h => len_nil h))))) (fun _ _ _ _ _ => (pg_name (i := 3) sc.nd rfl (Or.inl rfl))) (fun _ _ _ _ _ => pts_yes) (fun _ _ _ _ _ => (ce_call ((c_l_draw W).mono (by decide)) hr rfl (ca_cons (ce_var 0 (pv 0)) (ca_cons (ce_ix (cb_var 1 (pv 1)) (CE.toB ce_int) (by intro _ _; rfl)) ca_nil)))))) (cb_var 2 (pv 2)))) sc.nd rfl (Or.inl rfl) rfl (Or.inl rfl))
    (css_one (cs_ret (ce_tup (ca_cons (ce_var 4 (pv 4)) (ca_cons (ce_var 5 (pv 5)) ca_nil))))))))), W.glo 76 rfl, F.kp, F.bindsN fun _ _ _ _ _ _ us hl => match us, hl with | [_, _], _ => rfl, .nil, fun _ _ => rfl⟩
theorem sc_l_rows : FnScope ["_law_field_here", "_law_things", "_law_thing"] ["_law_field_here", "_law_things"] (defScope s_l_rows) := ⟨rfl, rfl, rfl, by decide +kernel, rfl, by decide +kernel, by decide +kernel⟩
theorem c_l_rows {P : Program} {w : World} {K : PySem.W.Frag} {mg : Str → Option Value} {base : Heap} (W : Wl K mg) : Callee P w K mg base (He.ga K "Field") 2 "_law_rows" 2 [] m_l_rows := by
  obtain ⟨fd, F⟩ := W.c.def_ 80 (d := dd_l_rows) rfl
  have sc := sc_l_rows
  exact ⟨_, fd, ["_law_field_here", "_law_things"], [], [], fn_meaning F sc (fun cdv A outer s H E hr =>
    (css_one (cs_ret (CL.toE (cl_lc1 2 rfl sc.nd (blkOk_by (by kernel_rfl)) (cb_seq (cb_var 1 (pv 1))) (fun _ _ _ _ _ => (pg_name (i := 2) sc.nd rfl (Or.inl rfl))) (fun _ _ _ _ _ => pts_yes) (fun _ _ _ _ _ => (ce_meth ((c_F_digits_of W).mono (by decide)) hr W.cls (by decide +kernel) (ce_var 0 (pv 0)) (ca_cons (ce_var 2 (pv 2)) ca_nil)))))))), W.glo 77 rfl, F.kp, F.bindsN fun _ _ _ _ _ _ us hl => match us, hl with | [_, _], _ => rfl, .nil, fun _ _ => rfl⟩
theorem sc_l_parts : FnScope ["_law_field_here", "_law_w", "_law_first_here", "_law_second", "_law_low", "_law_high", "_law_inside", "_law_thing", "_law_quotient", "_law_rest"] ["_law_field_here", "_law_w", "_law_first_here", "_law_second", "_law_low", "_law_high"] (defScope s_l_parts) := ⟨rfl, rfl, rfl, by decide +kernel, rfl, by decide +kernel, by decide +kernel⟩
theorem c_l_parts {P : Program} {w : World} {K : PySem.W.Frag} {mg : Str → Option Value} {base : Heap} (W : Wl K mg) : Callee P w K mg base (He.ga K "Field") 6 "_law_parts" 6 [] m_l_parts := by
  obtain ⟨fd, F⟩ := W.c.def_ 82 (d := dd_l_parts) rfl
  have sc := sc_l_parts
  exact ⟨_, fd, ["_law_field_here", "_law_w", "_law_first_here", "_law_second", "_law_low", "_law_high"], [], [], fn_meaning F sc (fun cdv A outer s H E hr =>
    (css_cons (cs_asg 6 (ce_cmp (op_eq2 hr.units) ov_eq (CL.toB (cl_lc1 7 rfl sc.nd (blkOk_by (by kernel_rfl)) (cb_seq (cb_var 5 (pv 5))) (fun _ _ _ _ _ => (pg_name (i := 7) sc.nd rfl (Or.inl rfl))) (fun _ _ _ _ _ => (pts_one (ct_cmp op_notIn_seq (ov_in true) (cb_var 7 (pv 7)) (cb_var 4 (pv 4)) rfl))) (fun _ _ _ _ _ => (ce_var 7 (pv 7))))) (CL.toB (cl_lst ca_nil)) (nomark _)) sc.nd rfl (Or.inl rfl) rfl (Or.inl rfl))
    (css_cons (cs_tup2 8 9 (ce_call ((c_divided_about W).mono (by decide)) hr rfl (ca_cons (ce_var 0 (pv 0)) (ca_cons (ce_var 2 (pv 2)) (ca_cons (ce_var 3 (pv 3)) ca_nil)))) (pg_tup rfl (pgs_cons (pg_name (i := 8) sc.nd rfl (Or.inl rfl)) (pgs_cons (pg_name (i := 9) sc.nd rfl (Or.inl rfl)) pgs_nil))))
    (css_cons (cs_if (ct_cmp (op_ne2 hr.units) ov_ne (CE.toB (ce_cmp (op_eq2 hr.units) ov_eq (cb_var 9 (pv 9)) (CE.toB (ce_tup ca_nil)) (nomark _))) (cb_var 6 (pv 6)) (nomark _)) (css_one (cs_ret ce_bl)) css_nil)
    (css_cons (cs_if (CW.t (cw_and (ct_cmp (op_eq2 hr.units) ov_eq (cb_var 9 (pv 9)) (CE.toB (ce_tup ca_nil)) (nomark _)) (cw_and1 (ct_not (ct_val (ce_call ((c_l_same W 4).mono (by decide)) hr rfl (ca_cons (ce_call ((c_put_into W).mono (by decide)) hr rfl (ca_cons (ce_var 0 (pv 0)) (ca_cons (ce_var 8 (pv 8)) (ca_cons (ce_var 3 (pv 3)) ca_nil)))) (ca_cons (ce_var 2 (pv 2)) ca_nil)))))))) (css_one (cs_ret ce_bl)) css_nil)
    (css_one (cs_ret (ce_or (ce_cmp (op_ne2 hr.units) ov_ne (cb_var 9 (pv 9)) (CE.toB (ce_tup ca_nil)) (nomark _)) (ce_one (ce_cmp (op_eq2 hr.units) ov_eq (CE.toB (ce_len rfl (W.free 91 rfl) (cb_var 8 (pv 8)))) (CE.toB (ce_op op_add3 ov_add (CE.toB (ce_op op_sub ov_sub (CE.toB (ce_len rfl (W.free 91 rfl) (cb_var 2 (pv 2)))) (CE.toB (ce_len rfl (W.free 91 rfl) (cb_var 3 (pv 3)))))) (CE.toB ce_int))) (nomark _))))))))))), W.glo 79 rfl, F.kp, F.bindsN fun _ _ _ _ _ _ us hl => match us, hl with | [_, _, _, _, _, _], _ => rfl, .nil, fun _ _ => rfl⟩
theorem sc_l_spaces_led : FnScope ["_law_hand_here", "_law_field_here", "_law_w", "_law_one", "_law_other", "_law_low", "_law_high", "_law_meet", "_law_thing", "_law_first_here", "_law_second", "_law_basis_here", "_law_common", "_law_rows_here", "_law_row", "_law_least"] ["_law_hand_here", "_law_field_here", "_law_w"] (defScope s_l_spaces_led) := ⟨rfl, rfl, rfl, by decide +kernel, rfl, by decide +kernel, by decide +kernel⟩
theorem c_l_spaces_led {P : Program} {w : World} {K : PySem.W.Frag} {mg : Str → Option Value} {base : Heap} (W : Wl K mg) : Callee P w K mg base (He.ga K "Field") 8 "_law_spaces_led" 3 [] m_l_spaces_led := by
  obtain ⟨fd, F⟩ := W.c.def_ 81 (d := dd_l_spaces_led) rfl
  have sc := sc_l_spaces_led
  exact ⟨_, fd, ["_law_hand_here", "_law_field_here", "_law_w"], [], [], fn_meaning F sc (fun cdv A outer s H E hr =>
    (css_cons (cs_tup2 3 4 (ce_call ((c_l_two_spaces W).mono (by decide)) hr rfl (ca_cons (ce_var 0 (pv 0)) (ca_cons (ce_var 2 (pv 2)) ca_nil))) (pg_tup rfl (pgs_cons (pg_name (i := 3) sc.nd rfl (Or.inl rfl)) (pgs_cons (pg_name (i := 4) sc.nd rfl (Or.inl rfl)) pgs_nil))))
    (css_cons (cs_asg 5 (ce_call ((c_l_span W).mono (by decide)) hr rfl (ca_cons (ce_var 2 (pv 2)) (ca_cons (ce_var 3 (pv 3)) ca_nil))) sc.nd rfl (Or.inl rfl) rfl (Or.inl rfl))
    (css_cons (cs_asg 6 (ce_call ((c_l_span W).mono (by decide)) hr rfl (ca_cons (ce_var 2 (pv 2)) (ca_cons (ce_var 4 (pv 4)) ca_nil))) sc.nd rfl (Or.inr rfl) rfl (Or.inl rfl))
    (css_cons (cs_asgLc1 7 8 rfl sc.nd rfl rfl (sw_true rfl rfl rfl (by decide +kernel)) (blkOk_by (by kernel_rfl)) (cb_seq (cb_var 5 (pv 5))) (fun _ _ _ _ _ => (pg_name (i := 8) sc.nd rfl (Or.inl rfl))) (fun _ _ _ _ _ => (pts_one (ct_cmp op_in_seq (ov_in false) (cb_var 8 (pv 8)) (cb_var 6 (pv 6)) rfl))) (fun _ _ _ _ _ => (ce_var 8 (pv 8))))
    (css_cons (cs_asg 9 (ce_call ((c_poly_of_space W).mono (by decide)) hr rfl (ca_cons (ce_var 1 (pv 1)) (ca_cons (ce_call ((c_l_given W).mono (by decide)) hr rfl (ca_cons (ce_var 0 (pv 0)) (ca_cons (ce_var 3 (pv 3)) ca_nil))) ca_nil))) sc.nd rfl (Or.inl rfl) rfl (Or.inl rfl))
    (css_cons (cs_asg 10 (ce_call ((c_poly_of_space W).mono (by decide)) hr rfl (ca_cons (ce_var 1 (pv 1)) (ca_cons (ce_call ((c_l_given W).mono (by decide)) hr rfl (ca_cons (ce_var 0 (pv 0)) (ca_cons (ce_var 4 (pv 4)) ca_nil))) ca_nil))) sc.nd rfl (Or.inl rfl) rfl (Or.inl rfl))
    (css_cons (cs_if (CW.t (cw_or (ct_not (ct_val (ce_call ((c_l_same W 4).mono (by decide)) hr rfl (ca_cons (ce_var 9 (pv 9)) (ca_cons (ce_call ((c_l_space_poly W).mono (by decide)) hr rfl (ca_cons (ce_var 2 (pv 2)) (ca_cons (ce_var 3 (pv 3)) ca_nil))) ca_nil))))) (cw_or1 (ct_not (ct_val (ce_call ((c_l_same W 4).mono (by decide)) hr rfl (ca_cons (ce_var 10 (pv 10)) (ca_cons (ce_call ((c_l_space_poly W).mono (by decide)) hr rfl (ca_cons (ce_var 2 (pv 2)) (ca_cons (ce_var 4 (pv 4)) ca_nil))) ca_nil)))))))) (css_one (cs_ret ce_bl)) css_nil)
    (css_cons (cs_asg 11 (ce_call ((c_l_basis W).mono (by decide)) hr rfl (ca_cons (ce_var 2 (pv 2)) (ca_cons (ce_var 7 (pv 7)) ca_nil))) sc.nd rfl (Or.inl rfl) rfl (Or.inl rfl))
    (css_cons (cs_asg 12 (ce_call ((c_common_about W).mono (by decide)) hr rfl (ca_cons (ce_var 1 (pv 1)) (ca_cons (ce_var 9 (pv 9)) (ca_cons (ce_var 10 (pv 10)) ca_nil)))) sc.nd rfl (Or.inl rfl) rfl (Or.inl rfl))
    (css_cons (cs_if (CW.t (cw_or (ct_not (ct_val (ce_call ((c_l_same W 4).mono (by decide)) hr rfl (ca_cons (ce_var 12 (pv 12)) (ca_cons (ce_call ((c_l_space_poly W).mono (by decide)) hr rfl (ca_cons (ce_var 2 (pv 2)) (ca_cons (ce_var 11 (pv 11)) ca_nil))) ca_nil))))) (cw_or1 (ct_not (ct_val (ce_call ((c_l_same W 4).mono (by decide)) hr rfl (ca_cons (ce_call ((c_zeros_of W).mono (by decide)) hr rfl (ca_cons (ce_var 1 (pv 1)) (ca_cons (ce_var 12 (pv 12)) ca_nil))) (ca_cons (ce_var 11 (pv 11)) ca_nil)))))))) (css_one (cs_ret ce_bl)) css_nil)
    (css_cons (cs_asg 13 (ce_call ((c_meet_spaces W).mono (by decide)) hr rfl (ca_cons (ce_ix (cb_var 2 (pv 2)) (CE.toB ce_int) (by intro _ _; rfl)) (ca_cons (ce_ix (cb_var 2 (pv 2)) (CE.toB ce_int) (by intro _ _; rfl)) (ca_cons (ce_call ((c_l_rows W).mono (by decide)) hr rfl (ca_cons (ce_var 1 (pv 1)) (ca_cons (ce_var 3 (pv 3)) ca_nil))) (ca_cons (ce_call ((c_l_rows W).mono (by decide)) hr rfl (ca_cons (ce_var 1 (pv 1)) (ca_cons (ce_var 4 (pv 4)) ca_nil))) ca_nil))))) sc.nd rfl (Or.inl rfl) rfl (Or.inl rfl))
    (css_cons (cs_if (ct_not (ct_val (ce_call ((c_l_same W 4).mono (by decide)) hr rfl (ca_cons (ce_tuple rfl (W.free 97 rfl) (CL.toB (cl_lc1 14 rfl sc.nd (blkOk_by (by kernel_rfl)) (cb_seq (cb_var 13 (pv 13))) (fun _ _ _ _ _ => (pg_name (i := 14) sc.nd rfl (Or.inl rfl))) (fun _ _ _ _ _ => pts_yes) (fun _ _ _ _ _ => (ce_meth ((c_F_thing_of W).mono (by decide)) hr W.cls (by decide +kernel) (ce_var 1 (pv 1)) (ca_cons (ce_var 14 (pv 14)) ca_nil)))))) (ca_cons (ce_var 11 (pv 11)) ca_nil))))) (css_one (cs_ret ce_bl)) css_nil)
    (css_cons (cs_asg 15 (ce_call ((c_least_about W).mono (by decide)) hr rfl (ca_cons (ce_var 1 (pv 1)) (ca_cons (ce_var 9 (pv 9)) (ca_cons (ce_var 10 (pv 10)) ca_nil)))) sc.nd rfl (Or.inl rfl) rfl (Or.inl rfl))
    (css_cons (cs_if (CW.t (cw_or (ct_not (ct_val (ce_call ((c_l_same W 4).mono (by decide)) hr rfl (ca_cons (ce_var 15 (pv 15)) (ca_cons (ce_call ((c_l_space_poly W).mono (by decide)) hr rfl (ca_cons (ce_var 2 (pv 2)) (ca_cons (ce_op op_add3 ov_add (cb_var 3 (pv 3)) (cb_var 4 (pv 4))) ca_nil))) ca_nil))))) (cw_or1 (ct_not (ct_val (ce_call ((c_l_same W 4).mono (by decide)) hr rfl (ca_cons (ce_var 15 (pv 15)) (ca_cons (ce_call ((c_poly_of_space W).mono (by decide)) hr rfl (ca_cons (ce_var 1 (pv 1)) (ca_cons (ce_op op_add3 ov_add (cb_var 3 (pv 3)) (cb_var 4 (pv 4))) ca_nil))) ca_nil)))))))) (css_one (cs_ret ce_bl)) css_nil)
    (css_cons (cs_if (ct_not (ct_val (ce_call ((c_l_same W 4).mono (by decide)) hr rfl (ca_cons (ce_call ((c_zeros_of W).mono (by decide)) hr rfl (ca_cons (ce_var 1 (pv 1)) (ca_cons (ce_var 15 (pv 15)) ca_nil))) (ca_cons (ce_call ((c_things_space W).mono (by decide)) hr rfl (ca_cons (ce_var 1 (pv 1)) (ca_cons (ce_op op_add3 ov_add (cb_var 3 (pv 3)) (cb_var 4 (pv 4))) ca_nil))) ca_nil))))) (css_one (cs_ret ce_bl)) css_nil)
    (css_one (cs_ret (ce_call ((c_l_parts W).mono (by decide)) hr rfl (ca_cons (ce_var 1 (pv 1)) (ca_cons (ce_var 2 (pv 2)) (ca_cons (ce_var 9 (pv 9)) (ca_cons (ce_var 10 (pv 10)) (ca_cons (ce_var 5 (pv 5)) (ca_cons (ce_var 6 (pv 6)) ca_nil))))))))))))))))))))))))), W.glo 78 rfl, F.kp, F.bindsN fun _ _ _ _ _ _ us hl => match us, hl with | [_, _, _], _ => rfl, .nil, fun _ _ => rfl⟩
theorem sc_l_zeros : FnScope ["_law_w", "_law_poly_here", "_law_thing"] ["_law_w", "_law_poly_here"] (defScope s_l_zeros) := ⟨rfl, rfl, rfl, by decide +kernel, rfl, by decide +kernel, by decide +kernel⟩
theorem c_l_zeros {P : Program} {w : World} {K : PySem.W.Frag} {mg : Str → Option Value} {base : Heap} (W : Wl K mg) : Callee P w K mg base (He.ga K "Field") 2 "_law_zeros" 2 [] m_l_zeros := by
  obtain ⟨fd, F⟩ := W.c.def_ 83 (d := dd_l_zeros) rfl
  have sc := sc_l_zeros
  exact ⟨_, fd, ["_law_w", "_law_poly_here"], [], [], fn_meaning F sc (fun cdv A outer s H E hr =>
    (css_one (cs_ret (CL.toE (cl_lc1 2 rfl sc.nd (blkOk_by (by kernel_rfl)) (ci_b (ci_rng1 rfl (W.free 94 rfl) (ca_cons (ce_ix (cb_var 0 (pv 0)) (CE.toB ce_int) (by intro _ _; rfl)) ca_nil) (h1 := (len_cons (fun _ _ _ _ h => len_nil h))))) (fun _ _ _ _ _ => (pg_name (i := 2) sc.nd rfl (Or.inl rfl))) (fun _ _ _ _ _ => (pts_one (ct_cmp (op_eq2 hr.units) ov_eq (CE.toB (ce_call ((c_l_value W).mono (by decide)) hr rfl (ca_cons (ce_var 0 (pv 0)) (ca_cons (ce_var 1 (pv 1)) (ca_cons (ce_var 2 (pv 2)) ca_nil))))) (CE.toB ce_int) (nomark _)))) (fun _ _ _ _ _ => (ce_var 2 (pv 2)))))))), W.glo 80 rfl, F.kp, F.bindsN fun _ _ _ _ _ _ us hl => match us, hl with | [_, _], _ => rfl, .nil, fun _ _ => rfl⟩
theorem sc_l_common_zeros : FnScope ["_law_hand_here", "_law_field_here", "_law_w", "_law_under", "_law_one", "_law_other", "_law_zeros_here", "_law_thing", "_law_common"] ["_law_hand_here", "_law_field_here", "_law_w"] (defScope s_l_common_zeros) := ⟨rfl, rfl, rfl, by decide +kernel, rfl, by decide +kernel, by decide +kernel⟩
theorem c_l_common_zeros {P : Program} {w : World} {K : PySem.W.Frag} {mg : Str → Option Value} {base : Heap} (W : Wl K mg) : Callee P w K mg base (He.ga K "Field") 8 "_law_common_zeros" 3 [] m_l_common_zeros := by
  obtain ⟨fd, F⟩ := W.c.def_ 84 (d := dd_l_common_zeros) rfl
  have sc := sc_l_common_zeros
  exact ⟨_, fd, ["_law_hand_here", "_law_field_here", "_law_w"], [], [], fn_meaning F sc (fun cdv A outer s H E hr =>
    (css_cons (cs_asg 3 (ce_call ((c_l_poly W).mono (by decide)) hr rfl (ca_cons (ce_var 0 (pv 0)) (ca_cons (ce_var 2 (pv 2)) (ca_cons ce_int ca_nil)))) sc.nd rfl (Or.inl rfl) rfl (Or.inl rfl))
    (css_cons (cs_asg 4 (ce_call ((c_l_poly W).mono (by decide)) hr rfl (ca_cons (ce_var 0 (pv 0)) (ca_cons (ce_var 2 (pv 2)) (ca_cons ce_int ca_nil)))) sc.nd rfl (Or.inl rfl) rfl (Or.inl rfl))
    (css_cons (cs_asg 5 (ce_call ((c_l_poly W).mono (by decide)) hr rfl (ca_cons (ce_var 0 (pv 0)) (ca_cons (ce_var 2 (pv 2)) (ca_cons ce_int ca_nil)))) sc.nd rfl (Or.inr rfl) rfl (Or.inl rfl))
    (css_cons (cs_if (ct_cmp op_gt ov_gt (CE.toB (ce_call ((c_l_draw W).mono (by decide)) hr rfl (ca_cons (ce_var 0 (pv 0)) (ca_cons ce_int ca_nil)))) (CE.toB ce_int) (nomark _)) (css_cons (cs_asg 4 (ce_call ((c_l_put W).mono (by decide)) hr rfl (ca_cons (ce_var 2 (pv 2)) (ca_cons (ce_call ((c_l_poly W).mono (by decide)) hr rfl (ca_cons (ce_var 0 (pv 0)) (ca_cons (ce_var 2 (pv 2)) (ca_cons ce_int ca_nil)))) (ca_cons (ce_var 3 (pv 3)) ca_nil)))) sc.nd rfl (Or.inl rfl) rfl (Or.inl rfl))
    (css_one (cs_asg 5 (ce_call ((c_l_put W).mono (by decide)) hr rfl (ca_cons (ce_var 2 (pv 2)) (ca_cons (ce_call ((c_l_poly W).mono (by decide)) hr rfl (ca_cons (ce_var 0 (pv 0)) (ca_cons (ce_var 2 (pv 2)) (ca_cons ce_int ca_nil)))) (ca_cons (ce_var 3 (pv 3)) ca_nil)))) sc.nd rfl (Or.inr rfl) rfl (Or.inl rfl)))) css_nil)
    (css_cons (cs_asgLc1 6 7 rfl sc.nd rfl rfl (sw_true rfl rfl rfl (by decide +kernel)) (blkOk_by (by kernel_rfl)) (cb_seq (CE.toB (ce_call ((c_l_zeros W).mono (by decide)) hr rfl (ca_cons (ce_var 2 (pv 2)) (ca_cons (ce_var 4 (pv 4)) ca_nil))))) (fun _ _ _ _ _ => (pg_name (i := 7) sc.nd rfl (Or.inl rfl))) (fun _ _ _ _ _ => (pts_one (ct_cmp (op_eq2 hr.units) ov_eq (CE.toB (ce_call ((c_l_value W).mono (by decide)) hr rfl (ca_cons (ce_var 2 (pv 2)) (ca_cons (ce_var 5 (pv 5)) (ca_cons (ce_var 7 (pv 7)) ca_nil))))) (CE.toB ce_int) (nomark _)))) (fun _ _ _ _ _ => (ce_var 7 (pv 7))))
    (css_cons (cs_asg 8 (ce_call ((c_common_about W).mono (by decide)) hr rfl (ca_cons (ce_var 1 (pv 1)) (ca_cons (ce_call ((c_l_given W).mono (by decide)) hr rfl (ca_cons (ce_var 0 (pv 0)) (ca_cons (ce_var 4 (pv 4)) ca_nil))) (ca_cons (ce_call ((c_l_given W).mono (by decide)) hr rfl (ca_cons (ce_var 0 (pv 0)) (ca_cons (ce_var 5 (pv 5)) ca_nil))) ca_nil)))) sc.nd rfl (Or.inl rfl) rfl (Or.inl rfl))
    (css_cons (cs_if (ct_not (ct_val (ce_call ((c_l_same W 4).mono (by decide)) hr rfl (ca_cons (ce_call ((c_zeros_of W).mono (by decide)) hr rfl (ca_cons (ce_var 1 (pv 1)) (ca_cons (ce_var 8 (pv 8)) ca_nil))) (ca_cons (ce_call ((c_l_basis W).mono (by decide)) hr rfl (ca_cons (ce_var 2 (pv 2)) (ca_cons (ce_var 6 (pv 6)) ca_nil))) ca_nil))))) (css_one (cs_ret ce_bl)) css_nil)
    (css_one (cs_ret (ce_call ((c_l_same W 4).mono (by decide)) hr rfl (ca_cons (ce_call ((c_space_things W).mono (by decide)) hr rfl (ca_cons (ce_var 1 (pv 1)) (ca_cons (ce_call ((c_zeros_of W).mono (by decide)) hr rfl (ca_cons (ce_var 1 (pv 1)) (ca_cons (ce_var 8 (pv 8)) ca_nil))) ca_nil))) (ca_cons (ce_tuple rfl (W.free 97 rfl) (CE.toB (ce_sorted rfl (W.free 96 rfl) (cb_var 6 (pv 6))))) ca_nil))))))))))))), W.glo 81 rfl, F.kp, F.bindsN fun _ _ _ _ _ _ us hl => match us, hl with | [_, _, _], _ => rfl, .nil, fun _ _ => rfl⟩
theorem sc_l_put_zeros : FnScope ["_law_hand_here", "_law_field_here", "_law_w", "_law_quotient", "_law_divisor", "_law_zeros_here", "_law_about", "_law_basis_here", "_law_thing", "_law_within", "_law_due"] ["_law_hand_here", "_law_field_here", "_law_w"] (defScope s_l_put_zeros) := ⟨rfl, rfl, rfl, by decide +kernel, rfl, by decide +kernel, by decide +kernel⟩
theorem c_l_put_zeros {P : Program} {w : World} {K : PySem.W.Frag} {mg : Str → Option Value} {base : Heap} (W : Wl K mg) : Callee P w K mg base (He.ga K "Field") 7 "_law_put_zeros" 3 [] m_l_put_zeros := by
  obtain ⟨fd, F⟩ := W.c.def_ 85 (d := dd_l_put_zeros) rfl
  have sc := sc_l_put_zeros
  exact ⟨_, fd, ["_law_hand_here", "_law_field_here", "_law_w"], [], [], fn_meaning F sc (fun cdv A outer s H E hr =>
    (css_cons (cs_asg 3 (ce_call ((c_l_poly W).mono (by decide)) hr rfl (ca_cons (ce_var 0 (pv 0)) (ca_cons (ce_var 2 (pv 2)) (ca_cons ce_int ca_nil)))) sc.nd rfl (Or.inr rfl) rfl (Or.inl rfl))
    (css_cons (cs_asg 4 (ce_call ((c_l_poly W).mono (by decide)) hr rfl (ca_cons (ce_var 0 (pv 0)) (ca_cons (ce_var 2 (pv 2)) (ca_cons ce_int ca_nil)))) sc.nd rfl (Or.inl rfl) rfl (Or.inl rfl))
    (css_cons (cs_asg 5 (ce_call ((c_l_zeros W).mono (by decide)) hr rfl (ca_cons (ce_var 2 (pv 2)) (ca_cons (ce_var 4 (pv 4)) ca_nil))) sc.nd rfl (Or.inr rfl) rfl (Or.inl rfl))
    (css_cons (cs_asg 6 (ce_call ((c_put_into W).mono (by decide)) hr rfl (ca_cons (ce_var 1 (pv 1)) (ca_cons (ce_var 3 (pv 3)) (ca_cons (ce_call ((c_l_given W).mono (by decide)) hr rfl (ca_cons (ce_var 0 (pv 0)) (ca_cons (ce_var 4 (pv 4)) ca_nil))) ca_nil)))) sc.nd rfl (Or.inl rfl) rfl (Or.inl rfl))
    (css_cons (cs_asg 7 (ce_call ((c_zeros_of W).mono (by decide)) hr rfl (ca_cons (ce_var 1 (pv 1)) (ca_cons (ce_var 6 (pv 6)) ca_nil))) sc.nd rfl (Or.inl rfl) rfl (Or.inl rfl))
    (css_cons (cs_for1 8 PassesOwn.never rfl (ci_seq (ce_var 5 (pv 5))) (pg_name (i := 8) sc.nd rfl (Or.inl rfl)) (css_one (cs_if (CW.t (cw_or (ct_cmp op_isNot2 ov_isNot (CE.toB (ce_call ((c_holds_thing W).mono (by decide)) hr rfl (ca_cons (ce_var 1 (pv 1)) (ca_cons (ce_var 7 (pv 7)) (ca_cons (ce_var 8 (pv 8)) ca_nil))))) (CE.toB ce_bl) (nomark _)) (cw_or1 (ct_cmp (op_ne2 hr.units) ov_ne (CE.toB (ce_call ((c_value_at W).mono (by decide)) hr rfl (ca_cons (ce_var 1 (pv 1)) (ca_cons (ce_var 6 (pv 6)) (ca_cons (ce_var 8 (pv 8)) ca_nil))))) (CE.toB ce_int) (nomark _))))) (css_one (cs_ret ce_bl)) css_nil)))
    (css_cons (cs_asg 9 (ce_call ((c_put_into W).mono (by decide)) hr rfl (ca_cons (ce_var 1 (pv 1)) (ca_cons (ce_var 4 (pv 4)) (ca_cons (ce_call ((c_l_given W).mono (by decide)) hr rfl (ca_cons (ce_var 0 (pv 0)) (ca_cons (ce_var 3 (pv 3)) ca_nil))) ca_nil)))) sc.nd rfl (Or.inl rfl) rfl (Or.inl rfl))
    (css_cons (cs_for1 8 PassesOwn.never rfl (ci_rng1 rfl (W.free 94 rfl) (ca_cons (ce_ix (cb_var 2 (pv 2)) (CE.toB ce_int) (by intro _ _; rfl)) ca_nil) (h1 := (len_cons (fun _ _ _ _ h => len_nil h)))) (pg_name (i := 8) sc.nd rfl (Or.inl rfl)) (css_one (cs_if (ct_cmp (op_ne2 hr.units) ov_ne (CE.toB (ce_cmp (op_eq2 hr.units) ov_eq (CE.toB (ce_call ((c_value_at W).mono (by decide)) hr rfl (ca_cons (ce_var 1 (pv 1)) (ca_cons (ce_var 9 (pv 9)) (ca_cons (ce_var 8 (pv 8)) ca_nil))))) (CE.toB ce_int) (nomark _))) (CE.toB (ce_cmp op_in_seq (ov_in false) (CE.toB (ce_call ((c_l_value W).mono (by decide)) hr rfl (ca_cons (ce_var 2 (pv 2)) (ca_cons (ce_var 3 (pv 3)) (ca_cons (ce_var 8 (pv 8)) ca_nil))))) (cb_var 5 (pv 5)) rfl)) (nomark _)) (css_one (cs_ret ce_bl)) css_nil)))
    (css_cons (cs_asgLc1 10 8 rfl sc.nd rfl rfl (sw_true rfl rfl rfl (by decide +kernel)) (blkOk_by (by kernel_rfl)) (ci_b (ci_rng1 rfl (W.free 94 rfl) (ca_cons (ce_ix (cb_var 2 (pv 2)) (CE.toB ce_int) (by intro _ _; rfl)) ca_nil) (h1 := (len_cons (fun _ _ _ _ h => len_nil h))))) (fun _ _ _ _ _ => (pg_name (i := 8) sc.nd rfl (Or.inl rfl))) (fun _ _ _ _ _ => (pts_one (ct_cmp op_in_seq (ov_in false) (CE.toB (ce_call ((c_l_value W).mono (by decide)) hr rfl (ca_cons (ce_var 2 (pv 2)) (ca_cons (ce_var 3 (pv 3)) (ca_cons (ce_var 8 (pv 8)) ca_nil))))) (cb_var 5 (pv 5)) rfl))) (fun _ _ _ _ _ => (ce_var 8 (pv 8))))
    (css_cons (cs_if (ct_not (ct_val (ce_call ((c_l_same W 4).mono (by decide)) hr rfl (ca_cons (ce_call ((c_zeros_of W).mono (by decide)) hr rfl (ca_cons (ce_var 1 (pv 1)) (ca_cons (ce_var 9 (pv 9)) ca_nil))) (ca_cons (ce_call ((c_l_basis W).mono (by decide)) hr rfl (ca_cons (ce_var 2 (pv 2)) (ca_cons (ce_var 10 (pv 10)) ca_nil))) ca_nil))))) (css_one (cs_ret ce_bl)) css_nil)
    (css_cons (cs_if (ct_cmp (op_eq2 hr.units) ov_eq (cb_var 4 (pv 4)) (CE.toB (ce_tup ca_nil)) (nomark _)) (css_one (cs_ret ce_bl)) css_nil)
    (css_cons (cs_if (ct_not (ct_val (ce_call ((c_l_same W 4).mono (by decide)) hr rfl (ca_cons (ce_call ((c_divided_within W).mono (by decide)) hr rfl (ca_cons (ce_var 1 (pv 1)) (ca_cons (ce_var 9 (pv 9)) (ca_cons (ce_var 4 (pv 4)) ca_nil)))) (ca_cons (ce_tup (ca_cons (ce_var 3 (pv 3)) (ca_cons (ce_tup ca_nil) ca_nil))) ca_nil))))) (css_one (cs_ret ce_bl)) css_nil)
    (css_one (cs_ret (ce_call ((c_l_same W 4).mono (by decide)) hr rfl (ca_cons (ce_call ((c_divided_about W).mono (by decide)) hr rfl (ca_cons (ce_var 1 (pv 1)) (ca_cons (ce_var 6 (pv 6)) (ca_cons (ce_var 4 (pv 4)) ca_nil)))) (ca_cons (ce_tup (ca_cons (ce_var 3 (pv 3)) (ca_cons (ce_tup ca_nil) ca_nil))) ca_nil)))))))))))))))))), W.glo 82 rfl, F.kp, F.bindsN fun _ _ _ _ _ _ us hl => match us, hl with | [_, _, _], _ => rfl, .nil, fun _ _ => rfl⟩
theorem sc_law : FnScope ["_law_script", "_law_hand_here", "_law_field_here", "_law_w", "_law_turn"] ["_law_script"] (defScope s_law) := ⟨rfl, rfl, rfl, by decide +kernel, rfl, by decide +kernel, by decide +kernel⟩
theorem c_law {P : Program} {w : World} {K : PySem.W.Frag} {mg : Str → Option Value} {base : Heap} (W : Wl K mg) {f : Addr} {fd : FuncData} (F : FunD K dd_law.name dd_law.qual dd_law.params dd_law.body dd_law.scope (dd_law.dvs K) (dd_law.kws K) f fd)
    {fh : Addr} {fdh : FuncData} (HF : FnOk P w K mg base CX0 1 fh fdh ["_law_script"] (spOf K (He.ga K "Field") 1 m_l_hand)) (hm : mg "_law_hand" = some (.ref fh)) (hk : PySem.W.keepIn K (.ref fh) = true) (hb : Binds K fdh ["_law_script"] [])
    {sp : Sp} (len : ∀ vs H Q E, sp vs H Q E → vs.length = 1) (pure_ : ∀ vs H Q E, sp vs H Q E → tSeq (tAsg (tCall (spOf K (He.ga K "Field") 1 m_l_hand) [] E0 (tCons (tVar 0) tNil)) (gName 1)) (canS K (He.ga K "Field") f_law) { nx := fun _ H' => Q .non H', rt := Q } (start ["_law_script", "_law_hand_here", "_law_field_here", "_law_w", "_law_turn"] vs) H) : FnOk P w K mg base CX0 9 f fd ["_law_script"] sp := by
  have sc := sc_law
  refine F.ok sc (fun vs H Q E h => len vs H Q E h) (fun cdv A outer s H vs Q E hr h => ⟨_, PSs.nox ?_, pure_ vs H Q E h⟩)
  exact pss_cons (ps_set (i := 1) sc.nd rfl (Or.inl rfl) (pe_call HF (hr.mono (by decide)) rfl hm hk hb .nil pass0 (pa_cons (pv 0) pa_nil)))
    (css_cons (cs_tup2 2 3 (ce_call ((c_l_field W).mono (by decide)) hr rfl (ca_cons (ce_var 1 (pv 1)) ca_nil)) (pg_tup rfl (pgs_cons (pg_name (i := 2) sc.nd rfl (Or.inl rfl)) (pgs_cons (pg_name (i := 3) sc.nd rfl (Or.inl rfl)) pgs_nil))))
    (css_cons (cs_for1 4 PassesOwn.never rfl (ci_rng1 rfl (W.free 94 rfl) (ca_cons ce_int ca_nil) (h1 := (len_cons (fun _ _ _ _ h => len_nil h)))) (pg_name (i := 4) sc.nd rfl (Or.inl rfl)) (css_cons (cs_if (CW.t (cw_or (ct_not (ct_val (ce_call ((c_l_spaces_led W).mono (by decide)) hr rfl (ca_cons (ce_var 1 (pv 1)) (ca_cons (ce_var 2 (pv 2)) (ca_cons (ce_var 3 (pv 3)) ca_nil)))))) (cw_or1 (ct_not (ct_val (ce_call ((c_l_common_zeros W).mono (by decide)) hr rfl (ca_cons (ce_var 1 (pv 1)) (ca_cons (ce_var 2 (pv 2)) (ca_cons (ce_var 3 (pv 3)) ca_nil))))))))) (css_one (cs_ret ce_bl)) css_nil)
    (css_one (cs_if (ct_not (ct_val (ce_call ((c_l_put_zeros W).mono (by decide)) hr rfl (ca_cons (ce_var 1 (pv 1)) (ca_cons (ce_var 2 (pv 2)) (ca_cons (ce_var 3 (pv 3)) ca_nil)))))) (css_one (cs_ret ce_bl)) css_nil))))
    (css_one (cs_ret ce_bl))))
end K39
end
section
set_option maxRecDepth 100000
set_option maxHeartbeats 0
namespace K39
open PySem PySem.Spec PyProof.Rows L2
def adr : List Addr := ([3, 336, 335, 149, 223, 401, 156, 155, 163, 162, 170, 169, 177, 176, 184, 183, 189, 188, 196, 195, 203, 202, 210, 209, 215, 214, 222, 221, 230, 229] : List Addr) ++ ([237, 236, 249, 248, 263, 262, 270, 269, 284, 283, 291, 290, 298, 297, 305, 304, 312, 311, 319, 318, 326, 325, 333, 332, 345, 344, 350, 349, 355, 354] : List Addr) ++ ([362, 361, 369, 368, 374, 373, 381, 380, 386, 385, 393, 392, 400, 399, 408, 407, 415, 414, 422, 421, 427, 426, 432, 431, 437, 436, 442, 441, 449, 448] : List Addr) ++ ([454, 453, 461, 460, 468, 467, 473, 472, 480, 479, 487, 486, 494, 493, 501, 500, 508, 507, 515, 514, 520, 519, 527, 526, 534, 533, 541, 540, 548, 547] : List Addr) ++ ([555, 554, 560, 559, 567, 566, 574, 573, 581, 580, 586, 585, 591, 590, 596, 595, 603, 602, 610, 609, 617, 616, 624, 623, 629, 628, 634, 633, 641, 640] : List Addr) ++ ([648, 647, 655, 654, 660, 659, 667, 666, 672, 671, 679, 678, 684, 683, 689, 688, 694, 693, 699, 698, 704, 703, 709, 708, 714, 713, 719, 718, 726, 725] : List Addr)
/-- the written part, by the addresses -/
def hk : PySem.W.Hook where
  α := He.AlD
  obs := fun s => He.obsD fa fn (He.frG s.heap.get? adr)
  val := fun _ => He.valD fn
  says := fun _ h => ∃ K : PySem.W.Frag, K.In h ∧ He.SaysD fa fn K
  of := fun _ _ e => ⟨_, He.frG_in, e⟩
  keeps := fun _ _ _ ⟨K, hK, c⟩ k => ⟨K, PySem.W.Frag.In.keeps hK k, c⟩
abbrev R : PySem.W.OpenRow := PySem.W.OpenLaw.row PySem.Challenge.rw_rankwords_k39_whole_divisions_zeros_and
def ob (s : PySem.W.SharedT) : He.AlD := He.obsD fa fn (He.frG (HandSHeadRun.getT s) adr)
theorem ob_eq (s : PySem.W.SharedT) : ob s = hk.obs s.abs := by
  have e : HandSHeadRun.getT s = s.abs.heap.get? := funext (HandSHeadRun.getT_eq s)
  unfold ob
  rw [e]
  rfl
theorem run (w : World) : HandSHeadRun.RunEq R (PySem.W.view R.prog [92]) hk ob 20000 loose w := by
  intro os
  kernel_rfl
end K39
end
section
set_option maxRecDepth 100000
set_option maxHeartbeats 0
/-! FIN: the end of the head -/
namespace K39
open PySem PySem.Spec PyProof.Rows L2
/-- a list that a step made stable becomes the hand -/
def without (S : Hp) (a : Addr) : Hp := fun b => if b = a then none else S b
theorem without_ne {S : Hp} {a b : Addr} (h : b ≠ a) : without S a b = S b := if_neg h
theorem without_same {S : Hp} {a : Addr} : without S a a = none := if_pos rfl
theorem repL_ints_without {g g2 : Gh} {S : Hp} {a : Addr} : ∀ {ns : List Int} {vs : List V}, RepL g S (dI ns) vs → RepL g2 (without S a) (dI ns) vs
  | [], vs, h => h
  | n :: ns, vs, h => by
    obtain ⟨v, r, e, h1, h2⟩ := h
    exact ⟨v, r, e, h1, repL_ints_without h2⟩
def spLaw (K : PySem.W.Frag) : Sp := fun vs H Q _ => ∃ (a : Addr) (ns : List Int), vs = [.ref a] ∧ ns.length ≤ 63 ∧ SqL K H a (ns.map V.int) ∧ ∀ H', Q (.bl true) H'
/-- the pure fact that the whole proof hangs on -/
def LawTrue : Prop := ∀ ns : List Int, ns.length ≤ 63 → ∃ (cs : List Int) (b c t : Int) (w' : Wd), m_l_hand [.scr ns] [] = some (.lst [.lst (dI cs), .int b, .int c, .int t], []) ∧
  f_law ((startE n_law [.scr ns]).set 1 (.val .hand)) [.lst (dI cs), .int b, .int c, .int t] = some (.rt (.bl true), w')
theorem pure_law (LT : LawTrue) {K : PySem.W.Frag} {C : Addr} {N : List Str} (hN : N.length = n_law) (vs : List V) (H : Hp) (Q : VK) (E : XK) (h : spLaw K vs H Q E) :
    tSeq (tAsg (tCall (spOf K C 1 m_l_hand) [] E0 (tCons (tVar 0) tNil)) (gName 1)) (canS K C f_law) { nx := fun _ H' => Q .non H', rt := Q } (L2.start N vs) H := by
  obtain ⟨a, ns, rfl, hl, hS, hQ⟩ := h
  obtain ⟨cs, b, c, t, w', e1, e2⟩ := LT ns hl
  have rs : RepL ⟨K, C, none⟩ H [.scr ns] [.ref a] := ⟨_, _, rfl, ⟨a, rfl, hS⟩, rfl⟩
  have hn0 : HandOk ⟨K, C, none⟩ H H [] := fun h e => nomatch e
  have ok0 := start_ok (g := ⟨K, C, none⟩) (N := N) (Same.refl H) hn0 rs
  obtain ⟨v0, q1, q2⟩ := ok0.en.val 0 (.scr ns) rfl
  have hv0 : v0 = .ref a := by
    have q3 : (L2.start N [V.ref a])[0]? = some (some (V.ref a)) := rfl
    rw [q3] at q1
    cases q1
    rfl
  subst hv0
  refine ⟨_, q1, none, H, [.scr ns], [], _, [], .refl H, hn0, rs, rfl, e1, fun v S1 H1 st1 n1 r1 => ?_⟩
  obtain ⟨p, us, rfl, hp, hr⟩ := r1
  have hH1 : H1 p = some (.lst us) := st1.sh _ _ hp
  obtain ⟨u1, us1, rfl, g1, g2⟩ := hr
  obtain ⟨q, ks, rfl, hq, hk⟩ := g1
  have npq : p ≠ q := fun z => by
    subst z
    rw [hp] at hq
    have := hk.ofI
    cases hq
    cases cs with
    | nil => cases this
    | cons n ns => cases this
  have sm : Same (without S1 p) H1 := fun b o e => by
    by_cases z : b = p
    · subst z
      rw [without_same] at e
      cases e
    · rw [without_ne z] at e
      exact st1.sh _ _ e
  have hn2 : HandOk ⟨K, C, some p⟩ (without S1 p) H1 [.lst (dI cs), .int b, .int c, .int t] := fun h e => by
    cases e
    refine ⟨without_same, _, hH1, _, _, rfl, ⟨q, ks, rfl, by rw [without_ne (Ne.symm npq)]; exact hq, repL_ints_without hk⟩, ?_⟩
    obtain ⟨y1, y2, rfl, y3, y4⟩ := g2
    obtain ⟨y5, y6, rfl, y7, y8⟩ := y4
    obtain ⟨y9, y10, rfl, y11, y12⟩ := y8
    exact ⟨_, _, rfl, y3, _, _, rfl, y7, _, _, rfl, y11, y12⟩
  have hS2 : SqL K (without S1 p) a (ns.map V.int) := by
    rcases hS with h | h
    · have nox : ∀ o : HO, H a = some o → o ≠ .lst (V.ref q :: us1) → p ≠ a := fun o e ne z => by
        subst z
        rw [st1.ss _ _ e] at hp
        exact ne (Option.some.inj hp)
      rcases h with h | ⟨o, h⟩
      · have npa := nox _ h fun z => by
          injection z with z
          cases ns with
          | nil => cases z
          | cons n ns => cases z
        exact .inl (.inl (by rw [without_ne (Ne.symm npa)]; exact st1.ss _ _ h))
      · have npa := nox _ h fun z => nomatch z
        exact .inl (.inr ⟨o, by rw [without_ne (Ne.symm npa)]; exact st1.ss _ _ h⟩)
    · exact .inr h
  have q3 : (L2.start N [V.ref a]).length = n_law := by
    rw [← hN]
    have := ok0.en.len
    rw [this]
    show (startE N.length [D.scr ns]).length = N.length
    rw [hN]
    rfl
  refine ⟨some p, without S1 p, H1, without S1 p, _, _, _, w', ⟨Step.refl sm, ⟨?_, fun i d e => ?_, fun i es e => ?_, fun i j es fs b' e _ => ?_⟩, fun i es b' e => ?_, hn2⟩, e2, fun S2 H2 m2 v st2 n2 r2 => ?_⟩
  · rw [List.length_set, q3]
    rfl
  · match i, e with
    | 0, e =>
      cases e
      refine ⟨.ref a, ?_, a, rfl, hS2⟩
      rw [List.getElem?_set_ne (by decide)]
      exact q1
    | 1, e =>
      cases e
      refine ⟨.ref p, ?_, p, rfl, rfl⟩
      rw [List.getElem?_set_self (by rw [q3]; decide)]
    | 2, e => cases e
    | 3, e => cases e
    | 4, e => cases e
    | n + 5, e => cases e
  · match i, e with
    | 0, e => cases e
    | 1, e => cases e
    | 2, e => cases e
    | 3, e => cases e
    | 4, e => cases e
    | n + 5, e => cases e
  · match i, e with
    | 0, e => cases e
    | 1, e => cases e
    | 2, e => cases e
    | 3, e => cases e
    | 4, e => cases e
    | n + 5, e => cases e
  · match i, e with
    | 0, e => cases e
    | 1, e => cases e
    | 2, e => cases e
    | 3, e => cases e
    | 4, e => cases e
    | n + 5, e => cases e
  · have e3 : v = .bl true := r2
    subst e3
    exact hQ H2
end K39
end
section
set_option maxRecDepth 100000
set_option maxHeartbeats 0
namespace K39
open PySem PySem.Spec PyProof.Rows L2
theorem facts (LT : LawTrue) {P : Program} {w : World} {K : PySem.W.Frag} {h : Heap} {mg : Str → Option Value} {f : Addr} (X : K.In h) (G : h.Ns mainGlobals mg) (hfa : mg ("law" : Str) = some (.ref f)) (c : He.SaysD fa fn K) :
    ∃ fd : FuncData, (∀ (s : Shared) (v : Value), BindsTo s fd ⟨[v], []⟩ [("_law_script", v)]) ∧ ∀ base : Heap, K.In base → base.Ns mainGlobals mg → FnOk P w K mg base CX0 9 f fd ["_law_script"] (spLaw K) := by
  have W : Wl K mg := ⟨c, h, X, G⟩
  obtain ⟨fd, F⟩ := c.def_ 86 (d := dd_law) rfl
  have e := hfa.symm.trans (He.glo_ok X G (c.fact 83 (f := .glo "law") rfl))
  cases e
  have b := FunD.bindsA (ps := ["_law_script"]) F fun _ _ _ _ _ _ us hl => match us, hl with | [_], _ => rfl
  refine ⟨fd, fun s v => b s [v] rfl, fun base _ _ => ?_⟩
  obtain ⟨fh, FH⟩ := c.def_ 58 (d := dd_l_hand) rfl
  have bh : Binds K fh ["_law_script"] [] := FH.bindsN fun _ _ _ _ _ _ us hl => match us, hl with | [_], _ => rfl
  exact c_law W F (o_l_hand W FH) (W.glo 55 rfl) FH.kp bh (fun vs H Q E h => by
    obtain ⟨a, ns, rfl, _⟩ := h
    rfl) (fun vs H Q E h => pure_law LT rfl vs H Q E h)
end K39
open PySem PySem.W PySem.Calls PyProof.Rows
theorem K39.holds_of (LT : K39.LawTrue) : PySem.Challenge.rw_rankwords_k39_whole_divisions_zeros_and.Holds := by
  w_on; o_law
  refine HandSHeadRun.head_any (r := OpenLaw.row PySem.Challenge.rw_rankwords_k39_whole_divisions_zeros_and) (q := view (OpenLaw.row PySem.Challenge.rw_rankwords_k39_whole_divisions_zeros_and).prog [92]) (H := K39.hk) (ob := K39.ob) (M := 20000) (loose := K39.loose) (d := HandSHeadRun.topDef (OpenLaw.row PySem.Challenge.rw_rankwords_k39_whole_divisions_zeros_and).prog 92) (kwd := []) K39.ob_eq
    (by kernel_rfl) (fun s => by kernel_rfl) K39.run (by kernel_rfl) (by kernel_rfl) (by kernel_rfl) (by rfl) (by first | assumption | decide +kernel) (by decide +kernel) ⟨rfl, rfl, rfl, rfl, rfl, by decide +kernel⟩ ?hw ?hc
  case hw => w_witness2
  case hc =>
    refine L2.walk_ofE (l := PySem.Challenge.rw_rankwords_k39_whole_divisions_zeros_and) (n := 63) (k := 9) (x := "_law_script") (CX := L2.CX0) rfl (by decide) (by kernel_rfl) ⟨rfl, by decide, by decide⟩ ?F (fun _ _ _ _ z => z)
    intro w mg fa h Y G hmg0
    obtain ⟨K, KX, c⟩ := Y
    have hmg : mg ("law" : PySem.Str) = some (.ref fa) := by
      have e : (HandSHeadRun.topDef (OpenLaw.row PySem.Challenge.rw_rankwords_k39_whole_divisions_zeros_and).prog 92).name = ("law" : PySem.Str) := by kernel_rfl
      rw [← e]
      exact hmg0
    obtain ⟨fd, hb, hF⟩ := K39.facts LT (P := (PySem.Challenge.rw_rankwords_k39_whole_divisions_zeros_and).prog) (w := w) KX G hmg c
    exact ⟨K, fd, K39.spLaw K, KX, hb, fun H a ns hl _ hS => ⟨a, ns, rfl, hl, hS, fun _ => rfl⟩, hF⟩
end
section
set_option autoImplicit false
/-! P1: a finite field with its Frobenius; skew polynomials over it -/
namespace K39
open Lean.Grind

/-- what is used of the field -/
class FF (α : Type) extends CommRing α where
  inv : α → α
  sg : α → α
  dec : DecidableEq α
  p : Nat
  d : Nat
  one_ne : (1 : α) ≠ 0
  mul_inv : ∀ a : α, a ≠ 0 → a * inv a = 1
  sg_add : ∀ a b : α, sg (a + b) = sg a + sg b
  sg_mul : ∀ a b : α, sg (a * b) = sg a * sg b
  fix : ∀ c : α, sg c = c → ∃ k : Nat, c = (k : α)
  d_pos : 0 < d
  p_pos : 0 < p
  p_char : (p : α) = 0
  sg_inj : ∀ a : α, sg a = 0 → a = 0

/-- a ring of its few laws -/
def ringOf {R : Type} (zero one : R) (add mul : R → R → R) (neg : R → R) (h1 : ∀ a, add a zero = a) (h2 : ∀ a b, add a b = add b a) (h3 : ∀ a b c, add (add a b) c = add a (add b c)) (h4 : ∀ a b c, mul (mul a b) c = mul a (mul b c))
    (h5 : ∀ a, mul a one = a) (h6 : ∀ a, mul one a = a) (h7 : ∀ a b c, mul a (add b c) = add (mul a b) (mul a c)) (h8 : ∀ a b c, mul (add a b) c = add (mul a c) (mul b c)) (h9 : ∀ a, mul zero a = zero) (h10 : ∀ a, mul a zero = zero) (h11 : ∀ a, add (neg a) a = zero) : Ring R :=
  let nc : Nat → R := fun n => Nat.rec zero (fun k x => Nat.rec one (fun _ _ => add x one) k) n
  have nc1 : ∀ n, nc (n + 1) = add (nc n) one := fun n => by
    cases n with
    | zero => show one = add zero one; rw [h2, h1]
    | succ n => rfl
  have nn : ∀ a, neg (neg a) = a := fun a => by
    have e : add (neg (neg a)) (add (neg a) a) = a := by rw [← h3, h11, h2, h1]
    rw [h11, h1] at e
    exact e
  have nm : ∀ a b, neg (mul a b) = mul (neg a) b := fun a b => by
    have e : add (mul (neg a) b) (mul a b) = zero := by rw [← h8, h11, h9]
    have e2 : add (add (mul (neg a) b) (mul a b)) (neg (mul a b)) = neg (mul a b) := by rw [e, h2, h1]
    rw [h3, h2 (mul a b), h11, h1] at e2
    exact e2.symm
  have nz : neg zero = zero := by
    have e := h11 zero
    rw [h1] at e
    exact e
  { add := add, mul := mul, neg := neg, sub := fun a b => add a (neg b)
    natCast := ⟨nc⟩, ofNat := fun n => ⟨nc n⟩, nsmul := ⟨fun n a => mul (nc n) a⟩
    npow := ⟨fun a n => Nat.rec one (fun _ x => mul x a) n⟩
    add_zero := h1, add_comm := h2, add_assoc := h3, mul_assoc := h4, mul_one := h5, one_mul := h6, left_distrib := h7, right_distrib := h8, zero_mul := h9, mul_zero := h10
    pow_zero := fun _ => rfl, pow_succ := fun _ _ => rfl
    ofNat_succ := nc1
    ofNat_eq_natCast := fun _ => rfl
    nsmul_eq_natCast_mul := fun _ _ => rfl
    intCast := ⟨fun i => match i with
      | .ofNat n => nc n
      | .negSucc n => neg (nc (n + 1))⟩
    zsmul := ⟨fun i a => mul (match i with
      | .ofNat n => nc n
      | .negSucc n => neg (nc (n + 1))) a⟩
    neg_add_cancel := h11
    sub_eq_add_neg := fun _ _ => rfl
    neg_zsmul := fun i a => by
      cases i with
      | ofNat n =>
        cases n with
        | zero =>
          show mul zero a = neg (mul zero a)
          rw [h9, nz]
        | succ n =>
          show mul (neg (nc (n + 1))) a = neg (mul (nc (n + 1)) a)
          rw [nm]
      | negSucc n =>
        show mul (nc (n + 1)) a = neg (mul (neg (nc (n + 1))) a)
        rw [nm, nn]
    zsmul_natCast_eq_nsmul := fun _ _ => rfl
    intCast_ofNat := fun _ => rfl
    intCast_neg := fun i => by
      cases i with
      | ofNat n =>
        cases n with
        | zero => exact nz.symm
        | succ n => rfl
      | negSucc n => exact (nn _).symm }

section
variable {α : Type} [FF α]
open FF
instance : DecidableEq α := FF.dec
instance instNC : NatCast α := Semiring.natCast
theorem sg_zero : sg (0 : α) = 0 := by
  have h := sg_add (0 : α) 0
  have e : (0 : α) + 0 = 0 := by grind
  rw [e] at h
  grind
theorem sg_one : sg (1 : α) = 1 := by
  have h := sg_mul (1 : α) 1
  have e : (1 : α) * 1 = 1 := by grind
  rw [e] at h
  have n : sg (1 : α) ≠ 0 := fun z => one_ne (sg_inj _ z)
  have k := mul_inv _ n
  grind
theorem sg_neg (a : α) : sg (-a) = - sg a := by
  have h := sg_add (-a) a
  have e : -a + a = 0 := by grind
  rw [e, sg_zero] at h
  grind
theorem sg_sub (a b : α) : sg (a - b) = sg a - sg b := by
  have e : a - b = a + -b := by grind
  rw [e, sg_add, sg_neg]
  grind
theorem mul_ne {a b : α} (ha : a ≠ 0) (hb : b ≠ 0) : a * b ≠ 0 := fun z => by
  have k := mul_inv a ha
  have : b = (a * b) * inv a := by grind
  rw [z] at this
  apply hb
  rw [this]
  grind
theorem sg_ne {a : α} (h : a ≠ 0) : sg a ≠ 0 := fun z => h (sg_inj _ z)
def sgN : Nat → α → α
  | 0, x => x
  | k + 1, x => sgN k (sg x)
theorem sgN_ne : ∀ (k : Nat) {a : α}, a ≠ 0 → sgN k a ≠ 0
  | 0, _, h => h
  | k + 1, _, h => sgN_ne k (sg_ne h)
theorem sgN_zero : ∀ k : Nat, sgN k (0 : α) = 0
  | 0 => rfl
  | k + 1 => by
    show sgN k (sg 0) = 0
    rw [sg_zero, sgN_zero k]
theorem sgN_sg : ∀ (k : Nat) (a : α), sgN k (sg a) = sg (sgN k a)
  | 0, _ => rfl
  | k + 1, a => sgN_sg k (sg a)
theorem sgN_add' : ∀ (j k : Nat) (a : α), sgN (j + k) a = sgN j (sgN k a)
  | j, 0, _ => rfl
  | j, k + 1, a => sgN_add' j k (sg a)
theorem sgN_mul : ∀ (k : Nat) (a b : α), sgN k (a * b) = sgN k a * sgN k b
  | 0, _, _ => rfl
  | k + 1, a, b => by
    show sgN k (sg (a * b)) = _
    rw [sg_mul, sgN_mul k]
    rfl

/-! ### skew power series -/
def mulK : Nat → (Nat → α) → (Nat → α) → α
  | 0, f, g => f 0 * g 0
  | k + 1, f, g => f 0 * g (k + 1) + mulK k (fun i => f (i + 1)) (fun i => sg (g i))
theorem mulK_zl : ∀ (k : Nat) (g : Nat → α), mulK k (fun _ => 0) g = 0
  | 0, g => by show (0 : α) * g 0 = 0; grind
  | k + 1, g => by
    show (0 : α) * g (k + 1) + mulK k (fun _ => 0) _ = 0
    rw [mulK_zl k]
    grind
theorem mulK_zr : ∀ (k : Nat) (f : Nat → α), mulK k f (fun _ => 0) = 0
  | 0, f => by show f 0 * (0 : α) = 0; grind
  | k + 1, f => by
    show f 0 * (0 : α) + mulK k _ (fun _ => sg 0) = 0
    rw [sg_zero, mulK_zr k]
    grind
theorem mulK_addl : ∀ (k : Nat) (f f' g : Nat → α), mulK k (fun i => f i + f' i) g = mulK k f g + mulK k f' g
  | 0, f, f', g => by
    show (f 0 + f' 0) * g 0 = f 0 * g 0 + f' 0 * g 0
    grind
  | k + 1, f, f', g => by
    show (f 0 + f' 0) * g (k + 1) + mulK k (fun i => f (i + 1) + f' (i + 1)) _ = (f 0 * g (k + 1) + mulK k _ _) + (f' 0 * g (k + 1) + mulK k _ _)
    rw [mulK_addl k]
    grind
theorem mulK_addr : ∀ (k : Nat) (f g g' : Nat → α), mulK k f (fun i => g i + g' i) = mulK k f g + mulK k f g'
  | 0, f, g, g' => by
    show f 0 * (g 0 + g' 0) = f 0 * g 0 + f 0 * g' 0
    grind
  | k + 1, f, g, g' => by
    have e : (fun i => sg (g i + g' i)) = fun i => sg (g i) + sg (g' i) := funext fun i => sg_add _ _
    show f 0 * (g (k + 1) + g' (k + 1)) + mulK k _ (fun i => sg (g i + g' i)) = (f 0 * g (k + 1) + mulK k _ _) + (f 0 * g' (k + 1) + mulK k _ _)
    rw [e, mulK_addr k]
    grind
theorem mulK_cl (c : α) : ∀ (k : Nat) (f g : Nat → α), mulK k (fun i => c * f i) g = c * mulK k f g
  | 0, f, g => by
    show c * f 0 * g 0 = c * (f 0 * g 0)
    grind
  | k + 1, f, g => by
    show c * f 0 * g (k + 1) + mulK k (fun i => c * f (i + 1)) _ = c * (f 0 * g (k + 1) + mulK k _ _)
    rw [mulK_cl c k]
    grind
theorem mulK_sg : ∀ (k : Nat) (f g : Nat → α), sg (mulK k f g) = mulK k (fun i => sg (f i)) (fun i => sg (g i))
  | 0, f, g => sg_mul _ _
  | k + 1, f, g => by
    show sg (f 0 * g (k + 1) + mulK k _ _) = sg (f 0) * sg (g (k + 1)) + mulK k _ _
    rw [sg_add, sg_mul, mulK_sg k]
theorem mulK_assoc : ∀ (k : Nat) (f g h : Nat → α), mulK k (fun i => mulK i f g) h = mulK k f (fun i => mulK i g h)
  | 0, f, g, h => by
    show f 0 * g 0 * h 0 = f 0 * (g 0 * h 0)
    grind
  | k + 1, f, g, h => by
    have e : (fun i => mulK (i + 1) f g) = fun i => (f 0 * g (i + 1)) + mulK i (fun i => f (i + 1)) (fun i => sg (g i)) := rfl
    have e2 : (fun i => sg (mulK i g h)) = fun i => mulK i (fun i => sg (g i)) (fun i => sg (h i)) := funext fun i => mulK_sg i g h
    show f 0 * g 0 * h (k + 1) + mulK k (fun i => mulK (i + 1) f g) (fun i => sg (h i)) = f 0 * (g 0 * h (k + 1) + mulK k (fun i => g (i + 1)) (fun i => sg (h i))) + mulK k (fun i => f (i + 1)) (fun i => sg (mulK i g h))
    rw [e, e2, mulK_addl, mulK_assoc k, mulK_cl]
    grind
def Sup (N : Nat) (f : Nat → α) : Prop := ∀ k, N ≤ k → f k = 0
theorem Sup.mono {N M : Nat} {f : Nat → α} (h : Sup N f) (hm : N ≤ M) : Sup M f := fun k hk => h k (Nat.le_trans hm hk)
theorem Sup.tail {N : Nat} {f : Nat → α} (h : Sup (N + 1) f) : Sup N (fun i => f (i + 1)) := fun k hk => h (k + 1) (Nat.succ_le_succ hk)
theorem Sup.sg {N : Nat} {f : Nat → α} (h : Sup N f) : Sup N (fun i => sg (f i)) := fun k hk => by
  show FF.sg (f k) = 0
  rw [h k hk, sg_zero]
/-- the top term of a product -/
theorem mulK_top : ∀ (n m : Nat) (f g : Nat → α), Sup (n + 1) f → Sup (m + 1) g → mulK (n + m) f g = f n * sgN n (g m) ∧ Sup (n + m + 1) (fun k => mulK k f g)
  | 0, m, f, g, hf, hg => by
    have e : (fun i => f (i + 1)) = fun _ => (0 : α) := funext fun i => hf (i + 1) (Nat.succ_le_succ (Nat.zero_le i))
    have all : ∀ k, mulK k f g = f 0 * g k := fun k => by
      cases k with
      | zero => rfl
      | succ k =>
        show f 0 * g (k + 1) + mulK k (fun i => f (i + 1)) _ = _
        rw [e, mulK_zl]
        grind
    refine ⟨by rw [all, Nat.zero_add]; rfl, fun k hk => ?_⟩
    show mulK k f g = 0
    rw [all, hg k (by omega)]
    grind
  | n + 1, m, f, g, hf, hg => by
    obtain ⟨h1, h2⟩ := mulK_top n m (fun i => f (i + 1)) (fun i => sg (g i)) hf.tail hg.sg
    have e : n + 1 + m = n + m + 1 := by omega
    refine ⟨?_, fun k hk => ?_⟩
    · rw [e]
      show f 0 * g (n + m + 1) + mulK (n + m) _ _ = _
      rw [h1, hg (n + m + 1) (by omega)]
      show f 0 * 0 + f (n + 1) * sgN n (sg (g m)) = f (n + 1) * sgN n (sg (g m))
      grind
    · cases k with
      | zero => omega
      | succ k =>
        have h3 : mulK k (fun i => f (i + 1)) (fun i => sg (g i)) = 0 := h2 k (by omega)
        show f 0 * g (k + 1) + mulK k _ _ = 0
        rw [h3, hg (k + 1) (by omega)]
        grind
theorem mulK_sup {N M : Nat} {f g : Nat → α} (hf : Sup N f) (hg : Sup M g) : Sup (N + M) (fun k => mulK k f g) := by
  have h := (mulK_top N M f g (hf.mono (Nat.le_succ _)) (hg.mono (Nat.le_succ _))).2
  intro k hk
  rcases Nat.lt_or_ge k (N + M + 1) with q | q
  · have e : k = N + M := by omega
    subst e
    have h2 := (mulK_top N M f g (hf.mono (Nat.le_succ _)) (hg.mono (Nat.le_succ _))).1
    show mulK (N + M) f g = 0
    rw [h2, hf N (Nat.le_refl _)]
    grind
  · exact h k q
end

/-! ### the ring of skew polynomials -/
def Po (α : Type) [FF α] : Type := { f : Nat → α // ∃ N, Sup N f }
section
variable {α : Type} [FF α]
open FF
def Po.co (f : Po α) (k : Nat) : α := f.1 k
theorem Po.ext {f g : Po α} (h : ∀ k, f.co k = g.co k) : f = g := Subtype.ext (funext h)
def Po.mk' (f : Nat → α) (h : ∃ N, Sup N f) : Po α := ⟨f, h⟩
instance : Ring (Po α) := ringOf ⟨fun _ => 0, 0, fun _ _ => rfl⟩ ⟨fun k => if k = 0 then 1 else 0, 1, fun k hk => if_neg (by omega)⟩
  (fun f g => ⟨fun k => f.1 k + g.1 k, by
    obtain ⟨N, h⟩ := f.2
    obtain ⟨M, k⟩ := g.2
    refine ⟨N + M, fun i hi => ?_⟩
    show f.1 i + g.1 i = 0
    rw [h i (by omega), k i (by omega)]
    grind⟩)
  (fun f g => ⟨fun k => mulK k f.1 g.1, by
    obtain ⟨N, h⟩ := f.2
    obtain ⟨M, k⟩ := g.2
    exact ⟨N + M, mulK_sup h k⟩⟩)
  (fun f => ⟨fun k => - f.1 k, by
    obtain ⟨N, h⟩ := f.2
    refine ⟨N, fun i hi => ?_⟩
    show - f.1 i = 0
    rw [h i hi]
    grind⟩)
  (fun f => Po.ext fun k => show f.1 k + 0 = f.1 k by grind)
  (fun f g => Po.ext fun k => show f.1 k + g.1 k = g.1 k + f.1 k by grind)
  (fun f g h => Po.ext fun k => show f.1 k + g.1 k + h.1 k = f.1 k + (g.1 k + h.1 k) by grind)
  (fun f g h => Po.ext fun k => mulK_assoc k f.1 g.1 h.1)
  (fun f => Po.ext fun k => by
    have main : ∀ (k : Nat) (f : Nat → α), mulK k f (fun k => if k = 0 then (1 : α) else 0) = f k := fun k => by
      induction k with
      | zero => intro f; show f 0 * (if 0 = 0 then (1 : α) else 0) = f 0; rw [if_pos rfl]; grind
      | succ k ih =>
        intro f
        have e : (fun i => sg (if i = 0 then (1 : α) else 0)) = fun i => if i = 0 then (1 : α) else 0 := funext fun i => by
          by_cases z : i = 0
          · rw [if_pos z, sg_one]
          · rw [if_neg z, sg_zero]
        show f 0 * (if k + 1 = 0 then (1 : α) else 0) + mulK k (fun i => f (i + 1)) (fun i => sg (if i = 0 then (1 : α) else 0)) = f (k + 1)
        rw [e, ih, if_neg (Nat.succ_ne_zero k)]
        grind
    exact main k f.1)
  (fun f => Po.ext fun k => by
    show mulK k (fun k => if k = 0 then (1 : α) else 0) f.1 = f.1 k
    cases k with
    | zero => show (if 0 = 0 then (1 : α) else 0) * f.1 0 = f.1 0; rw [if_pos rfl]; grind
    | succ k =>
      have e : (fun i : Nat => if i + 1 = 0 then (1 : α) else 0) = fun _ => 0 := funext fun i => if_neg (Nat.succ_ne_zero i)
      show (if 0 = 0 then (1 : α) else 0) * f.1 (k + 1) + mulK k (fun i => if i + 1 = 0 then (1 : α) else 0) _ = f.1 (k + 1)
      rw [e, mulK_zl, if_pos rfl]
      grind)
  (fun f g h => Po.ext fun k => mulK_addr k f.1 g.1 h.1)
  (fun f g h => Po.ext fun k => mulK_addl k f.1 g.1 h.1)
  (fun f => Po.ext fun k => mulK_zl k f.1)
  (fun f => Po.ext fun k => mulK_zr k f.1)
  (fun f => Po.ext fun k => show - f.1 k + f.1 k = 0 by grind)
theorem co_zero (k : Nat) : (0 : Po α).co k = 0 := rfl
theorem co_one (k : Nat) : (1 : Po α).co k = if k = 0 then 1 else 0 := rfl
theorem co_add (f g : Po α) (k : Nat) : (f + g).co k = f.co k + g.co k := rfl
theorem co_neg (f : Po α) (k : Nat) : (-f).co k = - f.co k := rfl
theorem co_sub (f g : Po α) (k : Nat) : (f - g).co k = f.co k - g.co k := by
  show f.co k + - g.co k = f.co k - g.co k
  grind
theorem co_mul (f g : Po α) (k : Nat) : (f * g).co k = mulK k f.co g.co := rfl

/-! ### values -/
def evN : Nat → (Nat → α) → α → α
  | 0, _, _ => 0
  | N + 1, f, x => f 0 * x + evN N (fun i => f (i + 1)) (sg x)
theorem evN_z : ∀ (N : Nat) (x : α), evN N (fun _ => 0) x = 0
  | 0, _ => rfl
  | N + 1, x => by
    show (0 : α) * x + evN N (fun _ => 0) (sg x) = 0
    rw [evN_z N]
    grind
theorem evN_sup : ∀ {N M : Nat} {f : Nat → α} (x : α), Sup N f → N ≤ M → evN M f x = evN N f x
  | 0, M, f, x, h, _ => by
    have e : f = fun _ => 0 := funext fun k => h k (Nat.zero_le k)
    rw [e, evN_z, evN_z]
  | N + 1, 0, f, x, h, q => by omega
  | N + 1, M + 1, f, x, h, q => by
    show f 0 * x + evN M _ (sg x) = f 0 * x + evN N _ (sg x)
    rw [evN_sup (sg x) h.tail (by omega)]
theorem evN_add : ∀ (N : Nat) (f g : Nat → α) (x : α), evN N (fun i => f i + g i) x = evN N f x + evN N g x
  | 0, _, _, _ => by show (0 : α) = 0 + 0; grind
  | N + 1, f, g, x => by
    show (f 0 + g 0) * x + evN N (fun i => f (i + 1) + g (i + 1)) (sg x) = (f 0 * x + evN N _ (sg x)) + (g 0 * x + evN N _ (sg x))
    rw [evN_add N]
    grind
theorem evN_cl (c : α) : ∀ (N : Nat) (f : Nat → α) (x : α), evN N (fun i => c * f i) x = c * evN N f x
  | 0, _, _ => by show (0 : α) = c * 0; grind
  | N + 1, f, x => by
    show c * f 0 * x + evN N (fun i => c * f (i + 1)) (sg x) = c * (f 0 * x + evN N _ (sg x))
    rw [evN_cl c N]
    grind
theorem evN_sg : ∀ (N : Nat) (f : Nat → α) (x : α), sg (evN N f x) = evN N (fun i => sg (f i)) (sg x)
  | 0, _, _ => sg_zero
  | N + 1, f, x => by
    show sg (f 0 * x + evN N _ (sg x)) = sg (f 0) * sg x + evN N _ (sg (sg x))
    rw [sg_add, sg_mul, evN_sg N]
theorem evN_x : ∀ (N : Nat) (f : Nat → α) (x y : α), evN N f (x + y) = evN N f x + evN N f y
  | 0, _, _, _ => by show (0 : α) = 0 + 0; grind
  | N + 1, f, x, y => by
    show f 0 * (x + y) + evN N _ (sg (x + y)) = (f 0 * x + evN N _ (sg x)) + (f 0 * y + evN N _ (sg y))
    rw [sg_add, evN_x N]
    grind
theorem evN_mul : ∀ (N : Nat) (f : Nat → α) (M : Nat) (g : Nat → α) (x : α), Sup N f → Sup M g → evN (N + M) (fun k => mulK k f g) x = evN N f (evN M g x)
  | 0, f, M, g, x, hf, hg => by
    have e : f = fun _ => 0 := funext fun k => hf k (Nat.zero_le k)
    have e2 : (fun k => mulK k f g) = fun _ => 0 := funext fun k => by rw [e, mulK_zl]
    rw [e2, evN_z]
    rfl
  | N + 1, f, M, g, x, hf, hg => by
    have e : N + 1 + M = N + M + 1 := by omega
    rw [e]
    have ih := evN_mul N (fun i => f (i + 1)) M (fun i => sg (g i)) (sg x) hf.tail hg.sg
    have e2 : (fun i => mulK (i + 1) f g) = fun i => f 0 * g (i + 1) + mulK i (fun i => f (i + 1)) (fun i => sg (g i)) := rfl
    show f 0 * g 0 * x + evN (N + M) (fun i => mulK (i + 1) f g) (sg x) = f 0 * evN M g x + evN N _ (sg (evN M g x))
    rw [e2, evN_add, ih, evN_cl, ← evN_sg]
    have e3 : evN M g x = g 0 * x + evN (N + M) (fun i => g (i + 1)) (sg x) := by
      have h2 := evN_sup (M := N + M + 1) x hg (by omega)
      rw [← h2]
      rfl
    rw [e3]
    grind
noncomputable def Po.ev (f : Po α) (x : α) : α := evN (Classical.choose f.2) f.1 x
theorem ev_eq {f : Po α} {N : Nat} (h : Sup N f.co) (x : α) : f.ev x = evN N f.co x := by
  unfold Po.ev
  have hc := Classical.choose_spec f.2
  rcases Nat.le_total N (Classical.choose f.2) with q | q
  · exact evN_sup x h q
  · exact (evN_sup x hc q).symm
theorem ev_add (f g : Po α) (x : α) : (f + g).ev x = f.ev x + g.ev x := by
  obtain ⟨N, hf⟩ := f.2
  obtain ⟨M, hg⟩ := g.2
  have h1 : Sup (N + M) f.co := hf.mono (by omega)
  have h2 : Sup (N + M) g.co := hg.mono (by omega)
  have h3 : Sup (N + M) (f + g).co := fun k hk => by rw [co_add, h1 k hk, h2 k hk]; grind
  rw [ev_eq h1, ev_eq h2, ev_eq h3]
  exact evN_add _ _ _ _
theorem ev_zero (x : α) : (0 : Po α).ev x = 0 := by
  rw [ev_eq (N := 0) (fun _ _ => rfl)]
  rfl
theorem ev_neg (f : Po α) (x : α) : (-f).ev x = - f.ev x := by
  have h := ev_add (-f) f x
  have e : -f + f = 0 := by grind
  rw [e, ev_zero] at h
  grind
theorem ev_sub (f g : Po α) (x : α) : (f - g).ev x = f.ev x - g.ev x := by
  have e : f - g = f + -g := by grind
  rw [e, ev_add, ev_neg]
  grind
theorem ev_mul (f g : Po α) (x : α) : (f * g).ev x = f.ev (g.ev x) := by
  obtain ⟨N, hf⟩ := f.2
  obtain ⟨M, hg⟩ := g.2
  rw [ev_eq (f := f * g) (mulK_sup hf hg), ev_eq (f := f) hf, ev_eq (f := g) hg]
  exact evN_mul _ _ _ _ _ hf hg
theorem ev_x (f : Po α) (x y : α) : f.ev (x + y) = f.ev x + f.ev y := evN_x _ _ _ _
theorem ev_at0 (f : Po α) : f.ev 0 = 0 := by
  have h := ev_x f 0 0
  have e : (0 : α) + 0 = 0 := by grind
  rw [e] at h
  grind
theorem ev_xneg (f : Po α) (x : α) : f.ev (-x) = - f.ev x := by
  have h := ev_x f (-x) x
  have e : -x + x = 0 := by grind
  rw [e, ev_at0] at h
  grind
theorem ev_xsub (f : Po α) (x y : α) : f.ev (x - y) = f.ev x - f.ev y := by
  have e : x - y = x + -y := by grind
  rw [e, ev_x, ev_xneg]
  grind
theorem cast_succ (k : Nat) : ((k + 1 : Nat) : α) = (k : α) + 1 := by grind
theorem ev_xnat (f : Po α) (x : α) : ∀ k : Nat, f.ev ((k : α) * x) = (k : α) * f.ev x
  | 0 => by
    have e : ((0 : Nat) : α) = 0 := by grind
    rw [e]
    have e2 : (0 : α) * x = 0 := by grind
    rw [e2, ev_at0]
    grind
  | k + 1 => by
    rw [cast_succ]
    have e : ((k : α) + 1) * x = (k : α) * x + x := by grind
    rw [e, ev_x, ev_xnat f x k]
    grind
theorem ev_one (x : α) : (1 : Po α).ev x = x := by
  rw [ev_eq (N := 1) (fun k hk => by rw [co_one, if_neg (by omega)])]
  show (1 : Po α).co 0 * x + 0 = x
  rw [co_one, if_pos rfl]
  grind
theorem ev_const {r : Po α} (h : Sup 1 r.co) (x : α) : r.ev x = r.co 0 * x := by
  rw [ev_eq h]
  show r.co 0 * x + 0 = _
  grind

/-! ### degrees -/
def Dg (f : Po α) (n : Nat) : Prop := f.co n ≠ 0 ∧ Sup (n + 1) f.co
theorem dg_mul {f g : Po α} {n m : Nat} (hf : Dg f n) (hg : Dg g m) : Dg (f * g) (n + m) ∧ (f * g).co (n + m) = f.co n * sgN n (g.co m) := by
  obtain ⟨h1, h2⟩ := mulK_top n m f.co g.co hf.2 hg.2
  exact ⟨⟨by rw [co_mul, h1]; exact mul_ne hf.1 (sgN_ne n hg.1), h2⟩, h1⟩
theorem top_mul {f g : Po α} {n m : Nat} (hf : Sup (n + 1) f.co) (hg : Sup (m + 1) g.co) : (f * g).co (n + m) = f.co n * sgN n (g.co m) ∧ Sup (n + m + 1) (f * g).co := mulK_top n m f.co g.co hf hg
theorem zero_or_dg (f : Po α) : f = 0 ∨ ∃ n, Dg f n := by
  obtain ⟨N, h⟩ := f.2
  have main : ∀ N, Sup N f.co → f = 0 ∨ ∃ n, Dg f n := fun N => by
    induction N with
    | zero => exact fun h => .inl (Po.ext fun k => h k (Nat.zero_le k))
    | succ n ih =>
      intro h
      by_cases z : f.co n = 0
      · refine ih fun k hk => ?_
        rcases Nat.lt_or_ge n k with q | q
        · exact h k q
        · have e : k = n := by omega
          rw [e, z]
      · exact .inr ⟨n, z, h⟩
  exact main N h
theorem dg_ne {f : Po α} {n : Nat} (h : Dg f n) : f ≠ 0 := fun z => h.1 (by rw [z]; rfl)
theorem dg_uniq {f : Po α} {n m : Nat} (h : Dg f n) (k : Dg f m) : n = m := by
  rcases Nat.lt_trichotomy n m with q | q | q
  · exact absurd (h.2 m q) k.1
  · exact q
  · exact absurd (k.2 n q) h.1
theorem mul_eq0 {f g : Po α} (h : f * g = 0) : f = 0 ∨ g = 0 := by
  rcases zero_or_dg f with z | ⟨n, hn⟩
  · exact .inl z
  rcases zero_or_dg g with z | ⟨m, hm⟩
  · exact .inr z
  · exact absurd h (dg_ne (dg_mul hn hm).1)
theorem dg_sup {f : Po α} {n N : Nat} (h : Dg f n) (k : Sup N f.co) : n < N := by
  rcases Nat.lt_or_ge n N with q | q
  · exact q
  · exact absurd (k n q) h.1
/-- a multiple that is of too small a degree -/
theorem small_right {q g : Po α} {m : Nat} (hg : Dg g m) (h : Sup m (q * g).co) : q = 0 := by
  rcases zero_or_dg q with z | ⟨n, hn⟩
  · exact z
  · have := dg_sup (dg_mul hn hg).1 h
    omega
theorem small_left {q g : Po α} {m : Nat} (hg : Dg g m) (h : Sup m (g * q).co) : q = 0 := by
  rcases zero_or_dg q with z | ⟨n, hn⟩
  · exact z
  · have := dg_sup (dg_mul hg hn).1 h
    omega

/-! ### monomials, division -/
def mono (t : α) (j : Nat) : Po α := ⟨fun k => if k = j then t else 0, j + 1, fun k hk => if_neg (by omega)⟩
theorem co_mono (t : α) (j k : Nat) : (mono t j).co k = if k = j then t else 0 := rfl
theorem mono_sup (t : α) (j : Nat) : Sup (j + 1) (mono t j).co := fun k hk => if_neg (by omega)
/-- one step of the division on the right takes the top term away -/
theorem take_right {f g : Po α} {k m : Nat} (hf : Sup (k + 1) f.co) (hg : Dg g m) (hk : m ≤ k) {t : α} (ht : t * sgN (k - m) (g.co m) = f.co k) : Sup k (f - mono t (k - m) * g).co := fun i hi => by
  obtain ⟨h1, h2⟩ := top_mul (mono_sup t (k - m)) hg.2
  have e : k - m + m = k := by omega
  rw [e] at h1 h2
  rw [co_sub]
  rcases Nat.lt_or_ge k i with q | q
  · rw [hf i q, h2 i q]
    grind
  · have e2 : i = k := by omega
    rw [e2, h1, co_mono, if_pos rfl, ht]
    grind
theorem take_left {f g : Po α} {k m : Nat} (hf : Sup (k + 1) f.co) (hg : Dg g m) (hk : m ≤ k) {t : α} (ht : g.co m * sgN m t = f.co k) : Sup k (f - g * mono t (k - m)).co := fun i hi => by
  obtain ⟨h1, h2⟩ := top_mul hg.2 (mono_sup t (k - m))
  have e : m + (k - m) = k := by omega
  rw [e] at h1 h2
  rw [co_sub]
  rcases Nat.lt_or_ge k i with q | q
  · rw [hf i q, h2 i q]
    grind
  · have e2 : i = k := by omega
    rw [e2, h1, co_mono, if_pos rfl, ht]
    grind
theorem div_right {g : Po α} {m : Nat} (hg : Dg g m) : ∀ (N : Nat) (f : Po α), Sup N f.co → ∃ q r, f = q * g + r ∧ Sup m r.co
  | 0, f, h => ⟨0, f, by grind, h.mono (Nat.zero_le _)⟩
  | k + 1, f, h => by
    rcases Nat.lt_or_ge k m with z | z
    · exact ⟨0, f, by grind, h.mono z⟩
    · have n0 := sgN_ne (k - m) hg.1
      have i0 := mul_inv _ n0
      have ht : (f.co k * inv (sgN (k - m) (g.co m))) * sgN (k - m) (g.co m) = f.co k := by grind
      obtain ⟨q, r, e1, e2⟩ := div_right hg k _ (take_right h hg z ht)
      refine ⟨mono (f.co k * inv (sgN (k - m) (g.co m))) (k - m) + q, r, ?_, e2⟩
      have : f = mono (f.co k * inv (sgN (k - m) (g.co m))) (k - m) * g + (f - mono (f.co k * inv (sgN (k - m) (g.co m))) (k - m) * g) := by grind
      rw [e1] at this
      grind

/-! ### dividing on the right, monic -/
def Dv (g f : Po α) : Prop := ∃ q, f = q * g
def Mo (f : Po α) (n : Nat) : Prop := f.co n = 1 ∧ Sup (n + 1) f.co
theorem Mo.dg {f : Po α} {n : Nat} (h : Mo f n) : Dg f n := ⟨by rw [h.1]; exact one_ne, h.2⟩
theorem Dv.refl (f : Po α) : Dv f f := ⟨1, by grind⟩
theorem Dv.trans {f g h : Po α} (a : Dv f g) (b : Dv g h) : Dv f h := by
  obtain ⟨q, e⟩ := a
  obtain ⟨r, e2⟩ := b
  refine ⟨r * q, ?_⟩
  rw [e2, e]
  grind
theorem Dv.ev {f g : Po α} (h : Dv f g) {x : α} (z : f.ev x = 0) : g.ev x = 0 := by
  obtain ⟨q, rfl⟩ := h
  rw [ev_mul, z, ev_at0]
theorem dv_eq {f g : Po α} {n m : Nat} (hf : Mo f n) (hg : Mo g m) (a : Dv f g) (b : Dv g f) : f = g := by
  obtain ⟨q, e1⟩ := a
  obtain ⟨r, e2⟩ := b
  rcases zero_or_dg q with z | ⟨i, hi⟩
  · rw [z] at e1
    have : g = 0 := by rw [e1]; grind
    exact absurd this (dg_ne hg.dg)
  rcases zero_or_dg r with z | ⟨j, hj⟩
  · rw [z] at e2
    have : f = 0 := by rw [e2]; grind
    exact absurd this (dg_ne hf.dg)
  have d1 := dg_uniq (by rw [e1]; exact (dg_mul hi hf.dg).1) hg.dg
  have d2 := dg_uniq (by rw [e2]; exact (dg_mul hj hg.dg).1) hf.dg
  have i0 : i = 0 := by omega
  have nm : n = m := by omega
  subst i0
  subst nm
  have t := (dg_mul hi hf.dg).2
  rw [← e1, Nat.zero_add, hg.1, hf.1] at t
  have q1 : q = 1 := Po.ext fun k => by
    rw [co_one]
    by_cases z : k = 0
    · rw [if_pos z, z]
      have t2 : (1 : α) = q.co 0 * 1 := t
      grind
    · rw [if_neg z]
      exact hi.2 k (by omega)
  rw [e1, q1]
  grind
end
end K39
end
section
set_option autoImplicit false
/-! P2: spans, the polys of spaces, the greatest common divisor and the least common multiple -/
namespace K39
open Lean.Grind FF
section
variable {α : Type} [FF α]
inductive Sp (L : List α) : α → Prop where
  | zero : Sp L 0
  | add {a x : α} : a ∈ L → Sp L x → Sp L (a + x)
theorem Sp.plus {L : List α} {x y : α} (h : Sp L x) (k : Sp L y) : Sp L (x + y) := by
  induction h with
  | zero => rw [show (0 : α) + y = y by grind]; exact k
  | add m _ ih => rw [show ∀ a x : α, a + x + y = a + (x + y) by intro a x; grind]; exact .add m ih
theorem Sp.of {L : List α} {a : α} (h : a ∈ L) : Sp L a := by
  have := Sp.add h (Sp.zero (L := L))
  rw [show a + (0 : α) = a by grind] at this
  exact this
theorem Sp.nat {L : List α} {x : α} (h : Sp L x) : ∀ k : Nat, Sp L ((k : α) * x)
  | 0 => by
    rw [show ((0 : Nat) : α) * x = 0 by grind]
    exact .zero
  | k + 1 => by
    rw [cast_succ, show ((k : α) + 1) * x = (k : α) * x + x by grind]
    exact (h.nat k).plus h
theorem Sp.neg {L : List α} {x : α} (h : Sp L x) : Sp L (-x) := by
  have hp := p_pos (α := α)
  have hc := p_char (α := α)
  obtain ⟨k, hk⟩ : ∃ k, p (α := α) = k + 1 := ⟨p (α := α) - 1, by omega⟩
  rw [hk, cast_succ] at hc
  have := h.nat k
  rw [show (k : α) * x = -x by grind] at this
  exact this
theorem Sp.sub {L : List α} {x y : α} (h : Sp L x) (k : Sp L y) : Sp L (x - y) := by
  rw [show x - y = x + -y by grind]
  exact h.plus k.neg
theorem Sp.mono {L M : List α} (h : ∀ a, a ∈ L → Sp M a) {x : α} (k : Sp L x) : Sp M x := by
  induction k with
  | zero => exact .zero
  | add m _ ih => exact (h _ m).plus ih
theorem Sp.sub' {L M : List α} (h : ∀ a, a ∈ L → a ∈ M) {x : α} (k : Sp L x) : Sp M x := k.mono fun a m => .of (h a m)
theorem Sp.vanish {L : List α} {f : Po α} (h : ∀ a, a ∈ L → f.ev a = 0) {x : α} (k : Sp L x) : f.ev x = 0 := by
  induction k with
  | zero => exact ev_at0 f
  | add m _ ih =>
    rw [ev_x, h _ m, ih]
    grind
theorem Sp.map {L : List α} (f : Po α) {x : α} (k : Sp L x) : Sp (L.map f.ev) (f.ev x) := by
  induction k with
  | zero => rw [ev_at0]; exact .zero
  | add m _ ih =>
    rw [ev_x]
    exact .add (List.mem_map_of_mem m) ih
theorem Sp.unmap {L : List α} (f : Po α) {y : α} (k : Sp (L.map f.ev) y) : ∃ x, Sp L x ∧ f.ev x = y := by
  induction k with
  | zero => exact ⟨0, .zero, ev_at0 f⟩
  | add m _ ih =>
    obtain ⟨x, h1, h2⟩ := ih
    obtain ⟨a, h3, h4⟩ := List.mem_map.mp m
    exact ⟨a + x, .add h3 h1, by rw [ev_x, h2, h4]⟩
theorem Sp.last {L : List α} {a x : α} : Sp (L ++ [a]) x ↔ ∃ k : Nat, Sp L (x - (k : α) * a) := by
  constructor
  · intro h
    induction h with
    | zero => exact ⟨0, by rw [show (0 : α) - ((0 : Nat) : α) * a = 0 by grind]; exact .zero⟩
    | @add b y m _ ih =>
      obtain ⟨k, h⟩ := ih
      rcases List.mem_append.mp m with m | m
      · exact ⟨k, by rw [show b + y - (k : α) * a = b + (y - (k : α) * a) by grind]; exact .add m h⟩
      · have e : b = a := List.mem_singleton.mp m
        subst e
        refine ⟨k + 1, ?_⟩
        rw [cast_succ, show b + y - ((k : α) + 1) * b = y - (k : α) * b by grind]
        exact h
  · rintro ⟨k, h⟩
    have h1 : Sp (L ++ [a]) (x - (k : α) * a) := h.sub' fun b m => List.mem_append_left _ m
    have h2 : Sp (L ++ [a]) ((k : α) * a) := (Sp.of (List.mem_append_right _ (List.mem_singleton.mpr rfl))).nat k
    have := h1.plus h2
    rw [show x - (k : α) * a + (k : α) * a = x by grind] at this
    exact this

/-! ### the poly of a space -/
def lin (c : α) : Po α := mono 1 1 - mono c 0
theorem lin_mo (c : α) : Mo (lin c) 1 := by
  constructor
  · show (mono (1 : α) 1 - mono c 0).co 1 = 1
    rw [co_sub, co_mono, co_mono, if_pos rfl, if_neg (by decide)]
    grind
  · intro k hk
    show (mono (1 : α) 1 - mono c 0).co k = 0
    rw [co_sub, co_mono, co_mono, if_neg (by omega), if_neg (by omega)]
    grind
theorem lin_ev (c x : α) : (lin c).ev x = sg x - c * x := by
  rw [ev_eq (lin_mo c).2]
  show (lin c).co 0 * x + ((lin c).co 1 * sg x + 0) = _
  rw [(lin_mo c).1]
  have e : (lin c).co 0 = - c := by
    show (mono (1 : α) 1 - mono c 0).co 0 = _
    rw [co_sub, co_mono, co_mono, if_pos rfl, if_neg (by decide)]
    grind
  rw [e]
  grind
theorem mo_mul {f g : Po α} {n m : Nat} (hf : Mo f n) (hg : Mo g m) : Mo (f * g) (n + m) := by
  obtain ⟨h1, h2⟩ := top_mul hf.2 hg.2
  have e : sgN n (1 : α) = 1 := by
    have : ∀ n, sgN n (1 : α) = 1 := fun n => by
      induction n with
      | zero => rfl
      | succ n ih => show sgN n (sg 1) = 1; rw [sg_one, ih]
    exact this n
  exact ⟨by rw [h1, hf.1, hg.1, e]; grind, h2⟩
theorem mo_one : Mo (1 : Po α) 0 := ⟨by rw [co_one, if_pos rfl], fun k hk => by rw [co_one, if_neg (by omega)]⟩
noncomputable def wid (P : Po α) (a : α) : Po α := if P.ev a = 0 then P else lin (sg (P.ev a) * inv (P.ev a)) * P
noncomputable def psF (P : Po α) (A : List α) : Po α := A.foldl wid P
noncomputable def psp (A : List α) : Po α := psF 1 A
def Kx (P : Po α) (A : List α) : Prop := ∀ x, P.ev x = 0 ↔ Sp A x
def Full (P : Po α) (A : List α) : Prop := (∀ a, a ∈ A → P.ev a = 0) ∧ ∀ g : Po α, (∀ a, a ∈ A → g.ev a = 0) → Dv P g
theorem wid_mo {P : Po α} {n : Nat} (h : Mo P n) (a : α) : Mo (wid P a) (if P.ev a = 0 then n else 1 + n) := by
  unfold wid
  split
  · exact h
  · exact mo_mul (lin_mo _) h
theorem wid_kx {P : Po α} {A : List α} (h : Kx P A) (a : α) : Kx (wid P a) (A ++ [a]) := by
  intro x
  unfold wid
  split
  · rename_i z
    rw [h x]
    exact ⟨fun k => k.sub' fun b m => List.mem_append_left _ m, fun k => k.mono fun b m => by
      rcases List.mem_append.mp m with m | m
      · exact .of m
      · rw [List.mem_singleton.mp m]
        exact (h a).mp z⟩
  · rename_i z
    rw [ev_mul, lin_ev, Sp.last]
    have i0 := mul_inv _ z
    constructor
    · intro e
      have f1 : sg (P.ev x * inv (P.ev a)) = P.ev x * inv (P.ev a) := by
        have e1 := sg_mul (P.ev a) (inv (P.ev a))
        rw [i0, sg_one] at e1
        rw [sg_mul]
        grind
      obtain ⟨k, hk⟩ := fix _ f1
      refine ⟨k, (h _).mp ?_⟩
      rw [ev_xsub, ev_xnat]
      have : P.ev x = (k : α) * P.ev a := by rw [← hk]; grind
      rw [this]
      grind
    · rintro ⟨k, hk⟩
      have e1 := (h _).mpr hk
      rw [ev_xsub, ev_xnat] at e1
      have e2 : P.ev x = (k : α) * P.ev a := by grind
      have e3 : sg ((k : α)) = (k : α) := by
        have : ∀ k : Nat, sg ((k : α)) = (k : α) := fun k => by
          induction k with
          | zero => rw [show ((0 : Nat) : α) = 0 by grind]; exact sg_zero
          | succ k ih => rw [cast_succ, sg_add, ih, sg_one]
        exact this k
      rw [e2, sg_mul, e3]
      grind
theorem wid_full {P : Po α} {A : List α} (h : Full P A) (a : α) : Full (wid P a) (A ++ [a]) := by
  unfold wid
  split
  · rename_i z
    refine ⟨fun b m => ?_, fun g hg => h.2 g fun b m => hg b (List.mem_append_left _ m)⟩
    rcases List.mem_append.mp m with m | m
    · exact h.1 b m
    · rw [List.mem_singleton.mp m]
      exact z
  · rename_i z
    have i0 := mul_inv _ z
    refine ⟨fun b m => ?_, fun g hg => ?_⟩
    · rw [ev_mul, lin_ev]
      rcases List.mem_append.mp m with m | m
      · rw [h.1 b m, sg_zero]
        grind
      · rw [List.mem_singleton.mp m]
        grind
    · obtain ⟨q, rfl⟩ := h.2 g fun b m => hg b (List.mem_append_left _ m)
      have e1 := hg a (List.mem_append_right _ (List.mem_singleton.mpr rfl))
      rw [ev_mul] at e1
      obtain ⟨N, hN⟩ := q.2
      obtain ⟨q2, r, e2, hr⟩ := div_right (lin_mo (sg (P.ev a) * inv (P.ev a))).dg N q hN
      have e3 : r.ev (P.ev a) = 0 := by
        rw [e2, ev_add, ev_mul, lin_ev] at e1
        have e4 : sg (P.ev a) - sg (P.ev a) * inv (P.ev a) * P.ev a = 0 := by grind
        rw [e4, ev_at0] at e1
        grind
      rw [ev_const hr] at e3
      have r0 : r = 0 := Po.ext fun k => by
        rcases Nat.eq_zero_or_pos k with y | y
        · subst y
          rw [co_zero]
          by_cases y2 : r.co 0 = 0
          · exact y2
          · exact absurd e3 (mul_ne y2 z)
        · exact hr k y
      refine ⟨q2, ?_⟩
      rw [e2, r0]
      grind
theorem psF_all : ∀ (A B : List α) (P : Po α), Kx P B → Full P B → (∃ n, Mo P n) → Kx (psF P A) (B ++ A) ∧ Full (psF P A) (B ++ A) ∧ ∃ n, Mo (psF P A) n
  | [], B, P, h1, h2, h3 => by
    rw [List.append_nil]
    exact ⟨h1, h2, h3⟩
  | a :: A, B, P, h1, h2, ⟨n, h3⟩ => by
    have ih := psF_all A (B ++ [a]) (wid P a) (wid_kx h1 a) (wid_full h2 a) ⟨_, wid_mo h3 a⟩
    rw [List.append_assoc] at ih
    exact ih
theorem psp_all (A : List α) : Kx (psp A) A ∧ Full (psp A) A ∧ ∃ n, Mo (psp A) n := psF_all A [] 1 (fun x => by
  rw [ev_one]
  constructor
  · intro z
    rw [z]
    exact .zero
  · intro z
    generalize hb : ([] : List α) = L at z
    cases z with
    | zero => rfl
    | add m _ => rw [← hb] at m; cases m) ⟨fun _ m => (by cases m), fun g _ => ⟨g, by grind⟩⟩ ⟨0, mo_one⟩
theorem psp_ker (A : List α) (x : α) : (psp A).ev x = 0 ↔ Sp A x := (psp_all A).1 x
theorem psp_dv (A : List α) (g : Po α) (h : ∀ a, a ∈ A → g.ev a = 0) : Dv (psp A) g := (psp_all A).2.1.2 g h
theorem psp_mo (A : List α) : ∃ n, Mo (psp A) n := (psp_all A).2.2
theorem psp_eq {A B : List α} (h : ∀ a, a ∈ A → Sp B a) (k : ∀ b, b ∈ B → Sp A b) : psp A = psp B := by
  obtain ⟨n, hn⟩ := psp_mo A
  obtain ⟨m, hm⟩ := psp_mo B
  exact dv_eq hn hm (psp_dv A _ fun a m => (psp_ker B a).mpr (h a m)) (psp_dv B _ fun a m => (psp_ker A a).mpr (k a m))
/-- the same degree under a map that is one to one -/
theorem psF_inj (h : Po α) : ∀ (A B : List α) (P Q : Po α) (n : Nat), Mo P n → Mo Q n → Kx P B → Kx Q (B.map h.ev) → (∀ x, Sp (B ++ A) x → h.ev x = 0 → x = 0) → ∃ m, Mo (psF P A) m ∧ Mo (psF Q (A.map h.ev)) m
  | [], B, P, Q, n, hP, hQ, _, _, _ => ⟨n, hP, hQ⟩
  | a :: A, B, P, Q, n, hP, hQ, kP, kQ, inj => by
    have same : P.ev a = 0 ↔ Q.ev (h.ev a) = 0 := by
      rw [kP a, kQ (h.ev a)]
      constructor
      · exact fun z => z.map h
      · intro z
        obtain ⟨x, h1, h2⟩ := z.unmap
        have h3 : Sp (B ++ a :: A) (a - x) := (Sp.of (List.mem_append_right _ (List.mem_cons_self ..))).sub (h1.sub' fun b m => List.mem_append_left _ m)
        have h4 := inj _ h3 (by rw [ev_xsub, h2]; grind)
        have h5 : a = x := by grind
        rw [h5]
        exact h1
    have m1 := wid_mo hP a
    have m2 := wid_mo hQ (h.ev a)
    have e : (if P.ev a = 0 then n else 1 + n) = if Q.ev (h.ev a) = 0 then n else 1 + n := by
      by_cases z : P.ev a = 0
      · rw [if_pos z, if_pos (same.mp z)]
      · rw [if_neg z, if_neg fun y => z (same.mpr y)]
    rw [← e] at m2
    have k2 := wid_kx kQ (h.ev a)
    have e2 : B.map h.ev ++ [h.ev a] = (B ++ [a]).map h.ev := by rw [List.map_append]; rfl
    rw [e2] at k2
    exact psF_inj h A (B ++ [a]) _ _ _ m1 m2 (wid_kx kP a) k2 fun x z => inj x (by
      rw [List.append_assoc] at z
      exact z)
theorem kx_one : Kx (1 : Po α) ([] : List α) := (psp_all ([] : List α)).1
/-- a right divisor of psp A of a degree has a zero in A's span -/
theorem psp_nz {A : List α} {h : Po α} {k : Nat} (hm : Mo h (k + 1)) (hd : Dv h (psp A)) : ∃ x, x ≠ 0 ∧ Sp A x ∧ h.ev x = 0 := by
  refine Classical.byContradiction fun no => ?_
  have inj : ∀ x, Sp A x → h.ev x = 0 → x = 0 := fun x h1 h2 => Classical.byContradiction fun z => no ⟨x, z, h1, h2⟩
  obtain ⟨n, m1, m2⟩ := psF_inj h A [] 1 1 0 mo_one mo_one kx_one kx_one inj
  obtain ⟨q, e⟩ := hd
  have hq : Dv (psp (A.map h.ev)) q := psp_dv _ q fun b m => by
    obtain ⟨a, h1, rfl⟩ := List.mem_map.mp m
    rw [← ev_mul, ← e]
    exact (psp_ker A a).mpr (.of h1)
  obtain ⟨r, e2⟩ := hq
  have m1 : Mo (psp A) n := m1
  have m2 : Mo (psp (A.map h.ev)) n := m2
  rcases zero_or_dg r with z | ⟨j, hj⟩
  · rw [e2, z] at e
    have : psp A = 0 := by rw [e]; grind
    exact dg_ne m1.dg this
  · have d1 := (dg_mul hj m2.dg).1
    rw [← e2] at d1
    have d2 := (dg_mul d1 hm.dg).1
    rw [← e] at d2
    have := dg_uniq d2 m1.dg
    omega
theorem psp_comp {A B : List α} (h : ∀ b, b ∈ B → Sp A b) : psp A = psp (A.map (psp B).ev) * psp B := by
  obtain ⟨n, hn⟩ := psp_mo A
  obtain ⟨m, hm⟩ := psp_mo B
  obtain ⟨l, hl⟩ := psp_mo (A.map (psp B).ev)
  refine dv_eq hn (mo_mul hl hm) (psp_dv A _ fun a z => ?_) ?_
  · rw [ev_mul]
    exact (psp_ker _ _).mpr (.of (List.mem_map_of_mem z))
  · obtain ⟨q, e⟩ := psp_dv B (psp A) fun b z => (psp_ker A b).mpr (h b z)
    obtain ⟨r, e2⟩ := psp_dv (A.map (psp B).ev) q fun b z => by
      obtain ⟨a, h1, rfl⟩ := List.mem_map.mp z
      rw [← ev_mul, ← e]
      exact (psp_ker A a).mpr (.of h1)
    refine ⟨r, ?_⟩
    rw [← e2' e e2]
where
  e2' {α : Type} [FF α] {P q r X Y : Po α} (e : P = q * Y) (e2 : q = r * X) : r * (X * Y) = P := by
    rw [e, e2]
    grind
theorem id4 (X Y B : Po α) : (X - Y) * B = X * B - Y * B := by grind
/-- the greatest common divisor of two such polys -/
theorem psp_gcd {U V B : List α} {g : Po α} {n : Nat} (hg : Mo g n) (h1 : Dv g (psp U)) (h2 : Dv g (psp V)) (h3 : ∃ a b, g = a * psp U + b * psp V) (hB : ∀ x, Sp B x ↔ Sp U x ∧ Sp V x) : g = psp B := by
  obtain ⟨a, b, e⟩ := h3
  have bu : ∀ x, x ∈ B → Sp U x := fun x m => ((hB x).mp (.of m)).1
  have bv : ∀ x, x ∈ B → Sp V x := fun x m => ((hB x).mp (.of m)).2
  have cu := psp_comp bu
  have cv := psp_comp bv
  obtain ⟨m, hm⟩ := psp_mo B
  have e3 : g = (a * psp (U.map (psp B).ev) + b * psp (V.map (psp B).ev)) * psp B := by
    rw [cu, cv] at e
    rw [e]
    grind
  generalize hw : a * psp (U.map (psp B).ev) + b * psp (V.map (psp B).ev) = w at e3
  have cancel : ∀ X Y : Po α, X * psp B = Y * psp B → X = Y := fun X Y z => by
    have z2 : (X - Y) * psp B = 0 := by rw [id4, z]; grind
    rcases mul_eq0 z2 with y | y
    · grind
    · exact absurd y (dg_ne hm.dg)
  have du : Dv w (psp (U.map (psp B).ev)) := by
    obtain ⟨s, es⟩ := h1
    exact ⟨s, cancel _ _ (by rw [← cu, es, e3]; grind)⟩
  have dv : Dv w (psp (V.map (psp B).ev)) := by
    obtain ⟨s, es⟩ := h2
    exact ⟨s, cancel _ _ (by rw [← cv, es, e3]; grind)⟩
  rcases zero_or_dg w with z | ⟨j, hj⟩
  · rw [z] at e3
    exact absurd (show g = 0 by rw [e3]; grind) (dg_ne hg.dg)
  have dj := dg_mul hj hm.dg
  rw [← e3] at dj
  have nj := dg_uniq dj.1 hg.dg
  have one : sgN j (1 : α) = 1 := by
    have := (mo_mul (show Mo (1 : Po α) 0 from mo_one) mo_one).1
    have e5 : ∀ n, sgN n (1 : α) = 1 := fun n => by
      induction n with
      | zero => rfl
      | succ n ih => show sgN n (sg 1) = 1; rw [sg_one, ih]
    exact e5 j
  have wm : Mo w j := by
    refine ⟨?_, hj.2⟩
    have e6 := dj.2
    rw [nj, hg.1, hm.1, one] at e6
    grind
  cases j with
  | zero =>
    have w1 : w = 1 := Po.ext fun k => by
      rw [co_one]
      by_cases z : k = 0
      · rw [if_pos z, z]
        exact wm.1
      · rw [if_neg z]
        exact wm.2 k (by omega)
    rw [e3, w1]
    grind
  | succ j =>
    exfalso
    obtain ⟨y, y0, yU, yz⟩ := psp_nz wm du
    have yV : Sp (V.map (psp B).ev) y := (psp_ker _ _).mp (dv.ev yz)
    obtain ⟨u, hu, eu⟩ := yU.unmap
    obtain ⟨v, hv, ev⟩ := yV.unmap
    have hk : Sp B (u - v) := (psp_ker B _).mp (by rw [ev_xsub, eu, ev]; grind)
    have hk2 := ((hB _).mp hk).2.plus hv
    rw [show u - v + v = u by grind] at hk2
    have hu0 := (psp_ker B u).mpr ((hB u).mpr ⟨hu, hk2⟩)
    exact y0 (by rw [← eu, hu0])
theorem psp_lcm {U V : List α} {L : Po α} {n : Nat} (hL : Mo L n) (h1 : Dv (psp U) L) (h2 : Dv (psp V) L) (h3 : ∀ W, Dv (psp U) W → Dv (psp V) W → Dv L W) : L = psp (U ++ V) := by
  obtain ⟨m, hm⟩ := psp_mo (U ++ V)
  refine dv_eq hL hm (h3 _ (psp_dv U _ fun a z => ?_) (psp_dv V _ fun a z => ?_)) (psp_dv _ _ fun a z => ?_)
  · exact (psp_ker _ _).mpr (.of (List.mem_append_left _ z))
  · exact (psp_ker _ _).mpr (.of (List.mem_append_right _ z))
  · rcases List.mem_append.mp z with z | z
    · exact h1.ev ((psp_ker U a).mpr (.of z))
    · exact h2.ev ((psp_ker V a).mpr (.of z))

/-! ### Euclid -/
theorem id1 (n1 n2 a c q : Po α) : n1 * a + n2 * c = (n1 * q + n2) * c + n1 * (a - q * c) := by grind
theorem id2 (c f e g : Po α) : c * f = (c * f + e * g) + -e * g := by grind
theorem id3 (x n1 a n2 c y n3 n4 : Po α) : x * (n1 * a + n2 * c) - y * (n3 * a + n4 * c) = (x * n1 - y * n3) * a + (x * n2 - y * n4) * c := by grind
theorem id6 (x f : Po α) : x + -f = 0 ↔ x = f := by
  constructor
  · intro h
    have : x = (x + -f) + f := by grind
    rw [this, h]
    grind
  · intro h
    rw [h]
    grind
theorem id7 (y f : Po α) : -y * f = -(y * f) := by grind
theorem id8 (s a t c f b e g : Po α) : s * (a * f + b * g) + t * (c * f + e * g) = (s * a + t * c) * f + (s * b + t * e) * g := by grind
theorem id5 (x y : Po α) : x = x * 1 - y * 0 ∧ -y = x * 0 - y * 1 := by grind
/-- two rows over f_0, f_1, with the way back -/
def EI (f0 f1 h a b l c e : Po α) : Prop := h = a * f0 + b * f1 ∧ l = c * f0 + e * f1 ∧ ∃ n1 n2 n3 n4, 1 = n1 * a + n2 * c ∧ 0 = n1 * b + n2 * e ∧ 0 = n3 * a + n4 * c ∧ 1 = n3 * b + n4 * e
theorem ei_start (f0 f1 : Po α) : EI f0 f1 f0 1 0 f1 0 1 := ⟨by grind, by grind, 1, 0, 0, 1, by grind, by grind, by grind, by grind⟩
theorem ei_step {f0 f1 h a b l c e q r : Po α} (i : EI f0 f1 h a b l c e) (hr : h = q * l + r) : EI f0 f1 l c e r (a - q * c) (b - q * e) := by
  obtain ⟨h1, h2, n1, n2, n3, n4, e1, e2, e3, e4⟩ := i
  refine ⟨h2, ?_, n1 * q + n2, n1, n3 * q + n4, n3, ?_, ?_, ?_, ?_⟩
  · have e5 : r = h - q * l := by rw [hr]; grind
    rw [e5, h1, h2]
    grind
  · rw [e1]; exact id1 ..
  · rw [e2]; exact id1 ..
  · rw [e3]; exact id1 ..
  · rw [e4]; exact id1 ..
theorem ei_gcd {f0 f1 h a b c e : Po α} (i : EI f0 f1 h a b 0 c e) : Dv h f0 ∧ Dv h f1 := by
  obtain ⟨h1, h2, n1, n2, n3, n4, e1, e2, e3, e4⟩ := i
  constructor
  · refine ⟨n1, ?_⟩
    have : f0 = (n1 * a + n2 * c) * f0 + (n1 * b + n2 * e) * f1 := by rw [← e1, ← e2]; grind
    have k : f0 = n1 * (a * f0 + b * f1) + n2 * (c * f0 + e * f1) := by grind
    rw [← h1, ← h2] at k
    grind
  · refine ⟨n3, ?_⟩
    have : f1 = (n3 * a + n4 * c) * f0 + (n3 * b + n4 * e) * f1 := by rw [← e3, ← e4]; grind
    have k : f1 = n3 * (a * f0 + b * f1) + n4 * (c * f0 + e * f1) := by grind
    rw [← h1, ← h2] at k
    grind
theorem ei_lcm {f0 f1 h a b c e : Po α} (i : EI f0 f1 h a b 0 c e) (hh : h ≠ 0) : Dv f0 (c * f0) ∧ Dv f1 (c * f0) ∧ ∀ W, Dv f0 W → Dv f1 W → Dv (c * f0) W := by
  obtain ⟨h1, h2, n1, n2, n3, n4, e1, e2, e3, e4⟩ := i
  refine ⟨⟨c, rfl⟩, ⟨-e, ?_⟩, fun W ⟨x, hx⟩ ⟨y, hy⟩ => ?_⟩
  · have k := id2 c f0 e f1
    rw [← h2] at k
    rw [k]
    grind
  · have k1 : x = (x * n1 - y * n3) * a + (x * n2 - y * n4) * c := by
      have k : x = x * (n1 * a + n2 * c) - y * (n3 * a + n4 * c) := by rw [← e1, ← e3]; exact (id5 x y).1
      exact k.trans (id3 ..)
    have k2 : -y = (x * n1 - y * n3) * b + (x * n2 - y * n4) * e := by
      have k : -y = x * (n1 * b + n2 * e) - y * (n3 * b + n4 * e) := by rw [← e2, ← e4]; exact (id5 x y).2
      exact k.trans (id3 ..)
    generalize x * n1 - y * n3 = s at k1 k2
    generalize x * n2 - y * n4 = t at k1 k2
    have k3 : x * f0 + -y * f1 = 0 := by
      rw [id7, id6, ← hx, hy]
    have k4 : s * (a * f0 + b * f1) + t * (c * f0 + e * f1) = 0 := by
      rw [k1, k2] at k3
      rw [id8, k3]
    rw [← h1, ← h2] at k4
    have k5 : s * h = 0 := by grind
    rcases mul_eq0 k5 with z | z
    · refine ⟨t, ?_⟩
      rw [hx, k1, z]
      grind
    · exact absurd z hh
theorem ei_ne {f0 f1 h a b c e : Po α} (i : EI f0 f1 h a b 0 c e) (z0 : f0 ≠ 0) (z1 : f1 ≠ 0) : c * f0 ≠ 0 := fun z => by
  obtain ⟨h1, h2, n1, n2, n3, n4, e1, e2, e3, e4⟩ := i
  have one_ne' : (1 : Po α) ≠ 0 := dg_ne mo_one.dg
  rcases mul_eq0 z with c0 | c0
  · have k : e * f1 = 0 := by rw [c0] at h2; grind
    rcases mul_eq0 k with e0 | e0
    · rw [c0] at e1
      rw [e0] at e2 e4
      have k1 : n1 * b = 0 := by grind
      rcases mul_eq0 k1 with y | y
      · rw [y] at e1
        exact one_ne' (by rw [e1]; grind)
      · rw [y] at e4
        exact one_ne' (by rw [e4]; grind)
    · exact z1 e0
  · exact z0 c0
end
end K39
end
section
set_option autoImplicit false
/-! P3: digits, echelon forms, contrary spaces -/
namespace K39
open Lean.Grind FF
class FD (α : Type) extends FF α where
  dg : Nat → α → Nat
  un : Nat → α
  dg_lt : ∀ j x, dg j x < p
  dg_add : ∀ j x y, dg j (x + y) = (dg j x + dg j y) % p
  dg_ext : ∀ x, (∀ j, j < d → dg j x = 0) → x = 0
  dg_un : ∀ j k, j < d → k < d → dg j (un k) = if j = k then 1 else 0
  p23 : p = 2 ∨ p = 3
section
variable {α : Type} [FD α]
open FD
/-- a digit, as a thing of the field -/
def cd (j : Nat) (x : α) : α := ((dg j x : Nat) : α)
theorem cast_add (a b : Nat) : ((a + b : Nat) : α) = (a : α) + (b : α) := by grind
theorem cast_mul (a b : Nat) : ((a * b : Nat) : α) = (a : α) * (b : α) := by grind
theorem cast_mod (a : Nat) : ((a % p (α := α) : Nat) : α) = (a : α) := by
  have h : a = p (α := α) * (a / p (α := α)) + a % p (α := α) := (Nat.div_add_mod a _).symm
  have e : (a : α) = ((p (α := α) * (a / p (α := α)) + a % p (α := α) : Nat) : α) := congrArg _ h
  rw [cast_add, cast_mul, p_char] at e
  rw [e]
  grind
theorem cast_0 {k : Nat} (hk : k < p (α := α)) (h : (k : α) = 0) : k = 0 := by
  have one := one_ne (α := α)
  have hc := p_char (α := α)
  rcases p23 (α := α) with q | q <;> rw [q] at hc hk
  · rcases (show k = 0 ∨ k = 1 by omega) with e | e
    · exact e
    · subst e
      exact absurd (show (1 : α) = 0 by grind) one
  · rcases (show k = 0 ∨ k = 1 ∨ k = 2 by omega) with e | e | e
    · exact e
    · subst e
      exact absurd (show (1 : α) = 0 by grind) one
    · subst e
      have e3 : (1 : α) = ((3 : Nat) : α) - ((2 : Nat) : α) := by clear hc h; grind
      exact absurd (show (1 : α) = 0 by rw [e3, hc, h]; grind) one
theorem cd_add (j : Nat) (x y : α) : cd j (x + y) = cd j x + cd j y := by
  unfold cd
  rw [dg_add, cast_mod, cast_add]
theorem cd_z (j : Nat) : cd j (0 : α) = 0 := by
  have h := cd_add j (0 : α) 0
  rw [show (0 : α) + 0 = 0 by grind] at h
  grind
theorem cd_neg (j : Nat) (x : α) : cd j (-x) = - cd j x := by
  have h := cd_add j (-x) x
  rw [show -x + x = 0 by grind, cd_z] at h
  grind
theorem cd_sub (j : Nat) (x y : α) : cd j (x - y) = cd j x - cd j y := by
  rw [show x - y = x + -y by grind, cd_add, cd_neg]
  grind
theorem cd_nat (j : Nat) (x : α) : ∀ k : Nat, cd j ((k : α) * x) = (k : α) * cd j x
  | 0 => by
    rw [show ((0 : Nat) : α) * x = 0 by grind, cd_z]
    grind
  | k + 1 => by
    rw [cast_succ, show ((k : α) + 1) * x = (k : α) * x + x by grind, cd_add, cd_nat j x k]
    grind
theorem cd_cd (j i : Nat) (x y : α) : cd j (cd i x * y) = cd i x * cd j y := cd_nat j y _
theorem cd_eq0 {j : Nat} {x : α} : cd j x = 0 ↔ dg j x = 0 := ⟨fun h => cast_0 (dg_lt j x) h, fun h => by unfold cd; rw [h]; grind⟩
theorem cd_ext {x : α} (h : ∀ j, j < d (α := α) → cd j x = 0) : x = 0 := dg_ext x fun j hj => cd_eq0.mp (h j hj)
theorem cd_un {j k : Nat} (hj : j < d (α := α)) (hk : k < d (α := α)) : cd j (un k : α) = if j = k then 1 else 0 := by
  unfold cd
  rw [dg_un j k hj hk]
  by_cases z : j = k
  · rw [if_pos z, if_pos z]; grind
  · rw [if_neg z, if_neg z]; grind
theorem cd_sq {j : Nat} {x : α} (h : cd j x ≠ 0) : cd j x * cd j x = 1 := by
  have hl := dg_lt j x
  have hc := p_char (α := α)
  have h0 : dg j x ≠ 0 := fun z => h (cd_eq0.mpr z)
  unfold cd
  rcases p23 (α := α) with q | q <;> rw [q] at hc hl
  · rw [show dg j x = 1 by omega]; grind
  · rcases (show dg j x = 1 ∨ dg j x = 2 by omega) with e | e <;> rw [e] <;> grind
theorem Sp.cd {L : List α} {x : α} (h : Sp L x) (j : Nat) (y : α) : Sp L (K39.cd j y * x) := h.nat _
/-- a digit that is 0 on a list is 0 on its span -/
theorem Sp.cd0 {L : List α} {j : Nat} (h : ∀ a, a ∈ L → K39.cd j a = 0) {x : α} (k : Sp L x) : K39.cd j x = 0 := by
  induction k with
  | zero => exact cd_z j
  | add m _ ih => rw [cd_add, h _ m, ih]; grind

/-! ### echelon forms -/
structure Ech (E : List (Nat × α)) : Prop where
  sorted : (E.map (·.1)).Pairwise (· < ·)
  lt : ∀ e, e ∈ E → e.1 < d (α := α)
  low : ∀ e, e ∈ E → ∀ j, j < e.1 → cd j e.2 = 0
  one : ∀ e, e ∈ E → cd e.1 e.2 = 1
  off : ∀ e, e ∈ E → ∀ f, f ∈ E → f.1 ≠ e.1 → cd f.1 e.2 = 0
theorem Ech.tail {e : Nat × α} {E : List (Nat × α)} (h : Ech (e :: E)) : Ech E :=
  ⟨(List.pairwise_cons.mp h.sorted).2, fun f m => h.lt f (List.mem_cons_of_mem _ m), fun f m => h.low f (List.mem_cons_of_mem _ m), fun f m => h.one f (List.mem_cons_of_mem _ m), fun f m g n => h.off f (List.mem_cons_of_mem _ m) g (List.mem_cons_of_mem _ n)⟩
theorem Ech.head_lt {e : Nat × α} {E : List (Nat × α)} (h : Ech (e :: E)) {f : Nat × α} (m : f ∈ E) : e.1 < f.1 := (List.pairwise_cons.mp h.sorted).1 _ (List.mem_map_of_mem m)
def comb : List (Nat × α) → α → α
  | [], _ => 0
  | e :: E, v => cd e.1 v * e.2 + comb E v
theorem comb_add : ∀ (E : List (Nat × α)) (x y : α), comb E (x + y) = comb E x + comb E y
  | [], _, _ => by show (0 : α) = 0 + 0; grind
  | e :: E, x, y => by
    show cd e.1 (x + y) * e.2 + comb E (x + y) = (cd e.1 x * e.2 + comb E x) + (cd e.1 y * e.2 + comb E y)
    rw [cd_add, comb_add E]
    grind
theorem comb_off : ∀ (E : List (Nat × α)) (x : α), (∀ e, e ∈ E → cd e.1 x = 0) → comb E x = 0
  | [], _, _ => rfl
  | e :: E, x, h => by
    show cd e.1 x * e.2 + comb E x = 0
    rw [h e (List.mem_cons_self ..), comb_off E x fun f m => h f (List.mem_cons_of_mem _ m)]
    grind
theorem comb_pick : ∀ (E : List (Nat × α)), Ech E → ∀ e, e ∈ E → ∀ x, cd e.1 x = 1 → (∀ f, f ∈ E → f.1 ≠ e.1 → cd f.1 x = 0) → comb E x = e.2
  | [], _, _, m, _, _, _ => by cases m
  | g :: E, h, e, m, x, h1, h2 => by
    show cd g.1 x * g.2 + comb E x = e.2
    rcases List.mem_cons.mp m with q | q
    · subst q
      rw [h1, comb_off E x fun f n => h2 f (List.mem_cons_of_mem _ n) (by have := h.head_lt n; omega)]
      grind
    · rw [h2 g (List.mem_cons_self ..) (by have := h.head_lt q; omega), comb_pick E h.tail e q x h1 fun f n => h2 f (List.mem_cons_of_mem _ n)]
      grind
theorem comb_sp {E : List (Nat × α)} (h : Ech E) {v : α} (k : Sp (E.map (·.2)) v) : comb E v = v := by
  induction k with
  | zero => exact comb_off E 0 fun e _ => cd_z _
  | add m _ ih =>
    obtain ⟨e, m2, rfl⟩ := List.mem_map.mp m
    rw [comb_add, ih, comb_pick E h e m2 e.2 (h.one e m2) fun f n => h.off e m2 f n]
theorem comb_in (E : List (Nat × α)) (v : α) : Sp (E.map (·.2)) (comb E v) := by
  have main : ∀ (F : List (Nat × α)), (∀ e, e ∈ F → e ∈ E) → Sp (E.map (·.2)) (comb F v) := fun F => by
    induction F with
    | nil => exact fun _ => .zero
    | cons e F ih => exact fun h => ((Sp.of (List.mem_map_of_mem (h e (List.mem_cons_self ..)))).cd e.1 v).plus (ih fun f m => h f (List.mem_cons_of_mem _ m))
  exact main E fun _ m => m
theorem cd_comb : ∀ (E : List (Nat × α)), Ech E → ∀ e, e ∈ E → ∀ v, cd e.1 (comb E v) = cd e.1 v
  | E, h, e, m, v => by
    have main : ∀ (F : List (Nat × α)), (∀ f, f ∈ F → f ∈ E) → (F.map (·.1)).Pairwise (· < ·) → cd e.1 (comb F v) = if e ∈ F then cd e.1 v else 0 := fun F => by
      induction F with
      | nil =>
        intro _ _
        rw [if_neg (by simp)]
        exact cd_z _
      | cons g F ih =>
        intro h1 h2
        have h3 := List.pairwise_cons.mp h2
        have i2 := ih (fun f m => h1 f (List.mem_cons_of_mem _ m)) h3.2
        show cd e.1 (cd g.1 v * g.2 + comb F v) = _
        rw [cd_add, cd_cd, i2]
        by_cases z : g.1 = e.1
        · have nF : e ∉ F := fun y => by
            have q : g.1 < e.1 := h3.1 e.1 (List.mem_map_of_mem y)
            omega
          have ge : e = g := by
            have hg := h1 g (List.mem_cons_self ..)
            have : ∀ (F : List (Nat × α)), (F.map (·.1)).Pairwise (· < ·) → e ∈ F → g ∈ F → e = g := fun F => by
              induction F with
              | nil => intro _ a; cases a
              | cons k F ih =>
                intro h2 a b
                have h3 := List.pairwise_cons.mp h2
                rcases List.mem_cons.mp a with a | a <;> rcases List.mem_cons.mp b with b | b
                · rw [a, b]
                · have q : k.1 < g.1 := h3.1 g.1 (List.mem_map_of_mem b)
                  rw [← a] at q
                  omega
                · have q : k.1 < e.1 := h3.1 e.1 (List.mem_map_of_mem a)
                  rw [← b] at q
                  omega
                · exact ih h3.2 a b
            exact this E h.sorted m hg
          rw [if_neg nF, if_pos (by rw [ge]; exact List.mem_cons_self ..), ← z, h.one g (h1 g (List.mem_cons_self ..))]
          grind
        · rw [h.off g (h1 g (List.mem_cons_self ..)) e m (fun y => z y.symm)]
          have : (e ∈ g :: F) ↔ e ∈ F := by
            rw [List.mem_cons]
            constructor
            · rintro (y | y)
              · exact absurd (by rw [y]) z
              · exact y
            · exact .inr
          by_cases y : e ∈ F
          · rw [if_pos y, if_pos (this.mpr y)]; grind
          · rw [if_neg y, if_neg fun q => y (this.mp q)]; grind
    have := main E (fun _ m => m) h.sorted
    rw [if_pos m] at this
    exact this

/-! ### elimination -/
def gstep (j : Nat) (s : List α × List α) : List α × List α := match s.1.findIdx? (fun x => decide (dg j x ≠ 0)) with
  | none => s
  | some i => match s.1[i]? with
    | none => s
    | some l => ((s.1.eraseIdx i).map fun x => x - cd j x * (cd j l * l), (s.2.map fun x => x - cd j x * (cd j l * l)) ++ [cd j l * l])
def gauss (rows : List α) : List α := ((List.range (d (α := α))).foldl (fun s j => gstep j s) (rows, [])).2
structure GI (rows : List α) (k : Nat) (s : List α × List α) (E : List (Nat × α)) : Prop where
  done : s.2 = E.map (·.2)
  span : ∀ x, Sp (s.1 ++ s.2) x ↔ Sp rows x
  left : ∀ x, x ∈ s.1 → ∀ j, j < k → cd j x = 0
  ech : Ech E
  ltk : ∀ e, e ∈ E → e.1 < k
theorem gi_step {rows : List α} {k : Nat} {s : List α × List α} {E : List (Nat × α)} (h : GI rows k s E) (hk : k < d (α := α)) : ∃ E', GI rows (k + 1) (gstep k s) E' := by
  unfold gstep
  split
  · rename_i hn
    refine ⟨E, h.done, h.span, fun x m j hj => ?_, h.ech, fun e m => Nat.lt_succ_of_lt (h.ltk e m)⟩
    rcases Nat.lt_or_ge j k with q | q
    · exact h.left x m j q
    · have e : j = k := by omega
      subst e
      have := List.findIdx?_eq_none_iff.mp hn x m
      rw [decide_eq_false_iff_not] at this
      exact cd_eq0.mpr (Decidable.not_not.mp this)
  · rename_i i hi
    split
    · rename_i hz
      exfalso
      obtain ⟨hl, _⟩ := List.findIdx?_eq_some_iff_getElem.mp hi
      rw [List.getElem?_eq_getElem hl] at hz
      cases hz
    · rename_i l hl
      obtain ⟨hl2, hp, _⟩ := List.findIdx?_eq_some_iff_getElem.mp hi
      have le : s.1[i] = l := by
        rw [List.getElem?_eq_getElem hl2] at hl
        exact Option.some.inj hl
      rw [le] at hp
      have c0 : cd k l ≠ 0 := fun z => (_root_.of_decide_eq_true hp) (cd_eq0.mp z)
      have sq := cd_sq c0
      have lm : l ∈ s.1 := by rw [← le]; exact List.getElem_mem hl2
      generalize hm : cd k l * l = m
      have l_m : l = cd k l * m := by rw [← hm]; grind
      have mk : cd k m = 1 := by rw [← hm, cd_cd, sq]
      have mlow : ∀ j, j < k → cd j m = 0 := fun j hj => by rw [← hm, cd_cd, h.left l lm j hj]; grind
      have mS : Sp (s.1 ++ s.2) m := by rw [← hm]; exact (Sp.of (List.mem_append_left _ lm)).cd k l
      let g : α → α := fun x => x - cd k x * m
      have gk : ∀ x, cd k (g x) = 0 := fun x => by
        show cd k (x - cd k x * m) = 0
        rw [cd_sub, cd_cd, mk]
        grind
      have glow : ∀ x j, j < k → cd j (g x) = cd j x := fun x j hj => by
        show cd j (x - cd k x * m) = _
        rw [cd_sub, cd_cd, mlow j hj]
        grind
      have mem_or : ∀ x, x ∈ s.1 → x = l ∨ x ∈ s.1.eraseIdx i := fun x mx => by
        obtain ⟨n, hn, rfl⟩ := List.mem_iff_getElem.mp mx
        by_cases z : n = i
        · subst z
          exact .inl le
        · exact .inr (List.mem_eraseIdx_iff_getElem.mpr ⟨n, hn, z, rfl⟩)
      refine ⟨(E.map fun e => (e.1, g e.2)) ++ [(k, m)], ?_, fun x => ?_, fun x mx j hj => ?_, ?_, fun e me => ?_⟩
      · show (s.2.map g) ++ [m] = _
        rw [h.done, List.map_append, List.map_map, List.map_map]
        rfl
      · rw [← h.span x]
        show Sp ((s.1.eraseIdx i).map g ++ (s.2.map g ++ [m])) x ↔ _
        constructor
        · refine Sp.mono fun a ma => ?_
          rcases List.mem_append.mp ma with q | q
          · obtain ⟨y, my, rfl⟩ := List.mem_map.mp q
            exact (Sp.of (List.mem_append_left _ (List.mem_of_mem_eraseIdx my))).sub (mS.cd k y)
          · rcases List.mem_append.mp q with q | q
            · obtain ⟨y, my, rfl⟩ := List.mem_map.mp q
              exact (Sp.of (List.mem_append_right _ my)).sub (mS.cd k y)
            · rw [List.mem_singleton.mp q]
              exact mS
        · have mS' : Sp ((s.1.eraseIdx i).map g ++ (s.2.map g ++ [m])) m := .of (List.mem_append_right _ (List.mem_append_right _ (List.mem_singleton.mpr rfl)))
          have back : ∀ y, g y ∈ ((s.1.eraseIdx i).map g ++ (s.2.map g ++ [m])) → Sp ((s.1.eraseIdx i).map g ++ (s.2.map g ++ [m])) y := fun y my => by
            have := (Sp.of my).plus (mS'.cd k y)
            rw [show g y + cd k y * m = y by show y - cd k y * m + cd k y * m = y; grind] at this
            exact this
          refine Sp.mono fun a ma => ?_
          rcases List.mem_append.mp ma with q | q
          · rcases mem_or a q with q | q
            · rw [q, l_m]
              exact mS'.cd k l
            · exact back a (List.mem_append_left _ (List.mem_map_of_mem q))
          · exact back a (List.mem_append_right _ (List.mem_append_left _ (List.mem_map_of_mem q)))
      · obtain ⟨y, my, rfl⟩ := List.mem_map.mp (show x ∈ (s.1.eraseIdx i).map g from mx)
        rcases Nat.lt_or_ge j k with q | q
        · rw [glow y j q]
          exact h.left y (List.mem_of_mem_eraseIdx my) j q
        · rw [show j = k by omega]
          exact gk y
      · have split : ∀ e, e ∈ (E.map fun e => (e.1, g e.2)) ++ [(k, m)] → (∃ f, f ∈ E ∧ e = (f.1, g f.2)) ∨ e = (k, m) := fun e me => by
          rcases List.mem_append.mp me with q | q
          · obtain ⟨f, mf, rfl⟩ := List.mem_map.mp q
            exact .inl ⟨f, mf, rfl⟩
          · exact .inr (List.mem_singleton.mp q)
        refine ⟨?_, fun e me => ?_, fun e me j hj => ?_, fun e me => ?_, fun e me f mf ne => ?_⟩
        · rw [List.map_append, List.map_map]
          refine List.pairwise_append.mpr ⟨h.ech.sorted, List.pairwise_singleton _ _, fun a ma b mb => ?_⟩
          obtain ⟨f, mf, rfl⟩ := List.mem_map.mp ma
          rw [show b = k from List.mem_singleton.mp mb]
          exact h.ltk f mf
        · rcases split e me with ⟨f, mf, rfl⟩ | rfl
          · exact h.ech.lt f mf
          · exact hk
        · rcases split e me with ⟨f, mf, rfl⟩ | rfl
          · have hfk := h.ltk f mf
            have hj : j < f.1 := hj
            rw [glow f.2 j (by omega)]
            exact h.ech.low f mf j hj
          · exact mlow j hj
        · rcases split e me with ⟨f, mf, rfl⟩ | rfl
          · show cd f.1 (g f.2) = 1
            rw [glow f.2 f.1 (h.ltk f mf)]
            exact h.ech.one f mf
          · exact mk
        · rcases split e me with ⟨e', me', rfl⟩ | rfl <;> rcases split f mf with ⟨f', mf', rfl⟩ | rfl
          · show cd f'.1 (g e'.2) = 0
            rw [glow _ _ (h.ltk f' mf')]
            exact h.ech.off e' me' f' mf' ne
          · exact gk e'.2
          · exact mlow _ (h.ltk f' mf')
          · exact absurd rfl ne
      · rcases List.mem_append.mp me with q | q
        · obtain ⟨f, mf, rfl⟩ := List.mem_map.mp q
          exact Nat.lt_succ_of_lt (h.ltk f mf)
        · rw [List.mem_singleton.mp q]
          exact Nat.lt_succ_self k
theorem gauss_ok (rows : List α) : ∃ E, gauss rows = E.map (·.2) ∧ Ech E ∧ ∀ x, Sp (E.map (·.2)) x ↔ Sp rows x := by
  have main : ∀ k, k ≤ d (α := α) → ∃ E, GI rows k ((List.range k).foldl (fun s j => gstep j s) (rows, [])) E := fun k => by
    induction k with
    | zero =>
      intro _
      refine ⟨[], rfl, fun x => ?_, fun x m j hj => absurd hj (Nat.not_lt_zero j), ⟨List.Pairwise.nil, fun e m => (by cases m), fun e m => (by cases m), fun e m => (by cases m), fun e m => (by cases m)⟩, fun e m => (by cases m)⟩
      show Sp (rows ++ []) x ↔ _
      rw [List.append_nil]
    | succ k ih =>
      intro hk
      obtain ⟨E, h⟩ := ih (by omega)
      rw [List.range_succ, List.foldl_append]
      exact gi_step h (by omega)
  obtain ⟨E, h⟩ := main _ (Nat.le_refl _)
  refine ⟨E, h.done, h.ech, fun x => ?_⟩
  rw [← h.span x]
  constructor
  · intro k
    refine k.sub' fun a m => List.mem_append_right _ ?_
    rw [h.done]
    exact m
  · refine Sp.mono fun a m => ?_
    rcases List.mem_append.mp m with q | q
    · rw [cd_ext fun j hj => h.left a q j hj]
      exact .zero
    · rw [h.done] at q
      exact .of q
end
end K39
end
section
set_option autoImplicit false
/-! P4: which basis it is; contrary spaces -/
namespace K39
open Lean.Grind FF FD
section
variable {α : Type} [FD α]
/-! ### two sorted lists of the same members -/
theorem sorted_eq : ∀ {A B : List Nat}, A.Pairwise (· < ·) → B.Pairwise (· < ·) → (∀ x, x ∈ A ↔ x ∈ B) → A = B
  | [], [], _, _, _ => rfl
  | [], b :: B, _, _, h => by cases (h b).mpr (List.mem_cons_self ..)
  | a :: A, [], _, _, h => by cases (h a).mp (List.mem_cons_self ..)
  | a :: A, b :: B, hA, hB, h => by
    have pA := List.pairwise_cons.mp hA
    have pB := List.pairwise_cons.mp hB
    have e : a = b := by
      rcases List.mem_cons.mp ((h a).mp (List.mem_cons_self ..)) with q | q
      · exact q
      · rcases List.mem_cons.mp ((h b).mpr (List.mem_cons_self ..)) with r | r
        · exact r.symm
        · have h1 := pA.1 b r
          have h2 := pB.1 a q
          omega
    subst e
    rw [sorted_eq pA.2 pB.2 fun x => ?_]
    have hx := h x
    rw [List.mem_cons, List.mem_cons] at hx
    constructor
    · intro m
      rcases hx.mp (.inr m) with r | r
      · have := pA.1 x m
        omega
      · exact r
    · intro m
      rcases hx.mpr (.inr m) with r | r
      · have := pB.1 x m
        omega
      · exact r
theorem filter_one {β : Type} : ∀ {Z : List β} {c : β → Bool} {z : β}, Z.Nodup → z ∈ Z → (∀ t, t ∈ Z → (c t = true ↔ t = z)) → Z.filter c = [z]
  | [], _, _, _, m, _ => by cases m
  | t :: Z, c, z, nd, m, h => by
    have n2 := List.nodup_cons.mp nd
    rcases List.mem_cons.mp m with q | q
    · subst q
      rw [List.filter_cons_of_pos ((h z (List.mem_cons_self ..)).mpr rfl)]
      congr 1
      refine List.filter_eq_nil_iff.mpr fun t mt hc => ?_
      have := (h t (List.mem_cons_of_mem _ mt)).mp hc
      subst this
      exact n2.1 mt
    · have nc : ¬ c t = true := fun hc => by
        have := (h t (List.mem_cons_self ..)).mp hc
        subst this
        exact n2.1 q
      rw [List.filter_cons_of_neg nc]
      exact filter_one n2.2 q fun s ms => h s (List.mem_cons_of_mem _ ms)
/-- the first place whose digit is not 0 -/
def first (x : α) : Nat := ((List.range (d (α := α))).find? fun j => decide (dg j x ≠ 0)).getD (d (α := α))
theorem first_some {x : α} {q : Nat} (hq : q < d (α := α)) (h : cd q x ≠ 0) (lo : ∀ j, j < q → cd j x = 0) : first x = q := by
  unfold first
  have e : (List.range (d (α := α))).find? (fun j => decide (dg j x ≠ 0)) = some q := by
    rw [List.find?_range_eq_some]
    refine ⟨decide_eq_true fun z => h (cd_eq0.mpr z), List.mem_range.mpr hq, fun j hj => ?_⟩
    have := cd_eq0.mp (lo j hj)
    simp [this]
  rw [e]
  rfl
/-- a member that is not 0 begins at a pivot -/
theorem ech_first {E : List (Nat × α)} (h : Ech E) {v : α} (hv : Sp (E.map (·.2)) v) (v0 : v ≠ 0) : ∃ e, e ∈ E ∧ first v = e.1 := by
  have e1 := comb_sp h hv
  have main : ∀ (F : List (Nat × α)), Ech F → comb F v = v → ∃ e, e ∈ F ∧ first v = e.1 := fun F => by
    induction F with
    | nil => exact fun _ e => absurd e.symm v0
    | cons f F ih =>
      intro hF e
      by_cases z : cd f.1 v = 0
      · have e2 : comb F v = v := by
          have : cd f.1 v * f.2 + comb F v = v := e
          rw [z] at this
          rw [← this]
          rw [this]
          grind
        obtain ⟨g, m, k⟩ := ih hF.tail e2
        exact ⟨g, List.mem_cons_of_mem _ m, k⟩
      · refine ⟨f, List.mem_cons_self .., first_some (hF.lt f (List.mem_cons_self ..)) z fun j hj => ?_⟩
        have all : ∀ (G : List (Nat × α)), (∀ g, g ∈ G → f.1 ≤ g.1 ∧ g ∈ f :: F) → cd j (comb G v) = 0 := fun G => by
          induction G with
          | nil => exact fun _ => cd_z j
          | cons g G ih2 =>
            intro hg
            show cd j (cd g.1 v * g.2 + comb G v) = 0
            have hg1 := hg g (List.mem_cons_self ..)
            rw [cd_add, cd_cd, hF.low g hg1.2 j (by omega), ih2 fun k m => hg k (List.mem_cons_of_mem _ m)]
            grind
        rw [← e]
        refine all (f :: F) fun g m => ⟨?_, m⟩
        rcases List.mem_cons.mp m with q | q
        · rw [q]; exact Nat.le_refl _
        · exact Nat.le_of_lt (hF.head_lt q)
  exact main E h e1
theorem ech_first_of {E : List (Nat × α)} (h : Ech E) {e : Nat × α} (m : e ∈ E) : first e.2 = e.1 := first_some (h.lt e m) (by rw [h.one e m]; exact one_ne) (h.low e m)
/-- the law's own basis: over all members of a space -/
def lbasis (Z : List α) : List α :=
  let rows := Z.filter fun t => decide (t ≠ 0)
  let places := (List.range (d (α := α))).filter fun q => decide (q ∈ rows.map first)
  places.flatMap fun q => rows.filter fun t => decide (first t = q) && decide (dg q t = 1) && ((places.filter fun o => decide (o ≠ q)).filter fun o => decide (dg o t ≠ 0)).isEmpty
theorem cd_one {q : Nat} {t : α} : cd q t = 1 ↔ dg q t = 1 := by
  constructor
  · intro h
    have hl := dg_lt q t
    have h2 := p23 (α := α)
    have one := one_ne (α := α)
    have hc := p_char (α := α)
    by_cases z : dg q t = 0
    · rw [cd_eq0.mpr z] at h
      exact absurd h.symm one
    · rcases h2 with e | e <;> rw [e] at hl hc
      · omega
      · rcases (show dg q t = 1 ∨ dg q t = 2 by omega) with k | k
        · exact k
        · unfold cd at h
          rw [k] at h
          have e3 : (1 : α) = ((2 : Nat) : α) - 1 := by clear hc h; grind
          exact absurd (show (1 : α) = 0 by rw [e3, h]; grind) one
  · intro h
    unfold cd
    rw [h]
    grind
theorem lbasis_eq {E : List (Nat × α)} (h : Ech E) {Z : List α} (nd : Z.Nodup) (hZ : ∀ x, x ∈ Z ↔ Sp (E.map (·.2)) x) : lbasis Z = E.map (·.2) := by
  have ne0 : ∀ e, e ∈ E → e.2 ≠ 0 := fun e m z => by
    have := h.one e m
    rw [z, cd_z] at this
    exact one_ne this.symm
  have inZ : ∀ e, e ∈ E → e.2 ∈ Z := fun e m => (hZ _).mpr (.of (List.mem_map_of_mem m))
  generalize hr : (Z.filter fun t => decide (t ≠ 0)) = rows
  have mr : ∀ t, t ∈ rows ↔ t ∈ Z ∧ t ≠ 0 := fun t => by
    rw [← hr, List.mem_filter]
    simp
  have pl : ((List.range (d (α := α))).filter fun q => decide (q ∈ rows.map first)) = E.map (·.1) := by
    refine sorted_eq (List.Pairwise.filter _ List.pairwise_lt_range) h.sorted fun q => ?_
    rw [List.mem_filter, List.mem_range, decide_eq_true_iff]
    constructor
    · rintro ⟨_, m⟩
      obtain ⟨t, mt, rfl⟩ := List.mem_map.mp m
      obtain ⟨a, b⟩ := (mr t).mp mt
      obtain ⟨e, me, k⟩ := ech_first h ((hZ t).mp a) b
      rw [k]
      exact List.mem_map_of_mem me
    · intro m
      obtain ⟨e, me, rfl⟩ := List.mem_map.mp m
      exact ⟨h.lt e me, List.mem_map.mpr ⟨e.2, (mr _).mpr ⟨inZ e me, ne0 e me⟩, ech_first_of h me⟩⟩
  unfold lbasis
  rw [hr]
  simp only []
  rw [pl]
  have each : ∀ e, e ∈ E → (rows.filter fun t => decide (first t = e.1) && decide (dg e.1 t = 1) && (((E.map (·.1)).filter fun o => decide (o ≠ e.1)).filter fun o => decide (dg o t ≠ 0)).isEmpty) = [e.2] := fun e me => by
    refine filter_one (by rw [← hr]; exact nd.filter _) ((mr _).mpr ⟨inZ e me, ne0 e me⟩) fun t mt => ?_
    rw [Bool.and_eq_true, Bool.and_eq_true, decide_eq_true_iff, decide_eq_true_iff, List.isEmpty_iff, List.filter_eq_nil_iff]
    constructor
    · rintro ⟨⟨_, h2⟩, h3⟩
      have k := comb_sp h ((hZ t).mp ((mr t).mp mt).1)
      rw [← k]
      refine comb_pick E h e me t (cd_one.mpr h2) fun f mf ne => cd_eq0.mpr ?_
      have := h3 f.1 (List.mem_filter.mpr ⟨List.mem_map_of_mem mf, decide_eq_true ne⟩)
      rw [decide_eq_true_iff] at this
      exact Decidable.not_not.mp this
    · rintro rfl
      refine ⟨⟨ech_first_of h me, cd_one.mp (h.one e me)⟩, fun o mo => ?_⟩
      obtain ⟨m1, m2⟩ := List.mem_filter.mp mo
      obtain ⟨f, mf, rfl⟩ := List.mem_map.mp m1
      rw [decide_eq_true_iff]
      exact fun z => z (cd_eq0.mp (h.off e me f mf (_root_.of_decide_eq_true m2)))
  have main : ∀ (F : List (Nat × α)), (∀ f, f ∈ F → f ∈ E) → (F.map (·.1)).flatMap (fun q => rows.filter fun t => decide (first t = q) && decide (dg q t = 1) && (((E.map (·.1)).filter fun o => decide (o ≠ q)).filter fun o => decide (dg o t ≠ 0)).isEmpty) = F.map (·.2) := fun F => by
    induction F with
    | nil => exact fun _ => rfl
    | cons f F ih =>
      intro hF
      rw [List.map_cons, List.flatMap_cons, each f (hF f (List.mem_cons_self ..)), ih fun g m => hF g (List.mem_cons_of_mem _ m)]
      rfl
  exact main E fun _ m => m
/-- two echelon forms of one space are one -/
theorem gauss_basis {rows Z : List α} (nd : Z.Nodup) (hZ : ∀ x, x ∈ Z ↔ Sp rows x) : gauss rows = lbasis Z := by
  obtain ⟨E, e1, e2, e3⟩ := gauss_ok rows
  rw [e1, lbasis_eq e2 nd fun x => (hZ x).trans (e3 x).symm]

/-! ### the inner product -/
def dotN : Nat → α → α → α
  | 0, _, _ => 0
  | n + 1, x, y => dotN n x y + cd n x * cd n y
def dot (x y : α) : α := dotN (d (α := α)) x y
theorem dotN_add : ∀ (n : Nat) (x y z : α), dotN n x (y + z) = dotN n x y + dotN n x z
  | 0, _, _, _ => by show (0 : α) = 0 + 0; grind
  | n + 1, x, y, z => by
    show dotN n x (y + z) + cd n x * cd n (y + z) = (dotN n x y + cd n x * cd n y) + (dotN n x z + cd n x * cd n z)
    rw [dotN_add n, cd_add]
    grind
theorem dotN_comm : ∀ (n : Nat) (x y : α), dotN n x y = dotN n y x
  | 0, _, _ => rfl
  | n + 1, x, y => by
    show dotN n x y + cd n x * cd n y = dotN n y x + cd n y * cd n x
    rw [dotN_comm n]
    grind
theorem dot_comm (x y : α) : dot x y = dot y x := dotN_comm _ x y
theorem dot_add (x y z : α) : dot x (y + z) = dot x y + dot x z := dotN_add _ x y z
theorem dot_z (x : α) : dot x 0 = 0 := by
  have h := dot_add x 0 0
  rw [show (0 : α) + 0 = 0 by grind] at h
  grind
theorem dot_neg (x y : α) : dot x (-y) = - dot x y := by
  have h := dot_add x (-y) y
  rw [show -y + y = 0 by grind, dot_z] at h
  grind
theorem dot_sub (x y z : α) : dot x (y - z) = dot x y - dot x z := by
  rw [show y - z = y + -z by grind, dot_add, dot_neg]
  grind
theorem dot_nat (x y : α) : ∀ k : Nat, dot x ((k : α) * y) = (k : α) * dot x y
  | 0 => by
    rw [show ((0 : Nat) : α) * y = 0 by grind, dot_z]
    grind
  | k + 1 => by
    rw [cast_succ, show ((k : α) + 1) * y = (k : α) * y + y by grind, dot_add, dot_nat x y k]
    grind
theorem dot_cd (x y z : α) (j : Nat) : dot x (cd j z * y) = cd j z * dot x y := dot_nat x y _
theorem dot_un (x : α) {j : Nat} (hj : j < d (α := α)) : dot x (un j) = cd j x := by
  have main : ∀ n, n ≤ d (α := α) → dotN n x (un j : α) = if j < n then cd j x else 0 := fun n => by
    induction n with
    | zero => intro _; rw [if_neg (Nat.not_lt_zero _)]; rfl
    | succ n ih =>
      intro hn
      show dotN n x (un j : α) + cd n x * cd n (un j : α) = _
      rw [ih (by omega), cd_un (by omega) hj]
      by_cases z : n = j
      · subst z
        rw [if_neg (Nat.lt_irrefl _), if_pos rfl, if_pos (Nat.lt_succ_self _)]
        grind
      · rw [if_neg z]
        by_cases y : j < n
        · rw [if_pos y, if_pos (by omega)]; grind
        · rw [if_neg y, if_neg (by omega)]; grind
  have := main _ (Nat.le_refl _)
  rw [if_pos hj] at this
  exact this
/-- only the places of the other matter -/
theorem dot_pick {x w : α} {j : Nat} (hj : j < d (α := α)) (h1 : cd j x = 1) (h : ∀ i, i < d (α := α) → i ≠ j → cd i x = 0 ∨ cd i w = 0) : dot x w = cd j w := by
  have main : ∀ n, n ≤ d (α := α) → dotN n x w = if j < n then cd j w else 0 := fun n => by
    induction n with
    | zero => intro _; rw [if_neg (Nat.not_lt_zero _)]; rfl
    | succ n ih =>
      intro hn
      show dotN n x w + cd n x * cd n w = _
      rw [ih (by omega)]
      by_cases z : n = j
      · subst z
        rw [if_neg (Nat.lt_irrefl _), if_pos (Nat.lt_succ_self _), h1]
        grind
      · have e : cd n x * cd n w = 0 := by
          rcases h n (by omega) z with q | q <;> rw [q] <;> grind
        rw [e]
        by_cases y : j < n
        · rw [if_pos y, if_pos (by omega)]; grind
        · rw [if_neg y, if_neg (by omega)]; grind
  have := main _ (Nat.le_refl _)
  rw [if_pos hj] at this
  exact this
theorem Sp.dot0 {L : List α} {y : α} (h : ∀ a, a ∈ L → dot y a = 0) {x : α} (k : Sp L x) : dot y x = 0 := by
  induction k with
  | zero => exact dot_z y
  | add m _ ih => rw [dot_add, h _ m, ih]; grind

/-! ### the contrary space -/
def free (E : List (Nat × α)) (q : Nat) : List (Nat × α) → α
  | [] => un q
  | e :: F => free E q F - cd q e.2 * un e.1
def fnd (E : List (Nat × α)) (q : Nat) : α := free E q E
def fnds (E : List (Nat × α)) : List α := ((List.range (d (α := α))).filter fun q => decide (q ∉ E.map (·.1))).map (fnd E)
theorem cd_free (E : List (Nat × α)) {q j : Nat} (hq : q < d (α := α)) (hj : j < d (α := α)) (nj : j ∉ E.map (·.1)) (lt : ∀ e, e ∈ E → e.1 < d (α := α)) : cd j (fnd E q) = if j = q then 1 else 0 := by
  have main : ∀ F : List (Nat × α), (∀ f, f ∈ F → f ∈ E) → cd j (free E q F) = if j = q then 1 else 0 := fun F => by
    induction F with
    | nil => exact fun _ => cd_un hj hq
    | cons f F ih =>
      intro hF
      have mf := hF f (List.mem_cons_self ..)
      show cd j (free E q F - cd q f.2 * un f.1) = _
      rw [cd_sub, cd_cd, ih fun g m => hF g (List.mem_cons_of_mem _ m), cd_un hj (lt f mf), if_neg (show ¬ j = f.1 from fun z => nj (by rw [z]; exact List.mem_map_of_mem mf))]
      grind
  exact main E fun _ m => m
theorem dot_free (E : List (Nat × α)) {q : Nat} (hq : q < d (α := α)) (lt : ∀ e, e ∈ E → e.1 < d (α := α)) (x : α) : dot x (fnd E q) = cd q (x - comb E x) := by
  have main : ∀ F : List (Nat × α), (∀ f, f ∈ F → f ∈ E) → dot x (free E q F) = cd q (x - comb F x) := fun F => by
    induction F with
    | nil =>
      intro _
      show dot x (un q) = cd q (x - 0)
      rw [dot_un x hq, show x - (0 : α) = x by grind]
    | cons f F ih =>
      intro hF
      show dot x (free E q F - cd q f.2 * un f.1) = cd q (x - (cd f.1 x * f.2 + comb F x))
      rw [dot_sub, dot_cd, ih fun g m => hF g (List.mem_cons_of_mem _ m), dot_un x (lt f (hF f (List.mem_cons_self ..))), cd_sub, cd_sub, cd_add, cd_cd]
      grind
  exact main E fun _ m => m
theorem mem_fnds {E : List (Nat × α)} {a : α} : a ∈ fnds E ↔ ∃ q, q < d (α := α) ∧ q ∉ E.map (·.1) ∧ a = fnd E q := by
  unfold fnds
  rw [List.mem_map]
  constructor
  · rintro ⟨q, m, rfl⟩
    obtain ⟨m1, m2⟩ := List.mem_filter.mp m
    exact ⟨q, List.mem_range.mp m1, _root_.of_decide_eq_true m2, rfl⟩
  · rintro ⟨q, h1, h2, rfl⟩
    exact ⟨q, List.mem_filter.mpr ⟨List.mem_range.mpr h1, decide_eq_true h2⟩, rfl⟩
theorem fnds_perp {E : List (Nat × α)} (h : Ech E) {x v : α} (hx : Sp (E.map (·.2)) x) (hv : Sp (fnds E) v) : dot x v = 0 := hv.dot0 fun a m => by
  obtain ⟨q, h1, h2, rfl⟩ := mem_fnds.mp m
  rw [dot_free E h1 h.lt, comb_sp h hx, show x - x = 0 by grind, cd_z]
theorem perp_fnds {E : List (Nat × α)} (h : Ech E) {v : α} (hv : ∀ e, e ∈ E → dot e.2 v = 0) : Sp (fnds E) v := by
  -- w = v - the sum over the free places
  have sum : ∀ Q : List Nat, (∀ q, q ∈ Q → q < d (α := α) ∧ q ∉ E.map (·.1)) → Q.Nodup → ∃ s, Sp (fnds E) s ∧ ∀ j, j < d (α := α) → j ∉ E.map (·.1) → cd j s = if j ∈ Q then cd j v else 0 := fun Q => by
    induction Q with
    | nil => exact fun _ _ => ⟨0, .zero, fun j _ _ => by rw [cd_z, if_neg (by simp)]⟩
    | cons q Q ih =>
      intro hQ nd
      have n2 := List.nodup_cons.mp nd
      obtain ⟨s, s1, s2⟩ := ih (fun r m => hQ r (List.mem_cons_of_mem _ m)) n2.2
      have hq := hQ q (List.mem_cons_self ..)
      refine ⟨cd q v * fnd E q + s, ((Sp.of (mem_fnds.mpr ⟨q, hq.1, hq.2, rfl⟩)).cd q v).plus s1, fun j hj nj => ?_⟩
      rw [cd_add, cd_cd, s2 j hj nj, cd_free E hq.1 hj nj h.lt]
      by_cases z : j = q
      · subst z
        rw [if_pos rfl, if_neg n2.1, if_pos (List.mem_cons_self ..)]
        grind
      · have : j ∈ q :: Q ↔ j ∈ Q := by rw [List.mem_cons]; exact ⟨fun y => y.resolve_left z, .inr⟩
        rw [if_neg z]
        by_cases y : j ∈ Q
        · rw [if_pos y, if_pos (this.mpr y)]; grind
        · rw [if_neg y, if_neg fun k => y (this.mp k)]; grind
  obtain ⟨s, s1, s2⟩ := sum ((List.range (d (α := α))).filter fun q => decide (q ∉ E.map (·.1))) (fun q m => by
    obtain ⟨m1, m2⟩ := List.mem_filter.mp m
    exact ⟨List.mem_range.mp m1, _root_.of_decide_eq_true m2⟩) (List.nodup_range.filter _)
  have wf : ∀ j, j < d (α := α) → j ∉ E.map (·.1) → cd j (v - s) = 0 := fun j hj nj => by
    rw [cd_sub, s2 j hj nj, if_pos (List.mem_filter.mpr ⟨List.mem_range.mpr hj, decide_eq_true nj⟩)]
    grind
  have w0 : v - s = 0 := cd_ext fun j hj => by
    by_cases nj : j ∈ E.map (·.1)
    · obtain ⟨e, me, rfl⟩ := List.mem_map.mp nj
      have e1 : dot e.2 (v - s) = 0 := by
        rw [dot_sub, hv e me, fnds_perp h (.of (List.mem_map_of_mem me)) s1]
        grind
      rw [dot_pick (h.lt e me) (h.one e me) fun i hi ne => ?_] at e1
      · exact e1
      · by_cases y : i ∈ E.map (·.1)
        · obtain ⟨f, mf, rfl⟩ := List.mem_map.mp y
          exact .inl (h.off e me f mf ne)
        · exact .inr (wf i hi y)
    · exact wf j hj nj
  rw [show v = s by grind]
  exact s1
theorem perp_perp {E : List (Nat × α)} (h : Ech E) {v : α} (hv : ∀ a, a ∈ fnds E → dot a v = 0) : Sp (E.map (·.2)) v := by
  have hc := comb_in E v
  have w0 : v - comb E v = 0 := cd_ext fun j hj => by
    by_cases nj : j ∈ E.map (·.1)
    · obtain ⟨e, me, rfl⟩ := List.mem_map.mp nj
      rw [cd_sub, cd_comb E h e me v]
      grind
    · have := hv _ (mem_fnds.mpr ⟨j, hj, nj, rfl⟩)
      rw [dot_comm, dot_free E hj h.lt] at this
      exact this
  rw [show v = comb E v by grind]
  exact hc
def contra (rows : List α) (E : List (Nat × α)) : List α := gauss (fnds E)
/-- what contrary tells: the vectors at right angles to all rows -/
theorem contra_ok {rows : List α} {E : List (Nat × α)} (h : Ech E) (hs : ∀ x, Sp (E.map (·.2)) x ↔ Sp rows x) : ∃ E', gauss (fnds E) = E'.map (·.2) ∧ Ech E' ∧ (∀ v, Sp (E'.map (·.2)) v ↔ ∀ a, a ∈ rows → dot a v = 0) ∧ ∀ v, (∀ a, a ∈ gauss (fnds E) → dot a v = 0) → Sp rows v := by
  obtain ⟨E', e1, e2, e3⟩ := gauss_ok (fnds E)
  refine ⟨E', e1, e2, fun v => ?_, fun v hv => ?_⟩
  · rw [e3]
    constructor
    · exact fun k a m => fnds_perp h ((hs a).mpr (.of m)) k
    · intro k
      refine perp_fnds h fun e me => ?_
      have := (hs e.2).mp (.of (List.mem_map_of_mem me))
      rw [dot_comm]
      exact this.dot0 fun a m => by rw [dot_comm]; exact k a m
  · rw [← hs]
    refine perp_perp h fun a m => ?_
    have := (e3 a).mpr (.of m)
    rw [dot_comm]
    refine this.dot0 fun b mb => ?_
    rw [dot_comm]
    refine hv b ?_
    rw [e1]
    exact mb
end
end K39
end
section
set_option autoImplicit false
/-! P5: polys as lists -/
namespace K39
open Lean.Grind FF
section
variable {α : Type} [FF α]
def toPo (l : List α) : Po α := ⟨fun k => (l[k]?).getD 0, l.length, fun k hk => by
  show (l[k]?).getD 0 = 0
  rw [List.getElem?_eq_none_iff.mpr hk]
  rfl⟩
theorem co_toPo (l : List α) (k : Nat) : (toPo l).co k = (l[k]?).getD 0 := rfl
theorem toPo_sup (l : List α) : Sup l.length (toPo l).co := fun k hk => by
  rw [co_toPo, List.getElem?_eq_none_iff.mpr hk]
  rfl
theorem toPo_nil : toPo ([] : List α) = 0 := Po.ext fun k => rfl
def tlen (l : List α) : Nat → Nat
  | 0 => 0
  | m + 1 => if (l[m]?).getD 0 = 0 then tlen l m else m + 1
def trim (l : List α) : List α := l.take (tlen l l.length)
theorem tlen_le (l : List α) : ∀ m, tlen l m ≤ m
  | 0 => Nat.le_refl _
  | m + 1 => by
    unfold tlen
    split
    · exact Nat.le_succ_of_le (tlen_le l m)
    · exact Nat.le_refl _
theorem tlen_zero (l : List α) : ∀ m k, tlen l m ≤ k → k < m → (l[k]?).getD 0 = 0
  | 0, k, _, h => absurd h (Nat.not_lt_zero k)
  | m + 1, k, h1, h2 => by
    unfold tlen at h1
    split at h1
    · rename_i z
      rcases Nat.lt_or_ge k m with q | q
      · exact tlen_zero l m k h1 q
      · rw [show k = m by omega]
        exact z
    · omega
theorem tlen_top (l : List α) : ∀ m k, tlen l m = k + 1 → (l[k]?).getD 0 ≠ 0
  | 0, k, h => by cases h
  | m + 1, k, h => by
    unfold tlen at h
    split at h
    · exact tlen_top l m k h
    · rename_i z
      rw [show k = m by omega]
      exact z
theorem trim_len (l : List α) : (trim l).length = tlen l l.length := by
  unfold trim
  rw [List.length_take]
  have := tlen_le l l.length
  omega
theorem toPo_trim (l : List α) : toPo (trim l) = toPo l := Po.ext fun k => by
  rw [co_toPo, co_toPo]
  unfold trim
  rw [List.getElem?_take]
  split
  · rfl
  · rename_i h
    rcases Nat.lt_or_ge k l.length with q | q
    · rw [tlen_zero l l.length k (by omega) q]
      rfl
    · rw [List.getElem?_eq_none_iff.mpr q]
def Tr (l : List α) : Prop := ∀ m, l.length = m + 1 → (toPo l).co m ≠ 0
theorem trim_tr (l : List α) : Tr (trim l) := fun m h => by
  rw [toPo_trim, co_toPo]
  exact tlen_top l l.length m (by rw [← trim_len, h])
theorem tr_uniq {l r : List α} (hl : Tr l) (hr : Tr r) (h : toPo l = toPo r) : l = r := by
  have hlen : ∀ {l r : List α}, Tr l → toPo l = toPo r → l.length ≤ r.length := fun {l r} hl h => by
    rcases Nat.lt_or_ge r.length l.length with q | q
    · obtain ⟨m, hm⟩ : ∃ m, l.length = m + 1 := ⟨l.length - 1, by omega⟩
      exact absurd (by rw [h]; exact toPo_sup r m (by omega)) (hl m hm)
    · exact q
  have e : l.length = r.length := Nat.le_antisymm (hlen hl h) (hlen hr h.symm)
  refine List.ext_getElem? fun k => ?_
  rcases Nat.lt_or_ge k l.length with q | q
  · have c : (toPo l).co k = (toPo r).co k := by rw [h]
    rw [co_toPo, co_toPo, List.getElem?_eq_getElem q, List.getElem?_eq_getElem (by omega)] at c
    rw [List.getElem?_eq_getElem q, List.getElem?_eq_getElem (by omega)]
    exact congrArg some c
  · rw [List.getElem?_eq_none_iff.mpr q, List.getElem?_eq_none_iff.mpr (by omega)]
noncomputable def lst (f : Po α) : List α := trim ((List.range (Classical.choose f.2)).map f.co)
theorem toPo_lst (f : Po α) : toPo (lst f) = f := by
  unfold lst
  rw [toPo_trim]
  refine Po.ext fun k => ?_
  rw [co_toPo, List.getElem?_map]
  rcases Nat.lt_or_ge k (Classical.choose f.2) with q | q
  · rw [List.getElem?_range q]
    rfl
  · rw [List.getElem?_eq_none_iff.mpr (by rw [List.length_range]; exact q)]
    exact (Classical.choose_spec f.2 k q).symm
theorem lst_tr (f : Po α) : Tr (lst f) := trim_tr _
theorem trim_lst (l : List α) : trim l = lst (toPo l) := tr_uniq (trim_tr l) (lst_tr _) (by rw [toPo_trim, toPo_lst])
theorem lst_eq {l : List α} {f : Po α} (h : Tr l) (e : toPo l = f) : l = lst f := tr_uniq h (lst_tr _) (by rw [e, toPo_lst])
theorem lst_inj {f g : Po α} (h : lst f = lst g) : f = g := by rw [← toPo_lst f, h, toPo_lst]
noncomputable def len (f : Po α) : Nat := (lst f).length
theorem len_sup (f : Po α) : Sup (len f) f.co := by
  have := toPo_sup (lst f)
  rw [toPo_lst] at this
  exact this
theorem len_top {f : Po α} {n : Nat} (h : len f = n + 1) : Dg f n := by
  refine ⟨?_, by rw [← h]; exact len_sup f⟩
  have := lst_tr f n h
  rw [toPo_lst] at this
  exact this
theorem len_dg {f : Po α} {n : Nat} (h : Dg f n) : len f = n + 1 := by
  rcases Nat.lt_trichotomy (len f) (n + 1) with q | q | q
  · exact absurd (len_sup f n (by omega)) h.1
  · exact q
  · obtain ⟨m, hm⟩ : ∃ m, len f = m + 1 := ⟨len f - 1, by omega⟩
    exact absurd (h.2 m (by omega)) (len_top hm).1
theorem len_0 : len (0 : Po α) = 0 := by
  cases h : len (0 : Po α) with
  | zero => rfl
  | succ n => exact absurd rfl (len_top h).1
theorem len_eq0 {f : Po α} : len f = 0 ↔ f = 0 := by
  constructor
  · intro h
    have := len_sup f
    rw [h] at this
    exact Po.ext fun k => this k (Nat.zero_le k)
  · intro h
    rw [h, len_0]
theorem len_le {f : Po α} {N : Nat} (h : Sup N f.co) : len f ≤ N := by
  cases e : len f with
  | zero => omega
  | succ n => exact dg_sup (len_top e) h
theorem len_add (f g : Po α) : len (f + g) ≤ max (len f) (len g) := len_le fun k hk => by
  rw [co_add, len_sup f k (by omega), len_sup g k (by omega)]
  grind
theorem len_neg (f : Po α) : len (-f) ≤ len f := len_le fun k hk => by
  rw [co_neg, len_sup f k hk]
  grind
theorem len_sub (f g : Po α) : len (f - g) ≤ max (len f) (len g) := len_le fun k hk => by
  rw [co_sub, len_sup f k (by omega), len_sup g k (by omega)]
  grind
theorem len_mul {f g : Po α} (hf : f ≠ 0) (hg : g ≠ 0) : len (f * g) + 1 = len f + len g := by
  obtain ⟨n, hn⟩ := (zero_or_dg f).resolve_left hf
  obtain ⟨m, hm⟩ := (zero_or_dg g).resolve_left hg
  rw [len_dg (dg_mul hn hm).1, len_dg hn, len_dg hm]
  omega
theorem len_mul_le (f g : Po α) : len (f * g) ≤ len f + len g - 1 := by
  by_cases hf : f = 0
  · rw [hf, show (0 : Po α) * g = 0 by grind, len_0]
    exact Nat.zero_le _
  by_cases hg : g = 0
  · rw [hg, show f * (0 : Po α) = 0 by grind, len_0]
    exact Nat.zero_le _
  have := len_mul hf hg
  omega
theorem lst_0 : lst (0 : Po α) = [] := List.length_eq_zero_iff.mp (len_0 (α := α))
theorem lst_last {f : Po α} (h : f ≠ 0) : (lst f)[(lst f).length - 1]? = some (f.co (len f - 1)) ∧ f.co (len f - 1) ≠ 0 := by
  obtain ⟨n, hn⟩ := (zero_or_dg f).resolve_left h
  have e := len_dg hn
  have hl : (lst f).length = n + 1 := e
  rw [hl, e]
  show (lst f)[n]? = some (f.co n) ∧ f.co n ≠ 0
  refine ⟨?_, hn.1⟩
  have c : (toPo (lst f)).co n = f.co n := by rw [toPo_lst]
  rw [co_toPo, List.getElem?_eq_getElem (by omega)] at c
  rw [List.getElem?_eq_getElem (by omega)]
  exact congrArg some c
theorem ev_toPo : ∀ (l : List α) (x : α), (toPo l).ev x = evN l.length (toPo l).co x := fun l x => ev_eq (toPo_sup l) x
/-- the value, term by term -/
def evl : List α → α → α
  | [], _ => 0
  | a :: l, x => a * x + evl l (sg x)
theorem evl_eq : ∀ (l : List α) (x : α), evl l x = (toPo l).ev x
  | [], x => by
    rw [toPo_nil, ev_zero]
    rfl
  | a :: l, x => by
    rw [ev_toPo]
    show a * x + evl l (sg x) = a * x + evN l.length (toPo l).co (sg x)
    rw [evl_eq l, ev_toPo]
theorem ev_lst (f : Po α) (x : α) : evl (lst f) x = f.ev x := by rw [evl_eq, toPo_lst]
end
end K39
end
section
set_option maxRecDepth 100000
set_option autoImplicit false
/-! Q0: how the meanings run -/
namespace K39
section
variable {ρ : En} {w : Wd}
@[simp] theorem r_fnD (N : Nat) (f : FS) (ds : List D) : fnD N f ds w = match f (startE N ds) w with
  | some (.rt d, w') => some (d, w')
  | some (.nx _, w') => some (.non, w')
  | _ => none := (rfl)
@[simp] theorem r_startE (N : Nat) (ds : List D) : startE N ds = ds.map .val ++ List.replicate (N - ds.length) .no := (rfl)
@[simp] theorem r_fPass : fPass ρ w = some (.nx ρ, w) := (rfl)
@[simp] theorem r_fBreak : fBreak ρ w = some (.bk ρ, w) := (rfl)
@[simp] theorem r_fCont : fCont ρ w = some (.ct ρ, w) := (rfl)
@[simp] theorem r_fSeq (f1 f2 : FS) : fSeq f1 f2 ρ w = (f1 ρ w).bind fun a => match a.1 with
  | .nx ρ1 => f2 ρ1 a.2
  | o => some (o, a.2) := (rfl)
@[simp] theorem r_fRet (fe : FE) : fRet fe ρ w = (fe ρ w).map fun a => (.rt a.1, a.2) := (rfl)
@[simp] theorem r_fDrop (fe : FE) : fDrop fe ρ w = (fe ρ w).map fun a => (.nx ρ, a.2) := (rfl)
@[simp] theorem r_fIf (ft : FT) (f1 f2 : FS) : fIf ft f1 f2 ρ w = (ft ρ w).bind fun a => if a.1 = true then f1 ρ a.2 else f2 ρ a.2 := (rfl)
@[simp] theorem r_fAsg (i : Nat) (fe : FE) : fAsg i fe ρ w = (fe ρ w).map fun a => (.nx (ρ.set i (.val a.1)), a.2) := (rfl)
@[simp] theorem r_fOwn (i : Nat) (fl : FL) : fOwn i fl ρ w = (fl ρ w).map fun a => (.nx (ρ.set i (.own a.1)), a.2) := (rfl)
@[simp] theorem r_fTup2 (i j : Nat) (fe : FE) : fTup2 i j fe ρ w = (fe ρ w).bind fun a => match a.1 with
  | .tup [x, y] => some (.nx ((ρ.set i (.val x)).set j (.val y)), a.2)
  | _ => none := (rfl)
@[simp] theorem r_fPar (i j : Nat) (fl : FL) : fPar i j fl ρ w = (fl ρ w).bind fun a => match a.1 with
  | [x, y] => some (.nx ((ρ.set i (.val x)).set j (.val y)), a.2)
  | _ => none := (rfl)
@[simp] theorem r_fAug (i : Nat) (g : Int → Int → Int) (fe : FE) : fAug i g fe ρ w = match ρ[i]? with
  | some (.val (.int a)) => (fe ρ w).bind fun b => match b.1 with
    | .int c => some (.nx (ρ.set i (.val (.int (g a c)))), b.2)
    | _ => none
  | _ => none := (rfl)
@[simp] theorem r_fApp (i : Nat) (fe : FE) : fApp i fe ρ w = match ρ[i]? with
  | some (.own ds) => (fe ρ w).bind fun a => if ds.length < cap then some (.nx (ρ.set i (.own (ds ++ [a.1]))), a.2) else none
  | _ => none := (rfl)
@[simp] theorem r_fSto (i : Nat) (fi fe : FE) : fSto i fi fe ρ w = (fe ρ w).bind fun a => (fi ρ a.2).bind fun b => match b.1, ρ[i]? with
  | .int k, some (.own ds) => (L2.ixN ds.length k).map fun j => (.nx (ρ.set i (.own (ds.set j a.1))), b.2)
  | .int k, some (.val .hand) => (L2.ixN b.2.length k).map fun j => (.nx ρ, b.2.set j a.1)
  | _, _ => none := (rfl)
@[simp] theorem r_fPop (j i : Nat) (fi : FE) : fPop j i fi ρ w = match ρ[i]? with
  | some (.own ds) => (fi ρ w).bind fun a => match a.1 with
    | .int k => if 0 ≤ k ∧ k < ds.length ∧ k < 1000 then (ds[k.toNat]?).map fun d => (.nx ((ρ.set i (.own (ds.eraseIdx k.toNat))).set j (.val d)), a.2) else none
    | _ => none
  | _ => none := (rfl)
@[simp] theorem r_fFreeze (i : Nat) (f : FS) : fFreeze i f ρ w = match ρ[i]? with
  | some (.own ds) => f (ρ.set i (.val (.lst ds))) w
  | _ => f ρ w := (rfl)
@[simp] theorem r_fFor {α : Type} (bnd : α → En → En) (fi : FI α) (f : FS) : fFor bnd fi f ρ w = (fi ρ w).bind fun a => forLoop bnd f a.1 ρ a.2 := (rfl)
@[simp] theorem r_fWhile (n : Nat) (ft : FT) (f : FS) : fWhile n ft f ρ w = whileLoop ft f n ρ w := (rfl)
@[simp] theorem r_fFind (i j s : Nat) (fi : FI (D × D)) (ft : FT) : fFind i j s fi ft ρ w = (fi ρ w).bind fun a => (findLoop i j s ft a.1 ρ a.2).map fun r => (.nx r.1, r.2) := (rfl)
@[simp] theorem r_bnd1 (i : Nat) (d : D) : bnd1 i d ρ = ρ.set i (.val d) := (rfl)
@[simp] theorem r_bnd2 (i j : Nat) (d : D × D) : bnd2 i j d ρ = (ρ.set i (.val d.1)).set j (.val d.2) := (rfl)
/-! expressions -/
@[simp] theorem r_fVar (i : Nat) : fVar i ρ w = match ρ[i]? with
  | some (.val d) => some (d, w)
  | _ => none := (rfl)
@[simp] theorem r_fVarB (i : Nat) : fVarB i ρ w = match ρ[i]? with
  | some (.val d) => some (d, w)
  | some (.own ds) => some (.lst ds, w)
  | _ => none := (rfl)
@[simp] theorem r_fC (d : D) : fC d ρ w = some (d, w) := (rfl)
@[simp] theorem r_asE (f : FL) : asE f ρ w = (f ρ w).map fun r => (.lst r.1, r.2) := (rfl)
@[simp] theorem r_fOp (op : D → D → Option D) (f1 f2 : FE) : fOp op f1 f2 ρ w = (f1 ρ w).bind fun a => (f2 ρ a.2).bind fun b => (op a.1 b.1).map fun d => (d, b.2) := (rfl)
@[simp] theorem r_fOpN (op : D → D → Option (List D)) (f1 f2 : FE) : fOpN op f1 f2 ρ w = (f1 ρ w).bind fun a => (f2 ρ a.2).bind fun b => (op a.1 b.1).map fun d => (d, b.2) := (rfl)
@[simp] theorem r_fOp1 (op : D → Option D) (f : FE) : fOp1 op f ρ w = (f ρ w).bind fun a => (op a.1).map fun d => (d, a.2) := (rfl)
@[simp] theorem r_fOpN1 (op : D → Option (List D)) (f : FE) : fOpN1 op f ρ w = (f ρ w).bind fun a => (op a.1).map fun d => (d, a.2) := (rfl)
@[simp] theorem r_fHand (i : Nat) (k : Int) : fHand i k ρ w = match ρ[i]? with
  | some (.val .hand) => (L2.atI w k).map fun d => (d, w)
  | _ => none := (rfl)
@[simp] theorem r_fNo : fNo ρ w = some (none, w) := (rfl)
@[simp] theorem r_fPart (f : FE) : fPart f ρ w = (f ρ w).bind fun r => match r.1 with
  | .int i => some (some i, r.2)
  | _ => none := (rfl)
@[simp] theorem r_fSl (f : FE) (a b : FO) : fSl f a b ρ w = (f ρ w).bind fun r => (a ρ r.2).bind fun x => (b ρ x.2).bind fun y => (dCut r.1 x.1 y.1).map fun d => (d, y.2) := (rfl)
@[simp] theorem r_fNil : fNil ρ w = some ([], w) := (rfl)
@[simp] theorem r_fCons (f : FE) (r : FL) : fCons f r ρ w = (f ρ w).bind fun a => (r ρ a.2).map fun b => (a.1 :: b.1, b.2) := (rfl)
@[simp] theorem r_fTup (fl : FL) : fTup fl ρ w = (fl ρ w).bind fun r => if r.1.length ≤ cap then some (.tup r.1, r.2) else none := (rfl)
@[simp] theorem r_fLst (fl : FL) : fLst fl ρ w = (fl ρ w).bind fun r => if r.1.length ≤ cap then some r else none := (rfl)
@[simp] theorem r_fFld (k : Nat) (f : FE) : fFld k f ρ w = (f ρ w).bind fun r => match r.1 with
  | .obj ds => (ds[k]?).map fun d => (d, r.2)
  | _ => none := (rfl)
@[simp] theorem r_fIsi (T : String) (f : FE) : fIsi T f ρ w = (f ρ w).bind fun a => ((isiD T a.1).map D.bl).map fun d => (d, a.2) := (rfl)
@[simp] theorem r_fIsi2 (T1 T2 : String) (f : FE) : fIsi2 T1 T2 f ρ w = (f ρ w).bind fun a => ((isiD2 T1 T2 a.1).map D.bl).map fun d => (d, a.2) := (rfl)
@[simp] theorem isi_ii (i : Int) : isiD "int" (.int i) = some true := (rfl)
@[simp] theorem isi_bi (i : Int) : isiD "bool" (.int i) = some false := (rfl)
@[simp] theorem isi_ti (i : Int) : isiD "tuple" (.int i) = some false := (rfl)
@[simp] theorem isi_tt (l : List D) : isiD "tuple" (.tup l) = some true := (rfl)
@[simp] theorem isi2_t (l : List D) : isiD2 "list" "tuple" (.tup l) = some true := (rfl)
@[simp] theorem isi2_l (l : List D) : isiD2 "list" "tuple" (.lst l) = some true := (rfl)
@[simp] theorem r_fAnd (f1 f2 : FE) : fAnd f1 f2 ρ w = (f1 ρ w).bind fun a => match a.1 with
  | .bl true => f2 ρ a.2
  | .bl false => some (.bl false, a.2)
  | _ => none := (rfl)
@[simp] theorem r_fOr (f1 f2 : FE) : fOr f1 f2 ρ w = (f1 ρ w).bind fun a => match a.1 with
  | .bl true => some (.bl true, a.2)
  | .bl false => f2 ρ a.2
  | _ => none := (rfl)
@[simp] theorem r_fNot (f : FE) : fNot f ρ w = (f ρ w).bind fun a => match a.1 with
  | .bl b => some (.bl (!b), a.2)
  | _ => none := (rfl)
@[simp] theorem r_fNeg (f : FE) : fNeg f ρ w = (f ρ w).bind fun a => (dI1 (fun i => -i) a.1).map fun d => (d, a.2) := (rfl)
@[simp] theorem r_dI1 (g : Int → Int) (i : Int) : dI1 g (.int i) = some (.int (g i)) := (rfl)
@[simp] theorem r_ftVal (f : FE) : ftVal f ρ w = (f ρ w).bind fun a => match a.1 with
  | .bl b => some (b, a.2)
  | _ => none := (rfl)
@[simp] theorem r_ftNot (f : FT) : ftNot f ρ w = (f ρ w).map fun a => (!a.1, a.2) := (rfl)
@[simp] theorem r_ftAnd (f1 f2 : FT) : ftAnd f1 f2 ρ w = (f1 ρ w).bind fun a => if a.1 = true then f2 ρ a.2 else some (false, a.2) := (rfl)
@[simp] theorem r_ftOr (f1 f2 : FT) : ftOr f1 f2 ρ w = (f1 ρ w).bind fun a => if a.1 = true then some (true, a.2) else f2 ρ a.2 := (rfl)
@[simp] theorem r_ftYes : ftYes ρ w = some (true, w) := (rfl)
@[simp] theorem r_fIfE (ft : FT) (f1 f2 : FE) : fIfE ft f1 f2 ρ w = (ft ρ w).bind fun a => if a.1 = true then f1 ρ a.2 else f2 ρ a.2 := (rfl)
@[simp] theorem r_fMax (f1 f2 : FE) : fMax f1 f2 ρ w = fOp (dII fun i j => some (.int (if j > i then j else i))) f1 f2 ρ w := (rfl)
@[simp] theorem r_fCall (g : Fn) (dd : List D) (n : Nat) (fl : FL) : fCall g dd n fl ρ w = (fl ρ w).bind fun a => if (a.1 ++ dd).length = n then g (a.1 ++ dd) a.2 else none := (rfl)
@[simp] theorem r_fMeth (g : Fn) (n : Nat) (f : FE) (fl : FL) : fMeth g n f fl ρ w = (f ρ w).bind fun o => (fl ρ o.2).bind fun a => if a.1.length + 1 = n then (match o.1 with
  | .obj ds => g (.obj ds :: a.1) a.2
  | _ => none) else none := (rfl)
@[simp] theorem r_fIdx (f1 f2 : FE) : fIdx f1 f2 ρ w = (f1 ρ w).bind fun a => (f2 ρ a.2).bind fun b => match a.1, b.1 with
  | .lst ds, .int k => (idxD ds k).map fun j => (.int j, b.2)
  | _, _ => none := (rfl)
@[simp] theorem r_fItems (f : FE) : fItems f ρ w = (f ρ w).bind fun a => (itemsD a.1).map fun ds => (ds, a.2) := (rfl)
@[simp] theorem r_fEnum (f : FE) : fEnum f ρ w = (f ρ w).bind fun a => (itemsD a.1).map fun ds => (enumD 0 ds, a.2) := (rfl)
@[simp] theorem r_fZip (f1 f2 : FE) : fZip f1 f2 ρ w = (f1 ρ w).bind fun a => (f2 ρ a.2).bind fun b => (itemsD a.1).bind fun xs => (itemsD b.1).map fun ys => (xs.zip ys, b.2) := (rfl)
@[simp] theorem r_fRng (fl : FL) : fRng fl ρ w = (fl ρ w).bind fun a => (rng a.1).map fun ds => (ds, a.2) := (rfl)
@[simp] theorem r_fRev (f : FE) : fRev f ρ w = (f ρ w).bind fun a => match a.1 with
  | .lst ds => some (ds.reverse, a.2)
  | .tup ds => some (ds.reverse, a.2)
  | _ => none := (rfl)
@[simp] theorem r_fLc {α : Type} (vs : List Nat) (bnd : α → En → En) (fi : FI α) (ft : FT) (fe : FE) : fLc vs bnd fi ft fe ρ w = (fi ρ w).bind fun a => if a.1.length ≤ cap then lcLoop bnd ft fe a.1 (wipeE ρ vs) a.2 else none := (rfl)
@[simp] theorem r_wipeN : wipeE ρ [] = ρ := (rfl)
@[simp] theorem r_wipeC (v : Nat) (vs : List Nat) : wipeE ρ (v :: vs) = (wipeE ρ vs).set v .no := (rfl)
@[simp] theorem it_l (l : List D) : itemsD (.lst l) = some l := (rfl)
@[simp] theorem it_t (l : List D) : itemsD (.tup l) = some l := (rfl)
@[simp] theorem it_s (l : List Int) : itemsD (.scr l) = some (dI l) := (rfl)
/-! operators -/
@[simp] theorem o_add (i j : Int) : dAdd (.int i) (.int j) = some (.int (i + j)) := (rfl)
@[simp] theorem o_addL (x y : List D) : dAdd (.lst x) (.lst y) = if x.length + y.length ≤ cap then some (.lst (x ++ y)) else none := (rfl)
@[simp] theorem o_addT (x y : List D) : dAdd (.tup x) (.tup y) = if x.length + y.length ≤ cap then some (.tup (x ++ y)) else none := (rfl)
@[simp] theorem o_cat (x y : List D) : nCat (.lst x) (.lst y) = if x.length + y.length ≤ cap then some (x ++ y) else none := (rfl)
@[simp] theorem o_sub (i j : Int) : dSub (.int i) (.int j) = some (.int (i - j)) := (rfl)
@[simp] theorem o_mod (i j : Int) : dMod (.int i) (.int j) = if 0 < j then some (.int (i % j)) else none := (rfl)
@[simp] theorem o_div (i j : Int) : dDiv (.int i) (.int j) = if 0 < j ∧ j.natAbs < 1073741824 then some (.int (i / j)) else none := (rfl)
@[simp] theorem o_mul (i j : Int) : dMul (.int i) (.int j) = if (small64 i || small64 j) = true then some (.int (i * j)) else none := (rfl)
@[simp] theorem o_rep (x : D) (k : Int) : nRep (.lst [x]) (.int k) = if 0 ≤ k ∧ k ≤ 1000 then some (List.replicate k.toNat x) else none := (rfl)
@[simp] theorem o_repL (x : D) (k : Int) : dMul (.lst [x]) (.int k) = if 0 ≤ k ∧ k ≤ 1000 then some (.lst (List.replicate k.toNat x)) else none := (rfl)
@[simp] theorem o_lt (i j : Int) : dLt (.int i) (.int j) = some (.bl (decide (i < j))) := (rfl)
@[simp] theorem o_le (i j : Int) : dLe (.int i) (.int j) = some (.bl (decide (i ≤ j))) := (rfl)
@[simp] theorem o_gt (i j : Int) : dGt (.int i) (.int j) = some (.bl (decide (j < i))) := (rfl)
@[simp] theorem o_ge (i j : Int) : dGe (.int i) (.int j) = some (.bl (decide (j ≤ i))) := (rfl)
@[simp] theorem o_eq (i j : Int) : dEq (.int i) (.int j) = some (.bl (decide (i = j))) := (rfl)
@[simp] theorem o_ne (i j : Int) : dNe (.int i) (.int j) = some (.bl (!decide (i = j))) := (rfl)
@[simp] theorem o_eqb (i j : Bool) : dEq (.bl i) (.bl j) = some (.bl (decide (i = j))) := (rfl)
@[simp] theorem o_neb (i j : Bool) : dNe (.bl i) (.bl j) = some (.bl (!decide (i = j))) := (rfl)
@[simp] theorem o_max (i j : Int) : dII (fun i j => some (.int (if j > i then j else i))) (.int i) (.int j) = some (.int (if j > i then j else i)) := (rfl)
@[simp] theorem o_isN1 (i : Int) : dIs (.int i) .non = some (.bl false) := (rfl)
@[simp] theorem o_isN2 (i : Int) : dIsNot (.int i) .non = some (.bl true) := (rfl)
@[simp] theorem o_isB (i j : Bool) : dIsNot (.bl i) (.bl j) = some (.bl (!decide (i = j))) := (rfl)
@[simp] theorem o_lenL (l : List D) : dLen (.lst l) = some (.int l.length) := (rfl)
@[simp] theorem o_lenT (l : List D) : dLen (.tup l) = some (.int l.length) := (rfl)
@[simp] theorem o_listL (l : List D) : nList (.lst l) = some l := (rfl)
@[simp] theorem o_listT (l : List D) : nList (.tup l) = some l := (rfl)
@[simp] theorem o_tupL (l : List D) : dTuple (.lst l) = some (.tup l) := (rfl)
@[simp] theorem o_tupT (l : List D) : dTuple (.tup l) = some (.tup l) := (rfl)
@[simp] theorem o_cutL (l : List D) (a b : Option Int) : dCut (.lst l) a b = some (.lst (cutD l a b)) := (rfl)
@[simp] theorem o_cutT (l : List D) (a b : Option Int) : dCut (.tup l) a b = some (.tup (cutD l a b)) := (rfl)
@[simp] theorem o_ixL (l : List D) (i : Int) : dIx (.lst l) (.int i) = L2.atI l i := (rfl)
@[simp] theorem o_ixT (l : List D) (i : Int) : dIx (.tup l) (.int i) = L2.atI l i := (rfl)
@[simp] theorem o_rng1 (j : Int) : rng [.int j] = if big j = true then some (rangeD 0 1 j.toNat) else none := (rfl)
theorem atI_nat {β : Type} (xs : List β) (i : Nat) : L2.atI xs (i : Int) = xs[i]? := by
  unfold L2.atI L2.ixN
  rw [if_pos (by omega)]
  by_cases h : i < xs.length
  · rw [if_pos (by omega)]
    show xs[(i : Int).toNat]? = _
    rw [Int.toNat_natCast]
  · rw [if_neg (by omega), List.getElem?_eq_none_iff.mpr (by omega)]
    rfl
@[simp] theorem atI_0 {β : Type} (xs : List β) : L2.atI xs 0 = xs[0]? := atI_nat xs 0
@[simp] theorem atI_1 {β : Type} (xs : List β) : L2.atI xs 1 = xs[1]? := atI_nat xs 1
@[simp] theorem atI_2 {β : Type} (xs : List β) : L2.atI xs 2 = xs[2]? := atI_nat xs 2
@[simp] theorem atI_3 {β : Type} (xs : List β) : L2.atI xs 3 = xs[3]? := atI_nat xs 3
@[simp] theorem atI_4 {β : Type} (xs : List β) : L2.atI xs 4 = xs[4]? := atI_nat xs 4
@[simp] theorem atI_5 {β : Type} (xs : List β) : L2.atI xs 5 = xs[5]? := atI_nat xs 5
@[simp] theorem atI_6 {β : Type} (xs : List β) : L2.atI xs 6 = xs[6]? := atI_nat xs 6
theorem atI_m1 {β : Type} (xs : List β) (h : xs ≠ []) : L2.atI xs (-1) = xs[xs.length - 1]? := by
  have hl : 0 < xs.length := List.length_pos_iff.mpr h
  unfold L2.atI L2.ixN
  rw [if_neg (by omega), if_pos (by omega)]
  show xs[((-1 : Int) + (xs.length : Int)).toNat]? = _
  rw [show ((-1 : Int) + (xs.length : Int)).toNat = xs.length - 1 by omega]
@[simp] theorem cap_v : cap = 100000 := (rfl)
theorem big_nat {k : Nat} (h : k < 2 ^ 62) : big (k : Int) = true := by
  unfold big
  rw [decide_eq_true_iff]
  omega
theorem small_nat {k : Nat} (h : k < 2 ^ 64) : small64 (k : Int) = true := by
  unfold small64
  rw [decide_eq_true_iff]
  omega
theorem rangeD_nat (k : Nat) : rangeD 0 1 k = (List.range k).map fun (i : Nat) => D.int (i : Int) := by
  unfold rangeD
  refine List.map_congr_left fun i _ => ?_
  congr 1
  omega
/-- a comprehension without tests -/
theorem lc_map {α β : Type} {bnd : α → En → En} {fe : FE} (c : β → α) (g : β → D) : ∀ (l : List β), (∀ b, b ∈ l → fe (bnd (c b) ρ) w = some (g b, w)) → lcLoop bnd ftYes fe (l.map c) ρ w = some (l.map g, w)
  | [], _ => rfl
  | b :: l, h => by
    show ((fe (bnd (c b) ρ) w).bind fun y => (lcLoop bnd ftYes fe (l.map c) ρ y.2).map fun r => (y.1 :: r.1, r.2)) = _
    rw [h b (List.mem_cons_self ..)]
    show (lcLoop bnd ftYes fe (l.map c) ρ w).map (fun r => (g b :: r.1, r.2)) = _
    rw [lc_map c g l fun b m => h b (List.mem_cons_of_mem _ m)]
    rfl
/-- with a test -/
theorem lc_filter {α β : Type} {bnd : α → En → En} {ft : FT} {fe : FE} (c : β → α) (t : β → Bool) (g : β → D) : ∀ (l : List β), (∀ b, b ∈ l → ft (bnd (c b) ρ) w = some (t b, w)) → (∀ b, b ∈ l → t b = true → fe (bnd (c b) ρ) w = some (g b, w)) → lcLoop bnd ft fe (l.map c) ρ w = some ((l.filter t).map g, w)
  | [], _, _ => rfl
  | b :: l, h1, h2 => by
    have ih := lc_filter c t g l (fun b m => h1 b (List.mem_cons_of_mem _ m)) (fun b m => h2 b (List.mem_cons_of_mem _ m))
    show ((ft (bnd (c b) ρ) w).bind fun z => if z.1 = true then (fe (bnd (c b) ρ) z.2).bind fun y => (lcLoop bnd ft fe (l.map c) ρ y.2).map fun r => (y.1 :: r.1, r.2) else lcLoop bnd ft fe (l.map c) ρ z.2) = _
    rw [h1 b (List.mem_cons_self ..)]
    show (if t b = true then (fe (bnd (c b) ρ) w).bind fun y => (lcLoop bnd ft fe (l.map c) ρ y.2).map fun r => (y.1 :: r.1, r.2) else lcLoop bnd ft fe (l.map c) ρ w) = _
    by_cases z : t b = true
    · rw [if_pos z, h2 b (List.mem_cons_self ..) z, List.filter_cons_of_pos z]
      show (lcLoop bnd ft fe (l.map c) ρ w).map (fun r => (g b :: r.1, r.2)) = _
      rw [ih]
      rfl
    · rw [if_neg z, List.filter_cons_of_neg z, ih]
@[simp] theorem fl_nil {α : Type} (bnd : α → En → En) (f : FS) : forLoop bnd f [] ρ w = some (.nx ρ, w) := (rfl)
theorem fl_cons {α : Type} (bnd : α → En → En) (f : FS) (a : α) (as : List α) : forLoop bnd f (a :: as) ρ w = (f (bnd a ρ) w).bind fun r => match r.1 with
    | .nx ρ1 => forLoop bnd f as ρ1 r.2
    | .ct ρ1 => forLoop bnd f as ρ1 r.2
    | .bk ρ1 => some (.nx ρ1, r.2)
    | .rt d => some (.rt d, r.2) := (rfl)
theorem wl_succ (ft : FT) (f : FS) (n : Nat) : whileLoop ft f (n + 1) ρ w = (ft ρ w).bind fun t => if t.1 = true then (f ρ t.2).bind fun r => match r.1 with
    | .nx ρ1 => whileLoop ft f n ρ1 r.2
    | .ct ρ1 => whileLoop ft f n ρ1 r.2
    | .bk ρ1 => some (.nx ρ1, r.2)
    | .rt d => some (.rt d, r.2) else some (.nx ρ, t.2) := (rfl)
end
end K39
end
section
set_option maxRecDepth 100000
set_option autoImplicit false
/-! Q1: the field as data; the methods -/
namespace K39
open Lean.Grind FF FD
class FX (α : Type) extends FD α where
  n : Nat
  enc : α → Nat
  els : List α
  modulus : List Nat
  els_len : els.length = n
  els_enc : ∀ a : α, els[enc a]? = some a
  enc_els : ∀ (i : Nat) (a : α), els[i]? = some a → enc a = i
  enc0 : enc (0 : α) = 0
  enc1 : enc (1 : α) = 1
  n_le : n ≤ 27
  d_le : d ≤ 4
  n_pow : n = p ^ d
  dg_enc : ∀ (j : Nat) (a : α), dg j a = enc a / p ^ j % p
  enc_un : ∀ j, j < d → enc (un j : α) = p ^ j
  enc_cast : ∀ k : Nat, k < p → enc (k : α) = k
  sg_d : ∀ a : α, sgN d a = a
  inv0 : inv (0 : α) = 0
open FX
section
variable {α : Type} [FX α]
abbrev eI (a : α) : D := .int (enc a : Nat)
def eL (l : List α) : List D := l.map eI
def rowD (x : α) : List D := (List.range (d (α := α))).map fun j => .int (dg j x : Nat)
variable (α) in
def t1D (f : α → D) : List D := (els : List α).map f
variable (α) in
def ffs : List D := [.int (p (α := α) : Nat), .tup ((modulus (α := α)).map fun i => .int (i : Nat)), .int (d (α := α) : Nat), .int (n (α := α) : Nat), .tup (t1D α fun a => .tup (rowD a)),
  .tup (t1D α fun a => .tup (t1D α fun b => eI (a + b))), .tup (t1D α fun a => .tup (t1D α fun b => eI (a * b))), .tup (t1D α fun a => eI (-a)), .tup (t1D α fun a => eI (inv a)), .tup (t1D α fun a => eI (sg a))]
variable (α) in
abbrev fobj : D := .obj (ffs α)
variable (α) in
def wws : List D := [.int (p (α := α) : Nat), .int (d (α := α) : Nat), .int (n (α := α) : Nat), .lst (t1D α fun a => .lst (t1D α fun b => eI (a + b))), .lst (t1D α fun a => .lst (t1D α fun b => eI (a * b))),
  .lst (t1D α fun a => eI (sg a)), .lst (t1D α fun a => eI (-a))]
variable (α) in
abbrev wobj : D := .lst (wws α)
@[simp] theorem ff0 : (ffs α)[0]? = some (.int (p (α := α) : Nat)) := (rfl)
@[simp] theorem ff2 : (ffs α)[2]? = some (.int (d (α := α) : Nat)) := (rfl)
@[simp] theorem ff3 : (ffs α)[3]? = some (.int (n (α := α) : Nat)) := (rfl)
@[simp] theorem ff4 : (ffs α)[4]? = some (.tup (t1D α fun a => .tup (rowD a))) := (rfl)
@[simp] theorem ff5 : (ffs α)[5]? = some (.tup (t1D α fun a => .tup (t1D α fun b => eI (a + b)))) := (rfl)
@[simp] theorem ff6 : (ffs α)[6]? = some (.tup (t1D α fun a => .tup (t1D α fun b => eI (a * b)))) := (rfl)
@[simp] theorem ff7 : (ffs α)[7]? = some (.tup (t1D α fun a => eI (-a))) := (rfl)
@[simp] theorem ff8 : (ffs α)[8]? = some (.tup (t1D α fun a => eI (inv a))) := (rfl)
@[simp] theorem ff9 : (ffs α)[9]? = some (.tup (t1D α fun a => eI (sg a))) := (rfl)
@[simp] theorem ww0 : (wws α)[0]? = some (.int (p (α := α) : Nat)) := (rfl)
@[simp] theorem ww1 : (wws α)[1]? = some (.int (d (α := α) : Nat)) := (rfl)
@[simp] theorem ww2 : (wws α)[2]? = some (.int (n (α := α) : Nat)) := (rfl)
@[simp] theorem ww3 : (wws α)[3]? = some (.lst (t1D α fun a => .lst (t1D α fun b => eI (a + b)))) := (rfl)
@[simp] theorem ww4 : (wws α)[4]? = some (.lst (t1D α fun a => .lst (t1D α fun b => eI (a * b)))) := (rfl)
@[simp] theorem ww5 : (wws α)[5]? = some (.lst (t1D α fun a => eI (sg a))) := (rfl)
@[simp] theorem ww6 : (wws α)[6]? = some (.lst (t1D α fun a => eI (-a))) := (rfl)
@[simp] theorem at_t1 (f : α → D) (a : α) : L2.atI (t1D α f) ((enc a : Nat) : Int) = some (f a) := by
  unfold t1D
  rw [atI_nat, List.getElem?_map, els_enc]
  rfl
theorem enc_lt (a : α) : enc a < n (α := α) := by
  have h := els_enc a
  rw [← els_len]
  exact (List.getElem?_eq_some_iff.mp h).1
theorem enc_inj {a b : α} (h : enc a = enc b) : a = b := by
  have h1 := els_enc a
  rw [h, els_enc b] at h1
  exact (Option.some.inj h1).symm
@[simp] theorem enc_eq0 {a : α} : enc a = 0 ↔ a = 0 := ⟨fun h => enc_inj (h.trans enc0.symm), fun h => by rw [h, enc0]⟩
@[simp] theorem enc_eq {a b : α} : enc a = enc b ↔ a = b := ⟨enc_inj, fun h => by rw [h]⟩
theorem p_le : p (α := α) ≤ 3 := by rcases p23 (α := α) with h | h <;> omega
theorem p_ge : 2 ≤ p (α := α) := by rcases p23 (α := α) with h | h <;> omega

/-! ### the methods -/
@[simp] theorem m_plus (a b : α) (w : Wd) : m_F_plus [fobj α, eI a, eI b] w = some (eI (a + b), w) := by simp [m_F_plus, f_F_plus]
@[simp] theorem m_times (a b : α) (w : Wd) : m_F_times [fobj α, eI a, eI b] w = some (eI (a * b), w) := by simp [m_F_times, f_F_times]
@[simp] theorem m_negative (a : α) (w : Wd) : m_F_negative [fobj α, eI a] w = some (eI (-a), w) := by simp [m_F_negative, f_F_negative]
@[simp] theorem m_digits_of (a : α) (w : Wd) : m_F_digits_of [fobj α, eI a] w = some (.tup (rowD a), w) := by simp [m_F_digits_of, f_F_digits_of]
theorem m_inverse {a : α} (h : a ≠ 0) (w : Wd) : m_F_inverse [fobj α, eI a] w = some (eI (inv a), w) := by simp [m_F_inverse, f_F_inverse, h]
theorem m_over (b : α) {a : α} (h : a ≠ 0) (w : Wd) : m_F_over [fobj α, eI b, eI a] w = some (eI (b * inv a), w) := by simp [m_F_over, f_F_over, m_inverse h]
theorem sgN_per (a : α) (k : Nat) : sgN (k % d (α := α)) a = sgN k a := by
  have main : ∀ q r : Nat, sgN (d (α := α) * q + r) a = sgN r a := fun q => by
    induction q with
    | zero => intro r; rw [Nat.mul_zero, Nat.zero_add]
    | succ q ih =>
      intro r
      rw [Nat.mul_succ, Nat.add_assoc, ← ih r, Nat.add_comm (d (α := α)) r, ← Nat.add_assoc, sgN_add', sg_d]
  have h := main (k / d (α := α)) (k % d (α := α))
  rw [Nat.div_add_mod] at h
  exact h.symm
theorem loop_stepped (F : D) (hF : F = fobj α) (t x : D) (w : Wd) : ∀ (k : Nat) (c : List D) (a : α) (j : Sl), c.length = k → ∃ j', forLoop (bnd1 4) b_F_stepped_1 c [.val F, .val t, .val x, .val (eI a), j] w = some (.nx [.val F, .val t, .val x, .val (eI (sgN k a)), j'], w)
  | 0, c, a, j, h => by
    rw [List.length_eq_zero_iff.mp h]
    exact ⟨j, rfl⟩
  | k + 1, [], a, j, h => by cases h
  | k + 1, e :: c, a, j, h => by
    obtain ⟨j', ih⟩ := loop_stepped F hF t x w k c (sg a) (.val e) (Nat.succ.inj h)
    refine ⟨j', ?_⟩
    subst hF
    have hb : b_F_stepped_1 (bnd1 4 e [.val (fobj α), .val t, .val x, .val (eI a), j]) w = some (.nx [.val (fobj α), .val t, .val x, .val (eI (sg a)), .val e], w) := by simp [b_F_stepped_1]
    rw [fl_cons, hb]
    exact ih
theorem rangeD_length (lo c : Int) (k : Nat) : (rangeD lo c k).length = k := rangeD_len lo c k
theorem m_stepped_i (a : α) (i : Int) (w : Wd) : m_F_stepped [fobj α, eI a, .int i] w = some (eI (sgN (i % (d (α := α) : Nat)).toNat a), w) := by
  have hd := d_pos (α := α)
  have hl := d_le (α := α)
  have h0 : 0 ≤ i % (d (α := α) : Int) := Int.emod_nonneg _ (by omega)
  have h1 : i % (d (α := α) : Int) < d (α := α) := Int.emod_lt_of_pos _ (by omega)
  have hb : big (i % (d (α := α) : Int)) = true := by
    have e : i % (d (α := α) : Int) = ((i % (d (α := α) : Int)).toNat : Int) := by omega
    rw [e]
    exact big_nat (by omega)
  obtain ⟨j', h⟩ := loop_stepped (fobj α) rfl (eI a) (.int i) w _ (rangeD 0 1 (i % (d (α := α) : Int)).toNat) a .no (rangeD_len ..)
  have hd' : 0 < (d (α := α) : Int) := by omega
  simp [m_F_stepped, f_F_stepped, hd, hb, h]
theorem m_stepped (a : α) (k : Nat) (w : Wd) : m_F_stepped [fobj α, eI a, .int (k : Nat)] w = some (eI (sgN k a), w) := by
  rw [m_stepped_i]
  have e : ((k : Int) % (d (α := α) : Int)).toNat = k % d (α := α) := by omega
  rw [e, sgN_per]
theorem m_stepped1 (a : α) (w : Wd) : m_F_stepped [fobj α, eI a, .int 1] w = some (eI (sg a), w) := m_stepped a 1 w
/-- back: the steps that undo k steps -/
theorem m_stepped_neg (a : α) (k : Nat) (w : Wd) : ∃ b : α, m_F_stepped [fobj α, eI a, .int (-(k : Int))] w = some (eI b, w) ∧ sgN k b = a := by
  refine ⟨_, m_stepped_i a _ w, ?_⟩
  rw [← sgN_add', ← sgN_per]
  have hd := d_pos (α := α)
  have e : (k + (-(k : Int) % (d (α := α) : Int)).toNat) % d (α := α) = 0 := by
    have h0 : 0 ≤ -(k : Int) % (d (α := α) : Int) := Int.emod_nonneg _ (by omega)
    have h1 := Int.emod_add_mul_ediv (-(k : Int)) (d (α := α) : Int)
    have h2 : ((k + (-(k : Int) % (d (α := α) : Int)).toNat : Nat) : Int) = (d (α := α) : Int) * (-(-(k : Int) / (d (α := α) : Int))) := by
      rw [Int.natCast_add, Int.toNat_of_nonneg h0, Int.mul_neg]
      omega
    have h3 : ((k + (-(k : Int) % (d (α := α) : Int)).toNat : Nat) : Int) % (d (α := α) : Int) = 0 := by
      rw [h2]
      exact Int.mul_emod_right _ _
    omega
  rw [e]
  rfl
theorem loop_multiple (F : D) (hF : F = fobj α) (t : D) (x : α) (w : Wd) : ∀ (k : Nat) (c : List D) (a : α) (j : Sl), c.length = k → ∃ j', forLoop (bnd1 4) b_F_multiple_1 c [.val F, .val t, .val (eI x), .val (eI a), j] w = some (.nx [.val F, .val t, .val (eI x), .val (eI (a + (k : α) * x)), j'], w)
  | 0, c, a, j, h => by
    rw [List.length_eq_zero_iff.mp h, show a + ((0 : Nat) : α) * x = a by grind]
    exact ⟨j, rfl⟩
  | k + 1, [], a, j, h => by cases h
  | k + 1, e :: c, a, j, h => by
    obtain ⟨j', ih⟩ := loop_multiple F hF t x w k c (a + x) (.val e) (Nat.succ.inj h)
    refine ⟨j', ?_⟩
    subst hF
    have hb : b_F_multiple_1 (bnd1 4 e [.val (fobj α), .val t, .val (eI x), .val (eI a), j]) w = some (.nx [.val (fobj α), .val t, .val (eI x), .val (eI (a + x)), .val e], w) := by simp [b_F_multiple_1]
    rw [fl_cons, hb, cast_succ, show a + ((k : α) + 1) * x = a + x + (k : α) * x by grind]
    exact ih
theorem m_multiple_i (i : Int) (x : α) (w : Wd) (y : α) (hb : big (i % (p (α := α) : Int)) = true) (j' : Sl) (h : forLoop (bnd1 4) b_F_multiple_1 (rangeD 0 1 (i % (p (α := α) : Int)).toNat) [.val (fobj α), .val (.int i), .val (eI x), .val (.int 0), .no] w = some (.nx [.val (fobj α), .val (.int i), .val (eI x), .val (eI y), j'], w)) :
    m_F_multiple [fobj α, .int i, eI x] w = some (eI y, w) := by
  have hp' : 0 < p (α := α) := p_pos
  simp [m_F_multiple, f_F_multiple, hp', hb, h]
theorem m_multiple (k : Nat) (hk : k < p (α := α)) (x : α) (w : Wd) : m_F_multiple [fobj α, .int (k : Nat), eI x] w = some (eI ((k : α) * x), w) := by
  have h3 := p_le (α := α)
  have hm : (k : Int) % (p (α := α) : Int) = (k : Int) := Int.emod_eq_of_lt (by omega) (by omega)
  obtain ⟨j', h⟩ := loop_multiple (fobj α) rfl (.int (k : Nat)) x w k (rangeD 0 1 k) 0 .no (rangeD_len ..)
  rw [show (0 : α) + (k : α) * x = (k : α) * x by grind] at h
  have e0 : eI (0 : α) = D.int 0 := by
    show D.int ((enc (0 : α) : Nat) : Int) = _
    rw [enc0]
    rfl
  rw [e0] at h
  refine m_multiple_i _ x w _ ?_ j' ?_
  · rw [hm]
    exact big_nat (by omega)
  · rw [hm, Int.toNat_natCast]
    exact h
end
end K39
end
section
set_option maxRecDepth 100000
set_option autoImplicit false
/-! Q2: digits, trimming, values, sums and products of polys -/
namespace K39
open Lean.Grind FF FD FX
section
variable {α : Type} [FX α]
/-- a list or a tuple -/
def sq (k : Bool) (l : List D) : D := if k then .lst l else .tup l
@[simp] theorem sq_t (l : List D) : sq true l = .lst l := rfl
@[simp] theorem sq_f (l : List D) : sq false l = .tup l := rfl
@[simp] theorem sq_len (k : Bool) (l : List D) : dLen (sq k l) = some (.int l.length) := by cases k <;> rfl
@[simp] theorem sq_list (k : Bool) (l : List D) : nList (sq k l) = some l := by cases k <;> rfl
@[simp] theorem sq_tup (k : Bool) (l : List D) : dTuple (sq k l) = some (.tup l) := by cases k <;> rfl
@[simp] theorem sq_items (k : Bool) (l : List D) : itemsD (sq k l) = some l := by cases k <;> rfl
@[simp] theorem sq_ix (k : Bool) (l : List D) (i : Int) : dIx (sq k l) (.int i) = L2.atI l i := by cases k <;> rfl
@[simp] theorem sq_cut (k : Bool) (l : List D) (a b : Option Int) : dCut (sq k l) a b = some (sq k (cutD l a b)) := by cases k <;> rfl
@[simp] theorem sq_isi (k : Bool) (l : List D) : isiD2 "list" "tuple" (sq k l) = some true := by cases k <;> rfl
@[simp] theorem eL_len (l : List α) : (eL l).length = l.length := List.length_map ..
theorem eL_get (l : List α) (k : Nat) : (eL l)[k]? = (l[k]?).map eI := List.getElem?_map ..
theorem eL_app (l r : List α) : eL (l ++ r) = eL l ++ eL r := List.map_append ..
theorem eL_take (l : List α) (k : Nat) : (eL l).take k = eL (l.take k) := (List.map_take ..).symm
theorem eL_drop (l : List α) (k : Nat) : (eL l).drop k = eL (l.drop k) := (List.map_drop ..).symm
theorem eL_inj {l r : List α} (h : eL l = eL r) : l = r := List.map_inj_right (fun a b e => enc_inj (by
  injection e with e
  omega)) |>.mp h
theorem e0' : eI (0 : α) = D.int 0 := by
  show D.int ((enc (0 : α) : Nat) : Int) = _
  rw [enc0]
  rfl
theorem e1' : eI (1 : α) = D.int 1 := by
  show D.int ((enc (1 : α) : Nat) : Int) = _
  rw [enc1]
  rfl

/-! ### digits -/
def dval (P : Nat) (ds : List Nat) : Nat := ds.foldr (fun d t => t * P + d) 0
theorem loop_dval (P : Nat) (hP : P < 4) (L : D) (w : Wd) : ∀ (c : List Nat) (t : Nat) (j : Sl), ∃ j', forLoop (bnd1 3) b_digits_value_1 (c.map fun d => .int (d : Nat)) [.val (.int (P : Nat)), .val L, .val (.int (t : Nat)), j] w = some (.nx [.val (.int (P : Nat)), .val L, .val (.int (c.foldl (fun t d => t * P + d) t : Nat)), j'], w)
  | [], t, j => ⟨j, rfl⟩
  | e :: c, t, j => by
    obtain ⟨j', ih⟩ := loop_dval P hP L w c (t * P + e) (.val (.int (e : Nat)))
    refine ⟨j', ?_⟩
    have s : small64 (P : Int) = true := small_nat (by omega)
    have hb : b_digits_value_1 (bnd1 3 (.int (e : Nat)) [.val (.int (P : Nat)), .val L, .val (.int (t : Nat)), j]) w = some (.nx [.val (.int (P : Nat)), .val L, .val (.int ((t * P + e : Nat) : Int)), .val (.int (e : Nat))], w) := by
      simp [b_digits_value_1, s]
    rw [List.map_cons, fl_cons, hb]
    exact ih
theorem m_dval (P : Nat) (hP : P < 4) (k : Bool) (ds : List Nat) (w : Wd) : m_digits_value [.int (P : Nat), sq k (ds.map fun d => .int (d : Nat))] w = some (.int (dval P ds : Nat), w) := by
  obtain ⟨j', h⟩ := loop_dval P hP (sq k (ds.map fun d => .int (d : Nat))) w ds.reverse 0 .no
  rw [List.foldl_reverse, List.map_reverse] at h
  have h : forLoop (bnd1 3) b_digits_value_1 (ds.map fun d => D.int (d : Nat)).reverse [.val (.int (P : Nat)), .val (sq k (ds.map fun d => .int (d : Nat))), .val (.int 0), .no] w = some (.nx [.val (.int (P : Nat)), .val (sq k (ds.map fun d => .int (d : Nat))), .val (.int (dval P ds : Nat)), j'], w) := h
  simp [m_digits_value, f_digits_value, -List.map_reverse, h]
theorem dval_row : ∀ (k P a : Nat), dval P ((List.range k).map fun j => a / P ^ j % P) = a % P ^ k
  | 0, P, a => by
    show 0 = a % 1
    omega
  | k + 1, P, a => by
    rw [List.range_succ_eq_map, List.map_cons, List.map_map]
    show dval P ((List.range k).map fun j => a / P ^ (j + 1) % P) * P + a / P ^ 0 % P = _
    have e : (fun j => a / P ^ (j + 1) % P) = fun j => a / P / P ^ j % P := funext fun j => by
      rw [Nat.pow_succ', Nat.div_div_eq_div_mul]
    rw [e, dval_row k P (a / P), Nat.pow_zero, Nat.div_one, Nat.pow_succ', Nat.mod_mul, Nat.mul_comm, Nat.add_comm]
theorem dval_dg (x : α) : dval (p (α := α)) ((List.range (d (α := α))).map fun j => dg j x) = enc x := by
  have e : ((List.range (d (α := α))).map fun j => dg j x) = (List.range (d (α := α))).map fun j => enc x / p (α := α) ^ j % p (α := α) := List.map_congr_left fun j _ => dg_enc j x
  rw [e, dval_row, ← n_pow]
  exact Nat.mod_eq_of_lt (enc_lt x)
theorem rowD_map (x : α) : rowD x = ((List.range (d (α := α))).map fun j => dg j x).map fun i => .int (i : Nat) := by
  rw [List.map_map]
  rfl
theorem m_dval_row (k : Bool) (x : α) (w : Wd) : m_digits_value [.int (p (α := α) : Nat), sq k (rowD x)] w = some (eI x, w) := by
  have := m_dval (p (α := α)) (by have := p_le (α := α); omega) k ((List.range (d (α := α))).map fun j => dg j x) w
  rw [← rowD_map, dval_dg] at this
  exact this
@[simp] theorem m_thing_of (x : α) (w : Wd) : m_F_thing_of [fobj α, .tup (rowD x)] w = some (eI x, w) := by
  have := m_dval_row false x w
  simp at this
  simp [m_F_thing_of, f_F_thing_of, this]

/-! ### trimming -/
theorem eL_at (l : List α) (m : Nat) (h : m < l.length) : L2.atI (eL l) (m : Int) = some (eI ((l[m]?).getD 0)) := by
  rw [atI_nat, eL_get, List.getElem?_eq_getElem h]
  rfl
theorem loop_l_trim (k : Bool) (l : List α) (w : Wd) : ∀ (m F : Nat), m ≤ l.length → m < F → whileLoop t_l_trim_1 b_l_trim_1 F [.val (sq k (eL l)), .val (.int (m : Nat))] w = some (.nx [.val (sq k (eL l)), .val (.int (tlen l m : Nat))], w)
  | 0, F, h1, h2 => by
    obtain ⟨F, rfl⟩ : ∃ G, F = G + 1 := ⟨F - 1, by omega⟩
    rw [wl_succ]
    simp [t_l_trim_1, tlen]
  | m + 1, F, h1, h2 => by
    obtain ⟨F, rfl⟩ : ∃ G, F = G + 1 := ⟨F - 1, by omega⟩
    have ih := loop_l_trim k l w m F (by omega) (by omega)
    have e1 : ((m + 1 : Nat) : Int) - 1 = (m : Int) := by omega
    have at_ := eL_at l m (by omega)
    have ht : t_l_trim_1 [.val (sq k (eL l)), .val (.int ((m + 1 : Nat) : Int))] w = some (decide ((l[m]?).getD 0 = 0), w) := by
      generalize hi : ((m + 1 : Nat) : Int) = i at e1
      have hpos : 0 < i := by omega
      simp [t_l_trim_1, hpos, e1, at_]
    have hb : b_l_trim_1 [.val (sq k (eL l)), .val (.int ((m + 1 : Nat) : Int))] w = some (.nx [.val (sq k (eL l)), .val (.int (m : Nat))], w) := by
      generalize hi : ((m + 1 : Nat) : Int) = i at e1
      simp [b_l_trim_1, e1]
    rw [wl_succ, ht]
    show (if decide ((l[m]?).getD 0 = 0) = true then _ else _) = _
    by_cases z : (l[m]?).getD 0 = 0
    · rw [if_pos (decide_eq_true z), hb, show tlen l (m + 1) = tlen l m from if_pos z]
      exact ih
    · rw [if_neg (by rw [decide_eq_true_iff]; exact z), show tlen l (m + 1) = m + 1 from if_neg z]
theorem loop_trimmed (k : Bool) (l : List α) (w : Wd) : ∀ (m F : Nat), m ≤ l.length → m < F → whileLoop t_trimmed_1 b_trimmed_1 F [.val (sq k (eL l)), .val (.int (m : Nat))] w = some (.nx [.val (sq k (eL l)), .val (.int (tlen l m : Nat))], w)
  | 0, F, h1, h2 => by
    obtain ⟨F, rfl⟩ : ∃ G, F = G + 1 := ⟨F - 1, by omega⟩
    rw [wl_succ]
    simp [t_trimmed_1, tlen]
  | m + 1, F, h1, h2 => by
    obtain ⟨F, rfl⟩ : ∃ G, F = G + 1 := ⟨F - 1, by omega⟩
    have ih := loop_trimmed k l w m F (by omega) (by omega)
    have e1 : ((m + 1 : Nat) : Int) - 1 = (m : Int) := by omega
    have at_ := eL_at l m (by omega)
    have ht : t_trimmed_1 [.val (sq k (eL l)), .val (.int ((m + 1 : Nat) : Int))] w = some (decide ((l[m]?).getD 0 = 0), w) := by
      generalize hi : ((m + 1 : Nat) : Int) = i at e1
      have hpos : 0 < i := by omega
      simp [t_trimmed_1, hpos, e1, at_]
    have hb : b_trimmed_1 [.val (sq k (eL l)), .val (.int ((m + 1 : Nat) : Int))] w = some (.nx [.val (sq k (eL l)), .val (.int (m : Nat))], w) := by
      generalize hi : ((m + 1 : Nat) : Int) = i at e1
      simp [b_trimmed_1, e1]
    rw [wl_succ, ht]
    show (if decide ((l[m]?).getD 0 = 0) = true then _ else _) = _
    by_cases z : (l[m]?).getD 0 = 0
    · rw [if_pos (decide_eq_true z), hb, show tlen l (m + 1) = tlen l m from if_pos z]
      exact ih
    · rw [if_neg (by rw [decide_eq_true_iff]; exact z), show tlen l (m + 1) = m + 1 from if_neg z]
theorem cut_upto (xs : List D) (m : Nat) (h : m ≤ xs.length) : cutD xs none (some (m : Int)) = xs.take m := by
  unfold cutD
  rw [HT.sIx_none, HT.sIx_nat, List.drop_zero, Nat.sub_zero, Nat.min_eq_left h]
theorem cut_from (xs : List D) (m : Nat) (h : m ≤ xs.length) : cutD xs (some (m : Int)) none = xs.drop m := by
  unfold cutD
  rw [HT.sIx_none, HT.sIx_nat, Nat.min_eq_left h]
  exact List.take_of_length_le (by rw [List.length_drop]; omega)
noncomputable def P (f : Po α) : D := .tup (eL (lst f))
theorem m_ltrim (k : Bool) (l : List α) (hl : l.length < 150) (w : Wd) : m_l_trim [sq k (eL l)] w = some (P (toPo l), w) := by
  have h := loop_l_trim k l w l.length 200 (Nat.le_refl _) (by omega)
  have hc : cutD (eL l) none (some ((tlen l l.length : Nat) : Int)) = eL (trim l) := by
    rw [cut_upto _ _ (by rw [eL_len]; exact tlen_le l _), eL_take]
    rfl
  rw [trim_lst] at hc
  simp [m_l_trim, f_l_trim, h, hc, P]
theorem m_trim (k : Bool) (l : List α) (hl : l.length < 150) (w : Wd) : m_trimmed [sq k (eL l)] w = some (P (toPo l), w) := by
  have h := loop_trimmed k l w l.length 200 (Nat.le_refl _) (by omega)
  have hc : cutD (eL l) none (some ((tlen l l.length : Nat) : Int)) = eL (trim l) := by
    rw [cut_upto _ _ (by rw [eL_len]; exact tlen_le l _), eL_take]
    rfl
  rw [trim_lst] at hc
  simp [m_trimmed, f_trimmed, h, hc, P]
end
end K39
end
section
set_option maxRecDepth 100000
set_option autoImplicit false
/-! Q3: values, sums, products of polys -/
namespace K39
open Lean.Grind FF FD FX
theorem seq_to {f1 f2 : FS} {ρ ρ1 : En} {w w1 : Wd} {r : Option (Out × Wd)} (h1 : f1 ρ w = some (.nx ρ1, w1)) (h2 : f2 ρ1 w1 = r) : fSeq f1 f2 ρ w = r := by
  rw [r_fSeq, h1]
  exact h2
theorem seq_w {f1 f2 : FS} {ρ : En} {w : Wd} {r : Option (Out × Wd)} (ρ1 : En) (h1 : f1 ρ w = some (.nx ρ1, w)) (h2 : f2 ρ1 w = r) : fSeq f1 f2 ρ w = r := seq_to h1 h2
theorem fn_rt {N : Nat} {f : FS} {ds : List D} {w w' : Wd} {d : D} (h : f (ds.map .val ++ List.replicate (N - ds.length) .no) w = some (.rt d, w')) : fnD N f ds w = some (d, w') := by
  rw [r_fnD, r_startE, h]
theorem rep_nat {x : D} {i : Int} {k : Nat} (h : i = (k : Int)) (hk : k ≤ 1000) : nRep (.lst [x]) (.int i) = some (List.replicate k x) := by
  rw [h, o_rep, if_pos (by omega), Int.toNat_natCast]
section
variable {α : Type} [FX α]
/-! ### values -/
theorem loop_reached (L t : D) (w : Wd) : ∀ (l : List α) (a x : α) (j : Sl), ∃ x' j', forLoop (bnd1 5) b_reached_value_1 (eL l) [.val (fobj α), .val L, .val t, .val (eI a), .val (eI x), j] w = some (.nx [.val (fobj α), .val L, .val t, .val (eI (a + evl l x)), x', j'], w)
  | [], a, x, j => by
    rw [show a + evl [] x = a by show a + 0 = a; grind]
    exact ⟨_, j, rfl⟩
  | c :: l, a, x, j => by
    obtain ⟨x', j', ih⟩ := loop_reached L t w l (a + c * x) (sg x) (.val (eI c))
    refine ⟨x', j', ?_⟩
    have hb : b_reached_value_1 (bnd1 5 (eI c) [.val (fobj α), .val L, .val t, .val (eI a), .val (eI x), j]) w = some (.nx [.val (fobj α), .val L, .val t, .val (eI (a + c * x)), .val (eI (sg x)), .val (eI c)], w) := by
      simp [b_reached_value_1, m_stepped1]
    show forLoop (bnd1 5) b_reached_value_1 (eI c :: eL l) _ w = _
    rw [fl_cons, hb, show a + evl (c :: l) x = a + c * x + evl l (sg x) by show a + (c * x + evl l (sg x)) = _; grind]
    exact ih
theorem m_reached (k : Bool) (l : List α) (x : α) (w : Wd) : m_reached_value [fobj α, sq k (eL l), eI x] w = some (eI ((toPo l).ev x), w) := by
  obtain ⟨x', j', h⟩ := loop_reached (sq k (eL l)) (eI x) w l 0 x .no
  rw [show (0 : α) + evl l x = evl l x by grind, evl_eq, e0'] at h
  refine fn_rt (seq_w [.val (fobj α), .val (sq k (eL l)), .val (eI x), .val (.int 0), .no, .no] (by simp) (seq_w [.val (fobj α), .val (sq k (eL l)), .val (eI x), .val (.int 0), .val (eI x), .no] (by simp) (seq_to (by
    rw [r_fFor]
    simp only [r_fItems, r_fVar, List.getElem?_cons_succ, List.getElem?_cons_zero, Option.bind_some, sq_items, Option.map_some]
    exact h) (by simp))))
theorem loop_lvalue (L : D) (w : Wd) : ∀ (l : List α) (a x : α) (j : Sl), ∃ x' j', forLoop (bnd1 4) b_l_value_1 (eL l) [.val (wobj α), .val L, .val (eI x), .val (eI a), j] w = some (.nx [.val (wobj α), .val L, x', .val (eI (a + evl l x)), j'], w)
  | [], a, x, j => by
    rw [show a + evl [] x = a by show a + 0 = a; grind]
    exact ⟨_, j, rfl⟩
  | c :: l, a, x, j => by
    obtain ⟨x', j', ih⟩ := loop_lvalue L w l (a + c * x) (sg x) (.val (eI c))
    refine ⟨x', j', ?_⟩
    have hb : b_l_value_1 (bnd1 4 (eI c) [.val (wobj α), .val L, .val (eI x), .val (eI a), j]) w = some (.nx [.val (wobj α), .val L, .val (eI (sg x)), .val (eI (a + c * x)), .val (eI c)], w) := by
      simp [b_l_value_1]
    show forLoop (bnd1 4) b_l_value_1 (eI c :: eL l) _ w = _
    rw [fl_cons, hb, show a + evl (c :: l) x = a + c * x + evl l (sg x) by show a + (c * x + evl l (sg x)) = _; grind]
    exact ih
theorem m_lvalue (k : Bool) (l : List α) (x : α) (w : Wd) : m_l_value [wobj α, sq k (eL l), eI x] w = some (eI ((toPo l).ev x), w) := by
  obtain ⟨x', j', h⟩ := loop_lvalue (sq k (eL l)) w l 0 x .no
  rw [show (0 : α) + evl l x = evl l x by grind, evl_eq, e0'] at h
  refine fn_rt (seq_w [.val (wobj α), .val (sq k (eL l)), .val (eI x), .val (.int 0), .no] (by simp) (seq_to (by
    rw [r_fFor]
    simp only [r_fItems, r_fVar, List.getElem?_cons_succ, List.getElem?_cons_zero, Option.bind_some, sq_items, Option.map_some]
    exact h) (by simp)))

/-! ### sums -/
theorem pad_at (l : List α) (m i : Nat) (hi : i < m) : (eL l ++ List.replicate (m - l.length) (.int 0))[i]? = some (eI ((l[i]?).getD 0)) := by
  rcases Nat.lt_or_ge i l.length with q | q
  · rw [List.getElem?_append_left (by rw [eL_len]; exact q), eL_get, List.getElem?_eq_getElem q]
    rfl
  · rw [List.getElem?_append_right (by rw [eL_len]; exact q), List.getElem?_replicate, eL_len, if_pos (by omega), List.getElem?_eq_none_iff.mpr q]
    exact congrArg some e0'.symm
theorem toPo_map (m : Nat) (g : Nat → α) (f : Po α) (h : ∀ k, k < m → g k = f.co k) (hs : Sup m f.co) : toPo ((List.range m).map g) = f := Po.ext fun k => by
  rw [co_toPo, List.getElem?_map]
  rcases Nat.lt_or_ge k m with q | q
  · rw [List.getElem?_range q]
    exact h k q
  · rw [List.getElem?_eq_none_iff.mpr (by rw [List.length_range]; exact q), hs k q]
    rfl
theorem m_ladded (k1 k2 : Bool) (a b : List α) (ha : a.length < 150) (hb : b.length < 150) (w : Wd) : m_l_added [wobj α, sq k1 (eL a), sq k2 (eL b)] w = some (P (toPo a + toPo b), w) := by
  generalize hm : max a.length b.length = m
  have hm1 : a.length ≤ m := by omega
  have hm2 : b.length ≤ m := by omega
  have r1 : nRep (.lst [.int 0]) (.int ((m : Int) - (a.length : Int))) = some (List.replicate (m - a.length) (.int 0)) := rep_nat (by omega) (by omega)
  have r2 : nRep (.lst [.int 0]) (.int ((m : Int) - (b.length : Int))) = some (List.replicate (m - b.length) (.int 0)) := rep_nat (by omega) (by omega)
  have l1 : a.length + (m - a.length) = m := by omega
  have l2 : b.length + (m - b.length) = m := by omega
  have hr : rng [.int (m : Nat)] = some ((List.range m).map fun (i : Nat) => D.int (i : Int)) := by
    rw [o_rng1, if_pos (big_nat (by omega)), Int.toNat_natCast, rangeD_nat]
  have hc : m ≤ 100000 := by omega
  generalize hA : eL a ++ List.replicate (m - a.length) (D.int 0) = A
  generalize hB : eL b ++ List.replicate (m - b.length) (D.int 0) = B
  refine fn_rt (seq_w [.val (wobj α), .val (sq k1 (eL a)), .val (sq k2 (eL b)), .val (.int (m : Nat)), .no, .no, .no] ?_ (seq_w [.val (wobj α), .val (sq k1 (eL a)), .val (sq k2 (eL b)), .val (.int (m : Nat)), .val (.lst A), .no, .no] ?_
    (seq_w [.val (wobj α), .val (sq k1 (eL a)), .val (sq k2 (eL b)), .val (.int (m : Nat)), .val (.lst A), .val (.lst B), .no] ?_ ?_)))
  · simp
    split <;> omega
  · simp [r1, l1, hc, hA, -o_rep]
  · simp [r2, l2, hc, hB, -o_rep]
  · have lc := lc_map (ρ := [.val (wobj α), .val (sq k1 (eL a)), .val (sq k2 (eL b)), .val (.int (m : Nat)), .val (.lst A), .val (.lst B), .no]) (w := w) (bnd := bnd1 6) (fe := fOp dIx (fOp dIx (fOp dIx (fVarB 0) (fC (.int 3))) (fOp dIx (fVarB 4) (fVarB 6))) (fOp dIx (fVarB 5) (fVarB 6))) (fun (i : Nat) => D.int (i : Int)) (fun i => eI ((toPo a).co i + (toPo b).co i)) (List.range m) (fun i hi => by
      have hi := List.mem_range.mp hi
      have q1 := pad_at a m i hi
      have q2 := pad_at b m i hi
      rw [hA, ← atI_nat] at q1
      rw [hB, ← atI_nat] at q2
      simp [q1, q2, co_toPo])
    have e : (List.range m).map (fun i => eI ((toPo a).co i + (toPo b).co i)) = eL ((List.range m).map fun i => (toPo a).co i + (toPo b).co i) := by
      unfold eL
      rw [List.map_map]
      rfl
    rw [e] at lc
    have t := m_ltrim true ((List.range m).map fun i => (toPo a).co i + (toPo b).co i) (by rw [List.length_map, List.length_range]; omega) w
    rw [toPo_map m _ (toPo a + toPo b) (fun k _ => (co_add _ _ k).symm) (fun k hk => by
      rw [co_add, toPo_sup a k (by omega), toPo_sup b k (by omega)]
      grind), sq_t] at t
    simp [hr, hc, lc, t, -o_rng1]
end
end K39
end
section
set_option maxRecDepth 100000
set_option autoImplicit false
/-! Q4: sums, products of polys -/
namespace K39
open Lean.Grind FF FD FX
section
variable {α : Type} [FX α]
theorem enum_eL (l : List α) : enumD 0 (eL l) = (List.range l.length).map fun (i : Nat) => (D.int (i : Int), eI ((toPo l).co i)) := by
  refine List.ext_getElem? fun k => ?_
  rw [enumD_get, List.getElem?_map, eL_get]
  rcases Nat.lt_or_ge k l.length with q | q
  · have c : (toPo l).co k = l[k] := by
      rw [co_toPo, List.getElem?_eq_getElem q]
      rfl
    rw [List.getElem?_range q, List.getElem?_eq_getElem q, Nat.zero_add]
    show some (D.int (k : Int), eI l[k]) = some (D.int (k : Int), eI ((toPo l).co k))
    rw [c]
  · rw [List.getElem?_eq_none_iff.mpr (show (List.range l.length).length ≤ k by rw [List.length_range]; exact q), List.getElem?_eq_none_iff.mpr q]
    rfl
theorem toPo_join (l r : List α) (h : l.length ≤ r.length) : toPo ((List.range l.length).map (fun i => (toPo l).co i + (toPo r).co i) ++ r.drop l.length) = toPo l + toPo r := Po.ext fun k => by
  rw [co_toPo, co_add]
  rcases Nat.lt_or_ge k l.length with q | q
  · rw [List.getElem?_append_left (by rw [List.length_map, List.length_range]; exact q), List.getElem?_map, List.getElem?_range q]
    rfl
  · rw [List.getElem?_append_right (by rw [List.length_map, List.length_range]; exact q), List.length_map, List.length_range, List.getElem?_drop, show l.length + (k - l.length) = k by omega, toPo_sup l k q, co_toPo]
    grind
theorem m_added (k1 k2 : Bool) (a b : List α) (ha : a.length < 100) (hb : b.length < 100) (w : Wd) : m_added_terms [fobj α, sq k1 (eL a), sq k2 (eL b)] w = some (P (toPo a + toPo b), w) := by
  have main : ∀ (k k' : Bool) (l r : List α) (X Y : Sl), l.length ≤ r.length → l.length < 100 → r.length < 100 → (fSeq (fAsg 5 (asE (fLc [6, 7] (bnd2 6 7) (fEnum (fVarB 3)) ftYes (fMeth m_F_plus 3 (fVar 0) (fCons (fVar 7) (fCons (fOp dIx (fVarB 4) (fVarB 6)) fNil))))))
      (fRet (fCall m_trimmed [] 1 (fCons (fOp dAdd (fVarB 5) (asE (fOpN1 nList (fSl (fVarB 4) (fPart (fOp1 dLen (fVarB 3))) fNo)))) fNil)))) [.val (fobj α), X, Y, .val (sq k (eL l)), .val (sq k' (eL r)), .no, .no, .no] w = some (.rt (P (toPo l + toPo r)), w) := by
    intro k k' l r X Y hlr h1 h2
    generalize hT : (List.range l.length).map (fun i => (toPo l).co i + (toPo r).co i) = T
    have hTl : T.length = l.length := by rw [← hT, List.length_map, List.length_range]
    have lc := lc_map (ρ := [.val (fobj α), X, Y, .val (sq k (eL l)), .val (sq k' (eL r)), .no, .no, .no]) (w := w) (bnd := bnd2 6 7) (fe := fMeth m_F_plus 3 (fVar 0) (fCons (fVar 7) (fCons (fOp dIx (fVarB 4) (fVarB 6)) fNil))) (fun (i : Nat) => (D.int (i : Int), eI ((toPo l).co i))) (fun i => eI ((toPo l).co i + (toPo r).co i)) (List.range l.length) (fun i hi => by
      have hi := List.mem_range.mp hi
      have q := eL_at r i (by omega)
      simp [q, co_toPo])
    have e : (List.range l.length).map (fun i => eI ((toPo l).co i + (toPo r).co i)) = eL T := by
      rw [← hT]
      unfold eL
      rw [List.map_map]
      rfl
    rw [e, ← enum_eL] at lc
    have c1 : (enumD 0 (eL l)).length ≤ 100000 := by rw [enumD_len, eL_len]; omega
    have c2 : cutD (eL r) (some (l.length : Int)) none = eL (r.drop l.length) := by rw [cut_from _ _ (by rw [eL_len]; exact hlr), eL_drop]
    have c3 : (eL T).length + (eL (r.drop l.length)).length ≤ 100000 := by rw [eL_len, eL_len, hTl, List.length_drop]; omega
    have t := m_trim true (T ++ r.drop l.length) (by rw [List.length_append, hTl, List.length_drop]; omega) w
    rw [← hT, toPo_join l r hlr, hT, sq_t, eL_app] at t
    refine seq_w [.val (fobj α), X, Y, .val (sq k (eL l)), .val (sq k' (eL r)), .val (.lst (eL T)), .no, .no] ?_ ?_
    · simp [c1, lc]
    · have c4 : T.length + (r.length - l.length) ≤ 100000 := by omega
      simp [c2, c4, t]
  by_cases h : a.length ≤ b.length
  · refine fn_rt (seq_w [.val (fobj α), .val (sq k1 (eL a)), .val (sq k2 (eL b)), .val (sq k1 (eL a)), .val (sq k2 (eL b)), .no, .no, .no] ?_ (main k1 k2 a b _ _ h ha hb))
    simp [h]
  · rw [show toPo a + toPo b = toPo b + toPo a by grind]
    refine fn_rt (seq_w [.val (fobj α), .val (sq k1 (eL a)), .val (sq k2 (eL b)), .val (sq k2 (eL b)), .val (sq k1 (eL a)), .no, .no, .no] ?_ (main k2 k1 b a _ _ (by omega) hb ha))
    simp [h]
theorem toPo_map1 (l : List α) (g : α → α) (h0 : g 0 = 0) (k : Nat) : (toPo (l.map g)).co k = g ((toPo l).co k) := by
  rw [co_toPo, co_toPo, List.getElem?_map]
  cases l[k]? with
  | none => exact h0.symm
  | some a => rfl
/-- a comprehension over the members of a list of things -/
theorem lc_eL {ρ : En} {w : Wd} {bnd : D → En → En} {fe : FE} (g : α → α) (l : List α) (h : ∀ b, b ∈ l → fe (bnd (eI b) ρ) w = some (eI (g b), w)) : lcLoop bnd ftYes fe (eL l) ρ w = some (eL (l.map g), w) := by
  have := lc_map (ρ := ρ) (w := w) (bnd := bnd) (fe := fe) eI (fun a => eI (g a)) l h
  rw [show l.map (fun a => eI (g a)) = eL (l.map g) by unfold eL; rw [List.map_map]; rfl] at this
  exact this
theorem m_taken (k1 k2 : Bool) (a b : List α) (ha : a.length < 100) (hb : b.length < 100) (w : Wd) : m_taken_terms [fobj α, sq k1 (eL a), sq k2 (eL b)] w = some (P (toPo a - toPo b), w) := by
  have lc := lc_eL (ρ := [.val (fobj α), .val (sq k1 (eL a)), .val (sq k2 (eL b)), .no]) (w := w) (bnd := bnd1 3) (fe := fMeth m_F_negative 2 (fVar 0) (fCons (fVar 3) fNil)) (fun x : α => -x) b (fun x _ => by simp)
  have t := m_added k1 true a (b.map fun x => -x) ha (by rw [List.length_map]; exact hb) w
  have e : toPo a + toPo (b.map fun x => -x) = toPo a - toPo b := Po.ext fun k => by
    rw [co_add, co_sub, toPo_map1 b (fun x => -x) (by grind)]
    grind
  rw [e, sq_t] at t
  have c : b.length ≤ 100000 := by omega
  refine fn_rt ?_
  simp [f_taken_terms, c, lc, t]
theorem m_scaled (c : α) (k : Bool) (a : List α) (ha : a.length < 100) (w : Wd) : m_scaled_terms [fobj α, eI c, sq k (eL a)] w = some (P (mono c 0 * toPo a), w) := by
  have lc := lc_eL (ρ := [.val (fobj α), .val (eI c), .val (sq k (eL a)), .no]) (w := w) (bnd := bnd1 3) (fe := fMeth m_F_times 3 (fVar 0) (fCons (fVar 1) (fCons (fVar 3) fNil))) (fun x : α => c * x) a (fun x _ => by simp)
  have t := m_trim true (a.map fun x => c * x) (by rw [List.length_map]; omega) w
  have e : toPo (a.map fun x => c * x) = mono c 0 * toPo a := Po.ext fun k => by
    rw [toPo_map1 a (fun x => c * x) (by grind), co_mul]
    have e2 : (mono c 0).co = fun i => c * (1 : Po α).co i := funext fun i => by
      rw [co_mono, co_one]
      split <;> grind
    rw [e2, mulK_cl, ← co_mul, show (1 : Po α) * toPo a = toPo a by grind]
  rw [e, sq_t] at t
  have c : a.length ≤ 100000 := by omega
  refine fn_rt ?_
  simp [f_scaled_terms, c, lc, t]

/-! ### products -/
theorem ixN_nat {n i : Nat} (h : i < n) : L2.ixN n (i : Int) = some i := by
  unfold L2.ixN
  rw [if_pos (by omega), if_pos (by omega), Int.toNat_natCast]
theorem eL_set (l : List α) (i : Nat) (x : α) : (eL l).set i (eI x) = eL (l.set i x) := (List.map_set ..).symm
theorem loop_nested1 (X Y : Sl) (N : Sl) (h : Nat) (c : α) (w : Wd) : ∀ (l : List α) (i : Nat) (T : List α) (j1 j2 : Sl), h + i + l.length ≤ T.length → ∃ T' j1' j2', forLoop (bnd2 7 8) b_nested_terms_1 (enumD i (eL l)) [.val (fobj α), X, Y, .own (eL T), N, .val (.int (h : Nat)), .val (eI c), j1, j2] w = some (.nx [.val (fobj α), X, Y, .own (eL T'), N, .val (.int (h : Nat)), .val (eI c), j1', j2'], w) ∧
    T'.length = T.length ∧ ∀ k, (toPo T').co k = (toPo T).co k + (if h + i ≤ k then c * (toPo l).co (k - (h + i)) else 0)
  | [], i, T, j1, j2, _ => ⟨T, j1, j2, rfl, rfl, fun k => by
    rw [toPo_nil, co_zero]
    split <;> grind⟩
  | a :: l, i, T, j1, j2, hl => by
    have hl' : h + i < T.length := by rw [List.length_cons] at hl; omega
    obtain ⟨T', j1', j2', e1, e2, e3⟩ := loop_nested1 X Y N h c w l (i + 1) (T.set (h + i) ((toPo T).co (h + i) + c * a)) (.val (.int (i : Nat))) (.val (eI a)) (by rw [List.length_set]; rw [List.length_cons] at hl; omega)
    rw [List.length_set] at e2
    refine ⟨T', j1', j2', ?_, e2, fun k => ?_⟩
    · have q := eL_at T (h + i) hl'
      have q2 : L2.ixN (eL T).length ((h + i : Nat) : Int) = some (h + i) := ixN_nat (by rw [eL_len]; exact hl')
      have q3 := eL_set T (h + i) ((toPo T).co (h + i) + c * a)
      have hb : b_nested_terms_1 (bnd2 7 8 (.int (i : Nat), eI a) [.val (fobj α), X, Y, .own (eL T), N, .val (.int (h : Nat)), .val (eI c), j1, j2]) w = some (.nx [.val (fobj α), X, Y, .own (eL (T.set (h + i) ((toPo T).co (h + i) + c * a))), N, .val (.int (h : Nat)), .val (eI c), .val (.int (i : Nat)), .val (eI a)], w) := by
        rw [co_toPo] at q3 ⊢
        rw [Int.natCast_add] at q q2
        rw [eL_len] at q2
        simp [b_nested_terms_1, q, q2, q3]
      show forLoop (bnd2 7 8) b_nested_terms_1 ((.int (i : Nat), eI a) :: enumD (i + 1) (eL l)) _ w = _
      rw [fl_cons, hb]
      exact e1
    · rw [e3 k, co_toPo, List.getElem?_set]
      by_cases z : h + i = k
      · subst z
        rw [if_pos rfl, if_pos hl', if_neg (by omega), if_pos (Nat.le_refl _), Nat.sub_self]
        show (toPo T).co (h + i) + c * a + 0 = (toPo T).co (h + i) + c * a
        grind
      · rw [if_neg z, ← co_toPo]
        by_cases y : h + i ≤ k
        · rw [if_pos (by omega), if_pos y, show k - (h + i) = (k - (h + (i + 1))) + 1 by omega]
          rfl
        · rw [if_neg (by omega), if_neg y]
theorem loop_nested2 (X Y : Sl) (w : Wd) : ∀ (os now : List α) (h : Nat) (T : List α) (j1 j2 j3 j4 : Sl), now.length < 200 → h + os.length + now.length ≤ T.length + 1 → ∃ T' N' j1' j2' j3' j4', forLoop (bnd2 5 6) b_nested_terms_2 (enumD h (eL os)) [.val (fobj α), X, Y, .own (eL T), .val (.lst (eL now)), j1, j2, j3, j4] w = some (.nx [.val (fobj α), X, Y, .own (eL T'), N', j1', j2', j3', j4'], w) ∧
    T'.length = T.length ∧ ∀ k, (toPo T').co k = (toPo T).co k + (if h ≤ k then mulK (k - h) (toPo os).co (toPo now).co else 0)
  | [], now, h, T, j1, j2, j3, j4, _, _ => ⟨T, _, j1, j2, j3, j4, rfl, rfl, fun k => by
    have e : (toPo ([] : List α)).co = fun _ => 0 := funext fun i => by rw [toPo_nil, co_zero]
    rw [e, mulK_zl]
    split <;> grind⟩
  | c :: os, now, h, T, j1, j2, j3, j4, h1, h2 => by
    rw [List.length_cons] at h2
    obtain ⟨T1, a1, a2, e1, e2, e3⟩ := loop_nested1 X Y (.val (.lst (eL now))) h c w now 0 T j3 j4 (by omega)
    obtain ⟨T', N', b1, b2, b3, b4, f1, f2, f3⟩ := loop_nested2 X Y w os (now.map sg) (h + 1) T1 (.val (.int (h : Nat))) (.val (eI c)) a1 a2 (by rw [List.length_map]; exact h1) (by rw [List.length_map]; omega)
    refine ⟨T', N', b1, b2, b3, b4, ?_, f2.trans e2, fun k => ?_⟩
    · have lc := lc_eL (ρ := [.val (fobj α), X, Y, .own (eL T1), .val (.lst (eL now)), .val (.int (h : Nat)), .val (eI c), a1, .no]) (w := w) (bnd := bnd1 8) (fe := fMeth m_F_stepped 3 (fVar 0) (fCons (fVar 8) (fCons (fC (.int 1)) fNil))) sg now (fun x _ => by simp [m_stepped1])
      have hc : now.length ≤ 100000 := by omega
      have hb : b_nested_terms_2 (bnd2 5 6 (.int (h : Nat), eI c) [.val (fobj α), X, Y, .own (eL T), .val (.lst (eL now)), j1, j2, j3, j4]) w = some (.nx [.val (fobj α), X, Y, .own (eL T1), .val (.lst (eL (now.map sg))), .val (.int (h : Nat)), .val (eI c), a1, a2], w) := by
        refine seq_w [.val (fobj α), X, Y, .own (eL T1), .val (.lst (eL now)), .val (.int (h : Nat)), .val (eI c), a1, a2] ?_ ?_
        · simp [e1]
        · simp [hc, lc]
      show forLoop (bnd2 5 6) b_nested_terms_2 ((.int (h : Nat), eI c) :: enumD (h + 1) (eL os)) _ w = _
      rw [fl_cons, hb]
      exact f1
    · have es : (toPo (now.map sg)).co = fun i => sg ((toPo now).co i) := funext fun i => toPo_map1 now sg sg_zero i
      rw [f3 k, e3 k, es]
      rw [Nat.add_zero]
      rcases Nat.lt_trichotomy k h with q | q | q
      · rw [if_neg (by omega), if_neg (by omega), if_neg (by omega)]
        grind
      · subst q
        rw [if_pos (Nat.le_refl _), if_neg (by omega), if_pos (Nat.le_refl _), Nat.sub_self]
        show _ + c * (toPo now).co 0 + 0 = _ + c * (toPo now).co 0
        grind
      · rw [if_pos (by omega), if_pos (by omega), if_pos (by omega), show k - h = (k - (h + 1)) + 1 by omega]
        show _ + c * (toPo now).co (k - (h + 1) + 1) + mulK (k - (h + 1)) (toPo os).co _ = _ + (c * (toPo now).co (k - (h + 1) + 1) + mulK (k - (h + 1)) (toPo os).co _)
        grind
theorem m_nested (k1 k2 : Bool) (a b : List α) (ha : a.length < 70) (hb : b.length < 70) (w : Wd) : m_nested_terms [fobj α, sq k1 (eL a), sq k2 (eL b)] w = some (P (toPo a * toPo b), w) := by
  by_cases z : a.length = 0 ∨ b.length = 0
  · have e : P (toPo a * toPo b) = .tup [] := by
      have : toPo a * toPo b = 0 := by
        rcases z with z | z <;> rw [List.length_eq_zero_iff.mp z, toPo_nil] <;> grind
      rw [this]
      unfold P
      rw [lst_0]
      rfl
    rw [e]
    refine fn_rt ?_
    show fSeq _ _ _ _ = _
    rw [r_fSeq]
    rcases z with z | z
    · simp [z]
    · by_cases z2 : a.length = 0
      · simp [z2]
      · have z3 : ¬ a = [] := fun y => z2 (by rw [y]; rfl)
        simp [z, z3]
  · have za : a.length ≠ 0 := fun y => z (.inl y)
    have zb : b.length ≠ 0 := fun y => z (.inr y)
    have na : a ≠ [] := fun y => za (by rw [y]; rfl)
    have nb : b ≠ [] := fun y => zb (by rw [y]; rfl)
    generalize hN : a.length + b.length - 1 = N
    have r1 : nRep (.lst [.int 0]) (.int ((a.length : Int) + (b.length : Int) - 1)) = some (List.replicate N (.int 0)) := rep_nat (by omega) (by omega)
    have eT : List.replicate N (D.int 0) = eL (List.replicate N (0 : α)) := by
      unfold eL
      rw [List.map_replicate, e0']
    rw [eT] at r1
    obtain ⟨T', N', b1, b2, b3, b4, f1, f2, f3⟩ := loop_nested2 (.val (sq k1 (eL a))) (.val (sq k2 (eL b))) w a b 0 (List.replicate N (0 : α)) .no .no .no .no (by omega) (by rw [List.length_replicate]; omega)
    have t := m_trim true T' (by rw [f2, List.length_replicate]; omega) w
    have e : toPo T' = toPo a * toPo b := Po.ext fun k => by
      rw [f3 k, if_pos (Nat.zero_le _), Nat.sub_zero, ← co_mul, co_toPo, List.getElem?_replicate]
      split
      · show (0 : α) + _ = _; grind
      · show (0 : α) + _ = _; grind
    rw [e, sq_t] at t
    refine fn_rt (seq_w [.val (fobj α), .val (sq k1 (eL a)), .val (sq k2 (eL b)), .no, .no, .no, .no, .no, .no] ?_ (seq_w [.val (fobj α), .val (sq k1 (eL a)), .val (sq k2 (eL b)), .own (eL (List.replicate N (0 : α))), .no, .no, .no, .no, .no] ?_ (seq_w [.val (fobj α), .val (sq k1 (eL a)), .val (sq k2 (eL b)), .own (eL (List.replicate N (0 : α))), .val (.lst (eL b)), .no, .no, .no, .no] ?_ (seq_w [.val (fobj α), .val (sq k1 (eL a)), .val (sq k2 (eL b)), .own (eL T'), N', b1, b2, b3, b4] ?_ ?_))))
    · simp [na, nb]
    · simp [r1, -o_rep]
    · simp
    · simp [f1]
    · simp [t]
end
end K39
end
section
set_option maxRecDepth 100000
set_option autoImplicit false
/-! Q5: the law's product; the checks -/
namespace K39
open Lean.Grind FF FD FX
section
variable {α : Type} [FX α]
theorem P_sq (f : Po α) : P f = sq false (eL (lst f)) := rfl
theorem loop_lput (X Y : D) (w : Wd) : ∀ (os now : List α) (h : Nat) (F : Po α) (j1 j2 j3 : Sl), h + os.length + now.length < 140 → Sup (h + now.length) F.co → ∃ G N' j1' j2' j3', forLoop (bnd2 5 6) b_l_put_1 (enumD h (eL os)) [.val (wobj α), .val X, .val Y, .val (P F), .val (.lst (eL now)), j1, j2, j3] w = some (.nx [.val (wobj α), .val X, .val Y, .val (P G), N', j1', j2', j3'], w) ∧
    ∀ k, G.co k = F.co k + (if h ≤ k then mulK (k - h) (toPo os).co (toPo now).co else 0)
  | [], now, h, F, j1, j2, j3, _, _ => ⟨F, _, j1, j2, j3, rfl, fun k => by
    have e : (toPo ([] : List α)).co = fun _ => 0 := funext fun i => by rw [toPo_nil, co_zero]
    rw [e, mulK_zl]
    split <;> grind⟩
  | c :: os, now, h, F, j1, j2, j3, h1, hs => by
    rw [List.length_cons] at h1
    generalize hg : F + toPo (List.replicate h 0 ++ now.map fun x => c * x) = F'
    have co' : ∀ k, F'.co k = F.co k + (if h ≤ k then c * (toPo now).co (k - h) else 0) := fun k => by
      rw [← hg, co_add, co_toPo]
      rcases Nat.lt_or_ge k h with q | q
      · rw [List.getElem?_append_left (by rw [List.length_replicate]; exact q), List.getElem?_replicate, if_pos q, if_neg (by omega)]
        rfl
      · rw [List.getElem?_append_right (by rw [List.length_replicate]; exact q), List.length_replicate, if_pos q, ← co_toPo, toPo_map1 now (fun x => c * x) (by grind)]
    have hs' : Sup (h + 1 + (now.map sg).length) F'.co := fun k hk => by
      rw [List.length_map] at hk
      rw [co' k, hs k (by omega), if_pos (by omega), toPo_sup now (k - h) (by omega)]
      grind
    obtain ⟨G, N', b1, b2, b3, f1, f2⟩ := loop_lput X Y w os (now.map sg) (h + 1) F' (.val (.int (h : Nat))) (.val (eI c)) j3 (by rw [List.length_map]; omega) hs'
    refine ⟨G, N', b1, b2, b3, ?_, fun k => ?_⟩
    · have lc1 := lc_eL (ρ := [.val (wobj α), .val X, .val Y, .val (P F), .val (.lst (eL now)), .val (.int (h : Nat)), .val (eI c), .no]) (w := w) (bnd := bnd1 7) (fe := fOp dIx (fOp dIx (fOp dIx (fVarB 0) (fC (.int 4))) (fVarB 6)) (fVarB 7)) (fun x : α => c * x) now (fun x _ => by simp)
      have lc2 := lc_eL (ρ := [.val (wobj α), .val X, .val Y, .val (P F'), .val (.lst (eL now)), .val (.int (h : Nat)), .val (eI c), .no]) (w := w) (bnd := bnd1 7) (fe := fOp dIx (fOp dIx (fVarB 0) (fC (.int 5))) (fVarB 7)) (fun x : α => sg x) now (fun x _ => by simp)
      have hc : now.length ≤ 100000 := by omega
      have r1 : nRep (.lst [.int 0]) (.int (h : Nat)) = some (eL (List.replicate h (0 : α))) := by
        rw [rep_nat rfl (by omega)]
        unfold eL
        rw [List.map_replicate, e0']
      have t := m_ladded false true (lst F) (List.replicate h 0 ++ now.map fun x => c * x) (by have : (lst F).length ≤ h + now.length := len_le hs; omega) (by rw [List.length_append, List.length_replicate, List.length_map]; omega) w
      rw [toPo_lst, hg, ← P_sq, sq_t, eL_app] at t
      have c2 : h + now.length ≤ 100000 := by omega
      have hb : b_l_put_1 (bnd2 5 6 (.int (h : Nat), eI c) [.val (wobj α), .val X, .val Y, .val (P F), .val (.lst (eL now)), j1, j2, j3]) w = some (.nx [.val (wobj α), .val X, .val Y, .val (P F'), .val (.lst (eL (now.map sg))), .val (.int (h : Nat)), .val (eI c), j3], w) := by
        refine seq_w [.val (wobj α), .val X, .val Y, .val (P F'), .val (.lst (eL now)), .val (.int (h : Nat)), .val (eI c), j3] ?_ ?_
        · simp [r1, hc, lc1, c2, t, -o_rep]
        · simp [hc, lc2]
      show forLoop (bnd2 5 6) b_l_put_1 ((.int (h : Nat), eI c) :: enumD (h + 1) (eL os)) _ w = _
      rw [fl_cons, hb]
      exact f1
    · have es : (toPo (now.map sg)).co = fun i => sg ((toPo now).co i) := funext fun i => toPo_map1 now sg sg_zero i
      rw [f2 k, co' k, es]
      rcases Nat.lt_trichotomy k h with q | q | q
      · rw [if_neg (by omega), if_neg (by omega), if_neg (by omega)]
        grind
      · subst q
        rw [if_pos (Nat.le_refl _), if_neg (by omega), if_pos (Nat.le_refl _), Nat.sub_self]
        show _ + c * (toPo now).co 0 + 0 = _ + c * (toPo now).co 0
        grind
      · rw [if_pos (by omega), if_pos (by omega), if_pos (by omega), show k - h = (k - (h + 1)) + 1 by omega]
        show _ + c * (toPo now).co (k - (h + 1) + 1) + mulK (k - (h + 1)) (toPo os).co _ = _ + (c * (toPo now).co (k - (h + 1) + 1) + mulK (k - (h + 1)) (toPo os).co _)
        grind
theorem P_0 : P (0 : Po α) = .tup [] := by
  unfold P
  rw [lst_0]
  rfl
theorem m_lput (k1 k2 : Bool) (a b : List α) (hl : a.length + b.length < 140) (w : Wd) : m_l_put [wobj α, sq k1 (eL a), sq k2 (eL b)] w = some (P (toPo a * toPo b), w) := by
  obtain ⟨G, N', b1, b2, b3, f1, f2⟩ := loop_lput (sq k1 (eL a)) (sq k2 (eL b)) w a b 0 0 .no .no .no (by omega) (fun k _ => co_zero k)
  have e : G = toPo a * toPo b := Po.ext fun k => by
    rw [f2 k, if_pos (Nat.zero_le _), Nat.sub_zero, co_zero, co_mul]
    grind
  rw [e, P_0] at f1
  refine fn_rt (seq_w [.val (wobj α), .val (sq k1 (eL a)), .val (sq k2 (eL b)), .val (.tup []), .no, .no, .no, .no] ?_ (seq_w [.val (wobj α), .val (sq k1 (eL a)), .val (sq k2 (eL b)), .val (.tup []), .val (.lst (eL b)), .no, .no, .no] ?_ (seq_w [.val (wobj α), .val (sq k1 (eL a)), .val (sq k2 (eL b)), .val (P (toPo a * toPo b)), N', b1, b2, b3] ?_ ?_)))
  · simp
  · simp
  · simp [f1]
  · simp
theorem m_lputP (f g : Po α) (hl : len f + len g < 140) (w : Wd) : m_l_put [wobj α, P f, P g] w = some (P (f * g), w) := by
  have := m_lput false false (lst f) (lst g) hl w
  rw [toPo_lst, toPo_lst] at this
  exact this
theorem m_nestedP (f g : Po α) (hf : len f < 70) (hg : len g < 70) (w : Wd) : m_nested_terms [fobj α, P f, P g] w = some (P (f * g), w) := by
  have := m_nested false false (lst f) (lst g) hf hg w
  rw [toPo_lst, toPo_lst] at this
  exact this
theorem m_takenP (f g : Po α) (hf : len f < 100) (hg : len g < 100) (w : Wd) : m_taken_terms [fobj α, P f, P g] w = some (P (f - g), w) := by
  have := m_taken false false (lst f) (lst g) hf hg w
  rw [toPo_lst, toPo_lst] at this
  exact this
theorem m_reachedP (f : Po α) (x : α) (w : Wd) : m_reached_value [fobj α, P f, eI x] w = some (eI (f.ev x), w) := by
  have := m_reached false (lst f) x w
  rw [toPo_lst] at this
  exact this
theorem m_lvalueP (f : Po α) (x : α) (w : Wd) : m_l_value [wobj α, P f, eI x] w = some (eI (f.ev x), w) := by
  have := m_lvalue false (lst f) x w
  rw [toPo_lst] at this
  exact this

/-! ### the checks -/
theorem m_whole (i lo hi : Int) (h1 : lo ≤ i) (h2 : i ≤ hi) (w : Wd) : m_is_whole [.int i, .int lo, .int hi] w = some (.bl true, w) := by
  have h3 : ¬ i < lo := by omega
  refine fn_rt ?_
  simp [f_is_whole, h2, h3]
theorem m_seq (k : Bool) (l : List D) (w : Wd) : m_is_sequence [sq k l] w = some (.bl true, w) := by
  refine fn_rt ?_
  simp [f_is_sequence]
theorem m_checkt (x : α) (i : Int) (w : Wd) : m_check_thing [fobj α, eI x, .int i] w = some (eI x, w) := by
  have h := enc_lt x
  have t := m_whole (enc x : Nat) 0 ((n (α := α) : Int) - 1) (by omega) (by omega) w
  refine fn_rt ?_
  simp [f_check_thing, t]
theorem loop_checkts (X Y : Sl) (w : Wd) : ∀ (l : List α) (i : Nat) (j1 j2 : Sl), ∃ j1' j2', forLoop (bnd2 3 4) b_check_things_1 (enumD i (eL l)) [.val (fobj α), X, Y, j1, j2] w = some (.nx [.val (fobj α), X, Y, j1', j2'], w)
  | [], i, j1, j2 => ⟨j1, j2, rfl⟩
  | a :: l, i, j1, j2 => by
    obtain ⟨j1', j2', ih⟩ := loop_checkts X Y w l (i + 1) (.val (.int (i : Nat))) (.val (eI a))
    refine ⟨j1', j2', ?_⟩
    have hb : b_check_things_1 (bnd2 3 4 (.int (i : Nat), eI a) [.val (fobj α), X, Y, j1, j2]) w = some (.nx [.val (fobj α), X, Y, .val (.int (i : Nat)), .val (eI a)], w) := by
      simp [b_check_things_1, m_checkt]
    show forLoop (bnd2 3 4) b_check_things_1 ((.int (i : Nat), eI a) :: enumD (i + 1) (eL l)) _ w = _
    rw [fl_cons, hb]
    exact ih
theorem m_checkts (k : Bool) (l : List α) (m : Nat) (h : l.length ≤ m) (w : Wd) : m_check_things [fobj α, sq k (eL l), .int (m : Nat)] w = some (.tup (eL l), w) := by
  obtain ⟨j1, j2, f⟩ := loop_checkts (.val (sq k (eL l))) (.val (.int (m : Nat))) w l 0 .no .no
  have h2 : ¬ m < l.length := by omega
  refine fn_rt (seq_w [.val (fobj α), .val (sq k (eL l)), .val (.int (m : Nat)), .no, .no] ?_ (seq_w [.val (fobj α), .val (sq k (eL l)), .val (.int (m : Nat)), j1, j2] ?_ ?_))
  · simp [m_seq, h2]
  · simp [f]
  · simp
theorem loop_checkp (X Y : Sl) (w : Wd) : ∀ (l : List α) (i : Nat) (j1 j2 : Sl), ∃ j1' j2', forLoop (bnd2 3 4) b_check_poly_1 (enumD i (eL l)) [.val (fobj α), X, Y, j1, j2] w = some (.nx [.val (fobj α), X, Y, j1', j2'], w)
  | [], i, j1, j2 => ⟨j1, j2, rfl⟩
  | a :: l, i, j1, j2 => by
    obtain ⟨j1', j2', ih⟩ := loop_checkp X Y w l (i + 1) (.val (.int (i : Nat))) (.val (eI a))
    refine ⟨j1', j2', ?_⟩
    have hb : b_check_poly_1 (bnd2 3 4 (.int (i : Nat), eI a) [.val (fobj α), X, Y, j1, j2]) w = some (.nx [.val (fobj α), X, Y, .val (.int (i : Nat)), .val (eI a)], w) := by
      simp [b_check_poly_1, m_checkt]
    show forLoop (bnd2 3 4) b_check_poly_1 ((.int (i : Nat), eI a) :: enumD (i + 1) (eL l)) _ w = _
    rw [fl_cons, hb]
    exact ih
theorem last_lst {f : Po α} (z : f ≠ 0) : L2.atI (eL (lst f)) (-1) = some (eI (f.co (len f - 1))) := by
  have l := lst_last z
  have nz : lst f ≠ [] := fun y => z (lst_inj (y.trans lst_0.symm))
  have ne : eL (lst f) ≠ [] := fun y => nz (List.map_eq_nil_iff.mp y)
  rw [atI_m1 _ ne, eL_len, eL_get, l.1]
  rfl
theorem m_checkp (k : Bool) (f : Po α) (h : len f ≤ 16) (w : Wd) : m_check_poly [fobj α, sq k (eL (lst f)), .int 16] w = some (P f, w) := by
  obtain ⟨j1, j2, g⟩ := loop_checkp (.val (sq k (eL (lst f)))) (.val (.int 16)) w (lst f) 0 .no .no
  have h2 : ¬ (16 : Int) < ((lst f).length : Int) := by
    have : (lst f).length ≤ 16 := h
    omega
  refine fn_rt (seq_w [.val (fobj α), .val (sq k (eL (lst f))), .val (.int 16), .no, .no] ?_ (seq_w [.val (fobj α), .val (sq k (eL (lst f))), .val (.int 16), j1, j2] ?_ (seq_w [.val (fobj α), .val (sq k (eL (lst f))), .val (.int 16), j1, j2] ?_ ?_)))
  · simp [h2]
  · simp [g]
  · by_cases z : f = 0
    · rw [z, lst_0]
      simp [eL]
    · have l := lst_last z
      have nz : lst f ≠ [] := fun y => z (lst_inj (y.trans lst_0.symm))
      have at_ := last_lst z
      have l2 := l.2
      have pos : 0 < (lst f).length := List.length_pos_iff.mpr nz
      simp [pos, at_, l2]
  · simp [P]
end
end K39
end
section
set_option maxRecDepth 100000
set_option autoImplicit false
/-! Q6: divisions, Euclid, the polys of spaces -/
namespace K39
open Lean.Grind FF FD FX
theorem wl_true {ft : FT} {f : FS} {n : Nat} {ρ ρ1 : En} {w : Wd} {r : Option (Out × Wd)} (ht : ft ρ w = some (true, w)) (hb : f ρ w = some (.nx ρ1, w)) (h : whileLoop ft f n ρ1 w = r) : whileLoop ft f (n + 1) ρ w = r := by
  rw [wl_succ, ht]
  show ((f ρ w).bind fun r => match r.1 with
    | .nx ρ1 => whileLoop ft f n ρ1 r.2
    | .ct ρ1 => whileLoop ft f n ρ1 r.2
    | .bk ρ1 => some (.nx ρ1, r.2)
    | .rt d => some (.rt d, r.2)) = r
  rw [hb]
  exact h
theorem wl_false {ft : FT} {f : FS} {n : Nat} {ρ : En} {w : Wd} (ht : ft ρ w = some (false, w)) : whileLoop ft f (n + 1) ρ w = some (.nx ρ, w) := by
  rw [wl_succ, ht]
  rfl
section
variable {α : Type} [FX α]
theorem idr (q m g r : Po α) : q * g + r = (q + m) * g + (r - m * g) := by grind
theorem idl (q m g r : Po α) : g * q + r = g * (q + m) + (r - g * m) := by grind
theorem toPo_mono (t : α) (j : Nat) : toPo (List.replicate j 0 ++ [t]) = mono t j := Po.ext fun k => by
  rw [co_toPo, co_mono]
  rcases Nat.lt_trichotomy k j with q | q | q
  · rw [List.getElem?_append_left (by rw [List.length_replicate]; exact q), List.getElem?_replicate, if_pos q, if_neg (by omega)]
    rfl
  · rw [List.getElem?_append_right (by rw [List.length_replicate]; omega), List.length_replicate, q, Nat.sub_self, if_pos rfl]
    rfl
  · rw [List.getElem?_eq_none_iff.mpr (by rw [List.length_append, List.length_replicate]; exact q), if_neg (by omega)]
    rfl
theorem loop_about (f g : Po α) (m : Nat) (hg : len g = m + 1) (hm : m < 40) (w : Wd) : ∀ (N F : Nat) (q r : Po α) (j6 j7 j8 : Sl), len r ≤ N → N < F → N ≤ 40 → Sup 60 q.co → ∃ q' r' j6' j7' j8', whileLoop t_parted_about_1 b_parted_about_1 F [.val (fobj α), .val (P f), .val (P g), .val (.int (m : Nat)), .val (P q), .val (P r), j6, j7, j8] w = some (.nx [.val (fobj α), .val (P f), .val (P g), .val (.int (m : Nat)), .val (P q'), .val (P r'), j6', j7', j8'], w) ∧
    q * g + r = q' * g + r' ∧ len r' < len g ∧ Sup 60 q'.co := by
  intro N
  induction N with
  | zero =>
    intro F q r j6 j7 j8 h1 h2 _ hq
    obtain ⟨F, rfl⟩ : ∃ G, F = G + 1 := ⟨F - 1, by omega⟩
    refine ⟨q, r, j6, j7, j8, ?_, rfl, by omega, hq⟩
    have h3 : (lst r).length ≤ m := by have : len r ≤ 0 := h1; exact Nat.le_trans this (Nat.zero_le _)
    rw [wl_succ]
    have ht : t_parted_about_1 [.val (fobj α), .val (P f), .val (P g), .val (.int (m : Nat)), .val (P q), .val (P r), j6, j7, j8] w = some (false, w) := by
      simp [t_parted_about_1, P]
      omega
    rw [ht]
    rfl
  | succ N ih =>
    intro F q r j6 j7 j8 h1 h2 h4 hq
    obtain ⟨F, rfl⟩ : ∃ G, F = G + 1 := ⟨F - 1, by omega⟩
    by_cases hc : len r ≤ m
    · refine ⟨q, r, j6, j7, j8, ?_, rfl, by omega, hq⟩
      have h3 : (lst r).length ≤ m := hc
      have ht : t_parted_about_1 [.val (fobj α), .val (P f), .val (P g), .val (.int (m : Nat)), .val (P q), .val (P r), j6, j7, j8] w = some (false, w) := by
        simp [t_parted_about_1, P]
        omega
      exact wl_false ht
    · obtain ⟨k, hk⟩ : ∃ k, len r = k + 1 := ⟨len r - 1, by omega⟩
      have hk' : (lst r).length = k + 1 := hk
      have dr := len_top hk
      have dgg := len_top hg
      have hmk : m ≤ k := by omega
      have n0 := sgN_ne (k - m) dgg.1
      have i0 := mul_inv _ n0
      generalize ht0 : r.co k * inv (sgN (k - m) (g.co m)) = t
      have ht1 : t * sgN (k - m) (g.co m) = r.co k := by rw [← ht0]; grind
      have sr := take_right dr.2 dgg hmk ht1
      have hq' : Sup 60 (q + mono t (k - m)).co := fun i hi => by
        rw [co_add, hq i hi, co_mono, if_neg (by omega)]
        grind
      obtain ⟨q', r', a1, a2, a3, f1, f2, f3, f4⟩ := ih F (q + mono t (k - m)) (r - mono t (k - m) * g) (.val (.int ((k - m : Nat) : Int))) (.val (eI t)) (.val (.tup (eL (List.replicate (k - m) 0 ++ [t])))) (by have := len_le sr; omega) (by omega) (by omega) hq'
      refine ⟨q', r', a1, a2, a3, ?_, ?_, f3, f4⟩
      · have ht : t_parted_about_1 [.val (fobj α), .val (P f), .val (P g), .val (.int (m : Nat)), .val (P q), .val (P r), j6, j7, j8] w = some (true, w) := by
          simp [t_parted_about_1, P, hk']
          omega
        have hr0 : r ≠ 0 := dg_ne dr
        have hg0 : g ≠ 0 := dg_ne dgg
        have l1 := last_lst hr0
        have l2 := last_lst hg0
        rw [hk, Nat.add_sub_cancel] at l1
        rw [hg, Nat.add_sub_cancel] at l2
        have r1 : nRep (.lst [.int 0]) (.int ((k - m : Nat) : Int)) = some (eL (List.replicate (k - m) (0 : α))) := by
          rw [rep_nat rfl (by omega)]
          unfold eL
          rw [List.map_replicate, e0']
        have ad := m_added false false (lst q) (List.replicate (k - m) 0 ++ [t]) (by have : len q ≤ 60 := len_le hq; show len q < 100; omega) (by rw [List.length_append, List.length_replicate]; show k - m + 1 < 100; omega) w
        rw [toPo_lst, toPo_mono] at ad
        have ne := m_nested false false (List.replicate (k - m) 0 ++ [t]) (lst g) (by rw [List.length_append, List.length_replicate]; show k - m + 1 < 70; omega) (by show len g < 70; omega) w
        rw [toPo_lst, toPo_mono] at ne
        have lm : len (mono t (k - m) * g) ≤ 90 := by
          have := len_mul_le (mono t (k - m)) g
          have := len_le (mono_sup t (k - m))
          omega
        have ta := m_takenP r (mono t (k - m) * g) (by omega) (by omega) w
        have st := m_stepped (g.co m) (k - m) w
        have ov := m_over (r.co k) n0 w
        rw [ht0] at ov
        have cap1 : k - m + 1 ≤ 100000 := by omega
        have hb : b_parted_about_1 [.val (fobj α), .val (P f), .val (P g), .val (.int (m : Nat)), .val (P q), .val (P r), j6, j7, j8] w = some (.nx [.val (fobj α), .val (P f), .val (P g), .val (.int (m : Nat)), .val (P (q + mono t (k - m))), .val (P (r - mono t (k - m) * g)), .val (.int ((k - m : Nat) : Int)), .val (eI t), .val (.tup (eL (List.replicate (k - m) 0 ++ [t])))], w) := by
          refine seq_w [.val (fobj α), .val (P f), .val (P g), .val (.int (m : Nat)), .val (P q), .val (P r), .val (.int ((k - m : Nat) : Int)), j7, j8] ?_ (seq_w [.val (fobj α), .val (P f), .val (P g), .val (.int (m : Nat)), .val (P q), .val (P r), .val (.int ((k - m : Nat) : Int)), .val (eI t), j8] ?_ (seq_w [.val (fobj α), .val (P f), .val (P g), .val (.int (m : Nat)), .val (P q), .val (P r), .val (.int ((k - m : Nat) : Int)), .val (eI t), .val (.tup (eL (List.replicate (k - m) 0 ++ [t])))] ?_ (seq_w [.val (fobj α), .val (P f), .val (P g), .val (.int (m : Nat)), .val (P (q + mono t (k - m))), .val (P r), .val (.int ((k - m : Nat) : Int)), .val (eI t), .val (.tup (eL (List.replicate (k - m) 0 ++ [t])))] ?_ ?_)))
          · have e : ((lst r).length : Int) - 1 - (m : Int) = ((k - m : Nat) : Int) := by rw [hk']; omega
            simp only [P]
            simp [e]
          · have rP : P r = .tup (eL (lst r)) := rfl
            have gP : P g = .tup (eL (lst g)) := rfl
            rw [rP, gP]
            simp [l1, l2, st, ov]
          · have ap : eL (List.replicate (k - m) (0 : α)) ++ [eI t] = eL (List.replicate (k - m) 0 ++ [t]) := by rw [eL_app]; rfl
            simp [r1, cap1, ap, -o_rep]
          · simp only [sq_f, ← show P q = .tup (eL (lst q)) from rfl] at ad
            simp [ad]
          · simp only [sq_f, ← show P g = .tup (eL (lst g)) from rfl] at ne
            simp [ne, ta]
        exact wl_true ht hb f1
      · rw [← f2]
        exact idr ..
theorem m_about (f g : Po α) (hg : g ≠ 0) (hf : len f ≤ 40) (hg2 : len g ≤ 40) (w : Wd) : ∃ q r, m_parted_about [fobj α, P f, P g] w = some (.tup [P q, P r], w) ∧ f = q * g + r ∧ len r < len g := by
  obtain ⟨m, hm⟩ : ∃ m, len g = m + 1 := ⟨len g - 1, by have : len g ≠ 0 := fun z => hg (len_eq0.mp z); omega⟩
  obtain ⟨q, r, a1, a2, a3, f1, f2, f3, _⟩ := loop_about f g m hm (by omega) w (len f) 100 0 f .no .no .no (Nat.le_refl _) (by omega) hf (fun k _ => co_zero k)
  refine ⟨q, r, ?_, by rw [← f2]; grind, f3⟩
  rw [P_0] at f1
  have hm' : (lst g).length = m + 1 := hm
  refine fn_rt (seq_w [.val (fobj α), .val (P f), .val (P g), .val (.int (m : Nat)), .no, .no, .no, .no, .no] ?_ (seq_w [.val (fobj α), .val (P f), .val (P g), .val (.int (m : Nat)), .val (.tup []), .no, .no, .no, .no] ?_ (seq_w [.val (fobj α), .val (P f), .val (P g), .val (.int (m : Nat)), .val (.tup []), .val (P f), .no, .no, .no] ?_ (seq_w [.val (fobj α), .val (P f), .val (P g), .val (.int (m : Nat)), .val (P q), .val (P r), a1, a2, a3] f1 ?_))))
  · simp [P, hm']
  · simp
  · simp [P]
  · simp
theorem loop_within (f g : Po α) (m : Nat) (hg : len g = m + 1) (hm : m < 40) (w : Wd) : ∀ (N F : Nat) (q r : Po α) (j6 j7 : Sl), len r ≤ N → N < F → N ≤ 40 → Sup 60 q.co → ∃ q' r' j6' j7', whileLoop t_parted_within_1 b_parted_within_1 F [.val (fobj α), .val (P f), .val (P g), .val (.int (m : Nat)), .val (P q), .val (P r), j6, j7] w = some (.nx [.val (fobj α), .val (P f), .val (P g), .val (.int (m : Nat)), .val (P q'), .val (P r'), j6', j7'], w) ∧
    g * q + r = g * q' + r' ∧ len r' < len g ∧ Sup 60 q'.co := by
  intro N
  induction N with
  | zero =>
    intro F q r j6 j7 h1 h2 _ hq
    obtain ⟨F, rfl⟩ : ∃ G, F = G + 1 := ⟨F - 1, by omega⟩
    refine ⟨q, r, j6, j7, ?_, rfl, by omega, hq⟩
    have h3 : (lst r).length ≤ m := by have : len r ≤ 0 := h1; exact Nat.le_trans this (Nat.zero_le _)
    rw [wl_succ]
    have ht : t_parted_within_1 [.val (fobj α), .val (P f), .val (P g), .val (.int (m : Nat)), .val (P q), .val (P r), j6, j7] w = some (false, w) := by
      simp [t_parted_within_1, P]
      omega
    rw [ht]
    rfl
  | succ N ih =>
    intro F q r j6 j7 h1 h2 h4 hq
    obtain ⟨F, rfl⟩ : ∃ G, F = G + 1 := ⟨F - 1, by omega⟩
    by_cases hc : len r ≤ m
    · refine ⟨q, r, j6, j7, ?_, rfl, by omega, hq⟩
      have h3 : (lst r).length ≤ m := hc
      have ht : t_parted_within_1 [.val (fobj α), .val (P f), .val (P g), .val (.int (m : Nat)), .val (P q), .val (P r), j6, j7] w = some (false, w) := by
        simp [t_parted_within_1, P]
        omega
      exact wl_false ht
    · obtain ⟨k, hk⟩ : ∃ k, len r = k + 1 := ⟨len r - 1, by omega⟩
      have hk' : (lst r).length = k + 1 := hk
      have dr := len_top hk
      have dgg := len_top hg
      have hmk : m ≤ k := by omega
      have n0 := dgg.1
      have i0 := mul_inv _ n0
      obtain ⟨t, st, st2⟩ := m_stepped_neg (r.co k * inv (g.co m)) m w
      have ht1 : g.co m * sgN m t = r.co k := by rw [st2]; grind
      have sr := take_left dr.2 dgg hmk ht1
      have hq' : Sup 60 (q + mono t (k - m)).co := fun i hi => by
        rw [co_add, hq i hi, co_mono, if_neg (by omega)]
        grind
      obtain ⟨q', r', a1, a2, f1, f2, f3, f4⟩ := ih F (q + mono t (k - m)) (r - g * mono t (k - m)) (.val (eI t)) (.val (.tup (eL (List.replicate (k - m) 0 ++ [t])))) (by have := len_le sr; omega) (by omega) (by omega) hq'
      refine ⟨q', r', a1, a2, ?_, ?_, f3, f4⟩
      · have ht : t_parted_within_1 [.val (fobj α), .val (P f), .val (P g), .val (.int (m : Nat)), .val (P q), .val (P r), j6, j7] w = some (true, w) := by
          simp [t_parted_within_1, P, hk']
          omega
        have hr0 : r ≠ 0 := dg_ne dr
        have hg0 : g ≠ 0 := dg_ne dgg
        have l1 := last_lst hr0
        have l2 := last_lst hg0
        rw [hk, Nat.add_sub_cancel] at l1
        rw [hg, Nat.add_sub_cancel] at l2
        have r1 : nRep (.lst [.int 0]) (.int (((lst r).length : Int) - 1 - (m : Int))) = some (eL (List.replicate (k - m) (0 : α))) := by
          rw [rep_nat (k := k - m) (by rw [hk']; omega) (by omega)]
          unfold eL
          rw [List.map_replicate, e0']
        have ad := m_added false false (lst q) (List.replicate (k - m) 0 ++ [t]) (by have : len q ≤ 60 := len_le hq; show len q < 100; omega) (by rw [List.length_append, List.length_replicate]; show k - m + 1 < 100; omega) w
        rw [toPo_lst, toPo_mono] at ad
        have ne := m_nested false false (lst g) (List.replicate (k - m) 0 ++ [t]) (by show len g < 70; omega) (by rw [List.length_append, List.length_replicate]; show k - m + 1 < 70; omega) w
        rw [toPo_lst, toPo_mono] at ne
        have lm : len (g * mono t (k - m)) ≤ 90 := by
          have := len_mul_le g (mono t (k - m))
          have := len_le (mono_sup t (k - m))
          omega
        have ta := m_takenP r (g * mono t (k - m)) (by omega) (by omega) w
        have ov := m_over (r.co k) n0 w
        have cap1 : k - m + 1 ≤ 100000 := by omega
        have hb : b_parted_within_1 [.val (fobj α), .val (P f), .val (P g), .val (.int (m : Nat)), .val (P q), .val (P r), j6, j7] w = some (.nx [.val (fobj α), .val (P f), .val (P g), .val (.int (m : Nat)), .val (P (q + mono t (k - m))), .val (P (r - g * mono t (k - m))), .val (eI t), .val (.tup (eL (List.replicate (k - m) 0 ++ [t])))], w) := by
          refine seq_w [.val (fobj α), .val (P f), .val (P g), .val (.int (m : Nat)), .val (P q), .val (P r), .val (eI t), j7] ?_ (seq_w [.val (fobj α), .val (P f), .val (P g), .val (.int (m : Nat)), .val (P q), .val (P r), .val (eI t), .val (.tup (eL (List.replicate (k - m) 0 ++ [t])))] ?_ (seq_w [.val (fobj α), .val (P f), .val (P g), .val (.int (m : Nat)), .val (P (q + mono t (k - m))), .val (P r), .val (eI t), .val (.tup (eL (List.replicate (k - m) 0 ++ [t])))] ?_ ?_))
          · have rP : P r = .tup (eL (lst r)) := rfl
            have gP : P g = .tup (eL (lst g)) := rfl
            rw [rP, gP]
            simp [l1, l2, st, ov]
          · have ap : eL (List.replicate (k - m) (0 : α)) ++ [eI t] = eL (List.replicate (k - m) 0 ++ [t]) := by rw [eL_app]; rfl
            have rP : P r = .tup (eL (lst r)) := rfl
            rw [rP]
            simp [r1, cap1, ap, -o_rep]
          · simp only [sq_f, ← show P q = .tup (eL (lst q)) from rfl] at ad
            simp [ad]
          · simp only [sq_f, ← show P g = .tup (eL (lst g)) from rfl] at ne
            simp [ne, ta]
        exact wl_true ht hb f1
      · rw [← f2]
        exact idl ..
theorem m_within (f g : Po α) (hg : g ≠ 0) (hf : len f ≤ 40) (hg2 : len g ≤ 40) (w : Wd) : ∃ q r, m_parted_within [fobj α, P f, P g] w = some (.tup [P q, P r], w) ∧ f = g * q + r ∧ len r < len g := by
  obtain ⟨m, hm⟩ : ∃ m, len g = m + 1 := ⟨len g - 1, by have : len g ≠ 0 := fun z => hg (len_eq0.mp z); omega⟩
  obtain ⟨q, r, a1, a2, f1, f2, f3, _⟩ := loop_within f g m hm (by omega) w (len f) 100 0 f .no .no (Nat.le_refl _) (by omega) hf (fun k _ => co_zero k)
  refine ⟨q, r, ?_, by rw [← f2]; grind, f3⟩
  rw [P_0] at f1
  have hm' : (lst g).length = m + 1 := hm
  refine fn_rt (seq_w [.val (fobj α), .val (P f), .val (P g), .val (.int (m : Nat)), .no, .no, .no, .no] ?_ (seq_w [.val (fobj α), .val (P f), .val (P g), .val (.int (m : Nat)), .val (.tup []), .no, .no, .no] ?_ (seq_w [.val (fobj α), .val (P f), .val (P g), .val (.int (m : Nat)), .val (.tup []), .val (P f), .no, .no] ?_ (seq_w [.val (fobj α), .val (P f), .val (P g), .val (.int (m : Nat)), .val (P q), .val (P r), a1, a2] f1 ?_))))
  · simp [P, hm']
  · simp
  · simp [P]
  · simp
end
end K39
end
section
set_option maxRecDepth 100000
set_option autoImplicit false
/-! Q7: Euclid, common and least, the polys of spaces -/
namespace K39
open Lean.Grind FF FD FX
section
variable {α : Type} [FX α]
theorem len_1 : len (1 : Po α) = 1 := len_dg (mo_one (α := α)).dg
theorem P_1 : P (1 : Po α) = .tup [.int 1] := by
  have e : lst (1 : Po α) = [1] := (lst_eq (l := [1]) (fun m h => by
    have : m = 0 := by simpa using h.symm
    subst this
    exact one_ne) (Po.ext fun k => by
      rw [co_toPo, co_one]
      cases k with
      | zero => rfl
      | succ k => rfl)).symm
  unfold P
  rw [e]
  show D.tup [eI (1 : α)] = _
  rw [e1']
noncomputable abbrev tri (a b c : Po α) : D := .tup [P a, P b, P c]
/-- the length of a quotient -/
theorem q_len {h l q r : Po α} (e : h = q * l + r) (hr : len r < len l) : q = 0 ∨ (len q + len l ≤ len h + 1 ∧ 1 ≤ len q) := by
  by_cases z : q = 0
  · exact .inl z
  have l0 : l ≠ 0 := fun y => by
    rw [y, len_0] at hr
    omega
  have h1 := len_mul z l0
  have h2 : q * l = h - r := by rw [e]; grind
  have h3 := len_sub h r
  rw [← h2] at h3
  have h4 : len q ≠ 0 := fun y => z (len_eq0.mp y)
  refine .inr ⟨?_, by omega⟩
  omega
structure EB (h a b l c e : Po α) : Prop where
  b1 : len l + len c ≤ 17
  b2 : len l + len a ≤ 17
  b3 : len h + len c ≤ 17
  b4 : len l + len e ≤ 17
  b5 : len l + len b ≤ 17
  b6 : len h + len e ≤ 17
  b7 : len a ≤ 17
  b8 : len b ≤ 17
theorem eb_step {h a b l c e q r : Po α} (k : EB h a b l c e) (hq : h = q * l + r) (hr : len r < len l) : EB l c e r (a - q * c) (b - q * e) := by
  obtain ⟨b1, b2, b3, b4, b5, b6, b7, b8⟩ := k
  have m1 := len_sub a (q * c)
  have m2 := len_sub b (q * e)
  rcases q_len hq hr with z | ⟨z1, z2⟩
  · have e1 : len (q * c) = 0 := by rw [z, show (0 : Po α) * c = 0 by grind, len_0]
    have e2 : len (q * e) = 0 := by rw [z, show (0 : Po α) * e = 0 by grind, len_0]
    exact ⟨by omega, by omega, by omega, by omega, by omega, by omega, by omega, by omega⟩
  · have e1 := len_mul_le q c
    have e2 := len_mul_le q e
    by_cases c0 : c = 0
    · have e3 : len (q * c) = 0 := by rw [c0, show q * (0 : Po α) = 0 by grind, len_0]
      by_cases e0 : e = 0
      · have e4 : len (q * e) = 0 := by rw [e0, show q * (0 : Po α) = 0 by grind, len_0]
        exact ⟨by omega, by omega, by omega, by omega, by omega, by omega, by omega, by omega⟩
      · have : len e ≠ 0 := fun y => e0 (len_eq0.mp y)
        exact ⟨by omega, by omega, by omega, by omega, by omega, by omega, by omega, by omega⟩
    · have : len c ≠ 0 := fun y => c0 (len_eq0.mp y)
      by_cases e0 : e = 0
      · have e4 : len (q * e) = 0 := by rw [e0, show q * (0 : Po α) = 0 by grind, len_0]
        exact ⟨by omega, by omega, by omega, by omega, by omega, by omega, by omega, by omega⟩
      · have : len e ≠ 0 := fun y => e0 (len_eq0.mp y)
        exact ⟨by omega, by omega, by omega, by omega, by omega, by omega, by omega, by omega⟩
theorem loop_rows (f0 f1 : Po α) (w : Wd) : ∀ (N F : Nat) (h a b l c e : Po α) (j5 j6 j7 j8 : Sl), len l ≤ N → N < F → EI f0 f1 h a b l c e → EB h a b l c e → ∃ h' a' b' c' e' j5' j6' j7' j8', whileLoop t_last_rows_1 b_last_rows_1 F [.val (fobj α), .val (P f0), .val (P f1), .val (tri h a b), .val (tri l c e), j5, j6, j7, j8] w = some (.nx [.val (fobj α), .val (P f0), .val (P f1), .val (tri h' a' b'), .val (tri 0 c' e'), j5', j6', j7', j8'], w) ∧
    EI f0 f1 h' a' b' 0 c' e' ∧ EB h' a' b' 0 c' e' := by
  intro N
  induction N with
  | zero =>
    intro F h a b l c e j5 j6 j7 j8 h1 h2 i k
    obtain ⟨F, rfl⟩ : ∃ G, F = G + 1 := ⟨F - 1, by omega⟩
    have l0 : l = 0 := len_eq0.mp (by omega)
    subst l0
    refine ⟨h, a, b, c, e, j5, j6, j7, j8, ?_, i, k⟩
    rw [wl_succ]
    have ht : t_last_rows_1 [.val (fobj α), .val (P f0), .val (P f1), .val (tri h a b), .val (tri 0 c e), j5, j6, j7, j8] w = some (false, w) := by
      simp [t_last_rows_1, P_0]
    rw [ht]
    rfl
  | succ N ih =>
    intro F h a b l c e j5 j6 j7 j8 h1 h2 i k
    obtain ⟨F, rfl⟩ : ∃ G, F = G + 1 := ⟨F - 1, by omega⟩
    by_cases l0 : l = 0
    · subst l0
      refine ⟨h, a, b, c, e, j5, j6, j7, j8, ?_, i, k⟩
      have ht : t_last_rows_1 [.val (fobj α), .val (P f0), .val (P f1), .val (tri h a b), .val (tri 0 c e), j5, j6, j7, j8] w = some (false, w) := by
        simp [t_last_rows_1, P_0]
      exact wl_false ht
    · have lp : 0 < (lst l).length := by
        have : len l ≠ 0 := fun y => l0 (len_eq0.mp y)
        have e2 : (lst l).length = len l := rfl
        omega
      have kb := k
      obtain ⟨b1, b2, b3, b4, b5, b6, b7, b8⟩ := k
      obtain ⟨q, r, d1, d2, d3⟩ := m_about h l l0 (by omega) (by omega) w
      have k2 := eb_step kb d2 d3
      have ql : len q ≤ 18 := by
        rcases q_len d2 d3 with z | z
        · rw [z, len_0]; omega
        · omega
      have n1 := m_nestedP q c (by omega) (by omega) w
      have n2 := m_nestedP q e (by omega) (by omega) w
      have t1 := m_takenP a (q * c) (by omega) (by have := len_mul_le q c; omega) w
      have t2 := m_takenP b (q * e) (by omega) (by have := len_mul_le q e; omega) w
      obtain ⟨h', a', b', c', e', x5, x6, x7, x8, g1, g2, g3⟩ := ih F l c e r (a - q * c) (b - q * e) (.val (P q)) (.val (P r)) (.val (P (a - q * c))) (.val (P (b - q * e))) (by omega) (by omega) (ei_step i d2) k2
      refine ⟨h', a', b', c', e', x5, x6, x7, x8, ?_, g2, g3⟩
      have ht : t_last_rows_1 [.val (fobj α), .val (P f0), .val (P f1), .val (tri h a b), .val (tri l c e), j5, j6, j7, j8] w = some (true, w) := by
        have lP : P l = .tup (eL (lst l)) := rfl
        simp [t_last_rows_1, lP, lp]
      have hb : b_last_rows_1 [.val (fobj α), .val (P f0), .val (P f1), .val (tri h a b), .val (tri l c e), j5, j6, j7, j8] w = some (.nx [.val (fobj α), .val (P f0), .val (P f1), .val (tri l c e), .val (tri r (a - q * c) (b - q * e)), .val (P q), .val (P r), .val (P (a - q * c)), .val (P (b - q * e))], w) := by
        refine seq_w [.val (fobj α), .val (P f0), .val (P f1), .val (tri h a b), .val (tri l c e), .val (P q), .val (P r), j7, j8] ?_ (seq_w [.val (fobj α), .val (P f0), .val (P f1), .val (tri h a b), .val (tri l c e), .val (P q), .val (P r), .val (P (a - q * c)), j8] ?_ (seq_w [.val (fobj α), .val (P f0), .val (P f1), .val (tri h a b), .val (tri l c e), .val (P q), .val (P r), .val (P (a - q * c)), .val (P (b - q * e))] ?_ ?_))
        · simp [d1]
        · simp [n1, t1]
        · simp [n2, t2]
        · simp
      exact wl_true ht hb g1
theorem m_rows (f0 f1 : Po α) (h0 : len f0 ≤ 16) (h1 : len f1 ≤ 16) (w : Wd) : ∃ h a b c e, m_last_rows [fobj α, P f0, P f1] w = some (.tup [tri h a b, tri 0 c e], w) ∧ EI f0 f1 h a b 0 c e ∧ EB h a b 0 c e := by
  obtain ⟨h, a, b, c, e, x5, x6, x7, x8, g1, g2, g3⟩ := loop_rows f0 f1 w (len f1) 100 f0 1 0 f1 0 1 .no .no .no .no (Nat.le_refl _) (by omega) (ei_start f0 f1) ⟨by rw [len_0]; omega, by rw [len_1]; omega, by rw [len_0]; omega, by rw [len_1]; omega, by rw [len_0]; omega, by rw [len_1]; omega, by rw [len_1]; omega, by rw [len_0]; omega⟩
  refine ⟨h, a, b, c, e, ?_, g2, g3⟩
  refine fn_rt (seq_w [.val (fobj α), .val (P f0), .val (P f1), .val (tri f0 1 0), .no, .no, .no, .no, .no] ?_ (seq_w [.val (fobj α), .val (P f0), .val (P f1), .val (tri f0 1 0), .val (tri f1 0 1), .no, .no, .no, .no] ?_ (seq_w [.val (fobj α), .val (P f0), .val (P f1), .val (tri h a b), .val (tri 0 c e), x5, x6, x7, x8] g1 ?_)))
  · simp [P_1, P_0]
  · simp [P_1, P_0]
  · simp
/-- made monic -/
noncomputable def monic (f : Po α) : Po α := mono (inv (f.co (len f - 1))) 0 * f
theorem monic_mo {f : Po α} (h : f ≠ 0) : Mo (monic f) (len f - 1) := by
  obtain ⟨n, hn⟩ := (zero_or_dg f).resolve_left h
  have e := len_dg hn
  have i0 := mul_inv _ hn.1
  unfold monic
  rw [e, Nat.add_sub_cancel]
  obtain ⟨t1, t2⟩ := top_mul (mono_sup (inv (f.co n)) 0) hn.2
  rw [Nat.zero_add] at t1 t2
  refine ⟨?_, t2⟩
  rw [t1, co_mono, if_pos rfl]
  show inv (f.co n) * f.co n = 1
  grind
theorem mono0_mul (a b : α) : mono a 0 * mono b 0 = (mono (a * b) 0 : Po α) := Po.ext fun k => by
  rw [co_mul, co_mono]
  cases k with
  | zero => rw [if_pos rfl]; rfl
  | succ k =>
    rw [if_neg (Nat.succ_ne_zero k)]
    have h := mulK_sup (mono_sup a 0) (mono_sup b 0)
    obtain ⟨_, h2⟩ := top_mul (mono_sup a 0) (mono_sup b 0)
    exact h2 (k + 1) (by omega)
theorem mono_one : (mono (1 : α) 0 : Po α) = 1 := Po.ext fun k => by rw [co_mono, co_one]
theorem monic_back {f : Po α} (h : f ≠ 0) : mono (f.co (len f - 1)) 0 * monic f = f := by
  have l := (lst_last h).2
  have i0 := mul_inv _ l
  unfold monic
  rw [show ∀ x y z : Po α, x * (y * z) = (x * y) * z by intro x y z; grind, mono0_mul, i0, mono_one]
  grind
theorem dv_monic {f g : Po α} (h : f ≠ 0) (k : Dv f g) : Dv (monic f) g := by
  obtain ⟨q, e⟩ := k
  refine ⟨q * mono (f.co (len f - 1)) 0, ?_⟩
  rw [show ∀ x y z : Po α, (x * y) * z = x * (y * z) by intro x y z; grind, monic_back h]
  exact e
theorem len_monic (f : Po α) : len (monic f) ≤ len f := by
  unfold monic
  have h1 := len_mul_le (mono (inv (f.co (len f - 1))) 0) f
  have h2 := len_le (mono_sup (inv (f.co (len f - 1))) 0)
  omega
end
end K39
end
section
set_option maxRecDepth 100000
set_option autoImplicit false
/-! Q8: common and least, the polys of spaces -/
namespace K39
open Lean.Grind FF FD FX
section
variable {α : Type} [FX α]
theorem sq_P (f : Po α) : sq false (eL (lst f)) = P f := rfl
theorem m_checkp' (k : Bool) (f : Po α) (h : len f ≤ 16) (w : Wd) : m_check_poly [fobj α, sq k (eL (lst f)), .int 16] w = some (P f, w) := m_checkp k f h w
theorem m_checkpP (f : Po α) (h : len f ≤ 16) (w : Wd) : m_check_poly [fobj α, P f, .int 16] w = some (P f, w) := m_checkp false f h w
theorem m_scaledP (c : α) (f : Po α) (h : len f < 100) (w : Wd) : m_scaled_terms [fobj α, eI c, P f] w = some (P (mono c 0 * f), w) := by
  have := m_scaled c false (lst f) h w
  rw [toPo_lst] at this
  exact this
theorem lenP (f : Po α) : dLen (P f) = some (.int (len f : Nat)) := by
  show some (D.int ((eL (lst f)).length : Nat)) = _
  rw [eL_len]
  rfl
theorem ixP_m1 {f : Po α} (h : f ≠ 0) : dIx (P f) (.int (-1)) = some (eI (f.co (len f - 1))) := last_lst h
theorem dv_len {h f : Po α} (hf : f ≠ 0) (k : Dv h f) : len h ≤ len f := by
  obtain ⟨q, e⟩ := k
  have q0 : q ≠ 0 := fun z => hf (by rw [e, z]; grind)
  have h0 : h ≠ 0 := fun z => hf (by rw [e, z]; grind)
  have := len_mul q0 h0
  rw [← e] at this
  have : len q ≠ 0 := fun z => q0 (len_eq0.mp z)
  omega
theorem dv_zero {f : Po α} (h : Dv 0 f) : f = 0 := by
  obtain ⟨q, e⟩ := h
  rw [e]
  grind
theorem m_common (k1 k2 : Bool) (f0 f1 : Po α) (h0 : len f0 ≤ 16) (h1 : len f1 ≤ 16) (w : Wd) : ∃ G, m_common_about [fobj α, sq k1 (eL (lst f0)), sq k2 (eL (lst f1))] w = some (P G, w) ∧ len G ≤ 16 ∧ (f0 = 0 ∧ f1 = 0 → G = 0) ∧
    (¬ (f0 = 0 ∧ f1 = 0) → ∃ h a b c e, EI f0 f1 h a b 0 c e ∧ h ≠ 0 ∧ G = monic h) := by
  have c1 := m_checkp k1 f0 h0 w
  have c2 := m_checkp k2 f1 h1 w
  by_cases z : f0 = 0 ∧ f1 = 0
  · refine ⟨0, ?_, by rw [len_0]; omega, fun _ => rfl, fun y => absurd z y⟩
    have e : m_common_parts [fobj α, sq k1 (eL (lst f0)), sq k2 (eL (lst f1))] w = some (.tup [.tup [], .tup [], .tup []], w) := by
      refine fn_rt (seq_w [.val (fobj α), .val (sq k1 (eL (lst f0))), .val (sq k2 (eL (lst f1))), .val (P f0), .no, .no, .no, .no] (by simp [c1]) (seq_w [.val (fobj α), .val (sq k1 (eL (lst f0))), .val (sq k2 (eL (lst f1))), .val (P f0), .val (P f1), .no, .no, .no] (by simp [c2]) ?_))
      rw [r_fSeq]
      simp [z.1, z.2, P_0]
    refine fn_rt ?_
    simp [f_common_about, e, P_0]
  · obtain ⟨h, a, b, c, e, m, i, k⟩ := m_rows f0 f1 h0 h1 w
    have gd := ei_gcd i
    have hh : h ≠ 0 := fun y => by
      rw [y] at gd
      exact z ⟨dv_zero gd.1, dv_zero gd.2⟩
    have lh : len h ≤ 16 := by
      by_cases y : f0 = 0
      · have : f1 ≠ 0 := fun x => z ⟨y, x⟩
        have := dv_len this gd.2
        omega
      · have := dv_len y gd.1
        omega
    obtain ⟨b1, b2, b3, b4, b5, b6, b7, b8⟩ := k
    refine ⟨monic h, ?_, Nat.le_trans (len_monic h) lh, fun y => absurd y z, fun _ => ⟨h, a, b, c, e, i, hh, rfl⟩⟩
    have l2 := (lst_last hh).2
    have iv := m_inverse l2 w
    generalize hC : inv (h.co (len h - 1)) = C at iv
    have s1 := m_scaledP C h (by omega) w
    have s2 := m_scaledP C a (by omega) w
    have s3 := m_scaledP C b (by omega) w
    have ix := ixP_m1 hh
    have e : m_common_parts [fobj α, sq k1 (eL (lst f0)), sq k2 (eL (lst f1))] w = some (tri (mono C 0 * h) (mono C 0 * a) (mono C 0 * b), w) := by
      have lz : ¬ ((len f0 : Int) = 0 ∧ (len f1 : Int) = 0) := fun y => z ⟨len_eq0.mp (by omega), len_eq0.mp (by omega)⟩
      refine fn_rt (seq_w [.val (fobj α), .val (sq k1 (eL (lst f0))), .val (sq k2 (eL (lst f1))), .val (P f0), .no, .no, .no, .no] (by simp [c1]) (seq_w [.val (fobj α), .val (sq k1 (eL (lst f0))), .val (sq k2 (eL (lst f1))), .val (P f0), .val (P f1), .no, .no, .no] (by simp [c2]) (seq_w [.val (fobj α), .val (sq k1 (eL (lst f0))), .val (sq k2 (eL (lst f1))), .val (P f0), .val (P f1), .no, .no, .no] ?_
        (seq_w [.val (fobj α), .val (sq k1 (eL (lst f0))), .val (sq k2 (eL (lst f1))), .val (P f0), .val (P f1), .val (tri h a b), .no, .no] ?_ (seq_w [.val (fobj α), .val (sq k1 (eL (lst f0))), .val (sq k2 (eL (lst f1))), .val (P f0), .val (P f1), .val (tri h a b), .val (eI C), .no] ?_ ?_)))))
      · by_cases y : f0 = 0
        · have y1 : f1 ≠ 0 := fun x => z ⟨y, x⟩
          have y2 : len f1 ≠ 0 := fun x => y1 (len_eq0.mp x)
          simp [lenP, y, len_0, y2]
        · have y2 : len f0 ≠ 0 := fun x => y (len_eq0.mp x)
          simp [lenP, y2]
      · simp [m]
      · simp [ix, iv]
      · simp [lcLoop, s1, s2, s3]
    refine fn_rt ?_
    simp only [f_common_about, r_fRet, r_fOp, r_fCall, r_fCons, r_fVar, r_fNil, r_fC]
    simp [e, monic, hC]
theorem m_least (k1 k2 : Bool) (f0 f1 : Po α) (h0 : len f0 ≤ 16) (h1 : len f1 ≤ 16) (z0 : f0 ≠ 0) (z1 : f1 ≠ 0) (w : Wd) : ∃ h a b c e, m_least_about [fobj α, sq k1 (eL (lst f0)), sq k2 (eL (lst f1))] w = some (P (monic (c * f0)), w) ∧ EI f0 f1 h a b 0 c e ∧ h ≠ 0 ∧ len (c * f0) ≤ 33 := by
  have c1 := m_checkp k1 f0 h0 w
  have c2 := m_checkp k2 f1 h1 w
  obtain ⟨h, a, b, c, e, m, i, k⟩ := m_rows f0 f1 h0 h1 w
  have gd := ei_gcd i
  have hh : h ≠ 0 := fun y => by
    rw [y] at gd
    exact z0 (dv_zero gd.1)
  have n0 := ei_ne i z0 z1
  obtain ⟨b1, b2, b3, b4, b5, b6, b7, b8⟩ := k
  have lc : len (c * f0) ≤ 33 := by have := len_mul_le c f0; omega
  refine ⟨h, a, b, c, e, ?_, i, hh, lc⟩
  have l2 := (lst_last n0).2
  have iv := m_inverse l2 w
  have ix := ixP_m1 n0
  have ne := m_nestedP c f0 (by omega) (by omega) w
  have s1 := m_scaledP (inv ((c * f0).co (len (c * f0) - 1))) (c * f0) (by omega) w
  have y0 : len f0 ≠ 0 := fun x => z0 (len_eq0.mp x)
  have y1 : len f1 ≠ 0 := fun x => z1 (len_eq0.mp x)
  refine fn_rt (seq_w [.val (fobj α), .val (sq k1 (eL (lst f0))), .val (sq k2 (eL (lst f1))), .val (P f0), .no, .no] (by simp [c1]) (seq_w [.val (fobj α), .val (sq k1 (eL (lst f0))), .val (sq k2 (eL (lst f1))), .val (P f0), .val (P f1), .no] (by simp [c2]) (seq_w [.val (fobj α), .val (sq k1 (eL (lst f0))), .val (sq k2 (eL (lst f1))), .val (P f0), .val (P f1), .no] ?_
    (seq_w [.val (fobj α), .val (sq k1 (eL (lst f0))), .val (sq k2 (eL (lst f1))), .val (P f0), .val (P f1), .val (P (c * f0))] ?_ ?_))))
  · simp [lenP, y0, y1]
  · simp [m, ne]
  · simp [ix, iv, s1, monic]

/-! ### the polys of spaces -/
theorem toPo_lin (c : α) : toPo [-c, 1] = lin c := Po.ext fun k => by
  rw [co_toPo]
  match k with
  | 0 =>
    show -c = (mono (1 : α) 1 - mono c 0).co 0
    rw [co_sub, co_mono, co_mono, if_neg (by decide), if_pos rfl]
    grind
  | 1 => exact (lin_mo c).1.symm
  | k + 2 => exact ((lin_mo c).2 (k + 2) (by omega)).symm
theorem m_widened (f : Po α) {v : α} (hv : v ≠ 0) (hf : len f < 70) (w : Wd) : m_widened_poly [fobj α, P f, eI v] w = some (P (lin (sg v * inv v) * f), w) := by
  have ov := m_over (sg v) hv w
  have ne := m_nested false false [-(sg v * inv v), 1] (lst f) (by show 2 < 70; omega) hf w
  rw [toPo_lin, toPo_lst, sq_P, sq_f] at ne
  have e : eL [-(sg v * inv v), 1] = [eI (-(sg v * inv v)), .int 1] := by
    show [eI (-(sg v * inv v)), eI (1 : α)] = _
    rw [e1']
  rw [e] at ne
  refine fn_rt (seq_w [.val (fobj α), .val (P f), .val (eI v), .val (eI (sg v * inv v))] ?_ ?_)
  · simp [m_stepped1, ov]
  · simp [ne]
theorem len_wid (f : Po α) (v : α) : len (wid f v) ≤ len f + 1 := by
  unfold wid
  split
  · omega
  · have h1 := len_mul_le (lin (sg (f.ev v) * inv (f.ev v))) f
    have h2 := len_dg (lin_mo (sg (f.ev v) * inv (f.ev v))).dg
    omega
theorem loop_psp (X : Sl) (w : Wd) : ∀ (l : List α) (f : Po α) (j3 j4 : Sl), len f + l.length < 70 → ∃ j3' j4', forLoop (bnd1 3) b_poly_of_space_1 (eL l) [.val (fobj α), X, .val (P f), j3, j4] w = some (.nx [.val (fobj α), X, .val (P (psF f l)), j3', j4'], w)
  | [], f, j3, j4, _ => ⟨j3, j4, rfl⟩
  | a :: l, f, j3, j4, h => by
    rw [List.length_cons] at h
    obtain ⟨j3', j4', ih⟩ := loop_psp X w l (wid f a) (.val (eI a)) (.val (eI (f.ev a))) (by have := len_wid f a; omega)
    refine ⟨j3', j4', ?_⟩
    have rv := m_reachedP f a w
    have hb : b_poly_of_space_1 (bnd1 3 (eI a) [.val (fobj α), X, .val (P f), j3, j4]) w = some (.nx [.val (fobj α), X, .val (P (wid f a)), .val (eI a), .val (eI (f.ev a))], w) := by
      refine seq_w [.val (fobj α), X, .val (P f), .val (eI a), .val (eI (f.ev a))] (by simp [rv]) ?_
      by_cases z : f.ev a = 0
      · have e : wid f a = f := if_pos z
        rw [e]
        simp [z]
      · have e : wid f a = lin (sg (f.ev a) * inv (f.ev a)) * f := if_neg z
        have mw := m_widened f z (by omega) w
        rw [e]
        simp [z, mw]
    show forLoop (bnd1 3) b_poly_of_space_1 (eI a :: eL l) _ w = _
    rw [fl_cons, hb]
    exact ih
theorem m_psp (k : Bool) (l : List α) (h : l.length ≤ 32) (w : Wd) : m_poly_of_space [fobj α, sq k (eL l)] w = some (P (psp l), w) := by
  have c := m_checkts k l 32 h w
  obtain ⟨j3, j4, f⟩ := loop_psp (.val (sq k (eL l))) w l 1 .no .no (by rw [len_1]; omega)
  rw [P_1] at f
  refine fn_rt (seq_w [.val (fobj α), .val (sq k (eL l)), .val (.tup [.int 1]), .no, .no] (by simp) (seq_w [.val (fobj α), .val (sq k (eL l)), .val (P (psp l)), j3, j4] ?_ (by simp)))
  simp at c
  simp [c]
  exact f
theorem idx_row {v : α} (hv : v ≠ 0) : idxD (t1D α fun b => eI (v * b)) 1 = some ((enc (inv v) : Nat) : Int) := by
  have i0 := mul_inv v hv
  have e : (t1D α fun b => eI (v * b)) = dI ((els : List α).map fun b => ((enc (v * b) : Nat) : Int)) := by
    unfold t1D dI
    rw [List.map_map]
    rfl
  rw [e]
  unfold idxD
  rw [unInts_ints]
  generalize hns : ((els : List α).map fun b => ((enc (v * b) : Nat) : Int)) = ns
  have at_ : ns[enc (inv v)]? = some 1 := by
    rw [← hns, List.getElem?_map, els_enc, Option.map_some, i0, enc1]
    rfl
  have m : (1 : Int) ∈ ns := List.mem_of_getElem? at_
  show (if (1 : Int) ∈ ns then some ((ns.idxOf 1 : Nat) : Int) else none) = _
  rw [if_pos m]
  have hl := List.idxOf_lt_length_of_mem m
  have g1 : ns[ns.idxOf 1]? = some 1 := by
    rw [List.getElem?_eq_getElem hl]
    exact congrArg some (List.getElem_idxOf hl)
  rw [← hns, List.getElem?_map] at g1
  obtain ⟨b, hb1, hb2⟩ := Option.map_eq_some_iff.mp g1
  have hb3 : enc (v * b) = enc (1 : α) := by rw [enc1]; omega
  have hb4 := enc_inj hb3
  have hb5 : b = inv v := by
    have : b = (v * b) * inv v := by grind
    rw [this, hb4]
    grind
  have := enc_els _ _ hb1
  rw [hns, hb5] at this
  rw [this]
theorem m_linv {v : α} (hv : v ≠ 0) (w : Wd) : m_l_inverse [wobj α, eI v] w = some (eI (inv v), w) := by
  have ix := idx_row hv
  refine fn_rt ?_
  simp [f_l_inverse, ix]
theorem loop_lpsp (X : Sl) (w : Wd) : ∀ (l : List α) (f : Po α) (j3 j4 j5 : Sl), len f + l.length < 70 → ∃ j3' j4' j5', forLoop (bnd1 3) b_l_space_poly_1 (eL l) [.val (wobj α), X, .val (P f), j3, j4, j5] w = some (.nx [.val (wobj α), X, .val (P (psF f l)), j3', j4', j5'], w)
  | [], f, j3, j4, j5, _ => ⟨j3, j4, j5, rfl⟩
  | a :: l, f, j3, j4, j5, h => by
    rw [List.length_cons] at h
    have rv := m_lvalueP f a w
    by_cases z : f.ev a = 0
    · have e : wid f a = f := if_pos z
      obtain ⟨j3', j4', j5', ih⟩ := loop_lpsp X w l f (.val (eI a)) (.val (eI (f.ev a))) j5 (by omega)
      refine ⟨j3', j4', j5', ?_⟩
      have hb : b_l_space_poly_1 (bnd1 3 (eI a) [.val (wobj α), X, .val (P f), j3, j4, j5]) w = some (.nx [.val (wobj α), X, .val (P f), .val (eI a), .val (eI (f.ev a)), j5], w) := by
        refine seq_w [.val (wobj α), X, .val (P f), .val (eI a), .val (eI (f.ev a)), j5] (by simp [rv]) ?_
        simp [z]
      show forLoop (bnd1 3) b_l_space_poly_1 (eI a :: eL l) _ w = _
      rw [fl_cons, hb, show psF f (a :: l) = psF (wid f a) l from rfl, e]
      exact ih
    · have e : wid f a = lin (sg (f.ev a) * inv (f.ev a)) * f := if_neg z
      obtain ⟨j3', j4', j5', ih⟩ := loop_lpsp X w l (wid f a) (.val (eI a)) (.val (eI (f.ev a))) (.val (eI (sg (f.ev a) * inv (f.ev a)))) (by have := len_wid f a; omega)
      refine ⟨j3', j4', j5', ?_⟩
      have iv := m_linv z w
      have pu := m_lput false false [-(sg (f.ev a) * inv (f.ev a)), 1] (lst f) (by have : (lst f).length = len f := rfl; show 2 + (lst f).length < 140; omega) w
      rw [toPo_lin, toPo_lst, sq_P, sq_f] at pu
      have ee : eL [-(sg (f.ev a) * inv (f.ev a)), 1] = [eI (-(sg (f.ev a) * inv (f.ev a))), .int 1] := by
        show [eI (-(sg (f.ev a) * inv (f.ev a))), eI (1 : α)] = _
        rw [e1']
      rw [ee] at pu
      have hb : b_l_space_poly_1 (bnd1 3 (eI a) [.val (wobj α), X, .val (P f), j3, j4, j5]) w = some (.nx [.val (wobj α), X, .val (P (wid f a)), .val (eI a), .val (eI (f.ev a)), .val (eI (sg (f.ev a) * inv (f.ev a)))], w) := by
        refine seq_w [.val (wobj α), X, .val (P f), .val (eI a), .val (eI (f.ev a)), j5] (by simp [rv]) ?_
        rw [e]
        simp [z, iv, pu]
      show forLoop (bnd1 3) b_l_space_poly_1 (eI a :: eL l) _ w = _
      rw [fl_cons, hb]
      exact ih
theorem m_lpsp (k : Bool) (l : List α) (h : l.length ≤ 60) (w : Wd) : m_l_space_poly [wobj α, sq k (eL l)] w = some (P (psp l), w) := by
  obtain ⟨j3, j4, j5, f⟩ := loop_lpsp (.val (sq k (eL l))) w l 1 .no .no .no (by rw [len_1]; omega)
  rw [P_1] at f
  refine fn_rt (seq_w [.val (wobj α), .val (sq k (eL l)), .val (.tup [.int 1]), .no, .no, .no] (by simp) (seq_w [.val (wobj α), .val (sq k (eL l)), .val (P (psp l)), j3, j4, j5] ?_ (by simp)))
  simp
  exact f
theorem m_value (f : Po α) (h : len f ≤ 16) (x : α) (w : Wd) : m_value_at [fobj α, P f, eI x] w = some (eI (f.ev x), w) := by
  have c := m_checkpP f h w
  have t := m_checkt x 0 w
  have r := m_reachedP f x w
  refine fn_rt (seq_w [.val (fobj α), .val (P f), .val (eI x), .val (P f)] (by simp [c]) ?_)
  simp [t, r]
theorem m_put (k1 k2 : Bool) (f g : Po α) (hf : len f ≤ 16) (hg : len g ≤ 16) (w : Wd) : m_put_into [fobj α, sq k1 (eL (lst f)), sq k2 (eL (lst g))] w = some (P (f * g), w) := by
  have c := m_checkp k1 f hf w
  have c2 := m_checkp k2 g hg w
  have n := m_nestedP f g (by omega) (by omega) w
  refine fn_rt (seq_w [.val (fobj α), .val (sq k1 (eL (lst f))), .val (sq k2 (eL (lst g))), .val (P f)] (by simp [c]) ?_)
  simp [c2, n]
theorem m_cdiv (f g : Po α) (hf : len f ≤ 16) (hg : len g ≤ 16) (g0 : g ≠ 0) (w : Wd) : m_checked_divisor [fobj α, P f, P g] w = some (.tup [P f, P g], w) := by
  have c := m_checkpP f hf w
  have c2 := m_checkpP g hg w
  have y : len g ≠ 0 := fun x => g0 (len_eq0.mp x)
  refine fn_rt (seq_w [.val (fobj α), .val (P f), .val (P g), .val (P f), .no] (by simp [c]) (seq_w [.val (fobj α), .val (P f), .val (P g), .val (P f), .val (P g)] (by simp [c2]) (seq_w [.val (fobj α), .val (P f), .val (P g), .val (P f), .val (P g)] ?_ ?_)))
  · simp [lenP, y]
  · simp
theorem m_dabout (f g : Po α) (hf : len f ≤ 16) (hg : len g ≤ 16) (g0 : g ≠ 0) (w : Wd) : ∃ q r, m_divided_about [fobj α, P f, P g] w = some (.tup [P q, P r], w) ∧ f = q * g + r ∧ len r < len g := by
  have c := m_cdiv f g hf hg g0 w
  obtain ⟨q, r, h1, h2, h3⟩ := m_about f g g0 (by omega) (by omega) w
  refine ⟨q, r, ?_, h2, h3⟩
  refine fn_rt (seq_w [.val (fobj α), .val (P f), .val (P g), .val (P f), .val (P g)] (by simp [c]) ?_)
  simp [h1]
theorem m_dwithin (f g : Po α) (hf : len f ≤ 16) (hg : len g ≤ 16) (g0 : g ≠ 0) (w : Wd) : ∃ q r, m_divided_within [fobj α, P f, P g] w = some (.tup [P q, P r], w) ∧ f = g * q + r ∧ len r < len g := by
  have c := m_cdiv f g hf hg g0 w
  obtain ⟨q, r, h1, h2, h3⟩ := m_within f g g0 (by omega) (by omega) w
  refine ⟨q, r, ?_, h2, h3⟩
  refine fn_rt (seq_w [.val (fobj α), .val (P f), .val (P g), .val (P f), .val (P g)] (by simp [c]) ?_)
  simp [h1]
end
end K39
end
section
set_option maxRecDepth 100000
set_option autoImplicit false
/-! Q9: rows and their elimination -/
namespace K39
open Lean.Grind FF FD FX
section
variable {α : Type} [FX α]
theorem rowD_len (x : α) : (rowD x).length = d (α := α) := by
  unfold rowD
  rw [List.length_map, List.length_range]
theorem row_get (x : α) {j : Nat} (h : j < d (α := α)) : (rowD x)[j]? = some (.int (dg j x : Nat)) := by
  unfold rowD
  rw [List.getElem?_map, List.getElem?_range h]
  rfl
theorem row_at (x : α) {j : Nat} (h : j < d (α := α)) : L2.atI (rowD x) (j : Int) = some (.int (dg j x : Nat)) := by rw [atI_nat, row_get x h]
theorem zipmm {β γ δ : Type} (f : β → γ) (g : β → δ) : ∀ l : List β, (l.map f).zip (l.map g) = l.map fun a => (f a, g a)
  | [] => rfl
  | a :: l => by
    rw [List.map_cons, List.map_cons, List.zip_cons_cons, zipmm f g l]
    rfl
theorem row_zip (x y : α) : (rowD x).zip (rowD y) = (List.range (d (α := α))).map fun j => (D.int (dg j x : Nat), D.int (dg j y : Nat)) := zipmm _ _ _
theorem dg_z (j : Nat) : dg j (0 : α) = 0 := cd_eq0.mp (cd_z j)
theorem dg_nat (j : Nat) (y : α) : ∀ t : Nat, dg j ((t : α) * y) = t * dg j y % p (α := α)
  | 0 => by rw [show ((0 : Nat) : α) * y = 0 by grind, dg_z, Nat.zero_mul, Nat.zero_mod]
  | t + 1 => by
    rw [cast_succ, show ((t : α) + 1) * y = (t : α) * y + y by grind, dg_add, dg_nat j y t, Nat.succ_mul, Nat.mod_add_mod]
theorem dg_sub (j : Nat) (x y : α) (T : Nat) (h : dg j y = T % p (α := α)) : ((dg j (x - y) : Nat) : Int) = ((dg j x : Nat) - (T : Int)) % (p (α := α) : Int) := by
  have h1 := dg_add j (x - y) y
  rw [show x - y + y = x by grind, h] at h1
  have h2 := dg_lt j (x - y)
  rcases p23 (α := α) with q | q <;> rw [q] at h1 h2 ⊢ <;> omega
theorem dg_lin (j : Nat) (x y : α) (t : Nat) : ((dg j x : Nat) - (t : Int) * (dg j y : Nat)) % (p (α := α) : Int) = ((dg j (x - (t : α) * y) : Nat) : Int) := by
  rw [dg_sub j x _ (t * dg j y) (dg_nat j y t), Int.natCast_mul]
theorem lc_range {ρ : En} {w : Wd} {bnd : D → En → En} {fe : FE} (g : Nat → D) (k : Nat) (h : ∀ i, i < k → fe (bnd (.int (i : Nat)) ρ) w = some (g i, w)) : lcLoop bnd ftYes fe ((List.range k).map fun (i : Nat) => D.int (i : Int)) ρ w = some ((List.range k).map g, w) :=
  lc_map (fun (i : Nat) => D.int (i : Int)) g _ fun i hi => h i (List.mem_range.mp hi)
theorem m_less (x y : α) (t : Nat) (ht : t < 4) (w : Wd) : m_less_multiple [.int (p (α := α) : Nat), .lst (rowD x), .int (t : Nat), .lst (rowD y)] w = some (.lst (rowD (x - (t : α) * y)), w) := by
  have hp : 0 < p (α := α) := p_pos
  have lc := lc_map (ρ := [.val (.int (p (α := α) : Nat)), .val (.lst (rowD x)), .val (.int (t : Nat)), .val (.lst (rowD y)), .no, .no]) (w := w) (bnd := bnd2 4 5) (fe := fOp dMod (fOp dSub (fVarB 4) (fOp dMul (fVarB 2) (fVarB 5))) (fVarB 0)) (fun j => (D.int (dg j x : Nat), D.int (dg j y : Nat))) (fun j => D.int (dg j (x - (t : α) * y) : Nat)) (List.range (d (α := α))) (fun j hj => by
    have l := dg_lin j x y t
    have s : small64 (t : Int) = true := small_nat (by omega)
    generalize ((dg j (x - (t : α) * y) : Nat) : Int) = R at l ⊢
    generalize ((dg j x : Nat) : Int) = X at l ⊢
    generalize ((dg j y : Nat) : Int) = Y at l ⊢
    generalize (t : Int) = T at l s ⊢
    simp [hp, s, l])
  rw [← row_zip] at lc
  have hl : ((rowD x).zip (rowD y)).length ≤ 100000 := by
    rw [List.length_zip, rowD_len, rowD_len]
    have := d_le (α := α)
    omega
  refine fn_rt ?_
  simp only [f_less_multiple, r_fRet, r_asE, r_fLc, r_fZip, r_fVar, List.map_cons, List.map_nil, List.length_cons, List.length_nil]
  simp [hl, lc, -List.length_zip]
  rfl
variable (α) in
abbrev pI : D := .int (p (α := α) : Nat)
variable (α) in
abbrev dI' : D := .int (d (α := α) : Nat)
def rowsD (k : Bool) (xs : List α) : List D := xs.map fun x => sq k (rowD x)
theorem rowsD_t (xs : List α) : rowsD true xs = xs.map fun x => .lst (rowD x) := rfl
theorem rowsD_len (k : Bool) (xs : List α) : (rowsD k xs).length = xs.length := List.length_map ..
/-- finding the first row with a digit at the place -/
theorem loop_find (place : Nat) (hp : place < d (α := α)) (s0 s1 s2 s3 s5 s9 s10 : Sl) (w : Wd) : ∀ (l : List α) (i : Nat) (spot : D) (j8 j4 : Sl), ∃ j8' j4', findLoop 8 4 7 (ftVal (fOp dNe (fOp dIx (fVarB 4) (fVarB 6)) (fC (.int 0)))) (enumD i (rowsD true l)) [s0, s1, s2, s3, j4, s5, .val (.int (place : Nat)), .val spot, j8, s9, s10] w =
    some ([s0, s1, s2, s3, j4', s5, .val (.int (place : Nat)), .val (match l.findIdx? (fun x => decide (dg place x ≠ 0)) with
      | some k => .int ((i + k : Nat) : Int)
      | none => spot), j8', s9, s10], w)
  | [], i, spot, j8, j4 => ⟨j8, j4, rfl⟩
  | a :: l, i, spot, j8, j4 => by
    have at_ := row_at a hp
    have ht : (ftVal (fOp dNe (fOp dIx (fVarB 4) (fVarB 6)) (fC (.int 0)))) (bnd2 8 4 (.int (i : Nat), .lst (rowD a)) [s0, s1, s2, s3, j4, s5, .val (.int (place : Nat)), .val spot, j8, s9, s10]) w = some (decide (dg place a ≠ 0), w) := by
      simp [at_]
    have un : findLoop 8 4 7 (ftVal (fOp dNe (fOp dIx (fVarB 4) (fVarB 6)) (fC (.int 0)))) (enumD i (rowsD true (a :: l))) [s0, s1, s2, s3, j4, s5, .val (.int (place : Nat)), .val spot, j8, s9, s10] w =
      if decide (dg place a ≠ 0) = true then findSet 8 7 [s0, s1, s2, s3, .val (.lst (rowD a)), s5, .val (.int (place : Nat)), .val spot, .val (.int (i : Nat)), s9, s10] w
      else findLoop 8 4 7 (ftVal (fOp dNe (fOp dIx (fVarB 4) (fVarB 6)) (fC (.int 0)))) (enumD (i + 1) (rowsD true l)) [s0, s1, s2, s3, .val (.lst (rowD a)), s5, .val (.int (place : Nat)), .val spot, .val (.int (i : Nat)), s9, s10] w := by
      show ((ftVal (fOp dNe (fOp dIx (fVarB 4) (fVarB 6)) (fC (.int 0)))) (bnd2 8 4 (.int (i : Nat), .lst (rowD a)) _) w).bind _ = _
      rw [ht]
      rfl
    rw [un, List.findIdx?_cons]
    by_cases z : dg place a ≠ 0
    · rw [if_pos (decide_eq_true z), if_pos (decide_eq_true z)]
      exact ⟨.val (.int (i : Nat)), .val (.lst (rowD a)), rfl⟩
    · rw [if_neg (by rw [decide_eq_true_iff]; exact z), if_neg (by rw [decide_eq_true_iff]; exact z)]
      obtain ⟨j8', j4', ih⟩ := loop_find place hp s0 s1 s2 s3 s5 s9 s10 w l (i + 1) spot (.val (.int (i : Nat))) (.val (.lst (rowD a)))
      refine ⟨j8', j4', ?_⟩
      rw [ih]
      cases l.findIdx? (fun x => decide (dg place x ≠ 0)) with
      | none => rfl
      | some k =>
        show some ([_, _, _, _, _, _, _, Sl.val (.int ((i + 1 + k : Nat) : Int)), _, _, _], w) = some ([_, _, _, _, _, _, _, Sl.val (.int ((i + (k + 1) : Nat) : Int)), _, _, _], w)
        rw [show i + 1 + k = i + (k + 1) by omega]
end
end K39
end
section
set_option maxRecDepth 100000
set_option autoImplicit false
/-! QA: reduced_rows is gauss -/
namespace K39
open Lean.Grind FF FD FX
section
variable {α : Type} [FX α]
theorem rowsD_get (xs : List α) (i : Nat) : (rowsD true xs)[i]? = (xs[i]?).map fun x => .lst (rowD x) := List.getElem?_map ..
theorem rowsD_erase (xs : List α) (i : Nat) : (rowsD true xs).eraseIdx i = rowsD true (xs.eraseIdx i) := by
  have main : ∀ (l : List α) (i : Nat), (l.map fun x => D.lst (rowD x)).eraseIdx i = (l.eraseIdx i).map fun x => D.lst (rowD x) := fun l => by
    induction l with
    | nil => exact fun _ => rfl
    | cons a l ih =>
      intro i
      cases i with
      | zero => rfl
      | succ i =>
        show D.lst (rowD a) :: (l.map fun x => D.lst (rowD x)).eraseIdx i = D.lst (rowD a) :: (l.eraseIdx i).map fun x => D.lst (rowD x)
        rw [ih i]
  exact main xs i
theorem lc_less {ρ : En} {w : Wd} {place : Nat} (hp : place < d (α := α)) (m : α) (h0 : ∀ D0 : Sl, (ρ.set 4 D0)[0]? = some (.val (pI α))) (h4 : ∀ D0 : Sl, (ρ.set 4 D0)[4]? = some D0) (h6 : ∀ D0 : Sl, (ρ.set 4 D0)[6]? = some (.val (.int (place : Nat)))) (h9 : ∀ D0 : Sl, (ρ.set 4 D0)[9]? = some (.val (.lst (rowD m)))) (l : List α) :
    lcLoop (bnd1 4) ftYes (fCall m_less_multiple [] 4 (fCons (fVar 0) (fCons (fVar 4) (fCons (fOp dIx (fVarB 4) (fVarB 6)) (fCons (fVar 9) fNil))))) (rowsD true l) ρ w = some (rowsD true (l.map fun x => x - cd place x * m), w) := by
  have := lc_map (ρ := ρ) (w := w) (bnd := bnd1 4) (fe := fCall m_less_multiple [] 4 (fCons (fVar 0) (fCons (fVar 4) (fCons (fOp dIx (fVarB 4) (fVarB 6)) (fCons (fVar 9) fNil))))) (fun x : α => D.lst (rowD x)) (fun x => D.lst (rowD (x - cd place x * m))) l (fun x _ => by
    have at_ := row_at x hp
    have le := m_less x m (dg place x) (by have := dg_lt place x; have := p_le (α := α); omega) w
    simp [h0, h4, h6, h9, at_, le]
    rfl)
  rw [rowsD_t, rowsD_t, List.map_map]
  exact this
theorem step_reduced (R : Sl) (place : Nat) (hp : place < d (α := α)) (left done : List α) (hl : left.length < 900) (hd : done.length < 900) (j4 j6 j7 j8 j9 j10 : Sl) (w : Wd) : ∃ ρ', (∃ j4' j6' j7' j8' j9' j10', ρ' = [.val (pI α), .val (dI' α), R, .own (rowsD true (gstep place (left, done)).1), j4', .own (rowsD true (gstep place (left, done)).2), j6', j7', j8', j9', j10']) ∧
    (b_reduced_rows_1 (bnd1 6 (.int (place : Nat)) [.val (pI α), .val (dI' α), R, .own (rowsD true left), j4, .own (rowsD true done), j6, j7, j8, j9, j10]) w = some (.nx ρ', w) ∨ b_reduced_rows_1 (bnd1 6 (.int (place : Nat)) [.val (pI α), .val (dI' α), R, .own (rowsD true left), j4, .own (rowsD true done), j6, j7, j8, j9, j10]) w = some (.ct ρ', w)) := by
  obtain ⟨j8', j4', hf⟩ := loop_find place hp (.val (pI α)) (.val (dI' α)) R (.own (rowsD true left)) (.own (rowsD true done)) j9 j10 w left 0 (.int (-1)) j8 j4
  have pp : 0 < p (α := α) := p_pos
  cases hi : left.findIdx? (fun x => decide (dg place x ≠ 0)) with
  | none =>
    rw [hi] at hf
    have g : gstep place (left, done) = (left, done) := by
      unfold gstep
      rw [hi]
    refine ⟨_, ⟨j4', .val (.int (place : Nat)), .val (.int (-1)), j8', j9, j10, rfl⟩, .inr ?_⟩
    rw [g]
    refine seq_w [.val (pI α), .val (dI' α), R, .own (rowsD true left), j4, .own (rowsD true done), .val (.int (place : Nat)), .val (.int (-1)), j8, j9, j10] (by simp) (seq_w [.val (pI α), .val (dI' α), R, .own (rowsD true left), j4', .own (rowsD true done), .val (.int (place : Nat)), .val (.int (-1)), j8', j9, j10] ?_ ?_)
    · simp only [r_fFind, r_fEnum, r_fVarB, List.getElem?_cons_succ, List.getElem?_cons_zero, Option.bind_some, it_l, Option.map_some]
      rw [hf]
      rfl
    · rw [r_fSeq]
      simp
  | some i =>
    rw [hi] at hf
    obtain ⟨hil, hpi, _⟩ := List.findIdx?_eq_some_iff_getElem.mp hi
    generalize hl0 : left[i] = l
    have gl : left[i]? = some l := by rw [List.getElem?_eq_getElem hil, hl0]
    generalize hm : cd place l * l = m
    have g : gstep place (left, done) = ((left.eraseIdx i).map fun x => x - cd place x * m, (done.map fun x => x - cd place x * m) ++ [m]) := by
      unfold gstep
      rw [hi]
      show (match left[i]? with
        | none => (left, done)
        | some l => _) = _
      rw [gl, ← hm]
    rw [g]
    have hf : findLoop 8 4 7 (ftVal (fOp dNe (fOp dIx (fVarB 4) (fVarB 6)) (fC (.int 0)))) (enumD 0 (rowsD true left)) [.val (pI α), .val (dI' α), R, .own (rowsD true left), j4, .own (rowsD true done), .val (.int (place : Nat)), .val (.int (-1)), j8, j9, j10] w = some ([.val (pI α), .val (dI' α), R, .own (rowsD true left), j4', .own (rowsD true done), .val (.int (place : Nat)), .val (.int (i : Nat)), j8', j9, j10], w) := by
      rw [hf]
      show some ([_, _, _, _, _, _, _, Sl.val (.int ((0 + i : Nat) : Int)), _, _, _], w) = _
      rw [Nat.zero_add]
    have at_ := row_at l hp
    have lead := lc_map (ρ := [.val (pI α), .val (dI' α), R, .own (rowsD true (left.eraseIdx i)), j4', .own (rowsD true done), .val (.int (place : Nat)), .val (.int (i : Nat)), j8', .val (.lst (rowD l)), .no]) (w := w) (bnd := bnd1 10) (fe := fOp dMod (fOp dMul (fOp dIx (fVarB 9) (fVarB 6)) (fVarB 10)) (fVarB 0)) (fun j : Nat => D.int (dg j l : Nat)) (fun j => D.int (dg j m : Nat)) (List.range (d (α := α))) (fun j hj => by
      have e : ((dg place l : Nat) : Int) * ((dg j l : Nat) : Int) % (p (α := α) : Int) = ((dg j m : Nat) : Int) := by
        rw [← hm]
        show _ = ((dg j (((dg place l : Nat) : α) * l) : Nat) : Int)
        rw [dg_nat, Int.natCast_emod, Int.natCast_mul]
      have s : small64 ((dg place l : Nat) : Int) = true := small_nat (by have := dg_lt place l; have := p_le (α := α); omega)
      generalize ((dg j m : Nat) : Int) = Z at e ⊢
      generalize ((dg place l : Nat) : Int) = X at e s at_ ⊢
      generalize ((dg j l : Nat) : Int) = Y at e ⊢
      simp [at_, s, pp, e])
    have lead : lcLoop (bnd1 10) ftYes (fOp dMod (fOp dMul (fOp dIx (fVarB 9) (fVarB 6)) (fVarB 10)) (fVarB 0)) (rowD l) [.val (pI α), .val (dI' α), R, .own (rowsD true (left.eraseIdx i)), j4', .own (rowsD true done), .val (.int (place : Nat)), .val (.int (i : Nat)), j8', .val (.lst (rowD l)), .no] w = some (rowD m, w) := lead
    have c0 : (rowD l).length ≤ 100000 := by rw [rowD_len]; have := d_le (α := α); omega
    have c1 : (rowsD true (left.eraseIdx i)).length ≤ 100000 := by rw [rowsD_len]; have := List.length_eraseIdx_le left i; omega
    have c2 : (rowsD true done).length ≤ 100000 := by rw [rowsD_len]; omega
    refine ⟨_, ⟨j4', .val (.int (place : Nat)), .val (.int (i : Nat)), j8', .val (.lst (rowD m)), j10, rfl⟩, .inl ?_⟩
    refine seq_w [.val (pI α), .val (dI' α), R, .own (rowsD true left), j4, .own (rowsD true done), .val (.int (place : Nat)), .val (.int (-1)), j8, j9, j10] (by simp) (seq_w [.val (pI α), .val (dI' α), R, .own (rowsD true left), j4', .own (rowsD true done), .val (.int (place : Nat)), .val (.int (i : Nat)), j8', j9, j10] ?_ (seq_w [.val (pI α), .val (dI' α), R, .own (rowsD true left), j4', .own (rowsD true done), .val (.int (place : Nat)), .val (.int (i : Nat)), j8', j9, j10] ?_
      (seq_w [.val (pI α), .val (dI' α), R, .own (rowsD true (left.eraseIdx i)), j4', .own (rowsD true done), .val (.int (place : Nat)), .val (.int (i : Nat)), j8', .val (.lst (rowD l)), j10] ?_ (seq_w [.val (pI α), .val (dI' α), R, .own (rowsD true (left.eraseIdx i)), j4', .own (rowsD true done), .val (.int (place : Nat)), .val (.int (i : Nat)), j8', .val (.lst (rowD m)), j10] ?_
      (seq_w [.val (pI α), .val (dI' α), R, .own (rowsD true ((left.eraseIdx i).map fun x => x - cd place x * m)), j4', .own (rowsD true done), .val (.int (place : Nat)), .val (.int (i : Nat)), j8', .val (.lst (rowD m)), j10] ?_ (seq_w [.val (pI α), .val (dI' α), R, .own (rowsD true ((left.eraseIdx i).map fun x => x - cd place x * m)), j4', .own (rowsD true (done.map fun x => x - cd place x * m)), .val (.int (place : Nat)), .val (.int (i : Nat)), j8', .val (.lst (rowD m)), j10] ?_ ?_))))))
    · simp only [r_fFind, r_fEnum, r_fVarB, List.getElem?_cons_succ, List.getElem?_cons_zero, Option.bind_some, it_l, Option.map_some]
      rw [hf]
      rfl
    · have : ¬ ((i : Int) < 0) := by omega
      simp [this]
    · have k1 : (i : Int) < ((rowsD true left).length : Int) := by rw [rowsD_len]; omega
      have k2 : (i : Int) < 1000 := by omega
      have k3 := rowsD_get left i
      rw [gl] at k3
      have k4 := rowsD_erase left i
      simp only [r_fPop, List.getElem?_cons_succ, List.getElem?_cons_zero, r_fVar, Option.bind_some, Int.toNat_natCast]
      rw [if_pos ⟨by omega, k1, k2⟩, k3, k4]
      rfl
    · simp [c0, lead]
    · have lc := lc_less (ρ := [.val (pI α), .val (dI' α), R, .own (rowsD true (left.eraseIdx i)), .no, .own (rowsD true done), .val (.int (place : Nat)), .val (.int (i : Nat)), j8', .val (.lst (rowD m)), j10]) (w := w) hp m (fun _ => rfl) (fun _ => rfl) (fun _ => rfl) (fun _ => rfl) (left.eraseIdx i)
      simp only [r_fOwn, r_fLc, r_fItems, r_fVarB, List.getElem?_cons_succ, List.getElem?_cons_zero, Option.bind_some, it_l, Option.map_some, r_wipeC, r_wipeN, List.set_cons_succ, List.set_cons_zero, cap_v]
      rw [if_pos c1, lc]
      rfl
    · have lc := lc_less (ρ := [.val (pI α), .val (dI' α), R, .own (rowsD true ((left.eraseIdx i).map fun x => x - cd place x * m)), .no, .own (rowsD true done), .val (.int (place : Nat)), .val (.int (i : Nat)), j8', .val (.lst (rowD m)), j10]) (w := w) hp m (fun _ => rfl) (fun _ => rfl) (fun _ => rfl) (fun _ => rfl) done
      simp only [r_fOwn, r_fLc, r_fItems, r_fVarB, List.getElem?_cons_succ, List.getElem?_cons_zero, Option.bind_some, it_l, Option.map_some, r_wipeC, r_wipeN, List.set_cons_succ, List.set_cons_zero, cap_v]
      rw [if_pos c2, lc]
      rfl
    · have c3 : (rowsD true (done.map fun x => x - cd place x * m)).length < 100000 := by rw [rowsD_len, List.length_map]; omega
      have ap : rowsD true (done.map fun x => x - cd place x * m) ++ [.lst (rowD m)] = rowsD true ((done.map fun x => x - cd place x * m) ++ [m]) := by
        rw [rowsD_t, rowsD_t, List.map_append]
        rfl
      simp [c3, ap]
theorem gstep_len (place : Nat) (left done : List α) : (gstep place (left, done)).1.length ≤ left.length ∧ (gstep place (left, done)).2.length ≤ done.length + 1 := by
  unfold gstep
  split
  · exact ⟨Nat.le_refl _, Nat.le_succ _⟩
  · split
    · exact ⟨Nat.le_refl _, Nat.le_succ _⟩
    · refine ⟨?_, ?_⟩
      · rw [List.length_map]
        exact List.length_eraseIdx_le ..
      · rw [List.length_append, List.length_map]
        exact Nat.le_refl _
theorem loop_reduced (R : Sl) (w : Wd) : ∀ (c : List Nat) (s : List α × List α) (j4 j6 j7 j8 j9 j10 : Sl), (∀ j, j ∈ c → j < d (α := α)) → s.1.length < 900 → s.2.length + c.length < 900 → ∃ j4' j6' j7' j8' j9' j10', forLoop (bnd1 6) b_reduced_rows_1 (c.map fun (i : Nat) => D.int (i : Int)) [.val (pI α), .val (dI' α), R, .own (rowsD true s.1), j4, .own (rowsD true s.2), j6, j7, j8, j9, j10] w =
    some (.nx [.val (pI α), .val (dI' α), R, .own (rowsD true (c.foldl (fun s j => gstep j s) s).1), j4', .own (rowsD true (c.foldl (fun s j => gstep j s) s).2), j6', j7', j8', j9', j10'], w)
  | [], s, j4, j6, j7, j8, j9, j10, _, _, _ => ⟨j4, j6, j7, j8, j9, j10, rfl⟩
  | place :: c, (left, done), j4, j6, j7, j8, j9, j10, h1, h2, h3 => by
    rw [List.length_cons] at h3
    have h2 : left.length < 900 := h2
    have h3 : done.length + (c.length + 1) < 900 := h3
    obtain ⟨ρ', ⟨k4, k6, k7, k8, k9, k10, rfl⟩, hb⟩ := step_reduced R place (h1 place (List.mem_cons_self ..)) left done h2 (by omega) j4 j6 j7 j8 j9 j10 w
    have gl := gstep_len place left done
    obtain ⟨m4, m6, m7, m8, m9, m10, ih⟩ := loop_reduced R w c (gstep place (left, done)) k4 k6 k7 k8 k9 k10 (fun j m => h1 j (List.mem_cons_of_mem _ m)) (by omega) (by omega)
    refine ⟨m4, m6, m7, m8, m9, m10, ?_⟩
    rw [List.map_cons, fl_cons]
    rcases hb with hb | hb <;> rw [hb] <;> exact ih
theorem m_reduced (k : Bool) (xs : List α) (hx : xs.length < 800) (w : Wd) : m_reduced_rows [pI α, dI' α, .lst (rowsD k xs)] w = some (.tup (rowsD false (gauss xs)), w) := by
  have c : (rowsD k xs).length ≤ 100000 := by rw [rowsD_len]; omega
  have hd := d_le (α := α)
  have l1 := lc_map (ρ := [.val (pI α), .val (dI' α), .val (.lst (rowsD k xs)), .no, .no, .no, .no, .no, .no, .no, .no]) (w := w) (bnd := bnd1 4) (fe := asE (fOpN1 nList (fVarB 4))) (fun x : α => sq k (rowD x)) (fun x => D.lst (rowD x)) xs (fun x _ => by simp)
  obtain ⟨j4, j6, j7, j8, j9, j10, f⟩ := loop_reduced (.val (.lst (rowsD k xs))) w (List.range (d (α := α))) (xs, []) .no .no .no .no .no .no (fun j m => List.mem_range.mp m) (by show xs.length < 900; omega) (by rw [List.length_range]; show 0 + d (α := α) < 900; omega)
  generalize hG : (List.range (d (α := α))).foldl (fun s j => gstep j s) (xs, []) = G at f
  have hg : gauss xs = G.2 := by rw [← hG]; rfl
  have hGl : G.2.length ≤ 900 := by
    have main : ∀ (c : List Nat) (s : List α × List α), (c.foldl (fun s j => gstep j s) s).2.length ≤ s.2.length + c.length := fun c => by
      induction c with
      | nil => exact fun s => Nat.le_refl _
      | cons a c ih =>
        intro s
        have := ih (gstep a s)
        have h2 := (gstep_len a s.1 s.2).2
        rw [show gstep a (s.1, s.2) = gstep a s from rfl] at h2
        rw [List.foldl_cons, List.length_cons]
        omega
    have := main (List.range (d (α := α))) (xs, [])
    rw [hG, List.length_range] at this
    have e : (xs, ([] : List α)).2.length = 0 := rfl
    omega
  have c2 : (rowsD true G.2).length ≤ 100000 := by rw [rowsD_len]; omega
  have l2 := lc_map (ρ := [.val (pI α), .val (dI' α), .val (.lst (rowsD k xs)), .own (rowsD true G.1), .no, .own (rowsD true G.2), j6, j7, j8, j9, j10]) (w := w) (bnd := bnd1 4) (fe := fOp1 dTuple (fVarB 4)) (fun x : α => D.lst (rowD x)) (fun x => D.tup (rowD x)) G.2 (fun x _ => by simp)
  have hr : rng [dI' α] = some ((List.range (d (α := α))).map fun (i : Nat) => D.int (i : Int)) := by
    rw [o_rng1, if_pos (big_nat (by omega)), Int.toNat_natCast, rangeD_nat]
  rw [hg]
  refine fn_rt (seq_w [.val (pI α), .val (dI' α), .val (.lst (rowsD k xs)), .own (rowsD true xs), .no, .no, .no, .no, .no, .no, .no] ?_ (seq_w [.val (pI α), .val (dI' α), .val (.lst (rowsD k xs)), .own (rowsD true xs), .no, .own (rowsD true ([] : List α)), .no, .no, .no, .no, .no] (by simp; rfl) (seq_w [.val (pI α), .val (dI' α), .val (.lst (rowsD k xs)), .own (rowsD true G.1), j4, .own (rowsD true G.2), j6, j7, j8, j9, j10] ?_ ?_)))
  · simp only [r_fOwn, r_fLc, r_fItems, r_fVarB, List.map_cons, List.map_nil, List.length_cons, List.length_nil, List.cons_append, List.getElem?_cons_succ, List.getElem?_cons_zero, Option.bind_some, it_l, Option.map_some, r_wipeC, r_wipeN, List.set_cons_succ, List.set_cons_zero, cap_v]
    rw [if_pos c]
    show Option.map _ (lcLoop (bnd1 4) ftYes _ (xs.map fun x => sq k (rowD x)) [.val (pI α), .val (dI' α), .val (.lst (rowsD k xs)), .no, .no, .no, .no, .no, .no, .no, .no] w) = _
    rw [l1]
    rfl
  · simp only [r_fFor, r_fRng, r_fCons, r_fNil, r_fVar, List.getElem?_cons_succ, List.getElem?_cons_zero, Option.bind_some, Option.map_some]
    rw [hr]
    exact f
  · simp only [r_fRet, r_fOp1, r_asE, r_fLc, r_fItems, r_fVarB, List.getElem?_cons_succ, List.getElem?_cons_zero, Option.bind_some, it_l, Option.map_some, r_wipeC, r_wipeN, List.set_cons_succ, List.set_cons_zero, cap_v]
    rw [if_pos c2]
    show Option.map _ (Option.bind (Option.map _ (lcLoop (bnd1 4) ftYes _ (G.2.map fun x => D.lst (rowD x)) [.val (pI α), .val (dI' α), .val (.lst (rowsD k xs)), .own (rowsD true G.1), .no, .own (rowsD true G.2), j6, j7, j8, j9, j10] w)) _) = _
    rw [l2]
    rfl
end
end K39
end
section
set_option maxRecDepth 100000
set_option autoImplicit false
/-! QB: contrary -/
namespace K39
open Lean.Grind FF FD FX
section
variable {α : Type} [FX α]
theorem enum_row (x : α) : enumD 0 (rowD x) = (List.range (d (α := α))).map fun (j : Nat) => (D.int (j : Int), D.int (dg j x : Nat)) := by
  refine List.ext_getElem? fun k => ?_
  rw [enumD_get, List.getElem?_map]
  rcases Nat.lt_or_ge k (d (α := α)) with q | q
  · rw [row_get x q, List.getElem?_range q, Nat.zero_add]
    rfl
  · rw [List.getElem?_eq_none_iff.mpr (show (rowD x).length ≤ k by rw [rowD_len]; exact q), List.getElem?_eq_none_iff.mpr (show (List.range (d (α := α))).length ≤ k by rw [List.length_range]; exact q)]
    rfl
theorem loop_lead (X : Sl) (x : α) (w : Wd) : ∀ (c : List Nat) (j1 j2 : Sl), ∃ j1' j2', forLoop (bnd2 1 2) b_lead_of_1 (c.map fun (j : Nat) => (D.int (j : Int), D.int (dg j x : Nat))) [X, j1, j2] w = match c.find? (fun j => decide (dg j x ≠ 0)) with
    | some q => some (.rt (.int (q : Nat)), w)
    | none => some (.nx [X, j1', j2'], w)
  | [], j1, j2 => ⟨j1, j2, rfl⟩
  | a :: c, j1, j2 => by
    obtain ⟨j1', j2', ih⟩ := loop_lead X x w c (.val (.int (a : Nat))) (.val (.int (dg a x : Nat)))
    refine ⟨j1', j2', ?_⟩
    rw [List.map_cons, fl_cons, List.find?_cons]
    by_cases z : dg a x = 0
    · have hb : b_lead_of_1 (bnd2 1 2 (.int (a : Nat), .int (dg a x : Nat)) [X, j1, j2]) w = some (.nx [X, .val (.int (a : Nat)), .val (.int (dg a x : Nat))], w) := by
        simp [b_lead_of_1, z]
      rw [hb]
      have : decide (dg a x ≠ 0) = false := by simp [z]
      rw [this]
      exact ih
    · have hb : b_lead_of_1 (bnd2 1 2 (.int (a : Nat), .int (dg a x : Nat)) [X, j1, j2]) w = some (.rt (.int (a : Nat)), w) := by
        simp [b_lead_of_1, z]
      rw [hb]
      have : decide (dg a x ≠ 0) = true := by simp [z]
      rw [this]
      rfl
theorem m_lead (k : Bool) (x : α) (w : Wd) : m_lead_of [sq k (rowD x)] w = some (.int (first x : Nat), w) := by
  obtain ⟨j1, j2, h⟩ := loop_lead (.val (sq k (rowD x))) x w (List.range (d (α := α))) .no .no
  rw [← enum_row] at h
  unfold first
  cases hf : (List.range (d (α := α))).find? (fun j => decide (dg j x ≠ 0)) with
  | some q =>
    rw [hf] at h
    refine fn_rt ?_
    show fSeq _ _ _ _ = _
    rw [r_fSeq]
    simp [h]
  | none =>
    rw [hf] at h
    refine fn_rt (seq_w [.val (sq k (rowD x)), j1, j2] ?_ ?_)
    · simp [h]
    · simp [rowD_len]
theorem loop_lfirst (X : Sl) (x : α) (w : Wd) : ∀ (c : List Nat) (j1 j2 : Sl), ∃ j1' j2', forLoop (bnd2 1 2) b_l_first_1 (c.map fun (j : Nat) => (D.int (j : Int), D.int (dg j x : Nat))) [X, j1, j2] w = match c.find? (fun j => decide (dg j x ≠ 0)) with
    | some q => some (.rt (.int (q : Nat)), w)
    | none => some (.nx [X, j1', j2'], w) := loop_lead X x w
theorem m_lfirst (k : Bool) (x : α) (w : Wd) : m_l_first [sq k (rowD x)] w = some (.int (first x : Nat), w) := m_lead k x w
theorem all_true {β : Type} : ∀ l : List β, dAll (.lst (l.map fun _ => .bl true)) = some (.bl true) := fun l => by
  have h : unBls (l.map fun _ => D.bl true) = some (l.map fun _ => true) := by
    induction l with
    | nil => rfl
    | cons a l ih =>
      show (unBls (l.map fun _ => D.bl true)).map (true :: ·) = _
      rw [ih]
      rfl
  show (unBls (l.map fun _ => D.bl true)).map (fun bs => D.bl (bs.all id)) = _
  rw [h]
  show some (D.bl ((l.map fun _ => true).all id)) = _
  rw [show (l.map fun _ => true).all id = true by rw [List.all_eq_true]; intro x hx; obtain ⟨_, _, rfl⟩ := List.mem_map.mp hx; rfl]
theorem m_digrow (k : Bool) (x : α) (w : Wd) : m_is_digit_row [pI α, dI' α, sq k (rowD x)] w = some (.bl true, w) := by
  have lc := lc_map (ρ := [.val (pI α), .val (dI' α), .val (sq k (rowD x)), .no]) (w := w) (bnd := bnd1 3) (fe := fCall m_is_whole [] 3 (fCons (fVar 3) (fCons (fC (.int 0)) (fCons (fOp dSub (fVarB 0) (fC (.int 1))) fNil)))) (fun j : Nat => D.int (dg j x : Nat)) (fun _ => D.bl true) (List.range (d (α := α))) (fun j _ => by
    have t := m_whole ((dg j x : Nat) : Int) 0 ((p (α := α) : Nat) - 1) (by omega) (by have := dg_lt j x; omega) w
    simp [t])
  have lc : lcLoop (bnd1 3) ftYes (fCall m_is_whole [] 3 (fCons (fVar 3) (fCons (fC (.int 0)) (fCons (fOp dSub (fVarB 0) (fC (.int 1))) fNil)))) (rowD x) [.val (pI α), .val (dI' α), .val (sq k (rowD x)), .no] w = some ((List.range (d (α := α))).map (fun _ => D.bl true), w) := lc
  have c : d (α := α) ≤ 100000 := by have := d_le (α := α); omega
  have at_ := all_true (List.range (d (α := α)))
  refine fn_rt (seq_w [.val (pI α), .val (dI' α), .val (sq k (rowD x)), .no] ?_ ?_)
  · simp [m_seq, rowD_len]
  · simp only [r_fRet, r_fOp1, r_asE, r_fLc, r_fItems, r_fVarB, List.map_cons, List.map_nil, List.length_cons, List.length_nil, List.cons_append, List.getElem?_cons_succ, List.getElem?_cons_zero, Option.bind_some, sq_items, Option.map_some, r_wipeC, r_wipeN, List.set_cons_succ, List.set_cons_zero, cap_v]
    rw [if_pos (by rw [rowD_len]; exact c), lc]
    show Option.map _ (Option.bind (some (D.lst _, w)) _) = _
    simp only [Option.bind_some]
    rw [at_]
    rfl
theorem loop_checked (R : Sl) (w : Wd) (k : Bool) : ∀ (l : List α) (i : Nat) (j3 j4 : Sl), ∃ j3' j4', forLoop (bnd2 3 4) b_checked_rows_1 (enumD i (rowsD k l)) [.val (pI α), .val (dI' α), R, j3, j4] w = some (.nx [.val (pI α), .val (dI' α), R, j3', j4'], w)
  | [], i, j3, j4 => ⟨j3, j4, rfl⟩
  | a :: l, i, j3, j4 => by
    obtain ⟨j3', j4', ih⟩ := loop_checked R w k l (i + 1) (.val (.int (i : Nat))) (.val (sq k (rowD a)))
    refine ⟨j3', j4', ?_⟩
    have t := m_digrow k a w
    have hb : b_checked_rows_1 (bnd2 3 4 (.int (i : Nat), sq k (rowD a)) [.val (pI α), .val (dI' α), R, j3, j4]) w = some (.nx [.val (pI α), .val (dI' α), R, .val (.int (i : Nat)), .val (sq k (rowD a))], w) := by
      simp [b_checked_rows_1, t]
    show forLoop (bnd2 3 4) b_checked_rows_1 ((.int (i : Nat), sq k (rowD a)) :: enumD (i + 1) (rowsD k l)) _ w = _
    rw [fl_cons, hb]
    exact ih
theorem m_checkedr (kc k : Bool) (xs : List α) (hx : xs.length < 800) (w : Wd) : m_checked_rows [pI α, dI' α, sq kc (rowsD k xs)] w = some (.lst (rowsD false xs), w) := by
  obtain ⟨j3, j4, f⟩ := loop_checked (.val (sq kc (rowsD k xs))) w k xs 0 .no .no
  have lc := lc_map (ρ := [.val (pI α), .val (dI' α), .val (sq kc (rowsD k xs)), j3, .no]) (w := w) (bnd := bnd1 4) (fe := fOp1 dTuple (fVarB 4)) (fun x : α => sq k (rowD x)) (fun x => D.tup (rowD x)) xs (fun x _ => by simp)
  have lc : lcLoop (bnd1 4) ftYes (fOp1 dTuple (fVarB 4)) (rowsD k xs) [.val (pI α), .val (dI' α), .val (sq kc (rowsD k xs)), j3, .no] w = some (rowsD false xs, w) := lc
  have c : xs.length ≤ 100000 := by omega
  refine fn_rt (seq_w [.val (pI α), .val (dI' α), .val (sq kc (rowsD k xs)), .no, .no] ?_ (seq_w [.val (pI α), .val (dI' α), .val (sq kc (rowsD k xs)), j3, j4] ?_ ?_))
  · simp [m_seq]
  · simp [f]
  · simp [rowsD_len, c, lc]
theorem m_ech (kc k : Bool) (xs : List α) (hx : xs.length < 800) (w : Wd) : m_echelon [pI α, dI' α, sq kc (rowsD k xs)] w = some (.tup (rowsD false (gauss xs)), w) := by
  have c := m_checkedr kc k xs hx w
  have r := m_reduced false xs hx w
  refine fn_rt ?_
  simp only [f_echelon, r_fRet, r_fCall, r_fCons, r_fNil, r_fVar, List.map_cons, List.map_nil, List.length_cons, List.length_nil, List.cons_append, List.nil_append, List.append_nil, List.getElem?_cons_succ, List.getElem?_cons_zero, Option.bind_some, Option.map_some]
  simp [c, r]

/-! ### contrary -/
theorem row_un {q : Nat} (hq : q < d (α := α)) : (List.replicate (d (α := α)) (D.int 0)).set q (.int 1) = rowD (un q : α) := by
  refine List.ext_getElem? fun j => ?_
  rw [List.getElem?_set, List.length_replicate, List.getElem?_replicate]
  rcases Nat.lt_or_ge j (d (α := α)) with h | h
  · rw [row_get _ h, dg_un j q h hq]
    by_cases z : q = j
    · rw [if_pos z, if_pos hq, if_pos z.symm]
      rfl
    · rw [if_neg z, if_pos h, if_neg fun y => z y.symm]
      rfl
  · rw [List.getElem?_eq_none_iff.mpr (show (rowD (un q : α)).length ≤ j by rw [rowD_len]; exact h), if_neg (by omega), if_neg (by omega)]
theorem row_put {e : Nat × α} {q : Nat} {x : α} (he : e.1 < d (α := α)) (h0 : dg e.1 x = 0) : (rowD x).set e.1 (.int (-((dg q e.2 : Nat) : Int) % (p (α := α) : Nat))) = rowD (x - cd q e.2 * un e.1) := by
  refine List.ext_getElem? fun j => ?_
  rw [List.getElem?_set, rowD_len]
  rcases Nat.lt_or_ge j (d (α := α)) with h | h
  · rw [row_get _ h, row_get _ h]
    have l := dg_lin j x (un e.1) (dg q e.2)
    rw [dg_un j e.1 h he] at l
    show _ = some (D.int ((dg j (x - ((dg q e.2 : Nat) : α) * un e.1) : Nat) : Int))
    rw [← l]
    by_cases z : e.1 = j
    · rw [if_pos z, if_pos he, if_pos z.symm, ← z, h0]
      congr 3
      omega
    · rw [if_neg z, if_neg fun y => z y.symm]
      have h2 := dg_lt j x
      congr 2
      rw [Int.emod_eq_of_lt (by omega) (by omega)]
      omega
  · rw [List.getElem?_eq_none_iff.mpr (show (rowD x).length ≤ j by rw [rowD_len]; exact h), List.getElem?_eq_none_iff.mpr (show (rowD (x - cd q e.2 * un e.1)).length ≤ j by rw [rowD_len]; exact h), if_neg (by omega)]
theorem dg_put {e : Nat × α} {q j : Nat} {x : α} (hj : j < d (α := α)) (he : e.1 < d (α := α)) (ne : j ≠ e.1) (h0 : dg j x = 0) : dg j (x - cd q e.2 * un e.1) = 0 := by
  rw [← cd_eq0, cd_sub, cd_cd, cd_un hj he, if_neg ne, cd_eq0.mpr h0]
  grind
def elim (q : Nat) (x : α) (F : List (Nat × α)) : α := F.foldl (fun x e => x - cd q e.2 * un e.1) x
theorem elim_free (E : List (Nat × α)) (q : Nat) : ∀ (F : List (Nat × α)) (x : α), elim q x F = x + (free E q F - un q)
  | [], x => by
    show x = x + (un q - un q)
    grind
  | e :: F, x => by
    show elim q (x - cd q e.2 * un e.1) F = x + ((free E q F - cd q e.2 * un e.1) - un q)
    rw [elim_free E q F]
    grind
theorem loop_contra1 (s2 s3 s4 s6 : Sl) (q : Nat) (hq : q < d (α := α)) (w : Wd) : ∀ (F : List (Nat × α)) (x : α) (j8 j9 : Sl), (F.map (·.1)).Pairwise (· < ·) → (∀ e, e ∈ F → e.1 < d (α := α) ∧ dg e.1 x = 0) → ∃ j8' j9', forLoop (bnd2 8 9) b_contrary_1 (F.map fun e => (D.int (e.1 : Nat), D.tup (rowD e.2))) [.val (pI α), .val (dI' α), s2, s3, s4, .own (rowD x), s6, .val (.int (q : Nat)), j8, j9] w =
    some (.nx [.val (pI α), .val (dI' α), s2, s3, s4, .own (rowD (elim q x F)), s6, .val (.int (q : Nat)), j8', j9'], w)
  | [], x, j8, j9, _, _ => ⟨j8, j9, rfl⟩
  | e :: F, x, j8, j9, h1, h2 => by
    have he := h2 e (List.mem_cons_self ..)
    have hp := List.pairwise_cons.mp h1
    obtain ⟨j8', j9', ih⟩ := loop_contra1 s2 s3 s4 s6 q hq w F (x - cd q e.2 * un e.1) (.val (.int (e.1 : Nat))) (.val (.tup (rowD e.2))) hp.2 (fun f m => by
      have hf := h2 f (List.mem_cons_of_mem _ m)
      have lt : e.1 < f.1 := hp.1 f.1 (List.mem_map_of_mem m)
      exact ⟨hf.1, dg_put hf.1 he.1 (by omega) hf.2⟩)
    refine ⟨j8', j9', ?_⟩
    have at_ := row_at e.2 hq
    have pp : 0 < p (α := α) := p_pos
    have ixn : L2.ixN (rowD x).length (e.1 : Int) = some e.1 := ixN_nat (by rw [rowD_len]; exact he.1)
    have rp := row_put (q := q) he.1 he.2
    have hb : b_contrary_1 (bnd2 8 9 (.int (e.1 : Nat), .tup (rowD e.2)) [.val (pI α), .val (dI' α), s2, s3, s4, .own (rowD x), s6, .val (.int (q : Nat)), j8, j9]) w = some (.nx [.val (pI α), .val (dI' α), s2, s3, s4, .own (rowD (x - cd q e.2 * un e.1)), s6, .val (.int (q : Nat)), .val (.int (e.1 : Nat)), .val (.tup (rowD e.2))], w) := by
      simp [b_contrary_1, at_, pp, ixn, rp]
    rw [List.map_cons, fl_cons, hb]
    exact ih
end
end K39
end
section
set_option maxRecDepth 100000
set_option autoImplicit false
/-! QC: contrary, meet_spaces, things_space, zeros_of -/
namespace K39
open Lean.Grind FF FD FX
section
variable {α : Type} [FX α]
def leadsD (E : List (Nat × α)) : D := .lst (dI (E.map fun e => (e.1 : Int)))
theorem in_leads (E : List (Nat × α)) (q : Nat) : dIn false (.int (q : Nat)) (leadsD E) = some (.bl (decide (q ∈ E.map (·.1)))) := by
  show (unInts (dI (E.map fun e => (e.1 : Int)))).map _ = _
  rw [unInts_ints]
  show some (D.bl (decide ((q : Int) ∈ E.map fun e => (e.1 : Int)))) = _
  congr 2
  refine decide_eq_decide.mpr ?_
  rw [List.mem_map, List.mem_map]
  constructor
  · rintro ⟨e, m, h⟩
    exact ⟨e, m, by omega⟩
  · rintro ⟨e, m, h⟩
    exact ⟨e, m, by omega⟩
theorem leads_zip (E : List (Nat × α)) : (dI (E.map fun e => (e.1 : Int))).zip (rowsD false (E.map (·.2))) = E.map fun e => (D.int (e.1 : Nat), D.tup (rowD e.2)) := by
  unfold dI rowsD
  rw [List.map_map, List.map_map]
  exact zipmm _ _ E
theorem loop_contra2 (R : Sl) (E : List (Nat × α)) (hE : Ech E) (hEl : E.length ≤ 100) (w : Wd) : ∀ (c : List Nat) (L : List α) (j5 j7 j8 j9 : Sl), (∀ ds, j5 ≠ .own ds) → (∀ q, q ∈ c → q < d (α := α)) → L.length + c.length < 900 → ∃ j5' j7' j8' j9', (∀ ds, j5' ≠ .own ds) ∧ forLoop (bnd1 7) b_contrary_2 (c.map fun (i : Nat) => D.int (i : Int)) [.val (pI α), .val (dI' α), R, .val (.tup (rowsD false (E.map (·.2)))), .val (leadsD E), j5, .own (rowsD true L), j7, j8, j9] w =
    some (.nx [.val (pI α), .val (dI' α), R, .val (.tup (rowsD false (E.map (·.2)))), .val (leadsD E), j5', .own (rowsD true (L ++ (c.filter fun q => decide (q ∉ E.map (·.1))).map (fnd E))), j7', j8', j9'], w)
  | [], L, j5, j7, j8, j9, h5, _, _ => ⟨j5, j7, j8, j9, h5, by
    show some _ = some _
    rw [List.filter_nil, List.map_nil, List.append_nil]⟩
  | q :: c, L, j5, j7, j8, j9, h5, h1, h2 => by
    rw [List.length_cons] at h2
    have hq := h1 q (List.mem_cons_self ..)
    have inl := in_leads E q
    by_cases z : q ∈ E.map (·.1)
    · obtain ⟨k5, k7, k8, k9, hk, ih⟩ := loop_contra2 R E hE hEl w c L j5 (.val (.int (q : Nat))) j8 j9 h5 (fun i m => h1 i (List.mem_cons_of_mem _ m)) (by omega)
      refine ⟨k5, k7, k8, k9, hk, ?_⟩
      have hb : b_contrary_2 (bnd1 7 (.int (q : Nat)) [.val (pI α), .val (dI' α), R, .val (.tup (rowsD false (E.map (·.2)))), .val (leadsD E), j5, .own (rowsD true L), j7, j8, j9]) w = some (.ct [.val (pI α), .val (dI' α), R, .val (.tup (rowsD false (E.map (·.2)))), .val (leadsD E), j5, .own (rowsD true L), .val (.int (q : Nat)), j8, j9], w) := by
        show fSeq _ _ _ _ = _
        rw [r_fSeq]
        rw [decide_eq_true z] at inl
        simp [inl, -List.mem_map]
      rw [List.map_cons, fl_cons, hb, List.filter_cons_of_neg (by rw [decide_eq_true_iff]; exact fun y => y z)]
      exact ih
    · obtain ⟨i8, i9, g⟩ := loop_contra1 R (.val (.tup (rowsD false (E.map (·.2))))) (.val (leadsD E)) (.own (rowsD true L)) q hq w E (un q) j8 j9 hE.sorted (fun e m => ⟨hE.lt e m, by
        rw [dg_un e.1 q (hE.lt e m) hq, if_neg fun y => z (by rw [← y]; exact List.mem_map_of_mem m)]⟩)
      have ef : elim q (un q) E = fnd E q := by
        rw [elim_free E q]
        show (un q : α) + (free E q E - un q) = free E q E
        grind
      rw [ef] at g
      obtain ⟨k5, k7, k8, k9, hk, ih⟩ := loop_contra2 R E hE hEl w c (L ++ [fnd E q]) (.val (.lst (rowD (fnd E q)))) (.val (.int (q : Nat))) i8 i9 (fun ds => fun y => nomatch y) (fun i m => h1 i (List.mem_cons_of_mem _ m)) (by rw [List.length_append]; show L.length + 1 + c.length < 900; omega)
      refine ⟨k5, k7, k8, k9, hk, ?_⟩
      have ru := row_un (α := α) hq
      have dl := d_le (α := α)
      have r1 : nRep (.lst [.int 0]) (.int (d (α := α) : Nat)) = some (List.replicate (d (α := α)) (.int 0)) := rep_nat rfl (by omega)
      have ixn : L2.ixN (List.replicate (d (α := α)) (D.int 0)).length (q : Int) = some q := ixN_nat (by rw [List.length_replicate]; exact hq)
      have ap : rowsD true L ++ [.lst (rowD (fnd E q))] = rowsD true (L ++ [fnd E q]) := by
        rw [rowsD_t, rowsD_t, List.map_append]
        rfl
      have cl : (rowsD true L).length < 100000 := by rw [rowsD_len]; omega
      have inl2 : dIn false (.int (q : Nat)) (leadsD E) = some (.bl false) := by rw [inl, decide_eq_false z]
      have hb : b_contrary_2 (bnd1 7 (.int (q : Nat)) [.val (pI α), .val (dI' α), R, .val (.tup (rowsD false (E.map (·.2)))), .val (leadsD E), j5, .own (rowsD true L), j7, j8, j9]) w = some (.nx [.val (pI α), .val (dI' α), R, .val (.tup (rowsD false (E.map (·.2)))), .val (leadsD E), .val (.lst (rowD (fnd E q))), .own (rowsD true (L ++ [fnd E q])), .val (.int (q : Nat)), i8, i9], w) := by
        refine seq_w [.val (pI α), .val (dI' α), R, .val (.tup (rowsD false (E.map (·.2)))), .val (leadsD E), j5, .own (rowsD true L), .val (.int (q : Nat)), j8, j9] ?_ (seq_w [.val (pI α), .val (dI' α), R, .val (.tup (rowsD false (E.map (·.2)))), .val (leadsD E), .own (List.replicate (d (α := α)) (.int 0)), .own (rowsD true L), .val (.int (q : Nat)), j8, j9] ?_ (seq_w [.val (pI α), .val (dI' α), R, .val (.tup (rowsD false (E.map (·.2)))), .val (leadsD E), .own (rowD (un q : α)), .own (rowsD true L), .val (.int (q : Nat)), j8, j9] ?_
          (seq_w [.val (pI α), .val (dI' α), R, .val (.tup (rowsD false (E.map (·.2)))), .val (leadsD E), .own (rowD (fnd E q)), .own (rowsD true L), .val (.int (q : Nat)), i8, i9] ?_ ?_)))
        · simp [inl2]
        · simp [r1, -o_rep]
        · simp only [r_fSto, r_fC, r_fVar, List.getElem?_cons_succ, List.getElem?_cons_zero, Option.bind_some]
          rw [ixn, ← ru]
          rfl
        · have lz := leads_zip E
          show fFor (bnd2 8 9) (fZip (fVar 4) (fVar 3)) b_contrary_1 _ w = _
          have hz : fZip (fVar 4) (fVar 3) [.val (pI α), .val (dI' α), R, .val (.tup (rowsD false (E.map (·.2)))), .val (leadsD E), .own (rowD (un q : α)), .own (rowsD true L), .val (.int (q : Nat)), j8, j9] w = some (E.map fun e => (D.int (e.1 : Nat), D.tup (rowD e.2)), w) := by
            rw [← lz]
            rfl
          rw [r_fFor, hz]
          exact g
        · simp only [r_fFreeze, r_fApp, r_fVar, List.getElem?_cons_succ, List.getElem?_cons_zero, List.set_cons_succ, List.set_cons_zero, Option.bind_some, cap_v]
          rw [if_pos cl, ap]
      rw [List.map_cons, fl_cons, hb, List.filter_cons_of_pos (p := fun q => decide (q ∉ E.map (·.1))) (decide_eq_true z), List.map_cons]
      have : L ++ [fnd E q] ++ (c.filter fun q => decide (q ∉ E.map (·.1))).map (fnd E) = L ++ fnd E q :: (c.filter fun q => decide (q ∉ E.map (·.1))).map (fnd E) := by rw [List.append_assoc]; rfl
      rw [← this]
      exact ih
theorem m_contra (kc k : Bool) (xs : List α) (hx : xs.length < 800) (w : Wd) : ∃ E, gauss xs = E.map (·.2) ∧ Ech E ∧ (∀ x, Sp (E.map (·.2)) x ↔ Sp xs x) ∧ m_contrary [pI α, dI' α, sq kc (rowsD k xs)] w = some (.tup (rowsD false (gauss (fnds E))), w) := by
  obtain ⟨E, e1, e2, e3⟩ := gauss_ok xs
  refine ⟨E, e1, e2, e3, ?_⟩
  have dl := d_le (α := α)
  have El : E.length ≤ d (α := α) := by
    have main : ∀ (l : List Nat) (b : Nat), l.Pairwise (· < ·) → (∀ x, x ∈ l → b ≤ x ∧ x < d (α := α)) → l.length + b ≤ max b (d (α := α)) := fun l => by
      induction l with
      | nil => intro b _ _; simp only [List.length_nil]; omega
      | cons a l ih =>
        intro b h1 h2
        have hp := List.pairwise_cons.mp h1
        have ha := h2 a (List.mem_cons_self ..)
        have := ih (a + 1) hp.2 (fun x m => ⟨hp.1 x m, (h2 x (List.mem_cons_of_mem _ m)).2⟩)
        rw [List.length_cons]
        omega
    have := main (E.map (·.1)) 0 e2.sorted (fun x m => by
      obtain ⟨e, me, rfl⟩ := List.mem_map.mp m
      exact ⟨Nat.zero_le _, e2.lt e me⟩)
    rw [List.length_map] at this
    omega
  have ech := m_ech kc k xs hx w
  rw [e1] at ech
  have c1 : (rowsD false (E.map (·.2))).length ≤ 100000 := by rw [rowsD_len, List.length_map]; omega
  have lc := lc_map (ρ := [.val (pI α), .val (dI' α), .val (sq kc (rowsD k xs)), .val (.tup (rowsD false (E.map (·.2)))), .no, .no, .no, .no, .no, .no]) (w := w) (bnd := bnd1 5) (fe := fCall m_lead_of [] 1 (fCons (fVar 5) fNil)) (fun e : Nat × α => D.tup (rowD e.2)) (fun e => D.int (e.1 : Nat)) E (fun e m => by
    have t := m_lead false e.2 w
    rw [ech_first_of e2 m, sq_f] at t
    simp [t])
  have lc : lcLoop (bnd1 5) ftYes (fCall m_lead_of [] 1 (fCons (fVar 5) fNil)) (rowsD false (E.map (·.2))) [.val (pI α), .val (dI' α), .val (sq kc (rowsD k xs)), .val (.tup (rowsD false (E.map (·.2)))), .no, .no, .no, .no, .no, .no] w = some (dI (E.map fun e => (e.1 : Int)), w) := by
    rw [show rowsD false (E.map (·.2)) = E.map fun e => D.tup (rowD e.2) by unfold rowsD; rw [List.map_map]; rfl, show dI (E.map fun e => (e.1 : Int)) = E.map fun e => D.int (e.1 : Nat) by unfold dI; rw [List.map_map]; rfl]
    rw [show rowsD false (E.map (·.2)) = E.map fun e => D.tup (rowD e.2) by unfold rowsD; rw [List.map_map]; rfl] at lc
    exact lc
  obtain ⟨j5, j7, j8, j9, h5, f⟩ := loop_contra2 (.val (sq kc (rowsD k xs))) E e2 (by omega) w (List.range (d (α := α))) [] .no .no .no .no (fun ds y => nomatch y) (fun q m => List.mem_range.mp m) (by rw [List.length_range]; show 0 + d (α := α) < 900; omega)
  have fe : ([] : List α) ++ ((List.range (d (α := α))).filter fun q => decide (q ∉ E.map (·.1))).map (fnd E) = fnds E := rfl
  rw [fe] at f
  have hr : rng [dI' α] = some ((List.range (d (α := α))).map fun (i : Nat) => D.int (i : Int)) := by
    rw [o_rng1, if_pos (big_nat (by omega)), Int.toNat_natCast, rangeD_nat]
  have r := m_reduced true (fnds E) (by
    unfold fnds
    rw [List.length_map]
    have := List.length_filter_le (fun q => decide (q ∉ E.map (·.1))) (List.range (d (α := α)))
    rw [List.length_range] at this
    omega) w
  refine fn_rt (seq_w [.val (pI α), .val (dI' α), .val (sq kc (rowsD k xs)), .val (.tup (rowsD false (E.map (·.2)))), .no, .no, .no, .no, .no, .no] ?_ (seq_w [.val (pI α), .val (dI' α), .val (sq kc (rowsD k xs)), .val (.tup (rowsD false (E.map (·.2)))), .val (leadsD E), .no, .no, .no, .no, .no] ?_ (seq_w [.val (pI α), .val (dI' α), .val (sq kc (rowsD k xs)), .val (.tup (rowsD false (E.map (·.2)))), .val (leadsD E), .no, .own (rowsD true ([] : List α)), .no, .no, .no] ?_
    (seq_w [.val (pI α), .val (dI' α), .val (sq kc (rowsD k xs)), .val (.tup (rowsD false (E.map (·.2)))), .val (leadsD E), j5, .own (rowsD true (fnds E)), j7, j8, j9] ?_ ?_))))
  · simp [ech]
  · simp only [r_fFreeze, r_fAsg, r_asE, r_fLc, r_fItems, r_fVarB, List.map_cons, List.map_nil, List.length_cons, List.length_nil, List.cons_append, List.getElem?_cons_succ, List.getElem?_cons_zero, Option.bind_some, it_t, Option.map_some, r_wipeC, r_wipeN, List.set_cons_succ, List.set_cons_zero, cap_v]
    rw [if_pos c1, lc]
    rfl
  · simp
    rfl
  · simp only [r_fFor, r_fRng, r_fCons, r_fNil, r_fVar, List.getElem?_cons_succ, List.getElem?_cons_zero, Option.bind_some, Option.map_some]
    rw [hr]
    exact f
  · simp [r]
end
end K39
end
section
set_option maxRecDepth 100000
set_option autoImplicit false
/-! QD: meet_spaces, things_space, zeros_of -/
namespace K39
open Lean.Grind FF FD FX
section
variable {α : Type} [FX α]
theorem ech_len {E : List (Nat × α)} (h : Ech E) : E.length ≤ 4 := by
  have main : ∀ (l : List Nat) (b : Nat), l.Pairwise (· < ·) → (∀ x, x ∈ l → b ≤ x ∧ x < d (α := α)) → l.length + b ≤ max b (d (α := α)) := fun l => by
    induction l with
    | nil => intro b _ _; simp only [List.length_nil]; omega
    | cons a l ih =>
      intro b h1 h2
      have hp := List.pairwise_cons.mp h1
      have ha := h2 a (List.mem_cons_self ..)
      have := ih (a + 1) hp.2 (fun x m => ⟨hp.1 x m, (h2 x (List.mem_cons_of_mem _ m)).2⟩)
      rw [List.length_cons]
      omega
  have := main (E.map (·.1)) 0 h.sorted (fun x m => by
    obtain ⟨e, me, rfl⟩ := List.mem_map.mp m
    exact ⟨Nat.zero_le _, h.lt e me⟩)
  rw [List.length_map] at this
  have dl := d_le (α := α)
  omega
theorem m_meet (k1 k2 k3 k4 : Bool) (xs ys : List α) (hx : xs.length < 300) (hy : ys.length < 300) (w : Wd) : ∃ E', m_meet_spaces [pI α, dI' α, sq k1 (rowsD k2 xs), sq k3 (rowsD k4 ys)] w = some (.tup (rowsD false (E'.map (·.2))), w) ∧ Ech E' ∧ ∀ v, Sp (E'.map (·.2)) v ↔ Sp xs v ∧ Sp ys v := by
  obtain ⟨E1, _, a2, a3, a4⟩ := m_contra k1 k2 xs (by omega) w
  obtain ⟨E2, _, b2, b3, b4⟩ := m_contra k3 k4 ys (by omega) w
  obtain ⟨F1, f1, f2, f3, f4⟩ := contra_ok a2 a3
  obtain ⟨F2, g1, g2, g3, g4⟩ := contra_ok b2 b3
  rw [f1] at a4 f4
  rw [g1] at b4 g4
  have l1 := ech_len f2
  have l2 := ech_len g2
  obtain ⟨E3, _, c2, c3, c4⟩ := m_contra false false (F1.map (·.2) ++ F2.map (·.2)) (by rw [List.length_append, List.length_map, List.length_map]; omega) w
  obtain ⟨F3, h1, h2, h3, _⟩ := contra_ok c2 c3
  rw [h1] at c4
  refine ⟨F3, ?_, h2, fun v => ?_⟩
  · have ap : rowsD false (F1.map (·.2)) ++ rowsD false (F2.map (·.2)) = rowsD false (F1.map (·.2) ++ F2.map (·.2)) := by
      unfold rowsD
      rw [List.map_append]
    have cl : (rowsD false (F1.map (·.2))).length + (rowsD false (F2.map (·.2))).length ≤ 100000 := by rw [rowsD_len, rowsD_len, List.length_map, List.length_map]; omega
    refine fn_rt (seq_w [.val (pI α), .val (dI' α), .val (sq k1 (rowsD k2 xs)), .val (sq k3 (rowsD k4 ys)), .val (.tup (rowsD false (F1.map (·.2)))), .no] (by simp [a4]) (seq_w [.val (pI α), .val (dI' α), .val (sq k1 (rowsD k2 xs)), .val (sq k3 (rowsD k4 ys)), .val (.tup (rowsD false (F1.map (·.2)))), .val (.tup (rowsD false (F2.map (·.2))))] (by simp [b4]) ?_))
    simp only [r_fRet, r_fCall, r_fCons, r_fNil, r_fVar, r_fVarB, r_fOp, List.map_cons, List.map_nil, List.length_cons, List.length_nil, List.cons_append, List.nil_append, List.append_nil, List.getElem?_cons_succ, List.getElem?_cons_zero, Option.bind_some, Option.map_some, o_addT, cap_v]
    rw [if_pos cl, ap]
    simp only [Option.bind_some, Option.map_some]
    rw [if_pos (by first | trivial | rfl)]
    rw [sq_f] at c4
    rw [c4]
    rfl
  · rw [h3]
    have back : ∀ {zs : List α} {F : List (Nat × α)}, (∀ v, Sp (F.map (·.2)) v ↔ ∀ a, a ∈ zs → dot a v = 0) → ∀ v, Sp zs v → ∀ a, a ∈ F.map (·.2) → dot a v = 0 := fun {zs F} hF v hv a m => by
      refine hv.dot0 fun b mb => ?_
      rw [dot_comm]
      exact (hF a).mp (.of m) b mb
    constructor
    · intro k
      exact ⟨f4 v fun a m => k a (List.mem_append_left _ m), g4 v fun a m => k a (List.mem_append_right _ m)⟩
    · rintro ⟨k1, k2⟩ a m
      rcases List.mem_append.mp m with m | m
      · exact back f3 v k1 a m
      · exact back g3 v k2 a m
theorem lc_thing {ρ : En} {w : Wd} {o i : Nat} (h0 : ∀ x, (ρ.set i x)[o]? = some (.val (fobj α))) (h1 : ∀ x, (ρ.set i x)[i]? = some x) (l : List α) : lcLoop (bnd1 i) ftYes (fMeth m_F_thing_of 2 (fVar o) (fCons (fVar i) fNil)) (rowsD false l) ρ w = some (eL l, w) :=
  lc_map (ρ := ρ) (w := w) (bnd := bnd1 i) (fun x : α => D.tup (rowD x)) eI l fun x _ => by
    have t := m_thing_of x w
    simp [h0, h1, t]
theorem m_tspace (k : Bool) (l : List α) (hl : l.length ≤ 16) (w : Wd) : m_things_space [fobj α, sq k (eL l)] w = some (.tup (eL (gauss l)), w) := by
  have c := m_checkts k l 16 hl w
  have lc := lc_map (ρ := [.val (fobj α), .val (sq k (eL l)), .val (.tup (eL l)), .no, .no, .no]) (w := w) (bnd := bnd1 4) (fe := fMeth m_F_digits_of 2 (fVar 0) (fCons (fVar 4) fNil)) (fun x : α => eI x) (fun x => D.tup (rowD x)) l (fun x _ => by simp)
  have lc : lcLoop (bnd1 4) ftYes (fMeth m_F_digits_of 2 (fVar 0) (fCons (fVar 4) fNil)) (eL l) [.val (fobj α), .val (sq k (eL l)), .val (.tup (eL l)), .no, .no, .no] w = some (rowsD false l, w) := lc
  have cl : (eL l).length ≤ 100000 := by rw [eL_len]; omega
  have r := m_reduced false l (by omega) w
  obtain ⟨E, e1, e2, _⟩ := gauss_ok l
  have gl : (rowsD false (gauss l)).length ≤ 100000 := by
    rw [rowsD_len, e1, List.length_map]
    have := ech_len e2
    omega
  have lt := lc_thing (ρ := [.val (fobj α), .val (sq k (eL l)), .val (.tup (eL l)), .val (.lst (rowsD false l)), .no, .no]) (w := w) (o := 0) (i := 5) (fun _ => rfl) (fun _ => rfl) (gauss l)
  refine fn_rt (seq_w [.val (fobj α), .val (sq k (eL l)), .val (.tup (eL l)), .no, .no, .no] ?_ (seq_w [.val (fobj α), .val (sq k (eL l)), .val (.tup (eL l)), .val (.lst (rowsD false l)), .no, .no] ?_ ?_))
  · have c' : m_check_things [fobj α, sq k (eL l), .int 16] w = some (.tup (eL l), w) := c
    simp [c']
  · simp only [r_fAsg, r_asE, r_fLc, r_fItems, r_fVarB, List.getElem?_cons_succ, List.getElem?_cons_zero, Option.bind_some, it_t, Option.map_some, r_wipeC, r_wipeN, List.set_cons_succ, List.set_cons_zero, cap_v]
    rw [if_pos cl, lc]
    rfl
  · simp only [r_fRet, r_fOp1, r_asE, r_fLc, r_fItems, r_fCall, r_fCons, r_fNil, r_fFld, r_fVar, List.length_cons, List.length_nil, List.cons_append, List.nil_append, List.append_nil, List.getElem?_cons_succ, List.getElem?_cons_zero, Option.bind_some, Option.map_some, r_wipeC, r_wipeN, List.set_cons_succ, List.set_cons_zero, cap_v, ff0, ff2]
    rw [if_pos (by first | trivial | rfl), r]
    simp only [Option.bind_some, it_t, Option.map_some]
    rw [if_pos gl, lt]
    rfl

/-! ### the rows of the map -/
theorem loop_units (w : Wd) : ∀ (N m F : Nat), 1 ≤ m → m + N = d (α := α) → N < F → whileLoop t_unit_things_1 b_unit_things_1 F [.val (fobj α), .own ((List.range m).map fun j => .int ((p (α := α) ^ j : Nat) : Int))] w = some (.nx [.val (fobj α), .own ((List.range (d (α := α))).map fun j => .int ((p (α := α) ^ j : Nat) : Int))], w)
  | 0, m, F, h1, h2, h3 => by
    obtain ⟨F, rfl⟩ : ∃ G, F = G + 1 := ⟨F - 1, by omega⟩
    have e : m = d (α := α) := by omega
    subst e
    refine wl_false ?_
    simp [t_unit_things_1]
  | N + 1, m, F, h1, h2, h3 => by
    obtain ⟨F, rfl⟩ : ∃ G, F = G + 1 := ⟨F - 1, by omega⟩
    have ih := loop_units w N (m + 1) F (by omega) (by omega) (by omega)
    have hlt : m < d (α := α) := by omega
    have dl := d_le (α := α)
    have pl := p_le (α := α)
    have ht : t_unit_things_1 [.val (fobj α), .own ((List.range m).map fun j => .int ((p (α := α) ^ j : Nat) : Int))] w = some (true, w) := by
      simp [t_unit_things_1, hlt]
    have s : small64 ((p (α := α) : Nat) : Int) = true := small_nat (by omega)
    have at_ : L2.atI ((List.range m).map fun j => D.int ((p (α := α) ^ j : Nat) : Int)) (-1) = some (.int ((p (α := α) ^ (m - 1) : Nat) : Int)) := by
      rw [atI_m1 _ (fun y => by
        have := congrArg List.length y
        rw [List.length_map, List.length_range] at this
        simp at this
        omega), List.length_map, List.length_range, List.getElem?_map, List.getElem?_range (by omega)]
      rfl
    have e : ((p (α := α) ^ (m - 1) : Nat) : Int) * ((p (α := α) : Nat) : Int) = ((p (α := α) ^ m : Nat) : Int) := by
      rw [← Int.natCast_mul, ← Nat.pow_succ, show (m - 1).succ = m by omega]
    have ap : ((List.range m).map fun j => D.int ((p (α := α) ^ j : Nat) : Int)) ++ [.int ((p (α := α) ^ m : Nat) : Int)] = (List.range (m + 1)).map fun j => D.int ((p (α := α) ^ j : Nat) : Int) := by
      rw [List.range_succ, List.map_append]
      rfl
    have cl : ((List.range m).map fun j => D.int ((p (α := α) ^ j : Nat) : Int)).length < 100000 := by rw [List.length_map, List.length_range]; omega
    have hb : b_unit_things_1 [.val (fobj α), .own ((List.range m).map fun j => .int ((p (α := α) ^ j : Nat) : Int))] w = some (.nx [.val (fobj α), .own ((List.range (m + 1)).map fun j => .int ((p (α := α) ^ j : Nat) : Int))], w) := by
      rw [← ap]
      generalize ((p (α := α) ^ (m - 1) : Nat) : Int) = X at at_ e
      generalize ((p (α := α) ^ m : Nat) : Int) = Y at e ⊢
      generalize ((List.range m).map fun j => D.int ((p (α := α) ^ j : Nat) : Int)) = L at at_ cl ⊢
      simp [b_unit_things_1, at_, s, e, cl]
    exact wl_true ht hb ih
theorem m_units (w : Wd) : m_unit_things [fobj α] w = some (.tup (eL ((List.range (d (α := α))).map (un : Nat → α))), w) := by
  have dl := d_le (α := α)
  have dp := d_pos (α := α)
  have f := loop_units (α := α) w (d (α := α) - 1) 1 10 (Nat.le_refl _) (by omega) (by omega)
  have e : eL ((List.range (d (α := α))).map (un : Nat → α)) = (List.range (d (α := α))).map fun j => D.int ((p (α := α) ^ j : Nat) : Int) := by
    unfold eL
    rw [List.map_map]
    refine List.map_congr_left fun j hj => ?_
    show D.int ((enc (un j : α) : Nat) : Int) = _
    rw [enc_un j (List.mem_range.mp hj)]
  rw [e]
  refine fn_rt (seq_w [.val (fobj α), .own [.int 1]] (by simp) (seq_w [.val (fobj α), .own ((List.range (d (α := α))).map fun j => .int ((p (α := α) ^ j : Nat) : Int))] f ?_))
  simp
/-- a thing by its digits -/
def sumU (g : Nat → Nat) : Nat → α
  | 0 => 0
  | k + 1 => sumU g k + ((g k : Nat) : α) * un k
theorem dg_sumU (g : Nat → Nat) (hg : ∀ j, g j < p (α := α)) {i : Nat} (hi : i < d (α := α)) : dg i (sumU g (d (α := α)) : α) = g i := by
  have main : ∀ k, k ≤ d (α := α) → dg i (sumU g k : α) = if i < k then g i else 0 := fun k => by
    induction k with
    | zero =>
      intro _
      rw [if_neg (Nat.not_lt_zero _)]
      exact dg_z i
    | succ k ih =>
      intro hk
      show dg i (sumU g k + ((g k : Nat) : α) * un k) = _
      rw [dg_add, ih (by omega), dg_nat, dg_un i k hi (by omega)]
      have h1 := hg i
      have h2 := hg k
      by_cases z : i = k
      · subst z
        rw [if_neg (Nat.lt_irrefl _), if_pos rfl, if_pos (Nat.lt_succ_self _), Nat.mul_one, Nat.mod_eq_of_lt h2, Nat.zero_add, Nat.mod_eq_of_lt h2]
      · rw [if_neg z, Nat.mul_zero, Nat.zero_mod, Nat.add_zero]
        by_cases y : i < k
        · rw [if_pos y, if_pos (by omega), Nat.mod_eq_of_lt h1]
        · rw [if_neg y, if_neg (by omega), Nat.zero_mod]
  have := main _ (Nat.le_refl _)
  rw [if_pos hi] at this
  exact this
noncomputable def mrow (f : Po α) (r : Nat) : α := sumU (fun j => dg r (f.ev (un j))) (d (α := α))
theorem dg_mrow (f : Po α) (r : Nat) {j : Nat} (hj : j < d (α := α)) : dg j (mrow f r) = dg r (f.ev (un j)) := dg_sumU _ (fun _ => dg_lt ..) hj
theorem vsum (v : α) : sumU (fun j => dg j v) (d (α := α)) = v := by
  have : sumU (fun j => dg j v) (d (α := α)) - v = 0 := cd_ext fun j hj => by
    rw [cd_sub]
    unfold cd
    rw [dg_sumU _ (fun _ => dg_lt ..) hj]
    grind
  grind
theorem dot_mrow (f : Po α) (r : Nat) (v : α) : dot (mrow f r) v = cd r (f.ev v) := by
  have main : ∀ k, k ≤ d (α := α) → dotN k (mrow f r) v = cd r (f.ev (sumU (fun j => dg j v) k)) := fun k => by
    induction k with
    | zero =>
      intro _
      show (0 : α) = cd r (f.ev 0)
      rw [ev_at0, cd_z]
    | succ k ih =>
      intro hk
      show dotN k (mrow f r) v + cd k (mrow f r) * cd k v = cd r (f.ev (sumU (fun j => dg j v) k + ((dg k v : Nat) : α) * un k))
      rw [ev_x, ev_xnat, cd_add, cd_nat, ih (by omega)]
      show _ + ((dg k (mrow f r) : Nat) : α) * cd k v = _ + cd k v * cd r (f.ev (un k))
      rw [dg_mrow f r (by omega)]
      show _ + cd r (f.ev (un k)) * cd k v = _
      grind
  have := main _ (Nat.le_refl _)
  rw [vsum] at this
  exact this
theorem m_mrows (f : Po α) (w : Wd) : m_map_rows [fobj α, P f] w = some (.tup (rowsD false ((List.range (d (α := α))).map (mrow f))), w) := by
  have u := m_units (α := α) w
  have dl := d_le (α := α)
  have l1 := lc_map (ρ := [.val (fobj α), .val (P f), .no, .no, .no, .no]) (w := w) (bnd := bnd1 3) (fe := fMeth m_F_digits_of 2 (fVar 0) (fCons (fCall m_reached_value [] 3 (fCons (fVar 0) (fCons (fVar 1) (fCons (fVar 3) fNil)))) fNil)) (fun x : α => eI x) (fun x => D.tup (rowD (f.ev x))) ((List.range (d (α := α))).map un) (fun x _ => by
    have t := m_reachedP f x w
    simp [t])
  have l1 : lcLoop (bnd1 3) ftYes (fMeth m_F_digits_of 2 (fVar 0) (fCons (fCall m_reached_value [] 3 (fCons (fVar 0) (fCons (fVar 1) (fCons (fVar 3) fNil)))) fNil)) (eL ((List.range (d (α := α))).map (un : Nat → α))) [.val (fobj α), .val (P f), .no, .no, .no, .no] w = some ((List.range (d (α := α))).map fun j => D.tup (rowD (f.ev (un j))), w) := by
    rw [List.map_map] at l1
    rw [← List.map_map] at l1
    rw [show ((List.range (d (α := α))).map un).map (fun x : α => D.tup (rowD (f.ev x))) = (List.range (d (α := α))).map fun j => D.tup (rowD (f.ev (un j))) by rw [List.map_map]; rfl] at l1
    exact l1
  have cu : (eL ((List.range (d (α := α))).map (un : Nat → α))).length ≤ 100000 := by rw [eL_len, List.length_map, List.length_range]; omega
  have hr : rng [dI' α] = some ((List.range (d (α := α))).map fun (i : Nat) => D.int (i : Int)) := by
    rw [o_rng1, if_pos (big_nat (by omega)), Int.toNat_natCast, rangeD_nat]
  have cr : ((List.range (d (α := α))).map fun (i : Nat) => D.int (i : Int)).length ≤ 100000 := by rw [List.length_map, List.length_range]; omega
  have cc : ((List.range (d (α := α))).map fun j => D.tup (rowD (f.ev (un j : α)))).length ≤ 100000 := by rw [List.length_map, List.length_range]; omega
  have l2 := lc_range (ρ := [.val (fobj α), .val (P f), .val (.lst ((List.range (d (α := α))).map fun j => D.tup (rowD (f.ev (un j))))), .no, .no, .no]) (w := w) (bnd := bnd1 4) (fe := fOp1 dTuple (asE (fLc [5] (bnd1 5) (fItems (fVarB 2)) ftYes (fOp dIx (fVarB 5) (fVarB 4))))) (fun r => D.tup (rowD (mrow f r))) (d (α := α)) (fun r hr => by
    have l3 := lc_map (ρ := [.val (fobj α), .val (P f), .val (.lst ((List.range (d (α := α))).map fun j => D.tup (rowD (f.ev (un j))))), .no, .val (.int (r : Nat)), .no]) (w := w) (bnd := bnd1 5) (fe := fOp dIx (fVarB 5) (fVarB 4)) (fun j : Nat => D.tup (rowD (f.ev (un j : α)))) (fun j => D.int (dg r (f.ev (un j : α)) : Nat)) (List.range (d (α := α))) (fun j _ => by
      have := row_at (f.ev (un j)) hr
      simp [this])
    have e : ((List.range (d (α := α))).map fun j => D.int (dg r (f.ev (un j : α)) : Nat)) = rowD (mrow f r) := by
      unfold rowD
      refine List.map_congr_left fun j hj => ?_
      rw [dg_mrow f r (List.mem_range.mp hj)]
    rw [e] at l3
    simp only [r_bnd1, r_fOp1, r_asE, r_fLc, r_fItems, r_fVarB, List.getElem?_cons_succ, List.getElem?_cons_zero, Option.bind_some, it_l, Option.map_some, r_wipeC, r_wipeN, List.set_cons_succ, List.set_cons_zero, cap_v]
    rw [if_pos cc, l3]
    rfl)
  refine fn_rt (seq_w [.val (fobj α), .val (P f), .val (.lst ((List.range (d (α := α))).map fun j => D.tup (rowD (f.ev (un j))))), .no, .no, .no] ?_ ?_)
  · simp only [r_fAsg, r_asE, r_fLc, r_fItems, r_fCall, r_fCons, r_fNil, r_fVar, List.map_cons, List.map_nil, List.length_cons, List.length_nil, List.cons_append, List.nil_append, List.append_nil, List.getElem?_cons_succ, List.getElem?_cons_zero, Option.bind_some, Option.map_some, r_wipeC, r_wipeN, List.set_cons_succ, List.set_cons_zero, cap_v]
    rw [if_pos (by first | trivial | rfl), u]
    simp only [Option.bind_some, it_t, Option.map_some]
    rw [if_pos cu]
    show Option.map _ (Option.map _ (lcLoop (bnd1 3) ftYes _ (eL ((List.range (d (α := α))).map (un : Nat → α))) [.val (fobj α), .val (P f), .no, .no, .no, .no] w)) = _
    rw [l1]
    rfl
  · simp only [r_fRet, r_fOp1, r_asE, r_fLc, r_fRng, r_fFld, r_fCons, r_fNil, r_fVar, List.getElem?_cons_succ, List.getElem?_cons_zero, Option.bind_some, Option.map_some, r_wipeC, r_wipeN, List.set_cons_succ, List.set_cons_zero, cap_v, ff2]
    rw [hr]
    simp only [Option.bind_some, Option.map_some]
    rw [if_pos cr]
    show Option.map _ (Option.bind (Option.map _ (lcLoop (bnd1 4) ftYes (fOp1 dTuple (asE (fLc [5] (bnd1 5) (fItems (fVarB 2)) ftYes (fOp dIx (fVarB 5) (fVarB 4))))) ((List.range (d (α := α))).map fun (i : Nat) => D.int (i : Int)) [.val (fobj α), .val (P f), .val (.lst ((List.range (d (α := α))).map fun j => D.tup (rowD (f.ev (un j))))), .no, .no, .no] w)) _) = _
    rw [l2]
    have e : ((List.range (d (α := α))).map fun r => D.tup (rowD (mrow f r))) = rowsD false ((List.range (d (α := α))).map (mrow f)) := by
      unfold rowsD
      rw [List.map_map]
      rfl
    rw [e]
    rfl
theorem m_zeros (k : Bool) (f : Po α) (h : len f ≤ 16) (w : Wd) : ∃ E, m_zeros_of [fobj α, sq k (eL (lst f))] w = some (.tup (eL (E.map (·.2))), w) ∧ Ech E ∧ ∀ v, Sp (E.map (·.2)) v ↔ f.ev v = 0 := by
  have c := m_checkp k f h w
  have mr := m_mrows f w
  have dl := d_le (α := α)
  obtain ⟨E1, _, a2, a3, a4⟩ := m_contra false false ((List.range (d (α := α))).map (mrow f)) (by rw [List.length_map, List.length_range]; omega) w
  obtain ⟨E, f1, f2, f3, _⟩ := contra_ok a2 a3
  rw [f1, sq_f] at a4
  refine ⟨E, ?_, f2, fun v => ?_⟩
  · have cl : (rowsD false (E.map (·.2))).length ≤ 100000 := by
      rw [rowsD_len, List.length_map]
      have := ech_len f2
      omega
    have lt := lc_thing (ρ := [.val (fobj α), .val (sq k (eL (lst f))), .val (.tup (rowsD false (E.map (·.2)))), .no]) (w := w) (o := 0) (i := 3) (fun _ => rfl) (fun _ => rfl) (E.map (·.2))
    refine fn_rt (seq_w [.val (fobj α), .val (sq k (eL (lst f))), .val (.tup (rowsD false (E.map (·.2)))), .no] ?_ ?_)
    · simp [c, mr, a4]
    · simp only [r_fRet, r_fOp1, r_asE, r_fLc, r_fItems, r_fVarB, List.getElem?_cons_succ, List.getElem?_cons_zero, Option.bind_some, it_t, Option.map_some, r_wipeC, r_wipeN, List.set_cons_succ, List.set_cons_zero, cap_v]
      rw [if_pos cl, lt]
      rfl
  · rw [f3]
    constructor
    · intro k2
      refine cd_ext fun r hr => ?_
      rw [← dot_mrow]
      exact k2 _ (List.mem_map.mpr ⟨r, List.mem_range.mpr hr, rfl⟩)
    · intro z a m
      obtain ⟨r, _, rfl⟩ := List.mem_map.mp m
      rw [dot_mrow, z, cd_z]
end
end K39
end
section
set_option maxRecDepth 100000
set_option autoImplicit false
/-! QE: the law's digits, basis, zeros -/
namespace K39
open Lean.Grind FF FD FX
section
variable {α : Type} [FX α]
theorem loop_ldig (x : α) (w : Wd) : ∀ (c : List Nat) (m : Nat) (j : Sl), m + c.length ≤ 100 → ∃ j', forLoop (bnd1 3) b_l_digits_1 (c.map fun (i : Nat) => D.int (i : Int)) [.val (wobj α), .val (.int ((enc x / p (α := α) ^ m : Nat) : Int)), .own ((List.range m).map fun i => .int ((enc x / p (α := α) ^ i % p (α := α) : Nat) : Int)), j] w =
    some (.nx [.val (wobj α), .val (.int ((enc x / p (α := α) ^ (m + c.length) : Nat) : Int)), .own ((List.range (m + c.length)).map fun i => .int ((enc x / p (α := α) ^ i % p (α := α) : Nat) : Int)), j'], w)
  | [], m, j, _ => ⟨j, rfl⟩
  | a :: c, m, j, h => by
    rw [List.length_cons] at h
    obtain ⟨j', ih⟩ := loop_ldig x w c (m + 1) (.val (.int (a : Nat))) (by omega)
    refine ⟨j', ?_⟩
    have pp : 0 < (p (α := α) : Int) := by have := p_pos (α := α); omega
    have pl : (p (α := α) : Int).natAbs < 1073741824 := by have := p_le (α := α); omega
    have e1 : ((enc x / p (α := α) ^ m : Nat) : Int) % ((p (α := α) : Nat) : Int) = ((enc x / p (α := α) ^ m % p (α := α) : Nat) : Int) := by rw [Int.natCast_emod]
    have e2 : ((enc x / p (α := α) ^ m : Nat) : Int) / ((p (α := α) : Nat) : Int) = ((enc x / p (α := α) ^ (m + 1) : Nat) : Int) := by rw [Nat.pow_succ, ← Nat.div_div_eq_div_mul, Int.natCast_ediv (enc x / p (α := α) ^ m)]
    have ap : ((List.range m).map fun i => D.int ((enc x / p (α := α) ^ i % p (α := α) : Nat) : Int)) ++ [.int ((enc x / p (α := α) ^ m % p (α := α) : Nat) : Int)] = (List.range (m + 1)).map fun i => D.int ((enc x / p (α := α) ^ i % p (α := α) : Nat) : Int) := by
      rw [List.range_succ, List.map_append]
      rfl
    have cl : ((List.range m).map fun i => D.int ((enc x / p (α := α) ^ i % p (α := α) : Nat) : Int)).length < 100000 := by rw [List.length_map, List.length_range]; omega
    have hb : b_l_digits_1 (bnd1 3 (.int (a : Nat)) [.val (wobj α), .val (.int ((enc x / p (α := α) ^ m : Nat) : Int)), .own ((List.range m).map fun i => .int ((enc x / p (α := α) ^ i % p (α := α) : Nat) : Int)), j]) w = some (.nx [.val (wobj α), .val (.int ((enc x / p (α := α) ^ (m + 1) : Nat) : Int)), .own ((List.range (m + 1)).map fun i => .int ((enc x / p (α := α) ^ i % p (α := α) : Nat) : Int)), .val (.int (a : Nat))], w) := by
      rw [← ap]
      generalize ((List.range m).map fun i => D.int ((enc x / p (α := α) ^ i % p (α := α) : Nat) : Int)) = L at cl ⊢
      generalize ((enc x / p (α := α) ^ m % p (α := α) : Nat) : Int) = A at e1 ⊢
      generalize ((enc x / p (α := α) ^ (m + 1) : Nat) : Int) = B at e2 ⊢
      generalize ((enc x / p (α := α) ^ m : Nat) : Int) = C at e1 e2 ⊢
      have w0 := ww0 (α := α)
      generalize ((p (α := α) : Nat) : Int) = Pq at pp pl e1 e2 w0
      simp [b_l_digits_1, w0, pp, pl, e1, e2, cl, -ww0]
    rw [List.map_cons, fl_cons, hb, List.length_cons, show m + (c.length + 1) = m + 1 + c.length by omega]
    exact ih
theorem m_ldig (x : α) (w : Wd) : m_l_digits [wobj α, eI x] w = some (.lst (rowD x), w) := by
  have dl := d_le (α := α)
  obtain ⟨j', f⟩ := loop_ldig x w (List.range (d (α := α))) 0 .no (by rw [List.length_range]; omega)
  rw [Nat.pow_zero, Nat.div_one, Nat.zero_add, List.length_range] at f
  have e : rowD x = (List.range (d (α := α))).map fun i => D.int ((enc x / p (α := α) ^ i % p (α := α) : Nat) : Int) := by
    unfold rowD
    exact List.map_congr_left fun j _ => by rw [dg_enc]
  rw [← e] at f
  have hr : rng [dI' α] = some ((List.range (d (α := α))).map fun (i : Nat) => D.int (i : Int)) := by
    rw [o_rng1, if_pos (big_nat (by omega)), Int.toNat_natCast, rangeD_nat]
  refine fn_rt (seq_w [.val (wobj α), .val (eI x), .own [], .no] (by simp) (seq_w [.val (wobj α), .val (.int ((enc x / p (α := α) ^ d (α := α) : Nat) : Int)), .own (rowD x), j'] ?_ ?_))
  · have hi : fRng (fCons (fOp dIx (fVarB 0) (fC (.int 1))) fNil) [.val (wobj α), .val (eI x), .own [], .no] w = some ((List.range (d (α := α))).map fun (i : Nat) => D.int (i : Int), w) := by
      simp only [r_fRng, r_fCons, r_fOp, r_fVarB, r_fC, r_fNil, List.getElem?_cons_succ, List.getElem?_cons_zero, Option.bind_some, Option.map_some, o_ixL, atI_1, ww1]
      rw [hr]
      rfl
    rw [r_fFor, hi]
    exact f
  · simp
/-! ### same -/
theorem seq_rt {f1 f2 : FS} {ρ : En} {w w1 : Wd} {x : D} (h1 : f1 ρ w = some (.rt x, w1)) : fSeq f1 f2 ρ w = some (.rt x, w1) := by
  rw [r_fSeq, h1]
  rfl
theorem if_t {ft : FT} {f1 f2 : FS} {ρ : En} {w w1 : Wd} {r : Option (Out × Wd)} (ht : ft ρ w = some (true, w1)) (h : f1 ρ w1 = r) : fIf ft f1 f2 ρ w = r := by
  rw [r_fIf, ht]
  exact h
theorem if_f {ft : FT} {f1 f2 : FS} {ρ : En} {w w1 : Wd} {r : Option (Out × Wd)} (ht : ft ρ w = some (false, w1)) (h : f2 ρ w1 = r) : fIf ft f1 f2 ρ w = r := by
  rw [r_fIf, ht]
  exact h
theorem same_int (i : Int) (n : Nat) (w : Wd) : m_l_same (n + 1) [.int i, .int i] w = some (.bl true, w) := by
  show fnD 3 (f_l_same (m_l_same n)) _ w = _
  refine fn_rt (seq_w [.val (.int i), .val (.int i), .no] (by simp) ?_)
  simp
theorem enum_none {l : List D} {rec : Fn} {w : Wd} (h : ∀ x, x ∈ l → rec [x, x] w = some (.bl true, w)) : lcLoop (bnd1 2) (ftNot (ftVal (fCall rec [] 2 (fCons (fOp dIx (fVarB 0) (fVarB 2)) (fCons (fOp dIx (fVarB 1) (fVarB 2)) fNil))))) (fVar 2) ((List.range l.length).map fun (i : Nat) => D.int (i : Int)) [.val (.tup l), .val (.tup l), .no] w = some ([], w) := by
  have := lc_filter (ρ := [.val (.tup l), .val (.tup l), .no]) (w := w) (bnd := bnd1 2) (ft := ftNot (ftVal (fCall rec [] 2 (fCons (fOp dIx (fVarB 0) (fVarB 2)) (fCons (fOp dIx (fVarB 1) (fVarB 2)) fNil))))) (fe := fVar 2) (fun (i : Nat) => D.int (i : Int)) (fun _ => false) (fun i => D.int (i : Nat)) (List.range l.length) (fun i hi => by
    have hl := List.mem_range.mp hi
    have at_ : L2.atI l (i : Int) = some l[i] := by rw [atI_nat, List.getElem?_eq_getElem hl]
    have hh := h l[i] (List.getElem_mem hl)
    simp [at_, hh]) (fun i hi z => by cases z)
  rw [this, show (List.range l.length).filter (fun _ => false) = [] from List.filter_eq_nil_iff.mpr fun _ _ y => nomatch y]
  rfl
theorem same_tup (l : List D) (hl : l.length < 1000) (n : Nat) (w : Wd) (h : ∀ x, x ∈ l → m_l_same n [x, x] w = some (.bl true, w)) : m_l_same (n + 1) [.tup l, .tup l] w = some (.bl true, w) := by
  show fnD 3 (f_l_same (m_l_same n)) _ w = _
  have en := enum_none h
  have hr : rng [.int (l.length : Nat)] = some ((List.range l.length).map fun (i : Nat) => D.int (i : Int)) := by
    rw [o_rng1, if_pos (big_nat (by omega)), Int.toNat_natCast, rangeD_nat]
  have cl : ((List.range l.length).map fun (i : Nat) => D.int (i : Int)).length ≤ 100000 := by rw [List.length_map, List.length_range]; omega
  have t1 : ftVal (fIsi "tuple" (fVar 1)) [.val (.tup l), .val (.tup l), .no] w = some (true, w) := by simp
  have t2 : fIf (ftOr (ftNot (ftVal (fIsi "tuple" (fVar 0)))) (ftVal (fOp dNe (fOp1 dLen (fVarB 0)) (fOp1 dLen (fVarB 1))))) (fRet (fC (.bl false))) fPass [.val (.tup l), .val (.tup l), .no] w = some (.nx [.val (.tup l), .val (.tup l), .no], w) := by simp
  refine fn_rt (seq_rt (if_t t1 (seq_w [.val (.tup l), .val (.tup l), .no] t2 ?_)))
  simp only [Option.bind_some, r_fRet, r_fOp, r_asE, r_fLc, r_fRng, r_fCons, r_fNil, r_fOp1, r_fVarB, List.getElem?_cons_succ, List.getElem?_cons_zero, Option.map_some, o_lenT, r_wipeC, r_wipeN, List.set_cons_succ, List.set_cons_zero, cap_v, r_fLst, List.length_nil, Nat.zero_le, if_true]
  rw [hr]
  simp only [Option.bind_some, Option.map_some]
  rw [if_pos cl, en]
  rfl
theorem same_P (f : Po α) (hf : len f < 1000) (n : Nat) (w : Wd) : m_l_same (n + 2) [P f, P f] w = some (.bl true, w) := same_tup _ (by rw [eL_len]; exact hf) _ w fun x m => by
  obtain ⟨a, _, rfl⟩ := List.mem_map.mp m
  exact same_int _ _ w
theorem same_eL (l : List α) (hf : l.length < 1000) (n : Nat) (w : Wd) : m_l_same (n + 2) [.tup (eL l), .tup (eL l)] w = some (.bl true, w) := same_tup _ (by rw [eL_len]; exact hf) _ w fun x m => by
  obtain ⟨a, _, rfl⟩ := List.mem_map.mp m
  exact same_int _ _ w
theorem same_PP (f g : Po α) (hf : len f < 1000) (hg : len g < 1000) (n : Nat) (w : Wd) : m_l_same (n + 3) [.tup [P f, P g], .tup [P f, P g]] w = some (.bl true, w) := same_tup _ (by show 2 < 1000; omega) _ w fun x m => by
  rcases List.mem_cons.mp m with rfl | m
  · exact same_P f hf n w
  · rcases List.mem_cons.mp m with rfl | m
    · exact same_P g hg n w
    · cases m
theorem range_els : (List.range (n (α := α))).map (fun (i : Nat) => D.int (i : Int)) = eL (els : List α) := by
  refine List.ext_getElem? fun k => ?_
  rw [List.getElem?_map, eL_get]
  rcases Nat.lt_or_ge k (n (α := α)) with h | h
  · have hk : k < (els : List α).length := by rw [els_len]; exact h
    rw [List.getElem?_range h, List.getElem?_eq_getElem hk]
    have := enc_els k _ (List.getElem?_eq_getElem hk)
    show some (D.int (k : Int)) = some (D.int ((enc (els : List α)[k] : Nat) : Int))
    rw [this]
  · rw [List.getElem?_eq_none_iff.mpr (show (List.range (n (α := α))).length ≤ k by rw [List.length_range]; exact h), List.getElem?_eq_none_iff.mpr (show (els : List α).length ≤ k by rw [els_len]; exact h)]
    rfl
theorem mem_els (x : α) : x ∈ (els : List α) := List.mem_of_getElem? (els_enc x)
theorem nodup_els : (els : List α).Nodup := by
  refine List.pairwise_iff_getElem.mpr fun i j hi hj lt e => ?_
  have h1 := enc_els i _ (List.getElem?_eq_getElem hi)
  have h2 := enc_els j _ (List.getElem?_eq_getElem hj)
  rw [e] at h1
  omega
theorem rng_els : rng [.int (n (α := α) : Nat)] = some (eL (els : List α)) := by
  have := n_le (α := α)
  rw [o_rng1, if_pos (big_nat (by omega)), Int.toNat_natCast, rangeD_nat, range_els]
theorem els_cap : (eL (els : List α)).length ≤ 100000 := by rw [eL_len, els_len]; have := n_le (α := α); omega
theorem lc_eLf {ρ : En} {w : Wd} {i : Nat} {ft : FT} (t : α → Bool) (hv : ∀ x, (ρ.set i x)[i]? = some x) (l : List α) (h : ∀ b, b ∈ l → ft (bnd1 i (eI b) ρ) w = some (t b, w)) : lcLoop (bnd1 i) ft (fVar i) (eL l) ρ w = some (eL (l.filter t), w) :=
  lc_filter (ρ := ρ) (w := w) (bnd := bnd1 i) eI t eI l h fun b _ _ => by simp [hv]
theorem m_lzeros (f : Po α) (w : Wd) : m_l_zeros [wobj α, P f] w = some (.lst (eL ((els : List α).filter fun x => decide (f.ev x = 0))), w) := by
  have lc := lc_eLf (ρ := [.val (wobj α), .val (P f), .no]) (w := w) (i := 2) (ft := ftVal (fOp dEq (fCall m_l_value [] 3 (fCons (fVar 0) (fCons (fVar 1) (fCons (fVar 2) fNil)))) (fC (.int 0)))) (fun x : α => decide (f.ev x = 0)) (fun _ => rfl) els (fun x _ => by
    have t := m_lvalueP f x w
    simp [t])
  refine fn_rt ?_
  simp only [f_l_zeros, r_fRet, r_asE, r_fLc, r_fRng, r_fCons, r_fNil, r_fOp, r_fVarB, r_fC, List.map_cons, List.map_nil, List.length_cons, List.length_nil, List.cons_append, List.getElem?_cons_succ, List.getElem?_cons_zero, Option.bind_some, Option.map_some, o_ixL, atI_2, ww2, r_wipeC, r_wipeN, List.set_cons_succ, List.set_cons_zero, cap_v]
  rw [rng_els]
  simp only [Option.bind_some, Option.map_some]
  rw [if_pos els_cap]
  show Option.map _ (Option.map _ (lcLoop (bnd1 2) _ _ (eL els) [.val (wobj α), .val (P f), .no] w)) = _
  rw [lc]
  rfl
theorem m_lrows (l : List α) (hl : l.length < 1000) (w : Wd) : m_l_rows [fobj α, .lst (eL l)] w = some (.lst (rowsD false l), w) := by
  have lc := lc_map (ρ := [.val (fobj α), .val (.lst (eL l)), .no]) (w := w) (bnd := bnd1 2) (fe := fMeth m_F_digits_of 2 (fVar 0) (fCons (fVar 2) fNil)) (fun x : α => eI x) (fun x => D.tup (rowD x)) l (fun x _ => by simp)
  have lc : lcLoop (bnd1 2) ftYes (fMeth m_F_digits_of 2 (fVar 0) (fCons (fVar 2) fNil)) (eL l) [.val (fobj α), .val (.lst (eL l)), .no] w = some (rowsD false l, w) := lc
  have c : l.length ≤ 100000 := by omega
  refine fn_rt ?_
  simp [f_l_rows, c, lc]
end
end K39
end
section
set_option maxRecDepth 100000
set_option autoImplicit false
/-! QF: the law's basis -/
namespace K39
open Lean.Grind FF FD FX
section
variable {α : Type} [FX α]
def rw2 (t : α) : D := .tup [eI t, .lst (rowD t)]
theorem eq_nil_ints (ns : List Int) : dEq (.lst (dI ns)) (.lst []) = some (.bl ns.isEmpty) := by
  show ((unInts (dI ns)).map List.isEmpty).map D.bl = _
  rw [unInts_ints]
  rfl
def iD (l : List Nat) : List D := l.map fun (i : Nat) => D.int (i : Int)
theorem iD_dI (l : List Nat) : iD l = dI (l.map fun (i : Nat) => (i : Int)) := by
  unfold iD dI
  rw [List.map_map]
  rfl
theorem in_iD (l : List Nat) (q : Nat) : dIn false (.int (q : Nat)) (.lst (iD l)) = some (.bl (decide (q ∈ l))) := by
  rw [iD_dI]
  show (unInts (dI (l.map fun (i : Nat) => (i : Int)))).map _ = _
  rw [unInts_ints]
  show some (D.bl (decide ((q : Int) ∈ l.map fun (i : Nat) => (i : Int)))) = _
  congr 2
  refine decide_eq_decide.mpr ?_
  rw [List.mem_map]
  constructor
  · rintro ⟨e, m, h⟩
    rw [show q = e by omega]
    exact m
  · exact fun m => ⟨q, m, rfl⟩
theorem lc_iD {ρ : En} {w : Wd} {i : Nat} {ft : FT} (t : Nat → Bool) (hv : ∀ x, (ρ.set i x)[i]? = some x) (l : List Nat) (h : ∀ b, b ∈ l → ft (bnd1 i (.int (b : Nat)) ρ) w = some (t b, w)) : lcLoop (bnd1 i) ft (fVar i) (iD l) ρ w = some (iD (l.filter t), w) :=
  lc_filter (ρ := ρ) (w := w) (bnd := bnd1 i) (fun (b : Nat) => D.int (b : Int)) t (fun (b : Nat) => D.int (b : Int)) l h fun b _ _ => by simp [hv]
/-- which rows a place takes -/
def takes (places : List Nat) (q : Nat) (t : α) : Bool := decide (first t = q) && decide (dg q t = 1) && ((places.filter fun o => decide (o ≠ q)).filter fun o => decide (dg o t ≠ 0)).isEmpty
theorem step_lbasis (W0 W1 : Sl) (F : List D) (places : List Nat) (hpl : ∀ o, o ∈ places → o < d (α := α)) (hps : places.length < 1000) (W6 : Sl) (q : Nat) (hq : q < d (α := α)) (R2 : Sl) (i : Nat) (t : α) (hF : L2.atI F (i : Int) = some (.int (first t : Nat))) (L : List α) (hL : L.length < 9000) (j3 j5 j10 j11 : Sl) (w : Wd) :
    b_l_basis_1 (bnd2 11 5 (.int (i : Nat), rw2 t) [W0, W1, R2, j3, .val (.lst F), j5, W6, .val (.int (q : Nat)), .own (eL L), .val (.lst (iD (places.filter fun o => decide (o ≠ q)))), j10, j11]) w = some (.nx [W0, W1, R2, j3, .val (.lst F), .val (rw2 t), W6, .val (.int (q : Nat)), .own (eL (if takes places q t = true then L ++ [t] else L)), .val (.lst (iD (places.filter fun o => decide (o ≠ q)))), j10, .val (.int (i : Nat))], w) := by
  generalize hO : (places.filter fun o => decide (o ≠ q)) = others
  have hOl : ∀ o, o ∈ others → o < d (α := α) := fun o m => by
    rw [← hO] at m
    exact hpl o (List.mem_filter.mp m).1
  have hOs : others.length < 1000 := by
    rw [← hO]
    exact Nat.lt_of_le_of_lt (List.length_filter_le ..) hps
  have tk : takes places q t = (decide (first t = q) && (decide (dg q t = 1) && (others.filter fun o => decide (dg o t ≠ 0)).isEmpty)) := by
    unfold takes
    rw [hO, Bool.and_assoc]
  have at_ := row_at t hq
  have c1 : ftVal (fOp dEq (fOp dIx (fVarB 4) (fVarB 11)) (fVarB 7)) [W0, W1, R2, j3, .val (.lst F), .val (rw2 t), W6, .val (.int (q : Nat)), .own (eL L), .val (.lst (iD others)), j10, .val (.int (i : Nat))] w = some (decide (first t = q), w) := by
    simp [hF]
    omega
  have c2 : ftVal (fOp dEq (fOp dIx (fOp dIx (fVarB 5) (fC (.int 1))) (fVarB 7)) (fC (.int 1))) [W0, W1, R2, j3, .val (.lst F), .val (rw2 t), W6, .val (.int (q : Nat)), .own (eL L), .val (.lst (iD others)), j10, .val (.int (i : Nat))] w = some (decide (dg q t = 1), w) := by
    have e : decide ((dg q t : Int) = 1) = decide (dg q t = 1) := decide_eq_decide.mpr (by omega)
    simp only [r_ftVal, r_fOp, r_fVarB, r_fC, List.getElem?_cons_succ, List.getElem?_cons_zero, Option.bind_some, rw2, o_ixT, o_ixL, atI_1, Option.map_some, at_, o_eq]
    rw [e]
  have c3 : ftVal (fOp dEq (asE (fLc [10] (bnd1 10) (fItems (fVarB 9)) (ftVal (fOp dNe (fOp dIx (fOp dIx (fVarB 5) (fC (.int 1))) (fVarB 10)) (fC (.int 0)))) (fVar 10))) (asE (fLst fNil))) [W0, W1, R2, j3, .val (.lst F), .val (rw2 t), W6, .val (.int (q : Nat)), .own (eL L), .val (.lst (iD others)), j10, .val (.int (i : Nat))] w = some ((others.filter fun o => decide (dg o t ≠ 0)).isEmpty, w) := by
    have lc := lc_iD (ρ := [W0, W1, R2, j3, .val (.lst F), .val (rw2 t), W6, .val (.int (q : Nat)), .own (eL L), .val (.lst (iD others)), .no, .val (.int (i : Nat))]) (w := w) (i := 10) (ft := ftVal (fOp dNe (fOp dIx (fOp dIx (fVarB 5) (fC (.int 1))) (fVarB 10)) (fC (.int 0)))) (fun o => decide (dg o t ≠ 0)) (fun _ => rfl) others (fun o m => by
      have at2 := row_at t (hOl o m)
      simp [rw2, at2])
    have cl : (iD others).length ≤ 100000 := by
      unfold iD
      rw [List.length_map]
      omega
    simp only [r_ftVal, r_fOp, r_asE, r_fLc, r_fLst, r_fNil, r_fItems, r_fVarB, List.getElem?_cons_succ, List.getElem?_cons_zero, Option.bind_some, it_l, Option.map_some, r_wipeC, r_wipeN, List.set_cons_succ, List.set_cons_zero, cap_v, List.length_nil, Nat.zero_le, if_true]
    rw [if_pos cl, lc]
    simp only [Option.map_some, Option.bind_some]
    rw [iD_dI, eq_nil_ints]
    simp only [Option.map_some, Option.bind_some]
    rw [show ((others.filter fun o => decide (dg o t ≠ 0)).map fun (i : Nat) => (i : Int)).isEmpty = (others.filter fun o => decide (dg o t ≠ 0)).isEmpty by cases (others.filter fun o => decide (dg o t ≠ 0)) <;> rfl]
  have ca : ftAnd (ftVal (fOp dEq (fOp dIx (fVarB 4) (fVarB 11)) (fVarB 7))) (ftAnd (ftVal (fOp dEq (fOp dIx (fOp dIx (fVarB 5) (fC (.int 1))) (fVarB 7)) (fC (.int 1)))) (ftVal (fOp dEq (asE (fLc [10] (bnd1 10) (fItems (fVarB 9)) (ftVal (fOp dNe (fOp dIx (fOp dIx (fVarB 5) (fC (.int 1))) (fVarB 10)) (fC (.int 0)))) (fVar 10))) (asE (fLst fNil))))) [W0, W1, R2, j3, .val (.lst F), .val (rw2 t), W6, .val (.int (q : Nat)), .own (eL L), .val (.lst (iD others)), j10, .val (.int (i : Nat))] w = some (takes places q t, w) := by
    rw [r_ftAnd, c1, tk]
    simp only [Option.bind_some]
    cases decide (first t = q) with
    | false => rfl
    | true =>
      rw [if_pos rfl, r_ftAnd, c2]
      simp only [Option.bind_some]
      cases decide (dg q t = 1) with
      | false => rfl
      | true =>
        rw [if_pos rfl, c3]
        rfl
  have cl : (eL L).length < 100000 := by rw [eL_len]; omega
  cases ht : takes places q t with
  | true =>
    rw [ht] at ca
    rw [if_pos rfl]
    refine if_t ca ?_
    have ap : eL L ++ [eI t] = eL (L ++ [t]) := by rw [eL_app]; rfl
    simp only [r_bnd2, r_fApp, r_fOp, r_fVarB, r_fC, List.getElem?_cons_succ, List.getElem?_cons_zero, Option.bind_some, rw2, o_ixT, atI_0, Option.map_some, List.set_cons_succ, List.set_cons_zero, cap_v]
    rw [if_pos cl, ap]
  | false =>
    rw [ht] at ca
    rw [if_neg Bool.false_ne_true]
    exact if_f ca rfl
theorem enum_cons (i : Nat) (x : D) (l : List D) : enumD i (x :: l) = (.int (i : Nat), x) :: enumD (i + 1) l := rfl
theorem loop_lbasis1 (W0 W1 : Sl) (F : List D) (places : List Nat) (hpl : ∀ o, o ∈ places → o < d (α := α)) (hps : places.length < 1000) (W6 : Sl) (q : Nat) (hq : q < d (α := α)) (R2 j3 j10 : Sl) (w : Wd) : ∀ (l : List α) (i : Nat) (L : List α) (j5 j11 : Sl), (∀ k t, l[k]? = some t → L2.atI F ((i + k : Nat) : Int) = some (.int (first t : Nat))) → L.length + l.length < 9000 → ∃ j5' j11', forLoop (bnd2 11 5) b_l_basis_1 (enumD i (l.map rw2)) [W0, W1, R2, j3, .val (.lst F), j5, W6, .val (.int (q : Nat)), .own (eL L), .val (.lst (iD (places.filter fun o => decide (o ≠ q)))), j10, j11] w =
    some (.nx [W0, W1, R2, j3, .val (.lst F), j5', W6, .val (.int (q : Nat)), .own (eL (L ++ l.filter (takes places q))), .val (.lst (iD (places.filter fun o => decide (o ≠ q)))), j10, j11'], w)
  | [], i, L, j5, j11, _, _ => ⟨j5, j11, by rw [List.filter_nil, List.append_nil]; rfl⟩
  | t :: l, i, L, j5, j11, h1, h2 => by
    rw [List.length_cons] at h2
    have hF := h1 0 t rfl
    rw [Nat.add_zero] at hF
    have hb := step_lbasis W0 W1 F places hpl hps W6 q hq R2 i t hF L (by omega) j3 j5 j10 j11 w
    obtain ⟨k5, k11, ih⟩ := loop_lbasis1 W0 W1 F places hpl hps W6 q hq R2 j3 j10 w l (i + 1) (if takes places q t = true then L ++ [t] else L) (.val (rw2 t)) (.val (.int (i : Nat))) (fun k s hs => by
      have := h1 (k + 1) s hs
      rw [show i + (k + 1) = i + 1 + k by omega] at this
      exact this) (by
        split
        · rw [List.length_append]
          show L.length + 1 + l.length < 9000
          omega
        · omega)
    refine ⟨k5, k11, ?_⟩
    rw [List.map_cons, enum_cons, fl_cons, hb]
    have e : (if takes places q t = true then L ++ [t] else L) ++ l.filter (takes places q) = L ++ (t :: l).filter (takes places q) := by
      cases ht : takes places q t with
      | true => rw [if_pos rfl, List.filter_cons_of_pos ht, List.append_assoc]; rfl
      | false => rw [if_neg Bool.false_ne_true, List.filter_cons_of_neg (by rw [ht]; exact Bool.false_ne_true)]
    rw [e] at ih
    exact ih
theorem loop_lbasis2 (W1 : Sl) (F : List D) (places : List Nat) (hpl : ∀ o, o ∈ places → o < d (α := α)) (hps : places.length < 10) (rows : List α) (hrows : rows.length < 500) (hF : ∀ (k : Nat) (t : α), rows[k]? = some t → L2.atI F ((k : Nat) : Int) = some (.int (first t : Nat))) (W0 j3 j10 : Sl) (w : Wd) : ∀ (c : List Nat) (L : List α) (j5 j7 j9 j11 : Sl), (∀ q, q ∈ c → q < d (α := α)) → L.length + c.length * 500 < 8000 → ∃ j5' j7' j9' j11', forLoop (bnd1 7) b_l_basis_2 (iD c) [W0, W1, .val (.lst (rows.map rw2)), j3, .val (.lst F), j5, .val (.lst (iD places)), j7, .own (eL L), j9, j10, j11] w =
    some (.nx [W0, W1, .val (.lst (rows.map rw2)), j3, .val (.lst F), j5', .val (.lst (iD places)), j7', .own (eL (L ++ c.flatMap fun q => rows.filter (takes places q))), j9', j10, j11'], w)
  | [], L, j5, j7, j9, j11, _, _ => ⟨j5, j7, j9, j11, by rw [List.flatMap_nil, List.append_nil]; rfl⟩
  | q :: c, L, j5, j7, j9, j11, h1, h2 => by
    rw [List.length_cons] at h2
    have fl := List.length_filter_le (takes places q) rows
    obtain ⟨k5, k11, g⟩ := loop_lbasis1 W0 W1 F places hpl (by omega) (.val (.lst (iD places))) q (h1 q (List.mem_cons_self ..)) (.val (.lst (rows.map rw2))) j3 j10 w rows 0 L j5 j11 (fun k t ht => by rw [Nat.zero_add]; exact hF k t ht) (by omega)
    obtain ⟨m5, m7, m9, m11, ih⟩ := loop_lbasis2 W1 F places hpl hps rows hrows hF W0 j3 j10 w c (L ++ rows.filter (takes places q)) k5 (.val (.int (q : Nat))) (.val (.lst (iD (places.filter fun o => decide (o ≠ q))))) k11 (fun r m => h1 r (List.mem_cons_of_mem _ m)) (by rw [List.length_append]; omega)
    refine ⟨m5, m7, m9, m11, ?_⟩
    have lc := lc_iD (ρ := [W0, W1, .val (.lst (rows.map rw2)), j3, .val (.lst F), j5, .val (.lst (iD places)), .val (.int (q : Nat)), .own (eL L), j9, .no, j11]) (w := w) (i := 10) (ft := ftVal (fOp dNe (fVarB 10) (fVarB 7))) (fun o => decide (o ≠ q)) (fun _ => rfl) places (fun o m => by
      simp
      omega)
    have cl : (iD places).length ≤ 100000 := by
      unfold iD
      rw [List.length_map]
      omega
    have hb : b_l_basis_2 (bnd1 7 (.int (q : Nat)) [W0, W1, .val (.lst (rows.map rw2)), j3, .val (.lst F), j5, .val (.lst (iD places)), j7, .own (eL L), j9, j10, j11]) w = some (.nx [W0, W1, .val (.lst (rows.map rw2)), j3, .val (.lst F), k5, .val (.lst (iD places)), .val (.int (q : Nat)), .own (eL (L ++ rows.filter (takes places q))), .val (.lst (iD (places.filter fun o => decide (o ≠ q)))), j10, k11], w) := by
      refine seq_w [W0, W1, .val (.lst (rows.map rw2)), j3, .val (.lst F), j5, .val (.lst (iD places)), .val (.int (q : Nat)), .own (eL L), .val (.lst (iD (places.filter fun o => decide (o ≠ q)))), j10, j11] ?_ ?_
      · simp only [r_bnd1, r_fAsg, r_asE, r_fLc, r_fItems, r_fVarB, List.getElem?_cons_succ, List.getElem?_cons_zero, Option.bind_some, it_l, Option.map_some, r_wipeC, r_wipeN, List.set_cons_succ, List.set_cons_zero, cap_v]
        rw [if_pos cl, lc]
        rfl
      · simp only [r_fFor, r_fEnum, r_fVar, List.getElem?_cons_succ, List.getElem?_cons_zero, Option.bind_some, it_l, Option.map_some]
        exact g
    show forLoop (bnd1 7) b_l_basis_2 (.int (q : Nat) :: iD c) _ w = _
    rw [fl_cons, hb, List.flatMap_cons, ← List.append_assoc]
    exact ih
theorem m_lbasis (l : List α) (hl : l.length < 500) (w : Wd) : m_l_basis [wobj α, .lst (eL l)] w = some (.tup (eL (lbasis l)), w) := by
  have dl := d_le (α := α)
  generalize hr : l.filter (fun t => decide (t ≠ 0)) = rows
  have hrl : rows.length < 500 := by rw [← hr]; exact Nat.lt_of_le_of_lt (List.length_filter_le ..) hl
  have l1 := lc_filter (ρ := [.val (wobj α), .val (.lst (eL l)), .no, .no, .no, .no, .no, .no, .no, .no, .no, .no]) (w := w) (bnd := bnd1 3) (ft := ftVal (fOp dNe (fVarB 3) (fC (.int 0)))) (fe := fTup (fCons (fVar 3) (fCons (fCall m_l_digits [] 2 (fCons (fVar 0) (fCons (fVar 3) fNil))) fNil))) (fun x : α => eI x) (fun t => decide (t ≠ 0)) (fun t => rw2 t) l (fun t _ => by simp) (fun t _ _ => by
    have := m_ldig t w
    simp [this, rw2])
  rw [hr] at l1
  have l1 : lcLoop (bnd1 3) (ftVal (fOp dNe (fVarB 3) (fC (.int 0)))) (fTup (fCons (fVar 3) (fCons (fCall m_l_digits [] 2 (fCons (fVar 0) (fCons (fVar 3) fNil))) fNil))) (eL l) [.val (wobj α), .val (.lst (eL l)), .no, .no, .no, .no, .no, .no, .no, .no, .no, .no] w = some (rows.map rw2, w) := l1
  have c1 : (eL l).length ≤ 100000 := by rw [eL_len]; omega
  have c2 : (rows.map rw2).length ≤ 100000 := by rw [List.length_map]; omega
  have l2 := lc_map (ρ := [.val (wobj α), .val (.lst (eL l)), .val (.lst (rows.map rw2)), .no, .no, .no, .no, .no, .no, .no, .no, .no]) (w := w) (bnd := bnd1 5) (fe := fCall m_l_first [] 1 (fCons (fOp dIx (fVarB 5) (fC (.int 1))) fNil)) (fun t : α => rw2 t) (fun t => D.int (first t : Nat)) rows (fun t _ => by
    have := m_lfirst true t w
    simp at this
    simp [rw2, this])
  have l2 : lcLoop (bnd1 5) ftYes (fCall m_l_first [] 1 (fCons (fOp dIx (fVarB 5) (fC (.int 1))) fNil)) (rows.map rw2) [.val (wobj α), .val (.lst (eL l)), .val (.lst (rows.map rw2)), .no, .no, .no, .no, .no, .no, .no, .no, .no] w = some (iD (rows.map first), w) := by
    rw [show iD (rows.map first) = rows.map fun t => D.int (first t : Nat) by unfold iD; rw [List.map_map]; rfl]
    exact l2
  have hrng : rng [dI' α] = some (iD (List.range (d (α := α)))) := by
    rw [o_rng1, if_pos (big_nat (by omega)), Int.toNat_natCast, rangeD_nat]
    rfl
  have c3 : (iD (List.range (d (α := α)))).length ≤ 100000 := by
    unfold iD
    rw [List.length_map, List.length_range]
    omega
  generalize hp : (List.range (d (α := α))).filter (fun q => decide (q ∈ rows.map first)) = places
  have l3 := lc_iD (ρ := [.val (wobj α), .val (.lst (eL l)), .val (.lst (rows.map rw2)), .no, .val (.lst (iD (rows.map first))), .no, .no, .no, .no, .no, .no, .no]) (w := w) (i := 7) (ft := ftVal (fOp (dIn false) (fVarB 7) (fVarB 4))) (fun q => decide (q ∈ rows.map first)) (fun _ => rfl) (List.range (d (α := α))) (fun q _ => by
    have := in_iD (rows.map first) q
    simp only [r_bnd1, r_ftVal, r_fOp, r_fVarB, List.getElem?_cons_succ, List.getElem?_cons_zero, Option.bind_some, Option.map_some, List.set_cons_succ, List.set_cons_zero]
    rw [this]
    rfl)
  rw [hp] at l3
  have hpl : ∀ o, o ∈ places → o < d (α := α) := fun o m => by
    rw [← hp] at m
    exact List.mem_range.mp (List.mem_filter.mp m).1
  have hps : places.length ≤ 4 := by
    rw [← hp]
    have := List.length_filter_le (fun q => decide (q ∈ rows.map first)) (List.range (d (α := α)))
    rw [List.length_range] at this
    omega
  obtain ⟨k5, k7, k9, k11, g⟩ := loop_lbasis2 (.val (.lst (eL l))) (iD (rows.map first)) places hpl (by omega) rows hrl (fun k t ht => by
    rw [atI_nat]
    unfold iD
    rw [List.getElem?_map, List.getElem?_map, ht]
    rfl) (.val (wobj α)) .no .no w places [] .no .no .no .no hpl (by show 0 + places.length * 500 < 8000; omega)
  have el : ([] : List α) ++ (places.flatMap fun q => rows.filter (takes places q)) = lbasis l := by
    unfold lbasis
    simp only []
    rw [hr, hp]
    rfl
  rw [el] at g
  refine fn_rt (seq_w [.val (wobj α), .val (.lst (eL l)), .val (.lst (rows.map rw2)), .no, .no, .no, .no, .no, .no, .no, .no, .no] ?_ (seq_w [.val (wobj α), .val (.lst (eL l)), .val (.lst (rows.map rw2)), .no, .val (.lst (iD (rows.map first))), .no, .no, .no, .no, .no, .no, .no] ?_ (seq_w [.val (wobj α), .val (.lst (eL l)), .val (.lst (rows.map rw2)), .no, .val (.lst (iD (rows.map first))), .no, .val (.lst (iD places)), .no, .no, .no, .no, .no] ?_
    (seq_w [.val (wobj α), .val (.lst (eL l)), .val (.lst (rows.map rw2)), .no, .val (.lst (iD (rows.map first))), .no, .val (.lst (iD places)), .no, .own (eL ([] : List α)), .no, .no, .no] (by simp; rfl) (seq_w [.val (wobj α), .val (.lst (eL l)), .val (.lst (rows.map rw2)), .no, .val (.lst (iD (rows.map first))), k5, .val (.lst (iD places)), k7, .own (eL (lbasis l)), k9, .no, k11] ?_ ?_)))))
  · simp only [r_fAsg, r_asE, r_fLc, r_fItems, r_fVarB, List.map_cons, List.map_nil, List.length_cons, List.length_nil, List.cons_append, List.getElem?_cons_succ, List.getElem?_cons_zero, Option.bind_some, it_l, Option.map_some, r_wipeC, r_wipeN, List.set_cons_succ, List.set_cons_zero, cap_v]
    rw [if_pos c1]
    show Option.map _ (Option.map _ (lcLoop (bnd1 3) _ _ (eL l) [.val (wobj α), .val (.lst (eL l)), .no, .no, .no, .no, .no, .no, .no, .no, .no, .no] w)) = _
    rw [l1]
    rfl
  · simp only [r_fAsg, r_asE, r_fLc, r_fItems, r_fVarB, List.getElem?_cons_succ, List.getElem?_cons_zero, Option.bind_some, it_l, Option.map_some, r_wipeC, r_wipeN, List.set_cons_succ, List.set_cons_zero, cap_v]
    rw [if_pos c2, l2]
    rfl
  · simp only [r_fAsg, r_asE, r_fLc, r_fRng, r_fCons, r_fNil, r_fOp, r_fC, r_fVarB, List.getElem?_cons_succ, List.getElem?_cons_zero, Option.bind_some, o_ixL, atI_1, ww1, Option.map_some, r_wipeC, r_wipeN, List.set_cons_succ, List.set_cons_zero, cap_v]
    rw [hrng]
    simp only [Option.bind_some, Option.map_some]
    rw [if_pos c3, l3]
    rfl
  · simp only [r_fFor, r_fItems, r_fVar, List.getElem?_cons_succ, List.getElem?_cons_zero, Option.bind_some, it_l, Option.map_some]
    exact g
  · simp
end
end K39
end
section
set_option maxRecDepth 100000
set_option autoImplicit false
/-! QG: the law's span -/
namespace K39
open Lean.Grind FF FD FX
theorem nodup_le : ∀ (n : Nat) (l : List Nat), l.Nodup → (∀ x, x ∈ l → x < n) → l.length ≤ n
  | 0, [], _, _ => Nat.le_refl _
  | 0, a :: l, _, h => absurd (h a (List.mem_cons_self ..)) (Nat.not_lt_zero a)
  | n + 1, l, nd, h => by
    have h1 := nodup_le n (l.erase n) (nd.erase n) (fun x m => by
      have := h x (List.mem_of_mem_erase m)
      have ne : x ≠ n := fun z => by
        subst z
        exact (List.Nodup.mem_erase_iff nd).mp m |>.1 rfl
      omega)
    have h2 : l.length ≤ (l.erase n).length + 1 := by
      by_cases m : n ∈ l
      · rw [List.length_erase_of_mem m]
        omega
      · rw [List.erase_of_not_mem m]
        omega
    omega
section
variable {α : Type} [FX α]
theorem nodup_n {l : List α} (h : l.Nodup) : l.length ≤ n (α := α) := by
  have := nodup_le (n (α := α)) (l.map enc) (List.Pairwise.map _ (fun a b ne e => ne (enc_inj e)) h) (fun x m => by
    obtain ⟨a, _, rfl⟩ := List.mem_map.mp m
    exact enc_lt a)
  rw [List.length_map] at this
  exact this
def copies (t : α) : List α := [0, t, t + t].take (p (α := α))
def sstep (told : List α) (t : α) : List α := if t ∈ told then told else (copies t).flatMap fun c => told.map fun o => o + c
def lspan (l : List α) : List α := l.foldl sstep [0]
def Spans (told B : List α) : Prop := told.Nodup ∧ ∀ x, x ∈ told ↔ Sp B x
theorem mem_copies {t c : α} : c ∈ copies t ↔ ∃ k, k < p (α := α) ∧ c = (k : α) * t := by
  unfold copies
  rcases p23 (α := α) with h | h <;> rw [h]
  · show c ∈ [0, t] ↔ _
    rw [List.mem_cons, List.mem_singleton]
    constructor
    · rintro (z | z)
      · exact ⟨0, by omega, by rw [z]; grind⟩
      · exact ⟨1, by omega, by rw [z]; grind⟩
    · rintro ⟨k, hk, z⟩
      rcases (show k = 0 ∨ k = 1 by omega) with y | y <;> subst y
      · exact .inl (by rw [z]; grind)
      · exact .inr (by rw [z]; grind)
  · show c ∈ [0, t, t + t] ↔ _
    rw [List.mem_cons, List.mem_cons, List.mem_singleton]
    constructor
    · rintro (z | z | z)
      · exact ⟨0, by omega, by rw [z]; grind⟩
      · exact ⟨1, by omega, by rw [z]; grind⟩
      · exact ⟨2, by omega, by rw [z]; grind⟩
    · rintro ⟨k, hk, z⟩
      rcases (show k = 0 ∨ k = 1 ∨ k = 2 by omega) with y | y | y <;> subst y
      · exact .inl (by rw [z]; grind)
      · exact .inr (.inl (by rw [z]; grind))
      · exact .inr (.inr (by rw [z]; grind))
/-- a multiple by a k that is not 0 brings the thing itself -/
theorem sp_div {B : List α} {t : α} {k : Nat} (hk : 0 < k) (hp : k < p (α := α)) (h : Sp B ((k : α) * t)) : Sp B t := by
  have hc := p_char (α := α)
  rcases p23 (α := α) with q | q <;> rw [q] at hc hp
  · have : k = 1 := by omega
    subst this
    rw [show ((1 : Nat) : α) * t = t by grind] at h
    exact h
  · rcases (show k = 1 ∨ k = 2 by omega) with y | y <;> subst y
    · rw [show ((1 : Nat) : α) * t = t by grind] at h
      exact h
    · have h2 := h.plus h
      have e : ((2 : Nat) : α) * t + ((2 : Nat) : α) * t = t + ((3 : Nat) : α) * t := by clear hc h h2; grind
      rw [e, hc, show t + (0 : α) * t = t by grind] at h2
      exact h2
theorem sp_mod {B : List α} {x t : α} : (∃ k : Nat, Sp B (x - (k : α) * t)) ↔ ∃ k, k < p (α := α) ∧ Sp B (x - (k : α) * t) := by
  constructor
  · rintro ⟨k, h⟩
    refine ⟨k % p (α := α), Nat.mod_lt _ p_pos, ?_⟩
    rw [cast_mod]
    exact h
  · rintro ⟨k, _, h⟩
    exact ⟨k, h⟩
theorem trans_inj {a b t : α} {i j : Nat} {B : List α} (hi : i < p (α := α)) (hj : j < p (α := α)) (ha : Sp B a) (hb : Sp B b) (nt : ¬ Sp B t) (e : a + (i : α) * t = b + (j : α) * t) : i = j ∧ a = b := by
  rcases Nat.lt_trichotomy i j with q | q | q
  · exfalso
    have : ((j - i : Nat) : α) * t = a - b := by
      have h : (j : α) = ((j - i : Nat) : α) + (i : α) := by rw [← cast_add, show j - i + i = j by omega]
      rw [h] at e
      generalize ((j - i : Nat) : α) = X at e ⊢
      grind
    exact nt (sp_div (k := j - i) (by omega) (by omega) (by rw [this]; exact ha.sub hb))
  · subst q
    exact ⟨rfl, by grind⟩
  · exfalso
    have : ((i - j : Nat) : α) * t = b - a := by
      have h : (i : α) = ((i - j : Nat) : α) + (j : α) := by rw [← cast_add, show i - j + j = i by omega]
      rw [h] at e
      generalize ((i - j : Nat) : α) = X at e ⊢
      grind
    exact nt (sp_div (k := i - j) (by omega) (by omega) (by rw [this]; exact hb.sub ha))
theorem nodup_copies {B : List α} {t : α} (nt : ¬ Sp B t) : (copies t).Nodup := by
  have t0 : t ≠ 0 := fun z => nt (by rw [z]; exact .zero)
  unfold copies
  have hc := p_char (α := α)
  rcases p23 (α := α) with h | h <;> rw [h] at hc ⊢
  · show [0, t].Nodup
    simp
    exact fun z => t0 z.symm
  · show [0, t, t + t].Nodup
    have a : t + t ≠ 0 := fun z => by
      have e : t = ((3 : Nat) : α) * t - (t + t) := by clear hc z; grind
      rw [hc, z] at e
      exact t0 (by rw [e]; grind)
    have b : t ≠ t + t := fun z => t0 (by grind)
    simp [b]
    exact ⟨fun z => t0 z.symm, fun z => a z.symm⟩
theorem spans_step {told B : List α} (h : Spans told B) (t : α) : Spans (sstep told t) (B ++ [t]) := by
  unfold sstep
  split
  · rename_i m
    have ht := (h.2 t).mp m
    refine ⟨h.1, fun x => ?_⟩
    rw [h.2 x]
    exact ⟨fun k => k.sub' fun b m => List.mem_append_left _ m, fun k => k.mono fun b mb => by
      rcases List.mem_append.mp mb with q | q
      · exact .of q
      · rw [List.mem_singleton.mp q]
        exact ht⟩
  · rename_i m
    have nt : ¬ Sp B t := fun z => m ((h.2 t).mpr z)
    refine ⟨?_, fun x => ?_⟩
    · rw [List.Nodup, List.pairwise_flatMap]
      refine ⟨fun c hc => List.Pairwise.map _ (fun a b ne e => ne (by grind)) h.1, ?_⟩
      refine (nodup_copies nt).imp_of_mem fun {c c'} mc mc' ne x mx y my e => ?_
      obtain ⟨a, ma, rfl⟩ := List.mem_map.mp mx
      obtain ⟨b, mb, rfl⟩ := List.mem_map.mp my
      obtain ⟨i, hi, rfl⟩ := mem_copies.mp mc
      obtain ⟨j, hj, rfl⟩ := mem_copies.mp mc'
      have := (trans_inj hi hj ((h.2 a).mp ma) ((h.2 b).mp mb) nt e).1
      subst this
      exact ne rfl
    · rw [Sp.last, sp_mod, List.mem_flatMap]
      constructor
      · rintro ⟨c, mc, mx⟩
        obtain ⟨a, ma, rfl⟩ := List.mem_map.mp mx
        obtain ⟨k, hk, rfl⟩ := mem_copies.mp mc
        refine ⟨k, hk, ?_⟩
        rw [show a + (k : α) * t - (k : α) * t = a by grind]
        exact (h.2 a).mp ma
      · rintro ⟨k, hk, hs⟩
        refine ⟨(k : α) * t, mem_copies.mpr ⟨k, hk, rfl⟩, List.mem_map.mpr ⟨x - (k : α) * t, (h.2 _).mpr hs, by grind⟩⟩
theorem spans_all : ∀ (l told B : List α), Spans told B → Spans (l.foldl sstep told) (B ++ l)
  | [], told, B, h => by
    rw [List.append_nil]
    exact h
  | t :: l, told, B, h => by
    have := spans_all l _ _ (spans_step h t)
    rw [List.append_assoc] at this
    exact this
theorem spans_0 : Spans [(0 : α)] [] := ⟨by simp, fun x => by
  rw [List.mem_singleton]
  constructor
  · intro z
    rw [z]
    exact .zero
  · intro z
    generalize hb : ([] : List α) = L at z
    cases z with
    | zero => rfl
    | add m _ => rw [← hb] at m; cases m⟩
theorem lspan_ok (l : List α) : Spans (lspan l) l := spans_all l [0] [] spans_0
/-! ### the meaning -/
theorem in_eL (neg : Bool) (x : α) (l : List α) : dIn neg (eI x) (.lst (eL l)) = some (.bl (if neg then !decide (x ∈ l) else decide (x ∈ l))) := by
  have e : eL l = dI (l.map fun a => ((enc a : Nat) : Int)) := by
    unfold eL dI
    rw [List.map_map]
    rfl
  rw [e]
  show (unInts (dI (l.map fun a => ((enc a : Nat) : Int)))).map _ = _
  rw [unInts_ints]
  have d : decide (((enc x : Nat) : Int) ∈ l.map fun a => ((enc a : Nat) : Int)) = decide (x ∈ l) := by
    refine decide_eq_decide.mpr ?_
    rw [List.mem_map]
    constructor
    · rintro ⟨a, m, h⟩
      rw [← enc_inj (show enc a = enc x by omega)]
      exact m
    · exact fun m => ⟨x, m, rfl⟩
  show some (D.bl (if neg = true then !decide (((enc x : Nat) : Int) ∈ l.map fun a => ((enc a : Nat) : Int)) else decide (((enc x : Nat) : Int) ∈ l.map fun a => ((enc a : Nat) : Int)))) = _
  rw [d]
theorem loop_lspan1 (s1 s2 s3 s4 : Sl) (told : List α) (h2 : s2 = .val (.lst (eL told))) (htl : told.length ≤ 27) (w : Wd) : ∀ (c wide : List α) (j6 j7 : Sl), wide.length + c.length * 27 ≤ 1000 → ∃ j6', forLoop (bnd1 6) b_l_span_1 (eL c) [.val (wobj α), s1, s2, s3, s4, .val (.lst (eL wide)), j6, j7] w = some (.nx [.val (wobj α), s1, s2, s3, s4, .val (.lst (eL (wide ++ c.flatMap fun x => told.map fun o => o + x))), j6', j7], w)
  | [], wide, j6, j7, _ => ⟨j6, by rw [List.flatMap_nil, List.append_nil]; rfl⟩
  | x :: c, wide, j6, j7, h => by
    rw [List.length_cons] at h
    obtain ⟨j6', ih⟩ := loop_lspan1 s1 s2 s3 s4 told h2 htl w c (wide ++ told.map fun o => o + x) (.val (eI x)) j7 (by rw [List.length_append, List.length_map]; omega)
    refine ⟨j6', ?_⟩
    have lc := lc_eL (ρ := [.val (wobj α), s1, s2, s3, s4, .val (.lst (eL wide)), .val (eI x), .no]) (w := w) (bnd := bnd1 7) (fe := fOp dIx (fOp dIx (fOp dIx (fVarB 0) (fC (.int 3))) (fVarB 7)) (fVarB 6)) (fun o : α => o + x) told (fun o _ => by simp)
    have c1 : told.length ≤ 100000 := by omega
    have c2 : wide.length + told.length ≤ 100000 := by omega
    have ap : eL wide ++ eL (told.map fun o => o + x) = eL (wide ++ told.map fun o => o + x) := (eL_app ..).symm
    have hb : b_l_span_1 (bnd1 6 (eI x) [.val (wobj α), s1, s2, s3, s4, .val (.lst (eL wide)), j6, j7]) w = some (.nx [.val (wobj α), s1, s2, s3, s4, .val (.lst (eL (wide ++ told.map fun o => o + x))), .val (eI x), j7], w) := by
      subst h2
      simp [b_l_span_1, c1, lc, c2, ap]
    show forLoop (bnd1 6) b_l_span_1 (eI x :: eL c) _ w = _
    rw [fl_cons, hb, List.flatMap_cons, ← List.append_assoc]
    exact ih
theorem loop_lspan2 (s1 : Sl) (w : Wd) : ∀ (l told B : List α) (j3 j4 j5 j6 j7 : Sl), Spans told B → ∃ j3' j4' j5' j6', forLoop (bnd1 3) b_l_span_2 (eL l) [.val (wobj α), s1, .val (.lst (eL told)), j3, j4, j5, j6, j7] w = some (.nx [.val (wobj α), s1, .val (.lst (eL (l.foldl sstep told))), j3', j4', j5', j6', j7], w)
  | [], told, B, j3, j4, j5, j6, j7, _ => ⟨j3, j4, j5, j6, rfl⟩
  | t :: l, told, B, j3, j4, j5, j6, j7, hs => by
    have nl := nodup_n hs.1
    have n27 := n_le (α := α)
    have pl := p_le (α := α)
    by_cases m : t ∈ told
    · have e : sstep told t = told := if_pos m
      obtain ⟨k3, k4, k5, k6, ih⟩ := loop_lspan2 s1 w l (sstep told t) (B ++ [t]) (.val (eI t)) j4 j5 j6 j7 (spans_step hs t)
      refine ⟨k3, k4, k5, k6, ?_⟩
      have inl := in_eL true t told
      rw [decide_eq_true m] at inl
      have hb : b_l_span_2 (bnd1 3 (eI t) [.val (wobj α), s1, .val (.lst (eL told)), j3, j4, j5, j6, j7]) w = some (.nx [.val (wobj α), s1, .val (.lst (eL (sstep told t))), .val (eI t), j4, j5, j6, j7], w) := by
        rw [e]
        refine if_f (w1 := w) ?_ rfl
        simp [inl]
      show forLoop (bnd1 3) b_l_span_2 (eI t :: eL l) _ w = _
      rw [fl_cons, hb]
      exact ih
    · have e : sstep told t = (copies t).flatMap fun c => told.map fun o => o + c := if_neg m
      have cl : (copies t).length ≤ 3 := by
        unfold copies
        rw [List.length_take]
        exact Nat.min_le_right ..
      obtain ⟨i6, g⟩ := loop_lspan1 s1 (.val (.lst (eL told))) (.val (eI t)) (.val (.lst (eL (copies t)))) told rfl (by omega) w (copies t) [] j6 j7 (by show 0 + (copies t).length * 27 ≤ 1000; omega)
      rw [List.nil_append, ← e] at g
      obtain ⟨k3, k4, k5, k6, ih⟩ := loop_lspan2 s1 w l (sstep told t) (B ++ [t]) (.val (eI t)) (.val (.lst (eL (copies t)))) (.val (.lst (eL (sstep told t)))) i6 j7 (spans_step hs t)
      refine ⟨k3, k4, k5, k6, ?_⟩
      have inl := in_eL true t told
      rw [decide_eq_false m] at inl
      have cut : cutD [.int 0, eI t, eI (t + t)] none (some ((p (α := α) : Nat) : Int)) = eL (copies t) := by
        rw [cut_upto _ _ (by show p (α := α) ≤ 3; omega)]
        unfold copies
        rw [← eL_take]
        show List.take _ [D.int 0, eI t, eI (t + t)] = List.take _ [eI (0 : α), eI t, eI (t + t)]
        rw [e0']
      have hb : b_l_span_2 (bnd1 3 (eI t) [.val (wobj α), s1, .val (.lst (eL told)), j3, j4, j5, j6, j7]) w = some (.nx [.val (wobj α), s1, .val (.lst (eL (sstep told t))), .val (eI t), .val (.lst (eL (copies t))), .val (.lst (eL (sstep told t))), i6, j7], w) := by
        refine if_t (w1 := w) ?_ (seq_w [.val (wobj α), s1, .val (.lst (eL told)), .val (eI t), .val (.lst (eL (copies t))), j5, j6, j7] ?_ (seq_w [.val (wobj α), s1, .val (.lst (eL told)), .val (eI t), .val (.lst (eL (copies t))), .val (.lst (eL ([] : List α))), j6, j7] ?_ (seq_w [.val (wobj α), s1, .val (.lst (eL told)), .val (eI t), .val (.lst (eL (copies t))), .val (.lst (eL (sstep told t))), i6, j7] ?_ ?_)))
        · simp [inl]
        · simp [cut]
        · simp
          rfl
        · simp [g]
        · simp
      show forLoop (bnd1 3) b_l_span_2 (eI t :: eL l) _ w = _
      rw [fl_cons, hb]
      exact ih
theorem m_lspan (k : Bool) (l : List α) (w : Wd) : m_l_span [wobj α, sq k (eL l)] w = some (.lst (eL (lspan l)), w) := by
  obtain ⟨k3, k4, k5, k6, f⟩ := loop_lspan2 (.val (sq k (eL l))) w l [0] [] .no .no .no .no .no spans_0
  have e : eL [(0 : α)] = [.int 0] := by
    show [eI (0 : α)] = _
    rw [e0']
  rw [e] at f
  refine fn_rt (seq_w [.val (wobj α), .val (sq k (eL l)), .val (.lst [.int 0]), .no, .no, .no, .no, .no] (by simp) (seq_w [.val (wobj α), .val (sq k (eL l)), .val (.lst (eL (lspan l))), k3, k4, k5, k6, .no] ?_ (by simp)))
  simp only [r_fFor, r_fItems, r_fVar, List.getElem?_cons_succ, List.getElem?_cons_zero, Option.bind_some, sq_items, Option.map_some]
  exact f
end
end K39
end
section
set_option maxRecDepth 100000
set_option autoImplicit false
/-! QH: holds_thing, space_things -/
namespace K39
open Lean.Grind FF FD FX
section
variable {α : Type} [FX α]
/-- all members of a span, in the order of the codes -/
noncomputable def all (B : List α) : List α := (els : List α).filter fun x => @decide (Sp B x) (Classical.propDecidable _)
theorem mem_all (B : List α) (x : α) : x ∈ all B ↔ Sp B x := by
  unfold all
  rw [List.mem_filter]
  constructor
  · rintro ⟨_, h⟩
    exact @_root_.of_decide_eq_true _ (Classical.propDecidable _) h
  · exact fun h => ⟨mem_els x, @_root_.decide_eq_true _ (Classical.propDecidable _) h⟩
theorem nodup_all (B : List α) : (all B).Nodup := nodup_els.filter _
theorem gauss_same {xs ys : List α} (h : ∀ v, Sp xs v ↔ Sp ys v) : gauss xs = gauss ys := by
  rw [gauss_basis (nodup_all xs) (mem_all xs), gauss_basis (nodup_all xs) (fun v => (mem_all xs v).trans (h v))]
theorem gauss_sp (xs : List α) (v : α) : Sp (gauss xs) v ↔ Sp xs v := by
  obtain ⟨E, e1, _, e3⟩ := gauss_ok xs
  rw [e1]
  exact e3 v
theorem gauss_len (xs : List α) : (gauss xs).length ≤ 4 := by
  obtain ⟨E, e1, e2, _⟩ := gauss_ok xs
  rw [e1, List.length_map]
  exact ech_len e2
theorem m_holds (l : List α) (hl : l.length ≤ 16) (t : α) (ht : Sp l t) (w : Wd) : m_holds_thing [fobj α, .tup (eL l), eI t] w = some (.bl true, w) := by
  have s1 := m_tspace false l hl w
  have gl := gauss_len l
  have s2 := m_tspace false (gauss l ++ [t]) (by rw [List.length_append]; show (gauss l).length + 1 ≤ 16; omega) w
  have e : gauss (gauss l ++ [t]) = gauss l := gauss_same fun v => by
    constructor
    · intro k
      refine k.mono fun b m => ?_
      rcases List.mem_append.mp m with q | q
      · exact (gauss_sp l b).mp (.of q)
      · rw [List.mem_singleton.mp q]
        exact ht
    · intro k
      exact ((gauss_sp l v).mpr k).sub' fun b m => List.mem_append_left _ m
  rw [e, eL_app, sq_f] at s2
  have c := m_checkts true [t] 1 (Nat.le_refl _) w
  have c : m_check_things [fobj α, .lst [eI t], .int 1] w = some (.tup [eI t], w) := c
  have s2 : m_things_space [fobj α, .tup (eL (gauss l) ++ [eI t])] w = some (.tup (eL (gauss l)), w) := s2
  have cl : (gauss l).length + 1 ≤ 100000 := by omega
  rw [sq_f] at s1
  refine fn_rt (seq_w [.val (fobj α), .val (.tup (eL l)), .val (eI t), .val (.tup (eL (gauss l)))] (by simp [s1]) (seq_w [.val (fobj α), .val (.tup (eL l)), .val (eI t), .val (.tup (eL (gauss l)))] ?_ ?_))
  · simp [c]
  · simp [cl, s2]
/-! ### all members -/
def gstepL (found : List α) (b : α) : List α := found.flatMap fun f => (List.range (p (α := α))).map fun (k : Nat) => f + (k : α) * b
theorem grow_spans {found B : List α} (h : Spans found B) {b : α} (nb : ¬ Sp B b) : Spans (gstepL found b) (B ++ [b]) := by
  unfold gstepL
  refine ⟨?_, fun x => ?_⟩
  · rw [List.Nodup, List.pairwise_flatMap]
    refine ⟨fun f hf => ?_, ?_⟩
    · refine List.pairwise_map.mpr (List.nodup_range.imp_of_mem fun {i j} mi mj ne e => ne ?_)
      have hs := (h.2 f).mp hf
      exact (trans_inj (List.mem_range.mp mi) (List.mem_range.mp mj) hs hs nb e).1
    · refine h.1.imp_of_mem fun {f g} mf mg ne x mx y my e => ?_
      obtain ⟨i, mi, rfl⟩ := List.mem_map.mp mx
      obtain ⟨j, mj, rfl⟩ := List.mem_map.mp my
      exact ne (trans_inj (List.mem_range.mp mi) (List.mem_range.mp mj) ((h.2 f).mp mf) ((h.2 g).mp mg) nb e).2
  · rw [Sp.last, sp_mod, List.mem_flatMap]
    constructor
    · rintro ⟨f, mf, mx⟩
      obtain ⟨k, mk, rfl⟩ := List.mem_map.mp mx
      refine ⟨k, List.mem_range.mp mk, ?_⟩
      rw [show f + (k : α) * b - (k : α) * b = f by grind]
      exact (h.2 f).mp mf
    · rintro ⟨k, hk, hs⟩
      exact ⟨x - (k : α) * b, (h.2 _).mpr hs, List.mem_map.mpr ⟨k, List.mem_range.mpr hk, by grind⟩⟩
theorem grow_ech : ∀ (F E : List (Nat × α)) (found : List α), Ech (E ++ F) → Spans found (E.map (·.2)) → Spans ((F.map (·.2)).foldl gstepL found) ((E ++ F).map (·.2))
  | [], E, found, _, h => by
    rw [List.append_nil]
    exact h
  | e :: F, E, found, hE, h => by
    have me : e ∈ E ++ e :: F := List.mem_append_right _ (List.mem_cons_self ..)
    have nb : ¬ Sp (E.map (·.2)) e.2 := fun k => by
      have srt := hE.sorted
      rw [List.map_append] at srt
      have lt : ∀ f, f ∈ E → f.1 < e.1 := fun f mf => (List.pairwise_append.mp srt).2.2 f.1 (List.mem_map_of_mem mf) e.1 (List.mem_map_of_mem (List.mem_cons_self ..))
      have z : cd e.1 e.2 = 0 := k.cd0 fun a ma => by
        obtain ⟨f, mf, rfl⟩ := List.mem_map.mp ma
        exact hE.off f (List.mem_append_left _ mf) e me (by have := lt f mf; omega)
      rw [hE.one e me] at z
      exact one_ne z
    have st := grow_spans h nb
    have eq : E.map (·.2) ++ [e.2] = (E ++ [e]).map (·.2) := by rw [List.map_append]; rfl
    rw [eq] at st
    have eq2 : E ++ e :: F = (E ++ [e]) ++ F := by rw [List.append_assoc]; rfl
    rw [eq2] at hE ⊢
    exact grow_ech F (E ++ [e]) _ hE st
def codes (l : List α) : List Int := l.map fun a => ((enc a : Nat) : Int)
theorem eL_codes (l : List α) : eL l = dI (codes l) := by
  unfold eL dI codes
  rw [List.map_map]
  rfl
theorem sorted_unique : ∀ {l r : List Int}, l.Pairwise (· ≤ ·) → r.Pairwise (· ≤ ·) → l.Perm r → l = r
  | [], r, _, _, h => (List.nil_perm.mp h).symm
  | a :: l, [], _, _, h => by cases List.perm_nil.mp h
  | a :: l, b :: r, hl, hr, h => by
    have pl := List.pairwise_cons.mp hl
    have pr := List.pairwise_cons.mp hr
    have e : a = b := by
      have m1 : a ∈ b :: r := h.subset (List.mem_cons_self ..)
      have m2 : b ∈ a :: l := h.symm.subset (List.mem_cons_self ..)
      rcases List.mem_cons.mp m1 with q | q
      · exact q
      · rcases List.mem_cons.mp m2 with q2 | q2
        · exact q2.symm
        · have h1 := pr.1 a q
          have h2 := pl.1 b q2
          omega
    subst e
    rw [sorted_unique pl.2 pr.2 (List.perm_cons a |>.mp h)]
theorem sort_same {l r : List α} (hl : l.Nodup) (hr : r.Nodup) (h : ∀ x, x ∈ l ↔ x ∈ r) : sortI (codes l) = sortI (codes r) := by
  refine sorted_unique (sortI_sorted _) (sortI_sorted _) ((sortI_perm _).trans (List.Perm.trans ?_ (sortI_perm _).symm))
  unfold codes
  exact List.Perm.map _ ((List.perm_ext_iff_of_nodup hl hr).mpr h)
theorem loop_grow1 (s1 s2 : Sl) (b f : α) (w : Wd) : ∀ (c : List Nat) (L : List α) (j6 : Sl), (∀ k, k ∈ c → k < p (α := α)) → L.length + c.length < 9000 → ∃ j6', forLoop (bnd1 6) b_space_things_1 (iD c) [.val (fobj α), s1, s2, .val (eI b), .own (eL L), .val (eI f), j6] w = some (.nx [.val (fobj α), s1, s2, .val (eI b), .own (eL (L ++ c.map fun (k : Nat) => f + (k : α) * b)), .val (eI f), j6'], w)
  | [], L, j6, _, _ => ⟨j6, by rw [List.map_nil, List.append_nil]; rfl⟩
  | k :: c, L, j6, h1, h2 => by
    rw [List.length_cons] at h2
    obtain ⟨j6', ih⟩ := loop_grow1 s1 s2 b f w c (L ++ [f + (k : α) * b]) (.val (.int (k : Nat))) (fun i m => h1 i (List.mem_cons_of_mem _ m)) (by rw [List.length_append]; show L.length + 1 + c.length < 9000; omega)
    refine ⟨j6', ?_⟩
    have mu := m_multiple k (h1 k (List.mem_cons_self ..)) b w
    have cl : L.length < 100000 := by omega
    have ap : eL L ++ [eI (f + (k : α) * b)] = eL (L ++ [f + (k : α) * b]) := by rw [eL_app]; rfl
    have hb : b_space_things_1 (bnd1 6 (.int (k : Nat)) [.val (fobj α), s1, s2, .val (eI b), .own (eL L), .val (eI f), j6]) w = some (.nx [.val (fobj α), s1, s2, .val (eI b), .own (eL (L ++ [f + (k : α) * b])), .val (eI f), .val (.int (k : Nat))], w) := by
      simp [b_space_things_1, mu, cl, ap]
    show forLoop (bnd1 6) b_space_things_1 (.int (k : Nat) :: iD c) _ w = _
    rw [fl_cons, hb]
    rw [List.append_assoc] at ih
    exact ih
theorem loop_grow2 (s1 s2 : Sl) (b : α) (w : Wd) : ∀ (c L : List α) (j5 j6 : Sl), L.length + c.length * 3 < 8000 → ∃ j5' j6', forLoop (bnd1 5) b_space_things_2 (eL c) [.val (fobj α), s1, s2, .val (eI b), .own (eL L), j5, j6] w = some (.nx [.val (fobj α), s1, s2, .val (eI b), .own (eL (L ++ gstepL c b)), j5', j6'], w)
  | [], L, j5, j6, _ => ⟨j5, j6, by
    show _ = some (Out.nx [_, _, _, _, .own (eL (L ++ [])), _, _], w)
    rw [List.append_nil]
    rfl⟩
  | f :: c, L, j5, j6, h => by
    rw [List.length_cons] at h
    have pl := p_le (α := α)
    obtain ⟨i6, g⟩ := loop_grow1 s1 s2 b f w (List.range (p (α := α))) L j6 (fun k m => List.mem_range.mp m) (by rw [List.length_range]; omega)
    obtain ⟨k5, k6, ih⟩ := loop_grow2 s1 s2 b w c (L ++ (List.range (p (α := α))).map fun (k : Nat) => f + (k : α) * b) (.val (eI f)) i6 (by rw [List.length_append, List.length_map, List.length_range]; omega)
    refine ⟨k5, k6, ?_⟩
    have hr : rng [pI α] = some (iD (List.range (p (α := α)))) := by
      rw [o_rng1, if_pos (big_nat (by omega)), Int.toNat_natCast, rangeD_nat]
      rfl
    have hb : b_space_things_2 (bnd1 5 (eI f) [.val (fobj α), s1, s2, .val (eI b), .own (eL L), j5, j6]) w = some (.nx [.val (fobj α), s1, s2, .val (eI b), .own (eL (L ++ (List.range (p (α := α))).map fun (k : Nat) => f + (k : α) * b)), .val (eI f), i6], w) := by
      show fFor _ _ _ _ _ = _
      simp only [r_bnd1, r_fFor, r_fRng, r_fCons, r_fNil, r_fFld, r_fVar, List.getElem?_cons_succ, List.getElem?_cons_zero, Option.bind_some, Option.map_some, ff0, List.set_cons_succ, List.set_cons_zero]
      rw [hr]
      exact g
    show forLoop (bnd1 5) b_space_things_2 (eI f :: eL c) _ w = _
    rw [fl_cons, hb]
    have e : L ++ gstepL (f :: c) b = L ++ (List.range (p (α := α))).map (fun (k : Nat) => f + (k : α) * b) ++ gstepL c b := by
      unfold gstepL
      rw [List.flatMap_cons, List.append_assoc]
    rw [e]
    exact ih
theorem loop_grow3 (s1 : Sl) (w : Wd) : ∀ (F E : List (Nat × α)) (found : List α) (j3 j4 j5 j6 : Sl), Ech (E ++ F) → Spans found (E.map (·.2)) → ∃ j3' j4' j5' j6', forLoop (bnd1 3) b_space_things_3 (eL (F.map (·.2))) [.val (fobj α), s1, .val (.lst (eL found)), j3, j4, j5, j6] w = some (.nx [.val (fobj α), s1, .val (.lst (eL ((F.map (·.2)).foldl gstepL found))), j3', j4', j5', j6'], w)
  | [], E, found, j3, j4, j5, j6, _, _ => ⟨j3, j4, j5, j6, rfl⟩
  | e :: F, E, found, j3, j4, j5, j6, hE, hs => by
    have nl := nodup_n hs.1
    have n27 := n_le (α := α)
    obtain ⟨i5, i6, g⟩ := loop_grow2 s1 (.val (.lst (eL found))) e.2 w found [] j5 j6 (by show 0 + found.length * 3 < 8000; omega)
    rw [List.nil_append] at g
    have eq2 : E ++ e :: F = (E ++ [e]) ++ F := by rw [List.append_assoc]; rfl
    have st : Spans (gstepL found e.2) ((E ++ [e]).map (·.2)) := by
      have h1 : Ech (E ++ [e]) := by
        rw [eq2] at hE
        exact ⟨by
          have := hE.sorted
          rw [List.map_append] at this
          exact (List.pairwise_append.mp this).1, fun f m => hE.lt f (List.mem_append_left _ m), fun f m => hE.low f (List.mem_append_left _ m), fun f m => hE.one f (List.mem_append_left _ m), fun f m g m2 => hE.off f (List.mem_append_left _ m) g (List.mem_append_left _ m2)⟩
      exact grow_ech [e] E found h1 hs
    rw [eq2] at hE
    obtain ⟨k3, k4, k5, k6, ih⟩ := loop_grow3 s1 w F (E ++ [e]) (gstepL found e.2) (.val (eI e.2)) (.own (eL (gstepL found e.2))) i5 i6 hE st
    refine ⟨k3, k4, k5, k6, ?_⟩
    have hb : b_space_things_3 (bnd1 3 (eI e.2) [.val (fobj α), s1, .val (.lst (eL found)), j3, j4, j5, j6]) w = some (.nx [.val (fobj α), s1, .val (.lst (eL (gstepL found e.2))), .val (eI e.2), .own (eL (gstepL found e.2)), i5, i6], w) := by
      refine seq_w [.val (fobj α), s1, .val (.lst (eL found)), .val (eI e.2), .own (eL ([] : List α)), j5, j6] (by simp; rfl) (seq_w [.val (fobj α), s1, .val (.lst (eL found)), .val (eI e.2), .own (eL (gstepL found e.2)), i5, i6] ?_ ?_)
      · simp only [r_fFor, r_fItems, r_fVar, List.getElem?_cons_succ, List.getElem?_cons_zero, Option.bind_some, it_l, Option.map_some]
        exact g
      · simp
    show forLoop (bnd1 3) b_space_things_3 (eI e.2 :: eL (F.map (·.2))) _ w = _
    rw [fl_cons, hb]
    exact ih
theorem m_sthings (k : Bool) (l : List α) (hl : l.length ≤ 16) (Z : List α) (nd : Z.Nodup) (hZ : ∀ x, x ∈ Z ↔ Sp l x) (w : Wd) : m_space_things [fobj α, sq k (eL l)] w = some (.tup (dI (sortI (codes Z))), w) := by
  have ts := m_tspace k l hl w
  obtain ⟨E, e1, e2, e3⟩ := gauss_ok l
  rw [e1] at ts
  obtain ⟨k3, k4, k5, k6, g⟩ := loop_grow3 (.val (sq k (eL l))) w E [] [0] .no .no .no .no e2 spans_0
  have sp := grow_ech E [] [0] e2 spans_0
  have e : eL [(0 : α)] = [.int 0] := by
    show [eI (0 : α)] = _
    rw [e0']
  rw [e] at g
  generalize hf : (E.map (·.2)).foldl gstepL [0] = found at g sp
  have so : sortI (codes found) = sortI (codes Z) := sort_same sp.1 nd fun x => by
    rw [hZ, ← e3 x]
    exact sp.2 x
  have ds : dSorted (.lst (eL found)) = some (.lst (dI (sortI (codes Z)))) := by
    rw [eL_codes]
    show (unInts (dI (codes found))).map _ = _
    rw [unInts_ints, ← so]
    rfl
  refine fn_rt (seq_w [.val (fobj α), .val (sq k (eL l)), .val (.lst [.int 0]), .no, .no, .no, .no] (by simp) (seq_w [.val (fobj α), .val (sq k (eL l)), .val (.lst (eL found)), k3, k4, k5, k6] ?_ ?_))
  · simp [ts, g]
  · simp [ds]
end
end K39
end
section
set_option maxRecDepth 100000
set_option autoImplicit false
/-! QI: draws -/
namespace K39
theorem small_mod (x k : Int) (h : 0 < k) (hk : k < 4294967296) : small64 (x % k) = true := by
  have h1 := Int.emod_nonneg x (show k ≠ 0 by omega)
  have h2 := Int.emod_lt_of_pos x h
  unfold small64
  rw [decide_eq_true_iff]
  omega
theorem small_lit {x : Int} (h : x.natAbs < 4294967296) : small64 x = true := by
  unfold small64
  rw [decide_eq_true_iff]
  omega
theorem m_stir (a b : Int) (w : Wd) : ∃ r, m_l_stir [.int a, .int b] w = some (.int r, w) := by
  generalize hf : (a * 69069 + b * 40014 + 50331) % 2147483647 = f1
  have s1 : small64 f1 = true := by rw [← hf]; exact small_mod _ _ (by omega) (by omega)
  generalize hs : (f1 * f1 + f1 / 127 * 16807 + b * 48271) % 2147483629 = s2
  have s3 : small64 s2 = true := by rw [← hs]; exact small_mod _ _ (by omega) (by omega)
  have l1 : small64 69069 = true := small_lit (by omega)
  have l2 : small64 40014 = true := small_lit (by omega)
  have l3 : small64 16807 = true := small_lit (by omega)
  have l4 : small64 48271 = true := small_lit (by omega)
  have l5 : small64 31 = true := small_lit (by omega)
  refine ⟨(s2 * s2 / 977 + f1 * 31) % 2147483587 / 8, ?_⟩
  refine fn_rt (seq_w [.val (.int a), .val (.int b), .val (.int f1), .no] ?_ (seq_w [.val (.int a), .val (.int b), .val (.int f1), .val (.int s2)] ?_ ?_))
  · simp [l1, l2, hf]
  · simp [s1, l3, l4, hs]
  · simp [s3, l5]
/-- the hand's content -/
def HW (w : Wd) : Prop := ∃ (cs : List Int) (b c t : Int), w = [.lst (dI cs), .int b, .int c, .int t] ∧ 0 ≤ b
theorem dI_at (cs : List Int) (i : Int) (h0 : 0 ≤ i) (h : i < cs.length) : ∃ x, L2.atI (dI cs) i = some (.int x) := by
  obtain ⟨k, rfl⟩ : ∃ k : Nat, i = k := ⟨i.toNat, by omega⟩
  have hk : k < cs.length := by omega
  refine ⟨cs[k], ?_⟩
  rw [atI_nat]
  unfold dI
  rw [List.getElem?_map, List.getElem?_eq_getElem hk]
  rfl
theorem dI_len (cs : List Int) : (dI cs).length = cs.length := List.length_map ..
theorem pow18 : dPow (.int 10) (.int 18) = some (.int 1000000000000000000) := (rfl)
def tail_draw : FS := (fSeq (fIf (ftVal (fOp dGt (fHand 0 2) (fC (.int 0)))) (fSeq (fAsg 3 (fHand 0 2))
  (fSeq (fSto 0 (fC (.int 2)) (fOp dDiv (fVarB 3) (fVarB 1)))
  (fRet (fOp dMod (fOp1 (dI1 id) (fVarB 3)) (fVarB 1))))) fPass)
  (fSeq (fSto 0 (fC (.int 3)) (fOp dMod (fOp1 (dI1 id) (fOp dAdd (fHand 0 3) (fC (.int 1)))) (fC (.int 2147483579))))
  (fRet (fOp dMod (fOp1 (dI1 id) (fCall m_l_stir [] 2 (fCons (fHand 0 3) (fCons (fHand 0 1) fNil)))) (fVarB 1)))))
theorem ix4_1 : L2.ixN 4 1 = some 1 := (rfl)
theorem ix4_2 : L2.ixN 4 2 = some 2 := (rfl)
theorem ix4_3 : L2.ixN 4 3 = some 3 := (rfl)
theorem draw_tail (many : Int) (h0 : 0 < many) (h1 : many.natAbs < 1073741824) (cs : List Int) (b c t : Int) (hb : 0 ≤ b) (j2 j3 : Sl) : ∃ r w', tail_draw [.val .hand, .val (.int many), j2, j3] [.lst (dI cs), .int b, .int c, .int t] = some (.rt (.int r), w') ∧ HW w' ∧ 0 ≤ r ∧ r < many := by
  have md : ∀ x : Int, 0 ≤ x % many ∧ x % many < many := fun x => ⟨Int.emod_nonneg _ (by omega), Int.emod_lt_of_pos _ h0⟩
  by_cases hc : 0 < c
  · refine ⟨c % many, [.lst (dI cs), .int b, .int (c / many), .int t], ?_, ⟨cs, b, _, t, rfl, hb⟩, (md c).1, (md c).2⟩
    refine seq_rt (if_t (w1 := [.lst (dI cs), .int b, .int c, .int t]) ?_ (seq_w [.val .hand, .val (.int many), j2, .val (.int c)] ?_ (seq_to (ρ1 := [.val .hand, .val (.int many), j2, .val (.int c)]) (w1 := [.lst (dI cs), .int b, .int (c / many), .int t]) ?_ ?_)))
    · simp [hc]
    · simp
    · simp [h0, h1, ix4_2]
    · simp [h0]
  · obtain ⟨r, hr⟩ := m_stir ((t + 1) % 2147483579) b [.lst (dI cs), .int b, .int c, .int ((t + 1) % 2147483579)]
    refine ⟨r % many, [.lst (dI cs), .int b, .int c, .int ((t + 1) % 2147483579)], ?_, ⟨cs, b, c, _, rfl, hb⟩, (md r).1, (md r).2⟩
    refine seq_w [.val .hand, .val (.int many), j2, j3] (if_f (w1 := [.lst (dI cs), .int b, .int c, .int t]) ?_ rfl) (seq_to (ρ1 := [.val .hand, .val (.int many), j2, j3]) (w1 := [.lst (dI cs), .int b, .int c, .int ((t + 1) % 2147483579)]) ?_ ?_)
    · simp [hc]
    · simp [ix4_3]
    · simp [hr, h0]
theorem m_draw (many : Int) (h0 : 0 < many) (h1 : many.natAbs < 1073741824) {w : Wd} (hw : HW w) : ∃ r w', m_l_draw [.hand, .int many] w = some (.int r, w') ∧ HW w' ∧ 0 ≤ r ∧ r < many := by
  obtain ⟨cs, b, c, t, rfl, hb⟩ := hw
  have md : ∀ x : Int, 0 ≤ x % many ∧ x % many < many := fun x => ⟨Int.emod_nonneg _ (by omega), Int.emod_lt_of_pos _ h0⟩
  by_cases hc : c = 0 ∧ b < cs.length
  · obtain ⟨x, hx⟩ := dI_at cs b hb hc.2
    have hx' : L2.atI (dI cs) b = some (.int x) := hx
    by_cases h18 : x < 1000000000000000000
    · obtain ⟨r, hr⟩ := m_stir (x % 2147483647) (b + 1) [.lst (dI cs), .int (b + 1), .int c, .int t]
      refine ⟨r % many, [.lst (dI cs), .int (b + 1), .int c, .int t], ?_, ⟨cs, b + 1, c, t, rfl, by omega⟩, (md r).1, (md r).2⟩
      refine fn_rt (seq_rt (if_t (w1 := [.lst (dI cs), .int b, .int c, .int t]) ?_ (seq_w [.val .hand, .val (.int many), .val (.int x), .no] ?_ (seq_to (ρ1 := [.val .hand, .val (.int many), .val (.int x), .no]) (w1 := [.lst (dI cs), .int (b + 1), .int c, .int t]) ?_ (seq_rt (if_t (w1 := [.lst (dI cs), .int (b + 1), .int c, .int t]) ?_ ?_))))))
      · simp [hc.1, hc.2, dI_len]
      · simp [hx']
      · simp [ix4_1]
      · simp [pow18, h18]
      · simp [hr, h0]
    · obtain ⟨r, w', g1, g2, g3, g4⟩ := draw_tail many h0 h1 cs (b + 1) x t (by omega) (.val (.int x)) .no
      refine ⟨r, w', ?_, g2, g3, g4⟩
      refine fn_rt (seq_to (ρ1 := [.val .hand, .val (.int many), .val (.int x), .no]) (w1 := [.lst (dI cs), .int (b + 1), .int x, .int t]) (if_t (w1 := [.lst (dI cs), .int b, .int c, .int t]) ?_ (seq_w [.val .hand, .val (.int many), .val (.int x), .no] ?_ (seq_to (ρ1 := [.val .hand, .val (.int many), .val (.int x), .no]) (w1 := [.lst (dI cs), .int (b + 1), .int c, .int t]) ?_ (seq_w [.val .hand, .val (.int many), .val (.int x), .no] (if_f (w1 := [.lst (dI cs), .int (b + 1), .int c, .int t]) ?_ rfl) ?_)))) g1)
      · simp [hc.1, hc.2, dI_len]
      · simp [hx']
      · simp [ix4_1]
      · simp [pow18, h18]
      · simp [ix4_2]
  · obtain ⟨r, w', g1, g2, g3, g4⟩ := draw_tail many h0 h1 cs b c t hb .no .no
    refine ⟨r, w', ?_, g2, g3, g4⟩
    refine fn_rt (seq_w [.val .hand, .val (.int many), .no, .no] (if_f (w1 := [.lst (dI cs), .int b, .int c, .int t]) ?_ rfl) g1)
    by_cases c0 : c = 0
    · have : ¬ b < (cs.length : Int) := fun y => hc ⟨c0, y⟩
      simp [c0, this, dI_len]
    · simp [c0]
end K39
end
section
set_option maxRecDepth 100000
set_option autoImplicit false
/-! QJ: what is drawn -/
namespace K39
open Lean.Grind FF FD FX
theorem loop_hand (X : Sl) (w : Wd) : ∀ (ns : List Int) (i : Nat) (t : Int) (j2 j3 : Sl), i + ns.length ≤ 1000 → ∃ t' j2' j3', forLoop (bnd2 2 3) b_l_hand_1 (enumD i (dI ns)) [X, .val (.int t), j2, j3] w = some (.nx [X, .val (.int t'), j2', j3'], w)
  | [], i, t, j2, j3, _ => ⟨t, j2, j3, rfl⟩
  | a :: ns, i, t, j2, j3, h => by
    rw [List.length_cons] at h
    obtain ⟨t', j2', j3', ih⟩ := loop_hand X w ns (i + 1) ((t * 41 + a * ((i : Int) + 3)) % 2147483579) (.val (.int (i : Nat))) (.val (.int a)) (by omega)
    refine ⟨t', j2', j3', ?_⟩
    have l1 : small64 41 = true := small_lit (by omega)
    have l2 : small64 ((i : Int) + 3) = true := small_lit (by omega)
    have hb : b_l_hand_1 (bnd2 2 3 (.int (i : Nat), .int a) [X, .val (.int t), j2, j3]) w = some (.nx [X, .val (.int ((t * 41 + a * ((i : Int) + 3)) % 2147483579)), .val (.int (i : Nat)), .val (.int a)], w) := by
      generalize (i : Int) = I at l2 ⊢
      simp [b_l_hand_1, l1, l2]
    show forLoop (bnd2 2 3) b_l_hand_1 ((.int (i : Nat), .int a) :: enumD (i + 1) (dI ns)) _ w = _
    rw [fl_cons, hb]
    exact ih
theorem m_hand (ns : List Int) (h : ns.length ≤ 63) (w : Wd) : ∃ cs t, m_l_hand [.scr ns] w = some (.lst [.lst (dI cs), .int 0, .int 0, .int t], w) := by
  obtain ⟨t', j2, j3, f⟩ := loop_hand (.val (.scr ns)) w ns 0 7 .no .no (by omega)
  have lc := lc_map (ρ := [.val (.scr ns), .val (.int t'), j2, .no]) (w := w) (bnd := bnd1 3) (fe := fOp1 (dI1 fun i => if i < 0 then -i else i) (fOp1 (dI1 id) (fVarB 3))) D.int (fun i => D.int (if i < 0 then -i else i)) ns (fun i _ => by simp)
  have lc : lcLoop (bnd1 3) ftYes (fOp1 (dI1 fun i => if i < 0 then -i else i) (fOp1 (dI1 id) (fVarB 3))) (dI ns) [.val (.scr ns), .val (.int t'), j2, .no] w = some (dI (ns.map fun i => if i < 0 then -i else i), w) := by
    rw [show dI (ns.map fun i => if i < 0 then -i else i) = ns.map fun i => D.int (if i < 0 then -i else i) by unfold dI; rw [List.map_map]; rfl]
    exact lc
  have cl : (dI ns).length ≤ 100000 := by rw [dI_len]; omega
  refine ⟨ns.map fun i => if i < 0 then -i else i, t', ?_⟩
  refine fn_rt (seq_w [.val (.scr ns), .val (.int 7), .no, .no] (by simp) (seq_w [.val (.scr ns), .val (.int t'), j2, j3] ?_ ?_))
  · simp only [r_fFor, r_fEnum, r_fVar, List.getElem?_cons_succ, List.getElem?_cons_zero, Option.bind_some, it_s, Option.map_some]
    exact f
  · simp only [r_fRet, r_asE, r_fLst, r_fCons, r_fNil, r_fC, r_fVar, r_fLc, r_fItems, r_fVarB, List.getElem?_cons_succ, List.getElem?_cons_zero, Option.bind_some, it_s, Option.map_some, r_wipeC, r_wipeN, List.set_cons_succ, List.set_cons_zero, cap_v]
    rw [if_pos cl, lc]
    simp
section
variable {α : Type} [FX α]
theorem int_eI {r : Int} (h0 : 0 ≤ r) (h : r < (n (α := α) : Nat)) : ∃ a : α, D.int r = eI a := by
  have hk : r.toNat < (els : List α).length := by rw [els_len]; omega
  refine ⟨(els : List α)[r.toNat], ?_⟩
  have := enc_els r.toNat _ (List.getElem?_eq_getElem hk)
  show D.int r = D.int ((enc (els : List α)[r.toNat] : Nat) : Int)
  rw [this]
  congr 1
  omega
theorem n_pos : 0 < n (α := α) := by
  have := enc_lt (0 : α)
  omega
theorem draw_n {w : Wd} (hw : HW w) : ∃ (a : α) (w' : Wd), m_l_draw [.hand, .int (n (α := α) : Nat)] w = some (eI a, w') ∧ HW w' := by
  have h1 := n_pos (α := α)
  have h2 := n_le (α := α)
  obtain ⟨r, w', g1, g2, g3, g4⟩ := m_draw (n (α := α) : Nat) (by omega) (by omega) hw
  obtain ⟨a, ha⟩ := int_eI (α := α) g3 g4
  exact ⟨a, w', by rw [g1, ha], g2⟩
theorem m_given (k : Bool) (l : List D) {w : Wd} (hw : HW w) : ∃ (k' : Bool) (w' : Wd), m_l_given [.hand, sq k l] w = some (sq k' l, w') ∧ HW w' := by
  obtain ⟨r, w', g1, g2, g3, g4⟩ := m_draw 2 (by omega) (by omega) hw
  by_cases z : r = 0
  · refine ⟨true, w', fn_rt ?_, g2⟩
    simp [f_l_given, g1, z]
  · refine ⟨false, w', fn_rt ?_, g2⟩
    simp [f_l_given, g1, z]
/-- a comprehension that draws -/
theorem lc_draw {ρ : En} (hρ0 : ∀ x, (ρ.set 3 x)[0]? = some (.val .hand)) (hρ1 : ∀ x, (ρ.set 3 x)[1]? = some (.val (wobj α))) : ∀ (c : List D) (w : Wd), HW w → ∃ (l : List α) (w' : Wd), lcLoop (bnd1 3) ftYes (fCall m_l_draw [] 2 (fCons (fVar 0) (fCons (fOp dIx (fVarB 1) (fC (.int 2))) fNil))) c ρ w = some (eL l, w') ∧ l.length = c.length ∧ HW w'
  | [], w, hw => ⟨[], w, rfl, rfl, hw⟩
  | x :: c, w, hw => by
    obtain ⟨a, w1, g1, g2⟩ := draw_n (α := α) hw
    obtain ⟨l, w', f1, f2, f3⟩ := lc_draw hρ0 hρ1 c w1 g2
    refine ⟨a :: l, w', ?_, by rw [List.length_cons, List.length_cons, f2], f3⟩
    have he : fCall m_l_draw [] 2 (fCons (fVar 0) (fCons (fOp dIx (fVarB 1) (fC (.int 2))) fNil)) (bnd1 3 x ρ) w = some (eI a, w1) := by
      simp [hρ0, hρ1, g1]
    show ((fCall m_l_draw [] 2 (fCons (fVar 0) (fCons (fOp dIx (fVarB 1) (fC (.int 2))) fNil)) (bnd1 3 x ρ) w).bind fun y => (lcLoop (bnd1 3) ftYes _ c ρ y.2).map fun r => (y.1 :: r.1, r.2)) = _
    rw [he]
    show (lcLoop (bnd1 3) ftYes _ c ρ w1).map (fun r => (eI a :: r.1, r.2)) = _
    rw [f1]
    rfl
end
end K39
end
section
set_option maxRecDepth 100000
set_option autoImplicit false
/-! QK: two spaces, a poly -/
namespace K39
open Lean.Grind FF FD FX
section
variable {α : Type} [FX α]
theorem drawn {ρ : En} (m : Nat) (hm : 0 < m) (hm2 : m < 100) (h0 : ρ[0]? = some (.val .hand)) (hρ0 : ∀ x, ((ρ.set 3 .no).set 3 x)[0]? = some (.val .hand)) (hρ1 : ∀ x, ((ρ.set 3 .no).set 3 x)[1]? = some (.val (wobj α))) {w : Wd} (hw : HW w) :
    ∃ (l : List α) (w' : Wd), fLc [3] (bnd1 3) (fRng (fCons (fCall m_l_draw [] 2 (fCons (fVar 0) (fCons (fC (.int (m : Nat))) fNil))) fNil)) ftYes (fCall m_l_draw [] 2 (fCons (fVar 0) (fCons (fOp dIx (fVarB 1) (fC (.int 2))) fNil))) ρ w = some (eL l, w') ∧ l.length < m ∧ HW w' := by
  obtain ⟨r, w1, g1, g2, g3, g4⟩ := m_draw (m : Nat) (by omega) (by omega) hw
  obtain ⟨k, rfl⟩ : ∃ k : Nat, r = k := ⟨r.toNat, by omega⟩
  have hr : rng [.int (k : Nat)] = some ((List.range k).map fun (i : Nat) => D.int (i : Int)) := by
    rw [o_rng1, if_pos (big_nat (by omega)), Int.toNat_natCast, rangeD_nat]
  have cl : ((List.range k).map fun (i : Nat) => D.int (i : Int)).length ≤ cap := by rw [List.length_map, List.length_range, cap_v]; omega
  obtain ⟨l, w', f1, f2, f3⟩ := lc_draw (α := α) hρ0 hρ1 ((List.range k).map fun (i : Nat) => D.int (i : Int)) w1 g2
  rw [List.length_map, List.length_range] at f2
  refine ⟨l, w', ?_, by omega, f3⟩
  have hi : fRng (fCons (fCall m_l_draw [] 2 (fCons (fVar 0) (fCons (fC (.int (m : Nat))) fNil))) fNil) ρ w = some ((List.range k).map fun (i : Nat) => D.int (i : Int), w1) := by
    have hd : fCall m_l_draw [] 2 (fCons (fVar 0) (fCons (fC (.int (m : Nat))) fNil)) ρ w = some (.int (k : Nat), w1) := by
      generalize ((m : Nat) : Int) = M at g1 ⊢
      generalize ((k : Nat) : Int) = Kk at g1 ⊢
      simp [h0, g1]
    rw [r_fRng, r_fCons, hd]
    simp only [r_fNil, Option.bind_some, Option.map_some]
    rw [hr]
    rfl
  rw [r_fLc, hi]
  show (if ((List.range k).map fun (i : Nat) => D.int (i : Int)).length ≤ cap then lcLoop (bnd1 3) ftYes _ ((List.range k).map fun (i : Nat) => D.int (i : Int)) (ρ.set 3 .no) w1 else none) = _
  rw [if_pos cl, f1]
theorem m_two {w : Wd} (hw : HW w) : ∃ (one other : List α) (w' : Wd), m_l_two_spaces [.hand, wobj α] w = some (.tup [.lst (eL one), .lst (eL other)], w') ∧ one.length ≤ 6 ∧ other.length ≤ 6 ∧ HW w' := by
  obtain ⟨b, w1, f1, f2, f3⟩ := drawn (α := α) (ρ := [.val .hand, .val (wobj α), .no, .no, .no, .no]) 3 (by omega) (by omega) rfl (fun _ => rfl) (fun _ => rfl) hw
  obtain ⟨o, w2, g1, g2, g3⟩ := drawn (α := α) (ρ := [.val .hand, .val (wobj α), .val (.lst (eL b)), .no, .no, .no]) 4 (by omega) (by omega) rfl (fun _ => rfl) (fun _ => rfl) f3
  obtain ⟨u, w3, h1, h2, h3⟩ := drawn (α := α) (ρ := [.val .hand, .val (wobj α), .val (.lst (eL b)), .no, .val (.lst (eL (b ++ o))), .no]) 4 (by omega) (by omega) rfl (fun _ => rfl) (fun _ => rfl) g3
  refine ⟨b ++ o, u ++ b, w3, ?_, by rw [List.length_append]; omega, by rw [List.length_append]; omega, h3⟩
  have c1 : (eL b).length + (eL o).length ≤ 100000 := by rw [eL_len, eL_len]; omega
  have c2 : (eL u).length + (eL b).length ≤ 100000 := by rw [eL_len, eL_len]; omega
  refine fn_rt (seq_to (ρ1 := [.val .hand, .val (wobj α), .val (.lst (eL b)), .no, .no, .no]) (w1 := w1) ?_ (seq_to (ρ1 := [.val .hand, .val (wobj α), .val (.lst (eL b)), .no, .val (.lst (eL (b ++ o))), .no]) (w1 := w2) ?_ (seq_to (ρ1 := [.val .hand, .val (wobj α), .val (.lst (eL b)), .no, .val (.lst (eL (b ++ o))), .val (.lst (eL (u ++ b)))]) (w1 := w3) ?_ ?_)))
  · rw [r_fAsg, r_asE]
    show Option.map _ (Option.map _ (fLc [3] (bnd1 3) _ ftYes _ [.val .hand, .val (wobj α), .no, .no, .no, .no] w)) = _
    erw [f1]
    rfl
  · rw [r_fAsg, r_fOp]
    simp only [r_fVarB, r_asE, List.getElem?_cons_succ, List.getElem?_cons_zero, Option.bind_some]
    erw [g1]
    simp only [Option.map_some, Option.bind_some, o_addL, cap_v]
    rw [if_pos c1, ← eL_app]
    rfl
  · rw [r_fAsg, r_asE, r_fOpN, r_asE]
    erw [h1]
    simp only [r_fVarB, List.getElem?_cons_succ, List.getElem?_cons_zero, Option.bind_some, Option.map_some, o_cat, cap_v]
    rw [if_pos c2, ← eL_app]
    rfl
  · simp
end
end K39
end
section
set_option maxRecDepth 100000
set_option autoImplicit false
/-! QL: a poly drawn -/
namespace K39
open Lean.Grind FF FD FX
section
variable {α : Type} [FX α]
theorem n_ge : 2 ≤ n (α := α) := by
  have h1 := enc_lt (1 : α)
  rw [enc1] at h1
  omega
theorem step_lpoly (most many k : Nat) (hk : k < many) (hm : many < 100) (L : List α) (hL : L.length < 1000) (j5 : Sl) {w : Wd} (hw : HW w) : ∃ (a : α) (w' : Wd), b_l_poly_1 (bnd1 5 (.int (k : Nat)) [.val .hand, .val (wobj α), .val (.int (most : Nat)), .val (.int (many : Nat)), .own (eL L), j5]) w = some (.nx [.val .hand, .val (wobj α), .val (.int (most : Nat)), .val (.int (many : Nat)), .own (eL (L ++ [a])), .val (.int (k : Nat))], w') ∧ HW w' ∧ (k + 1 = many → a ≠ 0) := by
  have n2 := n_ge (α := α)
  have n27 := n_le (α := α)
  have cl : (eL L).length < 100000 := by rw [eL_len]; omega
  by_cases z : k + 1 = many
  · obtain ⟨r, w', g1, g2, g3, g4⟩ := m_draw ((n (α := α) : Nat) - 1) (by omega) (by omega) hw
    obtain ⟨a, ha⟩ := int_eI (α := α) (r := 1 + r) (by omega) (by omega)
    refine ⟨a, w', ?_, g2, fun _ y => ?_⟩
    · refine if_t (w1 := w) ?_ ?_
      · have e : ((k : Nat) : Int) = ((many : Nat) : Int) - 1 := by omega
        generalize ((many : Nat) : Int) = M at e ⊢
        generalize ((k : Nat) : Int) = Kk at e ⊢
        simp [e]
      · have ap : eL L ++ [eI a] = eL (L ++ [a]) := by rw [eL_app]; rfl
        have cl' : L.length < 100000 := by omega
        rw [← ap]
        generalize ((k : Nat) : Int) = Kk
        simp [g1, cl']
        injection ha
    · subst y
      have : D.int (1 + r) = D.int 0 := by rw [ha, e0']
      injection this with this
      omega
  · have ht : ftVal (fOp dEq (fVarB 5) (fOp dSub (fVarB 3) (fC (.int 1)))) (bnd1 5 (.int (k : Nat)) [.val .hand, .val (wobj α), .val (.int (most : Nat)), .val (.int (many : Nat)), .own (eL L), j5]) w = some (false, w) := by
      have e : ((k : Nat) : Int) ≠ ((many : Nat) : Int) - 1 := by omega
      generalize ((many : Nat) : Int) = M at e ⊢
      generalize ((k : Nat) : Int) = Kk at e ⊢
      simp [e]
    have cl' : L.length < 100000 := by omega
    obtain ⟨r, w1, g1, g2, g3, g4⟩ := m_draw 4 (by omega) (by omega) hw
    by_cases y : r = 0
    · refine ⟨0, w1, ?_, g2, fun q => absurd q z⟩
      have ap : eL L ++ [D.int 0] = eL (L ++ [(0 : α)]) := by
        rw [eL_app]
        show _ = eL L ++ [eI (0 : α)]
        rw [e0']
      refine if_f ht (if_t (w1 := w1) ?_ ?_)
      · generalize ((k : Nat) : Int) = Kk
        simp [g1, y]
      · rw [← ap]
        generalize ((k : Nat) : Int) = Kk
        simp [cl']
    · obtain ⟨a, w2, f1, f2⟩ := draw_n (α := α) g2
      refine ⟨a, w2, ?_, f2, fun q => absurd q z⟩
      have ap : eL L ++ [eI a] = eL (L ++ [a]) := by rw [eL_app]; rfl
      refine if_f ht (if_f (w1 := w1) ?_ ?_)
      · generalize ((k : Nat) : Int) = Kk
        simp [g1, y]
      · rw [← ap]
        generalize ((k : Nat) : Int) = Kk
        simp [cl', f1]
theorem loop_lpoly (most many : Nat) (hm : many < 100) : ∀ (N k : Nat) (L : List α) (j5 : Sl) (w : Wd), k + N = many → L.length = k → (N = 0 → Tr L) → HW w → ∃ (M : List α) (j5' : Sl) (w' : Wd), forLoop (bnd1 5) b_l_poly_1 ((List.range' k N).map fun (i : Nat) => D.int (i : Int)) [.val .hand, .val (wobj α), .val (.int (most : Nat)), .val (.int (many : Nat)), .own (eL L), j5] w = some (.nx [.val .hand, .val (wobj α), .val (.int (most : Nat)), .val (.int (many : Nat)), .own (eL M), j5'], w') ∧ M.length = many ∧ Tr M ∧ HW w'
  | 0, k, L, j5, w, h1, h2, h3, hw => ⟨L, j5, w, rfl, by omega, h3 rfl, hw⟩
  | N + 1, k, L, j5, w, h1, h2, h3, hw => by
    obtain ⟨a, w1, g1, g2, g3⟩ := step_lpoly (α := α) most many k (by omega) hm L (by omega) j5 hw
    obtain ⟨M, j5', w', f1, f2, f3, f4⟩ := loop_lpoly most many hm N (k + 1) (L ++ [a]) (.val (.int (k : Nat))) w1 (by omega) (by rw [List.length_append, h2]; rfl) (fun z m hmm => by
      rw [List.length_append] at hmm
      have hm2 : L.length + 1 = m + 1 := hmm
      rw [co_toPo, List.getElem?_append_right (by omega), show m - L.length = 0 by omega]
      exact g3 (by omega)) g2
    refine ⟨M, j5', w', ?_, f2, f3, f4⟩
    rw [List.range'_succ, List.map_cons, fl_cons, g1]
    exact f1
theorem m_lpoly (most : Nat) (hm : most < 90) {w : Wd} (hw : HW w) : ∃ (f : Po α) (w' : Wd), m_l_poly [.hand, wobj α, .int (most : Nat)] w = some (P f, w') ∧ len f ≤ most ∧ HW w' := by
  obtain ⟨r, w1, g1, g2, g3, g4⟩ := m_draw ((most : Nat) + 1) (by omega) (by omega) hw
  obtain ⟨many, rfl⟩ : ∃ k : Nat, r = k := ⟨r.toNat, by omega⟩
  obtain ⟨M, j5, w', f1, f2, f3, f4⟩ := loop_lpoly (α := α) most many (by omega) many 0 [] .no w1 (by omega) rfl (fun _ m h => by cases h) g2
  have e : lst (toPo M) = M := (lst_eq f3 rfl).symm
  refine ⟨toPo M, w', ?_, ?_, f4⟩
  · have hr : rng [.int (many : Nat)] = some ((List.range' 0 many).map fun (i : Nat) => D.int (i : Int)) := by
      rw [o_rng1, if_pos (big_nat (by omega)), Int.toNat_natCast, rangeD_nat, List.range_eq_range']
    have eP : P (toPo M) = .tup (eL M) := by
      unfold P
      rw [e]
    rw [eP]
    refine fn_rt (seq_to (ρ1 := [.val .hand, .val (wobj α), .val (.int (most : Nat)), .val (.int (many : Nat)), .no, .no]) (w1 := w1) ?_ (seq_to (ρ1 := [.val .hand, .val (wobj α), .val (.int (most : Nat)), .val (.int (many : Nat)), .own (eL ([] : List α)), .no]) (w1 := w1) (by simp; rfl) (seq_to (ρ1 := [.val .hand, .val (wobj α), .val (.int (most : Nat)), .val (.int (many : Nat)), .own (eL M), j5]) (w1 := w') ?_ ?_)))
    · generalize ((many : Nat) : Int) = Mm at g1 ⊢
      simp [g1]
    · simp only [r_fFor, r_fRng, r_fCons, r_fNil, r_fVar, List.getElem?_cons_succ, List.getElem?_cons_zero, Option.bind_some, Option.map_some]
      rw [hr]
      exact f1
    · simp
  · unfold len
    rw [e]
    omega
end
end K39
end
section
set_option maxRecDepth 100000
set_option autoImplicit false
/-! QM: l_parts -/
namespace K39
open Lean.Grind FF FD FX
section
variable {α : Type} [FX α]
noncomputable def isZ (f : Po α) : Bool := (lst f).isEmpty
theorem isZ_iff {f : Po α} : isZ f = true ↔ f = 0 := by
  unfold isZ
  rw [List.isEmpty_iff]
  exact ⟨fun h => lst_inj (h.trans lst_0.symm), fun h => by rw [h, lst_0]⟩
theorem eq_nilL (l : List α) : dEq (.lst (eL l)) (.lst []) = some (.bl l.isEmpty) := by
  rw [eL_codes, eq_nil_ints]
  cases l <;> rfl
theorem eq_nilP (f : Po α) : dEq (P f) (.tup []) = some (.bl (isZ f)) := by
  show ((unInts (eL (lst f))).map List.isEmpty).map D.bl = _
  rw [eL_codes, unInts_ints]
  unfold isZ
  cases lst f <;> rfl
theorem ne_nilP (f : Po α) : dNe (P f) (.tup []) = some (.bl (!isZ f)) := by
  show ((unInts (eL (lst f))).map List.isEmpty).map (fun b => D.bl (!b)) = _
  rw [eL_codes, unInts_ints]
  unfold isZ
  cases lst f <;> rfl
theorem psp_ne (l : List α) : psp l ≠ 0 := by
  obtain ⟨n, h⟩ := psp_mo l
  exact dg_ne h.dg
theorem len_psF : ∀ (l : List α) (f : Po α), len (psF f l) ≤ len f + l.length
  | [], f => Nat.le_refl _
  | a :: l, f => by
    have h1 := len_psF l (wid f a)
    have h2 := len_wid f a
    rw [List.length_cons]
    show len (psF (wid f a) l) ≤ _
    omega
theorem len_psp (l : List α) : len (psp l) ≤ 1 + l.length := by
  have := len_psF l (1 : Po α)
  rw [len_1] at this
  exact this
theorem idq (q q' g r : Po α) (h : q' * g = q * g + r) : (q' - q) * g = r := by
  have e : (q' - q) * g = q' * g - q * g := by grind
  rw [e, h]
  grind
/-- the rest is nothing exactly if it divides -/
theorem rest_zero {f g q r : Po α} (e : f = q * g + r) (hr : len r < len g) : r = 0 ↔ Dv g f := by
  constructor
  · intro z
    exact ⟨q, by rw [e, z]; grind⟩
  · rintro ⟨q', h⟩
    have k := idq q q' g r (by rw [← h, e])
    have g0 : g ≠ 0 := fun y => by
      rw [y, len_0] at hr
      omega
    obtain ⟨m, hm⟩ := (zero_or_dg g).resolve_left g0
    have lm := len_dg hm
    have z := small_right (q := q' - q) hm (by
      rw [k]
      exact (len_sup r).mono (by omega))
    rw [← k, z]
    grind
theorem m_lparts (U V low high : List α) (hU : U.length ≤ 6) (hV : V.length ≤ 6) (hlow : ∀ x, x ∈ low ↔ Sp U x) (hhigh : ∀ x, x ∈ high ↔ Sp V x) (hl : high.length < 1000) (w : Wd) : m_l_parts [fobj α, wobj α, P (psp U), P (psp V), .lst (eL low), .lst (eL high)] w = some (.bl true, w) := by
  have lf := len_psp U
  have lg := len_psp V
  obtain ⟨q, r, d1, d2, d3⟩ := m_dabout (psp U) (psp V) (by omega) (by omega) (psp_ne V) w
  have rz := rest_zero d2 d3
  have dv : Dv (psp V) (psp U) ↔ ∀ x, x ∈ high → x ∈ low := by
    constructor
    · intro k x m
      exact (hlow x).mpr ((psp_ker U x).mp (k.ev ((psp_ker V x).mpr ((hhigh x).mp m))))
    · intro k
      exact psp_dv V _ fun a m => (psp_ker U a).mpr ((hlow a).mp (k a ((hhigh a).mpr (.of m))))
  generalize hI : high.filter (fun x => !decide (x ∈ low)) = ins
  have hin : ins.isEmpty = isZ r := by
    rw [Bool.eq_iff_iff, List.isEmpty_iff, isZ_iff, rz, dv, ← hI, List.filter_eq_nil_iff]
    constructor
    · intro k x m
      have := k x m
      simp at this
      exact this
    · intro k x m
      simp
      exact k x m
  have lc := lc_eLf (ρ := [.val (fobj α), .val (wobj α), .val (P (psp U)), .val (P (psp V)), .val (.lst (eL low)), .val (.lst (eL high)), .no, .no, .no, .no]) (w := w) (i := 7) (ft := ftVal (fOp (dIn true) (fVarB 7) (fVarB 4))) (fun x : α => !decide (x ∈ low)) (fun _ => rfl) high (fun x _ => by
    have t := in_eL true x low
    simp only [r_bnd1, r_ftVal, r_fOp, r_fVarB, List.getElem?_cons_succ, List.getElem?_cons_zero, Option.bind_some, Option.map_some, List.set_cons_succ, List.set_cons_zero]
    rw [t]
    rfl)
  rw [hI] at lc
  have cl : (eL high).length ≤ 100000 := by rw [eL_len]; omega
  have en := eq_nilL ins
  have e1 := eq_nilP r
  have e2 := ne_nilP r
  have lq : len q ≤ 16 := by
    rcases q_len d2 d3 with z | z
    · rw [z, len_0]; omega
    · omega
  have pu := m_put false false q (psp V) lq (by omega) w
  rw [sq_P, sq_P] at pu
  refine fn_rt (seq_w [.val (fobj α), .val (wobj α), .val (P (psp U)), .val (P (psp V)), .val (.lst (eL low)), .val (.lst (eL high)), .val (.bl ins.isEmpty), .no, .no, .no] ?_ (seq_w [.val (fobj α), .val (wobj α), .val (P (psp U)), .val (P (psp V)), .val (.lst (eL low)), .val (.lst (eL high)), .val (.bl ins.isEmpty), .no, .val (P q), .val (P r)] ?_ (seq_w _ (if_f (w1 := w) ?_ rfl) (seq_w _ (if_f (w1 := w) ?_ rfl) ?_))))
  · simp only [r_fAsg, r_fOp, r_asE, r_fLc, r_fLst, r_fNil, r_fItems, r_fVarB, List.map_cons, List.map_nil, List.length_cons, List.length_nil, List.cons_append, List.getElem?_cons_succ, List.getElem?_cons_zero, Option.bind_some, it_l, Option.map_some, r_wipeC, r_wipeN, List.set_cons_succ, List.set_cons_zero, cap_v, Nat.zero_le, if_true]
    rw [if_pos cl]
    show Option.map _ (Option.bind (Option.map _ (lcLoop (bnd1 7) _ _ (eL high) [.val (fobj α), .val (wobj α), .val (P (psp U)), .val (P (psp V)), .val (.lst (eL low)), .val (.lst (eL high)), .no, .no, .no, .no] w)) _) = _
    rw [lc]
    simp only [Option.map_some, Option.bind_some]
    rw [en]
    rfl
  · simp [d1]
  · rw [hin]
    simp [e1]
  · cases hz : isZ r with
    | false =>
      rw [hz] at e1
      simp [e1]
    | true =>
      have r0 := isZ_iff.mp hz
      have eq : q * psp V = psp U := by rw [d2, r0]; grind
      rw [eq] at pu
      rw [hz] at e1
      have sm := same_P (psp U) (by omega) 2 w
      simp [e1, pu, sm]
  · cases hz : isZ r with
    | false =>
      rw [hz] at e2
      simp [e2]
    | true =>
      have r0 := isZ_iff.mp hz
      have eq : q * psp V = psp U := by rw [d2, r0]; grind
      have q0 : q ≠ 0 := fun z => psp_ne U (by rw [← eq, z]; grind)
      have lm := len_mul q0 (psp_ne V)
      rw [eq] at lm
      have ln : (len q : Int) = (len (psp U) : Int) - (len (psp V) : Int) + 1 := by omega
      rw [hz] at e2
      simp [e2, lenP, ln]
end
end K39
end
section
set_option maxRecDepth 100000
set_option autoImplicit false
/-! QN: l_spaces_led -/
namespace K39
open Lean.Grind FF FD FX
section
variable {α : Type} [FX α]
def Sub (Z : List α) : Prop := ∀ x, x ∈ Z ↔ Sp Z x
theorem sub_of {Z : List α} {p : α → Prop} (h : ∀ x, x ∈ Z ↔ p x) (h0 : p 0) (ha : ∀ x y, p x → p y → p (x + y)) : Sub Z := fun x => ⟨fun m => .of m, fun k => by
  rw [h]
  induction k with
  | zero => exact h0
  | add m _ ih => exact ha _ _ ((h _).mp m) ih⟩
theorem lbasis_gauss {Z : List α} (nd : Z.Nodup) (s : Sub Z) : lbasis Z = gauss Z := (gauss_basis nd s).symm
theorem lbasis_ech {E : List (Nat × α)} (h : Ech E) {Z : List α} (nd : Z.Nodup) (hZ : ∀ x, Sp (E.map (·.2)) x ↔ x ∈ Z) : E.map (·.2) = lbasis Z := (lbasis_eq h nd fun x => (hZ x).symm).symm
theorem lbasis_sp {Z : List α} (nd : Z.Nodup) (s : Sub Z) (x : α) : Sp (lbasis Z) x ↔ x ∈ Z := by
  rw [lbasis_gauss nd s, gauss_sp, s x]
theorem lbasis_len {Z : List α} (nd : Z.Nodup) (s : Sub Z) : (lbasis Z).length ≤ 4 := by
  rw [lbasis_gauss nd s]
  exact gauss_len Z
theorem common_psp {U V B : List α} {h a b c e : Po α} (i : EI (psp U) (psp V) h a b 0 c e) (hh : h ≠ 0) (hB : ∀ x, Sp B x ↔ Sp U x ∧ Sp V x) : monic h = psp B := by
  have gd := ei_gcd i
  refine psp_gcd (monic_mo hh) (dv_monic hh gd.1) (dv_monic hh gd.2) ?_ hB
  obtain ⟨h1, _⟩ := i
  refine ⟨mono (inv (h.co (len h - 1))) 0 * a, mono (inv (h.co (len h - 1))) 0 * b, ?_⟩
  unfold monic
  generalize mono (inv (h.co (len h - 1))) 0 = M
  rw [h1]
  clear h1
  grind
theorem least_psp {U V : List α} {h a b c e : Po α} (i : EI (psp U) (psp V) h a b 0 c e) (hh : h ≠ 0) : monic (c * psp U) = psp (U ++ V) := by
  have n0 := ei_ne i (psp_ne U) (psp_ne V)
  obtain ⟨l1, l2, l3⟩ := ei_lcm i hh
  have up : ∀ {f : Po α}, Dv f (c * psp U) → Dv f (monic (c * psp U)) := fun {f} ⟨q, k⟩ => by
    refine ⟨mono (inv ((c * psp U).co (len (c * psp U) - 1))) 0 * q, ?_⟩
    unfold monic
    generalize mono (inv ((c * psp U).co (len (c * psp U) - 1))) 0 = M
    rw [k]
    clear k
    grind
  exact psp_lcm (monic_mo n0) (up l1) (up l2) fun W w1 w2 => dv_monic n0 (l3 W w1 w2)
theorem m_spaces {w : Wd} (hw : HW w) : ∃ w', m_l_spaces_led [.hand, fobj α, wobj α] w = some (.bl true, w') ∧ HW w' := by
  obtain ⟨U, V, w1, t1, lU, lV, hw1⟩ := m_two (α := α) hw
  obtain ⟨k1, w2, g1, hw2⟩ := m_given true (eL U) hw1
  obtain ⟨k2, w3, g2, hw3⟩ := m_given true (eL V) hw2
  refine ⟨w3, ?_, hw3⟩
  have okU := lspan_ok U
  have okV := lspan_ok V
  generalize hm : (lspan U).filter (fun x => decide (x ∈ lspan V)) = meet
  have ndm : meet.Nodup := by rw [← hm]; exact okU.1.filter _
  have mm : ∀ x, x ∈ meet ↔ Sp U x ∧ Sp V x := fun x => by
    rw [← hm, List.mem_filter, decide_eq_true_iff, okU.2 x, okV.2 x]
  have sm : Sub meet := sub_of mm ⟨.zero, .zero⟩ fun x y a b => ⟨a.1.plus b.1, a.2.plus b.2⟩
  have lb := lbasis_len ndm sm
  have spB : ∀ x, Sp (lbasis meet) x ↔ Sp U x ∧ Sp V x := fun x => (lbasis_sp ndm sm x).trans (mm x)
  have p1 := m_psp k1 U (by omega) w2
  have p2 := m_psp k2 V (by omega) w3
  have q1 := m_lpsp true U (by omega) w3
  have q2 := m_lpsp true V (by omega) w3
  have lfU := len_psp U
  have lfV := len_psp V
  obtain ⟨G, c1, c2, _, c4⟩ := m_common false false (psp U) (psp V) (by omega) (by omega) w3
  obtain ⟨h, a, b, c, e, i, hh, rfl⟩ := c4 fun z => psp_ne U z.1
  rw [common_psp i hh spB] at c1 c2
  obtain ⟨h', a', b', c', e', d1, i', hh', d3⟩ := m_least false false (psp U) (psp V) (by omega) (by omega) (psp_ne U) (psp_ne V) w3
  rw [least_psp i' hh'] at d1
  obtain ⟨EZ, z1, z2, z3⟩ := m_zeros false (psp (lbasis meet)) c2 w3
  have zb := lbasis_ech z2 ndm fun x => (z3 x).trans ((psp_ker _ x).trans (lbasis_sp ndm sm x))
  rw [zb] at z1
  obtain ⟨EM, m1, m2, m3⟩ := m_meet true false true false U V (by omega) (by omega) w3
  have mb := lbasis_ech m2 ndm fun x => (m3 x).trans (mm x).symm
  rw [mb] at m1
  have lW := len_psp (U ++ V)
  rw [List.length_append] at lW
  obtain ⟨EW, y1, y2, y3⟩ := m_zeros false (psp (U ++ V)) (by omega) w3
  have ts := m_tspace true (U ++ V) (by rw [List.length_append]; omega) w3
  have yb : EW.map (·.2) = gauss (U ++ V) := by
    rw [gauss_basis (nodup_all (U ++ V)) (mem_all (U ++ V))]
    exact lbasis_ech y2 (nodup_all _) fun x => (y3 x).trans ((psp_ker _ x).trans (mem_all _ x).symm)
  rw [yb] at y1
  have s1 := same_P (psp U) (by omega) 2 w3
  have s2 := same_P (psp V) (by omega) 2 w3
  have s3 := same_P (psp (lbasis meet)) (by omega) 2 w3
  have s4 := same_eL (lbasis meet) (by omega) 2 w3
  have s5 := same_P (psp (U ++ V)) (by omega) 2 w3
  have gl := gauss_len (U ++ V)
  have s6 := same_eL (gauss (U ++ V)) (by omega) 2 w3
  have q3 := m_lpsp false (lbasis meet) (by omega) w3
  have q4 := m_lpsp true (U ++ V) (by rw [List.length_append]; omega) w3
  have q5 := m_psp true (U ++ V) (by rw [List.length_append]; omega) w3
  have sp1 := m_lspan true U w1
  have sp2 := m_lspan true V w1
  have r1 := m_lrows U (by omega) w3
  have r2 := m_lrows V (by omega) w3
  have lbm := m_lbasis meet (by have := nodup_n ndm; have := n_le (α := α); omega) w3
  have lp := m_lparts U V (lspan U) (lspan V) lU lV okU.2 okV.2 (by have := nodup_n okV.1; have := n_le (α := α); omega) w3
  have cl1 : (eL (lspan U)).length ≤ 100000 := by rw [eL_len]; have := nodup_n okU.1; have := n_le (α := α); omega
  have lc1 := lc_eLf (ρ := [.val .hand, .val (fobj α), .val (wobj α), .val (.lst (eL U)), .val (.lst (eL V)), .val (.lst (eL (lspan U))), .val (.lst (eL (lspan V))), .no, .no, .no, .no, .no, .no, .no, .no, .no]) (w := w1) (i := 8) (ft := ftVal (fOp (dIn false) (fVarB 8) (fVarB 6))) (fun x : α => decide (x ∈ lspan V)) (fun _ => rfl) (lspan U) (fun x _ => by
    have t := in_eL false x (lspan V)
    simp only [r_bnd1, r_ftVal, r_fOp, r_fVarB, List.getElem?_cons_succ, List.getElem?_cons_zero, Option.bind_some, Option.map_some, List.set_cons_succ, List.set_cons_zero]
    rw [t]
    rfl)
  rw [hm] at lc1
  have ap : eL U ++ eL V = eL (U ++ V) := (eL_app ..).symm
  have cuv : U.length + V.length ≤ 100000 := by omega
  have lbc : (lbasis meet).length ≤ 100000 := by omega
  have lt := lc_thing (ρ := [.val .hand, .val (fobj α), .val (wobj α), .val (.lst (eL U)), .val (.lst (eL V)), .val (.lst (eL (lspan U))), .val (.lst (eL (lspan V))), .val (.lst (eL meet)), .no, .val (P (psp U)), .val (P (psp V)), .val (.tup (eL (lbasis meet))), .val (P (psp (lbasis meet))), .val (.tup (rowsD false (lbasis meet))), .no, .no]) (w := w3) (o := 1) (i := 14) (fun _ => rfl) (fun _ => rfl) (lbasis meet)
  rw [sq_f] at q3
  simp only [sq_t, sq_P] at *
  refine fn_rt (seq_to (ρ1 := [.val .hand, .val (fobj α), .val (wobj α), .val (.lst (eL U)), .val (.lst (eL V)), .no, .no, .no, .no, .no, .no, .no, .no, .no, .no, .no]) (w1 := w1) ?_ (seq_w [.val .hand, .val (fobj α), .val (wobj α), .val (.lst (eL U)), .val (.lst (eL V)), .val (.lst (eL (lspan U))), .no, .no, .no, .no, .no, .no, .no, .no, .no, .no] ?_ (seq_w [.val .hand, .val (fobj α), .val (wobj α), .val (.lst (eL U)), .val (.lst (eL V)), .val (.lst (eL (lspan U))), .val (.lst (eL (lspan V))), .no, .no, .no, .no, .no, .no, .no, .no, .no] ?_ (seq_w [.val .hand, .val (fobj α), .val (wobj α), .val (.lst (eL U)), .val (.lst (eL V)), .val (.lst (eL (lspan U))), .val (.lst (eL (lspan V))), .val (.lst (eL meet)), .no, .no, .no, .no, .no, .no, .no, .no] ?_ (seq_to (ρ1 := [.val .hand, .val (fobj α), .val (wobj α), .val (.lst (eL U)), .val (.lst (eL V)), .val (.lst (eL (lspan U))), .val (.lst (eL (lspan V))), .val (.lst (eL meet)), .no, .val (P (psp U)), .no, .no, .no, .no, .no, .no]) (w1 := w2) ?_ (seq_to (ρ1 := [.val .hand, .val (fobj α), .val (wobj α), .val (.lst (eL U)), .val (.lst (eL V)), .val (.lst (eL (lspan U))), .val (.lst (eL (lspan V))), .val (.lst (eL meet)), .no, .val (P (psp U)), .val (P (psp V)), .no, .no, .no, .no, .no]) (w1 := w3) ?_ (seq_w _ (if_f (w1 := w3) ?_ rfl) (seq_w [.val .hand, .val (fobj α), .val (wobj α), .val (.lst (eL U)), .val (.lst (eL V)), .val (.lst (eL (lspan U))), .val (.lst (eL (lspan V))), .val (.lst (eL meet)), .no, .val (P (psp U)), .val (P (psp V)), .val (.tup (eL (lbasis meet))), .no, .no, .no, .no] ?_ (seq_w [.val .hand, .val (fobj α), .val (wobj α), .val (.lst (eL U)), .val (.lst (eL V)), .val (.lst (eL (lspan U))), .val (.lst (eL (lspan V))), .val (.lst (eL meet)), .no, .val (P (psp U)), .val (P (psp V)), .val (.tup (eL (lbasis meet))), .val (P (psp (lbasis meet))), .no, .no, .no] ?_ (seq_w _ (if_f (w1 := w3) ?_ rfl) (seq_w [.val .hand, .val (fobj α), .val (wobj α), .val (.lst (eL U)), .val (.lst (eL V)), .val (.lst (eL (lspan U))), .val (.lst (eL (lspan V))), .val (.lst (eL meet)), .no, .val (P (psp U)), .val (P (psp V)), .val (.tup (eL (lbasis meet))), .val (P (psp (lbasis meet))), .val (.tup (rowsD false (lbasis meet))), .no, .no] ?_ (seq_w _ (if_f (w1 := w3) ?_ rfl) (seq_w [.val .hand, .val (fobj α), .val (wobj α), .val (.lst (eL U)), .val (.lst (eL V)), .val (.lst (eL (lspan U))), .val (.lst (eL (lspan V))), .val (.lst (eL meet)), .no, .val (P (psp U)), .val (P (psp V)), .val (.tup (eL (lbasis meet))), .val (P (psp (lbasis meet))), .val (.tup (rowsD false (lbasis meet))), .no, .val (P (psp (U ++ V)))] ?_ (seq_w _ (if_f (w1 := w3) ?_ rfl) (seq_w _ (if_f (w1 := w3) ?_ rfl) ?_)))))))))))))))
  · simp [t1]
  · simp [sp1]
  · simp [sp2]
  · simp only [r_fAsg, r_asE, r_fLc, r_fItems, r_fVarB, List.getElem?_cons_succ, List.getElem?_cons_zero, Option.bind_some, it_l, Option.map_some, r_wipeC, r_wipeN, List.set_cons_succ, List.set_cons_zero, cap_v]
    rw [if_pos cl1, lc1]
    rfl
  · simp [g1, p1]
  · simp [g2, p2]
  · simp [q1, q2, s1, s2]
  · simp [lbm]
  · simp [c1]
  · simp [q3, s3, z1, s4]
  · simp [r1, r2, m1]
  · simp [rowsD_len, lbc, lt, s4]
  · simp [d1]
  · simp [cuv, ap, q4, q5, s5]
  · simp [cuv, ap, y1, ts, s6]
  · simp [lp]
end
end K39
end
section
set_option maxRecDepth 100000
set_option autoImplicit false
/-! QO: l_common_zeros -/
namespace K39
open Lean.Grind FF FD FX
section
variable {α : Type} [FX α]
theorem givenP (f : Po α) {w : Wd} (hw : HW w) : ∃ (k' : Bool) (w' : Wd), m_l_given [.hand, P f] w = some (sq k' (eL (lst f)), w') ∧ HW w' := m_given false (eL (lst f)) hw
theorem zeros_gcd {f g h a b c e : Po α} (i : EI f g h a b 0 c e) (hh : h ≠ 0) (v : α) : (monic h).ev v = 0 ↔ f.ev v = 0 ∧ g.ev v = 0 := by
  have gd := ei_gcd i
  have mb := monic_back hh
  constructor
  · intro z
    have hz : h.ev v = 0 := by
      rw [← mb, ev_mul, z, ev_at0]
    exact ⟨gd.1.ev hz, gd.2.ev hz⟩
  · rintro ⟨z1, z2⟩
    obtain ⟨h1, _⟩ := i
    unfold monic
    rw [ev_mul, h1, ev_add, ev_mul, ev_mul, z1, z2, ev_at0, ev_at0, show (0 : α) + 0 = 0 by grind, ev_at0]
theorem common_zeros (f g : Po α) (hf : len f ≤ 16) (hg : len g ≤ 16) (k1 k2 : Bool) (w : Wd) : ∃ G, m_common_about [fobj α, sq k1 (eL (lst f)), sq k2 (eL (lst g))] w = some (P G, w) ∧ len G ≤ 16 ∧ ∀ v, G.ev v = 0 ↔ f.ev v = 0 ∧ g.ev v = 0 := by
  obtain ⟨G, c1, c2, c3, c4⟩ := m_common k1 k2 f g hf hg w
  refine ⟨G, c1, c2, fun v => ?_⟩
  by_cases z : f = 0 ∧ g = 0
  · rw [c3 z, z.1, z.2, ev_zero]
    exact ⟨fun _ => ⟨rfl, rfl⟩, fun _ => rfl⟩
  · obtain ⟨h, a, b, c, e, i, hh, rfl⟩ := c4 z
    exact zeros_gcd i hh v
/-- what the two polys are, after the draw: any two of at most 16 terms -/
theorem common_tail (f g u : Po α) (hf : len f ≤ 16) (hg : len g ≤ 16) {w : Wd} (hw : HW w) : ∃ w', (fSeq (fAsg 6 (asE (fLc [7] (bnd1 7) (fItems (fCall m_l_zeros [] 2 (fCons (fVar 2) (fCons (fVar 4) fNil)))) (ftVal (fOp dEq (fCall m_l_value [] 3 (fCons (fVar 2) (fCons (fVar 5) (fCons (fVar 7) fNil)))) (fC (.int 0)))) (fVar 7))))
  (fSeq (fAsg 8 (fCall m_common_about [] 3 (fCons (fVar 1) (fCons (fCall m_l_given [] 2 (fCons (fVar 0) (fCons (fVar 4) fNil))) (fCons (fCall m_l_given [] 2 (fCons (fVar 0) (fCons (fVar 5) fNil))) fNil)))))
  (fSeq (fIf (ftNot (ftVal (fCall (m_l_same 4) [] 2 (fCons (fCall m_zeros_of [] 2 (fCons (fVar 1) (fCons (fVar 8) fNil))) (fCons (fCall m_l_basis [] 2 (fCons (fVar 2) (fCons (fVar 6) fNil))) fNil))))) (fRet (fC (.bl false))) fPass)
  (fRet (fCall (m_l_same 4) [] 2 (fCons (fCall m_space_things [] 2 (fCons (fVar 1) (fCons (fCall m_zeros_of [] 2 (fCons (fVar 1) (fCons (fVar 8) fNil))) fNil))) (fCons (fOp1 dTuple (fOp1 dSorted (fVarB 6))) fNil))))))) [.val .hand, .val (fobj α), .val (wobj α), .val (P u), .val (P f), .val (P g), .no, .no, .no] w = some (.rt (.bl true), w') ∧ HW w' := by
  obtain ⟨k1, w1, g1, hw1⟩ := givenP f hw
  obtain ⟨k2, w2, g2, hw2⟩ := givenP g hw1
  refine ⟨w2, ?_, hw2⟩
  obtain ⟨G, c1, c2, c3⟩ := common_zeros f g hf hg k1 k2 w2
  generalize hZ0 : (els : List α).filter (fun x => decide (f.ev x = 0)) = Z0
  generalize hZ : Z0.filter (fun x => decide (g.ev x = 0)) = Z
  have nd0 : Z0.Nodup := by rw [← hZ0]; exact nodup_els.filter _
  have nd : Z.Nodup := by rw [← hZ]; exact nd0.filter _
  have mZ : ∀ x, x ∈ Z ↔ G.ev x = 0 := fun x => by
    rw [← hZ, ← hZ0, List.mem_filter, List.mem_filter, decide_eq_true_iff, decide_eq_true_iff, c3 x]
    exact ⟨fun h => ⟨h.1.2, h.2⟩, fun h => ⟨⟨mem_els x, h.1⟩, h.2⟩⟩
  have z0 := m_lzeros f w
  rw [hZ0] at z0
  have n27 := n_le (α := α)
  have l0 := nodup_n nd0
  have lZ := nodup_n nd
  have cl0 : Z0.length ≤ 100000 := by omega
  have lc := lc_eLf (ρ := [.val .hand, .val (fobj α), .val (wobj α), .val (P u), .val (P f), .val (P g), .no, .no, .no]) (w := w) (i := 7) (ft := ftVal (fOp dEq (fCall m_l_value [] 3 (fCons (fVar 2) (fCons (fVar 5) (fCons (fVar 7) fNil)))) (fC (.int 0)))) (fun x : α => decide (g.ev x = 0)) (fun _ => rfl) Z0 (fun x _ => by
    have t := m_lvalueP g x w
    simp [t])
  rw [hZ] at lc
  obtain ⟨E, e1, e2, e3⟩ := m_zeros false G c2 w2
  have eb := lbasis_ech e2 nd fun x => (e3 x).trans (mZ x).symm
  rw [eb] at e1
  have lbm := m_lbasis Z (by omega) w2
  have sm : Sub Z := sub_of mZ (ev_at0 G) fun x y a b => by rw [ev_x, a, b]; grind
  have lb := lbasis_len nd sm
  have s1 := same_eL (lbasis Z) (by omega) 2 w2
  have st := m_sthings false (lbasis Z) (by omega) Z nd (fun x => (lbasis_sp nd sm x).symm) w2
  have ds : dSorted (.lst (eL Z)) = some (.lst (dI (sortI (codes Z)))) := by
    rw [eL_codes]
    show (unInts (dI (codes Z))).map _ = _
    rw [unInts_ints]
    rfl
  have s2 : m_l_same 4 [.tup (dI (sortI (codes Z))), .tup (dI (sortI (codes Z)))] w2 = some (.bl true, w2) := same_tup _ (by
    rw [dI_len, (sortI_perm (codes Z)).length_eq]
    unfold codes
    rw [List.length_map]
    omega) 3 w2 fun x m => by
    obtain ⟨i, _, rfl⟩ := List.mem_map.mp m
    exact same_int i 2 w2
  rw [sq_P] at e1
  rw [sq_f] at st
  refine seq_w [.val .hand, .val (fobj α), .val (wobj α), .val (P u), .val (P f), .val (P g), .val (.lst (eL Z)), .no, .no] ?_ (seq_to (ρ1 := [.val .hand, .val (fobj α), .val (wobj α), .val (P u), .val (P f), .val (P g), .val (.lst (eL Z)), .no, .val (P G)]) (w1 := w2) ?_ (seq_w _ (if_f (w1 := w2) ?_ rfl) ?_))
  · simp [z0, cl0, lc]
  · simp [g1, g2, c1]
  · simp [e1, lbm, s1]
  · simp [e1, st, ds, s2]
theorem m_czeros {w : Wd} (hw : HW w) : ∃ w', m_l_common_zeros [.hand, fobj α, wobj α] w = some (.bl true, w') ∧ HW w' := by
  obtain ⟨u, w1, a1, a2, hw1⟩ := m_lpoly (α := α) 3 (by omega) hw
  obtain ⟨f, w2, b1, b2, hw2⟩ := m_lpoly (α := α) 6 (by omega) hw1
  obtain ⟨g, w3, c1, c2, hw3⟩ := m_lpoly (α := α) 6 (by omega) hw2
  obtain ⟨r, w4, d1, hw4, d3, d4⟩ := m_draw 3 (by omega) (by omega) hw3
  have a1 : m_l_poly [.hand, wobj α, .int 3] w = some (P u, w1) := a1
  have b1 : m_l_poly [.hand, wobj α, .int 6] w1 = some (P f, w2) := b1
  have c1 : m_l_poly [.hand, wobj α, .int 6] w2 = some (P g, w3) := c1
  by_cases z : 0 < r
  · obtain ⟨p1, w5, e1, e2, hw5⟩ := m_lpoly (α := α) 3 (by omega) hw4
    obtain ⟨p2, w6, f1, f2, hw6⟩ := m_lpoly (α := α) 3 (by omega) hw5
    have e1 : m_l_poly [.hand, wobj α, .int 3] w4 = some (P p1, w5) := e1
    have f1 : m_l_poly [.hand, wobj α, .int 3] w5 = some (P p2, w6) := f1
    have q1 := m_lputP p1 u (by omega) w5
    have q2 := m_lputP p2 u (by omega) w6
    have l1 := len_mul_le p1 u
    have l2 := len_mul_le p2 u
    obtain ⟨w', t, hw'⟩ := common_tail (p1 * u) (p2 * u) u (by omega) (by omega) hw6
    refine ⟨w', fn_rt (seq_to (ρ1 := [.val .hand, .val (fobj α), .val (wobj α), .val (P u), .no, .no, .no, .no, .no]) (w1 := w1) ?_ (seq_to (ρ1 := [.val .hand, .val (fobj α), .val (wobj α), .val (P u), .val (P f), .no, .no, .no, .no]) (w1 := w2) ?_ (seq_to (ρ1 := [.val .hand, .val (fobj α), .val (wobj α), .val (P u), .val (P f), .val (P g), .no, .no, .no]) (w1 := w3) ?_ (seq_to (ρ1 := [.val .hand, .val (fobj α), .val (wobj α), .val (P u), .val (P (p1 * u)), .val (P (p2 * u)), .no, .no, .no]) (w1 := w6) (if_t (w1 := w4) ?_ (seq_to (ρ1 := [.val .hand, .val (fobj α), .val (wobj α), .val (P u), .val (P (p1 * u)), .val (P g), .no, .no, .no]) (w1 := w5) ?_ ?_)) t)))), hw'⟩
    · simp [a1]
    · simp [b1]
    · simp [c1]
    · simp [d1, z]
    · simp [e1, q1]
    · simp [f1, q2]
  · obtain ⟨w', t, hw'⟩ := common_tail f g u (by omega) (by omega) hw4
    refine ⟨w', fn_rt (seq_to (ρ1 := [.val .hand, .val (fobj α), .val (wobj α), .val (P u), .no, .no, .no, .no, .no]) (w1 := w1) ?_ (seq_to (ρ1 := [.val .hand, .val (fobj α), .val (wobj α), .val (P u), .val (P f), .no, .no, .no, .no]) (w1 := w2) ?_ (seq_to (ρ1 := [.val .hand, .val (fobj α), .val (wobj α), .val (P u), .val (P f), .val (P g), .no, .no, .no]) (w1 := w3) ?_ (seq_to (ρ1 := [.val .hand, .val (fobj α), .val (wobj α), .val (P u), .val (P f), .val (P g), .no, .no, .no]) (w1 := w4) (if_f (w1 := w4) ?_ rfl) t)))), hw'⟩
    · simp [a1]
    · simp [b1]
    · simp [c1]
    · simp [d1, z]
end
end K39
end
section
set_option maxRecDepth 100000
set_option autoImplicit false
/-! QP: l_put_zeros -/
namespace K39
open Lean.Grind FF FD FX
section
variable {α : Type} [FX α]
/-- the zeros of a poly, as a list -/
noncomputable def zl (f : Po α) : List α := (els : List α).filter fun x => decide (f.ev x = 0)
theorem zl_mem (f : Po α) (x : α) : x ∈ zl f ↔ f.ev x = 0 := by
  unfold zl
  rw [List.mem_filter, decide_eq_true_iff]
  exact ⟨fun h => h.2, fun h => ⟨mem_els x, h⟩⟩
theorem zl_nd (f : Po α) : (zl f).Nodup := nodup_els.filter _
theorem zl_sub (f : Po α) : Sub (zl f) := sub_of (zl_mem f) (ev_at0 f) fun x y a b => by rw [ev_x, a, b]; grind
theorem m_zl (k : Bool) (f : Po α) (h : len f ≤ 16) (w : Wd) : m_zeros_of [fobj α, sq k (eL (lst f))] w = some (.tup (eL (lbasis (zl f))), w) := by
  obtain ⟨E, e1, e2, e3⟩ := m_zeros k f h w
  rw [e1, lbasis_ech e2 (zl_nd f) fun x => (e3 x).trans (zl_mem f x).symm]
theorem loop_pz1 (B : List α) (hB : B.length ≤ 16) (A : Po α) (hA : len A ≤ 16) (s0 s2 s3 s4 s5 s9 s10 : Sl) (w : Wd) : ∀ (c : List α) (j : Sl), (∀ x, x ∈ c → Sp B x ∧ A.ev x = 0) → ∃ j', forLoop (bnd1 8) b_l_put_zeros_1 (eL c) [s0, .val (fobj α), s2, s3, s4, s5, .val (P A), .val (.tup (eL B)), j, s9, s10] w = some (.nx [s0, .val (fobj α), s2, s3, s4, s5, .val (P A), .val (.tup (eL B)), j', s9, s10], w)
  | [], j, _ => ⟨j, rfl⟩
  | x :: c, j, h => by
    obtain ⟨j', ih⟩ := loop_pz1 B hB A hA s0 s2 s3 s4 s5 s9 s10 w c (.val (eI x)) (fun y m => h y (List.mem_cons_of_mem _ m))
    refine ⟨j', ?_⟩
    obtain ⟨h1, h2⟩ := h x (List.mem_cons_self ..)
    have hh := m_holds B hB x h1 w
    have hv := m_value A hA x w
    have hb : b_l_put_zeros_1 (bnd1 8 (eI x) [s0, .val (fobj α), s2, s3, s4, s5, .val (P A), .val (.tup (eL B)), j, s9, s10]) w = some (.nx [s0, .val (fobj α), s2, s3, s4, s5, .val (P A), .val (.tup (eL B)), .val (eI x), s9, s10], w) := by
      simp [b_l_put_zeros_1, hh, hv, h2]
    show forLoop _ _ (eI x :: eL c) _ w = _
    rw [fl_cons, hb]
    exact ih
theorem in_zl (neg : Bool) (V : Po α) (y : α) : dIn neg (eI y) (.lst (eL (zl V))) = some (.bl (if neg then !decide (V.ev y = 0) else decide (V.ev y = 0))) := by
  rw [in_eL]
  simp only [zl_mem]
theorem loop_pz2 (Q V : Po α) (hW : len (V * Q) ≤ 16) (s0 s4 s6 s7 s10 : Sl) (w : Wd) : ∀ (c : List α) (j : Sl), ∃ j', forLoop (bnd1 8) b_l_put_zeros_2 (eL c) [s0, .val (fobj α), .val (wobj α), .val (P Q), s4, .val (.lst (eL (zl V))), s6, s7, j, .val (P (V * Q)), s10] w = some (.nx [s0, .val (fobj α), .val (wobj α), .val (P Q), s4, .val (.lst (eL (zl V))), s6, s7, j', .val (P (V * Q)), s10], w)
  | [], j => ⟨j, rfl⟩
  | x :: c, j => by
    obtain ⟨j', ih⟩ := loop_pz2 Q V hW s0 s4 s6 s7 s10 w c (.val (eI x))
    refine ⟨j', ?_⟩
    have hv := m_value (V * Q) hW x w
    have hl := m_lvalueP Q x w
    have hi := in_zl false V (Q.ev x)
    have hb : b_l_put_zeros_2 (bnd1 8 (eI x) [s0, .val (fobj α), .val (wobj α), .val (P Q), s4, .val (.lst (eL (zl V))), s6, s7, j, .val (P (V * Q)), s10]) w = some (.nx [s0, .val (fobj α), .val (wobj α), .val (P Q), s4, .val (.lst (eL (zl V))), s6, s7, .val (eI x), .val (P (V * Q)), s10], w) := by
      simp [b_l_put_zeros_2, hv, hl, hi, ev_mul]
    show forLoop _ _ (eI x :: eL c) _ w = _
    rw [fl_cons, hb]
    exact ih
theorem idw (q q' g r : Po α) (h : g * q' = g * q + r) : g * (q' - q) = r := by
  have e : g * (q' - q) = g * q' - g * q := by grind
  rw [e, h]
  grind
theorem sub0 {q q' : Po α} (h : q' - q = 0) : q = q' := by
  have e : q' = (q' - q) + q := by grind
  rw [e, h]
  grind
theorem about_uniq {g q q' r : Po α} (e : q' * g = q * g + r) (hr : len r < len g) : q = q' ∧ r = 0 := by
  have k := idq q q' g r e
  have g0 : g ≠ 0 := fun y => by
    rw [y, len_0] at hr
    omega
  obtain ⟨m, hm⟩ := (zero_or_dg g).resolve_left g0
  have lm := len_dg hm
  have z := small_right (q := q' - q) hm (by
    rw [k]
    exact (len_sup r).mono (by omega))
  refine ⟨sub0 z, ?_⟩
  rw [← k, z]
  grind
theorem within_uniq {g q q' r : Po α} (e : g * q' = g * q + r) (hr : len r < len g) : q = q' ∧ r = 0 := by
  have k := idw q q' g r e
  have g0 : g ≠ 0 := fun y => by
    rw [y, len_0] at hr
    omega
  obtain ⟨m, hm⟩ := (zero_or_dg g).resolve_left g0
  have lm := len_dg hm
  have z := small_left (q := q' - q) hm (by
    rw [k]
    exact (len_sup r).mono (by omega))
  refine ⟨sub0 z, ?_⟩
  rw [← k, z]
  grind
theorem m_pzeros {w : Wd} (hw : HW w) : ∃ w', m_l_put_zeros [.hand, fobj α, wobj α] w = some (.bl true, w') ∧ HW w' := by
  obtain ⟨Q, w1, a1, a2, hw1⟩ := m_lpoly (α := α) 4 (by omega) hw
  obtain ⟨V, w2, b1, b2, hw2⟩ := m_lpoly (α := α) 4 (by omega) hw1
  obtain ⟨k1, w3, g1, hw3⟩ := givenP V hw2
  obtain ⟨k2, w4, g2, hw4⟩ := givenP Q hw3
  have a1 : m_l_poly [.hand, wobj α, .int 4] w = some (P Q, w1) := a1
  have b1 : m_l_poly [.hand, wobj α, .int 4] w1 = some (P V, w2) := b1
  have lA := len_mul_le Q V
  have lW := len_mul_le V Q
  have zV : m_l_zeros [wobj α, P V] w2 = some (.lst (eL (zl V)), w2) := m_lzeros V w2
  have pA := m_put false k1 Q V (by omega) (by omega) w3
  have pW := m_put false k2 V Q (by omega) (by omega) w4
  have zA := m_zl false (Q * V) (by omega) w3
  have zW := m_zl false (V * Q) (by omega) w4
  have bA := lbasis_len (zl_nd (Q * V)) (zl_sub (Q * V))
  have bW := lbasis_len (zl_nd (V * Q)) (zl_sub (V * Q))
  obtain ⟨j1, L1⟩ := loop_pz1 (lbasis (zl (Q * V))) (by omega) (Q * V) (by omega) (.val .hand) (.val (wobj α)) (.val (P Q)) (.val (P V)) (.val (.lst (eL (zl V)))) .no .no w3 (zl V) .no fun x m => by
    have z := (zl_mem V x).mp m
    have z2 : (Q * V).ev x = 0 := by rw [ev_mul, z, ev_at0]
    exact ⟨(lbasis_sp (zl_nd _) (zl_sub _) x).mpr ((zl_mem _ x).mpr z2), z2⟩
  obtain ⟨j2, L2⟩ := loop_pz2 Q V (by omega) (.val .hand) (.val (P V)) (.val (P (Q * V))) (.val (.tup (eL (lbasis (zl (Q * V)))))) .no w4 els j1
  have n27 := n_le (α := α)
  have cE : (els : List α).length ≤ 100000 := by rw [els_len]; omega
  have re := rng_els (α := α)
  have lc := lc_eLf (ρ := [.val .hand, .val (fobj α), .val (wobj α), .val (P Q), .val (P V), .val (.lst (eL (zl V))), .val (P (Q * V)), .val (.tup (eL (lbasis (zl (Q * V))))), .no, .val (P (V * Q)), .no]) (w := w4) (i := 8) (ft := ftVal (fOp (dIn false) (fCall m_l_value [] 3 (fCons (fVar 2) (fCons (fVar 3) (fCons (fVar 8) fNil)))) (fVarB 5))) (fun x : α => decide (V.ev (Q.ev x) = 0)) (fun _ => rfl) els (fun x _ => by
    have hl := m_lvalueP Q x w4
    have hi := in_zl false V (Q.ev x)
    simp [hl, hi])
  have due : (els : List α).filter (fun x => decide (V.ev (Q.ev x) = 0)) = zl (V * Q) := by
    unfold zl
    refine List.filter_congr fun x _ => ?_
    rw [ev_mul]
  rw [due] at lc
  have nW := nodup_n (zl_nd (V * Q))
  have lb := m_lbasis (zl (V * Q)) (by omega) w4
  have s1 := same_eL (lbasis (zl (V * Q))) (by omega) 2 w4
  have eV := eq_nilP V
  have s2 := same_PP Q 0 (by omega) (by rw [len_0]; omega) 1 w4
  rw [P_0] at s2
  simp only [sq_P] at *
  by_cases v0 : V = 0
  · have iz : isZ V = true := isZ_iff.mpr v0
    rw [iz] at eV
    refine ⟨w4, ?_, hw4⟩
    refine fn_rt (seq_to (ρ1 := [.val .hand, .val (fobj α), .val (wobj α), .val (P Q), .no, .no, .no, .no, .no, .no, .no]) (w1 := w1) ?_ (seq_to (ρ1 := [.val .hand, .val (fobj α), .val (wobj α), .val (P Q), .val (P V), .no, .no, .no, .no, .no, .no]) (w1 := w2) ?_ (seq_to (ρ1 := [.val .hand, .val (fobj α), .val (wobj α), .val (P Q), .val (P V), .val (.lst (eL (zl V))), .no, .no, .no, .no, .no]) (w1 := w2) ?_ (seq_to (ρ1 := [.val .hand, .val (fobj α), .val (wobj α), .val (P Q), .val (P V), .val (.lst (eL (zl V))), .val (P (Q * V)), .no, .no, .no, .no]) (w1 := w3) ?_ (seq_w [.val .hand, .val (fobj α), .val (wobj α), .val (P Q), .val (P V), .val (.lst (eL (zl V))), .val (P (Q * V)), .val (.tup (eL (lbasis (zl (Q * V))))), .no, .no, .no] ?_ (seq_w [.val .hand, .val (fobj α), .val (wobj α), .val (P Q), .val (P V), .val (.lst (eL (zl V))), .val (P (Q * V)), .val (.tup (eL (lbasis (zl (Q * V))))), j1, .no, .no] ?_ (seq_to (ρ1 := [.val .hand, .val (fobj α), .val (wobj α), .val (P Q), .val (P V), .val (.lst (eL (zl V))), .val (P (Q * V)), .val (.tup (eL (lbasis (zl (Q * V))))), j1, .val (P (V * Q)), .no]) (w1 := w4) ?_ (seq_w [.val .hand, .val (fobj α), .val (wobj α), .val (P Q), .val (P V), .val (.lst (eL (zl V))), .val (P (Q * V)), .val (.tup (eL (lbasis (zl (Q * V))))), j2, .val (P (V * Q)), .no] ?_ (seq_w [.val .hand, .val (fobj α), .val (wobj α), .val (P Q), .val (P V), .val (.lst (eL (zl V))), .val (P (Q * V)), .val (.tup (eL (lbasis (zl (Q * V))))), j2, .val (P (V * Q)), .val (.lst (eL (zl (V * Q))))] ?_ (seq_w _ (if_f (w1 := w4) ?_ rfl) (by simp [eV])))))))))))
    · simp [a1]
    · simp [b1]
    · simp [zV]
    · simp [g1, pA]
    · simp [zA]
    · simp [L1]
    · simp [g2, pW]
    · simp [re, L2]
    · simp [re, cE, lc]
    · simp [zW, lb, s1]
  · have iz : isZ V = false := by
      cases h : isZ V with
      | false => rfl
      | true => exact absurd (isZ_iff.mp h) v0
    rw [iz] at eV
    obtain ⟨q, r, d1, d2, d3⟩ := m_dwithin (V * Q) V (by omega) (by omega) v0 w4
    obtain ⟨rfl, rfl⟩ := within_uniq d2 d3
    obtain ⟨q', r', e1, e2, e3⟩ := m_dabout (q * V) V (by omega) (by omega) v0 w4
    obtain ⟨rfl, rfl⟩ := about_uniq e2 e3
    rw [P_0] at d1 e1
    refine ⟨w4, ?_, hw4⟩
    refine fn_rt (seq_to (ρ1 := [.val .hand, .val (fobj α), .val (wobj α), .val (P q'), .no, .no, .no, .no, .no, .no, .no]) (w1 := w1) ?_ (seq_to (ρ1 := [.val .hand, .val (fobj α), .val (wobj α), .val (P q'), .val (P V), .no, .no, .no, .no, .no, .no]) (w1 := w2) ?_ (seq_to (ρ1 := [.val .hand, .val (fobj α), .val (wobj α), .val (P q'), .val (P V), .val (.lst (eL (zl V))), .no, .no, .no, .no, .no]) (w1 := w2) ?_ (seq_to (ρ1 := [.val .hand, .val (fobj α), .val (wobj α), .val (P q'), .val (P V), .val (.lst (eL (zl V))), .val (P (q' * V)), .no, .no, .no, .no]) (w1 := w3) ?_ (seq_w [.val .hand, .val (fobj α), .val (wobj α), .val (P q'), .val (P V), .val (.lst (eL (zl V))), .val (P (q' * V)), .val (.tup (eL (lbasis (zl (q' * V))))), .no, .no, .no] ?_ (seq_w [.val .hand, .val (fobj α), .val (wobj α), .val (P q'), .val (P V), .val (.lst (eL (zl V))), .val (P (q' * V)), .val (.tup (eL (lbasis (zl (q' * V))))), j1, .no, .no] ?_ (seq_to (ρ1 := [.val .hand, .val (fobj α), .val (wobj α), .val (P q'), .val (P V), .val (.lst (eL (zl V))), .val (P (q' * V)), .val (.tup (eL (lbasis (zl (q' * V))))), j1, .val (P (V * q')), .no]) (w1 := w4) ?_ (seq_w [.val .hand, .val (fobj α), .val (wobj α), .val (P q'), .val (P V), .val (.lst (eL (zl V))), .val (P (q' * V)), .val (.tup (eL (lbasis (zl (q' * V))))), j2, .val (P (V * q')), .no] ?_ (seq_w [.val .hand, .val (fobj α), .val (wobj α), .val (P q'), .val (P V), .val (.lst (eL (zl V))), .val (P (q' * V)), .val (.tup (eL (lbasis (zl (q' * V))))), j2, .val (P (V * q')), .val (.lst (eL (zl (V * q'))))] ?_ (seq_w _ (if_f (w1 := w4) ?_ rfl) (seq_w _ (if_f (w1 := w4) ?_ rfl) (seq_w _ (if_f (w1 := w4) ?_ rfl) ?_))))))))))))
    · simp [a1]
    · simp [b1]
    · simp [zV]
    · simp [g1, pA]
    · simp [zA]
    · simp [L1]
    · simp [g2, pW]
    · simp [re, L2]
    · simp [re, cE, lc]
    · simp [zW, lb, s1]
    · simp [eV]
    · simp [d1, s2]
    · simp [e1, s2]
end
end K39
end
section
set_option maxRecDepth 100000
set_option autoImplicit false
/-! QR: the law's three turns -/
namespace K39
open Lean.Grind FF FD FX
section
variable {α : Type} [FX α]
theorem loop_law (s0 : Sl) : ∀ (c : List D) (j : Sl) (w : Wd), HW w → ∃ j' w', forLoop (bnd1 4) b_law_1 c [s0, .val .hand, .val (fobj α), .val (wobj α), j] w = some (.nx [s0, .val .hand, .val (fobj α), .val (wobj α), j'], w') ∧ HW w'
  | [], j, w, hw => ⟨j, w, rfl, hw⟩
  | d :: c, j, w, hw => by
    obtain ⟨w1, h1, hw1⟩ := m_spaces (α := α) hw
    obtain ⟨w2, h2, hw2⟩ := m_czeros (α := α) hw1
    obtain ⟨w3, h3, hw3⟩ := m_pzeros (α := α) hw2
    obtain ⟨j', w', ih, hw'⟩ := loop_law s0 c (.val d) w3 hw3
    refine ⟨j', w', ?_, hw'⟩
    have hb : b_law_1 (bnd1 4 d [s0, .val .hand, .val (fobj α), .val (wobj α), j]) w = some (.nx [s0, .val .hand, .val (fobj α), .val (wobj α), .val d], w3) := by
      simp [b_law_1, h1, h2, h3]
    rw [fl_cons, hb]
    exact ih
theorem law_run {s0 : Sl} {w w1 : Wd} (h : m_l_field [.hand] w = some (.tup [fobj α, wobj α], w1)) (hw1 : HW w1) : ∃ w', f_law [s0, .val .hand, .no, .no, .no] w = some (.rt (.bl true), w') := by
  obtain ⟨j', w', hl, _⟩ := loop_law (α := α) s0 (rangeD 0 1 3) .no w1 hw1
  have b3 : big 3 = true := by decide
  refine ⟨w', seq_to (ρ1 := [s0, .val .hand, .val (fobj α), .val (wobj α), .no]) (w1 := w1) ?_ (seq_to (ρ1 := [s0, .val .hand, .val (fobj α), .val (wobj α), j']) (w1 := w') ?_ ?_)⟩
  · simp [h]
  · simp [b3, hl]
  · simp
end
end K39
end
section
set_option maxRecDepth 100000
set_option autoImplicit false
/-! R0: finite fields from tables -/
namespace K39
open Lean.Grind
structure Tb where
  p : Nat
  d : Nat
  n : Nat
  mo : List Nat
  A : Nat
  M : Nat
  I : Nat
namespace Tb
def pick (t i : Nat) : Nat := (t >>> (5 * i)) % 32
def ad (T : Tb) (a b : Nat) : Nat := pick T.A (T.n * a + b)
def mu (T : Tb) (a b : Nat) : Nat := pick T.M (T.n * a + b)
def iv (T : Tb) (a : Nat) : Nat := pick T.I a
def ng (T : Tb) (a : Nat) : Nat := if Nat.beq T.p 2 then a else T.ad a a
def fr (T : Tb) (a : Nat) : Nat := if Nat.beq T.p 2 then T.mu a a else T.mu (T.mu a a) a
def frN (T : Tb) : Nat → Nat → Nat
  | 0, a => a
  | k + 1, a => frN T k (T.fr a)
def all (n : Nat) (f : Nat → Bool) : Bool := Nat.rec true (fun k r => f k && r) n
theorem all_ok {f : Nat → Bool} : ∀ {n : Nat}, all n f = true → ∀ k, k < n → f k = true
  | 0, _, k, h => by omega
  | n + 1, e, k, h => by
    have e : (f n && all n f) = true := e
    rw [Bool.and_eq_true] at e
    rcases Nat.lt_succ_iff_lt_or_eq.mp h with z | z
    · exact all_ok e.2 k z
    · subst z
      exact e.1
def imp (a b : Bool) : Bool := !a || b
theorem imp_ok {a b : Bool} (h : imp a b = true) (k : a = true) : b = true := by
  subst k
  exact h
def ok1 (T : Tb) (a : Nat) : Bool :=
  Nat.beq (T.ad a 0) a && (Nat.beq (T.mu a 1) a && (Nat.beq (T.mu 0 a) 0 && (Nat.beq (T.ad (T.ng a) a) 0 && (Nat.blt (T.ng a) T.n && (Nat.blt (T.iv a) T.n && ((Nat.beq a 0 || Nat.beq (T.mu a (T.iv a)) 1) &&
  (imp (Nat.beq (T.fr a) 0) (Nat.beq a 0) && (imp (Nat.beq (T.fr a) a) (Nat.blt a T.p) && (Nat.beq (T.frN T.d a) a && imp (all T.d fun j => Nat.beq (a / T.p ^ j % T.p) 0) (Nat.beq a 0))))))))))
def ok2 (T : Tb) (a b : Nat) : Bool :=
  Nat.blt (T.ad a b) T.n && (Nat.blt (T.mu a b) T.n && (Nat.beq (T.ad a b) (T.ad b a) && (Nat.beq (T.mu a b) (T.mu b a) && (Nat.beq (T.fr (T.ad a b)) (T.ad (T.fr a) (T.fr b)) && (Nat.beq (T.fr (T.mu a b)) (T.mu (T.fr a) (T.fr b)) &&
  all T.d fun j => Nat.beq (T.ad a b / T.p ^ j % T.p) ((a / T.p ^ j % T.p + b / T.p ^ j % T.p) % T.p))))))
def ok3 (T : Tb) (a b c : Nat) : Bool := Nat.beq (T.ad (T.ad a b) c) (T.ad a (T.ad b c)) && (Nat.beq (T.mu (T.mu a b) c) (T.mu a (T.mu b c)) && Nat.beq (T.mu a (T.ad b c)) (T.ad (T.mu a b) (T.mu a c)))
def ok0 (T : Tb) : Bool := (Nat.beq T.p 2 || Nat.beq T.p 3) && (Nat.ble T.n 27 && (Nat.beq T.n (T.p ^ T.d) && (Nat.blt 0 T.d && (Nat.ble T.d 4 && (Nat.beq (T.iv 0) 0 && ((if Nat.beq T.p 2 then Nat.beq (T.ad 1 1) 0 else Nat.beq (T.ad 1 1) 2 && Nat.beq (T.ad 2 1) 0) &&
  all T.d fun j => all T.d fun k => Nat.beq (T.p ^ k / T.p ^ j % T.p) (if Nat.beq j k then 1 else 0)))))))
def ok (T : Tb) : Bool := T.ok0 && all T.n fun a => T.ok1 a && all T.n fun b => T.ok2 a b && all T.n fun c => T.ok3 a b c
end Tb
structure OT where
  T : Tb
  h : T.ok = true
def Fe (O : OT) : Type := { k : Nat // k < O.T.n }
section
variable (O : OT)
theorem o0 : O.T.ok0 = true := by
  have h := O.h
  unfold Tb.ok at h
  rw [Bool.and_eq_true] at h
  exact h.1
theorem oA (a : Nat) (ha : a < O.T.n) : O.T.ok1 a = true ∧ ∀ b, b < O.T.n → O.T.ok2 a b = true ∧ ∀ c, c < O.T.n → O.T.ok3 a b c = true := by
  have h := O.h
  unfold Tb.ok at h
  rw [Bool.and_eq_true] at h
  have h := Tb.all_ok h.2 a ha
  rw [Bool.and_eq_true] at h
  refine ⟨h.1, fun b hb => ?_⟩
  have h := Tb.all_ok h.2 b hb
  rw [Bool.and_eq_true] at h
  exact ⟨h.1, fun c hc => Tb.all_ok h.2 c hc⟩
theorem oP : O.T.p = 2 ∨ O.T.p = 3 := by
  have h := o0 O
  simp only [Tb.ok0, Bool.and_eq_true, Bool.or_eq_true, Nat.beq_eq] at h
  exact h.1
theorem oN : O.T.n ≤ 27 ∧ O.T.n = O.T.p ^ O.T.d ∧ 0 < O.T.d ∧ O.T.d ≤ 4 ∧ O.T.iv 0 = 0 := by
  have h := o0 O
  simp only [Tb.ok0, Bool.and_eq_true, Nat.beq_eq, Nat.blt_eq, Nat.ble_eq] at h
  exact ⟨h.2.1, h.2.2.1, h.2.2.2.1, h.2.2.2.2.1, h.2.2.2.2.2.1⟩
theorem o2 (h : O.T.p = 2) : O.T.ad 1 1 = 0 := by
  have k := o0 O
  simp only [Tb.ok0, Bool.and_eq_true, Nat.beq_eq, Nat.blt_eq, Nat.ble_eq] at k
  have k := k.2.2.2.2.2.2.1
  rw [if_pos h] at k
  simpa using k
theorem o3 (h : O.T.p = 3) : O.T.ad 1 1 = 2 ∧ O.T.ad 2 1 = 0 := by
  have k := o0 O
  simp only [Tb.ok0, Bool.and_eq_true, Nat.beq_eq, Nat.blt_eq, Nat.ble_eq] at k
  have k := k.2.2.2.2.2.2.1
  rw [if_neg (by omega)] at k
  simpa using k
theorem oU (j k : Nat) (hj : j < O.T.d) (hk : k < O.T.d) : O.T.p ^ k / O.T.p ^ j % O.T.p = if j = k then 1 else 0 := by
  have h := o0 O
  simp only [Tb.ok0, Bool.and_eq_true, Nat.beq_eq, Nat.blt_eq, Nat.ble_eq] at h
  exact Nat.eq_of_beq_eq_true (Tb.all_ok (Tb.all_ok h.2.2.2.2.2.2.2 j hj) k hk)
theorem o1 {a : Nat} (ha : a < O.T.n) : O.T.ad a 0 = a ∧ O.T.mu a 1 = a ∧ O.T.mu 0 a = 0 ∧ O.T.ad (O.T.ng a) a = 0 ∧ O.T.ng a < O.T.n ∧ O.T.iv a < O.T.n ∧ (a = 0 ∨ O.T.mu a (O.T.iv a) = 1) ∧ (O.T.fr a = 0 → a = 0) ∧ (O.T.fr a = a → a < O.T.p) ∧ O.T.frN O.T.d a = a ∧ ((∀ j, j < O.T.d → a / O.T.p ^ j % O.T.p = 0) → a = 0) := by
  have h := (oA O a ha).1
  simp only [Tb.ok1, Bool.and_eq_true, Bool.or_eq_true, Nat.beq_eq, Nat.blt_eq] at h
  obtain ⟨h1, h2, h3, h4, h5, h6, h7, h8, h9, h10, h11⟩ := h
  refine ⟨h1, h2, h3, h4, h5, h6, h7, fun e => ?_, fun e => ?_, h10, fun e => ?_⟩
  · exact Nat.eq_of_beq_eq_true (Tb.imp_ok h8 (by rw [e]; rfl))
  · simpa using Tb.imp_ok h9 (by rw [e]; exact Nat.beq_refl a)
  · refine Nat.eq_of_beq_eq_true (Tb.imp_ok h11 ?_)
    have all_mk : ∀ (m : Nat), (∀ j, j < m → a / O.T.p ^ j % O.T.p = 0) → Tb.all m (fun j => Nat.beq (a / O.T.p ^ j % O.T.p) 0) = true := fun m => by
      induction m with
      | zero => intro _; rfl
      | succ m ih =>
        intro k
        show (Nat.beq (a / O.T.p ^ m % O.T.p) 0 && Tb.all m _) = true
        rw [ih fun j hj => k j (by omega), k m (by omega)]
        rfl
    exact all_mk _ e
theorem o22 {a b : Nat} (ha : a < O.T.n) (hb : b < O.T.n) : O.T.ad a b < O.T.n ∧ O.T.mu a b < O.T.n ∧ O.T.ad a b = O.T.ad b a ∧ O.T.mu a b = O.T.mu b a ∧ O.T.fr (O.T.ad a b) = O.T.ad (O.T.fr a) (O.T.fr b) ∧ O.T.fr (O.T.mu a b) = O.T.mu (O.T.fr a) (O.T.fr b) ∧
    ∀ j, j < O.T.d → O.T.ad a b / O.T.p ^ j % O.T.p = (a / O.T.p ^ j % O.T.p + b / O.T.p ^ j % O.T.p) % O.T.p := by
  have h := ((oA O a ha).2 b hb).1
  simp only [Tb.ok2, Bool.and_eq_true, Nat.beq_eq, Nat.blt_eq] at h
  obtain ⟨h1, h2, h3, h4, h5, h6, h7⟩ := h
  exact ⟨h1, h2, h3, h4, h5, h6, fun j hj => Nat.eq_of_beq_eq_true (Tb.all_ok h7 j hj)⟩
theorem o33 {a b c : Nat} (ha : a < O.T.n) (hb : b < O.T.n) (hc : c < O.T.n) : O.T.ad (O.T.ad a b) c = O.T.ad a (O.T.ad b c) ∧ O.T.mu (O.T.mu a b) c = O.T.mu a (O.T.mu b c) ∧ O.T.mu a (O.T.ad b c) = O.T.ad (O.T.mu a b) (O.T.mu a c) := by
  have h := ((oA O a ha).2 b hb).2 c hc
  simp only [Tb.ok3, Bool.and_eq_true, Nat.beq_eq] at h
  exact h
end
end K39
end
section
set_option maxRecDepth 100000
set_option autoImplicit false
/-! R1: the table's field as an FX -/
namespace K39
open Lean.Grind FF FD FX
section
variable (O : OT)
def feM (k : Nat) (h : k < O.T.n) : Fe O := ⟨k, h⟩
theorem oz : 0 < O.T.n := by
  obtain ⟨_, e, _⟩ := oN O
  rw [e]
  have : 0 < O.T.p := by rcases oP O with h | h <;> omega
  exact Nat.pow_pos this
theorem o1n : 1 < O.T.n := by
  obtain ⟨_, e, h, _⟩ := oN O
  rw [e]
  have : 1 < O.T.p := by rcases oP O with h | h <;> omega
  exact Nat.one_lt_pow (by omega) this
theorem opn : O.T.p ≤ O.T.n := by
  obtain ⟨_, e, h, _⟩ := oN O
  have : 0 < O.T.p := by rcases oP O with h | h <;> omega
  have := Nat.pow_le_pow_right this h
  rw [Nat.pow_one] at this
  omega
theorem o11 {a b : Nat} (ha : a < O.T.n) (hb : b < O.T.n) : O.T.ad a b < O.T.n := (o22 O ha hb).1
theorem o12 {a b : Nat} (ha : a < O.T.n) (hb : b < O.T.n) : O.T.mu a b < O.T.n := (o22 O ha hb).2.1
theorem ofr {a : Nat} (ha : a < O.T.n) : O.T.fr a < O.T.n := by
  unfold Tb.fr
  split
  · exact o12 O ha ha
  · exact o12 O (o12 O ha ha) ha
def feRing : CommRing (Fe O) :=
  { ringOf (R := Fe O) ⟨0, oz O⟩ ⟨1, o1n O⟩ (fun a b => ⟨O.T.ad a.1 b.1, o11 O a.2 b.2⟩) (fun a b => ⟨O.T.mu a.1 b.1, o12 O a.2 b.2⟩) (fun a => ⟨O.T.ng a.1, (o1 O a.2).2.2.2.2.1⟩)
      (fun a => Subtype.ext (o1 O a.2).1) (fun a b => Subtype.ext (o22 O a.2 b.2).2.2.1) (fun a b c => Subtype.ext (o33 O a.2 b.2 c.2).1) (fun a b c => Subtype.ext (o33 O a.2 b.2 c.2).2.1)
      (fun a => Subtype.ext (o1 O a.2).2.1) (fun a => Subtype.ext ((o22 O (o1n O) a.2).2.2.2.1.trans (o1 O a.2).2.1))
      (fun a b c => Subtype.ext (o33 O a.2 b.2 c.2).2.2)
      (fun a b c => Subtype.ext (by
        have hc := c.2
        have ha := a.2
        have hb := b.2
        show O.T.mu (O.T.ad a.1 b.1) c.1 = O.T.ad (O.T.mu a.1 c.1) (O.T.mu b.1 c.1)
        rw [(o22 O (o11 O ha hb) hc).2.2.2.1, (o33 O hc ha hb).2.2, (o22 O hc ha).2.2.2.1, (o22 O hc hb).2.2.2.1]))
      (fun a => Subtype.ext (o1 O a.2).2.2.1) (fun a => Subtype.ext ((o22 O a.2 (oz O)).2.2.2.1.trans (o1 O a.2).2.2.1)) (fun a => Subtype.ext (o1 O a.2).2.2.2.1) with
    mul_comm := fun a b => Subtype.ext (o22 O a.2 b.2).2.2.2.1 }
instance : CommRing (Fe O) := feRing O
theorem fe_add (a b : Fe O) : (a + b).1 = O.T.ad a.1 b.1 := rfl
theorem fe_mul (a b : Fe O) : (a * b).1 = O.T.mu a.1 b.1 := rfl
theorem fe_neg (a : Fe O) : (-a).1 = O.T.ng a.1 := rfl
theorem fe_0 : (0 : Fe O).1 = 0 := rfl
theorem fe_1 : (1 : Fe O).1 = 1 := rfl
abbrev feC (k : Nat) : Fe O := @Nat.cast (Fe O) Semiring.natCast k
theorem feC0 : feC O 0 = ⟨0, oz O⟩ := rfl
theorem feC1 : feC O 1 = ⟨1, o1n O⟩ := rfl
theorem feC2 : feC O 2 = ⟨O.T.ad 1 1, o11 O (o1n O) (o1n O)⟩ := rfl
theorem feC3 : feC O 3 = ⟨O.T.ad (O.T.ad 1 1) 1, o11 O (o11 O (o1n O) (o1n O)) (o1n O)⟩ := rfl
theorem feC_p : feC O O.T.p = 0 := by
  rcases oP O with h | h
  · rw [h, feC2]
    exact Subtype.ext (o2 O h)
  · rw [h, feC3]
    refine Subtype.ext ?_
    obtain ⟨h1, h2⟩ := o3 O h
    show O.T.ad (O.T.ad 1 1) 1 = 0
    rw [h1, h2]
theorem feC_lt (k : Nat) (hk : k < O.T.p) : (feC O k).1 = k := by
  rcases oP O with h | h
  · rcases (show k = 0 ∨ k = 1 by omega) with e | e <;> subst e <;> rfl
  · rcases (show k = 0 ∨ k = 1 ∨ k = 2 by omega) with e | e | e
    · subst e; rfl
    · subst e; rfl
    · subst e
      rw [feC2]
      exact (o3 O h).1
theorem iv_back (a : Fe O) (h : a ≠ 0) : a * feM O (O.T.iv a.1) (o1 O a.2).2.2.2.2.2.1 = 1 := by
  refine Subtype.ext ?_
  rcases (o1 O a.2).2.2.2.2.2.2.1 with z | z
  · exact absurd (Subtype.ext z) h
  · exact z
instance : FF (Fe O) where
  toCommRing := feRing O
  inv a := feM O (O.T.iv a.1) (o1 O a.2).2.2.2.2.2.1
  sg a := feM O (O.T.fr a.1) (ofr O a.2)
  dec := inferInstanceAs (DecidableEq { k : Nat // k < O.T.n })
  p := O.T.p
  d := O.T.d
  one_ne h := absurd (congrArg Subtype.val h) (by show (1 : Nat) ≠ 0; decide)
  mul_inv := iv_back O
  sg_add a b := Subtype.ext (o22 O a.2 b.2).2.2.2.2.1
  sg_mul a b := Subtype.ext (o22 O a.2 b.2).2.2.2.2.2.1
  fix c h := ⟨c.1, Subtype.ext (feC_lt O c.1 ((o1 O c.2).2.2.2.2.2.2.2.2.1 (congrArg Subtype.val h))).symm⟩
  d_pos := (oN O).2.2.1
  p_pos := by rcases oP O with h | h <;> omega
  p_char := feC_p O
  sg_inj a h := Subtype.ext ((o1 O a.2).2.2.2.2.2.2.2.1 (congrArg Subtype.val h))
theorem high_dig {a j : Nat} (ha : a < O.T.n) (hj : O.T.d ≤ j) : a / O.T.p ^ j = 0 := by
  obtain ⟨_, e, _⟩ := oN O
  have hp : 0 < O.T.p := by rcases oP O with h | h <;> omega
  have := Nat.pow_le_pow_right hp hj
  exact Nat.div_eq_of_lt (by omega)
theorem low_pow {j : Nat} (hj : j < O.T.d) : O.T.p ^ j < O.T.n := by
  obtain ⟨_, e, _⟩ := oN O
  rw [e]
  have hp : 1 < O.T.p := by rcases oP O with h | h <;> omega
  exact Nat.pow_lt_pow_right hp hj
def feU (j : Nat) : Fe O := if h : O.T.p ^ j < O.T.n then feM O (O.T.p ^ j) h else feM O 0 (oz O)
theorem feU_1 {j : Nat} (hj : j < O.T.d) : (feU O j).1 = O.T.p ^ j := by
  unfold feU
  rw [dif_pos (low_pow O hj)]
  rfl
instance : FD (Fe O) where
  dg j a := a.1 / O.T.p ^ j % O.T.p
  un := feU O
  dg_lt j a := Nat.mod_lt _ (by rcases oP O with h | h <;> omega)
  dg_add j a b := by
    by_cases hj : j < O.T.d
    · exact (o22 O a.2 b.2).2.2.2.2.2.2 j hj
    · show O.T.ad a.1 b.1 / O.T.p ^ j % O.T.p = (a.1 / O.T.p ^ j % O.T.p + b.1 / O.T.p ^ j % O.T.p) % O.T.p
      rw [high_dig O (o11 O a.2 b.2) (by omega), high_dig O a.2 (by omega), high_dig O b.2 (by omega)]
      simp
  dg_ext a h := Subtype.ext ((o1 O a.2).2.2.2.2.2.2.2.2.2.2 h)
  dg_un j k hj hk := by
    have hj : j < O.T.d := hj
    have hk : k < O.T.d := hk
    show (feU O k).1 / O.T.p ^ j % O.T.p = _
    rw [feU_1 O hk]
    exact oU O j k hj hk
  p23 := oP O
def feL : List (Fe O) := (List.range O.T.n).pmap (feM O) fun k h => List.mem_range.mp h
theorem feL_get (i : Nat) (h : i < O.T.n) : (feL O)[i]? = some (feM O i h) := by
  unfold feL
  rw [List.getElem?_pmap]
  have e : (List.range O.T.n)[i]? = some i := by rw [List.getElem?_range h]
  simp [h]
theorem feL_len : (feL O).length = O.T.n := by
  unfold feL
  rw [List.length_pmap, List.length_range]
theorem frN_eq : ∀ (k : Nat) (a : Fe O), (sgN k a).1 = O.T.frN k a.1
  | 0, _ => rfl
  | k + 1, a => frN_eq k (sg a)
instance : FX (Fe O) where
  n := O.T.n
  enc := Subtype.val
  els := feL O
  modulus := O.T.mo
  els_len := feL_len O
  els_enc a := feL_get O a.1 a.2
  enc_els i a h := by
    have hi : i < O.T.n := by
      rw [← feL_len O]
      exact (List.getElem?_eq_some_iff.mp h).1
    rw [feL_get O i hi] at h
    cases h
    rfl
  enc0 := rfl
  enc1 := rfl
  n_le := (oN O).1
  d_le := (oN O).2.2.2.1
  n_pow := (oN O).2.1
  dg_enc _ _ := rfl
  enc_un j hj := feU_1 O hj
  enc_cast k hk := feC_lt O k hk
  sg_d a := Subtype.ext ((frN_eq O _ a).trans (o1 O a.2).2.2.2.2.2.2.2.2.2.1)
  inv0 := Subtype.ext (oN O).2.2.2.2
/-! the tables, plain -/
theorem t1_fe (g : Nat → D) (f : Fe O → D) (h : ∀ a, f a = g a.1) : t1D (Fe O) f = (List.range O.T.n).map g := by
  show (feL O).map f = _
  unfold feL
  rw [List.map_pmap, List.pmap_eq_map_attach]
  conv => rhs; rw [← List.attach_map_subtype_val (List.range O.T.n), List.map_map]
  refine List.map_congr_left fun x _ => ?_
  rw [h]
  rfl
def Tb.dI (k : Nat) : D := .int (k : Nat)
def Tb.row (T : Tb) (f : Nat → Nat) : List D := (List.range T.n).map fun a => Tb.dI (f a)
def Tb.tab (T : Tb) (f : Nat → Nat → Nat) (g : List D → D) : List D := (List.range T.n).map fun a => g (T.row (f a))
def Tb.ffs (T : Tb) : List D := [Tb.dI T.p, .tup (T.mo.map Tb.dI), Tb.dI T.d, Tb.dI T.n, .tup ((List.range T.n).map fun a => .tup ((List.range T.d).map fun j => Tb.dI (a / T.p ^ j % T.p))),
  .tup (T.tab T.ad .tup), .tup (T.tab T.mu .tup), .tup (T.row T.ng), .tup (T.row T.iv), .tup (T.row T.fr)]
def Tb.wws (T : Tb) : List D := [Tb.dI T.p, Tb.dI T.d, Tb.dI T.n, .lst (T.tab T.ad .lst), .lst (T.tab T.mu .lst), .lst (T.row T.fr), .lst (T.row T.ng)]
theorem row_fe (f : Nat → Nat) (g : Fe O → Fe O) (h : ∀ a, (g a).1 = f a.1) : t1D (Fe O) (fun a => eI (g a)) = O.T.row f := t1_fe O _ _ fun a => by
  show D.int _ = _
  unfold Tb.dI
  rw [← h]
  rfl
theorem ffs_fe : ffs (Fe O) = O.T.ffs := by
  have e5 : ∀ k : List D → D, t1D (Fe O) (fun a => k (t1D (Fe O) fun b => eI (a + b))) = O.T.tab O.T.ad k := fun k => t1_fe O _ _ fun a => congrArg k (row_fe O _ _ fun b => fe_add O a b)
  have e6 : ∀ k : List D → D, t1D (Fe O) (fun a => k (t1D (Fe O) fun b => eI (a * b))) = O.T.tab O.T.mu k := fun k => t1_fe O _ _ fun a => congrArg k (row_fe O _ _ fun b => fe_mul O a b)
  have e4 : t1D (Fe O) (fun a => .tup (rowD a)) = (List.range O.T.n).map fun a => .tup ((List.range O.T.d).map fun j => Tb.dI (a / O.T.p ^ j % O.T.p)) := t1_fe O _ _ fun a => rfl
  unfold ffs Tb.ffs
  rw [e5 .tup, e6 .tup, e4, row_fe O O.T.ng (fun a => -a) fun a => rfl, row_fe O O.T.iv (fun a => inv a) fun a => rfl, row_fe O O.T.fr (fun a => sg a) fun a => rfl]
  rfl
theorem wws_fe : wws (Fe O) = O.T.wws := by
  have e5 : ∀ k : List D → D, t1D (Fe O) (fun a => k (t1D (Fe O) fun b => eI (a + b))) = O.T.tab O.T.ad k := fun k => t1_fe O _ _ fun a => congrArg k (row_fe O _ _ fun b => fe_add O a b)
  have e6 : ∀ k : List D → D, t1D (Fe O) (fun a => k (t1D (Fe O) fun b => eI (a * b))) = O.T.tab O.T.mu k := fun k => t1_fe O _ _ fun a => congrArg k (row_fe O _ _ fun b => fe_mul O a b)
  unfold wws Tb.wws
  rw [e5 .lst, e6 .lst, row_fe O O.T.ng (fun a => -a) fun a => rfl, row_fe O O.T.fr (fun a => sg a) fun a => rfl]
  rfl
end
end K39
end
section
set_option maxRecDepth 100000
set_option autoImplicit false
/-! R2: the fields of the law (printed by genfields.py) -/
namespace K39
def TF2_01 : Tb := ⟨2, 1, 2, [0, 1], 1056, 32768, 32⟩
theorem kF2_01 : TF2_01.ok = true := by decide +kernel
def F2_01 : OT := ⟨TF2_01, kF2_01⟩
def TF2_11 : Tb := ⟨2, 1, 2, [1, 1], 1056, 32768, 32⟩
theorem kF2_11 : TF2_11.ok = true := by decide +kernel
def F2_11 : OT := ⟨TF2_11, kF2_11⟩
def TF2_111 : Tb := ⟨2, 2, 4, [1, 1, 1], 1257873498147170388000, 76849175288044735954944, 68640⟩
theorem kF2_111 : TF2_111.ok = true := by decide +kernel
def F2_111 : OT := ⟨TF2_111, kF2_111⟩
def TF2_1101 : Tb := ⟨2, 3, 8, [1, 1, 0, 1], 2222671212794694141534283269429976345017421774852694578975096169606922552458795706466451949600, 208985769616701827085840123152954852478033187635719036164232176083338580047196829227489607811072, 140734829600⟩
theorem kF2_1101 : TF2_1101.ok = true := by decide +kernel
def F2_1101 : OT := ⟨TF2_1101, kF2_1101⟩
def TF2_1011 : Tb := ⟨2, 3, 8, [1, 0, 1, 1], 2222671212794694141534283269429976345017421774852694578975096169606922552458795706466451949600, 144006482343833344651572237959110940778104564813457242282099058044989617495649637580640272515072, 174184339488⟩
theorem kF2_1011 : TF2_1011.ok = true := by decide +kernel
def F2_1011 : OT := ⟨TF2_1011, kF2_1011⟩
def TF2_11001 : Tb := ⟨2, 4, 16, [1, 1, 0, 0, 1], 21660628917095523583602957036327219445931786460243747932575041302463298946191732681705941809655322665869125115900338717058631966062958764679964503003727192961304895290211039409933157016991642322345507623299552075025705055613721521472059064666841685595944816075159889035418051231706004417015586104006264679491027986289741274923185526458860957755694890121107878146353932409875061639200, 6611205247545623063790713905720458957841077752496910745817062046454951107331266495178805605341957941520198308025959761425132441317092785613359362757853657583271947147181924323654710313750805473231818564181526973811577033132800852981878978597790374382637455402966531799781009633516368516245344729769383266179540982239137686150882528074516922068071441505512748172385476820876109367214080, 305932526675304725816352⟩
theorem kF2_11001 : TF2_11001.ok = true := by decide +kernel
def F2_11001 : OT := ⟨TF2_11001, kF2_11001⟩
def TF2_10011 : Tb := ⟨2, 4, 16, [1, 0, 0, 1, 1], 21660628917095523583602957036327219445931786460243747932575041302463298946191732681705941809655322665869125115900338717058631966062958764679964503003727192961304895290211039409933157016991642322345507623299552075025705055613721521472059064666841685595944816075159889035418051231706004417015586104006264679491027986289741274923185526458860957755694890121107878146353932409875061639200, 2198190673114121839749590881351315994268578757898782290225361793181101633143281672705362790540384669783669200653505350618053838225383460759398948276821756946217166035685715876716776102935601758994938265375992909916462071440894903718111645007509925589112192912322439945682926290667066755489104632852885258443163288700356475923789107221555346353269416844406151041673373778850167107092480, 197493521030194051428384⟩
theorem kF2_10011 : TF2_10011.ok = true := by decide +kernel
def F2_10011 : OT := ⟨TF2_10011, kF2_10011⟩
def TF2_11111 : Tb := ⟨2, 4, 16, [1, 1, 1, 1, 1], 21660628917095523583602957036327219445931786460243747932575041302463298946191732681705941809655322665869125115900338717058631966062958764679964503003727192961304895290211039409933157016991642322345507623299552075025705055613721521472059064666841685595944816075159889035418051231706004417015586104006264679491027986289741274923185526458860957755694890121107878146353932409875061639200, 5352104709836605588501496313597187060087749522794710423885095095619378984017610548729572817974327644769222437891314421312062252885585303132626164003470175726144382273300671750334934087243219302664808576831985338239873213212476882372263469723845358498717092901547546350096176697453511220565603330828405563521874373994806612023551445033634365629107081295836441561516108398008538423623680, 89002589422996219575328⟩
theorem kF2_11111 : TF2_11111.ok = true := by decide +kernel
def F2_11111 : OT := ⟨TF2_11111, kF2_11111⟩
def TF3_01 : Tb := ⟨3, 1, 3, [0, 1], 1101661243424, 1168299261952, 2080⟩
theorem kF3_01 : TF3_01.ok = true := by decide +kernel
def F3_01 : OT := ⟨TF3_01, kF3_01⟩
def TF3_11 : Tb := ⟨3, 1, 3, [1, 1], 1101661243424, 1168299261952, 2080⟩
theorem kF3_11 : TF3_11.ok = true := by decide +kernel
def F3_11 : OT := ⟨TF3_11, kF3_11⟩
def TF3_21 : Tb := ⟨3, 1, 3, [2, 1], 1101661243424, 1168299261952, 2080⟩
theorem kF3_21 : TF3_21.ok = true := by decide +kernel
def F3_21 : OT := ⟨TF3_21, kF3_21⟩
def TF3_101 : Tb := ⟨3, 2, 9, [1, 0, 1], 10583773055631901445943951575797730473326710187196548611996075012024505515092803899649948157155622235601072744596833929248, 15586968764015702712568157778771452852484259313638040401858295881418216071443080730106150686200323360740420026447758884864, 7974820186144⟩
theorem kF3_101 : TF3_101.ok = true := by decide +kernel
def F3_101 : OT := ⟨TF3_101, kF3_101⟩
def TF3_211 : Tb := ⟨3, 2, 9, [2, 1, 1], 10583773055631901445943951575797730473326710187196548611996075012024505515092803899649948157155622235601072744596833929248, 13398196785522686097753656842776563856749277572451200591627340948839283030770866858287823017218210441253970114670634205184, 6777696552992⟩
theorem kF3_211 : TF3_211.ok = true := by decide +kernel
def F3_211 : OT := ⟨TF3_211, kF3_211⟩
def TF3_221 : Tb := ⟨3, 2, 9, [2, 2, 1], 10583773055631901445943951575797730473326710187196548611996075012024505515092803899649948157155622235601072744596833929248, 5424713462726506281492795208410906117391996852623689322335192494570764967569352800107983000199206146975645696203272749056, 4611830351904⟩
theorem kF3_221 : TF3_221.ok = true := by decide +kernel
def F3_221 : OT := ⟨TF3_221, kF3_221⟩
def TF3_1201 : Tb := ⟨3, 3, 27, [1, 2, 0, 1], 75150505046255314798489685391020665237269972839199016236531863363015665923001742456229351084689902038717653518106513130657617068951229356428726003026906558492358800083830573113440275144003476052792566941892602299777882364067977349437797343320406671996792905576379887716021511817167104349238407880929698114267539042482426851509991408548239687044287684350879104229713496183531221886070170445757491667269417590182330052389652361431412526514097498441893367359840187151311886577666816048503013842125104194134019618082310076531812189072690233597194014516619233243125301861877697925561107732711607147553334350514889071336740785786945591258504409916514741656346870155555294402327657245846420144069164440426495388895400094139477523038370528629171041859228100866534512951703527148976704232518721536083035883438230600251534393140141788263715281931504014876240028758486139783903237238956894586976306404170572266036570986620563972084529839927404151829155220209832186651094278309047543203462320134402358042272281330674243114372448018502334876350344569499375583300284542602561201339169671287012408772920583751712, 65467564597539007116098912317392628641170637400036816055073328208647599273268482711847922765460354393502716027931804964177089024266414905550232973976603307532028576669327012954034509316877379819582400559225926950609951748463585805587509301828325889351132783188848390691515820743561250202821212189720529303681888233104436547523609611934655331696147430013060457479643565131434038736981903128572160945332052493771005891781905250070151498798992868236264906006436848192791540866116816214373340123744035238942951032515422057234079834971470423942941724621524807555847084063037748752907140664593207351778059176603710777789594728291797733550121443975327511806435425084616664352014496874284720268801742204783793302512089614800836865165773008613620021936084688496666871910906749263849295932363000124816137323446361060359037171302337011800551939878139129804743354005080001174380469595628401802545506040419115204599658123663593744432629272676918122666926597724506298281932322840208821593666924100931434058000095193720848903455065522812421097214162816415644831390664891935449174043430976100483900840631097884672, 23529097194781159056957175479015870924832⟩
theorem kF3_1201 : TF3_1201.ok = true := by decide +kernel
def F3_1201 : OT := ⟨TF3_1201, kF3_1201⟩
def TF3_2201 : Tb := ⟨3, 3, 27, [2, 2, 0, 1], 75150505046255314798489685391020665237269972839199016236531863363015665923001742456229351084689902038717653518106513130657617068951229356428726003026906558492358800083830573113440275144003476052792566941892602299777882364067977349437797343320406671996792905576379887716021511817167104349238407880929698114267539042482426851509991408548239687044287684350879104229713496183531221886070170445757491667269417590182330052389652361431412526514097498441893367359840187151311886577666816048503013842125104194134019618082310076531812189072690233597194014516619233243125301861877697925561107732711607147553334350514889071336740785786945591258504409916514741656346870155555294402327657245846420144069164440426495388895400094139477523038370528629171041859228100866534512951703527148976704232518721536083035883438230600251534393140141788263715281931504014876240028758486139783903237238956894586976306404170572266036570986620563972084529839927404151829155220209832186651094278309047543203462320134402358042272281330674243114372448018502334876350344569499375583300284542602561201339169671287012408772920583751712, 87556756324225259703157082918357604021512466321628752753135740537531434632424352650751282664210894151287001837010247936858408817337529058265437182819666478424527271358669456287457133412470568910241946224775804406802065505293974981901315276110967973160191254434365166793426244832813324164762579150386735892590933076921659721386819900380491022042799024616414961973096588418145365036636646804573100756844996196366231371956915264163450392274588522830330707987588270839292343892662859172434253821774627636650936836283976274781589061469278709292052561283662301364586252763923315343456258495442590842681668531015322745452946703543898585459739223508646455547126144672599122848105939178675247371939500776834709295694959457334285590173444767990740741703958626875908298386213166209933639738447589568676779179650777048106768928572646950074396118052891284174446211169564088045775149363422583567582845587042960721894369953817561668355796406269566936280574094515547165097008664221111716077414080995403791359628807616161954728733685067753993577461339574197246091826066419843963159376225487794593940034731475206144, 14301757567823465153663668899543459924000⟩
theorem kF3_2201 : TF3_2201.ok = true := by decide +kernel
def F3_2201 : OT := ⟨TF3_2201, kF3_2201⟩
def TF3_2011 : Tb := ⟨3, 3, 27, [2, 0, 1, 1], 75150505046255314798489685391020665237269972839199016236531863363015665923001742456229351084689902038717653518106513130657617068951229356428726003026906558492358800083830573113440275144003476052792566941892602299777882364067977349437797343320406671996792905576379887716021511817167104349238407880929698114267539042482426851509991408548239687044287684350879104229713496183531221886070170445757491667269417590182330052389652361431412526514097498441893367359840187151311886577666816048503013842125104194134019618082310076531812189072690233597194014516619233243125301861877697925561107732711607147553334350514889071336740785786945591258504409916514741656346870155555294402327657245846420144069164440426495388895400094139477523038370528629171041859228100866534512951703527148976704232518721536083035883438230600251534393140141788263715281931504014876240028758486139783903237238956894586976306404170572266036570986620563972084529839927404151829155220209832186651094278309047543203462320134402358042272281330674243114372448018502334876350344569499375583300284542602561201339169671287012408772920583751712, 112874744937512133941229019851788601657133421183496334993356762284094837602944283063811086677137185550563967921918133543070204082517365661758876225736728159606284227529638589694925927020594922913887220784044667227088591400307915924636943876776359822048670606260574844709396890547415877361507147240958473839268264759913994010153930783471154224865543200767757826612665560537269263021207775590724021112639764333397336821512928303645336755352601351817103446861719923578849648761418170672138587843487834288382257872458745102058298474235570247695925263602149251698761576228871685854646515299537889440751961594332807545944615504873559188169536933695327537836996598516758114812548256638910246658197076886524770637993730182705335822777023265207944437119501375782676117514136905058644811740066778380364758827462324400980569774439159843217788347785773586957995761860289310001487962582466649979890826715025905699009582205388684034009623155453228224975471811224491676577135469754453206951489348189237478616488793078178874295908260548872319816680963718223072815604394991974870751768302599059654743116051837353984, 15959757105578701553389226634459108214816⟩
theorem kF3_2011 : TF3_2011.ok = true := by decide +kernel
def F3_2011 : OT := ⟨TF3_2011, kF3_2011⟩
def TF3_2111 : Tb := ⟨3, 3, 27, [2, 1, 1, 1], 75150505046255314798489685391020665237269972839199016236531863363015665923001742456229351084689902038717653518106513130657617068951229356428726003026906558492358800083830573113440275144003476052792566941892602299777882364067977349437797343320406671996792905576379887716021511817167104349238407880929698114267539042482426851509991408548239687044287684350879104229713496183531221886070170445757491667269417590182330052389652361431412526514097498441893367359840187151311886577666816048503013842125104194134019618082310076531812189072690233597194014516619233243125301861877697925561107732711607147553334350514889071336740785786945591258504409916514741656346870155555294402327657245846420144069164440426495388895400094139477523038370528629171041859228100866534512951703527148976704232518721536083035883438230600251534393140141788263715281931504014876240028758486139783903237238956894586976306404170572266036570986620563972084529839927404151829155220209832186651094278309047543203462320134402358042272281330674243114372448018502334876350344569499375583300284542602561201339169671287012408772920583751712, 98600452569478451857259187332252981874120848593352189498203941629860496530253759634254708685724093855498675845459082098595250228270590666437353031815910172301126143950154107749194111059252425965005657033336426333030942456475534911056829175531169185551591738098939832628171853684220642185125056368226960034223173252329319470053482780188821166786505169695703956081065417755620509139801538496816259303842254938886759611074900177163765097670066475418662557710397386382454969303865587228232766608218772634626775795426533845669863583458880935776820262866463518726392080805804907866377174061397853146525215145746208767273718691786168954925783025041694167405052227510091730748036908726399868395851907842560738446422403055914414905478406813583940209395628563605183622164582813061328251858340716422650660391685384380207379953907099190522302926040656661250025939642695304334784511708534201648011495144113183415460184977659900034247351361065644498254121188174465837503696844479442857009671025991327075818322841035937161708123094845172834943001489133602320565558696736546712697225988394675263969805881541918720, 8996737191348894329193118212338884184096⟩
theorem kF3_2111 : TF3_2111.ok = true := by decide +kernel
def F3_2111 : OT := ⟨TF3_2111, kF3_2111⟩
def TF3_1211 : Tb := ⟨3, 3, 27, [1, 2, 1, 1], 75150505046255314798489685391020665237269972839199016236531863363015665923001742456229351084689902038717653518106513130657617068951229356428726003026906558492358800083830573113440275144003476052792566941892602299777882364067977349437797343320406671996792905576379887716021511817167104349238407880929698114267539042482426851509991408548239687044287684350879104229713496183531221886070170445757491667269417590182330052389652361431412526514097498441893367359840187151311886577666816048503013842125104194134019618082310076531812189072690233597194014516619233243125301861877697925561107732711607147553334350514889071336740785786945591258504409916514741656346870155555294402327657245846420144069164440426495388895400094139477523038370528629171041859228100866534512951703527148976704232518721536083035883438230600251534393140141788263715281931504014876240028758486139783903237238956894586976306404170572266036570986620563972084529839927404151829155220209832186651094278309047543203462320134402358042272281330674243114372448018502334876350344569499375583300284542602561201339169671287012408772920583751712, 35558189355616854700071054628997933130961075751996150730998885974133679120294203869778328831418866010377744689439762619581093581786597524371406581552038955358797393061458938691340683966266318566823857743813778643279554563957986792892787984856435351451986196847761043075001287490310410696273344784191843629072655564574931060585929844565374451012421017092274784102205140354567082259595699305298134049915388710018321248794606296646138451869907718469074666923794341505109916688963953550977730802398105950777455600592916906299721323396158769685628103364373369144229507206375514044280916117520814701399944315625233964685410641019944234928893343965240972452319595908964204457340548051905406783617008223997218070849123765372240638727049051821698886499053133427880657275766448588346467956026342357860835479498252368974223849828407879186118435089946354913432901307011072159769696344962939291556022406013877243882689977654271861047974920291134199856552073798357862432150184055196407012126486261722044941031189234934348167978089601048369393355084971636072282361916911598433336764943607171358201444299308007424, 27379760577961167491332804250679520299040⟩
theorem kF3_1211 : TF3_1211.ok = true := by decide +kernel
def F3_1211 : OT := ⟨TF3_1211, kF3_1211⟩
def TF3_1021 : Tb := ⟨3, 3, 27, [1, 0, 2, 1], 75150505046255314798489685391020665237269972839199016236531863363015665923001742456229351084689902038717653518106513130657617068951229356428726003026906558492358800083830573113440275144003476052792566941892602299777882364067977349437797343320406671996792905576379887716021511817167104349238407880929698114267539042482426851509991408548239687044287684350879104229713496183531221886070170445757491667269417590182330052389652361431412526514097498441893367359840187151311886577666816048503013842125104194134019618082310076531812189072690233597194014516619233243125301861877697925561107732711607147553334350514889071336740785786945591258504409916514741656346870155555294402327657245846420144069164440426495388895400094139477523038370528629171041859228100866534512951703527148976704232518721536083035883438230600251534393140141788263715281931504014876240028758486139783903237238956894586976306404170572266036570986620563972084529839927404151829155220209832186651094278309047543203462320134402358042272281330674243114372448018502334876350344569499375583300284542602561201339169671287012408772920583751712, 25536054579742013970339770432756336208256884946017699011323377611365949864431749412867621796557713860786361077789650240495517934480699506918182827108483753665951951074976076899819784839463222384242127565902318782022214014508998582485426234415409427958856643364645895437874151002702902923604928879531112001659569270280365312585624042814187225529695733461680894704842361322742771316759170149726315872808423945375405098695891398494661882938863215179571902843573225185995604797510242622325600973536836507973089327289376747995674821136052706718658507019182700244945606059962413128012799834915134077505351742008834821393695719878854888357715650147578504545693062413115648397522851721785061353354198700877942186813357521072545718493245778887608643375540509628219206297491246355364528418132132822244384124500720017581476372900921748247854633704320983491778161705015833016197074924098407371031124093919905364483575458918751113525699616854253022615787079536044020363233626955282536382184357098374513811768831907250613054827688287016100907580510744444199053794206499715871474947406765592604788612471967449088, 30312206040690966249374433101353803483168⟩
theorem kF3_1021 : TF3_1021.ok = true := by decide +kernel
def F3_1021 : OT := ⟨TF3_1021, kF3_1021⟩
def TF3_1121 : Tb := ⟨3, 3, 27, [1, 1, 2, 1], 75150505046255314798489685391020665237269972839199016236531863363015665923001742456229351084689902038717653518106513130657617068951229356428726003026906558492358800083830573113440275144003476052792566941892602299777882364067977349437797343320406671996792905576379887716021511817167104349238407880929698114267539042482426851509991408548239687044287684350879104229713496183531221886070170445757491667269417590182330052389652361431412526514097498441893367359840187151311886577666816048503013842125104194134019618082310076531812189072690233597194014516619233243125301861877697925561107732711607147553334350514889071336740785786945591258504409916514741656346870155555294402327657245846420144069164440426495388895400094139477523038370528629171041859228100866534512951703527148976704232518721536083035883438230600251534393140141788263715281931504014876240028758486139783903237238956894586976306404170572266036570986620563972084529839927404151829155220209832186651094278309047543203462320134402358042272281330674243114372448018502334876350344569499375583300284542602561201339169671287012408772920583751712, 124937658472632852318926713620366099198218478979485636694509098397060209961388999612187067838777422383046494273964931218035632181978265545557743032022510581551401474022827045417289347346366460228160596226268504245163743587854996567712550432219038142300468354071212511812512326427086219824998588878867680904928799495404660971456027384305706954736288546293718608770091958082077502424155418148330867438716406545580805056930306383615672726541562961335450731612093209562850778165532581624394618093995404339764504553739865214368761650304286680990197796644514474096988557822259650334160401715543354944349541626455018107860997230044688294561619709385016874937611037906035684417833252884924234606944158310478312804382641096591398370941201024940185651055533504157023243891032974774275794126099066024891396384778042698435944411340054919551045169534324046114155372682416989720043034898994576624422710383376975470753810181682477723034618761480002226886044457271110827242338575695004897075362193271580882576241707664862378605418747718404678340459521292287138725225238415172993592379458379516202451356841920167936, 21188044068465337864666664155394123466784⟩
theorem kF3_1121 : TF3_1121.ok = true := by decide +kernel
def F3_1121 : OT := ⟨TF3_1121, kF3_1121⟩
def TF3_2221 : Tb := ⟨3, 3, 27, [2, 2, 2, 1], 75150505046255314798489685391020665237269972839199016236531863363015665923001742456229351084689902038717653518106513130657617068951229356428726003026906558492358800083830573113440275144003476052792566941892602299777882364067977349437797343320406671996792905576379887716021511817167104349238407880929698114267539042482426851509991408548239687044287684350879104229713496183531221886070170445757491667269417590182330052389652361431412526514097498441893367359840187151311886577666816048503013842125104194134019618082310076531812189072690233597194014516619233243125301861877697925561107732711607147553334350514889071336740785786945591258504409916514741656346870155555294402327657245846420144069164440426495388895400094139477523038370528629171041859228100866534512951703527148976704232518721536083035883438230600251534393140141788263715281931504014876240028758486139783903237238956894586976306404170572266036570986620563972084529839927404151829155220209832186651094278309047543203462320134402358042272281330674243114372448018502334876350344569499375583300284542602561201339169671287012408772920583751712, 60197154243754148060600371272149484626523790476552867231925229470599435525201697651095743174786522770623780375345620149789418694540445197047704133938767737989771822838234167977089876803117421013892131849790454297342847146226710930142950166794631973831105177050120941527733419306547462844323539378099904158742850603045012578200483084792613774073642248626582548517320524172915305836408135711200741320288071587945287866069228161856098145157361661214493572280384158626459015799274043617724907189491741176004681829105694475994115540089161853667572167423049004095354438006348177631560737896680005678799024952147436072728796344351448100105850623678160333175512698555162530446931350307281667384011752365285116838949647970693832413904971013461569807323627852860487471551190559007335040661898275527936350132184905458798584366376588070896727216365855601252204967817284503942017586895464093956054426245248596473609730771531420495770284196498404643144669150947962302565414193645663648134823299197281291476718442025195730355726438082826711859266012958882514290480991658697439423409633680534057018069089700020224, 6350561735296694867180347951400459208736⟩
theorem kF3_2221 : TF3_2221.ok = true := by decide +kernel
def F3_2221 : OT := ⟨TF3_2221, kF3_2221⟩
end K39
end
section
set_option maxRecDepth 100000
set_option autoImplicit false
/-! R3: the making of the field and of the world, step by step -/
namespace K39
open Lean.Grind FF FD FX
theorem nf_step {j : Nat} {fe : FE} {fs : List D} {r : En} {w : Wd} {x : D} (h : fe (.val (.obj fs) :: r) w = some (x, w)) (hl : fs.length = j) (hj : j < 10) (hx : x.pl = true) (hf : plL fs = true) (hr : enPl r = true) (hw : plL w = true) {f : FN} {o : Option (En × Wd)} (k : f (.val (.obj (fs ++ [x])) :: r) w = o) :
    nSeq (nFld j fe) f (.val (.obj fs) :: r) w = o := by
  show Option.bind (Option.bind (fe (.val (.obj fs) :: r) w) _) _ = _
  rw [h]
  show Option.bind (if fs.length = j ∧ j < 10 ∧ x.pl = true ∧ plL fs = true ∧ enPl r = true ∧ plL w = true then some (Sl.val (D.obj (fs ++ [x])) :: r, w) else none) _ = _
  rw [if_pos ⟨hl, hj, hx, hf, hr, hw⟩]
  exact k
theorem nf_last {j : Nat} {fe : FE} {fs : List D} {r : En} {w : Wd} {x : D} (h : fe (.val (.obj fs) :: r) w = some (x, w)) (hl : fs.length = j) (hj : j < 10) (hx : x.pl = true) (hf : plL fs = true) (hr : enPl r = true) (hw : plL w = true) :
    nFld j fe (.val (.obj fs) :: r) w = some (.val (.obj (fs ++ [x])) :: r, w) := by
  show Option.bind (fe (.val (.obj fs) :: r) w) _ = _
  rw [h]
  show (if fs.length = j ∧ j < 10 ∧ x.pl = true ∧ plL fs = true ∧ enPl r = true ∧ plL w = true then some (Sl.val (D.obj (fs ++ [x])) :: r, w) else none) = _
  rw [if_pos ⟨hl, hj, hx, hf, hr, hw⟩]
theorem plL_app : ∀ {a b : List D}, plL a = true → plL b = true → plL (a ++ b) = true
  | [], _, _, h => h
  | x :: a, b, h, k => by
    have h : (x.pl && plL a) = true := h
    rw [Bool.and_eq_true] at h
    show (x.pl && plL (a ++ b)) = true
    rw [Bool.and_eq_true]
    exact ⟨h.1, plL_app h.2 k⟩
theorem plL_1 {x : D} (h : x.pl = true) : plL [x] = true := by
  show (x.pl && true) = true
  rw [h]
  rfl
theorem pl_map {β : Type} (f : β → D) (h : ∀ b, (f b).pl = true) : ∀ l : List β, plL (l.map f) = true
  | [] => rfl
  | b :: l => by
    show ((f b).pl && plL (l.map f)) = true
    rw [h b, pl_map f h l]
    rfl
/-- the environment of the field's making -/
def ioE (p mo : D) (fs : List D) : En := [.val (.obj fs), .val p, .val mo, .val .non, .no, .no]
theorem init_of (p : D) (mo : List D) (x1 x2 x3 x4 x5 x6 x7 x8 x9 : D) (w : Wd) (hw : plL w = true) (hp : p.pl = true) (hm : plL mo = true) (q1 : x1.pl = true) (q2 : x2.pl = true) (q3 : x3.pl = true) (q4 : x4.pl = true) (q5 : x5.pl = true) (q6 : x6.pl = true) (q7 : x7.pl = true) (q8 : x8.pl = true) (q9 : x9.pl = true)
    (hf : m_field_fault [p, .lst mo] w = some (.non, w)) (h1 : x1 = .tup mo)
    (h2 : (fOp dSub (fOp1 dLen (fFld 1 (fVar 0))) (fC (.int 1))) (ioE p (.lst mo) [p, x1]) w = some (x2, w))
    (h3 : m_power_of [p, x2] w = some (x3, w))
    (h4 : (fOp1 dTuple (asE (fLc [4] (bnd1 4) (fRng (fCons (fFld 3 (fVar 0)) fNil)) ftYes (fCall m_base_digits [] 3 (fCons (fVar 1) (fCons (fFld 2 (fVar 0)) (fCons (fVar 4) fNil))))))) (ioE p (.lst mo) [p, x1, x2, x3]) w = some (x4, w))
    (h5 : m_sums_of [p, x4] w = some (x5, w))
    (h6 : m_products_of [p, x1, x4, x5] w = some (x6, w))
    (h7 : (fOp1 dTuple (asE (fLc [5] (bnd1 5) (fItems (fFld 5 (fVar 0))) ftYes (fIdxT (fVar 5) (fC (.int 0)))))) (ioE p (.lst mo) [p, x1, x2, x3, x4, x5, x6]) w = some (x7, w))
    (h8 : (fOp dAdd (fTup (fCons (fC (.int 0)) fNil)) (fOp1 dTuple (asE (fLc [5] (bnd1 5) (fItems (fSl (fFld 6 (fVar 0)) (fPart (fC (.int 1))) fNo)) ftYes (fIdxT (fVar 5) (fC (.int 1))))))) (ioE p (.lst mo) [p, x1, x2, x3, x4, x5, x6, x7]) w = some (x8, w))
    (h9 : (fOp1 dTuple (asE (fLc [4] (bnd1 4) (fRng (fCons (fFld 3 (fVar 0)) fNil)) ftYes (fMeth m_F_raised 2 (fVar 0) (fCons (fVar 4) fNil))))) (ioE p (.lst mo) [p, x1, x2, x3, x4, x5, x6, x7, x8]) w = some (x9, w)) :
    m_F_init [p, .lst mo] w = some (.obj [p, x1, x2, x3, x4, x5, x6, x7, x8, x9], w) := by
  have hr : enPl [.val p, .val (.lst mo), .val .non, .no, .no] = true := by
    show (p.pl && (plL mo && true)) = true
    rw [hp, hm]
    rfl
  have e : f_F_init (startE 6 (.obj [] :: [p, .lst mo])) w = some (ioE p (.lst mo) [p, x1, x2, x3, x4, x5, x6, x7, x8, x9], w) := by
    have g1 : (nAsg 2 (fCall m_field_fault [] 2 (fCons (fVar 1) (fCons (fVar 2) fNil)))) [.val (.obj []), .val p, .val (.lst mo), .no, .no, .no] w = some (ioE p (.lst mo) [], w) := by
      simp [nAsg, hf, ioE]
    have g2 : (nGuard (ftVal (fOp dIsNot (fVarB 3) (fC .non)))) (ioE p (.lst mo) []) w = some (ioE p (.lst mo) [], w) := rfl
    have pa : ∀ {l : List D} {x : D}, plL l = true → x.pl = true → plL (l ++ [x]) = true := fun a b => plL_app a (plL_1 b)
    have l0 : plL [] = true := rfl
    have l1 := pa l0 hp
    have l2 := pa l1 q1
    have l3 := pa l2 q2
    have l4 := pa l3 q3
    have l5 := pa l4 q4
    have l6 := pa l5 q5
    have l7 := pa l6 q6
    have l8 := pa l7 q7
    have l9 := pa l8 q8
    show Option.bind ((nAsg 2 (fCall m_field_fault [] 2 (fCons (fVar 1) (fCons (fVar 2) fNil)))) [.val (.obj []), .val p, .val (.lst mo), .no, .no, .no] w) _ = _
    rw [g1]
    show Option.bind ((nGuard (ftVal (fOp dIsNot (fVarB 3) (fC .non)))) (ioE p (.lst mo) []) w) _ = _
    rw [g2]
    refine nf_step (j := 0) (x := p) ?_ rfl (by decide) hp l0 hr hw (nf_step (j := 1) (x := x1) ?_ rfl (by decide) q1 l1 hr hw (nf_step (j := 2) (x := x2) h2 rfl (by decide) q2 l2 hr hw (nf_step (j := 3) (x := x3) ?_ rfl (by decide) q3 l3 hr hw (nf_step (j := 4) (x := x4) h4 rfl (by decide) q4 l4 hr hw (nf_step (j := 5) (x := x5) ?_ rfl (by decide) q5 l5 hr hw
      (nf_step (j := 6) (x := x6) ?_ rfl (by decide) q6 l6 hr hw (nf_step (j := 7) (x := x7) h7 rfl (by decide) q7 l7 hr hw (nf_step (j := 8) (x := x8) h8 rfl (by decide) q8 l8 hr hw (nf_last (j := 9) (x := x9) h9 rfl (by decide) q9 l9 hr hw)))))))))
    · rfl
    · rw [h1]
      rfl
    · simp [h3]
    · simp [h5]
    · simp [h6]
  unfold m_F_init fieldD
  rw [e]
  rfl
/-- the world's making, after the tables -/
def world_tail : FS := (fSeq (fAsg 6 (asE (fLc [7] (bnd1 7) (fRng (fCons (fVar 3) fNil)) ftYes (fOp dIx (fOp dIx (fVarB 5) (fVarB 7)) (fVarB 7)))))
  (fSeq (fIf (ftVal (fOp dEq (fVarB 0) (fC (.int 3)))) (fAsg 6 (asE (fLc [7] (bnd1 7) (fRng (fCons (fVar 3) fNil)) ftYes (fOp dIx (fOp dIx (fVarB 5) (fOp dIx (fVarB 6) (fVarB 7))) (fVarB 7))))) fPass)
  (fSeq (fAsg 8 (asE (fLc [7] (bnd1 7) (fRng (fCons (fVar 3) fNil)) ftYes (fIfE (ftVal (fOp dEq (fVarB 0) (fC (.int 2)))) (fVar 7) (fOp dIx (fOp dIx (fVarB 4) (fVarB 7)) (fVarB 7))))))
  (fRet (asE (fLst (fCons (fVar 0) (fCons (fVar 2) (fCons (fVar 3) (fCons (fVar 4) (fCons (fVar 5) (fCons (fVar 6) (fCons (fVar 8) fNil))))))))))))) 
theorem world_of (p d n s t x : D) (mo : List D) (w : Wd) (h1 : (fOp dSub (fOp1 dLen (fVarB 1)) (fC (.int 1))) [.val p, .val (.tup mo), .no, .no, .no, .no, .no, .no, .no] w = some (d, w)) (h2 : m_l_power [p, d] w = some (n, w)) (h3 : m_l_sums [p, n] w = some (s, w)) (h4 : m_l_products [p, .tup mo, s] w = some (t, w))
    (h5 : world_tail [.val p, .val (.tup mo), .val d, .val n, .val s, .val t, .no, .no, .no] w = some (.rt x, w)) : m_l_world [p, .tup mo] w = some (x, w) := by
  refine fn_rt (seq_w [.val p, .val (.tup mo), .val d, .no, .no, .no, .no, .no, .no] ?_ (seq_w [.val p, .val (.tup mo), .val d, .val n, .no, .no, .no, .no, .no] ?_ (seq_w [.val p, .val (.tup mo), .val d, .val n, .val s, .no, .no, .no, .no] ?_ (seq_w [.val p, .val (.tup mo), .val d, .val n, .val s, .val t, .no, .no, .no] ?_ h5))))
  · rw [r_fAsg]
    show Option.map _ ((fOp dSub (fOp1 dLen (fVarB 1)) (fC (.int 1))) [.val p, .val (.tup mo), .no, .no, .no, .no, .no, .no, .no] w) = _
    rw [h1]
    rfl
  · simp [h2]
  · simp [h3]
  · simp [h4]
/-- the field and the world, as data -/
def Good (O : OT) : Prop := ∀ w, plL w = true → m_F_init [Tb.dI O.T.p, .lst (O.T.mo.map Tb.dI)] w = some (fobj (Fe O), w) ∧ m_l_world [Tb.dI O.T.p, .tup (O.T.mo.map Tb.dI)] w = some (wobj (Fe O), w)
theorem good_of (O : OT) (w : Wd → Prop) (h : ∀ w, plL w = true → m_F_init [Tb.dI O.T.p, .lst (O.T.mo.map Tb.dI)] w = some (.obj O.T.ffs, w)) (k : ∀ w, m_l_world [Tb.dI O.T.p, .tup (O.T.mo.map Tb.dI)] w = some (.lst O.T.wws, w)) : Good O := fun w hw => by
  refine ⟨?_, ?_⟩
  · rw [h w hw, ← ffs_fe]
  · rw [k w, ← wws_fe]
theorem hw_pl {w : Wd} (h : HW w) : plL w = true := by
  obtain ⟨cs, b, c, t, rfl, _⟩ := h
  show (plL (dI cs) && true) = true
  rw [show plL (dI cs) = true from pl_map _ (fun _ => rfl) cs]
  rfl
end K39
end
section
set_option maxRecDepth 100000
set_option maxHeartbeats 0
set_option autoImplicit false
/-! the fields of 2 things (printed by genmade.py) -/
namespace K39
def dig21 : D := .tup ((List.range 2).map fun a => .tup ((List.range 1).map fun j => Tb.dI (a / 2 ^ j % 2)))
def sum21 : D := .tup (TF2_01.tab TF2_01.ad .tup)
def lsum21 : D := .lst (TF2_01.tab TF2_01.ad .lst)
theorem hsum21 (w : Wd) : m_sums_of [Tb.dI 2, dig21] w = some (sum21, w) := by kernel_rfl
theorem hlsum21 (w : Wd) : m_l_sums [Tb.dI 2, Tb.dI 2] w = some (lsum21, w) := by kernel_rfl
theorem hpow21 (w : Wd) : m_power_of [Tb.dI 2, Tb.dI 1] w = some (Tb.dI 2, w) := by kernel_rfl
theorem hlpow21 (w : Wd) : m_l_power [Tb.dI 2, Tb.dI 1] w = some (Tb.dI 2, w) := by kernel_rfl
theorem pdig21 : dig21.pl = true := by kernel_rfl
theorem psum21 : sum21.pl = true := by kernel_rfl
def moF2_01 : List D := [Tb.dI 0, Tb.dI 1]
def proF2_01 : D := .tup (TF2_01.tab TF2_01.mu .tup)
def lproF2_01 : D := .lst (TF2_01.tab TF2_01.mu .lst)
def negF2_01 : D := .tup (TF2_01.row TF2_01.ng)
def invF2_01 : D := .tup (TF2_01.row TF2_01.iv)
def stpF2_01 : D := .tup (TF2_01.row TF2_01.fr)
theorem hproF2_01 (w : Wd) : m_products_of [Tb.dI 2, .tup moF2_01, dig21, sum21] w = some (proF2_01, w) := by kernel_rfl
theorem hlproF2_01 (w : Wd) : m_l_products [Tb.dI 2, .tup moF2_01, lsum21] w = some (lproF2_01, w) := by kernel_rfl
theorem initF2_01 (w : Wd) (hw : plL w = true) : m_F_init [Tb.dI 2, .lst moF2_01] w = some (.obj [Tb.dI 2, .tup moF2_01, Tb.dI 1, Tb.dI 2, dig21, sum21, proF2_01, negF2_01, invF2_01, stpF2_01], w) :=
  init_of _ _ (.tup moF2_01) (Tb.dI 1) (Tb.dI 2) dig21 sum21 proF2_01 negF2_01 invF2_01 stpF2_01 w hw rfl (by kernel_rfl) (by kernel_rfl) rfl rfl pdig21 psum21 (by kernel_rfl) (by kernel_rfl) (by kernel_rfl) (by kernel_rfl)
    (by kernel_rfl) rfl (by kernel_rfl) (hpow21 w) (by kernel_rfl) (hsum21 w) (hproF2_01 w) (by kernel_rfl) (by kernel_rfl) (by kernel_rfl)
theorem ffsF2_01 : [Tb.dI 2, .tup moF2_01, Tb.dI 1, Tb.dI 2, dig21, sum21, proF2_01, negF2_01, invF2_01, stpF2_01] = TF2_01.ffs := by kernel_rfl
theorem madeF2_01 (w : Wd) : m_l_world [Tb.dI 2, .tup moF2_01] w = some (.lst TF2_01.wws, w) :=
  world_of _ (Tb.dI 1) (Tb.dI 2) lsum21 lproF2_01 _ _ w (by kernel_rfl) (hlpow21 w) (hlsum21 w) (hlproF2_01 w) (by kernel_rfl)
theorem goodF2_01 : Good F2_01 := fun w hw => ⟨(initF2_01 w hw).trans (congrArg (fun x => some (D.obj x, w)) (ffsF2_01.trans (ffs_fe F2_01).symm)), (madeF2_01 w).trans (congrArg (fun x => some (D.lst x, w)) (wws_fe F2_01).symm)⟩
def moF2_11 : List D := [Tb.dI 1, Tb.dI 1]
def proF2_11 : D := .tup (TF2_11.tab TF2_11.mu .tup)
def lproF2_11 : D := .lst (TF2_11.tab TF2_11.mu .lst)
def negF2_11 : D := .tup (TF2_11.row TF2_11.ng)
def invF2_11 : D := .tup (TF2_11.row TF2_11.iv)
def stpF2_11 : D := .tup (TF2_11.row TF2_11.fr)
theorem hproF2_11 (w : Wd) : m_products_of [Tb.dI 2, .tup moF2_11, dig21, sum21] w = some (proF2_11, w) := by kernel_rfl
theorem hlproF2_11 (w : Wd) : m_l_products [Tb.dI 2, .tup moF2_11, lsum21] w = some (lproF2_11, w) := by kernel_rfl
theorem initF2_11 (w : Wd) (hw : plL w = true) : m_F_init [Tb.dI 2, .lst moF2_11] w = some (.obj [Tb.dI 2, .tup moF2_11, Tb.dI 1, Tb.dI 2, dig21, sum21, proF2_11, negF2_11, invF2_11, stpF2_11], w) :=
  init_of _ _ (.tup moF2_11) (Tb.dI 1) (Tb.dI 2) dig21 sum21 proF2_11 negF2_11 invF2_11 stpF2_11 w hw rfl (by kernel_rfl) (by kernel_rfl) rfl rfl pdig21 psum21 (by kernel_rfl) (by kernel_rfl) (by kernel_rfl) (by kernel_rfl)
    (by kernel_rfl) rfl (by kernel_rfl) (hpow21 w) (by kernel_rfl) (hsum21 w) (hproF2_11 w) (by kernel_rfl) (by kernel_rfl) (by kernel_rfl)
theorem ffsF2_11 : [Tb.dI 2, .tup moF2_11, Tb.dI 1, Tb.dI 2, dig21, sum21, proF2_11, negF2_11, invF2_11, stpF2_11] = TF2_11.ffs := by kernel_rfl
theorem madeF2_11 (w : Wd) : m_l_world [Tb.dI 2, .tup moF2_11] w = some (.lst TF2_11.wws, w) :=
  world_of _ (Tb.dI 1) (Tb.dI 2) lsum21 lproF2_11 _ _ w (by kernel_rfl) (hlpow21 w) (hlsum21 w) (hlproF2_11 w) (by kernel_rfl)
theorem goodF2_11 : Good F2_11 := fun w hw => ⟨(initF2_11 w hw).trans (congrArg (fun x => some (D.obj x, w)) (ffsF2_11.trans (ffs_fe F2_11).symm)), (madeF2_11 w).trans (congrArg (fun x => some (D.lst x, w)) (wws_fe F2_11).symm)⟩
end K39
end
section
set_option maxRecDepth 100000
set_option maxHeartbeats 0
set_option autoImplicit false
/-! the fields of 4 things (printed by genmade.py) -/
namespace K39
def dig22 : D := .tup ((List.range 4).map fun a => .tup ((List.range 2).map fun j => Tb.dI (a / 2 ^ j % 2)))
def sum22 : D := .tup (TF2_111.tab TF2_111.ad .tup)
def lsum22 : D := .lst (TF2_111.tab TF2_111.ad .lst)
theorem hsum22 (w : Wd) : m_sums_of [Tb.dI 2, dig22] w = some (sum22, w) := by kernel_rfl
theorem hlsum22 (w : Wd) : m_l_sums [Tb.dI 2, Tb.dI 4] w = some (lsum22, w) := by kernel_rfl
theorem hpow22 (w : Wd) : m_power_of [Tb.dI 2, Tb.dI 2] w = some (Tb.dI 4, w) := by kernel_rfl
theorem hlpow22 (w : Wd) : m_l_power [Tb.dI 2, Tb.dI 2] w = some (Tb.dI 4, w) := by kernel_rfl
theorem pdig22 : dig22.pl = true := by kernel_rfl
theorem psum22 : sum22.pl = true := by kernel_rfl
def moF2_111 : List D := [Tb.dI 1, Tb.dI 1, Tb.dI 1]
def proF2_111 : D := .tup (TF2_111.tab TF2_111.mu .tup)
def lproF2_111 : D := .lst (TF2_111.tab TF2_111.mu .lst)
def negF2_111 : D := .tup (TF2_111.row TF2_111.ng)
def invF2_111 : D := .tup (TF2_111.row TF2_111.iv)
def stpF2_111 : D := .tup (TF2_111.row TF2_111.fr)
theorem hproF2_111 (w : Wd) : m_products_of [Tb.dI 2, .tup moF2_111, dig22, sum22] w = some (proF2_111, w) := by kernel_rfl
theorem hlproF2_111 (w : Wd) : m_l_products [Tb.dI 2, .tup moF2_111, lsum22] w = some (lproF2_111, w) := by kernel_rfl
theorem initF2_111 (w : Wd) (hw : plL w = true) : m_F_init [Tb.dI 2, .lst moF2_111] w = some (.obj [Tb.dI 2, .tup moF2_111, Tb.dI 2, Tb.dI 4, dig22, sum22, proF2_111, negF2_111, invF2_111, stpF2_111], w) :=
  init_of _ _ (.tup moF2_111) (Tb.dI 2) (Tb.dI 4) dig22 sum22 proF2_111 negF2_111 invF2_111 stpF2_111 w hw rfl (by kernel_rfl) (by kernel_rfl) rfl rfl pdig22 psum22 (by kernel_rfl) (by kernel_rfl) (by kernel_rfl) (by kernel_rfl)
    (by kernel_rfl) rfl (by kernel_rfl) (hpow22 w) (by kernel_rfl) (hsum22 w) (hproF2_111 w) (by kernel_rfl) (by kernel_rfl) (by kernel_rfl)
theorem ffsF2_111 : [Tb.dI 2, .tup moF2_111, Tb.dI 2, Tb.dI 4, dig22, sum22, proF2_111, negF2_111, invF2_111, stpF2_111] = TF2_111.ffs := by kernel_rfl
theorem madeF2_111 (w : Wd) : m_l_world [Tb.dI 2, .tup moF2_111] w = some (.lst TF2_111.wws, w) :=
  world_of _ (Tb.dI 2) (Tb.dI 4) lsum22 lproF2_111 _ _ w (by kernel_rfl) (hlpow22 w) (hlsum22 w) (hlproF2_111 w) (by kernel_rfl)
theorem goodF2_111 : Good F2_111 := fun w hw => ⟨(initF2_111 w hw).trans (congrArg (fun x => some (D.obj x, w)) (ffsF2_111.trans (ffs_fe F2_111).symm)), (madeF2_111 w).trans (congrArg (fun x => some (D.lst x, w)) (wws_fe F2_111).symm)⟩
end K39
end
section
set_option maxRecDepth 100000
set_option maxHeartbeats 0
set_option autoImplicit false
/-! the fields of 8 things (printed by genmade.py) -/
namespace K39
def dig23 : D := .tup ((List.range 8).map fun a => .tup ((List.range 3).map fun j => Tb.dI (a / 2 ^ j % 2)))
def sum23 : D := .tup (TF2_1101.tab TF2_1101.ad .tup)
def lsum23 : D := .lst (TF2_1101.tab TF2_1101.ad .lst)
theorem hsum23 (w : Wd) : m_sums_of [Tb.dI 2, dig23] w = some (sum23, w) := by kernel_rfl
theorem hlsum23 (w : Wd) : m_l_sums [Tb.dI 2, Tb.dI 8] w = some (lsum23, w) := by kernel_rfl
theorem hpow23 (w : Wd) : m_power_of [Tb.dI 2, Tb.dI 3] w = some (Tb.dI 8, w) := by kernel_rfl
theorem hlpow23 (w : Wd) : m_l_power [Tb.dI 2, Tb.dI 3] w = some (Tb.dI 8, w) := by kernel_rfl
theorem pdig23 : dig23.pl = true := by kernel_rfl
theorem psum23 : sum23.pl = true := by kernel_rfl
def moF2_1101 : List D := [Tb.dI 1, Tb.dI 1, Tb.dI 0, Tb.dI 1]
def proF2_1101 : D := .tup (TF2_1101.tab TF2_1101.mu .tup)
def lproF2_1101 : D := .lst (TF2_1101.tab TF2_1101.mu .lst)
def negF2_1101 : D := .tup (TF2_1101.row TF2_1101.ng)
def invF2_1101 : D := .tup (TF2_1101.row TF2_1101.iv)
def stpF2_1101 : D := .tup (TF2_1101.row TF2_1101.fr)
theorem hproF2_1101 (w : Wd) : m_products_of [Tb.dI 2, .tup moF2_1101, dig23, sum23] w = some (proF2_1101, w) := by kernel_rfl
theorem hlproF2_1101 (w : Wd) : m_l_products [Tb.dI 2, .tup moF2_1101, lsum23] w = some (lproF2_1101, w) := by kernel_rfl
theorem initF2_1101 (w : Wd) (hw : plL w = true) : m_F_init [Tb.dI 2, .lst moF2_1101] w = some (.obj [Tb.dI 2, .tup moF2_1101, Tb.dI 3, Tb.dI 8, dig23, sum23, proF2_1101, negF2_1101, invF2_1101, stpF2_1101], w) :=
  init_of _ _ (.tup moF2_1101) (Tb.dI 3) (Tb.dI 8) dig23 sum23 proF2_1101 negF2_1101 invF2_1101 stpF2_1101 w hw rfl (by kernel_rfl) (by kernel_rfl) rfl rfl pdig23 psum23 (by kernel_rfl) (by kernel_rfl) (by kernel_rfl) (by kernel_rfl)
    (by kernel_rfl) rfl (by kernel_rfl) (hpow23 w) (by kernel_rfl) (hsum23 w) (hproF2_1101 w) (by kernel_rfl) (by kernel_rfl) (by kernel_rfl)
theorem ffsF2_1101 : [Tb.dI 2, .tup moF2_1101, Tb.dI 3, Tb.dI 8, dig23, sum23, proF2_1101, negF2_1101, invF2_1101, stpF2_1101] = TF2_1101.ffs := by kernel_rfl
theorem madeF2_1101 (w : Wd) : m_l_world [Tb.dI 2, .tup moF2_1101] w = some (.lst TF2_1101.wws, w) :=
  world_of _ (Tb.dI 3) (Tb.dI 8) lsum23 lproF2_1101 _ _ w (by kernel_rfl) (hlpow23 w) (hlsum23 w) (hlproF2_1101 w) (by kernel_rfl)
theorem goodF2_1101 : Good F2_1101 := fun w hw => ⟨(initF2_1101 w hw).trans (congrArg (fun x => some (D.obj x, w)) (ffsF2_1101.trans (ffs_fe F2_1101).symm)), (madeF2_1101 w).trans (congrArg (fun x => some (D.lst x, w)) (wws_fe F2_1101).symm)⟩
def moF2_1011 : List D := [Tb.dI 1, Tb.dI 0, Tb.dI 1, Tb.dI 1]
def proF2_1011 : D := .tup (TF2_1011.tab TF2_1011.mu .tup)
def lproF2_1011 : D := .lst (TF2_1011.tab TF2_1011.mu .lst)
def negF2_1011 : D := .tup (TF2_1011.row TF2_1011.ng)
def invF2_1011 : D := .tup (TF2_1011.row TF2_1011.iv)
def stpF2_1011 : D := .tup (TF2_1011.row TF2_1011.fr)
theorem hproF2_1011 (w : Wd) : m_products_of [Tb.dI 2, .tup moF2_1011, dig23, sum23] w = some (proF2_1011, w) := by kernel_rfl
theorem hlproF2_1011 (w : Wd) : m_l_products [Tb.dI 2, .tup moF2_1011, lsum23] w = some (lproF2_1011, w) := by kernel_rfl
theorem initF2_1011 (w : Wd) (hw : plL w = true) : m_F_init [Tb.dI 2, .lst moF2_1011] w = some (.obj [Tb.dI 2, .tup moF2_1011, Tb.dI 3, Tb.dI 8, dig23, sum23, proF2_1011, negF2_1011, invF2_1011, stpF2_1011], w) :=
  init_of _ _ (.tup moF2_1011) (Tb.dI 3) (Tb.dI 8) dig23 sum23 proF2_1011 negF2_1011 invF2_1011 stpF2_1011 w hw rfl (by kernel_rfl) (by kernel_rfl) rfl rfl pdig23 psum23 (by kernel_rfl) (by kernel_rfl) (by kernel_rfl) (by kernel_rfl)
    (by kernel_rfl) rfl (by kernel_rfl) (hpow23 w) (by kernel_rfl) (hsum23 w) (hproF2_1011 w) (by kernel_rfl) (by kernel_rfl) (by kernel_rfl)
theorem ffsF2_1011 : [Tb.dI 2, .tup moF2_1011, Tb.dI 3, Tb.dI 8, dig23, sum23, proF2_1011, negF2_1011, invF2_1011, stpF2_1011] = TF2_1011.ffs := by kernel_rfl
theorem madeF2_1011 (w : Wd) : m_l_world [Tb.dI 2, .tup moF2_1011] w = some (.lst TF2_1011.wws, w) :=
  world_of _ (Tb.dI 3) (Tb.dI 8) lsum23 lproF2_1011 _ _ w (by kernel_rfl) (hlpow23 w) (hlsum23 w) (hlproF2_1011 w) (by kernel_rfl)
theorem goodF2_1011 : Good F2_1011 := fun w hw => ⟨(initF2_1011 w hw).trans (congrArg (fun x => some (D.obj x, w)) (ffsF2_1011.trans (ffs_fe F2_1011).symm)), (madeF2_1011 w).trans (congrArg (fun x => some (D.lst x, w)) (wws_fe F2_1011).symm)⟩
end K39
end
section
set_option maxRecDepth 100000
set_option maxHeartbeats 0
set_option autoImplicit false
/-! the fields of 16 things (printed by genmade.py) -/
namespace K39
def dig24 : D := .tup ((List.range 16).map fun a => .tup ((List.range 4).map fun j => Tb.dI (a / 2 ^ j % 2)))
def sum24 : D := .tup (TF2_11001.tab TF2_11001.ad .tup)
def lsum24 : D := .lst (TF2_11001.tab TF2_11001.ad .lst)
theorem hsum24 (w : Wd) : m_sums_of [Tb.dI 2, dig24] w = some (sum24, w) := by kernel_rfl
theorem hlsum24 (w : Wd) : m_l_sums [Tb.dI 2, Tb.dI 16] w = some (lsum24, w) := by kernel_rfl
theorem hpow24 (w : Wd) : m_power_of [Tb.dI 2, Tb.dI 4] w = some (Tb.dI 16, w) := by kernel_rfl
theorem hlpow24 (w : Wd) : m_l_power [Tb.dI 2, Tb.dI 4] w = some (Tb.dI 16, w) := by kernel_rfl
theorem pdig24 : dig24.pl = true := by kernel_rfl
theorem psum24 : sum24.pl = true := by kernel_rfl
def moF2_11001 : List D := [Tb.dI 1, Tb.dI 1, Tb.dI 0, Tb.dI 0, Tb.dI 1]
def proF2_11001 : D := .tup (TF2_11001.tab TF2_11001.mu .tup)
def lproF2_11001 : D := .lst (TF2_11001.tab TF2_11001.mu .lst)
def negF2_11001 : D := .tup (TF2_11001.row TF2_11001.ng)
def invF2_11001 : D := .tup (TF2_11001.row TF2_11001.iv)
def stpF2_11001 : D := .tup (TF2_11001.row TF2_11001.fr)
theorem hproF2_11001 (w : Wd) : m_products_of [Tb.dI 2, .tup moF2_11001, dig24, sum24] w = some (proF2_11001, w) := by kernel_rfl
theorem hlproF2_11001 (w : Wd) : m_l_products [Tb.dI 2, .tup moF2_11001, lsum24] w = some (lproF2_11001, w) := by kernel_rfl
theorem initF2_11001 (w : Wd) (hw : plL w = true) : m_F_init [Tb.dI 2, .lst moF2_11001] w = some (.obj [Tb.dI 2, .tup moF2_11001, Tb.dI 4, Tb.dI 16, dig24, sum24, proF2_11001, negF2_11001, invF2_11001, stpF2_11001], w) :=
  init_of _ _ (.tup moF2_11001) (Tb.dI 4) (Tb.dI 16) dig24 sum24 proF2_11001 negF2_11001 invF2_11001 stpF2_11001 w hw rfl (by kernel_rfl) (by kernel_rfl) rfl rfl pdig24 psum24 (by kernel_rfl) (by kernel_rfl) (by kernel_rfl) (by kernel_rfl)
    (by kernel_rfl) rfl (by kernel_rfl) (hpow24 w) (by kernel_rfl) (hsum24 w) (hproF2_11001 w) (by kernel_rfl) (by kernel_rfl) (by kernel_rfl)
theorem ffsF2_11001 : [Tb.dI 2, .tup moF2_11001, Tb.dI 4, Tb.dI 16, dig24, sum24, proF2_11001, negF2_11001, invF2_11001, stpF2_11001] = TF2_11001.ffs := by kernel_rfl
theorem madeF2_11001 (w : Wd) : m_l_world [Tb.dI 2, .tup moF2_11001] w = some (.lst TF2_11001.wws, w) :=
  world_of _ (Tb.dI 4) (Tb.dI 16) lsum24 lproF2_11001 _ _ w (by kernel_rfl) (hlpow24 w) (hlsum24 w) (hlproF2_11001 w) (by kernel_rfl)
theorem goodF2_11001 : Good F2_11001 := fun w hw => ⟨(initF2_11001 w hw).trans (congrArg (fun x => some (D.obj x, w)) (ffsF2_11001.trans (ffs_fe F2_11001).symm)), (madeF2_11001 w).trans (congrArg (fun x => some (D.lst x, w)) (wws_fe F2_11001).symm)⟩
def moF2_10011 : List D := [Tb.dI 1, Tb.dI 0, Tb.dI 0, Tb.dI 1, Tb.dI 1]
def proF2_10011 : D := .tup (TF2_10011.tab TF2_10011.mu .tup)
def lproF2_10011 : D := .lst (TF2_10011.tab TF2_10011.mu .lst)
def negF2_10011 : D := .tup (TF2_10011.row TF2_10011.ng)
def invF2_10011 : D := .tup (TF2_10011.row TF2_10011.iv)
def stpF2_10011 : D := .tup (TF2_10011.row TF2_10011.fr)
theorem hproF2_10011 (w : Wd) : m_products_of [Tb.dI 2, .tup moF2_10011, dig24, sum24] w = some (proF2_10011, w) := by kernel_rfl
theorem hlproF2_10011 (w : Wd) : m_l_products [Tb.dI 2, .tup moF2_10011, lsum24] w = some (lproF2_10011, w) := by kernel_rfl
theorem initF2_10011 (w : Wd) (hw : plL w = true) : m_F_init [Tb.dI 2, .lst moF2_10011] w = some (.obj [Tb.dI 2, .tup moF2_10011, Tb.dI 4, Tb.dI 16, dig24, sum24, proF2_10011, negF2_10011, invF2_10011, stpF2_10011], w) :=
  init_of _ _ (.tup moF2_10011) (Tb.dI 4) (Tb.dI 16) dig24 sum24 proF2_10011 negF2_10011 invF2_10011 stpF2_10011 w hw rfl (by kernel_rfl) (by kernel_rfl) rfl rfl pdig24 psum24 (by kernel_rfl) (by kernel_rfl) (by kernel_rfl) (by kernel_rfl)
    (by kernel_rfl) rfl (by kernel_rfl) (hpow24 w) (by kernel_rfl) (hsum24 w) (hproF2_10011 w) (by kernel_rfl) (by kernel_rfl) (by kernel_rfl)
theorem ffsF2_10011 : [Tb.dI 2, .tup moF2_10011, Tb.dI 4, Tb.dI 16, dig24, sum24, proF2_10011, negF2_10011, invF2_10011, stpF2_10011] = TF2_10011.ffs := by kernel_rfl
theorem madeF2_10011 (w : Wd) : m_l_world [Tb.dI 2, .tup moF2_10011] w = some (.lst TF2_10011.wws, w) :=
  world_of _ (Tb.dI 4) (Tb.dI 16) lsum24 lproF2_10011 _ _ w (by kernel_rfl) (hlpow24 w) (hlsum24 w) (hlproF2_10011 w) (by kernel_rfl)
theorem goodF2_10011 : Good F2_10011 := fun w hw => ⟨(initF2_10011 w hw).trans (congrArg (fun x => some (D.obj x, w)) (ffsF2_10011.trans (ffs_fe F2_10011).symm)), (madeF2_10011 w).trans (congrArg (fun x => some (D.lst x, w)) (wws_fe F2_10011).symm)⟩
def moF2_11111 : List D := [Tb.dI 1, Tb.dI 1, Tb.dI 1, Tb.dI 1, Tb.dI 1]
def proF2_11111 : D := .tup (TF2_11111.tab TF2_11111.mu .tup)
def lproF2_11111 : D := .lst (TF2_11111.tab TF2_11111.mu .lst)
def negF2_11111 : D := .tup (TF2_11111.row TF2_11111.ng)
def invF2_11111 : D := .tup (TF2_11111.row TF2_11111.iv)
def stpF2_11111 : D := .tup (TF2_11111.row TF2_11111.fr)
theorem hproF2_11111 (w : Wd) : m_products_of [Tb.dI 2, .tup moF2_11111, dig24, sum24] w = some (proF2_11111, w) := by kernel_rfl
theorem hlproF2_11111 (w : Wd) : m_l_products [Tb.dI 2, .tup moF2_11111, lsum24] w = some (lproF2_11111, w) := by kernel_rfl
theorem initF2_11111 (w : Wd) (hw : plL w = true) : m_F_init [Tb.dI 2, .lst moF2_11111] w = some (.obj [Tb.dI 2, .tup moF2_11111, Tb.dI 4, Tb.dI 16, dig24, sum24, proF2_11111, negF2_11111, invF2_11111, stpF2_11111], w) :=
  init_of _ _ (.tup moF2_11111) (Tb.dI 4) (Tb.dI 16) dig24 sum24 proF2_11111 negF2_11111 invF2_11111 stpF2_11111 w hw rfl (by kernel_rfl) (by kernel_rfl) rfl rfl pdig24 psum24 (by kernel_rfl) (by kernel_rfl) (by kernel_rfl) (by kernel_rfl)
    (by kernel_rfl) rfl (by kernel_rfl) (hpow24 w) (by kernel_rfl) (hsum24 w) (hproF2_11111 w) (by kernel_rfl) (by kernel_rfl) (by kernel_rfl)
theorem ffsF2_11111 : [Tb.dI 2, .tup moF2_11111, Tb.dI 4, Tb.dI 16, dig24, sum24, proF2_11111, negF2_11111, invF2_11111, stpF2_11111] = TF2_11111.ffs := by kernel_rfl
theorem madeF2_11111 (w : Wd) : m_l_world [Tb.dI 2, .tup moF2_11111] w = some (.lst TF2_11111.wws, w) :=
  world_of _ (Tb.dI 4) (Tb.dI 16) lsum24 lproF2_11111 _ _ w (by kernel_rfl) (hlpow24 w) (hlsum24 w) (hlproF2_11111 w) (by kernel_rfl)
theorem goodF2_11111 : Good F2_11111 := fun w hw => ⟨(initF2_11111 w hw).trans (congrArg (fun x => some (D.obj x, w)) (ffsF2_11111.trans (ffs_fe F2_11111).symm)), (madeF2_11111 w).trans (congrArg (fun x => some (D.lst x, w)) (wws_fe F2_11111).symm)⟩
end K39
end
section
set_option maxRecDepth 100000
set_option maxHeartbeats 0
set_option autoImplicit false
/-! the fields of 3 things (printed by genmade.py) -/
namespace K39
def dig31 : D := .tup ((List.range 3).map fun a => .tup ((List.range 1).map fun j => Tb.dI (a / 3 ^ j % 3)))
def sum31 : D := .tup (TF3_01.tab TF3_01.ad .tup)
def lsum31 : D := .lst (TF3_01.tab TF3_01.ad .lst)
theorem hsum31 (w : Wd) : m_sums_of [Tb.dI 3, dig31] w = some (sum31, w) := by kernel_rfl
theorem hlsum31 (w : Wd) : m_l_sums [Tb.dI 3, Tb.dI 3] w = some (lsum31, w) := by kernel_rfl
theorem hpow31 (w : Wd) : m_power_of [Tb.dI 3, Tb.dI 1] w = some (Tb.dI 3, w) := by kernel_rfl
theorem hlpow31 (w : Wd) : m_l_power [Tb.dI 3, Tb.dI 1] w = some (Tb.dI 3, w) := by kernel_rfl
theorem pdig31 : dig31.pl = true := by kernel_rfl
theorem psum31 : sum31.pl = true := by kernel_rfl
def moF3_01 : List D := [Tb.dI 0, Tb.dI 1]
def proF3_01 : D := .tup (TF3_01.tab TF3_01.mu .tup)
def lproF3_01 : D := .lst (TF3_01.tab TF3_01.mu .lst)
def negF3_01 : D := .tup (TF3_01.row TF3_01.ng)
def invF3_01 : D := .tup (TF3_01.row TF3_01.iv)
def stpF3_01 : D := .tup (TF3_01.row TF3_01.fr)
theorem hproF3_01 (w : Wd) : m_products_of [Tb.dI 3, .tup moF3_01, dig31, sum31] w = some (proF3_01, w) := by kernel_rfl
theorem hlproF3_01 (w : Wd) : m_l_products [Tb.dI 3, .tup moF3_01, lsum31] w = some (lproF3_01, w) := by kernel_rfl
theorem initF3_01 (w : Wd) (hw : plL w = true) : m_F_init [Tb.dI 3, .lst moF3_01] w = some (.obj [Tb.dI 3, .tup moF3_01, Tb.dI 1, Tb.dI 3, dig31, sum31, proF3_01, negF3_01, invF3_01, stpF3_01], w) :=
  init_of _ _ (.tup moF3_01) (Tb.dI 1) (Tb.dI 3) dig31 sum31 proF3_01 negF3_01 invF3_01 stpF3_01 w hw rfl (by kernel_rfl) (by kernel_rfl) rfl rfl pdig31 psum31 (by kernel_rfl) (by kernel_rfl) (by kernel_rfl) (by kernel_rfl)
    (by kernel_rfl) rfl (by kernel_rfl) (hpow31 w) (by kernel_rfl) (hsum31 w) (hproF3_01 w) (by kernel_rfl) (by kernel_rfl) (by kernel_rfl)
theorem ffsF3_01 : [Tb.dI 3, .tup moF3_01, Tb.dI 1, Tb.dI 3, dig31, sum31, proF3_01, negF3_01, invF3_01, stpF3_01] = TF3_01.ffs := by kernel_rfl
theorem madeF3_01 (w : Wd) : m_l_world [Tb.dI 3, .tup moF3_01] w = some (.lst TF3_01.wws, w) :=
  world_of _ (Tb.dI 1) (Tb.dI 3) lsum31 lproF3_01 _ _ w (by kernel_rfl) (hlpow31 w) (hlsum31 w) (hlproF3_01 w) (by kernel_rfl)
theorem goodF3_01 : Good F3_01 := fun w hw => ⟨(initF3_01 w hw).trans (congrArg (fun x => some (D.obj x, w)) (ffsF3_01.trans (ffs_fe F3_01).symm)), (madeF3_01 w).trans (congrArg (fun x => some (D.lst x, w)) (wws_fe F3_01).symm)⟩
def moF3_11 : List D := [Tb.dI 1, Tb.dI 1]
def proF3_11 : D := .tup (TF3_11.tab TF3_11.mu .tup)
def lproF3_11 : D := .lst (TF3_11.tab TF3_11.mu .lst)
def negF3_11 : D := .tup (TF3_11.row TF3_11.ng)
def invF3_11 : D := .tup (TF3_11.row TF3_11.iv)
def stpF3_11 : D := .tup (TF3_11.row TF3_11.fr)
theorem hproF3_11 (w : Wd) : m_products_of [Tb.dI 3, .tup moF3_11, dig31, sum31] w = some (proF3_11, w) := by kernel_rfl
theorem hlproF3_11 (w : Wd) : m_l_products [Tb.dI 3, .tup moF3_11, lsum31] w = some (lproF3_11, w) := by kernel_rfl
theorem initF3_11 (w : Wd) (hw : plL w = true) : m_F_init [Tb.dI 3, .lst moF3_11] w = some (.obj [Tb.dI 3, .tup moF3_11, Tb.dI 1, Tb.dI 3, dig31, sum31, proF3_11, negF3_11, invF3_11, stpF3_11], w) :=
  init_of _ _ (.tup moF3_11) (Tb.dI 1) (Tb.dI 3) dig31 sum31 proF3_11 negF3_11 invF3_11 stpF3_11 w hw rfl (by kernel_rfl) (by kernel_rfl) rfl rfl pdig31 psum31 (by kernel_rfl) (by kernel_rfl) (by kernel_rfl) (by kernel_rfl)
    (by kernel_rfl) rfl (by kernel_rfl) (hpow31 w) (by kernel_rfl) (hsum31 w) (hproF3_11 w) (by kernel_rfl) (by kernel_rfl) (by kernel_rfl)
theorem ffsF3_11 : [Tb.dI 3, .tup moF3_11, Tb.dI 1, Tb.dI 3, dig31, sum31, proF3_11, negF3_11, invF3_11, stpF3_11] = TF3_11.ffs := by kernel_rfl
theorem madeF3_11 (w : Wd) : m_l_world [Tb.dI 3, .tup moF3_11] w = some (.lst TF3_11.wws, w) :=
  world_of _ (Tb.dI 1) (Tb.dI 3) lsum31 lproF3_11 _ _ w (by kernel_rfl) (hlpow31 w) (hlsum31 w) (hlproF3_11 w) (by kernel_rfl)
theorem goodF3_11 : Good F3_11 := fun w hw => ⟨(initF3_11 w hw).trans (congrArg (fun x => some (D.obj x, w)) (ffsF3_11.trans (ffs_fe F3_11).symm)), (madeF3_11 w).trans (congrArg (fun x => some (D.lst x, w)) (wws_fe F3_11).symm)⟩
def moF3_21 : List D := [Tb.dI 2, Tb.dI 1]
def proF3_21 : D := .tup (TF3_21.tab TF3_21.mu .tup)
def lproF3_21 : D := .lst (TF3_21.tab TF3_21.mu .lst)
def negF3_21 : D := .tup (TF3_21.row TF3_21.ng)
def invF3_21 : D := .tup (TF3_21.row TF3_21.iv)
def stpF3_21 : D := .tup (TF3_21.row TF3_21.fr)
theorem hproF3_21 (w : Wd) : m_products_of [Tb.dI 3, .tup moF3_21, dig31, sum31] w = some (proF3_21, w) := by kernel_rfl
theorem hlproF3_21 (w : Wd) : m_l_products [Tb.dI 3, .tup moF3_21, lsum31] w = some (lproF3_21, w) := by kernel_rfl
theorem initF3_21 (w : Wd) (hw : plL w = true) : m_F_init [Tb.dI 3, .lst moF3_21] w = some (.obj [Tb.dI 3, .tup moF3_21, Tb.dI 1, Tb.dI 3, dig31, sum31, proF3_21, negF3_21, invF3_21, stpF3_21], w) :=
  init_of _ _ (.tup moF3_21) (Tb.dI 1) (Tb.dI 3) dig31 sum31 proF3_21 negF3_21 invF3_21 stpF3_21 w hw rfl (by kernel_rfl) (by kernel_rfl) rfl rfl pdig31 psum31 (by kernel_rfl) (by kernel_rfl) (by kernel_rfl) (by kernel_rfl)
    (by kernel_rfl) rfl (by kernel_rfl) (hpow31 w) (by kernel_rfl) (hsum31 w) (hproF3_21 w) (by kernel_rfl) (by kernel_rfl) (by kernel_rfl)
theorem ffsF3_21 : [Tb.dI 3, .tup moF3_21, Tb.dI 1, Tb.dI 3, dig31, sum31, proF3_21, negF3_21, invF3_21, stpF3_21] = TF3_21.ffs := by kernel_rfl
theorem madeF3_21 (w : Wd) : m_l_world [Tb.dI 3, .tup moF3_21] w = some (.lst TF3_21.wws, w) :=
  world_of _ (Tb.dI 1) (Tb.dI 3) lsum31 lproF3_21 _ _ w (by kernel_rfl) (hlpow31 w) (hlsum31 w) (hlproF3_21 w) (by kernel_rfl)
theorem goodF3_21 : Good F3_21 := fun w hw => ⟨(initF3_21 w hw).trans (congrArg (fun x => some (D.obj x, w)) (ffsF3_21.trans (ffs_fe F3_21).symm)), (madeF3_21 w).trans (congrArg (fun x => some (D.lst x, w)) (wws_fe F3_21).symm)⟩
end K39
end
section
set_option maxRecDepth 100000
set_option maxHeartbeats 0
set_option autoImplicit false
/-! the fields of 9 things (printed by genmade.py) -/
namespace K39
def dig32 : D := .tup ((List.range 9).map fun a => .tup ((List.range 2).map fun j => Tb.dI (a / 3 ^ j % 3)))
def sum32 : D := .tup (TF3_101.tab TF3_101.ad .tup)
def lsum32 : D := .lst (TF3_101.tab TF3_101.ad .lst)
theorem hsum32 (w : Wd) : m_sums_of [Tb.dI 3, dig32] w = some (sum32, w) := by kernel_rfl
theorem hlsum32 (w : Wd) : m_l_sums [Tb.dI 3, Tb.dI 9] w = some (lsum32, w) := by kernel_rfl
theorem hpow32 (w : Wd) : m_power_of [Tb.dI 3, Tb.dI 2] w = some (Tb.dI 9, w) := by kernel_rfl
theorem hlpow32 (w : Wd) : m_l_power [Tb.dI 3, Tb.dI 2] w = some (Tb.dI 9, w) := by kernel_rfl
theorem pdig32 : dig32.pl = true := by kernel_rfl
theorem psum32 : sum32.pl = true := by kernel_rfl
def moF3_101 : List D := [Tb.dI 1, Tb.dI 0, Tb.dI 1]
def proF3_101 : D := .tup (TF3_101.tab TF3_101.mu .tup)
def lproF3_101 : D := .lst (TF3_101.tab TF3_101.mu .lst)
def negF3_101 : D := .tup (TF3_101.row TF3_101.ng)
def invF3_101 : D := .tup (TF3_101.row TF3_101.iv)
def stpF3_101 : D := .tup (TF3_101.row TF3_101.fr)
theorem hproF3_101 (w : Wd) : m_products_of [Tb.dI 3, .tup moF3_101, dig32, sum32] w = some (proF3_101, w) := by kernel_rfl
theorem hlproF3_101 (w : Wd) : m_l_products [Tb.dI 3, .tup moF3_101, lsum32] w = some (lproF3_101, w) := by kernel_rfl
theorem initF3_101 (w : Wd) (hw : plL w = true) : m_F_init [Tb.dI 3, .lst moF3_101] w = some (.obj [Tb.dI 3, .tup moF3_101, Tb.dI 2, Tb.dI 9, dig32, sum32, proF3_101, negF3_101, invF3_101, stpF3_101], w) :=
  init_of _ _ (.tup moF3_101) (Tb.dI 2) (Tb.dI 9) dig32 sum32 proF3_101 negF3_101 invF3_101 stpF3_101 w hw rfl (by kernel_rfl) (by kernel_rfl) rfl rfl pdig32 psum32 (by kernel_rfl) (by kernel_rfl) (by kernel_rfl) (by kernel_rfl)
    (by kernel_rfl) rfl (by kernel_rfl) (hpow32 w) (by kernel_rfl) (hsum32 w) (hproF3_101 w) (by kernel_rfl) (by kernel_rfl) (by kernel_rfl)
theorem ffsF3_101 : [Tb.dI 3, .tup moF3_101, Tb.dI 2, Tb.dI 9, dig32, sum32, proF3_101, negF3_101, invF3_101, stpF3_101] = TF3_101.ffs := by kernel_rfl
theorem madeF3_101 (w : Wd) : m_l_world [Tb.dI 3, .tup moF3_101] w = some (.lst TF3_101.wws, w) :=
  world_of _ (Tb.dI 2) (Tb.dI 9) lsum32 lproF3_101 _ _ w (by kernel_rfl) (hlpow32 w) (hlsum32 w) (hlproF3_101 w) (by kernel_rfl)
theorem goodF3_101 : Good F3_101 := fun w hw => ⟨(initF3_101 w hw).trans (congrArg (fun x => some (D.obj x, w)) (ffsF3_101.trans (ffs_fe F3_101).symm)), (madeF3_101 w).trans (congrArg (fun x => some (D.lst x, w)) (wws_fe F3_101).symm)⟩
def moF3_211 : List D := [Tb.dI 2, Tb.dI 1, Tb.dI 1]
def proF3_211 : D := .tup (TF3_211.tab TF3_211.mu .tup)
def lproF3_211 : D := .lst (TF3_211.tab TF3_211.mu .lst)
def negF3_211 : D := .tup (TF3_211.row TF3_211.ng)
def invF3_211 : D := .tup (TF3_211.row TF3_211.iv)
def stpF3_211 : D := .tup (TF3_211.row TF3_211.fr)
theorem hproF3_211 (w : Wd) : m_products_of [Tb.dI 3, .tup moF3_211, dig32, sum32] w = some (proF3_211, w) := by kernel_rfl
theorem hlproF3_211 (w : Wd) : m_l_products [Tb.dI 3, .tup moF3_211, lsum32] w = some (lproF3_211, w) := by kernel_rfl
theorem initF3_211 (w : Wd) (hw : plL w = true) : m_F_init [Tb.dI 3, .lst moF3_211] w = some (.obj [Tb.dI 3, .tup moF3_211, Tb.dI 2, Tb.dI 9, dig32, sum32, proF3_211, negF3_211, invF3_211, stpF3_211], w) :=
  init_of _ _ (.tup moF3_211) (Tb.dI 2) (Tb.dI 9) dig32 sum32 proF3_211 negF3_211 invF3_211 stpF3_211 w hw rfl (by kernel_rfl) (by kernel_rfl) rfl rfl pdig32 psum32 (by kernel_rfl) (by kernel_rfl) (by kernel_rfl) (by kernel_rfl)
    (by kernel_rfl) rfl (by kernel_rfl) (hpow32 w) (by kernel_rfl) (hsum32 w) (hproF3_211 w) (by kernel_rfl) (by kernel_rfl) (by kernel_rfl)
theorem ffsF3_211 : [Tb.dI 3, .tup moF3_211, Tb.dI 2, Tb.dI 9, dig32, sum32, proF3_211, negF3_211, invF3_211, stpF3_211] = TF3_211.ffs := by kernel_rfl
theorem madeF3_211 (w : Wd) : m_l_world [Tb.dI 3, .tup moF3_211] w = some (.lst TF3_211.wws, w) :=
  world_of _ (Tb.dI 2) (Tb.dI 9) lsum32 lproF3_211 _ _ w (by kernel_rfl) (hlpow32 w) (hlsum32 w) (hlproF3_211 w) (by kernel_rfl)
theorem goodF3_211 : Good F3_211 := fun w hw => ⟨(initF3_211 w hw).trans (congrArg (fun x => some (D.obj x, w)) (ffsF3_211.trans (ffs_fe F3_211).symm)), (madeF3_211 w).trans (congrArg (fun x => some (D.lst x, w)) (wws_fe F3_211).symm)⟩
def moF3_221 : List D := [Tb.dI 2, Tb.dI 2, Tb.dI 1]
def proF3_221 : D := .tup (TF3_221.tab TF3_221.mu .tup)
def lproF3_221 : D := .lst (TF3_221.tab TF3_221.mu .lst)
def negF3_221 : D := .tup (TF3_221.row TF3_221.ng)
def invF3_221 : D := .tup (TF3_221.row TF3_221.iv)
def stpF3_221 : D := .tup (TF3_221.row TF3_221.fr)
theorem hproF3_221 (w : Wd) : m_products_of [Tb.dI 3, .tup moF3_221, dig32, sum32] w = some (proF3_221, w) := by kernel_rfl
theorem hlproF3_221 (w : Wd) : m_l_products [Tb.dI 3, .tup moF3_221, lsum32] w = some (lproF3_221, w) := by kernel_rfl
theorem initF3_221 (w : Wd) (hw : plL w = true) : m_F_init [Tb.dI 3, .lst moF3_221] w = some (.obj [Tb.dI 3, .tup moF3_221, Tb.dI 2, Tb.dI 9, dig32, sum32, proF3_221, negF3_221, invF3_221, stpF3_221], w) :=
  init_of _ _ (.tup moF3_221) (Tb.dI 2) (Tb.dI 9) dig32 sum32 proF3_221 negF3_221 invF3_221 stpF3_221 w hw rfl (by kernel_rfl) (by kernel_rfl) rfl rfl pdig32 psum32 (by kernel_rfl) (by kernel_rfl) (by kernel_rfl) (by kernel_rfl)
    (by kernel_rfl) rfl (by kernel_rfl) (hpow32 w) (by kernel_rfl) (hsum32 w) (hproF3_221 w) (by kernel_rfl) (by kernel_rfl) (by kernel_rfl)
theorem ffsF3_221 : [Tb.dI 3, .tup moF3_221, Tb.dI 2, Tb.dI 9, dig32, sum32, proF3_221, negF3_221, invF3_221, stpF3_221] = TF3_221.ffs := by kernel_rfl
theorem madeF3_221 (w : Wd) : m_l_world [Tb.dI 3, .tup moF3_221] w = some (.lst TF3_221.wws, w) :=
  world_of _ (Tb.dI 2) (Tb.dI 9) lsum32 lproF3_221 _ _ w (by kernel_rfl) (hlpow32 w) (hlsum32 w) (hlproF3_221 w) (by kernel_rfl)
theorem goodF3_221 : Good F3_221 := fun w hw => ⟨(initF3_221 w hw).trans (congrArg (fun x => some (D.obj x, w)) (ffsF3_221.trans (ffs_fe F3_221).symm)), (madeF3_221 w).trans (congrArg (fun x => some (D.lst x, w)) (wws_fe F3_221).symm)⟩
end K39
end
section
set_option maxRecDepth 100000
set_option maxHeartbeats 0
set_option autoImplicit false
/-! the fields of 27 things (printed by genmade.py) -/
namespace K39
def dig33 : D := .tup ((List.range 27).map fun a => .tup ((List.range 3).map fun j => Tb.dI (a / 3 ^ j % 3)))
def sum33 : D := .tup (TF3_1201.tab TF3_1201.ad .tup)
def lsum33 : D := .lst (TF3_1201.tab TF3_1201.ad .lst)
theorem hsum33 (w : Wd) : m_sums_of [Tb.dI 3, dig33] w = some (sum33, w) := by kernel_rfl
theorem hlsum33 (w : Wd) : m_l_sums [Tb.dI 3, Tb.dI 27] w = some (lsum33, w) := by kernel_rfl
theorem hpow33 (w : Wd) : m_power_of [Tb.dI 3, Tb.dI 3] w = some (Tb.dI 27, w) := by kernel_rfl
theorem hlpow33 (w : Wd) : m_l_power [Tb.dI 3, Tb.dI 3] w = some (Tb.dI 27, w) := by kernel_rfl
theorem pdig33 : dig33.pl = true := by kernel_rfl
theorem psum33 : sum33.pl = true := by kernel_rfl
def moF3_1201 : List D := [Tb.dI 1, Tb.dI 2, Tb.dI 0, Tb.dI 1]
def proF3_1201 : D := .tup (TF3_1201.tab TF3_1201.mu .tup)
def lproF3_1201 : D := .lst (TF3_1201.tab TF3_1201.mu .lst)
def negF3_1201 : D := .tup (TF3_1201.row TF3_1201.ng)
def invF3_1201 : D := .tup (TF3_1201.row TF3_1201.iv)
def stpF3_1201 : D := .tup (TF3_1201.row TF3_1201.fr)
theorem hproF3_1201 (w : Wd) : m_products_of [Tb.dI 3, .tup moF3_1201, dig33, sum33] w = some (proF3_1201, w) := by kernel_rfl
theorem hlproF3_1201 (w : Wd) : m_l_products [Tb.dI 3, .tup moF3_1201, lsum33] w = some (lproF3_1201, w) := by kernel_rfl
theorem initF3_1201 (w : Wd) (hw : plL w = true) : m_F_init [Tb.dI 3, .lst moF3_1201] w = some (.obj [Tb.dI 3, .tup moF3_1201, Tb.dI 3, Tb.dI 27, dig33, sum33, proF3_1201, negF3_1201, invF3_1201, stpF3_1201], w) :=
  init_of _ _ (.tup moF3_1201) (Tb.dI 3) (Tb.dI 27) dig33 sum33 proF3_1201 negF3_1201 invF3_1201 stpF3_1201 w hw rfl (by kernel_rfl) (by kernel_rfl) rfl rfl pdig33 psum33 (by kernel_rfl) (by kernel_rfl) (by kernel_rfl) (by kernel_rfl)
    (by kernel_rfl) rfl (by kernel_rfl) (hpow33 w) (by kernel_rfl) (hsum33 w) (hproF3_1201 w) (by kernel_rfl) (by kernel_rfl) (by kernel_rfl)
theorem ffsF3_1201 : [Tb.dI 3, .tup moF3_1201, Tb.dI 3, Tb.dI 27, dig33, sum33, proF3_1201, negF3_1201, invF3_1201, stpF3_1201] = TF3_1201.ffs := by kernel_rfl
theorem madeF3_1201 (w : Wd) : m_l_world [Tb.dI 3, .tup moF3_1201] w = some (.lst TF3_1201.wws, w) :=
  world_of _ (Tb.dI 3) (Tb.dI 27) lsum33 lproF3_1201 _ _ w (by kernel_rfl) (hlpow33 w) (hlsum33 w) (hlproF3_1201 w) (by kernel_rfl)
theorem goodF3_1201 : Good F3_1201 := fun w hw => ⟨(initF3_1201 w hw).trans (congrArg (fun x => some (D.obj x, w)) (ffsF3_1201.trans (ffs_fe F3_1201).symm)), (madeF3_1201 w).trans (congrArg (fun x => some (D.lst x, w)) (wws_fe F3_1201).symm)⟩
def moF3_2201 : List D := [Tb.dI 2, Tb.dI 2, Tb.dI 0, Tb.dI 1]
def proF3_2201 : D := .tup (TF3_2201.tab TF3_2201.mu .tup)
def lproF3_2201 : D := .lst (TF3_2201.tab TF3_2201.mu .lst)
def negF3_2201 : D := .tup (TF3_2201.row TF3_2201.ng)
def invF3_2201 : D := .tup (TF3_2201.row TF3_2201.iv)
def stpF3_2201 : D := .tup (TF3_2201.row TF3_2201.fr)
theorem hproF3_2201 (w : Wd) : m_products_of [Tb.dI 3, .tup moF3_2201, dig33, sum33] w = some (proF3_2201, w) := by kernel_rfl
theorem hlproF3_2201 (w : Wd) : m_l_products [Tb.dI 3, .tup moF3_2201, lsum33] w = some (lproF3_2201, w) := by kernel_rfl
theorem initF3_2201 (w : Wd) (hw : plL w = true) : m_F_init [Tb.dI 3, .lst moF3_2201] w = some (.obj [Tb.dI 3, .tup moF3_2201, Tb.dI 3, Tb.dI 27, dig33, sum33, proF3_2201, negF3_2201, invF3_2201, stpF3_2201], w) :=
  init_of _ _ (.tup moF3_2201) (Tb.dI 3) (Tb.dI 27) dig33 sum33 proF3_2201 negF3_2201 invF3_2201 stpF3_2201 w hw rfl (by kernel_rfl) (by kernel_rfl) rfl rfl pdig33 psum33 (by kernel_rfl) (by kernel_rfl) (by kernel_rfl) (by kernel_rfl)
    (by kernel_rfl) rfl (by kernel_rfl) (hpow33 w) (by kernel_rfl) (hsum33 w) (hproF3_2201 w) (by kernel_rfl) (by kernel_rfl) (by kernel_rfl)
theorem ffsF3_2201 : [Tb.dI 3, .tup moF3_2201, Tb.dI 3, Tb.dI 27, dig33, sum33, proF3_2201, negF3_2201, invF3_2201, stpF3_2201] = TF3_2201.ffs := by kernel_rfl
theorem madeF3_2201 (w : Wd) : m_l_world [Tb.dI 3, .tup moF3_2201] w = some (.lst TF3_2201.wws, w) :=
  world_of _ (Tb.dI 3) (Tb.dI 27) lsum33 lproF3_2201 _ _ w (by kernel_rfl) (hlpow33 w) (hlsum33 w) (hlproF3_2201 w) (by kernel_rfl)
theorem goodF3_2201 : Good F3_2201 := fun w hw => ⟨(initF3_2201 w hw).trans (congrArg (fun x => some (D.obj x, w)) (ffsF3_2201.trans (ffs_fe F3_2201).symm)), (madeF3_2201 w).trans (congrArg (fun x => some (D.lst x, w)) (wws_fe F3_2201).symm)⟩
def moF3_2011 : List D := [Tb.dI 2, Tb.dI 0, Tb.dI 1, Tb.dI 1]
def proF3_2011 : D := .tup (TF3_2011.tab TF3_2011.mu .tup)
def lproF3_2011 : D := .lst (TF3_2011.tab TF3_2011.mu .lst)
def negF3_2011 : D := .tup (TF3_2011.row TF3_2011.ng)
def invF3_2011 : D := .tup (TF3_2011.row TF3_2011.iv)
def stpF3_2011 : D := .tup (TF3_2011.row TF3_2011.fr)
theorem hproF3_2011 (w : Wd) : m_products_of [Tb.dI 3, .tup moF3_2011, dig33, sum33] w = some (proF3_2011, w) := by kernel_rfl
theorem hlproF3_2011 (w : Wd) : m_l_products [Tb.dI 3, .tup moF3_2011, lsum33] w = some (lproF3_2011, w) := by kernel_rfl
theorem initF3_2011 (w : Wd) (hw : plL w = true) : m_F_init [Tb.dI 3, .lst moF3_2011] w = some (.obj [Tb.dI 3, .tup moF3_2011, Tb.dI 3, Tb.dI 27, dig33, sum33, proF3_2011, negF3_2011, invF3_2011, stpF3_2011], w) :=
  init_of _ _ (.tup moF3_2011) (Tb.dI 3) (Tb.dI 27) dig33 sum33 proF3_2011 negF3_2011 invF3_2011 stpF3_2011 w hw rfl (by kernel_rfl) (by kernel_rfl) rfl rfl pdig33 psum33 (by kernel_rfl) (by kernel_rfl) (by kernel_rfl) (by kernel_rfl)
    (by kernel_rfl) rfl (by kernel_rfl) (hpow33 w) (by kernel_rfl) (hsum33 w) (hproF3_2011 w) (by kernel_rfl) (by kernel_rfl) (by kernel_rfl)
theorem ffsF3_2011 : [Tb.dI 3, .tup moF3_2011, Tb.dI 3, Tb.dI 27, dig33, sum33, proF3_2011, negF3_2011, invF3_2011, stpF3_2011] = TF3_2011.ffs := by kernel_rfl
theorem madeF3_2011 (w : Wd) : m_l_world [Tb.dI 3, .tup moF3_2011] w = some (.lst TF3_2011.wws, w) :=
  world_of _ (Tb.dI 3) (Tb.dI 27) lsum33 lproF3_2011 _ _ w (by kernel_rfl) (hlpow33 w) (hlsum33 w) (hlproF3_2011 w) (by kernel_rfl)
theorem goodF3_2011 : Good F3_2011 := fun w hw => ⟨(initF3_2011 w hw).trans (congrArg (fun x => some (D.obj x, w)) (ffsF3_2011.trans (ffs_fe F3_2011).symm)), (madeF3_2011 w).trans (congrArg (fun x => some (D.lst x, w)) (wws_fe F3_2011).symm)⟩
def moF3_2111 : List D := [Tb.dI 2, Tb.dI 1, Tb.dI 1, Tb.dI 1]
def proF3_2111 : D := .tup (TF3_2111.tab TF3_2111.mu .tup)
def lproF3_2111 : D := .lst (TF3_2111.tab TF3_2111.mu .lst)
def negF3_2111 : D := .tup (TF3_2111.row TF3_2111.ng)
def invF3_2111 : D := .tup (TF3_2111.row TF3_2111.iv)
def stpF3_2111 : D := .tup (TF3_2111.row TF3_2111.fr)
theorem hproF3_2111 (w : Wd) : m_products_of [Tb.dI 3, .tup moF3_2111, dig33, sum33] w = some (proF3_2111, w) := by kernel_rfl
theorem hlproF3_2111 (w : Wd) : m_l_products [Tb.dI 3, .tup moF3_2111, lsum33] w = some (lproF3_2111, w) := by kernel_rfl
theorem initF3_2111 (w : Wd) (hw : plL w = true) : m_F_init [Tb.dI 3, .lst moF3_2111] w = some (.obj [Tb.dI 3, .tup moF3_2111, Tb.dI 3, Tb.dI 27, dig33, sum33, proF3_2111, negF3_2111, invF3_2111, stpF3_2111], w) :=
  init_of _ _ (.tup moF3_2111) (Tb.dI 3) (Tb.dI 27) dig33 sum33 proF3_2111 negF3_2111 invF3_2111 stpF3_2111 w hw rfl (by kernel_rfl) (by kernel_rfl) rfl rfl pdig33 psum33 (by kernel_rfl) (by kernel_rfl) (by kernel_rfl) (by kernel_rfl)
    (by kernel_rfl) rfl (by kernel_rfl) (hpow33 w) (by kernel_rfl) (hsum33 w) (hproF3_2111 w) (by kernel_rfl) (by kernel_rfl) (by kernel_rfl)
theorem ffsF3_2111 : [Tb.dI 3, .tup moF3_2111, Tb.dI 3, Tb.dI 27, dig33, sum33, proF3_2111, negF3_2111, invF3_2111, stpF3_2111] = TF3_2111.ffs := by kernel_rfl
theorem madeF3_2111 (w : Wd) : m_l_world [Tb.dI 3, .tup moF3_2111] w = some (.lst TF3_2111.wws, w) :=
  world_of _ (Tb.dI 3) (Tb.dI 27) lsum33 lproF3_2111 _ _ w (by kernel_rfl) (hlpow33 w) (hlsum33 w) (hlproF3_2111 w) (by kernel_rfl)
theorem goodF3_2111 : Good F3_2111 := fun w hw => ⟨(initF3_2111 w hw).trans (congrArg (fun x => some (D.obj x, w)) (ffsF3_2111.trans (ffs_fe F3_2111).symm)), (madeF3_2111 w).trans (congrArg (fun x => some (D.lst x, w)) (wws_fe F3_2111).symm)⟩
def moF3_1211 : List D := [Tb.dI 1, Tb.dI 2, Tb.dI 1, Tb.dI 1]
def proF3_1211 : D := .tup (TF3_1211.tab TF3_1211.mu .tup)
def lproF3_1211 : D := .lst (TF3_1211.tab TF3_1211.mu .lst)
def negF3_1211 : D := .tup (TF3_1211.row TF3_1211.ng)
def invF3_1211 : D := .tup (TF3_1211.row TF3_1211.iv)
def stpF3_1211 : D := .tup (TF3_1211.row TF3_1211.fr)
theorem hproF3_1211 (w : Wd) : m_products_of [Tb.dI 3, .tup moF3_1211, dig33, sum33] w = some (proF3_1211, w) := by kernel_rfl
theorem hlproF3_1211 (w : Wd) : m_l_products [Tb.dI 3, .tup moF3_1211, lsum33] w = some (lproF3_1211, w) := by kernel_rfl
theorem initF3_1211 (w : Wd) (hw : plL w = true) : m_F_init [Tb.dI 3, .lst moF3_1211] w = some (.obj [Tb.dI 3, .tup moF3_1211, Tb.dI 3, Tb.dI 27, dig33, sum33, proF3_1211, negF3_1211, invF3_1211, stpF3_1211], w) :=
  init_of _ _ (.tup moF3_1211) (Tb.dI 3) (Tb.dI 27) dig33 sum33 proF3_1211 negF3_1211 invF3_1211 stpF3_1211 w hw rfl (by kernel_rfl) (by kernel_rfl) rfl rfl pdig33 psum33 (by kernel_rfl) (by kernel_rfl) (by kernel_rfl) (by kernel_rfl)
    (by kernel_rfl) rfl (by kernel_rfl) (hpow33 w) (by kernel_rfl) (hsum33 w) (hproF3_1211 w) (by kernel_rfl) (by kernel_rfl) (by kernel_rfl)
theorem ffsF3_1211 : [Tb.dI 3, .tup moF3_1211, Tb.dI 3, Tb.dI 27, dig33, sum33, proF3_1211, negF3_1211, invF3_1211, stpF3_1211] = TF3_1211.ffs := by kernel_rfl
theorem madeF3_1211 (w : Wd) : m_l_world [Tb.dI 3, .tup moF3_1211] w = some (.lst TF3_1211.wws, w) :=
  world_of _ (Tb.dI 3) (Tb.dI 27) lsum33 lproF3_1211 _ _ w (by kernel_rfl) (hlpow33 w) (hlsum33 w) (hlproF3_1211 w) (by kernel_rfl)
theorem goodF3_1211 : Good F3_1211 := fun w hw => ⟨(initF3_1211 w hw).trans (congrArg (fun x => some (D.obj x, w)) (ffsF3_1211.trans (ffs_fe F3_1211).symm)), (madeF3_1211 w).trans (congrArg (fun x => some (D.lst x, w)) (wws_fe F3_1211).symm)⟩
def moF3_1021 : List D := [Tb.dI 1, Tb.dI 0, Tb.dI 2, Tb.dI 1]
def proF3_1021 : D := .tup (TF3_1021.tab TF3_1021.mu .tup)
def lproF3_1021 : D := .lst (TF3_1021.tab TF3_1021.mu .lst)
def negF3_1021 : D := .tup (TF3_1021.row TF3_1021.ng)
def invF3_1021 : D := .tup (TF3_1021.row TF3_1021.iv)
def stpF3_1021 : D := .tup (TF3_1021.row TF3_1021.fr)
theorem hproF3_1021 (w : Wd) : m_products_of [Tb.dI 3, .tup moF3_1021, dig33, sum33] w = some (proF3_1021, w) := by kernel_rfl
theorem hlproF3_1021 (w : Wd) : m_l_products [Tb.dI 3, .tup moF3_1021, lsum33] w = some (lproF3_1021, w) := by kernel_rfl
theorem initF3_1021 (w : Wd) (hw : plL w = true) : m_F_init [Tb.dI 3, .lst moF3_1021] w = some (.obj [Tb.dI 3, .tup moF3_1021, Tb.dI 3, Tb.dI 27, dig33, sum33, proF3_1021, negF3_1021, invF3_1021, stpF3_1021], w) :=
  init_of _ _ (.tup moF3_1021) (Tb.dI 3) (Tb.dI 27) dig33 sum33 proF3_1021 negF3_1021 invF3_1021 stpF3_1021 w hw rfl (by kernel_rfl) (by kernel_rfl) rfl rfl pdig33 psum33 (by kernel_rfl) (by kernel_rfl) (by kernel_rfl) (by kernel_rfl)
    (by kernel_rfl) rfl (by kernel_rfl) (hpow33 w) (by kernel_rfl) (hsum33 w) (hproF3_1021 w) (by kernel_rfl) (by kernel_rfl) (by kernel_rfl)
theorem ffsF3_1021 : [Tb.dI 3, .tup moF3_1021, Tb.dI 3, Tb.dI 27, dig33, sum33, proF3_1021, negF3_1021, invF3_1021, stpF3_1021] = TF3_1021.ffs := by kernel_rfl
theorem madeF3_1021 (w : Wd) : m_l_world [Tb.dI 3, .tup moF3_1021] w = some (.lst TF3_1021.wws, w) :=
  world_of _ (Tb.dI 3) (Tb.dI 27) lsum33 lproF3_1021 _ _ w (by kernel_rfl) (hlpow33 w) (hlsum33 w) (hlproF3_1021 w) (by kernel_rfl)
theorem goodF3_1021 : Good F3_1021 := fun w hw => ⟨(initF3_1021 w hw).trans (congrArg (fun x => some (D.obj x, w)) (ffsF3_1021.trans (ffs_fe F3_1021).symm)), (madeF3_1021 w).trans (congrArg (fun x => some (D.lst x, w)) (wws_fe F3_1021).symm)⟩
def moF3_1121 : List D := [Tb.dI 1, Tb.dI 1, Tb.dI 2, Tb.dI 1]
def proF3_1121 : D := .tup (TF3_1121.tab TF3_1121.mu .tup)
def lproF3_1121 : D := .lst (TF3_1121.tab TF3_1121.mu .lst)
def negF3_1121 : D := .tup (TF3_1121.row TF3_1121.ng)
def invF3_1121 : D := .tup (TF3_1121.row TF3_1121.iv)
def stpF3_1121 : D := .tup (TF3_1121.row TF3_1121.fr)
theorem hproF3_1121 (w : Wd) : m_products_of [Tb.dI 3, .tup moF3_1121, dig33, sum33] w = some (proF3_1121, w) := by kernel_rfl
theorem hlproF3_1121 (w : Wd) : m_l_products [Tb.dI 3, .tup moF3_1121, lsum33] w = some (lproF3_1121, w) := by kernel_rfl
theorem initF3_1121 (w : Wd) (hw : plL w = true) : m_F_init [Tb.dI 3, .lst moF3_1121] w = some (.obj [Tb.dI 3, .tup moF3_1121, Tb.dI 3, Tb.dI 27, dig33, sum33, proF3_1121, negF3_1121, invF3_1121, stpF3_1121], w) :=
  init_of _ _ (.tup moF3_1121) (Tb.dI 3) (Tb.dI 27) dig33 sum33 proF3_1121 negF3_1121 invF3_1121 stpF3_1121 w hw rfl (by kernel_rfl) (by kernel_rfl) rfl rfl pdig33 psum33 (by kernel_rfl) (by kernel_rfl) (by kernel_rfl) (by kernel_rfl)
    (by kernel_rfl) rfl (by kernel_rfl) (hpow33 w) (by kernel_rfl) (hsum33 w) (hproF3_1121 w) (by kernel_rfl) (by kernel_rfl) (by kernel_rfl)
theorem ffsF3_1121 : [Tb.dI 3, .tup moF3_1121, Tb.dI 3, Tb.dI 27, dig33, sum33, proF3_1121, negF3_1121, invF3_1121, stpF3_1121] = TF3_1121.ffs := by kernel_rfl
theorem madeF3_1121 (w : Wd) : m_l_world [Tb.dI 3, .tup moF3_1121] w = some (.lst TF3_1121.wws, w) :=
  world_of _ (Tb.dI 3) (Tb.dI 27) lsum33 lproF3_1121 _ _ w (by kernel_rfl) (hlpow33 w) (hlsum33 w) (hlproF3_1121 w) (by kernel_rfl)
theorem goodF3_1121 : Good F3_1121 := fun w hw => ⟨(initF3_1121 w hw).trans (congrArg (fun x => some (D.obj x, w)) (ffsF3_1121.trans (ffs_fe F3_1121).symm)), (madeF3_1121 w).trans (congrArg (fun x => some (D.lst x, w)) (wws_fe F3_1121).symm)⟩
def moF3_2221 : List D := [Tb.dI 2, Tb.dI 2, Tb.dI 2, Tb.dI 1]
def proF3_2221 : D := .tup (TF3_2221.tab TF3_2221.mu .tup)
def lproF3_2221 : D := .lst (TF3_2221.tab TF3_2221.mu .lst)
def negF3_2221 : D := .tup (TF3_2221.row TF3_2221.ng)
def invF3_2221 : D := .tup (TF3_2221.row TF3_2221.iv)
def stpF3_2221 : D := .tup (TF3_2221.row TF3_2221.fr)
theorem hproF3_2221 (w : Wd) : m_products_of [Tb.dI 3, .tup moF3_2221, dig33, sum33] w = some (proF3_2221, w) := by kernel_rfl
theorem hlproF3_2221 (w : Wd) : m_l_products [Tb.dI 3, .tup moF3_2221, lsum33] w = some (lproF3_2221, w) := by kernel_rfl
theorem initF3_2221 (w : Wd) (hw : plL w = true) : m_F_init [Tb.dI 3, .lst moF3_2221] w = some (.obj [Tb.dI 3, .tup moF3_2221, Tb.dI 3, Tb.dI 27, dig33, sum33, proF3_2221, negF3_2221, invF3_2221, stpF3_2221], w) :=
  init_of _ _ (.tup moF3_2221) (Tb.dI 3) (Tb.dI 27) dig33 sum33 proF3_2221 negF3_2221 invF3_2221 stpF3_2221 w hw rfl (by kernel_rfl) (by kernel_rfl) rfl rfl pdig33 psum33 (by kernel_rfl) (by kernel_rfl) (by kernel_rfl) (by kernel_rfl)
    (by kernel_rfl) rfl (by kernel_rfl) (hpow33 w) (by kernel_rfl) (hsum33 w) (hproF3_2221 w) (by kernel_rfl) (by kernel_rfl) (by kernel_rfl)
theorem ffsF3_2221 : [Tb.dI 3, .tup moF3_2221, Tb.dI 3, Tb.dI 27, dig33, sum33, proF3_2221, negF3_2221, invF3_2221, stpF3_2221] = TF3_2221.ffs := by kernel_rfl
theorem madeF3_2221 (w : Wd) : m_l_world [Tb.dI 3, .tup moF3_2221] w = some (.lst TF3_2221.wws, w) :=
  world_of _ (Tb.dI 3) (Tb.dI 27) lsum33 lproF3_2221 _ _ w (by kernel_rfl) (hlpow33 w) (hlsum33 w) (hlproF3_2221 w) (by kernel_rfl)
theorem goodF3_2221 : Good F3_2221 := fun w hw => ⟨(initF3_2221 w hw).trans (congrArg (fun x => some (D.obj x, w)) (ffsF3_2221.trans (ffs_fe F3_2221).symm)), (madeF3_2221 w).trans (congrArg (fun x => some (D.lst x, w)) (wws_fe F3_2221).symm)⟩
end K39
end
section
set_option maxRecDepth 100000
set_option autoImplicit false
/-! R5: l_field -/
namespace K39
open Lean.Grind FF FD FX
def kinds : List D := [.tup [.int 2, .int 1], .tup [.int 3, .int 1], .tup [.int 2, .int 2], .tup [.int 2, .int 2], .tup [.int 2, .int 3], .tup [.int 2, .int 3], .tup [.int 2, .int 3], .tup [.int 2, .int 4], .tup [.int 2, .int 4], .tup [.int 2, .int 4],
  .tup [.int 3, .int 2], .tup [.int 3, .int 2], .tup [.int 3, .int 2], .tup [.int 3, .int 3], .tup [.int 3, .int 3], .tup [.int 3, .int 3]]
/-- what the field's tail gives -/
def Drawn (w : Wd) : Prop := ∃ (O : OT) (w1 : Wd), m_l_field [.hand] w = some (.tup [fobj (Fe O), wobj (Fe O)], w1) ∧ HW w1
def modsD (Os : List OT) : List D := Os.map fun O => .tup (O.T.mo.map Tb.dI)
theorem field_tail (P d : Int) (Os : List OT) (hO : ∀ O, O ∈ Os → Good O ∧ Tb.dI O.T.p = .int P) (hne : 0 < Os.length) (hlen : Os.length < 100) (hm : ∀ w, m_l_moduli [.int P, .int d] w = some (.lst (modsD Os), w)) {w w1 : Wd} (hw : HW w1)
    (i : Int) (hi : L2.atI kinds i = some (.tup [.int P, .int d])) (hd : m_l_draw [.hand, .int 16] w = some (.int i, w1)) : Drawn w := by
  have lm : (modsD Os).length = Os.length := List.length_map ..
  obtain ⟨r, w2, e1, hw2, h0, h1⟩ := m_draw ((Os.length : Nat) : Int) (by omega) (by omega) hw
  obtain ⟨k, rfl⟩ : ∃ k : Nat, r = k := ⟨r.toNat, by omega⟩
  have hk : k < Os.length := by omega
  obtain ⟨g, gp⟩ := hO Os[k] (List.getElem_mem hk)
  have ix : L2.atI (modsD Os) (k : Int) = some (.tup (Os[k].T.mo.map Tb.dI)) := by
    rw [atI_nat]
    unfold modsD
    rw [List.getElem?_map, List.getElem?_eq_getElem hk]
    rfl
  obtain ⟨g1, g2⟩ := g w2 (hw_pl hw2)
  rw [gp] at g1 g2
  refine ⟨Os[k], w2, ?_, hw2⟩
  generalize Os[k].T.mo.map Tb.dI = mo at ix g1 g2
  generalize hff : fobj (Fe Os[k]) = ff at g1
  generalize hww : wobj (Fe Os[k]) = ww at g2
  refine fn_rt (seq_w [.val .hand, .val (.lst (kinds.take 10)), .no, .no, .no, .no] ?_ (seq_w [.val .hand, .val (.lst kinds), .no, .no, .no, .no] ?_ (seq_to (ρ1 := [.val .hand, .val (.lst kinds), .val (.int P), .val (.int d), .no, .no]) (w1 := w1) ?_ (seq_w [.val .hand, .val (.lst kinds), .val (.int P), .val (.int d), .val (.lst (modsD Os)), .no] ?_ (seq_to (ρ1 := [.val .hand, .val (.lst kinds), .val (.int P), .val (.int d), .val (.lst (modsD Os)), .val (.tup mo)]) (w1 := w2) ?_ ?_)))))
  · rfl
  · rfl
  · simp [hd, hi]
  · simp [hm]
  · simp [lm, e1, ix]
  · simp [g1, g2]
end K39
end
section
set_option maxRecDepth 100000
set_option autoImplicit false
/-! R6: l_field, the law -/
namespace K39
open Lean.Grind FF FD FX
theorem all1 {p : OT → Prop} : ∀ O, O ∈ ([] : List OT) → p O := fun _ h => nomatch h
theorem all2 {p : OT → Prop} {O : OT} {Os : List OT} (h : p O) (k : ∀ O, O ∈ Os → p O) : ∀ Q, Q ∈ O :: Os → p Q := fun Q m => by
  rcases List.mem_cons.mp m with e | m
  · rw [e]; exact h
  · exact k Q m
theorem drawn_21 {w w1 : Wd} (hw : HW w1) (i : Int) (hi : L2.atI kinds i = some (.tup [.int 2, .int 1])) (hd : m_l_draw [.hand, .int 16] w = some (.int i, w1)) : Drawn w :=
  field_tail 2 1 [F2_01, F2_11] (all2 ⟨goodF2_01, rfl⟩ (all2 ⟨goodF2_11, rfl⟩ all1)) (by decide) (by decide) (fun w => by kernel_rfl) hw i hi hd
theorem drawn_22 {w w1 : Wd} (hw : HW w1) (i : Int) (hi : L2.atI kinds i = some (.tup [.int 2, .int 2])) (hd : m_l_draw [.hand, .int 16] w = some (.int i, w1)) : Drawn w :=
  field_tail 2 2 [F2_111] (all2 ⟨goodF2_111, rfl⟩ all1) (by decide) (by decide) (fun w => by kernel_rfl) hw i hi hd
theorem drawn_23 {w w1 : Wd} (hw : HW w1) (i : Int) (hi : L2.atI kinds i = some (.tup [.int 2, .int 3])) (hd : m_l_draw [.hand, .int 16] w = some (.int i, w1)) : Drawn w :=
  field_tail 2 3 [F2_1101, F2_1011] (all2 ⟨goodF2_1101, rfl⟩ (all2 ⟨goodF2_1011, rfl⟩ all1)) (by decide) (by decide) (fun w => by kernel_rfl) hw i hi hd
theorem drawn_24 {w w1 : Wd} (hw : HW w1) (i : Int) (hi : L2.atI kinds i = some (.tup [.int 2, .int 4])) (hd : m_l_draw [.hand, .int 16] w = some (.int i, w1)) : Drawn w :=
  field_tail 2 4 [F2_11001, F2_10011, F2_11111] (all2 ⟨goodF2_11001, rfl⟩ (all2 ⟨goodF2_10011, rfl⟩ (all2 ⟨goodF2_11111, rfl⟩ all1))) (by decide) (by decide) (fun w => by kernel_rfl) hw i hi hd
theorem drawn_31 {w w1 : Wd} (hw : HW w1) (i : Int) (hi : L2.atI kinds i = some (.tup [.int 3, .int 1])) (hd : m_l_draw [.hand, .int 16] w = some (.int i, w1)) : Drawn w :=
  field_tail 3 1 [F3_01, F3_11, F3_21] (all2 ⟨goodF3_01, rfl⟩ (all2 ⟨goodF3_11, rfl⟩ (all2 ⟨goodF3_21, rfl⟩ all1))) (by decide) (by decide) (fun w => by kernel_rfl) hw i hi hd
theorem drawn_32 {w w1 : Wd} (hw : HW w1) (i : Int) (hi : L2.atI kinds i = some (.tup [.int 3, .int 2])) (hd : m_l_draw [.hand, .int 16] w = some (.int i, w1)) : Drawn w :=
  field_tail 3 2 [F3_101, F3_211, F3_221] (all2 ⟨goodF3_101, rfl⟩ (all2 ⟨goodF3_211, rfl⟩ (all2 ⟨goodF3_221, rfl⟩ all1))) (by decide) (by decide) (fun w => by kernel_rfl) hw i hi hd
theorem drawn_33 {w w1 : Wd} (hw : HW w1) (i : Int) (hi : L2.atI kinds i = some (.tup [.int 3, .int 3])) (hd : m_l_draw [.hand, .int 16] w = some (.int i, w1)) : Drawn w :=
  field_tail 3 3 [F3_1201, F3_2201, F3_2011, F3_2111, F3_1211, F3_1021, F3_1121, F3_2221] (all2 ⟨goodF3_1201, rfl⟩ (all2 ⟨goodF3_2201, rfl⟩ (all2 ⟨goodF3_2011, rfl⟩ (all2 ⟨goodF3_2111, rfl⟩ (all2 ⟨goodF3_1211, rfl⟩ (all2 ⟨goodF3_1021, rfl⟩ (all2 ⟨goodF3_1121, rfl⟩ (all2 ⟨goodF3_2221, rfl⟩ all1)))))))) (by decide) (by decide) (fun w => by kernel_rfl) hw i hi hd
theorem m_field {w : Wd} (hw : HW w) : Drawn w := by
  obtain ⟨r, w1, hd, hw1, h0, h1⟩ := m_draw 16 (by omega) (by omega) hw
  rcases (show r = 0 ∨ r = 1 ∨ r = 2 ∨ r = 3 ∨ r = 4 ∨ r = 5 ∨ r = 6 ∨ r = 7 ∨ r = 8 ∨ r = 9 ∨ r = 10 ∨ r = 11 ∨ r = 12 ∨ r = 13 ∨ r = 14 ∨ r = 15 by omega) with e | e | e | e | e | e | e | e | e | e | e | e | e | e | e | e <;> subst e
  · exact drawn_21 hw1 _ rfl hd
  · exact drawn_31 hw1 _ rfl hd
  · exact drawn_22 hw1 _ rfl hd
  · exact drawn_22 hw1 _ rfl hd
  · exact drawn_23 hw1 _ rfl hd
  · exact drawn_23 hw1 _ rfl hd
  · exact drawn_23 hw1 _ rfl hd
  · exact drawn_24 hw1 _ rfl hd
  · exact drawn_24 hw1 _ rfl hd
  · exact drawn_24 hw1 _ rfl hd
  · exact drawn_32 hw1 _ rfl hd
  · exact drawn_32 hw1 _ rfl hd
  · exact drawn_32 hw1 _ rfl hd
  · exact drawn_33 hw1 _ rfl hd
  · exact drawn_33 hw1 _ rfl hd
  · exact drawn_33 hw1 _ rfl hd
theorem law_true : LawTrue := fun ns hn => by
  obtain ⟨cs, t, h⟩ := m_hand ns hn []
  obtain ⟨O, w1, h1, h2⟩ := m_field (w := [.lst (dI cs), .int 0, .int 0, .int t]) ⟨cs, 0, 0, t, rfl, by omega⟩
  obtain ⟨w', e⟩ := law_run (α := Fe O) (s0 := .val (.scr ns)) h1 h2
  exact ⟨cs, 0, 0, t, w', h, e⟩
end K39
end
open PySem PySem.W PyProof.Rows
set_option maxRecDepth 100000 in
set_option maxHeartbeats 0 in
theorem PySem.Challenge.cw_rankwords_k39_whole_divisions_zeros_and_holds : PySem.Challenge.rw_rankwords_k39_whole_divisions_zeros_and.Holds := by
  exact K39.holds_of K39.law_true
