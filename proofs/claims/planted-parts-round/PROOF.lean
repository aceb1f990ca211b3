import PyProof.Rows.All
import Wide.All
import OpenK.AllK
import Wide.FinOn
import HandS.ForMost
import HandS.Star
import HandS.Deep
import HandS.Conv
import HandS.Zip
import HandS.TupAny
import HandS.TupMul
import HandS.Style
import HandS.Flow
import HandS.Walk
import HandS.More
import HandS.Strs
import HandS.SetFor
import KE.SortData
import KE.GoesEnum
import PyProof.ReprRoads
import KE.GoesNew
import PySem.Challenge.RW_whilemoved_k07_whole_planted_parts_gone
set_option Elab.async false
set_option linter.all false
set_option maxRecDepth 100000
set_option maxHeartbeats 4000000
/-! Part A: tuples whose object is known to have no dict; rules that the layer lacks. -/
namespace DL
open PySem PySem.Spec PyProof.Rows L2

/-- a tuple's object, known: no dict of its own -/
def TupAt (H : Hp) (a : Addr) (xs : List V) : Prop := ∃ o : Obj, (o.dict = none ∧ o.slots = #[]) ∧ H a = some (.frz o (.tup xs))
theorem TupAt.sq {K : PySem.W.Frag} {H : Hp} {a : Addr} {xs : List V} (h : TupAt H a xs) : SqT K H a xs := by
  obtain ⟨o, _, e⟩ := h
  exact Or.inl (Or.inr ⟨o, e⟩)
theorem TupAt.mono {H H' : Hp} {a : Addr} {xs : List V} (e : Same H H') (h : TupAt H a xs) : TupAt H' a xs := by
  obtain ⟨o, d, h⟩ := h
  exact ⟨o, d, e _ _ h⟩
theorem TupAt.ne_lst {H : Hp} {a b : Addr} {xs ys : List V} (h : TupAt H a xs) (h2 : H b = some (.lst ys)) : a ≠ b := by
  obtain ⟨o, _, h⟩ := h
  exact ne_of h h2 (fun z => by cases z)
theorem TupAt.upd {H : Hp} {a b : Addr} {xs : List V} {u : HO} (h : TupAt H a xs) (hn : a ≠ b) : TupAt (upd H b u) a xs := by
  obtain ⟨o, d, h⟩ := h
  exact ⟨o, d, by rw [upd_ne hn]; exact h⟩
theorem TupAt.inj {H : Hp} {a : Addr} {xs ys : List V} (h : TupAt H a xs) (h2 : TupAt H a ys) : xs = ys := by
  obtain ⟨o, _, h⟩ := h
  obtain ⟨o2, _, h2⟩ := h2
  rw [h] at h2
  cases h2
  rfl
theorem same_new {H : Hp} {p : Addr} {o : HO} (h : H p = none) : Same H (upd H p o) := fun b x e => by
  rw [upd_ne (ne_of_none e h)]
  exact e
/-- what a new tuple brings -/
def NewT (H : Hp) (xs : List V) (Q : VK) : Prop := ∀ p H2, H p = none → Same H H2 → TupAt H2 p xs → (∀ b, b ≠ p → H2 b = H b) → Q (.ref p) H2
def NewL (H : Hp) (xs : List V) (Q : VK) : Prop := ∀ p, H p = none → Q (.ref p) (upd H p (.lst xs))

section
variable {X : Cx} {pins : List (Addr × Obj)} {σ : L2.St} {H : Hp} {s : Shared}
theorem laid_tuple {h' : Heap} {o : Obj} {its : List Value} {n : Nat} {p : Addr} {xs : List V} {Q : VK} {tk : Nat} (I : Inv X pins σ H s) (kp : ∀ b u, s.heap.get? b = some u → h'.get? b = some u) (hp : s.heap.objs.size ≤ p)
    (e : h'.get? p = some o) (hd : o.dict = none ∧ o.slots = #[]) (hc : o.cls = .type "tuple") (hq : o.data = .seq its.toArray n) (r : Vals xs its) (z : xs.length ≤ sizeLine) (q : NewT H xs Q) :
    EP X pins σ Q (.ref p) { s with heap := h', toks := tk } := by
  have hf : H p = none := I.hok.fresh hp
  refine ⟨.ref p, L2.upd H p (.frz o (.tup xs)), I.laid (t' := tk) kp hp ⟨e, z, its, r, o, e, hc, n, hq⟩, rfl, q p _ hf (same_new hf) ⟨o, hd, upd_same⟩ fun b hb => upd_ne hb⟩
end

section
variable {X : Cx} {pos : Pos} {e : Expr} {es : List Expr} {t : TA}
theorem pe_tupF {x1} (h : PA X es t) : PE X (.Tuple es x1 pos) (fun σ H Q => t σ H fun xs H1 => xs.length ≤ sizeLine ∧ NewT H1 xs Q) := by
  refine ⟨fun pins s σ H Q I hq => ?_⟩
  refine wpAny_Tuple_spliced (thn (h.run pos pins s σ H _ I hq) fun us s1 hh => ?_)
  obtain ⟨xs, H1, I1, r, z, q⟩ := hh
  refine ⟨by rw [← r.length]; exact z, ?_⟩
  exact laid_tuple (tk := s1.toks) I1 (fun b u e => Heap.get?_push_of_some _ e) (Nat.le_refl _) (Heap.get?_push_size _ rfl) ⟨rfl, rfl⟩ rfl rfl r z q

/-- tuple(list), tuple(tuple) -/
theorem ct_list : CallR X (.type "tuple") (fun xs H Q => ∃ p ys, xs = [.ref p] ∧ SqL X.K H p ys ∧ NewT H ys Q) := by
  intro pins s σ H xs us Q I r h
  obtain ⟨p, ys, rfl, hq, q⟩ := h
  obtain ⟨u, rfl, rx⟩ := r.one
  cases rx
  obtain ⟨its, r', pl, hz⟩ := I.list hq
  have hlen := r'.length
  refine call_tuple_list pl.isList (fun h' kp => ?_) (by rw [List.size_toArray]; omega)
  have I1 : Inv X pins σ H { s with heap := h' } := I.kept (t' := s.toks) kp
  exact laid_tuple (s := { s with heap := h' }) (tk := s.toks) I1 (fun b o ob => Heap.get?_push_of_some _ ob) (Nat.le_refl _) (Heap.get?_push_size _ rfl) ⟨rfl, rfl⟩ rfl rfl r' hz q
theorem ct_tup : CallR X (.type "tuple") (fun xs H Q => ∃ p ys, xs = [.ref p] ∧ SqT X.K H p ys ∧ Q (.ref p) H) := by
  intro pins s σ H xs us Q I r h
  obtain ⟨p, ys, e, hq, q⟩ := h
  exact call_tuple_of pins s σ H xs us Q I r ⟨p, ys, e, .inr ⟨hq, q⟩⟩

/-- t + u -/
theorem op_catF : OpR X (binaryOp .Add) (fun x y H Q => ∃ a b xs ys, x = .ref a ∧ y = .ref b ∧ TupAt H a xs ∧ TupAt H b ys ∧ xs.length + ys.length ≤ sizeLine ∧
    ∀ p H2, Same H H2 → TupAt H2 p (xs ++ ys) → (p = a ∨ p = b ∨ H p = none) → Q (.ref p) H2) := by
  intro pins s σ H x y v u Q I rx ry h
  obtain ⟨a, b, xs, ys, rfl, rfl, ha, hb, hz, q⟩ := h
  by_cases hx : xs = []
  · refine op_catA pins s σ H _ _ v u Q I rx ry ⟨a, b, xs, ys, rfl, rfl, ha.sq, hb.sq, hz, fun _ => ?_, fun n => absurd hx n, fun n => absurd hx n⟩
    exact q b H (Same.refl H) (by rw [hx]; exact hb) (.inr (.inl rfl))
  by_cases hy : ys = []
  · refine op_catA pins s σ H _ _ v u Q I rx ry ⟨a, b, xs, ys, rfl, rfl, ha.sq, hb.sq, hz, fun n => absurd n hx, fun _ _ => ?_, fun _ n => absurd hy n⟩
    exact q a H (Same.refl H) (by rw [hy, List.append_nil]; exact ha) (.inl rfl)
  cases rx
  cases ry
  obtain ⟨its, r1, p1, _⟩ := I.tuple (ha.sq (K := X.K))
  obtain ⟨its2, r2, p2, _⟩ := I.tuple (hb.sq (K := X.K))
  refine HT.cat_tup p1 p2 (fun z => hx (r1.nil_iff.mp z)) (fun z => absurd (r2.nil_iff.mp z) hy) (fun z => ?_) (by rw [← r1.length, ← r2.length]; exact hz)
  exact laid_tuple (tk := s.toks) I (fun b o ob => Heap.get?_push_of_some _ ob) (Nat.le_refl _) (Heap.get?_push_size _ rfl) ⟨rfl, rfl⟩ rfl rfl (r1.append r2) (by rw [List.length_append]; exact hz)
    fun p H2 hn sm ht _ => q p H2 sm ht (.inr (.inr hn))

/-- t[lo:hi] -/
theorem sl_tupF : SlR X (fun x lo hi H Q => ∃ a xs, x = .ref a ∧ TupAt H a xs ∧ ∀ p H2, Same H H2 → TupAt H2 p (cutV xs lo hi) → (p = a ∨ H p = none) → Q (.ref p) H2) := by
  intro pins s σ H x v vl vu lo hi sl Q I rx hs pl pu h
  obtain ⟨a, xs, rfl, hx, q⟩ := h
  by_cases hw : HT.sIx xs.length 0 lo = 0 ∧ HT.sIx xs.length xs.length hi = xs.length
  · refine sl_tupA pins s σ H _ v vl vu lo hi sl Q I rx hs pl pu ⟨a, xs, rfl, hx.sq, fun _ => q a H (Same.refl H) ?_ (.inl rfl), fun n => absurd hw n⟩
    have e : cutV xs lo hi = xs := by
      unfold cutV
      rw [hw.1, hw.2, List.drop_zero, Nat.sub_zero, List.take_length]
    rw [e]
    exact hx
  · cases rx
    obtain ⟨its, r, ht, hz⟩ := I.tuple (hx.sq (K := X.K))
    have hlen : its.toArray.size = xs.length := by rw [List.size_toArray]; exact r.length.symm
    refine ⟨"tuple", _, PyProof.Rows.slot_tuple_getitem.lookup, ht.typeIs, ?_⟩
    refine HT.getItem_tuple_cut ht hs pl pu (by rw [hlen]; exact hw) ?_ (by rw [hlen]; exact hz)
    rw [hlen]
    exact laid_tuple (tk := s.toks) I (fun b o ob => Heap.get?_push_of_some _ ob) (Nat.le_refl _) (Heap.get?_push_size _ rfl) ⟨rfl, rfl⟩ rfl rfl
      ((r.drop (HT.sIx xs.length 0 lo)).take (HT.sIx xs.length xs.length hi - HT.sIx xs.length 0 lo)) (Nat.le_trans (cutV_length xs lo hi) hz) fun p H2 hn sm ht _ => q p H2 sm ht (.inr hn)
end
end DL

/-! Part B: what loops and comprehensions walk: enumerate(tuple), zip(list, tuple). -/
namespace DL
open PySem PySem.Spec PyProof.Rows L2

theorem enum1_new {v : Value} {o : Obj} {Hh : Heap → Prop} (B : Begins v o Hh) :
    Meets (Builtin.«enumerate.__new__» ⟨[.type "enumerate", v], []⟩) (fun _ R s => Hh s.heap ∧ R (.ok (.ret (.ref (s.heap.push o).objs.size)))
      { s with heap := (s.heap.push o).push { cls := .type "enumerate", data := .fields #[.none, .bool false, .ref s.heap.objs.size, rawInt 0, .none, .none] } }) :=
  .of_wp fun prog w A R s hh => by
    obtain ⟨hp, g, d, tk, os⟩ := s
    obtain ⟨h1, hr⟩ := hh
    have hsub := sub_enumerate
    have qi : ∀ {A' : Around} {E Q : Value → Shared → Prop}, Q (.ref hp.objs.size) ⟨hp.push o, g, d, tk, os⟩ → wpAny (model prog w) A' (pyIter v) Q E ⟨hp, g, d, tk, os⟩ := fun q => B.iter prog w _ _ ⟨hp, g, d, tk, os⟩ _ h1 q
    wp_walk using qi
    refine wpAny_stack_any fun st => wpAny_pure ?_
    split
    · rename_i c _ _ _ _ _
      cases (c == Value.type "enumerate") <;> (wp_walk using qi; exact ⟨_, rfl, hr⟩)
    · wp_walk using qi
      exact ⟨_, rfl, hr⟩

section
variable {prog : Program} {w : World} {A : Around} {E : Value → Shared → Prop} {s : Shared}
theorem enum1_begins {v : Value} {o : Obj} {Hh : Heap → Prop} {Q : Value → Shared → Prop} (B : Begins v o Hh) (h1 : Hh s.heap)
    (h : ∀ h', IsEnum h' (s.heap.objs.size + 1) s.heap.objs.size 0 .none → h'.get? s.heap.objs.size = some o → (∀ b ob, s.heap.get? b = some ob → h'.get? b = some ob) →
      Q (.ref (s.heap.objs.size + 1)) { s with heap := h' }) : wpAny (model prog w) A (call (.type "enumerate") [v]) Q E s := by
  refine callType_new F.called_enumerate (by decide) (F.typeCall_enumerate_1 _) (F.newCall_enumerate_1 _) (fun obj => F.args_object_init_2 obj _) F.entry_enumerate_new (enum1_new B) ⟨h1, ?_⟩
  have hz : (s.heap.push o).objs.size = s.heap.objs.size + 1 := Heap.size_push ..
  show _ ∧ _
  rw [hz]
  have he : IsEnum ((s.heap.push o).push { cls := .type "enumerate", data := .fields #[.none, .bool false, .ref s.heap.objs.size, rawInt 0, .none, .none] }) (s.heap.objs.size + 1) s.heap.objs.size 0 .none := by
    have z := Heap.get?_push_size (s.heap.push o) (o := { cls := .type "enumerate", data := .fields #[.none, .bool false, .ref s.heap.objs.size, rawInt 0, .none, .none] }) rfl
    rw [hz] at z
    exact z
  exact ⟨⟨_, he, rfl⟩, h _ he (Heap.get?_push_of_some _ (Heap.get?_push_size _ B.free)) fun b ob x => Heap.get?_push_of_some _ (Heap.get?_push_of_some _ x)⟩
end

/-- enumerate of the tuple at a -/
def IteT (K : PySem.W.Frag) (a : Addr) : It :=
  ⟨fun i H => ∃ xs x, SqT K H a xs ∧ xs[i]? = some x,
   fun i H v H' => ∃ T x, v = .ref T ∧ H T = none ∧ H' = upd H T (.tup [.int (i : Nat), x]) ∧ ∀ xs, SqT K H a xs → xs[i]? = some x,
   fun i H => ∃ xs, SqT K H a xs ∧ xs.length = i⟩
def EnumSt (a e it : Addr) (i : Nat) (h : Heap) : Prop := (∃ old, IsEnum h e it ((0 : Int) + (i : Nat)) old) ∧ h.IsTupleIter it a i ∧ e ≠ it

theorem turn_enumT {P : Program} {w : World} {K : PySem.W.Frag} {elts : List Expr} {kk : Nat} {tpos : Pos} (a e it : Addr) :
    Turn P w K (.Tuple elts kk tpos) (IteT K a) [e, it] e (EnumSt a e it) where
  mem := by simp
  obj := fun i h st b hb => by
    obtain ⟨⟨old, he⟩, ⟨o, ho, hc, hd⟩, _⟩ := st
    have e' : b = e ∨ b = it := by simpa using hb
    rcases e' with z | z
    · subst z; exact ⟨_, he, fun v q => nomatch q⟩
    · subst z; exact ⟨o, ho, fun v q => by rw [hd] at q; cases q⟩
  keep := fun i h h' st k => by
    obtain ⟨⟨old, he⟩, hi, hne⟩ := st
    exact ⟨⟨old, k e (by simp) _ he⟩, hi.at fun o q => k it (by simp) o q, hne⟩
  item := by
    intro X hP hw hK hc i pins s σ H E I hf st hg
    subst hP hw hK
    obtain ⟨xs, x, hq, hx⟩ := hg
    obtain ⟨hen, hit, hne⟩ := st
    obtain ⟨its, rv, p, hz⟩ := I.tuple hq
    obtain ⟨u, hu, ru⟩ := rv.get hx
    have hlt : e < s.heap.objs.size ∧ it < s.heap.objs.size ∧ a < s.heap.objs.size := by
      obtain ⟨_, he⟩ := hen
      obtain ⟨_, q, _⟩ := id hit
      exact ⟨Heap.lt_size he, Heap.lt_size q, p.lt⟩
    have nT : ∀ b, b ∈ [e, it] → H b = none := fun b hb => (hf b hb).1
    have hae : a ≠ it ∧ a ≠ e := by
      have ht : ∃ o, s.heap.get? a = some o ∧ o.cls = .type "tuple" := by
        obtain ⟨o, q1, q2, _⟩ := id p
        exact ⟨o, q1, q2⟩
      obtain ⟨o, q1, q2⟩ := ht
      refine ⟨fun z => ?_, fun z => ?_⟩
      · subst z
        obtain ⟨o2, r1, r2, _⟩ := id hit
        rw [q1] at r1; cases r1
        rw [q2] at r2
        exact absurd r2 (by decide)
      · subst z
        obtain ⟨old, he⟩ := hen
        have he : s.heap.get? a = some _ := he
        rw [q1] at he; cases he
        exact absurd q2 (by simp)
    have W := GoesN.enumFrom (prog := X.prog) (w := X.w) (A := X.A) (elts := elts) (x1 := kk) (pos := tpos) 0 (Draws.tuple (prog := X.prog) (w := X.w) (A := X.A.in1) (I.ok.hd hc) it a hae.1 its.toArray) e hne (by simp [hne, hae.2.symm]) (by simp)
    have hil : i < its.toArray.size := by
      have := (List.getElem?_eq_some_iff.mp hu).1
      simpa using this
    refine thn (W.goes i s (fun v s' => ∃ x H1, Inv X pins σ H1 s' ∧ RelV x v ∧ (IteT X.K a).yld i H x H1 ∧ EnumSt a e it (i + 1) s'.heap ∧ ∀ b ∈ [e, it], H1 b = none) E hil ⟨hen, hit, p⟩ fun v h' tk hY st' hk _ => ?_) fun r s1 hr => ?_
    · obtain ⟨T, t, y, rfl, hT, hy, hTt⟩ := hY
      have hyu : y = u := by
        have e1 : its.toArray[i]? = some u := by simpa using hu
        rw [e1] at hy
        exact (Option.some.inj hy).symm
      subst hyu
      have new : ObjOk X.prog X.w (upd H T (.tup [.int (i : Nat), x])) h' T (.tup [.int (i : Nat), x]) := by
        refine ⟨by show 2 ≤ sizeLine; decide, [.int ((0 : Int) + (i : Nat)) t, y], .cons ⟨t, by rw [Int.zero_add]⟩ (.cons ru .nil), ?_⟩
        exact hTt
      refine ⟨.ref T, _, I.turnedNew (t' := tk) (ch := [e, it]) (fun b ob hb q => hk b ob hb q) hf hT new, rfl, ⟨T, x, rfl, I.hok.fresh hT, rfl, fun ys hys => by rw [I.tuple_inj hys hq]; exact hx⟩, ⟨st'.1, st'.2.1, hne⟩, fun b hb => ?_⟩
      have hbl : b < s.heap.objs.size := by
        have e' : b = e ∨ b = it := by simpa using hb
        rcases e' with z | z
        · rw [z]; exact hlt.1
        · rw [z]; exact hlt.2.1
      rw [upd_ne (Nat.ne_of_lt (Nat.lt_of_lt_of_le hbl hT))]
      exact nT b hb
    · obtain ⟨v, rfl, h2⟩ := hr
      exact ⟨v, rfl, thn h2 fun _ s2 q => q⟩
  done := by
    intro X hP hw hK hc i pins s σ H E I hf st hg
    subst hP hw hK
    obtain ⟨xs, hq, hx⟩ := hg
    obtain ⟨hen, hit, hne⟩ := st
    obtain ⟨its, rv, p, hz⟩ := I.tuple hq
    have hae : a ≠ it ∧ a ≠ e := by
      have ht : ∃ o, s.heap.get? a = some o ∧ o.cls = .type "tuple" := by
        obtain ⟨o, q1, q2, _⟩ := id p
        exact ⟨o, q1, q2⟩
      obtain ⟨o, q1, q2⟩ := ht
      refine ⟨fun z => ?_, fun z => ?_⟩
      · subst z
        obtain ⟨o2, r1, r2, _⟩ := id hit
        rw [q1] at r1; cases r1
        rw [q2] at r2
        exact absurd r2 (by decide)
      · subst z
        obtain ⟨old, he⟩ := hen
        have he : s.heap.get? a = some _ := he
        rw [q1] at he; cases he
        exact absurd q2 (by simp)
    have W := GoesN.enumFrom (prog := X.prog) (w := X.w) (A := X.A) (elts := elts) (x1 := kk) (pos := tpos) 0 (Draws.tuple (prog := X.prog) (w := X.w) (A := X.A.in1) (I.ok.hd hc) it a hae.1 its.toArray) e hne (by simp [hne, hae.2.symm]) (by simp)
    have hl := rv.length
    have hn : its.toArray.size = i := by rw [List.size_toArray]; omega
    rw [← hn] at hen hit
    exact W.stops s (fun s' => Inv X pins σ H s') E ⟨hen, hit, p⟩ fun h' tk hk _ => I.turnedL (t' := tk) (ch := [e, it]) (fun b o hb q => hk b o hb q) hf
  self := fun A i s Q E st h => by
    obtain ⟨⟨_, he⟩, _⟩ := st
    exact wpAny_pyIter_enum he h

def iEnumT (K : PySem.W.Frag) (ta : TA) : TI := fun σ H R => ta σ H fun vs H1 => ∃ a xs, vs = [.ref a] ∧ SqT K H1 a xs ∧ R (IteT K a) H1
theorem pi_enumT {X : Cx} {e : Expr} {ta : TA} {p pos tpos : Pos} {elts : List Expr} {kk : Nat} (hg : Gl X "enumerate") (hm : X.mg "enumerate" = none) (ha : PA X [e] ta)
    (hs : starEach [e] X.env = [(false, eval e X.env)] := by rfl) : PI X (.Tuple elts kk tpos) (.Call (.Name "enumerate" p) [e] [] pos) (iEnumT X.K ta) := by
  refine ⟨fun pins s σ H R I h => ?_⟩
  refine Call_ (ld_blt I hg hm boot_enumerate (PyProof.Rows.callWith_type1 (thn (ha.run pos pins s σ H _ I h) fun us s1 hh => ?_) hs rfl))
  obtain ⟨vs, H1, I1, r1, a, xs, rfl, hq, q⟩ := hh
  obtain ⟨u, rfl, ru⟩ := r1.one
  cases ru
  obtain ⟨its, rv, p', hz⟩ := I1.tuple hq
  refine enum1_begins (begins_tuple a its.toArray) p' fun h' he hit hk => wpAny_pyIter_enum he ?_
  refine ⟨s1.heap.objs.size + 1, [s1.heap.objs.size + 1, s1.heap.objs.size], EnumSt a _ _, _, H1, rfl, I1.kept (t' := s1.toks) hk, turn_enumT a (s1.heap.objs.size + 1) s1.heap.objs.size, ⟨⟨.none, he⟩, ⟨_, hit, rfl, rfl⟩, Nat.succ_ne_self _⟩, fun b hb => ?_, q⟩
  have hle : s1.heap.objs.size ≤ b := by
    have e' : b = s1.heap.objs.size + 1 ∨ b = s1.heap.objs.size := by simpa using hb
    rcases e' with z | z
    · rw [z]; exact Nat.le_succ _
    · rw [z]; exact Nat.le_refl _
  exact I1.fpOk hle (I1.hok.fresh hle)

/-- zip of the list at a and the tuple at b -/
def ItzM (K : PySem.W.Frag) (a b : Addr) : It :=
  ⟨fun i H => ∃ xs ys x y, SqL K H a xs ∧ SqT K H b ys ∧ xs[i]? = some x ∧ ys[i]? = some y,
   fun i H v H' => ∃ T x y, v = .ref T ∧ H T = none ∧ H' = upd H T (.tup [x, y]) ∧ (∀ xs, SqL K H a xs → xs[i]? = some x) ∧ ∀ ys, SqT K H b ys → ys[i]? = some y,
   fun i H => ∃ xs ys, SqL K H a xs ∧ SqT K H b ys ∧ i = min xs.length ys.length⟩
def ZipSt (a b N : Addr) (i : Nat) (h : Heap) : Prop :=
  IsZip h (N + 4) (N + 2) (N + 3) .none ∧ IsTupOf2 h (N + 2) (.ref N) (.ref (N + 1)) ∧ (∃ u v, IsTupOf2 h (N + 3) u v) ∧ h.IsListIter N a i ∧ h.IsTupleIter (N + 1) b i
abbrev zfp (N : Addr) : List Addr := [N + 4, N + 2, N + 3, N, N + 1]
theorem zfp_cases {N b : Addr} (h : b ∈ zfp N) : b = N + 4 ∨ b = N + 2 ∨ b = N + 3 ∨ b = N ∨ b = N + 1 := by simpa using h
theorem zfp_lt {a b N b' : Addr} {i : Nat} {h : Heap} (st : ZipSt a b N i h) (hb : b' ∈ zfp N) : b' < h.objs.size := by
  obtain ⟨h1, h2, ⟨u, v, h3⟩, ⟨o4, h4, _⟩, ⟨o5, h5, _⟩⟩ := st
  rcases zfp_cases hb with e | e | e | e | e
  · rw [e]; exact Heap.lt_size h1
  · rw [e]; exact Heap.lt_size h2
  · rw [e]; exact Heap.lt_size h3
  · rw [e]; exact Heap.lt_size h4
  · rw [e]; exact Heap.lt_size h5
theorem turn_zipM {P : Program} {w : World} {K : PySem.W.Frag} {elts : List Expr} {kk : Nat} {tpos : Pos} {a b N : Addr} (hab : a < N ∧ b < N) :
    Turn P w K (.Tuple elts kk tpos) (ItzM K a b) (zfp N) (N + 4) (ZipSt a b N) where
  mem := by simp
  obj := fun i h st c hc => by
    obtain ⟨h1, h2, ⟨u, v, h3⟩, ⟨o4, h4, _, d4⟩, ⟨o5, h5, _, d5⟩⟩ := st
    rcases zfp_cases hc with e | e | e | e | e
    · rw [e]; exact ⟨_, h1, fun v q => nomatch q⟩
    · rw [e]; exact ⟨_, h2, fun v q => nomatch q⟩
    · rw [e]; exact ⟨_, h3, fun v q => nomatch q⟩
    · rw [e]; exact ⟨o4, h4, fun v q => by rw [d4] at q; cases q⟩
    · rw [e]; exact ⟨o5, h5, fun v q => by rw [d5] at q; cases q⟩
  keep := fun i h h' st k => by
    obtain ⟨h1, h2, ⟨u, v, h3⟩, h4, h5⟩ := st
    exact ⟨k (N + 4) (by simp) _ h1, k (N + 2) (by simp) _ h2, ⟨u, v, k (N + 3) (by simp) _ h3⟩, h4.at fun o q => k N (by simp) o q, h5.at fun o q => k (N + 1) (by simp) o q⟩
  item := by
    intro X hP hw hK hc i pins s σ H E I hf st hg
    subst hP hw hK
    obtain ⟨xs, ys, x, y, hqx, hqy, hx, hy⟩ := hg
    have lts := @zfp_lt a b N
    obtain ⟨its, rv, p, _⟩ := I.list hqx
    obtain ⟨its2, rv2, p2, _⟩ := I.tuple hqy
    obtain ⟨u, hu, ru⟩ := rv.get hx
    obtain ⟨u2, hu2, ru2⟩ := rv2.get hy
    have W := GoesN.zip2 (prog := X.prog) (w := X.w) (A := X.A) (elts := elts) (x1 := kk) (pos := tpos) (zip_sep2 (N := N) (fp1 := [a]) (fp2 := [b]) (fun c hc => by rw [List.mem_singleton.mp hc]; exact hab.1) (fun c hc => by rw [List.mem_singleton.mp hc]; exact hab.2))
      (Draws.list (prog := X.prog) (w := X.w) (A := X.A.in1) (I.ok.hd hc) N a (Nat.ne_of_lt hab.1) its.toArray) (Draws.tuple (prog := X.prog) (w := X.w) (A := X.A.in1) (I.ok.hd hc) (N + 1) b (Nat.ne_of_lt (Nat.lt_succ_of_lt hab.2)) its2.toArray)
    have il1 : i < its.toArray.size := by
      have := (List.getElem?_eq_some_iff.mp hu).1
      simpa using this
    have il2 : i < its2.toArray.size := by
      have := (List.getElem?_eq_some_iff.mp hu2).1
      simpa using this
    obtain ⟨h1, h2, h3, h4, h5⟩ := id st
    refine thn (W.goes i s (fun v s' => ∃ x H1, Inv X pins σ H1 s' ∧ RelV x v ∧ (ItzM X.K a b).yld i H x H1 ∧ ZipSt a b N (i + 1) s'.heap ∧ ∀ c ∈ zfp N, H1 c = none) E (Nat.lt_min.mpr ⟨il1, il2⟩) ⟨h1, h2, h3, ⟨h4, p.isList⟩, ⟨h5, p2⟩⟩ fun v h' tk hY st' hk _ => ?_) fun r s1 hr => ?_
    · obtain ⟨T, z1, z2, rfl, hT, hz1, hz2, hTt⟩ := hY
      have e1 : its.toArray[i]? = some u := by simpa using hu
      have e2 : its2.toArray[i]? = some u2 := by simpa using hu2
      rw [e1] at hz1
      rw [e2] at hz2
      cases hz1
      cases hz2
      have new : ObjOk X.prog X.w (upd H T (.tup [x, y])) h' T (.tup [x, y]) := ⟨by show 2 ≤ sizeLine; decide, [u, u2], .cons ru (.cons ru2 .nil), hTt⟩
      refine ⟨.ref T, _, I.turnedNew (t' := tk) (ch := zfp N) (fun c ob hb q => hk c ob (fun z => hb ?_) q) hf hT new, rfl, ⟨T, x, y, rfl, I.hok.fresh hT, rfl, fun l hl => by rw [I.list_inj hl hqx]; exact hx, fun l hl => by rw [I.tuple_inj hl hqy]; exact hy⟩,
        ⟨st'.1, st'.2.1, st'.2.2.1, st'.2.2.2.1.1, st'.2.2.2.2.1⟩, fun c hcm => ?_⟩
      · have z' : c = N + 4 ∨ c = N + 3 ∨ c = N ∨ c = N + 1 := by simpa using z
        rcases z' with e | e | e | e <;> (rw [e]; simp)
      · rw [upd_ne (Nat.ne_of_lt (Nat.lt_of_lt_of_le (lts st hcm) hT))]
        exact (hf c hcm).1
    · obtain ⟨v, rfl, h6⟩ := hr
      exact ⟨v, rfl, thn h6 fun _ s2 q => q⟩
  done := by
    intro X hP hw hK hc i pins s σ H E I hf st hg
    subst hP hw hK
    obtain ⟨xs, ys, hqx, hqy, hend⟩ := hg
    obtain ⟨its, rv, p, _⟩ := I.list hqx
    obtain ⟨its2, rv2, p2, _⟩ := I.tuple hqy
    have W := GoesN.zip2 (prog := X.prog) (w := X.w) (A := X.A) (elts := elts) (x1 := kk) (pos := tpos) (zip_sep2 (N := N) (fp1 := [a]) (fp2 := [b]) (fun c hc => by rw [List.mem_singleton.mp hc]; exact hab.1) (fun c hc => by rw [List.mem_singleton.mp hc]; exact hab.2))
      (Draws.list (prog := X.prog) (w := X.w) (A := X.A.in1) (I.ok.hd hc) N a (Nat.ne_of_lt hab.1) its.toArray) (Draws.tuple (prog := X.prog) (w := X.w) (A := X.A.in1) (I.ok.hd hc) (N + 1) b (Nat.ne_of_lt (Nat.lt_succ_of_lt hab.2)) its2.toArray)
    have l1 := rv.length
    have l2 := rv2.length
    have hn : min its.toArray.size its2.toArray.size = i := by
      rw [List.size_toArray, List.size_toArray, ← l1, ← l2]
      exact hend.symm
    obtain ⟨h1, h2, h3, h4, h5⟩ := id st
    refine W.stops s (fun s' => Inv X pins σ H s') E (by rw [hn]; exact ⟨h1, h2, h3, ⟨h4, p.isList⟩, ⟨h5, p2⟩⟩) fun h' tk hk _ => I.turnedL (t' := tk) (ch := zfp N) (fun c o hb q => hk c o (fun z => hb ?_) q) hf
    have z' : c = N + 4 ∨ c = N + 3 ∨ c = N ∨ c = N + 1 := by simpa using z
    rcases z' with e | e | e | e <;> (rw [e]; simp)
  self := fun A i s Q E st h => wpAny_pyIter_zip st.1 h
def iZipM (K : PySem.W.Frag) (ta : TA) : TI := fun σ H R => ta σ H fun vs H1 => ∃ a b xs ys, vs = [.ref a, .ref b] ∧ SqL K H1 a xs ∧ SqT K H1 b ys ∧ R (ItzM K a b) H1
theorem pi_zipM {X : Cx} {e e2 : Expr} {ta : TA} {p pos tpos : Pos} {elts : List Expr} {kk : Nat} (hg : Gl X "zip") (hm : X.mg "zip" = none) (ha : PA X [e, e2] ta)
    (hs : starEach [e, e2] X.env = (false, eval e X.env) :: starEach [e2] X.env := by rfl) (hpl : (backTo pos (starEach [e2] X.env)).any (·.1) = false := by rfl) :
    PI X (.Tuple elts kk tpos) (.Call (.Name "zip" p) [e, e2] [] pos) (iZipM X.K ta) := by
  refine ⟨fun pins s σ H R I h => ?_⟩
  refine Call_ (ld_blt I hg hm PyProof.Rows.boot_zip (PyProof.Rows.callWith_type1 (thn (ha.run pos pins s σ H _ I h) fun us s1 hh => ?_) hs hpl))
  obtain ⟨vs, H1, I1, r1, a, b, xs, ys, rfl, hqx, hqy, q⟩ := hh
  cases r1 with
  | cons r rr =>
    obtain ⟨u2, rfl, r2⟩ := Vals.one rr
    cases r
    cases r2
    obtain ⟨its, rv, p1, _⟩ := I1.list hqx
    obtain ⟨its2, rv2, p2, _⟩ := I1.tuple hqy
    refine zip_begins2 (begins_list a its.toArray) (begins_tuple b its2.toArray) p1.isList p2 fun h' hz hTI hTO h1 h2 hsz hk => wpAny_pyIter_zip hz ?_
    refine ⟨s1.heap.objs.size + 4, zfp s1.heap.objs.size, ZipSt a b s1.heap.objs.size, _, H1, rfl, I1.kept (t' := s1.toks) hk, turn_zipM ⟨p1.lt, p2.lt⟩, ⟨hz, hTI, ⟨_, _, hTO⟩, ⟨_, h1, rfl, rfl⟩, ⟨_, h2, rfl, rfl⟩⟩, fun c hcm => ?_, q⟩
    have hle : s1.heap.objs.size ≤ c := by
      rcases zfp_cases hcm with z | z | z | z | z
      · rw [z]; exact Nat.le_add_right _ _
      · rw [z]; exact Nat.le_add_right _ _
      · rw [z]; exact Nat.le_add_right _ _
      · rw [z]; exact Nat.le_refl _
      · rw [z]; exact Nat.le_add_right _ _
    exact I1.fpOk hle (I1.hok.fresh hle)
end DL

/-! Part C: data (Dq), methods of tuples, extend by a tuple, xs[i] += e, t * 1, sorted of tuples, repr. -/
namespace DL
open PySem PySem.Spec PyProof.Rows L2

/-! ### data: lists that are tracked, tuples whose object is known -/
mutual
inductive Dq (H : Hp) : V → PyData → Prop
  | non : Dq H .non .none
  | bl (b : Bool) : Dq H (.bl b) (.bool b)
  | int (i : Int) : Dq H (.int i) (.int i)
  | lst {a : Addr} {xs : List V} {ds : List PyData} : H a = some (.lst xs) → DqAll H xs ds → Dq H (.ref a) (.list ds)
  | tup {a : Addr} {xs : List V} {ds : List PyData} : TupAt H a xs → DqAll H xs ds → Dq H (.ref a) (.tuple ds)
inductive DqAll (H : Hp) : List V → List PyData → Prop
  | nil : DqAll H [] []
  | cons {v : V} {vs : List V} {d : PyData} {ds : List PyData} : Dq H v d → DqAll H vs ds → DqAll H (v :: vs) (d :: ds)
end
section
variable {H H' : Hp}
mutual
theorem Dq.mono (e : Same H H') : ∀ {d : PyData} {v : V}, Dq H v d → Dq H' v d
  | .none, _, h => by cases h; exact .non
  | .bool _, _, h => by cases h; exact .bl _
  | .int _, _, h => by cases h; exact .int _
  | .str _, _, h => by cases h
  | .dict _, _, h => by cases h
  | .list ds, _, h => by
    cases h with
    | lst h1 h2 => exact .lst (e _ _ h1) (DqAll.mono e h2)
  | .tuple ds, _, h => by
    cases h with
    | tup h1 h2 => exact .tup (h1.mono e) (DqAll.mono e h2)
theorem DqAll.mono (e : Same H H') : ∀ {ds : List PyData} {vs : List V}, DqAll H vs ds → DqAll H' vs ds
  | [], _, h => by cases h; exact .nil
  | d :: ds, _, h => by
    cases h with
    | cons h1 h2 => exact .cons (Dq.mono e h1) (DqAll.mono e h2)
end
mutual
theorem Dq.dp {K : PySem.W.Frag} : ∀ {d : PyData} {v : V}, Dq H v d → Dp K H v d
  | .none, _, h => by cases h; exact .non
  | .bool _, _, h => by cases h; exact .bl _
  | .int _, _, h => by cases h; exact .int _
  | .str _, _, h => by cases h
  | .dict _, _, h => by cases h
  | .list ds, _, h => by
    cases h with
    | lst h1 h2 => exact .lst (SqL.of h1) (DqAll.dp h2)
  | .tuple ds, _, h => by
    cases h with
    | tup h1 h2 => exact .tup h1.sq (DqAll.dp h2)
theorem DqAll.dp {K : PySem.W.Frag} : ∀ {ds : List PyData} {vs : List V}, DqAll H vs ds → DpAll K H vs ds
  | [], _, h => by cases h; exact .nil
  | d :: ds, _, h => by
    cases h with
    | cons h1 h2 => exact .cons (Dq.dp h1) (DqAll.dp h2)
end
theorem DqAll.length : ∀ {ds : List PyData} {vs : List V}, DqAll H vs ds → vs.length = ds.length
  | [], _, h => by cases h; rfl
  | d :: ds, _, h => by
    cases h with
    | cons h1 h2 => rw [List.length_cons, List.length_cons, DqAll.length h2]
theorem DqAll.get : ∀ {ds : List PyData} {vs : List V} {i : Nat} {d : PyData}, DqAll H vs ds → ds[i]? = some d → ∃ v, vs[i]? = some v ∧ Dq H v d
  | [], _, _, _, _, e => by simp at e
  | d :: ds, _, 0, _, h, e => by
    cases h with
    | cons h1 h2 =>
      rw [List.getElem?_cons_zero] at e
      cases e
      exact ⟨_, rfl, h1⟩
  | d :: ds, _, i + 1, _, h, e => by
    cases h with
    | cons h1 h2 =>
      rw [List.getElem?_cons_succ] at e
      obtain ⟨v, a, b⟩ := DqAll.get h2 e
      exact ⟨v, by rw [List.getElem?_cons_succ]; exact a, b⟩
theorem DqAll.append : ∀ {ds es : List PyData} {vs ws : List V}, DqAll H vs ds → DqAll H ws es → DqAll H (vs ++ ws) (ds ++ es)
  | [], _, _, _, h, h2 => by cases h; exact h2
  | d :: ds, _, _, _, h, h2 => by
    cases h with
    | cons a b => exact .cons a (DqAll.append b h2)
theorem DqAll.one {v : V} {d : PyData} (h : Dq H v d) : DqAll H [v] [d] := .cons h .nil
theorem DqAll.take : ∀ {ds : List PyData} {vs : List V} (n : Nat), DqAll H vs ds → DqAll H (vs.take n) (ds.take n)
  | [], _, _, h => by cases h; simp; exact .nil
  | d :: ds, _, 0, h => by cases h; exact .nil
  | d :: ds, _, n + 1, h => by
    cases h with
    | cons a b => exact .cons a (DqAll.take n b)
theorem DqAll.drop : ∀ {ds : List PyData} {vs : List V} (n : Nat), DqAll H vs ds → DqAll H (vs.drop n) (ds.drop n)
  | [], _, _, h => by cases h; simp; exact .nil
  | d :: ds, _, 0, h => h
  | d :: ds, _, n + 1, h => by
    cases h with
    | cons a b => exact DqAll.drop n b
theorem DqAll.set {v : V} {d : PyData} (h0 : Dq H v d) : ∀ {ds : List PyData} {vs : List V} (n : Nat), DqAll H vs ds → DqAll H (vs.set n v) (ds.set n d)
  | [], _, _, h => by cases h; simp; exact .nil
  | e :: ds, _, 0, h => by
    cases h with
    | cons a b => exact .cons h0 b
  | e :: ds, _, n + 1, h => by
    cases h with
    | cons a b => exact .cons a (DqAll.set h0 n b)
theorem DqAll.split : ∀ {ds es : List PyData} {vs : List V}, DqAll H vs (ds ++ es) → ∃ v1 v2, vs = v1 ++ v2 ∧ DqAll H v1 ds ∧ DqAll H v2 es
  | [], _, vs, h => ⟨[], vs, rfl, .nil, h⟩
  | d :: ds, _, _, h => by
    cases h with
    | cons a b =>
      obtain ⟨v1, v2, e, h1, h2⟩ := DqAll.split b
      exact ⟨_ :: v1, v2, by rw [e]; rfl, .cons a h1, h2⟩
/-- ints -/
theorem DqAll.ints : ∀ (ns : List Int), DqAll H (ns.map V.int) (ns.map PyData.int)
  | [] => .nil
  | n :: ns => .cons (.int n) (DqAll.ints ns)
theorem DqAll.ints_inv : ∀ {ns : List Int} {vs : List V}, DqAll H vs (ns.map PyData.int) → vs = ns.map V.int
  | [], _, h => by cases h; rfl
  | n :: ns, vs, h => by
    have h' : DqAll H vs (.int n :: ns.map .int) := h
    cases h' with
    | cons a b =>
      cases a
      rw [DqAll.ints_inv b]
      rfl
theorem DqAll.bools_inv : ∀ {ns : List Bool} {vs : List V}, DqAll H vs (ns.map PyData.bool) → vs = ns.map V.bl
  | [], _, h => by cases h; rfl
  | n :: ns, vs, h => by
    have h' : DqAll H vs (.bool n :: ns.map .bool) := h
    cases h' with
    | cons a b =>
      cases a
      rw [DqAll.bools_inv b]
      rfl
/-- flat data -/
def flatD : PyData → Bool
  | .none => true
  | .int _ => true
  | .bool _ => true
  | _ => false
def toV : PyData → V
  | .none => .non
  | .int i => .int i
  | .bool b => .bl b
  | _ => .non
theorem Dq.flat {d : PyData} {v : V} (f : flatD d = true) (h : Dq H v d) : v = toV d ∧ flatV v = true := by
  cases h with
  | non => exact ⟨rfl, rfl⟩
  | bl b => exact ⟨rfl, rfl⟩
  | int i => exact ⟨rfl, rfl⟩
  | lst _ _ => exact absurd f Bool.false_ne_true
  | tup _ _ => exact absurd f Bool.false_ne_true
theorem DqAll.flat : ∀ {ds : List PyData} {vs : List V}, ds.all flatD = true → DqAll H vs ds → vs = ds.map toV ∧ vs.all flatV = true
  | [], _, _, h => by cases h; exact ⟨rfl, rfl⟩
  | d :: ds, _, f, h => by
    rw [List.all_cons, Bool.and_eq_true] at f
    cases h with
    | cons a b =>
      obtain ⟨e1, e2⟩ := a.flat f.1
      obtain ⟨e3, e4⟩ := DqAll.flat f.2 b
      exact ⟨by rw [e1, e3]; rfl, by rw [List.all_cons, e2, e4]; rfl⟩
theorem Dq.of_flat {d : PyData} (f : flatD d = true) : Dq H (toV d) d := by
  cases d with
  | none => exact .non
  | int i => exact .int i
  | bool b => exact .bl b
  | _ => exact absurd f Bool.false_ne_true
theorem DqAll.of_flat : ∀ {ds : List PyData}, ds.all flatD = true → DqAll H (ds.map toV) ds
  | [], _ => .nil
  | d :: ds, f => by
    rw [List.all_cons, Bool.and_eq_true] at f
    exact .cons (Dq.of_flat f.1) (DqAll.of_flat f.2)
/-- tuples of flat things do not hang on lists -/
theorem Dq.tupFlat {ds : List PyData} {v : V} (f : ds.all flatD = true) (h : Dq H v (.tuple ds)) : ∃ a, v = .ref a ∧ TupAt H a (ds.map toV) := by
  cases h with
  | tup h1 h2 =>
    obtain ⟨e, _⟩ := h2.flat f
    rw [e] at h1
    exact ⟨_, rfl, h1⟩
end

/-! ### small data: what == and repr ask -/
def tinyD : PyData → Bool
  | .none => true
  | .bool _ => true
  | .int i => decide (i.natAbs < 1000)
  | _ => false
def okD : Nat → PyData → Prop
  | 0, d => tinyD d = true
  | k + 1, d => tinyD d = true ∨ ∃ xs, (d = .list xs ∨ d = .tuple xs) ∧ xs.length ≤ 64 ∧ ∀ x ∈ xs, okD k x
theorem okD.up : ∀ {k : Nat} {d : PyData}, okD k d → okD (k + 1) d
  | 0, d, h => .inl h
  | k + 1, d, h => by
    rcases h with h | ⟨xs, e, l, f⟩
    · exact .inl h
    · exact .inr ⟨xs, e, l, fun x hx => okD.up (f x hx)⟩
theorem okD.mono {k m : Nat} {d : PyData} (h : okD k d) (hk : k ≤ m) : okD m d := by
  induction hk with
  | refl => exact h
  | step _ ih => exact ih.up
theorem tiny_facts {d : PyData} (h : tinyD d = true) : d.canLay0 = true ∧ d.depth = 0 ∧ d.showable = true ∧ d.hasDict = false ∧ d.shown.length ≤ 5 := by
  cases d with
  | none => exact ⟨rfl, rfl, rfl, rfl, by decide +kernel⟩
  | bool b => cases b <;> exact ⟨rfl, rfl, rfl, rfl, by decide +kernel⟩
  | int i =>
    have h' : i.natAbs < 1000 := of_decide_eq_true h
    refine ⟨rfl, rfl, ?_, rfl, ?_⟩
    · simp only [PyData.showable]
      refine decide_eq_true ?_
      have : i.natAbs.log2 < 10 := by
        by_cases e : i.natAbs = 0
        · rw [e]; decide
        · exact (Nat.log2_lt e).mpr (by omega)
      omega
    · simp only [PyData.shown]
      have := int_text_length_le10 (a := i) (k := 3) (by decide) (by omega)
      rw [PySem.ofString_length]
      omega
  | _ => exact absurd h Bool.false_ne_true

theorem ok_list {k : Nat} {xs : List PyData} (h : okD (k + 1) (.list xs)) : xs.length ≤ 64 ∧ ∀ x ∈ xs, okD k x := by
  rcases h with h | ⟨ys, e, l, f⟩
  · exact absurd h Bool.false_ne_true
  · rcases e with e | e
    · cases e; exact ⟨l, f⟩
    · cases e
theorem ok_tup {k : Nat} {xs : List PyData} (h : okD (k + 1) (.tuple xs)) : xs.length ≤ 64 ∧ ∀ x ∈ xs, okD k x := by
  rcases h with h | ⟨ys, e, l, f⟩
  · exact absurd h Bool.false_ne_true
  · rcases e with e | e
    · cases e
    · cases e; exact ⟨l, f⟩
/-- the signs of a datum of depth k at most -/
def signsAt : Nat → Nat
  | 0 => 5
  | k + 1 => (signsAt k + 2) * 64 + 5
theorem signs_up (k : Nat) : 5 ≤ signsAt k := by
  cases k with
  | zero => exact Nat.le_refl _
  | succ k => show 5 ≤ (signsAt k + 2) * 64 + 5; omega
theorem all_facts {k : Nat} (ih : ∀ d, okD k d → d.canLay0 = true ∧ d.depth ≤ k ∧ d.showable = true ∧ d.hasDict = false ∧ d.shown.length ≤ signsAt k) :
    ∀ xs : List PyData, (∀ x ∈ xs, okD k x) → PyData.canLayAll0 xs = true ∧ PyData.depthAll xs ≤ k ∧ PyData.showableAll xs = true ∧ PyData.hasDictAll xs = false ∧ piled (PyData.shownAll xs) ≤ (signsAt k + 2) * xs.length
  | [], _ => ⟨rfl, Nat.zero_le _, rfl, rfl, by simp [PyData.shownAll, piled]⟩
  | x :: xs, f => by
    obtain ⟨a1, a2, a3, a4, a5⟩ := ih x (f x List.mem_cons_self)
    obtain ⟨b1, b2, b3, b4, b5⟩ := all_facts ih xs fun y hy => f y (List.mem_cons_of_mem _ hy)
    refine ⟨?_, ?_, ?_, ?_, ?_⟩
    · rw [PyData.canLayAll0, a1, b1]; rfl
    · rw [PyData.depthAll]; exact Nat.max_le.mpr ⟨a2, b2⟩
    · rw [PyData.showableAll, a3, b3]; rfl
    · rw [PyData.hasDictAll, a4, b4]; rfl
    · rw [PyData.shownAll, piled_cons, List.length_cons, Nat.mul_succ]
      omega
theorem textFrom_le : ∀ (ts : List Str) (k : Nat) (acc : Str), (textFrom k acc ts).length ≤ acc.length + piled ts
  | [], k, acc => by show acc.length ≤ _; omega
  | t :: r, k, acc => by
    have h := textFrom_le r (k + 1) (acc ++ (if k > 0 then ", " else "" : String) ++ t)
    have e : (((if k > 0 then ", " else "" : String) : Str)).length ≤ 2 := by split <;> decide +kernel
    rw [strLen_append, strLen_append] at h
    rw [piled_cons]
    show (textFrom (k + 1) _ r).length ≤ _
    omega
theorem listText_le (ts : List Str) : (listText ts).length ≤ piled ts + 2 := by
  have h := textFrom_le ts 0 "["
  have e1 : (("[" : String) : Str).length = 1 := by decide +kernel
  have e2 : (("]" : String) : Str).length = 1 := by decide +kernel
  unfold listText
  rw [strLen_append, e2]
  omega
theorem tupText_le (ts : List Str) : (tupleText ts).length ≤ piled ts + 3 := by
  have e1 : (("(" : String) : Str).length = 1 := by decide +kernel
  have e3 : (((if ts.length == 1 then ",)" else ")" : String) : Str)).length ≤ 2 := by split <;> decide +kernel
  unfold tupleText
  rw [strLen_append, strLen_append, e1]
  by_cases h : ts = []
  · subst h
    have e4 : (Str.join ", " []).length = 0 := by decide +kernel
    rw [e4]
    omega
  · have := join_length_add ts h
    omega
theorem ok_facts : ∀ (k : Nat) (d : PyData), okD k d → d.canLay0 = true ∧ d.depth ≤ k ∧ d.showable = true ∧ d.hasDict = false ∧ d.shown.length ≤ signsAt k
  | 0, d, h => by
    obtain ⟨a, b, c, e, f⟩ := tiny_facts h
    exact ⟨a, Nat.le_of_eq b, c, e, f⟩
  | k + 1, d, h => by
    rcases h with h | ⟨xs, e, l, f⟩
    · obtain ⟨a, b, c, e, f⟩ := tiny_facts h
      exact ⟨a, by omega, c, e, Nat.le_trans f (signs_up _)⟩
    · obtain ⟨b1, b2, b3, b4, b5⟩ := all_facts (ok_facts k) xs f
      have hm : (signsAt k + 2) * xs.length ≤ (signsAt k + 2) * 64 := Nat.mul_le_mul_left _ l
      rcases e with e | e
      · subst e
        refine ⟨b1, by rw [PyData.depth]; omega, b3, b4, ?_⟩
        rw [PyData.shown]
        have := listText_le (PyData.shownAll xs)
        show _ ≤ (signsAt k + 2) * 64 + 5
        omega
      · subst e
        refine ⟨b1, by rw [PyData.depth]; omega, b3, b4, ?_⟩
        rw [PyData.shown]
        have := tupText_le (PyData.shownAll xs)
        show _ ≤ (signsAt k + 2) * 64 + 5
        omega
theorem ok_shaped {k : Nat} {d : PyData} (h : okD k d) (hk : k ≤ 64) : SeqAt.shaped d = true := by
  obtain ⟨a, b, _⟩ := ok_facts k d h
  unfold SeqAt.shaped
  rw [a, decide_eq_true (Nat.le_trans b hk)]
  rfl
theorem signs3 : signsAt 3 ≤ sizeLine := by decide +kernel

section
variable {X : Cx} {k : Nat}
/-- repr of data, where no repr is under way -/
theorem cr_reprD (hg : X.A.guards = some []) (hr : Room k X.A) : CallR X (.builtin "repr") (fun xs H Q => ∃ p d, xs = [.ref p] ∧ Dq H (.ref p) d ∧ okD 3 d ∧ Q (.str d.shown) H) := by
  intro pins s σ H xs us Q I r h
  obtain ⟨p, d, rfl, hd, ok, q⟩ := h
  obtain ⟨u, rfl, ru⟩ := r.one
  obtain ⟨as, rd⟩ := Dp.reads I d _ u (hd.dp (K := X.K)) ru
  cases ru
  obtain ⟨a1, a2, a3, a4, a5⟩ := ok_facts 3 d ok
  have hu := hr.un
  refine repr_of_reads' (h₀ := s.heap) rd a3 (fun e => by rw [a4] at e; cases e) hg (by omega) (fun _ _ e => e) (fun h' t tk kp => ?_) (Nat.le_trans a5 signs3)
  exact ⟨.str d.shown, H, I.kept (t' := tk) kp, ⟨t, rfl⟩, q⟩
theorem op_eqQ (hr : Room k X.A) : OpR X (compareOp .Eq) (fun x y H Q => ∃ d e, Dq H x d ∧ Dq H y e ∧ okD 8 d ∧ okD 8 e ∧ Q (.bl (PyData.eqv d e)) H) := by
  intro pins s σ H x y v u Q I rx ry h
  obtain ⟨d, e, hd, he, o1, o2, q⟩ := h
  exact op_eqD hr.units pins s σ H x y v u Q I rx ry ⟨d, e, hd.dp, he.dp, ok_shaped o1 (by decide), ok_shaped o2 (by decide), q⟩
theorem op_neQ (hr : Room k X.A) : OpR X (compareOp .NotEq) (fun x y H Q => ∃ d e, Dq H x d ∧ Dq H y e ∧ okD 8 d ∧ okD 8 e ∧ Q (.bl (!PyData.eqv d e)) H) := by
  intro pins s σ H x y v u Q I rx ry h
  obtain ⟨d, e, hd, he, o1, o2, q⟩ := h
  exact op_neD hr.units pins s σ H x y v u Q I rx ry ⟨d, e, hd.dp, he.dp, ok_shaped o1 (by decide), ok_shaped o2 (by decide), q⟩
theorem op_notInQ (hr : Room k X.A) : OpR X (compareOp .NotIn) (fun x y H Q => ∃ d ds, Dq H x d ∧ Dq H y (.list ds) ∧ okD 8 d ∧ okD 8 (.list ds) ∧ Q (.bl (!ds.any fun z => PyData.eqv z d)) H) := by
  intro pins s σ H x y v u Q I rx ry h
  obtain ⟨d, ds, hd, he, o1, o2, q⟩ := h
  have hu := hr.un
  exact op_notInD (by omega) pins s σ H x y v u Q I rx ry ⟨d, ds, hd.dp, he.dp, ok_shaped o1 (by decide), ok_shaped o2 (by decide), q⟩

/-! ### methods of tuples -/
variable {o e : Expr} {es : List Expr} {to : TE} {t : TA} {name : Str} {apos cpos : Pos} {T id : String} {r : V → List V → Hp → VK → Prop}
theorem pe_tm (slot : Slot "tuple" name id) (hty : typeOf (.builtin id) = pure (.type "method_descriptor")) (hm : MtR X id r) (ho : PE X o to) (ha : PA X (e :: es) t)
    (hbase : attributeBase o name X.env (eval o X.env) = eval o X.env := by rfl)
    (hfew : ((backTo cpos (starEach (e :: es) X.env)).all (fun x => !x.1) && (backToKw cpos (keywordEach [] X.env)).all (fun x => x.1.isSome)
      && decide ((e :: es).length + ([] : List Keyword).length + (if ([] : List Keyword).isEmpty then 0 else 1) < 30)) = true := by rfl)
    (hline : (apos.endLine == cpos.line) = true := by rfl) (hs : starEach (e :: es) X.env = (false, eval e X.env) :: starEach es X.env := by rfl) (hplain : (backTo cpos (starEach es X.env)).any (·.1) = false := by rfl) :
    PE X (.Call (.Attribute o name apos) (e :: es) [] cpos) (fun σ H Q => to σ H fun x H1 => (∃ p xs, x = .ref p ∧ TupAt H1 p xs) ∧ t σ H1 fun xs H2 => r x xs H2 Q) := by
  refine ⟨fun pins s σ H Q I h => ?_⟩
  refine wpAny_Call_method_late hbase hfew hline rfl (thn (ho.run pins s σ H _ I h) fun v s1 hh => ?_)
  obtain ⟨x, H1, I1, r1, ⟨p, xs, rfl, ⟨ob, ⟨hd, _⟩, hp⟩⟩, q1⟩ := hh
  cases r1
  obtain ⟨e1, hx⟩ := I1.hok p _ hp
  have hc : ob.cls = .type "tuple" := by
    obtain ⟨_, its, _, o2, e2, c2, _⟩ := hx
    rw [e1] at e2; cases e2
    exact c2
  refine ⟨"tuple", id, PySem.F.plainAttrs_tuple, slot, hty, ⟨ob, e1, hc⟩, fun a ea => ?_, ?_⟩
  · cases ea; exact ⟨ob, e1, hd⟩
  have hA := ha.run cpos pins s1 σ H1 _ I1 q1
  rw [hs] at hA ⊢
  refine Calls.callWith_builtin (by show (false || (backTo cpos (starEach es X.env)).any (·.1)) = false; rw [hplain] <;> rfl) (Calls.evalArgs_plain ?_)
  exact thn hA fun us s2 h2 => by
    obtain ⟨vs, H2, I2, r2, q2⟩ := h2
    exact hm pins s2 σ H2 (.ref p) vs _ us Q I2 rfl r2 q2
theorem mt_tcount : MtR X "tuple.count" (fun x xs H Q => ∃ p ys y, x = .ref p ∧ xs = [y] ∧ SqT X.K H p ys ∧ flatV y = true ∧ ys.all flatV = true ∧ Q (.int ((ys.countP fun z => eqV z y : Nat) : Int)) H) := by
  intro pins s σ H x xs v us Q I rx rxs h
  obtain ⟨p, ys, y, rfl, rfl, hs, fy, fys, q⟩ := h
  cases rx
  obtain ⟨u, rfl, ru⟩ := rxs.one
  obtain ⟨its, rv, ⟨⟨cls, dd, data, sl⟩, ho, hc, n, hd⟩, hlen⟩ := I.tuple hs
  simp only at hc hd
  subst hc hd
  refine call_meets PySem.F.slot_tuple_count ⟨_, ho, rfl⟩ PySem.F.entry_tuple_count (PySem.F.args_tuple_count_2 _ _) (SeqAt.tuple_countAt p its.toArray n dd sl u (eqU y))
    ⟨ho, fun w hw => mem_eqAt ru fy rv fys w (by simpa using hw), ?_⟩
  have ec : ∀ {zs : List V} {ws : List Value}, Vals zs ws → zs.all flatV = true → ws.countP (eqU y) = zs.countP fun z => eqV z y := by
    intro zs
    induction zs with
    | nil => intro ws r _; cases r; rfl
    | cons z zs ih =>
      intro ws r f
      rw [List.all_cons, Bool.and_eq_true] at f
      cases r with
      | cons a b => rw [List.countP_cons, List.countP_cons, ih b f.2, eqU_of a f.1]
  refine ⟨.int ((ys.countP fun z => eqV z y : Nat) : Int), H, I.tok _, ⟨s.toks, ?_⟩, q⟩
  rw [← ec rv fys]
theorem mt_tindex : MtR X "tuple.index" (fun x xs H Q => ∃ p ys y j z, x = .ref p ∧ xs = [y] ∧ SqT X.K H p ys ∧ flatV y = true ∧ ys.all flatV = true ∧ ys[j]? = some z ∧ eqV z y = true ∧
    (∀ (m : Nat) (z' : V), m < j → ys[m]? = some z' → eqV z' y = false) ∧ Q (.int (j : Nat)) H) := by
  intro pins s σ H x xs v us Q I rx rxs h
  obtain ⟨p, ys, y, j, z, rfl, rfl, hs, fy, fys, hz, hzj, hno, q⟩ := h
  cases rx
  obtain ⟨u, rfl, ru⟩ := rxs.one
  obtain ⟨its, rv, ⟨⟨cls, dd, data, sl⟩, ho, hc, n, hd⟩, hlen⟩ := I.tuple hs
  simp only at hc hd
  subst hc hd
  have hvl := rv.length
  have at' : ∀ (m : Nat) (hm : m < its.toArray.size), ∃ y2, ys[m]? = some y2 ∧ RelV y2 its.toArray[m] := fun m hm => by
    have hmy : m < ys.length := by rw [List.size_toArray] at hm; omega
    obtain ⟨w, hw, rw'⟩ := rv.get (List.getElem?_eq_getElem hmy)
    have e := (List.getElem?_eq_some_iff.mp hw).2
    refine ⟨ys[m], List.getElem?_eq_getElem hmy, ?_⟩
    have e2 : its.toArray[m] = w := by rw [← e]; simp
    rw [e2]
    exact rw'
  have hj : j < its.toArray.size := by
    have := (List.getElem?_eq_some_iff.mp hz).1
    rw [List.size_toArray]; omega
  refine call_meets PySem.F.slot_tuple_index ⟨_, ho, rfl⟩ PySem.F.entry_tuple_index (PySem.F.args_tuple_index_2 _ _) (TI.tuple_indexAt p its.toArray n dd sl u (eqU y) j hj ?_ ?_)
    ⟨ho, fun w hw => mem_eqAt ru fy rv fys w (by simpa using hw), ⟨.int (j : Nat), H, I.tok _, ⟨_, rfl⟩, q⟩⟩
  · obtain ⟨y2, h1, h2⟩ := at' j hj
    rw [hz] at h1
    cases h1
    rw [eqU_of h2 (flat_at fys hz)]
    exact hzj
  · intro m hm hmj
    obtain ⟨y2, h1, h2⟩ := at' m hm
    rw [eqU_of h2 (flat_at fys h1)]
    exact hno m y2 hmj h1
end
end DL

/-! Part D: extend by a tuple, xs[i] += e, t * 1, sorted of tuples; defs that are entered where no repr is under way. -/
namespace DL
open PySem PySem.Spec PyProof.Rows L2

section
variable {X : Cx}
/-- xs.extend(t) -/
theorem mt_extT : MtM X "list.extend" (fun x vs H Q => ∃ l b xs zs, x = .ref l ∧ vs = [.ref b] ∧ H l = some (.lst xs) ∧ TupAt H b zs ∧ xs.length + zs.length ≤ sizeLine ∧ Q .non (upd H l (.lst (xs ++ zs)))) := by
  intro pins s σ H x vs v us Q I rx rv h
  obtain ⟨l, b, xs, zs, rfl, rfl, hH, ⟨ob, ⟨od, os⟩, hB⟩, hz, q⟩ := h
  cases rx
  obtain ⟨u, rfl, ru⟩ := rv.one
  cases ru
  obtain ⟨z, its, n, r, hl, e⟩ := I.lstM hH
  obtain ⟨e1, z2, its2, r2, o2, e2, c2, n2, d2⟩ := I.hok b _ hB
  rw [e1] at e2
  cases e2
  obtain ⟨cls, dct, dt, sl⟩ := ob
  simp only at od os c2 d2
  subst od os c2 d2
  have hl2 := r2.length
  have hsz : its.toArray.size + its2.toArray.size ≤ sizeLine := by rw [List.size_toArray, List.size_toArray]; omega
  have hlong : ¬ (!its.toArray.isEmpty && Builtin.List.listTooLong (its.toArray.size + its2.toArray.size)) = true := by
    rw [notLongL hsz, Bool.and_false]
    exact Bool.false_ne_true
  refine call_meets F.slot_list_extend ⟨_, e, rfl⟩ F.entry_list_extend (F.args_list_extend_2 _ _)
    (AutoSeq1.list_extend_list_tuple_0 l its.toArray n b its2.toArray n2 hlong (by rw [List.size_toArray]; omega) (by omega)) ⟨e, e1, .non, _, I.lset (its' := its ++ its2) hH e (by simp) (r.append r2) ?_, rfl, q⟩
  rw [List.length_append]
  omega
/-- xs[i], for xs[i] += e -/
theorem get_list : PGet X (fun o i H Q => ∃ p xs j v, o = .ref p ∧ i = .int (j : Nat) ∧ SqL X.K H p xs ∧ xs[j]? = some v ∧ Q v H) := by
  intro pins s σ H o i ov iv Q I ro ri h
  obtain ⟨p, xs, j, v, rfl, rfl, hq, hv, q⟩ := h
  cases ro
  obtain ⟨t, rfl⟩ := ri
  obtain ⟨its, rv, pl, hz⟩ := I.list hq
  obtain ⟨u, hu, ru⟩ := rv.get hv
  have hj : j < xs.length := (List.getElem?_eq_some_iff.mp hv).1
  have h63 := line63
  refine wpAny_getItem_list pl.isList (by omega) (by omega) (x := u) (by simpa using hu) ⟨v, H, I, ru, q⟩
/-- t * 1 is t itself -/
theorem tuple_mul1 (l : Addr) (items : Array Value) (n : Nat) (sl : Array (Option Value)) (u : Tok) :
    Meets (Builtin.«tuple.__mul__» ⟨[.ref l, .int 1 u], []⟩) (fun _ R s => s.heap.get? l = some { cls := .type "tuple", dict := none, data := .seq items n, slots := sl } ∧ R (.ok (.ret (Value.ref l))) s) :=
  .of_wp fun prog w A R s h => by
    obtain ⟨hp, g, d, tk, os⟩ := s
    obtain ⟨hl, h⟩ := h
    have f1 := AutoSeq1.idx_int
    have f2 := AutoSeq1.sub_tuple_tuple
    wp_walk using AutoSeq1.wpAny_loadPart' hl
    exact ⟨_, rfl, h⟩
theorem op_rep1 : OpR X (binaryOp .Mult) (fun x y H Q => ∃ l xs, x = .ref l ∧ y = .int 1 ∧ TupAt H l xs ∧ Q (.ref l) H) := by
  intro pins s σ H x y v u Q I rx ry h
  obtain ⟨l, xs, rfl, rfl, ⟨ob, ⟨od, os⟩, hB⟩, q⟩ := h
  cases rx
  obtain ⟨t, rfl⟩ := ry
  obtain ⟨e1, z2, its, r2, o2, e2, c2, n2, d2⟩ := I.hok l _ hB
  rw [e1] at e2
  cases e2
  obtain ⟨cls, dct, dt, sl⟩ := ob
  simp only at od os c2 d2
  subst od os c2 d2
  refine wpAny_binaryOp_repeat_ref (T := "tuple") (U := "int") (by decide) ⟨_, e1, rfl⟩ (fun s' => typeIs_int s' 1 t) noFill_tuple_mul F.fills_int_mul F.slot_int_rmul repeat_tuple F.slot_int_index.lookup
    (call_meets F.slot_int_rmul (typeIs_int s 1 t) F.entry_int_rmul (F.args_int_rmul_2 _ _) (int_rmul_tuple 1 t l its.toArray n2 none #[])
      ⟨e1, rfl, ⟨_, e1, rfl⟩, call_meets F.slot_tuple_mul ⟨_, e1, rfl⟩ F.entry_tuple_mul (F.args_tuple_mul_2 _ _) (tuple_mul1 l its.toArray n2 #[] t) ⟨e1, .ref l, H, I, rfl, q⟩⟩)

/-! ### sorted(list of tuples of ints) -/
open PySem.W in
theorem each_pairs {h : Heap} {H : Hp} {P : Program} {w : World} (ok : HOk P w H h) : ∀ {ps : List (V × List Int)} {us : List Value}, Vals (ps.map (·.1)) us → (∀ p ∈ ps, ∃ t, p.1 = .ref t ∧ TupAt H t (p.2.map V.int) ∧ p.2 ≠ []) →
    EachIs (fun (u : Value) (p : V × List Int) => RelV p.1 u) us ps ∧ EachIs (fun (u : Value) (p : V × List Int) => ∃ as, Reads h u (.tuple (p.2.map .int)) as) us ps
  | [], _, r, _ => by
    cases r
    exact ⟨.nil, .nil⟩
  | p :: ps, _, r, f => by
    have r' : Vals (p.1 :: ps.map (·.1)) _ := r
    cases r' with
    | cons a b =>
      obtain ⟨h1, h2⟩ := each_pairs ok b fun q hq => f q (List.mem_cons_of_mem _ hq)
      obtain ⟨t, e, ⟨ob, _, hB⟩, _⟩ := f p List.mem_cons_self
      refine ⟨.cons a h1, .cons ?_ h2⟩
      rw [e] at a
      cases a
      obtain ⟨e1, z2, its, r2, o2, e2, c2, n2, d2⟩ := ok t _ hB
      have ri : ∀ {ns : List Int} {ws : List Value}, Vals (ns.map V.int) ws → ReadsAll h ws (ns.map PyData.int) [] := by
        intro ns
        induction ns with
        | nil => intro ws r; cases r; exact .nil
        | cons n ns ih =>
          intro ws r
          have r' : Vals (V.int n :: ns.map V.int) ws := r
          cases r' with
          | cons a b =>
            obtain ⟨t, rfl⟩ := a
            exact ReadsAll.cons (as := []) (Reads.int n t) (ih b)
      exact ⟨[], Reads.tuple e2 c2 d2 (by simpa using ri r2)⟩
theorem rel_out : ∀ {ps : List (V × List Int)} {us : List Value}, PySem.W.EachIs (fun (u : Value) (p : V × List Int) => RelV p.1 u) us ps → Vals (ps.map (·.1)) us
  | _, _, .nil => .nil
  | _, _, .cons a b => .cons a (rel_out b)
/-- the order of tuples of ints -/
def leP (p q : V × List Int) : Bool := decide (p.2 ≤ q.2)
theorem dataLe_tups : PySem.W.dataLe false (fun p : V × List Int => PyData.tuple (p.2.map .int)) = leP := by
  funext p q
  show (!PySem.W.dataLt (.tuple (q.2.map .int)) (.tuple (p.2.map .int))) = _
  rw [PySem.W.dataLt_tuple]
  show (!PySem.W.rowLt (q.2.map .int) (p.2.map .int)) = _
  rw [PySem.W.dataLt_ints]
  unfold leP
  by_cases h : q.2 < p.2
  · have h' : ¬ p.2 ≤ q.2 := fun r => List.not_lt.mpr r h
    simp [h, h']
  · have h' : p.2 ≤ q.2 := List.not_lt.mp h
    simp [h, h']
theorem depth_tup_ints (ns : List Int) : PyData.depth (.tuple (ns.map .int)) = 1 := by
  rw [PyData.depth, PySem.W.depth_ints]
theorem cr_sortT {k : Nat} (hr : Room k X.A) : CallR X (.builtin "sorted") (fun vs H Q => ∃ (a : Addr) (ps : List (V × List Int)), vs = [.ref a] ∧ SqL X.K H a (ps.map (·.1)) ∧
    (∀ p ∈ ps, ∃ t, p.1 = .ref t ∧ TupAt H t (p.2.map V.int) ∧ p.2 ≠ []) ∧ NewL H ((ps.mergeSort leP).map (·.1)) Q) := by
  intro pins s σ H vs us Q I r h
  obtain ⟨a, ps, rfl, hs, f, q⟩ := h
  obtain ⟨u, rfl, ru⟩ := r.one
  cases ru
  obtain ⟨its, rv, pl, hz⟩ := I.list hs
  obtain ⟨h1, h2⟩ := each_pairs I.hok rv f
  have hu := hr.un
  refine PySem.W.sorted_data (β := V × List Int) (enc := fun p => .tuple (p.2.map .int)) pl.isList h1 h2 (PySem.W.AllAlike.of fun b b' => by rw [PySem.W.alike, PySem.W.alike_ints]) ?_ (by rw [List.length_map] at hz; exact hz)
    (fun b _ => by rw [depth_tup_ints]; omega) fun out hl he => ?_
  · refine .inl fun d hd => ?_
    obtain ⟨p, hp, rfl⟩ := List.mem_map.mp hd
    obtain ⟨t, _, _, hne⟩ := f p hp
    cases e : p.2 with
    | nil => exact absurd e hne
    | cons x r => exact ⟨.int x, r.map .int, by rw [List.map_cons]⟩
  · rw [dataLe_tups] at he
    obtain ⟨ep, he'⟩ := PyProof.Rows.sortedAll_at s.heap its out.toArray
    have hlen : ((ps.mergeSort leP).map (·.1)).length ≤ sizeLine := by
      rw [List.length_map, List.length_mergeSort]
      rw [List.length_map] at hz
      exact hz
    exact ⟨.ref _, upd H (s.heap.objs.size + 1) (.lst ((ps.mergeSort leP).map (·.1))), I.laid (t' := s.toks) (fun _ _ => PyProof.Rows.sortedAll_old) (Nat.le_succ _) ⟨hlen, out, ep, rel_out he, he'⟩, rfl, q _ (I.hok.fresh (Nat.le_succ _))⟩
end

/-! ### defs entered where no repr is under way -/
structure FnG (P : Program) (w : World) (K : PySem.W.Frag) (mg : Str → Option Value) (base : Heap) (k : Nat) (f : Addr) (fd : FuncData) (ps : List Str) (sp : Sp) : Prop where
  len : ∀ vs H Q E, sp vs H Q E → vs.length = ps.length
  run : ∀ (A : Around) (outer : List Env) (s : Shared) (H : Hp) (args : Args) (us : List Value) (vs : List V) (Q : VK) (E : XK), A.guards = some [] → Room k A → Env0 P w K mg base A outer s H → BindsTo s fd args (ps.zip us) → Vals vs us →
    sp vs H Q E → codeAny (model P w) A (.call (.ref f) args) (CR CX0 outer P w H s Q E) s
theorem FnG.of {P : Program} {w : World} {K : PySem.W.Frag} {mg : Str → Option Value} {base : Heap} {k : Nat} {f : Addr} {fd : FuncData} {ps : List Str} {sp : Sp} (F : FnOk P w K mg base CX0 k f fd ps sp) : FnG P w K mg base k f fd ps sp :=
  ⟨F.len, fun A outer s H args us vs Q E _ => F.run A outer s H args us vs Q E⟩
theorem fn_g {P : Program} {w : World} {K : PySem.W.Frag} {mg : Str → Option Value} {base : Heap} {x qual : Str} {st : Stmt} {f : Addr} {fd : FuncData} {N ps : List Str} {k : Nat} {sp : Sp} (F : Fun K x qual st f fd) (S : FnScope N ps (defScope st))
    (len : ∀ vs H Q E, sp vs H Q E → vs.length = ps.length)
    (hb : ∀ (cdv : Value) (A : Around) (outer : List Env) (s : Shared) (H : Hp) (vs : List V) (Q : VK) (E : XK), (A.deeper (envOfC qual (defScope st) s.heap.objs.size f cdv)).guards = some [] →
      Room k (A.deeper (envOfC qual (defScope st) s.heap.objs.size f cdv)) → sp vs H Q E →
      ∃ t, PSs (cxOf CX0 P w K mg base N qual (defScope st) f cdv A outer s H E).nox (defBody st) t ∧ t { nx := fun _ H' => Q .non H', rt := Q } (start N vs) H) : FnG P w K mg base (k + 1) f fd ps sp := by
  obtain ⟨oc, od, kV, doc, pm, an, cdv, ct, osl, rfl, lk, hcd⟩ := F.ex
  refine ⟨len, fun A outer s H args us vs Q E hgd hroom ev bt va hsp => ?_⟩
  have hlen := len _ _ _ _ hsp
  refine codeAny_call_function hroom.depth (ev.mod.kin.keeps (fun b o z => (ev.bs b o z).1) _ _ lk) rfl S.co S.gen rfl (PySem.W.codeRec_of (ev.mod.kin.keeps fun b o z => (ev.bs b o z).1) hcd) (bt _ _ _ _ (wpAny_newFunctionEnv_cells S.kind (fun y hy => ?_) fun env he s1 ic => ?_))
  · rcases S.par y.1 (List.of_mem_zip (show (y.1, y.2) ∈ ps.zip us from hy)).1 with z | z
    · exact .inl z
    · exact .inr ⟨z, PySem.W.cellsFrom_some _ _ _ (.inl z)⟩
  · subst he
    refine ⟨(ev.mod.nolimit.keeps fun b o z => (ev.bs b o z).1).keeps ic.toInCall.keep, codeAny_func ?_⟩
    obtain ⟨t, ht, hq⟩ := hb cdv A outer s H vs Q E hgd (hroom.deeper _) hsp
    have J0 := inv_start (CX := CX0) (E := E) S hroom.hd ev hlen va ic
    refine wpAny_mono (ht.nox.run [] s1 (start N vs) H _ J0 hq) (fun fl s' hs => ?_) fun e s' hs => hs
    cases fl with
    | brk => exact hs.choose_spec.choose_spec.2.elim
    | cont => exact hs.choose_spec.choose_spec.2.elim
    | next =>
      obtain ⟨σ', H', J, q⟩ := hs
      exact ⟨.non, H', J.os, J.bare, J.base, J.hok, rfl, q⟩
    | ret u =>
      obtain ⟨v, σ', H', J, rv, q⟩ := hs
      exact ⟨v, H', J.os, J.bare, J.base, J.hok, rv, q⟩
section
variable {X : Cx} {k : Nat} {f : Addr} {fd : FuncData} {ps : List Str} {sp : Sp} {x : Str} {p pos : Pos} {e : Expr} {es : List Expr} {t : TA}
theorem pe_callG (F : FnG X.prog X.w X.K X.mg X.base k f fd ps sp) (hgd : X.A.guards = some []) (hroom : Room k X.A) (hg : Gl X x) (hm : X.mg x = some (.ref f)) (hk : PySem.W.keepIn X.K (.ref f) = true) (hb : Binds X.K fd ps [])
    (ha : PA X (e :: es) t) (hdb : (x == ("__debug__" : Str)) = false := by decide) (he : starEach (e :: es) X.env = (false, eval e X.env) :: starEach es X.env := by rfl) (hpl : (backTo pos (starEach es X.env)).any (·.1) = false := by rfl) :
    PE X (.Call (.Name x p) (e :: es) [] pos) (fun σ H Q => t σ H fun vs H1 => sp vs H1 Q E0) := by
  refine ⟨fun pins s σ H Q I h => wpAny_Call_Name_kw (ld_glob I hg hm (PySem.W.callWith_K (h₀ := X.base) I.ok.mod.kin hk (thn (ha.run pos pins s σ H _ I h) fun us s1 hh => ?_) he hpl) hdb)⟩
  obtain ⟨vs, H1, I1, r, q⟩ := hh
  have hl := F.len _ _ _ _ q
  have hl2 := r.length
  refine ⟨I1.kIn, wpAny_call (codeAny_mono (F.run X.A X.stack s1 H1 ⟨us, []⟩ us vs Q E0 hgd hroom I1.env0 (by
    have z := hb s1 us I1.kIn (by rw [List.append_nil]; omega)
    rw [List.append_nil] at z
    exact z) r q) fun r s' hq => ?_)⟩
  cases r with
  | error e => exact hq.elim
  | ok fl =>
    cases fl with
    | ret u => exact I1.after hq
    | next => exact hq.elim
    | brk => exact hq.elim
    | cont => exact hq.elim
end
end DL

/-! Part E: goals one evaluates one after another (WE, WT, WA, WS) and what evaluates to which data (DE, DT, DA). -/
namespace DL
open PySem PySem.Spec PyProof.Rows L2

def WE (X : Cx) (e : Expr) (σ : L2.St) (H : Hp) (Q : VK) : Prop := PE X e fun σ' H' Q' => σ' = σ ∧ H' = H ∧ ∀ v H2, Q v H2 → Q' v H2
def WT (X : Cx) (e : Expr) (σ : L2.St) (H : Hp) (Q : Bool → Hp → Prop) : Prop := PT X e fun σ' H' Q' => σ' = σ ∧ H' = H ∧ ∀ v H2, Q v H2 → Q' v H2
def WA (X : Cx) (es : List Expr) (σ : L2.St) (H : Hp) (Q : List V → Hp → Prop) : Prop := PA X es fun σ' H' Q' => σ' = σ ∧ H' = H ∧ ∀ v H2, Q v H2 → Q' v H2
def WS (X : Cx) (sts : List Stmt) (D : Ends) (σ : L2.St) (H : Hp) : Prop := PSs X sts fun D' σ' H' => D' = D ∧ σ' = σ ∧ H' = H
section
variable {X : Cx} {e : Expr} {es : List Expr} {st : Stmt} {sts rest : List Stmt} {σ : L2.St} {H : Hp} {Q Q' : VK} {D : Ends}
theorem pe_we : PE X e fun σ H Q => WE X e σ H Q := ⟨fun pins s σ H Q I h => h.run pins s σ H Q I ⟨rfl, rfl, fun _ _ q => q⟩⟩
theorem pt_wt : PT X e fun σ H Q => WT X e σ H Q := ⟨fun pins s σ H Q I h => h.run pins s σ H Q I ⟨rfl, rfl, fun _ _ q => q⟩⟩
theorem pa_wa : PA X es fun σ H Q => WA X es σ H Q := ⟨fun pos pins s σ H Q I h => h.run pos pins s σ H Q I ⟨rfl, rfl, fun _ _ q => q⟩⟩
theorem pss_ws : PSs X sts fun D σ H => WS X sts D σ H := ⟨fun pins s σ H D I h => h.run pins s σ H D I ⟨rfl, rfl, rfl⟩⟩
theorem we_of {t : TE} (h : PE X e t) (r : t σ H Q) : WE X e σ H Q := ⟨fun pins s σ' H' Q' I z => by
  obtain ⟨rfl, rfl, k⟩ := z
  exact thn (h.run pins s _ _ Q I r) fun u s1 ⟨v, H1, I1, rv, q⟩ => ⟨v, H1, I1, rv, k v H1 q⟩⟩
theorem wt_of {t : TT} {Q : Bool → Hp → Prop} (h : PT X e t) (r : t σ H Q) : WT X e σ H Q := ⟨fun pins s σ' H' Q' I z => by
  obtain ⟨rfl, rfl, k⟩ := z
  exact thn (h.run pins s _ _ Q I r) fun u s1 ⟨H1, I1, q⟩ => ⟨H1, I1, k u H1 q⟩⟩
theorem wa_of {t : TA} {Q : List V → Hp → Prop} (h : PA X es t) (r : t σ H Q) : WA X es σ H Q := ⟨fun pos pins s σ' H' Q' I z => by
  obtain ⟨rfl, rfl, k⟩ := z
  exact thn (h.run pos pins s _ _ Q I r) fun u s1 ⟨v, H1, I1, rv, q⟩ => ⟨v, H1, I1, rv, k v H1 q⟩⟩
theorem ws_of {t : TS} (h : PSs X sts t) (r : t D σ H) : WS X sts D σ H := ⟨fun pins s σ' H' D' I z => by
  obtain ⟨rfl, rfl, rfl⟩ := z
  exact h.run pins s _ _ _ I r⟩
theorem WE.imp (h : WE X e σ H Q) (k : ∀ v H2, Q v H2 → Q' v H2) : WE X e σ H Q' := ⟨fun pins s σ' H' Q2 I z => by
  obtain ⟨rfl, rfl, k2⟩ := z
  exact h.run pins s _ _ Q2 I ⟨rfl, rfl, fun v H2 q => k2 v H2 (k v H2 q)⟩⟩
theorem ws_step {t : TS} (h : PS X st t) (r : t { D with nx := fun σ' H' => WS X rest D σ' H' } σ H) : WS X (st :: rest) D σ H := ws_of (pss_cons h pss_ws) r
theorem ws_nil (q : D.nx σ H) : WS X [] D σ H := ws_of pss_nil q
theorem ws_ex : WS X sts D σ H → ∃ t, PSs X sts t ∧ t D σ H := fun h => ⟨_, pss_ws, h⟩

/-! ### plain statements -/
theorem ws_ret {pos : Pos} (h : WE X e σ H D.rt) : WS X (.Return (some e) pos :: rest) D σ H := ws_step (ps_ret pe_we) h
theorem ws_expr {pos : Pos} (h : WE X e σ H fun _ H1 => WS X rest D σ H1) (hs : swapsWith e none pos.line X.env = pure false := by rfl) : WS X (.Expr e pos :: rest) D σ H := ws_step (ps_expr pe_we hs) h
theorem ws_break {pos : Pos} (h : D.bk σ H) : WS X (.Break pos :: rest) D σ H := ws_step ps_break h
theorem ws_never (h : False) : WS X sts D σ H := h.elim
theorem ws_set {pos pos' : Pos} {x : Str} (i : Nat) (hN : X.N.Nodup) (h : WE X e σ H fun v H1 => WS X rest D (σ.set i (some v)) H1) (hi : X.N[i]? = some x := by rfl) (hx : Loc X.env.scope x := by first | exact .inl rfl | exact .inr rfl)
    (hs : swapsWith e (some (.Name x pos')) pos.line X.env = pure false := by rfl) (hf : X.fn x = true ∨ X.env.scope.names.lookup x = some .local := by first | exact .inl rfl | exact .inr rfl) : WS X (.Assign [.Name x pos'] e pos :: rest) D σ H :=
  ws_step (ps_set hN hi hx pe_we hs hf) h
theorem ws_if {pos : Pos} {c : Expr} {p q : List Stmt} (h : WT X c σ H fun b H1 => if b = true then WS X p { D with nx := fun σ' H' => WS X rest D σ' H' } σ H1 else WS X q { D with nx := fun σ' H' => WS X rest D σ' H' } σ H1) :
    WS X (.If c p q pos :: rest) D σ H := ws_step (ps_if pt_wt pss_ws pss_ws) h
end

/-! ### what evaluates to which data -/
def DE (X : Cx) (e : Expr) (σ : L2.St) (G : Hp) (d : PyData) : Prop := ∀ H Q, Same G H → (∀ v H2, Same H H2 → Dq H2 v d → Q v H2) → WE X e σ H Q
def DT (X : Cx) (e : Expr) (σ : L2.St) (G : Hp) (b : Bool) : Prop := ∀ H Q, Same G H → (∀ H2, Same H H2 → Q b H2) → WT X e σ H Q
def DA (X : Cx) (es : List Expr) (σ : L2.St) (G : Hp) (ds : List PyData) : Prop := ∀ H Q, Same G H → (∀ vs H2, Same H H2 → DqAll H2 vs ds → Q vs H2) → WA X es σ H Q
section
variable {X : Cx} {e a b c : Expr} {es : List Expr} {σ : L2.St} {G G' : Hp} {d d' : PyData} {ds : List PyData} {pos p : Pos} {i j : Int}
theorem DE.up (s : Same G G') (h : DE X e σ G d) : DE X e σ G' d := fun H Q g q => h H Q (s.trans g) q
theorem DT.up {k : Bool} (s : Same G G') (h : DT X e σ G k) : DT X e σ G' k := fun H Q g q => h H Q (s.trans g) q
theorem DE.is (h : DE X e σ G d) (z : d = d') : DE X e σ G d' := z ▸ h
theorem DT.is {k k' : Bool} (h : DT X e σ G k) (z : k = k') : DT X e σ G k' := z ▸ h
/-- from a rule: its parts' data, then what it makes -/
theorem we_var {x : Str} {H : Hp} {Q : VK} {v : V} (i : Nat) (hs : σ[i]? = some (some v)) (q : Q v H) (hN : X.N[i]? = some x := by rfl)
    (hv : Vis X.env.scope x := by first | exact .inl rfl | exact .inr (.inl rfl) | exact .inr (.inr rfl)) (hd : (x == ("__debug__" : Str)) = false := by decide)
    (hcd : (x == ("__classdict__" : Str)) = false := by decide) : WE X (.Name x pos) σ H Q := we_of (pe_var hN hv hd hcd) ⟨v, hs, q⟩
theorem de_var {x : Str} {v : V} (i : Nat) (hq : Dq G v d) (hs : σ[i]? = some (some v) := by rfl) (hN : X.N[i]? = some x := by rfl)
    (hv : Vis X.env.scope x := by first | exact .inl rfl | exact .inr (.inl rfl) | exact .inr (.inr rfl)) (hd : (x == ("__debug__" : Str)) = false := by decide)
    (hcd : (x == ("__classdict__" : Str)) = false := by decide) : DE X (.Name x pos) σ G d := fun H Q g q => we_var i hs (q v H (Same.refl H) (hq.mono g)) hN hv hd hcd
theorem de_int {k : Nat} : DE X (.Constant (.int i) k pos) σ G (.int i) := fun H Q g q => we_of pe_int (q _ _ (Same.refl H) (.int i))
theorem de_bl {k : Nat} {z : Bool} : DE X (.Constant (.bool z) k pos) σ G (.bool z) := fun H Q g q => we_of pe_bl (q _ _ (Same.refl H) (.bl z))
theorem de_non {k : Nat} : DE X (.Constant .none k pos) σ G .none := fun H Q g q => we_of pe_non (q _ _ (Same.refl H) .non)

theorem we_op {op : Operator} {r : R2} {H : Hp} {Q : VK} (ho : OpR X (binaryOp op) r) (h : WE X a σ H fun x H1 => WE X b σ H1 fun y H2 => r x y H2 Q) : WE X (.BinOp a op b pos) σ H Q := we_of (pe_op ho pe_we pe_we) h
theorem we_cmp {op : CmpOp} {r : R2} {H : Hp} {Q : VK} (ho : OpR X (compareOp op) r) (hm : behindInMarks op b = false) (h : WE X a σ H fun x H1 => WE X b σ H1 fun y H2 => r x y H2 Q) : WE X (.Compare a [op] [b] pos) σ H Q := we_of (pe_cmpR ho pe_we pe_we hm) h
theorem wt_cmp {op : CmpOp} {r : R2} {H : Hp} {Q : Bool → Hp → Prop} (ho : OpR X (compareOp op) r) (hm : behindInMarks op b = false) (h : WE X a σ H fun x H1 => WE X b σ H1 fun y H2 => r x y H2 fun z H3 => ∃ k, z = .bl k ∧ Q k H3) : WT X (.Compare a [op] [b] pos) σ H Q :=
  wt_of (pt_cmpR ho pe_we pe_we hm) h
/-- an operation on data -/
def D2 (r : R2) (G : Hp) (d e f : PyData) : Prop := ∀ H x y (Q : VK), Same G H → Dq H x d → Dq H y e → (∀ v H2, Same H H2 → Dq H2 v f → Q v H2) → r x y H Q
theorem de_op {op : Operator} {r : R2} {f : PyData} (ho : OpR X (binaryOp op) r) (ha : DE X a σ G d) (hb : DE X b σ G d') (hr : D2 r G d d' f) : DE X (.BinOp a op b pos) σ G f := fun H Q g q =>
  we_op ho (ha H _ g fun x H1 s1 dx => hb H1 _ (g.trans s1) fun y H2 s2 dy => hr H2 x y Q ((g.trans s1).trans s2) (dx.mono s2) dy fun v H3 s3 => q v H3 ((s1.trans s2).trans s3))
theorem de_cmp {op : CmpOp} {r : R2} {f : PyData} (ho : OpR X (compareOp op) r) (hm : behindInMarks op b = false) (ha : DE X a σ G d) (hb : DE X b σ G d') (hr : D2 r G d d' f) : DE X (.Compare a [op] [b] pos) σ G f := fun H Q g q =>
  we_cmp ho hm (ha H _ g fun x H1 s1 dx => hb H1 _ (g.trans s1) fun y H2 s2 dy => hr H2 x y Q ((g.trans s1).trans s2) (dx.mono s2) dy fun v H3 s3 => q v H3 ((s1.trans s2).trans s3))
theorem dt_cmp {op : CmpOp} {r : R2} {k : Bool} (ho : OpR X (compareOp op) r) (hm : behindInMarks op b = false) (ha : DE X a σ G d) (hb : DE X b σ G d') (hr : D2 r G d d' (.bool k)) : DT X (.Compare a [op] [b] pos) σ G k := fun H Q g q =>
  wt_cmp ho hm (ha H _ g fun x H1 s1 dx => hb H1 _ (g.trans s1) fun y H2 s2 dy => hr H2 x y _ ((g.trans s1).trans s2) (dx.mono s2) dy fun v H3 s3 dv => by
    cases dv
    exact ⟨k, rfl, q H3 ((s1.trans s2).trans s3)⟩)
theorem d2_I0 {g : Int → Int → V} {f : PyData} (hf : ∀ H, Dq H (g i j) f) : D2 (rI0 g) G (.int i) (.int j) f := fun H x y Q _ dx dy q => by
  cases dx
  cases dy
  exact ⟨i, j, rfl, rfl, q _ H (Same.refl H) (hf H)⟩
theorem d2_I {C : Int → Int → Prop} {g : Int → Int → V} {f : PyData} (hc : C i j) (hf : ∀ H, Dq H (g i j) f) : D2 (rI C g) G (.int i) (.int j) f := fun H x y Q _ dx dy q => by
  cases dx
  cases dy
  exact ⟨i, j, rfl, rfl, hc, q _ H (Same.refl H) (hf H)⟩
theorem de_add (ha : DE X a σ G (.int i)) (hb : DE X b σ G (.int j)) : DE X (.BinOp a .Add b pos) σ G (.int (i + j)) := de_op op_add ha hb (d2_I0 fun _ => .int _)
theorem de_sub (ha : DE X a σ G (.int i)) (hb : DE X b σ G (.int j)) : DE X (.BinOp a .Sub b pos) σ G (.int (i - j)) := de_op op_sub ha hb (d2_I0 fun _ => .int _)
theorem de_mul (ha : DE X a σ G (.int i)) (hb : DE X b σ G (.int j)) (hc : CMul i j) : DE X (.BinOp a .Mult b pos) σ G (.int (i * j)) := de_op op_mul ha hb (d2_I hc fun _ => .int _)
theorem de_mod (ha : DE X a σ G (.int i)) (hb : DE X b σ G (.int j)) (hc : 0 < j) : DE X (.BinOp a .Mod b pos) σ G (.int (i % j)) := de_op op_mod ha hb (d2_I hc fun _ => .int _)
theorem de_fdiv (ha : DE X a σ G (.int i)) (hb : DE X b σ G (.int j)) (hc : CDiv i j) : DE X (.BinOp a .FloorDiv b pos) σ G (.int (i / j)) := de_op op_fdiv ha hb (d2_I hc fun _ => .int _)
theorem de_pow (ha : DE X a σ G (.int i)) (hb : DE X b σ G (.int j)) (hc : CPow i j) : DE X (.BinOp a .Pow b pos) σ G (.int (i ^ j.toNat)) := de_op op_pow ha hb (d2_I hc fun _ => .int _)
/-- comparisons of ints and None, as values and tests -/
def scD (d e : PyData) : Bool := scal (toV d) (toV e)
theorem d2_eq {f g : PyData} (fd : flatD f = true) (fg : flatD g = true) (h : scD f g = true) : D2 rEq G f g (.bool (decide (toV f = toV g))) := fun H x y Q _ dx dy q => by
  rw [(dx.flat fd).1, (dy.flat fg).1]
  exact ⟨h, q _ H (Same.refl H) (.bl _)⟩
theorem d2_ne {f g : PyData} (fd : flatD f = true) (fg : flatD g = true) (h : scD f g = true) : D2 rNe G f g (.bool (!decide (toV f = toV g))) := fun H x y Q _ dx dy q => by
  rw [(dx.flat fd).1, (dy.flat fg).1]
  exact ⟨h, q _ H (Same.refl H) (.bl _)⟩
theorem dt_eq (ha : DE X a σ G d) (hb : DE X b σ G d') (fd : flatD d = true) (fg : flatD d' = true) (h : scD d d' = true) : DT X (.Compare a [.Eq] [b] pos) σ G (decide (toV d = toV d')) := dt_cmp op_eq (nomark _) ha hb (d2_eq fd fg h)
theorem dt_ne (ha : DE X a σ G d) (hb : DE X b σ G d') (fd : flatD d = true) (fg : flatD d' = true) (h : scD d d' = true) : DT X (.Compare a [.NotEq] [b] pos) σ G (!decide (toV d = toV d')) := dt_cmp op_ne (nomark _) ha hb (d2_ne fd fg h)
theorem de_eq (ha : DE X a σ G d) (hb : DE X b σ G d') (fd : flatD d = true) (fg : flatD d' = true) (h : scD d d' = true) : DE X (.Compare a [.Eq] [b] pos) σ G (.bool (decide (toV d = toV d'))) := de_cmp op_eq (nomark _) ha hb (d2_eq fd fg h)
theorem de_ne (ha : DE X a σ G d) (hb : DE X b σ G d') (fd : flatD d = true) (fg : flatD d' = true) (h : scD d d' = true) : DE X (.Compare a [.NotEq] [b] pos) σ G (.bool (!decide (toV d = toV d'))) := de_cmp op_ne (nomark _) ha hb (d2_ne fd fg h)
theorem dt_lt (ha : DE X a σ G (.int i)) (hb : DE X b σ G (.int j)) : DT X (.Compare a [.Lt] [b] pos) σ G (decide (i < j)) := dt_cmp op_lt (nomark _) ha hb (d2_I0 fun _ => .bl _)
theorem dt_gt (ha : DE X a σ G (.int i)) (hb : DE X b σ G (.int j)) : DT X (.Compare a [.Gt] [b] pos) σ G (decide (j < i)) := dt_cmp op_gt (nomark _) ha hb (d2_I0 fun _ => .bl _)
theorem dt_ge (ha : DE X a σ G (.int i)) (hb : DE X b σ G (.int j)) : DT X (.Compare a [.GtE] [b] pos) σ G (decide (j ≤ i)) := dt_cmp op_ge (nomark _) ha hb (d2_I0 fun _ => .bl _)
theorem dt_le (ha : DE X a σ G (.int i)) (hb : DE X b σ G (.int j)) : DT X (.Compare a [.LtE] [b] pos) σ G (decide (i ≤ j)) := dt_cmp op_le (nomark _) ha hb (d2_I0 fun _ => .bl _)
theorem de_gt (ha : DE X a σ G (.int i)) (hb : DE X b σ G (.int j)) : DE X (.Compare a [.Gt] [b] pos) σ G (.bool (decide (j < i))) := de_cmp op_gt (nomark _) ha hb (d2_I0 fun _ => .bl _)
theorem de_le (ha : DE X a σ G (.int i)) (hb : DE X b σ G (.int j)) : DE X (.Compare a [.LtE] [b] pos) σ G (.bool (decide (i ≤ j))) := de_cmp op_le (nomark _) ha hb (d2_I0 fun _ => .bl _)
/-- data compared -/
def isNone : PyData → Bool
  | .none => true
  | _ => false
theorem Dq.isN {H : Hp} {v : V} (h : Dq H v d) : decide (v = .non) = isNone d := by
  cases h <;> rfl
theorem d2_isN : D2 (fun x y H Q => y = .non ∧ Q (.bl (decide (x = .non))) H) G d .none (.bool (isNone d)) := fun H x y Q _ dx dy q => by
  cases dy
  exact ⟨rfl, by rw [dx.isN]; exact q _ H (Same.refl H) (.bl _)⟩
theorem d2_notN : D2 (fun x y H Q => y = .non ∧ Q (.bl (!decide (x = .non))) H) G d .none (.bool (!isNone d)) := fun H x y Q _ dx dy q => by
  cases dy
  exact ⟨rfl, by rw [dx.isN]; exact q _ H (Same.refl H) (.bl _)⟩
theorem dt_isN {k : Nat} {p' : Pos} (ha : DE X a σ G d) : DT X (.Compare a [.Is] [.Constant .none k p'] pos) σ G (isNone d) := dt_cmp op_isN (nomark _) ha de_non d2_isN
theorem dt_notN {k : Nat} {p' : Pos} (ha : DE X a σ G d) : DT X (.Compare a [.IsNot] [.Constant .none k p'] pos) σ G (!isNone d) := dt_cmp op_notN (nomark _) ha de_non d2_notN
theorem de_isN {k : Nat} {p' : Pos} (ha : DE X a σ G d) : DE X (.Compare a [.Is] [.Constant .none k p'] pos) σ G (.bool (isNone d)) := de_cmp op_isN (nomark _) ha de_non d2_isN
theorem de_notN {k : Nat} {p' : Pos} (ha : DE X a σ G d) : DE X (.Compare a [.IsNot] [.Constant .none k p'] pos) σ G (.bool (!isNone d)) := de_cmp op_notN (nomark _) ha de_non d2_notN
section
variable {k : Nat} (hr : Room k X.A)
theorem d2_eqQ {f g : PyData} (o1 : okD 8 f) (o2 : okD 8 g) : D2 (fun x y H Q => ∃ d e, Dq H x d ∧ Dq H y e ∧ okD 8 d ∧ okD 8 e ∧ Q (.bl (PyData.eqv d e)) H) G f g (.bool (PyData.eqv f g)) :=
  fun H x y Q _ dx dy q => ⟨f, g, dx, dy, o1, o2, q _ H (Same.refl H) (.bl _)⟩
theorem d2_neQ {f g : PyData} (o1 : okD 8 f) (o2 : okD 8 g) : D2 (fun x y H Q => ∃ d e, Dq H x d ∧ Dq H y e ∧ okD 8 d ∧ okD 8 e ∧ Q (.bl (!PyData.eqv d e)) H) G f g (.bool (!PyData.eqv f g)) :=
  fun H x y Q _ dx dy q => ⟨f, g, dx, dy, o1, o2, q _ H (Same.refl H) (.bl _)⟩
include hr in
theorem de_eqQ (ha : DE X a σ G d) (hb : DE X b σ G d') (o1 : okD 8 d) (o2 : okD 8 d') : DE X (.Compare a [.Eq] [b] pos) σ G (.bool (PyData.eqv d d')) := de_cmp (op_eqQ hr) (nomark _) ha hb (d2_eqQ o1 o2)
include hr in
theorem dt_eqQ (ha : DE X a σ G d) (hb : DE X b σ G d') (o1 : okD 8 d) (o2 : okD 8 d') : DT X (.Compare a [.Eq] [b] pos) σ G (PyData.eqv d d') := dt_cmp (op_eqQ hr) (nomark _) ha hb (d2_eqQ o1 o2)
include hr in
theorem de_neQ (ha : DE X a σ G d) (hb : DE X b σ G d') (o1 : okD 8 d) (o2 : okD 8 d') : DE X (.Compare a [.NotEq] [b] pos) σ G (.bool (!PyData.eqv d d')) := de_cmp (op_neQ hr) (nomark _) ha hb (d2_neQ o1 o2)
include hr in
theorem dt_neQ (ha : DE X a σ G d) (hb : DE X b σ G d') (o1 : okD 8 d) (o2 : okD 8 d') : DT X (.Compare a [.NotEq] [b] pos) σ G (!PyData.eqv d d') := dt_cmp (op_neQ hr) (nomark _) ha hb (d2_neQ o1 o2)
include hr in
theorem dt_notInQ {es : List PyData} (ha : DE X a σ G d) (hb : DE X b σ G (.list es)) (o1 : okD 8 d) (o2 : okD 8 (.list es)) (hm : behindInMarks .NotIn b = false := by rfl) : DT X (.Compare a [.NotIn] [b] pos) σ G (!es.any fun z => PyData.eqv z d) :=
  dt_cmp (op_notInQ hr) hm ha hb fun H x y Q _ dx dy q => ⟨d, es, dx, dy, o1, o2, q _ H (Same.refl H) (.bl _)⟩
end
/-- x in xs, flat -/
def memD (d : PyData) (ds : List PyData) : Bool := ds.any fun y => eqV (toV y) (toV d)
theorem inV_memD : inV (toV d) (ds.map toV) = memD d ds := by
  unfold inV memD
  rw [List.any_map]
  rfl
theorem d2_in {neg : Bool} (f : flatD d = true) (fs : ds.all flatD = true) (hd : d' = .list ds ∨ d' = .tuple ds) : D2 (rIn X.K neg) G d d' (.bool (if neg = true then !memD d ds else memD d ds)) := fun H x y Q _ dx dy q => by
  obtain ⟨e1, e2⟩ := dx.flat f
  have core : ∃ p, y = .ref p ∧ (SqL X.K H p (ds.map toV) ∨ SqT X.K H p (ds.map toV)) ∧ (ds.map toV).all flatV = true := by
    rcases hd with hd | hd
    · subst hd
      cases dy with
      | lst h1 h2 =>
        obtain ⟨e3, e4⟩ := h2.flat fs
        rw [e3] at h1 e4
        exact ⟨_, rfl, .inl (SqL.of h1), e4⟩
    · subst hd
      cases dy with
      | tup h1 h2 =>
        obtain ⟨e3, e4⟩ := h2.flat fs
        rw [e3] at h1 e4
        exact ⟨_, rfl, .inr h1.sq, e4⟩
  obtain ⟨p, rfl, h1, h2⟩ := core
  refine ⟨p, ds.map toV, rfl, h1, e2, h2, ?_⟩
  rw [e1, inV_memD]
  exact q _ H (Same.refl H) (.bl _)
theorem de_in (ha : DE X a σ G d) (hb : DE X b σ G d') (hd : d' = .list ds ∨ d' = .tuple ds) (f : flatD d = true) (fs : ds.all flatD = true) (hm : behindInMarks .In b = false := by rfl) : DE X (.Compare a [.In] [b] pos) σ G (.bool (memD d ds)) :=
  de_cmp op_in_seq hm ha hb (d2_in (neg := false) f fs hd)
theorem dt_in (ha : DE X a σ G d) (hb : DE X b σ G d') (hd : d' = .list ds ∨ d' = .tuple ds) (f : flatD d = true) (fs : ds.all flatD = true) (hm : behindInMarks .In b = false := by rfl) : DT X (.Compare a [.In] [b] pos) σ G (memD d ds) :=
  dt_cmp op_in_seq hm ha hb (d2_in (neg := false) f fs hd)
theorem dt_notIn (ha : DE X a σ G d) (hb : DE X b σ G d') (hd : d' = .list ds ∨ d' = .tuple ds) (f : flatD d = true) (fs : ds.all flatD = true) (hm : behindInMarks .NotIn b = false := by rfl) : DT X (.Compare a [.NotIn] [b] pos) σ G (!memD d ds) :=
  dt_cmp op_notIn_seq hm ha hb (d2_in (neg := true) f fs hd)

/-! ### and, or, not, if .. else -/
theorem dt_and {k m : Bool} (h1 : DT X a σ G k) (h2 : k = true → DT X b σ G m) : DT X (.BoolOp .And [a, b] pos) σ G (k && m) := fun H Q g q => by
  refine wt_of (PW.pt (pw_and pt_wt (pw_and1 pt_wt))) (h1 H _ g fun H1 s1 => ?_)
  cases k with
  | true => exact iteT (h2 rfl H1 Q (g.trans s1) fun H2 s2 => q H2 (s1.trans s2))
  | false => exact iteF (q H1 s1)
theorem dt_or {k m : Bool} (h1 : DT X a σ G k) (h2 : k = false → DT X b σ G m) : DT X (.BoolOp .Or [a, b] pos) σ G (k || m) := fun H Q g q => by
  refine wt_of (PW.pt (pw_or pt_wt (pw_or1 pt_wt))) (h1 H _ g fun H1 s1 => ?_)
  cases k with
  | true => exact iteT (q H1 s1)
  | false => exact iteF (h2 rfl H1 Q (g.trans s1) fun H2 s2 => q H2 (s1.trans s2))
theorem dt_not {k : Bool} (h1 : DT X a σ G k) : DT X (.UnaryOp .Not a pos) σ G (!k) := fun H Q g q => wt_of (pt_not pt_wt) (h1 H _ g fun H1 s1 => q H1 s1)
theorem dt_val {k : Bool} (h : DE X e σ G (.bool k)) (he : ∀ whole, isTrue e X.env whole = (do let v ← whole; standAt e.pos; holding [v] (truthy v)) := by intro _; rfl) : DT X e σ G k := fun H Q g q =>
  wt_of (pt_val pe_we he) (h H _ g fun v H1 s1 dv => by cases dv; exact ⟨k, rfl, q H1 s1⟩)
theorem de_and {k m : Bool} (h1 : DE X a σ G (.bool k)) (h2 : k = true → DE X b σ G (.bool m)) : DE X (.BoolOp .And [a, b] pos) σ G (.bool (k && m)) := fun H Q g q => by
  refine we_of (pe_and pe_we (pe_one pe_we)) (h1 H _ g fun v H1 s1 dv => ?_)
  cases dv
  refine ⟨k, rfl, ?_⟩
  cases k with
  | true => exact iteT (h2 rfl H1 Q (g.trans s1) fun v H2 s2 => q v H2 (s1.trans s2))
  | false => exact iteF (q _ H1 s1 (.bl _))
theorem de_or {k m : Bool} (h1 : DE X a σ G (.bool k)) (h2 : k = false → DE X b σ G (.bool m)) : DE X (.BoolOp .Or [a, b] pos) σ G (.bool (k || m)) := fun H Q g q => by
  refine we_of (pe_or pe_we (pe_one pe_we)) (h1 H _ g fun v H1 s1 dv => ?_)
  cases dv
  refine ⟨k, rfl, ?_⟩
  cases k with
  | true => exact iteT (q _ H1 s1 (.bl _))
  | false => exact iteF (h2 rfl H1 Q (g.trans s1) fun v H2 s2 => q v H2 (s1.trans s2))
theorem de_if {k : Bool} (h : DT X c σ G k) (h1 : k = true → DE X a σ G d) (h2 : k = false → DE X b σ G d) : DE X (.IfExp c a b pos) σ G d := fun H Q g q => by
  refine we_of (pe_ifExp pt_wt pe_we pe_we) (h H _ g fun H1 s1 => ?_)
  cases k with
  | true => exact iteT (h1 rfl H1 Q (g.trans s1) fun v H2 s2 => q v H2 (s1.trans s2))
  | false => exact iteF (h2 rfl H1 Q (g.trans s1) fun v H2 s2 => q v H2 (s1.trans s2))

/-! ### displays, arguments -/
theorem da_nil : DA X [] σ G [] := fun H Q g q => wa_of pa_nil (q [] H (Same.refl H) .nil)
theorem da_cons (h : DE X e σ G d) (hr : DA X es σ G ds) (hs : starEach (e :: es) X.env = (false, eval e X.env) :: starEach es X.env := by rfl) : DA X (e :: es) σ G (d :: ds) := fun H Q g q =>
  wa_of (pa_cons pe_we pa_wa hs) (h H _ g fun v H1 s1 dv => hr H1 _ (g.trans s1) fun vs H2 s2 dvs => q (v :: vs) H2 (s1.trans s2) (.cons (dv.mono s2) dvs))
theorem da_star {xs : List PyData} (h : DE X e σ G d) (hd : d = .list xs ∨ d = .tuple xs) (hr : DA X es σ G ds) (hs : starEach (.Starred e p :: es) X.env = (true, eval e X.env) :: starEach es X.env := by rfl) : DA X (.Starred e p :: es) σ G (xs ++ ds) := fun H Q g q =>
  wa_of (StX.pa_star pe_we pa_wa hs) (h H _ g fun v H1 s1 dv => by
    rcases hd with hd | hd
    · subst hd
      cases dv with
      | lst h1 h2 => exact ⟨_, _, rfl, .inr (SqL.of h1), hr H1 _ (g.trans s1) fun vs H2 s2 dvs => q _ H2 (s1.trans s2) ((h2.mono s2).append dvs)⟩
    · subst hd
      cases dv with
      | tup h1 h2 => exact ⟨_, _, rfl, .inl h1.sq, hr H1 _ (g.trans s1) fun vs H2 s2 dvs => q _ H2 (s1.trans s2) ((h2.mono s2).append dvs)⟩)
theorem de_tup {x1 : Nat} (h : DA X es σ G ds) (hl : ds.length ≤ 1000) : DE X (.Tuple es x1 pos) σ G (.tuple ds) := fun H Q g q =>
  we_of (pe_tupF pa_wa) (h H _ g fun vs H1 s1 dvs => ⟨by rw [dvs.length]; exact Nat.le_of_lt (small1000 hl), fun p H2 hn s2 ht _ => q _ H2 (s1.trans s2) (.tup ht (dvs.mono s2))⟩)
theorem de_lst (h : DA X es σ G ds) (hl : ds.length ≤ 1000) : DE X (.List es pos) σ G (.list ds) := fun H Q g q =>
  we_of (pe_lst pa_wa) (h H _ g fun vs H1 s1 dvs => ⟨by rw [dvs.length]; exact Nat.le_of_lt (small1000 hl), fun p hn => q _ _ (s1.trans (same_new hn)) (.lst upd_same (dvs.mono (same_new hn)))⟩)
end
end DL

/-! Part F: subscripts, slices, built-ins, calls of defs, on data. -/
namespace DL
open PySem PySem.Spec PyProof.Rows L2

structure Blt (mg : Str → Option Value) : Prop where
  range : mg "range" = none
  len : mg "len" = none
  tuple : mg "tuple" = none
  list : mg "list" = none
  zip : mg "zip" = none
  enumerate : mg "enumerate" = none
  all : mg "all" = none
  any : mg "any" = none
  sorted : mg "sorted" = none
  int : mg "int" = none
  abs : mg "abs" = none
  min : mg "min" = none
  repr : mg "repr" = none

section
variable {X : Cx} {e a b c : Expr} {es : List Expr} {σ : L2.St} {G G' : Hp} {d d' : PyData} {ds : List PyData} {pos p p2 : Pos} {i j : Int}
/-! ### subscripts, slices -/
theorem de_ixT (ha : DE X a σ G (.tuple ds)) (hb : DE X b σ G (.int i)) (h : atI ds i = some d) (hs : PlainIx b := by intro _ _; rfl) : DE X (.Subscript a b pos) σ G d := fun H Q g q =>
  we_of (pe_ix ix_tup pe_we pe_we hs) (ha H _ g fun x H1 s1 dx => hb H1 _ (g.trans s1) fun y H2 s2 dy => by
    cases dx with
    | tup h1 h2 =>
      cases dy
      obtain ⟨k, e1, e2, e3, _⟩ := atI_get h
      obtain ⟨v, ev, dv⟩ := h2.get e2
      refine ⟨_, _, i, v, rfl, rfl, (h1.mono s2).sq, ?_, q v H2 (s1.trans s2) (dv.mono s2)⟩
      unfold atI at h ⊢
      rw [h2.length]
      cases hk : ixN ds.length i with
      | none => rw [hk] at h; cases h
      | some m =>
        rw [hk] at h
        have h' : ds[m]? = some d := h
        have em := (ixN_seq hk).1
        rw [em] at e1
        cases e1
        exact ev)
theorem de_ixL (ha : DE X a σ G (.list ds)) (hb : DE X b σ G (.int i)) (h : atI ds i = some d) (hs : PlainIx b := by intro _ _; rfl) : DE X (.Subscript a b pos) σ G d := fun H Q g q =>
  we_of (pe_ix ix_list pe_we pe_we hs) (ha H _ g fun x H1 s1 dx => hb H1 _ (g.trans s1) fun y H2 s2 dy => by
    cases dx with
    | lst h1 h2 =>
      cases dy
      obtain ⟨k, e1, e2, e3, _⟩ := atI_get h
      obtain ⟨v, ev, dv⟩ := h2.get e2
      refine ⟨_, _, i, v, rfl, rfl, SqL.of (s2 _ _ h1), ?_, q v H2 (s1.trans s2) (dv.mono s2)⟩
      unfold atI at h ⊢
      rw [h2.length]
      cases hk : ixN ds.length i with
      | none => rw [hk] at h; cases h
      | some m =>
        rw [hk] at h
        have h' : ds[m]? = some d := h
        have em := (ixN_seq hk).1
        rw [em] at e1
        cases e1
        exact ev)
def cutD (ds : List PyData) (lo hi : Option Int) : List PyData := (ds.drop (HT.sIx ds.length 0 lo)).take (HT.sIx ds.length ds.length hi - HT.sIx ds.length 0 lo)
theorem DqAll.cut {H : Hp} {vs : List V} (h : DqAll H vs ds) (lo hi : Option Int) : DqAll H (cutV vs lo hi) (cutD ds lo hi) := by
  unfold cutV cutD
  rw [h.length]
  exact (h.drop _).take _
/-- the parts of a slice -/
def DO (X : Cx) (e : Option Expr) (σ : L2.St) (G : Hp) (o : Option Int) : Prop := ∃ t, PO X e t ∧ ∀ H Q, Same G H → (∀ H2, Same H H2 → Q o H2) → t σ H Q
theorem do_none : DO X none σ G none := ⟨_, po_none, fun H Q _ q => q H (Same.refl H)⟩
theorem do_some (h : DE X e σ G (.int i)) : DO X (some e) σ G (some i) := ⟨_, po_some pe_we, fun H Q g q => h H _ g fun v H1 s1 dv => by
  cases dv
  exact ⟨i, rfl, q H1 s1⟩⟩
theorem de_slT {lo hi : Option Expr} {ol oh : Option Int} (ha : DE X a σ G (.tuple ds)) (hl : DO X lo σ G ol) (hh : DO X hi σ G oh) : DE X (.Subscript a (.Slice lo hi none p2) pos) σ G (.tuple (cutD ds ol oh)) := fun H Q g q => by
  obtain ⟨tl, pl, rl⟩ := hl
  obtain ⟨th, ph, rh⟩ := hh
  refine we_of (pe_slice sl_tupF pe_we pl ph) (ha H _ g fun x H1 s1 dx => rl H1 _ (g.trans s1) fun H2 s2 => rh H2 _ ((g.trans s1).trans s2) fun H3 s3 => ?_)
  cases dx with
  | tup h1 h2 => exact ⟨_, _, rfl, h1.mono (s2.trans s3), fun p H4 s4 ht _ => q _ H4 (((s1.trans s2).trans s3).trans s4) (.tup ht ((h2.mono ((s2.trans s3).trans s4)).cut ol oh))⟩
theorem de_slL {lo hi : Option Expr} {ol oh : Option Int} (ha : DE X a σ G (.list ds)) (hl : DO X lo σ G ol) (hh : DO X hi σ G oh) : DE X (.Subscript a (.Slice lo hi none p2) pos) σ G (.list (cutD ds ol oh)) := fun H Q g q => by
  obtain ⟨tl, pl, rl⟩ := hl
  obtain ⟨th, ph, rh⟩ := hh
  refine we_of (pe_slice sl_list pe_we pl ph) (ha H _ g fun x H1 s1 dx => rl H1 _ (g.trans s1) fun H2 s2 => rh H2 _ ((g.trans s1).trans s2) fun H3 s3 => ?_)
  cases dx with
  | lst h1 h2 => exact ⟨_, _, rfl, SqL.of ((s2.trans s3) _ _ h1), fun p hn => q _ _ (((s1.trans s2).trans s3).trans (same_new hn)) (.lst upd_same ((h2.mono ((s2.trans s3).trans (same_new hn))).cut ol oh))⟩
theorem cut_to (k : Nat) : cutD ds none (some (k : Int)) = ds.take k := by
  unfold cutD
  rw [HT.sIx_none, HT.sIx_nat, List.drop_zero, Nat.sub_zero]
  by_cases h : k ≤ ds.length
  · rw [Nat.min_eq_left h]
  · rw [Nat.min_eq_right (by omega), List.take_length, List.take_of_length_le (by omega)]
theorem cut_from (k : Nat) : cutD ds (some (k : Int)) none = ds.drop k := by
  unfold cutD
  rw [HT.sIx_none, HT.sIx_nat]
  by_cases h : k ≤ ds.length
  · rw [Nat.min_eq_left h]
    exact List.take_of_length_le (by rw [List.length_drop]; exact Nat.le_refl _)
  · rw [Nat.min_eq_right (by omega), List.drop_length, List.drop_of_length_le (by omega), List.take_nil]
/-! ### built-ins -/
theorem we_B {id : String} {x : Str} {r : List V → Hp → VK → Prop} {H : Hp} {Q : VK} (hc : CallR X (.builtin id) r) (hm : X.mg x = none) (hv : bootBuiltins x = some (.builtin id)) (h : WA X (e :: es) σ H fun vs H1 => r vs H1 Q)
    (hg : Gl X x) (hn : x ≠ "__name__") (hdb : (x == ("__debug__" : Str)) = false)
    (he : starEach (e :: es) X.env = (false, eval e X.env) :: starEach es X.env) (hpl : (backTo pos (starEach es X.env)).any (·.1) = false) : WE X (.Call (.Name x p) (e :: es) [] pos) σ H Q :=
  we_of (pe_callB hc hg hm hv pa_wa hn hdb he hpl) h
theorem we_T {T : String} {x : Str} {r : List V → Hp → VK → Prop} {H : Hp} {Q : VK} (hc : CallR X (.type T) r) (hm : X.mg x = none) (hv : bootBuiltins x = some (.type T)) (h : WA X (e :: es) σ H fun vs H1 => r vs H1 Q)
    (hg : Gl X x) (hn : x ≠ "__name__") (hdb : (x == ("__debug__" : Str)) = false)
    (he : starEach (e :: es) X.env = (false, eval e X.env) :: starEach es X.env) (hpl : (backTo pos (starEach es X.env)).any (·.1) = false) : WE X (.Call (.Name x p) (e :: es) [] pos) σ H Q :=
  we_of (pe_callTy hc hg hm hv pa_wa hn hdb he hpl) h
theorem DqAll.one_inv {H : Hp} {vs : List V} (h : DqAll H vs [d]) : ∃ v, vs = [v] ∧ Dq H v d := by
  cases h with
  | cons h1 h2 => cases h2; exact ⟨_, rfl, h1⟩
variable (B : Blt X.mg)
include B
theorem de_len (ha : DE X a σ G d) (hd : d = .list ds ∨ d = .tuple ds) (hg : Gl X "len" := by rfl) (he : starEach [a] X.env = (false, eval a X.env) :: starEach [] X.env := by rfl) : DE X (.Call (.Name "len" p) [a] [] pos) σ G (.int (ds.length : Nat)) := fun H Q g q =>
  we_B call_len_seq B.len PySem.boot_len (da_cons ha da_nil he H _ g fun vs H1 s1 dvs => by
    obtain ⟨v, rfl, dv⟩ := dvs.one_inv
    rcases hd with hd | hd
    · subst hd
      cases dv with
      | lst h1 h2 => exact ⟨_, _, rfl, .inl (SqL.of h1), by rw [h2.length]; exact q _ H1 s1 (.int _)⟩
    · subst hd
      cases dv with
      | tup h1 h2 => exact ⟨_, _, rfl, .inr h1.sq, by rw [h2.length]; exact q _ H1 s1 (.int _)⟩) hg (by decide) (by decide) he rfl
theorem de_tupL (ha : DE X a σ G (.list ds)) (hg : Gl X "tuple" := by rfl) (he : starEach [a] X.env = (false, eval a X.env) :: starEach [] X.env := by rfl) : DE X (.Call (.Name "tuple" p) [a] [] pos) σ G (.tuple ds) := fun H Q g q =>
  we_T ct_list B.tuple boot_tuple (da_cons ha da_nil he H _ g fun vs H1 s1 dvs => by
    obtain ⟨v, rfl, dv⟩ := dvs.one_inv
    cases dv with
    | lst h1 h2 => exact ⟨_, _, rfl, SqL.of h1, fun p H2 hn s2 ht _ => q _ H2 (s1.trans s2) (.tup ht (h2.mono s2))⟩) hg (by decide) (by decide) he rfl
theorem de_listS (ha : DE X a σ G d) (hd : d = .list ds ∨ d = .tuple ds) (hg : Gl X "list" := by rfl) (he : starEach [a] X.env = (false, eval a X.env) :: starEach [] X.env := by rfl) : DE X (.Call (.Name "list" p) [a] [] pos) σ G (.list ds) := fun H Q g q =>
  we_T call_list_of B.list boot_list (da_cons ha da_nil he H _ g fun vs H1 s1 dvs => by
    obtain ⟨v, rfl, dv⟩ := dvs.one_inv
    rcases hd with hd | hd
    · subst hd
      cases dv with
      | lst h1 h2 => exact ⟨_, _, rfl, .inl (SqL.of h1), fun l hl => q _ _ (s1.trans (same_new hl)) (.lst upd_same (h2.mono (same_new hl)))⟩
    · subst hd
      cases dv with
      | tup h1 h2 => exact ⟨_, _, rfl, .inr h1.sq, fun l hl => q _ _ (s1.trans (same_new hl)) (.lst upd_same (h2.mono (same_new hl)))⟩) hg (by decide) (by decide) he rfl
theorem de_listR {n : Nat} {pr qr : Pos} (ha : DE X a σ G (.int n)) (hn : n ≤ 1000) (hc : X.calm = true := by rfl) (hg : Gl X "list" := by rfl) (hg2 : Gl X "range" := by rfl) (na : starEach [a] X.env = (false, eval a X.env) :: starEach [] X.env := by rfl)
    (nb : starEach [.Call (.Name "range" pr) [a] [] qr] X.env = (false, eval (.Call (.Name "range" pr) [a] [] qr) X.env) :: starEach [] X.env := by rfl) :
    DE X (.Call (.Name "list" p) [.Call (.Name "range" pr) [a] [] qr] [] pos) σ G (.list ((List.range n).map fun i => .int (i : Nat))) := fun H Q g q =>
  we_of (pe_listRg hc hg B.list (prg_1 hg2 B.range pe_we na) nb) (ha H _ g fun v H1 s1 dv => by
    cases dv
    refine ⟨n, rfl, RgOk.of_le (by decide) (by omega) (by decide) (by omega), fun l hl => q _ _ (s1.trans (same_new hl)) (.lst upd_same ?_)⟩
    have e : rgV 0 (n : Int) = ((List.range n).map fun i => ((i : Nat) : Int)).map V.int := by
      unfold rgV
      rw [List.map_map, Int.sub_zero, Int.toNat_natCast]
      exact List.map_congr_left fun i _ => by show V.int (0 + (i : Int)) = V.int (i : Int); rw [Int.zero_add]
    have e2 : ((List.range n).map fun i => PyData.int (i : Nat)) = ((List.range n).map fun i => ((i : Nat) : Int)).map PyData.int := by rw [List.map_map]; rfl
    rw [e, e2]
    exact DqAll.ints _)
theorem de_any {bs : List Bool} (ha : DE X a σ G (.list (bs.map .bool))) (hc : X.calm = true := by rfl) (hg : Gl X "any" := by rfl) (he : starEach [a] X.env = (false, eval a X.env) :: starEach [] X.env := by rfl) : DE X (.Call (.Name "any" p) [a] [] pos) σ G (.bool (bs.any id)) := fun H Q g q =>
  we_B (cr_any hc) B.any (by decide +kernel) (da_cons ha da_nil he H _ g fun vs H1 s1 dvs => by
    obtain ⟨v, rfl, dv⟩ := dvs.one_inv
    cases dv with
    | lst h1 h2 =>
      rw [h2.bools_inv] at h1
      exact ⟨_, bs, rfl, SqL.of h1, q _ H1 s1 (.bl _)⟩) hg (by decide) (by decide) he rfl
theorem de_all {bs : List Bool} (ha : DE X a σ G (.list (bs.map .bool))) (hc : X.calm = true := by rfl) (hg : Gl X "all" := by rfl) (he : starEach [a] X.env = (false, eval a X.env) :: starEach [] X.env := by rfl) : DE X (.Call (.Name "all" p) [a] [] pos) σ G (.bool (bs.all id)) := fun H Q g q =>
  we_B (cr_all hc) B.all (by decide +kernel) (da_cons ha da_nil he H _ g fun vs H1 s1 dvs => by
    obtain ⟨v, rfl, dv⟩ := dvs.one_inv
    cases dv with
    | lst h1 h2 =>
      rw [h2.bools_inv] at h1
      exact ⟨_, bs, rfl, SqL.of h1, q _ H1 s1 (.bl _)⟩) hg (by decide) (by decide) he rfl
/-- the ints sorted -/
def isort (ns : List Int) : List Int := ns.mergeSort fun a b => decide (a ≤ b)
omit B in
theorem isort_perm (ns : List Int) : (isort ns).Perm ns := List.mergeSort_perm _ _
omit B in
theorem isort_up (ns : List Int) : (isort ns).Pairwise (· ≤ ·) := by
  have h := List.pairwise_mergeSort (le := fun (a b : Int) => decide (a ≤ b)) (fun a b c h1 h2 => decide_eq_true (Int.le_trans (of_decide_eq_true h1) (of_decide_eq_true h2))) (fun a b => by
    by_cases h : a ≤ b
    · rw [decide_eq_true h]; rfl
    · rw [decide_eq_true (show b ≤ a by omega), Bool.or_true]) ns
  exact h.imp fun h => of_decide_eq_true h
theorem de_sortI {ns : List Int} (ha : DE X a σ G (.list (ns.map .int))) (hl : ns.length < 64) (hg : Gl X "sorted" := by rfl) (he : starEach [a] X.env = (false, eval a X.env) :: starEach [] X.env := by rfl) : DE X (.Call (.Name "sorted" p) [a] [] pos) σ G (.list ((isort ns).map .int)) := fun H Q g q =>
  we_B cr_sorted B.sorted boot_sorted (da_cons ha da_nil he H _ g fun vs H1 s1 dvs => by
    obtain ⟨v, rfl, dv⟩ := dvs.one_inv
    cases dv with
    | lst h1 h2 =>
      rw [h2.ints_inv] at h1
      refine ⟨_, ns, rfl, SqL.of h1, hl, fun ns' l pe up hn => ?_⟩
      have e : ns' = isort ns := PySem.W.ksm_same (pe.trans (isort_perm ns).symm) up (isort_up ns)
      rw [e]
      exact q _ _ (s1.trans (same_new hn)) (.lst upd_same (DqAll.ints _))) hg (by decide) (by decide) he rfl
/-- the lists of ints sorted -/
def lsort (xs : List (List Int)) : List (List Int) := xs.mergeSort fun a b => decide (a ≤ b)
omit B in
theorem DqAll.tups {H : Hp} : ∀ {xs : List (List Int)} {vs : List V}, DqAll H vs (xs.map fun x => .tuple (x.map .int)) → ∃ ps : List (V × List Int), vs = ps.map (·.1) ∧ xs = ps.map (·.2) ∧ ∀ p ∈ ps, ∃ t, p.1 = .ref t ∧ TupAt H t (p.2.map V.int)
  | [], _, h => by cases h; exact ⟨[], rfl, rfl, fun p hp => absurd hp (by simp)⟩
  | x :: xs, vs, h => by
    have h' : DqAll H vs (.tuple (x.map .int) :: xs.map fun x => .tuple (x.map .int)) := h
    cases h' with
    | cons h1 h2 =>
      obtain ⟨ps, e1, e2, f⟩ := DqAll.tups h2
      cases h1 with
      | tup k1 k2 =>
        rename_i a ys
        rw [k2.ints_inv] at k1
        refine ⟨(.ref a, x) :: ps, by rw [e1]; rfl, by rw [e2]; rfl, fun p hp => ?_⟩
        rcases List.mem_cons.mp hp with e | hp
        · rw [e]; exact ⟨a, rfl, k1⟩
        · exact f p hp
omit B in
theorem DqAll.of_tups {H : Hp} : ∀ {ps : List (V × List Int)}, (∀ p ∈ ps, ∃ t, p.1 = .ref t ∧ TupAt H t (p.2.map V.int)) → DqAll H (ps.map (·.1)) ((ps.map (·.2)).map fun x => .tuple (x.map .int))
  | [], _ => .nil
  | p :: ps, f => by
    obtain ⟨t, e, h⟩ := f p List.mem_cons_self
    refine .cons ?_ (DqAll.of_tups fun q hq => f q (List.mem_cons_of_mem _ hq))
    show Dq H p.1 (.tuple (p.2.map .int))
    rw [e]
    exact .tup h (DqAll.ints _)
theorem de_sortT {k : Nat} (hr : Room k X.A) {xs : List (List Int)} (ha : DE X a σ G (.list (xs.map fun x => .tuple (x.map .int)))) (hne : ∀ x ∈ xs, x ≠ []) (hg : Gl X "sorted" := by rfl)
    (he : starEach [a] X.env = (false, eval a X.env) :: starEach [] X.env := by rfl) : DE X (.Call (.Name "sorted" p) [a] [] pos) σ G (.list ((lsort xs).map fun x => .tuple (x.map .int))) := fun H Q g q =>
  we_B (cr_sortT hr) B.sorted boot_sorted (da_cons ha da_nil he H _ g fun vs H1 s1 dvs => by
    obtain ⟨v, rfl, dv⟩ := dvs.one_inv
    cases dv with
    | lst h1 h2 =>
      obtain ⟨ps, e1, e2, f⟩ := h2.tups
      rw [e1] at h1
      refine ⟨_, ps, rfl, SqL.of h1, fun p hp => ?_, fun l hl => q _ _ (s1.trans (same_new hl)) (.lst upd_same ?_)⟩
      · obtain ⟨t, z1, z2⟩ := f p hp
        exact ⟨t, z1, z2, hne _ (by rw [e2]; exact List.mem_map.mpr ⟨p, hp, rfl⟩)⟩
      · have e3 : lsort xs = (ps.mergeSort leP).map (·.2) := by
          rw [e2]
          unfold lsort
          exact (PySem.W.sort_maps (fun p : V × List Int => p.2) fun a _ b _ => rfl).symm
        rw [e3]
        refine DqAll.of_tups fun p hp => ?_
        obtain ⟨t, z1, z2⟩ := f p ((List.mergeSort_perm ps leP).mem_iff.mp hp)
        exact ⟨t, z1, z2.mono (same_new hl)⟩) hg (by decide) (by decide) he rfl
theorem de_intc (ha : DE X a σ G (.int i)) (hg : Gl X "int" := by rfl) (he : starEach [a] X.env = (false, eval a X.env) :: starEach [] X.env := by rfl) : DE X (.Call (.Name "int" p) [a] [] pos) σ G (.int i) := fun H Q g q =>
  we_T call_int1 B.int boot_int (da_cons ha da_nil he H _ g fun vs H1 s1 dvs => by
    obtain ⟨v, rfl, dv⟩ := dvs.one_inv
    cases dv
    exact .inl ⟨i, rfl, q _ H1 s1 (.int i)⟩) hg (by decide) (by decide) he rfl
theorem de_abs (ha : DE X a σ G (.int i)) (hg : Gl X "abs" := by rfl) (he : starEach [a] X.env = (false, eval a X.env) :: starEach [] X.env := by rfl) : DE X (.Call (.Name "abs" p) [a] [] pos) σ G (.int (if i < 0 then -i else i)) := fun H Q g q =>
  we_B call_abs B.abs boot_abs (da_cons ha da_nil he H _ g fun vs H1 s1 dvs => by
    obtain ⟨v, rfl, dv⟩ := dvs.one_inv
    cases dv
    exact ⟨i, rfl, q _ H1 s1 (.int _)⟩) hg (by decide) (by decide) he rfl
theorem de_min (ha : DE X a σ G (.int i)) (hb : DE X b σ G (.int j)) (hc : X.calm = true := by rfl) (hg : Gl X "min" := by rfl) (he : starEach [a, b] X.env = (false, eval a X.env) :: starEach [b] X.env := by rfl)
    (he2 : starEach [b] X.env = (false, eval b X.env) :: starEach [] X.env := by rfl) (hpl : (backTo pos (starEach [b] X.env)).any (·.1) = false := by rfl) : DE X (.Call (.Name "min" p) [a, b] [] pos) σ G (.int (if j < i then j else i)) := fun H Q g q =>
  we_B (call_min2 hc) B.min (by decide +kernel) (da_cons ha (da_cons hb da_nil he2) he H _ g fun vs H1 s1 dvs => by
    cases dvs with
    | cons d1 d2 =>
      obtain ⟨v, rfl, dv⟩ := d2.one_inv
      cases d1
      cases dv
      exact ⟨i, j, rfl, q _ H1 s1 (.int _)⟩) hg (by decide) (by decide) he hpl
theorem we_repr {k : Nat} {H : Hp} {Q : VK} (hgd : X.A.guards = some []) (hr : Room k X.A) (ha : DE X a σ G d) (g : Same G H) (ok : okD 3 d) (hd : d = .list ds ∨ d = .tuple ds) (q : ∀ H2, Same H H2 → Q (.str d.shown) H2) (hg : Gl X "repr" := by rfl)
    (he : starEach [a] X.env = (false, eval a X.env) :: starEach [] X.env := by rfl) : WE X (.Call (.Name "repr" p) [a] [] pos) σ H Q :=
  we_B (cr_reprD hgd hr) B.repr boot_repr (da_cons ha da_nil he H _ g fun vs H1 s1 dvs => by
    obtain ⟨v, rfl, dv⟩ := dvs.one_inv
    have core : ∃ p, v = .ref p := by
      rcases hd with hd | hd <;> subst hd <;> cases dv <;> exact ⟨_, rfl⟩
    obtain ⟨p, rfl⟩ := core
    exact ⟨p, d, rfl, dv, ok, q H1 s1⟩) hg (by decide) (by decide) he rfl
omit B
/-! ### lists and tuples put together -/
theorem de_catL {es' : List PyData} (ha : DE X a σ G (.list ds)) (hb : DE X b σ G (.list es')) (hl : ds.length + es'.length ≤ 1000) : DE X (.BinOp a .Add b pos) σ G (.list (ds ++ es')) :=
  de_op op_cat ha hb fun H x y Q _ dx dy q => by
    cases dx with
    | lst h1 h2 =>
      cases dy with
      | lst h3 h4 => exact ⟨_, _, _, _, rfl, rfl, h1, h3, by rw [h2.length, h4.length]; exact Nat.le_of_lt (small1000 hl), fun p hn => q _ _ (same_new hn) (.lst upd_same ((h2.append h4).mono (same_new hn)))⟩
theorem de_catT {es' : List PyData} (ha : DE X a σ G (.tuple ds)) (hb : DE X b σ G (.tuple es')) (hl : ds.length + es'.length ≤ 1000) : DE X (.BinOp a .Add b pos) σ G (.tuple (ds ++ es')) :=
  de_op op_catF ha hb fun H x y Q _ dx dy q => by
    cases dx with
    | tup h1 h2 =>
      cases dy with
      | tup h3 h4 => exact ⟨_, _, _, _, rfl, rfl, h1, h3, by rw [h2.length, h4.length]; exact Nat.le_of_lt (small1000 hl), fun p H2 s ht _ => q _ H2 s (.tup ht ((h2.append h4).mono s))⟩
theorem DqAll.rep {H : Hp} {vs : List V} (h : DqAll H vs ds) : ∀ n : Nat, DqAll H (List.replicate n vs).flatten (List.replicate n ds).flatten
  | 0 => .nil
  | n + 1 => by
    rw [List.replicate_succ, List.replicate_succ, List.flatten_cons, List.flatten_cons]
    exact h.append (DqAll.rep h n)
theorem rep_one (n : Nat) (d : PyData) : (List.replicate n [d]).flatten = List.replicate n d := by
  induction n with
  | zero => rfl
  | succ n ih => rw [List.replicate_succ, List.flatten_cons, ih, List.replicate_succ]; rfl
theorem de_repL {n : Nat} (ha : DE X a σ G (.list [d])) (hb : DE X b σ G (.int (n : Nat))) (hl : n ≤ 1000) : DE X (.BinOp a .Mult b pos) σ G (.list (List.replicate n d)) :=
  de_op op_rep ha hb fun H x y Q _ dx dy q => by
    cases dx with
    | lst h1 h2 =>
      cases dy
      refine ⟨_, (n : Nat), _, rfl, rfl, h1, by omega, by omega, by rw [h2.length, Int.toNat_natCast]; exact Nat.le_of_lt (small1000 (by simpa using hl)), fun p hn => q _ _ (same_new hn) (.lst upd_same ?_)⟩
      rw [Int.toNat_natCast]
      have e : (List.replicate n [d]).flatten = List.replicate n d := rep_one n d
      rw [← e]
      exact (h2.rep n).mono (same_new hn)
theorem de_rep1 (ha : DE X a σ G (.tuple ds)) (hb : DE X b σ G (.int 1)) : DE X (.BinOp a .Mult b pos) σ G (.tuple ds) :=
  de_op op_rep1 ha hb fun H x y Q _ dx dy q => by
    cases dx with
    | tup h1 h2 =>
      cases dy
      exact ⟨_, _, rfl, rfl, h1, q _ H (Same.refl H) (.tup h1 h2)⟩
end
end DL

/-! Part G: a list set aside while an expression runs; list comprehensions on data; loops; unpacking; calls of defs. -/
namespace DL
open PySem PySem.Spec PyProof.Rows L2

/-! ### a list set aside -/
def off (H : Hp) (D : Addr) : Hp := fun a => if a = D then none else H a
theorem off_same {H : Hp} {D : Addr} : off H D D = none := if_pos rfl
theorem off_ne {H : Hp} {D a : Addr} (h : a ≠ D) : off H D a = H a := if_neg h
theorem off_le {H : Hp} {D : Addr} : Same (off H D) H := fun a o e => by
  by_cases h : a = D
  · rw [h, off_same] at e; cases e
  · rwa [off_ne h] at e
theorem same_off {H1 H : Hp} {D : Addr} (s : Same H1 H) (h : H1 D = none) : Same H1 (off H D) := fun a o e => by
  rw [off_ne (ne_of_none e h)]
  exact s a o e
theorem same_mut {H1 H : Hp} {D : Addr} {o : HO} (s : Same H1 H) (h : H1 D = none) : Same H1 (upd H D o) := fun a u e => by
  rw [upd_ne (ne_of_none e h)]
  exact s a u e
theorem off_upd {H : Hp} {D : Addr} {o : HO} (h : H D = none) : off (upd H D o) D = H := by
  funext a
  by_cases e : a = D
  · rw [e, off_same, h]
  · rw [off_ne e, upd_ne e]
theorem off_upd' {H : Hp} {D : Addr} {o : HO} : off (upd H D o) D = off H D := by
  funext a
  by_cases e : a = D
  · rw [e, off_same, off_same]
  · rw [off_ne e, off_ne e, upd_ne e]
theorem upd_off {H : Hp} {D : Addr} {o : HO} (h : H D = some o) : upd (off H D) D o = H := by
  funext a
  by_cases e : a = D
  · rw [e, upd_same, h]
  · rw [upd_ne e, off_ne e]
section
variable {X : Cx} {pins : List (Addr × Obj)} {σ : L2.St} {H H2 : Hp} {s s2 : Shared} {D : Addr} {acc : List V}
theorem Inv.aside (I : L2.Inv X pins σ H s) (hD : H D = some (.lst acc)) : ∃ ob : Obj, s.heap.get? D = some ob ∧ L2.Inv X (pins ++ [(D, ob)]) σ (off H D) s ∧
    ∀ {s2 H2}, L2.Inv X (pins ++ [(D, ob)]) σ H2 s2 → H2 D = none ∧ L2.Inv X pins σ (upd H2 D (.lst acc)) s2 := by
  obtain ⟨z, its, n, r, e⟩ := I.hok D _ hD
  have nD : ∀ {a : Addr}, H a = none → a ≠ D := fun h q => by rw [q, hD] at h; cases h
  have hfs : D ∉ X.fs := fun hb => by
    obtain ⟨_, o, ho, _⟩ := I.ok.funs.mem hb
    have h1 := I.base.free D o ho (I.ok.frf D hb) fun hx => I.ok.exfs D hx hb
    rw [hD] at h1; cases h1
  have ent : ∀ b o, X.s_0.heap.get? b = some o → X.H_0 b = none → b ∉ X.ex → b ≠ D := fun b o h1 h2 h3 q => by
    have h4 := I.base.free b o h1 h2 h3
    rw [q, hD] at h4; cases h4
  refine ⟨_, e, ⟨I.ok, I.os, I.bare, ⟨I.base.keep, I.base.slot, fun b o h1 h2 h3 => ?_, I.base.there, fun b xs h => ?_, fun b o u h => ?_, fun b ps h => ?_⟩, I.loc, I.cell, ?_, fun x c hc => ?_, fun p hp => ?_, fun a o ha => ?_, I.len⟩, fun {s2 H2} J => ?_⟩
  · rw [off_ne (ent b o h1 h2 h3)]; exact I.base.free b o h1 h2 h3
  · have h1 := I.base.tups b xs h
    rw [off_ne fun q => by rw [q, hD] at h1; cases h1]; exact h1
  · have h1 := I.base.frzs b o u h
    rw [off_ne fun q => by rw [q, hD] at h1; cases h1]; exact h1
  · obtain ⟨m, h1⟩ := I.base.tbls b ps h
    exact ⟨m, by rw [off_ne fun q => by rw [q, hD] at h1; cases h1]; exact h1⟩
  · rw [off_ne (nD I.free)]; exact I.free
  · have h1 := I.freeC x c hc
    rw [off_ne (nD h1)]; exact h1
  · rw [← List.append_assoc] at hp
    rcases List.mem_append.mp hp with hp | hp
    · obtain ⟨p1, p2, p3⟩ := I.pin p hp
      exact ⟨p1, by rw [off_ne (nD p2)]; exact p2, p3⟩
    · rw [List.mem_singleton.mp hp]
      exact ⟨e, off_same, fun q => nD I.free q.symm, hfs, fun v q => nomatch q⟩
  · have ha' : H a = some o := off_le a o ha
    exact (I.hok a o ha').stay (fun b u _ q => q) (fun b q => by rw [off_ne fun q' => by rw [q', hD] at q; cases q]; exact q) fun b xs q => by rw [off_ne fun q' => by rw [q', hD] at q; cases q]; exact q
  · obtain ⟨e2, n2, _⟩ := J.pin (D, _) (List.mem_append_right _ (List.mem_append_right _ (List.mem_singleton.mpr rfl)))
    have n2 : H2 D = none := n2
    have e2 : s2.heap.get? D = _ := e2
    refine ⟨n2, J.ok, J.os, J.bare, ⟨J.base.keep, J.base.slot, fun b o h1 h2 h3 => ?_, J.base.there, fun b xs h => ?_, fun b o u h => ?_, fun b ps h => ?_⟩, J.loc, J.cell, ?_, fun x c hc => ?_, fun p hp => ?_, fun a o ha => ?_, J.len⟩
    · rw [upd_ne (ent b o h1 h2 h3)]; exact J.base.free b o h1 h2 h3
    · have h1 := J.base.tups b xs h
      rw [upd_ne (ne_of_none h1 n2)]; exact h1
    · have h1 := J.base.frzs b o u h
      rw [upd_ne (ne_of_none h1 n2)]; exact h1
    · obtain ⟨m, h1⟩ := J.base.tbls b ps h
      exact ⟨m, by rw [upd_ne (ne_of_none h1 n2)]; exact h1⟩
    · rw [upd_ne (nD I.free)]; exact J.free
    · rw [upd_ne (nD (I.freeC x c hc))]; exact J.freeC x c hc
    · obtain ⟨p1, p2, p3⟩ := J.pin p (by rw [← List.append_assoc]; exact List.mem_append_left _ hp)
      exact ⟨p1, by rw [upd_ne (nD (I.pin p hp).2.1)]; exact p2, p3⟩
    · by_cases q : a = D
      · subst q
        rw [upd_same] at ha
        cases ha
        exact ⟨z, its, n, r, e2⟩
      · rw [upd_ne q] at ha
        exact (J.hok a o ha).stay (fun b u _ q => q) (fun b q => by rw [upd_ne (ne_of_none q n2)]; exact q) fun b xs q => by rw [upd_ne (ne_of_none q n2)]; exact q
theorem we_aside {e : Expr} {Q : VK} (hD : H D = some (.lst acc)) (h : WE X e σ (off H D) fun v H2 => H2 D = none → Q v (upd H2 D (.lst acc))) : WE X e σ H Q := ⟨fun pins s σ' H' Q' I z => by
  obtain ⟨rfl, rfl, k⟩ := z
  obtain ⟨ob, eo, I1, back⟩ := Inv.aside I hD
  refine thn (h.run _ s _ _ (fun v H2 => H2 D = none → Q v (upd H2 D (.lst acc))) I1 ⟨rfl, rfl, fun _ _ q => q⟩) fun u s2 ⟨v, H2, I2, rv, q⟩ => ?_
  obtain ⟨n2, I3⟩ := back I2
  exact ⟨v, _, I3, rv, k v _ (q n2)⟩⟩
end

/-! ### list comprehensions -/
def WTs (X : Cx) (ifs : List Expr) (σ : L2.St) (H : Hp) (Q : Bool → Hp → Prop) : Prop := PTs X ifs fun σ' H' Q' => σ' = σ ∧ H' = H ∧ ∀ v H2, Q v H2 → Q' v H2
def DTs (X : Cx) (ifs : List Expr) (σ : L2.St) (G : Hp) (b : Bool) : Prop := ∀ H Q, Same G H → (∀ H2, Same H H2 → Q b H2) → WTs X ifs σ H Q
theorem dts_nil {X : Cx} {σ : L2.St} {G : Hp} : DTs X [] σ G true := fun H Q g q => ⟨fun pins s σ' H' Q' I z => by
  obtain ⟨rfl, rfl, k⟩ := z
  exact pts_nil.run pins s _ _ Q' I (k true _ (q _ (Same.refl _)))⟩
theorem dts_one {X : Cx} {c : Expr} {σ : L2.St} {G : Hp} {b : Bool} (h : DT X c σ G b) : DTs X [c] σ G b := fun H Q g q => ⟨fun pins s σ' H' Q' I z => by
  obtain ⟨rfl, rfl, k⟩ := z
  exact (pts_one (h _ Q' g fun H2 s2 => k b H2 (q H2 s2))).run pins s _ _ Q' I ⟨rfl, rfl, fun _ _ q => q⟩⟩
/-- the block of a comprehension -/
abbrev Blk (X : Cx) (scope : Scope) (Y : Cx) : Prop := ∃ (s : Shared) (H : Hp) (C : Addr) (cl : List (Str × Addr)) (fp : List Addr), Y = X.blk s H scope (compEnvC scope cl C X.env) fp
/-- what is walked, and how it comes to the target's names -/
def Src {α : Type} (X : Cx) (tg iter : Expr) (g : TG) (σ σb : L2.St) (G : Hp) (xs : List α) (Bd : α → Hp → L2.St → Prop) : Prop :=
  ∃ wi, PI X tg iter wi ∧ ∀ H R, Same G H → (∀ J H1 Gp Y, Same H H1 → Walk J xs.length Gp Y → (∀ Ha, Same H1 Ha → Gp Ha) →
    (∀ i a Ha x Hb Q, xs[i]? = some a → Same H1 Ha → Y i Ha x Hb → (∀ Hc σ2, Same Ha Hc → Bd a H1 σ2 → Q σ2 Hc) → g x σb Hb Q) → R J H1) → wi σ H R
def LcR (X : Cx) (e : Expr) (σ : L2.St) (H : Hp) (Q : VK) : Prop :=
  ∃ (elt tg iter : Expr) (ifs : List Expr) (scope : Scope) (pos : Pos) (own : List (Str × Nat)) (wi : TI) (g : TG) (tt : TT) (te : TE), e = .ListComp elt [⟨tg, iter, ifs, 0⟩] scope pos ∧ PI X tg iter wi ∧ BlkOk X.N X.env.scope scope own ∧
    (∀ (s : Shared) (H : Hp) (C : Addr) (cl : List (Str × Addr)) (fp : List Addr), PG (X.blk s H scope (compEnvC scope cl C X.env) fp) tg g) ∧
    (∀ (s : Shared) (H : Hp) (C : Addr) (cl : List (Str × Addr)) (fp : List Addr), PTs (X.blk s H scope (compEnvC scope cl C X.env) fp) ifs tt) ∧
    (∀ (s : Shared) (H : Hp) (C : Addr) (cl : List (Str × Addr)) (fp : List Addr), PE (X.blk s H scope (compEnvC scope cl C X.env) fp) elt te) ∧ (∀ x, foldedSetIterable iter X.env x = pure x) ∧ tLc wi g tt te (own.map (·.2)) σ H Q
section
variable {X : Cx} {e : Expr} {σ : L2.St} {H : Hp} {Q : VK} {rest : List Stmt} {D : Ends}
theorem we_lc (h : LcR X e σ H Q) (hN : X.N.Nodup) (hc : X.calm = true := by rfl) : WE X e σ H Q := by
  obtain ⟨elt, tg, iter, ifs, scope, pos, own, wi, g, tt, te, rfl, h1, h2, h3, h4, h5, h6, h7⟩ := h
  exact we_of (pe_lc hc hN h1 h2 h3 h4 h5 h6) h7
theorem ws_setLc {y : Str} {py spos : Pos} (i : Nat) (hN : X.N.Nodup) (hsw : swapsWith e (some (.Name y py)) spos.line X.env = pure true) (h : LcR X e σ H fun v H1 => WS X rest D (σ.set i (some v)) H1)
    (hy : X.N[i]? = some y := by rfl) (hyl : X.env.scope.names.lookup y = some .local := by rfl) (hc : X.calm = true := by rfl) : WS X (.Assign [.Name y py] e spos :: rest) D σ H := by
  obtain ⟨elt, tg, iter, ifs, scope, pos, own, wi, g, tt, te, rfl, h1, h2, h3, h4, h5, h6, h7⟩ := h
  exact ws_step (ps_setLc (i := i) hc hN hy hyl hsw h1 h2 h3 h4 h5 h6) h7
theorem take_filter {α : Type} {xs : List α} {i : Nat} {a : α} (h : xs[i]? = some a) (p : α → Bool) : (xs.take (i + 1)).filter p = (xs.take i).filter p ++ (if p a = true then [a] else []) := by
  rw [List.take_add_one, h, List.filter_append]
  congr 1
  show List.filter p [a] = _
  rw [List.filter_cons]
  split <;> simp
/-- THE RULE: a comprehension -/
theorem lcr {α : Type} {xs : List α} {Bd : α → Hp → L2.St → Prop} {own : List (Str × Nat)} {G : Hp} {elt tg iter : Expr} {ifs : List Expr} {scope : Scope} {pos : Pos} {g : TG} (pt : α → Bool) (f : α → PyData)
    (hsrc : Src X tg iter g σ (wipe σ (own.map (·.2))) G xs Bd) (ok : BlkOk X.N X.env.scope scope own) (hg : ∀ Y, Blk X scope Y → PG Y tg g)
    (ht : ∀ a ∈ xs, ∀ Y, Blk X scope Y → ∀ Ha σ2, Same G Ha → Bd a Ha σ2 → DTs Y ifs σ2 Ha (pt a)) (he : ∀ a ∈ xs, pt a = true → ∀ Y, Blk X scope Y → ∀ Ha σ2, Same G Ha → Bd a Ha σ2 → DE Y elt σ2 Ha (f a))
    (hbd : ∀ a Ha Hb σ2, Same Ha Hb → Bd a Ha σ2 → Bd a Hb σ2)
    (hw : ∀ a Ha σ2, Bd a Ha σ2 → wipe σ2 (own.map (·.2)) = wipe σ (own.map (·.2))) (hl : xs.length ≤ 100000) (g0 : Same G H)
    (q : ∀ D H2 vs, H D = none → Same H H2 → H2 D = some (.lst vs) → DqAll (off H2 D) vs ((xs.filter pt).map f) → Q (.ref D) H2)
    (hs : ∀ x, foldedSetIterable iter X.env x = pure x := by intro _; rfl) : LcR X (.ListComp elt [⟨tg, iter, ifs, 0⟩] scope pos) σ H Q := by
  obtain ⟨wi, hpi, hr⟩ := hsrc
  refine ⟨elt, tg, iter, ifs, scope, pos, own, wi, g, fun σ H Q => ∀ Y, Blk X scope Y → WTs Y ifs σ H Q, fun σ H Q => ∀ Y, Blk X scope Y → WE Y elt σ H Q, rfl, hpi, ok, fun s H C cl fp => hg _ ⟨s, H, C, cl, fp, rfl⟩,
    fun s H C cl fp => ⟨fun pins s' σ' H' Q' I z => (z _ ⟨s, H, C, cl, fp, rfl⟩).run pins s' σ' H' Q' I ⟨rfl, rfl, fun _ _ q => q⟩⟩,
    fun s H C cl fp => ⟨fun pins s' σ' H' Q' I z => (z _ ⟨s, H, C, cl, fp, rfl⟩).run pins s' σ' H' Q' I ⟨rfl, rfl, fun _ _ q => q⟩⟩, hs, ?_⟩
  refine hr H _ g0 fun J H1 Gp Y s1 wk hG hY D hD => ?_
  have gD : G D = none := by
    cases z : G D with
    | none => rfl
    | some o => rw [s1 _ _ (g0 _ _ z)] at hD; cases hD
  refine lc_it wk (g := g) (tt := fun σ H Q => ∀ Y, Blk X scope Y → WTs Y ifs σ H Q) (te := fun σ H Q => ∀ Y, Blk X scope Y → WE Y elt σ H Q) (vs := own.map (·.2)) (σ := σ) (Qd := fun Hc => Q (.ref D) Hc) (fun i Hc => Same H1 Hc ∧ ∃ vs, Hc D = some (.lst vs) ∧ DqAll (off Hc D) vs (((xs.take i).filter pt).map f)) ⟨same_new hD, [], upd_same, .nil⟩ (fun i Hc _ p => hG Hc p.1) (fun i x Hc Hb hi p y => ?_) fun Hc p => ?_
  · obtain ⟨p1, vs, p2, p3⟩ := p
    have ha : xs[i]? = some xs[i] := List.getElem?_eq_getElem hi
    have hm : xs[i] ∈ xs := List.getElem_mem hi
    refine hY i xs[i] Hc x Hb _ ha p1 y fun H2 σ2 s2 bd => ⟨hw _ _ _ bd, fun Yb hYb => ?_⟩
    have g2 : Same G H2 := ((g0.trans s1).trans p1).trans s2
    have hvl : vs.length ≤ 100000 := by
      rw [p3.length, List.length_map]
      have h1 := List.length_filter_le pt (xs.take i)
      rw [List.length_take] at h1
      omega
    refine ht _ hm Yb hYb H2 σ2 g2 (hbd _ _ _ _ (p1.trans s2) bd) H2 _ (Same.refl H2) fun H3 s3 => ?_
    have dD : H3 D = some (.lst vs) := s3 _ _ (s2 _ _ p2)
    have old3 : DqAll (off H3 D) vs (((xs.take i).filter pt).map f) := p3.mono (fun a o ea => by
      have nd : a ≠ D := fun z => by rw [z, off_same] at ea; cases ea
      rw [off_ne nd] at ea ⊢
      exact s3 _ _ (s2 _ _ ea))
    cases hp : pt xs[i] with
    | false =>
      show Same H1 H3 ∧ _
      refine ⟨(p1.trans s2).trans s3, vs, dD, ?_⟩
      rw [take_filter ha, hp]
      simpa using old3
    | true =>
      show ∀ Y, Blk X scope Y → WE Y elt σ2 H3 _
      intro Yc hYc
      refine we_aside dD (he _ hm hp Yc hYc (off H3 D) σ2 (same_off (g2.trans s3) gD) (hbd _ _ _ _ (same_off ((p1.trans s2).trans s3) hD) bd) (off H3 D) _ (Same.refl _) fun v H4 s4 dv n4 => ?_)
      refine ⟨vs, upd_same, Nat.lt_of_le_of_lt hvl (by rw [sizeLine_eq]; omega), ?_⟩
      have e5 : upd (upd H4 D (.lst vs)) D (.lst (vs ++ [v])) = upd H4 D (.lst (vs ++ [v])) := upd_upd
      rw [e5]
      refine ⟨same_mut ((same_off ((p1.trans s2).trans s3) hD).trans s4) hD, vs ++ [v], upd_same, ?_⟩
      rw [take_filter ha, hp, off_upd n4, List.map_append]
      exact (old3.mono s4).append (DqAll.one dv)
  · obtain ⟨p1, vs, p2, p3⟩ := p
    rw [List.take_length] at p3
    refine q D Hc vs ?_ (s1.trans p1) p2 p3
    cases z : H D with
    | none => rfl
    | some o => rw [s1 _ _ z] at hD; cases hD
end
end DL

/-! Part H: what comprehensions walk; methods; calls of defs; for, while, unpacking. -/
namespace DL
open PySem PySem.Spec PyProof.Rows L2

section
variable {X : Cx} {σ σb : L2.St} {G : Hp} {α β : Type}
/-- slots bound: one name | two names | three names -/
def Bd1 (σb : L2.St) (j : Nat) (enc : α → PyData) : α → Hp → L2.St → Prop := fun a H σ2 => ∃ v, σ2 = σb.set j (some v) ∧ Dq H v (enc a)
def Bd2 (σb : L2.St) (j k : Nat) (e1 e2 : α → PyData) : α → Hp → L2.St → Prop := fun a H σ2 => ∃ v w, σ2 = (σb.set j (some v)).set k (some w) ∧ Dq H v (e1 a) ∧ Dq H w (e2 a)
def Bd3 (σb : L2.St) (j k l : Nat) (e1 e2 e3 : α → PyData) : α → Hp → L2.St → Prop := fun a H σ2 => ∃ u v w, σ2 = ((σb.set j (some u)).set k (some v)).set l (some w) ∧ Dq H u (e1 a) ∧ Dq H v (e2 a) ∧ Dq H w (e3 a)
theorem bd1_mono {j : Nat} {enc : α → PyData} {a : α} {Ha Hb : Hp} {σ2 : L2.St} (s : Same Ha Hb) (h : Bd1 σb j enc a Ha σ2) : Bd1 σb j enc a Hb σ2 := by
  obtain ⟨v, e, d⟩ := h
  exact ⟨v, e, d.mono s⟩
theorem bd2_mono {j k : Nat} {e1 e2 : α → PyData} {a : α} {Ha Hb : Hp} {σ2 : L2.St} (s : Same Ha Hb) (h : Bd2 σb j k e1 e2 a Ha σ2) : Bd2 σb j k e1 e2 a Hb σ2 := by
  obtain ⟨v, w, e, d1, d2⟩ := h
  exact ⟨v, w, e, d1.mono s, d2.mono s⟩
theorem bd3_mono {j k l : Nat} {e1 e2 e3 : α → PyData} {a : α} {Ha Hb : Hp} {σ2 : L2.St} (s : Same Ha Hb) (h : Bd3 σb j k l e1 e2 e3 a Ha σ2) : Bd3 σb j k l e1 e2 e3 a Hb σ2 := by
  obtain ⟨u, v, w, e, d1, d2, d3⟩ := h
  exact ⟨u, v, w, e, d1.mono s, d2.mono s, d3.mono s⟩
theorem DqAll.at {H : Hp} {vs : List V} {xs : List α} {enc : α → PyData} {i : Nat} {a : α} {v : V} (h : DqAll H vs (xs.map enc)) (ha : xs[i]? = some a) (hv : vs[i]? = some v) : Dq H v (enc a) := by
  obtain ⟨w, hw, d⟩ := h.get (i := i) (d := enc a) (by rw [List.getElem?_map, ha]; rfl)
  rw [hv] at hw
  cases hw
  exact d
theorem src_L {tg iter : Expr} {xs : List α} {j : Nat} (enc : α → PyData) (h : DE X iter σ G (.list (xs.map enc))) : Src X tg iter (gName j) σ σb G xs (Bd1 σb j enc) :=
  ⟨_, pi_list pe_we, fun H R g k => h H _ g fun v H1 s1 dv => by
    cases dv with
    | lst h1 h2 =>
      rename_i a ys
      have hl : ys.length = xs.length := by rw [h2.length, List.length_map]
      refine ⟨a, rfl, ⟨ys, SqL.of h1⟩, k (Itl X.K a) H1 (fun H => SqL X.K H a ys) (YAt ys) s1 (hl ▸ walk_list) (fun Ha sa => SqL.of (sa _ _ h1)) fun i b Ha x Hb Q hb sa y q => ?_⟩
      obtain ⟨rfl, y⟩ := y
      exact q _ _ (Same.refl _) ⟨x, rfl, h2.at hb y⟩⟩
theorem src_T {tg iter : Expr} {xs : List α} {j : Nat} (enc : α → PyData) (h : DE X iter σ G (.tuple (xs.map enc))) : Src X tg iter (gName j) σ σb G xs (Bd1 σb j enc) :=
  ⟨_, pi_tup pe_we, fun H R g k => h H _ g fun v H1 s1 dv => by
    cases dv with
    | tup h1 h2 =>
      rename_i a ys
      have hl : ys.length = xs.length := by rw [h2.length, List.length_map]
      refine ⟨a, rfl, ⟨ys, h1.sq⟩, k (Itt X.K a) H1 (fun H => SqT X.K H a ys) (YAt ys) s1 (hl ▸ walk_tup) (fun Ha sa => (h1.mono sa).sq) fun i b Ha x Hb Q hb sa y q => ?_⟩
      obtain ⟨rfl, y⟩ := y
      exact q _ _ (Same.refl _) ⟨x, rfl, h2.at hb y⟩⟩
/-- the target is a tuple of names, the items tuples -/
theorem src_L2 {tg iter : Expr} {xs : List α} {j k : Nat} (e1 e2 : α → PyData) (h : DE X iter σ G (.list (xs.map fun a => .tuple [e1 a, e2 a]))) : Src X tg iter (gTup X.K 2 (gCons (gName j) (gCons (gName k) gNil))) σ σb G xs (Bd2 σb j k e1 e2) :=
  ⟨_, pi_list pe_we, fun H R g kk => h H _ g fun v H1 s1 dv => by
    cases dv with
    | lst h1 h2 =>
      rename_i a ys
      have hl : ys.length = xs.length := by rw [h2.length, List.length_map]
      refine ⟨a, rfl, ⟨ys, SqL.of h1⟩, kk (Itl X.K a) H1 (fun H => SqL X.K H a ys) (YAt ys) s1 (hl ▸ walk_list) (fun Ha sa => SqL.of (sa _ _ h1)) fun i b Ha x Hb Q hb sa y q => ?_⟩
      obtain ⟨rfl, y⟩ := y
      have dx := h2.at hb y
      cases dx with
      | tup k1 k2 =>
        cases k2 with
        | cons m1 m2 =>
          obtain ⟨w, rfl, dw⟩ := m2.one_inv
          exact ⟨_, _, rfl, (k1.mono sa).sq, rfl, _, _, rfl, _, _, rfl, rfl, q _ _ (Same.refl _) ⟨_, _, rfl, m1, dw⟩⟩⟩
theorem src_T2 {tg iter : Expr} {xs : List α} {j k : Nat} (e1 e2 : α → PyData) (h : DE X iter σ G (.tuple (xs.map fun a => .tuple [e1 a, e2 a]))) : Src X tg iter (gTup X.K 2 (gCons (gName j) (gCons (gName k) gNil))) σ σb G xs (Bd2 σb j k e1 e2) :=
  ⟨_, pi_tup pe_we, fun H R g kk => h H _ g fun v H1 s1 dv => by
    cases dv with
    | tup h1 h2 =>
      rename_i a ys
      have hl : ys.length = xs.length := by rw [h2.length, List.length_map]
      refine ⟨a, rfl, ⟨ys, h1.sq⟩, kk (Itt X.K a) H1 (fun H => SqT X.K H a ys) (YAt ys) s1 (hl ▸ walk_tup) (fun Ha sa => (h1.mono sa).sq) fun i b Ha x Hb Q hb sa y q => ?_⟩
      obtain ⟨rfl, y⟩ := y
      have dx := h2.at hb y
      cases dx with
      | tup k1 k2 =>
        cases k2 with
        | cons m1 m2 =>
          obtain ⟨w, rfl, dw⟩ := m2.one_inv
          exact ⟨_, _, rfl, (k1.mono sa).sq, rfl, _, _, rfl, _, _, rfl, rfl, q _ _ (Same.refl _) ⟨_, _, rfl, m1, dw⟩⟩⟩
theorem src_L3 {tg iter : Expr} {xs : List α} {j k l : Nat} (e1 e2 e3 : α → PyData) (h : DE X iter σ G (.list (xs.map fun a => .tuple [e1 a, e2 a, e3 a]))) :
    Src X tg iter (gTup X.K 3 (gCons (gName j) (gCons (gName k) (gCons (gName l) gNil)))) σ σb G xs (Bd3 σb j k l e1 e2 e3) :=
  ⟨_, pi_list pe_we, fun H R g kk => h H _ g fun v H1 s1 dv => by
    cases dv with
    | lst h1 h2 =>
      rename_i a ys
      have hl : ys.length = xs.length := by rw [h2.length, List.length_map]
      refine ⟨a, rfl, ⟨ys, SqL.of h1⟩, kk (Itl X.K a) H1 (fun H => SqL X.K H a ys) (YAt ys) s1 (hl ▸ walk_list) (fun Ha sa => SqL.of (sa _ _ h1)) fun i b Ha x Hb Q hb sa y q => ?_⟩
      obtain ⟨rfl, y⟩ := y
      have dx := h2.at hb y
      cases dx with
      | tup k1 k2 =>
        cases k2 with
        | cons m1 m2 =>
          cases m2 with
          | cons n1 n2 =>
            obtain ⟨w, rfl, dw⟩ := n2.one_inv
            exact ⟨_, _, rfl, (k1.mono sa).sq, rfl, _, _, rfl, _, _, rfl, _, _, rfl, rfl, q _ _ (Same.refl _) ⟨_, _, _, rfl, m1, n1, dw⟩⟩⟩
/-- range(n) -/
theorem src_R {tg a : Expr} {p pos : Pos} {n j : Nat} (B : Blt X.mg) (h : DE X a σ G (.int (n : Nat))) (hn : n ≤ 1000) (hg : Gl X "range" := by rfl) (hs : starEach [a] X.env = [(false, eval a X.env)] := by rfl)
    (na : starEach [a] X.env = (false, eval a X.env) :: starEach [] X.env := by rfl) :
    Src X tg (.Call (.Name "range" p) [a] [] pos) (gName j) σ σb G (List.range n) (Bd1 σb j fun i => .int (i : Nat)) :=
  ⟨_, pi_range1 hg B.range pa_wa hs, fun H R g k => da_cons h da_nil na H _ g fun vs H1 s1 dvs => by
    obtain ⟨v, rfl, dv⟩ := dvs.one_inv
    cases dv
    refine ⟨(n : Nat), rfl, by omega, by omega, k (Itr 0 (n : Int).toNat) H1 (fun _ => True) (YFn fun i => .int (0 + (i : Nat))) s1 ?_ (fun _ _ => trivial) fun i b Ha x Hb Q hb sa y q => ?_⟩
    · rw [List.length_range, Int.toNat_natCast]; exact walk_range
    · obtain ⟨rfl, rfl⟩ := y
      have e : b = i := by
        obtain ⟨h1, h2⟩ := List.getElem?_eq_some_iff.mp hb
        rw [List.getElem_range] at h2
        exact h2.symm
      subst e
      refine q _ _ (Same.refl _) ⟨_, rfl, ?_⟩
      show Dq H1 (.int (0 + (b : Int))) (.int (b : Int))
      rw [Int.zero_add]
      exact .int _⟩
/-- enumerate(tuple) -/
theorem walk_enumT {K : PySem.W.Frag} {a : Addr} {xs : List V} : Walk (IteT K a) xs.length (fun H => SqT K H a xs) (YPair (fun i => some (.int (i : Nat))) (fun i => xs[i]?)) := by
  refine ⟨fun i _ hi q => ⟨xs, xs[i], q, by simp [hi]⟩, fun _ q => ⟨xs, q, rfl⟩, fun i H v H' _ q y => ?_⟩
  obtain ⟨T, x, h1, h2, h3, h4⟩ := y
  exact ⟨T, .int (i : Nat), x, h1, h2, h3, rfl, h4 xs q⟩
theorem pair_step {K : PySem.W.Frag} {Ha Hb : Hp} {f1 f2 : Nat → Option V} {i j k : Nat} {v x y : V} {σb : L2.St} {Q : L2.St → Hp → Prop} (h : YPair f1 f2 i Ha v Hb) (e1 : f1 i = some x) (e2 : f2 i = some y)
    (q : ∀ Hc, Same Ha Hc → Q ((σb.set j (some x)).set k (some y)) Hc) : gTup K 2 (gCons (gName j) (gCons (gName k) gNil)) v σb Hb Q := by
  obtain ⟨T, x', y', rfl, nT, rfl, a1, a2⟩ := h
  rw [e1] at a1
  rw [e2] at a2
  cases a1
  cases a2
  exact ⟨T, [x, y], rfl, SqT.of upd_same, rfl, _, _, rfl, _, _, rfl, rfl, q _ (same_new nT)⟩
theorem src_E {a : Expr} {elts : List Expr} {kk : Nat} {p pos tpos : Pos} {xs : List α} {j k : Nat} (B : Blt X.mg) (enc : α → PyData) (h : DE X a σ G (.tuple (xs.map enc))) (hg : Gl X "enumerate" := by rfl)
    (hs : starEach [a] X.env = [(false, eval a X.env)] := by rfl) (na : starEach [a] X.env = (false, eval a X.env) :: starEach [] X.env := by rfl) :
    Src X (.Tuple elts kk tpos) (.Call (.Name "enumerate" p) [a] [] pos) (gTup X.K 2 (gCons (gName j) (gCons (gName k) gNil))) σ σb G xs.zipIdx (Bd2 σb j k (fun q : α × Nat => .int (q.2 : Nat)) (fun q => enc q.1)) :=
  ⟨_, pi_enumT hg B.enumerate pa_wa hs, fun H R g kk => da_cons h da_nil na H _ g fun vs H1 s1 dvs => by
    obtain ⟨v, rfl, dv⟩ := dvs.one_inv
    cases dv with
    | tup h1 h2 =>
      rename_i a ys
      have hl : ys.length = xs.zipIdx.length := by rw [h2.length, List.length_map, List.length_zipIdx]
      refine ⟨a, ys, rfl, h1.sq, kk (IteT X.K a) H1 (fun H => SqT X.K H a ys) _ s1 (hl ▸ walk_enumT) (fun Ha sa => (h1.mono sa).sq) fun i b Ha x Hb Q hb sa y q => ?_⟩
      rw [List.getElem?_zipIdx] at hb
      cases hx : xs[i]? with
      | none => rw [hx] at hb; cases hb
      | some c =>
        rw [hx] at hb
        have eb : b = (c, i) := by
          have := Option.some.inj hb
          rw [← this]; simp
        subst eb
        obtain ⟨w, hw, dw⟩ := h2.get (i := i) (d := enc c) (by rw [List.getElem?_map, hx]; rfl)
        exact pair_step y rfl hw fun Hc sc => q Hc _ sc ⟨_, _, rfl, .int _, dw⟩⟩
/-- enumerate(list) -/
theorem src_EL {a : Expr} {elts : List Expr} {kk : Nat} {p pos tpos : Pos} {xs : List α} {j k : Nat} (B : Blt X.mg) (enc : α → PyData) (h : DE X a σ G (.list (xs.map enc))) (hg : Gl X "enumerate" := by rfl)
    (hs : starEach [a] X.env = [(false, eval a X.env)] := by rfl) (na : starEach [a] X.env = (false, eval a X.env) :: starEach [] X.env := by rfl) :
    Src X (.Tuple elts kk tpos) (.Call (.Name "enumerate" p) [a] [] pos) (gTup X.K 2 (gCons (gName j) (gCons (gName k) gNil))) σ σb G xs.zipIdx (Bd2 σb j k (fun q : α × Nat => .int (q.2 : Nat)) (fun q => enc q.1)) :=
  ⟨_, pi_enum hg B.enumerate pa_wa hs, fun H R g kk => da_cons h da_nil na H _ g fun vs H1 s1 dvs => by
    obtain ⟨v, rfl, dv⟩ := dvs.one_inv
    cases dv with
    | lst h1 h2 =>
      rename_i a ys
      have hl : ys.length = xs.zipIdx.length := by rw [h2.length, List.length_map, List.length_zipIdx]
      refine ⟨a, ys, rfl, SqL.of h1, kk (Ite X.K a) H1 (fun H => SqL X.K H a ys) _ s1 (hl ▸ walk_enum) (fun Ha sa => SqL.of (sa _ _ h1)) fun i b Ha x Hb Q hb sa y q => ?_⟩
      rw [List.getElem?_zipIdx] at hb
      cases hx : xs[i]? with
      | none => rw [hx] at hb; cases hb
      | some c =>
        rw [hx] at hb
        have eb : b = (c, i) := by
          have := Option.some.inj hb
          rw [← this]; simp
        subst eb
        obtain ⟨w, hw, dw⟩ := h2.get (i := i) (d := enc c) (by rw [List.getElem?_map, hx]; rfl)
        exact pair_step y rfl hw fun Hc sc => q Hc _ sc ⟨_, _, rfl, .int _, dw⟩⟩
/-- zip(list, tuple), zip(tuple, tuple) -/
theorem walk_zipM {K : PySem.W.Frag} {a b : Addr} {xs ys : List V} {n : Nat} (hn : n = min xs.length ys.length) : Walk (ItzM K a b) n (fun H => SqL K H a xs ∧ SqT K H b ys) (YPair (fun i => xs[i]?) (fun i => ys[i]?)) := by
  subst hn
  refine ⟨fun i _ hi q => ?_, fun _ q => ⟨xs, ys, q.1, q.2, rfl⟩, fun i H v H' _ q y => ?_⟩
  · exact ⟨xs, ys, xs[i]'(by omega), ys[i]'(by omega), q.1, q.2, List.getElem?_eq_getElem _, List.getElem?_eq_getElem _⟩
  · obtain ⟨T, x, z, h1, h2, h3, h4, h5⟩ := y
    exact ⟨T, x, z, h1, h2, h3, h4 xs q.1, h5 ys q.2⟩
theorem walk_zipTT {K : PySem.W.Frag} {a b : Addr} {xs ys : List V} {n : Nat} (hn : n = min xs.length ys.length) : Walk (RZ.ItzT K a b) n (fun H => SqT K H a xs ∧ SqT K H b ys) (YPair (fun i => xs[i]?) (fun i => ys[i]?)) := by
  subst hn
  refine ⟨fun i _ hi q => ?_, fun _ q => ⟨xs, ys, q.1, q.2, by omega⟩, fun i H v H' _ q y => ?_⟩
  · exact ⟨xs, ys, xs[i]'(by omega), ys[i]'(by omega), q.1, q.2, List.getElem?_eq_getElem _, List.getElem?_eq_getElem _⟩
  · obtain ⟨T, x, z, h1, h2, h3, h4, h5⟩ := y
    exact ⟨T, x, z, h1, h2, h3, h4 xs q.1, h5 ys q.2⟩
theorem zip_at {xs : List α} {ys : List β} {i : Nat} {b : α × β} (h : (xs.zip ys)[i]? = some b) : xs[i]? = some b.1 ∧ ys[i]? = some b.2 := by
  obtain ⟨h1, h2⟩ := List.getElem?_eq_some_iff.mp h
  rw [List.getElem_zip] at h2
  rw [List.length_zip] at h1
  subst h2
  exact ⟨List.getElem?_eq_getElem (by omega), List.getElem?_eq_getElem (by omega)⟩
theorem src_ZM {a b : Expr} {elts : List Expr} {kk : Nat} {p pos tpos : Pos} {xs : List α} {ys : List β} {j k : Nat} (B : Blt X.mg) (e1 : α → PyData) (e2 : β → PyData) (ha : DE X a σ G (.list (xs.map e1))) (hb : DE X b σ G (.tuple (ys.map e2))) (hg : Gl X "zip" := by rfl)
    (hs : starEach [a, b] X.env = (false, eval a X.env) :: starEach [b] X.env := by rfl) (nb : starEach [b] X.env = (false, eval b X.env) :: starEach [] X.env := by rfl) (hpl : (backTo pos (starEach [b] X.env)).any (·.1) = false := by rfl) :
    Src X (.Tuple elts kk tpos) (.Call (.Name "zip" p) [a, b] [] pos) (gTup X.K 2 (gCons (gName j) (gCons (gName k) gNil))) σ σb G (xs.zip ys) (Bd2 σb j k (fun q : α × β => e1 q.1) (fun q => e2 q.2)) :=
  ⟨_, pi_zipM hg B.zip pa_wa hs hpl, fun H R g kk => da_cons ha (da_cons hb da_nil nb) hs H _ g fun vs H1 s1 dvs => by
    cases dvs with
    | cons d1 d2 =>
      obtain ⟨w, rfl, dw⟩ := d2.one_inv
      cases d1 with
      | lst h1 h2 =>
        cases dw with
        | tup h3 h4 =>
          rename_i a zs b ws
          have hl : (xs.zip ys).length = min zs.length ws.length := by rw [h2.length, h4.length, List.length_map, List.length_map, List.length_zip]
          refine ⟨a, b, zs, ws, rfl, SqL.of h1, h3.sq, kk (ItzM X.K a b) H1 _ _ s1 (walk_zipM hl) (fun Ha sa => ⟨SqL.of (sa _ _ h1), (h3.mono sa).sq⟩) fun i c Ha x Hb Q hc sa y q => ?_⟩
          obtain ⟨m1, m2⟩ := zip_at hc
          obtain ⟨u, hu, du⟩ := h2.get (i := i) (d := e1 c.1) (by rw [List.getElem?_map, m1]; rfl)
          obtain ⟨w, hw, dw⟩ := h4.get (i := i) (d := e2 c.2) (by rw [List.getElem?_map, m2]; rfl)
          exact pair_step y hu hw fun Hc sc => q Hc _ sc ⟨_, _, rfl, du, dw⟩⟩
theorem src_ZT {a b : Expr} {elts : List Expr} {kk : Nat} {p pos tpos : Pos} {xs : List α} {ys : List β} {j k : Nat} (B : Blt X.mg) (e1 : α → PyData) (e2 : β → PyData) (ha : DE X a σ G (.tuple (xs.map e1))) (hb : DE X b σ G (.tuple (ys.map e2))) (hg : Gl X "zip" := by rfl)
    (hs : starEach [a, b] X.env = (false, eval a X.env) :: starEach [b] X.env := by rfl) (nb : starEach [b] X.env = (false, eval b X.env) :: starEach [] X.env := by rfl) (hpl : (backTo pos (starEach [b] X.env)).any (·.1) = false := by rfl) :
    Src X (.Tuple elts kk tpos) (.Call (.Name "zip" p) [a, b] [] pos) (gTup X.K 2 (gCons (gName j) (gCons (gName k) gNil))) σ σb G (xs.zip ys) (Bd2 σb j k (fun q : α × β => e1 q.1) (fun q => e2 q.2)) :=
  ⟨_, RZ.pi_zipA hg B.zip pa_wa hs hpl, fun H R g kk => da_cons ha (da_cons hb da_nil nb) hs H _ g fun vs H1 s1 dvs => by
    cases dvs with
    | cons d1 d2 =>
      obtain ⟨w, rfl, dw⟩ := d2.one_inv
      cases d1 with
      | tup h1 h2 =>
        cases dw with
        | tup h3 h4 =>
          rename_i a zs b ws
          have hl : (xs.zip ys).length = min zs.length ws.length := by rw [h2.length, h4.length, List.length_map, List.length_map, List.length_zip]
          refine ⟨a, b, zs, ws, rfl, .inr ⟨h1.sq, h3.sq, kk (RZ.ItzT X.K a b) H1 _ _ s1 (walk_zipTT hl) (fun Ha sa => ⟨(h1.mono sa).sq, (h3.mono sa).sq⟩) fun i c Ha x Hb Q hc sa y q => ?_⟩⟩
          obtain ⟨m1, m2⟩ := zip_at hc
          obtain ⟨u, hu, du⟩ := h2.get (i := i) (d := e1 c.1) (by rw [List.getElem?_map, m1]; rfl)
          obtain ⟨w, hw, dw⟩ := h4.get (i := i) (d := e2 c.2) (by rw [List.getElem?_map, m2]; rfl)
          exact pair_step y hu hw fun Hc sc => q Hc _ sc ⟨_, _, rfl, du, dw⟩⟩
end

/-! ### data of comprehensions and calls -/
section
variable {X : Cx} {e : Expr} {σ : L2.St} {G : Hp} {d : PyData}
/-- a comprehension as data -/
def DL1 (X : Cx) (e : Expr) (σ : L2.St) (G : Hp) (ds : List PyData) : Prop := ∀ H Q, Same G H → (∀ D H2 vs, H D = none → Same H H2 → H2 D = some (.lst vs) → DqAll (off H2 D) vs ds → Q (.ref D) H2) → LcR X e σ H Q
theorem DL1.is {ds es : List PyData} (h : DL1 X e σ G ds) (z : ds = es) : DL1 X e σ G es := z ▸ h
theorem de_lc {ds : List PyData} (h : DL1 X e σ G ds) (hN : X.N.Nodup) (hc : X.calm = true := by rfl) : DE X e σ G (.list ds) := fun H Q g q =>
  we_lc (h H Q g fun D H2 vs hD s2 h2 dv => q _ H2 s2 (.lst h2 (dv.mono off_le))) hN hc
theorem dl1 {α : Type} {xs : List α} {Bd : α → Hp → L2.St → Prop} {elt tg iter : Expr} {ifs : List Expr} {scope : Scope} {pos : Pos} {g : TG} (pt : α → Bool) (f : α → PyData) (own : List (Str × Nat))
    (hsrc : Src X tg iter g σ (wipe σ (own.map (·.2))) G xs Bd) (ok : BlkOk X.N X.env.scope scope own) (hg : ∀ Y, Blk X scope Y → PG Y tg g)
    (ht : ∀ a ∈ xs, ∀ Y, Blk X scope Y → ∀ Ha σ2, Same G Ha → Bd a Ha σ2 → DTs Y ifs σ2 Ha (pt a)) (he : ∀ a ∈ xs, pt a = true → ∀ Y, Blk X scope Y → ∀ Ha σ2, Same G Ha → Bd a Ha σ2 → DE Y elt σ2 Ha (f a))
    (hbd : ∀ a Ha Hb σ2, Same Ha Hb → Bd a Ha σ2 → Bd a Hb σ2) (hw : ∀ a Ha σ2, Bd a Ha σ2 → wipe σ2 (own.map (·.2)) = wipe σ (own.map (·.2))) (hl : xs.length ≤ 100000)
    (hs : ∀ x, foldedSetIterable iter X.env x = pure x := by intro _; rfl) : DL1 X (.ListComp elt [⟨tg, iter, ifs, 0⟩] scope pos) σ G ((xs.filter pt).map f) := fun H Q g0 q => lcr pt f hsrc ok hg ht he hbd hw hl g0 q hs

/-! ### methods of tuples -/
theorem de_count {o a : Expr} {apos cpos : Pos} {ds : List PyData} (ho : DE X o σ G (.tuple ds)) (ha : DE X a σ G d) (f : flatD d = true) (fs : ds.all flatD = true)
    (hbase : attributeBase o "count" X.env (eval o X.env) = eval o X.env := by rfl)
    (hfew : ((backTo cpos (starEach [a] X.env)).all (fun x => !x.1) && (backToKw cpos (keywordEach [] X.env)).all (fun x => x.1.isSome) && decide ([a].length + ([] : List Keyword).length + (if ([] : List Keyword).isEmpty then 0 else 1) < 30)) = true := by rfl)
    (hline : (apos.endLine == cpos.line) = true := by rfl) (hs : starEach [a] X.env = (false, eval a X.env) :: starEach [] X.env := by rfl) :
    DE X (.Call (.Attribute o "count" apos) [a] [] cpos) σ G (.int ((ds.countP fun z => eqV (toV z) (toV d) : Nat) : Int)) := fun H Q g q =>
  we_of (pe_tm PySem.F.slot_tuple_count PySem.F.type_tuple_count mt_tcount pe_we pa_wa hbase hfew hline hs rfl) (ho H _ g fun x H1 s1 dx => by
    cases dx with
    | tup h1 h2 =>
      refine ⟨⟨_, _, rfl, h1⟩, da_cons ha da_nil hs H1 _ (g.trans s1) fun vs H2 s2 dvs => ?_⟩
      obtain ⟨v, rfl, dv⟩ := dvs.one_inv
      obtain ⟨e1, e2⟩ := dv.flat f
      obtain ⟨e3, e4⟩ := h2.flat fs
      refine ⟨_, _, v, rfl, rfl, (h1.mono s2).sq, e2, e4, ?_⟩
      rw [e3, e1, List.countP_map]
      exact q _ H2 (s1.trans s2) (.int _))
theorem de_index {o a : Expr} {apos cpos : Pos} {ds : List PyData} {j : Nat} {z : PyData} (ho : DE X o σ G (.tuple ds)) (ha : DE X a σ G d) (f : flatD d = true) (fs : ds.all flatD = true) (hz : ds[j]? = some z) (hzd : eqV (toV z) (toV d) = true)
    (hno : ∀ (m : Nat) (y : PyData), m < j → ds[m]? = some y → eqV (toV y) (toV d) = false)
    (hbase : attributeBase o "index" X.env (eval o X.env) = eval o X.env := by rfl)
    (hfew : ((backTo cpos (starEach [a] X.env)).all (fun x => !x.1) && (backToKw cpos (keywordEach [] X.env)).all (fun x => x.1.isSome) && decide ([a].length + ([] : List Keyword).length + (if ([] : List Keyword).isEmpty then 0 else 1) < 30)) = true := by rfl)
    (hline : (apos.endLine == cpos.line) = true := by rfl) (hs : starEach [a] X.env = (false, eval a X.env) :: starEach [] X.env := by rfl) :
    DE X (.Call (.Attribute o "index" apos) [a] [] cpos) σ G (.int (j : Nat)) := fun H Q g q =>
  we_of (pe_tm PySem.F.slot_tuple_index PySem.F.type_tuple_index mt_tindex pe_we pa_wa hbase hfew hline hs rfl) (ho H _ g fun x H1 s1 dx => by
    cases dx with
    | tup h1 h2 =>
      refine ⟨⟨_, _, rfl, h1⟩, da_cons ha da_nil hs H1 _ (g.trans s1) fun vs H2 s2 dvs => ?_⟩
      obtain ⟨v, rfl, dv⟩ := dvs.one_inv
      obtain ⟨e1, e2⟩ := dv.flat f
      obtain ⟨e3, e4⟩ := h2.flat fs
      refine ⟨_, _, v, j, toV z, rfl, rfl, (h1.mono s2).sq, e2, e4, ?_, by rw [e1]; exact hzd, fun m y hm hy => ?_, q _ H2 (s1.trans s2) (.int _)⟩
      · rw [e3, List.getElem?_map, hz]; rfl
      · rw [e3, List.getElem?_map] at hy
        obtain ⟨w, hw, rfl⟩ := Option.map_eq_some_iff.mp hy
        rw [e1]
        exact hno m w hm hw)

/-! ### calls of defs -/
/-- a def that stands under its name and keeps its promise -/
structure Cal (P : Program) (w : World) (K : PySem.W.Frag) (mg : Str → Option Value) (base : Heap) (k : Nat) (x : Str) (sp : Sp) : Prop where
  ex : ∃ (f : Addr) (fd : FuncData) (ps : List Str), FnOk P w K mg base CX0 k f fd ps sp ∧ mg x = some (.ref f) ∧ PySem.W.keepIn K (.ref f) = true ∧ Binds K fd ps []
structure CalG (P : Program) (w : World) (K : PySem.W.Frag) (mg : Str → Option Value) (base : Heap) (k : Nat) (x : Str) (sp : Sp) : Prop where
  ex : ∃ (f : Addr) (fd : FuncData) (ps : List Str), FnG P w K mg base k f fd ps sp ∧ mg x = some (.ref f) ∧ PySem.W.keepIn K (.ref f) = true ∧ Binds K fd ps []
theorem we_call {x : Str} {p pos : Pos} {a : Expr} {es : List Expr} {k : Nat} {sp : Sp} {H : Hp} {Q : VK} (c : Cal X.prog X.w X.K X.mg X.base k x sp) (hr : Room k X.A) (h : WA X (a :: es) σ H fun vs H1 => sp vs H1 Q E0)
    (hg : Gl X x := by rfl) (hdb : (x == ("__debug__" : Str)) = false := by decide) (he : starEach (a :: es) X.env = (false, eval a X.env) :: starEach es X.env := by rfl) (hpl : (backTo pos (starEach es X.env)).any (·.1) = false := by rfl) :
    WE X (.Call (.Name x p) (a :: es) [] pos) σ H Q := by
  obtain ⟨f, fd, ps, F, hm, hk, hb⟩ := c.ex
  exact we_of (pe_call (dvs := []) F hr hg hm hk hb .nil pass0 pa_wa hdb he hpl) (show WA X (a :: es) σ H fun vs H1 => sp (vs ++ []) H1 Q E0 by simpa using h)
theorem we_callG {x : Str} {p pos : Pos} {a : Expr} {es : List Expr} {k : Nat} {sp : Sp} {H : Hp} {Q : VK} (c : CalG X.prog X.w X.K X.mg X.base k x sp) (hgd : X.A.guards = some []) (hr : Room k X.A) (h : WA X (a :: es) σ H fun vs H1 => sp vs H1 Q E0)
    (hg : Gl X x := by rfl) (hdb : (x == ("__debug__" : Str)) = false := by decide) (he : starEach (a :: es) X.env = (false, eval a X.env) :: starEach es X.env := by rfl) (hpl : (backTo pos (starEach es X.env)).any (·.1) = false := by rfl) :
    WE X (.Call (.Name x p) (a :: es) [] pos) σ H Q := by
  obtain ⟨f, fd, ps, F, hm, hk, hb⟩ := c.ex
  exact we_of (pe_callG F hgd hr hg hm hk hb pa_wa hdb he hpl) h
/-- a promise about data: from these data, some datum of R -/
def spD (pre : List PyData → (PyData → Prop) → Prop) : Sp := fun vs H Q _ => ∃ ds R, DqAll H vs ds ∧ pre ds R ∧ ∀ v H2 d, Same H H2 → Dq H2 v d → R d → Q v H2
theorem we_callD {x : Str} {p pos : Pos} {a : Expr} {es : List Expr} {k : Nat} {ds : List PyData} {R : PyData → Prop} {pre : List PyData → (PyData → Prop) → Prop} {H : Hp} {Q : VK} (c : Cal X.prog X.w X.K X.mg X.base k x (spD pre)) (hr : Room k X.A)
    (h : DA X (a :: es) σ G ds) (g : Same G H) (hp : pre ds R) (q : ∀ v H2 d, Same H H2 → Dq H2 v d → R d → Q v H2)
    (hg : Gl X x := by rfl) (hdb : (x == ("__debug__" : Str)) = false := by decide) (he : starEach (a :: es) X.env = (false, eval a X.env) :: starEach es X.env := by rfl) (hpl : (backTo pos (starEach es X.env)).any (·.1) = false := by rfl) :
    WE X (.Call (.Name x p) (a :: es) [] pos) σ H Q :=
  we_call c hr (h H _ g fun vs H1 s1 dvs => ⟨ds, R, dvs, hp, fun v H2 d s2 dv rd => q v H2 d (s1.trans s2) dv rd⟩) hg hdb he hpl
theorem de_call {x : Str} {p pos : Pos} {a : Expr} {es : List Expr} {k : Nat} {ds : List PyData} {pre : List PyData → (PyData → Prop) → Prop} (c : Cal X.prog X.w X.K X.mg X.base k x (spD pre)) (hr : Room k X.A) (h : DA X (a :: es) σ G ds) (hp : pre ds (· = d))
    (hg : Gl X x := by rfl) (hdb : (x == ("__debug__" : Str)) = false := by decide) (he : starEach (a :: es) X.env = (false, eval a X.env) :: starEach es X.env := by rfl) (hpl : (backTo pos (starEach es X.env)).any (·.1) = false := by rfl) :
    DE X (.Call (.Name x p) (a :: es) [] pos) σ G d := fun H Q g q => we_callD c hr h g hp (fun v H2 d' s2 dv rd => by cases rd; exact q v H2 s2 dv) hg hdb he hpl

theorem wt_imp {c : Expr} {H : Hp} {Q Q' : Bool → Hp → Prop} (h : WT X c σ H Q) (k : ∀ b H2, Q b H2 → Q' b H2) : WT X c σ H Q' := ⟨fun pins s σ' H' Q2 I z => by
  obtain ⟨rfl, rfl, k2⟩ := z
  exact h.run pins s _ _ Q2 I ⟨rfl, rfl, fun b H2 q => k2 b H2 (k b H2 q)⟩⟩
/-! ### statements -/
variable {rest body : List Stmt} {D : Ends} {H : Hp}
theorem ws_de {pos pos' : Pos} {x : Str} (i : Nat) (hN : X.N.Nodup) (h : DE X e σ G d) (g : Same G H) (q : ∀ v H2, Same H H2 → Dq H2 v d → WS X rest D (σ.set i (some v)) H2) (hi : X.N[i]? = some x := by rfl)
    (hx : Loc X.env.scope x := by first | exact .inl rfl | exact .inr rfl) (hs : swapsWith e (some (.Name x pos')) pos.line X.env = pure false := by rfl)
    (hf : X.fn x = true ∨ X.env.scope.names.lookup x = some .local := by first | exact .inl rfl | exact .inr rfl) : WS X (.Assign [.Name x pos'] e pos :: rest) D σ H := ws_set i hN (h H _ g q) hi hx hs hf
theorem ws_retD {pos : Pos} (h : DE X e σ G d) (g : Same G H) (q : ∀ v H2, Same H H2 → Dq H2 v d → D.rt v H2) : WS X (.Return (some e) pos :: rest) D σ H := ws_ret (h H _ g q)
theorem ws_ifD {pos : Pos} {c : Expr} {p q : List Stmt} {b : Bool} (h : DT X c σ G b) (g : Same G H) (h1 : b = true → ∀ H1, Same H H1 → WS X p { D with nx := fun σ' H' => WS X rest D σ' H' } σ H1)
    (h2 : b = false → ∀ H1, Same H H1 → WS X q { D with nx := fun σ' H' => WS X rest D σ' H' } σ H1) : WS X (.If c p q pos :: rest) D σ H := ws_if (h H _ g fun H1 s1 => by
  cases b with
  | true => exact iteT (h1 rfl H1 s1)
  | false => exact iteF (h2 rfl H1 s1))
/-- a, b, c = e -/
theorem ws_unp3 {pos p0 p1 p2 p3 : Pos} {kk : Nat} {x y z : Str} {d1 d2 d3 : PyData} (i j k : Nat) (hN : X.N.Nodup) (h : DE X e σ G (.tuple [d1, d2, d3])) (g : Same G H)
    (q : ∀ u v w H2, Same H H2 → Dq H2 u d1 → Dq H2 v d2 → Dq H2 w d3 → WS X rest D (((σ.set i (some u)).set j (some v)).set k (some w)) H2) (hc : X.calm = true := by rfl)
    (hi : X.N[i]? = some x := by rfl) (hj : X.N[j]? = some y := by rfl) (hk : X.N[k]? = some z := by rfl) (hx : Loc X.env.scope x := by first | exact .inl rfl | exact .inr rfl) (hy : Loc X.env.scope y := by first | exact .inl rfl | exact .inr rfl)
    (hz : Loc X.env.scope z := by first | exact .inl rfl | exact .inr rfl) (fx : X.fn x = true ∨ X.env.scope.names.lookup x = some .local := by first | exact .inl rfl | exact .inr rfl)
    (fy : X.fn y = true ∨ X.env.scope.names.lookup y = some .local := by first | exact .inl rfl | exact .inr rfl) (fz : X.fn z = true ∨ X.env.scope.names.lookup z = some .local := by first | exact .inl rfl | exact .inr rfl)
    (hs : swapsWithSole [.Tuple [.Name x p1, .Name y p2, .Name z p3] kk p0] e pos.line X.env = pure false := by rfl) (hw : swappedStores [.Tuple [.Name x p1, .Name y p2, .Name z p3] kk p0] e X.env = pure none := by rfl) :
    WS X (.Assign [.Tuple [.Name x p1, .Name y p2, .Name z p3] kk p0] e pos :: rest) D σ H :=
  ws_step (ps_asg (te := fun σ H Q => WE X e σ H Q) pe_we (pg_tup hc (pgs_cons (pg_name hN hi hx fx) (pgs_cons (pg_name hN hj hy fy) (pgs_cons (pg_name hN hk hz fz) pgs_nil))) rfl rfl) hs hw rfl) (h H _ g fun v H1 s1 dv => by
    cases dv with
    | tup h1 h2 =>
      cases h2 with
      | cons a1 b1 =>
        cases b1 with
        | cons a2 b2 =>
          obtain ⟨w, rfl, a3⟩ := b2.one_inv
          exact ⟨_, _, rfl, h1.sq, rfl, _, _, rfl, _, _, rfl, _, _, rfl, rfl, q _ _ _ H1 s1 a1 a2 a3⟩)
theorem ws_unp2 {pos p0 p1 p2 : Pos} {kk : Nat} {x y : Str} {d1 d2 : PyData} (i j : Nat) (hN : X.N.Nodup) (h : DE X e σ G (.tuple [d1, d2])) (g : Same G H)
    (q : ∀ u v H2, Same H H2 → Dq H2 u d1 → Dq H2 v d2 → WS X rest D ((σ.set i (some u)).set j (some v)) H2) (hc : X.calm = true := by rfl)
    (hi : X.N[i]? = some x := by rfl) (hj : X.N[j]? = some y := by rfl) (hx : Loc X.env.scope x := by first | exact .inl rfl | exact .inr rfl) (hy : Loc X.env.scope y := by first | exact .inl rfl | exact .inr rfl)
    (fx : X.fn x = true ∨ X.env.scope.names.lookup x = some .local := by first | exact .inl rfl | exact .inr rfl)
    (fy : X.fn y = true ∨ X.env.scope.names.lookup y = some .local := by first | exact .inl rfl | exact .inr rfl)
    (hs : swapsWithSole [.Tuple [.Name x p1, .Name y p2] kk p0] e pos.line X.env = pure false := by rfl) (hw : swappedStores [.Tuple [.Name x p1, .Name y p2] kk p0] e X.env = pure none := by rfl) :
    WS X (.Assign [.Tuple [.Name x p1, .Name y p2] kk p0] e pos :: rest) D σ H :=
  ws_step (ps_asg (te := fun σ H Q => WE X e σ H Q) pe_we (pg_tup hc (pgs_cons (pg_name hN hi hx fx) (pgs_cons (pg_name hN hj hy fy) pgs_nil)) rfl rfl) hs hw rfl) (h H _ g fun v H1 s1 dv => by
    cases dv with
    | tup h1 h2 =>
      cases h2 with
      | cons a1 b1 =>
        obtain ⟨w, rfl, a2⟩ := b1.one_inv
        exact ⟨_, _, rfl, h1.sq, rfl, _, _, rfl, _, _, rfl, rfl, q _ _ H1 s1 a1 a2⟩)
/-- for: the turns by Pv; the walked thing lies in Gs, which every turn leaves -/
theorem ws_forL {tg iter : Expr} {pos : Pos} {g : TG} (hp : PassesOwn (model X.prog X.w) X.A X.env X.xe) (hg : PG X tg g)
    (r : WE X iter σ H fun v H1 => ∃ (a : Addr) (xs : List V) (Gs : Hp) (Pv : Nat → L2.St → Hp → Prop), v = .ref a ∧ Gs a = some (.lst xs) ∧ Same Gs H1 ∧ Pv 0 σ H1 ∧ (∀ i σ H, Pv i σ H → Same Gs H) ∧
      (∀ i x σ H, xs[i]? = some x → Pv i σ H → g x σ H fun σ2 H2 => WS X body { D with nx := Pv (i + 1), ct := Pv (i + 1), bk := fun σ' H' => WS X rest D σ' H' } σ2 H2) ∧ ∀ σ H, Pv xs.length σ H → WS X rest D σ H)
    (hc : X.calm = true := by rfl) (hs : ∀ x, foldedSetIterable iter X.env x = pure x := by intro _; rfl) : WS X (.For tg iter body [] pos :: rest) D σ H :=
  ws_step (ps_for hp hc (pi_list pe_we) hg pss_ws hs) (r.imp fun v H1 ⟨a, xs, Gs, Pv, ev, h1, h2, h3, h4, h5, h6⟩ =>
    ⟨a, ev, ⟨xs, SqL.of (h2 _ _ h1)⟩, for_list (xs := xs) Pv h3 (fun i σ H _ p => SqL.of (h4 i σ H p _ _ h1)) h5 h6⟩)
theorem ws_forT {tg iter : Expr} {pos : Pos} {g : TG} (hp : PassesOwn (model X.prog X.w) X.A X.env X.xe) (hg : PG X tg g)
    (r : WE X iter σ H fun v H1 => ∃ (a : Addr) (xs : List V) (Gs : Hp) (Pv : Nat → L2.St → Hp → Prop), v = .ref a ∧ TupAt Gs a xs ∧ Same Gs H1 ∧ Pv 0 σ H1 ∧ (∀ i σ H, Pv i σ H → Same Gs H) ∧
      (∀ i x σ H, xs[i]? = some x → Pv i σ H → g x σ H fun σ2 H2 => WS X body { D with nx := Pv (i + 1), ct := Pv (i + 1), bk := fun σ' H' => WS X rest D σ' H' } σ2 H2) ∧ ∀ σ H, Pv xs.length σ H → WS X rest D σ H)
    (hc : X.calm = true := by rfl) (hs : ∀ x, foldedSetIterable iter X.env x = pure x := by intro _; rfl) : WS X (.For tg iter body [] pos :: rest) D σ H :=
  ws_step (ps_for hp hc (pi_tup pe_we) hg pss_ws hs) (r.imp fun v H1 ⟨a, xs, Gs, Pv, ev, h1, h2, h3, h4, h5, h6⟩ =>
    ⟨a, ev, ⟨xs, (h1.mono h2).sq⟩, for_tup (xs := xs) Pv h3 (fun i σ H _ p => (h1.mono (h4 i σ H p)).sq) h5 h6⟩)
theorem ws_forR {tg a : Expr} {p pos rp : Pos} {g : TG} {n : Nat} (B : Blt X.mg) (hp : PassesOwn (model X.prog X.w) X.A X.env X.xe) (hg : PG X tg g) (h : DE X a σ G (.int (n : Nat))) (hn : n ≤ 1000) (g0 : Same G H) (Pv : Nat → L2.St → Hp → Prop)
    (h0 : ∀ H1, Same H H1 → Pv 0 σ H1) (hs : ∀ i σ H, i < n → Pv i σ H → g (.int (i : Nat)) σ H fun σ2 H2 => WS X body { D with nx := Pv (i + 1), ct := Pv (i + 1), bk := fun σ' H' => WS X rest D σ' H' } σ2 H2)
    (hd : ∀ σ H, Pv n σ H → WS X rest D σ H) (hc : X.calm = true := by rfl) (hgl : Gl X "range" := by rfl) (hst : starEach [a] X.env = [(false, eval a X.env)] := by rfl) (na : starEach [a] X.env = (false, eval a X.env) :: starEach [] X.env := by rfl)
    (hf : ∀ x, foldedSetIterable (.Call (.Name "range" p) [a] [] rp) X.env x = pure x := by intro _; rfl) : WS X (.For tg (.Call (.Name "range" p) [a] [] rp) body [] pos :: rest) D σ H :=
  ws_step (ps_for hp hc (pi_range1 hgl B.range pa_wa hst) hg pss_ws hf) (da_cons h da_nil na H _ g0 fun vs H1 s1 dvs => by
    obtain ⟨v, rfl, dv⟩ := dvs.one_inv
    cases dv
    refine ⟨(n : Nat), rfl, by omega, by omega, ?_⟩
    rw [Int.toNat_natCast]
    refine for_range (lo := 0) (n := n) Pv (h0 H1 s1) (fun i σ H hi p => ?_) hd
    rw [Int.zero_add]
    exact hs i σ H hi p)
theorem ws_forE {a : Expr} {elts : List Expr} {kk : Nat} {p pos tpos ep : Pos} {g : TG} (B : Blt X.mg) (hp : PassesOwn (model X.prog X.w) X.A X.env X.xe) (hg : PG X (.Tuple elts kk tpos) g)
    (r : WE X a σ H fun v H1 => ∃ (a : Addr) (xs : List V) (Gs : Hp) (Pv : Nat → L2.St → Hp → Prop), v = .ref a ∧ TupAt Gs a xs ∧ Same Gs H1 ∧ Pv 0 σ H1 ∧ (∀ i σ H, Pv i σ H → Same Gs H) ∧
      (∀ i x T σ H, xs[i]? = some x → Pv i σ H → H T = none → g (.ref T) σ (upd H T (.tup [.int (i : Nat), x])) fun σ2 H2 => WS X body { D with nx := Pv (i + 1), ct := Pv (i + 1), bk := fun σ' H' => WS X rest D σ' H' } σ2 H2) ∧ ∀ σ H, Pv xs.length σ H → WS X rest D σ H)
    (hc : X.calm = true := by rfl) (hgl : Gl X "enumerate" := by rfl) (hst : starEach [a] X.env = [(false, eval a X.env)] := by rfl) (na : starEach [a] X.env = (false, eval a X.env) :: starEach [] X.env := by rfl)
    (hf : ∀ x, foldedSetIterable (.Call (.Name "enumerate" p) [a] [] ep) X.env x = pure x := by intro _; rfl) : WS X (.For (.Tuple elts kk tpos) (.Call (.Name "enumerate" p) [a] [] ep) body [] pos :: rest) D σ H :=
  ws_step (ps_for hp hc (pi_enumT hgl B.enumerate (pa_cons pe_we pa_nil na) hst) hg pss_ws hf) (r.imp fun v H1 ⟨a, xs, Gs, Pv, ev, h1, h2, h3, h4, h5, h6⟩ =>
    ⟨a, xs, by rw [ev], (h1.mono h2).sq, for_it walk_enumT Pv h3 (fun i σ H _ p => (h1.mono (h4 i σ H p)).sq) (fun i x σ H H2 hi p y => by
      obtain ⟨T, x1, x2, rfl, nT, rfl, a1, a2⟩ := y
      cases a1
      exact h5 i x2 T σ H a2 p nT) h6⟩)
theorem ws_forEL {a : Expr} {elts : List Expr} {kk : Nat} {p pos tpos ep : Pos} {g : TG} (B : Blt X.mg) (hp : PassesOwn (model X.prog X.w) X.A X.env X.xe) (hg : PG X (.Tuple elts kk tpos) g)
    (r : WE X a σ H fun v H1 => ∃ (a : Addr) (xs : List V) (Gs : Hp) (Pv : Nat → L2.St → Hp → Prop), v = .ref a ∧ Gs a = some (.lst xs) ∧ Same Gs H1 ∧ Pv 0 σ H1 ∧ (∀ i σ H, Pv i σ H → Same Gs H) ∧
      (∀ i x T σ H, xs[i]? = some x → Pv i σ H → H T = none → g (.ref T) σ (upd H T (.tup [.int (i : Nat), x])) fun σ2 H2 => WS X body { D with nx := Pv (i + 1), ct := Pv (i + 1), bk := fun σ' H' => WS X rest D σ' H' } σ2 H2) ∧ ∀ σ H, Pv xs.length σ H → WS X rest D σ H)
    (hc : X.calm = true := by rfl) (hgl : Gl X "enumerate" := by rfl) (hst : starEach [a] X.env = [(false, eval a X.env)] := by rfl) (na : starEach [a] X.env = (false, eval a X.env) :: starEach [] X.env := by rfl)
    (hf : ∀ x, foldedSetIterable (.Call (.Name "enumerate" p) [a] [] ep) X.env x = pure x := by intro _; rfl) : WS X (.For (.Tuple elts kk tpos) (.Call (.Name "enumerate" p) [a] [] ep) body [] pos :: rest) D σ H :=
  ws_step (ps_for hp hc (pi_enum hgl B.enumerate (pa_cons pe_we pa_nil na) hst) hg pss_ws hf) (r.imp fun v H1 ⟨a, xs, Gs, Pv, ev, h1, h2, h3, h4, h5, h6⟩ =>
    ⟨a, xs, by rw [ev], SqL.of (h2 _ _ h1), for_it walk_enum Pv h3 (fun i σ H _ p => SqL.of (h4 i σ H p _ _ h1)) (fun i x σ H H2 hi p y => by
      obtain ⟨T, x1, x2, rfl, nT, rfl, a1, a2⟩ := y
      cases a1
      exact h5 i x2 T σ H a2 p nT) h6⟩)
/-- while -/
theorem ws_while {c : Expr} {pos : Pos} (hp : PassesOwn (model X.prog X.w) X.A X.env X.xe) (W : Nat → L2.St → Hp → Prop) (m0 : Nat) (h0 : W m0 σ H)
    (hs : ∀ m σ H, W m σ H → WT X c σ H fun b H1 => if b = true then WS X body { D with nx := fun σ' H' => ∃ m', m' < m ∧ W m' σ' H', ct := fun σ' H' => ∃ m', m' < m ∧ W m' σ' H', bk := fun σ' H' => WS X rest D σ' H' } σ H1 else WS X rest D σ H1) :
    WS X (.While c body [] pos :: rest) D σ H :=
  ws_step (ps_while hp pt_wt pss_ws) ⟨W, ⟨m0, h0⟩, fun m σ H w => wt_imp (hs m σ H w) fun b H1 q => by
    cases b with
    | true => exact iteT ⟨_, fun _ _ z => z, (show WS X body _ σ H1 from q)⟩
    | false => exact iteF (show WS X rest D σ H1 from q)⟩
end

/-! ### comprehensions by their targets -/
section
variable {X : Cx} {σ : L2.St} {G : Hp}
theorem dl_1 {α : Type} {xs : List α} {j0 : Nat} {e0 : α → PyData} {elt tg iter : Expr} {scope : Scope} {pos : Pos} (f : α → PyData) (own : List (Str × Nat)) (hsrc : Src X tg iter (gName j0) σ (wipe σ (own.map (·.2))) G xs (Bd1 (wipe σ (own.map (·.2))) j0 e0)) (ok : BlkOk X.N X.env.scope scope own)
    (hg : ∀ Y, Blk X scope Y → PG Y tg (gName j0)) (he : ∀ a ∈ xs, ∀ Y, Blk X scope Y → ∀ Ha v0, Same G Ha → Dq Ha v0 (e0 a) → DE Y elt ((wipe σ (own.map (·.2))).set j0 (some v0)) Ha (f a))
    (hw : ∀ v0, wipe ((wipe σ (own.map (·.2))).set j0 (some v0)) (own.map (·.2)) = wipe σ (own.map (·.2))) (hl : xs.length ≤ 100000) (hs : ∀ x, foldedSetIterable iter X.env x = pure x := by intro _; rfl) :
    DL1 X (.ListComp elt [⟨tg, iter, [], 0⟩] scope pos) σ G (xs.map f) :=
  (dl1 (fun _ => true) f own hsrc ok hg (fun _ _ _ _ _ _ _ _ => dts_nil) (fun a ha _ Y hY Ha σ2 g bd => by
    obtain ⟨v0, rfl, k0⟩ := bd
    exact he a ha Y hY Ha v0 g k0) (fun _ _ _ _ => bd1_mono) (fun a Ha σ2 bd => by
    obtain ⟨v0, rfl, k0⟩ := bd
    exact hw v0) hl hs).is (by rw [List.filter_eq_self.mpr fun _ _ => rfl])
theorem dl_1i {α : Type} {xs : List α} {j0 : Nat} {e0 : α → PyData} {elt tg iter c : Expr} {scope : Scope} {pos : Pos} (f : α → PyData) (pt : α → Bool) (own : List (Str × Nat)) (hsrc : Src X tg iter (gName j0) σ (wipe σ (own.map (·.2))) G xs (Bd1 (wipe σ (own.map (·.2))) j0 e0)) (ok : BlkOk X.N X.env.scope scope own)
    (hg : ∀ Y, Blk X scope Y → PG Y tg (gName j0)) (ht : ∀ a ∈ xs, ∀ Y, Blk X scope Y → ∀ Ha v0, Same G Ha → Dq Ha v0 (e0 a) → DT Y c ((wipe σ (own.map (·.2))).set j0 (some v0)) Ha (pt a))
    (he : ∀ a ∈ xs, pt a = true → ∀ Y, Blk X scope Y → ∀ Ha v0, Same G Ha → Dq Ha v0 (e0 a) → DE Y elt ((wipe σ (own.map (·.2))).set j0 (some v0)) Ha (f a))
    (hw : ∀ v0, wipe ((wipe σ (own.map (·.2))).set j0 (some v0)) (own.map (·.2)) = wipe σ (own.map (·.2))) (hl : xs.length ≤ 100000) (hs : ∀ x, foldedSetIterable iter X.env x = pure x := by intro _; rfl) :
    DL1 X (.ListComp elt [⟨tg, iter, [c], 0⟩] scope pos) σ G ((xs.filter pt).map f) :=
  dl1 pt f own hsrc ok hg (fun a ha Y hY Ha σ2 g bd => by
    obtain ⟨v0, rfl, k0⟩ := bd
    exact dts_one (ht a ha Y hY Ha v0 g k0)) (fun a ha hp Y hY Ha σ2 g bd => by
    obtain ⟨v0, rfl, k0⟩ := bd
    exact he a ha hp Y hY Ha v0 g k0) (fun _ _ _ _ => bd1_mono) (fun a Ha σ2 bd => by
    obtain ⟨v0, rfl, k0⟩ := bd
    exact hw v0) hl hs
theorem dl_2 {α : Type} {xs : List α} {j0 j1 : Nat} {e0 e1 : α → PyData} {elt tg iter : Expr} {scope : Scope} {pos : Pos} (f : α → PyData) (own : List (Str × Nat)) (hsrc : Src X tg iter (gTup X.K 2 (gCons (gName j0) (gCons (gName j1) gNil))) σ (wipe σ (own.map (·.2))) G xs (Bd2 (wipe σ (own.map (·.2))) j0 j1 e0 e1)) (ok : BlkOk X.N X.env.scope scope own)
    (hg : ∀ Y, Blk X scope Y → PG Y tg (gTup X.K 2 (gCons (gName j0) (gCons (gName j1) gNil)))) (he : ∀ a ∈ xs, ∀ Y, Blk X scope Y → ∀ Ha v0 v1, Same G Ha → Dq Ha v0 (e0 a) → Dq Ha v1 (e1 a) → DE Y elt (((wipe σ (own.map (·.2))).set j0 (some v0)).set j1 (some v1)) Ha (f a))
    (hw : ∀ v0 v1, wipe (((wipe σ (own.map (·.2))).set j0 (some v0)).set j1 (some v1)) (own.map (·.2)) = wipe σ (own.map (·.2))) (hl : xs.length ≤ 100000) (hs : ∀ x, foldedSetIterable iter X.env x = pure x := by intro _; rfl) :
    DL1 X (.ListComp elt [⟨tg, iter, [], 0⟩] scope pos) σ G (xs.map f) :=
  (dl1 (fun _ => true) f own hsrc ok hg (fun _ _ _ _ _ _ _ _ => dts_nil) (fun a ha _ Y hY Ha σ2 g bd => by
    obtain ⟨v0, v1, rfl, k0, k1⟩ := bd
    exact he a ha Y hY Ha v0 v1 g k0 k1) (fun _ _ _ _ => bd2_mono) (fun a Ha σ2 bd => by
    obtain ⟨v0, v1, rfl, k0, k1⟩ := bd
    exact hw v0 v1) hl hs).is (by rw [List.filter_eq_self.mpr fun _ _ => rfl])
theorem dl_2i {α : Type} {xs : List α} {j0 j1 : Nat} {e0 e1 : α → PyData} {elt tg iter c : Expr} {scope : Scope} {pos : Pos} (f : α → PyData) (pt : α → Bool) (own : List (Str × Nat)) (hsrc : Src X tg iter (gTup X.K 2 (gCons (gName j0) (gCons (gName j1) gNil))) σ (wipe σ (own.map (·.2))) G xs (Bd2 (wipe σ (own.map (·.2))) j0 j1 e0 e1)) (ok : BlkOk X.N X.env.scope scope own)
    (hg : ∀ Y, Blk X scope Y → PG Y tg (gTup X.K 2 (gCons (gName j0) (gCons (gName j1) gNil)))) (ht : ∀ a ∈ xs, ∀ Y, Blk X scope Y → ∀ Ha v0 v1, Same G Ha → Dq Ha v0 (e0 a) → Dq Ha v1 (e1 a) → DT Y c (((wipe σ (own.map (·.2))).set j0 (some v0)).set j1 (some v1)) Ha (pt a))
    (he : ∀ a ∈ xs, pt a = true → ∀ Y, Blk X scope Y → ∀ Ha v0 v1, Same G Ha → Dq Ha v0 (e0 a) → Dq Ha v1 (e1 a) → DE Y elt (((wipe σ (own.map (·.2))).set j0 (some v0)).set j1 (some v1)) Ha (f a))
    (hw : ∀ v0 v1, wipe (((wipe σ (own.map (·.2))).set j0 (some v0)).set j1 (some v1)) (own.map (·.2)) = wipe σ (own.map (·.2))) (hl : xs.length ≤ 100000) (hs : ∀ x, foldedSetIterable iter X.env x = pure x := by intro _; rfl) :
    DL1 X (.ListComp elt [⟨tg, iter, [c], 0⟩] scope pos) σ G ((xs.filter pt).map f) :=
  dl1 pt f own hsrc ok hg (fun a ha Y hY Ha σ2 g bd => by
    obtain ⟨v0, v1, rfl, k0, k1⟩ := bd
    exact dts_one (ht a ha Y hY Ha v0 v1 g k0 k1)) (fun a ha hp Y hY Ha σ2 g bd => by
    obtain ⟨v0, v1, rfl, k0, k1⟩ := bd
    exact he a ha hp Y hY Ha v0 v1 g k0 k1) (fun _ _ _ _ => bd2_mono) (fun a Ha σ2 bd => by
    obtain ⟨v0, v1, rfl, k0, k1⟩ := bd
    exact hw v0 v1) hl hs
theorem dl_3 {α : Type} {xs : List α} {j0 j1 j2 : Nat} {e0 e1 e2 : α → PyData} {elt tg iter : Expr} {scope : Scope} {pos : Pos} (f : α → PyData) (own : List (Str × Nat)) (hsrc : Src X tg iter (gTup X.K 3 (gCons (gName j0) (gCons (gName j1) (gCons (gName j2) gNil)))) σ (wipe σ (own.map (·.2))) G xs (Bd3 (wipe σ (own.map (·.2))) j0 j1 j2 e0 e1 e2)) (ok : BlkOk X.N X.env.scope scope own)
    (hg : ∀ Y, Blk X scope Y → PG Y tg (gTup X.K 3 (gCons (gName j0) (gCons (gName j1) (gCons (gName j2) gNil))))) (he : ∀ a ∈ xs, ∀ Y, Blk X scope Y → ∀ Ha v0 v1 v2, Same G Ha → Dq Ha v0 (e0 a) → Dq Ha v1 (e1 a) → Dq Ha v2 (e2 a) → DE Y elt ((((wipe σ (own.map (·.2))).set j0 (some v0)).set j1 (some v1)).set j2 (some v2)) Ha (f a))
    (hw : ∀ v0 v1 v2, wipe ((((wipe σ (own.map (·.2))).set j0 (some v0)).set j1 (some v1)).set j2 (some v2)) (own.map (·.2)) = wipe σ (own.map (·.2))) (hl : xs.length ≤ 100000) (hs : ∀ x, foldedSetIterable iter X.env x = pure x := by intro _; rfl) :
    DL1 X (.ListComp elt [⟨tg, iter, [], 0⟩] scope pos) σ G (xs.map f) :=
  (dl1 (fun _ => true) f own hsrc ok hg (fun _ _ _ _ _ _ _ _ => dts_nil) (fun a ha _ Y hY Ha σ2 g bd => by
    obtain ⟨v0, v1, v2, rfl, k0, k1, k2⟩ := bd
    exact he a ha Y hY Ha v0 v1 v2 g k0 k1 k2) (fun _ _ _ _ => bd3_mono) (fun a Ha σ2 bd => by
    obtain ⟨v0, v1, v2, rfl, k0, k1, k2⟩ := bd
    exact hw v0 v1 v2) hl hs).is (by rw [List.filter_eq_self.mpr fun _ _ => rfl])
theorem dl_3i {α : Type} {xs : List α} {j0 j1 j2 : Nat} {e0 e1 e2 : α → PyData} {elt tg iter c : Expr} {scope : Scope} {pos : Pos} (f : α → PyData) (pt : α → Bool) (own : List (Str × Nat)) (hsrc : Src X tg iter (gTup X.K 3 (gCons (gName j0) (gCons (gName j1) (gCons (gName j2) gNil)))) σ (wipe σ (own.map (·.2))) G xs (Bd3 (wipe σ (own.map (·.2))) j0 j1 j2 e0 e1 e2)) (ok : BlkOk X.N X.env.scope scope own)
    (hg : ∀ Y, Blk X scope Y → PG Y tg (gTup X.K 3 (gCons (gName j0) (gCons (gName j1) (gCons (gName j2) gNil))))) (ht : ∀ a ∈ xs, ∀ Y, Blk X scope Y → ∀ Ha v0 v1 v2, Same G Ha → Dq Ha v0 (e0 a) → Dq Ha v1 (e1 a) → Dq Ha v2 (e2 a) → DT Y c ((((wipe σ (own.map (·.2))).set j0 (some v0)).set j1 (some v1)).set j2 (some v2)) Ha (pt a))
    (he : ∀ a ∈ xs, pt a = true → ∀ Y, Blk X scope Y → ∀ Ha v0 v1 v2, Same G Ha → Dq Ha v0 (e0 a) → Dq Ha v1 (e1 a) → Dq Ha v2 (e2 a) → DE Y elt ((((wipe σ (own.map (·.2))).set j0 (some v0)).set j1 (some v1)).set j2 (some v2)) Ha (f a))
    (hw : ∀ v0 v1 v2, wipe ((((wipe σ (own.map (·.2))).set j0 (some v0)).set j1 (some v1)).set j2 (some v2)) (own.map (·.2)) = wipe σ (own.map (·.2))) (hl : xs.length ≤ 100000) (hs : ∀ x, foldedSetIterable iter X.env x = pure x := by intro _; rfl) :
    DL1 X (.ListComp elt [⟨tg, iter, [c], 0⟩] scope pos) σ G ((xs.filter pt).map f) :=
  dl1 pt f own hsrc ok hg (fun a ha Y hY Ha σ2 g bd => by
    obtain ⟨v0, v1, v2, rfl, k0, k1, k2⟩ := bd
    exact dts_one (ht a ha Y hY Ha v0 v1 v2 g k0 k1 k2)) (fun a ha hp Y hY Ha σ2 g bd => by
    obtain ⟨v0, v1, v2, rfl, k0, k1, k2⟩ := bd
    exact he a ha hp Y hY Ha v0 v1 v2 g k0 k1 k2) (fun _ _ _ _ => bd3_mono) (fun a Ha σ2 bd => by
    obtain ⟨v0, v1, v2, rfl, k0, k1, k2⟩ := bd
    exact hw v0 v1 v2) hl hs
end
end DL

/-! Part I: methods of lists, items stored. -/
namespace DL
open PySem PySem.Spec PyProof.Rows L2
section
variable {X : Cx} {σ : L2.St} {H : Hp} {Q : VK} {D : Ends} {rest : List Stmt} {o a b e : Expr} {es : List Expr} {apos cpos pos : Pos}
theorem DE.go {G : Hp} {d : PyData} (h : DE X e σ G d) (g : Same G H) (q : ∀ v H2, Same H H2 → Dq H2 v d → Q v H2) : WE X e σ H Q := h H Q g q
theorem we_lm {name : Str} {id : String} {r : V → List V → Hp → VK → Prop} (slot : Slot "list" name id) (hty : typeOf (.builtin id) = pure (.type "method_descriptor")) (hm : MtR X id r)
    (h : WE X o σ H fun x H1 => (∃ l xs, x = .ref l ∧ H1 l = some (.lst xs)) ∧ WA X (a :: es) σ H1 fun vs H2 => r x vs H2 Q)
    (hbase : attributeBase o name X.env (eval o X.env) = eval o X.env)
    (hfew : ((backTo cpos (starEach (a :: es) X.env)).all (fun x => !x.1) && (backToKw cpos (keywordEach [] X.env)).all (fun x => x.1.isSome) && decide ((a :: es).length + ([] : List Keyword).length + (if ([] : List Keyword).isEmpty then 0 else 1) < 30)) = true)
    (hline : (apos.endLine == cpos.line) = true) (hs : starEach (a :: es) X.env = (false, eval a X.env) :: starEach es X.env) (hpl : (backTo cpos (starEach es X.env)).any (·.1) = false) :
    WE X (.Call (.Attribute o name apos) (a :: es) [] cpos) σ H Q :=
  we_of (pe_bm PySem.F.plainAttrs_list slot hty hm pe_we pa_wa hbase hfew hline hs hpl) (h.imp fun x H1 ⟨⟨l, xs, ex, hl⟩, q⟩ => ⟨by subst ex; exact .inl ⟨rfl, xs, SqL.of hl⟩, q⟩)
theorem wa_one {Q : List V → Hp → Prop} (h : WE X a σ H fun v H1 => Q [v] H1) (hs : starEach [a] X.env = (false, eval a X.env) :: starEach [] X.env := by rfl) : WA X [a] σ H Q :=
  wa_of (pa_cons pe_we pa_nil hs) h
theorem wa_two {Q : List V → Hp → Prop} (h : WE X a σ H fun v H1 => WE X b σ H1 fun w H2 => Q [v, w] H2) (hs : starEach [a, b] X.env = (false, eval a X.env) :: starEach [b] X.env := by rfl)
    (hb : starEach [b] X.env = (false, eval b X.env) :: starEach [] X.env := by rfl) : WA X [a, b] σ H Q := wa_of (pa_cons pe_we (pa_cons pe_we pa_nil hb) hs) h
theorem wa_imp {es : List Expr} {Q Q' : List V → Hp → Prop} (h : WA X es σ H Q) (k : ∀ v H2, Q v H2 → Q' v H2) : WA X es σ H Q' := ⟨fun pos pins s σ' H' Q2 I z => by
  obtain ⟨rfl, rfl, k2⟩ := z
  exact h.run pos pins s _ _ Q2 I ⟨rfl, rfl, fun v H2 q => k2 v H2 (k v H2 q)⟩⟩
/-- o.append(a) -/
theorem we_append (h : WE X o σ H fun x H1 => ∃ l xs, x = .ref l ∧ H1 l = some (.lst xs) ∧ WE X a σ H1 fun v H2 => ∃ ys, H2 l = some (.lst ys) ∧ ys.length ≤ 100000 ∧ Q .non (upd H2 l (.lst (ys ++ [v]))))
    (hbase : attributeBase o "append" X.env (eval o X.env) = eval o X.env := by rfl)
    (hfew : ((backTo cpos (starEach [a] X.env)).all (fun x => !x.1) && (backToKw cpos (keywordEach [] X.env)).all (fun x => x.1.isSome) && decide ([a].length + ([] : List Keyword).length + (if ([] : List Keyword).isEmpty then 0 else 1) < 30)) = true := by rfl)
    (hline : (apos.endLine == cpos.line) = true := by rfl) (hs : starEach [a] X.env = (false, eval a X.env) :: starEach [] X.env := by rfl) : WE X (.Call (.Attribute o "append" apos) [a] [] cpos) σ H Q :=
  we_lm PySem.F.slot_list_append PySem.F.type_list_append mt_append (h.imp fun x H1 ⟨l, xs, ex, hl, q⟩ => ⟨⟨l, xs, ex, hl⟩, wa_one (q.imp fun v H2 ⟨ys, hy, hz, q⟩ => ⟨l, ys, v, ex, rfl, hy, Nat.lt_of_le_of_lt hz (by rw [sizeLine_eq]; omega), q⟩) hs⟩) hbase hfew hline hs rfl
/-- o.extend(a), a a list -/
theorem we_extend (h : WE X o σ H fun x H1 => ∃ l xs, x = .ref l ∧ H1 l = some (.lst xs) ∧ WE X a σ H1 fun v H2 => ∃ b ys zs, v = .ref b ∧ H2 l = some (.lst ys) ∧ H2 b = some (.lst zs) ∧ ys.length + zs.length ≤ 100000 ∧ Q .non (upd H2 l (.lst (ys ++ zs))))
    (hbase : attributeBase o "extend" X.env (eval o X.env) = eval o X.env := by rfl)
    (hfew : ((backTo cpos (starEach [a] X.env)).all (fun x => !x.1) && (backToKw cpos (keywordEach [] X.env)).all (fun x => x.1.isSome) && decide ([a].length + ([] : List Keyword).length + (if ([] : List Keyword).isEmpty then 0 else 1) < 30)) = true := by rfl)
    (hline : (apos.endLine == cpos.line) = true := by rfl) (hs : starEach [a] X.env = (false, eval a X.env) :: starEach [] X.env := by rfl) : WE X (.Call (.Attribute o "extend" apos) [a] [] cpos) σ H Q :=
  we_lm PySem.F.slot_list_extend PySem.F.type_list_extend mt_extend (h.imp fun x H1 ⟨l, xs, ex, hl, q⟩ => ⟨⟨l, xs, ex, hl⟩, wa_one (q.imp fun v H2 ⟨b, ys, zs, ev, hy, hb, hz, q⟩ => ⟨l, b, ys, zs, ex, by rw [ev], hy, hb, Nat.le_trans hz (by rw [sizeLine_eq]; omega), q⟩) hs⟩) hbase hfew hline hs rfl
/-- o.extend(a), a a tuple -/
theorem we_extendT (h : WE X o σ H fun x H1 => ∃ l xs, x = .ref l ∧ H1 l = some (.lst xs) ∧ WE X a σ H1 fun v H2 => ∃ b ys zs, v = .ref b ∧ H2 l = some (.lst ys) ∧ TupAt H2 b zs ∧ ys.length + zs.length ≤ 100000 ∧ Q .non (upd H2 l (.lst (ys ++ zs))))
    (hbase : attributeBase o "extend" X.env (eval o X.env) = eval o X.env := by rfl)
    (hfew : ((backTo cpos (starEach [a] X.env)).all (fun x => !x.1) && (backToKw cpos (keywordEach [] X.env)).all (fun x => x.1.isSome) && decide ([a].length + ([] : List Keyword).length + (if ([] : List Keyword).isEmpty then 0 else 1) < 30)) = true := by rfl)
    (hline : (apos.endLine == cpos.line) = true := by rfl) (hs : starEach [a] X.env = (false, eval a X.env) :: starEach [] X.env := by rfl) : WE X (.Call (.Attribute o "extend" apos) [a] [] cpos) σ H Q :=
  we_lm PySem.F.slot_list_extend PySem.F.type_list_extend mt_extT (h.imp fun x H1 ⟨l, xs, ex, hl, q⟩ => ⟨⟨l, xs, ex, hl⟩, wa_one (q.imp fun v H2 ⟨b, ys, zs, ev, hy, hb, hz, q⟩ => ⟨l, b, ys, zs, ex, by rw [ev], hy, hb, Nat.le_trans hz (by rw [sizeLine_eq]; omega), q⟩) hs⟩) hbase hfew hline hs rfl
/-- o.insert(a, b) -/
theorem we_insert (h : WE X o σ H fun x H1 => ∃ l xs, x = .ref l ∧ H1 l = some (.lst xs) ∧ WE X a σ H1 fun u H2 => WE X b σ H2 fun v H3 => ∃ (i : Nat) (ys : List V), u = .int (i : Nat) ∧ H3 l = some (.lst ys) ∧ ys.length ≤ 100000 ∧ i ≤ 100000 ∧ Q .non (upd H3 l (.lst (ys.take i ++ [v] ++ ys.drop i))))
    (hbase : attributeBase o "insert" X.env (eval o X.env) = eval o X.env := by rfl)
    (hfew : ((backTo cpos (starEach [a, b] X.env)).all (fun x => !x.1) && (backToKw cpos (keywordEach [] X.env)).all (fun x => x.1.isSome) && decide ([a, b].length + ([] : List Keyword).length + (if ([] : List Keyword).isEmpty then 0 else 1) < 30)) = true := by rfl)
    (hline : (apos.endLine == cpos.line) = true := by rfl) (hs : starEach [a, b] X.env = (false, eval a X.env) :: starEach [b] X.env := by rfl) (hb : starEach [b] X.env = (false, eval b X.env) :: starEach [] X.env := by rfl)
    (hpl : (backTo cpos (starEach [b] X.env)).any (·.1) = false := by rfl) : WE X (.Call (.Attribute o "insert" apos) [a, b] [] cpos) σ H Q :=
  we_lm PySem.F.slot_list_insert PySem.F.type_list_insert mt_insert (h.imp fun x H1 ⟨l, xs, ex, hl, q⟩ => ⟨⟨l, xs, ex, hl⟩, wa_two (q.imp fun u H2 q => q.imp fun v H3 ⟨i, ys, eu, hy, hz, hi, q⟩ =>
    ⟨l, ys, (i : Nat), v, ex, by rw [eu], hy, Nat.lt_of_le_of_lt hz (by rw [sizeLine_eq]; omega), by omega, by omega, by rw [Int.toNat_natCast]; exact q⟩) hs hb⟩) hbase hfew hline hs hpl
/-- o[a] = e, o a list -/
theorem ws_store {spos tpos : Pos} (h : WE X e σ H fun v H1 => WE X o σ H1 fun x H2 => WE X a σ H2 fun y H3 => ∃ (l : Addr) (ys : List V) (j : Nat), x = .ref l ∧ y = .int (j : Nat) ∧ H3 l = some (.lst ys) ∧ j < ys.length ∧ WS X rest D σ (upd H3 l (.lst (ys.set j v))))
    (hs : swapsWithSole [.Subscript o a tpos] e spos.line X.env = pure false := by rfl) (hw : swappedStores [.Subscript o a tpos] e X.env = pure none := by rfl)
    (h1 : (assignEach [.Subscript o a tpos] X.env).map (·.2) = [assign (.Subscript o a tpos) X.env] := by rfl)
    (ha : ∀ v, assign (.Subscript o a tpos) X.env v = (do let ov ← holding [v] (eval o X.env); let iv ← holding [v, ov] (eval a X.env); standAt tpos; holding [v, ov, iv] (setItem ov iv v); release [v, ov, iv] []) := by intro _; rfl) :
    WS X (.Assign [.Subscript o a tpos] e spos :: rest) D σ H :=
  ws_step (ps_asg pe_we (pg_sub pe_we pe_we set_list ha) hs hw h1) (h.imp fun v H1 q => q.imp fun x H2 q => q.imp fun y H3 ⟨l, ys, j, ex, ey, hy, hj, q⟩ =>
    ⟨l, ys, (j : Nat), j, ex, ey, hy, by unfold ixN; rw [if_pos (by omega), if_pos (by omega), Int.toNat_natCast], q⟩)
/-- o[a] += e, o a list, ints -/
theorem ws_augL {spos tpos : Pos} (h : WE X o σ H fun x H1 => WE X a σ H1 fun y H2 => ∃ (l : Addr) (ys : List V) (j : Nat) (i : Int), x = .ref l ∧ y = .int (j : Nat) ∧ H2 l = some (.lst ys) ∧ ys[j]? = some (.int i) ∧ WE X e σ H2 fun z H3 => ∃ (k : Int) (zs : List V), z = .int k ∧ H3 l = some (.lst zs) ∧ j < zs.length ∧
      WS X rest D σ (upd H3 l (.lst (zs.set j (.int (i + k))))))
    (ha : ∀ ov iv new, augStore a ov iv new = (do holding [new, ov, iv] (setItem ov iv new); release [new, ov, iv] []; pure .next) := by intros; rfl) : WS X (.AugAssign (.Subscript o a tpos) .Add e spos :: rest) D σ H :=
  ws_step (ps_augS pe_we pe_we get_list pe_we ip_add set_list ha) (h.imp fun x H1 q => q.imp fun y H2 ⟨l, ys, j, i, ex, ey, hl, hj, q⟩ => ⟨l, ys, j, .int i, ex, ey, SqL.of hl, hj, q.imp fun z H3 ⟨k, zs, ez, hz, hjz, q⟩ =>
    ⟨i, k, rfl, ez, l, zs, (j : Nat), j, ex, ey, hz, by unfold ixN; rw [if_pos (by omega), if_pos (by omega), Int.toNat_natCast], q⟩⟩)
/-! ### new lists, by their places -/
theorem we_lst {es : List Expr} (h : WA X es σ H fun vs H1 => vs.length ≤ 1000 ∧ ∀ p, H1 p = none → Q (.ref p) (upd H1 p (.lst vs))) : WE X (.List es pos) σ H Q :=
  we_of (pe_lst pa_wa) (wa_imp h fun vs H1 ⟨hl, q⟩ => ⟨Nat.le_of_lt (small1000 hl), q⟩)
theorem we_nil (q : ∀ p, H p = none → Q (.ref p) (upd H p (.lst []))) : WE X (.List [] pos) σ H Q := we_lst (wa_of pa_nil ⟨Nat.zero_le _, q⟩)
theorem we_list {p : Pos} (B : Blt X.mg) (h : WE X a σ H fun v H1 => ∃ l ys, v = .ref l ∧ (H1 l = some (.lst ys) ∨ TupAt H1 l ys) ∧ ∀ n, H1 n = none → Q (.ref n) (upd H1 n (.lst ys)))
    (hg : Gl X "list" := by rfl) (he : starEach [a] X.env = (false, eval a X.env) :: starEach [] X.env := by rfl) : WE X (.Call (.Name "list" p) [a] [] pos) σ H Q :=
  we_T call_list_of B.list boot_list (wa_one (h.imp fun v H1 ⟨l, ys, ev, hl, q⟩ => ⟨l, ys, by rw [ev], hl.elim (fun z => .inl (SqL.of z)) fun z => .inr z.sq, q⟩) he) hg (by decide) (by decide) he rfl
theorem we_slL {p2 : Pos} {G : Hp} {lo hi : Option Expr} {ol oh : Option Int} (hlo : DO X lo σ G ol) (hhi : DO X hi σ G oh) (h : WE X a σ H fun v H1 => ∃ l ys, v = .ref l ∧ H1 l = some (.lst ys) ∧ Same G H1 ∧
    ∀ H2 n, Same H1 H2 → H2 n = none → Q (.ref n) (upd H2 n (.lst (cutV ys ol oh)))) : WE X (.Subscript a (.Slice lo hi none p2) pos) σ H Q := by
  obtain ⟨tl, pl, rl⟩ := hlo
  obtain ⟨th, ph, rh⟩ := hhi
  exact we_of (pe_slice sl_list pe_we pl ph) (h.imp fun v H1 ⟨l, ys, ev, hl, g, q⟩ => rl H1 _ g fun H2 s2 => rh H2 _ (g.trans s2) fun H3 s3 => ⟨l, ys, ev, SqL.of ((s2.trans s3) _ _ hl), fun n hn => q H3 n (s2.trans s3) hn⟩)
/-- a, b = x, y with plain local names -/
theorem ws_par {spos p0 p1 p2 t1 : Pos} {kt k2 : Nat} {x y : Str} (i j : Nat) (hN : X.N.Nodup) (h : WE X a σ H fun v H1 => WE X b σ H1 fun w H2 => WS X rest D ((σ.set i (some v)).set j (some w)) H2) (hij : i ≠ j := by decide) (hc : X.calm = true := by rfl)
    (hi : X.N[i]? = some x := by rfl) (hj : X.N[j]? = some y := by rfl) (hx : X.env.scope.names.lookup x = some .local := by rfl) (hy : X.env.scope.names.lookup y = some .local := by rfl)
    (hs1 : starEach [a, b] X.env = (false, eval a X.env) :: starEach [b] X.env := by rfl) (hs2 : starEach [b] X.env = (false, eval b X.env) :: starEach [] X.env := by rfl)
    (hw : swappedStores [.Tuple [.Name x p1, .Name y p2] kt p0] (.Tuple [a, b] k2 t1) X.env = pure (some [x, y]) := by rfl)
    (hs : swapsWithSole [.Tuple [.Name x p1, .Name y p2] kt p0] (.Tuple [a, b] k2 t1) spos.line X.env = pure false := by rfl) :
    WS X (.Assign [.Tuple [.Name x p1, .Name y p2] kt p0] (.Tuple [a, b] k2 t1) spos :: rest) D σ H :=
  ws_step (L2.ps_par hc hN hi hj hij hx hy (pa_cons pe_we (pa_cons pe_we pa_nil hs2) hs1) hw hs) (h.imp fun v H1 q => q.imp fun w H2 q => ⟨v, w, rfl, q⟩)
end
end DL

/-! The text: its defs by their places, their names by slots. -/
namespace DL
open PySem PySem.Spec PyProof.Rows L2
def topS (i : Nat) : Stmt := PySem.Challenge.pw_whilemoved_k07_whole_planted_parts_gone.main.body.getD i (.Pass ⟨0, 0, 0, 0⟩)
abbrev sRooms : Stmt := topS 5
abbrev nRooms : List Str := ["needs", "layout", "value", "need"]
theorem scRooms : FnScope nRooms ["needs", "layout"] (defScope sRooms) := ⟨rfl, rfl, rfl, by decide +kernel, rfl, by decide +kernel, by decide +kernel⟩
abbrev sWrongPlaces : Stmt := topS 6
abbrev nWrongPlaces : List Str := ["task", "_needs", "old", "wish", "place", "item"]
theorem scWrongPlaces : FnScope nWrongPlaces ["task"] (defScope sWrongPlaces) := ⟨rfl, rfl, rfl, by decide +kernel, rfl, by decide +kernel, by decide +kernel⟩
abbrev sFreePlaces : Stmt := topS 7
abbrev nFreePlaces : List Str := ["task", "place", "item"]
theorem scFreePlaces : FnScope nFreePlaces ["task"] (defScope sFreePlaces) := ⟨rfl, rfl, rfl, by decide +kernel, rfl, by decide +kernel, by decide +kernel⟩
abbrev sOpenPlaces : Stmt := topS 8
abbrev nOpenPlaces : List Str := ["task", "place", "item"]
theorem scOpenPlaces : FnScope nOpenPlaces ["task"] (defScope sOpenPlaces) := ⟨rfl, rfl, rfl, by decide +kernel, rfl, by decide +kernel, by decide +kernel⟩
abbrev sCanBeDone : Stmt := topS 9
abbrev nCanBeDone : List Str := ["layout", "stretch", "place", "source"]
theorem scCanBeDone : FnScope nCanBeDone ["layout", "stretch"] (defScope sCanBeDone) := ⟨rfl, rfl, rfl, by decide +kernel, rfl, by decide +kernel, by decide +kernel⟩
abbrev sLed : Stmt := topS 10
abbrev nLed : List Str := ["layout", "stretch", "found", "place", "source"]
theorem scLed : FnScope nLed ["layout", "stretch"] (defScope sLed) := ⟨rfl, rfl, rfl, by decide +kernel, rfl, by decide +kernel, by decide +kernel⟩
abbrev sLedBy : Stmt := topS 11
abbrev nLedBy : List Str := ["layout", "plan", "index", "stretch"]
theorem scLedBy : FnScope nLedBy ["layout", "plan"] (defScope sLedBy) := ⟨rfl, rfl, rfl, by decide +kernel, rfl, by decide +kernel, by decide +kernel⟩
abbrev sDoes : Stmt := topS 12
abbrev nDoes : List Str := ["task", "plan", "layout", "stretch", "place", "item"]
theorem scDoes : FnScope nDoes ["task", "plan"] (defScope sDoes) := ⟨rfl, rfl, rfl, by decide +kernel, rfl, by decide +kernel, by decide +kernel⟩
abbrev sArrowOf : Stmt := topS 14
abbrev nArrowOf : List Str := ["task", "place"]
theorem scArrowOf : FnScope nArrowOf ["task", "place"] (defScope sArrowOf) := ⟨rfl, rfl, rfl, by decide +kernel, rfl, by decide +kernel, by decide +kernel⟩
abbrev sArrowsOf : Stmt := topS 15
abbrev nArrowsOf : List Str := ["task", "place"]
theorem scArrowsOf : FnScope nArrowsOf ["task"] (defScope sArrowsOf) := ⟨rfl, rfl, rfl, by decide +kernel, rfl, by decide +kernel, by decide +kernel⟩
abbrev sHangTogether : Stmt := topS 16
abbrev nHangTogether : List Str := ["one", "other"]
theorem scHangTogether : FnScope nHangTogether ["one", "other"] (defScope sHangTogether) := ⟨rfl, rfl, rfl, by decide +kernel, rfl, by decide +kernel, by decide +kernel⟩
abbrev sPartsOf : Stmt := topS 17
abbrev nPartsOf : List Str := ["task", "found", "arrow", "near", "part", "other", "tail", "head", "place"]
theorem scPartsOf : FnScope nPartsOf ["task"] (defScope sPartsOf) := ⟨rfl, rfl, rfl, by decide +kernel, rfl, by decide +kernel, by decide +kernel⟩
abbrev sValuesIn : Stmt := topS 18
abbrev nValuesIn : List Str := ["task", "part", "found", "place", "value"]
theorem scValuesIn : FnScope nValuesIn ["task", "part"] (defScope sValuesIn) := ⟨rfl, rfl, rfl, by decide +kernel, rfl, by decide +kernel, by decide +kernel⟩
abbrev sIsClosed : Stmt := topS 19
abbrev nIsClosed : List Str := ["task", "part", "room", "place", "value"]
theorem scIsClosed : FnScope nIsClosed ["task", "part"] (defScope sIsClosed) := ⟨rfl, rfl, rfl, by decide +kernel, rfl, by decide +kernel, by decide +kernel⟩
abbrev sClosedParts : Stmt := topS 20
abbrev nClosedParts : List Str := ["task", "part"]
theorem scClosedParts : FnScope nClosedParts ["task"] (defScope sClosedParts) := ⟨rfl, rfl, rfl, by decide +kernel, rfl, by decide +kernel, by decide +kernel⟩
abbrev sCountsOf : Stmt := topS 21
abbrev nCountsOf : List Str := ["task"]
theorem scCountsOf : FnScope nCountsOf ["task"] (defScope sCountsOf) := ⟨rfl, rfl, rfl, by decide +kernel, rfl, by decide +kernel, by decide +kernel⟩
abbrev sIsEven : Stmt := topS 22
abbrev nIsEven : List Str := ["task", "needs", "old", "wish", "room"]
theorem scIsEven : FnScope nIsEven ["task"] (defScope sIsEven) := ⟨rfl, rfl, rfl, by decide +kernel, rfl, by decide +kernel, by decide +kernel⟩
abbrev sSpareMany : Stmt := topS 23
abbrev nSpareMany : List Str := ["task"]
theorem scSpareMany : FnScope nSpareMany ["task"] (defScope sSpareMany) := ⟨rfl, rfl, rfl, by decide +kernel, rfl, by decide +kernel, by decide +kernel⟩
abbrev sCanGoOn : Stmt := topS 24
abbrev nCanGoOn : List Str := ["arrows", "value", "last", "met", "left", "near", "arrow"]
theorem scCanGoOn : FnScope nCanGoOn ["arrows", "value", "last"] (defScope sCanGoOn) := ⟨rfl, rfl, rfl, by decide +kernel, rfl, by decide +kernel, by decide +kernel⟩
abbrev sRoundsOf : Stmt := topS 25
abbrev nRoundsOf : List Str := ["task", "part", "arrows", "found", "left", "arrow", "rest", "place", "one", "tail", "head"]
theorem scRoundsOf : FnScope nRoundsOf ["task", "part"] (defScope sRoundsOf) := ⟨rfl, rfl, rfl, by decide +kernel, rfl, by decide +kernel, by decide +kernel⟩
abbrev sRenamed : Stmt := topS 27
abbrev nRenamed : List Str := ["task", "values", "places", "needs", "old", "wish", "layouts", "layout", "items", "place", "item", "value"]
theorem scRenamed : FnScope nRenamed ["task", "values", "places"] (defScope sRenamed) := ⟨rfl, rfl, rfl, by decide +kernel, rfl, by decide +kernel, by decide +kernel⟩
abbrev sMovedItems : Stmt := topS 28
abbrev nMovedItems : List Str := ["layout", "by", "item"]
theorem scMovedItems : FnScope nMovedItems ["layout", "by"] (defScope sMovedItems) := ⟨rfl, rfl, rfl, by decide +kernel, rfl, by decide +kernel, by decide +kernel⟩
abbrev sBeside : Stmt := topS 29
abbrev nBeside : List Str := ["one", "other", "by"]
theorem scBeside : FnScope nBeside ["one", "other"] (defScope sBeside) := ⟨rfl, rfl, rfl, by decide +kernel, rfl, by decide +kernel, by decide +kernel⟩
abbrev sWithSpare : Stmt := topS 30
abbrev nWithSpare : List Str := ["task", "many", "needs", "old", "wish"]
theorem scWithSpare : FnScope nWithSpare ["task", "many"] (defScope sWithSpare) := ⟨rfl, rfl, rfl, by decide +kernel, rfl, by decide +kernel, by decide +kernel⟩
abbrev sWithoutPart : Stmt := topS 31
abbrev nWithoutPart : List Str := ["task", "index", "needs", "old", "wish", "part", "place", "item"]
theorem scWithoutPart : FnScope nWithoutPart ["task", "index"] (defScope sWithoutPart) := ⟨rfl, rfl, rfl, by decide +kernel, rfl, by decide +kernel, by decide +kernel⟩
abbrev sLawBag : Stmt := topS 33
abbrev nLawBag : List Str := ["_law_script", "_law_cell"]
theorem scLawBag : FnScope nLawBag ["_law_script"] (defScope sLawBag) := ⟨rfl, rfl, rfl, by decide +kernel, rfl, by decide +kernel, by decide +kernel⟩
abbrev sLawTake : Stmt := topS 34
abbrev nLawTake : List Str := ["_law_bag_here", "_law_many", "_law_cell", "_law_stirred", "_law_value", "_law_begin", "_law_second"]
theorem scLawTake : FnScope nLawTake ["_law_bag_here", "_law_many"] (defScope sLawTake) := ⟨rfl, rfl, rfl, by decide +kernel, rfl, by decide +kernel, by decide +kernel⟩
abbrev sLawSome : Stmt := topS 35
abbrev nLawSome : List Str := ["_law_bag_here", "_law_things"]
theorem scLawSome : FnScope nLawSome ["_law_bag_here", "_law_things"] (defScope sLawSome) := ⟨rfl, rfl, rfl, by decide +kernel, rfl, by decide +kernel, by decide +kernel⟩
abbrev sLawMixed : Stmt := topS 36
abbrev nLawMixed : List Str := ["_law_bag_here", "_law_things", "_law_found", "_law_thing"]
theorem scLawMixed : FnScope nLawMixed ["_law_bag_here", "_law_things"] (defScope sLawMixed) := ⟨rfl, rfl, rfl, by decide +kernel, rfl, by decide +kernel, by decide +kernel⟩
abbrev sLawAlike : Stmt := topS 37
abbrev nLawAlike : List Str := ["_law_found", "_law_due"]
theorem scLawAlike : FnScope nLawAlike ["_law_found", "_law_due"] (defScope sLawAlike) := ⟨rfl, rfl, rfl, by decide +kernel, rfl, by decide +kernel, by decide +kernel⟩
abbrev sLawStandings : Stmt := topS 38
abbrev nLawStandings : List Str := ["_law_needs", "_law_layout", "_law_item", "_law_value"]
theorem scLawStandings : FnScope nLawStandings ["_law_needs", "_law_layout"] (defScope sLawStandings) := ⟨rfl, rfl, rfl, by decide +kernel, rfl, by decide +kernel, by decide +kernel⟩
abbrev sLawRooms : Stmt := topS 39
abbrev nLawRooms : List Str := ["_law_needs", "_law_layout", "_law_many", "_law_need"]
theorem scLawRooms : FnScope nLawRooms ["_law_needs", "_law_layout"] (defScope sLawRooms) := ⟨rfl, rfl, rfl, by decide +kernel, rfl, by decide +kernel, by decide +kernel⟩
abbrev sLawWrong : Stmt := topS 40
abbrev nLawWrong : List Str := ["_law_task", "_law_needs", "_law_old", "_law_wish", "_law_at"]
theorem scLawWrong : FnScope nLawWrong ["_law_task"] (defScope sLawWrong) := ⟨rfl, rfl, rfl, by decide +kernel, rfl, by decide +kernel, by decide +kernel⟩
abbrev sLawCanBeDone : Stmt := topS 41
abbrev nLawCanBeDone : List Str := ["_law_layout", "_law_stretch", "_law_place", "_law_source"]
theorem scLawCanBeDone : FnScope nLawCanBeDone ["_law_layout", "_law_stretch"] (defScope sLawCanBeDone) := ⟨rfl, rfl, rfl, by decide +kernel, rfl, by decide +kernel, by decide +kernel⟩
abbrev sLawLed : Stmt := topS 42
abbrev nLawLed : List Str := ["_law_layout", "_law_stretch", "_law_found", "_law_place", "_law_source"]
theorem scLawLed : FnScope nLawLed ["_law_layout", "_law_stretch"] (defScope sLawLed) := ⟨rfl, rfl, rfl, by decide +kernel, rfl, by decide +kernel, by decide +kernel⟩
abbrev sLawIsSafe : Stmt := topS 43
abbrev nLawIsSafe : List Str := ["_law_needs", "_law_layout", "_law_stretch", "_law_places", "_law_outside", "_law_place", "_law_source", "_law_at", "_law_item", "_law_room"]
theorem scLawIsSafe : FnScope nLawIsSafe ["_law_needs", "_law_layout", "_law_stretch"] (defScope sLawIsSafe) := ⟨rfl, rfl, rfl, by decide +kernel, rfl, by decide +kernel, by decide +kernel⟩
abbrev sLawIsWanted : Stmt := topS 44
abbrev nLawIsWanted : List Str := ["_law_wish", "_law_layout", "_law_at", "_law_item"]
theorem scLawIsWanted : FnScope nLawIsWanted ["_law_wish", "_law_layout"] (defScope sLawIsWanted) := ⟨rfl, rfl, rfl, by decide +kernel, rfl, by decide +kernel, by decide +kernel⟩
abbrev sLawIsSafePlan : Stmt := topS 45
abbrev nLawIsSafePlan : List Str := ["_law_task", "_law_plan", "_law_layout", "_law_stretch"]
theorem scLawIsSafePlan : FnScope nLawIsSafePlan ["_law_task", "_law_plan"] (defScope sLawIsSafePlan) := ⟨rfl, rfl, rfl, by decide +kernel, rfl, by decide +kernel, by decide +kernel⟩
abbrev sLawPartedTask : Stmt := topS 46
abbrev nLawPartedTask : List Str := ["_law_bag_here", "_law_size", "_law_most", "_law_needs", "_law_old", "_law_wish", "_law_is_more", "_law_need", "_law_many", "_law_first", "_law_at", "_law_spare", "_law_order"]
theorem scLawPartedTask : FnScope nLawPartedTask ["_law_bag_here", "_law_size", "_law_most"] (defScope sLawPartedTask) := ⟨rfl, rfl, rfl, by decide +kernel, rfl, by decide +kernel, by decide +kernel⟩
abbrev sLawFree : Stmt := topS 47
abbrev nLawFree : List Str := ["_law_task", "_law_at", "_law_item"]
theorem scLawFree : FnScope nLawFree ["_law_task"] (defScope sLawFree) := ⟨rfl, rfl, rfl, by decide +kernel, rfl, by decide +kernel, by decide +kernel⟩
abbrev sLawPlanted : Stmt := topS 48
abbrev nLawPlanted : List Str := ["_law_bag_here", "_law_size", "_law_task", "_law_needs", "_law_old", "_law_wish", "_law_found", "_law_left", "_law_place", "_law_part", "_law_is_more", "_law_met", "_law_near", "_law_at"]
theorem scLawPlanted : FnScope nLawPlanted ["_law_bag_here", "_law_size"] (defScope sLawPlanted) := ⟨rfl, rfl, rfl, by decide +kernel, rfl, by decide +kernel, by decide +kernel⟩
abbrev sLawIsRoundRight : Stmt := topS 49
abbrev nLawIsRoundRight : List Str := ["_law_task", "_law_part", "_law_index", "_law_order", "_law_size", "_law_spare", "_law_plan", "_law_alone", "_law_behind", "_law_left", "_law_rest", "_law_place", "_law_after", "_law_at", "_law_item"]
theorem scLawIsRoundRight : FnScope nLawIsRoundRight ["_law_task", "_law_part", "_law_index"] (defScope sLawIsRoundRight) := ⟨rfl, rfl, rfl, by decide +kernel, rfl, by decide +kernel, by decide +kernel⟩
abbrev sLaw : Stmt := topS 50
abbrev nLaw : List Str := ["_law_script", "_law_bag_here", "_law_turn", "_law_task", "_law_parts", "_law_told", "_law_index", "_law_part", "_law_other", "_law_more", "_law_both", "_law_moved", "_law_places", "_law_again", "_law_led_here", "_law_place"]
theorem scLaw : FnScope nLaw ["_law_script"] (defScope sLaw) := ⟨rfl, rfl, rfl, by decide +kernel, rfl, by decide +kernel, by decide +kernel⟩
end DL

/-! Encodings; a def's proof from its body. -/
namespace DL
open PySem PySem.Spec PyProof.Rows L2

/-! ### how things stand as data -/
abbrev nI (n : Nat) : PyData := .int (n : Int)
def oI : Option Nat → PyData
  | none => .none
  | some n => .int (n : Int)
abbrev tN (xs : List Nat) : PyData := .tuple (xs.map nI)
abbrev lN (xs : List Nat) : PyData := .list (xs.map nI)
abbrev tO (xs : List (Option Nat)) : PyData := .tuple (xs.map oI)
abbrev lO (xs : List (Option Nat)) : PyData := .list (xs.map oI)
abbrev tTk (needs : List Nat) (old wish : List (Option Nat)) : PyData := .tuple [tN needs, tO old, tO wish]
abbrev lT (xs : List (List Nat)) : PyData := .list (xs.map tN)
theorem oI_flat (o : Option Nat) : flatD (oI o) = true := by cases o <;> rfl
theorem flatN (xs : List Nat) : (xs.map nI).all flatD = true := by rw [List.all_map]; exact List.all_eq_true.mpr fun _ _ => rfl
theorem flatO (xs : List (Option Nat)) : (xs.map oI).all flatD = true := by rw [List.all_map]; exact List.all_eq_true.mpr fun o _ => oI_flat o
theorem isNone_oI (o : Option Nat) : isNone (oI o) = o.isNone := by cases o <;> rfl
theorem eqV_nI (a b : Nat) : eqV (toV (nI a)) (toV (nI b)) = (a == b) := by
  show ((a : Int) == (b : Int)) = _
  rw [Bool.eq_iff_iff]; simp; omega
theorem eqV_oI (a b : Option Nat) : eqV (toV (oI a)) (toV (oI b)) = (a == b) := by
  cases a <;> cases b
  · rfl
  · rfl
  · rfl
  · show ((_ : Int) == (_ : Int)) = _
    rw [Bool.eq_iff_iff]; simp; omega
theorem eqV_oIn (a : Option Nat) (b : Nat) : eqV (toV (oI a)) (toV (nI b)) = (a == some b) := eqV_oI a (some b)
theorem memD_N (a : Nat) (xs : List Nat) : memD (nI a) (xs.map nI) = decide (a ∈ xs) := by
  unfold memD
  rw [List.any_map, Bool.eq_iff_iff, List.any_eq_true, decide_eq_true_iff]
  constructor
  · rintro ⟨x, hx, e⟩
    have e' : (x == a) = true := (eqV_nI x a).symm.trans e
    rw [beq_iff_eq] at e'
    exact e' ▸ hx
  · intro h
    exact ⟨a, h, (eqV_nI a a).trans (by simp)⟩
theorem memD_O (a : Option Nat) (xs : List (Option Nat)) : memD (oI a) (xs.map oI) = decide (a ∈ xs) := by
  unfold memD
  rw [List.any_map, Bool.eq_iff_iff, List.any_eq_true, decide_eq_true_iff]
  constructor
  · rintro ⟨x, hx, e⟩
    have e' : (x == a) = true := (eqV_oI x a).symm.trans e
    rw [beq_iff_eq] at e'
    exact e' ▸ hx
  · intro h
    exact ⟨a, h, (eqV_oI a a).trans (by simp)⟩
theorem decV_n (a b : Nat) : decide (toV (nI a) = toV (nI b)) = decide (a = b) := by
  show decide (V.int a = V.int b) = _
  rw [dec_int, Bool.eq_iff_iff]; simp; try omega
theorem decV_i (a b : Int) : decide (toV (.int a) = toV (.int b)) = decide (a = b) := by
  show decide (V.int a = V.int b) = _
  rw [dec_int, Bool.eq_iff_iff]; simp; try omega
theorem decV_o (a b : Option Nat) : decide (toV (oI a) = toV (oI b)) = decide (a = b) := by
  cases a with
  | none => cases b <;> simp [oI, toV]
  | some a =>
    cases b with
    | none => simp [oI, toV]
    | some b =>
      show decide (V.int a = V.int b) = _
      rw [dec_int, Bool.eq_iff_iff]; simp; try omega
theorem scD_o (a b : Option Nat) : scD (oI a) (oI b) = true := by cases a <;> cases b <;> rfl
theorem at_map {α : Type} {xs : List α} {enc : α → PyData} {j : Nat} {a : α} (h : xs[j]? = some a) : atI (xs.map enc) (j : Int) = some (enc a) := atI_nat (by rw [List.getElem?_map, h]; rfl)
theorem at_map0 {α : Type} {xs : List α} {enc : α → PyData} {a : α} (h : xs[0]? = some a) : atI (xs.map enc) 0 = some (enc a) := at_map (j := 0) h
section
variable {H : Hp}
theorem DqAll.a1 {vs : List V} {a : PyData} (h : DqAll H vs [a]) : ∃ v, vs = [v] ∧ Dq H v a := h.one_inv
theorem DqAll.a2 {vs : List V} {a b : PyData} (h : DqAll H vs [a, b]) : ∃ v w, vs = [v, w] ∧ Dq H v a ∧ Dq H w b := by
  cases h with
  | cons h1 h2 => obtain ⟨w, rfl, d⟩ := h2.one_inv; exact ⟨_, w, rfl, h1, d⟩
theorem DqAll.a3 {vs : List V} {a b c : PyData} (h : DqAll H vs [a, b, c]) : ∃ u v w, vs = [u, v, w] ∧ Dq H u a ∧ Dq H v b ∧ Dq H w c := by
  cases h with
  | cons h1 h2 => obtain ⟨v, w, rfl, d, e⟩ := h2.a2; exact ⟨_, v, w, rfl, h1, d, e⟩
end

/-! ### a def's proof -/
section
variable {P : Program} {w : World} {K : PySem.W.Frag} {mg : Str → Option Value} {base : Heap} {x qual : Str} {st : Stmt} {f : Addr} {fd : FuncData} {N ps : List Str} {k : Nat}
abbrev XOf (P : Program) (w : World) (K : PySem.W.Frag) (mg : Str → Option Value) (base : Heap) (N : List Str) (qual : Str) (st : Stmt) (f : Addr) (cdv : Value) (A : Around) (outer : List Env) (s : Shared) (H : Hp) (E : XK) : Cx :=
  (cxOf CX0 P w K mg base N qual (defScope st) f cdv A outer s H E).nox
theorem ok_def {sp : Sp} (F : Fun K x qual st f fd) (S : FnScope N ps (defScope st)) (len : ∀ vs H Q E, sp vs H Q E → vs.length = ps.length)
    (hb : ∀ (cdv : Value) (A : Around) (outer : List Env) (s : Shared) (H : Hp) (vs : List V) (Q : VK) (E : XK), Room k (XOf P w K mg base N qual st f cdv A outer s H E).A → sp vs H Q E →
      WS (XOf P w K mg base N qual st f cdv A outer s H E) (defBody st) { nx := fun _ H' => Q .non H', rt := Q } (start N vs) H) : FnOk P w K mg base CX0 (k + 1) f fd ps sp :=
  F.ok S len fun cdv A outer s H vs Q E hr h => ws_ex (hb cdv A outer s H vs Q E hr h)
theorem ok_defG {sp : Sp} (F : Fun K x qual st f fd) (S : FnScope N ps (defScope st)) (len : ∀ vs H Q E, sp vs H Q E → vs.length = ps.length)
    (hb : ∀ (cdv : Value) (A : Around) (outer : List Env) (s : Shared) (H : Hp) (vs : List V) (Q : VK) (E : XK), (XOf P w K mg base N qual st f cdv A outer s H E).A.guards = some [] → Room k (XOf P w K mg base N qual st f cdv A outer s H E).A → sp vs H Q E →
      WS (XOf P w K mg base N qual st f cdv A outer s H E) (defBody st) { nx := fun _ H' => Q .non H', rt := Q } (start N vs) H) : FnG P w K mg base (k + 1) f fd ps sp :=
  fn_g F S len fun cdv A outer s H vs Q E hg hr h => ws_ex (hb cdv A outer s H vs Q E hg hr h)
theorem ok_data {pre : List PyData → (PyData → Prop) → Prop} (F : Fun K x qual st f fd) (S : FnScope N ps (defScope st)) (len : ∀ ds R, pre ds R → ds.length = ps.length)
    (hb : ∀ (cdv : Value) (A : Around) (outer : List Env) (s : Shared) (H : Hp) (vs : List V) (Q : VK) (E : XK) (ds : List PyData) (R : PyData → Prop), Room k (XOf P w K mg base N qual st f cdv A outer s H E).A → DqAll H vs ds → pre ds R →
      (∀ v H2 d, Same H H2 → Dq H2 v d → R d → Q v H2) → WS (XOf P w K mg base N qual st f cdv A outer s H E) (defBody st) { nx := fun _ H' => Q .non H', rt := Q } (start N vs) H) : FnOk P w K mg base CX0 (k + 1) f fd ps (spD pre) :=
  ok_def F S (fun vs H Q E h => by
    obtain ⟨ds, R, h1, h2, _⟩ := h
    rw [h1.length]
    exact len ds R h2) fun cdv A outer s H vs Q E hr h => by
      obtain ⟨ds, R, h1, h2, h3⟩ := h
      exact hb cdv A outer s H vs Q E ds R hr h1 h2 h3
/-- a def whose one datum is told -/
theorem fdef {sp : Sp} (F : FnOk P w K mg base CX0 k f fd ps sp) (hm : mg x = some (.ref f)) (hk : PySem.W.keepIn K (.ref f) = true) (hb : Binds K fd ps []) : Cal P w K mg base k x sp := ⟨f, fd, ps, F, hm, hk, hb⟩
end
end DL

/-! What the defs compute, in plain Lean. -/
namespace DL
abbrev Lay := List (Option Nat)
abbrev Cp := Nat × Nat
def gt (o : Lay) (p : Nat) : Option Nat := o.getD p none
def wrongs (old wish : Lay) : List Nat := (List.range wish.length).filter fun p => (gt wish p).isSome && decide (gt wish p ≠ gt old p)
def frees (o : Lay) : List Nat := (List.range o.length).filter fun p => (gt o p).isNone
def canDo (lay : Lay) (st : List Cp) : Bool := st.all fun c => (gt lay c.2).isSome
def ledM (lay : Lay) (st : List Cp) : Lay := st.foldl (fun f c => f.set c.1 (gt lay c.2)) lay
def ledByM : Lay → List (List Cp) → Lay
  | lay, [] => lay
  | lay, st :: r => ledByM (ledM lay st) r
/-- each stretch can be done where it comes, of places that are there -/
def canPlan : Lay → List (List Cp) → Prop
  | _, [] => True
  | lay, st :: r => canDo lay st = true ∧ (∀ c ∈ st, c.1 < lay.length ∧ c.2 < lay.length) ∧ canPlan (ledM lay st) r
def wantedM (wish lay : Lay) : Bool := (List.range wish.length).all fun p => (gt wish p).isNone || decide (gt wish p = gt lay p)

theorem zipIdx_range {α : Type} (d : α) (xs : List α) : xs.zipIdx = (List.range xs.length).map fun i => (xs.getD i d, i) := by
  refine List.ext_getElem (by simp) fun i h1 h2 => ?_
  rw [List.length_zipIdx] at h1
  simp [List.getElem?_eq_getElem h1]
theorem zipIdx_fm {α β : Type} (d : α) (xs : List α) (P : α → Nat → Bool) (F : α → Nat → β) :
    (xs.zipIdx.filter fun q => P q.1 q.2).map (fun q => F q.1 q.2) = ((List.range xs.length).filter fun i => P (xs.getD i d) i).map fun i => F (xs.getD i d) i := by
  rw [zipIdx_range d xs, List.filter_map, List.map_map]
  rfl
theorem zipIdx_m {α β : Type} (d : α) (xs : List α) (F : α → Nat → β) : xs.zipIdx.map (fun q => F q.1 q.2) = (List.range xs.length).map fun i => F (xs.getD i d) i := by
  rw [zipIdx_range d xs, List.map_map]
  rfl
theorem zipIdx_mem {α : Type} {xs : List α} {q : α × Nat} (h : q ∈ xs.zipIdx) : xs[q.2]? = some q.1 ∧ q.2 < xs.length := by
  obtain ⟨i, hi⟩ := List.getElem?_of_mem h
  rw [List.getElem?_zipIdx] at hi
  cases hx : xs[i]? with
  | none => rw [hx] at hi; cases hi
  | some c =>
    rw [hx] at hi
    have e : q = (c, i) := by
      have := Option.some.inj hi
      rw [← this]; simp
    subst e
    exact ⟨hx, (List.getElem?_eq_some_iff.mp hx).1⟩
theorem gt_some {o : Lay} {p : Nat} {x : Option Nat} (h : o[p]? = some x) : gt o p = x := by
  unfold gt
  rw [List.getD_eq_getElem?_getD, h]; rfl
theorem gt_at {o : Lay} {p : Nat} (h : p < o.length) : o[p]? = some (gt o p) := by
  unfold gt
  rw [List.getD_eq_getElem?_getD, List.getElem?_eq_getElem h]; rfl
theorem ledM_length (lay : Lay) (st : List Cp) : (ledM lay st).length = lay.length := by
  unfold ledM
  have : ∀ (st : List Cp) (f : Lay), (st.foldl (fun f c => f.set c.1 (gt lay c.2)) f).length = f.length := by
    intro st
    induction st with
    | nil => intro f; rfl
    | cons c r ih => intro f; rw [List.foldl_cons, ih, List.length_set]
  exact this st lay

/-! ### arrows and parts -/
abbrev Arr := Nat × Nat × Nat
def arOf (old wish : Lay) (p : Nat) : Arr := ((gt old p).getD 0, (gt wish p).getD 0, p)
def arrowsM (old wish : Lay) : List Arr := (wrongs old wish).map (arOf old wish)
def hangM (a b : Arr) : Bool := decide (a.1 ∈ [b.1, b.2.1]) || decide (a.2.1 ∈ [b.1, b.2.1])
def stepM (found : List (List Arr)) (a : Arr) : List (List Arr) := found.filter (fun p => !p.any (hangM a)) ++ [a :: (found.filter fun p => p.any (hangM a)).flatten]
def groupsM (as : List Arr) : List (List Arr) := as.foldl stepM []
def nsort (xs : List Nat) : List Nat := xs.mergeSort fun a b => decide (a ≤ b)
def llsort (xs : List (List Nat)) : List (List Nat) := xs.mergeSort fun a b => decide (a ≤ b)
def partsM (old wish : Lay) : List (List Nat) := llsort ((groupsM (arrowsM old wish)).map fun g => nsort (g.map (·.2.2)))
def valuesM (n : Nat) (old wish : Lay) (part : List Nat) : List Nat := (List.range n).filter fun v => part.any fun p => decide (gt old p = some v) || decide (gt wish p = some v)
/-- an even task, its sizes bounded -/
structure Ev (needs : List Nat) (old wish : Lay) : Prop where
  nl : needs.length ≤ 60
  len : old.length = wish.length
  wl : wish.length ≤ 60
  ro : ∀ v, v < needs.length → old.count (some v) = needs.getD v 0
  rw : ∀ v, v < needs.length → wish.count (some v) = needs.getD v 0
  fr : ∀ p, p < wish.length → (gt old p).isNone = (gt wish p).isNone
  vo : ∀ p v, gt old p = some v → v < needs.length
  vw : ∀ p v, gt wish p = some v → v < needs.length
theorem mem_wrongs {old wish : Lay} {p : Nat} : p ∈ wrongs old wish ↔ p < wish.length ∧ (gt wish p).isSome = true ∧ gt wish p ≠ gt old p := by
  unfold wrongs
  rw [List.mem_filter, List.mem_range, Bool.and_eq_true, decide_eq_true_iff]
theorem Ev.wrong {needs : List Nat} {old wish : Lay} (E : Ev needs old wish) {p : Nat} (h : p ∈ wrongs old wish) : p < old.length ∧ p < wish.length ∧ ∃ t h, gt old p = some t ∧ gt wish p = some h := by
  obtain ⟨h1, h2, _⟩ := mem_wrongs.mp h
  have h3 := E.fr p h1
  obtain ⟨w, hw⟩ := Option.isSome_iff_exists.mp h2
  cases ho : gt old p with
  | none => rw [ho, hw] at h3; cases h3
  | some t => exact ⟨by rw [E.len]; exact h1, h1, t, w, rfl, hw⟩
theorem stepM_perm (f : List (List Arr)) (a : Arr) : (stepM f a).flatten.Perm (a :: f.flatten) := by
  unfold stepM
  rw [List.flatten_append, List.flatten_singleton]
  refine List.perm_middle.trans (List.Perm.cons a ?_)
  have h : (f.filter (fun p => p.any (hangM a)) ++ f.filter (fun p => !p.any (hangM a))).Perm f := List.filter_append_perm _ f
  have h2 := List.Perm.flatten h
  rw [List.flatten_append] at h2
  exact List.perm_append_comm.trans h2
theorem groups_perm_aux : ∀ (as : List Arr) (f : List (List Arr)), (as.foldl stepM f).flatten.Perm (as ++ f.flatten)
  | [], f => List.Perm.refl _
  | a :: r, f => by
    rw [List.foldl_cons]
    refine (groups_perm_aux r (stepM f a)).trans ?_
    refine ((stepM_perm f a).append_left r).trans ?_
    exact List.perm_middle
theorem groups_perm (as : List Arr) : (groupsM as).flatten.Perm as := by
  have := groups_perm_aux as []
  rw [List.flatten_nil, List.append_nil] at this
  exact this
theorem stepM_length (f : List (List Arr)) (a : Arr) : (stepM f a).length ≤ f.length + 1 := by
  unfold stepM
  rw [List.length_append, List.length_singleton]
  have := List.length_filter_le (fun p => !p.any (hangM a)) f
  omega
theorem groups_length_aux : ∀ (as : List Arr) (f : List (List Arr)), (as.foldl stepM f).length ≤ f.length + as.length
  | [], f => Nat.le_refl _
  | a :: r, f => by
    rw [List.foldl_cons, List.length_cons]
    have := groups_length_aux r (stepM f a)
    have := stepM_length f a
    omega
theorem groups_length (as : List Arr) : (groupsM as).length ≤ as.length := by
  have := groups_length_aux as []
  rw [List.length_nil, Nat.zero_add] at this
  exact this
theorem len_flatten {α : Type} : ∀ {f : List (List α)} {g : List α}, g ∈ f → g.length ≤ f.flatten.length
  | [], _, h => absurd h (by simp)
  | x :: f, g, h => by
    rw [List.flatten_cons, List.length_append]
    rcases List.mem_cons.mp h with e | h
    · rw [e]; omega
    · have := len_flatten h; omega
theorem groups_part {as : List Arr} {g : List Arr} (h : g ∈ groupsM as) : g.length ≤ as.length ∧ ∀ a ∈ g, a ∈ as := by
  have hp := groups_perm as
  refine ⟨?_, fun a ha => hp.mem_iff.mp (List.mem_flatten.mpr ⟨g, h, ha⟩)⟩
  rw [← hp.length_eq]
  exact len_flatten h
theorem stepM_ne {f : List (List Arr)} {a : Arr} (h : ∀ g ∈ f, g ≠ []) : ∀ g ∈ stepM f a, g ≠ [] := by
  intro g hg
  unfold stepM at hg
  rcases List.mem_append.mp hg with hg | hg
  · exact h g (List.mem_filter.mp hg).1
  · rw [List.mem_singleton.mp hg]
    exact List.cons_ne_nil _ _
theorem groups_ne (as : List Arr) : ∀ g ∈ groupsM as, g ≠ [] := by
  have : ∀ (as : List Arr) (f : List (List Arr)), (∀ g ∈ f, g ≠ []) → ∀ g ∈ as.foldl stepM f, g ≠ [] := fun as => by
    induction as with
    | nil => intro f h; exact h
    | cons a r ih => intro f h; rw [List.foldl_cons]; exact ih _ (stepM_ne h)
  exact this as [] fun g hg => absurd hg (by simp)
theorem nsort_perm (xs : List Nat) : (nsort xs).Perm xs := List.mergeSort_perm _ _
theorem llsort_perm (xs : List (List Nat)) : (llsort xs).Perm xs := List.mergeSort_perm _ _
theorem arrows_length (old wish : Lay) : (arrowsM old wish).length ≤ wish.length := by
  unfold arrowsM wrongs
  rw [List.length_map]
  have := List.length_filter_le (fun p => (gt wish p).isSome && decide (gt wish p ≠ gt old p)) (List.range wish.length)
  rw [List.length_range] at this
  exact this
theorem parts_mem {old wish : Lay} {part : List Nat} (h : part ∈ partsM old wish) : part.length ≤ wish.length ∧ part ≠ [] ∧ ∀ p ∈ part, p ∈ wrongs old wish := by
  unfold partsM at h
  rw [(llsort_perm _).mem_iff] at h
  obtain ⟨g, hg, rfl⟩ := List.mem_map.mp h
  obtain ⟨h1, h2⟩ := groups_part hg
  have hp := nsort_perm (g.map (·.2.2))
  refine ⟨?_, fun e => ?_, fun p hpm => ?_⟩
  · rw [hp.length_eq, List.length_map]
    exact Nat.le_trans h1 (arrows_length old wish)
  · have := hp.length_eq
    rw [e, List.length_map] at this
    exact groups_ne _ g hg (List.eq_nil_of_length_eq_zero this.symm)
  · obtain ⟨a, ha, rfl⟩ := List.mem_map.mp (hp.mem_iff.mp hpm)
    have := h2 a ha
    unfold arrowsM at this
    obtain ⟨q, hq, rfl⟩ := List.mem_map.mp this
    exact hq
theorem parts_length (old wish : Lay) : (partsM old wish).length ≤ wish.length := by
  unfold partsM
  rw [(llsort_perm _).length_eq, List.length_map]
  exact Nat.le_trans (groups_length _) (arrows_length old wish)
end DL

namespace DL
open PySem PySem.Spec PyProof.Rows L2
section
variable {P : Program} {w : World} {K : PySem.W.Frag} {mg : Str → Option Value} {base : Heap} {f : Addr} {fd : FuncData}
def preRooms (ds : List PyData) (R : PyData → Prop) : Prop := ∃ (needs : List Nat) (lay : List (Option Nat)), ds = [tN needs, tO lay] ∧ needs.length ≤ 100 ∧
  R = (· = .tuple (needs.zipIdx.map fun q => .int ((lay.count (some q.2) : Nat) - (q.1 : Nat) : Int)))
theorem count_oI (lay : List (Option Nat)) (v : Nat) : ((lay.map oI).countP fun z => eqV (toV z) (toV (nI v))) = lay.count (some v) := by
  rw [List.countP_map]
  refine List.countP_congr fun o _ => ?_
  rw [show ((fun z => eqV (toV z) (toV (nI v))) ∘ oI) o = (o == some v) from eqV_oIn o v]
theorem ok_rooms (F : Fun K "rooms" "rooms" sRooms f fd) (B : Blt mg) : FnOk P w K mg base CX0 1 f fd ["needs", "layout"] (spD preRooms) := by
  refine ok_data F scRooms (fun ds R h => by obtain ⟨_, _, rfl, _⟩ := h; rfl) fun cdv A outer s H vs Q E ds R hr hd hp q => ?_
  obtain ⟨needs, lay, rfl, hl, rfl⟩ := hp
  obtain ⟨v0, v1, rfl, d0, d1⟩ := hd.a2
  refine ws_retD (G := H) (de_tupL B (de_lc (dl_2 (fun (q : Nat × Nat) => .int ((lay.count (some q.2) : Nat) - (q.1 : Nat) : Int)) [("value", 2), ("need", 3)] (src_E (j := 2) (k := 3) B nI (de_var 0 d0)) (blkOk_by (N := nRooms) (sc := defScope sRooms) (by decide +kernel))
    (fun Y hY => by obtain ⟨_, _, _, _, _, rfl⟩ := hY; exact pg_tup rfl (pgs_cons (pg_name (i := 2) scRooms.nd rfl (by first | exact .inl rfl | exact .inr rfl)) (pgs_cons (pg_name (i := 3) scRooms.nd rfl (by first | exact .inl rfl | exact .inr rfl)) (pgs_nil))) rfl rfl) (fun a ha Y hY Ha v w g e1 e2 => ?el) (fun _ _ => rfl) (by rw [List.length_zipIdx]; omega)) scRooms.nd)) (Same.refl H) fun v H2 s2 dv => q v H2 _ s2 dv rfl
  obtain ⟨_, _, _, _, _, rfl⟩ := hY
  exact (de_sub (de_count (de_var 1 (d1.mono g)) (de_var 2 e1) rfl (flatO lay)) (de_var 3 e2)).is (by rw [count_oI])
end
end DL

namespace DL
open PySem PySem.Spec PyProof.Rows L2
section
variable {P : Program} {w : World} {K : PySem.W.Frag} {mg : Str → Option Value} {base : Heap} {f : Addr} {fd : FuncData}
def preWrong (ds : List PyData) (R : PyData → Prop) : Prop := ∃ needs old wish, ds = [tTk needs old wish] ∧ wish.length ≤ old.length ∧ wish.length ≤ 1000 ∧ R = (· = tN (wrongs old wish))
theorem ok_wrong_places (F : Fun K "wrong_places" "wrong_places" sWrongPlaces f fd) (B : Blt mg) : FnOk P w K mg base CX0 1 f fd ["task"] (spD preWrong) := by
  refine ok_data F scWrongPlaces (fun ds R h => by obtain ⟨_, _, _, rfl, _⟩ := h; rfl) fun cdv A outer s H vs Q E ds R hr hd hp q => ?_
  obtain ⟨needs, old, wish, rfl, hl, hl2, rfl⟩ := hp
  obtain ⟨v0, rfl, d0⟩ := hd.a1
  refine ws_unp3 (G := H) 1 2 3 scWrongPlaces.nd (de_var 0 d0) (Same.refl H) fun u1 u2 u3 H1 s1 k1 k2 k3 => ?_
  refine ws_retD (G := H1) (de_tupL B (de_lc ((dl_2i (fun (q : Option Nat × Nat) => nI q.2) (fun q => q.1.isSome && decide (q.1 ≠ gt old q.2)) [("place", 4), ("item", 5)] (src_E (j := 4) (k := 5) B oI (de_var 3 k3)) (blkOk_by (N := nWrongPlaces) (sc := defScope sWrongPlaces) (by decide +kernel))
    (fun Y hY => by obtain ⟨_, _, _, _, _, rfl⟩ := hY; exact pg_tup rfl (pgs_cons (pg_name (i := 4) scWrongPlaces.nd rfl (by first | exact .inl rfl | exact .inr rfl)) (pgs_cons (pg_name (i := 5) scWrongPlaces.nd rfl (by first | exact .inl rfl | exact .inr rfl)) (pgs_nil))) rfl rfl) (fun a ha Y hY Ha v w g e1 e2 => ?ts) (fun a ha hp Y hY Ha v w g e1 e2 => ?el) (fun _ _ => rfl) (by rw [List.length_zipIdx]; omega)).is ?fin) scWrongPlaces.nd)) (Same.refl _) fun v H2 s2 dv => q v H2 _ (s1.trans s2) dv rfl
  case el =>
    obtain ⟨_, _, _, _, _, rfl⟩ := hY
    exact de_var 4 e1
  case ts =>
    obtain ⟨_, _, _, _, _, rfl⟩ := hY
    obtain ⟨h1, h2⟩ := zipIdx_mem ha
    refine (dt_and (dt_notN (de_var 5 e2)) fun _ => dt_ne (de_var 5 e2) (de_ixT (de_var 2 (k2.mono g)) (de_var 4 e1) (at_map (gt_at (o := old) (p := a.2) (by omega)))) (oI_flat _) (oI_flat _) (scD_o _ _)).is ?_
    rw [isNone_oI, decV_o]
    cases a.1 <;> simp
  case fin =>
    unfold wrongs
    have := zipIdx_fm none wish (fun o i => o.isSome && decide (o ≠ gt old i)) fun o i => nI i
    exact this
def preFree (ds : List PyData) (R : PyData → Prop) : Prop := ∃ needs old wish, ds = [tTk needs old wish] ∧ wish.length ≤ 1000 ∧ R = (· = tN (frees wish))
theorem ok_free_places (F : Fun K "free_places" "free_places" sFreePlaces f fd) (B : Blt mg) : FnOk P w K mg base CX0 1 f fd ["task"] (spD preFree) := by
  refine ok_data F scFreePlaces (fun ds R h => by obtain ⟨_, _, _, rfl, _⟩ := h; rfl) fun cdv A outer s H vs Q E ds R hr hd hp q => ?_
  obtain ⟨needs, old, wish, rfl, hl2, rfl⟩ := hp
  obtain ⟨v0, rfl, d0⟩ := hd.a1
  refine ws_retD (G := H) (de_tupL B (de_lc ((dl_2i (fun (q : Option Nat × Nat) => nI q.2) (fun q => q.1.isNone) [("place", 1), ("item", 2)] (src_E (j := 1) (k := 2) B oI (de_ixT (de_var 0 d0) de_int rfl)) (blkOk_by (N := nFreePlaces) (sc := defScope sFreePlaces) (by decide +kernel))
    (fun Y hY => by obtain ⟨_, _, _, _, _, rfl⟩ := hY; exact pg_tup rfl (pgs_cons (pg_name (i := 1) scFreePlaces.nd rfl (by first | exact .inl rfl | exact .inr rfl)) (pgs_cons (pg_name (i := 2) scFreePlaces.nd rfl (by first | exact .inl rfl | exact .inr rfl)) (pgs_nil))) rfl rfl) (fun a ha Y hY Ha v w g e1 e2 => ?ts) (fun a ha hp Y hY Ha v w g e1 e2 => ?el) (fun _ _ => rfl) (by rw [List.length_zipIdx]; omega)).is ?fin) scFreePlaces.nd)) (Same.refl _) fun v H2 s2 dv => q v H2 _ s2 dv rfl
  case el =>
    obtain ⟨_, _, _, _, _, rfl⟩ := hY
    exact de_var 1 e1
  case ts =>
    obtain ⟨_, _, _, _, _, rfl⟩ := hY
    exact (dt_isN (de_var 2 e2)).is (isNone_oI _)
  case fin => exact zipIdx_fm none wish (fun o i => o.isNone) fun o i => nI i
def preOpen (ds : List PyData) (R : PyData → Prop) : Prop := ∃ needs old wish, ds = [tTk needs old wish] ∧ old.length ≤ 1000 ∧ R = (· = tN (frees old))
theorem ok_open_places (F : Fun K "open_places" "open_places" sOpenPlaces f fd) (B : Blt mg) : FnOk P w K mg base CX0 1 f fd ["task"] (spD preOpen) := by
  refine ok_data F scOpenPlaces (fun ds R h => by obtain ⟨_, _, _, rfl, _⟩ := h; rfl) fun cdv A outer s H vs Q E ds R hr hd hp q => ?_
  obtain ⟨needs, old, wish, rfl, hl2, rfl⟩ := hp
  obtain ⟨v0, rfl, d0⟩ := hd.a1
  refine ws_retD (G := H) (de_tupL B (de_lc ((dl_2i (fun (q : Option Nat × Nat) => nI q.2) (fun q => q.1.isNone) [("place", 1), ("item", 2)] (src_E (j := 1) (k := 2) B oI (de_ixT (de_var 0 d0) de_int rfl)) (blkOk_by (N := nOpenPlaces) (sc := defScope sOpenPlaces) (by decide +kernel))
    (fun Y hY => by obtain ⟨_, _, _, _, _, rfl⟩ := hY; exact pg_tup rfl (pgs_cons (pg_name (i := 1) scOpenPlaces.nd rfl (by first | exact .inl rfl | exact .inr rfl)) (pgs_cons (pg_name (i := 2) scOpenPlaces.nd rfl (by first | exact .inl rfl | exact .inr rfl)) (pgs_nil))) rfl rfl) (fun a ha Y hY Ha v w g e1 e2 => ?ts) (fun a ha hp Y hY Ha v w g e1 e2 => ?el) (fun _ _ => rfl) (by rw [List.length_zipIdx]; omega)).is ?fin) scOpenPlaces.nd)) (Same.refl _) fun v H2 s2 dv => q v H2 _ s2 dv rfl
  case el =>
    obtain ⟨_, _, _, _, _, rfl⟩ := hY
    exact de_var 1 e1
  case ts =>
    obtain ⟨_, _, _, _, _, rfl⟩ := hY
    exact (dt_isN (de_var 2 e2)).is (isNone_oI _)
  case fin => exact zipIdx_fm none old (fun o i => o.isNone) fun o i => nI i
abbrev cpD (c : Cp) : PyData := .tuple [nI c.1, nI c.2]
abbrev stD (st : List Cp) : PyData := .tuple (st.map cpD)
abbrev plD (pl : List (List Cp)) : PyData := .tuple (pl.map stD)
def preCan (ds : List PyData) (R : PyData → Prop) : Prop := ∃ (lay : Lay) (st : List Cp), ds = [tO lay, stD st] ∧ (∀ c ∈ st, c.2 < lay.length) ∧ st.length ≤ 1000 ∧ R = (· = .bool (canDo lay st))
theorem ok_can_be_done (F : Fun K "can_be_done" "can_be_done" sCanBeDone f fd) (B : Blt mg) : FnOk P w K mg base CX0 1 f fd ["layout", "stretch"] (spD preCan) := by
  refine ok_data F scCanBeDone (fun ds R h => by obtain ⟨_, _, rfl, _⟩ := h; rfl) fun cdv A outer s H vs Q E ds R hr hd hp q => ?_
  obtain ⟨lay, st, rfl, hc, hl, rfl⟩ := hp
  obtain ⟨v0, v1, rfl, d0, d1⟩ := hd.a2
  refine ws_retD (G := H) ((de_all (bs := st.map fun c => (gt lay c.2).isSome) B (de_lc ((dl_2 (fun (c : Cp) => .bool (gt lay c.2).isSome) [("place", 2), ("source", 3)] (src_T2 (j := 2) (k := 3) (fun c : Cp => nI c.1) (fun c => nI c.2) (de_var 1 d1)) (blkOk_by (N := nCanBeDone) (sc := defScope sCanBeDone) (by decide +kernel))
    (fun Y hY => by obtain ⟨_, _, _, _, _, rfl⟩ := hY; exact pg_tup rfl (pgs_cons (pg_name (i := 2) scCanBeDone.nd rfl (by first | exact .inl rfl | exact .inr rfl)) (pgs_cons (pg_name (i := 3) scCanBeDone.nd rfl (by first | exact .inl rfl | exact .inr rfl)) (pgs_nil))) rfl rfl) (fun a ha Y hY Ha v w g e1 e2 => ?el) (fun _ _ => rfl) (by omega)).is ?fin) scCanBeDone.nd)).is ?res) (Same.refl _) fun v H2 s2 dv => q v H2 _ s2 dv rfl
  case el =>
    obtain ⟨_, _, _, _, _, rfl⟩ := hY
    exact (de_notN (de_ixT (de_var 0 (d0.mono g)) (de_var 3 e2) (at_map (gt_at (hc _ ha))))).is (by rw [isNone_oI]; cases gt lay a.2 <;> rfl)
  case fin => rw [List.map_map]; rfl
  case res =>
    unfold canDo
    rw [List.all_map]
    rfl
end
end DL

namespace DL
open PySem PySem.Spec PyProof.Rows L2
section
variable {P : Program} {w : World} {K : PySem.W.Frag} {mg : Str → Option Value} {base : Heap} {f : Addr} {fd : FuncData}
def oV (o : Option Nat) : V := toV (oI o)
theorem toV_oI (xs : Lay) : (xs.map oI).map toV = xs.map oV := by rw [List.map_map]; rfl
theorem Dq.lay {H : Hp} {v : V} {xs : Lay} (h : Dq H v (tO xs)) : ∃ a, v = .ref a ∧ TupAt H a (xs.map oV) := by
  obtain ⟨a, e, t⟩ := h.tupFlat (flatO xs)
  exact ⟨a, e, by rw [toV_oI] at t; exact t⟩
theorem Dq.of_lay {H : Hp} {a : Addr} {xs : Lay} (h : TupAt H a (xs.map oV)) : Dq H (.ref a) (tO xs) := by
  rw [← toV_oI] at h
  exact .tup h (DqAll.of_flat (flatO xs))
theorem Dq.of_layL {H : Hp} {a : Addr} {xs : Lay} (h : H a = some (.lst (xs.map oV))) : Dq H (.ref a) (lO xs) := by
  rw [← toV_oI] at h
  exact .lst h (DqAll.of_flat (flatO xs))
theorem Dq.of_oV {H : Hp} (o : Option Nat) : Dq H (oV o) (oI o) := Dq.of_flat (oI_flat o)
theorem Dq.oV_inv {H : Hp} {v : V} {o : Option Nat} (h : Dq H v (oI o)) : v = oV o := (h.flat (oI_flat o)).1
def preLed (ds : List PyData) (R : PyData → Prop) : Prop := ∃ (lay : Lay) (st : List Cp), ds = [tO lay, stD st] ∧ (∀ c ∈ st, c.1 < lay.length ∧ c.2 < lay.length) ∧ lay.length ≤ 1000 ∧ R = (· = tO (ledM lay st))
theorem led_take {st : List Cp} {i : Nat} {c : Cp} (h : st[i]? = some c) (lay f : Lay) : (st.take (i + 1)).foldl (fun f c => f.set c.1 (gt lay c.2)) f = ((st.take i).foldl (fun f c => f.set c.1 (gt lay c.2)) f).set c.1 (gt lay c.2) := by
  rw [List.take_add_one, h, List.foldl_append]
  rfl
theorem ok_led (F : Fun K "led" "led" sLed f fd) (B : Blt mg) : FnOk P w K mg base CX0 1 f fd ["layout", "stretch"] (spD preLed) := by
  refine ok_data F scLed (fun ds R h => by obtain ⟨_, _, rfl, _⟩ := h; rfl) fun cdv A outer s H vs Q E ds R hr hd hp q => ?_
  obtain ⟨lay, st, rfl, hc, hl, rfl⟩ := hp
  obtain ⟨v0, v1, rfl, d0, d1⟩ := hd.a2
  obtain ⟨a0, rfl, t0⟩ := d0.lay
  refine ws_set 2 scLed.nd (we_list B (we_var 0 rfl ⟨a0, _, rfl, .inr t0, fun l nl => ?_⟩))
  cases d1 with
  | tup t1 e1 =>
    rename_i a1 ys
    have s0 : Same H (upd H l (.lst (lay.map oV))) := same_new nl
    refine ws_forT PassesOwn.never (pg_tup rfl (pgs_cons (pg_name (i := 3) scLed.nd rfl (by first | exact .inl rfl | exact .inr rfl)) (pgs_cons (pg_name (i := 4) scLed.nd rfl (by first | exact .inl rfl | exact .inr rfl)) (pgs_nil))) rfl rfl) (we_var 1 rfl ⟨a1, ys, H, fun i σ H1 => (∃ y3 y4, σ = [some (.ref a0), some (.ref a1), some (.ref l), y3, y4]) ∧ Same H H1 ∧ H1 l = some (.lst (((st.take i).foldl (fun f c => f.set c.1 (gt lay c.2)) lay).map oV)),
      rfl, t1, s0, ⟨⟨none, none, rfl⟩, s0, upd_same⟩, fun i σ H1 p => p.2.1, fun i x σ H1 hx p => ?_, fun σ H1 p => ?_⟩)
    · obtain ⟨⟨y3, y4, rfl⟩, s1, hlst⟩ := p
      have hi : i < st.length := by
        have := (List.getElem?_eq_some_iff.mp hx).1
        rw [e1.length, List.length_map] at this
        exact this
      have hst : st[i]? = some st[i] := List.getElem?_eq_getElem hi
      have dx : Dq H x (cpD st[i]) := e1.at hst hx
      obtain ⟨h1, h2⟩ := hc _ (List.getElem_mem hi)
      cases dx with
      | tup k1 k2 =>
        obtain ⟨u, v, rfl, m1, m2⟩ := k2.a2
        refine ⟨_, _, rfl, (k1.mono s1).sq, rfl, _, _, rfl, _, _, rfl, rfl, ?_⟩
        have m1' := m1.mono s1
        have m2' := m2.mono s1
        cases m1
        refine ws_store (DE.go (G := H1) (de_ixT (de_var 0 (d0.mono s1)) (de_var 4 m2') (at_map (gt_at h2))) (Same.refl _) fun z H2 s2 dz => we_var 2 rfl (we_var 3 rfl ⟨l, _, st[i].1, rfl, rfl, s2 _ _ hlst, ?_, ws_nil ⟨⟨_, _, rfl⟩, ?_, ?_⟩⟩))
        · rw [List.length_map]
          have : ∀ (st : List Cp) (f : Lay), (st.foldl (fun f c => f.set c.1 (gt lay c.2)) f).length = f.length := fun st => by
            induction st with
            | nil => intro f; rfl
            | cons c r ih => intro f; rw [List.foldl_cons, ih, List.length_set]
          rw [this]
          exact h1
        · exact same_mut (s1.trans s2) nl
        · rw [upd_same, led_take hst, List.map_set, dz.oV_inv]
    · obtain ⟨⟨y3, y4, rfl⟩, s1, hlst⟩ := p
      rw [e1.length, List.length_map, List.take_length] at hlst
      exact ws_retD (G := H1) (de_tupL B (de_var 2 (Dq.of_layL hlst))) (Same.refl _) fun v H2 s2 dv => q v H2 _ (s1.trans s2) dv rfl
def preLedBy (ds : List PyData) (R : PyData → Prop) : Prop := ∃ (lay : Lay) (pl : List (List Cp)), ds = [tO lay, plD pl] ∧ canPlan lay pl ∧ (∀ st ∈ pl, st.length ≤ 1000) ∧ lay.length ≤ 1000 ∧ R = (· = tO (ledByM lay pl))
theorem canPlan_drop : ∀ {pl : List (List Cp)} {lay : Lay} {i : Nat} {st : List Cp}, canPlan lay pl → pl[i]? = some st →
    canDo (ledByM lay (pl.take i)) st = true ∧ (∀ c ∈ st, c.1 < lay.length ∧ c.2 < lay.length) ∧ ledByM lay (pl.take (i + 1)) = ledM (ledByM lay (pl.take i)) st ∧ (ledByM lay (pl.take i)).length = lay.length
  | [], _, _, _, _, h => by simp at h
  | s :: r, lay, 0, st, hp, h => by
    rw [List.getElem?_cons_zero] at h
    cases h
    exact ⟨hp.1, hp.2.1, rfl, rfl⟩
  | s :: r, lay, i + 1, st, hp, h => by
    rw [List.getElem?_cons_succ] at h
    obtain ⟨h1, h2, h3, h4⟩ := canPlan_drop hp.2.2 h
    rw [ledM_length] at h2 h4
    exact ⟨h1, h2, h3, h4⟩
theorem ok_led_by (F : Fun K "led_by" "led_by" sLedBy f fd) (B : Blt mg) (c1 : Cal P w K mg base 1 "can_be_done" (spD preCan)) (c2 : Cal P w K mg base 1 "led" (spD preLed)) : FnOk P w K mg base CX0 2 f fd ["layout", "plan"] (spD preLedBy) := by
  refine ok_data F scLedBy (fun ds R h => by obtain ⟨_, _, rfl, _⟩ := h; rfl) fun cdv A outer s H vs Q E ds R hr hd hp q => ?_
  obtain ⟨lay, pl, rfl, hc, hst, hl, rfl⟩ := hp
  obtain ⟨v0, v1, rfl, d0, d1⟩ := hd.a2
  cases d1 with
  | tup t1 e1 =>
    rename_i a1 ys
    refine ws_forE B PassesOwn.never (pg_tup rfl (pgs_cons (pg_name (i := 2) scLedBy.nd rfl (by first | exact .inl rfl | exact .inr rfl)) (pgs_cons (pg_name (i := 3) scLedBy.nd rfl (by first | exact .inl rfl | exact .inr rfl)) (pgs_nil))) rfl rfl) (we_var 1 rfl ⟨a1, ys, H, fun i σ H1 => (∃ y0 y2 y3, σ = [some y0, some (.ref a1), y2, y3] ∧ Dq H1 y0 (tO (ledByM lay (pl.take i)))) ∧ Same H H1,
      rfl, t1, Same.refl _, ⟨⟨v0, none, none, rfl, d0⟩, Same.refl _⟩, fun i σ H1 p => p.2, fun i x T σ H1 hx p nT => ?_, fun σ H1 p => ?_⟩)
    · obtain ⟨⟨y0, y2, y3, rfl, dy⟩, s1⟩ := p
      have hi : i < pl.length := by
        have := (List.getElem?_eq_some_iff.mp hx).1
        rw [e1.length, List.length_map] at this
        exact this
      have hpl : pl[i]? = some pl[i] := List.getElem?_eq_getElem hi
      have dx : Dq H x (stD pl[i]) := e1.at hpl hx
      obtain ⟨g1, g2, g3, g4⟩ := canPlan_drop hc hpl
      have sT : Same H1 (upd H1 T (.tup [.int (i : Nat), x])) := same_new nT
      refine ⟨_, _, rfl, SqT.of upd_same, rfl, _, _, rfl, _, _, rfl, rfl, ?_⟩
      generalize upd H1 T (.tup [.int (i : Nat), x]) = H2 at sT ⊢
      have dx2 := dx.mono (s1.trans sT)
      refine ws_ifD (G := H2) (dt_not (dt_val (de_call c1 hr (da_cons (de_var 0 (dy.mono sT)) (da_cons (de_var 3 dx2) da_nil)) ⟨_, _, rfl, fun c hc => by rw [g4]; exact (g2 c hc).2, hst _ (List.getElem_mem hi), rfl⟩))) (Same.refl _) (fun hb => ?_) fun _ H3 s3 => ?_
      · rw [g1] at hb
        cases hb
      refine ws_nil ?_
      refine ws_de 0 scLedBy.nd (de_call c2 hr (da_cons (de_var 0 (dy.mono (sT.trans s3))) (da_cons (de_var 3 (dx2.mono s3)) da_nil)) ⟨_, _, rfl, fun c hc => by rw [g4]; exact g2 c hc, by rw [g4]; exact hl, rfl⟩) (Same.refl H3) fun v H4 s4 dv => ?_
      refine ws_nil ⟨⟨v, _, _, rfl, ?_⟩, ((s1.trans sT).trans s3).trans s4⟩
      rw [g3]
      exact dv
    · obtain ⟨⟨y0, y2, y3, rfl, dy⟩, s1⟩ := p
      rw [e1.length, List.length_map, List.take_length] at dy
      exact ws_retD (G := H1) (de_var 0 dy) (Same.refl _) fun v H2 s2 dv => q v H2 _ (s1.trans s2) dv rfl
def preDoes (ds : List PyData) (R : PyData → Prop) : Prop := ∃ (needs : List Nat) (old wish : Lay) (pl : List (List Cp)), ds = [tTk needs old wish, plD pl] ∧ canPlan old pl ∧ (∀ st ∈ pl, st.length ≤ 1000) ∧ wish.length ≤ old.length ∧ old.length ≤ 1000 ∧ R = (· = .bool (wantedM wish (ledByM old pl)))
theorem ok_does (F : Fun K "does" "does" sDoes f fd) (B : Blt mg) (c1 : Cal P w K mg base 1 "can_be_done" (spD preCan)) (c2 : Cal P w K mg base 1 "led" (spD preLed)) : FnOk P w K mg base CX0 2 f fd ["task", "plan"] (spD preDoes) := by
  refine ok_data F scDoes (fun ds R h => by obtain ⟨_, _, _, _, rfl, _⟩ := h; rfl) fun cdv A outer s H vs Q E ds R hr hd hp q => ?_
  obtain ⟨needs, lay, wish, pl, rfl, hc, hst, hwl, hl, rfl⟩ := hp
  obtain ⟨v0, v1, rfl, d0, d1⟩ := hd.a2
  refine ws_de 2 scDoes.nd (de_ixT (G := H) (de_var 0 d0) de_int rfl) (Same.refl H) fun v2 H0 s0 k2 => ?_
  cases d1 with
  | tup t1 e1 =>
    rename_i a1 ys
    refine ws_forT PassesOwn.never (pg_name (i := 3) scDoes.nd rfl (by first | exact .inl rfl | exact .inr rfl)) (we_var 1 rfl ⟨a1, ys, H, fun i σ H1 => (∃ y2 y3, σ = [some v0, some (.ref a1), some y2, y3, none, none] ∧ Dq H1 y2 (tO (ledByM lay (pl.take i)))) ∧ Same H H1,
      rfl, t1, s0, ⟨⟨v2, none, rfl, k2⟩, s0⟩, fun i σ H1 p => p.2, fun i x σ H1 hx p => ?_, fun σ H1 p => ?_⟩)
    · obtain ⟨⟨y2, y3, rfl, dy⟩, s1⟩ := p
      have hi : i < pl.length := by
        have := (List.getElem?_eq_some_iff.mp hx).1
        rw [e1.length, List.length_map] at this
        exact this
      have hpl : pl[i]? = some pl[i] := List.getElem?_eq_getElem hi
      have dx : Dq H x (stD pl[i]) := e1.at hpl hx
      obtain ⟨g1, g2, g3, g4⟩ := canPlan_drop hc hpl
      have dx2 := dx.mono s1
      refine ws_ifD (G := H1) (dt_not (dt_val (de_call c1 hr (da_cons (de_var 2 dy) (da_cons (de_var 3 dx2) da_nil)) ⟨_, _, rfl, fun c hc => by rw [g4]; exact (g2 c hc).2, hst _ (List.getElem_mem hi), rfl⟩))) (Same.refl _) (fun hb => ?_) fun _ H3 s3 => ?_
      · rw [g1] at hb
        cases hb
      refine ws_nil ?_
      refine ws_de 2 scDoes.nd (de_call c2 hr (da_cons (de_var 2 (dy.mono s3)) (da_cons (de_var 3 (dx2.mono s3)) da_nil)) ⟨_, _, rfl, fun c hc => by rw [g4]; exact g2 c hc, by rw [g4]; exact hl, rfl⟩) (Same.refl H3) fun v H4 s4 dv => ?_
      refine ws_nil ⟨⟨v, _, rfl, ?_⟩, (s1.trans s3).trans s4⟩
      rw [g3]
      exact dv
    · obtain ⟨⟨y2, y3, rfl, dy⟩, s1⟩ := p
      rw [e1.length, List.length_map, List.take_length] at dy
      have hlen : (ledByM lay pl).length = lay.length := by
        have : ∀ (pl : List (List Cp)) (lay : Lay), (ledByM lay pl).length = lay.length := fun pl => by
          induction pl with
          | nil => intro _; rfl
          | cons s r ih => intro lay; show (ledByM (ledM lay s) r).length = _; rw [ih, ledM_length]
        exact this pl lay
      refine ws_retD (G := H1) ((de_all (bs := (List.range wish.length).map fun p => (gt wish p).isNone || decide (gt wish p = gt (ledByM lay pl) p)) B (de_lc ((dl_2 (fun (q : Option Nat × Nat) => .bool (q.1.isNone || decide (q.1 = gt (ledByM lay pl) q.2))) [("place", 4), ("item", 5)]
        (src_E (j := 4) (k := 5) B oI (de_ixT (de_var 0 (d0.mono s1)) de_int rfl)) (blkOk_by (N := nDoes) (sc := defScope sDoes) (by decide +kernel)) (fun Y hY => by obtain ⟨_, _, _, _, _, rfl⟩ := hY; exact pg_tup rfl (pgs_cons (pg_name (i := 4) scDoes.nd rfl (by first | exact .inl rfl | exact .inr rfl)) (pgs_cons (pg_name (i := 5) scDoes.nd rfl (by first | exact .inl rfl | exact .inr rfl)) (pgs_nil))) rfl rfl) (fun a ha Y hY Ha v w g e1 e2 => ?el) (fun _ _ => rfl) (by rw [List.length_zipIdx]; omega)).is ?fin) scDoes.nd)).is ?res) (Same.refl _) fun v H2 s2 dv => q v H2 _ (s1.trans s2) dv rfl
      case el =>
        obtain ⟨_, _, _, _, _, rfl⟩ := hY
        obtain ⟨h1, h2⟩ := zipIdx_mem ha
        refine (de_or (de_isN (de_var 5 e2)) fun _ => de_eq (de_var 5 e2) (de_ixT (de_var 2 (dy.mono g)) (de_var 4 e1) (at_map (gt_at (o := ledByM lay pl) (p := a.2) (by omega)))) (oI_flat _) (oI_flat _) (scD_o _ _)).is ?_
        rw [isNone_oI, decV_o]
      case fin =>
        rw [List.map_map]
        exact zipIdx_m none wish fun o i => PyData.bool (o.isNone || decide (o = gt (ledByM lay pl) i))
      case res =>
        unfold wantedM
        rw [List.all_map]
        rfl
end
end DL

namespace DL
open PySem PySem.Spec PyProof.Rows L2
section
variable {P : Program} {w : World} {K : PySem.W.Frag} {mg : Str → Option Value} {base : Heap} {f : Addr} {fd : FuncData}
abbrev arD (a : Arr) : PyData := .tuple [nI a.1, nI a.2.1, nI a.2.2]
def preArrowOf (ds : List PyData) (R : PyData → Prop) : Prop := ∃ (needs : List Nat) (old wish : Lay) (p t h : Nat), ds = [tTk needs old wish, nI p] ∧ p < old.length ∧ p < wish.length ∧ gt old p = some t ∧ gt wish p = some h ∧ R = (· = arD (t, h, p))
theorem ok_arrow_of (F : Fun K "arrow_of" "arrow_of" sArrowOf f fd) (B : Blt mg) : FnOk P w K mg base CX0 1 f fd ["task", "place"] (spD preArrowOf) := by
  refine ok_data F scArrowOf (fun ds R h => by obtain ⟨_, _, _, _, _, _, rfl, _⟩ := h; rfl) fun cdv A outer s H vs Q E ds R hr hd hp q => ?_
  obtain ⟨needs, old, wish, p, t, h, rfl, l1, l2, g1, g2, rfl⟩ := hp
  obtain ⟨v0, v1, rfl, d0, d1⟩ := hd.a2
  have e1 := gt_at l1
  have e2 := gt_at l2
  rw [g1] at e1
  rw [g2] at e2
  exact ws_retD (G := H) (de_tup (da_cons (de_ixT (de_ixT (de_var 0 d0) de_int rfl) (de_var 1 d1) (at_map e1)) (da_cons (de_ixT (de_ixT (de_var 0 d0) de_int rfl) (de_var 1 d1) (at_map e2)) (da_cons (de_var 1 d1) da_nil))) (by simp)) (Same.refl H) fun v H2 s2 dv => q v H2 _ s2 dv rfl
def preArrows (ds : List PyData) (R : PyData → Prop) : Prop := ∃ (needs : List Nat) (old wish : Lay), ds = [tTk needs old wish] ∧ Ev needs old wish ∧ R = (· = .list ((arrowsM old wish).map arD))
theorem arOf_eq {old wish : Lay} {p t h : Nat} (h1 : gt old p = some t) (h2 : gt wish p = some h) : arOf old wish p = (t, h, p) := by
  unfold arOf
  rw [h1, h2]
  rfl
theorem ok_arrows_of (F : Fun K "arrows_of" "arrows_of" sArrowsOf f fd) (B : Blt mg) (c1 : Cal P w K mg base 1 "wrong_places" (spD preWrong)) (c2 : Cal P w K mg base 1 "arrow_of" (spD preArrowOf)) : FnOk P w K mg base CX0 2 f fd ["task"] (spD preArrows) := by
  refine ok_data F scArrowsOf (fun ds R h => by obtain ⟨_, _, _, rfl, _⟩ := h; rfl) fun cdv A outer s H vs Q E ds R hr hd hp q => ?_
  obtain ⟨needs, old, wish, rfl, ev, rfl⟩ := hp
  obtain ⟨v0, rfl, d0⟩ := hd.a1
  have hl := ev.wl
  have hl2 := ev.len
  refine ws_retD (G := H) (de_lc ((dl_1 (fun p : Nat => arD (arOf old wish p)) [("place", 1)] (src_T (j := 1) nI (de_call c1 hr (da_cons (de_var 0 d0) da_nil) ⟨needs, old, wish, rfl, by omega, by omega, rfl⟩)) (blkOk_by (N := nArrowsOf) (sc := defScope sArrowsOf) (by decide +kernel)) (fun Y hY => by obtain ⟨_, _, _, _, _, rfl⟩ := hY; exact pg_name (i := 1) scArrowsOf.nd rfl (by first | exact .inl rfl | exact .inr rfl))
    (fun a ha Y hY Ha v g e1 => ?el) (fun _ => rfl) ?hl).is ?fin) scArrowsOf.nd) (Same.refl H) fun v H2 s2 dv => q v H2 _ s2 dv rfl
  case el =>
    obtain ⟨_, _, _, _, _, rfl⟩ := hY
    obtain ⟨h1, h2, t, h, h3, h4⟩ := ev.wrong ha
    rw [arOf_eq h3 h4]
    exact de_call c2 hr (da_cons (de_var 0 (d0.mono g)) (da_cons (de_var 1 e1) da_nil)) ⟨needs, old, wish, a, t, h, rfl, h1, h2, h3, h4, rfl⟩
  case hl =>
    have := arrows_length old wish
    unfold arrowsM at this
    rw [List.length_map] at this
    omega
  case fin =>
    unfold arrowsM
    rw [List.map_map]
    rfl
def preHang (ds : List PyData) (R : PyData → Prop) : Prop := ∃ a b : Arr, ds = [arD a, arD b] ∧ R = (· = .bool (hangM a b))
theorem ok_hang_together (F : Fun K "hang_together" "hang_together" sHangTogether f fd) (B : Blt mg) : FnOk P w K mg base CX0 1 f fd ["one", "other"] (spD preHang) := by
  refine ok_data F scHangTogether (fun ds R h => by obtain ⟨_, _, rfl, _⟩ := h; rfl) fun cdv A outer s H vs Q E ds R hr hd hp q => ?_
  obtain ⟨a, b, rfl, rfl⟩ := hp
  obtain ⟨v0, v1, rfl, d0, d1⟩ := hd.a2
  refine ws_retD (G := H) ((de_or (de_in (ds := [nI b.1, nI b.2.1]) (de_ixT (d := nI a.1) (de_var 0 d0) de_int rfl) (de_slT (de_var 1 d1) do_none (do_some de_int)) (.inr rfl) rfl rfl)
    fun _ => de_in (ds := [nI b.1, nI b.2.1]) (de_ixT (d := nI a.2.1) (de_var 0 d0) de_int rfl) (de_slT (de_var 1 d1) do_none (do_some de_int)) (.inr rfl) rfl rfl).is ?_) (Same.refl H) fun v H2 s2 dv => q v H2 _ s2 dv rfl
  unfold hangM
  have h1 := memD_N a.1 [b.1, b.2.1]
  have h2 := memD_N a.2.1 [b.1, b.2.1]
  rw [← h1, ← h2]
  rfl
/-! sorting numbers that count -/
theorem isort_nat (xs : List Nat) : isort (xs.map fun n : Nat => (n : Int)) = (nsort xs).map fun n : Nat => (n : Int) := by
  unfold isort nsort
  exact (PySem.W.sort_maps (fun n : Nat => (n : Int)) fun a _ b _ => by rw [Bool.eq_iff_iff]; simp).symm
theorem mapI (xs : List Nat) : xs.map nI = (xs.map fun n : Nat => (n : Int)).map .int := by rw [List.map_map]; rfl
theorem lt_cast : ∀ a b : List Nat, (a.map fun n : Nat => (n : Int)) < (b.map fun n : Nat => (n : Int)) ↔ a < b
  | [], [] => by simp
  | [], y :: b => by simp
  | x :: a, [] => by simp
  | x :: a, y :: b => by
    rw [List.map_cons, List.map_cons, List.cons_lt_cons_iff, List.cons_lt_cons_iff, lt_cast a b]
    have h1 : ((x : Int) < (y : Int)) ↔ x < y := by omega
    have h2 : ((x : Int) = (y : Int)) ↔ x = y := by omega
    rw [h1, h2]
theorem le_cast (a b : List Nat) : (a.map fun n : Nat => (n : Int)) ≤ (b.map fun n : Nat => (n : Int)) ↔ a ≤ b := by
  rw [← List.not_lt, ← List.not_lt, lt_cast]
theorem lsort_nat (xs : List (List Nat)) : lsort (xs.map fun x => x.map fun n : Nat => (n : Int)) = (llsort xs).map fun x => x.map fun n : Nat => (n : Int) := by
  unfold lsort llsort
  exact (PySem.W.sort_maps (fun x : List Nat => x.map fun n : Nat => (n : Int)) fun a _ b _ => by rw [Bool.eq_iff_iff, decide_eq_true_iff, decide_eq_true_iff]; exact (le_cast a b).symm).symm
theorem mapT (xs : List (List Nat)) : xs.map tN = (xs.map fun x => x.map fun n : Nat => (n : Int)).map fun x => .tuple (x.map .int) := by
  rw [List.map_map]
  exact List.map_congr_left fun x _ => by show PyData.tuple (x.map nI) = _; rw [mapI]; rfl
section
variable {X : Cx} {σ : L2.St} {G : Hp} {a : Expr} {pos p : Pos} {k : Nat}
theorem de_sortN (B : Blt X.mg) {ns : List Nat} (ha : DE X a σ G (lN ns)) (hl : ns.length < 64) (hg : Gl X "sorted" := by rfl) (he : starEach [a] X.env = (false, eval a X.env) :: starEach [] X.env := by rfl) : DE X (.Call (.Name "sorted" p) [a] [] pos) σ G (lN (nsort ns)) := by
  have e := de_sortI (pos := pos) (p := p) B (ns := ns.map fun n : Nat => (n : Int)) (ha.is (by rw [← mapI])) (by rw [List.length_map]; exact hl) hg he
  rw [isort_nat, ← mapI] at e
  exact e
theorem de_sortTN (B : Blt X.mg) (hr : Room k X.A) {xs : List (List Nat)} (ha : DE X a σ G (lT xs)) (hne : ∀ x ∈ xs, x ≠ []) (hg : Gl X "sorted" := by rfl) (he : starEach [a] X.env = (false, eval a X.env) :: starEach [] X.env := by rfl) :
    DE X (.Call (.Name "sorted" p) [a] [] pos) σ G (lT (llsort xs)) := by
  have e := de_sortT (pos := pos) (p := p) B hr (xs := xs.map fun x => x.map fun n : Nat => (n : Int)) (ha.is (by rw [← mapT])) (fun x hx => by
    obtain ⟨y, hy, rfl⟩ := List.mem_map.mp hx
    intro z
    exact hne y hy (List.map_eq_nil_iff.mp z)) hg he
  rw [lsort_nat, ← mapT] at e
  exact e
end
end
end DL

namespace DL
open PySem PySem.Spec PyProof.Rows L2
section
variable {P : Program} {w : World} {K : PySem.W.Frag} {mg : Str → Option Value} {base : Heap} {f : Addr} {fd : FuncData}
/-! equal data -/
def InjD {α : Type} [DecidableEq α] (enc : α → PyData) : Prop := ∀ a b, PyData.eqv (enc a) (enc b) = decide (a = b)
theorem inj_nI : InjD nI := fun a b => by
  show PyData.eqv (.int _) (.int _) = _
  simp only [PyData.eqv]
  rw [Bool.eq_iff_iff]; simp; try omega
theorem eqvAll_enc {α : Type} [DecidableEq α] {enc : α → PyData} (h : InjD enc) : ∀ xs ys : List α, PyData.eqvAll (xs.map enc) (ys.map enc) = decide (xs = ys)
  | [], [] => by simp [PyData.eqvAll]
  | [], y :: ys => by simp [PyData.eqvAll]
  | x :: xs, [] => by simp [PyData.eqvAll]
  | x :: xs, y :: ys => by
    rw [List.map_cons, List.map_cons, PyData.eqvAll, h, eqvAll_enc h xs ys, Bool.eq_iff_iff]
    simp
theorem inj_list {α : Type} [DecidableEq α] {enc : α → PyData} (h : InjD enc) : InjD fun xs : List α => PyData.list (xs.map enc) := fun a b => by
  simp only [PyData.eqv]
  exact eqvAll_enc h a b
theorem inj_tup {α : Type} [DecidableEq α] {enc : α → PyData} (h : InjD enc) : InjD fun xs : List α => PyData.tuple (xs.map enc) := fun a b => by
  simp only [PyData.eqv]
  exact eqvAll_enc h a b
theorem inj_oI : InjD oI := fun a b => by
  cases a <;> cases b
  · simp [oI, PyData.eqv]
  · simp [oI, PyData.eqv]
  · simp [oI, PyData.eqv]
  · rename_i a b
    show PyData.eqv (nI a) (nI b) = _
    rw [inj_nI, Bool.eq_iff_iff]; simp
theorem inj_tN : InjD tN := inj_tup inj_nI
theorem inj_tO : InjD tO := inj_tup inj_oI
theorem inj_lT : InjD lT := inj_list inj_tN
theorem inj_arD : InjD arD := fun a b => by
  obtain ⟨x, y, z⟩ := a
  obtain ⟨x', y', z'⟩ := b
  show PyData.eqv (.tuple [nI x, nI y, nI z]) (.tuple [nI x', nI y', nI z']) = _
  simp only [PyData.eqv, PyData.eqvAll]
  have h1 := inj_nI x x'
  have h2 := inj_nI y y'
  have h3 := inj_nI z z'
  simp only [PyData.eqv] at h1 h2 h3
  rw [h1, h2, h3, Bool.eq_iff_iff]
  simp
theorem InjD.any {α : Type} [DecidableEq α] {enc : α → PyData} (h : InjD enc) (xs : List α) (x : α) : ((xs.map enc).any fun z => PyData.eqv z (enc x)) = decide (x ∈ xs) := by
  rw [List.any_map, Bool.eq_iff_iff, List.any_eq_true, decide_eq_true_iff]
  constructor
  · rintro ⟨y, hy, e⟩
    have e' : decide (y = x) = true := (h y x).symm.trans e
    exact (of_decide_eq_true e') ▸ hy
  · intro hx
    exact ⟨x, hx, (h x x).trans (by simp)⟩
theorem okN {n k : Nat} (h : n < 1000) : okD k (nI n) := by
  have z : okD 0 (nI n) := by
    show decide ((n : Int).natAbs < 1000) = true
    rw [decide_eq_true_iff]; omega
  exact z.mono (Nat.zero_le k)
theorem okL {α : Type} {enc : α → PyData} {xs : List α} {k : Nat} (hl : xs.length ≤ 64) (h : ∀ x ∈ xs, okD k (enc x)) : okD (k + 1) (.list (xs.map enc)) := .inr ⟨_, .inl rfl, by rw [List.length_map]; exact hl, fun y hy => by
  obtain ⟨x, hx, rfl⟩ := List.mem_map.mp hy
  exact h x hx⟩
theorem okT {α : Type} {enc : α → PyData} {xs : List α} {k : Nat} (hl : xs.length ≤ 64) (h : ∀ x ∈ xs, okD k (enc x)) : okD (k + 1) (.tuple (xs.map enc)) := .inr ⟨_, .inr rfl, by rw [List.length_map]; exact hl, fun y hy => by
  obtain ⟨x, hx, rfl⟩ := List.mem_map.mp hy
  exact h x hx⟩
theorem okAr {a : Arr} {k : Nat} (h1 : a.1 < 1000) (h2 : a.2.1 < 1000) (h3 : a.2.2 < 1000) : okD (k + 1) (arD a) := .inr ⟨_, .inr rfl, by simp, fun y hy => by
  simp only [List.mem_cons, List.not_mem_nil, or_false] at hy
  rcases hy with rfl | rfl | rfl
  · exact okN h1
  · exact okN h2
  · exact okN h3⟩
/-! an item of a list, by its place -/
section
variable {X : Cx} {σ : L2.St} {H : Hp} {Q : VK} {a b : Expr} {pos p0 p1 : Pos} {kk : Nat}
theorem we_last (h : WE X a σ H fun x H1 => ∃ l ys v, x = .ref l ∧ H1 l = some (.lst (ys ++ [v])) ∧ Q v H1) : WE X (.Subscript a (.UnaryOp .USub (.Constant (.int 1) kk p0) p1) pos) σ H Q :=
  we_of (pe_ix ix_list pe_we (pe_un un_neg pe_int) (by intro _ _; rfl)) (h.imp fun x H1 ⟨l, ys, v, ex, hl, q⟩ => ⟨1, rfl, l, ys ++ [v], -1, v, ex, rfl, SqL.of hl, by
    unfold atI ixN
    have e : (ys ++ [v]).length = ys.length + 1 := by simp
    rw [e, if_neg (by omega), if_pos (by omega)]
    show (ys ++ [v])[_]? = some v
    have e2 : (-1 + ((ys.length + 1 : Nat) : Int)).toNat = ys.length := by omega
    rw [e2]
    simp, q⟩)
end
section
variable {X : Cx} {σ : L2.St} {G H : Hp} {e : Expr} {rest : List Stmt} {D' : Ends} {ds : List PyData}
theorem ws_setDL {y : Str} {py spos : Pos} (i : Nat) (hN : X.N.Nodup) (h : DL1 X e σ G ds) (g : Same G H) (q : ∀ D H2 vs, H D = none → Same H H2 → H2 D = some (.lst vs) → DqAll (off H2 D) vs ds → WS X rest D' (σ.set i (some (.ref D))) H2)
    (hsw : swapsWith e (some (.Name y py)) spos.line X.env = pure true := by rfl) (hy : X.N[i]? = some y := by rfl) (hyl : X.env.scope.names.lookup y = some .local := by rfl) (hc : X.calm = true := by rfl) : WS X (.Assign [.Name y py] e spos :: rest) D' σ H :=
  ws_setLc i hN hsw (h H _ g q) hy hyl hc
theorem ws_setDF {y : Str} {py spos : Pos} (i : Nat) (hN : X.N.Nodup) (h : DL1 X e σ G ds) (g : Same G H) (q : ∀ D H2 vs, H D = none → Same H H2 → H2 D = some (.lst vs) → DqAll (off H2 D) vs ds → WS X rest D' (σ.set i (some (.ref D))) H2)
    (hi : X.N[i]? = some y := by rfl) (hx : Loc X.env.scope y := by first | exact .inl rfl | exact .inr rfl) (hs : swapsWith e (some (.Name y py)) spos.line X.env = pure false := by rfl)
    (hf : X.fn y = true ∨ X.env.scope.names.lookup y = some .local := by first | exact .inl rfl | exact .inr rfl) (hc : X.calm = true := by rfl) : WS X (.Assign [.Name y py] e spos :: rest) D' σ H :=
  ws_set i hN (we_lc (h H _ g q) hN hc) hi hx hs hf
end
theorem arrow_small {needs : List Nat} {old wish : Lay} (ev : Ev needs old wish) {a : Arr} (h : a ∈ arrowsM old wish) : a.1 < 1000 ∧ a.2.1 < 1000 ∧ a.2.2 < 1000 := by
  unfold arrowsM at h
  obtain ⟨p, hp, rfl⟩ := List.mem_map.mp h
  obtain ⟨h1, h2, t, w, h3, h4⟩ := ev.wrong hp
  rw [arOf_eq h3 h4]
  have := ev.vo p t h3
  have := ev.vw p w h4
  have := ev.nl
  have := ev.wl
  exact ⟨by show t < 1000; omega, by show w < 1000; omega, by show p < 1000; omega⟩
abbrev gD (g : List Arr) : PyData := .list (g.map arD)
abbrev fD (f : List (List Arr)) : PyData := .list (f.map gD)
theorem inj_gD : InjD gD := inj_list inj_arD
def preParts (ds : List PyData) (R : PyData → Prop) : Prop := ∃ (needs : List Nat) (old wish : Lay), ds = [tTk needs old wish] ∧ Ev needs old wish ∧ R = (· = lT (partsM old wish))
theorem fold_mem {as : List Arr} {i : Nat} {g : List Arr} (h : g ∈ (as.take i).foldl stepM []) : g.length ≤ as.length ∧ ∀ a ∈ g, a ∈ as := by
  obtain ⟨h1, h2⟩ := groups_part (as := as.take i) h
  rw [List.length_take] at h1
  exact ⟨by omega, fun a ha => List.mem_of_mem_take (h2 a ha)⟩
theorem ok_parts_of (F : Fun K "parts_of" "parts_of" sPartsOf f fd) (B : Blt mg) (c1 : Cal P w K mg base 2 "arrows_of" (spD preArrows)) (c2 : Cal P w K mg base 1 "hang_together" (spD preHang)) : FnOk P w K mg base CX0 3 f fd ["task"] (spD preParts) := by
  refine ok_data F scPartsOf (fun ds R h => by obtain ⟨_, _, _, rfl, _⟩ := h; rfl) fun cdv A outer s H vs Q E ds R hr hd hp q => ?_
  obtain ⟨needs, old, wish, rfl, ev, rfl⟩ := hp
  obtain ⟨v0, rfl, d0⟩ := hd.a1
  have hal : (arrowsM old wish).length ≤ 60 := Nat.le_trans (arrows_length old wish) ev.wl
  refine ws_set 1 scPartsOf.nd (we_nil fun f0 n0 => ?_)
  have s0 : Same H (upd H f0 (.lst [])) := same_new n0
  have k0 : Dq (upd H f0 (.lst [])) (.ref f0) (fD []) := .lst upd_same .nil
  generalize upd H f0 (.lst []) = H1 at s0 k0 ⊢
  refine ws_forL PassesOwn.never (pg_name (i := 2) scPartsOf.nd rfl (by first | exact .inl rfl | exact .inr rfl)) (DE.go (G := H) (de_call c1 hr (da_cons (de_var 0 d0) da_nil) ⟨needs, old, wish, rfl, ev, rfl⟩) s0 fun v H2 s2 dv => ?_)
  cases dv with
  | lst h1 h2 =>
    rename_i a ys
    refine ⟨a, ys, H2, fun i σ H3 => (∃ y1 y2 y3 y4, σ = [some v0, some y1, y2, y3, y4, none, none, none, none] ∧ Dq H3 y1 (fD (((arrowsM old wish).take i).foldl stepM []))) ∧ Same H2 H3, rfl, h1, Same.refl _, ⟨⟨_, _, _, _, rfl, k0.mono s2⟩, Same.refl _⟩, fun i σ H3 p => p.2, fun i x σ H3 hx p => ?_, fun σ H3 p => ?_⟩
    · obtain ⟨⟨y1, y2, y3, y4, rfl, dy⟩, s3⟩ := p
      have hi : i < (arrowsM old wish).length := by
        have := (List.getElem?_eq_some_iff.mp hx).1
        rw [h2.length, List.length_map] at this
        exact this
      have ha := List.getElem?_eq_getElem hi
      have dx : Dq H2 x (arD (arrowsM old wish)[i]) := h2.at ha hx
      have hfl : (((arrowsM old wish).take i).foldl stepM []).length ≤ 60 := by
        have := groups_length ((arrowsM old wish).take i)
        rw [List.length_take] at this
        exact Nat.le_trans this (by omega)
      have hmem := fun g => fold_mem (as := arrowsM old wish) (i := i) (g := g)
      have hnext : ((arrowsM old wish).take (i + 1)).foldl stepM [] = stepM (((arrowsM old wish).take i).foldl stepM []) (arrowsM old wish)[i] := by
        rw [List.take_add_one, ha, List.foldl_append]
        rfl
      have har : (arrowsM old wish)[i] ∈ arrowsM old wish := List.getElem_mem hi
      generalize (arrowsM old wish)[i] = ar at dx hnext har
      generalize ((arrowsM old wish).take i).foldl stepM [] = fo at dy hfl hmem hnext
      have dx3 := dx.mono s3
      refine ws_de 3 scPartsOf.nd (G := H3) (de_lc (dl_1i gD (fun g => g.any (hangM ar)) [("part", 4)] (src_L (j := 4) gD (de_var 1 dy)) (blkOk_by (N := nPartsOf) (sc := defScope sPartsOf) (by decide +kernel)) (fun Y hY => by obtain ⟨_, _, _, _, _, rfl⟩ := hY; exact pg_name (i := 4) scPartsOf.nd rfl (by first | exact .inl rfl | exact .inr rfl))
        (fun a ha Y hY Ha v g e1 => ?ts) (fun a ha hp Y hY Ha v g e1 => ?el) (fun _ => rfl) (by omega)) scPartsOf.nd) (Same.refl _) fun v4 H4 s4 d4 => ?_
      case el =>
        obtain ⟨_, _, _, _, _, rfl⟩ := hY
        exact de_var 4 e1
      case ts =>
        obtain ⟨_, _, _, _, _, rfl⟩ := hY
        refine dt_val ((de_any (bs := a.map (hangM ar)) B (de_lc ((dl_1 (fun o : Arr => .bool (hangM ar o)) [("other", 5)] (src_L (j := 5) arD (de_var 4 e1)) (by show BlkOk nPartsOf (relS _ (defScope sPartsOf)) _ _; exact blkOk_by (by decide +kernel)) (fun Y hY => by obtain ⟨_, _, _, _, _, rfl⟩ := hY; exact pg_name (i := 5) scPartsOf.nd rfl (by first | exact .inl rfl | exact .inr rfl))
          (fun o ho Y hY Hb v2 g2 e2 => ?el2) (fun _ => rfl) ?hl).is ?fin) scPartsOf.nd)).is ?res)
        case el2 =>
          obtain ⟨_, _, _, _, _, rfl⟩ := hY
          exact de_call c2 (hr.mono (by decide)) (da_cons (de_var 2 (dx3.mono (g.trans g2))) (da_cons (de_var 5 e2) da_nil)) ⟨_, _, rfl, rfl⟩
        case hl => have := (hmem _ ha).1; omega
        case fin => rw [List.map_map]; rfl
        case res => rw [List.any_map]; rfl
      have hnl : (fo.filter fun g => g.any (hangM ar)).length ≤ 60 := Nat.le_trans (List.length_filter_le _ _) hfl
      refine ws_setDL 1 scPartsOf.nd (G := H4) (dl_1i gD (fun g => !g.any (hangM ar)) [("part", 4)] (src_L (j := 4) gD (de_var 1 (dy.mono s4))) (blkOk_by (N := nPartsOf) (sc := defScope sPartsOf) (by decide +kernel)) (fun Y hY => by obtain ⟨_, _, _, _, _, rfl⟩ := hY; exact pg_name (i := 4) scPartsOf.nd rfl (by first | exact .inl rfl | exact .inr rfl))
        (fun a ha Y hY Ha v g e1 => ?ts2) (fun a ha hp Y hY Ha v g e1 => ?el3) (fun _ => rfl) (by omega)) (Same.refl H4) fun D H5 vs nD s5 hD dvs => ?_
      case el3 =>
        obtain ⟨_, _, _, _, _, rfl⟩ := hY
        exact de_var 4 e1
      case ts2 =>
        obtain ⟨_, _, _, _, _, rfl⟩ := hY
        refine (dt_notInQ (k := 2) ?hrr (de_var 4 e1) (de_var 3 (d4.mono g)) ?o1 ?o2).is ?res2
        case hrr => exact hr
        case o1 => exact (okL (k := 1) (by have := (hmem _ ha).1; omega) fun o ho => by obtain ⟨z1, z2, z3⟩ := arrow_small ev ((hmem _ ha).2 o ho); exact okAr (k := 0) z1 z2 z3).mono (by decide)
        case o2 => exact (okL (k := 2) (by omega) fun g hg => okL (k := 1) (by have := (hmem _ (List.mem_filter.mp hg).1).1; omega) fun o ho => by obtain ⟨z1, z2, z3⟩ := arrow_small ev ((hmem _ (List.mem_filter.mp hg).1).2 o ho); exact okAr (k := 0) z1 z2 z3).mono (by decide)
        case res2 =>
          rw [inj_gD.any, Bool.eq_iff_iff]
          simp [List.mem_filter, ha]
      have g0 : Same (off H5 D) H5 := off_le
      have g1 : Same H4 (off H5 D) := same_off s5 nD
      have D0 : off H5 D D = none := off_same
      refine ws_expr (we_append (we_var 1 rfl ⟨D, vs, rfl, hD, we_lst (wa_one (we_var 2 rfl ⟨by simp, fun L nL => ⟨vs, ?_, ?_, ?_⟩⟩))⟩))
      · have : D ≠ L := fun z => by rw [z, nL] at hD; cases hD
        rw [upd_ne this]; exact hD
      · rw [dvs.length, List.length_map]
        have := List.length_filter_le (fun g => !g.any (hangM ar)) fo
        omega
      have hDL : D ≠ L := fun z => by rw [z, nL] at hD; cases hD
      have L0 : off H5 D L = none := by rw [off_ne (Ne.symm hDL)]; exact nL
      have g6 : Same (off H5 D) (upd (upd H5 L (.lst [x])) D (.lst (vs ++ [.ref L]))) := same_mut (same_mut g0 L0) D0
      have e6 : (upd (upd H5 L (.lst [x])) D (.lst (vs ++ [.ref L]))) D = some (.lst (vs ++ [.ref L])) := upd_same
      have e7 : (upd (upd H5 L (.lst [x])) D (.lst (vs ++ [.ref L]))) L = some (.lst [x]) := by rw [upd_ne (Ne.symm hDL)]; exact upd_same
      generalize upd (upd H5 L (.lst [x])) D (.lst (vs ++ [.ref L])) = H6 at g6 e6 e7 ⊢
      have dx0 := dx3.mono (s4.trans g1)
      have s0' := (s3.trans s4).trans g1
      generalize off H5 D = G0 at dvs g0 g1 D0 L0 g6 dx0 s0'
      have d40 := d4.mono g1
      cases d40 with
      | lst k1 k2 =>
        rename_i nr zs
        refine ws_forL PassesOwn.never (pg_name (i := 4) scPartsOf.nd rfl (by first | exact .inl rfl | exact .inr rfl)) (we_var 3 rfl ⟨nr, zs, G0, fun j σ H7 => (∃ y4 ws, σ = [some v0, some (.ref D), some x, some (.ref nr), y4, none, none, none, none] ∧ H7 D = some (.lst (vs ++ [.ref L])) ∧ H7 L = some (.lst ws) ∧
            DqAll G0 ws ((ar :: ((fo.filter fun g => g.any (hangM ar)).take j).flatten).map arD)) ∧ Same G0 H7, rfl, k1, g6, ⟨⟨y4, [x], rfl, e6, e7, .cons dx0 .nil⟩, g6⟩, fun j σ H7 p => p.2, fun j x4 σ H7 hx4 p => ?_, fun σ H7 p => ?_⟩)
        · obtain ⟨⟨y4, ws, rfl, f1, f2, f3⟩, s7⟩ := p
          have hj : j < (fo.filter fun g => g.any (hangM ar)).length := by
            have := (List.getElem?_eq_some_iff.mp hx4).1
            rw [k2.length, List.length_map] at this
            exact this
          have hgj := List.getElem?_eq_getElem hj
          have dg := k2.at hgj hx4
          have hgm : (fo.filter fun g => g.any (hangM ar))[j] ∈ fo := (List.mem_filter.mp (List.getElem_mem hj)).1
          have htk : ((fo.filter fun g => g.any (hangM ar)).take (j + 1)).flatten = ((fo.filter fun g => g.any (hangM ar)).take j).flatten ++ (fo.filter fun g => g.any (hangM ar))[j] := by
            rw [List.take_add_one, hgj, List.flatten_append]
            simp
          generalize (fo.filter fun g => g.any (hangM ar))[j] = gj at dg hgm htk
          have hwl : ws.length ≤ 5000 := by
            rw [f3.length, List.length_map, List.length_cons]
            have h8 : ∀ (f : List (List Arr)), (∀ g ∈ f, g.length ≤ 60) → f.flatten.length ≤ f.length * 60 := fun f => by
              induction f with
              | nil => intro _; simp
              | cons g r ih =>
                intro h
                rw [List.flatten_cons, List.length_append, List.length_cons]
                have := ih fun g hg => h g (List.mem_cons_of_mem _ hg)
                have := h g (List.mem_cons_self)
                omega
            have h9 := h8 ((fo.filter fun g => g.any (hangM ar)).take j) fun g hg => by
              have := (hmem _ (List.mem_filter.mp (List.mem_of_mem_take hg)).1).1
              omega
            rw [List.length_take] at h9
            have : min j (fo.filter fun g => g.any (hangM ar)).length ≤ 60 := by omega
            have h10 : min j (fo.filter fun g => g.any (hangM ar)).length * 60 ≤ 60 * 60 := Nat.mul_le_mul_right 60 this
            omega
          cases dg with
          | lst m1 m2 =>
            rename_i b us
            refine ws_expr (we_extend (we_last (we_var 1 rfl ⟨D, vs, .ref L, rfl, f1, L, ws, rfl, f2, we_var 4 rfl ⟨b, ws, us, rfl, f2, s7 _ _ m1, ?_, ws_nil ⟨⟨_, _, rfl, ?_, upd_same, ?_⟩, same_mut s7 L0⟩⟩⟩)))
            · rw [m2.length, List.length_map]
              have := (hmem _ hgm).1
              omega
            · rw [upd_ne hDL]; exact f1
            · rw [htk]
              have := f3.append m2
              rw [← List.map_append] at this
              exact this
        · obtain ⟨⟨y4, ws, rfl, f1, f2, f3⟩, s7⟩ := p
          rw [k2.length, List.length_map, List.take_length] at f3
          refine ws_nil ⟨⟨_, _, _, _, rfl, ?_⟩, s0'.trans s7⟩
          rw [hnext]
          unfold stepM fD
          rw [List.map_append]
          exact .lst f1 ((dvs.mono s7).append (DqAll.one (.lst f2 (f3.mono s7))))
    · obtain ⟨⟨y1, y2, y3, y4, rfl, dy⟩, s3⟩ := p
      rw [h2.length, List.length_map, List.take_length] at dy
      have hmem := fun g => groups_part (as := arrowsM old wish) (g := g)
      have hgl := groups_length (arrowsM old wish)
      refine ws_retD (G := H3) (de_sortTN B hr (xs := (groupsM (arrowsM old wish)).map fun g => nsort (g.map (·.2.2))) (de_lc ((dl_1 (fun g : List Arr => tN (nsort (g.map (·.2.2)))) [("part", 4)] (src_L (j := 4) gD (de_var 1 dy)) (blkOk_by (N := nPartsOf) (sc := defScope sPartsOf) (by decide +kernel)) (fun Y hY => by obtain ⟨_, _, _, _, _, rfl⟩ := hY; exact pg_name (i := 4) scPartsOf.nd rfl (by first | exact .inl rfl | exact .inr rfl))
        (fun a ha Y hY Ha v g e1 => ?el) (fun _ => rfl) (by unfold groupsM at hgl; omega)).is ?fin) scPartsOf.nd) ?ne) (Same.refl _) fun v H4 s4 dv => q v H4 _ ((s0.trans s2).trans (s3.trans s4)) dv rfl
      case ne =>
        intro z hz
        obtain ⟨g, hg, rfl⟩ := List.mem_map.mp hz
        intro e
        have := (nsort_perm (g.map (·.2.2))).length_eq
        rw [e, List.length_map] at this
        exact groups_ne _ g hg (List.eq_nil_of_length_eq_zero this.symm)
      case fin => unfold groupsM; rw [List.map_map]; rfl
      case el =>
        obtain ⟨_, _, _, _, _, rfl⟩ := hY
        refine de_tupL B (de_sortN B (de_lc ((dl_3 (fun o : Arr => nI o.2.2) [("tail", 6), ("head", 7), ("place", 8)] (src_L3 (j := 6) (k := 7) (l := 8) (fun o : Arr => nI o.1) (fun o => nI o.2.1) (fun o => nI o.2.2) (de_var 4 e1)) (by show BlkOk nPartsOf (relS _ (defScope sPartsOf)) _ _; exact blkOk_by (by decide +kernel)) (fun Y hY => by obtain ⟨_, _, _, _, _, rfl⟩ := hY; exact pg_tup rfl (pgs_cons (pg_name (i := 6) scPartsOf.nd rfl (by first | exact .inl rfl | exact .inr rfl)) (pgs_cons (pg_name (i := 7) scPartsOf.nd rfl (by first | exact .inl rfl | exact .inr rfl)) (pgs_cons (pg_name (i := 8) scPartsOf.nd rfl (by first | exact .inl rfl | exact .inr rfl)) (pgs_nil)))) rfl rfl)
          (fun o ho Y hY Hb v2 v3 v4 g2 e2 e3 e4 => ?el2) (fun _ _ _ => rfl) ?hl).is ?fin2) scPartsOf.nd) ?hl2)
        case el2 =>
          obtain ⟨_, _, _, _, _, rfl⟩ := hY
          exact de_var 8 e4
        case hl => have := (hmem _ ha).1; omega
        case hl2 => have := (hmem _ ha).1; rw [List.length_map]; omega
        case fin2 => rw [List.map_map]; rfl
end
end DL

namespace DL
open PySem PySem.Spec PyProof.Rows L2
section
variable {P : Program} {w : World} {K : PySem.W.Frag} {mg : Str → Option Value} {base : Heap} {f : Addr} {fd : FuncData}
section
variable {X : Cx} {σ : L2.St} {G H : Hp} {o i value : Expr} {rest : List Stmt} {D' : Ends} {Q : VK} {pos pos' : Pos}
theorem we_dnew (q : ∀ p, H p = none → Q (.ref p) (upd H p (.dK []))) : WE X (.Dict [] [] pos) σ H Q := we_of pe_dnewK q
theorem ws_dput (hu : X.A.units + 1 < cLine) (h : WE X value σ H fun v H1 => WE X o σ H1 fun x H2 => WE X i σ H2 fun y H3 => ∃ (a : Addr) (kvs : List (Key × V)) (k : Int), x = .ref a ∧ y = .int k ∧ H3 a = some (.dK kvs) ∧ kvs.length ≤ 100000 ∧ WS X rest D' σ (upd H3 a (.dK (putK kvs (.inl k) v))))
    (hs : swapsWith value (some (.Subscript o i pos')) pos.line X.env = pure false := by rfl) : WS X (.Assign [.Subscript o i pos'] value pos :: rest) D' σ H :=
  ws_step (ps_dput hu pe_we pe_we pe_we hs) (h.imp fun v H1 q => q.imp fun x H2 q => q.imp fun y H3 ⟨a, kvs, k, ex, ey, e, hl, q⟩ => ⟨a, _, ex, by rw [ey]; exact DPut.k (k := .inl k) e (Nat.lt_of_le_of_lt hl (by rw [sizeLine_eq]; omega)), q⟩)
theorem dt_din {j : Nat} {x : Str} {p : Pos} {a : Addr} {k : Int} {kvs : List (Key × V)} (hu : X.A.units + 1 < cLine) (hi : DE X i σ G (.int k)) (hs : σ[j]? = some (some (.ref a))) (hG : G a = some (.dK kvs)) (hN : X.N[j]? = some x := by rfl)
    (hv : ∀ H Q, Q (.ref a) H → WE X (.Name x p) σ H Q) : DT X (.Compare i [.In] [.Name x p] pos) σ G (valV kvs (.inl k)).isSome := fun H Q g q =>
  wt_of (pt_cmp (pc_din hu pe_we pe_we)) (hi H _ g fun y H1 s1 dy => by
    cases dy
    exact hv H1 _ ⟨a, _, rfl, DGet.k (k := .inl k) ((g.trans s1) _ _ hG), _, rfl, q H1 s1⟩)
end
theorem put_len (kvs : List (Key × V)) (k : Key) (v : V) : (putK kvs k v).length ≤ kvs.length + 1 := by
  unfold putK
  split
  · rw [List.length_map]; omega
  · rw [List.length_append, List.length_singleton]; omega
def preValues (ds : List PyData) (R : PyData → Prop) : Prop := ∃ (needs : List Nat) (old wish : Lay) (part : List Nat), ds = [tTk needs old wish, tN part] ∧ Ev needs old wish ∧ part.length ≤ 60 ∧ (∀ p ∈ part, p ∈ wrongs old wish) ∧ R = (· = tN (valuesM needs.length old wish part))
theorem ok_values_in (F : Fun K "values_in" "values_in" sValuesIn f fd) (B : Blt mg) (c1 : Cal P w K mg base 1 "arrow_of" (spD preArrowOf)) : FnOk P w K mg base CX0 2 f fd ["task", "part"] (spD preValues) := by
  refine ok_data F scValuesIn (fun ds R h => by obtain ⟨_, _, _, _, rfl, _⟩ := h; rfl) fun cdv A outer s H vs Q E ds R hr hd hp q => ?_
  obtain ⟨needs, old, wish, part, rfl, ev, hl, hpw, rfl⟩ := hp
  obtain ⟨v0, v1, rfl, d0, d1⟩ := hd.a2
  have hu : (XOf P w K mg base nValuesIn "values_in" sValuesIn f cdv A outer s H E).A.units + 1 < cLine := by have := hr.units; omega
  refine ws_set 2 scValuesIn.nd (we_dnew fun F0 n0 => ?_)
  have s0 : Same H (upd H F0 (.dK [])) := same_new n0
  have e0 : (upd H F0 (.dK [])) F0 = some (.dK []) := upd_same
  generalize upd H F0 (.dK []) = H1 at s0 e0 ⊢
  have d1' := d1
  cases d1' with
  | tup t1 e1 =>
    rename_i a1 ys
    refine ws_forT PassesOwn.never (pg_name (i := 3) scValuesIn.nd rfl (by first | exact .inl rfl | exact .inr rfl)) (we_var 1 rfl ⟨a1, ys, H, fun i σ H3 => (∃ y3 y4 kvs, σ = [some v0, some (.ref a1), some (.ref F0), y3, y4] ∧ H3 F0 = some (.dK kvs) ∧ kvs.length ≤ 2 * i ∧
        ∀ k : Int, (valV kvs (.inl k)).isSome = true ↔ ∃ p ∈ part.take i, ∃ v : Nat, (gt old p = some v ∨ gt wish p = some v) ∧ k = v) ∧ Same H H3, rfl, t1, s0, ⟨⟨_, _, [], rfl, e0, Nat.zero_le _, fun k => ?_⟩, s0⟩, fun i σ H3 p => p.2, fun i x σ H3 hx p => ?_, fun σ H3 p => ?_⟩)
    · rw [valV_nil]; simp
    · obtain ⟨⟨y3, y4, kvs, rfl, f1, f2, f3⟩, s3⟩ := p
      have hi : i < part.length := by
        have := (List.getElem?_eq_some_iff.mp hx).1
        rw [e1.length, List.length_map] at this
        exact this
      have hpi : part[i]? = some part[i] := List.getElem?_eq_getElem hi
      have dx : Dq H x (nI part[i]) := e1.at hpi hx
      obtain ⟨w1, w2, t, h, w3, w4⟩ := ev.wrong (hpw _ (List.getElem_mem hi))
      have htk : part.take (i + 1) = part.take i ++ [part[i]] := by rw [List.take_add_one, hpi]; rfl
      generalize part[i] = pl at dx w1 w2 w3 w4 htk
      refine ws_forT PassesOwn.never (pg_name (i := 4) scValuesIn.nd rfl (by first | exact .inl rfl | exact .inr rfl)) (DE.go (G := H) (d := .tuple [nI t, nI h]) ((de_slT (de_call c1 hr (da_cons (de_var 0 d0) (da_cons (de_var 3 dx) da_nil)) ⟨needs, old, wish, pl, t, h, rfl, w1, w2, w3, w4, rfl⟩) do_none (do_some de_int)).is rfl) s3 fun v H4 s4 dv => ?_)
      cases dv with
      | tup t2 e2 =>
        rename_i b zs
        have n4 : b ≠ F0 := fun z => by
          obtain ⟨o, _, e⟩ := t2
          rw [z, s4 _ _ f1] at e
          cases e
        have t3 : TupAt (off H4 F0) b zs := by
          obtain ⟨o, oz, e⟩ := t2
          exact ⟨o, oz, by rw [off_ne n4]; exact e⟩
        have g4 : Same H (off H4 F0) := same_off (s3.trans s4) n0
        have F4 : off H4 F0 F0 = none := off_same
        have ez : zs = [.int t, .int h] := by
          have := e2.ints_inv (ns := [(t : Int), (h : Int)])
          exact this
        refine ⟨b, zs, off H4 F0, fun j σ H5 => (∃ y4 kvs', σ = [some v0, some (.ref a1), some (.ref F0), some x, y4] ∧ H5 F0 = some (.dK kvs') ∧ kvs'.length ≤ 2 * i + j ∧
          ∀ k : Int, (valV kvs' (.inl k)).isSome = true ↔ ((valV kvs (.inl k)).isSome = true ∨ V.int k ∈ zs.take j)) ∧ Same (off H4 F0) H5, rfl, t3, off_le, ⟨⟨_, kvs, rfl, s4 _ _ f1, f2, fun k => by simp⟩, off_le⟩, fun j σ H5 p => p.2, fun j x4 σ H5 hx4 p => ?_, fun σ H5 p => ?_⟩
        · obtain ⟨⟨y4, kvs', rfl, m1, m2, m3⟩, s5⟩ := p
          have hj : j < 2 := by
            have := (List.getElem?_eq_some_iff.mp hx4).1
            rw [ez] at this
            exact this
          have hv4 : ∃ n : Nat, x4 = .int n := by
            rw [ez] at hx4
            match j, hj, hx4 with
            | 0, _, hx4 => exact ⟨t, (Option.some.inj hx4).symm⟩
            | 1, _, hx4 => exact ⟨h, (Option.some.inj hx4).symm⟩
          obtain ⟨n, rfl⟩ := hv4
          refine ws_dput hu (de_bl _ _ (Same.refl _) fun v H6 s6 dv => ?_)
          cases dv
          refine we_var 2 rfl (we_var 4 rfl ⟨F0, kvs', n, rfl, rfl, s6 _ _ m1, by omega, ws_nil ⟨⟨_, _, rfl, upd_same, ?_, fun k => ?_⟩, same_mut (s5.trans s6) F4⟩⟩)
          · have := put_len kvs' (.inl (n : Int)) (.bl true)
            omega
          · rw [valV_put, List.take_add_one, hx4]
            by_cases hk : k = n
            · subst hk
              rw [if_pos rfl]
              simp
            · rw [if_neg (fun z => hk (Sum.inl.inj z)), m3 k]
              simp [hk]
        · obtain ⟨⟨y4, kvs', rfl, m1, m2, m3⟩, s5⟩ := p
          have hz2 : zs.length = 2 := by rw [ez]; rfl
          rw [List.take_length] at m3
          refine ws_nil ⟨⟨_, _, kvs', rfl, m1, by omega, fun k => ?_⟩, g4.trans s5⟩
          rw [m3, f3, ez, htk]
          constructor
          · rintro (⟨p, hp, v, hv, rfl⟩ | hm)
            · exact ⟨p, List.mem_append_left _ hp, v, hv, rfl⟩
            · simp only [List.mem_cons, V.int.injEq, List.not_mem_nil, or_false] at hm
              rcases hm with rfl | rfl
              · exact ⟨pl, by simp, t, .inl w3, rfl⟩
              · exact ⟨pl, by simp, h, .inr w4, rfl⟩
          · rintro ⟨p, hp, v, hv, rfl⟩
            rcases List.mem_append.mp hp with hp | hp
            · exact .inl ⟨p, hp, v, hv, rfl⟩
            · rw [List.mem_singleton.mp hp, w3, w4] at hv
              rcases hv with e | e <;> cases e <;> simp
    · obtain ⟨⟨y3, y4, kvs, rfl, f1, f2, f3⟩, s3⟩ := p
      rw [e1.length, List.length_map, List.take_length] at f3
      have hnl := ev.nl
      refine ws_retD (G := H3) (de_tupL B (de_lc ((dl_1i nI (fun v : Nat => (valV kvs (.inl (v : Int))).isSome) [("value", 4)] (src_R (j := 4) (n := needs.length) B ((de_len B (de_ixT (d := tN needs) (de_var 0 (d0.mono s3)) de_int rfl) (.inr rfl)).is (by rw [List.length_map])) (by omega)) (blkOk_by (N := nValuesIn) (sc := defScope sValuesIn) (by decide +kernel)) (fun Y hY => by obtain ⟨_, _, _, _, _, rfl⟩ := hY; exact pg_name (i := 4) scValuesIn.nd rfl (by first | exact .inl rfl | exact .inr rfl))
        (fun a ha Y hY Ha v g e1 => ?ts) (fun a ha hp Y hY Ha v g e1 => ?el) (fun _ => rfl) (by rw [List.length_range]; omega)).is ?fin) scValuesIn.nd)) (Same.refl _) fun v H4 s4 dv => q v H4 _ (s3.trans s4) dv rfl
      case el =>
        obtain ⟨_, _, _, _, _, rfl⟩ := hY
        exact de_var 4 e1
      case ts =>
        obtain ⟨_, _, _, _, _, rfl⟩ := hY
        exact dt_din (j := 2) hu (de_var 4 e1) rfl (g _ _ f1) rfl (fun H Q q => we_var 2 rfl q)
      case fin =>
        unfold valuesM
        refine congrArg (List.map nI) (List.filter_congr fun v _ => ?_)
        rw [Bool.eq_iff_iff, f3, List.any_eq_true]
        constructor
        · rintro ⟨p, hp, v', hv, e⟩
          have : v = v' := by omega
          subst this
          exact ⟨p, hp, by simpa using hv⟩
        · rintro ⟨p, hp, h⟩
          exact ⟨p, hp, v, by simpa using h, rfl⟩
/-! ### even tasks -/
abbrev roomsL (needs : List Nat) (lay : Lay) : List Int := needs.zipIdx.map fun q => ((lay.count (some q.2) : Nat) - (q.1 : Nat) : Int)
theorem rooms_zero {needs : List Nat} {lay : Lay} (h : ∀ v, v < needs.length → lay.count (some v) = needs.getD v 0) : roomsL needs lay = List.replicate needs.length 0 := by
  refine List.eq_replicate_iff.mpr ⟨by simp, fun b hb => ?_⟩
  obtain ⟨q, hq, rfl⟩ := List.mem_map.mp hb
  obtain ⟨h1, h2⟩ := zipIdx_mem hq
  have h3 := h q.2 h2
  rw [List.getD_eq_getElem?_getD, h1] at h3
  rw [h3]
  show ((q.1 : Nat) - (q.1 : Nat) : Int) = 0
  omega
theorem rooms_data (needs : List Nat) (lay : Lay) : (PyData.tuple (needs.zipIdx.map fun q => .int ((lay.count (some q.2) : Nat) - (q.1 : Nat) : Int))) = .tuple ((roomsL needs lay).map .int) := by
  unfold roomsL
  rw [List.map_map]
  rfl
theorem frees_eq {needs : List Nat} {old wish : Lay} (ev : Ev needs old wish) : frees wish = frees old := by
  unfold frees
  rw [ev.len]
  exact List.filter_congr fun p hp => (ev.fr p (List.mem_range.mp hp)).symm
def preClosed (ds : List PyData) (R : PyData → Prop) : Prop := ∃ (needs : List Nat) (old wish : Lay) (part : List Nat), ds = [tTk needs old wish, tN part] ∧ Ev needs old wish ∧ part.length ≤ 60 ∧ (∀ p ∈ part, p ∈ wrongs old wish) ∧ R = (· = .bool true)
theorem ok_is_closed (F : Fun K "is_closed" "is_closed" sIsClosed f fd) (B : Blt mg) (c1 : Cal P w K mg base 1 "rooms" (spD preRooms)) (c2 : Cal P w K mg base 2 "values_in" (spD preValues)) : FnOk P w K mg base CX0 3 f fd ["task", "part"] (spD preClosed) := by
  refine ok_data F scIsClosed (fun ds R h => by obtain ⟨_, _, _, _, rfl, _⟩ := h; rfl) fun cdv A outer s H vs Q E ds R hr hd hp q => ?_
  obtain ⟨needs, old, wish, part, rfl, ev, hl, hpw, rfl⟩ := hp
  obtain ⟨v0, v1, rfl, d0, d1⟩ := hd.a2
  have hnl := ev.nl
  refine ws_de 2 scIsClosed.nd (G := H) (d := .tuple ((List.replicate needs.length (0 : Int)).map .int)) ((de_call c1 (hr.mono (by decide)) (da_cons (de_ixT (d := tN needs) (de_var 0 d0) de_int rfl) (da_cons (de_ixT (d := tO old) (de_var 0 d0) de_int rfl) da_nil)) ⟨needs, old, rfl, by omega, rfl⟩).is ((rooms_data needs old).trans (by rw [rooms_zero ev.ro]))) (Same.refl H) fun v2 H1 s1 d2 => ?_
  refine ws_ifD (G := H1) (b := false) ((dt_val (de_any (bs := part.map fun _ => false) B (de_lc ((dl_1 (fun p : Nat => .bool false) [("place", 3)] (src_T (j := 3) nI (de_var 1 (d1.mono s1))) (blkOk_by (N := nIsClosed) (sc := defScope sIsClosed) (by decide +kernel)) (fun Y hY => by obtain ⟨_, _, _, _, _, rfl⟩ := hY; exact pg_name (i := 3) scIsClosed.nd rfl (by first | exact .inl rfl | exact .inr rfl))
    (fun a ha Y hY Ha v g e1 => ?el) (fun _ => rfl) (by omega)).is ?fin) scIsClosed.nd))).is ?res) (Same.refl _) (fun hb => nomatch hb) fun _ H2 s2 => ws_nil ?_
  case el =>
    obtain ⟨_, _, _, _, _, rfl⟩ := hY
    obtain ⟨w1, w2, t, h, w3, w4⟩ := ev.wrong (hpw _ ha)
    refine (de_isN (de_ixT (d := oI (gt old a)) (de_ixT (d := tO old) (de_var 0 (d0.mono (s1.trans g))) de_int rfl) (de_var 3 e1) (at_map (gt_at w1)))).is ?_
    rw [w3]
    rfl
  case fin => rw [List.map_map]; rfl
  case res => rw [List.any_map]; exact List.any_eq_false.mpr fun _ _ => Bool.false_ne_true
  have s12 := s1.trans s2
  have hvl : (valuesM needs.length old wish part).length ≤ 60 := by
    unfold valuesM
    refine Nat.le_trans (List.length_filter_le _ _) ?_
    rw [List.length_range]
    exact hnl
  refine ws_retD (G := H2) ((de_all (bs := (valuesM needs.length old wish part).map fun _ => true) B (de_lc ((dl_1 (fun p : Nat => .bool true) [("value", 4)] (src_T (j := 4) nI (de_call c2 hr (da_cons (de_var 0 (d0.mono s12)) (da_cons (de_var 1 (d1.mono s12)) da_nil)) ⟨needs, old, wish, part, rfl, ev, hl, hpw, rfl⟩)) (blkOk_by (N := nIsClosed) (sc := defScope sIsClosed) (by decide +kernel)) (fun Y hY => by obtain ⟨_, _, _, _, _, rfl⟩ := hY; exact pg_name (i := 4) scIsClosed.nd rfl (by first | exact .inl rfl | exact .inr rfl))
    (fun a ha Y hY Ha v g e1 => ?el2) (fun _ => rfl) (by omega)).is ?fin2) scIsClosed.nd)).is ?res2) (Same.refl _) fun v H3 s3 dv => q v H3 _ (s12.trans s3) dv rfl
  case el2 =>
    obtain ⟨_, _, _, _, _, rfl⟩ := hY
    have hlt : a < needs.length := List.mem_range.mp (List.mem_filter.mp ha).1
    refine (de_eq (de_ixT (d := .int 0) (de_var 2 (d2.mono (s2.trans g))) (de_var 4 e1) (at_map (by rw [List.getElem?_replicate, if_pos hlt]))) de_int rfl rfl rfl).is rfl
  case fin2 => rw [List.map_map]; rfl
  case res2 => rw [List.all_map]; exact congrArg _ (List.all_eq_true.mpr fun _ _ => rfl)
def preClosedParts (ds : List PyData) (R : PyData → Prop) : Prop := ∃ (needs : List Nat) (old wish : Lay), ds = [tTk needs old wish] ∧ Ev needs old wish ∧ R = (· = lT (partsM old wish))
theorem ok_closed_parts (F : Fun K "closed_parts" "closed_parts" sClosedParts f fd) (B : Blt mg) (c1 : Cal P w K mg base 3 "parts_of" (spD preParts)) (c2 : Cal P w K mg base 3 "is_closed" (spD preClosed)) : FnOk P w K mg base CX0 4 f fd ["task"] (spD preClosedParts) := by
  refine ok_data F scClosedParts (fun ds R h => by obtain ⟨_, _, _, rfl, _⟩ := h; rfl) fun cdv A outer s H vs Q E ds R hr hd hp q => ?_
  obtain ⟨needs, old, wish, rfl, ev, rfl⟩ := hp
  obtain ⟨v0, rfl, d0⟩ := hd.a1
  have hpl := parts_length old wish
  have hwl := ev.wl
  refine ws_retD (G := H) (de_lc ((dl_1i tN (fun _ : List Nat => true) [("part", 1)] (src_L (j := 1) tN (de_call c1 hr (da_cons (de_var 0 d0) da_nil) ⟨needs, old, wish, rfl, ev, rfl⟩)) (blkOk_by (N := nClosedParts) (sc := defScope sClosedParts) (by decide +kernel)) (fun Y hY => by obtain ⟨_, _, _, _, _, rfl⟩ := hY; exact pg_name (i := 1) scClosedParts.nd rfl (by first | exact .inl rfl | exact .inr rfl))
    (fun a ha Y hY Ha v g e1 => ?ts) (fun a ha hp Y hY Ha v g e1 => ?el) (fun _ => rfl) (by omega)).is ?fin) scClosedParts.nd) (Same.refl _) fun v H4 s4 dv => q v H4 _ s4 dv rfl
  case el =>
    obtain ⟨_, _, _, _, _, rfl⟩ := hY
    exact de_var 1 e1
  case ts =>
    obtain ⟨_, _, _, _, _, rfl⟩ := hY
    obtain ⟨w1, w2, w3⟩ := parts_mem ha
    exact dt_val (de_call c2 hr (da_cons (de_var 0 (d0.mono g)) (da_cons (de_var 1 e1) da_nil)) ⟨needs, old, wish, a, rfl, ev, by omega, w3, rfl⟩)
  case fin => rw [List.filter_eq_self.mpr fun _ _ => rfl]
def preCounts (ds : List PyData) (R : PyData → Prop) : Prop := ∃ (needs : List Nat) (old wish : Lay), ds = [tTk needs old wish] ∧ Ev needs old wish ∧ R = (· = .tuple [nI (wrongs old wish).length, nI (partsM old wish).length])
theorem ok_counts_of (F : Fun K "counts_of" "counts_of" sCountsOf f fd) (B : Blt mg) (c1 : Cal P w K mg base 1 "wrong_places" (spD preWrong)) (c2 : Cal P w K mg base 4 "closed_parts" (spD preClosedParts)) : FnOk P w K mg base CX0 5 f fd ["task"] (spD preCounts) := by
  refine ok_data F scCountsOf (fun ds R h => by obtain ⟨_, _, _, rfl, _⟩ := h; rfl) fun cdv A outer s H vs Q E ds R hr hd hp q => ?_
  obtain ⟨needs, old, wish, rfl, ev, rfl⟩ := hp
  obtain ⟨v0, rfl, d0⟩ := hd.a1
  have hwl := ev.wl
  have hle := ev.len
  refine ws_retD (G := H) ((de_tup (da_cons (de_len B (de_call c1 (hr.mono (by decide)) (da_cons (de_var 0 d0) da_nil) ⟨needs, old, wish, rfl, by omega, by omega, rfl⟩) (.inr rfl))
    (da_cons (de_len B (de_call c2 hr (da_cons (de_var 0 d0) da_nil) ⟨needs, old, wish, rfl, ev, rfl⟩) (.inl rfl)) da_nil)) (by simp)).is (by rw [List.length_map, List.length_map])) (Same.refl _) fun v H4 s4 dv => q v H4 _ s4 dv rfl
def preEven (ds : List PyData) (R : PyData → Prop) : Prop := ∃ (needs : List Nat) (old wish : Lay), ds = [tTk needs old wish] ∧ Ev needs old wish ∧ R = (· = .bool true)
theorem frees_length (o : Lay) : (frees o).length ≤ o.length := by
  unfold frees
  refine Nat.le_trans (List.length_filter_le _ _) ?_
  rw [List.length_range]
  exact Nat.le_refl _
theorem ok_is_even (F : Fun K "is_even" "is_even" sIsEven f fd) (B : Blt mg) (c1 : Cal P w K mg base 1 "rooms" (spD preRooms)) (c2 : Cal P w K mg base 1 "free_places" (spD preFree)) (c3 : Cal P w K mg base 1 "open_places" (spD preOpen)) : FnOk P w K mg base CX0 2 f fd ["task"] (spD preEven) := by
  refine ok_data F scIsEven (fun ds R h => by obtain ⟨_, _, _, rfl, _⟩ := h; rfl) fun cdv A outer s H vs Q E ds R hr hd hp q => ?_
  obtain ⟨needs, old, wish, rfl, ev, rfl⟩ := hp
  obtain ⟨v0, rfl, d0⟩ := hd.a1
  have hnl := ev.nl
  have hwl := ev.wl
  have hle := ev.len
  refine ws_unp3 (G := H) 1 2 3 scIsEven.nd (de_var 0 d0) (Same.refl H) fun u1 u2 u3 H1 s1 k1 k2 k3 => ?_
  refine ws_ifD (G := H1) (b := false) ((dt_val (de_any (bs := (List.replicate (needs.length + needs.length) (0 : Int)).map fun _ => false) B (de_lc ((dl_1 (fun p : Int => .bool false) [("room", 4)] (src_T (j := 4) (xs := List.replicate (needs.length + needs.length) (0 : Int)) .int
    ((de_tup (da_star (de_call c1 hr (da_cons (de_var 1 k1) (da_cons (de_var 2 k2) da_nil)) ⟨needs, old, rfl, by omega, rfl⟩) (.inr rfl) (da_star (de_call c1 hr (da_cons (de_var 1 k1) (da_cons (de_var 3 k3) da_nil)) ⟨needs, wish, rfl, by omega, rfl⟩) (.inr rfl) da_nil)) (by simp; omega)).is ?src)) (blkOk_by (N := nIsEven) (sc := defScope sIsEven) (by decide +kernel)) (fun Y hY => by obtain ⟨_, _, _, _, _, rfl⟩ := hY; exact pg_name (i := 4) scIsEven.nd rfl (by first | exact .inl rfl | exact .inr rfl))
    (fun a ha Y hY Ha v g e1 => ?el) (fun _ => rfl) (by rw [List.length_replicate]; omega)).is ?fin) scIsEven.nd))).is ?res) (Same.refl _) (fun hb => nomatch hb) fun _ H2 s2 => ws_nil ?_
  case src =>
    rw [List.append_nil]
    have h1 := PyData.tuple.inj (rooms_data needs old)
    have h2 := PyData.tuple.inj (rooms_data needs wish)
    rw [h1, h2, rooms_zero ev.ro, rooms_zero ev.rw, ← List.map_append, List.replicate_append_replicate]
  case el =>
    obtain ⟨_, _, _, _, _, rfl⟩ := hY
    rw [List.eq_of_mem_replicate ha] at e1
    exact (de_ne (de_var 4 e1) de_int rfl rfl rfl).is rfl
  case fin => rw [List.map_map]; rfl
  case res => rw [List.any_map]; exact List.any_eq_false.mpr fun _ _ => Bool.false_ne_true
  have hf1 := frees_length old
  have okf : okD 8 (tN (frees old)) := (okT (k := 0) (by omega) fun x hx => okN (by
    have := List.mem_range.mp (List.mem_filter.mp hx).1
    omega)).mono (by decide)
  refine ws_retD (G := H2) ((de_eqQ (d := tN (frees wish)) (d' := tN (frees old)) hr (de_call c2 hr (da_cons (de_var 0 (d0.mono (s1.trans s2))) da_nil) ⟨needs, old, wish, rfl, by omega, rfl⟩) (de_call c3 hr (da_cons (de_var 0 (d0.mono (s1.trans s2))) da_nil) ⟨needs, old, wish, rfl, by omega, rfl⟩) (by rw [frees_eq ev]; exact okf) okf).is ?res3) (Same.refl _) fun v H3 s3 dv => q v H3 _ ((s1.trans s2).trans s3) dv rfl
  rw [frees_eq ev, inj_tN]
  simp
def preSpare (ds : List PyData) (R : PyData → Prop) : Prop := ∃ (needs : List Nat) (old wish : Lay), ds = [tTk needs old wish] ∧ Ev needs old wish ∧ R = (· = nI (frees old).length)
theorem ok_spare_many (F : Fun K "spare_many" "spare_many" sSpareMany f fd) (B : Blt mg) (c1 : Cal P w K mg base 2 "is_even" (spD preEven)) (c3 : Cal P w K mg base 1 "open_places" (spD preOpen)) : FnOk P w K mg base CX0 3 f fd ["task"] (spD preSpare) := by
  refine ok_data F scSpareMany (fun ds R h => by obtain ⟨_, _, _, rfl, _⟩ := h; rfl) fun cdv A outer s H vs Q E ds R hr hd hp q => ?_
  obtain ⟨needs, old, wish, rfl, ev, rfl⟩ := hp
  obtain ⟨v0, rfl, d0⟩ := hd.a1
  have hwl := ev.wl
  have hle := ev.len
  refine ws_ifD (G := H) (dt_not (dt_val (de_call c1 hr (da_cons (de_var 0 d0) da_nil) ⟨needs, old, wish, rfl, ev, rfl⟩))) (Same.refl _) (fun hb => nomatch hb) fun _ H2 s2 => ws_nil ?_
  exact ws_retD (G := H2) ((de_len B (de_call c3 (hr.mono (by decide)) (da_cons (de_var 0 (d0.mono s2)) da_nil) ⟨needs, old, wish, rfl, by omega, rfl⟩) (.inr rfl)).is (by rw [List.length_map])) (Same.refl _) fun v H3 s3 dv => q v H3 _ (s2.trans s3) dv rfl
end
end DL

/-! Walks along a step function. -/
namespace DL
def itN (nxt : Nat → Nat) : Nat → Nat → Nat
  | 0, v => v
  | i + 1, v => itN nxt i (nxt v)
def walkN (nxt : Nat → Nat) : Nat → Nat → List Nat
  | 0, _ => []
  | n + 1, v => v :: walkN nxt n (nxt v)
theorem itN_succ (nxt : Nat → Nat) : ∀ (i v : Nat), itN nxt (i + 1) v = nxt (itN nxt i v)
  | 0, v => rfl
  | i + 1, v => by
    show itN nxt (i + 1) (nxt v) = nxt (itN nxt i (nxt v))
    exact itN_succ nxt i (nxt v)
theorem mem_walkN {nxt : Nat → Nat} : ∀ {n v x : Nat}, x ∈ walkN nxt n v ↔ ∃ i, i < n ∧ x = itN nxt i v
  | 0, v, x => by simp [walkN]
  | n + 1, v, x => by
    rw [walkN, List.mem_cons, mem_walkN (n := n)]
    constructor
    · rintro (rfl | ⟨i, h1, h2⟩)
      · exact ⟨0, by omega, rfl⟩
      · exact ⟨i + 1, by omega, h2⟩
    · rintro ⟨i, h1, h2⟩
      cases i with
      | zero => exact .inl h2
      | succ i => exact .inr ⟨i, by omega, h2⟩
/-- the arrows are the steps of a walk from u to l -/
structure Chn (nxt : Nat → Nat) (as : List Arr) (u l : Nat) : Prop where
  hd : ∀ a ∈ as, a.2.1 = nxt a.1
  pm : (as.map (·.1)).Perm (walkN nxt as.length u)
  en : itN nxt as.length u = l
theorem Chn.perm {nxt : Nat → Nat} {as bs : List Arr} {u l : Nat} (c : Chn nxt as u l) (h : bs.Perm as) : Chn nxt bs u l :=
  ⟨fun a ha => c.hd a (h.mem_iff.mp ha), by rw [h.length_eq]; exact (h.map _).trans c.pm, by rw [h.length_eq]; exact c.en⟩
theorem Chn.tail {nxt : Nat → Nat} {a : Arr} {as : List Arr} {u l : Nat} (c : Chn nxt (a :: as) u l) (h : a.1 = u) : Chn nxt as (nxt u) l := by
  refine ⟨fun b hb => c.hd b (List.mem_cons_of_mem _ hb), ?_, c.en⟩
  have := c.pm
  rw [List.map_cons, h, List.length_cons, walkN] at this
  exact (List.perm_cons u).mp this
theorem filter_perm {as : List Arr} {a : Arr} (hn : as.Nodup) (ha : a ∈ as) : (a :: as.filter fun o => !decide (o = a)).Perm as := by
  have h1 := List.perm_cons_erase ha
  have h2 := hn.erase_eq_filter a
  refine (h1.trans ?_).symm
  rw [h2]
  refine List.Perm.of_eq (congrArg _ (List.filter_congr fun o _ => ?_))
  rw [Bool.eq_iff_iff]
  simp
theorem Chn.cut {nxt : Nat → Nat} {as : List Arr} {u l : Nat} (c : Chn nxt as u l) (hn : as.Nodup) {a : Arr} (ha : a ∈ as) (h : a.1 = u) : Chn nxt (as.filter fun o => !decide (o = a)) (nxt u) l :=
  (c.perm (filter_perm hn ha)).tail h
theorem Chn.at {nxt : Nat → Nat} {as : List Arr} {u l : Nat} (c : Chn nxt as u l) {i : Nat} (h : i < as.length) : ∃ a ∈ as, a.1 = itN nxt i u := by
  have h1 : itN nxt i u ∈ walkN nxt as.length u := mem_walkN.mpr ⟨i, h, rfl⟩
  obtain ⟨a, h2, h3⟩ := List.mem_map.mp (c.pm.mem_iff.mpr h1)
  exact ⟨a, h2, h3⟩
/-- some arrow that is left hangs on what was met -/
theorem Chn.near {nxt : Nat → Nat} {as : List Arr} {u l : Nat} (c : Chn nxt as u l) {left : List Arr} {ms : List Nat} (hu : u ∈ ms) (hm : ∀ a ∈ as, a ∉ left → a.2.1 ∈ ms) (hs : ∀ a ∈ left, a ∈ as) (hne : left ≠ []) : ∃ a ∈ left, a.1 ∈ ms := by
  by_cases g : ∃ a ∈ left, a.1 ∈ ms
  · exact g
  exfalso
  have key : ∀ j, j < as.length → itN nxt j u ∈ ms := by
    intro j
    induction j with
    | zero => intro _; exact hu
    | succ j ih =>
      intro h
      have h1 := ih (by omega)
      obtain ⟨a, ha, e⟩ := c.at (i := j) (by omega)
      have h2 : a ∉ left := fun z => g ⟨a, z, by rw [e]; exact h1⟩
      have h3 := hm a ha h2
      rw [c.hd a ha, e, ← itN_succ nxt] at h3
      exact h3
  obtain ⟨a, ha⟩ := List.exists_mem_of_ne_nil _ hne
  have h1 : a.1 ∈ walkN nxt as.length u := c.pm.mem_iff.mp (List.mem_map.mpr ⟨a, hs a ha, rfl⟩)
  obtain ⟨i, h2, h3⟩ := mem_walkN.mp h1
  exact g ⟨a, ha, by rw [h3]; exact key i h2⟩
end DL

namespace DL
open PySem PySem.Spec PyProof.Rows L2
section
variable {P : Program} {w : World} {K : PySem.W.Frag} {mg : Str → Option Value} {base : Heap} {f : Addr} {fd : FuncData}
/-! data with no list in it -/
mutual
def noL : PyData → Bool
  | .list _ => false
  | .tuple xs => noLs xs
  | .dict _ => false
  | _ => true
def noLs : List PyData → Bool
  | [] => true
  | x :: xs => noL x && noLs xs
end
mutual
theorem Dq.off {H : Hp} {M : Addr} {ys : List V} (hM : H M = some (.lst ys)) : ∀ {d : PyData} {v : V}, noL d = true → Dq H v d → Dq (off H M) v d
  | .none, _, _, h => by cases h; exact .non
  | .bool _, _, _, h => by cases h; exact .bl _
  | .int _, _, _, h => by cases h; exact .int _
  | .str _, _, _, h => by cases h
  | .list _, _, n, h => by simp [noL] at n
  | .tuple xs, _, n, h => by
    cases h with
    | tup h1 h2 =>
      rw [noL] at n
      have hn := h1.ne_lst hM
      obtain ⟨o, oz, e⟩ := h1
      exact .tup ⟨o, oz, by rw [off_ne hn]; exact e⟩ (DqAll.off hM n h2)
  | .dict _, _, _, h => by cases h
theorem DqAll.off {H : Hp} {M : Addr} {ys : List V} (hM : H M = some (.lst ys)) : ∀ {ds : List PyData} {vs : List V}, noLs ds = true → DqAll H vs ds → DqAll (off H M) vs ds
  | [], _, _, h => by cases h; exact .nil
  | d :: ds, _, n, h => by
    rw [noLs, Bool.and_eq_true] at n
    cases h with
    | cons h1 h2 => exact .cons (Dq.off hM n.1 h1) (DqAll.off hM n.2 h2)
end
theorem noLs_map {α : Type} {enc : α → PyData} (h : ∀ a, noL (enc a) = true) : ∀ xs : List α, noLs (xs.map enc) = true
  | [] => rfl
  | x :: xs => by rw [List.map_cons, noLs, h x, noLs_map h xs]; rfl
theorem noL_arD (a : Arr) : noL (arD a) = true := rfl
theorem Dq.offL {H : Hp} {M D : Addr} {ys : List V} {α : Type} {enc : α → PyData} {xs : List α} (n : ∀ a, noL (enc a) = true) (hM : H M = some (.lst ys)) (hd : D ≠ M) (h : Dq H (.ref D) (.list (xs.map enc))) : Dq (DL.off H M) (.ref D) (.list (xs.map enc)) := by
  cases h with
  | lst h1 h2 => exact .lst (by rw [off_ne hd]; exact h1) (DqAll.off hM (noLs_map n xs) h2)
/-! two names, one of them a cell -/
section
variable {X : Cx} {σ : L2.St} {G H : Hp} {a b c d : Expr} {rest : List Stmt} {D' : Ends} {Q : VK} {pos p0 p1 p2 p3 p4 t1 : Pos} {kk k2 : Nat} {x y z u : Str}
theorem ws_cell2 (i j : Nat) (hN : X.N.Nodup) (h : WE X a σ H fun v H1 => WE X b σ H1 fun w H2 => ∀ H3, Same H2 H3 → WS X rest D' ((σ.set i (some v)).set j (some w)) H3) (hc : X.calm = true := by rfl)
    (hs1 : starEach [a, b] X.env = (false, eval a X.env) :: starEach [b] X.env := by rfl) (hs2 : starEach [b] X.env = (false, eval b X.env) :: starEach [] X.env := by rfl)
    (hi : X.N[i]? = some x := by rfl) (hj : X.N[j]? = some y := by rfl) (hx : Loc X.env.scope x := by first | exact .inl rfl | exact .inr rfl) (hy : Loc X.env.scope y := by first | exact .inl rfl | exact .inr rfl)
    (fx : X.fn x = true ∨ X.env.scope.names.lookup x = some .local := by first | exact .inl rfl | exact .inr rfl)
    (fy : X.fn y = true ∨ X.env.scope.names.lookup y = some .local := by first | exact .inl rfl | exact .inr rfl)
    (hs : swapsWithSole [.Tuple [.Name x p1, .Name y p2] kk p0] (.Tuple [a, b] k2 t1) pos.line X.env = pure false := by rfl) (hw : swappedStores [.Tuple [.Name x p1, .Name y p2] kk p0] (.Tuple [a, b] k2 t1) X.env = pure none := by rfl) :
    WS X (.Assign [.Tuple [.Name x p1, .Name y p2] kk p0] (.Tuple [a, b] k2 t1) pos :: rest) D' σ H :=
  ws_step (ps_asg (pe_tupF (pa_cons pe_we (pa_cons pe_we pa_nil hs2) hs1)) (pg_tup hc (pgs_cons (pg_name hN hi hx fx) (pgs_cons (pg_name hN hj hy fy) pgs_nil)) rfl rfl) hs hw rfl)
    (h.imp fun v H1 q => q.imp fun w H2 q => ⟨by show 2 ≤ sizeLine; rw [sizeLine_eq]; omega, fun p H3 np s3 tp _ => ⟨p, _, rfl, tp.sq, rfl, _, _, rfl, _, _, rfl, rfl, q H3 s3⟩⟩)
theorem ws_cell4 (i j k l : Nat) (hN : X.N.Nodup) (h : WE X a σ H fun v1 H1 => WE X b σ H1 fun v2 H2 => WE X c σ H2 fun v3 H3 => WE X d σ H3 fun v4 H4 => ∀ H5, Same H4 H5 → WS X rest D' ((((σ.set i (some v1)).set j (some v2)).set k (some v3)).set l (some v4)) H5) (hc : X.calm = true := by rfl)
    (hs1 : starEach [a, b, c, d] X.env = (false, eval a X.env) :: starEach [b, c, d] X.env := by rfl) (hs2 : starEach [b, c, d] X.env = (false, eval b X.env) :: starEach [c, d] X.env := by rfl)
    (hs3 : starEach [c, d] X.env = (false, eval c X.env) :: starEach [d] X.env := by rfl) (hs4 : starEach [d] X.env = (false, eval d X.env) :: starEach [] X.env := by rfl)
    (hi : X.N[i]? = some x := by rfl) (hj : X.N[j]? = some y := by rfl) (hk : X.N[k]? = some z := by rfl) (hl : X.N[l]? = some u := by rfl)
    (hx : Loc X.env.scope x := by first | exact .inl rfl | exact .inr rfl) (hy : Loc X.env.scope y := by first | exact .inl rfl | exact .inr rfl) (hz : Loc X.env.scope z := by first | exact .inl rfl | exact .inr rfl) (hu : Loc X.env.scope u := by first | exact .inl rfl | exact .inr rfl)
    (fx : X.fn x = true ∨ X.env.scope.names.lookup x = some .local := by first | exact .inl rfl | exact .inr rfl)
    (fy : X.fn y = true ∨ X.env.scope.names.lookup y = some .local := by first | exact .inl rfl | exact .inr rfl)
    (fz : X.fn z = true ∨ X.env.scope.names.lookup z = some .local := by first | exact .inl rfl | exact .inr rfl)
    (fu : X.fn u = true ∨ X.env.scope.names.lookup u = some .local := by first | exact .inl rfl | exact .inr rfl)
    (hs : swapsWithSole [.Tuple [.Name x p1, .Name y p2, .Name z p3, .Name u p4] kk p0] (.Tuple [a, b, c, d] k2 t1) pos.line X.env = pure false := by rfl)
    (hw : swappedStores [.Tuple [.Name x p1, .Name y p2, .Name z p3, .Name u p4] kk p0] (.Tuple [a, b, c, d] k2 t1) X.env = pure none := by rfl) :
    WS X (.Assign [.Tuple [.Name x p1, .Name y p2, .Name z p3, .Name u p4] kk p0] (.Tuple [a, b, c, d] k2 t1) pos :: rest) D' σ H :=
  ws_step (ps_asg (pe_tupF (pa_cons pe_we (pa_cons pe_we (pa_cons pe_we (pa_cons pe_we pa_nil hs4) hs3) hs2) hs1)) (pg_tup hc (pgs_cons (pg_name hN hi hx fx) (pgs_cons (pg_name hN hj hy fy) (pgs_cons (pg_name hN hk hz fz) (pgs_cons (pg_name hN hl hu fu) pgs_nil)))) rfl rfl) hs hw rfl)
    (h.imp fun v H1 q => q.imp fun w H2 q => q.imp fun w3 H3 q => q.imp fun w4 H4 q => ⟨by show 4 ≤ sizeLine; rw [sizeLine_eq]; omega, fun p H5 np s5 tp _ => ⟨p, _, rfl, tp.sq, rfl, _, _, rfl, _, _, rfl, _, _, rfl, _, _, rfl, rfl, q H5 s5⟩⟩)
theorem de_m1 {k0 : Nat} {q0 q1 : Pos} : DE X (.UnaryOp .USub (.Constant (.int 1) k0 q0) q1) σ G (.int (-1)) := fun H Q g q => we_of (pe_un un_neg pe_int) ⟨1, rfl, q _ _ (Same.refl H) (.int (-1))⟩
end
theorem at_last {ds : List PyData} {d : PyData} : atI (ds ++ [d]) (-1) = some d := by
  unfold atI ixN
  have e : (ds ++ [d]).length = ds.length + 1 := by simp
  rw [e, if_neg (by omega), if_pos (by omega)]
  show (ds ++ [d])[_]? = some d
  have e2 : (-1 + ((ds.length + 1 : Nat) : Int)).toNat = ds.length := by omega
  rw [e2]
  simp
end
end DL

namespace DL
open PySem PySem.Spec PyProof.Rows L2
section
variable {P : Program} {w : World} {K : PySem.W.Frag} {mg : Str → Option Value} {base : Heap} {f : Addr} {fd : FuncData}
theorem Dq.toInts {H : Hp} {M : Addr} {ms : List Nat} (h : H M = some (.lst (ms.map fun n : Nat => V.int n))) : Dq H (.ref M) (lN ms) := by
  refine .lst h ?_
  have := DqAll.ints (H := H) (ms.map fun n : Nat => (n : Int))
  rw [List.map_map, List.map_map] at this
  exact this
def preCanGo (ds : List PyData) (R : PyData → Prop) : Prop := ∃ (as : List Arr) (u l : Nat) (nxt : Nat → Nat), ds = [gD as, nI u, nI l] ∧ Chn nxt as u l ∧ as.length ≤ 60 ∧ (∀ a ∈ as, a.1 < 1000 ∧ a.2.1 < 1000 ∧ a.2.2 < 1000) ∧ R = (· = .bool true)
theorem okG {as : List Arr} (hl : as.length ≤ 60) (h : ∀ a ∈ as, a.1 < 1000 ∧ a.2.1 < 1000 ∧ a.2.2 < 1000) : okD 2 (gD as) := okL (k := 1) (by omega) fun o ho => by
  obtain ⟨z1, z2, z3⟩ := h o ho
  exact okAr (k := 0) z1 z2 z3
theorem okNil : okD 8 (.list []) := (okL (α := Nat) (enc := nI) (xs := []) (k := 7) (by simp) fun x hx => by simp at hx)
theorem eqv_nil (as : List Arr) : PyData.eqv (gD as) (.list []) = decide (as = []) := inj_gD as []
theorem ok_can_go_on (F : Fun K "can_go_on" "can_go_on" sCanGoOn f fd) (B : Blt mg) : FnOk P w K mg base CX0 1 f fd ["arrows", "value", "last"] (spD preCanGo) := by
  refine ok_data F scCanGoOn (fun ds R h => by obtain ⟨_, _, _, _, rfl, _⟩ := h; rfl) fun cdv A outer s H vs Q E ds R hr hd hp q => ?_
  obtain ⟨as, u, l, nxt, rfl, ch, hl, hsm, rfl⟩ := hp
  obtain ⟨v0, v1, v2, rfl, d0, d1, d2⟩ := hd.a3
  refine ws_ifD (G := H) ((dt_eqQ (d := gD as) (d' := .list []) hr (de_var 0 d0) (de_lst da_nil (by simp)) ((okG hl hsm).mono (by decide)) okNil).is (eqv_nil as)) (Same.refl _) (fun hb H1 s1 => ?_) fun hb H1 s1 => ws_nil ?_
  · have e : as = [] := of_decide_eq_true hb
    have he := ch.en
    rw [e] at he
    have he : u = l := he
    exact ws_retD (G := H1) ((de_eq (de_var 1 (d1.mono s1)) (de_var 2 (d2.mono s1)) rfl rfl rfl).is (by rw [decV_n, he]; simp)) (Same.refl _) fun v H2 s2 dv => q v H2 _ (s1.trans s2) dv rfl
  have d1' := d1
  cases d1'
  refine ws_cell2 3 4 scCanGoOn.nd (we_lst (wa_one (we_var 1 rfl ⟨by simp, fun M nM => ?_⟩)))
  have sM : Same H1 (upd H1 M (.lst [.int (u : Int)])) := same_new nM
  have eM : (upd H1 M (.lst [.int (u : Int)])) M = some (.lst [.int (u : Int)]) := upd_same
  generalize upd H1 M (.lst [.int (u : Int)]) = H2 at sM eM ⊢
  have d0' := d0.mono (s1.trans sM)
  cases d0' with
  | lst h1 h2 =>
    rename_i a0 ys
    refine we_list B (we_var 0 rfl ⟨a0, ys, rfl, .inl h1, fun n nn H4 s4 => ?_⟩)
    have hnM : n ≠ M := fun z => by rw [z, eM] at nn; cases nn
    have sN : Same H2 (upd H2 n (.lst ys)) := same_new nn
    have s24 := sN.trans s4
    have eM4 : H4 M = some (.lst [.int (u : Int)]) := s24 _ _ eM
    have dl4 : Dq H4 (.ref n) (gD as) := .lst (s4 _ _ upd_same) (h2.mono s24)
    have s14 := sM.trans s24
    have sH4 := s1.trans s14
    clear s24 sN s4
    refine ws_while PassesOwn.never (fun m σ H5 => ∃ (nl : Addr) (ms : List Nat) (left : List Arr) (y5 y6 : Option V), σ = [some (.ref a0), some (.int (u : Int)), some v2, some (.ref M), some (.ref nl), y5, y6] ∧ Same H1 H5 ∧ H5 M = some (.lst (ms.map fun n : Nat => V.int n)) ∧ nl ≠ M ∧
      Dq H5 (.ref nl) (gD left) ∧ m = left.length ∧ (∀ a ∈ left, a ∈ as) ∧ u ∈ ms ∧ (∀ a ∈ as, a ∉ left → a.2.1 ∈ ms) ∧ ms.length + 2 * left.length ≤ 1 + 2 * as.length) as.length
      ⟨n, [u], as, none, none, rfl, s14, eM4, hnM, dl4, rfl, fun a h => h, by simp, fun a h h2 => absurd h h2, by simp⟩ fun m σ H5 hw => ?_
    obtain ⟨nl, ms, left, y5, y6, rfl, s5, eM5, hnl, dl, rfl, hsub, hu, hmet, hlen⟩ := hw
    have hll : left.length ≤ 60 := by omega
    have okl : okD 2 (gD left) := okG hll fun a ha => hsm a (hsub a ha)
    refine ((dt_neQ (d := gD left) (d' := .list []) hr (G := H5) (de_var 4 dl) (de_lst da_nil (by simp)) (okl.mono (by decide)) okNil).is (congrArg not (eqv_nil left))) H5 _ (Same.refl H5) fun H6 s6 => ?_
    by_cases hne : left = []
    · rw [if_neg (by simp [hne])]
      exact ws_retD (G := H6) de_bl (Same.refl _) fun v H7 s7 dv => q v H7 _ ((s1.trans s5).trans (s6.trans s7)) dv rfl
    rw [if_pos (by simp [hne])]
    have eM6 := s6 _ _ eM5
    refine ws_setDF 5 scCanGoOn.nd (G := H6) (dl_1i arD (fun a : Arr => decide (a.1 ∈ ms) || decide (a.2.1 ∈ ms)) [("arrow", 6)] (src_L (j := 6) arD (de_var 4 (dl.mono s6))) (blkOk_by (N := nCanGoOn) (sc := defScope sCanGoOn) (by decide +kernel)) (fun Y hY => by obtain ⟨_, _, _, _, _, rfl⟩ := hY; exact pg_name (i := 6) scCanGoOn.nd rfl (by first | exact .inl rfl | exact .inr rfl))
      (fun a ha Y hY Ha v g e1 => ?ts) (fun a ha hp Y hY Ha v g e1 => ?el) (fun _ => rfl) (by omega)) (Same.refl H6) fun D H7 vs nD s7 hD dvs => ?_
    case el =>
      obtain ⟨_, _, _, _, _, rfl⟩ := hY
      exact de_var 6 e1
    case ts =>
      obtain ⟨_, _, _, _, _, rfl⟩ := hY
      refine (dt_or (dt_in (d := nI a.1) (ds := ms.map nI) (de_ixT (de_var 6 e1) de_int rfl) (de_var 3 ((Dq.toInts eM6).mono g)) (.inl rfl) rfl (flatN ms)) fun _ => dt_in (d := nI a.2.1) (ds := ms.map nI) (de_ixT (de_var 6 e1) de_int rfl) (de_var 3 ((Dq.toInts eM6).mono g)) (.inl rfl) rfl (flatN ms)).is ?_
      rw [memD_N, memD_N]
    have hDM : D ≠ M := fun z => by rw [z, eM6] at nD; cases nD
    have hDn : D ≠ nl := fun z => by
      cases dl with
      | lst e _ => rw [z, s6 _ _ e] at nD; cases nD
    have eM7 := s7 _ _ eM6
    have dnear : Dq H7 (.ref D) (gD (left.filter fun a : Arr => decide (a.1 ∈ ms) || decide (a.2.1 ∈ ms))) := .lst hD (dvs.mono off_le)
    have hnear : (left.filter fun a : Arr => decide (a.1 ∈ ms) || decide (a.2.1 ∈ ms)) ≠ [] := fun z => by
      obtain ⟨a, ha, e⟩ := ch.near hu hmet hsub hne
      have := List.filter_eq_nil_iff.mp z a ha
      simp [e] at this
    have hnl2 : (left.filter fun a : Arr => decide (a.1 ∈ ms) || decide (a.2.1 ∈ ms)).length + (left.filter fun a : Arr => !(decide (a.1 ∈ ms) || decide (a.2.1 ∈ ms))).length = left.length := by
      have := (List.filter_append_perm (fun a : Arr => decide (a.1 ∈ ms) || decide (a.2.1 ∈ ms)) left).length_eq
      rw [List.length_append] at this
      exact this
    have hmn : ∀ a, a ∈ (left.filter fun a : Arr => decide (a.1 ∈ ms) || decide (a.2.1 ∈ ms)) ↔ a ∈ left ∧ (decide (a.1 ∈ ms) || decide (a.2.1 ∈ ms)) = true := fun a => List.mem_filter
    generalize hN : (left.filter fun a : Arr => decide (a.1 ∈ ms) || decide (a.2.1 ∈ ms)) = near at dvs dnear hnear hnl2 hmn
    have okn : okD 2 (gD near) := okG (by omega) fun a ha => hsm a (hsub a ((hmn a).mp ha).1)
    refine ws_ifD (G := H7) ((dt_eqQ (d := gD near) (d' := .list []) hr (de_var 5 dnear) (de_lst da_nil (by simp)) (okn.mono (by decide)) okNil).is (eqv_nil near)) (Same.refl _) (fun hb => absurd (of_decide_eq_true hb) hnear) fun hb H8 s8 => ws_nil ?_
    have eM8 := s8 _ _ eM7
    have g8 : Same (off H8 M) H8 := off_le
    have M0 : off H8 M M = none := off_same
    have dn8 : Dq (off H8 M) (.ref D) (gD near) := (dnear.mono s8).offL noL_arD eM8 hDM
    have dl8 : Dq (off H8 M) (.ref nl) (gD left) := (dl.mono ((s6.trans s7).trans s8)).offL noL_arD eM8 hnl
    have n1 : H1 M = none := nM
    have s18 : Same H1 (off H8 M) := same_off (((s5.trans s6).trans s7).trans s8) n1
    clear dl dnear dvs hD
    have dn8' := dn8
    cases dn8' with
    | lst k1 k2 =>
      rename_i zs
      refine ws_forL PassesOwn.never (pg_name (i := 6) scCanGoOn.nd rfl (by first | exact .inl rfl | exact .inr rfl)) (we_var 5 rfl ⟨D, zs, off H8 M, fun i σ H9 => (∃ y6, σ = [some (.ref a0), some (.int (u : Int)), some v2, some (.ref M), some (.ref nl), some (.ref D), y6]) ∧ Same (off H8 M) H9 ∧
          H9 M = some (.lst ((ms ++ ((near.take i).map fun a : Arr => [a.1, a.2.1]).flatten).map fun n : Nat => V.int n)), rfl, k1, g8, ⟨⟨_, rfl⟩, g8, by simpa using eM8⟩, fun i σ H9 p => p.2.1, fun i x σ H9 hx p => ?_, fun σ H9 p => ?_⟩)
      · obtain ⟨⟨y6, rfl⟩, s9, eM9⟩ := p
        have hi : i < near.length := by
          have := (List.getElem?_eq_some_iff.mp hx).1
          rw [k2.length, List.length_map] at this
          exact this
        have hni := List.getElem?_eq_getElem hi
        have dx := k2.at hni hx
        have htk : ((near.take (i + 1)).map fun a : Arr => [a.1, a.2.1]).flatten = ((near.take i).map fun a : Arr => [a.1, a.2.1]).flatten ++ [near[i].1, near[i].2.1] := by
          rw [List.take_add_one, hni, List.map_append, List.flatten_append]
          simp
        have hfl : ((near.take i).map fun a : Arr => [a.1, a.2.1]).flatten.length ≤ 2 * near.length := by
          have : ∀ xs : List Arr, (xs.map fun a : Arr => [a.1, a.2.1]).flatten.length = 2 * xs.length := fun xs => by
            induction xs with
            | nil => rfl
            | cons x r ih => rw [List.map_cons, List.flatten_cons, List.length_append, ih, List.length_cons, List.length_cons, List.length_cons, List.length_nil]; omega
          rw [this, List.length_take]
          omega
        generalize near[i] = ai at dx htk
        refine ws_expr (we_extendT (we_var 3 rfl ⟨M, _, rfl, eM9, DE.go (G := off H8 M) (d := .tuple [nI ai.1, nI ai.2.1]) ((de_slT (de_var 6 dx) do_none (do_some de_int)).is rfl) s9 fun v HA sA dA => ?_⟩))
        cases dA with
        | tup t1 t2 =>
          rename_i b ws
          have ew : ws = [.int ai.1, .int ai.2.1] := t2.ints_inv (ns := [(ai.1 : Int), (ai.2.1 : Int)])
          refine ⟨b, _, ws, rfl, sA _ _ eM9, t1, ?_, ws_nil ⟨⟨_, rfl⟩, same_mut (s9.trans sA) M0, ?_⟩⟩
          · rw [ew, List.length_map, List.length_append]
            show _ + 2 ≤ _
            omega
          · rw [upd_same, htk, ew, ← List.append_assoc, List.map_append (l₂ := [ai.1, ai.2.1])]
            rfl
      · obtain ⟨⟨y6, rfl⟩, s9, eM9⟩ := p
        rw [k2.length, List.length_map, List.take_length] at eM9
        refine ws_setDL 4 scCanGoOn.nd (G := off H8 M) (dl_1i arD (fun a : Arr => !decide (a ∈ near)) [("arrow", 6)] (src_L (j := 6) arD (de_var 4 dl8)) (blkOk_by (N := nCanGoOn) (sc := defScope sCanGoOn) (by decide +kernel)) (fun Y hY => by obtain ⟨_, _, _, _, _, rfl⟩ := hY; exact pg_name (i := 6) scCanGoOn.nd rfl (by first | exact .inl rfl | exact .inr rfl))
          (fun a ha Y hY Ha v g e1 => ?ts2) (fun a ha hp Y hY Ha v g e1 => ?el2) (fun _ => rfl) (by omega)) s9 fun D2 HB vs2 nD2 sB hD2 dvs2 => ?_
        case el2 =>
          obtain ⟨_, _, _, _, _, rfl⟩ := hY
          exact de_var 6 e1
        case ts2 =>
          obtain ⟨_, _, _, _, _, rfl⟩ := hY
          refine (dt_notInQ (k := 0) ?hrr (de_var 6 e1) (de_var 5 (dn8.mono g)) ?o1 (okn.mono (by decide))).is ?res2
          case hrr => exact hr
          case o1 =>
            obtain ⟨z1, z2, z3⟩ := hsm a (hsub a ha)
            exact (okAr (k := 0) z1 z2 z3).mono (by decide)
          case res2 => rw [inj_arD.any]; congr
        have e2M : D2 ≠ M := fun z => by rw [z, eM9] at nD2; cases nD2
        have hfilt : (left.filter fun a : Arr => !decide (a ∈ near)) = left.filter fun a : Arr => !(decide (a.1 ∈ ms) || decide (a.2.1 ∈ ms)) := List.filter_congr fun a ha => by
          rw [Bool.eq_iff_iff]
          have := hmn a
          simp only [ha, true_and] at this
          simp only [Bool.not_eq_true', decide_eq_false_iff_not, this]
          simp
        have hf2 : ((near.map fun a : Arr => [a.1, a.2.1]).flatten).length = 2 * near.length := by
          have : ∀ xs : List Arr, (xs.map fun a : Arr => [a.1, a.2.1]).flatten.length = 2 * xs.length := fun xs => by
            induction xs with
            | nil => rfl
            | cons x r ih => rw [List.map_cons, List.flatten_cons, List.length_append, ih, List.length_cons, List.length_cons, List.length_cons, List.length_nil]; omega
          exact this near
        have hnp : near.length ≠ 0 := fun z => hnear (List.eq_nil_of_length_eq_zero z)
        refine ws_nil ⟨(left.filter fun a : Arr => !decide (a ∈ near)).length, ?_, D2, _, _, _, _, rfl, (s18.trans s9).trans sB, sB _ _ eM9, e2M, .lst hD2 (dvs2.mono off_le), rfl, fun a ha => hsub a (List.mem_filter.mp ha).1, List.mem_append_left _ hu, fun a ha h2 => ?_, ?_⟩
        · rw [hfilt]; omega
        · by_cases hal : a ∈ left
          · have hn : a ∈ near := by
              by_cases z : a ∈ near
              · exact z
              · exact absurd (List.mem_filter.mpr ⟨hal, by simpa using z⟩) h2
            refine List.mem_append_right _ (List.mem_flatten.mpr ⟨_, List.mem_map.mpr ⟨a, hn, rfl⟩, by simp⟩)
          · exact List.mem_append_left _ (hmet a ha hal)
        · rw [hfilt, List.length_append, hf2]
          omega
end
end DL

namespace DL
open PySem PySem.Spec PyProof.Rows L2
section
variable {P : Program} {w : World} {K : PySem.W.Frag} {mg : Str → Option Value} {base : Heap} {f : Addr} {fd : FuncData}
structure Rnd (old wish : Lay) (part order : List Nat) : Prop where
  pm : order.Perm part
  st : ∀ i p q, order[i]? = some p → order[i + 1]? = some q → gt wish p = gt old q
  wr : ∀ p q, order.head? = some p → order.getLast? = some q → gt wish q = gt old p
def preRounds (ds : List PyData) (R : PyData → Prop) : Prop := ∃ (needs : List Nat) (old wish : Lay) (part : List Nat) (nxt : Nat → Nat) (u : Nat), ds = [tTk needs old wish, tN part] ∧ Ev needs old wish ∧ part ≠ [] ∧ part.Nodup ∧ (∀ p ∈ part, p ∈ wrongs old wish) ∧ part.length ≤ 60 ∧
  (∀ p, part.head? = some p → (arOf old wish p).1 = u) ∧ Chn nxt (part.map (arOf old wish)) u u ∧ R = fun d => ∃ order, d = tN order ∧ Rnd old wish part order
structure RInv (old wish : Lay) (part : List Nat) (nxt : Nat → Nat) (u : Nat) (fs : List Arr) (e : Arr) (left : List Arr) : Prop where
  pm : (fs ++ [e] ++ left).Perm (part.map (arOf old wish))
  lk : ∀ (i : Nat) (a b : Arr), (fs ++ [e])[i]? = some a → (fs ++ [e])[i + 1]? = some b → a.2.1 = b.1
  hd : ∀ a, (fs ++ [e]).head? = some a → a.1 = u
  ch : Chn nxt left e.2.1 u
theorem RInv.nodup {old wish : Lay} {part : List Nat} {nxt : Nat → Nat} {u : Nat} {fs : List Arr} {e : Arr} {left : List Arr} (r : RInv old wish part nxt u fs e left) (hn : part.Nodup) : left.Nodup := by
  have h1 : (part.map (arOf old wish)).Nodup := List.pairwise_map.mpr (List.Pairwise.imp (fun h e => h (congrArg (fun a : Arr => a.2.2) e)) hn)
  exact (List.nodup_append.mp (r.pm.nodup_iff.mpr h1)).2.1
theorem RInv.done {old wish : Lay} {part : List Nat} {nxt : Nat → Nat} {u : Nat} {fs : List Arr} {e : Arr} {needs : List Nat} (r : RInv old wish part nxt u fs e []) (ev : Ev needs old wish) (hw : ∀ p ∈ part, p ∈ wrongs old wish) : Rnd old wish part ((fs ++ [e]).map fun a : Arr => a.2.2) := by
  have hp := r.pm
  rw [List.append_nil] at hp
  have key : ∀ a ∈ fs ++ [e], gt old a.2.2 = some a.1 ∧ gt wish a.2.2 = some a.2.1 := fun a ha => by
    obtain ⟨p, hpm, rfl⟩ := List.mem_map.mp (hp.mem_iff.mp ha)
    obtain ⟨_, _, t, h, h3, h4⟩ := ev.wrong (hw p hpm)
    rw [arOf_eq h3 h4]
    exact ⟨h3, h4⟩
  refine ⟨?_, fun i p q h1 h2 => ?_, fun p q h1 h2 => ?_⟩
  · have := hp.map fun a : Arr => a.2.2
    rw [List.map_map] at this
    refine this.trans (List.Perm.of_eq ?_)
    show part.map (fun p => p) = part
    simp
  · rw [List.getElem?_map] at h1 h2
    obtain ⟨a, ha, rfl⟩ := Option.map_eq_some_iff.mp h1
    obtain ⟨b, hb, rfl⟩ := Option.map_eq_some_iff.mp h2
    rw [(key a (List.mem_of_getElem? ha)).2, (key b (List.mem_of_getElem? hb)).1, r.lk i a b ha hb]
  · rw [List.head?_map] at h1
    obtain ⟨a, ha, rfl⟩ := Option.map_eq_some_iff.mp h1
    rw [List.map_append, List.map_cons, List.map_nil, List.getLast?_append] at h2
    have e2 : q = e.2.2 := by simpa using h2.symm
    rw [e2, (key e (by simp)).2, (key a (List.mem_of_head? ha)).1, r.hd a ha]
    exact congrArg some r.ch.en
theorem RInv.step {old wish : Lay} {part : List Nat} {nxt : Nat → Nat} {u : Nat} {fs : List Arr} {e : Arr} {left : List Arr} (r : RInv old wish part nxt u fs e left) (hn : part.Nodup) {a : Arr} (ha : a ∈ left) (h : a.1 = e.2.1) :
    RInv old wish part nxt u (fs ++ [e]) a (left.filter fun o => !decide (o = a)) := by
  have hln := r.nodup hn
  have hc := r.ch.cut hln ha h
  rw [← h, ← r.ch.hd a ha] at hc
  refine ⟨?_, fun i x y h1 h2 => ?_, fun x hx => ?_, hc⟩
  · rw [List.append_assoc]
    exact ((filter_perm hln ha).append_left _).trans r.pm
  · by_cases hi : i + 1 < (fs ++ [e]).length
    · rw [List.getElem?_append_left (by omega)] at h1
      rw [List.getElem?_append_left hi] at h2
      exact r.lk i x y h1 h2
    · have h3 := (List.getElem?_eq_some_iff.mp h2).1
      rw [List.length_append, List.length_singleton] at h3
      have hi2 : i + 1 = (fs ++ [e]).length := by omega
      rw [List.getElem?_append_right (by omega), hi2, Nat.sub_self] at h2
      have e2 : y = a := (Option.some.inj h2).symm
      rw [List.getElem?_append_left (by omega)] at h1
      have hi3 : i = fs.length := by rw [List.length_append, List.length_singleton] at hi2; omega
      rw [List.getElem?_append_right (by omega), hi3, Nat.sub_self] at h1
      have e1 : x = e := (Option.some.inj h1).symm
      rw [e1, e2, h]
  · have : (fs ++ [e] ++ [a]).head? = (fs ++ [e]).head? := by cases fs <;> rfl
    rw [this] at hx
    exact r.hd x hx
theorem ok_rounds_of (F : Fun K "rounds_of" "rounds_of" sRoundsOf f fd) (B : Blt mg) (c1 : Cal P w K mg base 1 "arrow_of" (spD preArrowOf)) (c2 : Cal P w K mg base 1 "can_go_on" (spD preCanGo)) : FnOk P w K mg base CX0 2 f fd ["task", "part"] (spD preRounds) := by
  refine ok_data F scRoundsOf (fun ds R h => by obtain ⟨_, _, _, _, _, _, rfl, _⟩ := h; rfl) fun cdv A outer s H vs Q E ds R hr hd hp q => ?_
  obtain ⟨needs, old, wish, part, nxt, u, rfl, ev, hne, hnd, hpw, hl, hu, ch, rfl⟩ := hp
  obtain ⟨v0, v1, rfl, d0, d1⟩ := hd.a2
  refine ws_setDL 2 scRoundsOf.nd (G := H) (dl_1 (fun p : Nat => arD (arOf old wish p)) [("place", 7)] (src_T (j := 7) nI (de_var 1 d1)) (blkOk_by (N := nRoundsOf) (sc := defScope sRoundsOf) (by decide +kernel)) (fun Y hY => by obtain ⟨_, _, _, _, _, rfl⟩ := hY; exact pg_name (i := 7) scRoundsOf.nd rfl (by first | exact .inl rfl | exact .inr rfl))
    (fun a ha Y hY Ha v g e1 => ?el) (fun _ => rfl) (by omega)) (Same.refl H) fun D H1 vs nD s1 hD dvs => ?_
  case el =>
    obtain ⟨_, _, _, _, _, rfl⟩ := hY
    obtain ⟨w1, w2, t, h, w3, w4⟩ := ev.wrong (hpw _ ha)
    rw [arOf_eq w3 w4]
    exact de_call c1 hr (da_cons (de_var 0 (d0.mono g)) (da_cons (de_var 7 e1) da_nil)) ⟨needs, old, wish, a, t, h, rfl, w1, w2, w3, w4, rfl⟩
  obtain ⟨p0, pr, hpp⟩ : ∃ p0 pr, part = p0 :: pr := by
    cases part with
    | nil => exact absurd rfl hne
    | cons p0 pr => exact ⟨p0, pr, rfl⟩
  have dar : DqAll H1 vs ((part.map (arOf old wish)).map arD) := by
    have := dvs.mono off_le
    rw [List.map_map]
    exact this
  have dD : Dq H1 (.ref D) (gD (part.map (arOf old wish))) := .lst hD dar
  have hsm : ∀ a ∈ part.map (arOf old wish), a.1 < 1000 ∧ a.2.1 < 1000 ∧ a.2.2 < 1000 := fun a ha => by
    obtain ⟨p, hp, rfl⟩ := List.mem_map.mp ha
    exact arrow_small ev (List.mem_map.mpr ⟨p, hpw p hp, rfl⟩)
  refine ws_cell2 3 4 scRoundsOf.nd (we_lst (wa_one (DE.go (G := H1) (d := arD (arOf old wish p0)) (de_ixL (ds := (part.map (arOf old wish)).map arD) (de_var 2 dD) de_int (at_map0 (by rw [hpp]; rfl))) (Same.refl H1) fun x0 H2 s2 dx0 => ⟨by simp, fun Fd nF => ?_⟩)))
  have sF : Same H2 (upd H2 Fd (.lst [x0])) := same_new nF
  have eF : (upd H2 Fd (.lst [x0])) Fd = some (.lst [x0]) := upd_same
  generalize upd H2 Fd (.lst [x0]) = H3 at sF eF ⊢
  have s13 := s2.trans sF
  refine we_slL (G := H1) (do_some de_int) do_none (we_var 2 rfl ⟨D, vs, rfl, s13 _ _ hD, s13, fun H4 nl s4 nn H5 s5 => ?_⟩)
  have dcut : DqAll H1 (cutV vs (some 1) none) ((pr.map (arOf old wish)).map arD) := by
    have := dar.cut (some ((1 : Nat) : Int)) none
    rw [cut_from] at this
    rw [hpp] at this
    exact this
  have hnF : nl ≠ Fd := fun z => by rw [z, s4 _ _ eF] at nn; cases nn
  have sN : Same H4 (upd H4 nl (.lst (cutV vs (some 1) none))) := same_new nn
  have eN : (upd H4 nl (.lst (cutV vs (some 1) none))) nl = some (.lst (cutV vs (some 1) none)) := upd_same
  generalize upd H4 nl (.lst (cutV vs (some 1) none)) = H4' at sN eN s5
  have s35 := (s4.trans sN).trans s5
  have nF1 : H1 Fd = none := by
    cases z : H1 Fd with
    | none => rfl
    | some o => rw [s2 _ _ z] at nF; cases nF
  have i0 : RInv old wish part nxt u [] (arOf old wish p0) (pr.map (arOf old wish)) := by
    have hu0 := hu p0 (by rw [hpp]; rfl)
    have hc : Chn nxt (arOf old wish p0 :: pr.map (arOf old wish)) u u := by rw [hpp] at ch; exact ch
    refine ⟨by rw [hpp]; exact List.Perm.refl _, fun i a b h1 h2 => ?_, fun a ha => ?_, ?_⟩
    · simp at h2
    · cases ha; exact hu0
    · have := hc.tail hu0
      rw [hc.hd _ List.mem_cons_self, hu0]
      exact this
  refine ws_while PassesOwn.never (fun m σ H6 => ∃ (nl : Addr) (fvs : List V) (fs left : List Arr) (e : Arr) (y5 y6 : Option V), σ = [some v0, some v1, some (.ref D), some (.ref Fd), some (.ref nl), y5, y6, none, none, none, none] ∧ Same H1 H6 ∧ H6 Fd = some (.lst fvs) ∧ nl ≠ Fd ∧
    DqAll (off H6 Fd) fvs ((fs ++ [e]).map arD) ∧ Dq (off H6 Fd) (.ref nl) (gD left) ∧ m = left.length ∧ RInv old wish part nxt u fs e left) pr.length
    ⟨nl, [x0], [], pr.map (arOf old wish), arOf old wish p0, none, none, rfl, s13.trans s35, s35 _ _ eF, hnF, ?_, ?_, by rw [List.length_map], i0⟩ fun m σ H6 hw => ?_
  · have := DqAll.off (s35 _ _ eF) (ds := [arD (arOf old wish p0)]) rfl (DqAll.one ((dx0.mono sF).mono s35))
    exact this
  · exact Dq.offL noL_arD (s35 _ _ eF) hnF (.lst (s5 _ _ eN) (dcut.mono (s13.trans s35)))
  clear i0 eN s5 sN nn s4 s35 eF dx0 sF s13 hnF dcut
  obtain ⟨nl, fvs, fs, left, e, y5, y6, rfl, s6, eF, hnF, df, dl, rfl, ri⟩ := hw
  have hmem : ∀ a ∈ fs ++ [e] ++ left, a ∈ part.map (arOf old wish) := fun a ha => ri.pm.mem_iff.mp ha
  have hlen : fs.length + 1 + left.length ≤ 60 := by
    have := ri.pm.length_eq
    rw [List.length_append, List.length_append, List.length_map, List.length_singleton] at this
    omega
  have hsl : ∀ a ∈ left, a.1 < 1000 ∧ a.2.1 < 1000 ∧ a.2.2 < 1000 := fun a ha => hsm a (hmem a (List.mem_append_right _ ha))
  have okl : okD 2 (gD left) := okG (by omega) hsl
  refine ((dt_neQ (d := gD left) (d' := .list []) hr (G := H6) (de_var 4 (dl.mono off_le)) (de_lst da_nil (by simp)) (okl.mono (by decide)) okNil).is (congrArg not (eqv_nil left))) H6 _ (Same.refl H6) fun H7 s7 => ?_
  have eF7 := s7 _ _ eF
  have df7 : Dq H7 (.ref Fd) (gD (fs ++ [e])) := .lst eF7 ((df.mono off_le).mono s7)
  by_cases hne2 : left = []
  · rw [if_neg (by simp [hne2])]
    subst hne2
    refine ws_retD (G := H7) (de_tupL B (de_lc ((dl_3 (fun o : Arr => nI o.2.2) [("tail", 9), ("head", 10), ("place", 7)] (src_L3 (j := 9) (k := 10) (l := 7) (fun o : Arr => nI o.1) (fun o => nI o.2.1) (fun o => nI o.2.2) (de_var 3 df7)) (blkOk_by (N := nRoundsOf) (sc := defScope sRoundsOf) (by decide +kernel)) (fun Y hY => by obtain ⟨_, _, _, _, _, rfl⟩ := hY; exact pg_tup rfl (pgs_cons (pg_name (i := 9) scRoundsOf.nd rfl (by first | exact .inl rfl | exact .inr rfl)) (pgs_cons (pg_name (i := 10) scRoundsOf.nd rfl (by first | exact .inl rfl | exact .inr rfl)) (pgs_cons (pg_name (i := 7) scRoundsOf.nd rfl (by first | exact .inl rfl | exact .inr rfl)) (pgs_nil)))) rfl rfl)
      (fun o ho Y hY Hb v2 v3 v4 g2 e2 e3 e4 => ?el2) (fun _ _ _ => rfl) (by rw [List.length_append, List.length_singleton]; omega)).is ?fin2) scRoundsOf.nd)) (Same.refl _) fun v H8 s8 dv => q v H8 _ (((s1.trans s6).trans s7).trans s8) dv ⟨_, rfl, ri.done ev hpw⟩
    case el2 =>
      obtain ⟨_, _, _, _, _, rfl⟩ := hY
      exact de_var 7 e4
    case fin2 => rw [List.map_map]; rfl
  rw [if_pos (by simp [hne2])]
  have dl7 : Dq H7 (.ref nl) (gD left) := (dl.mono off_le).mono s7
  refine ws_forL PassesOwn.never (pg_name (i := 5) scRoundsOf.nd rfl (by first | exact .inl rfl | exact .inr rfl)) (DE.go (G := H7) (de_lc (dl_1i arD (fun a : Arr => decide (a.1 = e.2.1)) [("one", 8)] (src_L (j := 8) arD (de_var 4 dl7)) (blkOk_by (N := nRoundsOf) (sc := defScope sRoundsOf) (by decide +kernel)) (fun Y hY => by obtain ⟨_, _, _, _, _, rfl⟩ := hY; exact pg_name (i := 8) scRoundsOf.nd rfl (by first | exact .inl rfl | exact .inr rfl))
      (fun a ha Y hY Ha v g e1 => ?ts) (fun a ha hp Y hY Ha v g e1 => ?el3) (fun _ => rfl) (by omega)) scRoundsOf.nd) (Same.refl H7) fun v H8 s8 dv => ?_)
  case el3 =>
    obtain ⟨_, _, _, _, _, rfl⟩ := hY
    exact de_var 8 e1
  case ts =>
    obtain ⟨_, _, _, _, _, rfl⟩ := hY
    refine (dt_eq (d := nI a.1) (d' := nI e.2.1) (de_ixT (de_var 8 e1) de_int rfl) (de_ixT (d := nI e.2.1) (de_ixL (d := arD e) (de_var 3 (df7.mono g)) de_m1 (by rw [List.map_append]; exact at_last)) de_int rfl) rfl rfl rfl).is ?_
    rw [decV_n]
  have hcand : (left.filter fun a : Arr => decide (a.1 = e.2.1)) ≠ [] := fun z => by
    have hpos : 0 < left.length := List.length_pos_iff.mpr hne2
    obtain ⟨a, ha, e3⟩ := ri.ch.at hpos
    have := List.filter_eq_nil_iff.mp z a ha
    exact this (decide_eq_true e3)
  cases dv with
  | lst h1 h2 =>
    rename_i cd zs
    have hzl : zs.length = (left.filter fun a : Arr => decide (a.1 = e.2.1)).length := by rw [h2.length, List.length_map]
    have hzp : zs.length ≠ 0 := fun z => hcand (List.eq_nil_of_length_eq_zero (by omega))
    refine ⟨cd, zs, H8, fun i σ H9 => (i = 0 ∧ σ = [some v0, some v1, some (.ref D), some (.ref Fd), some (.ref nl), y5, y6, none, none, none, none]) ∧ Same H8 H9, rfl, h1, Same.refl _, ⟨⟨rfl, rfl⟩, Same.refl _⟩, fun i σ H9 p => p.2, fun i x σ H9 hx p => ?_, fun σ H9 p => absurd p.1.1 hzp⟩
    obtain ⟨⟨rfl, rfl⟩, s9⟩ := p
    have hi : 0 < (left.filter fun a : Arr => decide (a.1 = e.2.1)).length := by omega
    have hc0 := List.getElem?_eq_getElem hi
    have dx := h2.at hc0 hx
    have hcm := List.mem_filter.mp (List.getElem_mem hi)
    generalize (left.filter fun a : Arr => decide (a.1 = e.2.1))[0] = a at dx hcm
    obtain ⟨hal, hae⟩ := hcm
    have hae : a.1 = e.2.1 := of_decide_eq_true hae
    have s79 := s8.trans s9
    have dx9 := dx.mono s9
    have hstep := ri.step hnd hal hae
    refine ws_setDL 6 scRoundsOf.nd (G := H9) (dl_1i arD (fun o : Arr => !decide (o = a)) [("one", 8)] (src_L (j := 8) arD (de_var 4 (dl7.mono s79))) (blkOk_by (N := nRoundsOf) (sc := defScope sRoundsOf) (by decide +kernel)) (fun Y hY => by obtain ⟨_, _, _, _, _, rfl⟩ := hY; exact pg_name (i := 8) scRoundsOf.nd rfl (by first | exact .inl rfl | exact .inr rfl))
      (fun o ho Y hY Ha v g e1 => ?ts3) (fun o ho hp Y hY Ha v g e1 => ?el4) (fun _ => rfl) (by omega)) (Same.refl H9) fun D2 HA vs2 nD2 sA hD2 dvs2 => ?_
    case el4 =>
      obtain ⟨_, _, _, _, _, rfl⟩ := hY
      exact de_var 8 e1
    case ts3 =>
      obtain ⟨_, _, _, _, _, rfl⟩ := hY
      obtain ⟨z1, z2, z3⟩ := hsl a hal
      obtain ⟨z4, z5, z6⟩ := hsl o ho
      refine (dt_neQ (k := 1) ?hrr (de_var 8 e1) (de_var 5 (dx9.mono g)) ((okAr (k := 0) z4 z5 z6).mono (by decide)) ((okAr (k := 0) z1 z2 z3).mono (by decide))).is ?res
      case hrr => exact hr
      case res => rw [inj_arD]
    have e2F : D2 ≠ Fd := fun z => by rw [z, s79 _ _ eF7] at nD2; cases nD2
    have drest : Dq HA (.ref D2) (gD (left.filter fun o : Arr => !decide (o = a))) := .lst hD2 (dvs2.mono off_le)
    have hrl : (left.filter fun o : Arr => !decide (o = a)).length < left.length := by
      have := (filter_perm (ri.nodup hnd) hal).length_eq
      rw [List.length_cons] at this
      omega
    have hhd : ∃ a0, (fs ++ [e]).head? = some a0 := by cases fs <;> exact ⟨_, rfl⟩
    obtain ⟨a0, ha0⟩ := hhd
    have ha0u := ri.hd a0 ha0
    have hix : atI ((fs ++ [e]).map arD) 0 = some (arD a0) := at_map0 (by rw [← List.head?_eq_getElem?]; exact ha0)
    have eFA := sA _ _ (s79 _ _ eF7)
    refine ws_ifD (G := HA) (b := true) (dt_val (de_call c2 hr (ds := [gD (left.filter fun o : Arr => !decide (o = a)), nI a.2.1, nI u]) (da_cons (de_var 6 drest) (da_cons (de_ixT (d := nI a.2.1) (de_var 5 (dx9.mono sA)) de_int rfl) (da_cons (de_ixT (d := nI u) (de_ixL (d := arD a0) (de_var 3 (df7.mono (s79.trans sA))) de_int hix) de_int (by rw [← ha0u]; rfl)) da_nil)))
      ⟨_, a.2.1, u, nxt, rfl, hstep.ch, by omega, fun o ho => hsl o (List.mem_filter.mp ho).1, rfl⟩)) (Same.refl _) (fun _ HB sB => ?_) fun hb => nomatch hb
    have eFB := sB _ _ eFA
    refine ws_expr (we_append (we_var 3 rfl ⟨Fd, fvs, rfl, eFB, we_var 5 rfl ⟨fvs, eFB, ?_, ?_⟩⟩))
    · rw [df.length, List.length_map, List.length_append, List.length_singleton]; omega
    refine ws_set 4 scRoundsOf.nd (we_var 6 rfl ?_)
    have sall : Same H6 HB := ((s7.trans s79).trans sA).trans sB
    have soff : Same (off H6 Fd) (off HB Fd) := same_off (off_le.trans sall) off_same
    refine ws_break (ws_nil ⟨(left.filter fun o : Arr => !decide (o = a)).length, hrl, D2, fvs ++ [x], fs ++ [e], _, a, _, _, rfl, same_mut (s6.trans sall) nF1, upd_same, e2F, ?_, ?_, rfl, hstep⟩)
    · rw [off_upd', List.map_append (l₁ := fs ++ [e])]
      exact (df.mono soff).append (DqAll.one (Dq.off eFB (noL_arD a) ((dx9.mono sA).mono sB)))
    · rw [off_upd']
      exact Dq.offL noL_arD eFB e2F (drest.mono sB)
end
end DL

namespace DL
open PySem PySem.Spec PyProof.Rows L2
section
variable {P : Program} {w : World} {K : PySem.W.Frag} {mg : Str → Option Value} {base : Heap} {f : Addr} {fd : FuncData}
abbrev mvL (by_ : Nat) (lay : Lay) : Lay := lay.map (Option.map (· + by_))
def preMoved (ds : List PyData) (R : PyData → Prop) : Prop := ∃ (lay : Lay) (by_ : Nat), ds = [tO lay, nI by_] ∧ lay.length ≤ 100 ∧ R = (· = tO (mvL by_ lay))
theorem ok_moved_items (F : Fun K "moved_items" "moved_items" sMovedItems f fd) (B : Blt mg) : FnOk P w K mg base CX0 1 f fd ["layout", "by"] (spD preMoved) := by
  refine ok_data F scMovedItems (fun ds R h => by obtain ⟨_, _, rfl, _⟩ := h; rfl) fun cdv A outer s H vs Q E ds R hr hd hp q => ?_
  obtain ⟨lay, n, rfl, hl, rfl⟩ := hp
  obtain ⟨v0, v1, rfl, d0, d1⟩ := hd.a2
  refine ws_retD (G := H) (de_tupL B (de_lc ((dl_1 (fun o : Option Nat => oI (o.map (· + n))) [("item", 2)] (src_T (j := 2) oI (de_var 0 d0)) (blkOk_by (N := nMovedItems) (sc := defScope sMovedItems) (by decide +kernel)) (fun Y hY => by obtain ⟨_, _, _, _, _, rfl⟩ := hY; exact pg_name (i := 2) scMovedItems.nd rfl (by first | exact .inl rfl | exact .inr rfl))
    (fun a ha Y hY Ha v g e1 => ?el) (fun _ => rfl) (by omega)).is ?fin) scMovedItems.nd)) (Same.refl H) fun v H2 s2 dv => q v H2 _ s2 dv rfl
  case el =>
    obtain ⟨_, _, _, _, _, rfl⟩ := hY
    refine de_if (dt_isN (de_var 2 e1)) (fun h => ?_) fun h => ?_
    · cases a with
      | none => exact de_non
      | some a => cases h
    · cases a with
      | none => cases h
      | some a => exact (de_add (i := (a : Int)) (j := (n : Int)) (de_var 2 e1) (de_var 1 (d1.mono g))).is (by show PyData.int _ = .int _; congr 1)
  case fin => rw [List.map_map]; rfl
def preBeside (ds : List PyData) (R : PyData → Prop) : Prop := ∃ (n1 n2 : List Nat) (o1 w1 o2 w2 : Lay), ds = [tTk n1 o1 w1, tTk n2 o2 w2] ∧ n1.length ≤ 60 ∧ n2.length ≤ 60 ∧ o1.length ≤ 60 ∧ w1.length ≤ 60 ∧ o2.length ≤ 60 ∧ w2.length ≤ 60 ∧
  R = (· = tTk (n1 ++ n2) (o1 ++ mvL n1.length o2) (w1 ++ mvL n1.length w2))
theorem ok_beside (F : Fun K "beside" "beside" sBeside f fd) (B : Blt mg) (c1 : Cal P w K mg base 1 "moved_items" (spD preMoved)) : FnOk P w K mg base CX0 2 f fd ["one", "other"] (spD preBeside) := by
  refine ok_data F scBeside (fun ds R h => by obtain ⟨_, _, _, _, _, _, rfl, _⟩ := h; rfl) fun cdv A outer s H vs Q E ds R hr hd hp q => ?_
  obtain ⟨n1, n2, o1, w1, o2, w2, rfl, l1, l2, l3, l4, l5, l6, rfl⟩ := hp
  obtain ⟨v0, v1, rfl, d0, d1⟩ := hd.a2
  refine ws_de 2 scBeside.nd (G := H) (d := nI n1.length) ((de_len B (de_ixT (d := tN n1) (de_var 0 d0) de_int rfl) (.inr rfl)).is (by rw [List.length_map])) (Same.refl H) fun v2 H1 s1 d2 => ?_
  have e0 := d0.mono s1
  have e1 := d1.mono s1
  refine ws_retD (G := H1) (de_tup (da_cons ((de_catT (de_ixT (d := tN n1) (de_var 0 e0) de_int rfl) (de_ixT (d := tN n2) (de_var 1 e1) de_int rfl) (by simp; omega)).is (by rw [← List.map_append]))
    (da_cons ((de_catT (de_ixT (d := tO o1) (de_var 0 e0) de_int rfl) (de_call c1 hr (da_cons (de_ixT (d := tO o2) (de_var 1 e1) de_int rfl) (da_cons (de_var 2 d2) da_nil)) ⟨_, _, rfl, by omega, rfl⟩) (by simp; omega)).is (by rw [← List.map_append]))
    (da_cons ((de_catT (de_ixT (d := tO w1) (de_var 0 e0) de_int rfl) (de_call c1 hr (da_cons (de_ixT (d := tO w2) (de_var 1 e1) de_int rfl) (da_cons (de_var 2 d2) da_nil)) ⟨_, _, rfl, by omega, rfl⟩) (by simp; omega)).is (by rw [← List.map_append])) da_nil))) (by simp)) (Same.refl H1) fun v H2 s2 dv => q v H2 _ (s1.trans s2) dv rfl
def preSpare1 (ds : List PyData) (R : PyData → Prop) : Prop := ∃ (needs : List Nat) (old wish : Lay), ds = [tTk needs old wish, .int 1] ∧ old.length ≤ 60 ∧ wish.length ≤ 60 ∧ R = (· = tTk needs (old ++ [none]) (wish ++ [none]))
theorem ok_with_spare (F : Fun K "with_spare" "with_spare" sWithSpare f fd) (B : Blt mg) : FnOk P w K mg base CX0 1 f fd ["task", "many"] (spD preSpare1) := by
  refine ok_data F scWithSpare (fun ds R h => by obtain ⟨_, _, _, rfl, _⟩ := h; rfl) fun cdv A outer s H vs Q E ds R hr hd hp q => ?_
  obtain ⟨needs, old, wish, rfl, l1, l2, rfl⟩ := hp
  obtain ⟨v0, v1, rfl, d0, d1⟩ := hd.a2
  refine ws_unp3 (G := H) 2 3 4 scWithSpare.nd (de_var 0 d0) (Same.refl H) fun u1 u2 u3 H1 s1 k1 k2 k3 => ?_
  refine ws_retD (G := H1) (de_tup (da_cons (de_var 2 k1)
    (da_cons ((de_catT (de_var 3 k2) (de_rep1 (de_tup (da_cons de_non da_nil) (by simp)) (de_var 1 (d1.mono s1))) (by simp; omega)).is (by show PyData.tuple _ = PyData.tuple _; rw [List.map_append (f := oI)]; rfl))
    (da_cons ((de_catT (de_var 4 k3) (de_rep1 (de_tup (da_cons de_non da_nil) (by simp)) (de_var 1 (d1.mono s1))) (by simp; omega)).is (by show PyData.tuple _ = PyData.tuple _; rw [List.map_append (f := oI)]; rfl)) da_nil))) (by simp)) (Same.refl H1) fun v H2 s2 dv => q v H2 _ (s1.trans s2) dv rfl
abbrev woM (old wish : Lay) (part : List Nat) : Lay := (List.range wish.length).map fun p => if p ∈ part then gt old p else gt wish p
def preWithout (ds : List PyData) (R : PyData → Prop) : Prop := ∃ (needs : List Nat) (old wish : Lay) (i : Nat) (part : List Nat), ds = [tTk needs old wish, nI i] ∧ Ev needs old wish ∧ (partsM old wish)[i]? = some part ∧ R = (· = tTk needs old (woM old wish part))
theorem ok_without_part (F : Fun K "without_part" "without_part" sWithoutPart f fd) (B : Blt mg) (c1 : Cal P w K mg base 4 "closed_parts" (spD preClosedParts)) : FnOk P w K mg base CX0 5 f fd ["task", "index"] (spD preWithout) := by
  refine ok_data F scWithoutPart (fun ds R h => by obtain ⟨_, _, _, _, _, rfl, _⟩ := h; rfl) fun cdv A outer s H vs Q E ds R hr hd hp q => ?_
  obtain ⟨needs, old, wish, i, part, rfl, ev, hi, rfl⟩ := hp
  obtain ⟨v0, v1, rfl, d0, d1⟩ := hd.a2
  have hwl := ev.wl
  have hle := ev.len
  refine ws_unp3 (G := H) 2 3 4 scWithoutPart.nd (de_var 0 d0) (Same.refl H) fun u1 u2 u3 H1 s1 k1 k2 k3 => ?_
  refine ws_de 5 scWithoutPart.nd (G := H1) (d := tN part) (de_ixL (de_call c1 hr (da_cons (de_var 0 (d0.mono s1)) da_nil) ⟨needs, old, wish, rfl, ev, rfl⟩) (de_var 1 (d1.mono s1)) (at_map hi)) (Same.refl H1) fun v5 H2 s2 d5 => ?_
  refine ws_retD (G := H2) (de_tup (da_cons (de_var 2 (k1.mono s2)) (da_cons (de_var 3 (k2.mono s2)) (da_cons (de_tupL B (de_lc ((dl_2 (fun (q : Option Nat × Nat) => oI (if q.2 ∈ part then gt old q.2 else q.1)) [("place", 6), ("item", 7)] (src_E (j := 6) (k := 7) B oI (de_var 4 (k3.mono s2))) (blkOk_by (N := nWithoutPart) (sc := defScope sWithoutPart) (by decide +kernel))
    (fun Y hY => by obtain ⟨_, _, _, _, _, rfl⟩ := hY; exact pg_tup rfl (pgs_cons (pg_name (i := 6) scWithoutPart.nd rfl (by first | exact .inl rfl | exact .inr rfl)) (pgs_cons (pg_name (i := 7) scWithoutPart.nd rfl (by first | exact .inl rfl | exact .inr rfl)) (pgs_nil))) rfl rfl) (fun a ha Y hY Ha v w g e1 e2 => ?el) (fun _ _ => rfl) (by rw [List.length_zipIdx]; omega)).is ?fin) scWithoutPart.nd)) da_nil))) (by simp)) (Same.refl H2) fun v H3 s3 dv => q v H3 _ ((s1.trans s2).trans s3) dv rfl
  case el =>
    obtain ⟨_, _, _, _, _, rfl⟩ := hY
    obtain ⟨h1, h2⟩ := zipIdx_mem ha
    refine de_if ((dt_in (d := nI a.2) (ds := part.map nI) (de_var 6 e1) (de_var 5 (d5.mono g)) (.inr rfl) rfl (flatN part)).is (memD_N _ _)) (fun h => ?_) fun h => ?_
    · rw [if_pos (of_decide_eq_true h)]
      exact de_ixT (de_var 3 (k2.mono (s2.trans g))) (de_var 6 e1) (at_map (gt_at (by omega)))
    · rw [if_neg (of_decide_eq_false h)]
      exact de_var 7 e2
  case fin =>
    rw [zipIdx_m none wish fun o i => oI (if i ∈ part then gt old i else o), List.map_map]
    rfl
/-! ### renamed -/
abbrev rnL (values places : List Nat) (lay : Lay) : Lay := places.map fun p => (gt lay p).map values.idxOf
theorem noL_tO (l : Lay) : noL (tO l) = true := by
  show noLs (l.map oI) = true
  exact noLs_map (enc := oI) (fun o => by cases o <;> rfl) l
def preRenamed (ds : List PyData) (R : PyData → Prop) : Prop := ∃ (needs : List Nat) (old wish : Lay) (values places : List Nat), ds = [tTk needs old wish, tN values, tN places] ∧ values.length ≤ 60 ∧ places.length ≤ 60 ∧ (∀ v ∈ values, v < needs.length) ∧
  (∀ p ∈ places, p < old.length ∧ p < wish.length) ∧ (∀ p v, gt old p = some v → v ∈ values) ∧ (∀ p v, gt wish p = some v → v ∈ values) ∧ R = (· = tTk (values.map fun v => needs.getD v 0) (rnL values places old) (rnL values places wish))
theorem ok_renamed (F : Fun K "renamed" "renamed" sRenamed f fd) (B : Blt mg) : FnOk P w K mg base CX0 1 f fd ["task", "values", "places"] (spD preRenamed) := by
  refine ok_data F scRenamed (fun ds R h => by obtain ⟨_, _, _, _, _, rfl, _⟩ := h; rfl) fun cdv A outer s H vs Q E ds R hr hd hp q => ?_
  obtain ⟨needs, old, wish, values, places, rfl, hvl, hpl, hv, hpp, ho, hw, rfl⟩ := hp
  obtain ⟨v0, v1, v2, rfl, d0, d1, d2⟩ := hd.a3
  refine ws_unp3 (G := H) 3 4 5 scRenamed.nd (de_var 0 d0) (Same.refl H) fun u1 u2 u3 H1 s1 k1 k2 k3 => ?_
  refine ws_set 6 scRenamed.nd (we_nil fun L nL => ?_)
  have sL : Same H1 (upd H1 L (.lst [])) := same_new nL
  have eL : (upd H1 L (.lst [])) L = some (.lst []) := upd_same
  generalize upd H1 L (.lst []) = H2 at sL eL ⊢
  refine ws_forT PassesOwn.never (pg_name (i := 7) scRenamed.nd rfl (by first | exact .inl rfl | exact .inr rfl)) (DE.go (G := H2) (d := .tuple ([old, wish].map tO)) (de_tup (da_cons (de_var 4 (k2.mono sL)) (da_cons (de_var 5 (k3.mono sL)) da_nil)) (by simp)) (Same.refl H2) fun v H3 s3 dv => ?_)
  have eL3 := s3 _ _ eL
  have dv0 : Dq (off H3 L) v (.tuple ([old, wish].map tO)) := Dq.off eL3 (by
    show noLs ([old, wish].map tO) = true
    exact noLs_map (enc := tO) noL_tO _) dv
  have g3 : Same (off H3 L) H3 := off_le
  have L0 : off H3 L L = none := off_same
  have g1 : Same H1 (off H3 L) := same_off (sL.trans s3) nL
  cases dv0 with
  | tup t1 e1 =>
    rename_i a ys
    refine ⟨a, ys, off H3 L, fun i σ H4 => (∃ y7 y8 ws, σ = [some v0, some v1, some v2, some u1, some u2, some u3, some (.ref L), y7, y8, none, none, none] ∧ H4 L = some (.lst ws) ∧ DqAll (off H4 L) ws (([old, wish].take i).map fun l => tO (rnL values places l))) ∧ Same (off H3 L) H4,
      rfl, t1, g3, ⟨⟨none, none, [], rfl, eL3, .nil⟩, g3⟩, fun i σ H4 p => p.2, fun i x σ H4 hx p => ?_, fun σ H4 p => ?_⟩
    · obtain ⟨⟨y7, y8, ws, rfl, eL4, dw⟩, s4⟩ := p
      have hi : i < [old, wish].length := by
        have := (List.getElem?_eq_some_iff.mp hx).1
        rw [e1.length, List.length_map] at this
        exact this
      have hli := List.getElem?_eq_getElem hi
      have dx := e1.at hli hx
      have hlm : [old, wish][i] = old ∨ [old, wish][i] = wish := by
        have := List.getElem_mem hi
        simp only [List.mem_cons, List.not_mem_nil, or_false] at this
        exact this
      have htk : [old, wish].take (i + 1) = [old, wish].take i ++ [[old, wish][i]] := by rw [List.take_add_one, hli]; rfl
      have hwl : ws.length ≤ 2 := by
        rw [dw.length, List.length_map, List.length_take]
        show min i 2 ≤ 2
        omega
      generalize [old, wish][i] = lay at dx hlm htk
      have hlp : ∀ p ∈ places, p < lay.length := fun p hp => by
        rcases hlm with e | e
        · rw [e]; exact (hpp p hp).1
        · rw [e]; exact (hpp p hp).2
      have hlv : ∀ p v, gt lay p = some v → v ∈ values := fun p v h => by
        rcases hlm with e | e
        · rw [e] at h; exact ho p v h
        · rw [e] at h; exact hw p v h
      have g14 := g1.trans s4
      have sH4 := s1.trans g14
      refine ws_setDL 8 scRenamed.nd (G := H4) (dl_1 (fun p : Nat => oI (gt lay p)) [("place", 9)] (src_T (j := 9) nI (de_var 2 (d2.mono sH4))) (blkOk_by (N := nRenamed) (sc := defScope sRenamed) (by decide +kernel)) (fun Y hY => by obtain ⟨_, _, _, _, _, rfl⟩ := hY; exact pg_name (i := 9) scRenamed.nd rfl (by first | exact .inl rfl | exact .inr rfl))
        (fun a ha Y hY Ha v g e1 => ?el) (fun _ => rfl) (by omega)) (Same.refl H4) fun D H5 vs5 nD s5 hD dvs => ?_
      case el =>
        obtain ⟨_, _, _, _, _, rfl⟩ := hY
        exact de_ixT (de_var 7 (dx.mono (s4.trans g))) (de_var 9 e1) (at_map (gt_at (hlp _ ha)))
      have di : Dq H5 (.ref D) (lO (places.map fun p => gt lay p)) := by
        refine .lst hD ?_
        rw [List.map_map]
        exact dvs.mono off_le
      have eL5 := s5 _ _ eL4
      refine ws_expr (we_append (we_var 6 rfl ⟨L, ws, rfl, eL5, DE.go (G := H5) (d := tO (rnL values places lay)) (de_tupL B (de_lc ((dl_1 (fun o : Option Nat => oI (o.map values.idxOf)) [("item", 10)] (src_L (j := 10) oI (de_var 8 di)) (blkOk_by (N := nRenamed) (sc := defScope sRenamed) (by decide +kernel)) (fun Y hY => by obtain ⟨_, _, _, _, _, rfl⟩ := hY; exact pg_name (i := 10) scRenamed.nd rfl (by first | exact .inl rfl | exact .inr rfl))
        (fun a ha Y hY Ha v g e1 => ?el2) (fun _ => rfl) (by rw [List.length_map]; omega)).is ?fin) scRenamed.nd)) (Same.refl H5) fun v6 H6 s6 d6 => ?_⟩))
      case el2 =>
        obtain ⟨_, _, _, _, _, rfl⟩ := hY
        obtain ⟨p, hp, hpa⟩ := List.mem_map.mp ha
        refine de_if (dt_isN (de_var 10 e1)) (fun h => ?_) fun h => ?_
        · cases a with
          | none => exact de_non
          | some a => cases h
        · cases a with
          | none => cases h
          | some x =>
            have hx : x ∈ values := hlv p x hpa
            have hlt : values.idxOf x < values.length := List.idxOf_lt_length_of_mem hx
            refine (de_index (d := nI x) (ds := values.map nI) (j := values.idxOf x) (z := nI x) (de_var 1 (d1.mono (sH4.trans (s5.trans g)))) (de_var 10 e1) rfl (flatN values) ?_ ((eqV_nI x x).trans (by simp)) fun m y hm hy => ?_).is rfl
            · rw [List.getElem?_map, List.getElem?_eq_getElem hlt, List.getElem_idxOf]; rfl
            · rw [List.getElem?_map] at hy
              obtain ⟨z, hz, rfl⟩ := Option.map_eq_some_iff.mp hy
              refine (eqV_nI z x).trans ?_
              rw [beq_eq_false_iff_ne]
              intro e
              subst e
              obtain ⟨h3, h4⟩ := List.getElem?_eq_some_iff.mp hz
              have h5 := List.not_of_lt_findIdx (p := (· == z)) (xs := values) hm
              have h6 : (values[m] == z) = false := h5
              rw [h4, beq_self_eq_true] at h6
              cases h6
      case fin => rw [List.map_map, List.map_map]; rfl
      have eL6 := s6 _ _ eL5
      refine ⟨ws, eL6, by omega, ws_nil ⟨⟨_, _, _, rfl, upd_same, ?_⟩, same_mut (s4.trans (s5.trans s6)) L0⟩⟩
      rw [off_upd', htk, List.map_append]
      exact (dw.mono (same_off (off_le.trans (s5.trans s6)) off_same)).append (DqAll.one (Dq.off eL6 (noL_tO _) d6))
    · obtain ⟨⟨y7, y8, ws, rfl, eL4, dw⟩, s4⟩ := p
      have hy2 : ys.length = 2 := by rw [e1.length]; rfl
      rw [hy2] at dw
      have g14 := g1.trans s4
      refine ws_retD (G := H4) ((de_tup (da_cons (de_tupL B (de_lc (dl_1 (fun v : Nat => nI (needs.getD v 0)) [("value", 11)] (src_T (j := 11) nI (de_var 1 (d1.mono (s1.trans g14)))) (blkOk_by (N := nRenamed) (sc := defScope sRenamed) (by decide +kernel)) (fun Y hY => by obtain ⟨_, _, _, _, _, rfl⟩ := hY; exact pg_name (i := 11) scRenamed.nd rfl (by first | exact .inl rfl | exact .inr rfl))
        (fun a ha Y hY Ha v g e1 => ?el3) (fun _ => rfl) (by omega)) scRenamed.nd)) (da_star (xs := [tO (rnL values places old), tO (rnL values places wish)]) (de_var 6 (.lst eL4 (dw.mono off_le))) (.inl rfl) da_nil)) (by simp)).is ?fin3) (Same.refl H4) fun v H5 s5 dv => q v H5 _ (s1.trans (g14.trans s5)) dv rfl
      case el3 =>
        obtain ⟨_, _, _, _, _, rfl⟩ := hY
        have h := hv a ha
        exact de_ixT (de_var 3 (k1.mono (g14.trans g))) (de_var 11 e1) (at_map (by rw [List.getD_eq_getElem?_getD, List.getElem?_eq_getElem h]; rfl))
      case fin3 =>
        show PyData.tuple [PyData.tuple (values.map fun v => nI (needs.getD v 0)), _, _] = PyData.tuple [PyData.tuple ((values.map fun v => needs.getD v 0).map nI), _, _]
        rw [List.map_map]
        rfl
end
end DL

namespace DL
open PySem PySem.Spec PyProof.Rows L2
section
variable {P : Program} {w : World} {K : PySem.W.Frag} {mg : Str → Option Value} {base : Heap} {f : Addr} {fd : FuncData}
section
variable {x qual : Str} {st : Stmt} {N ps : List Str} {k : Nat}
theorem ok_dataG {pre : List PyData → (PyData → Prop) → Prop} (F : Fun K x qual st f fd) (S : FnScope N ps (defScope st)) (len : ∀ ds R, pre ds R → ds.length = ps.length)
    (hb : ∀ (cdv : Value) (A : Around) (outer : List Env) (s : Shared) (H : Hp) (vs : List V) (Q : VK) (E : XK) (ds : List PyData) (R : PyData → Prop), (XOf P w K mg base N qual st f cdv A outer s H E).A.guards = some [] → Room k (XOf P w K mg base N qual st f cdv A outer s H E).A → DqAll H vs ds → pre ds R →
      (∀ v H2 d, Same H H2 → Dq H2 v d → R d → Q v H2) → WS (XOf P w K mg base N qual st f cdv A outer s H E) (defBody st) { nx := fun _ H' => Q .non H', rt := Q } (start N vs) H) : FnG P w K mg base (k + 1) f fd ps (spD pre) :=
  ok_defG F S (fun vs H Q E h => by
    obtain ⟨ds, R, h1, h2, _⟩ := h
    rw [h1.length]
    exact len ds R h2) fun cdv A outer s H vs Q E hg hr h => by
      obtain ⟨ds, R, h1, h2, h3⟩ := h
      exact hb cdv A outer s H vs Q E ds R hg hr h1 h2 h3
end
section
variable {X : Cx} {σ : L2.St} {G : Hp} {d : PyData}
theorem de_callG {x : Str} {p pos : Pos} {a : Expr} {es : List Expr} {k : Nat} {ds : List PyData} {pre : List PyData → (PyData → Prop) → Prop} (c : CalG X.prog X.w X.K X.mg X.base k x (spD pre)) (hgd : X.A.guards = some []) (hr : Room k X.A) (h : DA X (a :: es) σ G ds) (hp : pre ds (· = d))
    (hg : Gl X x := by rfl) (hdb : (x == ("__debug__" : Str)) = false := by decide) (he : starEach (a :: es) X.env = (false, eval a X.env) :: starEach es X.env := by rfl) (hpl : (backTo pos (starEach es X.env)).any (·.1) = false := by rfl) :
    DE X (.Call (.Name x p) (a :: es) [] pos) σ G d := fun H Q g q =>
  we_callG c hgd hr (h H _ g fun vs H1 s1 dvs => ⟨ds, _, dvs, hp, fun v H2 e s2 dv he => by subst he; exact q v H2 (s1.trans s2) dv⟩) hg hdb he hpl
end
def preAlike (ds : List PyData) (R : PyData → Prop) : Prop := ∃ xs, ds = [.list xs, .list xs] ∧ okD 3 (.list xs) ∧ R = (· = .bool true)
theorem ok_alike (F : Fun K "_law_alike" "_law_alike" sLawAlike f fd) (B : Blt mg) : FnG P w K mg base 1 f fd ["_law_found", "_law_due"] (spD preAlike) := by
  refine ok_dataG F scLawAlike (fun ds R h => by obtain ⟨_, rfl, _⟩ := h; rfl) fun cdv A outer s H vs Q E ds R hgd hr hd hp q => ?_
  obtain ⟨xs, rfl, ok, rfl⟩ := hp
  obtain ⟨v0, v1, rfl, d0, d1⟩ := hd.a2
  have e1 : PyData.eqv (.list xs) (.list xs) = true := SeqAt.eqv_refl _ (ok_facts 3 _ ok).1
  refine ws_retD (G := H) ((de_and (k := true) (m := true) ((de_eqQ (d := .list xs) (d' := .list xs) hr (de_var 0 d0) (de_var 1 d1) (ok.mono (by decide)) (ok.mono (by decide))).is (by rw [e1])) fun _ H1 Q1 g1 q1 =>
    we_cmp op_eq (nomark _) (we_repr B hgd hr (de_var 0 d0) g1 ok (.inl rfl) fun H2 s2 => we_repr B hgd hr (de_var 1 d1) (g1.trans s2) ok (.inl rfl) fun H3 s3 => ⟨rfl, ?_⟩)).is rfl) (Same.refl H) fun v H2 s2 dv => q v H2 _ s2 dv rfl
  rw [decide_eq_true rfl]
  exact q1 _ H3 (s2.trans s3) (.bl true)
def preStand (ds : List PyData) (R : PyData → Prop) : Prop := ∃ (needs : List Nat) (lay : Lay), ds = [tN needs, lO lay] ∧ needs.length ≤ 100 ∧ lay.length ≤ 100 ∧ R = (· = lN ((List.range needs.length).map fun v => lay.count (some v)))
theorem ok_law_standings (F : Fun K "_law_standings" "_law_standings" sLawStandings f fd) (B : Blt mg) : FnOk P w K mg base CX0 1 f fd ["_law_needs", "_law_layout"] (spD preStand) := by
  refine ok_data F scLawStandings (fun ds R h => by obtain ⟨_, _, rfl, _⟩ := h; rfl) fun cdv A outer s H vs Q E ds R hr hd hp q => ?_
  obtain ⟨needs, lay, rfl, l1, l2, rfl⟩ := hp
  obtain ⟨v0, v1, rfl, d0, d1⟩ := hd.a2
  refine ws_retD (G := H) (de_lc ((dl_1 (fun v : Nat => nI (lay.count (some v))) [("_law_value", 3)] (src_R (j := 3) (n := needs.length) B ((de_len B (de_var 0 d0) (.inr rfl)).is (by rw [List.length_map])) (by omega)) (blkOk_by (N := nLawStandings) (sc := defScope sLawStandings) (by decide +kernel)) (fun Y hY => by obtain ⟨_, _, _, _, _, rfl⟩ := hY; exact pg_name (i := 3) scLawStandings.nd rfl (by first | exact .inl rfl | exact .inr rfl))
    (fun a ha Y hY Ha v g e1 => ?el) (fun _ => rfl) (by rw [List.length_range]; omega)).is ?fin) scLawStandings.nd) (Same.refl H) fun v H2 s2 dv => q v H2 _ s2 dv rfl
  case fin => rw [List.map_map]; rfl
  case el =>
    obtain ⟨_, _, _, _, _, rfl⟩ := hY
    refine (de_len B (de_lc (dl_1i oI (fun o : Option Nat => decide (o = some a)) [("_law_item", 2)] (src_L (j := 2) oI (de_var 1 (d1.mono g))) (by show BlkOk nLawStandings (relS _ (defScope sLawStandings)) _ _; exact blkOk_by (by decide +kernel)) (fun Y hY => by obtain ⟨_, _, _, _, _, rfl⟩ := hY; exact pg_name (i := 2) scLawStandings.nd rfl (by first | exact .inl rfl | exact .inr rfl))
      (fun o ho Y hY Hb v2 g2 e2 => ?ts) (fun o ho hp Y hY Hb v2 g2 e2 => ?el2) (fun _ => rfl) (by omega)) scLawStandings.nd) (.inl rfl)).is ?res
    case el2 =>
      obtain ⟨_, _, _, _, _, rfl⟩ := hY
      exact de_var 2 e2
    case ts =>
      obtain ⟨_, _, _, _, _, rfl⟩ := hY
      exact (dt_eq (d := oI o) (d' := oI (some a)) (de_var 2 e2) (de_var 3 (e1.mono g2)) (oI_flat _) rfl (scD_o _ _)).is (decV_o _ _)
    case res =>
      rw [List.length_map, List.count_eq_countP, List.countP_eq_length_filter]
      refine congrArg (fun l : List (Option Nat) => nI l.length) (List.filter_congr fun o _ => ?_)
      rw [Bool.eq_iff_iff]; simp
def preLRooms (ds : List PyData) (R : PyData → Prop) : Prop := ∃ (needs : List Nat) (lay : Lay), ds = [tN needs, lO lay] ∧ needs.length ≤ 100 ∧ lay.length ≤ 100 ∧ R = (· = .list ((((List.range needs.length).map fun v => lay.count (some v)).zip needs).map fun q => .int ((q.1 : Nat) - (q.2 : Nat) : Int)))
theorem ok_law_rooms (F : Fun K "_law_rooms" "_law_rooms" sLawRooms f fd) (B : Blt mg) (c1 : Cal P w K mg base 1 "_law_standings" (spD preStand)) : FnOk P w K mg base CX0 2 f fd ["_law_needs", "_law_layout"] (spD preLRooms) := by
  refine ok_data F scLawRooms (fun ds R h => by obtain ⟨_, _, rfl, _⟩ := h; rfl) fun cdv A outer s H vs Q E ds R hr hd hp q => ?_
  obtain ⟨needs, lay, rfl, l1, l2, rfl⟩ := hp
  obtain ⟨v0, v1, rfl, d0, d1⟩ := hd.a2
  refine ws_retD (G := H) (de_lc (dl_2 (fun q : Nat × Nat => .int ((q.1 : Nat) - (q.2 : Nat) : Int)) [("_law_many", 2), ("_law_need", 3)] (src_ZM (j := 2) (k := 3) B nI nI (de_call c1 hr (da_cons (de_var 0 d0) (da_cons (de_var 1 d1) da_nil)) ⟨needs, lay, rfl, l1, l2, rfl⟩) (de_var 0 d0)) (blkOk_by (N := nLawRooms) (sc := defScope sLawRooms) (by decide +kernel)) (fun Y hY => by obtain ⟨_, _, _, _, _, rfl⟩ := hY; exact pg_tup rfl (pgs_cons (pg_name (i := 2) scLawRooms.nd rfl (by first | exact .inl rfl | exact .inr rfl)) (pgs_cons (pg_name (i := 3) scLawRooms.nd rfl (by first | exact .inl rfl | exact .inr rfl)) (pgs_nil))) rfl rfl)
    (fun a ha Y hY Ha v w g e1 e2 => ?el) (fun _ _ => rfl) (by rw [List.length_zip]; omega)) scLawRooms.nd) (Same.refl H) fun v H2 s2 dv => q v H2 _ s2 dv rfl
  case el =>
    obtain ⟨_, _, _, _, _, rfl⟩ := hY
    exact de_sub (de_var 2 e1) (de_var 3 e2)
def preLWrong (ds : List PyData) (R : PyData → Prop) : Prop := ∃ needs old wish, ds = [tTk needs old wish] ∧ old.length = wish.length ∧ wish.length ≤ 100 ∧ R = (· = lN (wrongs old wish))
theorem ok_law_wrong (F : Fun K "_law_wrong" "_law_wrong" sLawWrong f fd) (B : Blt mg) : FnOk P w K mg base CX0 1 f fd ["_law_task"] (spD preLWrong) := by
  refine ok_data F scLawWrong (fun ds R h => by obtain ⟨_, _, _, rfl, _⟩ := h; rfl) fun cdv A outer s H vs Q E ds R hr hd hp q => ?_
  obtain ⟨needs, old, wish, rfl, hl, hl2, rfl⟩ := hp
  obtain ⟨v0, rfl, d0⟩ := hd.a1
  refine ws_unp3 (G := H) 1 2 3 scLawWrong.nd (de_var 0 d0) (Same.refl H) fun u1 u2 u3 H1 s1 k1 k2 k3 => ?_
  refine ws_retD (G := H1) (de_lc ((dl_1i nI (fun p => (gt wish p).isSome && decide (gt wish p ≠ gt old p)) [("_law_at", 4)] (src_R (j := 4) (n := wish.length) B ((de_len B (de_var 2 k2) (.inr rfl)).is (by rw [List.length_map, hl])) (by omega)) (blkOk_by (N := nLawWrong) (sc := defScope sLawWrong) (by decide +kernel)) (fun Y hY => by obtain ⟨_, _, _, _, _, rfl⟩ := hY; exact pg_name (i := 4) scLawWrong.nd rfl (by first | exact .inl rfl | exact .inr rfl))
    (fun a ha Y hY Ha v g e1 => ?ts) (fun a ha hp Y hY Ha v g e1 => ?el) (fun _ => rfl) (by rw [List.length_range]; omega))) scLawWrong.nd) (Same.refl _) fun v H2 s2 dv => q v H2 _ (s1.trans s2) dv rfl
  case el =>
    obtain ⟨_, _, _, _, _, rfl⟩ := hY
    exact de_var 4 e1
  case ts =>
    obtain ⟨_, _, _, _, _, rfl⟩ := hY
    have hp := List.mem_range.mp ha
    refine (dt_and (dt_notN (d := oI (gt wish a)) (de_ixT (de_var 3 (k3.mono g)) (de_var 4 e1) (at_map (gt_at hp)))) fun _ => dt_ne (d := oI (gt wish a)) (d' := oI (gt old a)) (de_ixT (de_var 3 (k3.mono g)) (de_var 4 e1) (at_map (gt_at hp))) (de_ixT (de_var 2 (k2.mono g)) (de_var 4 e1) (at_map (gt_at (by omega)))) (oI_flat _) (oI_flat _) (scD_o _ _)).is ?_
    rw [isNone_oI, decV_o]
    cases gt wish a <;> simp
def preLFree (ds : List PyData) (R : PyData → Prop) : Prop := ∃ needs old wish, ds = [tTk needs old wish] ∧ wish.length ≤ 1000 ∧ R = (· = tN (frees wish))
theorem ok_law_free (F : Fun K "_law_free" "_law_free" sLawFree f fd) (B : Blt mg) : FnOk P w K mg base CX0 1 f fd ["_law_task"] (spD preLFree) := by
  refine ok_data F scLawFree (fun ds R h => by obtain ⟨_, _, _, rfl, _⟩ := h; rfl) fun cdv A outer s H vs Q E ds R hr hd hp q => ?_
  obtain ⟨needs, old, wish, rfl, hl2, rfl⟩ := hp
  obtain ⟨v0, rfl, d0⟩ := hd.a1
  refine ws_retD (G := H) (de_tupL B (de_lc ((dl_2i (fun (q : Option Nat × Nat) => nI q.2) (fun q => q.1.isNone) [("_law_at", 1), ("_law_item", 2)] (src_E (j := 1) (k := 2) B oI (de_ixT (de_var 0 d0) de_int rfl)) (blkOk_by (N := nLawFree) (sc := defScope sLawFree) (by decide +kernel))
    (fun Y hY => by obtain ⟨_, _, _, _, _, rfl⟩ := hY; exact pg_tup rfl (pgs_cons (pg_name (i := 1) scLawFree.nd rfl (by first | exact .inl rfl | exact .inr rfl)) (pgs_cons (pg_name (i := 2) scLawFree.nd rfl (by first | exact .inl rfl | exact .inr rfl)) (pgs_nil))) rfl rfl) (fun a ha Y hY Ha v w g e1 e2 => ?ts) (fun a ha hp Y hY Ha v w g e1 e2 => ?el) (fun _ _ => rfl) (by rw [List.length_zipIdx]; omega)).is ?fin) scLawFree.nd)) (Same.refl _) fun v H2 s2 dv => q v H2 _ s2 dv rfl
  case el =>
    obtain ⟨_, _, _, _, _, rfl⟩ := hY
    exact de_var 1 e1
  case ts =>
    obtain ⟨_, _, _, _, _, rfl⟩ := hY
    exact (dt_isN (de_var 2 e2)).is (isNone_oI _)
  case fin => exact zipIdx_fm none wish (fun o i => o.isNone) fun o i => nI i
def preLCan (ds : List PyData) (R : PyData → Prop) : Prop := ∃ (lay : Lay) (st : List Cp), ds = [tO lay, stD st] ∧ (∀ c ∈ st, c.2 < lay.length ∧ c.2 < 1000) ∧ st.length ≤ 64 ∧ R = (· = .bool (canDo lay st))
theorem eqv_nilN (xs : List Nat) : PyData.eqv (lN xs) (.list []) = decide (xs = []) := inj_list inj_nI xs []
theorem eqv_nilI (xs : List Int) : PyData.eqv (.list (xs.map .int)) (.list []) = decide (xs = []) := inj_list (fun a b => by simp only [PyData.eqv]; rw [Bool.eq_iff_iff]; simp) xs []
theorem ok_law_can (F : Fun K "_law_can_be_done" "_law_can_be_done" sLawCanBeDone f fd) (B : Blt mg) : FnOk P w K mg base CX0 1 f fd ["_law_layout", "_law_stretch"] (spD preLCan) := by
  refine ok_data F scLawCanBeDone (fun ds R h => by obtain ⟨_, _, rfl, _⟩ := h; rfl) fun cdv A outer s H vs Q E ds R hr hd hp q => ?_
  obtain ⟨lay, st, rfl, hc, hl, rfl⟩ := hp
  obtain ⟨v0, v1, rfl, d0, d1⟩ := hd.a2
  refine ws_retD (G := H) ((de_eqQ (d := lN ((st.filter fun c => (gt lay c.2).isNone).map (·.2))) (d' := .list []) hr (de_lc ((dl_2i (fun (c : Cp) => nI c.2) (fun c => (gt lay c.2).isNone) [("_law_place", 2), ("_law_source", 3)] (src_T2 (j := 2) (k := 3) (fun c : Cp => nI c.1) (fun c => nI c.2) (de_var 1 d1)) (blkOk_by (N := nLawCanBeDone) (sc := defScope sLawCanBeDone) (by decide +kernel))
    (fun Y hY => by obtain ⟨_, _, _, _, _, rfl⟩ := hY; exact pg_tup rfl (pgs_cons (pg_name (i := 2) scLawCanBeDone.nd rfl (by first | exact .inl rfl | exact .inr rfl)) (pgs_cons (pg_name (i := 3) scLawCanBeDone.nd rfl (by first | exact .inl rfl | exact .inr rfl)) (pgs_nil))) rfl rfl) (fun a ha Y hY Ha v w g e1 e2 => ?ts) (fun a ha hp Y hY Ha v w g e1 e2 => ?el) (fun _ _ => rfl) (by omega)).is ?fin) scLawCanBeDone.nd) (de_lst da_nil (by simp)) ?ok okNil).is ?res) (Same.refl _) fun v H2 s2 dv => q v H2 _ s2 dv rfl
  case el =>
    obtain ⟨_, _, _, _, _, rfl⟩ := hY
    exact de_var 3 e2
  case ts =>
    obtain ⟨_, _, _, _, _, rfl⟩ := hY
    exact (dt_isN (d := oI (gt lay a.2)) (de_ixT (de_var 0 (d0.mono g)) (de_var 3 e2) (at_map (gt_at (hc _ ha).1)))).is (isNone_oI _)
  case fin => rw [List.map_map]; rfl
  case ok => exact (okL (k := 0) (by rw [List.length_map]; exact Nat.le_trans (List.length_filter_le _ _) hl) fun x hx => by
      obtain ⟨c, hcm, rfl⟩ := List.mem_map.mp hx
      exact okN (hc c (List.mem_filter.mp hcm).1).2).mono (by decide)
  case res =>
    rw [eqv_nilN]
    congr 1
    unfold canDo
    rw [Bool.eq_iff_iff, decide_eq_true_iff, List.map_eq_nil_iff, List.filter_eq_nil_iff, List.all_eq_true]
    refine forall_congr' fun c => forall_congr' fun _ => ?_
    cases gt lay c.2 <;> simp
theorem ok_law_led (F : Fun K "_law_led" "_law_led" sLawLed f fd) (B : Blt mg) : FnOk P w K mg base CX0 1 f fd ["_law_layout", "_law_stretch"] (spD preLed) := by
  refine ok_data F scLawLed (fun ds R h => by obtain ⟨_, _, rfl, _⟩ := h; rfl) fun cdv A outer s H vs Q E ds R hr hd hp q => ?_
  obtain ⟨lay, st, rfl, hc, hl, rfl⟩ := hp
  obtain ⟨v0, v1, rfl, d0, d1⟩ := hd.a2
  obtain ⟨a0, rfl, t0⟩ := d0.lay
  refine ws_set 2 scLawLed.nd (we_list B (we_var 0 rfl ⟨a0, _, rfl, .inr t0, fun l nl => ?_⟩))
  cases d1 with
  | tup t1 e1 =>
    rename_i a1 ys
    have s0 : Same H (upd H l (.lst (lay.map oV))) := same_new nl
    refine ws_forT PassesOwn.never (pg_tup rfl (pgs_cons (pg_name (i := 3) scLawLed.nd rfl (by first | exact .inl rfl | exact .inr rfl)) (pgs_cons (pg_name (i := 4) scLawLed.nd rfl (by first | exact .inl rfl | exact .inr rfl)) (pgs_nil))) rfl rfl) (we_var 1 rfl ⟨a1, ys, H, fun i σ H1 => (∃ y3 y4, σ = [some (.ref a0), some (.ref a1), some (.ref l), y3, y4]) ∧ Same H H1 ∧ H1 l = some (.lst (((st.take i).foldl (fun f c => f.set c.1 (gt lay c.2)) lay).map oV)),
      rfl, t1, s0, ⟨⟨none, none, rfl⟩, s0, upd_same⟩, fun i σ H1 p => p.2.1, fun i x σ H1 hx p => ?_, fun σ H1 p => ?_⟩)
    · obtain ⟨⟨y3, y4, rfl⟩, s1, hlst⟩ := p
      have hi : i < st.length := by
        have := (List.getElem?_eq_some_iff.mp hx).1
        rw [e1.length, List.length_map] at this
        exact this
      have hst : st[i]? = some st[i] := List.getElem?_eq_getElem hi
      have dx : Dq H x (cpD st[i]) := e1.at hst hx
      obtain ⟨h1, h2⟩ := hc _ (List.getElem_mem hi)
      cases dx with
      | tup k1 k2 =>
        obtain ⟨u, v, rfl, m1, m2⟩ := k2.a2
        refine ⟨_, _, rfl, (k1.mono s1).sq, rfl, _, _, rfl, _, _, rfl, rfl, ?_⟩
        have m1' := m1.mono s1
        have m2' := m2.mono s1
        cases m1
        refine ws_store (DE.go (G := H1) (de_ixT (de_var 0 (d0.mono s1)) (de_var 4 m2') (at_map (gt_at h2))) (Same.refl _) fun z H2 s2 dz => we_var 2 rfl (we_var 3 rfl ⟨l, _, st[i].1, rfl, rfl, s2 _ _ hlst, ?_, ws_nil ⟨⟨_, _, rfl⟩, ?_, ?_⟩⟩))
        · rw [List.length_map]
          have : ∀ (st : List Cp) (f : Lay), (st.foldl (fun f c => f.set c.1 (gt lay c.2)) f).length = f.length := fun st => by
            induction st with
            | nil => intro f; rfl
            | cons c r ih => intro f; rw [List.foldl_cons, ih, List.length_set]
          rw [this]
          exact h1
        · exact same_mut (s1.trans s2) nl
        · rw [upd_same, led_take hst, List.map_set, dz.oV_inv]
    · obtain ⟨⟨y3, y4, rfl⟩, s1, hlst⟩ := p
      rw [e1.length, List.length_map, List.take_length] at hlst
      exact ws_retD (G := H1) (de_tupL B (de_var 2 (Dq.of_layL hlst))) (Same.refl _) fun v H2 s2 dv => q v H2 _ (s1.trans s2) dv rfl
end
end DL

namespace DL
open PySem PySem.Spec PyProof.Rows L2
section
variable {P : Program} {w : World} {K : PySem.W.Frag} {mg : Str → Option Value} {base : Heap} {f : Addr} {fd : FuncData}
section
variable {X : Cx} {σ : L2.St} {G H : Hp} {e : Expr} {rest : List Stmt} {D' : Ends} {ds : List PyData}
theorem ws_lcD {d : PyData} {y : Str} {py spos : Pos} (i : Nat) (hN : X.N.Nodup) (h : DL1 X e σ G ds) (hd : PyData.list ds = d) (g : Same G H) (q : ∀ v H2, Same H H2 → Dq H2 v d → WS X rest D' (σ.set i (some v)) H2)
    (hsw : swapsWith e (some (.Name y py)) spos.line X.env = pure true := by rfl) (hy : X.N[i]? = some y := by rfl) (hyl : X.env.scope.names.lookup y = some .local := by rfl) (hc : X.calm = true := by rfl) : WS X (.Assign [.Name y py] e spos :: rest) D' σ H :=
  ws_setDL i hN h g (fun D H2 vs nD s2 hD dvs => q _ H2 s2 (hd ▸ .lst hD (dvs.mono off_le))) hsw hy hyl hc
end
abbrev outM (lay : Lay) (st : List Cp) : Lay := (lay.zipIdx.filter fun q => !decide (q.2 ∈ st.map (·.1))).map (·.1)
def Safe (needs : List Nat) (lay : Lay) (st : List Cp) : Prop := ∀ v, v < needs.length → needs.getD v 0 ≤ (outM lay st).count (some v)
def preLSafe (ds : List PyData) (R : PyData → Prop) : Prop := ∃ (needs : List Nat) (lay : Lay) (st : List Cp), ds = [tN needs, tO lay, stD st] ∧ needs.length ≤ 64 ∧ lay.length ≤ 64 ∧ st.length ≤ 64 ∧ Safe needs lay st ∧ R = (· = .bool true)
theorem ok_law_is_safe (F : Fun K "_law_is_safe" "_law_is_safe" sLawIsSafe f fd) (B : Blt mg) (c1 : Cal P w K mg base 2 "_law_rooms" (spD preLRooms)) : FnOk P w K mg base CX0 3 f fd ["_law_needs", "_law_layout", "_law_stretch"] (spD preLSafe) := by
  refine ok_data F scLawIsSafe (fun ds R h => by obtain ⟨_, _, _, rfl, _⟩ := h; rfl) fun cdv A outer s H vs Q E ds R hr hd hp q => ?_
  obtain ⟨needs, lay, st, rfl, l1, l2, l3, hs, rfl⟩ := hp
  obtain ⟨v0, v1, v2, rfl, d0, d1, d2⟩ := hd.a3
  have hol : (outM lay st).length ≤ 64 := by
    unfold outM
    rw [List.length_map]
    refine Nat.le_trans (List.length_filter_le _ _) ?_
    rw [List.length_zipIdx]
    exact l2
  refine ws_de 3 scLawIsSafe.nd (G := H) (d := lN (st.map (·.1))) (de_lc ((dl_2 (fun c : Cp => nI c.1) [("_law_place", 5), ("_law_source", 6)] (src_T2 (j := 5) (k := 6) (fun c : Cp => nI c.1) (fun c => nI c.2) (de_var 2 d2)) (blkOk_by (N := nLawIsSafe) (sc := defScope sLawIsSafe) (by decide +kernel)) (fun Y hY => by obtain ⟨_, _, _, _, _, rfl⟩ := hY; exact pg_tup rfl (pgs_cons (pg_name (i := 5) scLawIsSafe.nd rfl (by first | exact .inl rfl | exact .inr rfl)) (pgs_cons (pg_name (i := 6) scLawIsSafe.nd rfl (by first | exact .inl rfl | exact .inr rfl)) (pgs_nil))) rfl rfl)
    (fun a ha Y hY Ha v w g e1 e2 => ?el) (fun _ _ => rfl) (by omega)).is ?fin) scLawIsSafe.nd) (Same.refl H) fun v3 H1 s1 d3 => ?_
  case el =>
    obtain ⟨_, _, _, _, _, rfl⟩ := hY
    exact de_var 5 e1
  case fin => rw [List.map_map]; rfl
  refine ws_lcD 4 scLawIsSafe.nd (G := H1) (d := lO (outM lay st)) (dl_2i (fun q : Option Nat × Nat => oI q.1) (fun q => !decide (q.2 ∈ st.map (·.1))) [("_law_at", 7), ("_law_item", 8)] (src_E (j := 7) (k := 8) B oI (de_var 1 (d1.mono s1))) (blkOk_by (N := nLawIsSafe) (sc := defScope sLawIsSafe) (by decide +kernel)) (fun Y hY => by obtain ⟨_, _, _, _, _, rfl⟩ := hY; exact pg_tup rfl (pgs_cons (pg_name (i := 7) scLawIsSafe.nd rfl (by first | exact .inl rfl | exact .inr rfl)) (pgs_cons (pg_name (i := 8) scLawIsSafe.nd rfl (by first | exact .inl rfl | exact .inr rfl)) (pgs_nil))) rfl rfl)
    (fun a ha Y hY Ha v w g e1 e2 => ?ts) (fun a ha hp Y hY Ha v w g e1 e2 => ?el2) (fun _ _ => rfl) (by rw [List.length_zipIdx]; omega)) ?fin2 (Same.refl H1) fun v4 H2 s2 d4 => ?_
  case el2 =>
    obtain ⟨_, _, _, _, _, rfl⟩ := hY
    exact de_var 8 e2
  case ts =>
    obtain ⟨_, _, _, _, _, rfl⟩ := hY
    exact (dt_notIn (d := nI a.2) (ds := (st.map (·.1)).map nI) (de_var 7 e1) (de_var 3 (d3.mono g)) (.inl rfl) rfl (flatN _)).is (by rw [memD_N])
  case fin2 =>
    unfold outM lO
    rw [List.map_map]
    rfl
  have s02 := s1.trans s2
  have hneg : (((((List.range needs.length).map fun v => (outM lay st).count (some v)).zip needs).filter fun q => decide (((q.1 : Nat) - (q.2 : Nat) : Int) < 0))) = [] := by
    rw [List.filter_eq_nil_iff]
    intro q hq
    obtain ⟨i, hi⟩ := List.getElem?_of_mem hq
    obtain ⟨h1, h2⟩ := zip_at hi
    rw [List.getElem?_map] at h1
    obtain ⟨j, hj, e⟩ := Option.map_eq_some_iff.mp h1
    have hj2 := List.getElem?_eq_some_iff.mp hj
    obtain ⟨hj3, hj4⟩ := hj2
    rw [List.length_range] at hj3
    rw [List.getElem_range] at hj4
    have := hs i hj3
    rw [List.getD_eq_getElem?_getD, h2] at this
    rw [← hj4] at e
    have this : q.2 ≤ (outM lay st).count (some i) := this
    rw [← e]
    simp
    omega
  refine ws_retD (G := H2) ((de_eqQ (d := .list []) (d' := .list []) hr (de_lc ((dl_1i (fun q : Nat × Nat => .int ((q.1 : Nat) - (q.2 : Nat) : Int)) (fun q => decide (((q.1 : Nat) - (q.2 : Nat) : Int) < 0)) [("_law_room", 9)]
    (src_L (j := 9) (fun q : Nat × Nat => .int ((q.1 : Nat) - (q.2 : Nat) : Int)) (de_call c1 hr (da_cons (de_var 0 (d0.mono s02)) (da_cons (de_var 4 d4) da_nil)) ⟨needs, outM lay st, rfl, by omega, by omega, rfl⟩)) (blkOk_by (N := nLawIsSafe) (sc := defScope sLawIsSafe) (by decide +kernel)) (fun Y hY => by obtain ⟨_, _, _, _, _, rfl⟩ := hY; exact pg_name (i := 9) scLawIsSafe.nd rfl (by first | exact .inl rfl | exact .inr rfl))
    (fun a ha Y hY Ha v g e1 => ?ts2) (fun a ha hp Y hY Ha v g e1 => ?el3) (fun _ => rfl) (by rw [List.length_zip]; omega)).is ?fin3) scLawIsSafe.nd) (de_lst da_nil (by simp)) okNil okNil).is rfl) (Same.refl H2) fun v H3 s3 dv => q v H3 _ (s02.trans s3) dv rfl
  case el3 =>
    obtain ⟨_, _, _, _, _, rfl⟩ := hY
    exact de_var 9 e1
  case ts2 =>
    obtain ⟨_, _, _, _, _, rfl⟩ := hY
    exact dt_lt (de_var 9 e1) de_int
  case fin3 => rw [hneg]; rfl
def preLWanted (ds : List PyData) (R : PyData → Prop) : Prop := ∃ (wish lay : Lay), ds = [tO wish, tO lay] ∧ wish.length ≤ lay.length ∧ wish.length ≤ 64 ∧ wantedM wish lay = true ∧ R = (· = .bool true)
theorem ok_law_is_wanted (F : Fun K "_law_is_wanted" "_law_is_wanted" sLawIsWanted f fd) (B : Blt mg) : FnOk P w K mg base CX0 1 f fd ["_law_wish", "_law_layout"] (spD preLWanted) := by
  refine ok_data F scLawIsWanted (fun ds R h => by obtain ⟨_, _, rfl, _⟩ := h; rfl) fun cdv A outer s H vs Q E ds R hr hd hp q => ?_
  obtain ⟨wish, lay, rfl, l1, l2, hw, rfl⟩ := hp
  obtain ⟨v0, v1, rfl, d0, d1⟩ := hd.a2
  refine ws_retD (G := H) ((de_eqQ (d := .list []) (d' := .list []) hr (de_lc ((dl_2i (fun q : Option Nat × Nat => nI q.2) (fun q => q.1.isSome && decide (q.1 ≠ gt lay q.2)) [("_law_at", 2), ("_law_item", 3)] (src_E (j := 2) (k := 3) B oI (de_var 0 d0)) (blkOk_by (N := nLawIsWanted) (sc := defScope sLawIsWanted) (by decide +kernel)) (fun Y hY => by obtain ⟨_, _, _, _, _, rfl⟩ := hY; exact pg_tup rfl (pgs_cons (pg_name (i := 2) scLawIsWanted.nd rfl (by first | exact .inl rfl | exact .inr rfl)) (pgs_cons (pg_name (i := 3) scLawIsWanted.nd rfl (by first | exact .inl rfl | exact .inr rfl)) (pgs_nil))) rfl rfl)
    (fun a ha Y hY Ha v w g e1 e2 => ?ts) (fun a ha hp Y hY Ha v w g e1 e2 => ?el) (fun _ _ => rfl) (by rw [List.length_zipIdx]; omega)).is ?fin) scLawIsWanted.nd) (de_lst da_nil (by simp)) okNil okNil).is rfl) (Same.refl H) fun v H3 s3 dv => q v H3 _ s3 dv rfl
  case el =>
    obtain ⟨_, _, _, _, _, rfl⟩ := hY
    exact de_var 2 e1
  case ts =>
    obtain ⟨_, _, _, _, _, rfl⟩ := hY
    obtain ⟨h1, h2⟩ := zipIdx_mem ha
    refine (dt_and (dt_notN (de_var 3 e2)) fun _ => dt_ne (d := oI a.1) (d' := oI (gt lay a.2)) (de_var 3 e2) (de_ixT (de_var 1 (d1.mono g)) (de_var 2 e1) (at_map (gt_at (by omega)))) (oI_flat _) (oI_flat _) (scD_o _ _)).is ?_
    rw [isNone_oI, decV_o]
    cases a.1 <;> simp
  case fin =>
    have h : (wish.zipIdx.filter fun q => q.1.isSome && decide (q.1 ≠ gt lay q.2)) = [] := by
      rw [List.filter_eq_nil_iff]
      intro q hq
      obtain ⟨h1, h2⟩ := zipIdx_mem hq
      have := List.all_eq_true.mp hw q.2 (List.mem_range.mpr h2)
      rw [gt_some h1] at this
      cases hq1 : q.1 with
      | none => simp
      | some x => rw [hq1] at this; simp at this; simp [this]
    rw [h]
    rfl
/-- each step is safe and can be done; the last layout is as wanted -/
def safePlan (needs : List Nat) (wish : Lay) : Lay → List (List Cp) → Prop
  | lay, [] => wantedM wish lay = true
  | lay, st :: r => (canDo lay st = true ∧ (∀ c ∈ st, c.1 < lay.length ∧ c.2 < lay.length) ∧ st.length ≤ 64) ∧ Safe needs lay st ∧ safePlan needs wish (ledM lay st) r
theorem safePlan_drop {needs : List Nat} {wish : Lay} : ∀ {pl : List (List Cp)} {lay : Lay} {i : Nat} {st : List Cp}, safePlan needs wish lay pl → pl[i]? = some st →
    canDo (ledByM lay (pl.take i)) st = true ∧ (∀ c ∈ st, c.1 < lay.length ∧ c.2 < lay.length) ∧ ledByM lay (pl.take (i + 1)) = ledM (ledByM lay (pl.take i)) st ∧ (ledByM lay (pl.take i)).length = lay.length ∧ st.length ≤ 64 ∧ Safe needs (ledByM lay (pl.take i)) st
  | [], _, _, _, _, h => by simp at h
  | s :: r, lay, 0, st, hp, h => by
    rw [List.getElem?_cons_zero] at h
    cases h
    exact ⟨hp.1.1, hp.1.2.1, rfl, rfl, hp.1.2.2, hp.2.1⟩
  | s :: r, lay, i + 1, st, hp, h => by
    rw [List.getElem?_cons_succ] at h
    obtain ⟨h1, h2, h3, h4, h5, h6⟩ := safePlan_drop hp.2.2 h
    rw [ledM_length] at h2 h4
    exact ⟨h1, h2, h3, h4, h5, h6⟩
theorem safePlan_end {needs : List Nat} {wish : Lay} : ∀ {pl : List (List Cp)} {lay : Lay}, safePlan needs wish lay pl → wantedM wish (ledByM lay pl) = true ∧ (ledByM lay pl).length = lay.length
  | [], _, h => ⟨h, rfl⟩
  | s :: r, lay, h => by
    obtain ⟨h1, h2⟩ := safePlan_end h.2.2
    rw [ledM_length] at h2
    exact ⟨h1, h2⟩
theorem safePlan_can {needs : List Nat} {wish : Lay} : ∀ {pl : List (List Cp)} {lay : Lay}, safePlan needs wish lay pl → canPlan lay pl ∧ ∀ st ∈ pl, st.length ≤ 1000
  | [], _, h => ⟨trivial, fun st hs => by simp at hs⟩
  | s :: r, lay, h => by
    obtain ⟨h1, h2⟩ := safePlan_can h.2.2
    refine ⟨⟨h.1.1, h.1.2.1, h1⟩, fun st hs => ?_⟩
    rcases List.mem_cons.mp hs with e | e
    · rw [e]; have := h.1.2.2; omega
    · exact h2 st e
def preLPlan (ds : List PyData) (R : PyData → Prop) : Prop := ∃ (needs : List Nat) (old wish : Lay) (pl : List (List Cp)), ds = [tTk needs old wish, plD pl] ∧ needs.length ≤ 64 ∧ old.length ≤ 64 ∧ wish.length ≤ old.length ∧ safePlan needs wish old pl ∧ R = (· = .bool true)
theorem ok_law_is_safe_plan (F : Fun K "_law_is_safe_plan" "_law_is_safe_plan" sLawIsSafePlan f fd) (B : Blt mg) (c1 : Cal P w K mg base 1 "_law_can_be_done" (spD preLCan)) (c2 : Cal P w K mg base 3 "_law_is_safe" (spD preLSafe)) (c3 : Cal P w K mg base 1 "_law_led" (spD preLed)) (c4 : Cal P w K mg base 1 "_law_is_wanted" (spD preLWanted)) :
    FnOk P w K mg base CX0 4 f fd ["_law_task", "_law_plan"] (spD preLPlan) := by
  refine ok_data F scLawIsSafePlan (fun ds R h => by obtain ⟨_, _, _, _, rfl, _⟩ := h; rfl) fun cdv A outer s H vs Q E ds R hr hd hp q => ?_
  obtain ⟨needs, lay, wish, pl, rfl, hnl, hl, hwl, hsp, rfl⟩ := hp
  obtain ⟨v0, v1, rfl, d0, d1⟩ := hd.a2
  refine ws_de 2 scLawIsSafePlan.nd (d := tO lay) (de_ixT (G := H) (de_var 0 d0) de_int rfl) (Same.refl H) fun v2 H0 s0 k2 => ?_
  cases d1 with
  | tup t1 e1 =>
    rename_i a1 ys
    refine ws_forT PassesOwn.never (pg_name (i := 3) scLawIsSafePlan.nd rfl (by first | exact .inl rfl | exact .inr rfl)) (we_var 1 rfl ⟨a1, ys, H, fun i σ H1 => (∃ y2 y3, σ = [some v0, some (.ref a1), some y2, y3] ∧ Dq H1 y2 (tO (ledByM lay (pl.take i)))) ∧ Same H H1,
      rfl, t1, s0, ⟨⟨v2, none, rfl, k2⟩, s0⟩, fun i σ H1 p => p.2, fun i x σ H1 hx p => ?_, fun σ H1 p => ?_⟩)
    · obtain ⟨⟨y2, y3, rfl, dy⟩, s1⟩ := p
      have hi : i < pl.length := by
        have := (List.getElem?_eq_some_iff.mp hx).1
        rw [e1.length, List.length_map] at this
        exact this
      have hpl : pl[i]? = some pl[i] := List.getElem?_eq_getElem hi
      have dx : Dq H x (stD pl[i]) := e1.at hpl hx
      obtain ⟨g1, g2, g3, g4, g5, g6⟩ := safePlan_drop hsp hpl
      have dx2 := dx.mono s1
      refine ws_ifD (G := H1) (b := false) ((dt_or (dt_not (dt_val (de_call c1 (hr.mono (by decide)) (da_cons (de_var 2 dy) (da_cons (de_var 3 dx2) da_nil)) ⟨_, _, rfl, fun c hc => by rw [g4]; have := (g2 c hc).2; omega, g5, rfl⟩)))
        fun _ => dt_not (dt_val (de_call c2 hr (da_cons (de_ixT (d := tN needs) (de_var 0 (d0.mono s1)) de_int rfl) (da_cons (de_var 2 dy) (da_cons (de_var 3 dx2) da_nil))) ⟨needs, _, _, rfl, hnl, by rw [g4]; exact hl, g5, g6, rfl⟩))).is (by rw [g1]; rfl)) (Same.refl _) (fun hb => nomatch hb) fun _ H3 s3 => ws_nil ?_
      refine ws_de 2 scLawIsSafePlan.nd (de_call c3 (hr.mono (by decide)) (da_cons (de_var 2 (dy.mono s3)) (da_cons (de_var 3 (dx2.mono s3)) da_nil)) ⟨_, _, rfl, fun c hc => by rw [g4]; exact g2 c hc, by rw [g4]; omega, rfl⟩) (Same.refl H3) fun v H4 s4 dv => ?_
      refine ws_nil ⟨⟨v, _, rfl, ?_⟩, (s1.trans s3).trans s4⟩
      rw [g3]
      exact dv
    · obtain ⟨⟨y2, y3, rfl, dy⟩, s1⟩ := p
      rw [e1.length, List.length_map, List.take_length] at dy
      obtain ⟨h1, h2⟩ := safePlan_end hsp
      exact ws_retD (G := H1) (de_call c4 (hr.mono (by decide)) (da_cons (de_ixT (d := tO wish) (de_var 0 (d0.mono s1)) de_int rfl) (da_cons (de_var 2 dy) da_nil)) ⟨wish, _, rfl, by rw [h2]; exact hwl, by omega, h1, rfl⟩) (Same.refl _) fun v H2 s2 dv => q v H2 _ (s1.trans s2) dv rfl
end
end DL

namespace DL
open PySem PySem.Spec PyProof.Rows L2
section
variable {P : Program} {w : World} {K : PySem.W.Frag} {mg : Str → Option Value} {base : Heap} {f : Addr} {fd : FuncData}
/-! ### the bag -/
mutual
def lowL : PyData → Bool
  | .list xs => noLs xs
  | .tuple xs => lowLs xs
  | .dict _ => false
  | _ => true
def lowLs : List PyData → Bool
  | [] => true
  | x :: xs => lowL x && lowLs xs
end
structure BagS (H : Hp) (b : Addr) (x0 x1 : Int) (x2 : Nat) (c : Addr) (cs : List Int) : Prop where
  eb : H b = some (.lst [.int x0, .int x1, .int (x2 : Nat), .ref c])
  ec : H c = some (.lst (cs.map V.int))
  ne : c ≠ b
  p0 : 0 ≤ x0
  p1 : 0 ≤ x1 ∧ x1 < 2147483647
  pc : cs.length ≤ 63 ∧ ∀ z ∈ cs, 0 ≤ z
def BagAt (H : Hp) (b c : Addr) (cs : List Int) : Prop := ∃ x0 x1 x2, BagS H b x0 x1 x2 c cs
theorem BagS.mono {H H2 : Hp} {b c : Addr} {x0 x1 : Int} {x2 : Nat} {cs : List Int} (h : BagS H b x0 x1 x2 c cs) (s : Same H H2) : BagS H2 b x0 x1 x2 c cs := ⟨s _ _ h.eb, s _ _ h.ec, h.ne, h.p0, h.p1, h.pc⟩
theorem BagAt.mono {H H2 : Hp} {b c : Addr} {cs : List Int} (h : BagAt H b c cs) (s : Same H H2) : BagAt H2 b c cs := by
  obtain ⟨x0, x1, x2, h⟩ := h
  exact ⟨x0, x1, x2, h.mono s⟩
theorem BagAt.mut {H : Hp} {b c L : Addr} {cs : List Int} {o : HO} (h : BagAt H b c cs) (h1 : L ≠ b) (h2 : L ≠ c) : BagAt (upd H L o) b c cs := by
  obtain ⟨x0, x1, x2, h⟩ := h
  exact ⟨x0, x1, x2, by rw [upd_ne (Ne.symm h1)]; exact h.eb, by rw [upd_ne (Ne.symm h2)]; exact h.ec, h.ne, h.p0, h.p1, h.pc⟩
theorem BagAt.fresh {H : Hp} {b c L : Addr} {cs : List Int} (h : BagAt H b c cs) (n : H L = none) : L ≠ b ∧ L ≠ c := by
  obtain ⟨x0, x1, x2, h⟩ := h
  exact ⟨fun z => (by rw [z, h.eb] at n; cases n), fun z => (by rw [z, h.ec] at n; cases n)⟩
theorem off_upd_ne {H : Hp} {b L : Addr} {o : HO} (h : L ≠ b) : off (upd H L o) b = upd (off H b) L o := by
  funext a
  by_cases e : a = b
  · rw [e, off_same, upd_ne (Ne.symm h), off_same]
  · rw [off_ne e]
    by_cases e2 : a = L
    · rw [e2, upd_same, upd_same]
    · rw [upd_ne e2, upd_ne e2, off_ne e]
theorem BagS.dq {H : Hp} {b c : Addr} {x0 x1 : Int} {x2 : Nat} {cs : List Int} (h : BagS H b x0 x1 x2 c cs) : Dq H (.ref b) (.list [.int x0, .int x1, .int (x2 : Nat), .list (cs.map .int)]) :=
  .lst h.eb (.cons (.int _) (.cons (.int _) (.cons (.int _) (.cons (.lst h.ec (DqAll.ints cs)) .nil))))
theorem BagAt.lst {H : Hp} {b c : Addr} {cs : List Int} (h : BagAt H b c cs) : ∃ ys, H b = some (.lst ys) := by
  obtain ⟨x0, x1, x2, h⟩ := h
  exact ⟨_, h.eb⟩
/-- a list of plain things is not the bag -/
theorem BagAt.other {H : Hp} {b c a : Addr} {cs : List Int} {ds : List PyData} (h : BagAt H b c cs) (n : noLs ds = true) (hd : Dq H (.ref a) (.list ds)) : a ≠ b := fun z => by
  subst z
  obtain ⟨x0, x1, x2, h⟩ := h
  cases hd with
  | lst h1 h2 =>
    rw [h.eb] at h1
    cases h1
    cases h2 with
    | cons _ h2 => cases h2 with
      | cons _ h2 => cases h2 with
        | cons _ h2 => cases h2 with
          | cons k _ =>
            rename_i d _
            simp only [noLs, Bool.and_eq_true] at n
            cases k with
            | lst k1 k2 => exact absurd n.2.2.2.1 (by simp [noL])
            | tup k1 k2 => exact absurd rfl (k1.ne_lst h.ec)
mutual
theorem Dq.offB {H : Hp} {b c : Addr} {cs : List Int} (hb : BagAt H b c cs) : ∀ {d : PyData} {v : V}, lowL d = true → Dq H v d → Dq (DL.off H b) v d
  | .none, _, _, h => by cases h; exact .non
  | .bool _, _, _, h => by cases h; exact .bl _
  | .int _, _, _, h => by cases h; exact .int _
  | .str _, _, _, h => by cases h
  | .list xs, _, n, h => by
    obtain ⟨ys, hy⟩ := hb.lst
    rw [lowL] at n
    have h' := h
    cases h' with
    | lst h1 h2 => exact .lst (by rw [off_ne (hb.other n h)]; exact h1) (DqAll.off hy n h2)
  | .tuple xs, _, n, h => by
    obtain ⟨ys, hy⟩ := hb.lst
    cases h with
    | tup h1 h2 =>
      rw [lowL] at n
      have hn := h1.ne_lst hy
      obtain ⟨o, oz, e⟩ := h1
      exact .tup ⟨o, oz, by rw [off_ne hn]; exact e⟩ (DqAll.offB hb n h2)
  | .dict _, _, _, h => by cases h
theorem DqAll.offB {H : Hp} {b c : Addr} {cs : List Int} (hb : BagAt H b c cs) : ∀ {ds : List PyData} {vs : List V}, lowLs ds = true → DqAll H vs ds → DqAll (DL.off H b) vs ds
  | [], _, _, h => by cases h; exact .nil
  | d :: ds, _, n, h => by
    rw [lowLs, Bool.and_eq_true] at n
    cases h with
    | cons h1 h2 => exact .cons (Dq.offB hb n.1 h1) (DqAll.offB hb n.2 h2)
end
/-- through a use of the bag -/
theorem Dq.thru {H H2 : Hp} {b c : Addr} {cs : List Int} {d : PyData} {v : V} (hb : BagAt H b c cs) (s : Same (DL.off H b) (DL.off H2 b)) (h : Dq H v d) (n : lowL d = true := by rfl) : Dq H2 v d := ((h.offB hb n).mono s).mono off_le
theorem off_mono {H H2 : Hp} {b : Addr} (s : Same H H2) : Same (off H b) (off H2 b) := same_off (off_le.trans s) off_same
def spBag (pre : List PyData → (PyData → Prop) → Prop) : Sp := fun vs H Q _ => ∃ b c cs vs' ds R, vs = .ref b :: vs' ∧ BagAt H b c cs ∧ DqAll H vs' ds ∧ pre ds R ∧ ∀ v H2 d, BagAt H2 b c cs → Same (off H b) (off H2 b) → Dq H2 v d → R d → Q v H2
section
variable {x qual : Str} {st : Stmt} {N ps : List Str} {k : Nat}
theorem ok_bag {pre : List PyData → (PyData → Prop) → Prop} (F : Fun K x qual st f fd) (S : FnScope N ps (defScope st)) (len : ∀ ds R, pre ds R → ds.length + 1 = ps.length)
    (hb : ∀ (cdv : Value) (A : Around) (outer : List Env) (s : Shared) (H : Hp) (b c : Addr) (cs : List Int) (vs : List V) (Q : VK) (E : XK) (ds : List PyData) (R : PyData → Prop), Room k (XOf P w K mg base N qual st f cdv A outer s H E).A → BagAt H b c cs → DqAll H vs ds → pre ds R →
      (∀ v H2 d, BagAt H2 b c cs → Same (off H b) (off H2 b) → Dq H2 v d → R d → Q v H2) → WS (XOf P w K mg base N qual st f cdv A outer s H E) (defBody st) { nx := fun _ H' => Q .non H', rt := Q } (start N (.ref b :: vs)) H) : FnOk P w K mg base CX0 (k + 1) f fd ps (spBag pre) :=
  ok_def F S (fun vs H Q E h => by
    obtain ⟨b, c, cs, vs', ds, R, rfl, _, h1, h2, _⟩ := h
    rw [List.length_cons, h1.length]
    exact len ds R h2) fun cdv A outer s H vs Q E hr h => by
      obtain ⟨b, c, cs, vs', ds, R, rfl, h0, h1, h2, h3⟩ := h
      exact hb cdv A outer s H b c cs vs' Q E ds R hr h0 h1 h2 h3
end
def preTake (ds : List PyData) (R : PyData → Prop) : Prop := ∃ many : Nat, ds = [nI many] ∧ 0 < many ∧ many ≤ 1000 ∧ R = fun d => ∃ v : Nat, v < many ∧ d = nI v
theorem BagS.set0 {H : Hp} {b c : Addr} {x0 x1 : Int} {x2 : Nat} {cs : List Int} (h : BagS H b x0 x1 x2 c cs) (y : Int) (hy : 0 ≤ y) : BagS (upd H b (.lst ([V.int x0, .int x1, .int (x2 : Nat), .ref c].set 0 (.int y)))) b y x1 x2 c cs :=
  ⟨upd_same, by rw [upd_ne h.ne]; exact h.ec, h.ne, hy, h.p1, h.pc⟩
theorem BagS.set1 {H : Hp} {b c : Addr} {x0 x1 : Int} {x2 : Nat} {cs : List Int} (h : BagS H b x0 x1 x2 c cs) (y : Int) (hy : 0 ≤ y ∧ y < 2147483647) : BagS (upd H b (.lst ([V.int x0, .int x1, .int (x2 : Nat), .ref c].set 1 (.int y)))) b x0 y x2 c cs :=
  ⟨upd_same, by rw [upd_ne h.ne]; exact h.ec, h.ne, h.p0, hy, h.pc⟩
theorem BagS.set2 {H : Hp} {b c : Addr} {x0 x1 : Int} {x2 : Nat} {cs : List Int} (h : BagS H b x0 x1 x2 c cs) : BagS (upd H b (.lst ([V.int x0, .int x1, .int (x2 : Nat), .ref c].set 2 (.int ((x2 : Nat) + 1))))) b x0 x1 (x2 + 1) c cs :=
  ⟨upd_same, by rw [upd_ne h.ne]; exact h.ec, h.ne, h.p0, h.p1, h.pc⟩
theorem nat_of {i : Int} {n : Nat} (h0 : 0 ≤ i) (h : i < n) : ∃ v : Nat, v < n ∧ PyData.int i = nI v := ⟨i.toNat, by omega, by show PyData.int i = .int (i.toNat : Int); rw [Int.toNat_of_nonneg h0]⟩
theorem ok_take (F : Fun K "_law_take" "_law_take" sLawTake f fd) (B : Blt mg) : FnOk P w K mg base CX0 1 f fd ["_law_bag_here", "_law_many"] (spBag preTake) := by
  refine ok_bag F scLawTake (fun ds R h => by obtain ⟨_, rfl, _⟩ := h; rfl) fun cdv A outer s H b c cs vs Q E ds R hr hb hd hp q => ?_
  obtain ⟨many, rfl, hm, hm2, rfl⟩ := hp
  obtain ⟨v1, rfl, d1⟩ := hd.a1
  cases d1
  suffices key : ∀ (y2 y3 : Option V) (H1 : Hp) (x0 x1 : Int) (x2 : Nat), BagS H1 b x0 x1 x2 c cs → Same (off H b) (off H1 b) →
      WS (XOf P w K mg base nLawTake "_law_take" sLawTake f cdv A outer s H E) ((defBody sLawTake).drop 1) { nx := fun _ H' => Q .non H', rt := Q } [some (.ref b), some (.int (many : Int)), y2, y3, none, none, none] H1 by
    obtain ⟨x0, x1, x2, hS⟩ := hb
    refine ws_ifD (G := H) (dt_eq (d := .int x0) (d' := .int 0) (de_ixL (de_var 0 hS.dq) de_int rfl) de_int rfl rfl rfl) (Same.refl H) (fun _ H1 s1 => ?_) fun _ H1 s1 => ?_
    · have hS1 := hS.mono s1
      have hcell : ∃ cell : Int, 0 ≤ cell ∧ atI (cutD (cs.map PyData.int) (some ((x2 : Nat) : Int)) none ++ [PyData.int 0]) 0 = some (.int cell) := by
        rw [cut_from]
        have hall : ∀ z ∈ cs.drop x2, 0 ≤ z := fun z hz => hS.pc.2 z (List.mem_of_mem_drop hz)
        rw [← List.map_drop]
        cases hh : cs.drop x2 with
        | nil => exact ⟨0, Int.le_refl _, rfl⟩
        | cons z r => exact ⟨z, hall z (by rw [hh]; simp), at_map0 (xs := z :: (r ++ [0])) (enc := PyData.int) rfl |>.trans rfl |> fun h => by
            rw [List.map_cons, List.map_append] at h
            exact h⟩
      obtain ⟨cell, hc0, hcell⟩ := hcell
      refine ws_de 2 scLawTake.nd (G := H1) (d := .int cell) (de_ixL (de_catL (de_slL (ds := cs.map .int) (de_ixL (de_var 0 hS1.dq) de_int rfl) (do_some (i := ((x2 : Nat) : Int)) (de_ixL (de_var 0 hS1.dq) de_int rfl)) do_none) (de_lst (da_cons de_int da_nil) (by simp)) ?hl) de_int hcell) (Same.refl H1) fun v2 H2 s2 d2 => ?_
      case hl =>
        rw [cut_from, List.length_drop, List.length_map, List.length_singleton]
        have := hS.pc.1
        omega
      cases d2
      have hS2 := hS1.mono s2
      have o2 := off_mono (b := b) (s1.trans s2)
      refine ws_augL (we_var 0 rfl (de_int _ _ (Same.refl H2) fun y H3 s3 dy => ?_))
      cases dy
      refine ⟨b, _, 2, (x2 : Nat), rfl, rfl, (hS2.mono s3).eb, rfl, de_int _ _ (Same.refl H3) fun z H4 s4 dz => ?_⟩
      cases dz
      have hS4 := hS2.mono (s3.trans s4)
      refine ⟨1, _, rfl, hS4.eb, by show 2 < 4; decide, ?_⟩
      have hS5 := hS4.set2
      have o5 : Same (off H b) (off (upd H4 b (.lst ([V.int x0, .int x1, .int (x2 : Nat), .ref c].set 2 (.int ((x2 : Nat) + 1))))) b) := by rw [off_upd']; exact o2.trans (off_mono (s3.trans s4))
      generalize upd H4 b (.lst ([V.int x0, .int x1, .int (x2 : Nat), .ref c].set 2 (.int ((x2 : Nat) + 1)))) = H5 at hS5 o5
      have fin : ∀ (H6 : Hp) (z0 : Int), BagS H6 b z0 x1 (x2 + 1) c cs → Same (off H b) (off H6 b) →
          WS (XOf P w K mg base nLawTake "_law_take" sLawTake f cdv A outer s H E) ((match (defBody sLawTake).getD 0 (.Pass ⟨0, 0, 0, 0⟩) with | .If _ p _ _ => p | _ => []).drop 3) { nx := fun σ' H' => WS (XOf P w K mg base nLawTake "_law_take" sLawTake f cdv A outer s H E) ((defBody sLawTake).drop 1) { nx := fun _ H' => Q .non H', rt := Q } σ' H', rt := Q } [some (.ref b), some (.int (many : Int)), some (.int cell), none, none, none, none] H6 := fun H6 z0 hS6 o6 => by
        refine ws_de 3 scLawTake.nd (G := H6) (de_add (de_add (de_mul (i := x1) (de_ixL (de_var 0 hS6.dq) de_int rfl) de_int (.inr (by omega))) (de_mod (de_intc B (de_var 2 (.int cell))) de_int (by omega))) (de_mul (j := ((x2 + 1 : Nat) : Int)) de_int (de_ixL (de_var 0 hS6.dq) de_int rfl) (.inl (by omega)))) (Same.refl H6) fun v3 H7 s7 d3 => ?_
        cases d3
        refine ws_store (DE.go (G := H7) (de_mod (de_intc B (de_var 3 (.int _))) de_int (by omega)) (Same.refl H7) fun z H8 s8 dz => we_var 0 rfl (de_int _ _ (Same.refl H8) fun y H9 s9 dy => ?_))
        cases dz
        cases dy
        have hS9 := hS6.mono (s7.trans (s8.trans s9))
        refine ⟨b, _, 1, rfl, rfl, hS9.eb, by show 1 < 4; decide, ws_nil ?_⟩
        exact key _ _ _ z0 _ (x2 + 1) (hS9.set1 _ ⟨Int.emod_nonneg _ (by omega), Int.emod_lt_of_pos _ (by omega)⟩) (by rw [off_upd']; exact o6.trans (off_mono (s7.trans (s8.trans s9))))
      refine ws_ifD (G := H5) (dt_ge (de_var 2 (.int cell)) (de_pow de_int de_int ⟨by omega, by omega, by decide⟩)) (Same.refl H5) (fun _ H6 s6 => ?_) fun _ H6 s6 => ws_nil (fin H6 x0 (hS5.mono s6) (o5.trans (off_mono s6)))
      refine ws_store (we_var 2 rfl (we_var 0 rfl (de_int _ _ (Same.refl H6) fun y H7 s7 dy => ?_)))
      cases dy
      have hS7 := hS5.mono (s6.trans s7)
      exact ⟨b, _, 0, rfl, rfl, hS7.eb, by show 0 < 4; decide, ws_nil (fin _ cell (hS7.set0 _ hc0) (by rw [off_upd']; exact o5.trans (off_mono (s6.trans s7))))⟩
    · exact ws_nil (key _ _ H1 x0 x1 x2 (hS.mono s1) (off_mono s1))
  intro y2 y3 H1 x0 x1 x2 hS o1
  refine ws_ifD (G := H1) (dt_gt (i := x0) (de_ixL (de_var 0 hS.dq) de_int rfl) de_int) (Same.refl H1) (fun hpos H2 s2 => ?_) fun _ H2 s2 => ws_nil ?_
  · have hS2 := hS.mono s2
    have hp0 := hS.p0
    refine ws_de 4 scLawTake.nd (G := H2) (d := .int (x0 % (many : Int))) (de_mod (de_intc B (de_ixL (de_var 0 hS2.dq) de_int rfl)) (de_var 1 (.int _)) (by omega)) (Same.refl H2) fun v4 H3 s3 d4 => ?_
    refine ws_store (DE.go (G := H3) (d := .int (x0 / (many : Int))) (de_fdiv (de_intc B (de_ixL (de_var 0 (hS2.mono s3).dq) de_int rfl)) (de_var 1 (.int _)) ⟨by omega, by omega⟩) (Same.refl H3) fun z H4 s4 dz => we_var 0 rfl (de_int _ _ (Same.refl H4) fun y H5 s5 dy => ?_))
    cases dz
    cases dy
    have s35 := s3.trans (s4.trans s5)
    have hS5 := hS2.mono s35
    refine ⟨b, _, 0, rfl, rfl, hS5.eb, by show 0 < 4; decide, ?_⟩
    have hS6 := hS5.set0 (x0 / (many : Int)) (Int.ediv_nonneg hp0 (by omega))
    cases d4
    refine ws_retD (G := upd H5 b (.lst ([V.int x0, .int x1, .int (x2 : Nat), .ref c].set 0 (.int (x0 / (many : Int)))))) (de_var 4 (.int _)) (Same.refl _) fun v H7 s7 dv => q v H7 _ ⟨_, _, _, hS6.mono s7⟩ ?_ dv (nat_of (Int.emod_nonneg _ (by omega)) (Int.emod_lt_of_pos _ (by omega)))
    have : Same (off H b) (off (upd H5 b (.lst ([V.int x0, .int x1, .int (x2 : Nat), .ref c].set 0 (.int (x0 / (many : Int)))))) b) := by rw [off_upd']; exact (o1.trans (off_mono s2)).trans (off_mono s35)
    exact this.trans (off_mono s7)
  · have hS2 := hS.mono s2
    obtain ⟨hp1, hp2⟩ := hS.p1
    refine ws_de 5 scLawTake.nd (G := H2) (d := .int ((x1 + 1) * 39373 % 1000000007)) (de_mod (de_intc B (de_mul (de_add (i := x1) (de_ixL (de_var 0 hS2.dq) de_int rfl) de_int) de_int (.inr (by omega)))) de_int (by omega)) (Same.refl H2) fun v5 H3 s3 d5 => ?_
    cases d5
    have hb1 : 0 ≤ (x1 + 1) * 39373 % 1000000007 := Int.emod_nonneg _ (by omega)
    have hb2 : (x1 + 1) * 39373 % 1000000007 < 1000000007 := Int.emod_lt_of_pos _ (by omega)
    generalize (x1 + 1) * 39373 % 1000000007 = bg at hb1 hb2
    refine ws_de 6 scLawTake.nd (G := H3) (d := .int (bg * bg % 998244353 * 30011 % 998244353)) (de_mod (de_intc B (de_mul (de_mod (de_intc B (de_mul (de_var 5 (.int bg)) (de_var 5 (.int bg)) (.inl (by omega)))) de_int (by omega)) de_int (.inr (by omega)))) de_int (by omega)) (Same.refl H3) fun v6 H4 s4 d6 => ?_
    cases d6
    exact ws_retD (G := H4) (d := .int (bg * bg % 998244353 * 30011 % 998244353 / 7 % (many : Int))) (de_mod (de_intc B (de_fdiv (de_var 6 (.int _)) de_int ⟨by omega, by omega⟩)) (de_var 1 (.int _)) (by omega)) (Same.refl H4) fun v H5 s5 dv =>
      q v H5 _ ⟨_, _, _, hS2.mono (s3.trans (s4.trans s5))⟩ (o1.trans (off_mono (s2.trans (s3.trans (s4.trans s5))))) dv (nat_of (Int.emod_nonneg _ (by omega)) (Int.emod_lt_of_pos _ (by omega)))
end
end DL

namespace DL
open PySem PySem.Spec PyProof.Rows L2
section
variable {P : Program} {w : World} {K : PySem.W.Frag} {mg : Str → Option Value} {base : Heap} {f : Addr} {fd : FuncData}
/-! the bag itself -/
section
variable {X : Cx} {σ : L2.St} {G : Hp} {a : Expr} {pos p2 : Pos}
theorem de_slS {l : Addr} {ns : List Int} {lo hi : Option Expr} {ol oh : Option Int} (ha : ∀ H Q, Q (.ref l) H → WE X a σ H Q) (hS : SqL X.K G l (ns.map V.int)) (hl : DO X lo σ G ol) (hh : DO X hi σ G oh) : DE X (.Subscript a (.Slice lo hi none p2) pos) σ G (.list (cutD (ns.map .int) ol oh)) := fun H Q g q => by
  obtain ⟨tl, pl, rl⟩ := hl
  obtain ⟨th, ph, rh⟩ := hh
  exact we_of (pe_slice sl_list pe_we pl ph) (ha H _ (rl H _ g fun H2 s2 => rh H2 _ (g.trans s2) fun H3 s3 => ⟨_, _, rfl, Same.seq ((g.trans s2).trans s3) hS, fun p hn => q _ _ ((s2.trans s3).trans (same_new hn)) (.lst upd_same ((DqAll.ints ns).cut ol oh))⟩))
end
def preBag (K : PySem.W.Frag) : Sp := fun vs H Q _ => ∃ (c : Addr) (ns : List Int), vs = [.ref c] ∧ SqL K H c (ns.map V.int) ∧ ns.length ≤ 1000 ∧ ∀ b c cs H2, BagAt H2 b c cs → Same H (off H2 b) → Q (.ref b) H2
theorem ok_bagmake (F : Fun K "_law_bag" "_law_bag" sLawBag f fd) (B : Blt mg) : FnOk P w K mg base CX0 1 f fd ["_law_script"] (preBag K) := by
  refine ok_def F scLawBag (fun vs H Q E h => by obtain ⟨_, _, rfl, _⟩ := h; rfl) fun cdv A outer s H vs Q E hr h => ?_
  obtain ⟨c, ns, rfl, hc, hl, q⟩ := h
  have abs0 : ∀ i : Int, 0 ≤ (if i < 0 then -i else i) := fun i => by split <;> omega
  refine ws_ret (we_lst (wa_of (pa_cons pe_we (pa_cons pe_we (pa_cons pe_we (pa_cons pe_we pa_nil)))) (de_int _ _ (Same.refl H) fun v0 H1 s1 k0 => de_int _ _ (Same.refl H1) fun v1 H2 s2 k1 => de_int _ _ (Same.refl H2) fun v2 H3 s3 k2 => ?_)))
  have s03 := s1.trans (s2.trans s3)
  refine (de_lc (ds := (cutD (ns.map PyData.int) none (some ((63 : Nat) : Int))).map fun d => match d with | .int i => .int (if i < 0 then -i else i) | d => d) ((dl_1 (fun i : Int => .int (if i < 0 then -i else i)) [("_law_cell", 1)] (src_L (j := 1) (xs := ns.take 63) PyData.int ((de_slS (fun H Q q => we_var 0 rfl q) (Same.seq s03 hc) do_none (do_some de_int)).is (by
      have := cut_to (ds := ns.map PyData.int) 63
      rw [← List.map_take] at this
      exact congrArg PyData.list this))) (blkOk_by (N := nLawBag) (sc := defScope sLawBag) (by decide +kernel)) (fun Y hY => by obtain ⟨_, _, _, _, _, rfl⟩ := hY; exact pg_name (i := 1) scLawBag.nd rfl (by first | exact .inl rfl | exact .inr rfl))
    (fun a ha Y hY Ha v g e1 => ?el) (fun _ => rfl) (by rw [List.length_take]; omega)).is ?fin) scLawBag.nd) H3 _ (Same.refl H3) fun v3 H4 s4 dv => ?_
  case el =>
    obtain ⟨_, _, _, _, _, rfl⟩ := hY
    exact de_abs B (de_var 1 e1)
  case fin =>
    rw [cut_to, ← List.map_take, List.map_map]
    rfl
  cases k0
  cases k1
  cases k2
  rw [cut_to, ← List.map_take, List.map_map] at dv
  have dv : Dq H4 v3 (.list (((ns.take 63).map fun i : Int => if i < 0 then -i else i).map .int)) := by
    rw [List.map_map]
    exact dv
  cases dv with
  | lst h1 h2 =>
    rename_i c2 ys
    have ey := h2.ints_inv
    refine ⟨by show 4 ≤ 1000; omega, fun p np => q p c2 ((ns.take 63).map fun i : Int => if i < 0 then -i else i) _ ⟨0, 1234567891, 0, ⟨upd_same, ?_, ?_, by omega, by omega, ?_⟩⟩ ?_⟩
    · have : c2 ≠ p := fun z => by rw [z, np] at h1; cases h1
      rw [upd_ne this, h1, ey]
    · exact fun z => by rw [z, np] at h1; cases h1
    · refine ⟨by rw [List.length_map, List.length_take]; omega, fun z hz => ?_⟩
      obtain ⟨i, _, rfl⟩ := List.mem_map.mp hz
      exact abs0 i
    · rw [off_upd np]
      exact s03.trans s4
section
variable {X : Cx} {σ : L2.St} {H : Hp} {Q : VK} {a b : Expr} {pos : Pos}
theorem we_ixLw (h : WE X a σ H fun x H1 => ∃ l, x = .ref l ∧ WE X b σ H1 fun y H2 => ∃ i ys v, y = .int i ∧ H2 l = some (.lst ys) ∧ atI ys i = some v ∧ Q v H2) (hs : PlainIx b := by intro _ _; rfl) : WE X (.Subscript a b pos) σ H Q :=
  we_of (pe_ix ix_list pe_we pe_we hs) (h.imp fun x H1 ⟨l, ex, q⟩ => q.imp fun y H2 ⟨i, ys, v, ey, hl, hv, q⟩ => ⟨l, ys, i, v, ex, ey, SqL.of hl, hv, q⟩)
/-- a use of the bag -/
theorem we_bag {x : Str} {p : Pos} {es : List Expr} {k : Nat} {bb cc : Addr} {cs : List Int} {ds : List PyData} {R : PyData → Prop} {G : Hp} {pre : List PyData → (PyData → Prop) → Prop} (c : Cal X.prog X.w X.K X.mg X.base k x (spBag pre)) (hr : Room k X.A)
    (ha : ∀ H Q, Q (.ref bb) H → WE X a σ H Q) (h : DA X es σ G ds) (g : Same G H) (hb : BagAt H bb cc cs) (hp : pre ds R) (q : ∀ v H2 d, BagAt H2 bb cc cs → Same (off H bb) (off H2 bb) → Dq H2 v d → R d → Q v H2)
    (hg : Gl X x := by rfl) (hdb : (x == ("__debug__" : Str)) = false := by decide) (he : starEach (a :: es) X.env = (false, eval a X.env) :: starEach es X.env := by rfl) (hpl : (backTo pos (starEach es X.env)).any (·.1) = false := by rfl) :
    WE X (.Call (.Name x p) (a :: es) [] pos) σ H Q :=
  we_call c hr (wa_of (pa_cons pe_we pa_wa he) (ha H _ (h H _ g fun vs H1 s1 dvs => ⟨bb, cc, cs, vs, ds, R, rfl, hb.mono s1, dvs, hp, fun v H2 d b2 s2 d2 rd => q v H2 d b2 ((off_mono s1).trans s2) d2 rd⟩))) hg hdb he hpl
end
def preSome (ds : List PyData) (R : PyData → Prop) : Prop := ∃ xs : List Nat, ds = [lN xs] ∧ xs ≠ [] ∧ xs.length ≤ 60 ∧ R = fun d => ∃ x ∈ xs, d = nI x
theorem ok_some (F : Fun K "_law_some" "_law_some" sLawSome f fd) (B : Blt mg) (c1 : Cal P w K mg base 1 "_law_take" (spBag preTake)) : FnOk P w K mg base CX0 2 f fd ["_law_bag_here", "_law_things"] (spBag preSome) := by
  refine ok_bag F scLawSome (fun ds R h => by obtain ⟨_, rfl, _⟩ := h; rfl) fun cdv A outer s H b c cs vs Q E ds R hr hb hd hp q => ?_
  obtain ⟨xs, rfl, hne, hl, rfl⟩ := hp
  obtain ⟨v1, rfl, d1⟩ := hd.a1
  have hpos : 0 < xs.length := List.length_pos_iff.mpr hne
  have d1' := d1
  cases d1 with
  | lst h1 h2 =>
    rename_i l ys
    refine ws_ret (we_ixLw (we_var 1 rfl ⟨l, rfl, we_bag (G := H) c1 hr (fun H Q q => we_var 0 rfl q) (da_cons ((de_len B (de_var 1 d1') (.inl rfl)).is (by rw [List.length_map])) da_nil) (Same.refl H) hb ⟨xs.length, rfl, hpos, by omega, rfl⟩ fun v H2 d b2 s2 d2 rd => ?_⟩))
    obtain ⟨n, hn, rfl⟩ := rd
    cases d2
    have d3 := d1'.thru hb s2 (noLs_map (enc := nI) (fun _ => rfl) xs)
    have hx : xs[n]? = some xs[n] := List.getElem?_eq_getElem hn
    have hxm := List.getElem_mem hn
    generalize xs[n] = x at hx hxm
    cases d3 with
    | lst k1 k2 =>
      rename_i zs
      have hx2 : (xs.map nI)[n]? = some (nI x) := by rw [List.getElem?_map, hx]; rfl
      obtain ⟨v, hv, dv⟩ := k2.get hx2
      exact ⟨(n : Nat), zs, v, rfl, k1, atI_nat hv, q v H2 _ b2 s2 dv ⟨x, hxm, rfl⟩⟩
def preMixed (ds : List PyData) (R : PyData → Prop) : Prop := ∃ xs : List Nat, ds = [lN xs] ∧ xs.length ≤ 60 ∧ R = fun d => ∃ ys : List Nat, ys.Perm xs ∧ d = lN ys
theorem ok_mixed (F : Fun K "_law_mixed" "_law_mixed" sLawMixed f fd) (B : Blt mg) (c1 : Cal P w K mg base 1 "_law_take" (spBag preTake)) : FnOk P w K mg base CX0 2 f fd ["_law_bag_here", "_law_things"] (spBag preMixed) := by
  refine ok_bag F scLawMixed (fun ds R h => by obtain ⟨_, rfl, _⟩ := h; rfl) fun cdv A outer s H b c cs vs Q E ds R hr hb hd hp q => ?_
  obtain ⟨xs, rfl, hl, rfl⟩ := hp
  obtain ⟨v1, rfl, d1⟩ := hd.a1
  refine ws_set 2 scLawMixed.nd (we_nil fun L nL => ?_)
  have sL : Same H (upd H L (.lst [])) := same_new nL
  have eL : (upd H L (.lst [])) L = some (.lst []) := upd_same
  obtain ⟨hLb, hLc⟩ := hb.fresh nL
  generalize upd H L (.lst []) = H1 at sL eL ⊢
  have hb1 := hb.mono sL
  have d1b := d1.offB hb (d := lN xs) (noLs_map (enc := nI) (fun _ => rfl) xs)
  have L0 : off H b L = none := by rw [off_ne hLb]; exact nL
  have o1 : Same (off H b) (off H1 b) := off_mono sL
  cases d1b with
  | lst h1 h2 =>
    rename_i l zs
    refine ws_forL PassesOwn.never (pg_name (i := 3) scLawMixed.nd rfl (by first | exact .inl rfl | exact .inr rfl)) (we_var 1 rfl ⟨l, zs, off H b, fun i σ H3 => (∃ (y3 : Option V) (ys : List Nat), σ = [some (.ref b), some (.ref l), some (.ref L), y3] ∧ BagAt H3 b c cs ∧ H3 L = some (.lst (ys.map fun n : Nat => V.int n)) ∧ ys.Perm (xs.take i) ∧ Same (off H b) (off H3 b)) ∧ Same (off H b) H3,
      rfl, h1, o1.trans off_le, ⟨⟨none, [], rfl, hb1, eL, List.Perm.refl _, o1⟩, o1.trans off_le⟩, fun i σ H3 p => p.2, fun i x σ H3 hx p => ?_, fun σ H3 p => ?_⟩)
    · obtain ⟨⟨y3, ys, rfl, hb3, eL3, pm, o3⟩, s3⟩ := p
      have hi : i < xs.length := by
        have := (List.getElem?_eq_some_iff.mp hx).1
        rw [h2.length, List.length_map] at this
        exact this
      have hxi := List.getElem?_eq_getElem hi
      have dx := h2.at hxi hx
      have htk : xs.take (i + 1) = xs.take i ++ [xs[i]] := by rw [List.take_add_one, hxi]; rfl
      generalize xs[i] = z at dx htk
      cases dx
      have hyl : ys.length ≤ 60 := by
        rw [pm.length_eq, List.length_take]; omega
      refine ws_expr (we_insert (we_var 2 rfl ⟨L, _, rfl, eL3, we_bag (G := H3) c1 hr (fun H Q q => we_var 0 rfl q) (da_cons ((de_add (de_len B (de_var 2 (Dq.toInts eL3)) (.inl rfl)) de_int).is (d' := nI (ys.length + 1)) (by rw [List.length_map]; rfl)) da_nil) (Same.refl H3) hb3 ⟨ys.length + 1, rfl, by omega, by omega, rfl⟩ fun v H4 d b4 s4 d4 rd => ?_⟩))
      obtain ⟨n, hn, rfl⟩ := rd
      cases d4
      have eL4 : H4 L = some (.lst (ys.map fun n : Nat => V.int n)) := by
        have := s4 L _ (by rw [off_ne hLb]; exact eL3)
        rw [off_ne hLb] at this
        exact this
      refine we_var 3 rfl ⟨n, _, rfl, eL4, by rw [List.length_map]; omega, by omega, ws_nil ⟨⟨_, ys.take n ++ [z] ++ ys.drop n, rfl, ?_, ?_, ?_, ?_⟩, ?_⟩⟩
      · exact b4.mut hLb hLc
      · rw [upd_same, List.map_append, List.map_append, List.map_take, List.map_drop]
        rfl
      · rw [htk]
        refine List.Perm.trans ?_ ((pm.append_right [z]))
        have h5 : (ys.take n ++ [z] ++ ys.drop n).Perm ((ys.take n ++ ys.drop n) ++ [z]) := by
          rw [List.append_assoc, List.append_assoc]
          exact (List.perm_append_comm (l₁ := [z])).append_left _
        rw [List.take_append_drop] at h5
        exact h5
      · rw [off_upd_ne hLb]
        exact same_mut (o3.trans s4) L0
      · exact same_mut (((o3.trans s4)).trans off_le) L0
    · obtain ⟨⟨y3, ys, rfl, hb3, eL3, pm, o3⟩, s3⟩ := p
      rw [h2.length, List.length_map, List.take_length] at pm
      exact ws_ret (we_var 2 rfl (q _ H3 _ hb3 o3 (Dq.toInts eL3) ⟨ys, pm, rfl⟩))
end
end DL

/-! Planted tasks: cycles of values, put beside each other, moved, renamed. -/
namespace DL
structure Pln (needs : List Nat) (old wish : Lay) (nxt cls : Nat → Nat) : Prop where
  len : old.length = wish.length
  hd : ∀ p, gt wish p = (gt old p).map nxt
  vo : ∀ p v, gt old p = some v → v < needs.length
  ro : ∀ v, v < needs.length → old.count (some v) = needs.getD v 0
  rw : ∀ v, v < needs.length → wish.count (some v) = needs.getD v 0
  pos : ∀ v, v < needs.length → 0 < needs.getD v 0
  nx : ∀ v, v < needs.length → nxt v < needs.length ∧ nxt v ≠ v ∧ cls (nxt v) = cls v
  cy : ∀ u, u < needs.length → ∃ m, 0 < m ∧ itN nxt m u = u ∧ (walkN nxt m u).Nodup ∧ ∀ v, v < needs.length → cls v = cls u → v ∈ walkN nxt m u ∧ needs.getD v 0 = needs.getD u 0
variable {needs n1 n2 : List Nat} {old wish o1 w1 o2 w2 : Lay} {nxt cls nx1 cl1 nx2 cl2 : Nat → Nat}
theorem gt_out {o : Lay} {p : Nat} (h : o.length ≤ p) : gt o p = none := by
  unfold gt
  rw [List.getD_eq_getElem?_getD, List.getElem?_eq_none h]; rfl
theorem gt_lt {o : Lay} {p v : Nat} (h : gt o p = some v) : p < o.length := by
  by_cases z : p < o.length
  · exact z
  · rw [gt_out (by omega)] at h; cases h
theorem Pln.ev (P : Pln needs old wish nxt cls) (h1 : needs.length ≤ 60) (h2 : wish.length ≤ 60) : Ev needs old wish where
  nl := h1
  len := P.len
  wl := h2
  ro := P.ro
  rw := P.rw
  fr := fun p _ => by rw [P.hd p]; cases gt old p <;> rfl
  vo := P.vo
  vw := fun p v h => by
    rw [P.hd p] at h
    obtain ⟨u, hu, rfl⟩ := Option.map_eq_some_iff.mp h
    exact (P.nx u (P.vo p u hu)).1
theorem Pln.it_lt (P : Pln needs old wish nxt cls) {u : Nat} (hu : u < needs.length) : ∀ i, itN nxt i u < needs.length ∧ cls (itN nxt i u) = cls u
  | 0 => ⟨hu, rfl⟩
  | i + 1 => by
    obtain ⟨h1, h2⟩ := P.it_lt hu i
    rw [itN_succ]
    obtain ⟨h3, _, h4⟩ := P.nx _ h1
    exact ⟨h3, h4.trans h2⟩
theorem pln_nil (k : Nat) : Pln [] (List.replicate k none) (List.replicate k none) (fun v => v) (fun v => v) where
  len := rfl
  hd := fun p => by
    have : gt (List.replicate k none) p = none := by
      unfold gt
      rw [List.getD_eq_getElem?_getD, List.getElem?_replicate]
      split <;> rfl
    rw [this]; rfl
  vo := fun p v h => by
    have : gt (List.replicate k none) p = none := by
      unfold gt
      rw [List.getD_eq_getElem?_getD, List.getElem?_replicate]
      split <;> rfl
    rw [this] at h; cases h
  ro := fun v h => by simp at h
  rw := fun v h => by simp at h
  pos := fun v h => by simp at h
  nx := fun v h => by simp at h
  cy := fun v h => by simp at h
/-! ### one cycle -/
def blkO (need many : Nat) : Lay := ((List.range many).map fun at_ => List.replicate need (some at_)).flatten
def blkW (need many : Nat) : Lay := ((List.range many).map fun at_ => List.replicate need (some ((at_ + 1) % many))).flatten
theorem pln_block {need many : Nat} (h1 : need ∈ [1, 2]) (h2 : many ∈ [2, 3, 4]) : Pln (List.replicate many need) (blkO need many) (blkW need many) (fun v => (v + 1) % many) (fun _ => 0) := by
  have hd : ∀ (o w : Lay) (f : Nat → Nat), o.length = w.length → (∀ p, p < o.length → gt w p = (gt o p).map f) → ∀ p, gt w p = (gt o p).map f := fun o w f hl h p => by
    by_cases z : p < o.length
    · exact h p z
    · rw [gt_out (by omega), gt_out (o := o) (by omega)]; rfl
  have vo : ∀ (o : Lay) (n : Nat), (∀ p, p < o.length → ∀ v ∈ gt o p, v < n) → ∀ p v, gt o p = some v → v < n := fun o n h p v e => h p (gt_lt e) v e
  have cy : ∀ (m n : Nat) (f : Nat → Nat) (ns : List Nat), (∀ u, u < n → 0 < m ∧ itN f m u = u ∧ (walkN f m u).Nodup ∧ ∀ v, v < n → v ∈ walkN f m u ∧ ns.getD v 0 = ns.getD u 0) → ∀ u, u < n → ∃ m, 0 < m ∧ itN f m u = u ∧ (walkN f m u).Nodup ∧ ∀ v, v < n → (0 : Nat) = 0 → v ∈ walkN f m u ∧ ns.getD v 0 = ns.getD u 0 :=
    fun m n f ns h u hu => ⟨m, (h u hu).1, (h u hu).2.1, (h u hu).2.2.1, fun v hv _ => (h u hu).2.2.2 v hv⟩
  simp only [List.mem_cons, List.not_mem_nil, or_false] at h1 h2
  rcases h1 with rfl | rfl <;> rcases h2 with rfl | rfl | rfl
  · exact ⟨by decide, hd _ _ _ (by decide) (by decide), vo _ _ (by decide), by decide, by decide, by decide, by decide, cy 2 _ _ _ (by decide)⟩
  · exact ⟨by decide, hd _ _ _ (by decide) (by decide), vo _ _ (by decide), by decide, by decide, by decide, by decide, cy 3 _ _ _ (by decide)⟩
  · exact ⟨by decide, hd _ _ _ (by decide) (by decide), vo _ _ (by decide), by decide, by decide, by decide, by decide, cy 4 _ _ _ (by decide)⟩
  · exact ⟨by decide, hd _ _ _ (by decide) (by decide), vo _ _ (by decide), by decide, by decide, by decide, by decide, cy 2 _ _ _ (by decide)⟩
  · exact ⟨by decide, hd _ _ _ (by decide) (by decide), vo _ _ (by decide), by decide, by decide, by decide, by decide, cy 3 _ _ _ (by decide)⟩
  · exact ⟨by decide, hd _ _ _ (by decide) (by decide), vo _ _ (by decide), by decide, by decide, by decide, by decide, cy 4 _ _ _ (by decide)⟩
/-! ### beside -/
def bsN (n : Nat) (f g : Nat → Nat) (v : Nat) : Nat := if v < n then f v else g (v - n) + n
def bsC (n : Nat) (f g : Nat → Nat) (v : Nat) : Nat := if v < n then 2 * f v else 2 * g (v - n) + 1
def mvO (n : Nat) (lay : Lay) : Lay := lay.map (Option.map (· + n))
theorem gt_app (a b : Lay) (p : Nat) : gt (a ++ b) p = if p < a.length then gt a p else gt b (p - a.length) := by
  unfold gt
  split
  · rw [List.getD_eq_getElem?_getD, List.getD_eq_getElem?_getD, List.getElem?_append_left (by assumption)]
  · rw [List.getD_eq_getElem?_getD, List.getD_eq_getElem?_getD, List.getElem?_append_right (by omega)]
theorem gt_map (f : Nat → Nat) (o : Lay) (p : Nat) : gt (o.map (Option.map f)) p = (gt o p).map f := by
  unfold gt
  rw [List.getD_eq_getElem?_getD, List.getD_eq_getElem?_getD, List.getElem?_map]
  cases o[p]? with
  | none => rfl
  | some x => rfl
theorem gt_mv (n : Nat) (o : Lay) (p : Nat) : gt (mvO n o) p = (gt o p).map (· + n) := gt_map _ o p
theorem mem_gt {o : Lay} {x : Option Nat} (h : x ∈ o) : ∃ p, p < o.length ∧ gt o p = x := by
  obtain ⟨p, hp⟩ := List.getElem?_of_mem h
  exact ⟨p, (List.getElem?_eq_some_iff.mp hp).1, gt_some hp⟩
theorem gt_mem {o : Lay} {p : Nat} (h : p < o.length) : gt o p ∈ o := List.mem_of_getElem? (gt_at h)
theorem count_map_iff {α β : Type} [BEq α] [LawfulBEq α] [BEq β] [LawfulBEq β] {f : α → β} {a : α} {b : β} {xs : List α} (h : ∀ x ∈ xs, f x = b ↔ x = a) : (xs.map f).count b = xs.count a := by
  rw [List.count_eq_countP, List.count_eq_countP, List.countP_map]
  refine List.countP_congr fun x hx => ?_
  show (f x == b) = true ↔ (x == a) = true
  rw [beq_iff_eq, beq_iff_eq]
  exact h x hx
theorem getD_app (a b : List Nat) (v : Nat) : (a ++ b).getD v 0 = if v < a.length then a.getD v 0 else b.getD (v - a.length) 0 := by
  split
  · rw [List.getD_eq_getElem?_getD, List.getD_eq_getElem?_getD, List.getElem?_append_left (by assumption)]
  · rw [List.getD_eq_getElem?_getD, List.getD_eq_getElem?_getD, List.getElem?_append_right (by omega)]
theorem count_bs {n : Nat} {a b : Lay} (h : ∀ p v, gt a p = some v → v < n) (v : Nat) : (a ++ mvO n b).count (some v) = if v < n then a.count (some v) else b.count (some (v - n)) := by
  rw [List.count_append]
  split
  · have : (mvO n b).count (some v) = 0 := by
      rw [List.count_eq_zero]
      intro hm
      obtain ⟨x, _, e⟩ := List.mem_map.mp hm
      cases x with
      | none => cases e
      | some x =>
        have : x + n = v := Option.some.inj e
        omega
    omega
  · have h1 : a.count (some v) = 0 := by
      rw [List.count_eq_zero]
      intro hm
      obtain ⟨p, _, e⟩ := mem_gt hm
      have := h p v e
      omega
    have h2 : (mvO n b).count (some v) = b.count (some (v - n)) := count_map_iff fun x _ => by
      cases x with
      | none => simp
      | some x =>
        simp only [Option.map_some, Option.some.injEq]
        omega
    omega
theorem it_lo {n : Nat} {f g : Nat → Nat} (hf : ∀ v, v < n → f v < n) : ∀ (m u : Nat), u < n → itN (bsN n f g) m u = itN f m u ∧ walkN (bsN n f g) m u = walkN f m u
  | 0, u, _ => ⟨rfl, rfl⟩
  | m + 1, u, hu => by
    have e : bsN n f g u = f u := if_pos hu
    obtain ⟨h1, h2⟩ := it_lo hf m (f u) (hf u hu)
    rw [itN, walkN, itN, walkN, e, h1, h2]
    exact ⟨rfl, rfl⟩
theorem it_hi {n : Nat} {f g : Nat → Nat} : ∀ (m u : Nat), itN (bsN n f g) m (u + n) = itN g m u + n ∧ walkN (bsN n f g) m (u + n) = (walkN g m u).map (· + n)
  | 0, u => ⟨rfl, rfl⟩
  | m + 1, u => by
    have e : bsN n f g (u + n) = g u + n := by
      unfold bsN
      rw [if_neg (by omega), Nat.add_sub_cancel]
    obtain ⟨h1, h2⟩ := it_hi (n := n) (f := f) (g := g) m (g u)
    rw [itN, walkN, itN, walkN, e, h1, h2, List.map_cons]
    exact ⟨rfl, rfl⟩
theorem pln_beside (P : Pln n1 o1 w1 nx1 cl1) (Q : Pln n2 o2 w2 nx2 cl2) : Pln (n1 ++ n2) (o1 ++ mvO n1.length o2) (w1 ++ mvO n1.length w2) (bsN n1.length nx1 nx2) (bsC n1.length cl1 cl2) where
  len := by
    unfold mvO
    rw [List.length_append, List.length_append, List.length_map, List.length_map, P.len, Q.len]
  hd := fun p => by
    rw [gt_app, gt_app, P.len]
    split
    · rw [P.hd p]
      cases h : gt o1 p with
      | none => rfl
      | some v => exact congrArg some (if_pos (P.vo p v h)).symm
    · rw [gt_mv, gt_mv, Q.hd]
      cases gt o2 (p - w1.length) with
      | none => rfl
      | some v =>
        refine congrArg some ?_
        show nx2 v + n1.length = bsN _ _ _ (v + n1.length)
        unfold bsN
        rw [if_neg (by omega), Nat.add_sub_cancel]
  vo := fun p v h => by
    rw [List.length_append]
    rw [gt_app] at h
    split at h
    · have := P.vo p v h; omega
    · rw [gt_mv] at h
      obtain ⟨u, hu, rfl⟩ := Option.map_eq_some_iff.mp h
      have := Q.vo _ u hu
      omega
  ro := fun v h => by
    rw [List.length_append] at h
    rw [count_bs P.vo, getD_app]
    split
    · exact P.ro v (by assumption)
    · exact Q.ro _ (by omega)
  rw := fun v h => by
    rw [List.length_append] at h
    rw [count_bs (fun p v h => by
      rw [P.hd p] at h
      obtain ⟨u, hu, rfl⟩ := Option.map_eq_some_iff.mp h
      exact (P.nx u (P.vo p u hu)).1), getD_app]
    split
    · exact P.rw v (by assumption)
    · exact Q.rw _ (by omega)
  pos := fun v h => by
    rw [List.length_append] at h
    rw [getD_app]
    split
    · exact P.pos v (by assumption)
    · exact Q.pos _ (by omega)
  nx := fun v h => by
    rw [List.length_append] at h
    rw [List.length_append]
    unfold bsN bsC
    by_cases z : v < n1.length
    · rw [if_pos z, if_pos z]
      obtain ⟨h1, h2, h3⟩ := P.nx v z
      rw [if_pos h1, h3]
      exact ⟨by omega, h2, rfl⟩
    · rw [if_neg z, if_neg z]
      obtain ⟨h1, h2, h3⟩ := Q.nx (v - n1.length) (by omega)
      rw [if_neg (by omega), Nat.add_sub_cancel, h3]
      exact ⟨by omega, by omega, rfl⟩
  cy := fun u h => by
    rw [List.length_append] at h
    by_cases z : u < n1.length
    · obtain ⟨m, h1, h2, h3, h4⟩ := P.cy u z
      obtain ⟨e1, e2⟩ := it_lo (g := nx2) (fun v hv => (P.nx v hv).1) m u z
      refine ⟨m, h1, by rw [e1]; exact h2, by rw [e2]; exact h3, fun v hv hc => ?_⟩
      rw [List.length_append] at hv
      unfold bsC at hc
      rw [if_pos z] at hc
      by_cases zv : v < n1.length
      · rw [if_pos zv] at hc
        obtain ⟨h5, h6⟩ := h4 v zv (by omega)
        rw [e2, getD_app, getD_app, if_pos zv, if_pos z]
        exact ⟨h5, h6⟩
      · rw [if_neg zv] at hc
        omega
    · obtain ⟨w, rfl⟩ : ∃ w, u = w + n1.length := ⟨u - n1.length, by omega⟩
      obtain ⟨m, h1, h2, h3, h4⟩ := Q.cy w (by omega)
      obtain ⟨e1, e2⟩ := it_hi (n := n1.length) (f := nx1) (g := nx2) m w
      refine ⟨m, h1, by rw [e1, h2], by rw [e2]; exact List.pairwise_map.mpr (h3.imp fun h e => h (by omega)), fun v hv hc => ?_⟩
      rw [List.length_append] at hv
      unfold bsC at hc
      rw [if_neg z, Nat.add_sub_cancel] at hc
      by_cases zv : v < n1.length
      · rw [if_pos zv] at hc
        omega
      · rw [if_neg zv] at hc
        obtain ⟨h5, h6⟩ := h4 (v - n1.length) (by omega) (by omega)
        rw [e2, getD_app, getD_app, if_neg zv, if_neg z, Nat.add_sub_cancel]
        exact ⟨List.mem_map.mpr ⟨_, h5, by omega⟩, h6⟩
/-! ### the places in another order -/
theorem range_gt (o : Lay) : (List.range o.length).map (gt o) = o := by
  refine List.ext_getElem (by simp) fun i h1 h2 => ?_
  rw [List.getElem_map, List.getElem_range]
  exact gt_some (List.getElem?_eq_getElem h2)
theorem gt_mapP (f : Nat → Option Nat) (order : List Nat) (p : Nat) : gt (order.map f) p = (order[p]?).bind f := by
  unfold gt
  rw [List.getD_eq_getElem?_getD, List.getElem?_map]
  cases order[p]? with
  | none => rfl
  | some x => rfl
theorem pln_places (P : Pln needs old wish nxt cls) {order : List Nat} (h : order.Perm (List.range old.length)) : Pln needs (order.map (gt old)) (order.map (gt wish)) nxt cls where
  len := by rw [List.length_map, List.length_map]
  hd := fun p => by
    rw [gt_mapP, gt_mapP]
    cases order[p]? with
    | none => rfl
    | some x => exact P.hd x
  vo := fun p v e => by
    rw [gt_mapP] at e
    cases hx : order[p]? with
    | none => rw [hx] at e; cases e
    | some x => rw [hx] at e; exact P.vo x v e
  ro := fun v hv => by
    have := h.map (gt old)
    rw [range_gt] at this
    rw [this.count_eq]
    exact P.ro v hv
  rw := fun v hv => by
    rw [P.len] at h
    have := h.map (gt wish)
    rw [range_gt] at this
    rw [this.count_eq]
    exact P.rw v hv
  pos := P.pos
  nx := P.nx
  cy := P.cy
/-! ### the values renamed -/
theorem range_perm {vs : List Nat} {n : Nat} (h : vs.Perm (List.range n)) : vs.length = n ∧ vs.Nodup ∧ (∀ v, v ∈ vs ↔ v < n) :=
  ⟨by rw [h.length_eq, List.length_range], h.nodup_iff.mpr List.nodup_range, fun v => by rw [h.mem_iff, List.mem_range]⟩
theorem idx_get {vs : List Nat} {n : Nat} (h : vs.Perm (List.range n)) {v : Nat} (hv : v < n) : vs.idxOf v < n ∧ vs.getD (vs.idxOf v) 0 = v := by
  obtain ⟨h1, h2, h3⟩ := range_perm h
  have h4 : vs.idxOf v < vs.length := List.idxOf_lt_length_of_mem ((h3 v).mpr hv)
  refine ⟨by omega, ?_⟩
  rw [List.getD_eq_getElem?_getD, List.getElem?_eq_getElem h4, List.getElem_idxOf]
  rfl
theorem get_idx {vs : List Nat} {n : Nat} (h : vs.Perm (List.range n)) {w : Nat} (hw : w < n) : vs.getD w 0 < n ∧ vs.idxOf (vs.getD w 0) = w := by
  obtain ⟨h1, h2, h3⟩ := range_perm h
  have h4 : w < vs.length := by omega
  have e : vs.getD w 0 = vs[w] := by rw [List.getD_eq_getElem?_getD, List.getElem?_eq_getElem h4]; rfl
  rw [e]
  exact ⟨(h3 _).mp (List.getElem_mem h4), h2.idxOf_getElem w h4⟩
theorem it_ren {n : Nat} {vs : List Nat} (h : vs.Perm (List.range n)) {f : Nat → Nat} (hf : ∀ v, v < n → f v < n) : ∀ (m w : Nat), w < n →
    itN (fun w => vs.idxOf (f (vs.getD w 0))) m w = vs.idxOf (itN f m (vs.getD w 0)) ∧ walkN (fun w => vs.idxOf (f (vs.getD w 0))) m w = (walkN f m (vs.getD w 0)).map vs.idxOf
  | 0, w, hw => ⟨(get_idx h hw).2.symm, rfl⟩
  | m + 1, w, hw => by
    obtain ⟨h1, h2⟩ := get_idx h hw
    obtain ⟨h3, h4⟩ := idx_get h (hf _ h1)
    obtain ⟨e1, e2⟩ := it_ren h hf m (vs.idxOf (f (vs.getD w 0))) h3
    rw [h4] at e1 e2
    rw [itN, walkN, itN, walkN, List.map_cons, e1, e2, h2]
    exact ⟨rfl, rfl⟩
theorem pln_values (P : Pln needs old wish nxt cls) {vs : List Nat} (h : vs.Perm (List.range needs.length)) :
    Pln (vs.map fun v => needs.getD v 0) (old.map (Option.map vs.idxOf)) (wish.map (Option.map vs.idxOf)) (fun w => vs.idxOf (nxt (vs.getD w 0))) (fun w => cls (vs.getD w 0)) := by
  obtain ⟨hl, hn, hm⟩ := range_perm h
  have hneed : ∀ w, w < needs.length → (vs.map fun v => needs.getD v 0).getD w 0 = needs.getD (vs.getD w 0) 0 := fun w hw => by
    rw [List.getD_eq_getElem?_getD, List.getElem?_map, List.getD_eq_getElem?_getD (l := vs), List.getElem?_eq_getElem (by omega)]
    rfl
  have vw : ∀ p v, gt wish p = some v → v < needs.length := fun p v e => by
    rw [P.hd p] at e
    obtain ⟨u, hu, rfl⟩ := Option.map_eq_some_iff.mp e
    exact (P.nx u (P.vo p u hu)).1
  have cnt : ∀ (o : Lay), (∀ p v, gt o p = some v → v < needs.length) → ∀ w, w < needs.length → (o.map (Option.map vs.idxOf)).count (some w) = o.count (some (vs.getD w 0)) := fun o ho w hw => count_map_iff fun x hx => by
    obtain ⟨p, _, e⟩ := mem_gt hx
    cases x with
    | none => simp
    | some x =>
      simp only [Option.map_some, Option.some.injEq]
      have hx2 := ho p x e
      constructor
      · rintro rfl; exact ((idx_get h hx2).2).symm
      · rintro rfl; exact (get_idx h hw).2
  refine ⟨by rw [List.length_map, List.length_map, P.len], fun p => ?_, fun p v e => ?_, fun w hw => ?_, fun w hw => ?_, fun w hw => ?_, fun w hw => ?_, fun w hw => ?_⟩
  · rw [gt_map, gt_map, P.hd]
    cases e : gt old p with
    | none => rfl
    | some v =>
      refine congrArg some ?_
      show vs.idxOf (nxt v) = vs.idxOf (nxt (vs.getD (vs.idxOf v) 0))
      rw [(idx_get h (P.vo p v e)).2]
  · rw [gt_map] at e
    obtain ⟨u, hu, rfl⟩ := Option.map_eq_some_iff.mp e
    rw [List.length_map, hl]
    exact (idx_get h (P.vo p u hu)).1
  · rw [List.length_map, hl] at hw
    rw [cnt old P.vo w hw, hneed w hw]
    exact P.ro _ (get_idx h hw).1
  · rw [List.length_map, hl] at hw
    rw [cnt wish vw w hw, hneed w hw]
    exact P.rw _ (get_idx h hw).1
  · rw [List.length_map, hl] at hw
    rw [hneed w hw]
    exact P.pos _ (get_idx h hw).1
  · rw [List.length_map, hl] at hw
    obtain ⟨h1, h2⟩ := get_idx h hw
    obtain ⟨h3, h4, h5⟩ := P.nx _ h1
    obtain ⟨h6, h7⟩ := idx_get h h3
    refine ⟨by rw [List.length_map, hl]; exact h6, fun e => h4 ?_, ?_⟩
    · rw [← h7]; exact congrArg (fun w => vs.getD w 0) e
    · show cls (vs.getD (vs.idxOf _) 0) = _
      rw [h7, h5]
  · rw [List.length_map, hl] at hw
    obtain ⟨h1, h2⟩ := get_idx h hw
    obtain ⟨m, c1, c2, c3, c4⟩ := P.cy _ h1
    obtain ⟨e1, e2⟩ := it_ren h (fun v hv => (P.nx v hv).1) m w hw
    have hwk : ∀ x ∈ walkN nxt m (vs.getD w 0), x < needs.length := fun x hx => by
      obtain ⟨i, _, rfl⟩ := mem_walkN.mp hx
      exact (P.it_lt h1 i).1
    refine ⟨m, c1, by rw [e1, c2, h2], ?_, fun v hv hc => ?_⟩
    · rw [e2]
      refine List.pairwise_map.mpr (c3.imp_of_mem fun {a b} ha hb hab e => hab ?_)
      rw [← (idx_get h (hwk a ha)).2, ← (idx_get h (hwk b hb)).2, e]
    · rw [List.length_map, hl] at hv
      obtain ⟨h3, h4⟩ := get_idx h hv
      obtain ⟨c5, c6⟩ := c4 _ h3 hc
      rw [e2, hneed v hv, hneed w hw]
      exact ⟨List.mem_map.mpr ⟨_, c5, h4⟩, c6⟩
end DL

namespace DL
open PySem PySem.Spec PyProof.Rows L2
section
variable {P : Program} {w : World} {K : PySem.W.Frag} {mg : Str → Option Value} {base : Heap} {f : Addr} {fd : FuncData}
structure DS (H0 : Hp) (b c N O W : Addr) : Prop where
  n0 : off H0 b N = none
  o0 : off H0 b O = none
  w0 : off H0 b W = none
  nb : N ≠ b ∧ N ≠ c
  ob : O ≠ b ∧ O ≠ c
  wb : W ≠ b ∧ W ≠ c
  no : N ≠ O
  nw : N ≠ W
  ow : O ≠ W
structure PS (H0 : Hp) (b c : Addr) (cs : List Int) (N O W : Addr) (H : Hp) (ns : List Nat) (os ws : Lay) : Prop where
  bag : BagAt H b c cs
  fr : Same (off H0 b) (off H b)
  en : H N = some (.lst (ns.map fun n : Nat => V.int n))
  eo : H O = some (.lst (os.map oV))
  ew : H W = some (.lst (ws.map oV))
section
variable {H0 H H' : Hp} {b c N O W : Addr} {cs : List Int} {ns : List Nat} {os ws : Lay}
theorem PS.mono (p : PS H0 b c cs N O W H ns os ws) (s : Same H H') : PS H0 b c cs N O W H' ns os ws := ⟨p.bag.mono s, p.fr.trans (off_mono s), s _ _ p.en, s _ _ p.eo, s _ _ p.ew⟩
theorem off_get {a : Addr} {o : HO} (h : a ≠ b) (s : Same (off H b) (off H' b)) (e : H a = some o) : H' a = some o := by
  have := s a o (by rw [off_ne h]; exact e)
  rw [off_ne h] at this
  exact this
theorem PS.use (D : DS H0 b c N O W) (p : PS H0 b c cs N O W H ns os ws) (hb : BagAt H' b c cs) (s : Same (off H b) (off H' b)) : PS H0 b c cs N O W H' ns os ws :=
  ⟨hb, p.fr.trans s, off_get D.nb.1 s p.en, off_get D.ob.1 s p.eo, off_get D.wb.1 s p.ew⟩
theorem PS.setN (D : DS H0 b c N O W) (p : PS H0 b c cs N O W H ns os ws) {ns' : List Nat} {xs : List V} (e : xs = ns'.map fun n : Nat => V.int n) : PS H0 b c cs N O W (upd H N (.lst xs)) ns' os ws :=
  ⟨p.bag.mut D.nb.1 D.nb.2, by rw [off_upd_ne D.nb.1]; exact same_mut p.fr D.n0, by rw [upd_same, e], by rw [upd_ne (Ne.symm D.no)]; exact p.eo, by rw [upd_ne (Ne.symm D.nw)]; exact p.ew⟩
theorem PS.setO (D : DS H0 b c N O W) (p : PS H0 b c cs N O W H ns os ws) {os' : Lay} {xs : List V} (e : xs = os'.map oV) : PS H0 b c cs N O W (upd H O (.lst xs)) ns os' ws :=
  ⟨p.bag.mut D.ob.1 D.ob.2, by rw [off_upd_ne D.ob.1]; exact same_mut p.fr D.o0, by rw [upd_ne D.no]; exact p.en, by rw [upd_same, e], by rw [upd_ne (Ne.symm D.ow)]; exact p.ew⟩
theorem PS.setW (D : DS H0 b c N O W) (p : PS H0 b c cs N O W H ns os ws) {ws' : Lay} {xs : List V} (e : xs = ws'.map oV) : PS H0 b c cs N O W (upd H W (.lst xs)) ns os ws' :=
  ⟨p.bag.mut D.wb.1 D.wb.2, by rw [off_upd_ne D.wb.1]; exact same_mut p.fr D.w0, by rw [upd_ne D.nw]; exact p.en, by rw [upd_ne D.ow]; exact p.eo, by rw [upd_same, e]⟩
end
section
variable {X : Cx} {σ : L2.St} {H : Hp} {Q : VK} {a b : Expr} {pos p : Pos}
theorem we_min (B : Blt X.mg) (h : WE X a σ H fun v H1 => WE X b σ H1 fun w H2 => ∃ i j : Int, v = .int i ∧ w = .int j ∧ Q (.int (if j < i then j else i)) H2) (hc : X.calm = true := by rfl) (hg : Gl X "min" := by rfl) (he : starEach [a, b] X.env = (false, eval a X.env) :: starEach [b] X.env := by rfl)
    (he2 : starEach [b] X.env = (false, eval b X.env) :: starEach [] X.env := by rfl) (hpl : (backTo pos (starEach [b] X.env)).any (·.1) = false := by rfl) : WE X (.Call (.Name "min" p) [a, b] [] pos) σ H Q :=
  we_B (call_min2 hc) B.min (by decide +kernel) (wa_two (h.imp fun v H1 q1 => q1.imp fun w H2 q2 => by
      obtain ⟨i, j, ev, ew, q3⟩ := q2
      subst ev
      subst ew
      exact ⟨i, j, rfl, q3⟩) he he2) hg (by decide) (by decide) he hpl
end
theorem rep_ints {n k : Nat} {vs : List V} {H : Hp} (h : DqAll H vs (List.replicate n (nI k))) : vs = List.replicate n (V.int (k : Int)) := by
  have h2 : DqAll H vs ((List.replicate n (k : Int)).map PyData.int) := by rw [List.map_replicate]; exact h
  rw [h2.ints_inv, List.map_replicate]
def blkOn (f need : Nat) (i : Nat) : Lay := ((List.range i).map fun at_ => List.replicate need (some (f + at_))).flatten
def blkWn (f need many : Nat) (i : Nat) : Lay := ((List.range i).map fun at_ => List.replicate need (some (f + (at_ + 1) % many))).flatten
theorem blkOn_succ (f need i : Nat) : blkOn f need (i + 1) = blkOn f need i ++ List.replicate need (some (f + i)) := by
  unfold blkOn
  rw [List.range_succ, List.map_append, List.flatten_append]
  simp
theorem blkWn_succ (f need many i : Nat) : blkWn f need many (i + 1) = blkWn f need many i ++ List.replicate need (some (f + (i + 1) % many)) := by
  unfold blkWn
  rw [List.range_succ, List.map_append, List.flatten_append]
  simp
theorem blkOn_all (f need many : Nat) : blkOn f need many = mvO f (blkO need many) := by
  unfold blkOn blkO mvO
  rw [List.map_flatten, List.map_map]
  refine congrArg List.flatten (List.map_congr_left fun x _ => ?_)
  show _ = List.map _ (List.replicate _ _)
  rw [List.map_replicate, Nat.add_comm]
  rfl
theorem blkWn_all (f need many : Nat) : blkWn f need many many = mvO f (blkW need many) := by
  unfold blkWn blkW mvO
  rw [List.map_flatten, List.map_map]
  refine congrArg List.flatten (List.map_congr_left fun x _ => ?_)
  show _ = List.map _ (List.replicate _ _)
  rw [List.map_replicate, Nat.add_comm]
  rfl
theorem blkOn_length (f need : Nat) : ∀ i, (blkOn f need i).length = need * i
  | 0 => rfl
  | i + 1 => by rw [blkOn_succ, List.length_append, blkOn_length f need i, List.length_replicate, Nat.mul_succ]
theorem blkWn_length (f need many : Nat) : ∀ i, (blkWn f need many i).length = need * i
  | 0 => rfl
  | i + 1 => by rw [blkWn_succ, List.length_append, blkWn_length f need many i, List.length_replicate, Nat.mul_succ]
def preParted (ds : List PyData) (R : PyData → Prop) : Prop := ∃ size most : Nat, ds = [nI size, nI most] ∧ size ≤ 20 ∧ most ≤ 20 ∧ R = fun d => ∃ (needs : List Nat) (old wish : Lay) (nxt cls : Nat → Nat), d = tTk needs old wish ∧ Pln needs old wish nxt cls ∧ needs.length ≤ most ∧ old.length ≤ size
theorem ok_parted (F : Fun K "_law_parted_task" "_law_parted_task" sLawPartedTask f fd) (B : Blt mg) (c1 : Cal P w K mg base 1 "_law_take" (spBag preTake)) (c2 : Cal P w K mg base 2 "_law_some" (spBag preSome)) (c3 : Cal P w K mg base 2 "_law_mixed" (spBag preMixed)) :
    FnOk P w K mg base CX0 3 f fd ["_law_bag_here", "_law_size", "_law_most"] (spBag preParted) := by
  refine ok_bag F scLawPartedTask (fun ds R h => by obtain ⟨_, _, rfl, _⟩ := h; rfl) fun cdv A outer s H b c cs vs Q E ds R hr hb hd hp q => ?_
  obtain ⟨size, most, rfl, hs20, hm20, rfl⟩ := hp
  obtain ⟨v1, v2, rfl, d1, d2⟩ := hd.a2
  cases d1
  cases d2
  refine ws_cell4 3 4 5 6 scLawPartedTask.nd (we_nil fun N nN => we_nil fun O nO => we_nil fun W nW => de_bl _ _ (Same.refl _) fun v6 H1 s1 d6 H2 s2 => ?_)
  cases d6
  obtain ⟨hNb, hNc⟩ := hb.fresh nN
  have b1 := hb.mono (same_new (o := .lst []) nN)
  obtain ⟨hOb, hOc⟩ := b1.fresh nO
  have b2 := b1.mono (same_new (o := .lst []) nO)
  obtain ⟨hWb, hWc⟩ := b2.fresh nW
  have hNO : N ≠ O := fun z => by rw [← z, upd_same] at nO; cases nO
  have hNW : N ≠ W := fun z => by rw [← z, upd_ne hNO, upd_same] at nW; cases nW
  have hOW : O ≠ W := fun z => by rw [← z, upd_same] at nW; cases nW
  have D : DS H b c N O W := ⟨by rw [off_ne hNb]; exact nN, by rw [upd_ne (Ne.symm hNO)] at nO; rw [off_ne hOb]; exact nO, by rw [upd_ne (Ne.symm hOW), upd_ne (Ne.symm hNW)] at nW; rw [off_ne hWb]; exact nW, ⟨hNb, hNc⟩, ⟨hOb, hOc⟩, ⟨hWb, hWc⟩, hNO, hNW, hOW⟩
  have p0 : PS H b c cs N O W H2 [] [] [] := by
    have s12 := s1.trans s2
    have sH : Same H H2 := ((same_new nN).trans ((same_new nO).trans (same_new nW))).trans s12
    exact ⟨hb.mono sH, off_mono sH, s12 _ _ (by rw [upd_ne hNW, upd_ne hNO, upd_same]; rfl), s12 _ _ (by rw [upd_ne hOW, upd_same]; rfl), s12 _ _ (by rw [upd_same]; rfl)⟩
  clear s1 s2 b1 b2 nN nO nW hNb hNc hOb hOc hWb hWc hNO hNW hOW
  refine ws_while PassesOwn.never (fun m σ H3 => ∃ (bm : Bool) (ns : List Nat) (os ws : Lay) (nxt cls : Nat → Nat) (y7 y8 y9 y10 : Option V), σ = [some (.ref b), some (.int (size : Int)), some (.int (most : Int)), some (.ref N), some (.ref O), some (.ref W), some (.bl bm), y7, y8, y9, y10, none, none] ∧ PS H b c cs N O W H3 ns os ws ∧
    Pln ns os ws nxt cls ∧ ns.length ≤ most ∧ os.length ≤ size ∧ m = if bm = true then size + 1 - os.length else 0) (size + 1) ⟨true, [], [], [], _, _, none, none, none, none, rfl, p0, pln_nil 0, Nat.zero_le _, Nat.zero_le _, rfl⟩ fun m σ H3 hw => ?_
  obtain ⟨bm, ns, os, ws, nxt, cls, y7, y8, y9, y10, rfl, ps, pl, hnl, hol, rfl⟩ := hw
  refine (dt_val (de_var 6 (.bl bm))) H3 _ (Same.refl H3) fun H4 s4 => ?_
  have ps4 := ps.mono s4
  have hwl := pl.len
  cases bm with
  | true =>
    rw [if_pos rfl]
    refine ws_par 7 8 scLawPartedTask.nd (we_bag (G := H4) c2 hr (fun H Q q => we_var 0 rfl q) (da_cons ((de_lst (da_cons de_int (da_cons de_int (da_cons de_int (da_cons de_int da_nil)))) (by simp)).is (d' := lN [1, 1, 1, 2]) rfl) da_nil) (Same.refl H4) ps4.bag ⟨[1, 1, 1, 2], rfl, by simp, by simp, rfl⟩ fun vn H5 dn b5 o5 k5 r5 => ?_)
    obtain ⟨need, hneed, rfl⟩ := r5
    cases k5
    have ps5 := ps4.use D b5 o5
    refine we_bag (G := H5) c2 hr (fun H Q q => we_var 0 rfl q) (da_cons ((de_lst (da_cons de_int (da_cons de_int (da_cons de_int (da_cons de_int da_nil)))) (by simp)).is (d' := lN [2, 2, 3, 4]) rfl) da_nil) (Same.refl H5) b5 ⟨[2, 2, 3, 4], rfl, by simp, by simp, rfl⟩ fun vm H6 dm b6 o6 k6 r6 => ?_
    obtain ⟨many, hmany, rfl⟩ := r6
    cases k6
    have ps6 := ps5.use D b6 o6
    have hn : need ∈ [1, 2] := by
      simp only [List.mem_cons, List.not_mem_nil, or_false] at hneed ⊢
      omega
    have hm : many ∈ [2, 3, 4] := by
      simp only [List.mem_cons, List.not_mem_nil, or_false] at hmany ⊢
      omega
    have hn2 : 1 ≤ need ∧ need ≤ 2 := by
      simp only [List.mem_cons, List.not_mem_nil, or_false] at hn
      omega
    have hm2 : 2 ≤ many ∧ many ≤ 4 := by
      simp only [List.mem_cons, List.not_mem_nil, or_false] at hm
      omega
    have hnm : need * many ≤ 8 := Nat.mul_le_mul hn2.2 hm2.2
    have hnm1 : 2 ≤ need * many := Nat.mul_le_mul hn2.1 hm2.1
    have dO := Dq.of_layL ps6.eo
    have dN := Dq.toInts ps6.en
    refine ws_de 6 scLawPartedTask.nd (G := H6) (d := .bool (decide (os.length + need * many ≤ size) && decide (ns.length + many ≤ most))) ((de_and (de_le (i := ((os.length + need * many : Nat) : Int)) (j := (size : Int)) ((de_add (i := (os.length : Int)) (j := (need : Int) * (many : Int)) ((de_len B (de_var 4 dO) (.inl rfl)).is (by rw [List.length_map])) (de_mul (de_var 7 (.int _)) (de_var 8 (.int _)) (.inl (by omega)))).is (by push_cast; rfl)) (de_var 1 (.int _)))
      fun _ => de_le (i := ((ns.length + many : Nat) : Int)) (j := (most : Int)) ((de_add (i := (ns.length : Int)) (j := (many : Int)) ((de_len B (de_var 3 dN) (.inl rfl)).is (by rw [List.length_map])) (de_var 8 (.int _))).is (by push_cast; rfl)) (de_var 2 (.int _))).is (by
        congr 1
        rw [Bool.eq_iff_iff]
        simp only [Bool.and_eq_true, decide_eq_true_iff]
        omega)) (Same.refl H6) fun v6 H7 s7 d6 => ?_
    cases d6
    have ps7 := ps6.mono s7
    refine ws_ifD (G := H7) (dt_val (de_var 6 (.bl _))) (Same.refl H7) (fun hyes H8 s8 => ?_) fun hno H8 s8 => ws_nil (ws_nil ⟨0, by rw [if_pos rfl]; omega, false, ns, os, ws, nxt, cls, _, _, _, _, by rw [hno]; rfl, ps7.mono s8, pl, hnl, hol, rfl⟩)
    simp only [Bool.and_eq_true, decide_eq_true_iff] at hyes
    obtain ⟨hy1, hy2⟩ := hyes
    have ps8 := ps7.mono s8
    rw [decide_eq_true hy1, decide_eq_true hy2]
    clear dO dN ps7 ps6 ps5 ps4 ps s8 s7 s4
    refine ws_de 9 scLawPartedTask.nd (G := H8) (d := nI ns.length) ((de_len B (de_var 3 (Dq.toInts ps8.en)) (.inl rfl)).is (by rw [List.length_map])) (Same.refl H8) fun v9 H9 s9 d9 => ?_
    cases d9
    have ps9 := ps8.mono s9
    refine ws_expr (we_extend (we_var 3 rfl ⟨N, _, rfl, ps9.en, DE.go (G := H9) (d := .list (List.replicate many (nI need))) (de_repL (n := many) (de_lst (da_cons (de_var 7 (.int _)) da_nil) (by simp)) (de_var 8 (.int _)) (by omega)) (Same.refl H9) fun v HA sA dA => ?_⟩))
    cases dA with
    | lst a1 a2 =>
      rename_i l1 zs1
      have psA := ps9.mono sA
      have ez := rep_ints a2
      refine ⟨l1, _, zs1, rfl, psA.en, a1, by rw [ez, List.length_map, List.length_replicate]; omega, ?_⟩
      have psB := psA.setN D (ns' := ns ++ List.replicate many need) (xs := ns.map (fun n : Nat => V.int n) ++ zs1) (by rw [ez, List.map_append, List.map_replicate])
      generalize upd HA N (.lst (ns.map (fun n : Nat => V.int n) ++ zs1)) = HB at psB
      refine ws_forR (n := many) B PassesOwn.never (pg_name (i := 10) scLawPartedTask.nd rfl (by first | exact .inl rfl | exact .inr rfl)) (G := HB) (de_var 8 (.int _)) (by omega) (Same.refl HB) (fun i σ HC => ∃ y10, σ = [some (.ref b), some (.int (size : Int)), some (.int (most : Int)), some (.ref N), some (.ref O), some (.ref W), some (.bl true), some (.int (need : Int)), some (.int (many : Int)), some (.int (ns.length : Int)), y10, none, none] ∧
        PS H b c cs N O W HC (ns ++ List.replicate many need) (os ++ blkOn ns.length need i) (ws ++ blkWn ns.length need many i)) (fun HC sC => ⟨_, rfl, ?_⟩) (fun i σ HC hi p => ?_) fun σ HC p => ?_
      · have := psB.mono sC
        show PS H b c cs N O W HC _ (os ++ []) (ws ++ [])
        rw [List.append_nil, List.append_nil]
        exact this
      · obtain ⟨y10, rfl, pC⟩ := p
        have hlo : (os ++ blkOn ns.length need i).length ≤ 100 := by
          rw [List.length_append, blkOn_length]
          have : need * i ≤ 2 * 4 := Nat.mul_le_mul hn2.2 (by omega)
          omega
        have hlw : (ws ++ blkWn ns.length need many i).length ≤ 100 := by
          rw [List.length_append, blkWn_length]
          have : need * i ≤ 2 * 4 := Nat.mul_le_mul hn2.2 (by omega)
          omega
        refine ws_expr (we_extend (we_var 4 rfl ⟨O, _, rfl, pC.eo, DE.go (G := HC) (d := .list (List.replicate need (nI (ns.length + i)))) (de_repL (n := need) (de_lst (da_cons ((de_add (i := (ns.length : Int)) (j := (i : Int)) (de_var 9 (.int _)) (de_var 10 (.int _))).is (d' := nI (ns.length + i)) rfl) da_nil) (by simp)) (de_var 7 (.int _)) (by omega)) (Same.refl HC) fun v HD sD dD => ?_⟩))
        cases dD with
        | lst g1 g2 =>
          rename_i l2 zs2
          have pD := pC.mono sD
          have ez2 := rep_ints g2
          refine ⟨l2, _, zs2, rfl, pD.eo, g1, by rw [ez2, List.length_map, List.length_replicate]; omega, ?_⟩
          have pE := pD.setO D (os' := os ++ blkOn ns.length need (i + 1)) (xs := (os ++ blkOn ns.length need i).map oV ++ zs2) (by rw [ez2, blkOn_succ, ← List.append_assoc, List.map_append (l₂ := List.replicate _ _), List.map_replicate]; rfl)
          generalize upd HD O (.lst ((os ++ blkOn ns.length need i).map oV ++ zs2)) = HE at pE
          refine ws_expr (we_extend (we_var 5 rfl ⟨W, _, rfl, pE.ew, DE.go (G := HE) (d := .list (List.replicate need (nI (ns.length + (i + 1) % many)))) (de_repL (n := need) (de_lst (da_cons ((de_add (i := (ns.length : Int)) (j := ((i : Int) + 1) % (many : Int)) (de_var 9 (.int _)) (de_mod (de_intc B (de_add (de_var 10 (.int _)) de_int)) (de_var 8 (.int _)) (by omega))).is (d' := nI (ns.length + (i + 1) % many)) (by show PyData.int _ = .int _; congr 1)) da_nil) (by simp)) (de_var 7 (.int _)) (by omega)) (Same.refl HE) fun v HF sF dF => ?_⟩))
          cases dF with
          | lst g3 g4 =>
            rename_i l3 zs3
            have pF := pE.mono sF
            have ez3 := rep_ints g4
            refine ⟨l3, _, zs3, rfl, pF.ew, g3, by rw [ez3, List.length_map, List.length_replicate]; omega, ws_nil ⟨_, rfl, ?_⟩⟩
            exact pF.setW D (by rw [ez3, blkWn_succ, ← List.append_assoc, List.map_append (l₂ := List.replicate _ _), List.map_replicate]; rfl)
      · obtain ⟨y10, rfl, pC⟩ := p
        have hpl := pln_beside pl (pln_block hn hm)
        rw [blkOn_all, blkWn_all] at pC
        refine ws_set 6 scLawPartedTask.nd (we_cmp op_gt (nomark _) (we_bag (G := HC) c1 (hr.mono (by decide)) (fun H Q q => we_var 0 rfl q) (da_cons de_int da_nil) (Same.refl HC) pC.bag ⟨5, rfl, by omega, by omega, rfl⟩ fun v HD d bD oD kD rD => de_int HD _ (Same.refl HD) fun v2 HE sE dE => ?_))
        obtain ⟨n, hn5, rfl⟩ := rD
        cases kD
        cases dE
        refine ⟨_, _, rfl, rfl, ws_nil (ws_nil ?_)⟩
        have pE := (pC.use D bD oD).mono sE
        have hl1 : (os ++ mvO ns.length (blkO need many)).length = os.length + need * many := by rw [← blkOn_all, List.length_append, blkOn_length]
        refine ⟨_, ?_, decide ((0 : Int) < (n : Int)), _, _, _, _, _, _, _, _, _, rfl, pE, hpl, by rw [List.length_append, List.length_replicate]; exact hy2, by rw [hl1]; exact hy1, rfl⟩
        rw [hl1, if_pos rfl]
        split <;> omega
  | false =>
    rw [if_neg (by decide)]
    refine ws_set 11 scLawPartedTask.nd (we_min B (we_bag (G := H4) c2 hr (fun H Q q => we_var 0 rfl q) (da_cons ((de_lst (da_cons de_int (da_cons de_int (da_cons de_int (da_cons de_int (da_cons de_int (da_cons de_int (da_cons de_int da_nil))))))) (by simp)).is (d' := lN [0, 1, 1, 2, 2, 3, 4]) rfl) da_nil) (Same.refl H4) ps4.bag ⟨[0, 1, 1, 2, 2, 3, 4], rfl, by simp, by simp, rfl⟩ fun vn H5 dn b5 o5 k5 r5 => ?_))
    obtain ⟨sp, hsp, rfl⟩ := r5
    cases k5
    have ps5 := ps4.use D b5 o5
    refine DE.go (G := H5) (d := .int ((size : Int) - (os.length : Int))) (de_sub (de_var 1 (.int _)) ((de_len B (de_var 4 (Dq.of_layL ps5.eo)) (.inl rfl)).is (by rw [List.length_map]))) (Same.refl H5) fun v2 H6 s6 d6 => ?_
    cases d6
    refine ⟨_, _, rfl, rfl, ?_⟩
    obtain ⟨k, hk1, hk2⟩ : ∃ k : Nat, (if (size : Int) - (os.length : Int) < (sp : Int) then (size : Int) - (os.length : Int) else (sp : Int)) = (k : Int) ∧ os.length + k ≤ size := by
      split
      · exact ⟨size - os.length, by omega, by omega⟩
      · exact ⟨sp, rfl, by omega⟩
    rw [hk1]
    have ps6 := ps5.mono s6
    refine ws_cell2 4 5 scLawPartedTask.nd (DE.go (G := H6) (d := lO (os ++ List.replicate k none)) ((de_catL (de_var 4 (Dq.of_layL ps6.eo)) (de_repL (n := k) (de_lst (da_cons de_non da_nil) (by simp)) (de_var 11 (.int _)) (by omega)) (by rw [List.length_map, List.length_replicate]; omega)).is (by unfold lO; rw [List.map_append, List.map_replicate]; rfl)) (Same.refl H6) fun v4 H7 s7 d4 => ?_)
    refine DE.go (G := H6) (d := lO (ws ++ List.replicate k none)) ((de_catL (de_var 5 (Dq.of_layL ps6.ew)) (de_repL (n := k) (de_lst (da_cons de_non da_nil) (by simp)) (de_var 11 (.int _)) (by omega)) (by rw [List.length_map, List.length_replicate]; omega)).is (by unfold lO; rw [List.map_append, List.map_replicate]; rfl)) s7 fun v5 H8 s8 d5 H9 s9 => ?_
    have s79 := s7.trans (s8.trans s9)
    have ps9 := ps6.mono s79
    have k4 := d4.mono (s8.trans s9)
    have k5 := d5.mono s9
    obtain ⟨nxt2, cls2, hpl⟩ : ∃ f g, Pln ns (os ++ List.replicate k none) (ws ++ List.replicate k none) f g := ⟨_, _, by
      have := pln_beside pl (pln_nil k)
      unfold mvO at this
      rw [List.map_replicate, List.append_nil] at this
      exact this⟩
    have hol2 : (os ++ List.replicate k none).length ≤ size := by rw [List.length_append, List.length_replicate]; omega
    generalize os ++ List.replicate k none = os2 at *
    generalize ws ++ List.replicate k none = ws2 at *
    have hwl2 := hpl.len
    refine ws_set 12 scLawPartedTask.nd (we_bag (G := H9) c3 hr (fun H Q q => we_var 0 rfl q) (da_cons (de_listR B ((de_len B (de_var 4 k4) (.inl rfl)).is (by rw [List.length_map])) (by omega)) da_nil) (Same.refl H9) ps9.bag ⟨List.range os2.length, rfl, by rw [List.length_range]; omega, rfl⟩ fun vo HA d bA oA kA rA => ?_)
    obtain ⟨order, hperm, rfl⟩ := rA
    have psA := ps9.use D bA oA
    have e4 := k4.thru ps9.bag oA (noLs_map (enc := oI) (fun o => by cases o <;> rfl) os2)
    have e5 := k5.thru ps9.bag oA (noLs_map (enc := oI) (fun o => by cases o <;> rfl) ws2)
    have hlen : order.length ≤ 20 := by rw [hperm.length_eq, List.length_range]; omega
    have hmem : ∀ p ∈ order, p < os2.length := fun p hp => List.mem_range.mp (hperm.mem_iff.mp hp)
    refine ws_retD (G := HA) (d := tTk ns (order.map (gt os2)) (order.map (gt ws2))) (de_tup (da_cons (de_tupL B (de_var 3 (Dq.toInts psA.en)))
      (da_cons (de_tupL B (de_lc ((dl_1 (fun p : Nat => oI (gt os2 p)) [("_law_at", 10)] (src_L (j := 10) nI (de_var 12 kA)) (blkOk_by (N := nLawPartedTask) (sc := defScope sLawPartedTask) (by decide +kernel)) (fun Y hY => by obtain ⟨_, _, _, _, _, rfl⟩ := hY; exact pg_name (i := 10) scLawPartedTask.nd rfl (by first | exact .inl rfl | exact .inr rfl)) (fun a ha Y hY Ha v g e1 => ?el) (fun _ => rfl) (by omega)).is ?fin) scLawPartedTask.nd))
      (da_cons (de_tupL B (de_lc ((dl_1 (fun p : Nat => oI (gt ws2 p)) [("_law_at", 10)] (src_L (j := 10) nI (de_var 12 kA)) (blkOk_by (N := nLawPartedTask) (sc := defScope sLawPartedTask) (by decide +kernel)) (fun Y hY => by obtain ⟨_, _, _, _, _, rfl⟩ := hY; exact pg_name (i := 10) scLawPartedTask.nd rfl (by first | exact .inl rfl | exact .inr rfl)) (fun a ha Y hY Ha v g e1 => ?el2) (fun _ => rfl) (by omega)).is ?fin2) scLawPartedTask.nd)) da_nil))) (by simp)) (Same.refl HA) fun v HB sB dv =>
        q v HB _ (psA.mono sB).bag (psA.mono sB).fr dv ⟨ns, _, _, _, _, rfl, pln_places hpl hperm, hnl, by rw [List.length_map, hperm.length_eq, List.length_range]; exact hol2⟩
    case el =>
      obtain ⟨_, _, _, _, _, rfl⟩ := hY
      exact de_ixL (de_var 4 (e4.mono g)) (de_var 10 e1) (at_map (gt_at (hmem a ha)))
    case el2 =>
      obtain ⟨_, _, _, _, _, rfl⟩ := hY
      exact de_ixL (de_var 5 (e5.mono g)) (de_var 10 e1) (at_map (gt_at (by have := hmem a ha; omega)))
    case fin => rw [List.map_map]; rfl
    case fin2 => rw [List.map_map]; rfl
end
end DL

/-! Parts: the classes of places. -/
namespace DL
def kl (old : Lay) (cls : Nat → Nat) (p : Nat) : Option Nat := (gt old p).map cls
/-- the classes, each in some order -/
structure Pt0 (k : Nat → Option Nat) (gs : List (List Nat)) : Prop where
  gr : ∀ g ∈ gs, g ≠ [] ∧ g.Nodup ∧ ∃ c, ∀ p, p ∈ g ↔ k p = some c
  al : ∀ p c, k p = some c → ∃ g ∈ gs, p ∈ g
  dj : gs.Pairwise fun g g' => ∀ p ∈ g, p ∉ g'
structure Pts (k : Nat → Option Nat) (ps : List (List Nat)) : Prop where
  gr : ∀ g ∈ ps, g ≠ [] ∧ g.Pairwise (· < ·) ∧ ∃ c, ∀ p, p ∈ g ↔ k p = some c
  al : ∀ p c, k p = some c → ∃ g ∈ ps, p ∈ g
  nd : ps.Nodup
  so : ps.Pairwise (· ≤ ·)
theorem up_eq {g h : List Nat} (a : g.Pairwise (· < ·)) (b : h.Pairwise (· < ·)) (e : ∀ p, p ∈ g ↔ p ∈ h) : g = h := by
  have n1 : g.Nodup := a.imp fun h => Nat.ne_of_lt h
  have n2 : h.Nodup := b.imp fun h => Nat.ne_of_lt h
  exact ((List.perm_ext_iff_of_nodup n1 n2).mpr e).eq_of_pairwise (le := (· < ·)) (fun x y _ _ h1 h2 => absurd h1 (by omega)) a b
theorem Pts.uniq {k : Nat → Option Nat} {ps qs : List (List Nat)} (A : Pts k ps) (B : Pts k qs) : ps = qs := by
  have key : ∀ {ps qs : List (List Nat)}, Pts k ps → Pts k qs → ∀ g ∈ ps, g ∈ qs := fun {ps qs} A B g hg => by
    obtain ⟨h1, h2, c, h3⟩ := A.gr g hg
    obtain ⟨p, hp⟩ := List.exists_mem_of_ne_nil _ h1
    have hk := (h3 p).mp hp
    obtain ⟨g', hg', hp'⟩ := B.al p c hk
    obtain ⟨_, h5, c', h6⟩ := B.gr g' hg'
    have hk' := (h6 p).mp hp'
    rw [hk] at hk'
    cases hk'
    rw [up_eq h2 h5 fun p => (h3 p).trans (h6 p).symm]
    exact hg'
  have hp := (List.perm_ext_iff_of_nodup A.nd B.nd).mpr fun g => ⟨key A B g, key B A g⟩
  exact hp.eq_of_pairwise (le := (· ≤ ·)) (fun x y _ _ h1 h2 => List.le_antisymm h1 h2) A.so B.so
theorem nsort_le (xs : List Nat) : (nsort xs).Pairwise (· ≤ ·) := by
  have h := List.pairwise_mergeSort (le := fun (a b : Nat) => decide (a ≤ b)) (fun a b c h1 h2 => decide_eq_true (Nat.le_trans (of_decide_eq_true h1) (of_decide_eq_true h2))) (fun a b => by
    rcases Nat.le_total a b with h | h <;> simp [h]) xs
  exact h.imp fun h => of_decide_eq_true h
theorem nsort_lt {xs : List Nat} (h : xs.Nodup) : (nsort xs).Pairwise (· < ·) := by
  have h1 := nsort_le xs
  have h2 : (nsort xs).Nodup := (nsort_perm xs).nodup_iff.mpr h
  exact (h1.and h2).imp fun ⟨a, b⟩ => Nat.lt_of_le_of_ne a b
theorem nsort_self {xs : List Nat} (h : xs.Pairwise (· < ·)) : nsort xs = xs := up_eq (nsort_lt (h.imp fun h => Nat.ne_of_lt h)) h fun p => (nsort_perm xs).mem_iff
theorem llsort_le (xs : List (List Nat)) : (llsort xs).Pairwise (· ≤ ·) := by
  have h := List.pairwise_mergeSort (le := fun (a b : List Nat) => decide (a ≤ b)) (fun a b c h1 h2 => decide_eq_true (List.le_trans (of_decide_eq_true h1) (of_decide_eq_true h2))) (fun a b => by
    rcases List.le_total a b with h | h <;> simp [h]) xs
  exact h.imp fun h => of_decide_eq_true h
theorem Pt0.sort {k : Nat → Option Nat} {gs : List (List Nat)} (A : Pt0 k gs) : Pts k (llsort (gs.map nsort)) := by
  have hm : ∀ g, g ∈ llsort (gs.map nsort) ↔ ∃ h ∈ gs, nsort h = g := fun g => by rw [(llsort_perm _).mem_iff, List.mem_map]
  refine ⟨fun g hg => ?_, fun p c hk => ?_, ?_, llsort_le _⟩
  · obtain ⟨h, hh, rfl⟩ := (hm g).mp hg
    obtain ⟨h1, h2, c, h3⟩ := A.gr h hh
    refine ⟨fun e => h1 ?_, nsort_lt h2, c, fun p => ((nsort_perm h).mem_iff).trans (h3 p)⟩
    have := (nsort_perm h).length_eq
    rw [e] at this
    exact List.eq_nil_of_length_eq_zero this.symm
  · obtain ⟨g, hg, hp⟩ := A.al p c hk
    exact ⟨nsort g, (hm _).mpr ⟨g, hg, rfl⟩, (nsort_perm g).mem_iff.mpr hp⟩
  · rw [(llsort_perm _).nodup_iff]
    refine List.pairwise_map.mpr (A.dj.imp_of_mem fun {g g'} hg hg' h e => ?_)
    obtain ⟨h1, _⟩ := A.gr g hg
    obtain ⟨p, hp⟩ := List.exists_mem_of_ne_nil _ h1
    have h2 := (nsort_perm g).mem_iff.mpr hp
    rw [e] at h2
    exact h p hp ((nsort_perm g').mem_iff.mp h2)
theorem Pts.pt0 {k : Nat → Option Nat} {ps : List (List Nat)} (A : Pts k ps) : Pt0 k ps := by
  refine ⟨fun g hg => ?_, A.al, A.nd.imp_of_mem fun {g g'} hg hg' ne p hp hp' => ne ?_⟩
  · obtain ⟨h1, h2, h3⟩ := A.gr g hg
    exact ⟨h1, h2.imp fun h => Nat.ne_of_lt h, h3⟩
  · obtain ⟨_, h2, c, h3⟩ := A.gr g hg
    obtain ⟨_, h5, c', h6⟩ := A.gr g' hg'
    have e1 := (h3 p).mp hp
    have e2 := (h6 p).mp hp'
    rw [e1] at e2
    cases e2
    exact up_eq h2 h5 fun p => (h3 p).trans (h6 p).symm
variable {needs : List Nat} {old wish : Lay} {nxt cls : Nat → Nat}
/-- two places share a value -/
def hangP (old wish : Lay) (p q : Nat) : Prop := ∃ v, (gt old p = some v ∨ gt wish p = some v) ∧ (gt old q = some v ∨ gt wish q = some v)
theorem Pln.has (P : Pln needs old wish nxt cls) {v : Nat} (h : v < needs.length) : ∃ p, p < old.length ∧ gt old p = some v := by
  have h1 := P.ro v h
  have h2 := P.pos v h
  have h3 : some v ∈ old := by
    by_cases z : some v ∈ old
    · exact z
    · rw [List.count_eq_zero.mpr z] at h1
      omega
  exact mem_gt h3
theorem Pln.conn (P : Pln needs old wish nxt cls) {S : Nat → Prop} (hS : ∀ p q u, S p → gt old q = some u → hangP old wish p q → S q) {p q u v : Nat} (hp : S p) (e1 : gt old p = some u) (e2 : gt old q = some v) (hc : cls v = cls u) : S q := by
  have hu := P.vo p u e1
  obtain ⟨m, _, _, _, h4⟩ := P.cy u hu
  obtain ⟨h5, _⟩ := h4 v (P.vo q v e2) hc
  obtain ⟨i, _, rfl⟩ := mem_walkN.mp h5
  have key : ∀ i q, gt old q = some (itN nxt i u) → S q := by
    intro i
    induction i with
    | zero => intro q e; exact hS p q _ hp e ⟨u, .inl e1, .inl e⟩
    | succ i ih =>
      intro q e
      obtain ⟨r, _, hr⟩ := P.has (P.it_lt hu i).1
      refine hS r q _ (ih r hr) e ⟨itN nxt (i + 1) u, .inr ?_, .inl e⟩
      rw [P.hd r, hr, itN_succ]
      rfl
  exact key i q e2
theorem Pln.hang_cls (P : Pln needs old wish nxt cls) {p q : Nat} (h : hangP old wish p q) : kl old cls p = kl old cls q := by
  have key : ∀ p v, (gt old p = some v ∨ gt wish p = some v) → kl old cls p = some (cls v) := fun p v h => by
    unfold kl
    rcases h with h | h
    · rw [h]; rfl
    · rw [P.hd p] at h
      obtain ⟨u, hu, rfl⟩ := Option.map_eq_some_iff.mp h
      rw [hu, (P.nx u (P.vo p u hu)).2.2]
      rfl
  obtain ⟨v, h1, h2⟩ := h
  rw [key p v h1, key q v h2]
theorem Pln.wrongs (P : Pln needs old wish nxt cls) {p : Nat} : p ∈ wrongs old wish ↔ ∃ v, gt old p = some v := by
  rw [mem_wrongs]
  constructor
  · rintro ⟨_, h2, _⟩
    rw [P.hd p] at h2
    cases e : gt old p with
    | none => rw [e] at h2; cases h2
    | some v => exact ⟨v, rfl⟩
  · rintro ⟨v, h⟩
    refine ⟨by rw [← P.len]; exact gt_lt h, by rw [P.hd, h]; rfl, fun e => ?_⟩
    rw [P.hd, h] at e
    exact (P.nx v (P.vo p v h)).2.1 (Option.some.inj e)
theorem Pln.ar (P : Pln needs old wish nxt cls) {p v : Nat} (h : gt old p = some v) : arOf old wish p = (v, nxt v, p) := arOf_eq h (by rw [P.hd, h]; rfl)
theorem Pln.hangM (P : Pln needs old wish nxt cls) {p q u v : Nat} (h1 : gt old p = some u) (h2 : gt old q = some v) : hangM (arOf old wish p) (arOf old wish q) = true ↔ hangP old wish p q := by
  rw [P.ar h1, P.ar h2]
  have e1 : gt wish p = some (nxt u) := by rw [P.hd, h1]; rfl
  have e2 : gt wish q = some (nxt v) := by rw [P.hd, h2]; rfl
  unfold DL.hangM hangP
  rw [h1, h2, e1, e2]
  simp only [List.mem_cons, List.not_mem_nil, or_false, Bool.or_eq_true, decide_eq_true_iff, Option.some.injEq]
  constructor
  · rintro ((h | h) | (h | h))
    · exact ⟨u, .inl rfl, .inl h.symm⟩
    · exact ⟨u, .inl rfl, .inr h.symm⟩
    · exact ⟨nxt u, .inr rfl, .inl h.symm⟩
    · exact ⟨nxt u, .inr rfl, .inr h.symm⟩
  · rintro ⟨w, h | h, h' | h'⟩
    · exact .inl (.inl (h.trans h'.symm))
    · exact .inl (.inr (h.trans h'.symm))
    · exact .inr (.inl (h.trans h'.symm))
    · exact .inr (.inr (h.trans h'.symm))
theorem hangM_self (a : Arr) : hangM a a = true := by
  unfold hangM
  simp
theorem hangM_symm {a b : Arr} (h : hangM a b = true) : hangM b a = true := by
  unfold hangM at h ⊢
  simp only [List.mem_cons, List.not_mem_nil, or_false, Bool.or_eq_true, decide_eq_true_iff] at h ⊢
  rcases h with (h | h) | (h | h)
  · exact .inl (.inl h.symm)
  · exact .inr (.inl h.symm)
  · exact .inl (.inr h.symm)
  · exact .inr (.inr h.symm)
/-- apart: no arrow of one hangs on the other -/
def Ap (g h : List Arr) : Prop := ∀ a ∈ g, ∀ b ∈ h, hangM a b = false
theorem Ap.symm {g h : List Arr} (x : Ap g h) : Ap h g := fun a ha b hb => by
  cases e : hangM a b with
  | false => rfl
  | true => exact absurd (hangM_symm e) (by rw [x b hb a ha]; decide)
theorem pw_of {α : Type} {R : α → α → Prop} (sy : ∀ {x y}, R x y → R y x) : ∀ {l : List α}, l.Pairwise R → ∀ x ∈ l, ∀ y ∈ l, x ≠ y → R x y
  | [], _, x, hx, _, _, _ => absurd hx (by simp)
  | z :: l, h, x, hx, y, hy, ne => by
    obtain ⟨h1, h2⟩ := List.pairwise_cons.mp h
    rcases List.mem_cons.mp hx with ex | hx
    · rcases List.mem_cons.mp hy with ey | hy
      · exact absurd (ex.trans ey.symm) ne
      · rw [ex]; exact h1 y hy
    · rcases List.mem_cons.mp hy with ey | hy
      · rw [ey]; exact sy (h1 x hx)
      · exact pw_of sy h2 x hx y hy ne
theorem step_apart {f : List (List Arr)} (h : f.Pairwise Ap) (a : Arr) : (stepM f a).Pairwise Ap := by
  unfold stepM
  refine List.pairwise_append.mpr ⟨h.filter _, List.pairwise_singleton _ _, fun g hg g' hg' => ?_⟩
  rw [List.mem_singleton.mp hg']
  obtain ⟨h1, h2⟩ := List.mem_filter.mp hg
  have h2 : ¬ (g.any (hangM a) = true) := by simpa using h2
  intro x hx y hy
  rcases List.mem_cons.mp hy with rfl | hy
  · cases e : hangM x y with
    | false => rfl
    | true => exact absurd (List.any_eq_true.mpr ⟨x, hx, hangM_symm e⟩) h2
  · obtain ⟨g2, hg2, hy2⟩ := List.mem_flatten.mp hy
    obtain ⟨h3, h4⟩ := List.mem_filter.mp hg2
    exact pw_of (fun h => Ap.symm h) h g h1 g2 h3 (fun e => h2 (by rw [e]; exact h4)) x hx y hy2
theorem groups_apart (as : List Arr) : (groupsM as).Pairwise Ap := by
  have : ∀ (as : List Arr) (f : List (List Arr)), f.Pairwise Ap → (as.foldl stepM f).Pairwise Ap := fun as => by
    induction as with
    | nil => intro f h; exact h
    | cons a r ih => intro f h; exact ih _ (step_apart h a)
  exact this as [] List.Pairwise.nil
theorem step_cls {k : Arr → Option Nat} {f : List (List Arr)} {a : Arr} (h : ∀ g ∈ f, ∀ x ∈ g, ∀ y ∈ g, k x = k y) (ha : ∀ g ∈ f, ∀ x ∈ g, hangM a x = true → k a = k x) : ∀ g ∈ stepM f a, ∀ x ∈ g, ∀ y ∈ g, k x = k y := by
  intro g hg
  unfold stepM at hg
  rcases List.mem_append.mp hg with hg | hg
  · exact h g (List.mem_filter.mp hg).1
  · rw [List.mem_singleton.mp hg]
    have key : ∀ x ∈ a :: (f.filter fun p => p.any (hangM a)).flatten, k a = k x := fun x hx => by
      rcases List.mem_cons.mp hx with rfl | hx
      · rfl
      · obtain ⟨g2, hg2, hx2⟩ := List.mem_flatten.mp hx
        obtain ⟨h3, h4⟩ := List.mem_filter.mp hg2
        obtain ⟨z, hz, e⟩ := List.any_eq_true.mp h4
        rw [ha g2 h3 z hz e]
        exact h g2 h3 z hz x hx2
    intro x hx y hy
    rw [← key x hx, ← key y hy]
theorem groups_cls {k : Arr → Option Nat} {as : List Arr} (h : ∀ a ∈ as, ∀ b ∈ as, hangM a b = true → k a = k b) : ∀ g ∈ groupsM as, ∀ x ∈ g, ∀ y ∈ g, k x = k y := by
  have : ∀ (r : List Arr) (f : List (List Arr)), (∀ a ∈ r, a ∈ as) → (∀ g ∈ f, ∀ x ∈ g, x ∈ as) → (∀ g ∈ f, ∀ x ∈ g, ∀ y ∈ g, k x = k y) → ∀ g ∈ r.foldl stepM f, ∀ x ∈ g, ∀ y ∈ g, k x = k y := fun r => by
    induction r with
    | nil => intro f _ _ h; exact h
    | cons a r ih =>
      intro f h1 h2 h3
      refine ih _ (fun b hb => h1 b (List.mem_cons_of_mem _ hb)) (fun g hg x hx => ?_) (step_cls h3 fun g hg x hx e => h a (h1 a List.mem_cons_self) x (h2 g hg x hx) e)
      have := (stepM_perm f a).mem_iff.mp (List.mem_flatten.mpr ⟨g, hg, hx⟩)
      rcases List.mem_cons.mp this with rfl | hm
      · exact h1 x List.mem_cons_self
      · obtain ⟨g2, hg2, hx2⟩ := List.mem_flatten.mp hm
        exact h2 g2 hg2 x hx2
  exact this as [] (fun a h => h) (fun g hg => absurd hg (by simp)) fun g hg => absurd hg (by simp)
theorem wrongs_nodup (old wish : Lay) : (wrongs old wish).Nodup := by
  unfold DL.wrongs
  exact List.Pairwise.filter _ List.nodup_range
theorem Pln.parts (P : Pln needs old wish nxt cls) : Pts (kl old cls) (partsM old wish) := by
  have hmem : ∀ g ∈ groupsM (arrowsM old wish), ∀ a ∈ g, ∃ p v, gt old p = some v ∧ a = arOf old wish p := fun g hg a ha => by
    have := (groups_part hg).2 a ha
    obtain ⟨p, hp, rfl⟩ := List.mem_map.mp this
    obtain ⟨v, hv⟩ := P.wrongs.mp hp
    exact ⟨p, v, hv, rfl⟩
  have hall : ∀ p v, gt old p = some v → ∃ g ∈ groupsM (arrowsM old wish), arOf old wish p ∈ g := fun p v h => by
    have h1 : arOf old wish p ∈ arrowsM old wish := List.mem_map.mpr ⟨p, P.wrongs.mpr ⟨v, h⟩, rfl⟩
    exact List.mem_flatten.mp ((groups_perm _).mem_iff.mpr h1)
  have hcls : ∀ g ∈ groupsM (arrowsM old wish), ∀ x ∈ g, ∀ y ∈ g, kl old cls x.2.2 = kl old cls y.2.2 := groups_cls (k := fun a => kl old cls a.2.2) fun a ha b hb e => by
    obtain ⟨p, hp, rfl⟩ := List.mem_map.mp ha
    obtain ⟨q, hq, rfl⟩ := List.mem_map.mp hb
    obtain ⟨u, hu⟩ := P.wrongs.mp hp
    obtain ⟨v, hv⟩ := P.wrongs.mp hq
    exact P.hang_cls ((P.hangM hu hv).mp e)
  have hap := groups_apart (arrowsM old wish)
  have A : Pt0 (kl old cls) ((groupsM (arrowsM old wish)).map fun g => g.map (·.2.2)) := by
    refine ⟨fun g' hg' => ?_, fun p c hk => ?_, ?_⟩
    · obtain ⟨g, hg, rfl⟩ := List.mem_map.mp hg'
      have hne := groups_ne _ g hg
      obtain ⟨a0, ha0⟩ := List.exists_mem_of_ne_nil _ hne
      obtain ⟨p0, v0, hv0, rfl⟩ := hmem g hg a0 ha0
      refine ⟨fun e => hne (List.map_eq_nil_iff.mp e), ?_, cls v0, fun p => ⟨fun hp => ?_, fun hp => ?_⟩⟩
      · have h1 : (groupsM (arrowsM old wish)).flatten.Nodup := by
          rw [(groups_perm _).nodup_iff]
          exact List.pairwise_map.mpr ((wrongs_nodup old wish).imp fun h e => h (congrArg (fun a : Arr => a.2.2) e))
        have h2 : g.Nodup := by
          have : List.Sublist g (groupsM (arrowsM old wish)).flatten := List.sublist_flatten_of_mem hg
          exact h1.sublist this
        refine List.pairwise_map.mpr (h2.imp_of_mem fun {a b} ha hb h e => h ?_)
        obtain ⟨p, v, hv, rfl⟩ := hmem g hg a ha
        obtain ⟨q, w, hw, rfl⟩ := hmem g hg b hb
        have e : p = q := e
        rw [e]
      · obtain ⟨a, ha, rfl⟩ := List.mem_map.mp hp
        rw [hcls g hg a ha _ ha0]
        show (gt old p0).map cls = _
        rw [hv0]; rfl
      · obtain ⟨v, hv, hcv⟩ := Option.map_eq_some_iff.mp hp
        have : (fun q => arOf old wish q ∈ g) p := P.conn (S := fun q => arOf old wish q ∈ g) (fun q r w hq hr hh => by
          obtain ⟨g2, hg2, hr2⟩ := hall r w hr
          by_cases e : g = g2
          · rw [e]; exact hr2
          · exfalso
            obtain ⟨q', u, hu, e3⟩ := hmem g hg _ hq
            have e4 : q = q' := congrArg (fun a : Arr => a.2.2) e3
            have h5 := pw_of (fun h => Ap.symm h) hap g hg g2 hg2 e _ hq _ hr2
            rw [← e4] at hu
            rw [(P.hangM hu hr).mpr hh] at h5
            cases h5) ha0 hv0 hv hcv
        exact List.mem_map.mpr ⟨_, this, rfl⟩
    · obtain ⟨v, hv, _⟩ := Option.map_eq_some_iff.mp hk
      obtain ⟨g, hg, ha⟩ := hall p v hv
      exact ⟨_, List.mem_map.mpr ⟨g, hg, rfl⟩, List.mem_map.mpr ⟨_, ha, rfl⟩⟩
    · refine List.pairwise_map.mpr (hap.imp_of_mem fun {g h} hg hh ap p hp hp' => ?_)
      obtain ⟨a, ha, e1⟩ := List.mem_map.mp hp
      obtain ⟨b, hb, e2⟩ := List.mem_map.mp hp'
      obtain ⟨q, v, hv, rfl⟩ := hmem g hg a ha
      obtain ⟨r, w, hw, rfl⟩ := hmem h hh b hb
      have e1 : q = p := e1
      have e2 : r = p := e2
      have := ap _ ha _ hb
      rw [e1, e2, hangM_self] at this
      cases this
  have := A.sort
  rw [List.map_map] at this
  exact this
end DL

namespace DL
open PySem PySem.Spec PyProof.Rows L2
section
variable {P : Program} {w : World} {K : PySem.W.Frag} {mg : Str → Option Value} {base : Heap} {f : Addr} {fd : FuncData}
theorem off_upd_le {H : Hp} {M : Addr} {o : HO} : Same (off H M) (upd H M o) := fun a u e => by
  by_cases z : a = M
  · rw [z, off_same] at e; cases e
  · rw [off_ne z] at e
    rw [upd_ne z]; exact e
theorem Dq.updL {H : Hp} {M : Addr} {ys : List V} {o : HO} {d : PyData} {v : V} (hM : H M = some (.lst ys)) (n : noL d = true) (h : Dq H v d) : Dq (upd H M o) v d := (Dq.off hM n h).mono off_upd_le
theorem DqAll.updL {H : Hp} {M : Addr} {ys : List V} {o : HO} {ds : List PyData} {vs : List V} (hM : H M = some (.lst ys)) (n : noLs ds = true) (h : DqAll H vs ds) : DqAll (upd H M o) vs ds := (DqAll.off hM n h).mono off_upd_le
theorem noL_tN (g : List Nat) : noL (tN g) = true := noLs_map (enc := nI) (fun _ => rfl) g
theorem noL_tTk (n : List Nat) (o w : Lay) : noL (tTk n o w) = true := by
  show noLs [tN n, tO o, tO w] = true
  rw [noLs, noLs, noLs, noL_tN, noL_tO, noL_tO]; rfl
abbrev iV (n : Nat) : V := .int (n : Nat)
section
variable {X : Cx} {σ : L2.St} {H : Hp} {Q : VK} {a : Expr} {pos p : Pos} {n : Nat} {pr qr : Pos} {G : Hp}
theorem we_listR (B : Blt X.mg) (ha : DE X a σ G (.int (n : Nat))) (hn : n ≤ 1000) (g : Same G H) (q : ∀ H1 l, Same H H1 → H1 l = none → Q (.ref l) (upd H1 l (.lst ((List.range n).map iV)))) (hc : X.calm = true := by rfl) (hg : Gl X "list" := by rfl) (hg2 : Gl X "range" := by rfl) (na : starEach [a] X.env = (false, eval a X.env) :: starEach [] X.env := by rfl)
    (nb : starEach [.Call (.Name "range" pr) [a] [] qr] X.env = (false, eval (.Call (.Name "range" pr) [a] [] qr) X.env) :: starEach [] X.env := by rfl) :
    WE X (.Call (.Name "list" p) [.Call (.Name "range" pr) [a] [] qr] [] pos) σ H Q :=
  we_of (pe_listRg hc hg B.list (prg_1 hg2 B.range pe_we na) nb) (ha H _ g fun v H1 s1 dv => by
    cases dv
    refine ⟨(n : Nat), rfl, RgOk.of_le (by decide) (by omega) (by decide) (by omega), fun l hl => ?_⟩
    have e : rgV 0 (n : Int) = (List.range n).map iV := by
      unfold rgV
      rw [Int.sub_zero, Int.toNat_natCast]
      exact List.map_congr_left fun i _ => by show V.int (0 + (i : Int)) = V.int (i : Int); rw [Int.zero_add]
    rw [e]
    exact q H1 l s1 hl)
end
/-- what the walk over the places keeps -/
structure FInv (k : Nat → Option Nat) (len i : Nat) (gs : List (List Nat)) (lf : List Nat) : Prop where
  gr : ∀ g ∈ gs, g ≠ [] ∧ g.Nodup ∧ ∃ c, ∀ p, p ∈ g ↔ k p = some c
  dj : gs.Pairwise fun g g' => ∀ p ∈ g, p ∉ g'
  me : ∀ p, p ∈ lf ↔ p < len ∧ ∀ g ∈ gs, p ∉ g
  nd : lf.Nodup
  al : ∀ p c, p < i → k p = some c → ∃ g ∈ gs, p ∈ g
  gl : gs.length ≤ i
theorem sub_len {a b : List Nat} (ha : a.Nodup) (h : ∀ p ∈ a, p ∈ b) : a.length ≤ b.length := by
  induction a generalizing b with
  | nil => exact Nat.zero_le _
  | cons x a ih =>
    obtain ⟨h1, h2⟩ := List.nodup_cons.mp ha
    have hx := h x List.mem_cons_self
    have := ih (b := b.erase x) h2 fun p hp => (List.mem_erase_of_ne (fun e => h1 (by rw [← e]; exact hp))).mpr (h p (List.mem_cons_of_mem _ hp))
    rw [List.length_erase_of_mem hx] at this
    have : 0 < b.length := List.length_pos_of_mem hx
    rw [List.length_cons]
    omega
def prePlanted (ds : List PyData) (R : PyData → Prop) : Prop := ∃ size : Nat, ds = [nI size] ∧ size ≤ 20 ∧ R = fun d => ∃ (needs : List Nat) (old wish : Lay) (nxt cls : Nat → Nat) (parts : List (List Nat)), d = .tuple [tTk needs old wish, lT parts] ∧ Pln needs old wish nxt cls ∧ needs.length ≤ 12 ∧ old.length ≤ size ∧ Pts (kl old cls) parts
theorem ok_planted (F : Fun K "_law_planted" "_law_planted" sLawPlanted f fd) (B : Blt mg) (c1 : Cal P w K mg base 3 "_law_parted_task" (spBag preParted)) : FnOk P w K mg base CX0 4 f fd ["_law_bag_here", "_law_size"] (spBag prePlanted) := by
  refine ok_bag F scLawPlanted (fun ds R h => by obtain ⟨_, rfl, _⟩ := h; rfl) fun cdv A outer s H b c cs vs Q E ds R hr hb hd hp q => ?_
  obtain ⟨size, rfl, hs20, rfl⟩ := hp
  obtain ⟨v1, rfl, d1⟩ := hd.a1
  cases d1
  refine ws_set 2 scLawPlanted.nd (we_bag (G := H) c1 hr (fun H Q q => we_var 0 rfl q) (da_cons (de_var 1 (.int _)) (da_cons (de_int.is (d' := nI 12) rfl) da_nil)) (Same.refl H) hb ⟨size, 12, rfl, hs20, by omega, rfl⟩ fun vt H1 d b1 o1 dt rd => ?_)
  obtain ⟨needs, old, wish, nxt, cls, rfl, pl, hnl, hol⟩ := rd
  have hwl := pl.len
  refine ws_unp3 (G := H1) 3 4 5 scLawPlanted.nd (de_var 2 dt) (Same.refl H1) fun u3 u4 u5 H2 s2 k3 k4 k5 => ?_
  have dt2 := dt.mono s2
  have b2 := b1.mono s2
  have o2 := o1.trans (off_mono s2)
  clear dt b1 o1 s2
  refine ws_par 6 7 scLawPlanted.nd (we_nil fun F nF => ?_)
  have sF : Same H2 (upd H2 F (.lst [])) := same_new nF
  have eF : (upd H2 F (.lst [])) F = some (.lst []) := upd_same
  generalize upd H2 F (.lst []) = H3 at sF eF ⊢
  refine we_listR (n := old.length) B ((de_len B (de_var 4 (k4.mono sF)) (.inr rfl)).is (by rw [List.length_map])) (by omega) (Same.refl H3) fun H4 L s4 nL => ?_
  have hLF : L ≠ F := fun z => by rw [z, s4 _ _ eF] at nL; cases nL
  have sL : Same H4 (upd H4 L (.lst ((List.range old.length).map iV))) := same_new nL
  have eL : (upd H4 L (.lst ((List.range old.length).map iV))) L = some (.lst ((List.range old.length).map iV)) := upd_same
  generalize upd H4 L (.lst ((List.range old.length).map iV)) = H5 at sL eL ⊢
  have s25 := sF.trans (s4.trans sL)
  have eF5 := sL _ _ (s4 _ _ eF)
  clear sF s4 sL nL eF
  have hkl : ∀ p c, kl old cls p = some c → p < old.length := fun p c h => by
    obtain ⟨v, hv, _⟩ := Option.map_eq_some_iff.mp h
    exact gt_lt hv
  refine ws_forR (n := old.length) B PassesOwn.never (pg_name (i := 8) scLawPlanted.nd rfl (by first | exact .inl rfl | exact .inr rfl)) (G := H5) ((de_len B (de_var 4 (k4.mono s25)) (.inr rfl)).is (by rw [List.length_map])) (by omega) (Same.refl H5)
    (fun i σ H6 => ∃ (L : Addr) (gs : List (List Nat)) (lf : List Nat) (fv : List V) (y8 y9 y10 y11 y12 : Option V), σ = [some (.ref b), some (.int (size : Int)), some vt, some u3, some u4, some u5, some (.ref F), some (.ref L), y8, y9, y10, y11, y12, none] ∧ Same H2 H6 ∧
      H6 F = some (.lst fv) ∧ DqAll H6 fv (gs.map fun g => tN (nsort g)) ∧ H6 L = some (.lst (lf.map iV)) ∧ L ≠ F ∧ FInv (kl old cls) old.length i gs lf)
    (fun H6 s6 => ⟨L, [], List.range old.length, [], none, none, none, none, none, rfl, s25.trans s6, s6 _ _ eF5, .nil, s6 _ _ eL, hLF, ⟨fun g hg => absurd hg (by simp), List.Pairwise.nil, fun p => by simp, List.nodup_range, fun p c h => absurd h (by omega), Nat.le_refl _⟩⟩)
    (fun i σ H6 hi p => ?_) fun σ H6 p => ?_
  · clear s25 eF5 eL hLF
    obtain ⟨L, gs, lf, fv, y8, y9, y10, y11, y12, rfl, s6, eF, df, eL, hLF, inv⟩ := p
    have hlfl : lf.length ≤ 20 := by
      have := sub_len inv.nd fun p hp => List.mem_range.mpr ((inv.me p).mp hp).1
      rw [List.length_range] at this
      omega
    have dL : Dq H6 (.ref L) (lN lf) := Dq.toInts eL
    refine ws_ifD (G := H6) ((dt_and (dt_in (d := nI i) (ds := lf.map nI) (de_var 8 (.int _)) (de_var 7 dL) (.inl rfl) rfl (flatN lf)) fun _ => dt_notN (d := oI (gt wish i)) (de_ixT (de_var 5 (k5.mono s6)) (de_var 8 (.int _)) (at_map (gt_at (by omega))))).is (k' := decide (i ∈ lf) && (gt wish i).isSome) (by rw [memD_N, isNone_oI]; cases gt wish i <;> rfl)) (Same.refl H6) (fun hyes H7 s7 => ?_) fun hno H7 s7 => ws_nil (ws_nil ?_)
    · obtain ⟨hil, hiw⟩ := Bool.and_eq_true_iff.mp hyes
      have hil := of_decide_eq_true hil
      obtain ⟨ci, hci⟩ : ∃ c, kl old cls i = some c := by
        rw [pl.hd i] at hiw
        unfold kl
        cases h : gt old i with
        | none => rw [h] at hiw; cases hiw
        | some v => exact ⟨_, rfl⟩
      have eF7 := s7 _ _ eF
      have eL7 := s7 _ _ eL
      have df7 := df.mono s7
      have s27 := s6.trans s7
      clear dL eF eL df s6 s7
      refine ws_cell2 9 10 scLawPlanted.nd (we_lst (wa_one (we_var 8 rfl ⟨by simp, fun T nT => de_bl _ _ (Same.refl _) fun v H8 s8 dv H9 s9 => ?_⟩)))
      cases dv
      have sT : Same H7 (upd H7 T (.lst [iV i])) := same_new nT
      have hTF : T ≠ F := fun z => by rw [z, eF7] at nT; cases nT
      have hTL : T ≠ L := fun z => by rw [z, eL7] at nT; cases nT
      have eT : (upd H7 T (.lst [iV i])) T = some (.lst [iV i]) := upd_same
      have s79 := sT.trans (s8.trans s9)
      have eT9 := (s8.trans s9) _ _ eT
      have nT2 : H2 T = none := by
        cases z : H2 T with
        | none => rfl
        | some o => rw [s27 _ _ z] at nT; cases nT
      refine ws_while PassesOwn.never (fun m σ HA => ∃ (bm : Bool) (ps : List Nat) (y11 y12 : Option V), σ = [some (.ref b), some (.int (size : Int)), some vt, some u3, some u4, some u5, some (.ref F), some (.ref L), some (.int (i : Int)), some (.ref T), some (.bl bm), y11, y12, none] ∧ Same H2 HA ∧
          HA F = some (.lst fv) ∧ DqAll HA fv (gs.map fun g => tN (nsort g)) ∧ HA L = some (.lst (lf.map iV)) ∧ HA T = some (.lst (ps.map iV)) ∧ ps.Nodup ∧ i ∈ ps ∧ (∀ p ∈ ps, p ∈ lf ∧ kl old cls p = some ci) ∧
          (bm = false → ∀ p ∈ ps, ∀ r ∈ lf, (gt wish r).isSome = true → hangP old wish p r → r ∈ ps) ∧ m = if bm = true then lf.length + 1 - ps.length else 0) lf.length
        ⟨true, [i], _, _, rfl, s27.trans s79, s79 _ _ eF7, df7.mono s79, s79 _ _ eL7, eT9, by simp, by simp, fun p hp => by rw [List.mem_singleton.mp hp]; exact ⟨hil, hci⟩, (fun h => nomatch h), by simp⟩ fun m σ HA hw => ?_
      clear eT9 s79 eT sT s8 s9 df7 eF7 eL7 nT s27
      obtain ⟨bm, ps, y11, y12, rfl, sA, eF, df, eL, eT, hpn, hip, hps, hcl, rfl⟩ := hw
      refine (dt_val (de_var 10 (.bl bm))) HA _ (Same.refl HA) fun HB sB => ?_
      have eF := sB _ _ eF
      have eL := sB _ _ eL
      have eT := sB _ _ eT
      have df := df.mono sB
      have sA := sA.trans sB
      clear sB
      have hpl2 : ps.length ≤ lf.length := sub_len hpn fun p hp => (hps p hp).1
      have hplt : ∀ p ∈ ps, p < old.length := fun p hp => ((inv.me p).mp (hps p hp).1).1
      have hllt : ∀ p ∈ lf, p < old.length := fun p hp => ((inv.me p).mp hp).1
      cases bm with
      | true =>
        rw [if_pos rfl]
        have dT : Dq HB (.ref T) (lN ps) := Dq.toInts eT
        have j4 := k4.mono sA
        have j5 := k5.mono sA
        refine ws_de 11 scLawPlanted.nd (G := HB) (d := lO (ps.map (gt old) ++ ps.map (gt wish))) ((de_catL (de_lc ((dl_1 (fun p : Nat => oI (gt old p)) [("_law_at", 13)] (src_L (j := 13) nI (de_var 9 dT)) (blkOk_by (N := nLawPlanted) (sc := defScope sLawPlanted) (by decide +kernel)) (fun Y hY => by obtain ⟨_, _, _, _, _, rfl⟩ := hY; exact pg_name (i := 13) scLawPlanted.nd rfl (by first | exact .inl rfl | exact .inr rfl)) (fun a ha Y hY Ha v g e1 => ?el) (fun _ => rfl) (by omega))) scLawPlanted.nd)
          (de_lc ((dl_1 (fun p : Nat => oI (gt wish p)) [("_law_at", 13)] (src_L (j := 13) nI (de_var 9 dT)) (blkOk_by (N := nLawPlanted) (sc := defScope sLawPlanted) (by decide +kernel)) (fun Y hY => by obtain ⟨_, _, _, _, _, rfl⟩ := hY; exact pg_name (i := 13) scLawPlanted.nd rfl (by first | exact .inl rfl | exact .inr rfl)) (fun a ha Y hY Ha v g e1 => ?el2) (fun _ => rfl) (by omega))) scLawPlanted.nd) (by rw [List.length_map, List.length_map]; omega)).is ?fin) (Same.refl HB) fun v11 HC sC d11 => ?_
        case el =>
          obtain ⟨_, _, _, _, _, rfl⟩ := hY
          exact de_ixT (de_var 4 (j4.mono g)) (de_var 13 e1) (at_map (gt_at (hplt a ha)))
        case el2 =>
          obtain ⟨_, _, _, _, _, rfl⟩ := hY
          exact de_ixT (de_var 5 (j5.mono g)) (de_var 13 e1) (at_map (gt_at (by have := hplt a ha; omega)))
        case fin =>
          unfold lO
          rw [List.map_append, List.map_map, List.map_map]
          rfl
        have eF := sC _ _ eF
        have eL := sC _ _ eL
        have eT := sC _ _ eT
        have df := df.mono sC
        have sA := sA.trans sC
        have dT := dT.mono sC
        have dL : Dq HC (.ref L) (lN lf) := Dq.toInts eL
        have j4 := j4.mono sC
        have j5 := j5.mono sC
        clear sC
        refine ws_lcD 12 scLawPlanted.nd (G := HC) (d := lN (lf.filter fun p => !decide (p ∈ ps) && (gt wish p).isSome)) (dl_1i nI (fun p : Nat => !decide (p ∈ ps) && (gt wish p).isSome) [("_law_at", 13)] (src_L (j := 13) nI (de_var 7 dL)) (blkOk_by (N := nLawPlanted) (sc := defScope sLawPlanted) (by decide +kernel)) (fun Y hY => by obtain ⟨_, _, _, _, _, rfl⟩ := hY; exact pg_name (i := 13) scLawPlanted.nd rfl (by first | exact .inl rfl | exact .inr rfl)) (fun a ha Y hY Ha v g e1 => ?ts) (fun a ha hp Y hY Ha v g e1 => ?el3) (fun _ => rfl) (by omega)) rfl (Same.refl HC) fun v12 HD sD d12 => ?_
        case el3 =>
          obtain ⟨_, _, _, _, _, rfl⟩ := hY
          exact de_var 13 e1
        case ts =>
          obtain ⟨_, _, _, _, _, rfl⟩ := hY
          refine (dt_and (dt_notIn (d := nI a) (ds := ps.map nI) (de_var 13 e1) (de_var 9 (dT.mono g)) (.inl rfl) rfl (flatN ps)) fun _ => dt_notN (d := oI (gt wish a)) (de_ixT (de_var 5 (j5.mono g)) (de_var 13 e1) (at_map (gt_at (by have := hllt a ha; omega))))).is ?_
          rw [memD_N, isNone_oI]
          cases gt wish a <;> rfl
        have eF := sD _ _ eF
        have eL := sD _ _ eL
        have eT := sD _ _ eT
        have df := df.mono sD
        have sA := sA.trans sD
        have dT := dT.mono sD
        have d11 := d11.mono sD
        have j4 := j4.mono sD
        have j5 := j5.mono sD
        clear sD dL
        have hm1 : ∀ p, p ∈ (lf.filter fun p => !decide (p ∈ ps) && (gt wish p).isSome) ↔ p ∈ lf ∧ p ∉ ps ∧ (gt wish p).isSome = true := fun p => by
          rw [List.mem_filter, Bool.and_eq_true]
          simp
        have hn1 : (lf.filter fun p => !decide (p ∈ ps) && (gt wish p).isSome).Nodup := inv.nd.filter _
        generalize (lf.filter fun p => !decide (p ∈ ps) && (gt wish p).isSome) = nr at d12 hm1 hn1
        have hnr : nr.length ≤ 20 := Nat.le_trans (sub_len hn1 fun p hp => ((hm1 p).mp hp).1) hlfl
        refine ws_lcD 12 scLawPlanted.nd (G := HD) (d := lN (nr.filter fun p => decide (gt old p ∈ ps.map (gt old) ++ ps.map (gt wish)) || decide (gt wish p ∈ ps.map (gt old) ++ ps.map (gt wish)))) (dl_1i nI (fun p : Nat => decide (gt old p ∈ ps.map (gt old) ++ ps.map (gt wish)) || decide (gt wish p ∈ ps.map (gt old) ++ ps.map (gt wish))) [("_law_at", 13)] (src_L (j := 13) nI (de_var 12 d12)) (blkOk_by (N := nLawPlanted) (sc := defScope sLawPlanted) (by decide +kernel)) (fun Y hY => by obtain ⟨_, _, _, _, _, rfl⟩ := hY; exact pg_name (i := 13) scLawPlanted.nd rfl (by first | exact .inl rfl | exact .inr rfl)) (fun a ha Y hY Ha v g e1 => ?ts2) (fun a ha hp Y hY Ha v g e1 => ?el4) (fun _ => rfl) (by omega)) rfl (Same.refl HD) fun v13 HE sE d13 => ?_
        case el4 =>
          obtain ⟨_, _, _, _, _, rfl⟩ := hY
          exact de_var 13 e1
        case ts2 =>
          obtain ⟨_, _, _, _, _, rfl⟩ := hY
          have hlt := hllt a ((hm1 a).mp ha).1
          refine (dt_or (dt_in (d := oI (gt old a)) (ds := (ps.map (gt old) ++ ps.map (gt wish)).map oI) (de_ixT (de_var 4 (j4.mono g)) (de_var 13 e1) (at_map (gt_at hlt))) (de_var 11 (d11.mono g)) (.inl rfl) (oI_flat _) (flatO _)) fun _ =>
            dt_in (d := oI (gt wish a)) (ds := (ps.map (gt old) ++ ps.map (gt wish)).map oI) (de_ixT (de_var 5 (j5.mono g)) (de_var 13 e1) (at_map (gt_at (by omega)))) (de_var 11 (d11.mono g)) (.inl rfl) (oI_flat _) (flatO _)).is ?_
          rw [memD_O, memD_O]
        have eF := sE _ _ eF
        have eL := sE _ _ eL
        have eT := sE _ _ eT
        have df := df.mono sE
        have sA := sA.trans sE
        clear sE d12 d11 j4 j5 dT
        have hm2 : ∀ p, p ∈ (nr.filter fun p => decide (gt old p ∈ ps.map (gt old) ++ ps.map (gt wish)) || decide (gt wish p ∈ ps.map (gt old) ++ ps.map (gt wish))) ↔ p ∈ nr ∧ ∃ r ∈ ps, (gt old p = gt old r ∨ gt old p = gt wish r ∨ gt wish p = gt old r ∨ gt wish p = gt wish r) := fun p => by
          rw [List.mem_filter, Bool.or_eq_true, decide_eq_true_iff, decide_eq_true_iff, List.mem_append, List.mem_append, List.mem_map, List.mem_map, List.mem_map, List.mem_map]
          refine and_congr_right fun _ => ?_
          constructor
          · rintro ((⟨r, hr, e⟩ | ⟨r, hr, e⟩) | (⟨r, hr, e⟩ | ⟨r, hr, e⟩))
            · exact ⟨r, hr, .inl e.symm⟩
            · exact ⟨r, hr, .inr (.inl e.symm)⟩
            · exact ⟨r, hr, .inr (.inr (.inl e.symm))⟩
            · exact ⟨r, hr, .inr (.inr (.inr e.symm))⟩
          · rintro ⟨r, hr, e | e | e | e⟩
            · exact .inl (.inl ⟨r, hr, e.symm⟩)
            · exact .inl (.inr ⟨r, hr, e.symm⟩)
            · exact .inr (.inl ⟨r, hr, e.symm⟩)
            · exact .inr (.inr ⟨r, hr, e.symm⟩)
        have hn2 : (nr.filter fun p => decide (gt old p ∈ ps.map (gt old) ++ ps.map (gt wish)) || decide (gt wish p ∈ ps.map (gt old) ++ ps.map (gt wish))).Nodup := hn1.filter _
        generalize (nr.filter fun p => decide (gt old p ∈ ps.map (gt old) ++ ps.map (gt wish)) || decide (gt wish p ∈ ps.map (gt old) ++ ps.map (gt wish))) = nr2 at d13 hm2 hn2
        have hnr2 : nr2.length ≤ 20 := Nat.le_trans (sub_len hn2 fun p hp => ((hm2 p).mp hp).1) hnr
        have hval : ∀ r, (gt wish r).isSome = true → ∃ u, gt old r = some u ∧ gt wish r = some (nxt u) := fun r h => by
          rw [pl.hd r] at h
          cases e : gt old r with
          | none => rw [e] at h; cases h
          | some u => exact ⟨u, rfl, by rw [pl.hd, e]; rfl⟩
        have hvalp : ∀ r ∈ ps, ∃ u, gt old r = some u ∧ gt wish r = some (nxt u) := fun r h => by
          obtain ⟨u, hu, _⟩ := Option.map_eq_some_iff.mp (hps r h).2
          exact ⟨u, hu, by rw [pl.hd, hu]; rfl⟩
        have hcls2 : ∀ p ∈ nr2, p ∈ lf ∧ p ∉ ps ∧ kl old cls p = some ci := fun p hp => by
          obtain ⟨h1, r, hr, h2⟩ := (hm2 p).mp hp
          obtain ⟨h3, h4, h5⟩ := (hm1 p).mp h1
          refine ⟨h3, h4, ?_⟩
          obtain ⟨u, e1, e2⟩ := hval p h5
          obtain ⟨w, e3, e4⟩ := hvalp r hr
          rw [← (hps r hr).2]
          refine pl.hang_cls ?_
          rcases h2 with h2 | h2 | h2 | h2
          · exact ⟨u, .inl e1, .inl (by rw [← h2]; exact e1)⟩
          · exact ⟨u, .inl e1, .inr (by rw [← h2]; exact e1)⟩
          · exact ⟨_, .inr e2, .inl (by rw [← h2]; exact e2)⟩
          · exact ⟨_, .inr e2, .inr (by rw [← h2]; exact e2)⟩
        have okn : okD 8 (lN nr2) := (okL (k := 0) (by omega) fun p hp => okN (by have := hllt p (hcls2 p hp).1; omega)).mono (by decide)
        refine ws_de 10 scLawPlanted.nd (G := HE) (d := .bool (!decide (nr2 = []))) ((de_neQ (d := lN nr2) (d' := .list []) hr (de_var 12 d13) (de_lst da_nil (by simp)) okn okNil).is (by rw [eqv_nilN])) (Same.refl HE) fun v10 HG sG d10 => ?_
        cases d10
        have eF := sG _ _ eF
        have eL := sG _ _ eL
        have eT := sG _ _ eT
        have df := df.mono sG
        have sA := sA.trans sG
        have d13 := d13.mono sG
        clear sG
        cases d13 with
        | lst g1 g2 =>
          rename_i ln zs
          have ezs : zs = nr2.map iV := by
            rw [mapI] at g2
            rw [g2.ints_inv, List.map_map]
            rfl
          refine ws_expr (we_extend (we_var 9 rfl ⟨T, _, rfl, eT, we_var 12 rfl ⟨ln, _, zs, rfl, eT, g1, by rw [ezs, List.length_map, List.length_map]; omega, ws_nil ?_⟩⟩))
          have hnew : (ps ++ nr2).Nodup := List.nodup_append.mpr ⟨hpn, hn2, fun x hx y hy e => (hcls2 y hy).2.1 (by rw [← e]; exact hx)⟩
          have hnl2 : (ps ++ nr2).length ≤ lf.length := sub_len hnew fun p hp => by
            rcases List.mem_append.mp hp with h | h
            · exact (hps p h).1
            · exact (hcls2 p h).1
          refine ⟨if (!decide (nr2 = [])) = true then lf.length + 1 - (ps ++ nr2).length else 0, ?_, !decide (nr2 = []), ps ++ nr2, _, _, rfl, same_mut sA nT2, by rw [upd_ne (Ne.symm hTF)]; exact eF, df.updL eT (noLs_map (fun g => noL_tN _) gs), by rw [upd_ne (Ne.symm hTL)]; exact eL, by rw [upd_same, ezs, List.map_append], hnew, List.mem_append_left _ hip, fun p hp => ?_, fun hb p hp r hr hw hh => ?_, rfl⟩
          · rw [if_pos rfl, List.length_append]
            rw [List.length_append] at hnl2
            by_cases z : nr2 = []
            · rw [if_neg (by simp [z])]; omega
            · rw [if_pos (by simp [z])]
              have : nr2.length ≠ 0 := fun e => z (List.eq_nil_of_length_eq_zero e)
              omega
          · rcases List.mem_append.mp hp with h | h
            · exact hps p h
            · exact ⟨(hcls2 p h).1, (hcls2 p h).2.2⟩
          · have z : nr2 = [] := by simpa using hb
            rw [z, List.append_nil] at hp ⊢
            by_cases hrp : r ∈ ps
            · exact hrp
            · exfalso
              have h1 : r ∈ nr := (hm1 r).mpr ⟨hr, hrp, hw⟩
              have h2 : r ∈ nr2 := (hm2 r).mpr ⟨h1, p, hp, by
                obtain ⟨v, h3, h4⟩ := hh
                rcases h3 with h3 | h3 <;> rcases h4 with h4 | h4
                · exact .inl (h4.trans h3.symm)
                · exact .inr (.inr (.inl (h4.trans h3.symm)))
                · exact .inr (.inl (h4.trans h3.symm))
                · exact .inr (.inr (.inr (h4.trans h3.symm)))⟩
              rw [z] at h2
              cases h2
      | false =>
        rw [if_neg (by decide)]
        have hcl := hcl rfl
        have dT : Dq HB (.ref T) (lN ps) := Dq.toInts eT
        have hgrp : ∀ p, p ∈ ps ↔ kl old cls p = some ci := fun p => ⟨fun h => (hps p h).2, fun h => by
          obtain ⟨v, hv, hcv⟩ := Option.map_eq_some_iff.mp h
          obtain ⟨u, hu, hcu⟩ := Option.map_eq_some_iff.mp hci
          refine pl.conn (S := fun p => p ∈ ps) (fun p r w hp hr hh => ?_) hip hu hv (hcv.trans hcu.symm)
          have hkr : kl old cls r = some ci := by rw [← pl.hang_cls hh]; exact (hps p hp).2
          have hrl : r ∈ lf := (inv.me r).mpr ⟨gt_lt hr, fun g hg hrg => by
            obtain ⟨_, _, c', h3⟩ := inv.gr g hg
            have h4 := (h3 r).mp hrg
            rw [hkr] at h4
            cases h4
            exact ((inv.me i).mp hil).2 g hg ((h3 i).mpr hci)⟩
          exact hcl p hp r hrl (by rw [pl.hd, hr]; rfl) hh⟩
        refine ws_expr (we_append (we_var 6 rfl ⟨F, fv, rfl, eF, DE.go (G := HB) (d := tN (nsort ps)) (de_tupL B (de_sortN B (de_var 9 dT) (by omega))) (Same.refl HB) fun vn HC sC dn => ?_⟩))
        have eF := sC _ _ eF
        have eL := sC _ _ eL
        have eT := sC _ _ eT
        have df := df.mono sC
        have sA := sA.trans sC
        refine ⟨fv, eF, by rw [df.length, List.length_map]; have := inv.gl; omega, ?_⟩
        have eF9 : (upd HC F (.lst (fv ++ [vn]))) F = some (.lst (fv ++ [vn])) := upd_same
        have eL9 : (upd HC F (.lst (fv ++ [vn]))) L = some (.lst (lf.map iV)) := by rw [upd_ne hLF]; exact eL
        have eT9 : (upd HC F (.lst (fv ++ [vn]))) T = some (.lst (ps.map iV)) := by rw [upd_ne hTF]; exact eT
        have df9 : DqAll (upd HC F (.lst (fv ++ [vn]))) (fv ++ [vn]) ((gs ++ [ps]).map fun g => tN (nsort g)) := by
          rw [List.map_append]
          exact (df.append (DqAll.one dn)).updL eF (by
            have h := noLs_map (enc := fun g => tN (nsort g)) (fun g => noL_tN _) (gs ++ [ps])
            rw [List.map_append] at h
            exact h)
        have sA9 : Same H2 (upd HC F (.lst (fv ++ [vn]))) := same_mut sA nF
        generalize upd HC F (.lst (fv ++ [vn])) = HD at eF9 eL9 eT9 df9 sA9
        have dL9 : Dq HD (.ref L) (lN lf) := Dq.toInts eL9
        have dT9 : Dq HD (.ref T) (lN ps) := Dq.toInts eT9
        refine ws_setDL 7 scLawPlanted.nd (G := HD) (dl_1i nI (fun p : Nat => !decide (p ∈ ps)) [("_law_at", 13)] (src_L (j := 13) nI (de_var 7 dL9)) (blkOk_by (N := nLawPlanted) (sc := defScope sLawPlanted) (by decide +kernel)) (fun Y hY => by obtain ⟨_, _, _, _, _, rfl⟩ := hY; exact pg_name (i := 13) scLawPlanted.nd rfl (by first | exact .inl rfl | exact .inr rfl)) (fun a ha Y hY Ha v g e1 => ?ts3) (fun a ha hp Y hY Ha v g e1 => ?el5) (fun _ => rfl) (by omega)) (Same.refl HD) fun L2 HE vs2 nL2 sE eL2 dvs2 => ?_
        case el5 =>
          obtain ⟨_, _, _, _, _, rfl⟩ := hY
          exact de_var 13 e1
        case ts3 =>
          obtain ⟨_, _, _, _, _, rfl⟩ := hY
          exact (dt_notIn (d := nI a) (ds := ps.map nI) (de_var 13 e1) (de_var 9 (dT9.mono g)) (.inl rfl) rfl (flatN ps)).is (by rw [memD_N])
        have ev2 : vs2 = (lf.filter fun p => !decide (p ∈ ps)).map iV := by
          rw [mapI] at dvs2
          rw [dvs2.ints_inv, List.map_map]
          rfl
        have hml : ∀ p, p ∈ (lf.filter fun p => !decide (p ∈ ps)) ↔ p ∈ lf ∧ p ∉ ps := fun p => by rw [List.mem_filter]; simp
        have hne : ps ≠ [] := fun z => by rw [z] at hip; cases hip
        refine ws_nil (ws_nil ⟨L2, gs ++ [ps], _, _, _, _, _, _, _, rfl, sA9.trans sE, sE _ _ eF9, df9.mono sE, by rw [eL2, ev2], (fun z => by rw [z, eF9] at nL2; cases nL2), ⟨fun g hg => ?_, ?_, fun p => ?_, inv.nd.filter _, fun p c hp hk => ?_, by rw [List.length_append, List.length_singleton]; have := inv.gl; omega⟩⟩)
        · rcases List.mem_append.mp hg with h | h
          · exact inv.gr g h
          · rw [List.mem_singleton.mp h]
            exact ⟨hne, hpn, ci, hgrp⟩
        · refine List.pairwise_append.mpr ⟨inv.dj, List.pairwise_singleton _ _, fun g hg g' hg' p hp hp' => ?_⟩
          rw [List.mem_singleton.mp hg'] at hp'
          exact ((inv.me p).mp (hps p hp').1).2 g hg hp
        · rw [hml, inv.me]
          constructor
          · rintro ⟨⟨h1, h2⟩, h3⟩
            refine ⟨h1, fun g hg => ?_⟩
            rcases List.mem_append.mp hg with h | h
            · exact h2 g h
            · rw [List.mem_singleton.mp h]; exact h3
          · rintro ⟨h1, h2⟩
            exact ⟨⟨h1, fun g hg => h2 g (List.mem_append_left _ hg)⟩, h2 ps (by simp)⟩
        · by_cases z : p < i
          · obtain ⟨g, hg, hpg⟩ := inv.al p c z hk
            exact ⟨g, List.mem_append_left _ hg, hpg⟩
          · have e : p = i := by omega
            rw [e]
            exact ⟨ps, by simp, hip⟩
    · refine ⟨L, gs, lf, fv, _, _, _, _, _, rfl, s6.trans s7, s7 _ _ eF, df.mono s7, s7 _ _ eL, hLF, ⟨inv.gr, inv.dj, inv.me, inv.nd, fun p c hp hk => ?_, by have := inv.gl; omega⟩⟩
      by_cases z : p < i
      · exact inv.al p c z hk
      · have e : p = i := by omega
        subst e
        have hw : (gt wish p).isSome = true := by
          obtain ⟨v, hv, _⟩ := Option.map_eq_some_iff.mp hk
          rw [pl.hd, hv]; rfl
        have hnl : p ∉ lf := fun h => by
          rw [hw, decide_eq_true h] at hno
          cases hno
        rw [inv.me] at hnl
        refine Classical.byContradiction fun hh => hnl ⟨hi, fun g hg hp => hh ⟨g, hg, hp⟩⟩
  · obtain ⟨L, gs, lf, fv, y8, y9, y10, y11, y12, rfl, s6, eF, df, eL, hLF, inv⟩ := p
    have A : Pt0 (kl old cls) gs := ⟨inv.gr, fun p c hk => inv.al p c (hkl p c hk) hk, inv.dj⟩
    refine ws_retD (G := H6) (d := .tuple [tTk needs old wish, lT (llsort (gs.map nsort))]) (de_tup (da_cons (de_var 2 (dt2.mono s6)) (da_cons (de_sortTN B hr (xs := gs.map nsort) (de_var 6 (.lst eF (by rw [List.map_map]; exact df))) (fun x hx => ?_)) da_nil)) (by simp)) (Same.refl H6) fun v H7 s7 dv => q v H7 _ (b2.mono (s6.trans s7)) (o2.trans (off_mono (s6.trans s7))) dv ⟨needs, old, wish, nxt, cls, _, rfl, pl, hnl, hol, A.sort⟩
    obtain ⟨g, hg, rfl⟩ := List.mem_map.mp hx
    intro e
    have := (nsort_perm g).length_eq
    rw [e] at this
    exact (inv.gr g hg).1 (List.eq_nil_of_length_eq_zero this.symm)
end
end DL

/-! A part's arrows are a round walk; the plan along it is safe. -/
namespace DL
variable {needs : List Nat} {old wish : Lay} {nxt cls : Nat → Nat}
theorem itN_add (nxt : Nat → Nat) : ∀ (a b u : Nat), itN nxt (a + b) u = itN nxt b (itN nxt a u)
  | 0, b, u => by rw [Nat.zero_add]; rfl
  | a + 1, b, u => by
    rw [Nat.add_right_comm]
    show itN nxt (a + b) (nxt u) = itN nxt b (itN nxt a (nxt u))
    exact itN_add nxt a b (nxt u)
theorem walkN_add (nxt : Nat → Nat) : ∀ (a b u : Nat), walkN nxt (a + b) u = walkN nxt a u ++ walkN nxt b (itN nxt a u)
  | 0, b, u => by rw [Nat.zero_add]; rfl
  | a + 1, b, u => by
    rw [Nat.add_right_comm]
    show u :: walkN nxt (a + b) (nxt u) = u :: (walkN nxt a (nxt u) ++ walkN nxt b (itN nxt a (nxt u)))
    rw [walkN_add nxt a b (nxt u)]
theorem walk_round {m u : Nat} (h : itN nxt m u = u) : ∀ d : Nat, itN nxt (d * m) u = u ∧ ∀ v, (walkN nxt (d * m) u).count v = d * (walkN nxt m u).count v
  | 0 => by
    rw [Nat.zero_mul]
    exact ⟨rfl, fun v => by rw [Nat.zero_mul]; rfl⟩
  | d + 1 => by
    obtain ⟨h1, h2⟩ := walk_round h d
    have e : (d + 1) * m = d * m + m := Nat.succ_mul d m
    rw [e, itN_add, h1]
    refine ⟨h, fun v => ?_⟩
    rw [walkN_add, h1, List.count_append, h2, Nat.succ_mul]
theorem walkN_length (nxt : Nat → Nat) : ∀ n u, (walkN nxt n u).length = n
  | 0, _ => rfl
  | n + 1, u => by rw [walkN, List.length_cons, walkN_length nxt n]
theorem Pln.chn (P : Pln needs old wish nxt cls) {g : List Nat} (hn : g.Nodup) {c : Nat} (hg : ∀ p, p ∈ g ↔ kl old cls p = some c) {p0 u : Nat} (h0 : p0 ∈ g) (hu : gt old p0 = some u) : Chn nxt (g.map (arOf old wish)) u u := by
  have hv : ∀ p ∈ g, ∃ v, gt old p = some v ∧ cls v = c := fun p hp => Option.map_eq_some_iff.mp ((hg p).mp hp)
  have huc : cls u = c := by
    obtain ⟨v, h1, h2⟩ := hv p0 h0
    rw [hu] at h1
    cases h1
    exact h2
  have hun := P.vo p0 u hu
  obtain ⟨m, hm0, hm1, hm2, hm3⟩ := P.cy u hun
  obtain ⟨w1, w2⟩ := walk_round hm1 (needs.getD u 0)
  have hmap : ((g.map (arOf old wish)).map (·.1)).map some = g.map (gt old) := by
    rw [List.map_map, List.map_map]
    refine List.map_congr_left fun p hp => ?_
    obtain ⟨v, h1, _⟩ := hv p hp
    show some (arOf old wish p).1 = _
    rw [P.ar h1, h1]
  have hcnt : ∀ v, ((g.map (arOf old wish)).map (·.1)).count v = (g.map (gt old)).count (some v) := fun v => by
    rw [← hmap]
    exact (count_map_iff fun x _ => by simp).symm
  have hcount : ∀ v, ((g.map (arOf old wish)).map (·.1)).count v = (walkN nxt (needs.getD u 0 * m) u).count v := fun v => by
    rw [w2, hcnt]
    by_cases z : v < needs.length ∧ cls v = cls u
    · obtain ⟨h1, h2⟩ := hm3 v z.1 z.2
      have h3 : (walkN nxt m u).count v = 1 := by
        have ha := List.nodup_iff_count.mp hm2 v
        have hb := List.count_pos_iff.mpr h1
        omega
      rw [h3, Nat.mul_one, ← h2, ← P.ro v z.1]
      -- the places of v, all in g
      have h4 : (g.filter fun p => decide (gt old p = some v)).Perm ((List.range old.length).filter fun p => decide (gt old p = some v)) := by
        refine (List.perm_ext_iff_of_nodup (hn.filter _) (List.nodup_range.filter _)).mpr fun p => ?_
        rw [List.mem_filter, List.mem_filter, List.mem_range, decide_eq_true_iff]
        refine ⟨fun ⟨_, e⟩ => ⟨gt_lt e, e⟩, fun ⟨_, e⟩ => ⟨(hg p).mpr ?_, e⟩⟩
        unfold kl
        rw [e, ← huc, ← z.2]
        rfl
      have h5 : ∀ (l : List Nat), (l.map (gt old)).count (some v) = (l.filter fun p => decide (gt old p = some v)).length := fun l => by
        rw [List.count_eq_countP, List.countP_map, List.countP_eq_length_filter]
        refine congrArg List.length (List.filter_congr fun p _ => ?_)
        rw [Bool.eq_iff_iff]; simp
      have h6 := h5 (List.range old.length)
      rw [range_gt] at h6
      rw [h5, h6, h4.length_eq]
    · have h1 : (g.map (gt old)).count (some v) = 0 := by
        rw [List.count_eq_zero]
        intro h
        obtain ⟨p, hp, e⟩ := List.mem_map.mp h
        obtain ⟨v', h2, h3⟩ := hv p hp
        rw [h2] at e
        cases e
        exact z ⟨P.vo p v h2, h3.trans huc.symm⟩
      have h2 : (walkN nxt m u).count v = 0 := by
        rw [List.count_eq_zero]
        intro h
        obtain ⟨i, _, rfl⟩ := mem_walkN.mp h
        exact z (P.it_lt hun i)
      rw [h1, h2, Nat.mul_zero]
  have hperm := List.perm_iff_count.mpr hcount
  have hlen : (g.map (arOf old wish)).length = needs.getD u 0 * m := by
    have := hperm.length_eq
    rw [List.length_map, walkN_length] at this
    exact this
  refine ⟨fun a ha => ?_, by rw [hlen]; exact hperm, by rw [hlen]; exact w1⟩
  obtain ⟨p, hp, rfl⟩ := List.mem_map.mp ha
  obtain ⟨v, h1, _⟩ := hv p hp
  rw [P.ar h1]
/-! ### the plan -/
def chainPl : Nat → List Nat → List (List Cp)
  | _, [] => []
  | o, a :: r => [(o, a)] :: chainPl a r
theorem chainPl_zip : ∀ (todo : List Nat) (w z : Nat), chainPl w (todo ++ [z]) = ((w :: todo).zip (todo ++ [z])).map fun q => [q]
  | [], w, z => rfl
  | a :: r, w, z => by
    show [(w, a)] :: chainPl a (r ++ [z]) = _
    rw [chainPl_zip r a z]
    rfl
theorem gt_set {L : Lay} {w p : Nat} {y : Option Nat} (h : w < L.length) : gt (L.set w y) p = if p = w then y else gt L p := by
  unfold gt
  rw [List.getD_eq_getElem?_getD, List.getD_eq_getElem?_getD, List.getElem?_set]
  by_cases e : p = w
  · subst e
    rw [if_pos rfl, if_pos rfl, if_pos h]
    rfl
  · rw [if_neg (Ne.symm e), if_neg e]
theorem outM_eq (L : Lay) (w a : Nat) : outM L [(w, a)] = ((List.range L.length).filter fun p => !decide (p = w)).map (gt L) := by
  unfold outM
  have h := zipIdx_fm none L (fun _ i => !decide (i ∈ [(w, a)].map (·.1))) fun o _ => o
  refine h.trans ?_
  refine congrArg (List.map _) (List.filter_congr fun p _ => ?_)
  simp
theorem out_perm {L : Lay} {w a : Nat} (h : w < L.length) : L.Perm (gt L w :: outM L [(w, a)]) := by
  have h1 : (List.range L.length).Perm (w :: (List.range L.length).filter fun p => !decide (p = w)) := by
    have h2 := List.perm_cons_erase (List.mem_range.mpr h)
    rw [(List.nodup_range (n := L.length)).erase_eq_filter w] at h2
    refine h2.trans (List.Perm.of_eq (congrArg _ (List.filter_congr fun p _ => ?_)))
    rw [Bool.eq_iff_iff]; simp
  have h3 := h1.map (gt L)
  rw [range_gt, List.map_cons] at h3
  rw [outM_eq]
  exact h3
theorem out_set {L : Lay} {w a : Nat} {y : Option Nat} (h : w < L.length) : outM (L.set w y) [(w, a)] = outM L [(w, a)] := by
  rw [outM_eq, outM_eq, List.length_set]
  refine List.map_congr_left fun p hp => ?_
  have := (List.mem_filter.mp hp).2
  rw [gt_set h, if_neg (by simpa using this)]
def Bal (needs : List Nat) (L : Lay) (w : Nat) : Prop := ∀ v, v < needs.length → L.count (some v) = needs.getD v 0 + if gt L w = some v then 1 else 0
theorem Bal.out {L : Lay} {w a : Nat} (h : Bal needs L w) (hw : w < L.length) : ∀ v, v < needs.length → (outM L [(w, a)]).count (some v) = needs.getD v 0 := fun v hv => by
  have h1 := (out_perm (a := a) hw).count_eq (some v)
  rw [h v hv, List.count_cons] at h1
  by_cases e : gt L w = some v
  · rw [if_pos e, if_pos (by rw [e]; simp)] at h1; omega
  · rw [if_neg e, if_neg (by simpa using e)] at h1; omega
theorem Bal.step {L : Lay} {w a : Nat} (h : Bal needs L w) (hw : w < L.length) (ne : a ≠ w) : Safe needs L [(w, a)] ∧ Bal needs (ledM L [(w, a)]) a := by
  refine ⟨fun v hv => by rw [h.out hw v hv]; exact Nat.le_refl _, fun v hv => ?_⟩
  show (L.set w (gt L a)).count (some v) = _ + if gt (L.set w (gt L a)) a = some v then 1 else 0
  have hl : w < (L.set w (gt L a)).length := by rw [List.length_set]; exact hw
  have h1 := (out_perm (a := a) hl).count_eq (some v)
  rw [out_set hw, List.count_cons, h.out hw v hv, gt_set hw, if_pos rfl] at h1
  rw [h1, gt_set hw, if_neg ne]
  by_cases e : gt L a = some v
  · rw [if_pos e, if_pos (by rw [e]; simp)]
  · rw [if_neg e, if_neg (by simpa using e)]
structure PlanH (needs : List Nat) (old wish wishA : Lay) (g order : List Nat) : Prop where
  rnd : Rnd old wish g order
  nd : order.Nodup
  lt : ∀ p ∈ order, p < old.length ∧ (gt old p).isSome = true
  wa : wishA.length = old.length + 1 ∧ gt wishA old.length = none ∧ ∀ p, p < old.length → gt wishA p = if p ∈ order then gt wish p else gt old p
def Fin_ (old wish : Lay) (order : List Nat) (L : Lay) : Prop := L.length = old.length + 1 ∧ ∀ p, p < old.length → gt L p = if p ∈ order then gt wish p else gt old p
theorem PlanH.fin {wishA : Lay} {g order : List Nat} (h : PlanH needs old wish wishA g order) {L : Lay} (f : Fin_ old wish order L) : wantedM wishA L = true := by
  unfold wantedM
  refine List.all_eq_true.mpr fun p hp => ?_
  have hp := List.mem_range.mp hp
  rw [h.wa.1] at hp
  by_cases z : p < old.length
  · rw [h.wa.2.2 p z, f.2 p z]
    simp
  · have e : p = old.length := by omega
    rw [e, h.wa.2.1]
    rfl
theorem plan_go {wishA : Lay} {g order : List Nat} (h : PlanH needs old wish wishA g order) {o0 : Nat} (ho : order.head? = some o0) : ∀ (todo pre : List Nat) (w : Nat) (L : Lay), order = pre ++ w :: todo → L.length = old.length + 1 →
    (∀ p, p < old.length → gt L p = if p ∈ pre then gt wish p else gt old p) → gt L old.length = gt old o0 → Bal needs L w →
    safePlan needs wishA L (chainPl w (todo ++ [old.length])) ∧ Fin_ old wish order (ledByM L (chainPl w (todo ++ [old.length])))
  | [], pre, w, L, e, hl, hp, hs, hb => by
    have hw : w ∈ order := by rw [e]; simp
    obtain ⟨hw1, hw2⟩ := h.lt w hw
    have ho0 := (h.lt o0 (List.mem_of_head? ho)).2
    obtain ⟨h1, h2⟩ := hb.step (a := old.length) (by omega) (by omega)
    have hlast : order.getLast? = some w := by rw [e]; simp
    have hf : Fin_ old wish order (ledM L [(w, old.length)]) := by
      refine ⟨by rw [ledM_length]; exact hl, fun p hp2 => ?_⟩
      show gt (L.set w (gt L old.length)) p = _
      rw [gt_set (by omega), hs, ← h.rnd.wr o0 w ho hlast]
      by_cases z : p = w
      · rw [if_pos z, if_pos (by rw [z]; exact hw), z]
      · rw [if_neg z, hp p hp2]
        have : p ∈ order ↔ p ∈ pre := by rw [e]; simp [z]
        by_cases z2 : p ∈ pre
        · rw [if_pos z2, if_pos (this.mpr z2)]
        · rw [if_neg z2, if_neg (fun y => z2 (this.mp y))]
    refine ⟨⟨⟨?_, fun c hc => ?_, by simp⟩, h1, h.fin hf⟩, hf⟩
    · show ([(w, old.length)] : List Cp).all _ = true
      simp [hs, ho0]
    · rw [List.mem_singleton.mp hc]
      exact ⟨by show w < _; omega, by show old.length < _; omega⟩
  | a :: r, pre, w, L, e, hl, hp, hs, hb => by
    have hw : w ∈ order := by rw [e]; simp
    have ha : a ∈ order := by rw [e]; simp
    obtain ⟨hw1, hw2⟩ := h.lt w hw
    obtain ⟨ha1, ha2⟩ := h.lt a ha
    have hnd := h.nd
    rw [e] at hnd
    have hd := List.nodup_append.mp hnd
    have hwr := (List.nodup_cons.mp hd.2.1)
    have hwa : a ≠ w := fun z => hwr.1 (by rw [z]; simp)
    have hap : a ∉ pre := fun z => hd.2.2 a z a (by simp) rfl
    have hwp : w ∉ pre := fun z => hd.2.2 w z w (by simp) rfl
    obtain ⟨h1, h2⟩ := hb.step (a := a) (by omega) hwa
    have hga : gt L a = gt old a := by rw [hp a ha1, if_neg hap]
    have hlink : gt wish w = gt old a := h.rnd.st pre.length w a (by rw [e]; simp) (by rw [e]; simp [List.getElem?_append_right])
    obtain ⟨h3, h4⟩ := plan_go h ho r (pre ++ [w]) a (ledM L [(w, a)]) (by rw [e, List.append_assoc]; rfl) (by rw [ledM_length]; exact hl) (fun p hp2 => by
      show gt (L.set w (gt L a)) p = _
      rw [gt_set (by omega), hga, ← hlink]
      by_cases z : p = w
      · rw [if_pos z, if_pos (by rw [z]; simp), z]
      · rw [if_neg z, hp p hp2]
        have : p ∈ pre ++ [w] ↔ p ∈ pre := by simp [z]
        by_cases z2 : p ∈ pre
        · rw [if_pos z2, if_pos (this.mpr z2)]
        · rw [if_neg z2, if_neg (fun y => z2 (this.mp y))]) (by
      show gt (L.set w (gt L a)) old.length = _
      rw [gt_set (by omega), if_neg (by omega), hs]) h2
    refine ⟨⟨⟨?_, fun c hc => ?_, by simp⟩, h1, h3⟩, h4⟩
    · show ([(w, a)] : List Cp).all _ = true
      simp [hga, ha2]
    · rw [List.mem_singleton.mp hc]
      exact ⟨by show w < _; omega, by show a < _; omega⟩
theorem plan_all {wishA : Lay} {g order : List Nat} (P : Pln needs old wish nxt cls) (h : PlanH needs old wish wishA g order) {o0 : Nat} {rest : List Nat} (ho : order = o0 :: rest) :
    safePlan needs wishA (old ++ [none]) (chainPl old.length (order ++ [old.length])) ∧ Fin_ old wish order (ledByM (old ++ [none]) (chainPl old.length (order ++ [old.length]))) := by
  have hL : (old ++ [none]).length = old.length + 1 := by simp
  have hs : gt (old ++ [none]) old.length = none := by rw [gt_app, if_neg (by omega), Nat.sub_self]; rfl
  have hlt : ∀ p, p < old.length → gt (old ++ [none]) p = gt old p := fun p hp => by rw [gt_app, if_pos hp]
  have hb : Bal needs (old ++ [none]) old.length := fun v hv => by
    rw [hs, if_neg (by simp), List.count_append, P.ro v hv]
    simp
  have ho0 : o0 ∈ order := by rw [ho]; simp
  obtain ⟨h1, h2⟩ := h.lt o0 ho0
  obtain ⟨h3, h4⟩ := hb.step (a := o0) (by omega) (by omega)
  obtain ⟨h5, h6⟩ := plan_go h (o0 := o0) (by rw [ho]; rfl) rest [] o0 (ledM (old ++ [none]) [(old.length, o0)]) (by rw [ho]; rfl) (by rw [ledM_length]; exact hL) (fun p hp => by
    show gt ((old ++ [none]).set old.length (gt (old ++ [none]) o0)) p = _
    rw [gt_set (by omega), if_neg (by omega), hlt p hp]
    simp) (by
    show gt ((old ++ [none]).set old.length (gt (old ++ [none]) o0)) old.length = _
    rw [gt_set (by omega), if_pos rfl, hlt o0 h1]) h4
  have e : chainPl old.length (order ++ [old.length]) = [(old.length, o0)] :: chainPl o0 (rest ++ [old.length]) := by rw [ho]; rfl
  rw [e]
  refine ⟨⟨⟨?_, fun c hc => ?_, by simp⟩, h3, h5⟩, h6⟩
  · show ([(old.length, o0)] : List Cp).all _ = true
    simp [hlt o0 h1, h2]
  · rw [List.mem_singleton.mp hc]
    exact ⟨by show old.length < _; omega, by show o0 < _; omega⟩
end DL

/-! Parts beside each other, parts renamed; what is still wrong. -/
namespace DL
variable {needs n1 n2 : List Nat} {old wish o1 w1 o2 w2 : Lay} {nxt cls nx1 cl1 nx2 cl2 : Nat → Nat}
theorem kl_beside (P : Pln n1 o1 w1 nx1 cl1) (p : Nat) : kl (o1 ++ mvO n1.length o2) (bsC n1.length cl1 cl2) p = if p < o1.length then (kl o1 cl1 p).map (2 * ·) else (kl o2 cl2 (p - o1.length)).map fun c => 2 * c + 1 := by
  unfold kl
  rw [gt_app]
  split
  · cases e : gt o1 p with
    | none => rfl
    | some v =>
      refine congrArg some ?_
      show bsC _ _ _ v = 2 * cl1 v
      unfold bsC
      rw [if_pos (P.vo p v e)]
  · rw [gt_mv]
    cases e : gt o2 (p - o1.length) with
    | none => rfl
    | some v =>
      refine congrArg some ?_
      show bsC _ _ _ (v + n1.length) = 2 * cl2 v + 1
      unfold bsC
      rw [if_neg (by omega), Nat.add_sub_cancel]
theorem kl_lt {p c : Nat} (h : kl old cls p = some c) : p < old.length := by
  obtain ⟨v, hv, _⟩ := Option.map_eq_some_iff.mp h
  exact gt_lt hv
theorem pts_beside (P : Pln n1 o1 w1 nx1 cl1) {ps qs : List (List Nat)} (A : Pts (kl o1 cl1) ps) (C : Pts (kl o2 cl2) qs) :
    Pts (kl (o1 ++ mvO n1.length o2) (bsC n1.length cl1 cl2)) (llsort (ps ++ qs.map fun g => g.map (· + o1.length))) := by
  have hm : ∀ (g : List Nat) p, p ∈ g.map (· + o1.length) ↔ o1.length ≤ p ∧ p - o1.length ∈ g := fun g p => by
    rw [List.mem_map]
    constructor
    · rintro ⟨q, hq, rfl⟩
      exact ⟨by omega, by rw [Nat.add_sub_cancel]; exact hq⟩
    · rintro ⟨h1, h2⟩
      exact ⟨_, h2, by omega⟩
  have hlt : ∀ g ∈ ps, ∀ p ∈ g, p < o1.length := fun g hg p hp => by
    obtain ⟨_, _, c, h3⟩ := A.gr g hg
    exact kl_lt ((h3 p).mp hp)
  have hup : ∀ g ∈ ps ++ qs.map (fun g => g.map (· + o1.length)), g.Pairwise (· < ·) := fun g hg => by
    rcases List.mem_append.mp hg with h | h
    · exact (A.gr g h).2.1
    · obtain ⟨g', hg', rfl⟩ := List.mem_map.mp h
      exact List.pairwise_map.mpr ((C.gr g' hg').2.1.imp fun h => by omega)
  have B : Pt0 (kl (o1 ++ mvO n1.length o2) (bsC n1.length cl1 cl2)) (ps ++ qs.map fun g => g.map (· + o1.length)) := by
    refine ⟨fun g hg => ?_, fun p c hk => ?_, ?_⟩
    · refine ⟨?_, (hup g hg).imp fun h => Nat.ne_of_lt h, ?_⟩
      · rcases List.mem_append.mp hg with h | h
        · exact (A.gr g h).1
        · obtain ⟨g', hg', rfl⟩ := List.mem_map.mp h
          exact fun e => (C.gr g' hg').1 (List.map_eq_nil_iff.mp e)
      · rcases List.mem_append.mp hg with h | h
        · obtain ⟨_, _, c, h3⟩ := A.gr g h
          refine ⟨2 * c, fun p => ?_⟩
          rw [kl_beside P, h3]
          by_cases z : p < o1.length
          · rw [if_pos z]
            cases e : kl o1 cl1 p with
            | none => simp
            | some d => simp; omega
          · rw [if_neg z]
            constructor
            · intro e; exact absurd (kl_lt e) z
            · intro e
              obtain ⟨d, _, e2⟩ := Option.map_eq_some_iff.mp e
              omega
        · obtain ⟨g', hg', rfl⟩ := List.mem_map.mp h
          obtain ⟨_, _, c, h3⟩ := C.gr g' hg'
          refine ⟨2 * c + 1, fun p => ?_⟩
          rw [hm, kl_beside P, h3]
          by_cases z : p < o1.length
          · rw [if_pos z]
            constructor
            · rintro ⟨h1, _⟩; omega
            · intro e
              obtain ⟨d, _, e2⟩ := Option.map_eq_some_iff.mp e
              omega
          · rw [if_neg z]
            cases e : kl o2 cl2 (p - o1.length) with
            | none => simp
            | some d => simp; omega
    · rw [kl_beside P] at hk
      split at hk
      · obtain ⟨d, hd, _⟩ := Option.map_eq_some_iff.mp hk
        obtain ⟨g, hg, hp⟩ := A.al p d hd
        exact ⟨g, List.mem_append_left _ hg, hp⟩
      · obtain ⟨d, hd, _⟩ := Option.map_eq_some_iff.mp hk
        obtain ⟨g, hg, hp⟩ := C.al _ d hd
        exact ⟨_, List.mem_append_right _ (List.mem_map.mpr ⟨g, hg, rfl⟩), (hm g p).mpr ⟨by omega, hp⟩⟩
    · refine List.pairwise_append.mpr ⟨A.pt0.dj, List.pairwise_map.mpr (C.pt0.dj.imp fun h p hp hp' => ?_), fun g hg g' hg' p hp hp' => ?_⟩
      · exact h _ ((hm _ p).mp hp).2 ((hm _ p).mp hp').2
      · obtain ⟨g2, hg2, rfl⟩ := List.mem_map.mp hg'
        have h1 := hlt g hg p hp
        have h2 := ((hm g2 p).mp hp').1
        omega
  have h := B.sort
  rw [show (ps ++ qs.map fun g => g.map (· + o1.length)).map nsort = ps ++ qs.map fun g => g.map (· + o1.length) from by
    have : ∀ l : List (List Nat), (∀ g ∈ l, g.Pairwise (· < ·)) → l.map nsort = l := fun l hl => by
      induction l with
      | nil => rfl
      | cons g r ih => rw [List.map_cons, nsort_self (hl g List.mem_cons_self), ih fun g hg => hl g (List.mem_cons_of_mem _ hg)]
    exact this _ hup] at h
  exact h
/-- the task renamed: the values, then the places -/
theorem pln_renamed (P : Pln needs old wish nxt cls) {vs ps : List Nat} (hv : vs.Perm (List.range needs.length)) (hp : ps.Perm (List.range old.length)) :
    Pln (vs.map fun v => needs.getD v 0) (ps.map fun p => (gt old p).map vs.idxOf) (ps.map fun p => (gt wish p).map vs.idxOf) (fun w => vs.idxOf (nxt (vs.getD w 0))) (fun w => cls (vs.getD w 0)) := by
  have h := pln_places (pln_values P hv) (order := ps) (by rw [List.length_map]; exact hp)
  have e : ∀ o : Lay, (gt (o.map (Option.map vs.idxOf))) = fun p => (gt o p).map vs.idxOf := fun o => funext fun p => gt_map _ o p
  rw [e, e] at h
  exact h
theorem kl_renamed (P : Pln needs old wish nxt cls) {vs ps : List Nat} (hv : vs.Perm (List.range needs.length)) (i : Nat) :
    kl (ps.map fun p => (gt old p).map vs.idxOf) (fun w => cls (vs.getD w 0)) i = (ps[i]?).bind (kl old cls) := by
  unfold kl
  rw [gt_mapP]
  cases ps[i]? with
  | none => rfl
  | some p =>
    show ((gt old p).map vs.idxOf).map _ = (gt old p).map cls
    cases e : gt old p with
    | none => rfl
    | some v =>
      refine congrArg some ?_
      show cls (vs.getD (vs.idxOf v) 0) = cls v
      rw [(idx_get hv (P.vo p v e)).2]
theorem pts_renamed (P : Pln needs old wish nxt cls) {vs ps : List Nat} (hv : vs.Perm (List.range needs.length)) (hp : ps.Perm (List.range old.length)) {gs : List (List Nat)} (A : Pts (kl old cls) gs) :
    Pts (kl (ps.map fun p => (gt old p).map vs.idxOf) (fun w => cls (vs.getD w 0))) (llsort (gs.map fun g => nsort (g.map ps.idxOf))) := by
  obtain ⟨hl, hn, hmm⟩ := range_perm hp
  have hlt : ∀ g ∈ gs, ∀ p ∈ g, p < old.length := fun g hg p hp => by
    obtain ⟨_, _, c, h3⟩ := A.gr g hg
    exact kl_lt ((h3 p).mp hp)
  have hget : ∀ i, i < old.length → ps[i]? = some (ps.getD i 0) := fun i hi => by
    rw [List.getD_eq_getElem?_getD, List.getElem?_eq_getElem (by omega)]; rfl
  have hm : ∀ g ∈ gs, ∀ i, i ∈ g.map ps.idxOf ↔ i < old.length ∧ ps.getD i 0 ∈ g := fun g hg i => by
    rw [List.mem_map]
    constructor
    · rintro ⟨p, hpg, rfl⟩
      obtain ⟨h1, h2⟩ := idx_get hp (hlt g hg p hpg)
      exact ⟨h1, by rw [h2]; exact hpg⟩
    · rintro ⟨h1, h2⟩
      exact ⟨_, h2, (get_idx hp h1).2⟩
  have B : Pt0 (kl (ps.map fun p => (gt old p).map vs.idxOf) (fun w => cls (vs.getD w 0))) (gs.map fun g => g.map ps.idxOf) := by
    refine ⟨fun g' hg' => ?_, fun i c hk => ?_, ?_⟩
    · obtain ⟨g, hg, rfl⟩ := List.mem_map.mp hg'
      obtain ⟨h1, h2, c, h3⟩ := A.gr g hg
      refine ⟨fun e => h1 (List.map_eq_nil_iff.mp e), ?_, c, fun i => ?_⟩
      · refine List.pairwise_map.mpr (h2.imp_of_mem fun {a b} ha hb hab e => ?_)
        have e1 := (idx_get hp (hlt g hg a ha)).2
        have e2 := (idx_get hp (hlt g hg b hb)).2
        rw [e, e2] at e1
        omega
      · rw [hm g hg, kl_renamed P hv]
        by_cases z : i < old.length
        · rw [hget i z]
          show _ ↔ kl old cls (ps.getD i 0) = some c
          rw [← h3]
          exact ⟨fun h => h.2, fun h => ⟨z, h⟩⟩
        · rw [List.getElem?_eq_none (by omega)]
          exact ⟨fun h => absurd h.1 z, fun h => nomatch h⟩
    · rw [kl_renamed P hv] at hk
      by_cases z : i < old.length
      · rw [hget i z] at hk
        obtain ⟨g, hg, hpg⟩ := A.al _ c hk
        exact ⟨_, List.mem_map.mpr ⟨g, hg, rfl⟩, (hm g hg i).mpr ⟨z, hpg⟩⟩
      · rw [List.getElem?_eq_none (by omega)] at hk
        cases hk
    · refine List.pairwise_map.mpr (A.pt0.dj.imp_of_mem fun {g g'} hg hg' h i hi hi' => ?_)
      exact h _ ((hm g hg i).mp hi).2 ((hm g' hg' i).mp hi').2
  have h := B.sort
  rw [List.map_map] at h
  exact h
/-! ### what is still wrong when a part is put right -/
theorem gt_woM {part : List Nat} {p : Nat} (h : p < wish.length) : gt (woM old wish part) p = if p ∈ part then gt old p else gt wish p := by
  unfold woM
  rw [gt_mapP, List.getElem?_range h]
  rfl
theorem wrongs_wo (part : List Nat) : wrongs old (woM old wish part) = (wrongs old wish).filter fun p => !decide (p ∈ part) := by
  unfold DL.wrongs
  rw [List.filter_filter]
  have hl : (woM old wish part).length = wish.length := by unfold woM; rw [List.length_map, List.length_range]
  rw [hl]
  refine List.filter_congr fun p hp => ?_
  rw [gt_woM (List.mem_range.mp hp)]
  by_cases z : p ∈ part
  · rw [if_pos z]; simp [z]
  · rw [if_neg z]; simp [z]
theorem gt_take {L : Lay} {n p : Nat} (h : p < n) : gt (L.take n) p = gt L p := by
  unfold gt
  rw [List.getD_eq_getElem?_getD, List.getD_eq_getElem?_getD, List.getElem?_take, if_pos h]
theorem wrongs_fin {part order : List Nat} {L : Lay} (hl : old.length = wish.length) (hm : ∀ p, p ∈ order ↔ p ∈ part) (f : Fin_ old wish order L) : wrongs (L.take old.length) wish = (wrongs old wish).filter fun p => !decide (p ∈ part) := by
  unfold DL.wrongs
  rw [List.filter_filter]
  refine List.filter_congr fun p hp => ?_
  have hp := List.mem_range.mp hp
  rw [gt_take (by omega), f.2 p (by omega)]
  by_cases z : p ∈ part
  · rw [if_pos ((hm p).mpr z)]; simp [z]
  · rw [if_neg (fun y => z ((hm p).mp y))]; simp [z]
def wishAl (old wish : Lay) (part : List Nat) : Lay := ((List.range (old.length + 1)).map fun p => if p ∈ part then gt (wish ++ [none]) p else gt (old ++ [none]) p).take old.length ++ [none]
theorem wishAl_ok {part order : List Nat} (hl : old.length = wish.length) (hm : ∀ p, p ∈ order ↔ p ∈ part) : (wishAl old wish part).length = old.length + 1 ∧ gt (wishAl old wish part) old.length = none ∧ ∀ p, p < old.length → gt (wishAl old wish part) p = if p ∈ order then gt wish p else gt old p := by
  have h1 : (((List.range (old.length + 1)).map fun p => if p ∈ part then gt (wish ++ [none]) p else gt (old ++ [none]) p).take old.length).length = old.length := by
    rw [List.length_take, List.length_map, List.length_range]; omega
  refine ⟨by unfold wishAl; rw [List.length_append, h1]; rfl, ?_, fun p hp => ?_⟩
  · unfold wishAl
    rw [gt_app, h1, if_neg (by omega), Nat.sub_self]
    rfl
  · unfold wishAl
    rw [gt_app, h1, if_pos hp, gt_take hp, gt_mapP, List.getElem?_range (by omega)]
    show (if p ∈ part then gt (wish ++ [none]) p else gt (old ++ [none]) p) = _
    have a1 : gt (wish ++ [none]) p = gt wish p := by rw [gt_app, if_pos (by omega)]
    have a2 : gt (old ++ [none]) p = gt old p := by rw [gt_app, if_pos hp]
    rw [a1, a2]
    by_cases z : p ∈ part
    · rw [if_pos z, if_pos ((hm p).mpr z)]
    · rw [if_neg z, if_neg (fun y => z ((hm p).mp y))]
end DL

namespace DL
open PySem PySem.Spec PyProof.Rows L2
section
variable {P : Program} {w : World} {K : PySem.W.Frag} {mg : Str → Option Value} {base : Heap} {f : Addr} {fd : FuncData}
def preRound (ds : List PyData) (R : PyData → Prop) : Prop := ∃ (needs : List Nat) (old wish : Lay) (nxt cls : Nat → Nat) (part : List Nat) (i : Nat), ds = [tTk needs old wish, tN part, nI i] ∧ Pln needs old wish nxt cls ∧ needs.length ≤ 40 ∧ old.length ≤ 40 ∧ (partsM old wish)[i]? = some part ∧ R = (· = .bool true)
theorem ok_is_round_right (F : Fun K "_law_is_round_right" "_law_is_round_right" sLawIsRoundRight f fd) (B : Blt mg) (c1 : Cal P w K mg base 2 "rounds_of" (spD preRounds)) (c2 : Cal P w K mg base 1 "with_spare" (spD preSpare1)) (c3 : Cal P w K mg base 4 "_law_is_safe_plan" (spD preLPlan))
    (c4 : Cal P w K mg base 2 "does" (spD preDoes)) (c5 : Cal P w K mg base 2 "led_by" (spD preLedBy)) (c6 : Cal P w K mg base 1 "_law_wrong" (spD preLWrong)) (c7 : Cal P w K mg base 5 "without_part" (spD preWithout)) (c8 : Cal P w K mg base 1 "wrong_places" (spD preWrong)) (c9 : CalG P w K mg base 1 "_law_alike" (spD preAlike)) :
    FnG P w K mg base 6 f fd ["_law_task", "_law_part", "_law_index"] (spD preRound) := by
  refine ok_dataG F scLawIsRoundRight (fun ds R h => by obtain ⟨_, _, _, _, _, _, _, rfl, _⟩ := h; rfl) fun cdv A outer s H vs Q E ds R hgd hr hd hp q => ?_
  obtain ⟨needs, old, wish, nxt, cls, part, ix, rfl, pl, hnl, hol, hix, rfl⟩ := hp
  obtain ⟨v0, v1, v2, rfl, d0, d1, d2⟩ := hd.a3
  have hlen := pl.len
  have ev := pl.ev (by omega) (by omega)
  have hpm : part ∈ partsM old wish := List.mem_of_getElem? hix
  obtain ⟨hpl, hpne, hpw⟩ := parts_mem hpm
  obtain ⟨_, hup, cc, hcc⟩ := pl.parts.gr part hpm
  have hpnd : part.Nodup := hup.imp fun h => Nat.ne_of_lt h
  obtain ⟨p0, pr, hpp⟩ : ∃ p0 pr, part = p0 :: pr := by
    cases part with
    | nil => exact absurd rfl hpne
    | cons p0 pr => exact ⟨p0, pr, rfl⟩
  obtain ⟨u0, hu0, _⟩ := Option.map_eq_some_iff.mp ((hcc p0).mp (by rw [hpp]; simp))
  have hch := pl.chn hpnd hcc (p0 := p0) (by rw [hpp]; simp) hu0
  refine ws_par 3 4 scLawIsRoundRight.nd (we_callD (G := H) c1 (hr.mono (by decide)) (da_cons (de_var 0 d0) (da_cons (de_var 1 d1) da_nil)) (Same.refl H) ⟨needs, old, wish, part, nxt, u0, rfl, ev, hpne, hpnd, hpw, by omega, fun p hp => by
    rw [hpp] at hp
    cases hp
    rw [pl.ar hu0], hch, rfl⟩ fun v3 H1 d s1 d3 rd => ?_)
  obtain ⟨order, rfl, rnd⟩ := rd
  have hmo : ∀ p, p ∈ order ↔ p ∈ part := fun p => rnd.pm.mem_iff
  have hlo : order.length = part.length := rnd.pm.length_eq
  have hlt : ∀ p ∈ order, p < old.length ∧ (gt old p).isSome = true := fun p hp => by
    obtain ⟨v, hv, _⟩ := Option.map_eq_some_iff.mp ((hcc p).mp ((hmo p).mp hp))
    exact ⟨gt_lt hv, by rw [hv]; rfl⟩
  have ph : PlanH needs old wish (wishAl old wish part) part order := ⟨rnd, rnd.pm.nodup_iff.mpr hpnd, hlt, wishAl_ok hlen hmo⟩
  obtain ⟨o0, rest, hoo⟩ : ∃ o0 rest, order = o0 :: rest := by
    cases order with
    | nil => rw [hpp] at hlo; cases hlo
    | cons o0 rest => exact ⟨o0, rest, rfl⟩
  obtain ⟨hsafe, hfin⟩ := plan_all pl ph hoo
  obtain ⟨hcan, hst⟩ := safePlan_can hsafe
  have hwant := (safePlan_end hsafe).1
  refine DE.go (G := H1) (d := nI old.length) ((de_len B (de_ixT (d := tO old) (de_var 0 (d0.mono s1)) de_int rfl) (.inr rfl)).is (by rw [List.length_map])) (Same.refl H1) fun v4 H2 s2 d4 => ?_
  have s02 := s1.trans s2
  refine ws_de 5 scLawIsRoundRight.nd (G := H2) (d := tTk needs (old ++ [none]) (wish ++ [none])) (de_call c2 (hr.mono (by decide)) (da_cons (de_var 0 (d0.mono s02)) (da_cons de_int da_nil)) ⟨needs, old, wish, rfl, by omega, by omega, rfl⟩) (Same.refl H2) fun v5 H3 s3 d5 => ?_
  have hpe : chainPl old.length (order ++ [old.length]) = [(old.length, o0)] :: ((order.zip (rest ++ [old.length])).map fun q => [q]) := by
    rw [hoo]
    show [(old.length, o0)] :: chainPl o0 (rest ++ [old.length]) = _
    rw [chainPl_zip]
  have hpll : (chainPl old.length (order ++ [old.length])).length ≤ 64 := by
    rw [hpe, List.length_cons, List.length_map, List.length_zip]
    omega
  have d3' := d3.mono (s2.trans s3)
  have d4' := d4.mono s3
  have s03 := s02.trans s3
  have hrl : rest.length ≤ 40 := by rw [hoo, List.length_cons] at hlo; omega
  refine ws_de 6 scLawIsRoundRight.nd (G := H3) (d := .list ((chainPl old.length (order ++ [old.length])).map stD)) ((de_catL (de_lst (da_cons (de_tup (da_cons (de_tup (da_cons (de_var 4 d4') (da_cons (de_ixT (d := nI o0) (de_var 3 d3') de_int (at_map0 (by rw [hoo]; rfl))) da_nil)) (by simp)) da_nil) (by simp)) da_nil) (by simp))
    (de_lc (dl_2 (fun q : Nat × Nat => stD [q]) [("_law_place", 11), ("_law_after", 12)] (src_ZT (j := 11) (k := 12) (xs := order) (ys := rest ++ [old.length]) B nI nI (de_var 3 d3') ((de_catT (de_slT (de_var 3 d3') (do_some (i := ((1 : Nat) : Int)) de_int) do_none) (de_tup (da_cons (de_var 4 d4') da_nil) (by simp)) (by rw [cut_from, List.length_drop, List.length_map]; simp; omega)).is (by rw [cut_from, hoo, ← List.map_drop]; show _ = PyData.tuple ((rest ++ [old.length]).map nI); rw [List.map_append]; rfl)))
      (blkOk_by (N := nLawIsRoundRight) (sc := defScope sLawIsRoundRight) (by decide +kernel)) (fun Y hY => by obtain ⟨_, _, _, _, _, rfl⟩ := hY; exact pg_tup rfl (pgs_cons (pg_name (i := 11) scLawIsRoundRight.nd rfl (by first | exact .inl rfl | exact .inr rfl)) (pgs_cons (pg_name (i := 12) scLawIsRoundRight.nd rfl (by first | exact .inl rfl | exact .inr rfl)) (pgs_nil))) rfl rfl) (fun a ha Y hY Ha v w g e1 e2 => ?el) (fun _ _ => rfl) (by rw [List.length_zip]; omega)) scLawIsRoundRight.nd) (by rw [List.length_map, List.length_zip]; simp; omega)).is ?fin) (Same.refl H3) fun v6 H4 s4 d6 => ?_
  case el =>
    obtain ⟨_, _, _, _, _, rfl⟩ := hY
    exact de_tup (da_cons (de_tup (da_cons (de_var 11 e1) (da_cons (de_var 12 e2) da_nil)) (by simp)) da_nil) (by simp)
  case fin =>
    rw [hpe, List.map_cons, List.map_map]
    rfl
  have d5' := d5.mono s4
  have s04 := s03.trans s4
  refine ws_de 7 scLawIsRoundRight.nd (G := H4) (d := tTk needs (old ++ [none]) ((List.range (old.length + 1)).map fun p => if p ∈ part then gt (wish ++ [none]) p else gt (old ++ [none]) p)) (de_tup (da_cons (de_ixT (d := tN needs) (de_var 5 d5') de_int rfl) (da_cons (de_ixT (d := tO (old ++ [none])) (de_var 5 d5') de_int rfl)
    (da_cons (de_tupL B (de_lc ((dl_2 (fun q : Option Nat × Nat => oI (if q.2 ∈ part then q.1 else gt (old ++ [none]) q.2)) [("_law_at", 13), ("_law_item", 14)] (src_E (j := 13) (k := 14) (xs := wish ++ [none]) B oI (de_ixT (d := tO (wish ++ [none])) (de_var 5 d5') de_int rfl)) (blkOk_by (N := nLawIsRoundRight) (sc := defScope sLawIsRoundRight) (by decide +kernel)) (fun Y hY => by obtain ⟨_, _, _, _, _, rfl⟩ := hY; exact pg_tup rfl (pgs_cons (pg_name (i := 13) scLawIsRoundRight.nd rfl (by first | exact .inl rfl | exact .inr rfl)) (pgs_cons (pg_name (i := 14) scLawIsRoundRight.nd rfl (by first | exact .inl rfl | exact .inr rfl)) (pgs_nil))) rfl rfl)
      (fun a ha Y hY Ha v w g e1 e2 => ?el2) (fun _ _ => rfl) (by rw [List.length_zipIdx, List.length_append]; simp; omega)).is ?fin2) scLawIsRoundRight.nd)) da_nil))) (by simp)) (Same.refl H4) fun v7 H5 s5 d7 => ?_
  case el2 =>
    obtain ⟨_, _, _, _, _, rfl⟩ := hY
    obtain ⟨h1, h2⟩ := zipIdx_mem ha
    refine de_if ((dt_in (d := nI a.2) (ds := part.map nI) (de_var 13 e1) (de_var 1 (d1.mono (s04.trans g))) (.inr rfl) rfl (flatN part)).is (memD_N _ _)) (fun h => ?_) fun h => ?_
    · rw [if_pos (of_decide_eq_true h)]
      exact de_var 14 e2
    · rw [if_neg (of_decide_eq_false h)]
      exact de_ixT (de_ixT (d := tO (old ++ [none])) (de_var 5 (d5'.mono g)) de_int rfl) (de_var 13 e1) (at_map (gt_at (by rw [List.length_append] at h2 ⊢; simp at h2 ⊢; omega)))
  case fin2 =>
    rw [zipIdx_m none (wish ++ [none]) fun o i => oI (if i ∈ part then o else gt (old ++ [none]) i), List.map_map, List.length_append, hlen]
    rfl
  have d7' := d7
  refine ws_de 7 scLawIsRoundRight.nd (G := H5) (d := tTk needs (old ++ [none]) (wishAl old wish part)) (de_tup (da_cons (de_ixT (d := tN needs) (de_var 7 d7) de_int rfl) (da_cons (de_ixT (d := tO (old ++ [none])) (de_var 7 d7) de_int rfl)
    (da_cons ((de_catT (de_slT (ds := ((List.range (old.length + 1)).map fun p => if p ∈ part then gt (wish ++ [none]) p else gt (old ++ [none]) p).map oI) (de_ixT (de_var 7 d7) de_int rfl) do_none (do_some (de_var 4 (d4'.mono (s4.trans s5))))) (de_tup (da_cons de_non da_nil) (by simp)) (by rw [cut_to]; simp; omega)).is (by
      rw [cut_to]
      unfold wishAl
      show _ = PyData.tuple ((_ ++ [none]).map oI)
      rw [List.map_append, List.map_take]
      rfl)) da_nil))) (by simp)) (Same.refl H5) fun v8 H6 s6 d8 => ?_
  clear d7' d7
  have s36 := s4.trans (s5.trans s6)
  have s06 := s03.trans s36
  have d6' := d6.mono (s5.trans s6)
  have hwl : (wishAl old wish part).length = old.length + 1 := ph.wa.1
  have ho1 : (old ++ [none] : Lay).length = old.length + 1 := by simp
  refine ws_ifD (G := H6) (b := false) (dt_or (k := false) (m := false) ((dt_not (dt_val (de_call c3 (hr.mono (by decide)) (da_cons (de_var 7 d8) (da_cons (de_tupL B (de_var 6 d6')) da_nil)) ⟨needs, old ++ [none], wishAl old wish part, _, rfl, by omega, by omega, by omega, hsafe, rfl⟩))))
    fun _ => dt_cmp op_notBl (nomark _) (de_call c4 (hr.mono (by decide)) (da_cons (de_var 7 d8) (da_cons (de_tupL B (de_var 6 d6')) da_nil)) ⟨needs, old ++ [none], wishAl old wish part, _, rfl, hcan, hst, by omega, by omega, rfl⟩) de_bl fun H' x y Q' g' dx dy q' => ?nt) (Same.refl H6) (fun hb => nomatch hb) fun _ H7 s7 => ws_nil ?_
  case nt =>
    rw [hwant] at dx
    cases dx
    cases dy
    exact ⟨true, true, rfl, rfl, q' _ H' (Same.refl H') (.bl _)⟩
  have d5'' := d5.mono (s36.trans s7)
  have d6'' := d6'.mono s7
  have s07 := s06.trans s7
  have d4'' := d4'.mono (s36.trans s7)
  refine ws_de 8 scLawIsRoundRight.nd (G := H7) (d := tO (ledByM (old ++ [none]) (chainPl old.length (order ++ [old.length])))) (de_call c5 (hr.mono (by decide)) (da_cons (de_ixT (d := tO (old ++ [none])) (de_var 5 d5'') de_int rfl) (da_cons (de_tupL B (de_var 6 d6'')) da_nil)) ⟨old ++ [none], _, rfl, hcan, hst, by omega, rfl⟩) (Same.refl H7) fun v9 H8 s8 d9 => ?_
  have hwrl : (wrongs old wish).length ≤ 40 := by
    unfold wrongs
    refine Nat.le_trans (List.length_filter_le _ _) ?_
    rw [List.length_range]; omega
  have s08 := s07.trans s8
  refine ws_de 9 scLawIsRoundRight.nd (G := H8) (d := tN ((wrongs old wish).filter fun p => !decide (p ∈ part))) (de_tupL B (de_lc (dl_1i nI (fun p : Nat => !decide (p ∈ part)) [("_law_at", 13)] (src_L (j := 13) nI (de_call c6 (hr.mono (by decide)) (da_cons (de_var 0 (d0.mono s08)) da_nil) ⟨needs, old, wish, rfl, hlen, by omega, rfl⟩)) (blkOk_by (N := nLawIsRoundRight) (sc := defScope sLawIsRoundRight) (by decide +kernel)) (fun Y hY => by obtain ⟨_, _, _, _, _, rfl⟩ := hY; exact pg_name (i := 13) scLawIsRoundRight.nd rfl (by first | exact .inl rfl | exact .inr rfl))
    (fun a ha Y hY Ha v g e1 => ?ts3) (fun a ha hp Y hY Ha v g e1 => ?el3) (fun _ => rfl) (by omega)) scLawIsRoundRight.nd)) (Same.refl H8) fun v10 H9 s9 d10 => ?_
  case el3 =>
    obtain ⟨_, _, _, _, _, rfl⟩ := hY
    exact de_var 13 e1
  case ts3 =>
    obtain ⟨_, _, _, _, _, rfl⟩ := hY
    exact (dt_notIn (d := nI a) (ds := part.map nI) (de_var 13 e1) (de_var 1 (d1.mono (s08.trans g))) (.inr rfl) rfl (flatN part)).is (by rw [memD_N])
  have s09 := s08.trans s9
  refine ws_de 10 scLawIsRoundRight.nd (G := H9) (d := tTk needs old (woM old wish part)) (de_call c7 hr (da_cons (de_var 0 (d0.mono s09)) (da_cons (de_var 2 (d2.mono s09)) da_nil)) ⟨needs, old, wish, ix, part, rfl, ev, hix, rfl⟩) (Same.refl H9) fun v11 H10 s10 d11 => ?_
  have s010 := s09.trans s10
  have d9' := d9.mono (s9.trans s10)
  have hwo : (woM old wish part).length = wish.length := by unfold woM; rw [List.length_map, List.length_range]
  have hfl := hfin.1
  have e1 : tN (wrongs old (woM old wish part)) = tN ((wrongs old wish).filter fun p => !decide (p ∈ part)) := by rw [wrongs_wo]
  have e2 : tN (wrongs ((ledByM (old ++ [none]) (chainPl old.length (order ++ [old.length]))).take old.length) wish) = tN ((wrongs old wish).filter fun p => !decide (p ∈ part)) := by rw [wrongs_fin hlen hmo hfin]
  have hokl : okD 3 (.list [tN ((wrongs old wish).filter fun p => !decide (p ∈ part)), tN ((wrongs old wish).filter fun p => !decide (p ∈ part))]) := by
    have ho : okD 2 (tN ((wrongs old wish).filter fun p => !decide (p ∈ part))) := (okT (k := 0) (Nat.le_trans (List.length_filter_le _ _) (by omega)) fun p hp => okN (by
      have := (mem_wrongs.mp (List.mem_filter.mp hp).1).1
      omega)).mono (by decide)
    refine .inr ⟨_, .inl rfl, by simp, fun x hx => ?_⟩
    simp only [List.mem_cons, List.not_mem_nil, or_false] at hx
    rcases hx with rfl | rfl
    · exact ho
    · exact ho
  refine ws_retD (G := H10) (d := .bool true) (de_callG c9 hgd (hr.mono (by decide)) (da_cons (de_lst (da_cons ((de_call c8 (hr.mono (by decide)) (da_cons (de_var 10 d11) da_nil) ⟨needs, old, woM old wish part, rfl, by omega, by omega, rfl⟩).is e1)
    (da_cons ((de_call c8 (hr.mono (by decide)) (da_cons (de_tup (da_cons (de_ixT (d := tN needs) (de_var 0 (d0.mono s010)) de_int rfl) (da_cons ((de_slT (de_var 8 d9') do_none (do_some (de_var 4 (d4''.mono (s8.trans (s9.trans s10)))))).is (d' := tO ((ledByM (old ++ [none]) (chainPl old.length (order ++ [old.length]))).take old.length)) (by rw [cut_to]; show _ = PyData.tuple ((List.take _ _).map oI); rw [List.map_take]))
      (da_cons (de_ixT (d := tO wish) (de_var 0 (d0.mono s010)) de_int rfl) da_nil))) (by simp)) da_nil) ⟨needs, _, wish, rfl, by rw [List.length_take]; omega, by omega, rfl⟩).is e2) da_nil)) (by simp))
    (da_cons (de_lst (da_cons (de_var 9 (d10.mono s10)) (da_cons (de_var 9 (d10.mono s10)) da_nil)) (by simp)) da_nil)) ⟨_, rfl, hokl, rfl⟩) (Same.refl H10) fun v H11 s11 dv => q v H11 _ (s010.trans s11) dv rfl
end
end DL

namespace DL
open PySem PySem.Spec PyProof.Rows L2
section
variable {P : Program} {w : World} {K : PySem.W.Frag} {mg : Str → Option Value} {base : Heap} {f : Addr} {fd : FuncData}
section
variable {X : Cx} {σ : L2.St} {G H : Hp} {Q : VK} {a e : Expr} {es : List Expr} {rest : List Stmt} {D' : Ends} {pos p : Pos}
theorem ws_unpW {pos p0 p1 p2 : Pos} {kk : Nat} {x y : Str} (i j : Nat) (hN : X.N.Nodup) (h : WE X e σ H fun v H1 => ∃ d1 d2, Dq H1 v (.tuple [d1, d2]) ∧ ∀ u w, Dq H1 u d1 → Dq H1 w d2 → WS X rest D' ((σ.set i (some u)).set j (some w)) H1) (hc : X.calm = true := by rfl)
    (hi : X.N[i]? = some x := by rfl) (hj : X.N[j]? = some y := by rfl) (hx : Loc X.env.scope x := by first | exact .inl rfl | exact .inr rfl) (hy : Loc X.env.scope y := by first | exact .inl rfl | exact .inr rfl)
    (fx : X.fn x = true ∨ X.env.scope.names.lookup x = some .local := by first | exact .inl rfl | exact .inr rfl)
    (fy : X.fn y = true ∨ X.env.scope.names.lookup y = some .local := by first | exact .inl rfl | exact .inr rfl)
    (hs : swapsWithSole [.Tuple [.Name x p1, .Name y p2] kk p0] e pos.line X.env = pure false := by rfl) (hw : swappedStores [.Tuple [.Name x p1, .Name y p2] kk p0] e X.env = pure none := by rfl) :
    WS X (.Assign [.Tuple [.Name x p1, .Name y p2] kk p0] e pos :: rest) D' σ H :=
  ws_step (ps_asg (te := fun σ H Q => WE X e σ H Q) pe_we (pg_tup hc (pgs_cons (pg_name hN hi hx fx) (pgs_cons (pg_name hN hj hy fy) pgs_nil)) rfl rfl) hs hw rfl) (h.imp fun v H1 ⟨d1, d2, dv, q⟩ => by
    cases dv with
    | tup h1 h2 =>
      cases h2 with
      | cons a1 b1 =>
        obtain ⟨w, rfl, a2⟩ := b1.one_inv
        exact ⟨_, _, rfl, h1.sq, rfl, _, _, rfl, _, _, rfl, rfl, q _ _ a1 a2⟩)
theorem we_bagW {x : Str} {k : Nat} {bb cc : Addr} {cs : List Int} {pre : List PyData → (PyData → Prop) → Prop} {a2 : Expr} (c : Cal X.prog X.w X.K X.mg X.base k x (spBag pre)) (hr : Room k X.A)
    (ha : ∀ H Q, Q (.ref bb) H → WE X a σ H Q) (h : WE X a2 σ H fun v H1 => BagAt H1 bb cc cs ∧ ∃ ds R, DqAll H1 [v] ds ∧ pre ds R ∧ ∀ v H2 d, BagAt H2 bb cc cs → Same (off H1 bb) (off H2 bb) → Dq H2 v d → R d → Q v H2)
    (hg : Gl X x := by rfl) (hdb : (x == ("__debug__" : Str)) = false := by decide) (he : starEach [a, a2] X.env = (false, eval a X.env) :: starEach [a2] X.env := by rfl) (he2 : starEach [a2] X.env = (false, eval a2 X.env) :: starEach [] X.env := by rfl) (hpl : (backTo pos (starEach [a2] X.env)).any (·.1) = false := by rfl) :
    WE X (.Call (.Name x p) [a, a2] [] pos) σ H Q :=
  we_call c hr (wa_two (ha H _ (h.imp fun v H1 ⟨hb, ds, R, h1, h2, h3⟩ => ⟨bb, cc, cs, [v], ds, R, rfl, hb, h1, h2, h3⟩)) he he2) hg hdb he hpl
theorem we_tupW (B : Blt X.mg) (h : WE X a σ H fun v H1 => ∃ ds, Dq H1 v (.list ds) ∧ ∀ v2 H2, Same H1 H2 → Dq H2 v2 (.tuple ds) → Q v2 H2) (hg : Gl X "tuple" := by rfl) (he : starEach [a] X.env = (false, eval a X.env) :: starEach [] X.env := by rfl) : WE X (.Call (.Name "tuple" p) [a] [] pos) σ H Q :=
  we_T ct_list B.tuple boot_tuple (wa_one (h.imp fun v H1 ⟨ds, dv, q⟩ => by
    cases dv with
    | lst h1 h2 => exact ⟨_, _, rfl, SqL.of h1, fun p H2 np s2 tp _ => q _ H2 s2 (.tup tp (h2.mono s2))⟩) he) hg (by decide) (by decide) he rfl
theorem wa_three {b c : Expr} {Q : List V → Hp → Prop} (h : WE X a σ H fun v H1 => WE X b σ H1 fun w H2 => WE X c σ H2 fun u H3 => Q [v, w, u] H3) (hs : starEach [a, b, c] X.env = (false, eval a X.env) :: starEach [b, c] X.env := by rfl)
    (hb : starEach [b, c] X.env = (false, eval b X.env) :: starEach [c] X.env := by rfl) (hc : starEach [c] X.env = (false, eval c X.env) :: starEach [] X.env := by rfl) : WA X [a, b, c] σ H Q := wa_of (pa_cons pe_we (pa_cons pe_we (pa_cons pe_we pa_nil hc) hb) hs) h
end
theorem lowL_lT (ps : List (List Nat)) : lowL (lT ps) = true := noLs_map (enc := tN) noL_tN ps
mutual
theorem lowL_of : ∀ {d : PyData}, noL d = true → lowL d = true
  | .none, _ => rfl
  | .bool _, _ => rfl
  | .int _, _ => rfl
  | .str _, _ => rfl
  | .list _, h => by simp [noL] at h
  | .tuple xs, h => by
    rw [noL] at h
    rw [lowL]
    exact lowLs_of h
  | .dict _, h => by simp [noL] at h
theorem lowLs_of : ∀ {ds : List PyData}, noLs ds = true → lowLs ds = true
  | [], _ => rfl
  | d :: ds, h => by
    rw [noLs, Bool.and_eq_true] at h
    rw [lowLs, lowL_of h.1, lowLs_of h.2]; rfl
end
theorem okLT {ps : List (List Nat)} {n : Nat} (h1 : ps.length ≤ 64) (hn : n ≤ 64) (h2 : ∀ g ∈ ps, g.length ≤ 64 ∧ ∀ p ∈ g, p < n) : okD 2 (lT ps) := okL (k := 1) h1 fun g hg => okT (k := 0) (h2 g hg).1 fun p hp => okN (by have := (h2 g hg).2 p hp; omega)
theorem partsOk {needs : List Nat} {old wish : Lay} (h : wish.length ≤ 64) : okD 2 (lT (partsM old wish)) := okLT (n := wish.length) (Nat.le_trans (parts_length old wish) h) h fun g hg => by
  obtain ⟨h1, _, h3⟩ := parts_mem hg
  exact ⟨by omega, fun p hp => (mem_wrongs.mp (h3 p hp)).1⟩
def spLaw (K : PySem.W.Frag) : Sp := fun vs H Q _ => ∃ (c : Addr) (ns : List Int), vs = [.ref c] ∧ SqL K H c (ns.map V.int) ∧ ns.length ≤ 1000 ∧ ∀ H2, Same H H2 → Q (.bl true) H2
theorem ok_law (F : Fun K "law" "law" sLaw f fd) (B : Blt mg) (c0 : Cal P w K mg base 1 "_law_bag" (preBag K)) (c1 : Cal P w K mg base 2 "_law_some" (spBag preSome)) (c2 : Cal P w K mg base 2 "_law_mixed" (spBag preMixed)) (c3 : Cal P w K mg base 4 "_law_planted" (spBag prePlanted))
    (c4 : Cal P w K mg base 4 "closed_parts" (spD preClosedParts)) (c5 : Cal P w K mg base 3 "parts_of" (spD preParts)) (c6 : Cal P w K mg base 2 "is_even" (spD preEven)) (c7 : Cal P w K mg base 3 "spare_many" (spD preSpare)) (c8 : CalG P w K mg base 1 "_law_alike" (spD preAlike))
    (c9 : Cal P w K mg base 1 "_law_free" (spD preLFree)) (c10 : CalG P w K mg base 6 "_law_is_round_right" (spD preRound)) (c11 : Cal P w K mg base 2 "beside" (spD preBeside)) (c12 : Cal P w K mg base 5 "counts_of" (spD preCounts)) (c13 : Cal P w K mg base 1 "renamed" (spD preRenamed)) :
    FnG P w K mg base 7 f fd ["_law_script"] (spLaw K) := by
  refine ok_defG F scLaw (fun vs H Q E h => by obtain ⟨_, _, rfl, _⟩ := h; rfl) fun cdv A outer s H vs Q E hgd hr h => ?_
  obtain ⟨c, ns, rfl, hc, hl, q⟩ := h
  refine ws_set 1 scLaw.nd (we_call c0 (hr.mono (by decide)) (wa_one (we_var 0 rfl ⟨c, ns, rfl, hc, hl, fun b cb cs H1 b1 s1 => ?_⟩)))
  refine ws_forR (n := 3) B PassesOwn.never (pg_name (i := 2) scLaw.nd rfl (by first | exact .inl rfl | exact .inr rfl)) (G := H1) de_int (by omega) (Same.refl H1) (fun i σ H2 => (∃ y2 y3 y4 y5 y6 y7 y8 y9 y10 y11 y12 y13 y14, σ = [some (.ref c), some (.ref b), y2, y3, y4, y5, y6, y7, y8, y9, y10, y11, y12, y13, y14, none]) ∧ BagAt H2 b cb cs ∧ Same H (off H2 b))
    (fun H2 s2 => ⟨⟨none, none, none, none, none, none, none, none, none, none, none, none, none, rfl⟩, b1.mono s2, s1.trans (off_mono s2)⟩) (fun i σ H2 hi p => ?_) fun σ H2 p => ?_
  case refine_2 =>
    obtain ⟨_, _, p3⟩ := p
    exact ws_retD (G := H2) (d := .bool true) de_bl (Same.refl H2) fun v H3 s3 dv => by
      cases dv
      exact q H3 ((p3.trans off_le).trans s3)
  obtain ⟨⟨y2, y3, y4, y5, y6, y7, y8, y9, y10, y11, y12, y13, y14, rfl⟩, b2, s2⟩ := p
  clear b1 s1
  refine ws_unpW 3 4 scLaw.nd (we_bagW c3 (hr.mono (by decide)) (fun H Q q => we_var 1 rfl q) (we_bag (G := H2) c1 (hr.mono (by decide)) (fun H Q q => we_var 1 rfl q) (da_cons ((de_lst (da_cons de_int (da_cons de_int (da_cons de_int da_nil))) (by simp)).is (d' := lN [6, 10, 15]) rfl) da_nil) (Same.refl H2) b2 ⟨[6, 10, 15], rfl, by simp, by simp, rfl⟩ fun v3 H3 d3 b3 o3 k3 r3 => ⟨b3, ?_⟩))
  obtain ⟨size, hsz, rfl⟩ := r3
  have hsz15 : size ≤ 15 := by
    simp only [List.mem_cons, List.not_mem_nil, or_false] at hsz
    omega
  refine ⟨[nI size], _, DqAll.one k3, ⟨size, rfl, by omega, rfl⟩, fun v4 H4 d4 b4 o4 k4 r4 => ?_⟩
  obtain ⟨needs, old, wish, nxt, cls, parts, rfl, pl, hnl, hol, hpts⟩ := r4
  refine ⟨_, _, k4, fun u3 u4 dt dp => ?_⟩
  have s4 : Same H (off H4 b) := s2.trans (o3.trans o4)
  clear k4 k3 o3 o4 b3 b2 s2 hsz
  have hlen := pl.len
  have ev := pl.ev (by omega) (by omega)
  have hparts : parts = partsM old wish := hpts.uniq pl.parts
  subst hparts
  have hpl := parts_length old wish
  have okp := partsOk (needs := needs) (old := old) (wish := wish) (by omega)
  have hfr := frees_length old
  refine ws_de 5 scLaw.nd (G := H4) (d := .list [lT (partsM old wish), lT (partsM old wish), .bool true, nI (frees old).length]) (de_lst (da_cons (de_call c4 (hr.mono (by decide)) (da_cons (de_var 3 dt) da_nil) ⟨needs, old, wish, rfl, ev, rfl⟩) (da_cons (de_call c5 (hr.mono (by decide)) (da_cons (de_var 3 dt) da_nil) ⟨needs, old, wish, rfl, ev, rfl⟩)
    (da_cons (de_call c6 (hr.mono (by decide)) (da_cons (de_var 3 dt) da_nil) ⟨needs, old, wish, rfl, ev, rfl⟩) (da_cons (de_call c7 (hr.mono (by decide)) (da_cons (de_var 3 dt) da_nil) ⟨needs, old, wish, rfl, ev, rfl⟩) da_nil)))) (by simp)) (Same.refl H4) fun v5 H5 s5 d5 => ?_
  have b5 := b4.mono s5
  have dt5 := dt.mono s5
  have dp5 := dp.mono s5
  have s5' := s4.trans (off_mono s5)
  clear b4 dt dp s4 s5
  refine ws_ifD (G := H5) (b := false) (dt_not (k := true) (dt_val (de_callG c8 hgd (hr.mono (by decide)) (da_cons (de_var 5 d5) (da_cons (de_lst (da_cons (de_var 4 dp5) (da_cons (de_var 4 dp5) (da_cons de_bl (da_cons ((de_len B (de_call c9 (hr.mono (by decide)) (da_cons (de_var 3 dt5) da_nil) ⟨needs, old, wish, rfl, by omega, rfl⟩) (.inr rfl)).is (by rw [List.length_map, frees_eq ev])) da_nil)))) (by simp)) da_nil)) ⟨_, rfl, ?ok, rfl⟩))) (Same.refl H5) (fun hb => nomatch hb) fun _ H6 s6 => ws_nil ?_
  case ok =>
    refine .inr ⟨_, .inl rfl, by simp, fun x hx => ?_⟩
    simp only [List.mem_cons, List.not_mem_nil, or_false] at hx
    rcases hx with rfl | rfl | rfl | rfl
    · exact okp
    · exact okp
    · exact (show okD 0 (.bool true) from rfl).mono (by decide)
    · exact okN (by omega)
  have b6 := b5.mono s6
  have dt6 := dt5.mono s6
  have dp6 := dp5.mono s6
  have s6' := s5'.trans (off_mono s6)
  clear b5 dt5 dp5 s5' d5
  -- each part
  have dp6' := dp6
  cases dp6' with
  | lst l1 l2 =>
    rename_i lp zs
    refine ws_forEL B PassesOwn.never (pg_tup rfl (pgs_cons (pg_name (i := 6) scLaw.nd rfl (by first | exact .inl rfl | exact .inr rfl)) (pgs_cons (pg_name (i := 7) scLaw.nd rfl (by first | exact .inl rfl | exact .inr rfl)) (pgs_nil))) rfl rfl) (we_var 4 rfl ⟨lp, zs, H6, fun j σ H7 => (∃ y6 y7, σ = [some (.ref c), some (.ref b), some (.int (i : Int)), some u3, some (.ref lp), some v5, y6, y7, y8, y9, y10, y11, y12, y13, y14, none]) ∧ Same H6 H7,
      rfl, l1, Same.refl _, ⟨⟨_, _, rfl⟩, Same.refl _⟩, fun j σ H7 p => p.2, fun j x T σ H7 hx p nT => ?_, fun σ H7 p => ?_⟩)
    · obtain ⟨⟨y6, y7, rfl⟩, s7⟩ := p
      have hj : j < (partsM old wish).length := by
        have := (List.getElem?_eq_some_iff.mp hx).1
        rw [l2.length, List.length_map] at this
        exact this
      have hpj := List.getElem?_eq_getElem hj
      have dx := l2.at hpj hx
      generalize (partsM old wish)[j] = part at hpj dx
      have sT : Same H7 (upd H7 T (.tup [.int (j : Nat), x])) := same_new nT
      refine ⟨_, _, rfl, SqT.of upd_same, rfl, _, _, rfl, _, _, rfl, rfl, ?_⟩
      generalize upd H7 T (.tup [.int (j : Nat), x]) = H8 at sT ⊢
      have s68 := s7.trans sT
      refine ws_ifD (G := H8) (b := false) (dt_not (k := true) (dt_val (de_callG c10 hgd hr (da_cons (de_var 3 (dt6.mono s68)) (da_cons (de_var 7 (dx.mono s68)) (da_cons (de_var 6 (.int (j : Nat))) da_nil))) ⟨needs, old, wish, nxt, cls, part, j, rfl, pl, by omega, by omega, hpj, rfl⟩))) (Same.refl H8) (fun hb => nomatch hb) fun _ H9 s9 => ws_nil (ws_nil ⟨⟨_, _, rfl⟩, s68.trans s9⟩)
    · obtain ⟨⟨y6, y7, rfl⟩, s7⟩ := p
      have b7 := b6.mono s7
      have dt7 := dt6.mono s7
      have dp7 := dp6.mono s7
      have s7' := s6'.trans (off_mono s7)
      clear b6 dt6 dp6 s6' l1 l2 s7
      refine ws_unpW 8 9 scLaw.nd (we_bagW c3 (hr.mono (by decide)) (fun H Q q => we_var 1 rfl q) (we_bag (G := H7) c1 (hr.mono (by decide)) (fun H Q q => we_var 1 rfl q) (da_cons ((de_lst (da_cons de_int (da_cons de_int da_nil)) (by simp)).is (d' := lN [4, 8]) rfl) da_nil) (Same.refl H7) b7 ⟨[4, 8], rfl, by simp, by simp, rfl⟩ fun v8 H8 d8 b8 o8 k8 r8 => ⟨b8, ?_⟩))
      obtain ⟨size2, hsz2, rfl⟩ := r8
      have hsz8 : size2 ≤ 8 := by
        simp only [List.mem_cons, List.not_mem_nil, or_false] at hsz2
        omega
      refine ⟨[nI size2], _, DqAll.one k8, ⟨size2, rfl, by omega, rfl⟩, fun v9 H9 d9 b9 o9 k9 r9 => ?_⟩
      obtain ⟨needs2, old2, wish2, nxt2, cls2, more, rfl, pl2, hnl2, hol2, hpts2⟩ := r9
      refine ⟨_, _, k9, fun u8 u9 dt2 dm => ?_⟩
      have dt9 := (dt7.thru b7 o8 (lowL_of (noL_tTk _ _ _))).thru b8 o9 (lowL_of (noL_tTk _ _ _))
      have dp9 := (dp7.thru b7 o8 (lowL_lT _)).thru b8 o9 (lowL_lT _)
      have s9' : Same H (off H9 b) := s7'.trans (o8.trans o9)
      have hlen2 := pl2.len
      have hmore : more = partsM old2 wish2 := hpts2.uniq pl2.parts
      subst hmore
      have hpl2 := parts_length old2 wish2
      clear k9 k8 o8 o9 b8 b7 dt7 dp7 s7' hsz2
      have plb := pln_beside pl pl2
      have evb := plb.ev (by rw [List.length_append]; omega) (by unfold mvO; rw [List.length_append, List.length_map]; omega)
      have hpb := pts_beside pl hpts hpts2
      have hpbe := plb.parts.uniq hpb
      refine ws_de 10 scLaw.nd (G := H9) (d := tTk (needs ++ needs2) (old ++ mvO needs.length old2) (wish ++ mvO needs.length wish2)) (de_call c11 (hr.mono (by decide)) (da_cons (de_var 3 dt9) (da_cons (de_var 8 dt2) da_nil)) ⟨needs, needs2, old, wish, old2, wish2, rfl, by omega, by omega, by omega, by omega, by omega, by omega, rfl⟩) (Same.refl H9) fun v10 H10 s10 d10 => ?_
      have hml : ∀ g ∈ partsM old2 wish2, g.length ≤ 8 := fun g hg => by
        have := (parts_mem hg).1
        omega
      refine ws_lcD 11 scLaw.nd (G := H10) (d := lT ((partsM old2 wish2).map fun g => g.map (· + old.length))) (dl_1 (fun g : List Nat => tN (g.map (· + old.length))) [("_law_part", 7)] (src_L (j := 7) tN (de_var 9 (dm.mono s10))) (blkOk_by (N := nLaw) (sc := defScope sLaw) (by decide +kernel)) (fun Y hY => by obtain ⟨_, _, _, _, _, rfl⟩ := hY; exact pg_name (i := 7) scLaw.nd rfl (by first | exact .inl rfl | exact .inr rfl))
        (fun a ha Y hY Ha v g e1 => ?el) (fun _ => rfl) (by omega)) (by unfold lT; rw [List.map_map]; rfl) (Same.refl H10) fun v11 H11 s11 d11 => ?_
      case el =>
        obtain ⟨_, _, _, _, _, rfl⟩ := hY
        refine de_tupL B (de_lc ((dl_1 (fun p : Nat => nI (p + old.length)) [("_law_place", 15)] (src_T (j := 15) nI (de_var 7 e1)) (by show BlkOk nLaw (relS _ (defScope sLaw)) _ _; exact blkOk_by (by decide +kernel)) (fun Y hY => by obtain ⟨_, _, _, _, _, rfl⟩ := hY; exact pg_name (i := 15) scLaw.nd rfl (by first | exact .inl rfl | exact .inr rfl))
          (fun o ho Y hY Hb v2 g2 e2 => ?el2) (fun _ => rfl) (by have := hml a ha; omega)).is ?fin) scLaw.nd)
        case el2 =>
          obtain ⟨_, _, _, _, _, rfl⟩ := hY
          exact (de_add (i := (o : Int)) (j := (old.length : Int)) (de_var 15 e2) ((de_len B (de_ixT (d := tO old) (de_var 3 (dt9.mono (s10.trans (g.trans g2)))) de_int rfl) (.inr rfl)).is (by rw [List.length_map]))).is rfl
        case fin => rw [List.map_map]; rfl
      have s911 := s10.trans s11
      have b11 := b9.mono s911
      have dt11 := dt9.mono s911
      have dp11 := dp9.mono s911
      have dm11 := dm.mono s911
      have d10' := d10.mono s11
      have s11' := s9'.trans (off_mono s911)
      clear b9 dt9 dp9 dm d10 s9' s10 s11 s911
      have hbl : (wish ++ mvO needs.length wish2).length ≤ 30 := by unfold mvO; rw [List.length_append, List.length_map]; omega
      have okb := partsOk (needs := needs) (old := old ++ mvO needs.length old2) (wish := wish ++ mvO needs.length wish2) (by omega)
      have hlb : (partsM (old ++ mvO needs.length old2) (wish ++ mvO needs.length wish2)).length = (partsM old wish).length + (partsM old2 wish2).length := by
        rw [hpbe, (llsort_perm _).length_eq, List.length_append, List.length_map]
      refine ws_ifD (G := H11) (b := false) (dt_not (k := true) (dt_val (de_callG c8 hgd (hr.mono (by decide)) (da_cons (de_lst (da_cons (de_call c4 (hr.mono (by decide)) (da_cons (de_var 10 d10') da_nil) ⟨_, _, _, rfl, evb, rfl⟩) (da_cons (de_ixT (d := nI (partsM (old ++ mvO needs.length old2) (wish ++ mvO needs.length wish2)).length) (de_call c12 (hr.mono (by decide)) (da_cons (de_var 10 d10') da_nil) ⟨_, _, _, rfl, evb, rfl⟩) de_int rfl) da_nil)) (by simp))
        (da_cons (de_lst (da_cons ((de_sortTN B hr (xs := partsM old wish ++ (partsM old2 wish2).map fun g => g.map (· + old.length)) ((de_catL (de_var 4 dp11) (de_var 11 d11) (by rw [List.length_map, List.length_map, List.length_map]; omega)).is (by unfold lT; rw [List.map_append])) ?ne).is (by rw [hpbe])) (da_cons ((de_add (i := ((partsM old wish).length : Int)) (j := ((partsM old2 wish2).length : Int)) ((de_len B (de_var 4 dp11) (.inl rfl)).is (by rw [List.length_map])) ((de_len B (de_var 9 dm11) (.inl rfl)).is (by rw [List.length_map]))).is (by rw [hlb]; rfl)) da_nil)) (by simp)) da_nil)) ⟨_, rfl, ?ok2, rfl⟩))) (Same.refl H11) (fun hb => nomatch hb) fun _ H12 s12 => ws_nil ?_
      case ne =>
        intro g hg
        rcases List.mem_append.mp hg with h | h
        · exact (parts_mem h).2.1
        · obtain ⟨g', hg', rfl⟩ := List.mem_map.mp h
          exact fun e => (parts_mem hg').2.1 (List.map_eq_nil_iff.mp e)
      case ok2 =>
        refine .inr ⟨_, .inl rfl, by simp, fun x hx => ?_⟩
        simp only [List.mem_cons, List.not_mem_nil, or_false] at hx
        rcases hx with rfl | rfl
        · exact okb
        · exact okN (by omega)
      have b12 := b11.mono s12
      have dt12 := dt11.mono s12
      have dp12 := dp11.mono s12
      have s12' := s11'.trans (off_mono s12)
      clear b11 dt11 dp11 dm11 d10' d11 s11' s12
      -- renamed
      refine ws_set 12 scLaw.nd (we_tupW B (we_bag (G := H12) c2 (hr.mono (by decide)) (fun H Q q => we_var 1 rfl q) (da_cons (de_listR B ((de_len B (de_ixT (d := tO old) (de_var 3 dt12) de_int rfl) (.inr rfl)).is (by rw [List.length_map])) (by omega)) da_nil) (Same.refl H12) b12 ⟨List.range old.length, rfl, by rw [List.length_range]; omega, rfl⟩ fun v13 H13 d b13 o13 k13 r13 => ?_))
      obtain ⟨places, hpp, rfl⟩ := r13
      refine ⟨_, k13, fun v14 H14 s14 d14 => ?_⟩
      have dt14 := (dt12.thru b12 o13 (lowL_of (noL_tTk _ _ _))).mono s14
      have dp14 := (dp12.thru b12 o13 (lowL_lT _)).mono s14
      have b14 := b13.mono s14
      have s14' : Same H (off H14 b) := (s12'.trans o13).trans (off_mono s14)
      have d14 : Dq H14 v14 (tN places) := d14
      clear b12 b13 dt12 dp12 s12' o13 k13 s14
      obtain ⟨hpl3, hpn3, hpm3⟩ := range_perm hpp
      refine ws_set 13 scLaw.nd (we_call c13 (hr.mono (by decide)) (wa_three (we_var 3 rfl (we_tupW B (we_bag (G := H14) c2 (hr.mono (by decide)) (fun H Q q => we_var 1 rfl q) (da_cons (de_listR B ((de_len B (de_ixT (d := tN needs) (de_var 3 dt14) de_int rfl) (.inr rfl)).is (by rw [List.length_map])) (by omega)) da_nil) (Same.refl H14) b14 ⟨List.range needs.length, rfl, by rw [List.length_range]; omega, rfl⟩ fun v15 H15 d b15 o15 k15 r15 => ?_)))))
      obtain ⟨values, hvp, rfl⟩ := r15
      refine ⟨_, k15, fun v16 H16 s16 d16 => we_var 12 rfl ?_⟩
      have dt16 := (dt14.thru b14 o15 (lowL_of (noL_tTk _ _ _))).mono s16
      have dp16 := (dp14.thru b14 o15 (lowL_lT _)).mono s16
      have dl16 := (d14.thru b14 o15 (lowL_of (noL_tN _))).mono s16
      have b16 := b15.mono s16
      have s16' : Same H (off H16 b) := (s14'.trans o15).trans (off_mono s16)
      have d16 : Dq H16 v16 (tN values) := d16
      clear b14 b15 dt14 dp14 d14 s14' o15 k15 s16
      obtain ⟨hvl, hvn, hvm⟩ := range_perm hvp
      have plr := pln_renamed pl hvp hpp
      have evr := plr.ev (by rw [List.length_map]; omega) (by rw [List.length_map]; omega)
      have hpr := pts_renamed pl hvp hpp hpts
      have hpre := plr.parts.uniq hpr
      refine ⟨[tTk needs old wish, tN values, tN places], _, .cons dt16 (.cons d16 (.cons dl16 .nil)), ⟨needs, old, wish, values, places, rfl, by omega, by omega, fun v hv => (hvm v).mp hv, fun p hp => by have := (hpm3 p).mp hp; omega, fun p v h => (hvm v).mpr (pl.vo p v h), fun p v h => (hvm v).mpr (ev.vw p v h), rfl⟩, fun v17 H17 d17 s17 k17 r17 => ?_⟩
      cases r17
      have dt17 := dt16.mono s17
      have dp17 := dp16.mono s17
      have dl17 := dl16.mono s17
      have b17 := b16.mono s17
      have s17' := s16'.trans (off_mono s17)
      clear dt16 dp16 dl16 b16 s16' s17 d16
      have hgl : ∀ g ∈ partsM old wish, g.length ≤ 15 ∧ ∀ p ∈ g, p ∈ places := fun g hg => by
        obtain ⟨h1, _, h3⟩ := parts_mem hg
        exact ⟨by omega, fun p hp => (hpm3 p).mpr (by rw [hlen]; exact (mem_wrongs.mp (h3 p hp)).1)⟩
      refine ws_de 14 scLaw.nd (G := H17) (d := lT (llsort ((partsM old wish).map fun g => nsort (g.map places.idxOf)))) (de_sortTN B hr (xs := (partsM old wish).map fun g => nsort (g.map places.idxOf)) (de_lc ((dl_1 (fun g : List Nat => tN (nsort (g.map places.idxOf))) [("_law_part", 7)] (src_L (j := 7) tN (de_var 4 dp17)) (blkOk_by (N := nLaw) (sc := defScope sLaw) (by decide +kernel)) (fun Y hY => by obtain ⟨_, _, _, _, _, rfl⟩ := hY; exact pg_name (i := 7) scLaw.nd rfl (by first | exact .inl rfl | exact .inr rfl))
        (fun a ha Y hY Ha v g e1 => ?el3) (fun _ => rfl) (by omega)).is ?fin3) scLaw.nd) ?ne3) (Same.refl H17) fun v18 H18 s18 d18 => ?_
      case fin3 => rw [List.map_map]; rfl
      case ne3 =>
        intro g hg
        obtain ⟨g', hg', rfl⟩ := List.mem_map.mp hg
        intro e
        have := (nsort_perm (g'.map places.idxOf)).length_eq
        rw [e, List.length_map] at this
        exact (parts_mem hg').2.1 (List.eq_nil_of_length_eq_zero this.symm)
      case el3 =>
        obtain ⟨_, _, _, _, _, rfl⟩ := hY
        obtain ⟨hgl1, hgl2⟩ := hgl a ha
        refine de_tupL B (de_sortN B (de_lc ((dl_1 (fun p : Nat => nI (places.idxOf p)) [("_law_place", 15)] (src_T (j := 15) nI (de_var 7 e1)) (by show BlkOk nLaw (relS _ (defScope sLaw)) _ _; exact blkOk_by (by decide +kernel)) (fun Y hY => by obtain ⟨_, _, _, _, _, rfl⟩ := hY; exact pg_name (i := 15) scLaw.nd rfl (by first | exact .inl rfl | exact .inr rfl))
          (fun o ho Y hY Hb v2 g2 e2 => ?el4) (fun _ => rfl) (by omega)).is ?fin4) scLaw.nd) (by rw [List.length_map]; omega))
        case fin4 => rw [List.map_map]; rfl
        case el4 =>
          obtain ⟨_, _, _, _, _, rfl⟩ := hY
          have hx := hgl2 o ho
          have hlt : places.idxOf o < places.length := List.idxOf_lt_length_of_mem hx
          refine (de_index (d := nI o) (ds := places.map nI) (j := places.idxOf o) (z := nI o) (de_var 12 (dl17.mono (g.trans g2))) (de_var 15 e2) rfl (flatN places) ?_ ((eqV_nI o o).trans (by simp)) fun m y hm hy => ?_).is rfl
          · rw [List.getElem?_map, List.getElem?_eq_getElem hlt, List.getElem_idxOf]; rfl
          · rw [List.getElem?_map] at hy
            obtain ⟨z, hz, rfl⟩ := Option.map_eq_some_iff.mp hy
            refine (eqV_nI z o).trans ?_
            rw [beq_eq_false_iff_ne]
            intro e
            subst e
            obtain ⟨h3, h4⟩ := List.getElem?_eq_some_iff.mp hz
            have h5 := List.not_of_lt_findIdx (p := (· == z)) (xs := places) hm
            have h6 : (places[m] == z) = false := h5
            rw [h4, beq_self_eq_true] at h6
            cases h6
      have hrl : (places.map fun p => (gt wish p).map values.idxOf).length ≤ 15 := by rw [List.length_map]; omega
      have okr := partsOk (needs := needs) (old := places.map fun p => (gt old p).map values.idxOf) (wish := places.map fun p => (gt wish p).map values.idxOf) (by omega)
      refine ws_ifD (G := H18) (b := false) (dt_not (k := true) (dt_val (de_callG c8 hgd (hr.mono (by decide)) (ds := [lT (llsort ((partsM old wish).map fun g => nsort (g.map places.idxOf))), lT (llsort ((partsM old wish).map fun g => nsort (g.map places.idxOf)))]) (da_cons ((de_call c4 (hr.mono (by decide)) (da_cons (de_var 13 (k17.mono s18)) da_nil) ⟨_, _, _, rfl, evr, rfl⟩).is (by rw [hpre])) (da_cons (de_var 14 d18) da_nil)) ⟨_, rfl, ?ok3, rfl⟩))) (Same.refl H18) (fun hb => nomatch hb) fun _ H19 s19 => ws_nil (ws_nil ⟨⟨_, _, _, _, _, _, _, _, _, _, _, _, _, rfl⟩, b17.mono (s18.trans s19), s17'.trans (off_mono (s18.trans s19))⟩)
      case ok3 =>
        rw [hpre] at okr
        exact okr.mono (by decide)
end
end DL

namespace DL
open PySem PySem.Spec PyProof.Rows L2
section
variable {P : Program} {w : World} {K : PySem.W.Frag} {mg : Str → Option Value} {base : Heap} {f : Addr} {fd : FuncData}
structure Fct (K : PySem.W.Frag) (x : Str) (st : Stmt) : Prop where
  ex : ∃ (f : Addr) (oc : Value) (od an : Option Addr) (osl : Array (Option Value)) (kV doc pm cdv ct : Value), PySem.W.nsIn K mainGlobals x = some (some (.ref f)) ∧
    K.lookup f = some ⟨oc, od, .func (PySem.W.fnOf x x (defArgs st) (defBody st) (defScope st) .none kV doc pm an cdv ct), osl⟩ ∧ PySem.W.codeIn K cdv x = true ∧ PySem.W.keepIn K (.ref f) = true
theorem fct {K : PySem.W.Frag} {x : Str} {st : Stmt} {f : Addr} {oc : Value} {od an : Option Addr} {osl : Array (Option Value)} {kV doc pm cdv ct : Value} (a : PySem.W.nsIn K mainGlobals x = some (some (.ref f)))
    (l : K.lookup f = some ⟨oc, od, .func (PySem.W.fnOf x x (defArgs st) (defBody st) (defScope st) .none kV doc pm an cdv ct), osl⟩) (c : PySem.W.codeIn K cdv x = true) (k : PySem.W.keepIn K (.ref f) = true) : Fct K x st := ⟨f, oc, od, an, osl, kV, doc, pm, cdv, ct, a, l, c, k⟩
theorem Fct.go {K : PySem.W.Frag} {mg : Str → Option Value} {h : Heap} {x : Str} {st : Stmt} (t : Fct K x st) (X : K.In h) (G : h.Ns mainGlobals mg) : ∃ f fd, Fun K x x st f fd ∧ mg x = some (.ref f) ∧ PySem.W.keepIn K (.ref f) = true := by
  obtain ⟨f, oc, od, an, osl, kV, doc, pm, cdv, ct, a, l, c, k⟩ := t.ex
  exact ⟨f, _, fun_mk l c k, PySem.W.mg_of X G a, k⟩
/-! ### the law's own head: the law is called where no repr is under way -/
theorem lawG {P : Program} {w : World} {K : PySem.W.Frag} {gm bm : Str → Option Value} {k : Nat} {fl scr : Addr} {fd : FuncData} {x : Str} {sp : Sp} {t : Shared} {us : List Value} {zs : List Int}
    (KI : K.In t.heap) (gn : t.heap.Ns mainGlobals gm) (bn : t.heap.Ns builtinsNs bm) (bb : ∀ x : Str, x ≠ "__name__" → bm x = bootBuiltins x) (nl : t.heap.NoLimit) (ng : t.gens = #[])
    (sc : t.heap.get? scr = some { cls := .type "list", data := .seq us.toArray }) (iz : IntsAre us zs) (zl : zs.length ≤ sizeLine) (rm : Room k callerA)
    (FG : ∀ hb : Heap, K.In hb → hb.Ns mainGlobals gm → FnG P w K gm hb k fl fd [x] sp) (bd : ∀ (s : Shared) (u : Value), BindsTo s fd ⟨[u], []⟩ [(x, u)])
    (ps : ∀ H : Hp, Only H → SqL K H scr (zs.map V.int) → sp [.ref scr] H (fun v _ => v = .bl true) fun _ _ _ => False) :
    codeAny (model P w) callerA (.call (.ref fl) ⟨[.ref scr], []⟩) (fun r s' => r = .ok (.ret (.bool true)) ∧ OldK t.heap s'.heap ∧ s'.os = t.os ∧ AllBare s'.gens) t := by
  have vz := vals_ints iz
  have nz := iz.length
  have main : ∀ H : Hp, Only H → SqL K H scr (zs.map V.int) → HOk P w H t.heap → (∀ b, H b ≠ none → b = scr) → (H scr ≠ none → K.lookup scr = none) →
      codeAny (model P w) callerA (.call (.ref fl) ⟨[.ref scr], []⟩) (fun r s' => r = .ok (.ret (.bool true)) ∧ OldK t.heap s'.heap ∧ s'.os = t.os ∧ AllBare s'.gens) t := by
    intro H on sq ok one own
    have left : ∀ {b : Addr} {o : Obj}, t.heap.get? b = some o → H b = none → (hidT t.heap H).get? b = some o := fun e n => hidT_get e n
    have dict0 : ∀ {b : Addr} {o : Obj} {es : Array DictEntry} {ep : Nat}, t.heap.get? b = some o → o.data = .dict es ep → H b = none := fun {b o es ep} e d => by
      cases q : H b with
      | none => rfl
      | some u =>
        obtain rfl : b = scr := one b (by rw [q]; simp)
        rw [sc] at e
        cases e
        exact absurd (show Data.seq us.toArray _ = Data.dict es ep from d) (by intro z; cases z)
    have names : ∀ {b : Addr} {m : Str → Option Value}, t.heap.Ns b m → (hidT t.heap H).Ns b m := fun {b m} ⟨o, es, ep, e, d, r⟩ => ⟨o, es, ep, left e (dict0 e d), d, r⟩
    have KH : K.In (hidT t.heap H) := fun b o e => left (KI b o e) (by
      cases q : H b with
      | none => rfl
      | some u =>
        obtain rfl : b = scr := one b (by rw [q]; simp)
        rw [own (by rw [q]; simp)] at e
        cases e)
    have md : Mod K gm (hidT t.heap H) := ⟨KH, names gn, ⟨bm, names bn, bb⟩, let ⟨mc, h1, h2⟩ := nl; ⟨mc, names h1, h2⟩⟩
    have ev : Env0 P w K gm (hidT t.heap H) callerA [] t H := ⟨rfl, md, fun b o e => of_hidT e, Nat.le_of_eq (hidT_size _ _), trivial, (fun b hb => by cases hb), ok, .of_eq ng⟩
    refine codeAny_mono ((FG _ KH (names gn)).run callerA [] t H ⟨[.ref scr], []⟩ [.ref scr] [.ref scr] _ _ rfl rm ev (bd t (.ref scr)) (.cons rfl .nil) (ps H on sq)) fun r s' h => ?_
    cases r with
    | error e => exact False.elim h
    | ok fl =>
      cases fl with
      | next => exact h.elim
      | brk => exact h.elim
      | cont => exact h.elim
      | ret u =>
        obtain ⟨v, H', os, bare, un, ok', rel, q⟩ := h
        obtain rfl : v = .bl true := q
        obtain rfl : u = Value.bool true := rel
        refine ⟨rfl, OldK.of_keep fun b o e => ?_, os, bare⟩
        cases q : H b with
        | none => exact un.keep b o e q (fun z => by cases z) (by simp)
        | some u =>
          rcases on b with z | ⟨ob, xs, z⟩
          · rw [q] at z
            cases z
          · obtain ⟨e1, _⟩ := ok b _ z
            obtain ⟨e2, _⟩ := ok' b _ (un.frzs b ob _ z)
            rw [e] at e1
            cases e1
            exact e2
  cases hk : K.lookup scr with
  | some o =>
    have e := KI scr o hk
    rw [sc] at e
    cases e
    exact main (fun _ => none) (fun _ => .inl rfl) (.inr ⟨_, us.toArray, _, hk, rfl, rfl, rfl, by rw [List.size_toArray, nz]; exact zl, by simpa using vz⟩) (fun b u z => nomatch z) (fun b z => absurd rfl z) fun z => absurd rfl z
  | none =>
    have H1 : ∀ b, b ≠ scr → (fun b => if b = scr then some (HO.frz { cls := .type "list", data := .seq us.toArray } (.lst (zs.map V.int))) else none) b = none := fun b h => if_neg h
    refine main (fun b => if b = scr then some (.frz { cls := .type "list", data := .seq us.toArray } (.lst (zs.map V.int))) else none) (fun b => ?_) (.inl (.inr ⟨{ cls := .type "list", data := .seq us.toArray }, if_pos rfl⟩)) (fun b u z => ?_) (fun b z => Classical.byContradiction fun n => z (H1 b n)) fun _ => hk
    · by_cases hb : b = scr
      · exact .inr ⟨_, _, if_pos hb⟩
      · exact .inl (H1 b hb)
    · by_cases hb : b = scr
      · have z' := (if_pos hb).symm.trans z
        cases z'
        subst hb
        exact ⟨sc, by rw [List.length_map]; exact zl, us, _, vz, sc⟩
      · have z' := (H1 b hb).symm.trans z
        cases z'
theorem walkG {l : PySem.W.OpenLaw} {n k : Nat} {q : Program} {loose : List Str} {XP : (Str → Option Value) → Heap → Prop} {YP : World → Heap → Prop} {d : DefRec} {K : Params → PySem.W.Frag} {sp : PySem.W.Frag → Sp} {x : Str}
    (mo : l.most = some n) (ns : n ≤ sizeLine) (nd : d.params.defaults = []) (rm : Room k callerA) (hK : ∀ (w : World) (h : Heap), YP w h → (K w.params).In h)
    (FF : ∀ (w : World) (gm : Str → Option Value) (fl : Addr) (h : Heap), (K w.params).In h → h.Ns mainGlobals gm → gm d.name = some (.ref fl) →
      ∃ fd : FuncData, (∀ (s : Shared) (u : Value), BindsTo s fd ⟨[u], []⟩ [(x, u)]) ∧ ∀ hb : Heap, (K w.params).In hb → hb.Ns mainGlobals gm → FnG l.prog w (K w.params) gm hb k fl fd [x] (sp (K w.params)))
    (ps : ∀ (K : PySem.W.Frag) (H : Hp) (a : Addr) (zs : List Int), zs.length ≤ n → Only H → SqL K H a (zs.map V.int) → sp K [.ref a] H (fun v _ => v = .bl true) fun _ _ _ => False) :
    PySem.W.WalkO q loose XP YP l.row.toRowW d [] (fun f vs => PySem.call f vs) :=
  Att.attach_call mo nd fun w s0 t gm bm fl o pm cd doc a us zs gr yp ho hd hcd hgm sc iz zl ng => by
    obtain ⟨fd, bd, FG⟩ := FF w gm fl _ (hK w _ yp) gr.T.g hgm
    exact lawG (hK w _ yp) gr.T.g gr.T.b gr.T.builtins gr.T.nolimit ng sc iz (Nat.le_trans zl ns) rm FG bd fun H on sq => ps _ H a zs zl on sq
theorem all_mk {l : PySem.W.OpenLaw} {w : World} {K : PySem.W.Frag} {h : Heap} {mg : Str → Option Value} {fa : Addr} (X : K.In h) (G : h.Ns mainGlobals mg) (hfa : mg "law" = some (.ref fa))
    (t_rooms : Fct K "rooms" sRooms)
    (t_wrong_places : Fct K "wrong_places" sWrongPlaces)
    (t_free_places : Fct K "free_places" sFreePlaces)
    (t_open_places : Fct K "open_places" sOpenPlaces)
    (t_can_be_done : Fct K "can_be_done" sCanBeDone)
    (t_led : Fct K "led" sLed)
    (t_led_by : Fct K "led_by" sLedBy)
    (t_does : Fct K "does" sDoes)
    (t_arrow_of : Fct K "arrow_of" sArrowOf)
    (t_arrows_of : Fct K "arrows_of" sArrowsOf)
    (t_hang_together : Fct K "hang_together" sHangTogether)
    (t_parts_of : Fct K "parts_of" sPartsOf)
    (t_values_in : Fct K "values_in" sValuesIn)
    (t_is_closed : Fct K "is_closed" sIsClosed)
    (t_closed_parts : Fct K "closed_parts" sClosedParts)
    (t_counts_of : Fct K "counts_of" sCountsOf)
    (t_is_even : Fct K "is_even" sIsEven)
    (t_spare_many : Fct K "spare_many" sSpareMany)
    (t_can_go_on : Fct K "can_go_on" sCanGoOn)
    (t_rounds_of : Fct K "rounds_of" sRoundsOf)
    (t_moved_items : Fct K "moved_items" sMovedItems)
    (t_beside : Fct K "beside" sBeside)
    (t_with_spare : Fct K "with_spare" sWithSpare)
    (t_without_part : Fct K "without_part" sWithoutPart)
    (t_renamed : Fct K "renamed" sRenamed)
    (t__law_bag : Fct K "_law_bag" sLawBag)
    (t__law_take : Fct K "_law_take" sLawTake)
    (t__law_some : Fct K "_law_some" sLawSome)
    (t__law_mixed : Fct K "_law_mixed" sLawMixed)
    (t__law_alike : Fct K "_law_alike" sLawAlike)
    (t__law_standings : Fct K "_law_standings" sLawStandings)
    (t__law_rooms : Fct K "_law_rooms" sLawRooms)
    (t__law_wrong : Fct K "_law_wrong" sLawWrong)
    (t__law_can_be_done : Fct K "_law_can_be_done" sLawCanBeDone)
    (t__law_led : Fct K "_law_led" sLawLed)
    (t__law_is_safe : Fct K "_law_is_safe" sLawIsSafe)
    (t__law_is_wanted : Fct K "_law_is_wanted" sLawIsWanted)
    (t__law_is_safe_plan : Fct K "_law_is_safe_plan" sLawIsSafePlan)
    (t__law_parted_task : Fct K "_law_parted_task" sLawPartedTask)
    (t__law_free : Fct K "_law_free" sLawFree)
    (t__law_planted : Fct K "_law_planted" sLawPlanted)
    (t__law_is_round_right : Fct K "_law_is_round_right" sLawIsRoundRight)
    (t_law : Fct K "law" sLaw)
    (z_range : PySem.W.nsIn K mainGlobals "range" = some none) (z_len : PySem.W.nsIn K mainGlobals "len" = some none) (z_tuple : PySem.W.nsIn K mainGlobals "tuple" = some none) (z_list : PySem.W.nsIn K mainGlobals "list" = some none) (z_zip : PySem.W.nsIn K mainGlobals "zip" = some none) (z_enumerate : PySem.W.nsIn K mainGlobals "enumerate" = some none) (z_all : PySem.W.nsIn K mainGlobals "all" = some none) (z_any : PySem.W.nsIn K mainGlobals "any" = some none) (z_sorted : PySem.W.nsIn K mainGlobals "sorted" = some none) (z_int : PySem.W.nsIn K mainGlobals "int" = some none) (z_abs : PySem.W.nsIn K mainGlobals "abs" = some none) (z_min : PySem.W.nsIn K mainGlobals "min" = some none) (z_repr : PySem.W.nsIn K mainGlobals "repr" = some none) :
    ∃ fd : FuncData, (∀ (s : Shared) (v : Value), BindsTo s fd ⟨[v], []⟩ [("_law_script", v)]) ∧ ∀ base : Heap, K.In base → base.Ns mainGlobals mg → FnG l.prog w K mg base 7 fa fd ["_law_script"] (spLaw K) := by
  have B : Blt mg := ⟨PySem.W.mg_none_of X G z_range, PySem.W.mg_none_of X G z_len, PySem.W.mg_none_of X G z_tuple, PySem.W.mg_none_of X G z_list, PySem.W.mg_none_of X G z_zip, PySem.W.mg_none_of X G z_enumerate, PySem.W.mg_none_of X G z_all, PySem.W.mg_none_of X G z_any, PySem.W.mg_none_of X G z_sorted, PySem.W.mg_none_of X G z_int, PySem.W.mg_none_of X G z_abs, PySem.W.mg_none_of X G z_min, PySem.W.mg_none_of X G z_repr⟩
  obtain ⟨f0, oc, od, an, osl, kV, doc, pm, cdv, ct, a0, l0, c0, k0⟩ := t_law.ex
  cases hfa.symm.trans (PySem.W.mg_of X G a0)
  obtain ⟨f_rooms, g_rooms, F_rooms, m_rooms, k_rooms⟩ := t_rooms.go X G
  have b_rooms : Binds K g_rooms ["needs", "layout"] [] := F_rooms.binds fun _ _ _ _ _ _ us hl => match us, hl with | [_, _], _ => rfl
  obtain ⟨f_wrong_places, g_wrong_places, F_wrong_places, m_wrong_places, k_wrong_places⟩ := t_wrong_places.go X G
  have b_wrong_places : Binds K g_wrong_places ["task"] [] := F_wrong_places.binds fun _ _ _ _ _ _ us hl => match us, hl with | [_], _ => rfl
  obtain ⟨f_free_places, g_free_places, F_free_places, m_free_places, k_free_places⟩ := t_free_places.go X G
  have b_free_places : Binds K g_free_places ["task"] [] := F_free_places.binds fun _ _ _ _ _ _ us hl => match us, hl with | [_], _ => rfl
  obtain ⟨f_open_places, g_open_places, F_open_places, m_open_places, k_open_places⟩ := t_open_places.go X G
  have b_open_places : Binds K g_open_places ["task"] [] := F_open_places.binds fun _ _ _ _ _ _ us hl => match us, hl with | [_], _ => rfl
  obtain ⟨f_can_be_done, g_can_be_done, F_can_be_done, m_can_be_done, k_can_be_done⟩ := t_can_be_done.go X G
  have b_can_be_done : Binds K g_can_be_done ["layout", "stretch"] [] := F_can_be_done.binds fun _ _ _ _ _ _ us hl => match us, hl with | [_, _], _ => rfl
  obtain ⟨f_led, g_led, F_led, m_led, k_led⟩ := t_led.go X G
  have b_led : Binds K g_led ["layout", "stretch"] [] := F_led.binds fun _ _ _ _ _ _ us hl => match us, hl with | [_, _], _ => rfl
  obtain ⟨f_led_by, g_led_by, F_led_by, m_led_by, k_led_by⟩ := t_led_by.go X G
  have b_led_by : Binds K g_led_by ["layout", "plan"] [] := F_led_by.binds fun _ _ _ _ _ _ us hl => match us, hl with | [_, _], _ => rfl
  obtain ⟨f_does, g_does, F_does, m_does, k_does⟩ := t_does.go X G
  have b_does : Binds K g_does ["task", "plan"] [] := F_does.binds fun _ _ _ _ _ _ us hl => match us, hl with | [_, _], _ => rfl
  obtain ⟨f_arrow_of, g_arrow_of, F_arrow_of, m_arrow_of, k_arrow_of⟩ := t_arrow_of.go X G
  have b_arrow_of : Binds K g_arrow_of ["task", "place"] [] := F_arrow_of.binds fun _ _ _ _ _ _ us hl => match us, hl with | [_, _], _ => rfl
  obtain ⟨f_arrows_of, g_arrows_of, F_arrows_of, m_arrows_of, k_arrows_of⟩ := t_arrows_of.go X G
  have b_arrows_of : Binds K g_arrows_of ["task"] [] := F_arrows_of.binds fun _ _ _ _ _ _ us hl => match us, hl with | [_], _ => rfl
  obtain ⟨f_hang_together, g_hang_together, F_hang_together, m_hang_together, k_hang_together⟩ := t_hang_together.go X G
  have b_hang_together : Binds K g_hang_together ["one", "other"] [] := F_hang_together.binds fun _ _ _ _ _ _ us hl => match us, hl with | [_, _], _ => rfl
  obtain ⟨f_parts_of, g_parts_of, F_parts_of, m_parts_of, k_parts_of⟩ := t_parts_of.go X G
  have b_parts_of : Binds K g_parts_of ["task"] [] := F_parts_of.binds fun _ _ _ _ _ _ us hl => match us, hl with | [_], _ => rfl
  obtain ⟨f_values_in, g_values_in, F_values_in, m_values_in, k_values_in⟩ := t_values_in.go X G
  have b_values_in : Binds K g_values_in ["task", "part"] [] := F_values_in.binds fun _ _ _ _ _ _ us hl => match us, hl with | [_, _], _ => rfl
  obtain ⟨f_is_closed, g_is_closed, F_is_closed, m_is_closed, k_is_closed⟩ := t_is_closed.go X G
  have b_is_closed : Binds K g_is_closed ["task", "part"] [] := F_is_closed.binds fun _ _ _ _ _ _ us hl => match us, hl with | [_, _], _ => rfl
  obtain ⟨f_closed_parts, g_closed_parts, F_closed_parts, m_closed_parts, k_closed_parts⟩ := t_closed_parts.go X G
  have b_closed_parts : Binds K g_closed_parts ["task"] [] := F_closed_parts.binds fun _ _ _ _ _ _ us hl => match us, hl with | [_], _ => rfl
  obtain ⟨f_counts_of, g_counts_of, F_counts_of, m_counts_of, k_counts_of⟩ := t_counts_of.go X G
  have b_counts_of : Binds K g_counts_of ["task"] [] := F_counts_of.binds fun _ _ _ _ _ _ us hl => match us, hl with | [_], _ => rfl
  obtain ⟨f_is_even, g_is_even, F_is_even, m_is_even, k_is_even⟩ := t_is_even.go X G
  have b_is_even : Binds K g_is_even ["task"] [] := F_is_even.binds fun _ _ _ _ _ _ us hl => match us, hl with | [_], _ => rfl
  obtain ⟨f_spare_many, g_spare_many, F_spare_many, m_spare_many, k_spare_many⟩ := t_spare_many.go X G
  have b_spare_many : Binds K g_spare_many ["task"] [] := F_spare_many.binds fun _ _ _ _ _ _ us hl => match us, hl with | [_], _ => rfl
  obtain ⟨f_can_go_on, g_can_go_on, F_can_go_on, m_can_go_on, k_can_go_on⟩ := t_can_go_on.go X G
  have b_can_go_on : Binds K g_can_go_on ["arrows", "value", "last"] [] := F_can_go_on.binds fun _ _ _ _ _ _ us hl => match us, hl with | [_, _, _], _ => rfl
  obtain ⟨f_rounds_of, g_rounds_of, F_rounds_of, m_rounds_of, k_rounds_of⟩ := t_rounds_of.go X G
  have b_rounds_of : Binds K g_rounds_of ["task", "part"] [] := F_rounds_of.binds fun _ _ _ _ _ _ us hl => match us, hl with | [_, _], _ => rfl
  obtain ⟨f_moved_items, g_moved_items, F_moved_items, m_moved_items, k_moved_items⟩ := t_moved_items.go X G
  have b_moved_items : Binds K g_moved_items ["layout", "by"] [] := F_moved_items.binds fun _ _ _ _ _ _ us hl => match us, hl with | [_, _], _ => rfl
  obtain ⟨f_beside, g_beside, F_beside, m_beside, k_beside⟩ := t_beside.go X G
  have b_beside : Binds K g_beside ["one", "other"] [] := F_beside.binds fun _ _ _ _ _ _ us hl => match us, hl with | [_, _], _ => rfl
  obtain ⟨f_with_spare, g_with_spare, F_with_spare, m_with_spare, k_with_spare⟩ := t_with_spare.go X G
  have b_with_spare : Binds K g_with_spare ["task", "many"] [] := F_with_spare.binds fun _ _ _ _ _ _ us hl => match us, hl with | [_, _], _ => rfl
  obtain ⟨f_without_part, g_without_part, F_without_part, m_without_part, k_without_part⟩ := t_without_part.go X G
  have b_without_part : Binds K g_without_part ["task", "index"] [] := F_without_part.binds fun _ _ _ _ _ _ us hl => match us, hl with | [_, _], _ => rfl
  obtain ⟨f_renamed, g_renamed, F_renamed, m_renamed, k_renamed⟩ := t_renamed.go X G
  have b_renamed : Binds K g_renamed ["task", "values", "places"] [] := F_renamed.binds fun _ _ _ _ _ _ us hl => match us, hl with | [_, _, _], _ => rfl
  obtain ⟨f__law_bag, g__law_bag, F__law_bag, m__law_bag, k__law_bag⟩ := t__law_bag.go X G
  have b__law_bag : Binds K g__law_bag ["_law_script"] [] := F__law_bag.binds fun _ _ _ _ _ _ us hl => match us, hl with | [_], _ => rfl
  obtain ⟨f__law_take, g__law_take, F__law_take, m__law_take, k__law_take⟩ := t__law_take.go X G
  have b__law_take : Binds K g__law_take ["_law_bag_here", "_law_many"] [] := F__law_take.binds fun _ _ _ _ _ _ us hl => match us, hl with | [_, _], _ => rfl
  obtain ⟨f__law_some, g__law_some, F__law_some, m__law_some, k__law_some⟩ := t__law_some.go X G
  have b__law_some : Binds K g__law_some ["_law_bag_here", "_law_things"] [] := F__law_some.binds fun _ _ _ _ _ _ us hl => match us, hl with | [_, _], _ => rfl
  obtain ⟨f__law_mixed, g__law_mixed, F__law_mixed, m__law_mixed, k__law_mixed⟩ := t__law_mixed.go X G
  have b__law_mixed : Binds K g__law_mixed ["_law_bag_here", "_law_things"] [] := F__law_mixed.binds fun _ _ _ _ _ _ us hl => match us, hl with | [_, _], _ => rfl
  obtain ⟨f__law_alike, g__law_alike, F__law_alike, m__law_alike, k__law_alike⟩ := t__law_alike.go X G
  have b__law_alike : Binds K g__law_alike ["_law_found", "_law_due"] [] := F__law_alike.binds fun _ _ _ _ _ _ us hl => match us, hl with | [_, _], _ => rfl
  obtain ⟨f__law_standings, g__law_standings, F__law_standings, m__law_standings, k__law_standings⟩ := t__law_standings.go X G
  have b__law_standings : Binds K g__law_standings ["_law_needs", "_law_layout"] [] := F__law_standings.binds fun _ _ _ _ _ _ us hl => match us, hl with | [_, _], _ => rfl
  obtain ⟨f__law_rooms, g__law_rooms, F__law_rooms, m__law_rooms, k__law_rooms⟩ := t__law_rooms.go X G
  have b__law_rooms : Binds K g__law_rooms ["_law_needs", "_law_layout"] [] := F__law_rooms.binds fun _ _ _ _ _ _ us hl => match us, hl with | [_, _], _ => rfl
  obtain ⟨f__law_wrong, g__law_wrong, F__law_wrong, m__law_wrong, k__law_wrong⟩ := t__law_wrong.go X G
  have b__law_wrong : Binds K g__law_wrong ["_law_task"] [] := F__law_wrong.binds fun _ _ _ _ _ _ us hl => match us, hl with | [_], _ => rfl
  obtain ⟨f__law_can_be_done, g__law_can_be_done, F__law_can_be_done, m__law_can_be_done, k__law_can_be_done⟩ := t__law_can_be_done.go X G
  have b__law_can_be_done : Binds K g__law_can_be_done ["_law_layout", "_law_stretch"] [] := F__law_can_be_done.binds fun _ _ _ _ _ _ us hl => match us, hl with | [_, _], _ => rfl
  obtain ⟨f__law_led, g__law_led, F__law_led, m__law_led, k__law_led⟩ := t__law_led.go X G
  have b__law_led : Binds K g__law_led ["_law_layout", "_law_stretch"] [] := F__law_led.binds fun _ _ _ _ _ _ us hl => match us, hl with | [_, _], _ => rfl
  obtain ⟨f__law_is_safe, g__law_is_safe, F__law_is_safe, m__law_is_safe, k__law_is_safe⟩ := t__law_is_safe.go X G
  have b__law_is_safe : Binds K g__law_is_safe ["_law_needs", "_law_layout", "_law_stretch"] [] := F__law_is_safe.binds fun _ _ _ _ _ _ us hl => match us, hl with | [_, _, _], _ => rfl
  obtain ⟨f__law_is_wanted, g__law_is_wanted, F__law_is_wanted, m__law_is_wanted, k__law_is_wanted⟩ := t__law_is_wanted.go X G
  have b__law_is_wanted : Binds K g__law_is_wanted ["_law_wish", "_law_layout"] [] := F__law_is_wanted.binds fun _ _ _ _ _ _ us hl => match us, hl with | [_, _], _ => rfl
  obtain ⟨f__law_is_safe_plan, g__law_is_safe_plan, F__law_is_safe_plan, m__law_is_safe_plan, k__law_is_safe_plan⟩ := t__law_is_safe_plan.go X G
  have b__law_is_safe_plan : Binds K g__law_is_safe_plan ["_law_task", "_law_plan"] [] := F__law_is_safe_plan.binds fun _ _ _ _ _ _ us hl => match us, hl with | [_, _], _ => rfl
  obtain ⟨f__law_parted_task, g__law_parted_task, F__law_parted_task, m__law_parted_task, k__law_parted_task⟩ := t__law_parted_task.go X G
  have b__law_parted_task : Binds K g__law_parted_task ["_law_bag_here", "_law_size", "_law_most"] [] := F__law_parted_task.binds fun _ _ _ _ _ _ us hl => match us, hl with | [_, _, _], _ => rfl
  obtain ⟨f__law_free, g__law_free, F__law_free, m__law_free, k__law_free⟩ := t__law_free.go X G
  have b__law_free : Binds K g__law_free ["_law_task"] [] := F__law_free.binds fun _ _ _ _ _ _ us hl => match us, hl with | [_], _ => rfl
  obtain ⟨f__law_planted, g__law_planted, F__law_planted, m__law_planted, k__law_planted⟩ := t__law_planted.go X G
  have b__law_planted : Binds K g__law_planted ["_law_bag_here", "_law_size"] [] := F__law_planted.binds fun _ _ _ _ _ _ us hl => match us, hl with | [_, _], _ => rfl
  obtain ⟨f__law_is_round_right, g__law_is_round_right, F__law_is_round_right, m__law_is_round_right, k__law_is_round_right⟩ := t__law_is_round_right.go X G
  have b__law_is_round_right : Binds K g__law_is_round_right ["_law_task", "_law_part", "_law_index"] [] := F__law_is_round_right.binds fun _ _ _ _ _ _ us hl => match us, hl with | [_, _, _], _ => rfl
  refine ⟨PySem.W.fnOf "law" "law" (defArgs sLaw) (defBody sLaw) (defScope sLaw) .none kV doc pm an cdv ct, fun s v => .of_eq rfl, fun base _ _ => ?_⟩
  have c_rooms : Cal l.prog w K mg base 1 "rooms" (spD preRooms) := fdef (ok_rooms F_rooms B ) m_rooms k_rooms b_rooms
  have c_wrong_places : Cal l.prog w K mg base 1 "wrong_places" (spD preWrong) := fdef (ok_wrong_places F_wrong_places B ) m_wrong_places k_wrong_places b_wrong_places
  have c_free_places : Cal l.prog w K mg base 1 "free_places" (spD preFree) := fdef (ok_free_places F_free_places B ) m_free_places k_free_places b_free_places
  have c_open_places : Cal l.prog w K mg base 1 "open_places" (spD preOpen) := fdef (ok_open_places F_open_places B ) m_open_places k_open_places b_open_places
  have c_can_be_done : Cal l.prog w K mg base 1 "can_be_done" (spD preCan) := fdef (ok_can_be_done F_can_be_done B ) m_can_be_done k_can_be_done b_can_be_done
  have c_led : Cal l.prog w K mg base 1 "led" (spD preLed) := fdef (ok_led F_led B ) m_led k_led b_led
  have c_led_by : Cal l.prog w K mg base 2 "led_by" (spD preLedBy) := fdef (ok_led_by F_led_by B c_can_be_done c_led) m_led_by k_led_by b_led_by
  have c_does : Cal l.prog w K mg base 2 "does" (spD preDoes) := fdef (ok_does F_does B c_can_be_done c_led) m_does k_does b_does
  have c_arrow_of : Cal l.prog w K mg base 1 "arrow_of" (spD preArrowOf) := fdef (ok_arrow_of F_arrow_of B ) m_arrow_of k_arrow_of b_arrow_of
  have c_arrows_of : Cal l.prog w K mg base 2 "arrows_of" (spD preArrows) := fdef (ok_arrows_of F_arrows_of B c_wrong_places c_arrow_of) m_arrows_of k_arrows_of b_arrows_of
  have c_hang_together : Cal l.prog w K mg base 1 "hang_together" (spD preHang) := fdef (ok_hang_together F_hang_together B ) m_hang_together k_hang_together b_hang_together
  have c_parts_of : Cal l.prog w K mg base 3 "parts_of" (spD preParts) := fdef (ok_parts_of F_parts_of B c_arrows_of c_hang_together) m_parts_of k_parts_of b_parts_of
  have c_values_in : Cal l.prog w K mg base 2 "values_in" (spD preValues) := fdef (ok_values_in F_values_in B c_arrow_of) m_values_in k_values_in b_values_in
  have c_is_closed : Cal l.prog w K mg base 3 "is_closed" (spD preClosed) := fdef (ok_is_closed F_is_closed B c_rooms c_values_in) m_is_closed k_is_closed b_is_closed
  have c_closed_parts : Cal l.prog w K mg base 4 "closed_parts" (spD preClosedParts) := fdef (ok_closed_parts F_closed_parts B c_parts_of c_is_closed) m_closed_parts k_closed_parts b_closed_parts
  have c_counts_of : Cal l.prog w K mg base 5 "counts_of" (spD preCounts) := fdef (ok_counts_of F_counts_of B c_wrong_places c_closed_parts) m_counts_of k_counts_of b_counts_of
  have c_is_even : Cal l.prog w K mg base 2 "is_even" (spD preEven) := fdef (ok_is_even F_is_even B c_rooms c_free_places c_open_places) m_is_even k_is_even b_is_even
  have c_spare_many : Cal l.prog w K mg base 3 "spare_many" (spD preSpare) := fdef (ok_spare_many F_spare_many B c_is_even c_open_places) m_spare_many k_spare_many b_spare_many
  have c_can_go_on : Cal l.prog w K mg base 1 "can_go_on" (spD preCanGo) := fdef (ok_can_go_on F_can_go_on B ) m_can_go_on k_can_go_on b_can_go_on
  have c_rounds_of : Cal l.prog w K mg base 2 "rounds_of" (spD preRounds) := fdef (ok_rounds_of F_rounds_of B c_arrow_of c_can_go_on) m_rounds_of k_rounds_of b_rounds_of
  have c_moved_items : Cal l.prog w K mg base 1 "moved_items" (spD preMoved) := fdef (ok_moved_items F_moved_items B ) m_moved_items k_moved_items b_moved_items
  have c_beside : Cal l.prog w K mg base 2 "beside" (spD preBeside) := fdef (ok_beside F_beside B c_moved_items) m_beside k_beside b_beside
  have c_with_spare : Cal l.prog w K mg base 1 "with_spare" (spD preSpare1) := fdef (ok_with_spare F_with_spare B ) m_with_spare k_with_spare b_with_spare
  have c_without_part : Cal l.prog w K mg base 5 "without_part" (spD preWithout) := fdef (ok_without_part F_without_part B c_closed_parts) m_without_part k_without_part b_without_part
  have c_renamed : Cal l.prog w K mg base 1 "renamed" (spD preRenamed) := fdef (ok_renamed F_renamed B ) m_renamed k_renamed b_renamed
  have c__law_bag : Cal l.prog w K mg base 1 "_law_bag" (preBag K) := fdef (ok_bagmake F__law_bag B ) m__law_bag k__law_bag b__law_bag
  have c__law_take : Cal l.prog w K mg base 1 "_law_take" (spBag preTake) := fdef (ok_take F__law_take B ) m__law_take k__law_take b__law_take
  have c__law_some : Cal l.prog w K mg base 2 "_law_some" (spBag preSome) := fdef (ok_some F__law_some B c__law_take) m__law_some k__law_some b__law_some
  have c__law_mixed : Cal l.prog w K mg base 2 "_law_mixed" (spBag preMixed) := fdef (ok_mixed F__law_mixed B c__law_take) m__law_mixed k__law_mixed b__law_mixed
  have c__law_alike : CalG l.prog w K mg base 1 "_law_alike" (spD preAlike) := ⟨f__law_alike, g__law_alike, _, ok_alike F__law_alike B , m__law_alike, k__law_alike, b__law_alike⟩
  have c__law_standings : Cal l.prog w K mg base 1 "_law_standings" (spD preStand) := fdef (ok_law_standings F__law_standings B ) m__law_standings k__law_standings b__law_standings
  have c__law_rooms : Cal l.prog w K mg base 2 "_law_rooms" (spD preLRooms) := fdef (ok_law_rooms F__law_rooms B c__law_standings) m__law_rooms k__law_rooms b__law_rooms
  have c__law_wrong : Cal l.prog w K mg base 1 "_law_wrong" (spD preLWrong) := fdef (ok_law_wrong F__law_wrong B ) m__law_wrong k__law_wrong b__law_wrong
  have c__law_can_be_done : Cal l.prog w K mg base 1 "_law_can_be_done" (spD preLCan) := fdef (ok_law_can F__law_can_be_done B ) m__law_can_be_done k__law_can_be_done b__law_can_be_done
  have c__law_led : Cal l.prog w K mg base 1 "_law_led" (spD preLed) := fdef (ok_law_led F__law_led B ) m__law_led k__law_led b__law_led
  have c__law_is_safe : Cal l.prog w K mg base 3 "_law_is_safe" (spD preLSafe) := fdef (ok_law_is_safe F__law_is_safe B c__law_rooms) m__law_is_safe k__law_is_safe b__law_is_safe
  have c__law_is_wanted : Cal l.prog w K mg base 1 "_law_is_wanted" (spD preLWanted) := fdef (ok_law_is_wanted F__law_is_wanted B ) m__law_is_wanted k__law_is_wanted b__law_is_wanted
  have c__law_is_safe_plan : Cal l.prog w K mg base 4 "_law_is_safe_plan" (spD preLPlan) := fdef (ok_law_is_safe_plan F__law_is_safe_plan B c__law_can_be_done c__law_is_safe c__law_led c__law_is_wanted) m__law_is_safe_plan k__law_is_safe_plan b__law_is_safe_plan
  have c__law_parted_task : Cal l.prog w K mg base 3 "_law_parted_task" (spBag preParted) := fdef (ok_parted F__law_parted_task B c__law_take c__law_some c__law_mixed) m__law_parted_task k__law_parted_task b__law_parted_task
  have c__law_free : Cal l.prog w K mg base 1 "_law_free" (spD preLFree) := fdef (ok_law_free F__law_free B ) m__law_free k__law_free b__law_free
  have c__law_planted : Cal l.prog w K mg base 4 "_law_planted" (spBag prePlanted) := fdef (ok_planted F__law_planted B c__law_parted_task) m__law_planted k__law_planted b__law_planted
  have c__law_is_round_right : CalG l.prog w K mg base 6 "_law_is_round_right" (spD preRound) := ⟨f__law_is_round_right, g__law_is_round_right, _, ok_is_round_right F__law_is_round_right B c_rounds_of c_with_spare c__law_is_safe_plan c_does c_led_by c__law_wrong c_without_part c_wrong_places c__law_alike, m__law_is_round_right, k__law_is_round_right, b__law_is_round_right⟩
  exact ok_law (fun_mk l0 c0 k0) B c__law_bag c__law_some c__law_mixed c__law_planted c_closed_parts c_parts_of c_is_even c_spare_many c__law_alike c__law_free c__law_is_round_right c_beside c_counts_of c_renamed
end
end DL

open PySem PySem.W PyProof.Rows
set_option maxHeartbeats 0 in
theorem PySem.Challenge.cw_whilemoved_k07_whole_planted_parts_gone_holds : PySem.Challenge.rw_whilemoved_k07_whole_planted_parts_gone.Holds := by
  w_on; o_law; k_head; (case hw => w_witness2)
  k_fill
  refine DL.walkG (l := PySem.Challenge.rw_whilemoved_k07_whole_planted_parts_gone) (n := 63) (k := 7) (x := "_law_script") (sp := DL.spLaw) rfl (by decide) rfl ⟨rfl, by decide, by decide⟩ (fun w h Y => PySem.W.kIn_of Y) ?F (fun K H a zs hl on sq => ⟨a, zs, rfl, sq, by omega, fun _ _ => rfl⟩)
  case F =>
    intro w mg fa h KX G hmg
    refine' DL.all_mk KX G hmg (DL.fct ?a0 ?l0 ?c0 ?k0) (DL.fct ?a1 ?l1 ?c1 ?k1) (DL.fct ?a2 ?l2 ?c2 ?k2) (DL.fct ?a3 ?l3 ?c3 ?k3) (DL.fct ?a4 ?l4 ?c4 ?k4) (DL.fct ?a5 ?l5 ?c5 ?k5) (DL.fct ?a6 ?l6 ?c6 ?k6) (DL.fct ?a7 ?l7 ?c7 ?k7) (DL.fct ?a8 ?l8 ?c8 ?k8) (DL.fct ?a9 ?l9 ?c9 ?k9) (DL.fct ?a10 ?l10 ?c10 ?k10) (DL.fct ?a11 ?l11 ?c11 ?k11) (DL.fct ?a12 ?l12 ?c12 ?k12) (DL.fct ?a13 ?l13 ?c13 ?k13) (DL.fct ?a14 ?l14 ?c14 ?k14) (DL.fct ?a15 ?l15 ?c15 ?k15) (DL.fct ?a16 ?l16 ?c16 ?k16) (DL.fct ?a17 ?l17 ?c17 ?k17) (DL.fct ?a18 ?l18 ?c18 ?k18) (DL.fct ?a19 ?l19 ?c19 ?k19) (DL.fct ?a20 ?l20 ?c20 ?k20) (DL.fct ?a21 ?l21 ?c21 ?k21) (DL.fct ?a22 ?l22 ?c22 ?k22) (DL.fct ?a23 ?l23 ?c23 ?k23) (DL.fct ?a24 ?l24 ?c24 ?k24) (DL.fct ?a25 ?l25 ?c25 ?k25) (DL.fct ?a26 ?l26 ?c26 ?k26) (DL.fct ?a27 ?l27 ?c27 ?k27) (DL.fct ?a28 ?l28 ?c28 ?k28) (DL.fct ?a29 ?l29 ?c29 ?k29) (DL.fct ?a30 ?l30 ?c30 ?k30) (DL.fct ?a31 ?l31 ?c31 ?k31) (DL.fct ?a32 ?l32 ?c32 ?k32) (DL.fct ?a33 ?l33 ?c33 ?k33) (DL.fct ?a34 ?l34 ?c34 ?k34) (DL.fct ?a35 ?l35 ?c35 ?k35) (DL.fct ?a36 ?l36 ?c36 ?k36) (DL.fct ?a37 ?l37 ?c37 ?k37) (DL.fct ?a38 ?l38 ?c38 ?k38) (DL.fct ?a39 ?l39 ?c39 ?k39) (DL.fct ?a40 ?l40 ?c40 ?k40) (DL.fct ?a41 ?l41 ?c41 ?k41) (DL.fct ?a42 ?l42 ?c42 ?k42) ?z0 ?z1 ?z2 ?z3 ?z4 ?z5 ?z6 ?z7 ?z8 ?z9 ?z10 ?z11 ?z12
    (case a0 => k_is); (case l0 => k_is); (case c0 => k_is); (case k0 => k_is)
    (case a1 => k_is); (case l1 => k_is); (case c1 => k_is); (case k1 => k_is)
    (case a2 => k_is); (case l2 => k_is); (case c2 => k_is); (case k2 => k_is)
    (case a3 => k_is); (case l3 => k_is); (case c3 => k_is); (case k3 => k_is)
    (case a4 => k_is); (case l4 => k_is); (case c4 => k_is); (case k4 => k_is)
    (case a5 => k_is); (case l5 => k_is); (case c5 => k_is); (case k5 => k_is)
    (case a6 => k_is); (case l6 => k_is); (case c6 => k_is); (case k6 => k_is)
    (case a7 => k_is); (case l7 => k_is); (case c7 => k_is); (case k7 => k_is)
    (case a8 => k_is); (case l8 => k_is); (case c8 => k_is); (case k8 => k_is)
    (case a9 => k_is); (case l9 => k_is); (case c9 => k_is); (case k9 => k_is)
    (case a10 => k_is); (case l10 => k_is); (case c10 => k_is); (case k10 => k_is)
    (case a11 => k_is); (case l11 => k_is); (case c11 => k_is); (case k11 => k_is)
    (case a12 => k_is); (case l12 => k_is); (case c12 => k_is); (case k12 => k_is)
    (case a13 => k_is); (case l13 => k_is); (case c13 => k_is); (case k13 => k_is)
    (case a14 => k_is); (case l14 => k_is); (case c14 => k_is); (case k14 => k_is)
    (case a15 => k_is); (case l15 => k_is); (case c15 => k_is); (case k15 => k_is)
    (case a16 => k_is); (case l16 => k_is); (case c16 => k_is); (case k16 => k_is)
    (case a17 => k_is); (case l17 => k_is); (case c17 => k_is); (case k17 => k_is)
    (case a18 => k_is); (case l18 => k_is); (case c18 => k_is); (case k18 => k_is)
    (case a19 => k_is); (case l19 => k_is); (case c19 => k_is); (case k19 => k_is)
    (case a20 => k_is); (case l20 => k_is); (case c20 => k_is); (case k20 => k_is)
    (case a21 => k_is); (case l21 => k_is); (case c21 => k_is); (case k21 => k_is)
    (case a22 => k_is); (case l22 => k_is); (case c22 => k_is); (case k22 => k_is)
    (case a23 => k_is); (case l23 => k_is); (case c23 => k_is); (case k23 => k_is)
    (case a24 => k_is); (case l24 => k_is); (case c24 => k_is); (case k24 => k_is)
    (case a25 => k_is); (case l25 => k_is); (case c25 => k_is); (case k25 => k_is)
    (case a26 => k_is); (case l26 => k_is); (case c26 => k_is); (case k26 => k_is)
    (case a27 => k_is); (case l27 => k_is); (case c27 => k_is); (case k27 => k_is)
    (case a28 => k_is); (case l28 => k_is); (case c28 => k_is); (case k28 => k_is)
    (case a29 => k_is); (case l29 => k_is); (case c29 => k_is); (case k29 => k_is)
    (case a30 => k_is); (case l30 => k_is); (case c30 => k_is); (case k30 => k_is)
    (case a31 => k_is); (case l31 => k_is); (case c31 => k_is); (case k31 => k_is)
    (case a32 => k_is); (case l32 => k_is); (case c32 => k_is); (case k32 => k_is)
    (case a33 => k_is); (case l33 => k_is); (case c33 => k_is); (case k33 => k_is)
    (case a34 => k_is); (case l34 => k_is); (case c34 => k_is); (case k34 => k_is)
    (case a35 => k_is); (case l35 => k_is); (case c35 => k_is); (case k35 => k_is)
    (case a36 => k_is); (case l36 => k_is); (case c36 => k_is); (case k36 => k_is)
    (case a37 => k_is); (case l37 => k_is); (case c37 => k_is); (case k37 => k_is)
    (case a38 => k_is); (case l38 => k_is); (case c38 => k_is); (case k38 => k_is)
    (case a39 => k_is); (case l39 => k_is); (case c39 => k_is); (case k39 => k_is)
    (case a40 => k_is); (case l40 => k_is); (case c40 => k_is); (case k40 => k_is)
    (case a41 => k_is); (case l41 => k_is); (case c41 => k_is); (case k41 => k_is)
    (case a42 => k_is); (case l42 => k_is); (case c42 => k_is); (case k42 => k_is)
    (case z0 => k_is); (case z1 => k_is); (case z2 => k_is); (case z3 => k_is); (case z4 => k_is); (case z5 => k_is); (case z6 => k_is); (case z7 => k_is); (case z8 => k_is); (case z9 => k_is); (case z10 => k_is); (case z11 => k_is); (case z12 => k_is)