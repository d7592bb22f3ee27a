import PyProof.Rows.All
import Wide.All
import OpenK.AllK
import Wide.FinOn
import HandS.ForMost
import HandS.ForExc
import HandS.Defaults
import HandS.HeadHook1
import HandS.HeadHook2
import HandS.TupAny
import HandS.TupMul
import HandS.Style
import HandS.Zip
import KE.GoesMore
import KE.KDictPairs
import HandS.Flow
import HandS.IsInst
import HandS.Deep
import HandS.Walk
import HandS.Conv
import HandS.CallSlots
import HandS.TryOnly
import HandS.ExcOwn
import HandS.Text
import KE.KRevSl
import KE.SortKeyHeap
import KE.SortData
import HandS.SortKw
import HandS.OwnEq
import PyProof.InstNe
import HandS.Head0
import HandS.Head1
import HandS.Head2
import HandS.HeadEnd
import KE.KExcSuper
import HandS.ExcInit
import HandS.RaiseMore
import PySem.Challenge.RW_openbooks_k03_whole_terms_sizes_told_ter
set_option Elab.async false
set_option linter.all false
set_option maxRecDepth 100000
set_option maxHeartbeats 4000000
namespace DL
open PySem PySem.Spec PyProof.Rows L2

/-! ### tuples without a dict of their own, as the program makes them -/
/-- a tuple's cell is held with its object -/
def SqP (K : PySem.W.Frag) (H : Hp) (a : Addr) (vs : List V) : Prop :=
  (∃ o : Obj, o.dict = none ∧ H a = some (.frz o (.tup vs))) ∨
    ∃ (o : Obj) (its : Array Value) (n : Nat), K.lookup a = some o ∧ o.cls = .type "tuple" ∧ o.dict = none ∧ o.data = .seq its n ∧ its.size ≤ sizeLine ∧ Vals vs its.toList
theorem SqP.sq {K : PySem.W.Frag} {H : Hp} {a : Addr} {vs : List V} (h : SqP K H a vs) : SqT K H a vs := by
  rcases h with ⟨o, _, h⟩ | ⟨o, its, n, h1, h2, _, h4, h5, h6⟩
  · exact .inl (.inr ⟨o, h⟩)
  · exact .inr ⟨o, its, n, h1, h2, h4, h5, h6⟩
section
variable {X : Cx} {pins : List (Addr × Obj)} {σ : L2.St} {H : Hp} {s : Shared}
theorem SqP.plain {a : Addr} {vs : List V} (I : Inv X pins σ H s) (h : SqP X.K H a vs) : ∃ its : List Value, Vals vs its ∧ PlainSeq "tuple" s.heap a its.toArray ∧ vs.length ≤ sizeLine := by
  rcases h with ⟨o, hd, h⟩ | ⟨o, its, n, h1, h2, h3, h4, h5, h6⟩
  · obtain ⟨e, z, its, r, o', e', hc, n, hs⟩ := I.hok a _ h
    rw [e] at e'
    cases e'
    exact ⟨its, r, ⟨o, n, e, hc, hd, hs⟩, z⟩
  · refine ⟨its.toList, h6, ⟨o, n, I.kIn a o h1, h2, h3, by simpa using h4⟩, ?_⟩
    have e := h6.length
    simp only [Array.length_toList] at e
    omega
/-- a new tuple's end -/
def TupQ (Q : VK) (H : Hp) (vs : List V) : Prop := ∀ a (o : Obj), H a = none → o.dict = none → Q (.ref a) (upd H a (.frz o (.tup vs)))
theorem tup_new {Q : VK} {vs : List V} {us : List Value} (I : Inv X pins σ H s) (r : Vals vs us) (hz : vs.length ≤ sizeLine) (q : TupQ Q H vs) : EP X pins σ Q (.ref s.heap.objs.size) { s with heap := s.heap.push { cls := .type "tuple", data := .seq us.toArray } } := by
  refine ⟨.ref s.heap.objs.size, upd H s.heap.objs.size (.frz { cls := .type "tuple", data := .seq us.toArray } (.tup vs)), I.laid (t' := s.toks) (fun b u e => Heap.get?_push_of_some _ e) (Nat.le_refl _) ?_, rfl, q _ _ (I.hok.fresh (Nat.le_refl _)) rfl⟩
  exact ⟨Heap.get?_push_size _ rfl, hz, us, r, IsTup.new _ _⟩
end
section
variable {X : Cx} {es : List Expr} {t : TA} {pos : Pos}
def tTupP (t : TA) : TE := fun σ H Q => t σ H fun xs H1 => xs.length ≤ sizeLine ∧ TupQ Q H1 xs
theorem pe_tupP {x1} (h : PA X es t) : PE X (.Tuple es x1 pos) (tTupP t) := by
  refine ⟨fun pins s σ H Q I hq => ?_⟩
  exact wpAny_Tuple_spliced (thn (h.run pos pins s σ H _ I hq) fun us s1 ⟨xs, H1, I1, r, z, q⟩ => ⟨by rw [← r.length]; exact z, tup_new I1 r z q⟩)
/-- t + u -/
def rCatP (K : PySem.W.Frag) : R2 := fun x y H Q => ∃ a b xs ys, x = .ref a ∧ y = .ref b ∧ SqT K H a xs ∧ SqT K H b ys ∧ xs.length + ys.length ≤ sizeLine ∧
  (xs = [] → Q (.ref b) H) ∧ (xs ≠ [] → ys = [] → Q (.ref a) H) ∧ (xs ≠ [] → ys ≠ [] → TupQ Q H (xs ++ ys))
theorem op_catP : OpR X (binaryOp .Add) (rCatP X.K) := by
  intro pins s σ H x y v u Q I rx ry h
  obtain ⟨a, b, xs, ys, rfl, rfl, ha, hb, hz, q0, q1, q2⟩ := h
  cases rx
  cases ry
  obtain ⟨its, r1, p1, _⟩ := I.tuple ha
  obtain ⟨its2, r2, p2, _⟩ := I.tuple hb
  by_cases hx : xs = []
  · subst hx
    cases r1
    exact cat_tup0 p1 p2 ⟨.ref b, H, I, rfl, q0 rfl⟩
  · refine HT.cat_tup p1 p2 (fun z => hx (r1.nil_iff.mp z)) (fun z => ⟨.ref a, H, I, rfl, q1 hx (r2.nil_iff.mp z)⟩) (fun z => ?_) (by rw [← r1.length, ← r2.length]; exact hz)
    exact tup_new I (r1.append r2) (by rw [List.length_append]; exact hz) (q2 hx fun w => z (r2.nil_iff.mpr w))
/-- t[lo:hi] -/
def rSlP (K : PySem.W.Frag) : V → Option Int → Option Int → Hp → VK → Prop := fun x lo hi H Q => ∃ a xs, x = .ref a ∧ SqT K H a xs ∧
  (HT.sIx xs.length 0 lo = 0 ∧ HT.sIx xs.length xs.length hi = xs.length → Q (.ref a) H) ∧ (¬ (HT.sIx xs.length 0 lo = 0 ∧ HT.sIx xs.length xs.length hi = xs.length) → TupQ Q H (cutV xs lo hi))
theorem sl_tupP : SlR X (rSlP X.K) := by
  intro pins s σ H x v vl vu lo hi sl Q I rx hs pl pu h
  obtain ⟨a, xs, rfl, hx, q1, q2⟩ := h
  cases rx
  obtain ⟨its, r, ht, hz⟩ := I.tuple hx
  have hlen : its.toArray.size = xs.length := by rw [List.size_toArray]; exact r.length.symm
  refine ⟨"tuple", _, PyProof.Rows.slot_tuple_getitem.lookup, ht.typeIs, ?_⟩
  by_cases hw : HT.sIx xs.length 0 lo = 0 ∧ HT.sIx xs.length xs.length hi = xs.length
  · exact getItem_tuple_whole ht hs pl pu (by rw [hlen]; exact hw) ⟨.ref a, H, I, rfl, q1 hw⟩
  · refine HT.getItem_tuple_cut ht hs pl pu (by rw [hlen]; exact hw) ?_ (by rw [hlen]; exact hz)
    rw [hlen]
    exact tup_new I ((r.drop (HT.sIx xs.length 0 lo)).take (HT.sIx xs.length xs.length hi - HT.sIx xs.length 0 lo)) (Nat.le_trans (cutV_length xs lo hi) hz) (q2 hw)
/-- tuple(xs) -/
def rTupOf (K : PySem.W.Frag) : List V → Hp → VK → Prop := fun xs H Q => ∃ p ys, xs = [.ref p] ∧ ((SqL K H p ys ∧ TupQ Q H ys) ∨ (SqT K H p ys ∧ Q (.ref p) H))
theorem call_tupP : CallR X (.type "tuple") (rTupOf X.K) := by
  intro pins s σ H xs us Q I r h
  obtain ⟨p, ys, rfl, h⟩ := h
  obtain ⟨u, rfl, rx⟩ := vals1 r
  cases rx
  rcases h with ⟨hq, q⟩ | ⟨hq, q⟩
  · obtain ⟨its, r', pl, hz⟩ := I.list hq
    have hlen := r'.length
    refine call_tuple_list pl.isList (fun h' kp => ?_) (by simp only [List.size_toArray] <;> omega)
    have I1 : Inv X pins σ H { s with heap := h' } := I.kept (t' := s.toks) kp
    exact tup_new I1 r' hz q
  · obtain ⟨its, r', pl, hz⟩ := I.tuple hq
    exact call_tuple_same pl ⟨.ref p, H, I, rfl, q⟩
/-- t * k -/
def rRepP (K : PySem.W.Frag) : R2 := fun x y H Q => ∃ l k xs, x = .ref l ∧ y = .int k ∧ SqT K H l xs ∧ xs ≠ [] ∧ 2 ≤ k ∧ k ≤ 1000 ∧ xs.length ≤ 1000 ∧ TupQ Q H (List.replicate k.toNat xs).flatten
theorem op_repP : OpR X (binaryOp .Mult) (rRepP X.K) := by
  intro pins s σ H x y v u Q I rx ry h
  obtain ⟨l, k, xs, rfl, rfl, hT, hne, h1, h2, hz, q⟩ := h
  cases rx
  obtain ⟨t, rfl⟩ := ry
  obtain ⟨its, r, ⟨⟨cls, dd, data, sl⟩, ho, hc, n, hd⟩, hs⟩ := I.tuple hT
  simp only at hc hd
  subst hc hd
  have hle : its.length = xs.length := r.length.symm
  have hn : its ≠ [] := fun e => hne (List.eq_nil_of_length_eq_zero (by rw [← hle, e]; rfl))
  have hi : its.toArray.isEmpty = false := by
    cases its with
    | nil => exact absurd rfl hn
    | cons a b => rfl
  have sz : its.toArray.size = xs.length := by rw [List.size_toArray, hle]
  have hm : ((its.toArray.size : Nat) : Int) * k ≤ 1000000 := by
    rw [sz]
    have a1 : (xs.length : Int) * k ≤ 1000 * k := Int.mul_le_mul_of_nonneg_right (Int.ofNat_le.mpr hz) (Int.le_trans (by decide) h1)
    omega
  have fl : ∀ {α : Type} (zs : List α), zs.length = xs.length → (List.replicate k.toNat zs).flatten.length ≤ sizeLine := fun zs hz' => by
    rw [PyProof.Rows.lm_len_rep_flat, hz', sizeLine_eq]
    have a2 : k.toNat ≤ 1000 := by omega
    exact Nat.le_trans (Nat.mul_le_mul a2 hz) (by decide)
  refine wpAny_binaryOp_repeat_ref (T := "tuple") (U := "int") (by decide) ⟨_, ho, rfl⟩ (fun s' => typeIs_int s' k t) noFill_tuple_mul F.fills_int_mul F.slot_int_rmul repeat_tuple F.slot_int_index.lookup
    (call_meets F.slot_int_rmul (typeIs_int s k t) F.entry_int_rmul (F.args_int_rmul_2 _ _) (int_rmul_tuple k t l its.toArray n dd sl)
      ⟨ho, rfl, ⟨_, ho, rfl⟩, call_meets F.slot_tuple_mul ⟨_, ho, rfl⟩ F.entry_tuple_mul (F.args_tuple_mul_2 _ _) (tuple_mulW l its.toArray n dd sl k t
        (by rw [decide_eq_false (by omega), decide_eq_false (by omega)] <;> rfl) (by rw [hi, Bool.false_or]; exact beq_eq_false_iff_ne.mpr (by omega)) (by rw [hi, Bool.or_false]; exact decide_eq_false (by omega)) (by omega)
        (by unfold Builtin.Tuple.tupleTooMany; rw [sizeLine_eq]; exact decide_eq_false (by omega)) (by rw [size_rep, List.size_toArray]; exact fl its hle)) ⟨ho, ?_⟩⟩)
  rw [size_rep]
  exact tup_new I (r.rep k.toNat) (fl xs rfl) q
end
/-! ### enumerate(xs), xs a list or a tuple -/
section
variable {prog : Program} {w : World} {A : Around} {E : Value → Shared → Prop} {s : Shared}
theorem enum_new (v : Value) (o : Obj) (Hh : Heap → Prop) (B : Begins v o Hh) :
    Meets (Builtin.«enumerate.__new__» ⟨[.type "enumerate", v], []⟩) (fun _ R s => Hh s.heap ∧ R (.ok (.ret (.ref (s.heap.push o).objs.size)))
        { s with heap := (s.heap.push o).push { cls := .type "enumerate", data := .fields #[.none, .bool false, .ref s.heap.objs.size, rawInt 0, .none, .none] } }) :=
  .of_wp fun prog w A R s h => by
    obtain ⟨hp, g, d, tk, os⟩ := s; obtain ⟨hl, h⟩ := h
    have hsub := sub_enumerate
    have hit := fun (A : Around) (E : Value → Shared → Prop) (Q : Value → Shared → Prop) => B.iter prog w A E ⟨hp, g, d, tk, os⟩ Q hl
    wp_walk
    refine wpAny_stack_any fun st => wpAny_pure ?_
    split
    · rename_i c _ _ _ _ _
      cases (c == Value.type "enumerate")
      · wp_walk using hit
        exact ⟨_, rfl, h⟩
      · wp_walk using hit
        exact ⟨_, rfl, h⟩
    · wp_walk using hit
      exact ⟨_, rfl, h⟩
theorem call_enum {v : Value} {o : Obj} {Hh : Heap → Prop} {Q : Value → Shared → Prop} (B : Begins v o Hh) (hv : Hh s.heap)
    (h : ∀ h', IsEnum h' (s.heap.objs.size + 1) s.heap.objs.size 0 .none → h'.get? s.heap.objs.size = some o → (∀ b u, s.heap.get? b = some u → h'.get? b = some u) → Q (.ref (s.heap.objs.size + 1)) { s with heap := h' }) :
    wpAny (model prog w) A (call (.type "enumerate") [v]) Q E s := by
  refine callType_new F.called_enumerate (by decide) (F.typeCall_enumerate_1 _) (F.newCall_enumerate_1 _) (fun obj => F.args_object_init_2 obj _) F.entry_enumerate_new (enum_new v o Hh B) ⟨hv, ?_⟩
  have hz : (s.heap.push o).objs.size = s.heap.objs.size + 1 := Heap.size_push ..
  show _ ∧ _
  rw [hz]
  have he : IsEnum ((s.heap.push o).push { cls := .type "enumerate", data := .fields #[.none, .bool false, .ref s.heap.objs.size, rawInt 0, .none, .none] }) (s.heap.objs.size + 1) s.heap.objs.size 0 .none := by
    have := Heap.get?_push_size (s.heap.push o) (o := { cls := .type "enumerate", data := .fields #[.none, .bool false, .ref s.heap.objs.size, rawInt 0, .none, .none] }) rfl
    rw [hz] at this
    exact this
  exact ⟨⟨_, he, rfl⟩, h _ he (Heap.get?_push_of_some _ (Heap.get?_push_size _ B.free)) fun b u x => Heap.get?_push_of_some _ (Heap.get?_push_of_some _ x)⟩
end
/-- each item of a row in a new pair -/
def ItP (K : PySem.W.Frag) (Sq : Hp → List V → Prop) : It :=
  ⟨fun i H => ∃ (xs : List V) (x : V), Sq H xs ∧ xs[i]? = some x, fun i H v H' => ∃ T x o, v = .ref T ∧ H T = none ∧ o.dict = none ∧ H' = upd H T (.frz o (.tup [.int (i : Nat), x])) ∧ ∀ xs, Sq H xs → xs[i]? = some x, fun i H => ∃ xs : List V, Sq H xs ∧ xs.length = i⟩
/-- what reads a row: a list or a tuple -/
structure RowRd (K : PySem.W.Frag) (Sq : Hp → List V → Prop) (It' : Heap → Addr → Nat → Prop) (Is : Heap → Array Value → Prop) (a : Addr) : Prop where
  rd : ∀ {X : Cx} {pins σ H s xs}, X.K = K → Inv X pins σ H s → Sq H xs → ∃ its : List Value, Vals xs its ∧ Is s.heap its.toArray
  inj : ∀ {X : Cx} {pins σ H s xs ys}, X.K = K → Inv X pins σ H s → Sq H xs → Sq H ys → xs = ys
  dr : ∀ {P : Program} {w : World} {A : Around} (it : Addr) (items : Array Value), A.handled = none → a ≠ it → Draws P w A it [it, a] items.size (fun i v => items[i]? = some v) (fun i h => It' h it i ∧ Is h items)
  keep : ∀ {h h' : Heap} {it i}, It' h it i → (∀ o, h.get? it = some o → h'.get? it = some o) → It' h' it i
  live : ∀ {h : Heap} {it i}, It' h it i → ∃ o, h.get? it = some o ∧ ∀ v, o.data ≠ .cell v
  liveA : ∀ {h : Heap} {xs}, Is h xs → ∃ o, h.get? a = some o
theorem turn_enumP {P : Program} {w : World} {K : PySem.W.Frag} {elts : List Expr} {kk : Nat} {tpos : Pos} {Sq : Hp → List V → Prop} {It' : Heap → Addr → Nat → Prop} {Is : Heap → Array Value → Prop} {a : Addr} (R : RowRd K Sq It' Is a) (e it : Addr) :
    Turn P w K (.Tuple elts kk tpos) (ItP K Sq) [e, it] e (fun i h => (∃ old, IsEnum h e it ((i : Nat) : Int) old) ∧ It' h it i ∧ e ≠ it ∧ a ≠ it ∧ a ≠ e) where
  mem := by simp
  obj := fun i h st b hb => by
    obtain ⟨⟨old, he⟩, hi, _⟩ := st
    rcases (show b = e ∨ b = it by simpa using hb) with z | z
    · subst z; exact ⟨_, he, fun v q => nomatch q⟩
    · subst z; exact R.live hi
  keep := fun i h h' st k => ⟨st.1.elim fun old he => ⟨old, k e (by simp) _ he⟩, R.keep st.2.1 fun o q => k it (by simp) o q, st.2.2⟩
  item := by
    intro X hP hw hK hc i pins s σ H E I hf st hg
    subst hP hw
    obtain ⟨⟨old, he⟩, hit, hne, hai, hae⟩ := st
    obtain ⟨xs, x, hq, hx⟩ := hg
    obtain ⟨its, rv, p⟩ := R.rd hK I hq
    obtain ⟨u, hu, ru⟩ := rv.get hx
    have hel : e < s.heap.objs.size := Heap.lt_size he
    have hil : it < s.heap.objs.size := by obtain ⟨_, q, _⟩ := R.live hit; exact Heap.lt_size q
    have hlt : i < its.toArray.size := by
      rw [List.size_toArray]
      exact (List.getElem?_eq_some_iff.mp hu).1
    refine wpAny_pyNext_enum_itemD (R.dr it its.toArray (I.ok.hd hc) hai) he ⟨hit, p⟩ hlt hne (by simp only [List.mem_cons, List.not_mem_nil, or_false]; exact fun z => z.elim hne (Ne.symm hae)) fun y h' tk hy ho hst hT hsz hk => ?_
    have ey : y = u := by
      have : its[i]? = some y := by simpa using hy
      rw [hu] at this
      exact (Option.some.inj this).symm
    subst ey
    refine ⟨_, rfl, wpAny_letOwnedTupleGo_enum (s := { s with heap := h', toks := tk + 1 }) ho fun h'' he' sb => ?_⟩
    have hT2 : h''.get? s.heap.objs.size = some { cls := .type "tuple", data := .seq #[.int i tk, y] } := (sb.2 _ (Nat.ne_of_gt hel)).trans hT
    have keepB : ∀ b ob, b ∉ [e, it] → s.heap.get? b = some ob → h''.get? b = some ob := fun b ob hb q => (sb.2 b (fun z => hb (by simp [z]))).trans (hk b ob (fun z => hb (by simp [z])) (fun z => hb (by simp [z])) q)
    have I1 : Inv X pins σ (upd H s.heap.objs.size (.frz { cls := .type "tuple", data := .seq #[.int i tk, y] } (.tup [.int (i : Nat), x]))) { s with heap := h'', toks := tk + 1 } :=
      I.turnedNew (ch := [e, it]) keepB hf (Nat.le_refl _) ⟨hT2, (show 2 ≤ sizeLine by decide), [.int i tk, y], .cons ⟨_, rfl⟩ (.cons ru .nil), ⟨_, hT2, rfl, _, rfl⟩⟩
    refine ⟨.ref s.heap.objs.size, _, I1, rfl, ⟨_, x, _, rfl, I.hok.fresh (Nat.le_refl _), rfl, rfl, fun ys hy => by rw [R.inj hK I hy hq]; exact hx⟩, ⟨⟨y, ?_⟩, R.keep hst.1 fun o q => (sb.2 it (Ne.symm hne)).trans q, hne, hai, hae⟩, fun b hb => ?_⟩
    · rw [show ((i + 1 : Nat) : Int) = (i : Int) + 1 by omega]
      exact he'
    · have hb' : b < s.heap.objs.size := by
        rcases (show b = e ∨ b = it by simpa using hb) with z | z <;> subst z <;> assumption
      rw [upd_ne (Nat.ne_of_lt hb')]
      exact (hf b hb).1
  done := by
    intro X hP hw hK hc i pins s σ H E I hf st hg
    subst hP hw
    obtain ⟨⟨old, he⟩, hit, hne, hai, hae⟩ := st
    obtain ⟨xs, hq, hx⟩ := hg
    obtain ⟨its, rv, p⟩ := R.rd hK I hq
    subst hx
    obtain ⟨f0, f1, f2, f3, f4, f5⟩ := hf it (by simp)
    have hl : its.toArray.size = xs.length := by rw [List.size_toArray]; exact rv.length.symm
    refine wpAny_pyNext_enum_endD (R.dr it its.toArray (I.ok.hd hc) hai) he (by rw [hl]; exact ⟨hit, p⟩) fun h' eb => ⟨rfl, I.turned (t' := s.toks) (fun b o hb q => eb b o hb q) f0 f1 f3 f4 f5⟩
  self := fun A i s Q E st h => st.1.elim fun _ he => wpAny_pyIter_enum he h
theorem row_list {K : PySem.W.Frag} (a : Addr) : RowRd K (fun H xs => SqL K H a xs) (fun h it i => h.IsListIter it a i) (fun h xs => h.IsList a xs) a where
  rd := fun hK I h => by
    subst hK
    obtain ⟨its, r, p, _⟩ := I.list h
    exact ⟨its, r, p.isList⟩
  inj := fun hK I h h' => by subst hK; exact I.list_inj h h'
  dr := fun it items hh hne => Draws.list hh it a hne items
  keep := fun h k => h.at k
  live := fun h => let ⟨o, e, _, d⟩ := h; ⟨o, e, fun v q => by rw [d] at q; cases q⟩
  liveA := fun h => let ⟨o, e, _⟩ := h; ⟨o, e⟩
theorem row_tup {K : PySem.W.Frag} (a : Addr) : RowRd K (fun H xs => SqT K H a xs) (fun h it i => h.IsTupleIter it a i) (fun h xs => h.IsTuple a xs) a where
  rd := fun hK I h => by
    subst hK
    obtain ⟨its, r, p, _⟩ := I.tuple h
    exact ⟨its, r, p⟩
  inj := fun hK I h h' => by subst hK; exact I.tuple_inj h h'
  dr := fun it items hh hne => Draws.tuple hh it a hne items
  keep := fun h k => h.at k
  live := fun h => let ⟨o, e, _, d⟩ := h; ⟨o, e, fun v q => by rw [d] at q; cases q⟩
  liveA := fun h => let ⟨o, e, _⟩ := h; ⟨o, e⟩
/-- enumerate(xs) of a list, of a tuple -/
def iEnumP (K : PySem.W.Frag) (ta : TA) : TI := fun σ H R => ta σ H fun vs H1 => ∃ a, vs = [.ref a] ∧ (((∃ xs, SqL K H1 a xs) ∧ R (ItP K fun H xs => SqL K H a xs) H1) ∨ ((∃ xs, SqT K H1 a xs) ∧ R (ItP K fun H xs => SqT K H a xs) H1))
theorem pi_enumP {X : Cx} {e : Expr} {ta : TA} {p pos tpos : Pos} {elts : List Expr} {kk : Nat} (hg : Gl X "enumerate") (hm : X.mg "enumerate" = none) (ha : PA X [e] ta) (hs : starEach [e] X.env = [(false, eval e X.env)] := by rfl) :
    PI X (.Tuple elts kk tpos) (.Call (.Name "enumerate" p) [e] [] pos) (iEnumP X.K ta) := by
  refine ⟨fun pins s σ H R I h => ?_⟩
  refine Call_ (ld_blt I hg hm boot_enumerate (PyProof.Rows.callWith_type1 (thn (ha.run pos pins s σ H _ I h) fun us s1 ⟨vs, H1, I1, r1, q1⟩ => ?_) hs rfl))
  obtain ⟨a, ex, q⟩ := q1
  subst ex
  cases r1 with
  | cons r rr =>
    cases rr
    cases r
    have go : ∀ {o : Obj} {Hh : Heap → Prop} {Sq : Hp → List V → Prop} {It' : Heap → Addr → Nat → Prop} {Is : Heap → Array Value → Prop}, Begins (.ref a) o Hh → Hh s1.heap → RowRd X.K Sq It' Is a → (∃ xs, Sq H1 xs) →
        (∀ h' : Heap, h'.get? s1.heap.objs.size = some o → It' h' s1.heap.objs.size 0) → R (ItP X.K Sq) H1 →
        wpAny (model X.prog X.w) X.A (call (.type "enumerate") [.ref a]) (fun v s1 => wpAny (model X.prog X.w) X.A (pyIter v) (PIE X pins σ (.Tuple elts kk tpos) R) X.xe s1) X.xe s1 := fun {o Hh Sq It' Is} B hB RR ⟨xs, hxs⟩ h0 q => by
      obtain ⟨its, rv, isx⟩ := RR.rd rfl I1 hxs
      obtain ⟨oa, hoa⟩ := RR.liveA isx
      have hal : a < s1.heap.objs.size := Heap.lt_size hoa
      refine call_enum B hB fun h' he hit kp => wpAny_pyIter_enum he ?_
      have I2 : Inv X pins σ H1 { s1 with heap := h' } := I1.kept (t' := s1.toks) kp
      refine ⟨s1.heap.objs.size + 1, [s1.heap.objs.size + 1, s1.heap.objs.size], _, _, H1, rfl, I2, turn_enumP RR (s1.heap.objs.size + 1) s1.heap.objs.size, ⟨⟨.none, he⟩, h0 _ hit, Nat.succ_ne_self _, Nat.ne_of_lt hal, Nat.ne_of_lt (Nat.lt_succ_of_lt hal)⟩, fun b hb => ?_, q⟩
      have hle : s1.heap.objs.size ≤ b := by
        rcases (show b = s1.heap.objs.size + 1 ∨ b = s1.heap.objs.size by simpa using hb) with z | z
        · rw [z]; exact Nat.le_succ _
        · rw [z]; exact Nat.le_refl _
      exact I1.fpOk hle (I1.hok.fresh hle)
    rcases q with ⟨⟨xs, hq⟩, q⟩ | ⟨⟨xs, hq⟩, q⟩
    · obtain ⟨its, rv, p', hz⟩ := I1.list hq
      exact go (begins_list a its.toArray) p'.isList (row_list a) ⟨xs, hq⟩ (fun h' e => ⟨_, e, rfl, rfl⟩) q
    · obtain ⟨its, rv, p', hz⟩ := I1.tuple hq
      exact go (begins_tuple a its.toArray) p' (row_tup a) ⟨xs, hq⟩ (fun h' e => ⟨_, e, rfl, rfl⟩) q
/-- dict(xs) of a tuple of pairs -/
def rDictT (K : PySem.W.Frag) : List V → Hp → VK → Prop := fun xs H Q => ∃ (a : Addr) (ps : List Addr) (kvs : List (Key × V)), xs = [.ref a] ∧ SqP K H a (ps.map V.ref) ∧ Paired (fun p kv => SqT K H p [kV kv.1, kv.2]) ps kvs ∧
    ∀ p, H p = none → Q (.ref p) (upd H p (.dK (mergeK [] kvs)))
theorem call_dictT {X : Cx} (hcalm : X.calm = true) : CallR X (.type "dict") (rDictT X.K) := by
  intro pins s σ H xs us Q I r q
  obtain ⟨a, ps, kvs, ex, hq, hp, q⟩ := q
  subst ex
  obtain ⟨u, eu, rx⟩ := vals1 r
  subst eu
  cases rx
  obtain ⟨its, rv, pl, hz⟩ := hq.plain I
  have ei := refs_at rv
  subst ei
  rw [List.length_map] at hz
  obtain ⟨prs, rel, hl, hpr⟩ := pairs_of I hp
  -- the keys as they stand
  have hk : ∀ j (q : Key × Value), prs[j]? = some q → ∃ u, keyIs q.1 u = true ∧ IsTup s.heap (ps.getD j 0) #[u, q.2] ∧ ps[j]? = some (ps.getD j 0) := fun j q e => by
    obtain ⟨b, u, e1, e2, e3⟩ := hpr j q e
    have : ps.getD j 0 = b := by rw [List.getD_eq_getElem?_getD, e1]; rfl
    rw [this]
    exact ⟨u, e3, e2, e1⟩
  let key : Nat → Value := fun j => match s.heap.get? (ps.getD j 0) with
    | some o => (match o.data with
      | .seq v _ => v.getD 0 .none
      | _ => .none)
    | none => .none
  have hkey : ∀ j (q : Key × Value), prs[j]? = some q → keyIs q.1 (key j) = true ∧ IsTup s.heap (ps.getD j 0) #[key j, q.2] ∧ ps[j]? = some (ps.getD j 0) := fun j q e => by
    obtain ⟨u, h1, h2, h3⟩ := hk j q e
    have : key j = u := by
      obtain ⟨o, ho, _, n, hd⟩ := h2
      show (match s.heap.get? (ps.getD j 0) with | some o => _ | none => _) = u
      rw [ho]
      show (match o.data with | .seq v _ => _ | _ => _) = u
      rw [hd]
      rfl
    rw [this]
    exact ⟨h1, h2, h3⟩
  let pr : List (Value × Value) := (List.range prs.length).map fun j => (key j, (prs.map (·.2)).getD j .none)
  have hpl : pr.length = prs.length := by simp [pr]
  have hat : ∀ j (q : Key × Value), prs[j]? = some q → pr[j]? = some (key j, q.2) := fun j q e => by
    have hj : j < prs.length := (List.getElem?_eq_some_iff.mp e).1
    simp only [pr, List.getElem?_map, List.getElem?_range hj, Option.map_some, List.getD_eq_getElem?_getD, e, Option.getD_some]
  have ok : PlainSeq "tuple" s.heap a (ps.map Value.ref).toArray ∧ PairItems s.heap (ps.map Value.ref).toArray (fun j => ps.getD j 0) pr := by
    refine ⟨pl, by rw [hpl, hl]; simp, fun j k v e => ?_⟩
    have hj : j < prs.length := by rw [← hpl]; exact (List.getElem?_eq_some_iff.mp e).1
    obtain ⟨q, eq⟩ : ∃ q, prs[j]? = some q := ⟨_, List.getElem?_eq_getElem hj⟩
    obtain ⟨h1, h2, h3⟩ := hkey j q eq
    rw [hat j q eq] at e
    cases e
    exact ⟨by rw [List.getElem?_toArray, List.getElem?_map, h3]; rfl, .inl h2⟩
  refine PySem.call_dict_pairs (knd := mixKind X.prog X.w) (kvs := prs) (PairArg.tuple a (ps.map Value.ref).toArray (fun j => ps.getD j 0) pr) (I.ok.hd hcalm) ok ⟨hpl.symm, fun i k v e => ?_⟩ (by rw [hpl, hl]; exact hz) fun h' tk hd' kp => ?_
  · have e' : pr[i]? = some (k, v) := e
    have hj : i < prs.length := by rw [← hpl]; exact (List.getElem?_eq_some_iff.mp e').1
    obtain ⟨q, eq⟩ : ∃ q, prs[i]? = some q := ⟨_, List.getElem?_eq_getElem hj⟩
    rw [hat i q eq] at e'
    cases e'
    exact ⟨q.1, eq, (hkey i q eq).1⟩
  · have hm : (s.heap.objs.size == sysModules) = false := beq_eq_false_iff_ne.mpr (Nat.ne_of_gt I.big)
    have hlen : (mergeK [] kvs).length ≤ sizeLine := by
      refine Nat.le_trans (length_mergeK kvs []) ?_
      rw [List.length_nil, Nat.zero_add, rel.length, hl]
      exact hz
    exact ⟨.ref s.heap.objs.size, upd H s.heap.objs.size (.dK (mergeK [] kvs)), I.laid (t' := tk) (fun b u e => kp b u (by simp) e) (Nat.le_refl _) (show ObjOk X.prog X.w _ _ _ (.dK (mergeK [] kvs)) from ⟨hlen, hm, merged [] prs, KV.merge rel .nil, hd'⟩), rfl, q _ (I.hok.fresh (Nat.le_refl _))⟩
end DL
set_option Elab.async false
set_option linter.all false
set_option maxRecDepth 100000
set_option maxHeartbeats 4000000
namespace DL
open PySem PySem.Spec PyProof.Rows L2

/-- data: what a value means, without addresses -/
inductive D where
  | non | bl (b : Bool) | int (i : Int) | str (x : Str)
  | lst (xs : List D) | tup (xs : List D) | dic (kvs : List (Key × D))
  | ins (C : Str) (fs : List (Str × D))
  | cell (n : Nat) (ds : List D)
  | scr (xs : List D)
  | ob (v : V)

/-- the world: cells that stay as they are; cells that keep an invariant -/
structure Wd where
  fro : Hp
  jn : Addr → Option (Nat × List D)
  lk : Addr → Option Obj

def Wd.has (W : Wd) (a : Addr) : Prop := W.fro a ≠ none ∨ W.jn a ≠ none
structure Wd.le (W W' : Wd) : Prop where
  f : ∀ a o, W.fro a = some o → W'.fro a = some o
  j : ∀ a t, W.jn a = some t → W'.jn a = some t
  l : ∀ a, W.fro a ≠ none → W'.lk a = W.lk a
theorem Wd.le.refl (W : Wd) : W.le W := ⟨fun _ _ h => h, fun _ _ h => h, fun _ _ => rfl⟩
theorem Wd.le.fro {W W' : Wd} (x : W.le W') {a : Addr} (h : W.fro a ≠ none) : W'.fro a ≠ none := by
  cases e : W.fro a with
  | none => exact absurd e h
  | some o => rw [x.f a o e]; simp
theorem Wd.le.trans {A B C : Wd} (x : A.le B) (y : B.le C) : A.le C := ⟨fun a o h => y.f a o (x.f a o h), fun a t h => y.j a t (x.j a t h), fun a h => (y.l a (x.fro h)).trans (x.l a h)⟩
theorem Wd.le.has {W W' : Wd} (x : W.le W') {a : Addr} (h : W.has a) : W'.has a := by
  rcases h with h | h
  · cases e : W.fro a with
    | none => exact absurd e h
    | some o => exact .inl (by rw [x.f a o e]; simp)
  · cases e : W.jn a with
    | none => exact absurd e h
    | some o => exact .inr (by rw [x.j a o e]; simp)

mutual
/-- the value v means d in the world W -/
inductive Dn (K : PySem.W.Frag) (W : Wd) : V → D → Prop
  | non : Dn K W .non .non
  | bl (b : Bool) : Dn K W (.bl b) (.bl b)
  | int (i : Int) : Dn K W (.int i) (.int i)
  | str (x : Str) : Dn K W (.str x) (.str x)
  | lst {a : Addr} {vs : List V} {xs : List D} : W.fro a = some (.lst vs) → Dns K W vs xs → Dn K W (.ref a) (.lst xs)
  | tup {a : Addr} {vs : List V} {xs : List D} : SqP K W.fro a vs → Dns K W vs xs → Dn K W (.ref a) (.tup xs)
  | dic {a : Addr} {kvs : List (Key × V)} {ds : List (Key × D)} : W.fro a = some (.dK kvs) → DnK K W kvs ds → Dn K W (.ref a) (.dic ds)
  | ins {a dx : Addr} {C : Str} {vs : List (Str × V)} {fs : List (Str × D)} : W.fro a = some (.ins (He.ga K C) dx vs) → DnF K W vs fs → Dn K W (.ref a) (.ins C fs)
  | cell {a : Addr} {n : Nat} {ds : List D} : W.jn a = some (n, ds) → Dn K W (.ref a) (.cell n ds)
  | scr {a : Addr} {vs : List V} {xs : List D} : SqL K W.fro a vs → Dns K W vs xs → Dn K W (.ref a) (.scr xs)
  | ob (v : V) : Dn K W v (.ob v)
inductive Dns (K : PySem.W.Frag) (W : Wd) : List V → List D → Prop
  | nil : Dns K W [] []
  | cons {v : V} {vs : List V} {d : D} {ds : List D} : Dn K W v d → Dns K W vs ds → Dns K W (v :: vs) (d :: ds)
inductive DnK (K : PySem.W.Frag) (W : Wd) : List (Key × V) → List (Key × D) → Prop
  | nil : DnK K W [] []
  | cons {k : Key} {v : V} {vs : List (Key × V)} {d : D} {ds : List (Key × D)} : Dn K W v d → DnK K W vs ds → DnK K W ((k, v) :: vs) ((k, d) :: ds)
inductive DnF (K : PySem.W.Frag) (W : Wd) : List (Str × V) → List (Str × D) → Prop
  | nil : DnF K W [] []
  | cons {k : Str} {v : V} {vs : List (Str × V)} {d : D} {ds : List (Str × D)} : Dn K W v d → DnF K W vs ds → DnF K W ((k, v) :: vs) ((k, d) :: ds)
end

theorem sqL_mono {K : PySem.W.Frag} {H H' : Hp} {a : Addr} {vs : List V} (h : ∀ a o, H a = some o → H' a = some o) (q : SqL K H a vs) : SqL K H' a vs := by
  rcases q with (q | ⟨o, q⟩) | q
  · exact .inl (.inl (h _ _ q))
  · exact .inl (.inr ⟨o, h _ _ q⟩)
  · exact .inr q
theorem sqP_mono {K : PySem.W.Frag} {H H' : Hp} {a : Addr} {vs : List V} (h : ∀ a o, H a = some o → H' a = some o) (q : SqP K H a vs) : SqP K H' a vs := by
  rcases q with ⟨o, d, q⟩ | q
  · exact .inl ⟨o, d, h _ _ q⟩
  · exact .inr q
mutual
theorem Dn.monoP {K : PySem.W.Frag} {W W' : Wd} (xf : ∀ a o, W.fro a = some o → W'.fro a = some o) (xj : ∀ a t, W.jn a = some t → W'.jn a = some t) : ∀ {v : V} {d : D}, Dn K W v d → Dn K W' v d
  | _, _, .non => .non
  | _, _, .bl b => .bl b
  | _, _, .int i => .int i
  | _, _, .str z => .str z
  | _, _, .lst h r => .lst (xf _ _ h) (Dns.monoP xf xj r)
  | _, _, .tup h r => .tup (sqP_mono xf h) (Dns.monoP xf xj r)
  | _, _, .dic h r => .dic (xf _ _ h) (DnK.monoP xf xj r)
  | _, _, .ins h r => .ins (xf _ _ h) (DnF.monoP xf xj r)
  | _, _, .cell h => .cell (xj _ _ h)
  | _, _, .scr h r => .scr (sqL_mono xf h) (Dns.monoP xf xj r)
  | _, _, .ob v => .ob v
theorem Dns.monoP {K : PySem.W.Frag} {W W' : Wd} (xf : ∀ a o, W.fro a = some o → W'.fro a = some o) (xj : ∀ a t, W.jn a = some t → W'.jn a = some t) : ∀ {vs : List V} {ds : List D}, Dns K W vs ds → Dns K W' vs ds
  | _, _, .nil => .nil
  | _, _, .cons h r => .cons (Dn.monoP xf xj h) (Dns.monoP xf xj r)
theorem DnK.monoP {K : PySem.W.Frag} {W W' : Wd} (xf : ∀ a o, W.fro a = some o → W'.fro a = some o) (xj : ∀ a t, W.jn a = some t → W'.jn a = some t) : ∀ {vs : List (Key × V)} {ds : List (Key × D)}, DnK K W vs ds → DnK K W' vs ds
  | _, _, .nil => .nil
  | _, _, .cons h r => .cons (Dn.monoP xf xj h) (DnK.monoP xf xj r)
theorem DnF.monoP {K : PySem.W.Frag} {W W' : Wd} (xf : ∀ a o, W.fro a = some o → W'.fro a = some o) (xj : ∀ a t, W.jn a = some t → W'.jn a = some t) : ∀ {vs : List (Str × V)} {ds : List (Str × D)}, DnF K W vs ds → DnF K W' vs ds
  | _, _, .nil => .nil
  | _, _, .cons h r => .cons (Dn.monoP xf xj h) (DnF.monoP xf xj r)
end
theorem Dn.mono {K : PySem.W.Frag} {W W' : Wd} (x : W.le W') {v : V} {d : D} (h : Dn K W v d) : Dn K W' v d := Dn.monoP x.f x.j h
theorem Dns.mono {K : PySem.W.Frag} {W W' : Wd} (x : W.le W') {v : List V} {d : List D} (h : Dns K W v d) : Dns K W' v d := Dns.monoP x.f x.j h
theorem DnK.mono {K : PySem.W.Frag} {W W' : Wd} (x : W.le W') {v : List (Key × V)} {d : List (Key × D)} (h : DnK K W v d) : DnK K W' v d := DnK.monoP x.f x.j h
theorem DnF.mono {K : PySem.W.Frag} {W W' : Wd} (x : W.le W') {v : List (Str × V)} {d : List (Str × D)} (h : DnF K W v d) : DnF K W' v d := DnF.monoP x.f x.j h
theorem Dns.length {K : PySem.W.Frag} {W : Wd} : ∀ {vs : List V} {ds : List D}, Dns K W vs ds → vs.length = ds.length
  | _, _, .nil => rfl
  | _, _, .cons _ r => congrArg (· + 1) (Dns.length r)
theorem Dns.append {K : PySem.W.Frag} {W : Wd} : ∀ {vs us : List V} {ds es : List D}, Dns K W vs ds → Dns K W us es → Dns K W (vs ++ us) (ds ++ es)
  | _, _, _, _, .nil, s => s
  | _, _, _, _, .cons h r, s => .cons h (Dns.append r s)
theorem Dns.get {K : PySem.W.Frag} {W : Wd} : ∀ {vs : List V} {ds : List D} {i : Nat} {d : D}, Dns K W vs ds → ds[i]? = some d → ∃ v, vs[i]? = some v ∧ Dn K W v d
  | _, _, _, _, .nil, e => by simp at e
  | _, _, 0, d, .cons h r, e => by simp at e; subst e; exact ⟨_, rfl, h⟩
  | _, _, i + 1, d, .cons h r, e => by
    obtain ⟨v, h1, h2⟩ := Dns.get (i := i) r (by simpa using e)
    exact ⟨v, by simpa using h1, h2⟩
theorem Dns.getV {K : PySem.W.Frag} {W : Wd} : ∀ {vs : List V} {ds : List D} {i : Nat} {v : V}, Dns K W vs ds → vs[i]? = some v → ∃ d, ds[i]? = some d ∧ Dn K W v d
  | _, _, _, _, .nil, e => by simp at e
  | _, _, 0, d, .cons h r, e => by simp at e; subst e; exact ⟨_, rfl, h⟩
  | _, _, i + 1, d, .cons h r, e => by
    obtain ⟨v, h1, h2⟩ := Dns.getV (i := i) r (by simpa using e)
    exact ⟨v, by simpa using h1, h2⟩
theorem Dns.drop {K : PySem.W.Frag} {W : Wd} : ∀ {vs : List V} {ds : List D} (n : Nat), Dns K W vs ds → Dns K W (vs.drop n) (ds.drop n)
  | _, _, 0, r => r
  | _, _, _ + 1, .nil => .nil
  | _, _, n + 1, .cons _ r => Dns.drop n r
theorem Dns.take {K : PySem.W.Frag} {W : Wd} : ∀ {vs : List V} {ds : List D} (n : Nat), Dns K W vs ds → Dns K W (vs.take n) (ds.take n)
  | _, _, 0, _ => .nil
  | _, _, _ + 1, .nil => .nil
  | _, _, n + 1, .cons h r => .cons h (Dns.take n r)
theorem Dns.set {K : PySem.W.Frag} {W : Wd} {v : V} {d : D} (q : Dn K W v d) : ∀ {vs : List V} {ds : List D} (n : Nat), Dns K W vs ds → Dns K W (vs.set n v) (ds.set n d)
  | _, _, _, .nil => .nil
  | _, _, 0, .cons _ r => .cons q r
  | _, _, n + 1, .cons h r => .cons h (Dns.set q n r)
theorem Dns.reverse {K : PySem.W.Frag} {W : Wd} : ∀ {vs : List V} {ds : List D}, Dns K W vs ds → Dns K W vs.reverse ds.reverse
  | _, _, .nil => .nil
  | _, _, .cons h r => by
    rw [List.reverse_cons, List.reverse_cons]
    exact (Dns.reverse r).append (.cons h .nil)

/-- the invariants of the cells -/
structure JS where
  P : Nat → List D → Wd → HO → Prop
  mono : ∀ {n ds} {W W' : Wd} {o}, (∀ a u, W.fro a = some u → W'.fro a = some u) → (∀ a t, W.jn a = some t → W'.jn a = some t) → P n ds W o → P n ds W' o

/-- may be locked while it is walked -/
def Lk : HO → Prop
  | .dK _ => True
  | .dT _ => True
  | .set _ _ => True
  | .ext _ => True
  | _ => False
def Held (W : Wd) (H : Hp) (a : Addr) (o : HO) : Prop := (W.lk a = none ∧ H a = some o) ∨ (Lk o ∧ ∃ ob, W.lk a = some ob ∧ H a = some (.frz ob o))
structure WOk (J : JS) (W : Wd) (H : Hp) : Prop where
  f : ∀ a o, W.fro a = some o → Held W H a o
  j : ∀ a n ds, W.jn a = some (n, ds) → ∃ o, H a = some o ∧ J.P n ds W o
  d : ∀ a, W.fro a ≠ none → W.jn a = none
  n : ∀ a, W.fro a = none → W.lk a = none
theorem WOk.there {J : JS} {W : Wd} {H : Hp} (x : WOk J W H) {a : Addr} (h : W.has a) : ∃ o, H a = Option.some o := by
  rcases h with h | h
  · cases e : W.fro a with
    | none => exact absurd e h
    | some o =>
      rcases x.f a o e with ⟨_, q⟩ | ⟨_, ob, _, q⟩
      · exact ⟨_, q⟩
      · exact ⟨_, q⟩
  · cases e : W.jn a with
    | none => exact absurd e h
    | some t =>
      obtain ⟨n, ds⟩ := t
      obtain ⟨o, q, _⟩ := x.j a n ds e
      exact ⟨o, q⟩
theorem WOk.fresh {J : JS} {W : Wd} {H : Hp} (x : WOk J W H) {a : Addr} (h : H a = none) : ¬ W.has a := fun q => by
  obtain ⟨o, e⟩ := x.there q
  rw [h] at e; cases e
theorem WOk.lst {J : JS} {W : Wd} {H : Hp} (x : WOk J W H) {a : Addr} {vs : List V} (h : W.fro a = Option.some (.lst vs)) : H a = Option.some (.lst vs) := by
  rcases x.f _ _ h with ⟨_, q⟩ | ⟨q, _⟩
  · exact q
  · exact q.elim
theorem WOk.scr {J : JS} {W : Wd} {H : Hp} (x : WOk J W H) {K : PySem.W.Frag} {a : Addr} {vs : List V} (h : SqL K W.fro a vs) : SqL K H a vs := by
  rcases h with (h | ⟨o, h⟩) | h
  · rcases x.f a _ h with ⟨_, q⟩ | ⟨k, _⟩
    · exact .inl (.inl q)
    · exact k.elim
  · rcases x.f a _ h with ⟨_, q⟩ | ⟨k, _⟩
    · exact .inl (.inr ⟨o, q⟩)
    · exact k.elim
  · exact .inr h
theorem WOk.ins {J : JS} {W : Wd} {H : Hp} (x : WOk J W H) {a C dx : Addr} {vs : List (Str × V)} (h : W.fro a = Option.some (.ins C dx vs)) : H a = Option.some (.ins C dx vs) := by
  rcases x.f _ _ h with ⟨_, q⟩ | ⟨q, _⟩
  · exact q
  · exact q.elim
theorem WOk.tupP {J : JS} {W : Wd} {H : Hp} (x : WOk J W H) {K : PySem.W.Frag} {a : Addr} {vs : List V} (h : SqP K W.fro a vs) : SqP K H a vs := by
  rcases h with ⟨o, d, h⟩ | h
  · rcases x.f _ _ h with ⟨_, q⟩ | ⟨q, _⟩
    · exact .inl ⟨o, d, q⟩
    · exact q.elim
  · exact .inr h
theorem WOk.tup {J : JS} {W : Wd} {H : Hp} (x : WOk J W H) {K : PySem.W.Frag} {a : Addr} {vs : List V} (h : SqP K W.fro a vs) : SqT K H a vs := (x.tupP h).sq
theorem WOk.dic {J : JS} {W : Wd} {H : Hp} (x : WOk J W H) {a : Addr} {kvs : List (Key × V)} (h : W.fro a = Option.some (.dK kvs)) : Rd H a (.dK kvs) := by
  rcases x.f _ _ h with ⟨_, q⟩ | ⟨_, ob, _, q⟩
  · exact .inl q
  · exact .inr ⟨ob, q⟩

/-- a step: the world grows by new cells alone; all other cells stay -/
structure Stp (W : Wd) (H : Hp) (W' : Wd) (H' : Hp) : Prop where
  le : W.le W'
  keep : ∀ a o, H a = some o → ¬ W.has a → H' a = some o
  new : ∀ a, W'.has a → W.has a ∨ H a = none
theorem Stp.refl (W : Wd) (H : Hp) : Stp W H W H := ⟨.refl W, fun _ _ h _ => h, fun _ h => .inl h⟩
theorem Stp.nothas {W W' : Wd} {H H' : Hp} (x : Stp W H W' H') {a : Addr} {o : HO} (h : H a = some o) (n : ¬ W.has a) : ¬ W'.has a := fun q => by
  rcases x.new a q with q | q
  · exact n q
  · rw [h] at q; cases q
theorem Stp.back {J : JS} {W W' : Wd} {H H' : Hp} (x : Stp W H W' H') (w : WOk J W H) (w' : WOk J W' H') {a : Addr} (h : H' a = none) : H a = none := by
  cases e : H a with
  | none => rfl
  | some o =>
    by_cases q : W.has a
    · obtain ⟨u, r⟩ := w'.there (x.le.has q)
      rw [h] at r; cases r
    · rw [x.keep a o e q] at h; cases h
theorem Stp.trans {J : JS} {W W1 W2 : Wd} {H H1 H2 : Hp} (x : Stp W H W1 H1) (y : Stp W1 H1 W2 H2) (w : WOk J W H) (w1 : WOk J W1 H1) : Stp W H W2 H2 :=
  ⟨x.le.trans y.le, fun a o h n => y.keep a o (x.keep a o h n) (x.nothas h n), fun a h => by
    rcases y.new a h with q | q
    · exact x.new a q
    · exact .inr (x.back w w1 q)⟩

/-- what an expression gives, what a slot holds: data in the world; an own list (dict); a slot's own list as it is looked at -/
inductive Sd where
  | fro (d : D) | own (xs : List D) | brw (xs : List D) | ownd (kvs : List (Key × D)) | brwd (kvs : List (Key × D)) | owni (a : Addr) (C : Str) (fs : List (Str × D)) | brwi (a : Addr) (C : Str) (fs : List (Str × D))
def Sd.dat : Sd → D
  | .fro d => d
  | .own xs => .lst xs
  | .brw xs => .lst xs
  | .ownd kvs => .dic kvs
  | .owni aA cC kvs => .ins cC kvs
  | .brwd kvs => .dic kvs
  | .brwi aA cC kvs => .ins cC kvs
def LstAt (K : PySem.W.Frag) (W : Wd) (H : Hp) (v : V) (xs : List D) : Prop := ∃ a vs, v = .ref a ∧ H a = some (.lst vs) ∧ ¬ W.has a ∧ Dns K W vs xs
def DicAt (K : PySem.W.Frag) (W : Wd) (H : Hp) (v : V) (ds : List (Key × D)) : Prop := ∃ a kvs, v = .ref a ∧ H a = some (.dK kvs) ∧ ¬ W.has a ∧ DnK K W kvs ds
def InsAt (K : PySem.W.Frag) (W : Wd) (H : Hp) (v : V) (a : Addr) (C : Str) (ds : List (Str × D)) : Prop := ∃ (vs : Addr × List (Str × V)), v = .ref a ∧ H a = some (.ins (He.ga K C) vs.1 vs.2) ∧ ¬ W.has a ∧ DnF K W vs.2 ds
def New (H0 : Hp) (v : V) : Prop := ∀ a, v = .ref a → H0 a = none
/-- what a value is, in world W and heap H; Hs: the heap ahead; H0: at the entry -/
def RepR (K : PySem.W.Frag) (W : Wd) (H Hs H0 : Hp) (v : V) : Sd → Prop
  | .fro d => Dn K W v d
  | .own xs => LstAt K W H v xs ∧ New Hs v
  | .brw xs => LstAt K W H v xs ∧ New H0 v
  | .ownd ds => DicAt K W H v ds ∧ New Hs v
  | .owni aA cC ds => InsAt K W H v aA cC ds ∧ New Hs v
  | .brwd ds => DicAt K W H v ds ∧ New H0 v
  | .brwi aA cC ds => InsAt K W H v aA cC ds ∧ New H0 v
/-- a def hands its own list out -/
def Sd.ret : Sd → Sd
  | .brw xs => .own xs
  | .brwd kvs => .ownd kvs
  | .brwi aA cC kvs => .owni aA cC kvs
  | s => s
/-- a slot -/
def RepS (K : PySem.W.Frag) (W : Wd) (H : Hp) (v : V) : Sd → Prop
  | .fro d => Dn K W v d
  | .own xs => LstAt K W H v xs
  | .ownd ds => DicAt K W H v ds
  | .owni aA cC ds => InsAt K W H v aA cC ds
  | _ => False
def Sd.mine : Sd → Bool
  | .own _ => true
  | .ownd _ => true
  | .owni _ _ _ => true
  | _ => false
/-- how a slot is looked at -/
def Sd.view : Sd → Sd
  | .own xs => .brw xs
  | .ownd kvs => .brwd kvs
  | .owni aA cC kvs => .brwi aA cC kvs
  | s => s
abbrev Dl := List (Option Sd)
structure Stt (K : PySem.W.Frag) (J : JS) (W0 : Wd) (H0 : Hp) (Δ : Dl) (W : Wd) (σ : L2.St) (H : Hp) : Prop where
  len : Δ.length = σ.length
  wok : WOk J W H
  ext : W0.le W
  new : ∀ a, W.has a → W0.has a ∨ H0 a = none
  frm : ∀ a o, H0 a = some o → ¬ W0.has a → H a = some o
  dom : ∀ a, H0 a ≠ none → H a ≠ none
  slot : ∀ (i : Nat) s, Δ[i]? = some (some s) → ∃ v, σ[i]? = some (some v) ∧ RepS K W H v s
  own : ∀ (i : Nat) s v, Δ[i]? = some (some s) → s.mine = true → σ[i]? = some (some v) → New H0 v
  sep : ∀ (i j : Nat) s t v, i ≠ j → Δ[i]? = some (some s) → Δ[j]? = some (some t) → s.mine = true → t.mine = true → σ[i]? = some (some v) → σ[j]? ≠ some (some v)
section
variable {K : PySem.W.Frag} {J : JS} {W0 W W' : Wd} {H0 H H' : Hp} {Δ : Dl} {σ : L2.St}
theorem LstAt.stp {v : V} {xs : List D} (h : LstAt K W H v xs) (x : Stp W H W' H') : LstAt K W' H' v xs := by
  obtain ⟨a, vs, e, ha, n, r⟩ := h
  exact ⟨a, vs, e, x.keep a _ ha n, x.nothas ha n, r.mono x.le⟩
theorem DicAt.stp {v : V} {xs : List (Key × D)} (h : DicAt K W H v xs) (x : Stp W H W' H') : DicAt K W' H' v xs := by
  obtain ⟨a, vs, e, ha, n, r⟩ := h
  exact ⟨a, vs, e, x.keep a _ ha n, x.nothas ha n, r.mono x.le⟩
theorem InsAt.stp {v : V} {a : Addr} {C : Str} {xs : List (Str × D)} (h : InsAt K W H v a C xs) (x : Stp W H W' H') : InsAt K W' H' v a C xs := by
  obtain ⟨vs, e, ha, n, r⟩ := h
  exact ⟨vs, e, x.keep a _ ha n, x.nothas ha n, r.mono x.le⟩
theorem RepR.stp {Hs Hz : Hp} {v : V} : ∀ {s : Sd}, RepR K W H Hs Hz v s → Stp W H W' H' → RepR K W' H' Hs Hz v s
  | .fro _, h, x => Dn.mono x.le h
  | .own _, h, x => ⟨h.1.stp x, h.2⟩
  | .brw _, h, x => ⟨h.1.stp x, h.2⟩
  | .ownd _, h, x => ⟨h.1.stp x, h.2⟩
  | .owni _ _ _, h, x => ⟨h.1.stp x, h.2⟩
  | .brwd _, h, x => ⟨h.1.stp x, h.2⟩
  | .brwi _ _ _, h, x => ⟨h.1.stp x, h.2⟩
theorem RepS.stp {v : V} : ∀ {s : Sd}, RepS K W H v s → Stp W H W' H' → RepS K W' H' v s
  | .fro _, h, x => Dn.mono x.le h
  | .own _, h, x => LstAt.stp h x
  | .ownd _, h, x => DicAt.stp h x
  | .owni _ _ _, h, x => InsAt.stp h x
  | .brw _, h, _ => h.elim
  | .brwd _, h, _ => h.elim
  | .brwi _ _ _, h, _ => h.elim
theorem New.back {v : V} {Hs Hs' : Hp} (h : New Hs' v) (b : ∀ a, Hs' a = none → Hs a = none) : New Hs v := fun a e => b a (h a e)
theorem RepR.hs {Hs Hs' Hz : Hp} {v : V} (b : ∀ a, Hs' a = none → Hs a = none) : ∀ {s : Sd}, RepR K W H Hs' Hz v s → RepR K W H Hs Hz v s
  | .fro _, h => h
  | .own _, h => ⟨h.1, h.2.back b⟩
  | .brw _, h => h
  | .ownd _, h => ⟨h.1, h.2.back b⟩
  | .owni _ _ _, h => ⟨h.1, h.2.back b⟩
  | .brwd _, h => h
  | .brwi _ _ _, h => h
theorem RepR.ret {Hs Hz : Hp} {v : V} (b : ∀ a, Hs a = none → Hz a = none) : ∀ {s : Sd}, RepR K W H Hs Hz v s → RepR K W H Hz Hz v s.ret
  | .fro _, h => h
  | .own _, h => ⟨h.1, h.2.back b⟩
  | .brw _, h => h
  | .ownd _, h => ⟨h.1, h.2.back b⟩
  | .owni _ _ _, h => ⟨h.1, h.2.back b⟩
  | .brwd _, h => h
  | .brwi _ _ _, h => h
theorem Stt.back0 (x : Stt K J W0 H0 Δ W σ H) : ∀ a, H a = none → H0 a = none := fun a e => by
  cases q : H0 a with
  | none => rfl
  | some o => exact absurd e (x.dom a (by rw [q]; simp))
/-- behind a step -/
theorem Stt.stp (x : Stt K J W0 H0 Δ W σ H) (y : Stp W H W' H') (w : WOk J W' H') : Stt K J W0 H0 Δ W' σ H' where
  len := x.len
  wok := w
  ext := x.ext.trans y.le
  new := fun a h => by
    rcases y.new a h with q | q
    · exact x.new a q
    · exact .inr (x.back0 a q)
  frm := fun a o h n => y.keep a o (x.frm a o h n) fun q => by
    rcases x.new a q with r | r
    · exact n r
    · rw [h] at r; cases r
  dom := fun a h e => h (x.back0 a (y.back x.wok w e))
  slot := fun i s h => by
    obtain ⟨v, e, r⟩ := x.slot i s h
    exact ⟨v, e, r.stp y⟩
  own := x.own
  sep := x.sep
end
/-- the world with one more frozen cell -/
def Wd.add (W : Wd) (a : Addr) (o : HO) : Wd := ⟨upd W.fro a o, W.jn, W.lk⟩
section
variable {K : PySem.W.Frag} {J : JS} {W0 W W' : Wd} {H0 H H' : Hp} {Δ : Dl} {σ : L2.St} {a : Addr} {o : HO}
theorem Wd.le_add (n : ¬ W.has a) : W.le (W.add a o) := ⟨fun b u h => by
  by_cases e : b = a
  · subst e; exact absurd (.inl (by rw [h]; simp)) n
  · show upd W.fro a o b = _
    rw [upd_ne e]; exact h, fun _ _ h => h, fun _ _ => rfl⟩
theorem Wd.add_at : (W.add a o).fro a = some o := upd_same
theorem Wd.has_add {b : Addr} (h : (W.add a o).has b) : W.has b ∨ b = a := by
  by_cases e : b = a
  · exact .inr e
  · refine .inl ?_
    rcases h with h | h
    · refine .inl ?_
      have h' : upd W.fro a o b ≠ none := h
      rw [upd_ne e] at h'
      exact h'
    · exact .inr h
theorem WOk.add (w : WOk J W H) (n : ¬ W.has a) (h : H a = some o) : WOk J (W.add a o) H where
  f := fun b u e => by
    by_cases q : b = a
    · subst q
      have e' : upd W.fro b o b = some u := e
      rw [upd_same] at e'; cases e'
      refine .inl ⟨w.n b ?_, h⟩
      cases r : W.fro b with
      | none => rfl
      | some t => exact absurd (.inl (by rw [r]; simp)) n
    · have e' : upd W.fro a o b = some u := e
      rw [upd_ne q] at e'
      exact w.f b u e'
  j := fun b m ds e => by
    obtain ⟨u, h1, h2⟩ := w.j b m ds e
    exact ⟨u, h1, J.mono (Wd.le_add n).f (Wd.le_add n).j h2⟩
  d := fun b e => by
    by_cases q : b = a
    · subst q
      cases r : W.jn b with
      | none => exact r
      | some t => exact absurd (.inr (by rw [r]; simp)) n
    · have e' : upd W.fro a o b ≠ none := e
      rw [upd_ne q] at e'
      exact w.d b e'
  n := fun b e => by
    have hb : b ≠ a := fun q => by
      subst q
      have e' : upd W.fro b o b = none := e
      rw [upd_same] at e'; cases e'
    have e' : upd W.fro a o b = none := e
    rw [upd_ne hb] at e'
    exact w.n b e'
/-- a cell is laid, not in the world -/
theorem WOk.laid (w : WOk J W H) (hn : H a = none) : WOk J W (upd H a o) where
  f := fun b u e => by
    have hb : b ≠ a := fun q => by
      subst q
      exact w.fresh hn (.inl (by rw [e]; simp))
    rcases w.f b u e with ⟨l, q⟩ | ⟨l, ob, m, q⟩
    · exact .inl ⟨l, by rw [upd_ne hb]; exact q⟩
    · exact .inr ⟨l, ob, m, by rw [upd_ne hb]; exact q⟩
  j := fun b m ds e => by
    have hb : b ≠ a := fun q => by
      subst q
      exact w.fresh hn (.inr (by rw [e]; simp))
    obtain ⟨u, h1, h2⟩ := w.j b m ds e
    exact ⟨u, by rw [upd_ne hb]; exact h1, h2⟩
  d := w.d
  n := w.n
theorem Stp.laid (W : Wd) (hn : H a = none) : Stp W H W (upd H a o) :=
  ⟨.refl W, fun b u h _ => by rw [upd_ne (ne_of_none h hn)]; exact h, fun _ h => .inl h⟩
theorem Stp.froz (w : WOk J W H) (hn : H a = none) : Stp W H (W.add a o) (upd H a o) :=
  ⟨Wd.le_add (w.fresh hn), fun b u h _ => by rw [upd_ne (ne_of_none h hn)]; exact h, fun b h => by
    rcases Wd.has_add h with q | q
    · exact .inl q
    · subst q; exact .inr hn⟩
theorem WOk.froz (w : WOk J W H) (hn : H a = none) : WOk J (W.add a o) (upd H a o) := (w.laid hn).add (w.fresh hn) upd_same
/-- an own cell that no slot holds is frozen; Hs: a heap ahead, in which it was not yet -/
theorem Stp.freeze {Hs : Hp} {Ws : Wd} (y : Stp Ws Hs W H) (n : ¬ W.has a) (hs : Hs a = none) : Stp Ws Hs (W.add a o) H :=
  ⟨y.le.trans (Wd.le_add n), y.keep, fun b h => by
    rcases Wd.has_add h with q | q
    · exact y.new b q
    · subst q; exact .inr hs⟩
end
end DL
set_option Elab.async false
set_option linter.all false
set_option maxRecDepth 100000
set_option maxHeartbeats 4000000
namespace DL
open PySem PySem.Spec PyProof.Rows L2

/-- an exception by its class's name and its fields -/
structure ED where
  C : Str
  fs : List (Str × D)
def ExR (K : PySem.W.Frag) (W : Wd) (H : Hp) (e : ED) (cls : Value) (d : Option Addr) : Prop :=
  cls = .ref (He.ga K e.C) ∧ ((e.fs = [] ∧ d = none) ∨ ∃ dd vs, d = some dd ∧ H dd = some (.xd vs) ∧ DnF K W vs e.fs)

abbrev TD := Dl → (Sd → Prop) → (ED → Prop) → Prop
abbrev TDT := Dl → (Bool → Prop) → (ED → Prop) → Prop
abbrev TDA := Dl → (List D → Prop) → (ED → Prop) → Prop
abbrev TDB := Dl → (List Sd → Prop) → (ED → Prop) → Prop
structure EndsD where
  nx : Dl → Prop
  rt : Sd → Prop
  bk : Dl → Prop := fun _ => False
  ct : Dl → Prop := fun _ => False
  ex : ED → Dl → Prop := fun _ _ => False
abbrev TDS := EndsD → Dl → Prop

section
variable (K : PySem.W.Frag) (J : JS) (Wx : WX) (W0 : Wd) (H0 : Hp) (Δ : Dl) (W : Wd) (σ : L2.St) (H : Hp)
def LkE (Qd : Sd → Prop) (Q : VK) : Prop := ∀ s v W' H', Qd s → Stt K J W0 H0 Δ W' σ H' → Stp W H W' H' → RepR K W' H' H H0 v s → Q v H'
def LkX (Xd : ED → Prop) : Prop := ∀ e cls d W' H', Xd e → Stt K J W0 H0 Δ W' σ H' → Stp W H W' H' → ExR K W' H' e cls d → Wx cls d σ H'
def LkB (Qd : Bool → Prop) (Q : Bool → Hp → Prop) : Prop := ∀ b W' H', Qd b → Stt K J W0 H0 Δ W' σ H' → Stp W H W' H' → Q b H'
def LkA (Qd : List D → Prop) (Q : List V → Hp → Prop) : Prop := ∀ ds vs W' H', Qd ds → Stt K J W0 H0 Δ W' σ H' → Stp W H W' H' → Dns K W' vs ds → Q vs H'
end
/-- values as they are -/
inductive RepL (K : PySem.W.Frag) (W : Wd) (H Hs H0 : Hp) : List V → List Sd → Prop
  | nil : RepL K W H Hs H0 [] []
  | cons {v vs s ss} : RepR K W H Hs H0 v s → RepL K W H Hs H0 vs ss → RepL K W H Hs H0 (v :: vs) (s :: ss)
section
variable (K : PySem.W.Frag) (J : JS) (Wx : WX)
def LkL (W0 : Wd) (H0 : Hp) (Δ : Dl) (W : Wd) (σ : L2.St) (H : Hp) (Qd : List Sd → Prop) (Q : List V → Hp → Prop) : Prop :=
  ∀ ss vs W' H', Qd ss → Stt K J W0 H0 Δ W' σ H' → Stp W H W' H' → RepL K W' H' H H0 vs ss → Q vs H'
def liftE (t : TD) : TE := fun σ H Q => ∃ W0 H0 Δ W Qd Xd, Stt K J W0 H0 Δ W σ H ∧ t Δ Qd Xd ∧ LkE K J W0 H0 Δ W σ H Qd Q ∧ LkX K J Wx W0 H0 Δ W σ H Xd
def liftT (t : TDT) : TT := fun σ H Q => ∃ W0 H0 Δ W Qd Xd, Stt K J W0 H0 Δ W σ H ∧ t Δ Qd Xd ∧ LkB K J W0 H0 Δ W σ H Qd Q ∧ LkX K J Wx W0 H0 Δ W σ H Xd
def liftA (t : TDA) : TA := fun σ H Q => ∃ W0 H0 Δ W Qd Xd, Stt K J W0 H0 Δ W σ H ∧ t Δ Qd Xd ∧ LkA K J W0 H0 Δ W σ H Qd Q ∧ LkX K J Wx W0 H0 Δ W σ H Xd
def liftB (t : TDB) : TA := fun σ H Q => ∃ W0 H0 Δ W Qd Xd, Stt K J W0 H0 Δ W σ H ∧ t Δ Qd Xd ∧ LkL K J W0 H0 Δ W σ H Qd Q ∧ LkX K J Wx W0 H0 Δ W σ H Xd
structure LkS (W0 : Wd) (H0 : Hp) (Wb : Wd) (DD : EndsD) (D : Ends) : Prop where
  nx : ∀ Δ W σ H, DD.nx Δ → Stt K J W0 H0 Δ W σ H → Wb.le W → D.nx σ H
  bk : ∀ Δ W σ H, DD.bk Δ → Stt K J W0 H0 Δ W σ H → Wb.le W → D.bk σ H
  ct : ∀ Δ W σ H, DD.ct Δ → Stt K J W0 H0 Δ W σ H → Wb.le W → D.ct σ H
  rt : ∀ s v Δ W σ H, DD.rt s → Stt K J W0 H0 Δ W σ H → Wb.le W → RepR K W H H0 H0 v s → D.rt v H
  ex : ∀ e cls d Δ W σ H, DD.ex e Δ → Stt K J W0 H0 Δ W σ H → Wb.le W → ExR K W H e cls d → Wx cls d σ H
def liftS (t : TDS) : TS := fun D σ H => ∃ W0 H0 Δ W DD, Stt K J W0 H0 Δ W σ H ∧ t DD Δ ∧ LkS K J Wx W0 H0 W DD D
end
abbrev DE (X : Cx) (J : JS) (Wx : WX) (e : Expr) (t : TD) : Prop := PE X e (liftE X.K J Wx t)
abbrev DT (X : Cx) (J : JS) (Wx : WX) (e : Expr) (t : TDT) : Prop := PT X e (liftT X.K J Wx t)
abbrev DW (X : Cx) (J : JS) (Wx : WX) (e : Expr) (t : TDT) : Prop := PW X e (liftT X.K J Wx t)
abbrev DA (X : Cx) (J : JS) (Wx : WX) (es : List Expr) (t : TDA) : Prop := PA X es (liftA X.K J Wx t)
abbrev DB (X : Cx) (J : JS) (Wx : WX) (es : List Expr) (t : TDB) : Prop := PA X es (liftB X.K J Wx t)
abbrev DS (X : Cx) (J : JS) (Wx : WX) (st : Stmt) (t : TDS) : Prop := PS X st (liftS X.K J Wx t)
abbrev DSs (X : Cx) (J : JS) (Wx : WX) (st : List Stmt) (t : TDS) : Prop := PSs X st (liftS X.K J Wx t)

section
variable {X : Cx}
theorem _root_.L2.PE.imp {e : Expr} {t t' : TE} (h : PE X e t) (k : ∀ σ H Q, t' σ H Q → t σ H Q) : PE X e t' := ⟨fun pins s σ H Q I q => h.run pins s σ H Q I (k σ H Q q)⟩
theorem _root_.L2.PT.imp {e : Expr} {t t' : TT} (h : PT X e t) (k : ∀ σ H Q, t' σ H Q → t σ H Q) : PT X e t' := ⟨fun pins s σ H Q I q => h.run pins s σ H Q I (k σ H Q q)⟩
theorem _root_.L2.PW.imp {e : Expr} {t t' : TT} (h : PW X e t) (k : ∀ σ H Q, t' σ H Q → t σ H Q) : PW X e t' := ⟨fun wh pins s σ H Q I q => h.run wh pins s σ H Q I (k σ H Q q)⟩
theorem _root_.L2.PA.imp {e : List Expr} {t t' : TA} (h : PA X e t) (k : ∀ σ H Q, t' σ H Q → t σ H Q) : PA X e t' := ⟨fun p pins s σ H Q I q => h.run p pins s σ H Q I (k σ H Q q)⟩
theorem _root_.L2.PS.imp {e : Stmt} {t t' : TS} (h : PS X e t) (k : ∀ D σ H, t' D σ H → t D σ H) : PS X e t' := ⟨fun pins s σ H D I q => h.run pins s σ H D I (k D σ H q)⟩
theorem _root_.L2.PSs.imp {e : List Stmt} {t t' : TS} (h : PSs X e t) (k : ∀ D σ H, t' D σ H → t D σ H) : PSs X e t' := ⟨fun pins s σ H D I q => h.run pins s σ H D I (k D σ H q)⟩
end

section
variable {K : PySem.W.Frag} {J : JS} {Wx : WX} {W0 W W1 : Wd} {H0 H H1 : Hp} {Δ : Dl} {σ : L2.St}
theorem LkE.at {Qd : Sd → Prop} {Q : VK} (l : LkE K J W0 H0 Δ W σ H Qd Q) (st : Stt K J W0 H0 Δ W σ H) (st1 : Stt K J W0 H0 Δ W1 σ H1) (y : Stp W H W1 H1) : LkE K J W0 H0 Δ W1 σ H1 Qd Q :=
  fun s v W' H' q st' y' r => l s v W' H' q st' (y.trans y' st.wok st1.wok) (r.hs fun a e => y.back st.wok st1.wok e)
theorem LkX.at {Xd : ED → Prop} (l : LkX K J Wx W0 H0 Δ W σ H Xd) (st : Stt K J W0 H0 Δ W σ H) (st1 : Stt K J W0 H0 Δ W1 σ H1) (y : Stp W H W1 H1) : LkX K J Wx W0 H0 Δ W1 σ H1 Xd :=
  fun e c d W' H' q st' y' r => l e c d W' H' q st' (y.trans y' st.wok st1.wok) r
theorem LkB.at {Qd : Bool → Prop} {Q : Bool → Hp → Prop} (l : LkB K J W0 H0 Δ W σ H Qd Q) (st : Stt K J W0 H0 Δ W σ H) (st1 : Stt K J W0 H0 Δ W1 σ H1) (y : Stp W H W1 H1) : LkB K J W0 H0 Δ W1 σ H1 Qd Q :=
  fun b W' H' q st' y' => l b W' H' q st' (y.trans y' st.wok st1.wok)
theorem RepL.hs {Hs Hs' Hz : Hp} {vs : List V} {ss : List Sd} (b : ∀ a, Hs' a = none → Hs a = none) (h : RepL K W H Hs' Hz vs ss) : RepL K W H Hs Hz vs ss := by
  induction h with
  | nil => exact .nil
  | cons r _ ih => exact .cons (r.hs b) ih
theorem RepL.stp {Hs Hz : Hp} {vs : List V} {ss : List Sd} (h : RepL K W H Hs Hz vs ss) (y : Stp W H W1 H1) : RepL K W1 H1 Hs Hz vs ss := by
  induction h with
  | nil => exact .nil
  | cons r _ ih => exact .cons (r.stp y) ih
end

/-! ### names, constants -/
section
variable {X : Cx} {J : JS} {Wx : WX}
def dVar (i : Nat) : TD := fun Δ Q _ => match Δ[i]? with
  | some (some s) => Q s.view
  | _ => False
def dC (s : Sd) : TD := fun _ Q _ => Q s
theorem de_var {e : Expr} {i : Nat} (h : PE X e (tVar i)) : DE X J Wx e (dVar i) := h.imp fun σ H Q ⟨W0, H0, Δ, W, Qd, Xd, st, ht, lk, lx⟩ => by
  unfold dVar at ht
  split at ht
  · rename_i s e
    obtain ⟨v, e2, r⟩ := st.slot i s e
    refine ⟨v, e2, lk s.view v W H ht st (.refl W H) ?_⟩
    cases s with
    | fro d => exact r
    | own xs => exact ⟨r, st.own i _ v e rfl e2⟩
    | ownd xs => exact ⟨r, st.own i _ v e rfl e2⟩
    | owni aA cC xs => exact ⟨r, st.own i _ v e rfl e2⟩
    | brw xs => exact r.elim
    | brwd xs => exact r.elim
    | brwi aA cC xs => exact r.elim
  · exact ht.elim
theorem de_c {e : Expr} {v : V} {d : D} (h : PE X e (tC v)) (r : ∀ W, Dn X.K W v d) : DE X J Wx e (dC (.fro d)) := h.imp fun σ H Q ⟨W0, H0, Δ, W, Qd, Xd, st, ht, lk, lx⟩ =>
  lk _ v W H ht st (.refl W H) (r W)
theorem de_int {i j pos} : DE X J Wx (.Constant (.int i) j pos) (dC (.fro (.int i))) := de_c pe_int fun _ => .int i
theorem de_bl {i j pos} : DE X J Wx (.Constant (.bool i) j pos) (dC (.fro (.bl i))) := de_c pe_bl fun _ => .bl i
theorem de_str {i j pos} : DE X J Wx (.Constant (.str i) j pos) (dC (.fro (.str i))) := de_c pe_str fun _ => .str i
theorem de_non {j pos} : DE X J Wx (.Constant .none j pos) (dC (.fro .non)) := de_c pe_non fun _ => .non
theorem de_glint {x : Str} {i : Int} {pos : Pos} (hg : Gl X x) (hm : ∃ t, X.mg x = some (.int i t)) (hd : (x == ("__debug__" : Str)) = false := by decide) : DE X J Wx (.Name x pos) (dC (.fro (.int i))) := by
  obtain ⟨t, hm⟩ := hm
  exact de_c (pe_glob (v := .int i) hg hm ⟨t, rfl⟩ hd) fun _ => .int i
theorem de_glstr {x : Str} {i : Str} {pos : Pos} (hg : Gl X x) (hm : ∃ t, X.mg x = some (.str i t)) (hd : (x == ("__debug__" : Str)) = false := by decide) : DE X J Wx (.Name x pos) (dC (.fro (.str i))) := by
  obtain ⟨t, hm⟩ := hm
  exact de_c (pe_glob (v := .str i) hg hm ⟨t, rfl⟩ hd) fun _ => .str i

/-! ### arguments -/
/-- what is handed on stays as it is from there on -/
def sFrz (s : Sd) (Q : D → Prop) : Prop := match s with
  | .fro d => Q d
  | .own xs => Q (.lst xs)
  | .ownd kvs => Q (.dic kvs)
  | .owni aA cC kvs => Q (.ins cC kvs)
  | _ => False
section
variable {K : PySem.W.Frag} {W0 W : Wd} {H0 H Hs : Hp} {Δ : Dl} {σ : L2.St}
/-- freezing: the world grows, the heap stays -/
theorem frz_ok {Ws : Wd} {v : V} {s : Sd} {Qd : D → Prop} (st : Stt K J W0 H0 Δ W σ H) (y : Stp Ws Hs W H) (ws : Stt K J W0 H0 Δ Ws σ Hs) (r : RepR K W H Hs H0 v s) (q : sFrz s Qd) :
    ∃ d W', Qd d ∧ W.le W' ∧ Stt K J W0 H0 Δ W' σ H ∧ Stp Ws Hs W' H ∧ Dn K W' v d := by
  have slots : ∀ {a o}, v = .ref a → Hs a = none → H a = some o → ¬ W.has a → Stt K J W0 H0 Δ (W.add a o) σ H := fun {a o} ev hn ha nh => {
    len := st.len
    wok := st.wok.add nh ha
    ext := st.ext.trans (Wd.le_add nh)
    new := fun b h => by
      rcases Wd.has_add h with q | q
      · exact st.new b q
      · subst q; exact .inr (ws.back0 b hn)
    frm := st.frm
    dom := st.dom
    slot := fun i t h => by
      obtain ⟨u, e, r⟩ := st.slot i t h
      refine ⟨u, e, ?_⟩
      have old : ∀ b, u = .ref b → b ≠ a ∨ t.mine = false := fun b eb => by
        by_cases hb : b = a
        · subst hb
          refine .inr ?_
          cases hm : t.mine with
          | false => rfl
          | true =>
            obtain ⟨u', e', r'⟩ := ws.slot i t h
            have eu : u' = u := by rw [e] at e'; exact (Option.some.inj (Option.some.inj e')).symm
            subst eu
            cases t with
            | own xs =>
              obtain ⟨c, vs, ec, hc, _⟩ := r'
              rw [eb] at ec; cases ec
              rw [hn] at hc; cases hc
            | ownd xs =>
              obtain ⟨c, vs, ec, hc, _⟩ := r'
              rw [eb] at ec; cases ec
              rw [hn] at hc; cases hc
            | owni aA cC xs =>
              obtain ⟨vs, ec, hc, _⟩ := r'
              rw [eb] at ec; cases ec
              rw [hn] at hc; cases hc
            | fro _ => cases hm
            | brw _ => cases hm
            | brwd _ => cases hm
            | brwi _ _ _ => cases hm
        · exact .inl hb
      have nh' : ∀ b, u = .ref b → t.mine = true → ¬ W.has b → ¬ (W.add a o).has b := fun b eb hm n q => by
        rcases Wd.has_add q with q | q
        · exact n q
        · rcases old b eb with z | z
          · exact z q
          · rw [hm] at z; cases z
      cases t with
      | fro d => exact Dn.mono (Wd.le_add nh) r
      | own xs =>
        obtain ⟨c, vs, ec, hc, n, rr⟩ := r
        exact ⟨c, vs, ec, hc, nh' c ec rfl n, rr.mono (Wd.le_add nh)⟩
      | ownd xs =>
        obtain ⟨c, vs, ec, hc, n, rr⟩ := r
        exact ⟨c, vs, ec, hc, nh' c ec rfl n, rr.mono (Wd.le_add nh)⟩
      | owni aA cC xs =>
        obtain ⟨vs, ec, hc, n, rr⟩ := r
        exact ⟨vs, ec, hc, nh' aA ec rfl n, rr.mono (Wd.le_add nh)⟩
      | brw _ => exact r.elim
      | brwd _ => exact r.elim
      | brwi _ _ _ => exact r.elim
    own := st.own
    sep := st.sep }
  cases s with
  | fro d => exact ⟨d, W, q, .refl W, st, y, r⟩
  | own xs =>
    obtain ⟨⟨a, vs, e, ha, n, rr⟩, hn⟩ := r
    subst e
    have hn := hn a rfl
    exact ⟨_, W.add a (.lst vs), q, Wd.le_add n, slots rfl hn ha n, y.freeze n hn, .lst Wd.add_at (rr.mono (Wd.le_add n))⟩
  | ownd xs =>
    obtain ⟨⟨a, vs, e, ha, n, rr⟩, hn⟩ := r
    subst e
    have hn := hn a rfl
    exact ⟨_, W.add a (.dK vs), q, Wd.le_add n, slots rfl hn ha n, y.freeze n hn, .dic Wd.add_at (rr.mono (Wd.le_add n))⟩
  | owni aA cC xs =>
    obtain ⟨⟨vs, e, ha, n, rr⟩, hn⟩ := r
    subst e
    have hn := hn aA rfl
    exact ⟨_, W.add aA (.ins (He.ga K cC) vs.1 vs.2), q, Wd.le_add n, slots rfl hn ha n, y.freeze n hn, .ins Wd.add_at (rr.mono (Wd.le_add n))⟩
  | brw _ => exact q.elim
  | brwd _ => exact q.elim
  | brwi _ _ _ => exact q.elim
end
def dNil : TDA := fun _ Q _ => Q []
def dCons (t : TD) (u : TDA) : TDA := fun Δ Q E => t Δ (fun s => sFrz s fun d => u Δ (fun ds => Q (d :: ds)) E) E
theorem da_nil : DA X J Wx [] dNil := pa_nil.imp fun σ H Q ⟨W0, H0, Δ, W, Qd, Xd, st, ht, lk, lx⟩ => lk _ _ W H ht st (.refl W H) .nil
theorem da_cons {e : Expr} {es : List Expr} {t : TD} {u : TDA} (h : DE X J Wx e t) (hr : DA X J Wx es u) (hs : starEach (e :: es) X.env = (false, eval e X.env) :: starEach es X.env := by rfl) : DA X J Wx (e :: es) (dCons t u) :=
  (pa_cons h hr hs).imp fun σ H Q ⟨W0, H0, Δ, W, Qd, Xd, st, ht, lk, lx⟩ => by
    refine ⟨W0, H0, Δ, W, _, Xd, st, ht, fun s v W1 H1 q st1 y1 r1 => ?_, lx⟩
    obtain ⟨d, W2, q2, _, st2, y2, r2⟩ := frz_ok st1 y1 st r1 q
    refine ⟨W0, H0, Δ, W2, _, Xd, st2, q2, fun ds vs W3 H3 q3 st3 y3 r3 => ?_, lx.at st st2 y2⟩
    exact lk _ _ W3 H3 q3 st3 (y2.trans y3 st.wok st2.wok) (.cons (r2.mono y3.le) r3)
def bNil : TDB := fun _ Q _ => Q []
def bCons (t : TD) (u : TDB) : TDB := fun Δ Q E => t Δ (fun s => u Δ (fun ds => Q (s :: ds)) E) E
theorem db_nil : DB X J Wx [] bNil := pa_nil.imp fun σ H Q ⟨W0, H0, Δ, W, Qd, Xd, st, ht, lk, lx⟩ => lk _ _ W H ht st (.refl W H) .nil
theorem db_cons {e : Expr} {es : List Expr} {t : TD} {u : TDB} (h : DE X J Wx e t) (hr : DB X J Wx es u) (hs : starEach (e :: es) X.env = (false, eval e X.env) :: starEach es X.env := by rfl) : DB X J Wx (e :: es) (bCons t u) :=
  (pa_cons h hr hs).imp fun σ H Q ⟨W0, H0, Δ, W, Qd, Xd, st, ht, lk, lx⟩ => by
    refine ⟨W0, H0, Δ, W, _, Xd, st, ht, fun s v W1 H1 q st1 y1 r1 => ?_, lx⟩
    refine ⟨W0, H0, Δ, W1, _, Xd, st1, q, fun ds vs W3 H3 q3 st3 y3 r3 => ?_, lx.at st st1 y1⟩
    exact lk _ _ W3 H3 q3 st3 (y1.trans y3 st.wok st1.wok) (.cons (r1.stp y3) (r3.hs fun a e => y1.back st.wok st1.wok e))

/-! ### operators, by rules over values -/
def OpS (K : PySem.W.Frag) (J : JS) (r : R2) (f : Sd → Sd → (Sd → Prop) → Prop) : Prop :=
  ∀ {W0 H0 Δ W σ H Hs} {Qd : Sd → Prop} {Q : VK} {x y : Sd} {v u : V}, Stt K J W0 H0 Δ W σ H → RepR K W H Hs H0 v x → RepR K W H Hs H0 u y → f x y Qd → LkE K J W0 H0 Δ W σ H Qd Q → r v u H Q
def dOp (f : Sd → Sd → (Sd → Prop) → Prop) (ta tb : TD) : TD := fun Δ Q E => ta Δ (fun x => tb Δ (fun y => f x y Q) E) E
theorem op_lift {r : R2} {f : Sd → Sd → (Sd → Prop) → Prop} {ta tb : TD} (hf : OpS X.K J r f) : ∀ σ H Q, liftE X.K J Wx (dOp f ta tb) σ H Q → tOp r (liftE X.K J Wx ta) (liftE X.K J Wx tb) σ H Q := fun σ H Q ⟨W0, H0, Δ, W, Qd, Xd, st, ht, lk, lx⟩ => by
  refine ⟨W0, H0, Δ, W, _, Xd, st, ht, fun s v W1 H1 q st1 y1 r1 => ?_, lx⟩
  refine ⟨W0, H0, Δ, W1, _, Xd, st1, q, fun s2 v2 W2 H2 q2 st2 y2 r2 => ?_, lx.at st st1 y1⟩
  exact hf st2 (r1.stp y2) (r2.hs fun a e => y1.back st.wok st1.wok e) q2 (lk.at st st2 (y1.trans y2 st.wok st1.wok))
section
variable {a b c : Expr} {ta tb tc : TD} {f g : Sd → Sd → (Sd → Prop) → Prop} {r r' : R2} {pos : Pos}
theorem de_op {op : Operator} (ho : OpR X (binaryOp op) r) (hf : OpS X.K J r f) (ha : DE X J Wx a ta) (hb : DE X J Wx b tb) : DE X J Wx (.BinOp a op b pos) (dOp f ta tb) := (pe_op ho ha hb).imp (op_lift hf)
theorem de_cmp {op : CmpOp} (ho : OpR X (compareOp op) r) (hf : OpS X.K J r f) (ha : DE X J Wx a ta) (hb : DE X J Wx b tb) (hm : behindInMarks op b = false) : DE X J Wx (.Compare a [op] [b] pos) (dOp f ta tb) := (pe_cmpR ho ha hb hm).imp (op_lift hf)
theorem de_ix (ho : IxR X r) (hf : OpS X.K J r f) (ha : DE X J Wx a ta) (hb : DE X J Wx b tb) (hs : PlainIx b) : DE X J Wx (.Subscript a b pos) (dOp f ta tb) := (pe_ix ho ha hb hs).imp (op_lift hf)
end
/-- an operator with two rules -/
theorem OpR.or {f : Value → Value → Sem Value} {r r' : R2} (a : OpR X f r) (b : OpR X f r') : OpR X f (fun x y H Q => r x y H Q ∨ r' x y H Q) := by
  intro pins s σ H x y v u Q I rx ry h
  rcases h with h | h
  · exact a pins s σ H x y v u Q I rx ry h
  · exact b pins s σ H x y v u Q I rx ry h
end
section
variable {X : Cx} {J : JS} {Wx : WX}
section
variable {a b c e : Expr} {ta tb tc t : TD} {f g : Sd → Sd → (Sd → Prop) → Prop} {r r' : R2} {pos : Pos}
/-- what a comparison gives is True or False -/
def chN (tc : TD) (g : Sd → Sd → (Sd → Prop) → Prop) (Δ : Dl) (E : ED → Prop) (y : Sd) (Q : Sd → Prop) (z : Sd) : Prop := match z with
  | .fro (.bl k) => if k = true then tc Δ (fun w => g y w Q) E else Q (.fro (.bl false))
  | _ => False
def dChain (f g : Sd → Sd → (Sd → Prop) → Prop) (ta tb tc : TD) : TD := fun Δ Q E => ta Δ (fun x => tb Δ (fun y => f x y (chN tc g Δ E y Q)) E) E
theorem chain_lift (hf : OpS X.K J r f) (hg : OpS X.K J r' g) : ∀ σ H Q, liftE X.K J Wx (dChain f g ta tb tc) σ H Q → tChain r r' (liftE X.K J Wx ta) (liftE X.K J Wx tb) (liftE X.K J Wx tc) σ H Q := fun σ H Q ⟨W0, H0, Δ, W, Qd, Xd, st, ht, lk, lx⟩ => by
  refine ⟨W0, H0, Δ, W, _, Xd, st, ht, fun s v W1 H1 q st1 y1 r1 => ?_, lx⟩
  refine ⟨W0, H0, Δ, W1, _, Xd, st1, q, fun s2 v2 W2 H2 q2 st2 y2 r2 => ?_, lx.at st st1 y1⟩
  have y12 := y1.trans y2 st.wok st1.wok
  refine hf st2 (r1.stp y2) (r2.hs fun a e => y1.back st.wok st1.wok e) q2 fun z zv W3 H3 q3 st3 y3 r3 => ?_
  have y13 := y12.trans y3 st.wok st2.wok
  unfold chN at q3
  split at q3
  · rename_i k
    cases r3
    refine ⟨k, rfl, ?_⟩
    cases k with
    | true =>
      rw [if_pos rfl] at q3 ⊢
      refine ⟨W0, H0, Δ, W3, _, Xd, st3, q3, fun w wv W4 H4 q4 st4 y4 r4 => ?_, lx.at st st3 y13⟩
      exact hg st4 (((r2.stp y3).stp y4).hs fun a e => y1.back st.wok st1.wok e) (r4.hs fun a e => y13.back st.wok st3.wok e) q4 (lk.at st st4 (y13.trans y4 st.wok st3.wok))
    | false =>
      rw [if_neg Bool.false_ne_true] at q3 ⊢
      exact lk _ _ W3 H3 q3 st3 y13 (.bl false)
  · exact q3.elim
theorem de_chain {op op' : CmpOp} (ho : OpR X (compareOp op) r) (hf : OpS X.K J r f) (ho' : OpR X (compareOp op') r') (hg : OpS X.K J r' g) (ha : DE X J Wx a ta) (hb : DE X J Wx b tb) (hc : DE X J Wx c tc)
    (hm : lastMarks [op, op'] [b, c] = false := by with_unfolding_all rfl) : DE X J Wx (.Compare a [op, op'] [b, c] pos) (dChain f g ta tb tc) := (pe_chain ho ho' ha hb hc hm).imp (chain_lift hf hg)
/-! ### tests -/
/-- a test's answer is a truth value -/
def tstB (Q : Bool → Prop) (s : Sd) : Prop := match s with
  | .fro (.bl k) => Q k
  | _ => False
def dTst (t : TD) : TDT := fun Δ Q E => t Δ (tstB Q) E
theorem tst_lift : ∀ σ H Q, liftT X.K J Wx (dTst t) σ H Q → tB (liftE X.K J Wx t) σ H Q := fun σ H Q ⟨W0, H0, Δ, W, Qd, Xd, st, ht, lk, lx⟩ => by
  refine ⟨W0, H0, Δ, W, _, Xd, st, ht, fun s v W1 H1 q st1 y1 r1 => ?_, lx⟩
  unfold tstB at q
  split at q
  · cases r1
    exact ⟨_, rfl, lk _ W1 H1 q st1 y1⟩
  · exact q.elim
theorem tTest_eq (t : TE) : tTest t = tB t := by
  funext σ H Q
  first | rfl | (unfold tTest tB; rfl)
/-- any expression that gives True or False -/
theorem dt_val (h : DE X J Wx e t) (he : ∀ whole, isTrue e X.env whole = (do let v ← whole; standAt e.pos; holding [v] (truthy v)) := by intro _; rfl) : DT X J Wx e (dTst t) := (pt_val h he).imp tst_lift
theorem dt_cmp {op : CmpOp} (ho : OpR X (compareOp op) r) (hf : OpS X.K J r f) (ha : DE X J Wx a ta) (hb : DE X J Wx b tb) (hm : behindInMarks op b = false) : DT X J Wx (.Compare a [op] [b] pos) (dTst (dOp f ta tb)) :=
  (pt_cmpR ho ha hb hm).imp fun σ H Q h => by
    obtain ⟨W0, H0, Δ, W, Qd, Xd, st, ht, lk, lx⟩ := h
    rw [tTest_eq]
    refine op_lift (X := X) hf σ H _ ⟨W0, H0, Δ, W, _, Xd, st, ht, fun s v W1 H1 q st1 y1 r1 => ?_, lx⟩
    unfold tstB at q
    split at q
    · cases r1
      exact ⟨_, rfl, lk _ W1 H1 q st1 y1⟩
    · exact q.elim
theorem dt_chain {op op' : CmpOp} (ho : OpR X (compareOp op) r) (hf : OpS X.K J r f) (ho' : OpR X (compareOp op') r') (hg : OpS X.K J r' g) (ha : DE X J Wx a ta) (hb : DE X J Wx b tb) (hc : DE X J Wx c tc)
    (hm : lastMarks [op, op'] [b, c] = false := by with_unfolding_all rfl) : DT X J Wx (.Compare a [op, op'] [b, c] pos) (dTst (dChain f g ta tb tc)) :=
  (pt_chain ho ho' ha hb hc hm).imp fun σ H Q h => by
    obtain ⟨W0, H0, Δ, W, Qd, Xd, st, ht, lk, lx⟩ := h
    rw [tTest_eq]
    refine chain_lift (X := X) hf hg σ H _ ⟨W0, H0, Δ, W, _, Xd, st, ht, fun s v W1 H1 q st1 y1 r1 => ?_, lx⟩
    unfold tstB at q
    split at q
    · cases r1
      exact ⟨_, rfl, lk _ W1 H1 q st1 y1⟩
    · exact q.elim
variable {u v' : TDT} {rest : List Expr}
def dAnd (t u : TDT) : TDT := fun Δ Q E => t Δ (fun k => if k = true then u Δ Q E else Q false) E
def dOr (t u : TDT) : TDT := fun Δ Q E => t Δ (fun k => if k = true then Q true else u Δ Q E) E
def dNot (t : TDT) : TDT := fun Δ Q E => t Δ (fun k => Q (!k)) E
theorem dw_and1 (ha : DT X J Wx a u) : DW X J Wx (.BoolOp .And [a] pos) u := pw_and1 ha
theorem dw_or1 (ha : DT X J Wx a u) : DW X J Wx (.BoolOp .Or [a] pos) u := pw_or1 ha
theorem dw_and (ha : DT X J Wx a u) (hb : DW X J Wx (.BoolOp .And (b :: rest) pos) v') : DW X J Wx (.BoolOp .And (a :: b :: rest) pos) (dAnd u v') := (pw_and ha hb).imp fun σ H Q ⟨W0, H0, Δ, W, Qd, Xd, st, ht, lk, lx⟩ => by
  refine ⟨W0, H0, Δ, W, _, Xd, st, ht, fun k W1 H1 q st1 y1 => ?_, lx⟩
  cases k with
  | true => rw [if_pos rfl] at q ⊢; exact ⟨W0, H0, Δ, W1, Qd, Xd, st1, q, lk.at st st1 y1, lx.at st st1 y1⟩
  | false => rw [if_neg Bool.false_ne_true] at q ⊢; exact lk _ W1 H1 q st1 y1
theorem dw_or (ha : DT X J Wx a u) (hb : DW X J Wx (.BoolOp .Or (b :: rest) pos) v') : DW X J Wx (.BoolOp .Or (a :: b :: rest) pos) (dOr u v') := (pw_or ha hb).imp fun σ H Q ⟨W0, H0, Δ, W, Qd, Xd, st, ht, lk, lx⟩ => by
  refine ⟨W0, H0, Δ, W, _, Xd, st, ht, fun k W1 H1 q st1 y1 => ?_, lx⟩
  cases k with
  | true => rw [if_pos rfl] at q ⊢; exact lk _ W1 H1 q st1 y1
  | false => rw [if_neg Bool.false_ne_true] at q ⊢; exact ⟨W0, H0, Δ, W1, Qd, Xd, st1, q, lk.at st st1 y1, lx.at st st1 y1⟩
theorem dt_w (h : DW X J Wx e u) : DT X J Wx e u := h.pt
theorem dt_not (ha : DT X J Wx a u) : DT X J Wx (.UnaryOp .Not a pos) (dNot u) := (pt_not ha).imp fun σ H Q ⟨W0, H0, Δ, W, Qd, Xd, st, ht, lk, lx⟩ =>
  ⟨W0, H0, Δ, W, _, Xd, st, ht, fun k W1 H1 q st1 y1 => lk _ W1 H1 q st1 y1, lx⟩
/-! ### and, or, not as values: all but the last True or False -/
def vAnd (ta tb : TD) : TD := fun Δ Q E => ta Δ (tstB fun k => if k = true then tb Δ Q E else Q (.fro (.bl false))) E
def vOr (ta tb : TD) : TD := fun Δ Q E => ta Δ (tstB fun k => if k = true then Q (.fro (.bl true)) else tb Δ Q E) E
def vNot (ta : TD) : TD := fun Δ Q E => ta Δ (tstB fun k => Q (.fro (.bl (!k)))) E
theorem de_one {op} (h : DE X J Wx a ta) : DE X J Wx (.BoolOp op [a] pos) ta := pe_one h
theorem de_and (ha : DE X J Wx a ta) (hb : DE X J Wx (.BoolOp .And (b :: rest) pos) tb) : DE X J Wx (.BoolOp .And (a :: b :: rest) pos) (vAnd ta tb) := (pe_and ha hb).imp fun σ H Q ⟨W0, H0, Δ, W, Qd, Xd, st, ht, lk, lx⟩ => by
  refine ⟨W0, H0, Δ, W, _, Xd, st, ht, fun s v W1 H1 q st1 y1 r1 => ?_, lx⟩
  unfold tstB at q
  split at q
  · rename_i k
    cases r1
    refine ⟨k, rfl, ?_⟩
    cases k with
    | true => rw [if_pos rfl] at q ⊢; exact ⟨W0, H0, Δ, W1, Qd, Xd, st1, q, lk.at st st1 y1, lx.at st st1 y1⟩
    | false => rw [if_neg Bool.false_ne_true] at q ⊢; exact lk _ _ W1 H1 q st1 y1 (.bl false)
  · exact q.elim
theorem de_or (ha : DE X J Wx a ta) (hb : DE X J Wx (.BoolOp .Or (b :: rest) pos) tb) : DE X J Wx (.BoolOp .Or (a :: b :: rest) pos) (vOr ta tb) := (pe_or ha hb).imp fun σ H Q ⟨W0, H0, Δ, W, Qd, Xd, st, ht, lk, lx⟩ => by
  refine ⟨W0, H0, Δ, W, _, Xd, st, ht, fun s v W1 H1 q st1 y1 r1 => ?_, lx⟩
  unfold tstB at q
  split at q
  · rename_i k
    cases r1
    refine ⟨k, rfl, ?_⟩
    cases k with
    | true => rw [if_pos rfl] at q ⊢; exact lk _ _ W1 H1 q st1 y1 (.bl true)
    | false => rw [if_neg Bool.false_ne_true] at q ⊢; exact ⟨W0, H0, Δ, W1, Qd, Xd, st1, q, lk.at st st1 y1, lx.at st st1 y1⟩
  · exact q.elim
theorem de_not (ha : DE X J Wx a ta) : DE X J Wx (.UnaryOp .Not a pos) (vNot ta) := (pe_not ha).imp fun σ H Q ⟨W0, H0, Δ, W, Qd, Xd, st, ht, lk, lx⟩ => by
  refine ⟨W0, H0, Δ, W, _, Xd, st, ht, fun s v W1 H1 q st1 y1 r1 => ?_, lx⟩
  unfold tstB at q
  split at q
  · rename_i k
    cases r1
    exact ⟨k, rfl, lk _ _ W1 H1 q st1 y1 (.bl _)⟩
  · exact q.elim
def dIf (t : TDT) (ta tb : TD) : TD := fun Δ Q E => t Δ (fun k => if k = true then ta Δ Q E else tb Δ Q E) E
theorem de_if (hc : DT X J Wx c u) (ha : DE X J Wx a ta) (hb : DE X J Wx b tb) : DE X J Wx (.IfExp c a b pos) (dIf u ta tb) := (pe_ifExp hc ha hb).imp fun σ H Q ⟨W0, H0, Δ, W, Qd, Xd, st, ht, lk, lx⟩ => by
  refine ⟨W0, H0, Δ, W, _, Xd, st, ht, fun k W1 H1 q st1 y1 => ?_, lx⟩
  cases k with
  | true => rw [if_pos rfl] at q ⊢; exact ⟨W0, H0, Δ, W1, Qd, Xd, st1, q, lk.at st st1 y1, lx.at st st1 y1⟩
  | false => rw [if_neg Bool.false_ne_true] at q ⊢; exact ⟨W0, H0, Δ, W1, Qd, Xd, st1, q, lk.at st st1 y1, lx.at st st1 y1⟩

/-! ### one operand, a call by values -/
def UnS (K : PySem.W.Frag) (J : JS) (r : V → Hp → VK → Prop) (f : Sd → (Sd → Prop) → Prop) : Prop :=
  ∀ {W0 H0 Δ W σ H Hs} {Qd : Sd → Prop} {Q : VK} {x : Sd} {v : V}, Stt K J W0 H0 Δ W σ H → RepR K W H Hs H0 v x → f x Qd → LkE K J W0 H0 Δ W σ H Qd Q → r v H Q
def dUn (f : Sd → (Sd → Prop) → Prop) (ta : TD) : TD := fun Δ Q E => ta Δ (fun x => f x Q) E
theorem de_un {op : UnaryOp} {r : V → Hp → VK → Prop} {f : Sd → (Sd → Prop) → Prop} (ho : UnR X (unaryOp op) r) (hf : UnS X.K J r f) (ha : DE X J Wx a ta) : DE X J Wx (.UnaryOp op a pos) (dUn f ta) := (pe_un ho ha).imp fun σ H Q ⟨W0, H0, Δ, W, Qd, Xd, st, ht, lk, lx⟩ =>
  ⟨W0, H0, Δ, W, _, Xd, st, ht, fun s v W1 H1 q st1 y1 r1 => hf st1 r1 q (lk.at st st1 y1), lx⟩
def CallS (K : PySem.W.Frag) (J : JS) (r : List V → Hp → VK → Prop) (f : List Sd → (Sd → Prop) → Prop) : Prop :=
  ∀ {W0 H0 Δ W σ H Hs} {Qd : Sd → Prop} {Q : VK} {xs : List Sd} {vs : List V}, Stt K J W0 H0 Δ W σ H → RepL K W H Hs H0 vs xs → f xs Qd → LkE K J W0 H0 Δ W σ H Qd Q → r vs H Q
def dCB (f : List Sd → (Sd → Prop) → Prop) (t : TDB) : TD := fun Δ Q E => t Δ (fun xs => f xs Q) E
variable {es : List Expr} {tB' : TDB} {rr : List V → Hp → VK → Prop} {ff : List Sd → (Sd → Prop) → Prop} {x : Str} {p : Pos} {id T : String}
theorem cb_lift (hf : CallS X.K J rr ff) : ∀ σ H Q, liftE X.K J Wx (dCB ff tB') σ H Q → tCB rr (liftB X.K J Wx tB') σ H Q := fun σ H Q ⟨W0, H0, Δ, W, Qd, Xd, st, ht, lk, lx⟩ =>
  ⟨W0, H0, Δ, W, _, Xd, st, ht, fun s v W1 H1 q st1 y1 r1 => hf st1 r1 q (lk.at st st1 y1), lx⟩
theorem de_callB (hc : CallR X (.builtin id) rr) (hf : CallS X.K J rr ff) (hg : Gl X x) (hm : X.mg x = none) (hv : bootBuiltins x = some (.builtin id)) (ha : DB X J Wx (e :: es) tB') (hn : x ≠ "__name__" := by decide) (hdb : (x == ("__debug__" : Str)) = false := by decide)
    (he : starEach (e :: es) X.env = (false, eval e X.env) :: starEach es X.env := by rfl) (hpl : (backTo pos (starEach es X.env)).any (·.1) = false := by rfl) : DE X J Wx (.Call (.Name x p) (e :: es) [] pos) (dCB ff tB') :=
  (pe_callB hc hg hm hv ha hn hdb he hpl).imp (cb_lift hf)
theorem de_callT (hc : CallR X (.type T) rr) (hf : CallS X.K J rr ff) (hg : Gl X x) (hm : X.mg x = none) (hv : bootBuiltins x = some (.type T)) (ha : DB X J Wx (e :: es) tB') (hn : x ≠ "__name__" := by decide) (hdb : (x == ("__debug__" : Str)) = false := by decide)
    (he : starEach (e :: es) X.env = (false, eval e X.env) :: starEach es X.env := by rfl) (hpl : (backTo pos (starEach es X.env)).any (·.1) = false := by rfl) : DE X J Wx (.Call (.Name x p) (e :: es) [] pos) (dCB ff tB') :=
  (pe_callTy hc hg hm hv ha hn hdb he hpl).imp (cb_lift hf)

/-! ### displays -/
variable {tA' : TDA}
def dTup (t : TDA) : TD := fun Δ Q E => t Δ (fun ds => ds.length ≤ sizeLine ∧ Q (.fro (.tup ds))) E
def dLst (t : TDA) : TD := fun Δ Q E => t Δ (fun ds => ds.length ≤ sizeLine ∧ Q (.own ds)) E
theorem Stt.laidF {W0 W : Wd} {H0 H : Hp} {Δ : Dl} {σ : L2.St} {K : PySem.W.Frag} {a : Addr} {o : HO} (st : Stt K J W0 H0 Δ W σ H) (hn : H a = none) : Stt K J W0 H0 Δ (W.add a o) σ (upd H a o) := st.stp (.froz st.wok hn) (st.wok.froz hn)
theorem Stt.laidO {W0 W : Wd} {H0 H : Hp} {Δ : Dl} {σ : L2.St} {K : PySem.W.Frag} {a : Addr} {o : HO} (st : Stt K J W0 H0 Δ W σ H) (hn : H a = none) : Stt K J W0 H0 Δ W σ (upd H a o) := st.stp (.laid W hn) (st.wok.laid hn)
/-- a new tuple -/
theorem new_tup {W0 W : Wd} {H0 H : Hp} {Δ : Dl} {σ : L2.St} {K : PySem.W.Frag} {Qd : Sd → Prop} {Q : VK} {vs : List V} {ds : List D} (st : Stt K J W0 H0 Δ W σ H) (r : Dns K W vs ds) (q : Qd (.fro (.tup ds))) (lk : LkE K J W0 H0 Δ W σ H Qd Q) :
    TupQ Q H vs := fun a o hn hd =>
  lk _ _ _ _ q (st.laidF hn) (.froz st.wok hn) (.tup (.inl ⟨o, hd, Wd.add_at⟩) (r.mono (Wd.le_add (st.wok.fresh hn))))
/-- a new list -/
theorem new_lst {W0 W : Wd} {H0 H : Hp} {Δ : Dl} {σ : L2.St} {K : PySem.W.Frag} {Qd : Sd → Prop} {Q : VK} {vs : List V} {ds : List D} (st : Stt K J W0 H0 Δ W σ H) (r : Dns K W vs ds) (q : Qd (.own ds)) (lk : LkE K J W0 H0 Δ W σ H Qd Q) :
    ∀ a, H a = none → Q (.ref a) (upd H a (.lst vs)) := fun a hn =>
  lk _ _ _ _ q (st.laidO hn) (.laid W hn) ⟨⟨a, vs, rfl, upd_same, st.wok.fresh hn, r⟩, fun b e => by cases e; exact hn⟩
theorem de_tup {x1} (h : DA X J Wx es tA') : DE X J Wx (.Tuple es x1 pos) (dTup tA') := (pe_tupP h).imp fun σ H Q ⟨W0, H0, Δ, W, Qd, Xd, st, ht, lk, lx⟩ =>
  ⟨W0, H0, Δ, W, _, Xd, st, ht, fun ds vs W1 H1 q st1 y1 r1 => ⟨by rw [r1.length]; exact q.1, new_tup st1 r1 q.2 (lk.at st st1 y1)⟩, lx⟩
theorem de_lst (h : DA X J Wx es tA') : DE X J Wx (.List es pos) (dLst tA') := (pe_lst h).imp fun σ H Q ⟨W0, H0, Δ, W, Qd, Xd, st, ht, lk, lx⟩ =>
  ⟨W0, H0, Δ, W, _, Xd, st, ht, fun ds vs W1 H1 q st1 y1 r1 => ⟨by rw [r1.length]; exact q.1, new_lst st1 r1 q.2 (lk.at st st1 y1)⟩, lx⟩
end
end
end DL
set_option Elab.async false
set_option linter.all false
set_option maxRecDepth 100000
set_option maxHeartbeats 4000000
namespace DL
open PySem PySem.Spec PyProof.Rows L2
section
variable {X : Cx} {J : JS} {Wx : WX}
section
variable {K : PySem.W.Frag} {W0 W W1 : Wd} {H0 H : Hp} {DD : EndsD} {D : Ends}
theorem LkS.at (l : LkS K J Wx W0 H0 W DD D) (y : W.le W1) : LkS K J Wx W0 H0 W1 DD D where
  nx := fun Δ W' σ H q st z => l.nx Δ W' σ H q st (y.trans z)
  bk := fun Δ W' σ H q st z => l.bk Δ W' σ H q st (y.trans z)
  ct := fun Δ W' σ H q st z => l.ct Δ W' σ H q st (y.trans z)
  rt := fun s v Δ W' σ H q st z r => l.rt s v Δ W' σ H q st (y.trans z) r
  ex := fun e c d Δ W' σ H q st z r => l.ex e c d Δ W' σ H q st (y.trans z) r
theorem LkS.lx {Δ : Dl} {σ : L2.St} (l : LkS K J Wx W0 H0 W DD D) : LkX K J Wx W0 H0 Δ W σ H (fun e => DD.ex e Δ) := fun e c d W' H' q st y r => l.ex e c d Δ W' σ H' q st y.le r
end
variable {a b c e : Expr} {t tb tc : TD} {tt : TDT} {u v w : TDS} {pos : Pos} {st : Stmt} {rest sts sts' : List Stmt}
/-! ### blocks -/
def dNext : TDS := fun DD Δ => DD.nx Δ
def dSeq (t u : TDS) : TDS := fun DD Δ => t { DD with nx := u DD } Δ
theorem dss_nil : DSs X J Wx [] dNext := pss_nil.imp fun D σ H ⟨W0, H0, Δ, W, DD, st, ht, l⟩ => l.nx Δ W σ H ht st (.refl W)
theorem dss_cons (h1 : DS X J Wx st u) (h2 : DSs X J Wx rest v) : DSs X J Wx (st :: rest) (dSeq u v) := (pss_cons h1 h2).imp fun D σ H ⟨W0, H0, Δ, W, DD, st, ht, l⟩ =>
  ⟨W0, H0, Δ, W, _, st, ht, { nx := fun Δ' W' σ' H' q st' y => ⟨W0, H0, Δ', W', DD, st', q, l.at y⟩, bk := l.bk, ct := l.ct, rt := l.rt, ex := l.ex }⟩
theorem dss_one (h1 : DS X J Wx st u) : DSs X J Wx [st] u := pss_one h1
def dBreak : TDS := fun DD Δ => DD.bk Δ
def dCont : TDS := fun DD Δ => DD.ct Δ
theorem ds_pass : DS X J Wx (.Pass pos) dNext := ps_pass.imp fun D σ H ⟨W0, H0, Δ, W, DD, st, ht, l⟩ => l.nx Δ W σ H ht st (.refl W)
theorem ds_break : DS X J Wx (.Break pos) dBreak := ps_break.imp fun D σ H ⟨W0, H0, Δ, W, DD, st, ht, l⟩ => l.bk Δ W σ H ht st (.refl W)
theorem ds_continue : DS X J Wx (.Continue pos) dCont := ps_continue.imp fun D σ H ⟨W0, H0, Δ, W, DD, st, ht, l⟩ => l.ct Δ W σ H ht st (.refl W)
theorem ds_doc {x j pos pos'} : DS X J Wx (.Expr (.Constant (.str x) j pos) pos') dNext := ps_doc.imp fun D σ H ⟨W0, H0, Δ, W, DD, st, ht, l⟩ => l.nx Δ W σ H ht st (.refl W)
def dDrop (t : TD) : TDS := fun DD Δ => t Δ (fun _ => DD.nx Δ) (fun e => DD.ex e Δ)
theorem ds_expr (he : DE X J Wx e t) (hs : swapsWith e none pos.line X.env = pure false := by rfl) : DS X J Wx (.Expr e pos) (dDrop t) := (ps_expr he hs).imp fun D σ H ⟨W0, H0, Δ, W, DD, st, ht, l⟩ =>
  ⟨W0, H0, Δ, W, _, _, st, ht, fun s v W1 H1 q st1 y1 r1 => l.nx Δ W1 σ H1 q st1 y1.le, l.lx⟩
def dRet (t : TD) : TDS := fun DD Δ => t Δ (fun s => DD.rt s.ret) (fun e => DD.ex e Δ)
theorem ds_ret (he : DE X J Wx e t) : DS X J Wx (.Return (some e) pos) (dRet t) := (ps_ret he).imp fun D σ H ⟨W0, H0, Δ, W, DD, st, ht, l⟩ =>
  ⟨W0, H0, Δ, W, _, _, st, ht, fun s v W1 H1 q st1 y1 r1 => l.rt s.ret v Δ W1 σ H1 q st1 y1.le (r1.ret st.back0), l.lx⟩
def dRetN : TDS := fun DD Δ => DD.rt (.fro .non)
theorem ds_retN : DS X J Wx (.Return none pos) dRetN := ps_retN.imp fun D σ H ⟨W0, H0, Δ, W, DD, st, ht, l⟩ => l.rt _ _ Δ W σ H ht st (.refl W) Dn.non
def dIfS (c : TDT) (t u : TDS) : TDS := fun DD Δ => c Δ (fun k => if k = true then t DD Δ else u DD Δ) (fun e => DD.ex e Δ)
theorem ds_if (hc : DT X J Wx c tt) (ha : DSs X J Wx sts u) (hb : DSs X J Wx sts' v) : DS X J Wx (.If c sts sts' pos) (dIfS tt u v) := (ps_if hc ha hb).imp fun D σ H ⟨W0, H0, Δ, W, DD, st, ht, l⟩ => by
  refine ⟨W0, H0, Δ, W, _, _, st, ht, fun k W1 H1 q st1 y1 => ?_, l.lx⟩
  cases k with
  | true => rw [if_pos rfl] at q ⊢; exact ⟨W0, H0, Δ, W1, DD, st1, q, l.at y1.le⟩
  | false => rw [if_neg Bool.false_ne_true] at q ⊢; exact ⟨W0, H0, Δ, W1, DD, st1, q, l.at y1.le⟩
def dNever : TDS := fun _ _ => False
theorem ds_never : DS X J Wx st dNever := ps_never.imp fun D σ H ⟨W0, H0, Δ, W, DD, st, ht, l⟩ => ht.elim
theorem dss_never : DSs X J Wx sts dNever := pss_never.imp fun D σ H ⟨W0, H0, Δ, W, DD, st, ht, l⟩ => ht.elim

/-! ### stores to names -/
/-- what may be stored -/
def Sd.stored : Sd → Bool
  | .brw _ => false
  | .brwd _ => false
  | .brwi _ _ _ => false
  | _ => true
theorem set_at {α : Type} {l : List α} {i j : Nat} {x y : α} (h : (l.set i x)[j]? = some y) : (i = j ∧ x = y) ∨ (i ≠ j ∧ l[j]? = some y) := by
  by_cases e : i = j
  · subst e
    by_cases hi : i < l.length
    · rw [List.getElem?_set_self hi] at h
      exact .inl ⟨rfl, Option.some.inj h⟩
    · rw [List.getElem?_eq_none (by simpa using hi)] at h; cases h
  · rw [List.getElem?_set_ne e] at h
    exact .inr ⟨e, h⟩
theorem Stt.set {K : PySem.W.Frag} {W0 W Ws : Wd} {H0 H Hs : Hp} {Δ : Dl} {σ : L2.St} {s : Sd} {v : V} {i : Nat} (st : Stt K J W0 H0 Δ W σ H) (ws : Stt K J W0 H0 Δ Ws σ Hs) (r : RepR K W H Hs H0 v s) (hs : s.stored = true) :
    Stt K J W0 H0 (Δ.set i (some s)) W (σ.set i (some v)) H where
  len := by simp [st.len]
  wok := st.wok
  ext := st.ext
  new := st.new
  frm := st.frm
  dom := st.dom
  slot := fun j t h => by
    rcases set_at h with ⟨e, q⟩ | ⟨e, q⟩
    · subst e
      cases q
      have hi : i < σ.length := by
        rw [← st.len]
        have := (List.getElem?_eq_some_iff.mp h).1
        simpa using this
      refine ⟨v, List.getElem?_set_self hi, ?_⟩
      cases s with
      | fro d => exact r
      | own xs => exact r.1
      | ownd xs => exact r.1
      | owni aA cC xs => exact r.1
      | brw _ => cases hs
      | brwd _ => cases hs
      | brwi _ _ _ => cases hs
    · obtain ⟨u, e1, e2⟩ := st.slot j t q
      exact ⟨u, by rw [List.getElem?_set_ne e]; exact e1, e2⟩
  own := fun j t u h hm h2 => by
    rcases set_at h with ⟨e, q⟩ | ⟨e, q⟩
    · subst e
      cases q
      rcases set_at h2 with ⟨_, q2⟩ | ⟨e2, _⟩
      · cases q2
        have b := ws.back0
        cases s with
        | own xs => exact r.2.back b
        | ownd xs => exact r.2.back b
        | owni aA cC xs => exact r.2.back b
        | fro _ => cases hm
        | brw _ => cases hm
        | brwd _ => cases hm
        | brwi _ _ _ => cases hm
      · exact absurd rfl e2
    · rw [List.getElem?_set_ne e] at h2
      exact st.own j t u q hm h2
  sep := fun j k t t' u hjk h1 h2 m1 m2 h3 h4 => by
    -- the new slot's cell was not there ahead; another slot's was
    have old : ∀ (l : Nat) (x : Sd) (w : V), Δ[l]? = some (some x) → x.mine = true → σ[l]? = some (some w) → ∃ (a : Addr) (o : HO), w = .ref a ∧ Hs a = some o := fun l x w hl hm hw => by
      obtain ⟨w', e1, e2⟩ := ws.slot l x hl
      rw [hw] at e1
      have e1' : w = w' := Option.some.inj (Option.some.inj e1)
      subst e1'
      cases x with
      | own xs => obtain ⟨a, vs, ea, ha, _⟩ := e2; exact ⟨a, _, ea, ha⟩
      | ownd xs => obtain ⟨a, vs, ea, ha, _⟩ := e2; exact ⟨a, _, ea, ha⟩
      | owni aA cC xs => obtain ⟨vs, ea, ha, _⟩ := e2; exact ⟨aA, _, ea, ha⟩
      | fro _ => cases hm
      | brw _ => cases hm
      | brwd _ => cases hm
      | brwi _ _ _ => cases hm
    have new : s.mine = true → New Hs v := fun hm => by
      cases s with
      | own xs => exact r.2
      | ownd xs => exact r.2
      | owni aA cC xs => exact r.2
      | fro _ => cases hm
      | brw _ => cases hm
      | brwd _ => cases hm
      | brwi _ _ _ => cases hm
    rcases set_at h1 with ⟨e1, q1⟩ | ⟨e1, q1⟩
    · rcases set_at h2 with ⟨e2, q2⟩ | ⟨e2, q2⟩
      · exact hjk (e1.symm.trans e2)
      · subst e1
        cases q1
        rw [List.getElem?_set_ne e2] at h4
        rcases set_at h3 with ⟨_, q3⟩ | ⟨e3, _⟩
        · cases q3
          obtain ⟨a, o, ea, ha⟩ := old k t' _ q2 m2 h4
          have := new m1 a ea
          rw [this] at ha; cases ha
        · exact e3 rfl
    · rw [List.getElem?_set_ne e1] at h3
      rcases set_at h2 with ⟨e2, q2⟩ | ⟨e2, q2⟩
      · subst e2
        cases q2
        rcases set_at h4 with ⟨_, q4⟩ | ⟨e4, _⟩
        · cases q4
          obtain ⟨a, o, ea, ha⟩ := old j t _ q1 m1 h3
          have := new m2 a ea
          rw [this] at ha; cases ha
        · exact e4 rfl
      · rw [List.getElem?_set_ne e2] at h4
        exact st.sep j k t t' u hjk q1 q2 m1 m2 h3 h4
/-- a slot's own list is frozen where it is only looked at from there on; stored is what is stored -/
def dSet (i : Nat) (t : TD) : TDS := fun DD Δ => t Δ (fun s => s.stored = true ∧ DD.nx (Δ.set i (some s))) (fun e => DD.ex e Δ)
theorem dset_lift {i : Nat} : ∀ D σ H, liftS X.K J Wx (dSet i t) D σ H → tAsg (liftE X.K J Wx t) (gName i) D σ H := fun D σ H ⟨W0, H0, Δ, W, DD, st, ht, l⟩ =>
  ⟨W0, H0, Δ, W, _, _, st, ht, fun s v W1 H1 q st1 y1 r1 => l.nx _ W1 _ H1 q.2 (st1.set st r1 q.1) y1.le, l.lx⟩
theorem ds_set {i : Nat} {x : Str} {pos' : Pos} (hN : X.N.Nodup) (hi : X.N[i]? = some x) (hx : Loc X.env.scope x) (he : DE X J Wx e t) (hs : swapsWith e (some (.Name x pos')) pos.line X.env = pure false := by rfl)
    (hf : X.fn x = true ∨ X.env.scope.names.lookup x = some .local := by first | exact .inl rfl | exact .inr rfl | assumption) : DS X J Wx (.Assign [.Name x pos'] e pos) (dSet i t) := (ps_set hN hi hx he hs hf).imp dset_lift

/-! ### targets -/
abbrev TDG := D → Dl → (Dl → Prop) → Prop
abbrev TDGs := List D → Dl → (Dl → Prop) → Prop
/-- vs: the slots that it stores to -/
def liftG (K : PySem.W.Frag) (J : JS) (vs : List Nat) (g : TDG) : TG := fun v σ H Q => ∃ W0 H0 Δ W d Qg, Stt K J W0 H0 Δ W σ H ∧ Dn K W v d ∧ g d Δ Qg ∧
  ∀ Δ' σ', Qg Δ' → Stt K J W0 H0 Δ' W σ' H → (∀ i, i ∉ vs → σ'[i]? = σ[i]?) → σ'.length = σ.length → Q σ' H
def liftGs (K : PySem.W.Frag) (J : JS) (vs : List Nat) (g : TDGs) : TGs := fun us σ H Q => ∃ W0 H0 Δ W ds Qg, Stt K J W0 H0 Δ W σ H ∧ Dns K W us ds ∧ g ds Δ Qg ∧
  ∀ Δ' σ', Qg Δ' → Stt K J W0 H0 Δ' W σ' H → (∀ i, i ∉ vs → σ'[i]? = σ[i]?) → σ'.length = σ.length → Q σ' H
abbrev DG (X : Cx) (J : JS) (vs : List Nat) (tg : Expr) (g : TDG) : Prop := PG X tg (liftG X.K J vs g)
abbrev DGs (X : Cx) (J : JS) (vs : List Nat) (tgs : List Expr) (g : TDGs) : Prop := PGs X tgs (liftGs X.K J vs g)
theorem PG.imp {tg : Expr} {t t' : TG} (h : PG X tg t) (k : ∀ v σ H Q, t' v σ H Q → t v σ H Q) : PG X tg t' := ⟨fun pins s σ H v u Q I r q => h.run pins s σ H v u Q I r (k v σ H Q q)⟩
theorem PGs.imp {tg : List Expr} {t t' : TGs} (h : PGs X tg t) (k : ∀ v σ H Q, t' v σ H Q → t v σ H Q) : PGs X tg t' := ⟨fun pins s σ H v u Q I r q => h.run pins s σ H v u Q I r (k v σ H Q q)⟩
def dgName (i : Nat) : TDG := fun d Δ Q => Q (Δ.set i (some (.fro d)))
theorem dg_name {i : Nat} {x : Str} (hN : X.N.Nodup) (hi : X.N[i]? = some x) (hx : Loc X.env.scope x) (hf : X.fn x = true ∨ X.env.scope.names.lookup x = some .local := by first | exact .inl rfl | exact .inr rfl | assumption) : DG X J [i] (.Name x pos) (dgName i) :=
  PG.imp (pg_name hN hi hx hf) fun v σ H Q ⟨W0, H0, Δ, W, d, Qg, st, r, ht, k⟩ =>
    k _ _ ht (Stt.set (s := .fro d) (Hs := H) st st r rfl) (fun j hj => List.getElem?_set_ne fun e => hj (by simp [e])) (List.length_set ..)
def dgNil : TDGs := fun ds Δ Q => match ds with
  | [] => Q Δ
  | _ => False
def dgCons (g : TDG) (gs : TDGs) : TDGs := fun ds Δ Q => match ds with
  | [] => False
  | d :: r => g d Δ fun Δ' => gs r Δ' Q
theorem dgs_nil : DGs X J [] [] dgNil := PGs.imp pgs_nil fun v σ H Q ⟨W0, H0, Δ, W, d, Qg, st, r, ht, k⟩ => by
  unfold dgNil at ht
  cases r with
  | nil => exact ⟨rfl, k _ _ ht st (fun _ _ => rfl) rfl⟩
  | cons _ _ => exact ht.elim
theorem dgs_cons {e : Expr} {es : List Expr} {g : TDG} {gs : TDGs} {vs us : List Nat} (h1 : DG X J vs e g) (h2 : DGs X J us es gs)
    (hs : (assignEach (e :: es) X.env).map (·.2) = assign e X.env :: (assignEach es X.env).map (·.2) := by rfl) : DGs X J (vs ++ us) (e :: es) (dgCons g gs) := PGs.imp (pgs_cons h1 h2 hs) fun v σ H Q ⟨W0, H0, Δ, W, d, Qg, st, r, ht, k⟩ => by
  unfold dgCons at ht
  cases r with
  | nil => exact ht.elim
  | cons r1 r2 =>
    refine ⟨_, _, rfl, W0, H0, Δ, W, _, _, st, r1, ht, fun Δ1 σ1 q1 st1 f1 l1 => ?_⟩
    exact ⟨W0, H0, Δ1, W, _, _, st1, r2, q1, fun Δ2 σ2 q2 st2 f2 l2 => k _ _ q2 st2 (fun i hi => (f2 i fun z => hi (List.mem_append_right _ z)).trans (f1 i fun z => hi (List.mem_append_left _ z))) (l2.trans l1)⟩
def dgTup (n : Nat) (g : TDGs) : TDG := fun d Δ Q => match d with
  | .tup xs => xs.length = n ∧ g xs Δ Q
  | _ => False
theorem dg_tup {es : List Expr} {k : Nat} {gs : TDGs} {n : Nat} {vs : List Nat} (hc : X.calm = true) (h : DGs X J vs es gs)
    (hn : (assignEach es X.env).length = n := by rfl) (hst : (assignEach es X.env).findIdx? (·.1) = none := by rfl) : DG X J vs (.Tuple es k pos) (dgTup n gs) := PG.imp (pg_tup hc h hn hst) fun v σ H Q ⟨W0, H0, Δ, W, d, Qg, st, r, ht, k⟩ => by
  unfold dgTup at ht
  split at ht
  · cases r with
    | tup hq rr =>
      exact ⟨_, _, rfl, st.wok.tup hq, rr.length.trans ht.1, W0, H0, Δ, W, _, _, st, rr, ht.2, k⟩
  · exact ht.elim
/-- (a, b) = e -/
def dAsgG (t : TD) (g : TDG) : TDS := fun DD Δ => t Δ (fun s => sFrz s fun d => g d Δ DD.nx) (fun e => DD.ex e Δ)
theorem ds_asg {tg : Expr} {g : TDG} {vs : List Nat} (he : DE X J Wx e t) (hg : DG X J vs tg g) (hs : swapsWithSole [tg] e pos.line X.env = pure false := by rfl) (hw : swappedStores [tg] e X.env = pure none := by rfl)
    (h1 : (assignEach [tg] X.env).map (·.2) = [assign tg X.env] := by rfl) : DS X J Wx (.Assign [tg] e pos) (dAsgG t g) := (ps_asg he hg hs hw h1).imp fun D σ H ⟨W0, H0, Δ, W, DD, st, ht, l⟩ => by
  refine ⟨W0, H0, Δ, W, _, _, st, ht, fun s v W1 H1 q st1 y1 r1 => ?_, l.lx⟩
  obtain ⟨d, W2, q2, le2, st2, y2, r2⟩ := frz_ok st1 y1 st r1 q
  exact ⟨W0, H0, Δ, W2, d, _, st2, r2, q2, fun Δ' σ' q3 st3 _ _ => l.nx Δ' W2 σ' H1 q3 st3 y2.le⟩

/-! ### while -/
def dWhile (c : TDT) (tb : TDS) : TDS := fun DD Δ => ∃ I : Nat → Dl → Prop, (∃ m, I m Δ) ∧ ∀ m Δ, I m Δ →
  c Δ (fun k => if k = true then tb { DD with nx := fun Δ' => ∃ m', m' < m ∧ I m' Δ', ct := fun Δ' => ∃ m', m' < m ∧ I m' Δ', bk := DD.nx } Δ else DD.nx Δ) (fun e => DD.ex e Δ)
theorem ds_while (hp : PassesOwn (model X.prog X.w) X.A X.env X.xe) (hc : DT X J Wx c tt) (hb : DSs X J Wx sts u) : DS X J Wx (.While c sts [] pos) (dWhile tt u) := (ps_while hp hc hb).imp fun D σ H ⟨W0, H0, Δ, W, DD, st, ht, l⟩ => by
  obtain ⟨I, ⟨m0, h0⟩, turn⟩ := ht
  refine ⟨fun m σ H => ∃ Δ W', Stt X.K J W0 H0 Δ W' σ H ∧ W.le W' ∧ I m Δ, ⟨m0, Δ, W, st, .refl W, h0⟩, ?_⟩
  rintro m σ1 H1 ⟨Δ1, W1, st1, le1, i1⟩
  refine ⟨W0, H0, Δ1, W1, _, _, st1, turn m Δ1 i1, fun k W2 H2 q st2 y2 => ?_, (l.at le1).lx⟩
  cases k with
  | false =>
    rw [if_neg Bool.false_ne_true] at q ⊢
    exact l.nx Δ1 W2 σ1 H2 q st2 (le1.trans y2.le)
  | true =>
    rw [if_pos rfl] at q ⊢
    refine ⟨fun σ' H' => ∃ m', m' < m ∧ ∃ Δ W', Stt X.K J W0 H0 Δ W' σ' H' ∧ W.le W' ∧ I m' Δ, fun σ' H' h => h, ?_⟩
    exact ⟨W0, H0, Δ1, W2, _, st2, q, {
      nx := fun Δ' W' σ' H' ⟨m', hm, hi⟩ st' le' => ⟨m', hm, Δ', W', st', (le1.trans y2.le).trans le', hi⟩
      bk := fun Δ' W' σ' H' q' st' le' => l.nx Δ' W' σ' H' q' st' ((le1.trans y2.le).trans le')
      ct := fun Δ' W' σ' H' ⟨m', hm, hi⟩ st' le' => ⟨m', hm, Δ', W', st', (le1.trans y2.le).trans le', hi⟩
      rt := fun s v Δ' W' σ' H' q' st' le' r' => l.rt s v Δ' W' σ' H' q' st' ((le1.trans y2.le).trans le') r'
      ex := fun e c d Δ' W' σ' H' q' st' le' r' => l.ex e c d Δ' W' σ' H' q' st' ((le1.trans y2.le).trans le') r' }⟩
end
end DL
set_option Elab.async false
set_option linter.all false
set_option maxRecDepth 100000
set_option maxHeartbeats 4000000
namespace DL
open PySem PySem.Spec PyProof.Rows L2
/-- the iterator Jt gives the data ds, one by one, in every world from W on -/
structure IterD (K : PySem.W.Frag) (J : JS) (W : Wd) (Jt : It) (ds : List D) : Prop where
  go : ∀ W' H (i : Nat) d, W.le W' → WOk J W' H → ds[i]? = some d → Jt.go i H ∧ ∀ v H', Jt.yld i H v H' → ∃ W'', WOk J W'' H' ∧ Stp W' H W'' H' ∧ Dn K W'' v d
  stop : ∀ W' H, W.le W' → WOk J W' H → Jt.stop ds.length H
abbrev TDI := Dl → (List D → Prop) → (ED → Prop) → Prop
def liftI (K : PySem.W.Frag) (J : JS) (Wx : WX) (t : TDI) : TI := fun σ H R => ∃ W0 H0 Δ W Qd Xd, Stt K J W0 H0 Δ W σ H ∧ t Δ Qd Xd ∧
  (∀ ds Jt W' H', Qd ds → Stt K J W0 H0 Δ W' σ H' → Stp W H W' H' → IterD K J W' Jt ds → R Jt H') ∧ LkX K J Wx W0 H0 Δ W σ H Xd
abbrev DI (X : Cx) (J : JS) (Wx : WX) (tg e : Expr) (t : TDI) : Prop := PI X tg e (liftI X.K J Wx t)
theorem PI.imp {X : Cx} {tg e : Expr} {t t' : TI} (h : PI X tg e t) (k : ∀ σ H R, t' σ H R → t σ H R) : PI X tg e t' := ⟨fun pins s σ H R I q => h.run pins s σ H R I (k σ H R q)⟩

/-! ### for -/
def forR (g : TDG) (tb : TDS) (DD : EndsD) : List D → Dl → Prop
  | [], Δ => DD.nx Δ
  | d :: r, Δ => g d Δ fun Δ' => tb { DD with nx := forR g tb DD r, ct := forR g tb DD r, bk := DD.nx } Δ'
def dFor (ti : TDI) (g : TDG) (tb : TDS) : TDS := fun DD Δ => ti Δ (fun ds => forR g tb DD ds Δ) (fun e => DD.ex e Δ)
section
variable {X : Cx} {J : JS} {Wx : WX} {tg iter e : Expr} {sts : List Stmt} {ti : TDI} {g : TDG} {vs : List Nat} {u : TDS} {pos : Pos} {t : TD} {tA : TDA} {tB' : TDB}
theorem ds_for (hp : PassesOwn (model X.prog X.w) X.A X.env X.xe) (hc : X.calm = true) (hi : DI X J Wx tg iter ti) (hg : DG X J vs tg g) (hb : DSs X J Wx sts u) (hs : ∀ x, foldedSetIterable iter X.env x = pure x := by intro _; rfl) :
    DS X J Wx (.For tg iter sts [] pos) (dFor ti g u) := (ps_for hp hc hi hg hb hs).imp fun D σ H ⟨W0, H0, Δ, W, DD, st, ht, l⟩ => by
  refine ⟨W0, H0, Δ, W, _, _, st, ht, fun ds Jt W1 H1 q st1 y1 it => ?_, l.lx⟩
  refine ⟨fun i m σ' H' => m = ds.length - i ∧ i ≤ ds.length ∧ ∃ Δ' W', W1.le W' ∧ Stt X.K J W0 H0 Δ' W' σ' H' ∧ forR g u DD (ds.drop i) Δ', ⟨ds.length, by simp, Nat.zero_le _, Δ, W1, .refl W1, st1, q⟩, ?_⟩
  rintro i m σ2 H2 ⟨rfl, hi, Δ2, W2, le2, st2, q2⟩
  by_cases hlt : i < ds.length
  · have ei : ds[i]? = some ds[i] := by simp [hlt]
    obtain ⟨go, yld⟩ := it.go W2 H2 i ds[i] le2 st2.wok ei
    have ed : ds.drop i = ds[i] :: ds.drop (i + 1) := List.drop_eq_getElem_cons hlt
    rw [ed] at q2
    refine .inr ⟨go, fun σ' H' => ∃ Δ' W', W1.le W' ∧ Stt X.K J W0 H0 Δ' W' σ' H' ∧ forR g u DD (ds.drop (i + 1)) Δ', fun σ' H' h => ⟨ds.length - (i + 1), by omega, rfl, hlt, h⟩, fun v H3 y => ?_⟩
    obtain ⟨W3, w3, y3, r3⟩ := yld v H3 y
    have st3 := st2.stp y3 w3
    refine ⟨W0, H0, Δ2, W3, ds[i], _, st3, r3, q2, fun Δ4 σ4 q4 st4 _ _ => ?_⟩
    have le3 : W1.le W3 := le2.trans y3.le
    exact ⟨W0, H0, Δ4, W3, _, st4, q4, {
      nx := fun Δ' W' σ' H' q' st' le' => ⟨Δ', W', le3.trans le', st', q'⟩
      ct := fun Δ' W' σ' H' q' st' le' => ⟨Δ', W', le3.trans le', st', q'⟩
      bk := fun Δ' W' σ' H' q' st' le' => l.nx Δ' W' σ' H' q' st' ((y1.le.trans le3).trans le')
      rt := fun s v Δ' W' σ' H' q' st' le' r' => l.rt s v Δ' W' σ' H' q' st' ((y1.le.trans le3).trans le') r'
      ex := fun e c d Δ' W' σ' H' q' st' le' r' => l.ex e c d Δ' W' σ' H' q' st' ((y1.le.trans le3).trans le') r' }⟩
  · have e : i = ds.length := by omega
    subst e
    rw [List.drop_length] at q2
    exact .inl ⟨it.stop W2 H2 le2 st2.wok, l.nx Δ2 W2 σ2 H2 q2 st2 (y1.le.trans le2)⟩

/-! ### what is walked -/
/-- the data that is walked: a list, a tuple, a text -/
def strD (x : Str) : List D := x.cps.toList.map fun c => .str ⟨#[c]⟩
def dSeqOf (t : TD) : TDI := fun Δ Q E => t Δ (fun s => sFrz s fun d => match d with
  | .lst xs => Q xs
  | _ => False) E
def dTupOf (t : TD) : TDI := fun Δ Q E => t Δ (fun s => match s with
  | .fro (.tup xs) => Q xs
  | _ => False) E
def dStrOf (t : TD) : TDI := fun Δ Q E => t Δ (fun s => match s with
  | .fro (.str x) => Q (strD x)
  | _ => False) E
theorem iter_list {K : PySem.W.Frag} {W : Wd} {a : Addr} {vs : List V} {ds : List D} (h : W.fro a = some (.lst vs)) (r : Dns K W vs ds) : IterD K J W (Itl K a) ds where
  go := fun W' H i d le w e => by
    have hq : SqL K H a vs := SqL.of (w.lst (le.f _ _ h))
    obtain ⟨v, ev, rv⟩ := r.get e
    refine ⟨⟨vs, v, hq, ev⟩, fun v' H' y => ?_⟩
    obtain ⟨rfl, y⟩ := y
    have := y vs hq
    rw [ev] at this
    cases this
    exact ⟨W', w, .refl W' _, rv.mono le⟩
  stop := fun W' H le w => ⟨vs, SqL.of (w.lst (le.f _ _ h)), by rw [r.length]; exact Nat.le_refl _⟩
theorem iter_tup {K : PySem.W.Frag} {W : Wd} {a : Addr} {vs : List V} {ds : List D} (h : SqP K W.fro a vs) (r : Dns K W vs ds) : IterD K J W (Itt K a) ds where
  go := fun W' H i d le w e => by
    have hq : SqT K H a vs := w.tup (sqP_mono le.f h)
    obtain ⟨v, ev, rv⟩ := r.get e
    refine ⟨⟨vs, v, hq, ev⟩, fun v' H' y => ?_⟩
    obtain ⟨rfl, y⟩ := y
    have := y vs hq
    rw [ev] at this
    cases this
    exact ⟨W', w, .refl W' _, rv.mono le⟩
  stop := fun W' H le w => ⟨vs, w.tup (sqP_mono le.f h), by rw [r.length]; exact Nat.le_refl _⟩
theorem iter_str {K : PySem.W.Frag} {W : Wd} {x : Str} : IterD K J W (Its x) (strD x) where
  go := fun W' H i d le w e => by
    unfold strD at e
    rw [List.getElem?_map] at e
    cases q : x.cps.toList[i]? with
    | none => rw [q] at e; cases e
    | some c =>
      rw [q] at e
      cases e
      have hi : i < x.cps.size := by
        have := (List.getElem?_eq_some_iff.mp q).1
        simpa using this
      refine ⟨hi, fun v H' y => ?_⟩
      obtain ⟨rfl, c', e1, rfl⟩ := y
      have : c' = c := by
        rw [Array.getElem?_toList] at q
        rw [q] at e1
        exact (Option.some.inj e1).symm
      subst this
      exact ⟨W', w, .refl W' _, .str _⟩
  stop := fun W' H le w => by
    show x.cps.size ≤ (strD x).length
    simp [strD]
theorem di_list (h : DE X J Wx e t) : DI X J Wx tg e (dSeqOf t) := PI.imp (pi_list h) fun σ H R ⟨W0, H0, Δ, W, Qd, Xd, st, ht, k, lx⟩ => by
  refine ⟨W0, H0, Δ, W, _, _, st, ht, fun s v W1 H1 q st1 y1 r1 => ?_, lx⟩
  obtain ⟨d, W2, q2, le2, st2, y2, r2⟩ := frz_ok st1 y1 st r1 q
  split at q2
  · cases r2 with
    | lst h rr => exact ⟨_, rfl, ⟨_, SqL.of (st2.wok.lst h)⟩, k _ _ W2 H1 q2 st2 y2 (iter_list h rr)⟩
  · exact q2.elim
theorem di_tup (h : DE X J Wx e t) : DI X J Wx tg e (dTupOf t) := PI.imp (pi_tup h) fun σ H R ⟨W0, H0, Δ, W, Qd, Xd, st, ht, k, lx⟩ => by
  refine ⟨W0, H0, Δ, W, _, _, st, ht, fun s v W1 H1 q st1 y1 r1 => ?_, lx⟩
  dsimp only at q
  split at q
  · cases r1 with
    | tup h rr => exact ⟨_, rfl, ⟨_, st1.wok.tup h⟩, k _ _ W1 H1 q st1 y1 (iter_tup h rr)⟩
  · exact q.elim
theorem di_str (h : DE X J Wx e t) : DI X J Wx tg e (dStrOf t) := PI.imp (pi_str h) fun σ H R ⟨W0, H0, Δ, W, Qd, Xd, st, ht, k, lx⟩ => by
  refine ⟨W0, H0, Δ, W, _, _, st, ht, fun s v W1 H1 q st1 y1 r1 => ?_, lx⟩
  dsimp only at q
  split at q
  · cases r1
    exact ⟨_, rfl, k _ _ W1 H1 q st1 y1 iter_str⟩
  · exact q.elim
/-! ranges -/
def rngD (lo : Int) (n : Nat) : List D := (List.range n).map fun i => .int (lo + (i : Nat))
def rngC (lo c : Int) (n : Nat) : List D := (List.range n).map fun i => .int (lo + (i : Nat) * c)
theorem iter_rngC {K : PySem.W.Frag} {W : Wd} {lo c : Int} {n : Nat} : IterD K J W (Itc lo c n) (rngC lo c n) where
  go := fun W' H i d le w e => by
    unfold rngC at e
    rw [List.getElem?_map] at e
    by_cases hi : i < n
    · rw [List.getElem?_range hi] at e
      cases e
      refine ⟨hi, fun v H' y => ?_⟩
      obtain ⟨rfl, rfl⟩ := y
      exact ⟨W', w, .refl W' _, .int _⟩
    · rw [List.getElem?_eq_none (by simpa using hi)] at e
      cases e
  stop := fun W' H le w => by
    show n ≤ (rngC lo c n).length
    simp [rngC]
theorem iter_rng {K : PySem.W.Frag} {W : Wd} {lo : Int} {n : Nat} : IterD K J W (Itr lo n) (rngD lo n) where
  go := fun W' H i d le w e => by
    unfold rngD at e
    rw [List.getElem?_map] at e
    by_cases hi : i < n
    · rw [List.getElem?_range hi] at e
      cases e
      refine ⟨hi, fun v H' y => ?_⟩
      obtain ⟨rfl, rfl⟩ := y
      exact ⟨W', w, .refl W' _, .int _⟩
    · rw [List.getElem?_eq_none (by simpa using hi)] at e
      cases e
  stop := fun W' H le w => by
    show n ≤ (rngD lo n).length
    simp [rngD]
def rg1 (ds : List D) (Q : List D → Prop) : Prop := match ds with
  | [.int j] => (-(2 ^ 62) ≤ j ∧ j < 2 ^ 62) ∧ Q (rngD 0 j.toNat)
  | _ => False
def rg2 (ds : List D) (Q : List D → Prop) : Prop := match ds with
  | [.int i, .int j] => (-(2 ^ 62) ≤ i ∧ i < 2 ^ 62 ∧ -(2 ^ 62) ≤ j ∧ j < 2 ^ 62) ∧ Q (rngD i (j - i).toNat)
  | _ => False
/-- downwards -/
def rg3 (ds : List D) (Q : List D → Prop) : Prop := match ds with
  | [.int i, .int j, .int c] => (∃ n, RgC i j c n ∧ Q (rngC i c n))
  | _ => False
def dRng (f : List D → (List D → Prop) → Prop) (t : TDA) : TDI := fun Δ Q E => t Δ (fun ds => f ds Q) E
theorem dn_int {K : PySem.W.Frag} {W : Wd} {v : V} {i : Int} (h : Dn K W v (.int i)) : v = .int i := by cases h; rfl
theorem di_range1 {a : Expr} {p : Pos} (hg : Gl X "range") (hm : X.mg "range" = none) (ha : DA X J Wx [a] tA) (hs : starEach [a] X.env = [(false, eval a X.env)] := by rfl) : DI X J Wx tg (.Call (.Name "range" p) [a] [] pos) (dRng rg1 tA) := PI.imp (pi_range1 hg hm ha hs) fun σ H R ⟨W0, H0, Δ, W, Qd, Xd, st, ht, k, lx⟩ => by
  refine ⟨W0, H0, Δ, W, _, _, st, ht, fun ds vs W1 H1 q st1 y1 r1 => ?_, lx⟩
  unfold rg1 at q
  dsimp only at q
  split at q
  · cases r1 with
    | cons h1 h2 =>
      cases h2
      have := dn_int h1
      subst this
      exact ⟨_, rfl, q.1.1, q.1.2, k _ _ W1 H1 q.2 st1 y1 iter_rng⟩
  · exact q.elim
theorem di_range2 {a b : Expr} {p : Pos} (hg : Gl X "range") (hm : X.mg "range" = none) (ha : DA X J Wx [a, b] tA) (hs : starEach [a, b] X.env = [(false, eval a X.env), (false, eval b X.env)] := by rfl) (hs2 : starEach [b] X.env = [(false, eval b X.env)] := by rfl) :
    DI X J Wx tg (.Call (.Name "range" p) [a, b] [] pos) (dRng rg2 tA) := PI.imp (pi_range2 hg hm ha hs hs2) fun σ H R ⟨W0, H0, Δ, W, Qd, Xd, st, ht, k, lx⟩ => by
  refine ⟨W0, H0, Δ, W, _, _, st, ht, fun ds vs W1 H1 q st1 y1 r1 => ?_, lx⟩
  unfold rg2 at q
  dsimp only at q
  split at q
  · cases r1 with
    | cons h1 h2 =>
      cases h2 with
      | cons h3 h4 =>
        cases h4
        have := dn_int h1
        subst this
        have := dn_int h3
        subst this
        exact ⟨_, _, rfl, q.1, k _ _ W1 H1 q.2 st1 y1 iter_rng⟩
  · exact q.elim
theorem di_range3 {a b c : Expr} {p : Pos} (hg : Gl X "range") (hm : X.mg "range" = none) (ha : DA X J Wx [a, b, c] tA)
    (hs : starEach [a, b, c] X.env = (false, eval a X.env) :: starEach [b, c] X.env := by rfl) (hpl : (backTo pos (starEach [b, c] X.env)).any (·.1) = false := by rfl) :
    DI X J Wx tg (.Call (.Name "range" p) [a, b, c] [] pos) (dRng rg3 tA) := PI.imp (pi_range3 hg hm ha hs hpl) fun σ H R ⟨W0, H0, Δ, W, Qd, Xd, st, ht, k, lx⟩ => by
  refine ⟨W0, H0, Δ, W, _, _, st, ht, fun ds vs W1 H1 q st1 y1 r1 => ?_, lx⟩
  unfold rg3 at q
  dsimp only at q
  split at q
  · cases r1 with
    | cons h1 h2 =>
      cases h2 with
      | cons h3 h4 =>
        cases h4 with
        | cons h5 h6 =>
          cases h6
          have := dn_int h1
          subst this
          have := dn_int h3
          subst this
          have := dn_int h5
          subst this
          obtain ⟨n, hn, q⟩ := q
          exact ⟨_, _, _, n, rfl, hn, k _ _ W1 H1 q st1 y1 iter_rngC⟩
  · exact q.elim
/-! ### pairs: enumerate, zip -/
theorem pair_new {K : PySem.W.Frag} {W : Wd} {H : Hp} {T : Addr} {x y : V} {d e : D} {o : Obj} (w : WOk J W H) (hT : H T = none) (hd : o.dict = none) (rx : Dn K W x d) (ry : Dn K W y e) :
    ∃ W'', WOk J W'' (upd H T (.frz o (.tup [x, y]))) ∧ Stp W H W'' (upd H T (.frz o (.tup [x, y]))) ∧ Dn K W'' (.ref T) (.tup [d, e]) := by
  have n := w.fresh hT
  have le : W.le (W.add T (.frz o (.tup [x, y]))) := Wd.le_add n
  exact ⟨_, w.froz hT, .froz w hT, .tup (.inl ⟨o, hd, Wd.add_at⟩) (.cons (rx.mono le) (.cons (ry.mono le) .nil))⟩
def enumD (xs : List D) : List D := xs.zipIdx.map fun p => .tup [.int (p.2 : Nat), p.1]
theorem enumD_get {xs : List D} {i : Nat} {d : D} (e : (enumD xs)[i]? = some d) : ∃ x, xs[i]? = some x ∧ d = .tup [.int (i : Nat), x] := by
  unfold enumD at e
  rw [List.getElem?_map] at e
  cases q : xs.zipIdx[i]? with
  | none => rw [q] at e; cases e
  | some p =>
    rw [q] at e
    cases e
    obtain ⟨x, j⟩ := p
    rw [List.getElem?_zipIdx] at q
    cases r : xs[i]? with
    | none => rw [r] at q; cases q
    | some z =>
      rw [r] at q
      have : (z, 0 + i) = (x, j) := Option.some.inj q
      cases this
      exact ⟨_, rfl, by simp⟩
theorem iter_enumP {K : PySem.W.Frag} {W : Wd} {Sq : Hp → List V → Prop} {vs : List V} {ds : List D} (h : ∀ W' H, W.le W' → WOk J W' H → Sq H vs) (r : Dns K W vs ds) : IterD K J W (ItP K Sq) (enumD ds) where
  go := fun W' H i d le w e => by
    obtain ⟨x, ex, rfl⟩ := enumD_get e
    obtain ⟨v, ev, rv⟩ := r.get ex
    refine ⟨⟨vs, v, h W' H le w, ev⟩, fun v' H' y => ?_⟩
    obtain ⟨T, z, o, rfl, hT, hd, rfl, y⟩ := y
    have := y vs (h W' H le w)
    rw [ev] at this
    cases this
    exact pair_new w hT hd (.int _) (rv.mono le)
  stop := fun W' H le w => ⟨vs, h W' H le w, by rw [r.length]; simp [enumD]⟩
def dEnum (t : TDA) : TDI := fun Δ Q E => t Δ (fun ds => match ds with
  | [.lst xs] => Q (enumD xs)
  | [.tup xs] => Q (enumD xs)
  | _ => False) E
theorem di_enum {e : Expr} {p tpos : Pos} {elts : List Expr} {kk : Nat} (hg : Gl X "enumerate") (hm : X.mg "enumerate" = none) (ha : DA X J Wx [e] tA) (hs : starEach [e] X.env = [(false, eval e X.env)] := by rfl) :
    DI X J Wx (.Tuple elts kk tpos) (.Call (.Name "enumerate" p) [e] [] pos) (dEnum tA) := PI.imp (pi_enumP hg hm ha hs) fun σ H R ⟨W0, H0, Δ, W, Qd, Xd, st, ht, k, lx⟩ => by
  refine ⟨W0, H0, Δ, W, _, _, st, ht, fun ds vs W1 H1 q st1 y1 r1 => ?_, lx⟩
  dsimp only at q
  split at q
  · cases r1 with
    | cons h1 h2 =>
      cases h2
      cases h1 with
      | lst h rr => exact ⟨_, rfl, .inl ⟨⟨_, SqL.of (st1.wok.lst h)⟩, k _ _ W1 H1 q st1 y1 (iter_enumP (fun W' H' le w => SqL.of (w.lst (le.f _ _ h))) rr)⟩⟩
  · cases r1 with
    | cons h1 h2 =>
      cases h2
      cases h1 with
      | tup h rr => exact ⟨_, rfl, .inr ⟨⟨_, st1.wok.tup h⟩, k _ _ W1 H1 q st1 y1 (iter_enumP (fun W' H' le w => w.tup (sqP_mono le.f h)) rr)⟩⟩
  · exact q.elim
end

/-! ### comprehensions -/
abbrev DTs (X : Cx) (J : JS) (Wx : WX) (es : List Expr) (t : TDT) : Prop := PTs X es (liftT X.K J Wx t)
def wipeD (Δ : Dl) : List Nat → Dl
  | [] => Δ
  | v :: vs => (wipeD Δ vs).set v none
def noE : ED → Prop := fun _ => False
abbrev Wx0 : WX := fun _ _ _ _ => False
def lcR (g : TDG) (tt : TDT) (te : TD) (Δ0 : Dl) : List D → List D → (List D → Prop) → Prop
  | [], acc, Q => Q acc
  | d :: r, acc, Q => g d Δ0 fun Δ2 => tt Δ2 (fun b => if b = true then te Δ2 (fun s => sFrz s fun y => acc.length < sizeLine ∧ lcR g tt te Δ0 r (acc ++ [y]) Q) noE else lcR g tt te Δ0 r acc Q) noE
def dLc (ti : TDI) (g : TDG) (tt : TDT) (te : TD) (vs : List Nat) : TD := fun Δ Q E => ti Δ (fun ds => lcR g tt te (wipeD Δ vs) ds [] fun acc => Q (.own acc)) E
theorem wipe_ext {σ σ' : L2.St} (hl : σ'.length = σ.length) : ∀ {vs : List Nat}, (∀ i, i ∉ vs → σ'[i]? = σ[i]?) → wipe σ' vs = wipe σ vs := by
  intro vs h
  have key : ∀ (us : List Nat) (τ : L2.St) (i : Nat), (wipe τ us)[i]? = if i ∈ us then (if i < τ.length then some none else none) else τ[i]? := by
    intro us
    induction us with
    | nil => intro τ i; simp [wipe]
    | cons v r ih =>
      intro τ i
      show ((wipe τ r).set v none)[i]? = _
      by_cases e : v = i
      · subst e
        by_cases hv : v < τ.length
        · rw [List.getElem?_set_self (by rw [wipe_length]; exact hv)]; simp [hv]
        · rw [List.getElem?_eq_none (by rw [List.length_set, wipe_length]; omega)]; simp [hv]
      · rw [List.getElem?_set_ne e, ih]
        have : (i ∈ v :: r) = (i ∈ r) := by simp [show ¬ i = v from fun z => e z.symm]
        simp only [this]
  apply List.ext_getElem?
  intro i
  rw [key, key]
  by_cases hi : i ∈ vs
  · simp [hi, hl]
  · simp [hi, h i hi]
theorem Stt.wipe {K : PySem.W.Frag} {J : JS} {W0 W : Wd} {H0 H : Hp} {Δ : Dl} {σ : L2.St} (st : Stt K J W0 H0 Δ W σ H) : ∀ vs : List Nat, Stt K J W0 H0 (wipeD Δ vs) W (L2.wipe σ vs) H
  | [] => st
  | v :: vs => by
    have ih := Stt.wipe st vs
    have back : ∀ {i : Nat} {s : Sd}, ((wipeD Δ vs).set v none)[i]? = some (some s) → i ≠ v ∧ (wipeD Δ vs)[i]? = some (some s) := fun {i s} h => by
      rcases set_at h with ⟨_, q⟩ | ⟨e, q⟩
      · cases q
      · exact ⟨fun z => e z.symm, q⟩
    exact {
      len := by show ((wipeD Δ vs).set v none).length = ((L2.wipe σ vs).set v none).length; rw [List.length_set, List.length_set]; exact ih.len
      wok := ih.wok
      ext := ih.ext
      new := ih.new
      frm := ih.frm
      dom := ih.dom
      slot := fun i s h => by
        obtain ⟨ne, q⟩ := back h
        obtain ⟨u, e1, e2⟩ := ih.slot i s q
        exact ⟨u, by show ((L2.wipe σ vs).set v none)[i]? = _; rw [List.getElem?_set_ne (Ne.symm ne)]; exact e1, e2⟩
      own := fun i s u h hm h2 => by
        obtain ⟨ne, q⟩ := back h
        have h2' : ((L2.wipe σ vs).set v none)[i]? = some (some u) := h2
        rw [List.getElem?_set_ne (Ne.symm ne)] at h2'
        exact ih.own i s u q hm h2'
      sep := fun i j s t u hij h1 h2 m1 m2 h3 h4 => by
        obtain ⟨n1, q1⟩ := back h1
        obtain ⟨n2, q2⟩ := back h2
        have h3' : ((L2.wipe σ vs).set v none)[i]? = some (some u) := h3
        have h4' : ((L2.wipe σ vs).set v none)[j]? = some (some u) := h4
        rw [List.getElem?_set_ne (Ne.symm n1)] at h3'
        rw [List.getElem?_set_ne (Ne.symm n2)] at h4'
        exact ih.sep i j s t u hij q1 q2 m1 m2 h3' h4' }
theorem Stp.put {J : JS} {W1 W : Wd} {H1 H : Hp} {D : Addr} {o : HO} (y : Stp W1 H1 W H) (h1 : H1 D = none) : Stp W1 H1 W (upd H D o) :=
  ⟨y.le, fun a u h n => by rw [upd_ne (ne_of_none h h1)]; exact y.keep a u h n, y.new⟩
theorem WOk.put {J : JS} {W : Wd} {H : Hp} {D : Addr} {o : HO} (w : WOk J W H) (n : ¬ W.has D) : WOk J W (upd H D o) where
  f := fun b u e => by
    have hb : b ≠ D := fun q => n (by subst q; exact .inl (by rw [e]; simp))
    rcases w.f b u e with ⟨l, q⟩ | ⟨l, ob, m, q⟩
    · exact .inl ⟨l, by rw [upd_ne hb]; exact q⟩
    · exact .inr ⟨l, ob, m, by rw [upd_ne hb]; exact q⟩
  j := fun b m ds e => by
    have hb : b ≠ D := fun q => n (by subst q; exact .inr (by rw [e]; simp))
    obtain ⟨u, h1, h2⟩ := w.j b m ds e
    exact ⟨u, by rw [upd_ne hb]; exact h1, h2⟩
  d := w.d
  n := w.n
/-- a cell that was not there at Hs is written: no slot sees it -/
theorem Stt.put {K : PySem.W.Frag} {J : JS} {W0 W Ws : Wd} {H0 H Hs : Hp} {Δ : Dl} {σ : L2.St} {D : Addr} {o : HO} (st : Stt K J W0 H0 Δ W σ H) (ws : Stt K J W0 H0 Δ Ws σ Hs) (n : ¬ W.has D) (hs : Hs D = none) : Stt K J W0 H0 Δ W σ (upd H D o) where
  len := st.len
  wok := st.wok.put n
  ext := st.ext
  new := st.new
  frm := fun a u h m => by
    have : a ≠ D := ne_of_none h (ws.back0 D hs)
    rw [upd_ne this]
    exact st.frm a u h m
  dom := fun a h => by
    have hne : a ≠ D := fun e => by subst e; exact h (ws.back0 a hs)
    rw [upd_ne hne]
    exact st.dom a h
  slot := fun i s h => by
    obtain ⟨v, e, r⟩ := st.slot i s h
    refine ⟨v, e, ?_⟩
    have other : ∀ a, s.mine = true → v = .ref a → a ≠ D := fun a hm ea q => by
      subst q
      obtain ⟨u, e2, r2⟩ := ws.slot i s h
      rw [e] at e2
      have : v = u := Option.some.inj (Option.some.inj e2)
      subst this
      cases s with
      | own xs =>
        obtain ⟨b, vs, eb, hb, _⟩ := r2
        rw [ea] at eb; cases eb
        rw [hs] at hb; cases hb
      | ownd xs =>
        obtain ⟨b, vs, eb, hb, _⟩ := r2
        rw [ea] at eb; cases eb
        rw [hs] at hb; cases hb
      | owni aA cC xs =>
        obtain ⟨vs, eb, hb, _⟩ := r2
        rw [ea] at eb; cases eb
        rw [hs] at hb; cases hb
      | fro _ => cases hm
      | brw _ => cases hm
      | brwd _ => cases hm
      | brwi _ _ _ => cases hm
    cases s with
    | fro d => exact r
    | own xs =>
      obtain ⟨a, vs, ea, ha, m, rr⟩ := r
      exact ⟨a, vs, ea, by rw [upd_ne (other a rfl ea)]; exact ha, m, rr⟩
    | ownd xs =>
      obtain ⟨a, vs, ea, ha, m, rr⟩ := r
      exact ⟨a, vs, ea, by rw [upd_ne (other a rfl ea)]; exact ha, m, rr⟩
    | owni aA cC xs =>
      obtain ⟨vs, ea, ha, m, rr⟩ := r
      exact ⟨vs, ea, by rw [upd_ne (other aA rfl ea)]; exact ha, m, rr⟩
    | brw _ => exact r.elim
    | brwd _ => exact r.elim
    | brwi _ _ _ => exact r.elim
  own := st.own
  sep := st.sep
section
variable {X : Cx} {J : JS} {Wx : WX}
theorem lc_part {g : TDG} {tt : TDT} {te : TD} {vs : List Nat} {W0 W1 : Wd} {H0 H1 : Hp} {Δ : Dl} {σ : L2.St} {ds : List DL.D} {Jt : It} {D : Addr} {Qa : List DL.D → Prop} {Qh : Hp → Prop} (st1 : Stt X.K J W0 H0 Δ W1 σ H1) (it : IterD X.K J W1 Jt ds) (hD : H1 D = none)
    (q : lcR g tt te (wipeD Δ vs) ds [] Qa) (k : ∀ acc W' H', Qa acc → Stt X.K J W0 H0 Δ W' σ H' → Stp W1 H1 W' H' → LstAt X.K W' H' (.ref D) acc → Qh H') :
    ∃ W : Nat → Nat → Hp → Prop, (∃ m, W 0 m (upd H1 D (.lst []))) ∧ ∀ i m H, W i m H →
      (Jt.stop i H ∧ Qh H) ∨ (Jt.go i H ∧ ∃ Nx : Hp → Prop, (∀ H', Nx H' → ∃ m', m' < m ∧ W (i + 1) m' H') ∧ ∀ x H', Jt.yld i H x H' → liftG X.K J vs g x (wipe σ vs) H' fun σ2 H2 => wipe σ2 vs = wipe σ vs ∧ liftT X.K J Wx0 tt σ2 H2 fun b H3 =>
        if b = true then liftE X.K J Wx0 te σ2 H3 fun y H4 => ∃ acc, H4 D = some (.lst acc) ∧ acc.length < sizeLine ∧ Nx (upd H4 D (.lst (acc ++ [y]))) else Nx H3) := by
  have nD : ¬ W1.has D := st1.wok.fresh hD
  refine ⟨fun i m H' => m = ds.length - i ∧ i ≤ ds.length ∧ ∃ acc accV W', Stt X.K J W0 H0 Δ W' σ H' ∧ Stp W1 H1 W' H' ∧ H' D = some (.lst accV) ∧ ¬ W'.has D ∧ Dns X.K W' accV acc ∧ lcR g tt te (wipeD Δ vs) (ds.drop i) acc Qa,
    ⟨ds.length, by simp, Nat.zero_le _, [], [], W1, st1.laidO hD, .laid W1 hD, upd_same, nD, .nil, q⟩, ?_⟩
  rintro i m H2 ⟨rfl, hi, acc, accV, W2, st2, y2, hD2, nD2, rA, q2⟩
  by_cases hlt : i < ds.length
  · have ei : ds[i]? = some ds[i] := by simp [hlt]
    obtain ⟨go, yld⟩ := it.go W2 H2 i ds[i] y2.le st2.wok ei
    have ed : ds.drop i = ds[i] :: ds.drop (i + 1) := List.drop_eq_getElem_cons hlt
    rw [ed] at q2
    refine .inr ⟨go, fun H' => ∃ acc accV W', Stt X.K J W0 H0 Δ W' σ H' ∧ Stp W1 H1 W' H' ∧ H' D = some (.lst accV) ∧ ¬ W'.has D ∧ Dns X.K W' accV acc ∧ lcR g tt te (wipeD Δ vs) (ds.drop (i + 1)) acc Qa,
      fun H' h => ⟨ds.length - (i + 1), by omega, rfl, hlt, h⟩, fun v H3 y => ?_⟩
    obtain ⟨W3, w3, y3, r3⟩ := yld v H3 y
    have st3 := st2.stp y3 w3
    have y13 := y2.trans y3 st1.wok st2.wok
    refine ⟨W0, H0, wipeD Δ vs, W3, ds[i], _, st3.wipe vs, r3, q2, fun Δ4 σ4 q4 st4 f4 l4 => ?_⟩
    refine ⟨wipe_ext (l4.trans (wipe_length σ vs)) fun j hj => (f4 j hj).trans (wipe_out hj), ?_⟩
    refine ⟨W0, H0, Δ4, W3, _, _, st4, q4, fun k W5 H5 q5 st5 y5 => ?_, fun e c d W' H' z => z.elim⟩
    have stO5 : Stt X.K J W0 H0 Δ W5 σ H5 := st3.stp y5 st5.wok
    have y15 := y13.trans y5 st1.wok st3.wok
    have hD3 : H3 D = some (.lst accV) := y3.keep D _ hD2 nD2
    have nD3 : ¬ W3.has D := y3.nothas hD2 nD2
    have hD5 : H5 D = some (.lst accV) := y5.keep D _ hD3 nD3
    have nD5 : ¬ W5.has D := y5.nothas hD3 nD3
    have rA5 := rA.mono (y3.le.trans y5.le)
    cases k with
    | false =>
      rw [if_neg Bool.false_ne_true] at q5
      refine iteF ?_
      exact ⟨acc, accV, W5, stO5, y15, hD5, nD5, rA5, q5⟩
    | true =>
      rw [if_pos rfl] at q5
      refine iteT ?_
      refine ⟨W0, H0, Δ4, W5, _, _, st5, q5, fun s v6 W6 H6 q6 st6 y6 r6 => ?_, fun e c d W' H' z => z.elim⟩
      obtain ⟨dv, W7, q7, le7, st7, y7, r7⟩ := frz_ok st6 y6 st5 r6 q6
      have hD6 : H6 D = some (.lst accV) := y7.keep D _ hD5 nD5
      have nD7 : ¬ W7.has D := y7.nothas hD5 nD5
      have stO7 : Stt X.K J W0 H0 Δ W7 σ H6 := stO5.stp y7 st7.wok
      have y17 := y15.trans y7 st1.wok stO5.wok
      have rA7 := (rA5.mono y7.le).append (.cons r7 .nil)
      refine ⟨accV, hD6, (by have := rA.length; have := q7.1; omega), acc ++ [dv], accV ++ [v6], W7, stO7.put st1 nD7 hD, y17.put (J := J) hD, upd_same, nD7, rA7, q7.2⟩
  · have e : i = ds.length := by omega
    subst e
    rw [List.drop_length] at q2
    exact .inl ⟨it.stop W2 H2 y2.le st2.wok, k acc W2 H2 q2 st2 y2 ⟨D, accV, rfl, hD2, nD2, rA⟩⟩
theorem lc_lift {ti : TDI} {g : TDG} {tt : TDT} {te : TD} {vs : List Nat} : ∀ σ H Q, liftE X.K J Wx (dLc ti g tt te vs) σ H Q → tLc (liftI X.K J Wx ti) (liftG X.K J vs g) (liftT X.K J Wx0 tt) (liftE X.K J Wx0 te) vs σ H Q := fun σ H Q ⟨W0, H0, Δ, W, Qd, Xd, st, ht, lk, lx⟩ => by
  refine ⟨W0, H0, Δ, W, _, _, st, ht, fun ds Jt W1 H1 q st1 y1 it => ?_, lx⟩
  intro D hD
  exact lc_part (Qh := fun H => Q (.ref D) H) st1 it hD q fun acc W' H' q' st' y' r' => lk _ _ W' H' q' st' (y1.trans y' st.wok st1.wok) ⟨r', fun a e => by cases e; exact y1.back st.wok st1.wok hD⟩
theorem dts_nil : DTs X J Wx [] (fun _ Q _ => Q true) := by
  refine ⟨fun pins s σ H Q I h => ?_⟩
  obtain ⟨W0, H0, Δ, W, Qd, Xd, st, ht, lk, lx⟩ := h
  exact pts_nil.run pins s σ H Q I (lk _ W H ht st (.refl W H))
theorem dts_one {c : Expr} {t : TDT} (h : DT X J Wx c t) : DTs X J Wx [c] t := pts_one h
variable {tg iter elt : Expr} {ifs : List Expr} {scope : Scope} {own : List (Str × Nat)} {pos : Pos} {ti : TDI} {g : TDG} {tt : TDT} {te : TD}
theorem de_lc (hc : X.calm = true) (hN : X.N.Nodup) (hi : DI X J Wx tg iter ti) (ok : BlkOk X.N X.env.scope scope own)
    (hg : ∀ (s : Shared) (H : Hp) (C : Addr) (cl : List (Str × Addr)) (fp : List Addr), DG (X.blk s H scope (compEnvC scope cl C X.env) fp) J (own.map (·.2)) tg g)
    (ht : ∀ (s : Shared) (H : Hp) (C : Addr) (cl : List (Str × Addr)) (fp : List Addr), DTs (X.blk s H scope (compEnvC scope cl C X.env) fp) J Wx0 ifs tt)
    (he : ∀ (s : Shared) (H : Hp) (C : Addr) (cl : List (Str × Addr)) (fp : List Addr), DE (X.blk s H scope (compEnvC scope cl C X.env) fp) J Wx0 elt te)
    (hs : ∀ x, foldedSetIterable iter X.env x = pure x := by intro _; rfl) : DE X J Wx (.ListComp elt [⟨tg, iter, ifs, 0⟩] scope pos) (dLc ti g tt te (own.map (·.2))) :=
  (pe_lc hc hN hi ok hg ht he hs).imp lc_lift
theorem tAsg_imp {te te' : TE} {g : TG} (h : ∀ σ H Q, te' σ H Q → te σ H Q) : ∀ D σ H, tAsg te' g D σ H → tAsg te g D σ H := fun D σ H q => h σ H _ q
theorem ds_setLc {i : Nat} {y : Str} {py spos : Pos} (hc : X.calm = true) (hN : X.N.Nodup) (hy : X.N[i]? = some y) (hyl : X.env.scope.names.lookup y = some .local)
    (hsw : swapsWith (.ListComp elt [⟨tg, iter, ifs, 0⟩] scope pos) (some (.Name y py)) spos.line X.env = pure true) (hi : DI X J Wx tg iter ti) (ok : BlkOk X.N X.env.scope scope own)
    (hg : ∀ (s : Shared) (H : Hp) (C : Addr) (cl : List (Str × Addr)) (fp : List Addr), DG (X.blk s H scope (compEnvC scope cl C X.env) fp) J (own.map (·.2)) tg g)
    (ht : ∀ (s : Shared) (H : Hp) (C : Addr) (cl : List (Str × Addr)) (fp : List Addr), DTs (X.blk s H scope (compEnvC scope cl C X.env) fp) J Wx0 ifs tt)
    (he : ∀ (s : Shared) (H : Hp) (C : Addr) (cl : List (Str × Addr)) (fp : List Addr), DE (X.blk s H scope (compEnvC scope cl C X.env) fp) J Wx0 elt te)
    (hs : ∀ x, foldedSetIterable iter X.env x = pure x := by intro _; rfl) : DS X J Wx (.Assign [.Name y py] (.ListComp elt [⟨tg, iter, ifs, 0⟩] scope pos) spos) (dSet i (dLc ti g tt te (own.map (·.2)))) :=
  (ps_setLc hc hN hy hyl hsw hi ok hg ht he hs).imp fun D σ H q => tAsg_imp lc_lift D σ H (dset_lift (X := X) D σ H q)
end
end DL
set_option Elab.async false
set_option linter.all false
set_option maxRecDepth 100000
set_option maxHeartbeats 4000000
namespace DL
open PySem PySem.Spec PyProof.Rows L2
/-! ### a def's promise on data -/
abbrev SpecD := List D → (Sd → Prop) → (ED → Prop) → Prop
def SpD (K : PySem.W.Frag) (J : JS) (r : SpecD) : Sp := fun vs H Q E => ∃ W ds Rd Xd, WOk J W H ∧ Dns K W vs ds ∧ r ds Rd Xd ∧
  (∀ s v W' H', Rd s → WOk J W' H' → Stp W H W' H' → RepR K W' H' H H v s → Q v H') ∧ (∀ e cls d W' H', Xd e → WOk J W' H' → Stp W H W' H' → ExR K W' H' e cls d → E cls d H')
def startD (N : List Str) (ds : List D) : Dl := ds.map (fun d => some (.fro d)) ++ List.replicate (N.length - ds.length) none
abbrev WxE (E : XK) : WX := fun c d _ H => E c d H
theorem start_ok {K : PySem.W.Frag} {J : JS} {W : Wd} {H : Hp} {N : List Str} {vs : List V} {ds : List D} (w : WOk J W H) (r : Dns K W vs ds) : Stt K J W H (startD N ds) W (L2.start N vs) H where
  len := by unfold startD L2.start; simp [r.length]
  wok := w
  ext := .refl W
  new := fun _ h => .inl h
  frm := fun _ _ h _ => h
  dom := fun _ h => h
  slot := fun i s h => by
    unfold startD at h
    by_cases hi : i < ds.length
    · rw [List.getElem?_append_left (by simpa using hi), List.getElem?_map] at h
      cases e : ds[i]? with
      | none => rw [e] at h; cases h
      | some d =>
        rw [e] at h
        cases h
        obtain ⟨v, ev, rv⟩ := r.get e
        refine ⟨v, ?_, rv⟩
        unfold L2.start
        rw [List.getElem?_append_left (by rw [List.length_map, r.length]; exact hi), List.getElem?_map, ev]
        rfl
    · rw [List.getElem?_append_right (by simp; omega), List.getElem?_replicate] at h
      split at h <;> cases h
  own := fun i s v h hm _ => by
    unfold startD at h
    by_cases hi : i < ds.length
    · rw [List.getElem?_append_left (by simpa using hi), List.getElem?_map] at h
      cases e : ds[i]? with
      | none => rw [e] at h; cases h
      | some d => rw [e] at h; cases h; cases hm
    · rw [List.getElem?_append_right (by simp; omega), List.getElem?_replicate] at h
      split at h <;> cases h
  sep := fun i j s t v _ h _ hm _ => by
    unfold startD at h
    by_cases hi : i < ds.length
    · rw [List.getElem?_append_left (by simpa using hi), List.getElem?_map] at h
      cases e : ds[i]? with
      | none => rw [e] at h; cases h
      | some d => rw [e] at h; cases h; cases hm
    · rw [List.getElem?_append_right (by simp; omega), List.getElem?_replicate] at h
      split at h <;> cases h
/-- what a body does from the arguments' data on -/
def bodyD (N : List Str) (t : TDS) : SpecD := fun ds R E => t { nx := fun _ => R (.fro .non), rt := R, ex := fun e _ => E e } (startD N ds)
section
variable {P : Program} {w : World} {K : PySem.W.Frag} {mg : Str → Option Value} {base : Heap} {J : JS}
theorem fn_D {x qual : Str} {params : Arguments} {body : List Stmt} {scope : Scope} {dvs : List V} {kws : List (Str × V)} {f : Addr} {fd : FuncData} {N ps : List Str} {k : Nat} {r : SpecD} {t : TDS} (F : FunD K x qual params body scope dvs kws f fd) (S : FnScope N ps scope)
    (hlen : ∀ ds R E, r ds R E → ds.length = ps.length)
    (hb : ∀ (cdv : Value) (A : Around) (outer : List Env) (s : Shared) (H : Hp) (E : XK), Room k (A.deeper (envOfC qual scope s.heap.objs.size f cdv)) →
      DSs (cxOf (L2.CX P w) P w K mg base N qual scope f cdv A outer s H E) J (WxE E) body t)
    (ht : ∀ ds R E, r ds R E → bodyD N t ds R E) : FnOk P w K mg base (L2.CX P w) (k + 1) f fd ps (SpD K J r) := by
  refine F.ok S (fun vs H Q E h => ?_) (fun cdv A outer s H vs Q E hr h => ?_)
  · obtain ⟨W, ds, Rd, Xd, _, hv, h, _⟩ := h
    rw [hv.length]
    exact hlen _ _ _ h
  · obtain ⟨W, ds, Rd, Xd, w, hv, h, hq, he⟩ := h
    refine ⟨_, hb cdv A outer s H E hr, W, H, startD N ds, W, _, start_ok w hv, ht ds Rd Xd h, ?_⟩
    have stp : ∀ {Δ W' σ' H'}, Stt K J W H Δ W' σ' H' → Stp W H W' H' := fun {Δ W' σ' H'} st => ⟨st.ext, st.frm, st.new⟩
    exact {
      nx := fun Δ W' σ H' q st _ => hq _ _ W' H' q st.wok (stp st) Dn.non
      bk := fun Δ W' σ H' q _ _ => q.elim
      ct := fun Δ W' σ H' q _ _ => q.elim
      rt := fun s v Δ W' σ H' q st _ rr => hq s v W' H' q st.wok (stp st) rr
      ex := fun e c d Δ W' σ H' q st _ rr => he e c d W' H' q st.wok (stp st) rr }
end
/-! ### calls -/
def dCall (r : SpecD) (t : TDA) : TD := fun Δ Q E => t Δ (fun ds => r ds (fun s => Q s.ret) E) E
section
variable {X : Cx} {J : JS} {Wx : WX}
theorem call_lift {r : SpecD} {t : TDA} : ∀ σ H Q, liftE X.K J Wx (dCall r t) σ H Q → tCallSD (SpD X.K J r) [] (WE Wx) (liftA X.K J Wx t) σ H Q := fun σ H Q ⟨W0, H0, Δ, W, Qd, Xd, st, ht, lk, lx⟩ => by
  refine ⟨W0, H0, Δ, W, _, _, st, ht, fun ds vs W1 H1 q st1 y1 r1 => ?_, lx⟩
  have lk1 := lk.at st st1 y1
  have lx1 := lx.at st st1 y1
  show SpD X.K J r (vs ++ []) H1 Q (WE Wx σ)
  rw [List.append_nil]
  refine ⟨W1, ds, _, _, st1.wok, r1, q, fun s v W' H' q' w' y' rr => ?_, fun e c d W' H' q' w' y' rr => ?_⟩
  · refine lk1 s.ret v W' H' q' (st1.stp y' w') y' ?_
    have : ∀ {s : Sd}, RepR X.K W' H' H1 H1 v s → RepR X.K W' H' H1 H0 v s.ret := fun {s} h => by
      cases s with
      | fro d => exact h
      | own xs => exact h
      | brw xs => exact h
      | ownd xs => exact h
      | owni aA cC xs => exact h
      | brwd xs => exact h
      | brwi aA cC xs => exact h
    exact this rr
  · exact lx1 e c d W' H' q' (st1.stp y' w') y' rr
/-- what is known of a def by its name -/
structure FD (P : Program) (w : World) (K : PySem.W.Frag) (mg : Str → Option Value) (base : Heap) (J : JS) (k : Nat) (x : Str) (ps : List Str) (r : SpecD) : Prop where
  ex : ∃ fd, FnOk P w K mg base (L2.CX P w) k (He.ga K x) fd ps (SpD K J r) ∧ Binds K fd ps []
  kp : PySem.W.keepIn K (.ref (He.ga K x)) = true
  mg : mg x = some (.ref (He.ga K x))
theorem FD.mono {P : Program} {w : World} {K : PySem.W.Frag} {mg : Str → Option Value} {base : Heap} {j k : Nat} {x : Str} {ps : List Str} {r : SpecD} (F : FD P w K mg base J j x ps r) (h : j ≤ k) : FD P w K mg base J k x ps r :=
  ⟨by obtain ⟨fd, a, b⟩ := F.ex; exact ⟨fd, a.mono h, b⟩, F.kp, F.mg⟩
theorem de_call {k : Nat} {x : Str} {ps : List Str} {r : SpecD} {t : TDA} {e : Expr} {es : List Expr} {p pos : Pos} (F : FD X.prog X.w X.K X.mg X.base J k x ps r) (hr : Room k X.A) (hg : Gl X x) (tk : Takes X Wx) (ha : DA X J Wx (e :: es) t)
    (hdb : (x == ("__debug__" : Str)) = false := by decide) (he : starEach (e :: es) X.env = (false, eval e X.env) :: starEach es X.env := by rfl) (hpl : (backTo pos (starEach es X.env)).any (·.1) = false := by rfl) :
    DE X J Wx (.Call (.Name x p) (e :: es) [] pos) (dCall r t) := by
  obtain ⟨fd, hf, hb⟩ := F.ex
  exact (pe_callSD hf hr hg F.mg F.kp hb .nil (fun σ => passAt tk σ) ha hdb he hpl).imp call_lift
end
/-! ### fields -/
def fldD (C : Str) (f : Str) (Q : Sd → Prop) (s : Sd) : Prop := match s.dat with
  | .ins C' fs => C' = C ∧ (match fs.lookup f with
    | some d => Q (.fro d)
    | none => False)
  | _ => False
theorem RepR.isIns {K : PySem.W.Frag} {W : Wd} {H Hs H0 : Hp} {v : V} {s : Sd} {C : Str} {fs : List (Str × D)} (w : WOk J W H) (r : RepR K W H Hs H0 v s) (e : s.dat = .ins C fs) : ∃ a dx vs, v = .ref a ∧ H a = some (.ins (He.ga K C) dx vs) ∧ DnF K W vs fs := by
  cases s with
  | fro d =>
    cases (show d = .ins C fs from e)
    cases r with
    | ins h rr => exact ⟨_, _, _, rfl, w.ins h, rr⟩
  | own ys => cases e
  | brw ys => cases e
  | ownd ys => cases e
  | brwd ys => cases e
  | owni aA cC ys => cases e; obtain ⟨⟨vs, ea, ha, _, rr⟩, _⟩ := r; exact ⟨aA, vs.1, vs.2, ea, ha, rr⟩
  | brwi aA cC ys => cases e; obtain ⟨⟨vs, ea, ha, _, rr⟩, _⟩ := r; exact ⟨aA, vs.1, vs.2, ea, ha, rr⟩
def dFld (C f : Str) (t : TD) : TD := fun Δ Q E => t Δ (fldD C f Q) E
theorem DnF.look {K : PySem.W.Frag} {W : Wd} {f : Str} : ∀ {vs : List (Str × V)} {fs : List (Str × D)} {d : D}, DnF K W vs fs → fs.lookup f = some d → ∃ v, vs.lookup f = some v ∧ Dn K W v d
  | _, _, _, .nil, e => by cases e
  | _, _, d, .cons (k := k) h r, e => by
    rw [List.lookup_cons] at e
    rw [List.lookup_cons]
    cases q : (f == k) with
    | true => rw [q] at e; cases e; exact ⟨_, rfl, h⟩
    | false => rw [q] at e; exact DnF.look r e
theorem DnF.none {K : PySem.W.Frag} {W : Wd} {f : Str} : ∀ {vs : List (Str × V)} {fs : List (Str × D)}, DnF K W vs fs → fs.lookup f = none → vs.lookup f = none
  | _, _, .nil, _ => rfl
  | _, _, .cons (k := k) h r, e => by
    rw [List.lookup_cons] at e
    rw [List.lookup_cons]
    cases q : (f == k) with
    | true => rw [q] at e; cases e
    | false => rw [q] at e; exact DnF.none r e
section
variable {X : Cx} {J : JS} {Wx : WX} {e : Expr} {pos : Pos} {t : TD}
theorem de_fld {C f : Str} (hC : Cls X.K (He.ga X.K C)) (hn : NoAttr X.K (He.ga X.K C) f) (h : DE X J Wx e t) (hb : attributeBase e f X.env (eval e X.env) = eval e X.env := by rfl) : DE X J Wx (.Attribute e f pos) (dFld C f t) := (pe_fld h hb).imp fun σ H Q ⟨W0, H0, Δ, W, Qd, Xd, st, ht, lk, lx⟩ => by
  refine ⟨W0, H0, Δ, W, _, _, st, ht, fun s v W1 H1 q st1 y1 r1 => ?_, lx⟩
  unfold fldD at q
  split at q
  · rename_i C' fs es
    obtain ⟨rfl, q⟩ := q
    obtain ⟨a, dx, vs, rfl, hw, rr⟩ := r1.isIns st1.wok es
    split at q
    · rename_i d ed
      obtain ⟨v, ev, rv⟩ := rr.look ed
      exact ⟨_, _, _, _, v, rfl, hw, hC, hn, ev, lk _ v W1 H1 q st1 y1 rv⟩
    · exact q.elim
  · exact q.elim
end
/-! ### own slots changed -/
section
variable {K : PySem.W.Frag} {J : JS} {W0 W : Wd} {H0 H : Hp} {Δ : Dl} {σ : L2.St} {i : Nat}
/-- the cell of slot i is written -/
theorem Stt.wr {a : Addr} {o o' : HO} {s s' : Sd} (st : Stt K J W0 H0 Δ W σ H) (hi : Δ[i]? = some (some s)) (hm : s.mine = true) (hσ : σ[i]? = some (some (.ref a))) (nh : ¬ W.has a)
    (hm' : s'.mine = true) (r' : RepS K W (upd H a o') (.ref a) s') : Stt K J W0 H0 (Δ.set i (some s')) W σ (upd H a o') := by
  have h0 : H0 a = none := st.own i s _ hi hm hσ a rfl
  exact {
    len := by simp [st.len]
    wok := st.wok.put nh
    ext := st.ext
    new := st.new
    frm := fun b u h m => by
      rw [upd_ne (ne_of_none h h0)]
      exact st.frm b u h m
    dom := fun b h => by
      have hne : b ≠ a := fun e => by subst e; exact h h0
      rw [upd_ne hne]
      exact st.dom b h
    slot := fun j t h => by
      rcases set_at h with ⟨e, q⟩ | ⟨e, q⟩
      · subst e
        cases q
        exact ⟨.ref a, hσ, r'⟩
      · obtain ⟨v, ev, rv⟩ := st.slot j t q
        refine ⟨v, ev, ?_⟩
        have other : t.mine = true → ∀ b, v = .ref b → b ≠ a := fun htm b eb q2 => by
          subst q2
          subst eb
          exact st.sep i j s t (.ref b) e hi q hm htm hσ ev
        cases t with
        | fro d => exact rv
        | own xs =>
          obtain ⟨b, vs, eb, hb, n, rr⟩ := rv
          exact ⟨b, vs, eb, by rw [upd_ne (other rfl b eb)]; exact hb, n, rr⟩
        | ownd xs =>
          obtain ⟨b, vs, eb, hb, n, rr⟩ := rv
          exact ⟨b, vs, eb, by rw [upd_ne (other rfl b eb)]; exact hb, n, rr⟩
        | owni aA cC xs =>
          obtain ⟨vs, eb, hb, n, rr⟩ := rv
          exact ⟨vs, eb, by rw [upd_ne (other rfl aA eb)]; exact hb, n, rr⟩
        | brw _ => exact rv.elim
        | brwd _ => exact rv.elim
        | brwi _ _ _ => exact rv.elim
    own := fun j t v h hmt hv => by
      rcases set_at h with ⟨e, q⟩ | ⟨e, q⟩
      · subst e
        cases q
        exact st.own i s v hi hm hv
      · exact st.own j t v q hmt hv
    sep := fun j k t u v hjk h1 h2 m1 m2 h3 h4 => by
      rcases set_at h1 with ⟨e1, q1⟩ | ⟨e1, q1⟩
      · subst e1
        rcases set_at h2 with ⟨e2, q2⟩ | ⟨e2, q2⟩
        · exact hjk e2
        · exact st.sep i k s u v hjk hi q2 hm m2 h3 h4
      · rcases set_at h2 with ⟨e2, q2⟩ | ⟨e2, q2⟩
        · subst e2
          exact st.sep j i t s v hjk q1 hi m1 hm h3 h4
        · exact st.sep j k t u v hjk q1 q2 m1 m2 h3 h4 }
theorem Stt.own_at (st : Stt K J W0 H0 Δ W σ H) {xs : List D} (hi : Δ[i]? = some (some (.own xs))) : ∃ a vs, σ[i]? = some (some (.ref a)) ∧ H a = some (.lst vs) ∧ ¬ W.has a ∧ Dns K W vs xs := by
  obtain ⟨v, ev, a, vs, rfl, ha, n, r⟩ := st.slot i _ hi
  exact ⟨a, vs, ev, ha, n, r⟩
theorem Stt.ownd_at (st : Stt K J W0 H0 Δ W σ H) {xs : List (Key × D)} (hi : Δ[i]? = some (some (.ownd xs))) : ∃ a vs, σ[i]? = some (some (.ref a)) ∧ H a = some (.dK vs) ∧ ¬ W.has a ∧ DnK K W vs xs := by
  obtain ⟨v, ev, a, vs, rfl, ha, n, r⟩ := st.slot i _ hi
  exact ⟨a, vs, ev, ha, n, r⟩
/-- slot i's list becomes xs' -/
theorem Stt.own_set (st : Stt K J W0 H0 Δ W σ H) {xs xs' : List D} {a : Addr} {vs vs' : List V} (hi : Δ[i]? = some (some (.own xs))) (hσ : σ[i]? = some (some (.ref a))) (n : ¬ W.has a) (r' : Dns K W vs' xs') :
    Stt K J W0 H0 (Δ.set i (some (.own xs'))) W σ (upd H a (.lst vs')) := st.wr (s' := .own xs') (o := .lst vs) hi rfl hσ n rfl ⟨a, vs', rfl, upd_same, n, r'⟩
theorem Stt.ownd_set (st : Stt K J W0 H0 Δ W σ H) {xs xs' : List (Key × D)} {a : Addr} {vs vs' : List (Key × V)} (hi : Δ[i]? = some (some (.ownd xs))) (hσ : σ[i]? = some (some (.ref a))) (n : ¬ W.has a) (r' : DnK K W vs' xs') :
    Stt K J W0 H0 (Δ.set i (some (.ownd xs'))) W σ (upd H a (.dK vs')) := st.wr (s' := .ownd xs') (o := .dK vs) hi rfl hσ n rfl ⟨a, vs', rfl, upd_same, n, r'⟩
end
/-- on slot i's own list -/
def ownAt (i : Nat) (Δ : Dl) (k : List D → Prop) : Prop := match Δ[i]? with
  | some (some (.own xs)) => k xs
  | _ => False
def owndAt (i : Nat) (Δ : Dl) (k : List (Key × D) → Prop) : Prop := match Δ[i]? with
  | some (some (.ownd xs)) => k xs
  | _ => False
theorem ownAt.ex {i : Nat} {Δ : Dl} {k : List D → Prop} (h : ownAt i Δ k) : ∃ xs, Δ[i]? = some (some (.own xs)) ∧ k xs := by
  unfold ownAt at h
  split at h
  · exact ⟨_, by assumption, h⟩
  · exact h.elim
theorem owndAt.ex {i : Nat} {Δ : Dl} {k : List (Key × D) → Prop} (h : owndAt i Δ k) : ∃ xs, Δ[i]? = some (some (.ownd xs)) ∧ k xs := by
  unfold owndAt at h
  split at h
  · exact ⟨_, by assumption, h⟩
  · exact h.elim
/-- expressions that change own slots: what comes is data -/
abbrev TDX := Dl → (D → Dl → Prop) → (ED → Prop) → Prop
def liftX (K : PySem.W.Frag) (J : JS) (Wx : WX) (t : TDX) : TE := fun σ H Q => ∃ W0 H0 Δ W Qd Xd, Stt K J W0 H0 Δ W σ H ∧ t Δ Qd Xd ∧
  (∀ d v Δ' W' H', Qd d Δ' → Stt K J W0 H0 Δ' W' σ H' → W.le W' → Dn K W' v d → Q v H') ∧
  (∀ e cls c Δ' W' H', Xd e → Stt K J W0 H0 Δ' W' σ H' → W.le W' → ExR K W' H' e cls c → Wx cls c σ H')
abbrev DX (X : Cx) (J : JS) (Wx : WX) (e : Expr) (t : TDX) : Prop := PE X e (liftX X.K J Wx t)
section
variable {X : Cx} {J : JS} {Wx : WX} {e o : Expr} {es : List Expr} {pos apos cpos : Pos} {t : TD} {tx : TDX} {i : Nat} {name : Str}
theorem tv_own {i : Nat} {Δ : Dl} {W0 W : Wd} {H0 H : Hp} {σ : L2.St} {xs : List D} {K : PySem.W.Frag} {Q : VK} (st : Stt K J W0 H0 Δ W σ H) (hi : Δ[i]? = some (some (.own xs)))
    (k : ∀ a vs, σ[i]? = some (some (.ref a)) → H a = some (.lst vs) → ¬ W.has a → Dns K W vs xs → Q (.ref a) H) : tVar i σ H Q := by
  obtain ⟨a, vs, e1, e2, e3, e4⟩ := st.own_at hi
  exact ⟨_, e1, k a vs e1 e2 e3 e4⟩
def dAppend (i : Nat) (t : TD) : TDS := fun DD Δ => ownAt i Δ fun xs => t Δ (fun s => sFrz s fun d => xs.length < sizeLine ∧ DD.nx (Δ.set i (some (.own (xs ++ [d]))))) (fun e => DD.ex e Δ)
theorem append_lift : ∀ D σ H, liftS X.K J Wx (dAppend i t) D σ H → tDrop (tBM X.K "list" rAppend (tVar i) (tCons (liftE X.K J Wx t) tNil)) D σ H := fun D σ H ⟨W0, H0, Δ, W, DD, st, ht, l⟩ => by
  obtain ⟨xs, hi, ht⟩ := ownAt.ex ht
  unfold tDrop tBM
  refine tv_own st hi fun a vs e1 e2 e3 e4 => ?_
  refine ⟨.inl ⟨rfl, _, SqL.of e2⟩, ?_⟩
  refine ⟨W0, H0, Δ, W, _, _, st, ht, fun s v W1 H1 q st1 y1 r1 => ?_, l.lx⟩
  obtain ⟨d, W2, q2, _, st2, y2, r2⟩ := frz_ok st1 y1 st r1 q
  have ha := y2.keep a _ e2 e3
  have n2 := y2.nothas e2 e3
  have rr := e4.mono y2.le
  refine ⟨a, vs, v, rfl, rfl, ha, by rw [rr.length]; exact q2.1, ?_⟩
  exact l.nx _ W2 σ _ q2.2 (st2.own_set (vs := vs) hi e1 n2 (rr.append (.cons r2 .nil))) y2.le
theorem ds_append (ho : PE X o (tVar i)) (he : DE X J Wx e t)
    (hbase : attributeBase o "append" X.env (eval o X.env) = eval o X.env := by rfl)
    (hfew : ((backTo cpos (starEach [e] X.env)).all (fun x => !x.1) && (backToKw cpos (keywordEach [] X.env)).all (fun x => x.1.isSome) && decide ([e].length + ([] : List Keyword).length + (if ([] : List Keyword).isEmpty then 0 else 1) < 30)) = true := by rfl)
    (hline : (apos.endLine == cpos.line) = true := by rfl) (hs : starEach [e] X.env = (false, eval e X.env) :: starEach [] X.env := by rfl) (hplain : (backTo cpos (starEach [] X.env)).any (·.1) = false := by rfl)
    (hsw : swapsWith (.Call (.Attribute o "append" apos) [e] [] cpos) none pos.line X.env = pure false := by rfl) : DS X J Wx (.Expr (.Call (.Attribute o "append" apos) [e] [] cpos) pos) (dAppend i t) :=
  (ps_expr (pe_bm PySem.F.plainAttrs_list PySem.F.slot_list_append PySem.F.type_list_append mt_append ho (pa_cons he pa_nil hs) hbase hfew hline hs hplain) hsw).imp append_lift
end
end DL
set_option Elab.async false
set_option linter.all false
set_option maxRecDepth 100000
set_option maxHeartbeats 4000000
namespace DL
open PySem PySem.Spec PyProof.Rows L2
section
open PySem.AutoSeq1
theorem ext_tup (l : Addr) (items : Array Value) (n : Nat) (b : Addr) (its : Array Value) (m : Nat) (dct : Option Addr) (sl : Array (Option Value))
    (h0 : ¬(!items.isEmpty && Builtin.List.listTooLong (items.size + its.size)) = true) (h1 : items.size ≤ sizeLine) (h2 : items.size + its.size ≤ sizeLine + 1) :
    Meets (Builtin.«list.extend» ⟨[.ref l, .ref b], []⟩) (fun _ R s => s.heap.get? l = some { cls := .type "list", dict := none, data := .seq items n, slots := #[] } ∧
      s.heap.get? b = some { cls := .type "tuple", dict := dct, data := .seq its m, slots := sl } ∧ R (.ok (.ret Value.none)) { s with heap := s.heap.update l (Obj.mapSeq fun x => x ++ its), toks := s.toks }) :=
  .of_wp fun prog w A R s h => by
    obtain ⟨hp, g, d, tk, os⟩ := s
    obtain ⟨hl, hb, h⟩ := h
    have f1 := AutoSeq1.idx_int; have f2 := AutoSeq1.sub_tuple_tuple; have f3 := AutoSeq1.sub_list_list
    have f4 := AutoSeq1.sub_tuple_list; have f5 := AutoSeq1.sub_list_tuple
    have hz : (items ++ its).size ≤ sizeLine + 1 := by
      rw [Array.size_append]
      exact h2
    wp_walk using (wpAny_updateSeq hl rfl (hz := h1) (_hz' := hz)), wpAny_loadPart' hl, wpAny_loadPart' hb
    exact ⟨_, rfl, h⟩
end
def rExtT (K : PySem.W.Frag) : V → List V → Hp → VK → Prop := fun x vs H Q => ∃ l b xs zs, x = .ref l ∧ vs = [.ref b] ∧ H l = some (.lst xs) ∧ SqT K H b zs ∧ xs.length + zs.length ≤ sizeLine ∧ Q .non (upd H l (.lst (xs ++ zs)))
section
variable {X : Cx}
theorem mt_extT : MtM X "list.extend" (rExtT X.K) := by
  intro pins s σ H x vs v us Q I rx rv h
  obtain ⟨l, b, xs, zs, rfl, rfl, hH, hB, hz, q⟩ := h
  cases rx
  obtain ⟨u, rfl, ru⟩ := rv.one
  cases ru
  obtain ⟨z, its, n, r, hl, e⟩ := I.lstM hH
  obtain ⟨its2, r2, ⟨ob, e2, hc2, n2, hd2⟩, z2⟩ := I.tuple hB
  have hl2 := r2.length
  obtain ⟨oc, od, dt, sl⟩ := ob
  obtain rfl : oc = .type "tuple" := hc2
  obtain rfl : dt = .seq its2.toArray n2 := hd2
  have hsz : its.toArray.size + its2.toArray.size ≤ sizeLine := by
    rw [List.size_toArray, List.size_toArray]
    omega
  refine call_meets F.slot_list_extend ⟨_, e, rfl⟩ F.entry_list_extend (F.args_list_extend_2 _ _) (ext_tup l its.toArray n b its2.toArray n2 od sl ?_ (by rw [List.size_toArray]; omega) (by omega)) ⟨e, e2, ?_⟩
  · rw [notLongL hsz, Bool.and_false]
    exact Bool.false_ne_true
  · refine ⟨.non, _, I.lset (its' := its ++ its2) hH e (by simp) (r.append r2) ?_, rfl, q⟩
    rw [List.length_append]
    omega
theorem mt_extA : MtM X "list.extend" (fun x vs H Q => rExtend x vs H Q ∨ rExtT X.K x vs H Q) := by
  intro pins s σ H x vs v us Q I rx rv h
  rcases h with h | h
  · exact mt_extend pins s σ H x vs v us Q I rx rv h
  · exact mt_extT pins s σ H x vs v us Q I rx rv h
variable {J : JS} {Wx : WX} {e o ix : Expr} {es : List Expr} {pos apos cpos spos : Pos} {t ti tv : TD} {tx : TDX} {i j : Nat}
/-! ### effects of expressions on own slots -/
/-- data as an effectful expression's -/
def xOf (t : TD) : TDX := fun Δ Q E => t Δ (fun s => sFrz s fun d => Q d Δ) E
theorem xof_lift : ∀ σ H Q, liftX X.K J Wx (xOf t) σ H Q → liftE X.K J Wx t σ H Q := fun σ H Q ⟨W0, H0, Δ, W, Qd, Xd, st, ht, lk, lx⟩ => by
  refine ⟨W0, H0, Δ, W, _, _, st, ht, fun s v W1 H1 q st1 y1 r1 => ?_, fun e c d W' H' q st' y' r' => lx e c d Δ W' H' q st' y'.le r'⟩
  obtain ⟨d, W2, q2, _, st2, y2, r2⟩ := frz_ok st1 y1 st r1 q
  exact lk d v Δ W2 H1 q2 st2 y2.le r2
theorem dx_of (h : DE X J Wx e t) : DX X J Wx e (xOf t) := h.imp xof_lift
/-- x.pop() -/
def xPop (i : Nat) : TDX := fun Δ Q _ => ownAt i Δ fun xs => match xs.getLast? with
  | some d => Q d (Δ.set i (some (.own xs.dropLast)))
  | none => False
theorem Dns.dropLast {K : PySem.W.Frag} {W : Wd} {vs : List V} {ds : List D} (h : Dns K W vs ds) : Dns K W vs.dropLast ds.dropLast := by
  rw [List.dropLast_eq_take, List.dropLast_eq_take, h.length]
  exact h.take _
theorem Dns.eraseIdx {K : PySem.W.Frag} {W : Wd} : ∀ {vs : List V} {ds : List D} (i : Nat), Dns K W vs ds → Dns K W (vs.eraseIdx i) (ds.eraseIdx i)
  | _, _, _, .nil => .nil
  | _, _, 0, .cons _ r => r
  | _, _, i + 1, .cons h r => .cons h (Dns.eraseIdx i r)
theorem dx_pop (ho : PE X o (tVar i)) (hbase : attributeBase o "pop" X.env (eval o X.env) = eval o X.env := by rfl) (hline : (apos.endLine == cpos.line) = true := by rfl) :
    DX X J Wx (.Call (.Attribute o "pop" apos) [] [] cpos) (xPop i) :=
  (pe_bm0 PySem.F.plainAttrs_list PySem.F.slot_list_pop PySem.F.type_list_pop mt_pop ho hbase hline).imp fun σ H Q ⟨W0, H0, Δ, W, Qd, Xd, st, ht, lk, lx⟩ => by
    obtain ⟨xs, hi, ht⟩ := ownAt.ex ht
    unfold tBM0
    refine tv_own st hi fun a vs e1 e2 e3 e4 => ⟨.inl ⟨rfl, _, SqL.of e2⟩, ?_⟩
    split at ht
    · rename_i d ed
      rw [List.getLast?_eq_getElem?] at ed
      obtain ⟨v, ev, rv⟩ := e4.get ed
      have el := e4.length
      exact ⟨a, vs, v, rfl, rfl, e2, by rw [el]; exact ev, lk d v _ W _ ht (st.own_set (vs := vs) hi e1 e3 e4.dropLast) (.refl W) rv⟩
    · exact ht.elim
/-- x.pop(k) -/
def xPopAt (i : Nat) (t : TD) : TDX := fun Δ Q E => ownAt i Δ fun xs => t Δ (fun s => match s with
  | .fro (.int k) => -(2 ^ 63) ≤ k ∧ k < 2 ^ 63 ∧ (match seqIndex? k xs.length with
    | some j => (match xs[j]? with
      | some d => Q d (Δ.set i (some (.own (xs.eraseIdx j))))
      | none => False)
    | none => False)
  | _ => False) E
theorem dx_popAt (ho : PE X o (tVar i)) (he : DE X J Wx e t) (hbase : attributeBase o "pop" X.env (eval o X.env) = eval o X.env := by rfl)
    (hfew : ((backTo cpos (starEach [e] X.env)).all (fun x => !x.1) && (backToKw cpos (keywordEach [] X.env)).all (fun x => x.1.isSome) && decide ([e].length + ([] : List Keyword).length + (if ([] : List Keyword).isEmpty then 0 else 1) < 30)) = true := by rfl)
    (hline : (apos.endLine == cpos.line) = true := by rfl) (hs : starEach [e] X.env = (false, eval e X.env) :: starEach [] X.env := by rfl) (hplain : (backTo cpos (starEach [] X.env)).any (·.1) = false := by rfl) :
    DX X J Wx (.Call (.Attribute o "pop" apos) [e] [] cpos) (xPopAt i t) :=
  (pe_bm PySem.F.plainAttrs_list PySem.F.slot_list_pop PySem.F.type_list_pop mt_popAt ho (pa_cons he pa_nil hs) hbase hfew hline hs hplain).imp fun σ H Q ⟨W0, H0, Δ, W, Qd, Xd, st, ht, lk, lx⟩ => by
    obtain ⟨xs, hi, ht⟩ := ownAt.ex ht
    unfold tBM
    refine tv_own st hi fun a vs e1 e2 e3 e4 => ⟨.inl ⟨rfl, _, SqL.of e2⟩, ?_⟩
    refine ⟨W0, H0, Δ, W, _, _, st, ht, fun s v W1 H1 q st1 y1 r1 => ?_, fun e c d W' H' q st' y' r' => lx e c d Δ W' H' q st' y'.le r'⟩
    dsimp only at q
    split at q
    · have := dn_int r1
      subst this
      obtain ⟨q1, q2, q⟩ := q
      split at q
      · rename_i j ej
        split at q
        · rename_i d ed
          have e4 := e4.mono y1.le
          obtain ⟨u, eu, ru⟩ := e4.get ed
          have ha := y1.keep a _ e2 e3
          exact ⟨a, vs, _, j, u, rfl, rfl, ha, q1, q2, by rw [e4.length]; exact ej, eu, lk d u _ W1 _ q (st1.own_set (vs := vs) hi e1 (y1.nothas e2 e3) (e4.eraseIdx j)) y1.le ru⟩
        · exact q.elim
      · exact q.elim
    · exact q.elim
/-- x = e, where e changes own slots -/
def dSetX (j : Nat) (t : TDX) : TDS := fun DD Δ => t Δ (fun d Δ' => DD.nx (Δ'.set j (some (.fro d)))) (fun e => ∀ Δx, DD.ex e Δx)
theorem ds_setX {x : Str} {pos' : Pos} (hN : X.N.Nodup) (hi : X.N[j]? = some x) (hx : Loc X.env.scope x) (he : DX X J Wx e tx) (hs : swapsWith e (some (.Name x pos')) pos.line X.env = pure false := by rfl)
    (hf : X.fn x = true ∨ X.env.scope.names.lookup x = some .local := by first | exact .inl rfl | exact .inr rfl | assumption) : DS X J Wx (.Assign [.Name x pos'] e pos) (dSetX j tx) := (ps_set hN hi hx he hs hf).imp fun D σ H ⟨W0, H0, Δ, W, DD, st, ht, l⟩ =>
  ⟨W0, H0, Δ, W, _, _, st, ht, fun d v Δ' W' H' q st' le' r => l.nx _ W' _ H' q (Stt.set (s := .fro d) (Hs := H') st' st' r rfl) le', fun e c d Δ' W' H' q st' le' r => l.ex e c d Δ' W' σ H' (q Δ') st' le' r⟩
/-- (a, b) = e -/
def dAsgX (t : TDX) (g : TDG) : TDS := fun DD Δ => t Δ (fun d Δ' => g d Δ' DD.nx) (fun e => ∀ Δx, DD.ex e Δx)
theorem ds_asgX {tg : Expr} {g : TDG} {vs : List Nat} (he : DX X J Wx e tx) (hg : DG X J vs tg g) (hs : swapsWithSole [tg] e pos.line X.env = pure false := by rfl) (hw : swappedStores [tg] e X.env = pure none := by rfl)
    (h1 : (assignEach [tg] X.env).map (·.2) = [assign tg X.env] := by rfl) : DS X J Wx (.Assign [tg] e pos) (dAsgX tx g) := (ps_asg he hg hs hw h1).imp fun D σ H ⟨W0, H0, Δ, W, DD, st, ht, l⟩ => by
  refine ⟨W0, H0, Δ, W, _, _, st, ht, fun d v Δ' W' H' q st' le' r => ?_, fun e c d Δ' W' H' q st' le' r => l.ex e c d Δ' W' σ H' (q Δ') st' le' r⟩
  exact ⟨W0, H0, Δ', W', d, _, st', r, q, fun Δ2 σ2 q2 st2 _ _ => l.nx Δ2 W' σ2 H' q2 st2 le'⟩
def dDropX (t : TDX) : TDS := fun DD Δ => t Δ (fun _ Δ' => DD.nx Δ') (fun e => ∀ Δx, DD.ex e Δx)
theorem ds_exprX (he : DX X J Wx e tx) (hs : swapsWith e none pos.line X.env = pure false := by rfl) : DS X J Wx (.Expr e pos) (dDropX tx) := (ps_expr he hs).imp fun D σ H ⟨W0, H0, Δ, W, DD, st, ht, l⟩ =>
  ⟨W0, H0, Δ, W, _, _, st, ht, fun d v Δ' W' H' q st' le' r => l.nx _ W' _ H' q st' le', fun e c d Δ' W' H' q st' le' r => l.ex e c d Δ' W' σ H' (q Δ') st' le' r⟩
/-- x.extend(e) -/
def seqOf (s : Sd) (Q : List D → Prop) : Prop := match s with
  | .fro (.lst xs) => Q xs
  | .fro (.tup xs) => Q xs
  | .own xs => Q xs
  | .brw xs => Q xs
  | _ => False
def dExtend (i : Nat) (t : TD) : TDS := fun DD Δ => ownAt i Δ fun xs => t Δ (fun s => seqOf s fun ys => xs.length + ys.length ≤ sizeLine ∧ DD.nx (Δ.set i (some (.own (xs ++ ys))))) (fun e => DD.ex e Δ)
theorem ext_ok {K : PySem.W.Frag} {W0 W : Wd} {H0 H Hs Hz : Hp} {Δ : Dl} {σ : L2.St} {s : Sd} {v : V} {xs : List D} {a : Addr} {vs : List V} {Q : VK} {q : List D → Prop} (st : Stt K J W0 H0 Δ W σ H) (hi : Δ[i]? = some (some (.own xs))) (e1 : σ[i]? = some (some (.ref a)))
    (e2 : H a = some (.lst vs)) (e3 : ¬ W.has a) (e4 : Dns K W vs xs) (r : RepR K W H Hs Hz v s) (h : seqOf s fun ys => xs.length + ys.length ≤ sizeLine ∧ q ys)
    (k : ∀ ys us, q ys → Stt K J W0 H0 (Δ.set i (some (.own (xs ++ ys)))) W σ (upd H a (.lst (vs ++ us))) → Q .non (upd H a (.lst (vs ++ us)))) : rExtend (.ref a) [v] H Q ∨ rExtT K (.ref a) [v] H Q := by
  have lst : ∀ {b us ys}, v = .ref b → H b = some (.lst us) → Dns K W us ys → xs.length + ys.length ≤ sizeLine ∧ q ys → rExtend (.ref a) [v] H Q := fun {b us ys} eb hb rr h => by
    subst eb
    exact ⟨a, b, vs, us, rfl, rfl, e2, hb, by rw [e4.length, rr.length]; exact h.1, k ys us h.2 (st.own_set (vs := vs) hi e1 e3 (e4.append rr))⟩
  unfold seqOf at h
  split at h
  · cases r with
    | lst hw rr => exact .inl (lst rfl (st.wok.lst hw) rr h)
  · cases r with
    | tup hw rr => exact .inr ⟨a, _, vs, _, rfl, rfl, e2, st.wok.tup hw, by rw [e4.length, rr.length]; exact h.1, k _ _ h.2 (st.own_set (vs := vs) hi e1 e3 (e4.append rr))⟩
  · obtain ⟨⟨b, us, eb, hb, _, rr⟩, _⟩ := r
    exact .inl (lst eb hb rr h)
  · obtain ⟨⟨b, us, eb, hb, _, rr⟩, _⟩ := r
    exact .inl (lst eb hb rr h)
  · exact h.elim
theorem ds_extend (ho : PE X o (tVar i)) (he : DE X J Wx e t) (hbase : attributeBase o "extend" X.env (eval o X.env) = eval o X.env := by rfl)
    (hfew : ((backTo cpos (starEach [e] X.env)).all (fun x => !x.1) && (backToKw cpos (keywordEach [] X.env)).all (fun x => x.1.isSome) && decide ([e].length + ([] : List Keyword).length + (if ([] : List Keyword).isEmpty then 0 else 1) < 30)) = true := by rfl)
    (hline : (apos.endLine == cpos.line) = true := by rfl) (hs : starEach [e] X.env = (false, eval e X.env) :: starEach [] X.env := by rfl) (hplain : (backTo cpos (starEach [] X.env)).any (·.1) = false := by rfl)
    (hsw : swapsWith (.Call (.Attribute o "extend" apos) [e] [] cpos) none pos.line X.env = pure false := by rfl) : DS X J Wx (.Expr (.Call (.Attribute o "extend" apos) [e] [] cpos) pos) (dExtend i t) :=
  (ps_expr (pe_bm PySem.F.plainAttrs_list PySem.F.slot_list_extend PySem.F.type_list_extend mt_extA ho (pa_cons he pa_nil hs) hbase hfew hline hs hplain) hsw).imp fun D σ H ⟨W0, H0, Δ, W, DD, st, ht, l⟩ => by
    obtain ⟨xs, hi, ht⟩ := ownAt.ex ht
    unfold tDrop tBM
    refine tv_own st hi fun a vs e1 e2 e3 e4 => ⟨.inl ⟨rfl, _, SqL.of e2⟩, ?_⟩
    refine ⟨W0, H0, Δ, W, _, _, st, ht, fun s v W1 H1 q st1 y1 r1 => ?_, l.lx⟩
    exact ext_ok st1 hi e1 (y1.keep a _ e2 e3) (y1.nothas e2 e3) (e4.mono y1.le) r1 q fun ys us q' st' => l.nx _ W1 σ _ q' st' y1.le
/-- x.extend(e), where e itself changes own slots (x.pop() ..) -/
def seqD (d : D) (Q : List D → Prop) : Prop := match d with
  | .lst xs => Q xs
  | .tup xs => Q xs
  | _ => False
def dExtendX (i : Nat) (t : TDX) : TDS := fun DD Δ => (∃ xs, Δ[i]? = some (some (.own xs))) ∧ t Δ (fun d Δ' => ownAt i Δ' fun xs => seqD d fun ys => xs.length + ys.length ≤ sizeLine ∧ DD.nx (Δ'.set i (some (.own (xs ++ ys))))) (fun e => ∀ Δx, DD.ex e Δx)
theorem ds_extendX (ho : PE X o (tVar i)) (he : DX X J Wx e tx) (hbase : attributeBase o "extend" X.env (eval o X.env) = eval o X.env := by rfl)
    (hfew : ((backTo cpos (starEach [e] X.env)).all (fun x => !x.1) && (backToKw cpos (keywordEach [] X.env)).all (fun x => x.1.isSome) && decide ([e].length + ([] : List Keyword).length + (if ([] : List Keyword).isEmpty then 0 else 1) < 30)) = true := by rfl)
    (hline : (apos.endLine == cpos.line) = true := by rfl) (hs : starEach [e] X.env = (false, eval e X.env) :: starEach [] X.env := by rfl) (hplain : (backTo cpos (starEach [] X.env)).any (·.1) = false := by rfl)
    (hsw : swapsWith (.Call (.Attribute o "extend" apos) [e] [] cpos) none pos.line X.env = pure false := by rfl) : DS X J Wx (.Expr (.Call (.Attribute o "extend" apos) [e] [] cpos) pos) (dExtendX i tx) :=
  (ps_expr (pe_bm PySem.F.plainAttrs_list PySem.F.slot_list_extend PySem.F.type_list_extend mt_extA ho (pa_cons he pa_nil hs) hbase hfew hline hs hplain) hsw).imp fun D σ H ⟨W0, H0, Δ, W, DD, st, ht, l⟩ => by
    obtain ⟨⟨xs, hi⟩, ht⟩ := ht
    unfold tDrop tBM
    refine tv_own st hi fun a vs e1 e2 e3 e4 => ⟨.inl ⟨rfl, _, SqL.of e2⟩, ?_⟩
    refine ⟨W0, H0, Δ, W, _, _, st, ht, fun d v Δ1 W1 H1 q st1 y1 r1 => ?_, fun e c d Δ' W' H' q st' le' r => l.ex e c d Δ' W' σ H' (q Δ') st' le' r⟩
    obtain ⟨xs', hi', q⟩ := ownAt.ex q
    obtain ⟨a', vs', f1, f2, f3, f4⟩ := st1.own_at hi'
    rw [e1] at f1
    cases f1
    refine ext_ok (s := .fro d) (Hs := H1) (Hz := H1) (q := fun ys => DD.nx (Δ1.set i (some (.own (xs' ++ ys))))) st1 hi' e1 f2 f3 f4 r1 ?_ fun ys us q' st' => l.nx _ W1 σ _ q' st' y1
    unfold seqD at q
    unfold seqOf
    cases d <;> first | exact q | exact q.elim
/-- x[k] = e -/
def dSetIx (i : Nat) (ti tv : TD) : TDS := fun DD Δ => tv Δ (fun s => sFrz s fun d => ownAt i Δ fun xs => ti Δ (fun s2 => match s2 with
  | .fro (.int k) => (match ixN xs.length k with
    | some j => DD.nx (Δ.set i (some (.own (xs.set j d))))
    | none => False)
  | _ => False) (fun e => DD.ex e Δ)) (fun e => DD.ex e Δ)
theorem ds_setIx (ho : PE X o (tVar i)) (hix : DE X J Wx ix ti) (hv : DE X J Wx e tv)
    (ha : ∀ v, assign (.Subscript o ix spos) X.env v = (do
      let ov ← holding [v] (eval o X.env)
      let iv ← holding [v, ov] (eval ix X.env)
      standAt spos
      holding [v, ov, iv] (setItem ov iv v)
      release [v, ov, iv] []) := by intro _; rfl)
    (hs : swapsWithSole [.Subscript o ix spos] e pos.line X.env = pure false := by rfl) (hw : swappedStores [.Subscript o ix spos] e X.env = pure none := by rfl)
    (h1 : (assignEach [.Subscript o ix spos] X.env).map (·.2) = [assign (.Subscript o ix spos) X.env] := by rfl) : DS X J Wx (.Assign [.Subscript o ix spos] e pos) (dSetIx i ti tv) :=
  (ps_asg hv (pg_sub ho hix set_list ha) hs hw h1).imp fun D σ H ⟨W0, H0, Δ, W, DD, st, ht, l⟩ => by
    refine ⟨W0, H0, Δ, W, _, _, st, ht, fun s v W1 H1 q st1 y1 r1 => ?_, l.lx⟩
    obtain ⟨d, W2, q2, _, st2, y2, r2⟩ := frz_ok st1 y1 st r1 q
    obtain ⟨xs, hi, q2⟩ := ownAt.ex q2
    unfold gSub
    refine tv_own st2 hi fun a vs e1 e2 e3 e4 => ?_
    refine ⟨W0, H0, Δ, W2, _, _, st2, q2, fun s2 v2 W3 H3 q3 st3 y3 r3 => ?_, (l.at y2.le).lx⟩
    dsimp only at q3
    split at q3
    · have := dn_int r3
      subst this
      split at q3
      · rename_i j ej
        have e4 := e4.mono y3.le
        exact ⟨a, vs, _, j, rfl, rfl, y3.keep a _ e2 e3, by rw [e4.length]; exact ej, l.nx _ W3 σ _ q3 (st3.own_set (vs := vs) hi e1 (y3.nothas e2 e3) (e4.set (r2.mono y3.le) j)) (y2.le.trans y3.le)⟩
      · exact q3.elim
    · exact q3.elim
end
end DL
set_option Elab.async false
set_option linter.all false
set_option maxRecDepth 100000
set_option maxHeartbeats 4000000
namespace DL
open PySem PySem.Spec PyProof.Rows L2
/-! ### data that the library's rules over data read -/
mutual
def D.py : D → PyData
  | .non => .none
  | .bl b => .bool b
  | .int i => .int i
  | .str x => .str x
  | .lst xs => .list (D.pys xs)
  | .tup xs => .tuple (D.pys xs)
  | _ => .none
def D.pys : List D → List PyData
  | [] => []
  | x :: xs => x.py :: D.pys xs
end
mutual
def D.pure : D → Bool
  | .non => true
  | .bl _ => true
  | .int _ => true
  | .str _ => true
  | .lst xs => D.pures xs
  | .tup xs => D.pures xs
  | _ => false
def D.pures : List D → Bool
  | [] => true
  | x :: xs => x.pure && D.pures xs
end
section
variable {K : PySem.W.Frag} {J : JS} {W : Wd} {H : Hp}
mutual
theorem Dn.dp (w : WOk J W H) : ∀ {v : V} {d : D}, Dn K W v d → d.pure = true → Dp K H v d.py
  | _, _, .non, _ => .non
  | _, _, .bl b, _ => .bl b
  | _, _, .int i, _ => .int i
  | _, _, .str x, _ => .str x
  | _, _, .lst h r, p => .lst (SqL.of (w.lst h)) (Dns.dp w r (by simpa [D.pure] using p))
  | _, _, .tup h r, p => .tup (w.tup h) (Dns.dp w r (by simpa [D.pure] using p))
  | _, _, .scr h r, p => by simp [D.pure] at p
theorem Dns.dp (w : WOk J W H) : ∀ {vs : List V} {ds : List D}, Dns K W vs ds → D.pures ds = true → DpAll K H vs (D.pys ds)
  | _, _, .nil, _ => .nil
  | _, _, .cons h r, p => by
    have p : (_ && _) = true := p
    rw [Bool.and_eq_true] at p
    exact .cons (Dn.dp w h p.1) (Dns.dp w r p.2)
end
variable {W0 : Wd} {H0 Hs : Hp} {Δ : Dl} {σ : L2.St} {v : V} {s : Sd}
/-- a list, whatever holds it -/
theorem RepR.isLst {xs : List D} (w : WOk J W H) (r : RepR K W H Hs H0 v s) (e : s.dat = .lst xs) : ∃ a vs, v = .ref a ∧ H a = some (.lst vs) ∧ Dns K W vs xs := by
  cases s with
  | fro d =>
    cases (show d = .lst xs from e)
    cases r with
    | lst h rr => exact ⟨_, _, rfl, w.lst h, rr⟩
  | own ys => cases e; obtain ⟨⟨a, vs, ea, ha, _, rr⟩, _⟩ := r; exact ⟨a, vs, ea, ha, rr⟩
  | brw ys => cases e; obtain ⟨⟨a, vs, ea, ha, _, rr⟩, _⟩ := r; exact ⟨a, vs, ea, ha, rr⟩
  | ownd ys => cases e
  | owni aA cC ys => cases e
  | brwd ys => cases e
  | brwi aA cC ys => cases e
theorem RepR.isTup {xs : List D} (w : WOk J W H) (r : RepR K W H Hs H0 v s) (e : s.dat = .tup xs) : ∃ a vs, v = .ref a ∧ SqT K H a vs ∧ Dns K W vs xs := by
  cases s with
  | fro d =>
    cases (show d = .tup xs from e)
    cases r with
    | tup h rr => exact ⟨_, _, rfl, w.tup h, rr⟩
  | own ys => cases e
  | brw ys => cases e
  | ownd ys => cases e
  | owni aA cC ys => cases e
  | brwd ys => cases e
  | brwi aA cC ys => cases e
theorem RepR.isDic {xs : List (Key × D)} (w : WOk J W H) (r : RepR K W H Hs H0 v s) (e : s.dat = .dic xs) : ∃ a vs, v = .ref a ∧ Rd H a (.dK vs) ∧ DnK K W vs xs := by
  cases s with
  | fro d =>
    cases (show d = .dic xs from e)
    cases r with
    | dic h rr => exact ⟨_, _, rfl, w.dic h, rr⟩
  | ownd ys => cases e; obtain ⟨⟨a, vs, ea, ha, _, rr⟩, _⟩ := r; exact ⟨a, vs, ea, .inl ha, rr⟩
  | owni aA cC ys => cases e
  | brwd ys => cases e; obtain ⟨⟨a, vs, ea, ha, _, rr⟩, _⟩ := r; exact ⟨a, vs, ea, .inl ha, rr⟩
  | brwi aA cC ys => cases e
  | own ys => cases e
  | brw ys => cases e
theorem RepR.isInt {i : Int} (r : RepR K W H Hs H0 v s) (e : s.dat = .int i) : v = .int i := by
  cases s with
  | fro d => cases (show d = .int i from e); cases r; rfl
  | own ys => cases e
  | brw ys => cases e
  | ownd ys => cases e
  | owni aA cC ys => cases e
  | brwd ys => cases e
  | brwi aA cC ys => cases e
theorem RepR.isStr {i : Str} (r : RepR K W H Hs H0 v s) (e : s.dat = .str i) : v = .str i := by
  cases s with
  | fro d => cases (show d = .str i from e); cases r; rfl
  | own ys => cases e
  | brw ys => cases e
  | ownd ys => cases e
  | owni aA cC ys => cases e
  | brwd ys => cases e
  | brwi aA cC ys => cases e
theorem RepR.isBl {i : Bool} (r : RepR K W H Hs H0 v s) (e : s.dat = .bl i) : v = .bl i := by
  cases s with
  | fro d => cases (show d = .bl i from e); cases r; rfl
  | own ys => cases e
  | brw ys => cases e
  | ownd ys => cases e
  | owni aA cC ys => cases e
  | brwd ys => cases e
  | brwi aA cC ys => cases e
/-- pure data, whatever holds it -/
theorem RepR.dp (w : WOk J W H) (r : RepR K W H Hs H0 v s) (p : s.dat.pure = true) : Dp K H v s.dat.py := by
  have lst : ∀ {xs : List D}, LstAt K W H v xs → D.pures xs = true → Dp K H v (.list (D.pys xs)) := fun {xs} ⟨a, vs, ea, ha, _, rr⟩ p => by
    subst ea
    exact .lst (SqL.of ha) (Dns.dp w rr p)
  cases s with
  | fro d => exact Dn.dp w r p
  | own ys => exact lst r.1 (by simpa [Sd.dat, D.pure] using p)
  | brw ys => exact lst r.1 (by simpa [Sd.dat, D.pure] using p)
  | ownd ys => simp [Sd.dat, D.pure] at p
  | owni aA cC ys => simp [Sd.dat, D.pure] at p
  | brwd ys => simp [Sd.dat, D.pure] at p
  | brwi aA cC ys => simp [Sd.dat, D.pure] at p
end
/-! ### operators -/
section
variable {X : Cx} {J : JS} {Wx : WX}
/-- ints in -/
def fI (C : Int → Int → Prop) (g : Int → Int → Int) (x y : Sd) (Q : Sd → Prop) : Prop := match x.dat, y.dat with
  | .int i, .int j => C i j ∧ Q (.fro (.int (g i j)))
  | _, _ => False
theorem int_ok {K : PySem.W.Frag} {C C' : Int → Int → Prop} {g : Int → Int → Int} (hc : ∀ i j, C i j → C' i j) : OpS K J (rI C' fun i j => .int (g i j)) (fI C g) := by
  intro W0 H0 Δ W σ H Hs Qd Q x y v u st rx ry h lk
  unfold fI at h
  split at h
  · rename_i i j e1 e2
    exact ⟨i, j, rx.isInt e1, ry.isInt e2, hc _ _ h.1, lk _ _ W H h.2 st (.refl W H) (Dn.int _)⟩
  · exact h.elim
/-- + -/
def fAdd (x y : Sd) (Q : Sd → Prop) : Prop := match x.dat, y.dat with
  | .int i, .int j => Q (.fro (.int (i + j)))
  | .str a, .str b => a.length + b.length ≤ sizeLine ∧ Q (.fro (.str (a ++ b)))
  | .lst xs, .lst ys => xs.length + ys.length ≤ sizeLine ∧ Q (.own (xs ++ ys))
  | .tup xs, .tup ys => xs.length + ys.length ≤ sizeLine ∧ Q (.fro (.tup (xs ++ ys)))
  | _, _ => False
theorem op_addA : OpR X (binaryOp .Add) (fun x y H Q => (rI0 fun i j => .int (i + j)) x y H Q ∨ (∃ i j, x = .str i ∧ y = .str j ∧ i.length + j.length ≤ sizeLine ∧ Q (.str (i ++ j)) H) ∨ rCat x y H Q ∨ rCatP X.K x y H Q) :=
  op_add.or (op_add_str.or (op_cat.or op_catP))
theorem add_ok {K : PySem.W.Frag} : OpS K J (fun x y H Q => (rI0 fun i j => .int (i + j)) x y H Q ∨ (∃ i j, x = .str i ∧ y = .str j ∧ i.length + j.length ≤ sizeLine ∧ Q (.str (i ++ j)) H) ∨ rCat x y H Q ∨ rCatP K x y H Q) fAdd := by
  intro W0 H0 Δ W σ H Hs Qd Q x y v u st rx ry h lk
  unfold fAdd at h
  split at h
  · rename_i i j e1 e2
    exact .inl ⟨i, j, rx.isInt e1, ry.isInt e2, lk _ _ W H h st (.refl W H) (Dn.int _)⟩
  · rename_i i j e1 e2
    exact .inr (.inl ⟨i, j, rx.isStr e1, ry.isStr e2, h.1, lk _ _ W H h.2 st (.refl W H) (Dn.str _)⟩)
  · rename_i xs ys e1 e2
    obtain ⟨a, vs, rfl, ha, ra⟩ := rx.isLst st.wok e1
    obtain ⟨b, us, rfl, hb, rb⟩ := ry.isLst st.wok e2
    exact .inr (.inr (.inl ⟨a, b, vs, us, rfl, rfl, ha, hb, by rw [ra.length, rb.length]; exact h.1, new_lst st (ra.append rb) h.2 lk⟩))
  · rename_i xs ys e1 e2
    obtain ⟨a, vs, rfl, ha, ra⟩ := rx.isTup st.wok e1
    obtain ⟨b, us, rfl, hb, rb⟩ := ry.isTup st.wok e2
    refine .inr (.inr (.inr ⟨a, b, vs, us, rfl, rfl, ha, hb, by rw [ra.length, rb.length]; exact h.1, fun e => ?_, fun _ e => ?_, fun _ _ => new_tup st (ra.append rb) h.2 lk⟩))
    · subst e
      cases ra
      refine lk _ _ W H h.2 st (.refl W H) ?_
      cases y with
      | fro d => cases (show d = .tup ys from e2); exact ry
      | own _ => cases e2
      | brw _ => cases e2
      | ownd _ => cases e2
      | owni _ _ _ => cases e2
      | brwd _ => cases e2
      | brwi _ _ _ => cases e2
    · subst e
      cases rb
      refine lk _ _ W H h.2 st (.refl W H) ?_
      rw [List.append_nil]
      cases x with
      | fro d => cases (show d = .tup xs from e1); exact rx
      | own _ => cases e1
      | brw _ => cases e1
      | ownd _ => cases e1
      | owni _ _ _ => cases e1
      | brwd _ => cases e1
      | brwi _ _ _ => cases e1
  · exact h.elim
/-- list * int, int * int -/
def fMul (x y : Sd) (Q : Sd → Prop) : Prop := match x.dat, y.dat with
  | .int i, .int j => CMul i j ∧ Q (.fro (.int (i * j)))
  | .lst xs, .int k => (-(2 ^ 63) ≤ k ∧ k < 2 ^ 63 ∧ xs.length * k.toNat ≤ sizeLine) ∧ Q (.own (List.replicate k.toNat xs).flatten)
  | _, _ => False
theorem op_mulA : OpR X (binaryOp .Mult) (fun x y H Q => (rI CMul fun i j => .int (i * j)) x y H Q ∨ rRep x y H Q) := op_mul.or op_rep
theorem Dns.rep {K : PySem.W.Frag} {W : Wd} {vs : List V} {ds : List D} (h : Dns K W vs ds) : ∀ k : Nat, Dns K W (List.replicate k vs).flatten (List.replicate k ds).flatten
  | 0 => .nil
  | k + 1 => by
    rw [List.replicate_succ, List.replicate_succ, List.flatten_cons, List.flatten_cons]
    exact h.append (Dns.rep h k)
theorem mul_ok {K : PySem.W.Frag} : OpS K J (fun x y H Q => (rI CMul fun i j => .int (i * j)) x y H Q ∨ rRep x y H Q) fMul := by
  intro W0 H0 Δ W σ H Hs Qd Q x y v u st rx ry h lk
  unfold fMul at h
  split at h
  · rename_i i j e1 e2
    exact .inl ⟨i, j, rx.isInt e1, ry.isInt e2, h.1, lk _ _ W H h.2 st (.refl W H) (Dn.int _)⟩
  · rename_i xs k e1 e2
    obtain ⟨a, vs, rfl, ha, ra⟩ := rx.isLst st.wok e1
    exact .inr ⟨a, k, vs, rfl, ry.isInt e2, ha, h.1.1, h.1.2.1, by rw [ra.length]; exact h.1.2.2, new_lst st (ra.rep _) h.2 lk⟩
  · exact h.elim
/-! comparisons of ints and texts -/
def fCmp (p : Int → Int → Bool) (q : List Nat → List Nat → Bool) (x y : Sd) (Q : Sd → Prop) : Prop := match x.dat, y.dat with
  | .int i, .int j => Q (.fro (.bl (p i j)))
  | .str a, .str b => Q (.fro (.bl (q a.cps.toList b.cps.toList)))
  | _, _ => False
def rCmp (p : Int → Int → Bool) (q : List Nat → List Nat → Bool) : R2 := fun x y H Q => (rI0 fun i j => .bl (p i j)) x y H Q ∨ ∃ i j : Str, x = .str i ∧ y = .str j ∧ Q (.bl (q i.cps.toList j.cps.toList)) H
theorem cmp_ok {K : PySem.W.Frag} {p : Int → Int → Bool} {q : List Nat → List Nat → Bool} : OpS K J (rCmp p q) (fCmp p q) := by
  intro W0 H0 Δ W σ H Hs Qd Q x y v u st rx ry h lk
  unfold fCmp at h
  split at h
  · rename_i i j e1 e2
    exact .inl ⟨i, j, rx.isInt e1, ry.isInt e2, lk _ _ W H h st (.refl W H) (Dn.bl _)⟩
  · rename_i i j e1 e2
    exact .inr ⟨i, j, rx.isStr e1, ry.isStr e2, lk _ _ W H h st (.refl W H) (Dn.bl _)⟩
  · exact h.elim
abbrev pLt : Int → Int → Bool := fun i j => decide (i < j)
abbrev pLe : Int → Int → Bool := fun i j => decide (i ≤ j)
abbrev pGt : Int → Int → Bool := fun i j => decide (j < i)
abbrev pGe : Int → Int → Bool := fun i j => decide (j ≤ i)
abbrev qLt : List Nat → List Nat → Bool := fun a b => decide (a < b)
end
end DL
set_option Elab.async false
set_option linter.all false
set_option maxRecDepth 100000
set_option maxHeartbeats 4000000
namespace DL
open PySem PySem.Spec PyProof.Rows L2
section
variable {X : Cx} {J : JS} {Wx : WX}
/-! ### == and in, over data -/
def okD (d : D) : Prop := d.pure = true ∧ SeqAt.shaped d.py = true
def fEq (neg : Bool) (x y : Sd) (Q : Sd → Prop) : Prop := (okD x.dat ∧ okD y.dat) ∧ Q (.fro (.bl (if neg then !PyData.eqv x.dat.py y.dat.py else PyData.eqv x.dat.py y.dat.py)))
theorem eq_ok {K : PySem.W.Frag} : OpS K J (rEqD K) (fEq false) := fun {W0 H0 Δ W σ H Hs Qd Q x y v u} st rx ry h lk =>
  ⟨_, _, rx.dp st.wok h.1.1.1, ry.dp st.wok h.1.2.1, h.1.1.2, h.1.2.2, lk _ _ W H h.2 st (.refl W H) (Dn.bl _)⟩
theorem ne_ok {K : PySem.W.Frag} : OpS K J (rNeD K) (fEq true) := fun {W0 H0 Δ W σ H Hs Qd Q x y v u} st rx ry h lk =>
  ⟨_, _, rx.dp st.wok h.1.1.1, ry.dp st.wok h.1.2.1, h.1.1.2, h.1.2.2, lk _ _ W H h.2 st (.refl W H) (Dn.bl _)⟩
/-- x in a list, a tuple: by == -/
def anyD (d : D) (ys : List D) : Bool := (D.pys ys).any fun z => PyData.eqv z d.py
def fIn (neg : Bool) (x y : Sd) (Q : Sd → Prop) : Prop := match y.dat with
  | .lst ys => (okD x.dat ∧ okD (.lst ys)) ∧ Q (.fro (.bl (if neg then !anyD x.dat ys else anyD x.dat ys)))
  | .tup ys => (okD x.dat ∧ okD (.tup ys)) ∧ Q (.fro (.bl (if neg then !anyD x.dat ys else anyD x.dat ys)))
  | _ => False
def rInT (K : PySem.W.Frag) (neg : Bool) : R2 := fun x y H Q => ∃ d ds, Dp K H x d ∧ Dp K H y (.tuple ds) ∧ SeqAt.shaped d = true ∧ SeqAt.shaped (.tuple ds) = true ∧ Q (.bl (if neg then !(ds.any fun z => PyData.eqv z d) else ds.any fun z => PyData.eqv z d)) H
theorem op_inT (hu : X.A.units + 65 < cLine) : OpR X (compareOp .In) (rInT X.K false) := by
  intro pins s σ H x y v u Q I rx ry h
  obtain ⟨d, ds, hd, he, sd, se, q⟩ := h
  obtain ⟨as, r1⟩ := Dp.reads I d x v hd rx
  obtain ⟨bs, r2⟩ := Dp.reads I (.tuple ds) y u he ry
  exact SeqAt.in_tuple_reads r2 r1 (SeqAt.canLay_of_shaped se) (SeqAt.canLay_of_shaped sd) (room_in_shaped sd hu) ⟨.bl _, H, I, rfl, q⟩
theorem op_notInT (hu : X.A.units + 65 < cLine) : OpR X (compareOp .NotIn) (rInT X.K true) := by
  intro pins s σ H x y v u Q I rx ry h
  obtain ⟨d, ds, hd, he, sd, se, q⟩ := h
  obtain ⟨as, r1⟩ := Dp.reads I d x v hd rx
  obtain ⟨bs, r2⟩ := Dp.reads I (.tuple ds) y u he ry
  exact SeqAt.notIn_tuple_reads r2 r1 (SeqAt.canLay_of_shaped se) (SeqAt.canLay_of_shaped sd) (room_in_shaped sd hu) ⟨.bl _, H, I, rfl, q⟩
def rInA (K : PySem.W.Frag) (neg : Bool) : R2 := fun x y H Q => (if neg then rNotInD K x y H Q else rInD K x y H Q) ∨ rInT K neg x y H Q
theorem op_inA (hu : X.A.units + 65 < cLine) : OpR X (compareOp .In) (rInA X.K false) := by
  intro pins s σ H x y v u Q I rx ry h
  rcases h with h | h
  · exact op_inD hu pins s σ H x y v u Q I rx ry h
  · exact op_inT hu pins s σ H x y v u Q I rx ry h
theorem op_notInA (hu : X.A.units + 65 < cLine) : OpR X (compareOp .NotIn) (rInA X.K true) := by
  intro pins s σ H x y v u Q I rx ry h
  rcases h with h | h
  · exact op_notInD hu pins s σ H x y v u Q I rx ry h
  · exact op_notInT hu pins s σ H x y v u Q I rx ry h
theorem in_ok {K : PySem.W.Frag} {neg : Bool} : OpS K J (rInA K neg) (fIn neg) := by
  intro W0 H0 Δ W σ H Hs Qd Q x y v u st rx ry h lk
  unfold fIn at h
  split at h
  · rename_i ys ey
    have dy := ry.dp st.wok (by rw [ey]; exact h.1.2.1)
    rw [ey] at dy
    have q := lk _ (.bl _) W H h.2 st (.refl W H) (Dn.bl _)
    have sy := h.1.2.2
    refine .inl ?_
    cases neg
    · exact ⟨_, _, rx.dp st.wok h.1.1.1, by simpa [D.py] using dy, h.1.1.2, by simpa [D.py] using sy, q⟩
    · exact ⟨_, _, rx.dp st.wok h.1.1.1, by simpa [D.py] using dy, h.1.1.2, by simpa [D.py] using sy, q⟩
  · rename_i ys ey
    have dy := ry.dp st.wok (by rw [ey]; exact h.1.2.1)
    rw [ey] at dy
    have q := lk _ (.bl _) W H h.2 st (.refl W H) (Dn.bl _)
    have sy := h.1.2.2
    exact .inr ⟨_, _, rx.dp st.wok h.1.1.1, by simpa [D.py] using dy, h.1.1.2, by simpa [D.py] using sy, q⟩
  · exact h.elim
/-- one sign in a text -/
def fInS (neg : Bool) (x y : Sd) (Q : Sd → Prop) : Prop := match x.dat, y.dat with
  | .str z, .str t => ∃ c, z = ⟨#[c]⟩ ∧ Q (.fro (.bl (if neg then !decide (c ∈ t.cps.toList) else decide (c ∈ t.cps.toList))))
  | _, _ => False
def rInS (neg : Bool) : R2 := fun x y H Q => ∃ (c : Nat) (z : Str), x = .str ⟨#[c]⟩ ∧ y = .str z ∧ Q (.bl (if neg then !decide (c ∈ z.cps.toList) else decide (c ∈ z.cps.toList))) H
theorem op_inS : OpR X (compareOp .In) (rInS false) := op_in_sign
theorem op_notInS : OpR X (compareOp .NotIn) (rInS true) := op_notIn_sign
theorem inS_ok {K : PySem.W.Frag} {neg : Bool} : OpS K J (rInS neg) (fInS neg) := by
  intro W0 H0 Δ W σ H Hs Qd Q x y v u st rx ry h lk
  unfold fInS at h
  split at h
  · rename_i z t e1 e2
    obtain ⟨c, rfl, q⟩ := h
    exact ⟨c, t, rx.isStr e1, ry.isStr e2, lk _ _ W H q st (.refl W H) (Dn.bl _)⟩
  · exact h.elim
/-! ### is None -/
def fIsN (neg : Bool) (x y : Sd) (Q : Sd → Prop) : Prop := match x, y with
  | .fro (.ob _), _ => False
  | .fro .non, .fro .non => Q (.fro (.bl (!neg)))
  | _, .fro .non => Q (.fro (.bl neg))
  | _, _ => False
/-! ### len -/
theorem RepR.isScr {xs : List D} {K : PySem.W.Frag} {W : Wd} {H Hs H0 : Hp} {v : V} {s : Sd} (w : WOk J W H) (r : RepR K W H Hs H0 v s) (e : s.dat = .scr xs) : ∃ a vs, v = .ref a ∧ SqL K H a vs ∧ Dns K W vs xs := by
  cases s with
  | fro d =>
    cases (show d = .scr xs from e)
    cases r with
    | scr h rr => exact ⟨_, _, rfl, w.scr h, rr⟩
  | own ys => cases e
  | brw ys => cases e
  | ownd ys => cases e
  | owni aA cC ys => cases e
  | brwd ys => cases e
  | brwi aA cC ys => cases e
def fLen (xs : List Sd) (Q : Sd → Prop) : Prop := match xs with
  | [s] => (match s.dat with
    | .lst ys => Q (.fro (.int ys.length))
    | .tup ys => Q (.fro (.int ys.length))
    | .str z => z.length ≤ sizeLine ∧ Q (.fro (.int z.length))
    | .dic kvs => Q (.fro (.int kvs.length))
    | .scr ys => Q (.fro (.int ys.length))
    | _ => False)
  | _ => False
theorem DnK.length {K : PySem.W.Frag} {W : Wd} : ∀ {vs : List (Key × V)} {ds : List (Key × D)}, DnK K W vs ds → vs.length = ds.length
  | _, _, .nil => rfl
  | _, _, .cons _ r => congrArg (· + 1) (DnK.length r)
def rLenA (K : PySem.W.Frag) : List V → Hp → VK → Prop := fun xs H Q => (∃ p ys, xs = [.ref p] ∧ (SqL K H p ys ∨ SqT K H p ys) ∧ Q (.int ys.length) H) ∨ (∃ z, xs = [.str z] ∧ z.length ≤ sizeLine ∧ Q (.int z.length) H) ∨ ∃ a kvs, xs = [V.ref a] ∧ Rd H a (.dK kvs) ∧ Q (.int kvs.length) H
theorem call_lenA : CallR X (.builtin "len") (rLenA X.K) := by
  intro pins s σ H xs us Q I r h
  rcases h with h | h | ⟨a, kvs, rfl, ha, q⟩
  · exact call_len_seq pins s σ H xs us Q I r h
  · exact call_len_str pins s σ H xs us Q I r h
  · obtain ⟨u, rfl, ru⟩ := vals1 r
    cases ru
    exact d_len I ha fun t s' I' => ⟨.int kvs.length, H, I', ⟨t, rfl⟩, q⟩
theorem len_ok {K : PySem.W.Frag} : CallS K J (rLenA K) fLen := by
  intro W0 H0 Δ W σ H Hs Qd Q xs vs st r h lk
  unfold fLen at h
  split at h
  · cases r with
    | cons r1 r2 =>
      cases r2
      rename_i s v
      split at h
      · rename_i ys e
        obtain ⟨a, us, rfl, ha, ra⟩ := r1.isLst st.wok e
        exact .inl ⟨a, us, rfl, .inl (SqL.of ha), by rw [ra.length]; exact lk _ _ W H h st (.refl W H) (Dn.int _)⟩
      · rename_i ys e
        obtain ⟨a, us, rfl, ha, ra⟩ := r1.isTup st.wok e
        exact .inl ⟨a, us, rfl, .inr ha, by rw [ra.length]; exact lk _ _ W H h st (.refl W H) (Dn.int _)⟩
      · rename_i z e
        have := r1.isStr e
        subst this
        exact .inr (.inl ⟨z, rfl, h.1, lk _ _ W H h.2 st (.refl W H) (Dn.int _)⟩)
      · rename_i kvs e
        obtain ⟨a, us, rfl, ha, ra⟩ := r1.isDic st.wok e
        exact .inr (.inr ⟨a, us, rfl, ha, by rw [ra.length]; exact lk _ _ W H h st (.refl W H) (Dn.int _)⟩)
      · rename_i ys e
        obtain ⟨a, us, rfl, ha, ra⟩ := r1.isScr st.wok e
        exact .inl ⟨a, us, rfl, .inl ha, by rw [ra.length]; exact lk _ _ W H h st (.refl W H) (Dn.int _)⟩
      · exact h.elim
  · exact h.elim
/-! ### indices -/
def fIx (x y : Sd) (Q : Sd → Prop) : Prop := match x.dat, y.dat with
  | .lst xs, .int i => (match atI xs i with
    | some d => Q (.fro d)
    | none => False)
  | .tup xs, .int i => (match atI xs i with
    | some d => Q (.fro d)
    | none => False)
  | .str z, .int i => z.length ≤ sizeLine ∧ (match atI z.cps.toList i with
    | some c => Q (.fro (.str ⟨#[c]⟩))
    | none => False)
  | _, _ => False
theorem Dns.atI {K : PySem.W.Frag} {W : Wd} {vs : List V} {ds : List D} {i : Int} {d : D} (r : Dns K W vs ds) (e : L2.atI ds i = some d) : ∃ v, L2.atI vs i = some v ∧ Dn K W v d := by
  unfold L2.atI at e ⊢
  rw [r.length]
  cases q : ixN ds.length i with
  | none => rw [q] at e; cases e
  | some j =>
    rw [q] at e
    exact r.get e
theorem ix_ok {K : PySem.W.Frag} : OpS K J (rIx K) fIx := by
  intro W0 H0 Δ W σ H Hs Qd Q x y v u st rx ry h lk
  unfold fIx at h
  split at h
  · rename_i xs i e1 e2
    obtain ⟨a, us, rfl, ha, ra⟩ := rx.isLst st.wok e1
    split at h
    · rename_i d ed
      obtain ⟨z, ez, rz⟩ := ra.atI ed
      exact .inl ⟨a, us, i, z, rfl, ry.isInt e2, SqL.of ha, ez, lk _ _ W H h st (.refl W H) rz⟩
    · exact h.elim
  · rename_i xs i e1 e2
    obtain ⟨a, us, rfl, ha, ra⟩ := rx.isTup st.wok e1
    split at h
    · rename_i d ed
      obtain ⟨z, ez, rz⟩ := ra.atI ed
      exact .inr (.inl ⟨a, us, i, z, rfl, ry.isInt e2, ha, ez, lk _ _ W H h st (.refl W H) rz⟩)
    · exact h.elim
  · rename_i z i e1 e2
    obtain ⟨hz, h⟩ := h
    split at h
    · rename_i c ec
      exact .inr (.inr ⟨z, i, c, rx.isStr e1, ry.isInt e2, hz, ec, lk _ _ W H h st (.refl W H) (Dn.str _)⟩)
    · exact h.elim
  · exact h.elim
/-! ### slices -/
abbrev TDO := Dl → (Option Int → Prop) → (ED → Prop) → Prop
def liftO (K : PySem.W.Frag) (J : JS) (Wx : WX) (t : TDO) : TO := fun σ H Q => ∃ W0 H0 Δ W Qd Xd, Stt K J W0 H0 Δ W σ H ∧ t Δ Qd Xd ∧
  (∀ o W' H', Qd o → Stt K J W0 H0 Δ W' σ H' → Stp W H W' H' → Q o H') ∧ LkX K J Wx W0 H0 Δ W σ H Xd
theorem PO.imp {e : Option Expr} {t t' : TO} (h : PO X e t) (k : ∀ σ H Q, t' σ H Q → t σ H Q) : PO X e t' := ⟨fun pins s σ H Q I q => h.run pins s σ H Q I (k σ H Q q)⟩
abbrev DO (X : Cx) (J : JS) (Wx : WX) (e : Option Expr) (t : TDO) : Prop := PO X e (liftO X.K J Wx t)
def oNone : TDO := fun _ Q _ => Q none
def oSome (t : TD) : TDO := fun Δ Q E => t Δ (fun s => match s with
  | .fro (.int i) => Q (some i)
  | _ => False) E
theorem do_none : DO X J Wx none oNone := PO.imp po_none fun σ H Q ⟨W0, H0, Δ, W, Qd, Xd, st, ht, k, lx⟩ => k _ W H ht st (.refl W H)
theorem do_some {e : Expr} {t : TD} (h : DE X J Wx e t) : DO X J Wx (some e) (oSome t) := PO.imp (po_some h) fun σ H Q ⟨W0, H0, Δ, W, Qd, Xd, st, ht, k, lx⟩ => by
  refine ⟨W0, H0, Δ, W, _, _, st, ht, fun s v W1 H1 q st1 y1 r1 => ?_, lx⟩
  dsimp only at q
  split at q
  · cases r1
    exact ⟨_, rfl, k _ W1 H1 q st1 y1⟩
  · exact q.elim
def cutD (xs : List D) (lo hi : Option Int) : List D := (xs.drop (HT.sIx xs.length 0 lo)).take (HT.sIx xs.length xs.length hi - HT.sIx xs.length 0 lo)
def fSl (x : Sd) (lo hi : Option Int) (Q : Sd → Prop) : Prop := match x.dat with
  | .lst xs => Q (.own (cutD xs lo hi))
  | .tup xs => Q (.fro (.tup (cutD xs lo hi)))
  | .str z => z.length ≤ sizeLine ∧ Q (.fro (.str (cutS z lo hi)))
  | .scr xs => Q (.own (cutD xs lo hi))
  | _ => False
def dSl (t : TD) (tl th : TDO) : TD := fun Δ Q E => t Δ (fun x => tl Δ (fun lo => th Δ (fun hi => fSl x lo hi Q) E) E) E
theorem Dns.cut {K : PySem.W.Frag} {W : Wd} {vs : List V} {ds : List D} (r : Dns K W vs ds) (lo hi : Option Int) : Dns K W (cutV vs lo hi) (cutD ds lo hi) := by
  unfold cutV cutD
  rw [r.length]
  exact (r.drop _).take _
theorem cutD_whole {xs : List D} {lo hi : Option Int} (h : HT.sIx xs.length 0 lo = 0 ∧ HT.sIx xs.length xs.length hi = xs.length) : cutD xs lo hi = xs := by
  unfold cutD
  rw [h.1, h.2]
  simp
theorem sl_ok {K : PySem.W.Frag} {W0 W : Wd} {H0 H Hs : Hp} {Δ : Dl} {σ : L2.St} {Qd : Sd → Prop} {Q : VK} {x : Sd} {v : V} {lo hi : Option Int} (st : Stt K J W0 H0 Δ W σ H) (rx : RepR K W H Hs H0 v x) (h : fSl x lo hi Qd) (lk : LkE K J W0 H0 Δ W σ H Qd Q) :
    rSlL K v lo hi H Q ∨ rSlP K v lo hi H Q ∨ rSlS v lo hi H Q := by
  unfold fSl at h
  split at h
  · rename_i xs e
    obtain ⟨a, us, rfl, ha, ra⟩ := rx.isLst st.wok e
    exact .inl ⟨a, us, rfl, SqL.of ha, new_lst st (ra.cut lo hi) h lk⟩
  · rename_i xs e
    obtain ⟨a, us, rfl, ha, ra⟩ := rx.isTup st.wok e
    refine .inr (.inl ⟨a, us, rfl, ha, fun hw => ?_, fun _ => new_tup st (ra.cut lo hi) h lk⟩)
    rw [ra.length] at hw
    rw [cutD_whole hw] at h
    refine lk _ _ W H h st (.refl W H) ?_
    cases x with
    | fro d => cases (show d = .tup xs from e); exact rx
    | own _ => cases e
    | brw _ => cases e
    | ownd _ => cases e
    | owni _ _ _ => cases e
    | brwd _ => cases e
    | brwi _ _ _ => cases e
  · rename_i z e
    have := rx.isStr e
    subst this
    exact .inr (.inr ⟨z, rfl, h.1, lk _ _ W H h.2 st (.refl W H) (Dn.str _)⟩)
  · rename_i xs e
    obtain ⟨a, us, rfl, ha, ra⟩ := rx.isScr st.wok e
    exact .inl ⟨a, us, rfl, ha, new_lst st (ra.cut lo hi) h lk⟩
  · exact h.elim
theorem de_slice {e : Expr} {lo hi : Option Expr} {t : TD} {tl th : TDO} {p2 pos : Pos} (he : DE X J Wx e t) (hl : DO X J Wx lo tl) (hh : DO X J Wx hi th) : DE X J Wx (.Subscript e (.Slice lo hi none p2) pos) (dSl t tl th) :=
  (pe_slice (sl_list.or (sl_tupP.or sl_str)) he hl hh).imp fun σ H Q ⟨W0, H0, Δ, W, Qd, Xd, st, ht, lk, lx⟩ => by
    refine ⟨W0, H0, Δ, W, _, _, st, ht, fun s v W1 H1 q st1 y1 r1 => ?_, lx⟩
    refine ⟨W0, H0, Δ, W1, _, _, st1, q, fun lo W2 H2 q2 st2 y2 => ?_, lx.at st st1 y1⟩
    have y12 := y1.trans y2 st.wok st1.wok
    refine ⟨W0, H0, Δ, W2, _, _, st2, q2, fun hi W3 H3 q3 st3 y3 => ?_, lx.at st st2 y12⟩
    have y13 := y12.trans y3 st.wok st2.wok
    exact sl_ok st3 ((r1.stp y2).stp y3) q3 (lk.at st st3 y13)
/-- of what an effectful expression gives -/
def xSl (t : TDX) (tl th : TDO) : TDX := fun Δ Q E => t Δ (fun d Δ' => tl Δ' (fun lo => th Δ' (fun hi => fSl (.fro d) lo hi (fun s => sFrz s fun d => Q d Δ')) E) E) E
theorem dx_slice {e : Expr} {lo hi : Option Expr} {t : TDX} {tl th : TDO} {p2 pos : Pos} (he : DX X J Wx e t) (hl : DO X J Wx lo tl) (hh : DO X J Wx hi th) : DX X J Wx (.Subscript e (.Slice lo hi none p2) pos) (xSl t tl th) :=
  (pe_slice (sl_list.or (sl_tupP.or sl_str)) he hl hh).imp fun σ H Q ⟨W0, H0, Δ, W, Qd, Xd, st, ht, lk, lx⟩ => by
    refine ⟨W0, H0, Δ, W, _, _, st, ht, fun d v Δ1 W1 H1 q st1 le1 r1 => ?_, lx⟩
    have lx1 : LkX X.K J Wx W0 H0 Δ1 W1 σ H1 Xd := fun e c d W' H' q' st' y' r' => lx e c d Δ1 W' H' q' st' (le1.trans y'.le) r'
    refine ⟨W0, H0, Δ1, W1, _, _, st1, q, fun lo W2 H2 q2 st2 y2 => ?_, lx1⟩
    refine ⟨W0, H0, Δ1, W2, _, _, st2, q2, fun hi W3 H3 q3 st3 y3 => ?_, lx1.at st1 st2 y2⟩
    have r3 : RepR X.K W3 H3 H3 H0 v (.fro d) := (r1.mono y2.le).mono y3.le
    refine sl_ok st3 r3 q3 fun s v' W4 H4 q4 st4 y4 r4 => ?_
    obtain ⟨d', W5, q5, _, st5, y5, r5⟩ := frz_ok st4 y4 st3 r4 q4
    exact lk d' v' Δ1 W5 H4 q5 st5 (((le1.trans y2.le).trans y3.le).trans y5.le) r5
/-! ### isinstance, by built-in classes -/
def tyN : D → Option String
  | .non => some "NoneType"
  | .bl _ => some "bool"
  | .int _ => some "int"
  | .str _ => some "str"
  | .lst _ => some "list"
  | .tup _ => some "tuple"
  | .dic _ => some "dict"
  | _ => none
def tyT : List String := ["int", "str", "bool", "tuple", "list", "dict"]
def fIsi (xs : List Sd) (Q : Sd → Prop) : Prop := match xs with
  | [s, .fro (.ob (.ty T))] => T ∈ tyT ∧ (match tyN s.dat with
    | some a => Q (.fro (.bl (a == T || (a == "bool" && T == "int"))))
    | none => False)
  | _ => False
theorem kit_tab : ∀ a ∈ ["NoneType", "bool", "int", "str", "list", "tuple", "dict"], ∀ T ∈ tyT, kitB a T = some (a == T || (a == "bool" && T == "int")) := by decide +kernel
theorem RepR.ty {K : PySem.W.Frag} {W : Wd} {H Hs H0 : Hp} {v : V} {s : Sd} {a : String} (w : WOk J W H) (r : RepR K W H Hs H0 v s) (e : tyN s.dat = some a) : a ∈ ["NoneType", "bool", "int", "str", "list", "tuple", "dict"] ∧ TyX K H v (.type a) := by
  have ofT : ∀ {b : Addr} {vs : List V}, SqT K H b vs → TyX K H (.ref b) (.type "tuple") := fun {b vs} h => by
    rcases h with (h | ⟨o, h⟩) | ⟨o, its, n, h1, h2, _⟩
    · exact .base (.tup h)
    · exact .fTuple h
    · exact .kTuple h1 h2
  have ofD : ∀ {b : Addr} {vs : List (Key × V)}, Rd H b (.dK vs) → TyX K H (.ref b) (.type "dict") := fun {b vs} h => by
    rcases h with h | ⟨o, h⟩
    · exact .base (.dK h)
    · exact .fDict h
  cases q : s.dat with
  | non =>
    rw [q] at e; cases e
    refine ⟨by decide, ?_⟩
    cases s with
    | fro d => cases (show d = .non from q); cases r; exact .base .non
    | own _ => cases q
    | brw _ => cases q
    | ownd _ => cases q
    | owni _ _ _ => cases q
    | brwd _ => cases q
    | brwi _ _ _ => cases q
  | bl b => rw [q] at e; cases e; rw [r.isBl q]; exact ⟨by decide, .base (.bl _)⟩
  | int b => rw [q] at e; cases e; rw [r.isInt q]; exact ⟨by decide, .base (.int _)⟩
  | str b => rw [q] at e; cases e; rw [r.isStr q]; exact ⟨by decide, .base (.str _)⟩
  | lst b => rw [q] at e; cases e; obtain ⟨a, vs, rfl, ha, _⟩ := r.isLst w q; exact ⟨by decide, .base (.lst ha)⟩
  | tup b => rw [q] at e; cases e; obtain ⟨a, vs, rfl, ha, _⟩ := r.isTup w q; exact ⟨by decide, ofT ha⟩
  | dic b => rw [q] at e; cases e; obtain ⟨a, vs, rfl, ha, _⟩ := r.isDic w q; exact ⟨by decide, ofD ha⟩
  | ins _ _ => rw [q] at e; cases e
  | cell _ _ => rw [q] at e; cases e
  | scr _ => rw [q] at e; cases e
  | ob _ => rw [q] at e; cases e
theorem isi_ok {K : PySem.W.Frag} : CallS K J (rIsi K) fIsi := by
  intro W0 H0 Δ W σ H Hs Qd Q xs vs st r h lk
  unfold fIsi at h
  split at h
  · cases r with
    | cons r1 r2 =>
      cases r2 with
      | cons r3 r4 =>
        cases r4
        obtain ⟨hT, h⟩ := h
        split at h
        · rename_i a ea
          obtain ⟨ha, ty⟩ := r1.ty st.wok ea
          cases r3
          exact ⟨_, _, _, _, _, rfl, .ty _, ty, kit_ty (kit_tab a ha _ hT), lk _ _ W H h st (.refl W H) (Dn.bl _)⟩
        · exact h.elim
  · exact h.elim
theorem de_type {x : Str} {T : String} {pos : Pos} (hg : Gl X x) (hm : X.mg x = none) (hv : bootBuiltins x = some (.type T)) (hn : x ≠ "__name__" := by decide) (hd : (x == ("__debug__" : Str)) = false := by decide) : DE X J Wx (.Name x pos) (dC (.fro (.ob (.ty T)))) :=
  de_c (pe_bltn (v := .ty T) hg hm hv rfl hn hd) fun _ => .ob _
/-! ### all, any -/
def bls : List D → Option (List Bool)
  | [] => some []
  | .bl b :: r => (bls r).map (b :: ·)
  | _ => none
def fBl (f : List Bool → Bool) (xs : List Sd) (Q : Sd → Prop) : Prop := match xs with
  | [s] => (match s.dat with
    | .lst ys => (match bls ys with
      | some bs => Q (.fro (.bl (f bs)))
      | none => False)
    | _ => False)
  | _ => False
theorem bls_ok {K : PySem.W.Frag} {W : Wd} : ∀ {vs : List V} {ds : List D} {bs : List Bool}, Dns K W vs ds → bls ds = some bs → vs = bs.map V.bl
  | _, _, _, .nil, e => by cases e; rfl
  | v :: vs, d :: ds, bs, .cons h r, e => by
    cases d with
    | bl b =>
      have e' : (bls ds).map (b :: ·) = some bs := e
      cases q : bls ds with
      | none => rw [q] at e'; cases e'
      | some r' =>
        rw [q] at e'
        cases e'
        cases h
        rw [bls_ok r q]
        rfl
    | _ => cases e
theorem all_ok {K : PySem.W.Frag} : CallS K J (rAll K) (fBl fun bs => bs.all id) := by
  intro W0 H0 Δ W σ H Hs Qd Q xs vs st r h lk
  unfold fBl at h
  split at h
  · cases r with
    | cons r1 r2 =>
      cases r2
      split at h
      · rename_i ys e
        obtain ⟨a, us, rfl, ha, ra⟩ := r1.isLst st.wok e
        split at h
        · rename_i bs eb
          have := bls_ok ra eb
          subst this
          exact ⟨a, bs, rfl, SqL.of ha, lk _ _ W H h st (.refl W H) (Dn.bl _)⟩
        · exact h.elim
      · exact h.elim
  · exact h.elim
theorem any_ok {K : PySem.W.Frag} : CallS K J (rAny K) (fBl fun bs => bs.any id) := by
  intro W0 H0 Δ W σ H Hs Qd Q xs vs st r h lk
  unfold fBl at h
  split at h
  · cases r with
    | cons r1 r2 =>
      cases r2
      split at h
      · rename_i ys e
        obtain ⟨a, us, rfl, ha, ra⟩ := r1.isLst st.wok e
        split at h
        · rename_i bs eb
          have := bls_ok ra eb
          subst this
          exact ⟨a, bs, rfl, SqL.of ha, lk _ _ W H h st (.refl W H) (Dn.bl _)⟩
        · exact h.elim
      · exact h.elim
  · exact h.elim
/-! ### tuple(..), list(..) -/
def fTupOf (xs : List Sd) (Q : Sd → Prop) : Prop := match xs with
  | [s] => (match s.dat with
    | .lst ys => Q (.fro (.tup ys))
    | .tup ys => Q (.fro (.tup ys))
    | _ => False)
  | _ => False
def fLstOf (xs : List Sd) (Q : Sd → Prop) : Prop := match xs with
  | [s] => (match s.dat with
    | .lst ys => Q (.own ys)
    | .tup ys => Q (.own ys)
    | _ => False)
  | _ => False
theorem tupOf_ok {K : PySem.W.Frag} : CallS K J (rTupOf K) fTupOf := by
  intro W0 H0 Δ W σ H Hs Qd Q xs vs st r h lk
  unfold fTupOf at h
  split at h
  · cases r with
    | cons r1 r2 =>
      cases r2
      rename_i s v
      split at h
      · rename_i ys e
        obtain ⟨a, us, rfl, ha, ra⟩ := r1.isLst st.wok e
        exact ⟨a, us, rfl, .inl ⟨SqL.of ha, new_tup st ra h lk⟩⟩
      · rename_i ys e
        obtain ⟨a, us, rfl, ha, ra⟩ := r1.isTup st.wok e
        refine ⟨a, us, rfl, .inr ⟨ha, lk _ _ W H h st (.refl W H) ?_⟩⟩
        cases s with
        | fro d => cases (show d = .tup ys from e); exact r1
        | own _ => cases e
        | brw _ => cases e
        | ownd _ => cases e
        | owni _ _ _ => cases e
        | brwd _ => cases e
        | brwi _ _ _ => cases e
      · exact h.elim
  · exact h.elim
theorem lstOf_ok {K : PySem.W.Frag} : CallS K J (fun xs H Q => ∃ p ys, xs = [.ref p] ∧ (SqL K H p ys ∨ SqT K H p ys) ∧ ∀ l, H l = none → Q (.ref l) (upd H l (.lst ys))) fLstOf := by
  intro W0 H0 Δ W σ H Hs Qd Q xs vs st r h lk
  unfold fLstOf at h
  split at h
  · cases r with
    | cons r1 r2 =>
      cases r2
      split at h
      · rename_i ys e
        obtain ⟨a, us, rfl, ha, ra⟩ := r1.isLst st.wok e
        exact ⟨a, us, rfl, .inl (SqL.of ha), new_lst st ra h lk⟩
      · rename_i ys e
        obtain ⟨a, us, rfl, ha, ra⟩ := r1.isTup st.wok e
        exact ⟨a, us, rfl, .inr ha, new_lst st ra h lk⟩
      · exact h.elim
  · exact h.elim
end
end DL
set_option Elab.async false
set_option linter.all false
set_option maxRecDepth 100000
set_option maxHeartbeats 4000000
namespace DL
open PySem PySem.Spec PyProof.Rows L2
/-! ### dicts with keys that are numbers or texts -/
def keyD : D → Option Key
  | .int i => some (.inl i)
  | .str x => some (.inr x)
  | _ => none
def dKey : Key → D
  | .inl i => .int i
  | .inr x => .str x
def getD (kvs : List (Key × D)) (k : Key) : Option D := (kvs.find? fun kv => decide (kv.1 = k)).map (·.2)
def putD (kvs : List (Key × D)) (k : Key) (v : D) : List (Key × D) :=
  if (kvs.any fun kv => decide (kv.1 = k)) = true then kvs.map (fun kv => if kv.1 = k then (kv.1, v) else kv) else kvs ++ [(k, v)]
section
variable {K : PySem.W.Frag} {W : Wd}
theorem DnK.get {k : Key} : ∀ {vs : List (Key × V)} {ds : List (Key × D)}, DnK K W vs ds → (getD ds k = none ∧ valV vs k = none) ∨ ∃ d v, getD ds k = some d ∧ valV vs k = some v ∧ Dn K W v d
  | _, _, .nil => .inl ⟨rfl, rfl⟩
  | _, _, .cons (k := k') (v := v) (d := d) h r => by
    unfold getD valV
    rw [List.find?_cons, List.find?_cons]
    by_cases e : k' = k
    · simp only [decide_eq_true e]
      exact .inr ⟨d, v, rfl, rfl, h⟩
    · simp only [decide_eq_false e]
      exact DnK.get r
theorem DnK.any {k : Key} : ∀ {vs : List (Key × V)} {ds : List (Key × D)}, DnK K W vs ds → (vs.any fun kv => decide (kv.1 = k)) = ds.any fun kv => decide (kv.1 = k)
  | _, _, .nil => rfl
  | _, _, .cons h r => by rw [List.any_cons, List.any_cons, DnK.any r]
theorem DnK.map {k : Key} {v : V} {d : D} (q : Dn K W v d) : ∀ {vs : List (Key × V)} {ds : List (Key × D)}, DnK K W vs ds → DnK K W (vs.map fun kv => if kv.1 = k then (kv.1, v) else kv) (ds.map fun kv => if kv.1 = k then (kv.1, d) else kv)
  | _, _, .nil => .nil
  | _, _, .cons (k := k') h r => by
    rw [List.map_cons, List.map_cons]
    by_cases e : k' = k
    · rw [if_pos e, if_pos e]
      exact .cons q (DnK.map q r)
    · rw [if_neg e, if_neg e]
      exact .cons h (DnK.map q r)
theorem DnK.append : ∀ {vs us : List (Key × V)} {ds es : List (Key × D)}, DnK K W vs ds → DnK K W us es → DnK K W (vs ++ us) (ds ++ es)
  | _, _, _, _, .nil, s => s
  | _, _, _, _, .cons h r, s => .cons h (DnK.append r s)
theorem DnK.put {k : Key} {v : V} {d : D} {vs : List (Key × V)} {ds : List (Key × D)} (h : DnK K W vs ds) (q : Dn K W v d) : DnK K W (putK vs k v) (putD ds k d) := by
  unfold putK putD
  rw [h.any]
  split
  · exact h.map q
  · exact h.append (.cons q .nil)
theorem keyD_kV {J : JS} {H Hs H0 : Hp} {s : Sd} {v : V} {k : Key} (r : RepR K W H Hs H0 v s) (e : keyD s.dat = some k) : v = kV k := by
  cases q : s.dat with
  | int i => rw [q] at e; cases e; exact r.isInt q
  | str i => rw [q] at e; cases e; exact r.isStr q
  | _ => rw [q] at e; cases e
theorem DnK.keyAt : ∀ {vs : List (Key × V)} {ds : List (Key × D)} {i : Nat} {d : D}, DnK K W vs ds → (ds.map fun kv => dKey kv.1)[i]? = some d → ∃ k v, vs[i]? = some (k, v) ∧ d = dKey k
  | _, _, _, _, .nil, e => by simp at e
  | _, _, 0, d, .cons (k := k) h r, e => by
    have e' : some (dKey k) = some d := e
    cases e'
    exact ⟨k, _, rfl, rfl⟩
  | _, _, i + 1, d, .cons h r, e => by
    obtain ⟨k, v, h1, h2⟩ := DnK.keyAt (i := i) (d := d) r (by simpa using e)
    exact ⟨k, v, by simpa using h1, h2⟩
theorem dn_key (k : Key) : Dn K W (kV k) (dKey k) := by
  cases k with
  | inl i => exact .int i
  | inr x => exact .str x
end
section
variable {X : Cx} {J : JS} {Wx : WX} {o ix e : Expr} {t ti tv : TD} {pos spos : Pos} {i : Nat}
def fDin (neg : Bool) (y x : Sd) (Q : Sd → Prop) : Prop := match x.dat with
  | .dic kvs => (match keyD y.dat with
    | some k => Q (.fro (.bl (if neg then !(getD kvs k).isSome else (getD kvs k).isSome)))
    | none => False)
  | _ => False
def rDin (neg : Bool) : R2 := fun y x H Q => ∃ a o, x = .ref a ∧ DGet H a y o ∧ Q (.bl (if neg then !o.isSome else o.isSome)) H
theorem din_ok {K : PySem.W.Frag} {neg : Bool} : OpS K J (rDin neg) (fDin neg) := by
  intro W0 H0 Δ W σ H Hs Qd Q y x u v st ry rx h lk
  unfold fDin at h
  split at h
  · rename_i kvs e
    split at h
    · rename_i k ek
      obtain ⟨a, vs, rfl, ha, ra⟩ := rx.isDic st.wok e
      have := keyD_kV (J := J) ry ek
      subst this
      refine ⟨a, valV vs k, rfl, .inl ⟨vs, k, ha, rfl, rfl⟩, ?_⟩
      have eq : (valV vs k).isSome = (getD kvs k).isSome := by
        rcases ra.get (k := k) with ⟨h1, h2⟩ | ⟨d, v, h1, h2, _⟩
        · rw [h1, h2]; rfl
        · rw [h1, h2]; rfl
      rw [eq]
      exact lk _ _ W H h st (.refl W H) (Dn.bl _)
    · exact h.elim
  · exact h.elim
theorem de_din (hu : X.A.units + 64 < cLine) (hi : DE X J Wx ix ti) (ho : DE X J Wx o t) (h1 : behindInMarks .In o = false := by first | exact nobehind _ (by decide) (by decide) | rfl) : DE X J Wx (.Compare ix [.In] [o] pos) (dOp (fDin false) ti t) :=
  (pe_cmp (pc_din (by omega) hi ho) h1).imp (op_lift (r := rDin false) din_ok)
theorem de_dnotin (hu : X.A.units + 64 < cLine) (hi : DE X J Wx ix ti) (ho : DE X J Wx o t) (h1 : behindInMarks .NotIn o = false := by first | exact nobehind _ (by decide) (by decide) | rfl) : DE X J Wx (.Compare ix [.NotIn] [o] pos) (dOp (fDin true) ti t) :=
  (pe_cmp (pc_dnotin (by omega) hi ho) h1).imp (op_lift (r := rDin true) din_ok)
theorem dt_of {e : Expr} {t : TD} (h : PT X e (tB (liftE X.K J Wx t))) : DT X J Wx e (dTst t) := h.imp tst_lift
theorem tB_imp {t t' : TE} (h : ∀ σ H Q, t' σ H Q → t σ H Q) : ∀ σ H Q, tB t' σ H Q → tB t σ H Q := fun σ H Q q => h σ H _ q
theorem dt_din (hu : X.A.units + 64 < cLine) (hi : DE X J Wx ix ti) (ho : DE X J Wx o t) (h1 : behindInMarks .In o = false := by first | exact nobehind _ (by decide) (by decide) | rfl) : DT X J Wx (.Compare ix [.In] [o] pos) (dTst (dOp (fDin false) ti t)) :=
  dt_of ((pt_cmp (pc_din (by omega) hi ho) h1).imp (tB_imp (op_lift (r := rDin false) din_ok)))
theorem dt_dnotin (hu : X.A.units + 64 < cLine) (hi : DE X J Wx ix ti) (ho : DE X J Wx o t) (h1 : behindInMarks .NotIn o = false := by first | exact nobehind _ (by decide) (by decide) | rfl) : DT X J Wx (.Compare ix [.NotIn] [o] pos) (dTst (dOp (fDin true) ti t)) :=
  dt_of ((pt_cmp (pc_dnotin (by omega) hi ho) h1).imp (tB_imp (op_lift (r := rDin true) din_ok)))
/-- d[k] -/
def fDget (x y : Sd) (Q : Sd → Prop) : Prop := match x.dat with
  | .dic kvs => (match keyD y.dat with
    | some k => (match getD kvs k with
      | some d => Q (.fro d)
      | none => False)
    | none => False)
  | _ => False
def rDget : R2 := fun x y H Q => ∃ a v, x = .ref a ∧ DGet H a y (some v) ∧ Q v H
theorem dget_ok {K : PySem.W.Frag} : OpS K J rDget fDget := by
  intro W0 H0 Δ W σ H Hs Qd Q x y v u st rx ry h lk
  unfold fDget at h
  split at h
  · rename_i kvs e
    split at h
    · rename_i k ek
      obtain ⟨a, vs, rfl, ha, ra⟩ := rx.isDic st.wok e
      have := keyD_kV (J := J) ry ek
      subst this
      split at h
      · rename_i d ed
        rcases ra.get (k := k) with ⟨h1, _⟩ | ⟨d', z, h1, h2, h3⟩
        · rw [h1] at ed; cases ed
        · rw [h1] at ed
          cases ed
          exact ⟨a, z, rfl, .inl ⟨vs, k, ha, rfl, h2.symm⟩, lk _ z W H h st (.refl W H) h3⟩
      · exact h.elim
    · exact h.elim
  · exact h.elim
theorem de_dget (hu : X.A.units + 64 < cLine) (ho : DE X J Wx o t) (hi : DE X J Wx ix ti) (hs : NoSl ix) : DE X J Wx (.Subscript o ix pos) (dOp fDget t ti) :=
  (pe_dget (by omega) ho hi hs).imp (op_lift (r := rDget) dget_ok)
/-- {} -/
theorem de_dnew : DE X J Wx (.Dict [] [] pos) (dC (.ownd [])) := pe_dnewK.imp fun σ H Q ⟨W0, H0, Δ, W, Qd, Xd, st, ht, lk, lx⟩ => fun p hp =>
  lk _ _ _ _ ht (st.laidO hp) (.laid W hp) ⟨⟨p, [], rfl, upd_same, st.wok.fresh hp, .nil⟩, fun b e => by cases e; exact hp⟩
/-- d[k] = v -/
def dDput (i : Nat) (ti tv : TD) : TDS := fun DD Δ => tv Δ (fun s => sFrz s fun d => owndAt i Δ fun kvs => ti Δ (fun s2 => match keyD s2.dat with
  | some k => kvs.length < sizeLine ∧ DD.nx (Δ.set i (some (.ownd (putD kvs k d))))
  | none => False) (fun e => DD.ex e Δ)) (fun e => DD.ex e Δ)
theorem ds_dput (hu : X.A.units + 64 < cLine) (ho : PE X o (tVar i)) (hi : DE X J Wx ix ti) (hv : DE X J Wx e tv) (hs : swapsWith e (some (.Subscript o ix spos)) pos.line X.env = pure false := by rfl) : DS X J Wx (.Assign [.Subscript o ix spos] e pos) (dDput i ti tv) :=
  (ps_dput (by omega) ho hi hv hs).imp fun D σ H ⟨W0, H0, Δ, W, DD, st, ht, l⟩ => by
    refine ⟨W0, H0, Δ, W, _, _, st, ht, fun s v W1 H1 q st1 y1 r1 => ?_, l.lx⟩
    obtain ⟨d, W2, q2, _, st2, y2, r2⟩ := frz_ok st1 y1 st r1 q
    obtain ⟨kvs, hi, q2⟩ := owndAt.ex q2
    obtain ⟨a, vs, e1, e2, e3, e4⟩ := st2.ownd_at hi
    refine ⟨_, e1, ?_⟩
    refine ⟨W0, H0, Δ, W2, _, _, st2, q2, fun s2 v2 W3 H3 q3 st3 y3 r3 => ?_, (l.at y2.le).lx⟩
    dsimp only at q3
    split at q3
    · rename_i k ek
      have := keyD_kV (J := J) r3 ek
      subst this
      have e4 := e4.mono y3.le
      have ha := y3.keep a _ e2 e3
      exact ⟨a, _, rfl, DPut.k ha (by rw [e4.length]; exact q3.1), l.nx _ W3 σ _ q3.2 (st3.ownd_set (vs := vs) hi e1 (y3.nothas e2 e3) (e4.put (r2.mono y3.le))) (y2.le.trans y3.le)⟩
    · exact q3.elim
/-! ### a slot's own list or dict is data from here on -/
def frzSlot (i : Nat) (Δ : Dl) (k : Dl → Prop) : Prop := match Δ[i]? with
  | some (some (.own xs)) => k (Δ.set i (some (.fro (.lst xs))))
  | some (some (.ownd xs)) => k (Δ.set i (some (.fro (.dic xs))))
  | some (some (.owni aA C xs)) => k (Δ.set i (some (.fro (.ins C xs))))
  | _ => False
theorem Stt.owni_at {K : PySem.W.Frag} {W0 W : Wd} {H0 H : Hp} {Δ : Dl} {σ : L2.St} {a : Addr} {C : Str} {xs : List (Str × D)} (st : Stt K J W0 H0 Δ W σ H) (hi : Δ[i]? = some (some (.owni a C xs))) : ∃ dx vs, σ[i]? = some (some (.ref a)) ∧ H a = some (.ins (He.ga K C) dx vs) ∧ ¬ W.has a ∧ DnF K W vs xs := by
  obtain ⟨v, ev, vs, rfl, ha, n, r⟩ := st.slot i _ hi
  exact ⟨vs.1, vs.2, ev, ha, n, r⟩
theorem Stt.fslot {K : PySem.W.Frag} {W0 W : Wd} {H0 H : Hp} {Δ : Dl} {σ : L2.St} {s : Sd} {d : D} {a : Addr} {ob : HO} (st : Stt K J W0 H0 Δ W σ H) (hi : Δ[i]? = some (some s)) (hm : s.mine = true) (hσ : σ[i]? = some (some (.ref a))) (ha : H a = some ob) (n : ¬ W.has a) (r : Dn K (W.add a ob) (.ref a) d) :
    Stt K J W0 H0 (Δ.set i (some (.fro d))) (W.add a ob) σ H where
  len := by simp [st.len]
  wok := st.wok.add n ha
  ext := st.ext.trans (Wd.le_add n)
  new := fun b h => by
    rcases Wd.has_add h with q | q
    · exact st.new b q
    · subst q; exact .inr (st.own i s _ hi hm hσ b rfl)
  frm := st.frm
  dom := st.dom
  slot := fun j t h => by
    rcases set_at h with ⟨e, q⟩ | ⟨e, q⟩
    · subst e
      cases q
      exact ⟨_, hσ, r⟩
    · obtain ⟨v, ev, rv⟩ := st.slot j t q
      refine ⟨v, ev, ?_⟩
      have other : t.mine = true → ∀ b, v = .ref b → ¬ W.has b → ¬ (W.add a ob).has b := fun htm b eb nb z => by
        rcases Wd.has_add z with z | z
        · exact nb z
        · subst z
          subst eb
          exact st.sep i j s t _ e hi q hm htm hσ ev
      cases t with
      | fro d => exact Dn.mono (Wd.le_add n) rv
      | own xs =>
        obtain ⟨b, vs, eb, hb, nb, rr⟩ := rv
        exact ⟨b, vs, eb, hb, other rfl b eb nb, rr.mono (Wd.le_add n)⟩
      | ownd xs =>
        obtain ⟨b, vs, eb, hb, nb, rr⟩ := rv
        exact ⟨b, vs, eb, hb, other rfl b eb nb, rr.mono (Wd.le_add n)⟩
      | owni aA cC xs =>
        obtain ⟨vs, eb, hb, nb, rr⟩ := rv
        exact ⟨vs, eb, hb, other rfl aA eb nb, rr.mono (Wd.le_add n)⟩
      | brw _ => exact rv.elim
      | brwd _ => exact rv.elim
      | brwi _ _ _ => exact rv.elim
  own := fun j t v h hmt hv => by
    rcases set_at h with ⟨e, q⟩ | ⟨e, q⟩
    · cases q; cases hmt
    · exact st.own j t v q hmt hv
  sep := fun j k t u v hjk h1 h2 m1 m2 h3 h4 => by
    rcases set_at h1 with ⟨e1, q1⟩ | ⟨e1, q1⟩
    · cases q1; cases m1
    · rcases set_at h2 with ⟨e2, q2⟩ | ⟨e2, q2⟩
      · cases q2; cases m2
      · exact st.sep j k t u v hjk q1 q2 m1 m2 h3 h4
theorem frzSlot_ok {K : PySem.W.Frag} {W0 W : Wd} {H0 H : Hp} {Δ : Dl} {σ : L2.St} {k : Dl → Prop} (st : Stt K J W0 H0 Δ W σ H) (h : frzSlot i Δ k) : ∃ Δ' W', k Δ' ∧ W.le W' ∧ Stt K J W0 H0 Δ' W' σ H := by
  unfold frzSlot at h
  split at h
  · rename_i xs hi
    obtain ⟨a, vs, e1, e2, e3, e4⟩ := st.own_at hi
    exact ⟨_, W.add a (.lst vs), h, Wd.le_add e3, st.fslot hi rfl e1 e2 e3 (.lst Wd.add_at (e4.mono (Wd.le_add e3)))⟩
  · rename_i xs hi
    obtain ⟨a, vs, e1, e2, e3, e4⟩ := st.ownd_at hi
    exact ⟨_, W.add a (.dK vs), h, Wd.le_add e3, st.fslot hi rfl e1 e2 e3 (.dic Wd.add_at (e4.mono (Wd.le_add e3)))⟩
  · rename_i a C xs hi
    obtain ⟨dx, vs, e1, e2, e3, e4⟩ := st.owni_at hi
    exact ⟨_, W.add a (.ins (He.ga K C) dx vs), h, Wd.le_add e3, st.fslot hi rfl e1 e2 e3 (.ins Wd.add_at (e4.mono (Wd.le_add e3)))⟩
  · exact h.elim
/-- ahead of a block -/
def dFreeze (i : Nat) (t : TDS) : TDS := fun DD Δ => frzSlot i Δ fun Δ' => t DD Δ'
theorem dss_freeze {sts : List Stmt} {u : TDS} (i : Nat) (h : DSs X J Wx sts u) : DSs X J Wx sts (dFreeze i u) := h.imp fun D σ H ⟨W0, H0, Δ, W, DD, st, ht, l⟩ => by
  obtain ⟨Δ', W', h', le, st'⟩ := frzSlot_ok st ht
  exact ⟨W0, H0, Δ', W', DD, st', h', l.at le⟩
theorem ds_freeze {st : Stmt} {u : TDS} (i : Nat) (h : DS X J Wx st u) : DS X J Wx st (dFreeze i u) := h.imp fun D σ H ⟨W0, H0, Δ, W, DD, st, ht, l⟩ => by
  obtain ⟨Δ', W', h', le, st'⟩ := frzSlot_ok st ht
  exact ⟨W0, H0, Δ', W', DD, st', h', l.at le⟩
/-! ### a dict is locked while it is walked -/
def Wd.lock (W : Wd) (d : Addr) (o : Option Obj) : Wd := ⟨W.fro, W.jn, fun a => if a = d then o else W.lk a⟩
theorem Stt.wds {K : PySem.W.Frag} {W0 W W0' W' : Wd} {H0 H : Hp} {Δ : Dl} {σ : L2.St} {d : Addr} {o : HO} (st : Stt K J W0 H0 Δ W σ H) (hd : W.fro d ≠ none) (f0 : W0'.fro = W0.fro) (j0 : W0'.jn = W0.jn) (f1 : W'.fro = W.fro) (j1 : W'.jn = W.jn)
    (w : WOk J W' (upd H d o)) (l : ∀ a, W0.fro a ≠ none → W'.lk a = W0'.lk a) : Stt K J W0' H0 Δ W' σ (upd H d o) := by
  have h0 : ∀ a, W0'.has a ↔ W0.has a := fun a => by unfold Wd.has; rw [f0, j0]
  have h1 : ∀ a, W'.has a ↔ W.has a := fun a => by unfold Wd.has; rw [f1, j1]
  have mono : ∀ {v : V} {e : D}, Dn K W v e → Dn K W' v e := fun h => Dn.monoP (by rw [f1]; exact fun _ _ h => h) (by rw [j1]; exact fun _ _ h => h) h
  have monos : ∀ {v : List V} {e : List D}, Dns K W v e → Dns K W' v e := fun h => Dns.monoP (by rw [f1]; exact fun _ _ h => h) (by rw [j1]; exact fun _ _ h => h) h
  have monoK : ∀ {v : List (Key × V)} {e : List (Key × D)}, DnK K W v e → DnK K W' v e := fun h => DnK.monoP (by rw [f1]; exact fun _ _ h => h) (by rw [j1]; exact fun _ _ h => h) h
  have monoF : ∀ {v : List (Str × V)} {e : List (Str × D)}, DnF K W v e → DnF K W' v e := fun h => DnF.monoP (by rw [f1]; exact fun _ _ h => h) (by rw [j1]; exact fun _ _ h => h) h
  have hasd : W.has d := .inl hd
  exact {
    len := st.len
    wok := w
    ext := ⟨by rw [f0, f1]; exact st.ext.f, by rw [j0, j1]; exact st.ext.j, by rw [f0]; exact l⟩
    new := fun a h => by
      rw [h0]
      exact st.new a ((h1 a).mp h)
    frm := fun a u h n => by
      rw [h0] at n
      have hne : a ≠ d := fun q => by
        subst q
        rcases st.new a hasd with z | z
        · exact n z
        · rw [h] at z; cases z
      rw [upd_ne hne]
      exact st.frm a u h n
    dom := fun a h => by
      by_cases q : a = d
      · subst q; rw [upd_same]; simp
      · rw [upd_ne q]; exact st.dom a h
    slot := fun i s h => by
      obtain ⟨v, e, r⟩ := st.slot i s h
      refine ⟨v, e, ?_⟩
      cases s with
      | fro x => exact mono r
      | own xs =>
        obtain ⟨b, vs, eb, hb, n, rr⟩ := r
        have hne : b ≠ d := fun q => n (by subst q; exact hasd)
        exact ⟨b, vs, eb, by rw [upd_ne hne]; exact hb, fun z => n ((h1 b).mp z), monos rr⟩
      | ownd xs =>
        obtain ⟨b, vs, eb, hb, n, rr⟩ := r
        have hne : b ≠ d := fun q => n (by subst q; exact hasd)
        exact ⟨b, vs, eb, by rw [upd_ne hne]; exact hb, fun z => n ((h1 b).mp z), monoK rr⟩
      | owni aA cC xs =>
        obtain ⟨vs, eb, hb, n, rr⟩ := r
        have hne : aA ≠ d := fun q => n (by subst q; exact hasd)
        exact ⟨vs, eb, by rw [upd_ne hne]; exact hb, fun z => n ((h1 aA).mp z), monoF rr⟩
      | brw _ => exact r.elim
      | brwd _ => exact r.elim
      | brwi _ _ _ => exact r.elim
    own := st.own
    sep := st.sep }
theorem WOk.lock {W : Wd} {H : Hp} {d : Addr} {u : HO} {od : Obj} (w : WOk J W H) (hd : W.fro d = some u) (hl : Lk u) : WOk J (W.lock d (some od)) (upd H d (.frz od u)) where
  f := fun a o e => by
    have e1 : W.fro a = some o := e
    by_cases q : a = d
    · subst q
      rw [hd] at e1; cases e1
      exact .inr ⟨hl, od, if_pos rfl, upd_same⟩
    · rcases w.f a o e1 with ⟨l, h⟩ | ⟨l, ob, m, h⟩
      · exact .inl ⟨by show (if a = d then _ else _) = _; rw [if_neg q]; exact l, by rw [upd_ne q]; exact h⟩
      · exact .inr ⟨l, ob, by show (if a = d then _ else _) = _; rw [if_neg q]; exact m, by rw [upd_ne q]; exact h⟩
  j := fun a n ds e => by
    have e1 : W.jn a = some (n, ds) := e
    have q : a ≠ d := fun q => by
      subst q
      have := w.d a (by rw [hd]; simp)
      rw [this] at e1; cases e1
    obtain ⟨o, h1, h2⟩ := w.j a n ds e1
    exact ⟨o, by rw [upd_ne q]; exact h1, J.mono (W := W) (fun _ _ h => h) (fun _ _ h => h) h2⟩
  d := w.d
  n := fun a e => by
    have e1 : W.fro a = none := e
    have q : a ≠ d := fun q => by subst q; rw [hd] at e1; cases e1
    show (if a = d then _ else _) = _
    rw [if_neg q]
    exact w.n a e1
theorem WOk.unlock {W : Wd} {H : Hp} {d : Addr} {u : HO} (w : WOk J W H) (hd : W.fro d = some u) : WOk J (W.lock d none) (upd H d u) where
  f := fun a o e => by
    have e1 : W.fro a = some o := e
    by_cases q : a = d
    · subst q
      rw [hd] at e1; cases e1
      exact .inl ⟨if_pos rfl, upd_same⟩
    · rcases w.f a o e1 with ⟨l, h⟩ | ⟨l, ob, m, h⟩
      · exact .inl ⟨by show (if a = d then _ else _) = _; rw [if_neg q]; exact l, by rw [upd_ne q]; exact h⟩
      · exact .inr ⟨l, ob, by show (if a = d then _ else _) = _; rw [if_neg q]; exact m, by rw [upd_ne q]; exact h⟩
  j := fun a n ds e => by
    have e1 : W.jn a = some (n, ds) := e
    have q : a ≠ d := fun q => by
      subst q
      have := w.d a (by rw [hd]; simp)
      rw [this] at e1; cases e1
    obtain ⟨o, h1, h2⟩ := w.j a n ds e1
    exact ⟨o, by rw [upd_ne q]; exact h1, J.mono (W := W) (fun _ _ h => h) (fun _ _ h => h) h2⟩
  d := w.d
  n := fun a e => by
    have e1 : W.fro a = none := e
    have q : a ≠ d := fun q => by subst q; rw [hd] at e1; cases e1
    show (if a = d then _ else _) = _
    rw [if_neg q]
    exact w.n a e1
/-- into the lock -/
theorem Stt.lockD {K : PySem.W.Frag} {W0 W : Wd} {H0 H : Hp} {Δ : Dl} {σ : L2.St} {d : Addr} {u : HO} (od : Obj) (st : Stt K J W0 H0 Δ W σ H) (hd : W.fro d = some u) (hl : Lk u) :
    Stt K J (W0.lock d (some od)) H0 Δ (W.lock d (some od)) σ (upd H d (.frz od u)) :=
  Stt.wds st (by rw [hd]; simp) rfl rfl rfl rfl (st.wok.lock hd hl) fun a h => by
    show (if a = d then _ else _) = (if a = d then _ else _)
    by_cases q : a = d
    · rw [if_pos q, if_pos q]
    · rw [if_neg q, if_neg q]; exact st.ext.l a h
/-- out of it -/
theorem Stt.unlockD {K : PySem.W.Frag} {W0 W : Wd} {H0 H : Hp} {Δ : Dl} {σ : L2.St} {d : Addr} {u : HO} {od : Obj} (st : Stt K J (W0.lock d (some od)) H0 Δ W σ H) (hd : W.fro d = some u) (hl : W0.fro d ≠ none → W0.lk d = none) :
    Stt K J W0 H0 Δ (W.lock d none) σ (upd H d u) :=
  Stt.wds st (by rw [hd]; simp) rfl rfl rfl rfl (st.wok.unlock hd) fun a h => by
    show (if a = d then _ else _) = _
    by_cases q : a = d
    · subst q
      rw [if_pos rfl]
      exact (hl h).symm
    · rw [if_neg q]
      have := st.ext.l a h
      rw [this]
      show (if a = d then _ else _) = _
      rw [if_neg q]
theorem Stp.unlockD {W W' : Wd} {H H' : Hp} {d : Addr} {u : HO} {od : Obj} (y : Stp (W.lock d (some od)) (upd H d (.frz od u)) W' H') (hd : W.fro d = some u) (hl : W.lk d = none) : Stp W H (W'.lock d none) (upd H' d u) where
  le := ⟨y.le.f, y.le.j, fun a h => by
    show (if a = d then _ else _) = _
    by_cases q : a = d
    · subst q; rw [if_pos rfl]; exact hl.symm
    · rw [if_neg q]
      have := y.le.l a h
      rw [this]
      show (if a = d then _ else _) = _
      rw [if_neg q]⟩
  keep := fun a o h n => by
    have q : a ≠ d := fun q => n (by subst q; exact .inl (by rw [hd]; simp))
    rw [upd_ne q]
    exact y.keep a o (by rw [upd_ne q]; exact h) n
  new := fun a h => by
    rcases y.new a h with z | z
    · exact .inl z
    · by_cases q : a = d
      · subst q; rw [upd_same] at z; cases z
      · rw [upd_ne q] at z; exact .inr z
theorem iter_keys' {K : PySem.W.Frag} {W : Wd} {d : Addr} {o : Obj} {kvs : List (Key × V)} {ds : List (Key × D)} (h : W.fro d = some (.dK kvs)) (hk : W.lk d = some o) (r : DnK K W kvs ds) : IterD K J W (Itk d o kvs) (ds.map fun kv => dKey kv.1) where
  go := fun W' H i x le w e => by
    have e1 : H d = some (.frz o (.dK kvs)) := by
      rcases w.f d _ (le.f _ _ h) with ⟨l, q⟩ | ⟨_, ob, l, q⟩
      · rw [le.l d (by rw [h]; simp), hk] at l; cases l
      · rw [le.l d (by rw [h]; simp), hk] at l
        cases l
        exact q
    obtain ⟨k, v, ev, rfl⟩ := r.keyAt e
    refine ⟨⟨e1, (List.getElem?_eq_some_iff.mp ev).1⟩, fun v' H' y => ?_⟩
    obtain ⟨rfl, k', v'', ev', rfl⟩ := y
    rw [ev] at ev'
    cases ev'
    exact ⟨W', w, .refl W' _, dn_key k⟩
  stop := fun W' H le w => by
    have e1 : H d = some (.frz o (.dK kvs)) := by
      rcases w.f d _ (le.f _ _ h) with ⟨l, q⟩ | ⟨_, ob, l, q⟩
      · rw [le.l d (by rw [h]; simp), hk] at l; cases l
      · rw [le.l d (by rw [h]; simp), hk] at l
        cases l
        exact q
    exact ⟨e1, by rw [List.length_map, r.length]; exact Nat.le_refl _⟩
/-- a slot's dict, as it is -/
def dicAt (i : Nat) (Δ : Dl) (k : List (Key × D) → Prop) : Prop := match Δ[i]? with
  | some (some (.fro (.dic kvs))) => k kvs
  | _ => False
/-- [.. for k in d], d a slot's dict -/
def dLcKeys (i : Nat) (g : TDG) (tt : TDT) (te : TD) (vs : List Nat) : TD := fun Δ Q _ => dicAt i Δ fun kvs => lcR g tt te (wipeD Δ vs) (kvs.map fun kv => dKey kv.1) [] fun acc => Q (.own acc)
theorem lcKeys_lift {g : TDG} {tt : TDT} {te : TD} {vs : List Nat} : ∀ σ H Q, liftE X.K J Wx (dLcKeys i g tt te vs) σ H Q →
    tLockE (tLc (iKeys (tVar i)) (liftG X.K J vs g) (liftT X.K J Wx0 tt) (liftE X.K J Wx0 te) vs) σ H Q ∨ tLc (iKeys (tVar i)) (liftG X.K J vs g) (liftT X.K J Wx0 tt) (liftE X.K J Wx0 te) vs σ H Q := fun σ H Q ⟨W0, H0, Δ, W, Qd, Xd, st, ht, lk, lx⟩ => by
  unfold dLcKeys dicAt at ht
  split at ht
  · rename_i kvs hi
    obtain ⟨v, ev, rv⟩ := st.slot i _ hi
    cases rv with
    | @dic d kv _ hw rr =>
      rcases st.wok.f d _ hw with ⟨hl, hH⟩ | ⟨_, od, hl, hH⟩
      · refine .inl ⟨d, _, hH, trivial, fun od => ?_⟩
        have st1 := st.lockD od hw trivial
        have hl1 : (W.lock d (some od)).lk d = some od := if_pos rfl
        refine ⟨_, ev, d, od, rfl, .inl ⟨kv, upd_same, fun D hD => ?_⟩⟩
        have it : IterD X.K J (W.lock d (some od)) (Itk d od kv) (kvs.map fun kv => dKey kv.1) := iter_keys' hw hl1 (DnK.monoP (W := W) (W' := W.lock d (some od)) (fun _ _ h => h) (fun _ _ h => h) rr)
        have hDd : D ≠ d := fun q => by subst q; rw [upd_same] at hD; cases hD
        have hD0 : H D = none := by rw [upd_ne hDd] at hD; exact hD
        refine lc_part (Qh := fun H' => H' d = some (.frz od (.dK kv)) ∧ Q (.ref D) (upd H' d (.dK kv))) st1 it hD ht fun acc W' H' q' st' y' r' => ?_
        have hw' : W'.fro d = some (.dK kv) := y'.le.f _ _ hw
        have hl' : W'.lk d = some od := (y'.le.l d (by rw [show (W.lock d (some od)).fro d = some _ from hw]; simp)).trans hl1
        refine ⟨?_, ?_⟩
        · rcases st'.wok.f d _ hw' with ⟨l, q⟩ | ⟨_, ob, l, q⟩
          · rw [hl'] at l; cases l
          · rw [hl'] at l; cases l; exact q
        · refine lk _ _ (W'.lock d none) _ q' (st'.unlockD hw' fun h => ?_) (y'.unlockD hw hl) ⟨?_, fun a e => by cases e; exact hD0⟩
          · rw [← st.ext.l d h]; exact hl
          · obtain ⟨b, us, eb, hb, nb, rb⟩ := r'
            cases eb
            exact ⟨D, us, rfl, by rw [upd_ne hDd]; exact hb, nb, Dns.monoP (W := W') (W' := W'.lock d none) (fun _ _ h => h) (fun _ _ h => h) rb⟩
      · refine .inr ⟨_, ev, d, od, rfl, .inl ⟨kv, hH, fun D hD => ?_⟩⟩
        exact lc_part (Qh := fun H' => Q (.ref D) H') st (iter_keys' hw hl rr) hD ht fun acc W' H' q' st' y' r' => lk _ _ W' H' q' st' y' ⟨r', fun a e => by cases e; exact hD⟩
  · exact ht.elim
variable {tg elt : Expr} {ifs : List Expr} {scope : Scope} {own : List (Str × Nat)} {g : TDG} {tt : TDT} {te : TD}
theorem de_lcKeys (hc : X.calm = true) (hN : X.N.Nodup) (ho : PE X o (tVar i)) (ok : BlkOk X.N X.env.scope scope own)
    (hg : ∀ (s : Shared) (H : Hp) (C : Addr) (cl : List (Str × Addr)) (fp : List Addr), DG (X.blk s H scope (compEnvC scope cl C X.env) fp) J (own.map (·.2)) tg g)
    (ht : ∀ (s : Shared) (H : Hp) (C : Addr) (cl : List (Str × Addr)) (fp : List Addr), DTs (X.blk s H scope (compEnvC scope cl C X.env) fp) J Wx0 ifs tt)
    (he : ∀ (s : Shared) (H : Hp) (C : Addr) (cl : List (Str × Addr)) (fp : List Addr), DE (X.blk s H scope (compEnvC scope cl C X.env) fp) J Wx0 elt te)
    (hs : ∀ x, foldedSetIterable o X.env x = pure x := by intro _; rfl) : DE X J Wx (.ListComp elt [⟨tg, o, ifs, 0⟩] scope pos) (dLcKeys i g tt te (own.map (·.2))) := by
  have h : PE X (.ListComp elt [⟨tg, o, ifs, 0⟩] scope pos) (tLc (iKeys (tVar i)) (liftG X.K J (own.map (·.2)) g) (liftT X.K J Wx0 tt) (liftE X.K J Wx0 te) (own.map (·.2))) := pe_lc hc hN (pi_keys (tg := tg) ho) ok hg ht he hs
  have h2 := pe_lock h
  refine ⟨fun pins s σ H Q I q => ?_⟩
  rcases lcKeys_lift (X := X) σ H Q q with z | z
  · exact h2.run pins s σ H Q I z
  · exact h.run pins s σ H Q I z
end
end DL
set_option Elab.async false
set_option linter.all false
set_option maxRecDepth 100000
set_option maxHeartbeats 4000000
namespace DL
open PySem PySem.Spec PyProof.Rows L2
/-! ### t[::-1] of a tuple -/
section
variable {prog : Program} {w : World} {A : Around} {E : Value → Shared → Prop} {s : Shared}
theorem adjust_rev (n : Nat) : Builtin.Slice.sliceAdjust none none (-1) (n : Int) = ((n : Int) - 1, -1) := by
  unfold Builtin.Slice.sliceAdjust
  simp
theorem places_rev (n : Nat) : Builtin.Slice.slicePlaces ((n : Int) - 1) (-1) (-1) = n := by
  unfold Builtin.Slice.slicePlaces
  simp
  try omega
theorem fm_congr {α β : Type} {f g : α → Option β} : ∀ {l : List α}, (∀ a ∈ l, f a = g a) → l.filterMap f = l.filterMap g
  | [], _ => rfl
  | a :: l, h => by
    rw [List.filterMap_cons, List.filterMap_cons, h a List.mem_cons_self, fm_congr fun b hb => h b (List.mem_cons_of_mem _ hb)]
theorem pick_rev (xs : List Value) : ((List.range xs.length).filterMap fun (m : Nat) => xs.toArray[(((xs.length : Int) - 1) + (m : Int) * (-1)).toNat]?) = xs.reverse := by
  have e : (List.range xs.length).filterMap (fun (m : Nat) => xs.toArray[(((xs.length : Int) - 1) + (m : Int) * (-1)).toNat]?) = (List.range xs.length).filterMap (fun m => xs.reverse[m]?) := by
    refine fm_congr fun m hm => ?_
    have hm := List.mem_range.mp hm
    rw [List.getElem?_reverse hm, List.getElem?_toArray]
    congr 1
    omega
  rw [e, ← List.length_reverse]
  generalize xs.reverse = ys
  have := PySem.W.krv_all ys.toArray
  simpa using this
theorem tup_rev {t sl : Addr} {items : List Value} {vl vu vs : Value} {Q : Value → Shared → Prop} (ht : IsTup s.heap t items.toArray) (hs : s.heap.IsSliceOf sl vl vu vs) (pl : IsPart vl none) (pu : IsPart vu none) (ps : IsPart vs (some (-1)))
    (h : Q (.ref s.heap.objs.size) { s with heap := s.heap.push { cls := .type "tuple", data := .seq items.reverse.toArray } }) (hsz : items.length ≤ sizeLine) : wpAny (model prog w) A (getItem (.ref t) (.ref sl)) Q E s := by
  obtain ⟨os, hos, hcs, hds⟩ := id hs
  have hTs : s.TypeIs (.ref sl) "slice" := ⟨os, hos, hcs⟩
  have hz : sizeOk (.seq items.reverse.toArray) := by
    show items.reverse.toArray.size ≤ sizeLine
    rw [List.size_toArray, List.length_reverse]
    exact hsz
  unfold getItem
  try with_reducible refine wpAny_holding ?_
  first | refine wpAny_bind (wpAny_pure ?_) | skip
  refine wpAny_bind (wpAny_sequenceKey ht.typeIs (by decide) ?_)
  refine wpAny_bind (wpAny_callSpecial?_slot (name := Str.ofString "__getitem__") ht.typeIs PyProof.Rows.slot_tuple_getitem
    (wpAny_call_entry PyProof.Rows.slot_tuple_getitem ht.typeIs entry_tuple_getitem ?_ (args_tuple_getitem _ _)))
  show wpAny _ _ (Builtin.Tuple.tupleItemsOf (.ref t) >>= _) _ _ s
  refine wpAny_bind (tupleItemsOf_ ht ?_)
  refine wpAny_bind (wpAny_typeOf hTs ?_)
  rw [if_pos (by decide)]
  have app : ∀ {Q : Int × Int × Nat → Shared → Prop} {A : Around} {E : Value → Shared → Prop}, Q ((items.length : Int) - 1, -1, items.length) s → wpAny (model prog w) A (Builtin.Slice.sliceApplied (.ref sl) (pure (items.toArray.size : Int))) Q E s := fun {Q A E} q => by
    cases ps with
    | int i tk =>
      unfold Builtin.Slice.sliceApplied Builtin.Slice.sliceFields
      refine wpAny_bind (wpAny_bind (wpAny_field hos hds (x := vl) rfl (wpAny_bind (wpAny_field hos hds (x := vu) rfl (wpAny_bind (wpAny_field hos hds (x := .int (-1) tk) rfl (wpAny_pure ?_)))))))
      refine wpAny_bind (slicePart_int ?_)
      show wpAny _ _ (if ((-1 : Int) == 0) = true then _ else _) _ _ s
      rw [if_neg (by decide)]
      refine wpAny_bind (HT.slicePart_ pl (wpAny_bind (HT.slicePart_ pu (wpAny_bind (wpAny_pure ?_)))))
      show wpAny _ _ (match Builtin.Slice.sliceAdjust none none (-1) (items.toArray.size : Int) with | (lo, hi) => pure (lo, (-1 : Int), Builtin.Slice.slicePlaces lo hi (-1))) _ _ s
      rw [List.size_toArray, adjust_rev]
      show wpAny _ _ (pure ((items.length : Int) - 1, (-1 : Int), Builtin.Slice.slicePlaces ((items.length : Int) - 1) (-1) (-1))) _ _ s
      rw [places_rev]
      exact wpAny_pure q
  refine wpAny_bind (app ?_)
  show wpAny _ _ (if ((((items.length : Int) - 1) == 0 && (-1 : Int) == 1 && items.length == items.toArray.size) = true) then _ else _) _ _ s
  rw [if_neg (by simp), pick_rev]
  first
    | exact wpAny_bind (m := Builtin.Tuple.tupleExact _) (wpAny_newObj_type (wpAny_pure ⟨_, rfl, wpAny_pure h⟩) hz)
    | exact wpAny_bind (m := Builtin.Tuple.tupleExact _) (wpAny_newObj_type (wpAny_bind (wpAny_pure (wpAny_pure ⟨_, rfl, wpAny_pure h⟩))) hz)
    | exact wpAny_bind (wpAny_bind (m := Builtin.Tuple.tupleExact _) (wpAny_newObj_type (wpAny_pure (wpAny_pure ⟨_, rfl, wpAny_pure h⟩)) hz))
    | exact wpAny_bind (wpAny_bind (m := Builtin.Tuple.tupleExact _) (wpAny_newObj_type (wpAny_pure ⟨_, rfl, wpAny_pure h⟩) hz))
end
def tRevP (K : PySem.W.Frag) (te : TE) : TE := fun σ H Q => te σ H fun x H1 => (∃ a xs, x = .ref a ∧ SqL K H1 a xs ∧ ∀ p, H1 p = none → Q (.ref p) (upd H1 p (.lst xs.reverse))) ∨ (∃ a xs, x = .ref a ∧ SqT K H1 a xs ∧ TupQ Q H1 xs.reverse)
theorem pe_revP {X : Cx} {e : Expr} {te : TE} {k : Nat} {p1 p2 p3 pos : Pos} (he : PE X e te) : PE X (.Subscript e (.Slice none none (some (.UnaryOp .USub (.Constant (.int 1) k p1) p2)) p3) pos) (tRevP X.K te) := by
  refine ⟨fun pins s σ H Q I h => ?_⟩
  refine Subscript_ (thn (he.run pins s σ H _ I h) fun v s1 ⟨x, H1, I1, r1, q1⟩ => ?_)
  have hst : PO X (some (.UnaryOp .USub (.Constant (.int 1) k p1) p2)) (tPart (tUn (rU fun i => .int (-i)) (tC (.int 1)))) := po_some (pe_un un_neg pe_int)
  refine wpAny_Slice (thn (po_none.run pins s1 σ H1 (fun o H2 => o = none ∧ H2 = H1) I1 ⟨rfl, rfl⟩) fun vl s2 ⟨l, H2, I2, pl, el, e2⟩ => ?_)
  subst el e2
  refine thn (po_none.run pins s2 σ H2 (fun o H3 => o = none ∧ H3 = H2) I2 ⟨rfl, rfl⟩) fun vu s3 ⟨u, H3, I3, pu, eu, e3⟩ => ?_
  subst eu e3
  refine thn (hst.run pins s3 σ H3 (fun o H4 => o = some (-1) ∧ H4 = H3) I3 ⟨1, rfl, -1, rfl, rfl, rfl⟩) fun vs s4 ⟨o, H4, I4, ps, eo, e4⟩ => ?_
  subst eo e4
  have I5 : Inv X pins σ H4 { s4 with heap := s4.heap.push { cls := .type "slice", data := .fields #[vl, vu, vs] } } := I4.kept (t' := s4.toks) fun b ob q => Heap.get?_push_of_some _ q
  show wpAny (model X.prog X.w) X.A (subscriptTail e (.Slice none none (some (.UnaryOp .USub (.Constant (.int 1) k p1) p2)) p3) v (.ref s4.heap.objs.size)) (EP X pins σ Q) X.xe { s4 with heap := s4.heap.push { cls := .type "slice", data := .fields #[vl, vu, vs] } }
  rcases q1 with ⟨a, xs, ex, hx, q⟩ | ⟨a, xs, ex, hx, q⟩
  · subst ex
    cases r1
    obtain ⟨its, r, ht, hz⟩ := I5.list hx
    have hlen := r.length
    refine tail_any (ops := [.ref a, .ref s4.heap.objs.size]) ht.isList.typeIs (PySem.slot_list_getitem.lookup) ?_ (by with_unfolding_all rfl)
    refine wpAny_getItem_list_slice ht.isList (Heap.IsSliceOf.new _ vl vu vs) pl pu ps (by decide) ?_ (by rw [List.size_toArray]; omega)
    rw [PySem.W.krv_pick]
    refine ⟨.ref _, _, I5.laid (t' := s4.toks) (o := .lst xs.reverse) (fun b ob q => Heap.get?_push_of_some _ q) (Nat.le_refl _) ?_, rfl, q _ (I5.hok.fresh (Nat.le_refl _))⟩
    exact ⟨by rw [List.length_reverse]; exact hz, _, 0, r.reverse, Heap.get?_push_size _ rfl⟩
  · subst ex
    cases r1
    obtain ⟨its, r, ht, hz⟩ := I5.tuple hx
    have hlen := r.length
    refine tail_any (ops := [.ref a, .ref s4.heap.objs.size]) ht.typeIs (PyProof.Rows.slot_tuple_getitem.lookup) ?_ (by with_unfolding_all rfl)
    exact tup_rev ht (Heap.IsSliceOf.new _ vl vu vs) pl pu ps (tup_new I5 r.reverse (by rw [List.length_reverse]; exact hz) q) (by omega)
section
variable {X : Cx} {J : JS} {Wx : WX} {a b e : Expr} {ta tb t : TD} {pos : Pos}
/-! ### t[::-1] -/
def fRev (x : Sd) (Q : Sd → Prop) : Prop := match x.dat with
  | .lst xs => Q (.own xs.reverse)
  | .tup xs => Q (.fro (.tup xs.reverse))
  | _ => False
def dRev (t : TD) : TD := fun Δ Q E => t Δ (fun x => fRev x Q) E
theorem de_rev {k : Nat} {p1 p2 p3 : Pos} (h : DE X J Wx e t) : DE X J Wx (.Subscript e (.Slice none none (some (.UnaryOp .USub (.Constant (.int 1) k p1) p2)) p3) pos) (dRev t) := (pe_revP h).imp fun σ H Q ⟨W0, H0, Δ, W, Qd, Xd, st, ht, lk, lx⟩ => by
  refine ⟨W0, H0, Δ, W, _, _, st, ht, fun s v W1 H1 q st1 y1 r1 => ?_, lx⟩
  unfold fRev at q
  dsimp only at q
  split at q
  · rename_i xs es
    obtain ⟨a, us, rfl, ha, ra⟩ := r1.isLst st1.wok es
    exact .inl ⟨a, us, rfl, SqL.of ha, new_lst st1 ra.reverse q (lk.at st st1 y1)⟩
  · rename_i xs es
    obtain ⟨a, us, rfl, ha, ra⟩ := r1.isTup st1.wok es
    exact .inr ⟨a, us, rfl, ha, new_tup st1 ra.reverse q (lk.at st st1 y1)⟩
  · exact q.elim
/-! ### is None -/
def isNQ (neg : Bool) (Q : Sd → Prop) (s : Sd) : Prop := match s.dat with
  | .ob _ => False
  | .non => Q (.fro (.bl (!neg)))
  | _ => Q (.fro (.bl neg))
def dIsN (neg : Bool) (t : TD) : TD := fun Δ Q E => t Δ (isNQ neg Q) E
theorem isN_at {K : PySem.W.Frag} {W : Wd} {H Hs H0 : Hp} {v : V} {s : Sd} {neg : Bool} {Q : Sd → Prop} (r : RepR K W H Hs H0 v s) (q : isNQ neg Q s) : Q (.fro (.bl (if neg then !decide (v = .non) else decide (v = .non)))) := by
  unfold isNQ at q
  cases s with
  | fro d =>
    cases d with
    | ob v => exact q.elim
    | non => cases r; cases neg <;> exact q
    | _ => cases r <;> cases neg <;> exact q
  | own xs => obtain ⟨⟨a, vs, rfl, _⟩, _⟩ := r; cases neg <;> exact q
  | brw xs => obtain ⟨⟨a, vs, rfl, _⟩, _⟩ := r; cases neg <;> exact q
  | ownd xs => obtain ⟨⟨a, vs, rfl, _⟩, _⟩ := r; cases neg <;> exact q
  | brwd xs => obtain ⟨⟨a, vs, rfl, _⟩, _⟩ := r; cases neg <;> exact q
  | owni aA C xs => obtain ⟨⟨vs, rfl, _⟩, _⟩ := r; cases neg <;> exact q
  | brwi aA C xs => obtain ⟨⟨vs, rfl, _⟩, _⟩ := r; cases neg <;> exact q
theorem isN_lift : ∀ σ H Q, liftE X.K J Wx (dIsN false t) σ H Q → tIsN (liftE X.K J Wx t) σ H Q := fun σ H Q ⟨W0, H0, Δ, W, Qd, Xd, st, ht, lk, lx⟩ => by
  refine ⟨W0, H0, Δ, W, _, _, st, ht, fun s v W1 H1 q st1 y1 r1 => ?_, lx⟩
  exact lk _ _ W1 H1 (isN_at r1 q) st1 y1 (Dn.bl _)
theorem notN_lift : ∀ σ H Q, liftE X.K J Wx (dIsN true t) σ H Q → tNotN (liftE X.K J Wx t) σ H Q := fun σ H Q ⟨W0, H0, Δ, W, Qd, Xd, st, ht, lk, lx⟩ => by
  refine ⟨W0, H0, Δ, W, _, _, st, ht, fun s v W1 H1 q st1 y1 r1 => ?_, lx⟩
  exact lk _ _ W1 H1 (isN_at r1 q) st1 y1 (Dn.bl _)
theorem de_isN {j pos'} (h : DE X J Wx e t) : DE X J Wx (.Compare e [.Is] [.Constant .none j pos'] pos) (dIsN false t) := (pe_cmp (pc_isN h) (by rfl)).imp isN_lift
theorem de_notN {j pos'} (h : DE X J Wx e t) : DE X J Wx (.Compare e [.IsNot] [.Constant .none j pos'] pos) (dIsN true t) := (pe_cmp (pc_notN h) (by rfl)).imp notN_lift
theorem tst_imp {t' : TE} {d : TD} (k : ∀ σ H Q, liftE X.K J Wx d σ H Q → t' σ H Q) : ∀ σ H Q, liftT X.K J Wx (dTst d) σ H Q → tB t' σ H Q := fun σ H Q ⟨W0, H0, Δ, W, Qd, Xd, st, ht, lk, lx⟩ => by
  refine k σ H _ ⟨W0, H0, Δ, W, _, _, st, ht, fun s v W1 H1 q st1 y1 r1 => ?_, lx⟩
  unfold tstB at q
  split at q
  · cases r1
    exact ⟨_, rfl, lk _ W1 H1 q st1 y1⟩
  · exact q.elim
theorem dt_isN {j pos'} (h : DE X J Wx e t) : DT X J Wx (.Compare e [.Is] [.Constant .none j pos'] pos) (dTst (dIsN false t)) := (pt_cmp (pc_isN h) (by rfl)).imp (tst_imp isN_lift)
theorem dt_notN {j pos'} (h : DE X J Wx e t) : DT X J Wx (.Compare e [.IsNot] [.Constant .none j pos'] pos) (dTst (dIsN true t)) := (pt_cmp (pc_notN h) (by rfl)).imp (tst_imp notN_lift)
/-! ### ints in calls -/
def intsOf : List D → Option (List Int)
  | [] => some []
  | .int i :: r => (intsOf r).map (i :: ·)
  | _ => none
theorem Dns.ints {K : PySem.W.Frag} {W : Wd} : ∀ {vs : List V} {ds : List D} {ns : List Int}, Dns K W vs ds → intsOf ds = some ns → vs = ns.map V.int
  | _, _, _, .nil, e => by cases e; rfl
  | _, .int i :: ds, ns, .cons h r, e => by
    cases h
    unfold intsOf at e
    cases q : intsOf ds with
    | none => rw [q] at e; cases e
    | some ms =>
      rw [q] at e
      cases e
      rw [Dns.ints r q]
      rfl
/-- sum of ints -/
def fSum (xs : List Sd) (Q : Sd → Prop) : Prop := match xs with
  | [s] => (match s.dat with
    | .lst ys => (match intsOf ys with
      | some ns => Q (.fro (.int ns.sum))
      | none => False)
    | _ => False)
  | _ => False
theorem sum_ok {K : PySem.W.Frag} : CallS K J (rSum K) fSum := by
  intro W0 H0 Δ W σ H Hs Qd Q xs vs st r h lk
  unfold fSum at h
  split at h
  · cases r with
    | cons r1 r2 =>
      cases r2
      split at h
      · rename_i ys e
        split at h
        · rename_i ns en
          obtain ⟨a, us, rfl, ha, ra⟩ := r1.isLst st.wok e
          exact ⟨a, ns, rfl, by rw [← ra.ints en]; exact SqL.of ha, lk _ _ W H h st (.refl W H) (Dn.int _)⟩
        · exact h.elim
      · exact h.elim
  · exact h.elim
/-- abs, int, max, min -/
def f1i (g : Int → D) (xs : List Sd) (Q : Sd → Prop) : Prop := match xs with
  | [s] => (match s.dat with
    | .int i => Q (.fro (g i))
    | _ => False)
  | _ => False
def f2i (g : Int → Int → D) (xs : List Sd) (Q : Sd → Prop) : Prop := match xs with
  | [s, t] => (match s.dat, t.dat with
    | .int i, .int j => Q (.fro (g i j))
    | _, _ => False)
  | _ => False
abbrev gAbs (i : Int) : D := .int (if i < 0 then -i else i)
abbrev gMax (i j : Int) : D := .int (if j > i then j else i)
abbrev gMin (i j : Int) : D := .int (if j < i then j else i)
theorem abs_ok {K : PySem.W.Frag} : CallS K J (fun xs H Q => ∃ i, xs = [.int i] ∧ Q (.int (if i < 0 then -i else i)) H) (f1i gAbs) := by
  intro W0 H0 Δ W σ H Hs Qd Q xs vs st r h lk
  unfold f1i at h
  split at h
  · cases r with
    | cons r1 r2 =>
      cases r2
      split at h
      · rename_i i e
        rw [r1.isInt e]
        exact ⟨i, rfl, lk _ _ W H h st (.refl W H) (Dn.int _)⟩
      · exact h.elim
  · exact h.elim
theorem int_ok1 {K : PySem.W.Frag} : CallS K J (fun xs H Q => (∃ i, xs = [.int i] ∧ Q (.int i) H) ∨ ∃ k, xs = [.bl k] ∧ Q (.int (if k then 1 else 0)) H) (f1i .int) := by
  intro W0 H0 Δ W σ H Hs Qd Q xs vs st r h lk
  unfold f1i at h
  split at h
  · cases r with
    | cons r1 r2 =>
      cases r2
      split at h
      · rename_i i e
        rw [r1.isInt e]
        exact .inl ⟨i, rfl, lk _ _ W H h st (.refl W H) (Dn.int _)⟩
      · exact h.elim
  · exact h.elim
theorem two_ok {K : PySem.W.Frag} {g : Int → Int → V} {g' : Int → Int → D} (hg : ∀ W i j, Dn K W (g i j) (g' i j)) : CallS K J (fun xs H Q => ∃ i j, xs = [.int i, .int j] ∧ Q (g i j) H) (f2i g') := by
  intro W0 H0 Δ W σ H Hs Qd Q xs vs st r h lk
  unfold f2i at h
  split at h
  · cases r with
    | cons r1 r2 =>
      cases r2 with
      | cons r3 r4 =>
        cases r4
        split at h
        · rename_i i j e1 e2
          rw [r1.isInt e1, r3.isInt e2]
          exact ⟨i, j, rfl, lk _ _ W H h st (.refl W H) (hg W i j)⟩
        · exact h.elim
  · exact h.elim
theorem max_ok {K : PySem.W.Frag} : CallS K J (fun xs H Q => ∃ i j, xs = [.int i, .int j] ∧ Q (.int (if j > i then j else i)) H) (f2i gMax) := two_ok (g := fun i j => .int (if j > i then j else i)) fun W i j => Dn.int _
theorem min_ok {K : PySem.W.Frag} : CallS K J (fun xs H Q => ∃ i j, xs = [.int i, .int j] ∧ Q (.int (if j < i then j else i)) H) (f2i gMin) := two_ok (g := fun i j => .int (if j < i then j else i)) fun W i j => Dn.int _
/-- -i -/
def fNeg (x : Sd) (Q : Sd → Prop) : Prop := match x.dat with
  | .int i => Q (.fro (.int (-i)))
  | _ => False
theorem neg_ok {K : PySem.W.Frag} : UnS K J (rU fun i => .int (-i)) fNeg := by
  intro W0 H0 Δ W σ H Hs Qd Q x v st r h lk
  unfold fNeg at h
  split at h
  · rename_i i e
    exact ⟨i, r.isInt e, lk _ _ W H h st (.refl W H) (Dn.int _)⟩
  · exact h.elim
/-! ### ''.join(texts) -/
def strsOf : List D → Option (List Str)
  | [] => some []
  | .str i :: r => (strsOf r).map (i :: ·)
  | _ => none
theorem Dns.strs {K : PySem.W.Frag} {W : Wd} : ∀ {vs : List V} {ds : List D} {ns : List Str}, Dns K W vs ds → strsOf ds = some ns → vs = ns.map V.str
  | _, _, _, .nil, e => by cases e; rfl
  | _, .str i :: ds, ns, .cons h r, e => by
    cases h
    unfold strsOf at e
    cases q : strsOf ds with
    | none => rw [q] at e; cases e
    | some ms =>
      rw [q] at e
      cases e
      rw [Dns.strs r q]
      rfl
def joinQ (sep : Str) (Q : Sd → Prop) (xs : List D) : Prop := match strsOf xs with
  | some ys => (ys.map (·.length)).sum + ys.length * sep.length ≤ 16777216 ∧ Q (.fro (.str (Txt.join sep ys)))
  | none => False
def dJoin (sep : Str) (t : TD) : TD := fun Δ Q E => t Δ (fun s => match s.dat with
  | .lst xs => joinQ sep Q xs
  | .tup xs => joinQ sep Q xs
  | _ => False) E
theorem de_join {sep : Str} {j} {p1 apos : Pos} (he : DE X J Wx e t) (hs : starEach [e] X.env = [(false, eval e X.env)] := by rfl) (hbase : attributeBase (.Constant (.str sep) j p1) "join" X.env (eval (.Constant (.str sep) j p1) X.env) = eval (.Constant (.str sep) j p1) X.env := by rfl) (hline : (apos.endLine == pos.line) = true := by rfl) :
    DE X J Wx (.Call (.Attribute (.Constant (.str sep) j p1) "join" apos) [e] [] pos) (dJoin sep t) := (pe_join pe_str he hs hbase hline).imp fun σ H Q ⟨W0, H0, Δ, W, Qd, Xd, st, ht, lk, lx⟩ => by
  refine ⟨⟨sep, rfl⟩, W0, H0, Δ, W, _, _, st, ht, fun s v W1 H1 q st1 y1 r1 => ?_, lx⟩
  have go : ∀ {p : Addr} {us : List V} {xs : List D}, (SqL X.K H1 p us ∨ SqT X.K H1 p us) → Dns X.K W1 us xs → joinQ sep Qd xs →
      ∃ a p', ∃ ys : List Str, V.str sep = .str a ∧ [V.ref p] = [.ref p'] ∧ (SqL X.K H1 p' (ys.map V.str) ∨ SqT X.K H1 p' (ys.map V.str)) ∧ (ys.map (·.length)).sum + ys.length * a.length ≤ 16777216 ∧ Q (.str (Txt.join a ys)) H1 := fun {p us xs} hp rr q => by
    unfold joinQ at q
    split at q
    · rename_i ys ey
      refine ⟨sep, p, ys, rfl, rfl, ?_, q.1, lk _ _ W1 H1 q.2 st1 y1 (Dn.str _)⟩
      rw [← rr.strs ey]
      exact hp
    · exact q.elim
  dsimp only at q
  split at q
  · rename_i xs es
    obtain ⟨a, us, rfl, ha, ra⟩ := r1.isLst st1.wok es
    exact go (.inl (SqL.of ha)) ra q
  · rename_i xs es
    obtain ⟨a, us, rfl, ha, ra⟩ := r1.isTup st1.wok es
    exact go (.inr ha) ra q
  · exact q.elim
/-! ### * with tuples -/
def fMulT (x y : Sd) (Q : Sd → Prop) : Prop := match x.dat, y.dat with
  | .tup xs, .int k => (xs ≠ [] ∧ 2 ≤ k ∧ k ≤ 1000 ∧ xs.length ≤ 1000) ∧ Q (.fro (.tup (List.replicate k.toNat xs).flatten))
  | _, _ => False
theorem mulT_ok {K : PySem.W.Frag} : OpS K J (rRepP K) fMulT := by
  intro W0 H0 Δ W σ H Hs Qd Q x y v u st rx ry h lk
  unfold fMulT at h
  split at h
  · rename_i xs k e1 e2
    obtain ⟨a, vs, rfl, ha, ra⟩ := rx.isTup st.wok e1
    obtain ⟨⟨h1, h2, h3, h4⟩, h⟩ := h
    have hl := ra.length
    exact ⟨a, k, vs, rfl, ry.isInt e2, ha, fun e => h1 (by subst e; cases ra; rfl), h2, h3, by omega, new_tup st (ra.rep _) h lk⟩
  · exact h.elim
/-! ### dict(pairs) -/
def dKV : D → Option (Key × D)
  | .tup [.int i, d] => some (.inl i, d)
  | .tup [.str x, d] => some (.inr x, d)
  | _ => none
def dKVs : List D → Option (List (Key × D))
  | [] => some []
  | d :: r => match dKV d, dKVs r with
    | some kv, some kvs => some (kv :: kvs)
    | _, _ => none
/-- later pairs win, the place is the first one's -/
def mergeD (acc : List (Key × D)) : List (Key × D) → List (Key × D)
  | [] => acc
  | kv :: r => mergeD (putD acc kv.1 kv.2) r
def fDictP (xs : List Sd) (Q : Sd → Prop) : Prop := match xs with
  | [s] => (match s.dat with
    | .tup ys => (match dKVs ys with
      | some kvs => Q (.ownd (mergeD [] kvs))
      | none => False)
    | .lst ys => (match dKVs ys with
      | some kvs => Q (.ownd (mergeD [] kvs))
      | none => False)
    | _ => False)
  | _ => False
theorem Dns.pairs {K : PySem.W.Frag} {W : Wd} {H : Hp} (w : WOk J W H) : ∀ {vs : List V} {ds : List D} {kvs : List (Key × D)}, Dns K W vs ds → dKVs ds = some kvs →
    ∃ (ps : List Addr) (vk : List (Key × V)), vs = ps.map V.ref ∧ Paired (fun p kv => SqT K H p [kV kv.1, kv.2]) ps vk ∧ DnK K W vk kvs
  | _, _, _, .nil, e => by cases e; exact ⟨[], [], rfl, .nil, .nil⟩
  | _, d :: ds, kvs, .cons (v := v) h r, e => by
    unfold dKVs at e
    cases q1 : dKV d with
    | none => rw [q1] at e; cases e
    | some kv =>
      cases q2 : dKVs ds with
      | none => rw [q1, q2] at e; cases e
      | some kvr =>
        rw [q1, q2] at e
        cases e
        obtain ⟨ps, vk, e1, e2, e3⟩ := Dns.pairs w r q2
        obtain ⟨p, v', ev, hp, hv⟩ : ∃ p v', v = .ref p ∧ SqT K H p [kV kv.1, v'] ∧ Dn K W v' kv.2 := by
          unfold dKV at q1
          split at q1
          · cases q1
            cases h with
            | tup hq rr =>
              cases rr with
              | cons a1 a2 =>
                cases a2 with
                | cons b1 b2 =>
                  cases b2
                  cases a1
                  exact ⟨_, _, rfl, w.tup hq, b1⟩
          · cases q1
            cases h with
            | tup hq rr =>
              cases rr with
              | cons a1 a2 =>
                cases a2 with
                | cons b1 b2 =>
                  cases b2
                  cases a1
                  exact ⟨_, _, rfl, w.tup hq, b1⟩
          · cases q1
        exact ⟨p :: ps, (kv.1, v') :: vk, by rw [ev, e1]; rfl, .cons hp e2, .cons hv e3⟩
theorem DnK.merge {K : PySem.W.Frag} {W : Wd} : ∀ {us : List (Key × V)} {es : List (Key × D)} {vs : List (Key × V)} {ds : List (Key × D)}, DnK K W us es → DnK K W vs ds → DnK K W (mergeK vs us) (mergeD ds es)
  | _, _, _, _, .nil, h => h
  | _, _, vs, ds, .cons (k := k) (v := v) (d := d) (vs := us) (ds := es) a r, h => by
    show DnK K W (mergeK (putK vs k v) us) (mergeD (putD ds k d) es)
    exact DnK.merge r (h.put a)
theorem new_dic {W0 W : Wd} {H0 H : Hp} {Δ : Dl} {σ : L2.St} {K : PySem.W.Frag} {Qd : Sd → Prop} {Q : VK} {vs : List (Key × V)} {ds : List (Key × D)} (st : Stt K J W0 H0 Δ W σ H) (r : DnK K W vs ds) (q : Qd (.ownd ds)) (lk : LkE K J W0 H0 Δ W σ H Qd Q) :
    ∀ a, H a = none → Q (.ref a) (upd H a (.dK vs)) := fun a hn =>
  lk _ _ _ _ q (st.laidO hn) (.laid W hn) ⟨⟨a, vs, rfl, upd_same, st.wok.fresh hn, r⟩, fun b e => by cases e; exact hn⟩
def rDictP (K : PySem.W.Frag) : List V → Hp → VK → Prop := fun xs H Q => rDictT K xs H Q ∨ ∃ (a : Addr) (ps : List Addr) (kvs : List (Key × V)), xs = [.ref a] ∧ SqL K H a (ps.map V.ref) ∧ Paired (fun p kv => SqT K H p [kV kv.1, kv.2]) ps kvs ∧ ∀ p, H p = none → Q (.ref p) (upd H p (.dK (mergeK [] kvs)))
theorem call_dictA (hc : X.calm = true) : CallR X (.type "dict") (rDictP X.K) := by
  intro pins s σ H xs us Q I r h
  rcases h with h | h
  · exact call_dictT hc pins s σ H xs us Q I r h
  · exact call_dictP hc pins s σ H xs us Q I r h
theorem RepR.isTupP {K : PySem.W.Frag} {W : Wd} {H Hs H0 : Hp} {v : V} {s : Sd} {xs : List D} (w : WOk J W H) (r : RepR K W H Hs H0 v s) (e : s.dat = .tup xs) : ∃ a vs, v = .ref a ∧ SqP K H a vs ∧ Dns K W vs xs := by
  cases s with
  | fro d =>
    cases (show d = .tup xs from e)
    cases r with
    | tup h rr => exact ⟨_, _, rfl, w.tupP h, rr⟩
  | own ys => cases e
  | brw ys => cases e
  | ownd ys => cases e
  | owni aA cC ys => cases e
  | brwd ys => cases e
  | brwi aA cC ys => cases e
theorem dictP_ok {K : PySem.W.Frag} : CallS K J (rDictP K) fDictP := by
  intro W0 H0 Δ W σ H Hs Qd Q xs vs st r h lk
  unfold fDictP at h
  split at h
  · cases r with
    | cons r1 r2 =>
      cases r2
      split at h
      · rename_i ys e
        split at h
        · rename_i kvs ek
          obtain ⟨a, us, rfl, ha, ra⟩ := r1.isTupP st.wok e
          obtain ⟨ps, vk, rfl, e2, e3⟩ := ra.pairs st.wok ek
          exact .inl ⟨a, ps, vk, rfl, ha, e2, new_dic st (DnK.merge e3 .nil) h lk⟩
        · exact h.elim
      · rename_i ys e
        split at h
        · rename_i kvs ek
          obtain ⟨a, us, rfl, ha, ra⟩ := r1.isLst st.wok e
          obtain ⟨ps, vk, rfl, e2, e3⟩ := ra.pairs st.wok ek
          exact .inr ⟨a, ps, vk, rfl, SqL.of ha, e2, new_dic st (DnK.merge e3 .nil) h lk⟩
        · exact h.elim
      · exact h.elim
  · exact h.elim
end
end DL
set_option Elab.async false
set_option linter.all false
set_option maxRecDepth 100000
set_option maxHeartbeats 4000000
namespace DL
open PySem PySem.Spec PyProof.Rows L2
open PySem.W (AllAlike Sortable dataLe EachIs KeepsBut)
section
variable {X : Cx} {pins : List (Addr × Obj)} {σ : L2.St} {H : Hp} {s : Shared}
/-- values and what they stand for -/
def RPair (v : Value) (p : V × D) : Prop := RelV p.1 v
theorem each_pairs : ∀ {vs : List V} {us : List Value} {ds : List D}, Vals vs us → vs.length = ds.length → EachIs RPair us (vs.zip ds)
  | [], _, [], h, _ => by cases h; exact .nil
  | v :: vs, _, d :: ds, h, e => by
    cases h with
    | cons h1 h2 => exact .cons h1 (each_pairs h2 (by simpa using e))
theorem pairs_vals : ∀ {us : List Value} {bs : List (V × D)}, EachIs RPair us bs → Vals (bs.map (·.1)) us
  | _, _, .nil => .nil
  | _, _, .cons h t => .cons h (pairs_vals t)
theorem each_reads (I : Inv X pins σ H s) : ∀ {us : List Value} {bs : List (V × D)}, EachIs RPair us bs → (∀ b ∈ bs, Dp X.K H b.1 b.2.py) → EachIs (fun v (b : V × D) => ∃ as, Reads s.heap v b.2.py as) us bs
  | _, _, .nil, _ => .nil
  | _, _, .cons h t, k => .cons (Dp.reads I _ _ _ (k _ List.mem_cons_self) h) (each_reads I t fun b hb => k b (List.mem_cons_of_mem _ hb))
/-- sorted(xs) of data -/
def rSortD (K : PySem.W.Frag) : List V → Hp → VK → Prop := fun xs H Q => ∃ (a : Addr) (bs : List (V × D)), xs = [.ref a] ∧ SqL K H a (bs.map (·.1)) ∧ (∀ b ∈ bs, Dp K H b.1 b.2.py) ∧ AllAlike (bs.map (·.2.py)) ∧ Sortable (bs.map (·.2.py)) ∧ (∀ b ∈ bs, b.2.py.depth ≤ 64) ∧
  ∀ p, H p = none → Q (.ref p) (upd H p (.lst ((bs.mergeSort (dataLe false (·.2.py))).map (·.1))))
theorem cr_sortD (hu : X.A.units + 66 < cLine) : CallR X (.builtin "sorted") (rSortD X.K) := by
  intro pins s σ H vs us Q I r h
  obtain ⟨a, bs, rfl, hs, hd, hal, hk, hdp, q⟩ := h
  obtain rfl := Vals.ref1 r
  obtain ⟨its, rv, hl, hz⟩ := I.list hs
  have ep : EachIs RPair its bs := by
    have := each_pairs (ds := bs.map (·.2)) rv (by simp)
    rwa [List.zip_map', show (bs.map fun b => (b.1, b.2)) = bs from by simp] at this
  have hlen : bs.length ≤ sizeLine := by simpa using hz
  refine PySem.W.sorted_data (R := RPair) (enc := fun b : V × D => b.2.py) hl.isList ep (each_reads I ep hd) hal hk hlen (fun b hb => ?_) fun out ho er => ?_
  · have := hdp b hb
    omega
  obtain ⟨n, he⟩ := PyProof.Rows.sortedAll_at s.heap its out.toArray
  have hol : ((bs.mergeSort (dataLe false fun b : V × D => b.2.py)).map (·.1)).length ≤ sizeLine := by
    rw [List.length_map, List.length_mergeSort]
    exact hlen
  exact ⟨.ref _, upd H (s.heap.objs.size + 1) (.lst ((bs.mergeSort (dataLe false fun b : V × D => b.2.py)).map (·.1))), I.laid (t' := s.toks) (fun _ _ => PyProof.Rows.sortedAll_old) (Nat.le_succ _) ⟨hol, _, n, pairs_vals er, he⟩, rfl, q _ (I.hok.fresh (Nat.le_succ _))⟩
/-! ### sorted(xs, key=f) -/
theorem HOk.but {P : Program} {w : World} {H : Hp} {h h' : Heap} (x : HOk P w H h) (k : ∀ b u, H b ≠ none → h.get? b = some u → h'.get? b = some u) : HOk P w H h' := fun a o e =>
  (x a o e).stay (fun b u hb q => k b u (by rcases hb with z | z; · rw [z, e]; simp
                                            · rw [z]; simp) q) (fun _ q => q) fun _ _ q => q
theorem Un.but {fs ex : List Addr} {H H' : Hp} {h h' g : Heap} (u : Un fs ex H H' h h') (k : ∀ b o, b < h.objs.size → h'.get? b = some o → g.get? b = some o) : Un fs ex H H' h g where
  keep := fun b o q n hb hx => k b o (Heap.lt_size q) (u.keep b o q n hb hx)
  slot := fun b o q n hb hx => by
    obtain ⟨sl, e⟩ := u.slot b o q n hb hx
    exact ⟨sl, k b _ (Heap.lt_size q) e⟩
  free := u.free
  there := fun b o q hx => by
    obtain ⟨o', e⟩ := u.there b o q hx
    exact ⟨o', k b _ (Heap.lt_size q) e⟩
  tups := u.tups
  frzs := u.frzs
  tbls := u.tbls
/-- a new object of a builtin's own comes to be known -/
theorem Un.own {fs ex : List Addr} {H H' : Hp} {h h' : Heap} {a : Addr} {o : HO} (u : Un fs ex H H' h h') (ha : h.objs.size ≤ a) (hn : H' a = none) : Un fs ex H (upd H' a o) h h' where
  keep := u.keep
  slot := u.slot
  free := fun b o q n hx => by
    rw [upd_ne (Nat.ne_of_lt (Nat.lt_of_lt_of_le (Heap.lt_size q) ha))]
    exact u.free b o q n hx
  there := u.there
  tups := fun b xs q => by
    have q' := u.tups b xs q
    rw [upd_ne (ne_of_none q' hn)]; exact q'
  frzs := fun b o xs q => by
    have q' := u.frzs b o xs q
    rw [upd_ne (ne_of_none q' hn)]; exact q'
  tbls := fun b ps q => by
    obtain ⟨more, q'⟩ := u.tbls b ps q
    exact ⟨more, by rw [upd_ne (ne_of_none q' hn)]; exact q'⟩
theorem HOk.own' {P : Program} {w : World} {H : Hp} {h : Heap} {a : Addr} {o : HO} (x : HOk P w H h) (hn : H a = none) (new : ObjOk P w (upd H a o) h a o) : HOk P w (upd H a o) h := fun b u e => by
  by_cases hb : b = a
  · subst hb; rw [upd_same] at e; cases e; exact new
  · rw [upd_ne hb] at e
    exact (x b u e).stay (fun c v _ q => q) (fun c q => by rw [upd_ne (ne_of_none q hn)]; exact q) fun c xs q => by rw [upd_ne (ne_of_none q hn)]; exact q
/-- the state of the key store -/
structure KSt (X : Cx) (H : Hp) (s : Shared) (a kS : Addr) (e1 : Nat) (T : List V → Hp → Prop) (s' : Shared) : Prop where
  ex : ∃ (H' : Hp) (ks : List V) (us : List Value) (e : Nat), s'.os = s.os ∧ AllBare s'.gens ∧ Un (frs X.stack) [] H H' s.heap s'.heap ∧ HOk X.prog X.w H' s'.heap ∧ s'.heap.get? kS = some (seqObj "list" us.toArray e) ∧ Vals ks us ∧
    s'.heap.get? a = some (seqObj "list" #[] e1) ∧ H' a = none ∧ H' kS = none ∧ T ks H'
/-- the values and their keys -/
abbrev Kd := V × D × D
def rSortK (K : PySem.W.Frag) (sp : Sp) : List V → Hp → VK → Prop := fun vs H Q => ∃ (a0 : Addr) (xs : List V) (T : List V → Hp → Prop), vs = [.ref a0] ∧ SqL K H a0 xs ∧ T [] H ∧
  (∀ (i : Nat) x ks H', xs[i]? = some x → ks.length = i → T ks H' → sp [x] H' (fun k H'' => T (ks ++ [k]) H'') (fun _ _ _ => False)) ∧
  (∀ ks H', ks.length = xs.length → T ks H' → ∃ kz : List D, kz.length = xs.length ∧ (∀ b ∈ ks.zip kz, Dp K H' b.1 b.2.py) ∧ AllAlike (kz.map (·.py)) ∧ Sortable (kz.map (·.py)) ∧ (∀ d ∈ kz, d.py.depth ≤ 64) ∧
    ∀ p, H' p = none → Q (.ref p) (upd H' p (.lst (((xs.zip kz).mergeSort (dataLe false (·.2.py))).map (·.1)))))
theorem sortKey_run {k : Nat} {f : Addr} {fd : FuncData} {ps : List Str} {sp : Sp} {vs : List V} {us : List Value} {Q : VK} (F : FnOk X.prog X.w X.K X.mg X.base (L2.CX X.prog X.w) k f fd ps sp) (hb : Binds X.K fd ps []) (hr : Room (k + 2) X.A) (I : Inv X pins σ H s) (r : Vals vs us) (h : rSortK X.K sp vs H Q) :
    wpAny (model X.prog X.w) X.A (call (.builtin "sorted") us [(Str.ofString "key", .ref f)]) (EP X pins σ Q) X.xe s := by
  obtain ⟨a0, xs, T, rfl, hs, t0, turn, fin⟩ := h
  obtain rfl := Vals.ref1 r
  obtain ⟨its, rv, hl, hz⟩ := I.list hs
  have hlen : its.length = xs.length := rv.length.symm
  have hr2 : Room k X.A.in1.in1 := (show Room (k + 1) X.A.in1 from Room.in1 hr).in1
  have hu : X.A.in1.in1.units + 64 < cLine := by have := hr2.un; omega
  refine PySem.W.sorted_of_sort hl.isList (by omega) (PyProof.Rows.ksk_s1 _ _) (fun _ => PyProof.Rows.ksk_l1 _ _) fun E' => ?_
  rw [PyProof.Rows.ksk_t1]
  -- the state ahead: s with a copy
  have hcp := PySem.W.copyHeap_at s.heap its
  have hold : ∀ b o, s.heap.get? b = some o → (PySem.W.copyHeap s.heap its).get? b = some o := fun b o e => PySem.W.copyHeap_old e
  revert hcp hold
  generalize hA : s.heap.objs.size + 1 = a
  generalize PySem.W.copyHeap s.heap its = hc
  intro hcp hold
  have hage : s.heap.objs.size < a := by omega
  have ha : a < hc.objs.size := Heap.lt_size hcp
  obtain ⟨e1, ho1⟩ : ∃ e1, (hc.update a (Obj.mapSeq fun _ => (#[] : Array Value))).get? a = some (seqObj "list" #[] e1) := ⟨_, PyProof.Rows.get?_update_seq hcp fun _ => #[]⟩
  unfold PyProof.Rows.ksk_tree
  refine wpAny_bind (PyProof.Rows.listItems_at hcp rfl ?_)
  refine wpAny_bind (PyProof.Rows.listUpdate_at hcp rfl ?_ (by rw [List.size_toArray]; omega) (Nat.zero_le _))
  refine wpAny_bind (PyProof.Rows.seqEpoch_at ho1 rfl ?_)
  refine wpAny_bind (wpAny_newTuple ?_ (by show its.length ≤ _; omega))
  refine wpAny_bind (wpAny_newList ?_ (Nat.zero_le _))
  refine wpAny_holding ?_
  have hkS : ((hc.update a (Obj.mapSeq fun _ => (#[] : Array Value))).push (seqObj "tuple" its.toArray 0)).objs.size = hc.objs.size + 1 := by rw [PyProof.Rows.size_push', Heap.size_update]
  have hkS0 : (((hc.update a (Obj.mapSeq fun _ => (#[] : Array Value))).push (seqObj "tuple" its.toArray 0)).push (seqObj "list" #[] 0)).get? ((hc.update a (Obj.mapSeq fun _ => (#[] : Array Value))).push (seqObj "tuple" its.toArray 0)).objs.size = some (seqObj "list" #[] 0) := Heap.get?_push_size _ rfl
  have hka : ((hc.update a (Obj.mapSeq fun _ => (#[] : Array Value))).push (seqObj "tuple" its.toArray 0)).objs.size ≠ a := by rw [hkS]; exact Nat.ne_of_gt (Nat.lt_succ_of_lt ha)
  have hksz : s.heap.objs.size ≤ ((hc.update a (Obj.mapSeq fun _ => (#[] : Array Value))).push (seqObj "tuple" its.toArray 0)).objs.size := by rw [hkS]; omega
  have hold2 : ∀ b o, b < s.heap.objs.size → s.heap.get? b = some o → (((hc.update a (Obj.mapSeq fun _ => (#[] : Array Value))).push (seqObj "tuple" its.toArray 0)).push (seqObj "list" #[] 0)).get? b = some o := fun b o hb e =>
    PySem.W.sortingHeap_old (vs := its) (Nat.ne_of_lt (Nat.lt_trans hb hage)) (hold b o e)
  have ho2 : (((hc.update a (Obj.mapSeq fun _ => (#[] : Array Value))).push (seqObj "tuple" its.toArray 0)).push (seqObj "list" #[] 0)).get? a = some (seqObj "list" #[] e1) := Heap.get?_push_of_some _ (Heap.get?_push_of_some _ ho1)
  show wpAny _ _ (PyProof.Rows.ksk_rest a (.ref f) false its.toArray e1 (.ref ((hc.update a (Obj.mapSeq fun _ => (#[] : Array Value))).push (seqObj "tuple" its.toArray 0)).objs.size)) _ _ { s with heap := (((hc.update a (Obj.mapSeq fun _ => (#[] : Array Value))).push (seqObj "tuple" its.toArray 0)).push (seqObj "list" #[] 0)) }
  revert hkS0 hka hksz hold2 ho2
  generalize ((hc.update a (Obj.mapSeq fun _ => (#[] : Array Value))).push (seqObj "tuple" its.toArray 0)).objs.size = kS
  generalize (((hc.update a (Obj.mapSeq fun _ => (#[] : Array Value))).push (seqObj "tuple" its.toArray 0)).push (seqObj "list" #[] 0)) = h0
  intro hkS0 hka hksz hold2 ho2
  have hold2' : ∀ b o, b < s.heap.objs.size → s.heap.get? b = some o → h0.get? b = some o := fun b o hb e => hold2 b o hb e
  have nH : ∀ {b : Addr}, s.heap.objs.size ≤ b → H b = none := fun hb => I.hok.fresh hb
  have fsz : ∀ b ∈ frs X.stack, b < s.heap.objs.size := fun b hb => by
    rcases List.mem_cons.mp (I.stkSub b hb) with e | e
    · rw [e]; exact I.lt
    · exact Nat.lt_of_not_le fun q => I.nofs q e
  have nfr : ∀ {b : Addr}, s.heap.objs.size ≤ b → b ∉ frs X.stack := fun hb q => Nat.not_lt.mpr hb (fsz _ q)
  unfold PyProof.Rows.ksk_rest
  refine wpAny_bind (wpAny_rule ?_)
  first
    | rw [List.forIn_toArray]
    | (rw [← Array.forIn_toList]; simp only [List.toList_toArray])
    | rw [← Array.forIn_toList]
  refine wpAny_bind (PyProof.Rows.ksk_fold (fun i s' => KSt X H s a kS e1 (fun ks H' => ks.length = i ∧ T ks H') s') its 0 { s with heap := h0 } ?start ?step ?done)
  case start =>
    refine ⟨H, [], [], 0, rfl, I.bare, Un.but Un.refl hold2', HOk.but I.hok fun b u hb e => hold2' b u (Heap.lt_size e) e, hkS0, .nil, ho2, nH (Nat.le_of_lt hage), nH hksz, rfl, t0⟩
  case step =>
    rintro j x s' hx ⟨H', ks, kA, e, os, ag, un, hok, hk, rk, hna, n1, n2, hj, ht⟩
    simp only [Nat.zero_add] at hj ⊢
    obtain ⟨xv, ex, rx⟩ : ∃ xv, xs[j]? = some xv ∧ RelV xv x := by
      have hj' : j < xs.length := by rw [← hlen]; exact (List.getElem?_eq_some_iff.mp hx).1
      obtain ⟨u, e1, e2⟩ := rv.get (List.getElem?_eq_getElem hj')
      rw [hx] at e1
      cases e1
      exact ⟨_, List.getElem?_eq_getElem hj', e2⟩
    have Ij : Inv X pins σ H' s' := I.call' (ch := []) os un hok ag (fun b z => absurd z (by simp))
    have sp' := turn j xv ks H' ex hj ht
    have hl1 : ([x] : List Value).length = ps.length := by
      have := F.len _ _ _ _ sp'
      simpa using this
    have kz : kA.length ≤ its.length := by
      have h1 := rk.length
      have h2 := (List.getElem?_eq_some_iff.mp hx).1
      omega
    refine wpAny_bind (wpAny_attempt (wpAny_mono (Q := fun u s'' => CE X.stack X.prog X.w H' s' (fun k H'' => T (ks ++ [k]) H'') u s'') (E := fun _ _ => False) (wpAny_call (codeAny_mono (F.run X.A.in1.in1 X.stack s' H' ⟨[x], []⟩ [x] [xv] _ _ hr2 Ij.env0.in1.in1 (by have := hb s' [x] Ij.kIn (by simpa using hl1); simpa using this) (.cons rx .nil) sp') fun r s'' hq => ?_)) (fun v s'' he => ?_) fun _ _ z => z.elim))
    · cases r with
      | error e =>
        obtain ⟨_, _, _, _, _, _, _, _, _, _, _, _, z⟩ := hq
        exact z.elim
      | ok fl =>
        cases fl with
        | ret u => exact hq
        | next => exact False.elim hq
        | brk => exact False.elim hq
        | cont => exact False.elim hq
    obtain ⟨kv, H'', os', ag', un', hok', rk', t'⟩ := he
    have n1' : H'' a = none := un'.free a _ hna n1 (by simp)
    have n2' : H'' kS = none := un'.free kS _ hk n2 (by simp)
    have hk' : s''.heap.get? kS = some (seqObj "list" kA.toArray e) := un'.keep kS _ hk n2 (nfr hksz) (by simp)
    have hna' : s''.heap.get? a = some (seqObj "list" #[] e1) := un'.keep a _ hna n1 (nfr (Nat.le_of_lt hage)) (by simp)
    have sb := Heap.SameBut.update s''.heap kS (Obj.mapSeq (·.push v))
    obtain ⟨c2, hc2⟩ : ∃ c2, (s''.heap.update kS (Obj.mapSeq (·.push v))).get? kS = some (seqObj "list" (kA.toArray.push v) c2) := ⟨_, PyProof.Rows.get?_update_seq hk' (·.push v)⟩
    refine wpAny_bind (PyProof.Rows.listUpdate_at hk' rfl ?_ (by rw [List.size_toArray]; omega) (by rw [Array.size_push, List.size_toArray]; omega))
    refine wpAny_pure ⟨rfl, H'', ks ++ [kv], kA ++ [v], c2, os'.trans os, ag', Un.but (un.trans un') fun b o hb e => (sb.2 b fun q => Nat.not_lt.mpr hksz (q ▸ hb)).trans e, HOk.but hok' fun b u hb e => (sb.2 b fun q => hb (q ▸ n2')).trans e, by simpa using hc2, rk.append (.cons rk' .nil), (sb.2 a (Ne.symm hka)).trans hna', n1', n2', by simp [hj], t'⟩
  case done =>
    rintro s' ⟨H', ks, kA, e, os, ag, un, hok, hk, rk, hna, n1, n2, hj, ht⟩
    simp only [Nat.zero_add] at hj
    obtain ⟨kz, hkl, hdp, hal, hsk, hdep, q⟩ := fin ks H' (by omega) ht
    have Ij : Inv X pins σ H' s' := I.call' (ch := []) os un hok ag (fun b z => absurd z (by simp))
    have hkA : kA.length = its.length := by have := rk.length; omega
    refine wpAny_bind (PyProof.Rows.listItems_at hk rfl ?_)
    obtain ⟨G, g1, g2⟩ := restrict s'.heap fun b => decide (b ≠ kS)
    have hkr : EachIs (fun v d => ∃ as, Reads s'.heap v d as) kA (kz.map (·.py)) := by
      have e1 := each_pairs (ds := kz) rk (by omega)
      have e2 := each_reads Ij e1 hdp
      have e3 := PySem.W.each_map (R := fun v d => ∃ as, Reads s'.heap v d as) (fun b : V × D => b.2.py) e2
      have e4 : (ks.zip kz).map (fun b : V × D => b.2.py) = kz.map (·.py) := by
        rw [show (fun b : V × D => b.2.py) = (fun d : D => d.py) ∘ Prod.snd from rfl, ← List.map_map, List.map_snd_zip (by omega)]
      rwa [e4] at e3
    refine PySem.W.keyH_end (κ := PySem.W.dataKind s'.heap (kz.map (·.py))) (h₁ := G) (s := s') (b := false) (vs := its) ?_ (g2 kS (by simp)) hk hna hka (PySem.W.SortsAt.data (s := s') (by simpa using hkr) hal hsk (fun d hd => ?_)) (by rw [List.size_toArray]; exact hkA) (by omega) fun h' tk c kp na' => ?_
    · intro b o hb e
      by_cases q : b = kS
      · subst q
        rw [g2 b (by simp)] at e; cases e
      · rw [g1 b (by simp [q])] at e
        exact e
    · obtain ⟨d', hd', rfl⟩ := List.mem_map.mp hd
      have := hdep d' hd'
      omega
    · refine ⟨rfl, ?_⟩
      -- what comes out
      have kept : ∀ b o, b ≠ a → b ≠ kS → s'.heap.get? b = some o → h'.get? b = some o := fun b o hb hk' e => kp b o hb (by rw [g1 b (by simp [hk'])]; exact e)
      have ep : EachIs RPair its (xs.zip kz) := each_pairs rv (by omega)
      have er : EachIs RPair (PySem.W.sortVals (PySem.W.dataKind s'.heap (kz.map (·.py))) false kA its) ((xs.zip kz).mergeSort (dataLe false fun b : V × D => b.2.py)) := by
        have e4 : (xs.zip kz).map (fun b : V × D => b.2.py) = kz.map (·.py) := by
          rw [show (fun b : V × D => b.2.py) = (fun d : D => d.py) ∘ Prod.snd from rfl, ← List.map_map, List.map_snd_zip (by omega)]
        exact PySem.W.keyedOut_each (fun b : V × D => b.2.py) ⟨s'.heap, kA, by rw [e4]; exact hal, by rw [e4], by rw [e4]; exact hkr⟩ ep
      have hz3 : (((xs.zip kz).mergeSort (dataLe false fun b : V × D => b.2.py)).map (·.1)).length ≤ sizeLine := by
        rw [List.length_map, List.length_mergeSort, List.length_zip]
        omega
      have ok2 : HOk X.prog X.w H' h' := HOk.but hok fun b u hb e => kept b u (fun q => hb (q ▸ n1)) (fun q => hb (q ▸ n2)) e
      have un2 : Un (frs X.stack) [] H H' s.heap h' := Un.but un fun b o hb e => kept b o (fun q => Nat.lt_irrefl _ (Nat.lt_trans (q ▸ hb) hage)) (fun q => Nat.not_lt.mpr hksz (q ▸ hb)) e
      exact ⟨.ref a, upd H' a (.lst (((xs.zip kz).mergeSort (dataLe false fun b : V × D => b.2.py)).map (·.1))), I.call' (s' := { s' with heap := h', toks := tk }) (ch := []) os (Un.own un2 (Nat.le_of_lt hage) n1) (HOk.own' ok2 n1 ⟨hz3, _, c, pairs_vals er, na'⟩) ag (fun b z => absurd z (by simp)), rfl, q a n1⟩
theorem cr_sortK {k : Nat} {f : Addr} {fd : FuncData} {ps : List Str} {sp : Sp} (F : FnOk X.prog X.w X.K X.mg X.base (L2.CX X.prog X.w) k f fd ps sp) (hb : Binds X.K fd ps []) (hr : Room (k + 2) X.A) :
    CallRK X (.builtin "sorted") [Str.ofString "key"] (fun vs zs H Q => zs = [.ref f] ∧ rSortK X.K sp vs H Q) := by
  intro pins s σ H vs zs us ws Q I r rz h
  obtain ⟨rfl, h⟩ := h
  obtain ⟨w1, rfl, e1⟩ := vals1 rz
  obtain rfl : w1 = Value.ref f := e1
  exact sortKey_run F hb hr I r h
end
section
variable {X : Cx} {J : JS} {Wx : WX} {e : Expr} {es : List Expr} {t : TD} {pos p : Pos}
/-- data that sorts -/
def okSort (ds : List D) : Prop := D.pures ds = true ∧ AllAlike (ds.map (·.py)) ∧ Sortable (ds.map (·.py)) ∧ ∀ d ∈ ds, d.py.depth ≤ 64
def dLe (f : D → D) (x y : D) : Bool := dataLe false (fun d => (f d).py) x y
def fSort (xs : List Sd) (Q : Sd → Prop) : Prop := match xs with
  | [s] => (match s.dat with
    | .lst ys => okSort ys ∧ Q (.own (ys.mergeSort (dLe id)))
    | _ => False)
  | _ => False
theorem pures_mem : ∀ {ds : List D} {d : D}, D.pures ds = true → d ∈ ds → d.pure = true
  | d :: ds, e, h, he => by
    rw [D.pures, Bool.and_eq_true] at h
    rcases List.mem_cons.mp he with rfl | he
    · exact h.1
    · exact pures_mem h.2 he
theorem Dns.zip_mem {K : PySem.W.Frag} {W : Wd} : ∀ {vs : List V} {ds : List D} {b : V × D}, Dns K W vs ds → b ∈ vs.zip ds → Dn K W b.1 b.2
  | _, _, b, .nil, h => by simp at h
  | _, _, b, .cons h1 h2, h => by
    rw [List.zip_cons_cons] at h
    rcases List.mem_cons.mp h with rfl | h
    · exact h1
    · exact Dns.zip_mem h2 h
theorem Dns.of_pairs {K : PySem.W.Frag} {W : Wd} : ∀ {bs : List (V × D)}, (∀ b ∈ bs, Dn K W b.1 b.2) → Dns K W (bs.map (·.1)) (bs.map (·.2))
  | [], _ => .nil
  | b :: bs, h => .cons (h b List.mem_cons_self) (Dns.of_pairs fun b hb => h b (List.mem_cons_of_mem _ hb))
theorem sort_pairs {K : PySem.W.Frag} {W : Wd} {us : List V} {ys : List D} {f : D → D} (r : Dns K W us ys) : Dns K W (((us.zip ys).mergeSort (fun a b => dLe f a.2 b.2)).map (·.1)) (ys.mergeSort (dLe f)) := by
  have e : ((us.zip ys).mergeSort (fun a b => dLe f a.2 b.2)).map (·.2) = ys.mergeSort (dLe f) := by
    rw [List.map_mergeSort (s := dLe f) (fun a _ b _ => rfl), List.map_snd_zip (by rw [r.length]; exact Nat.le_refl _)]
  rw [← e]
  exact Dns.of_pairs fun b hb => r.zip_mem ((List.mergeSort_perm _ _).mem_iff.mp hb)
theorem sort_ok {K : PySem.W.Frag} : CallS K J (rSortD K) fSort := by
  intro W0 H0 Δ W σ H Hs Qd Q xs vs st r h lk
  unfold fSort at h
  split at h
  · cases r with
    | cons r1 r2 =>
      cases r2
      split at h
      · rename_i ys e
        obtain ⟨⟨hp, hal, hsk, hdp⟩, h⟩ := h
        obtain ⟨a, us, rfl, ha, ra⟩ := r1.isLst st.wok e
        have e2 : (us.zip ys).map (fun b : V × D => b.2.py) = ys.map (·.py) := by
          rw [show (fun b : V × D => b.2.py) = (fun d : D => d.py) ∘ Prod.snd from rfl, ← List.map_map, List.map_snd_zip (by rw [ra.length]; exact Nat.le_refl _)]
        refine ⟨a, us.zip ys, rfl, ?_, fun b hb => ?_, by rw [e2]; exact hal, by rw [e2]; exact hsk, fun b hb => hdp _ (List.of_mem_zip hb).2, ?_⟩
        · rw [List.map_fst_zip (by rw [ra.length]; exact Nat.le_refl _)]
          exact SqL.of ha
        · exact Dn.dp st.wok (ra.zip_mem hb) (pures_mem hp (List.of_mem_zip hb).2)
        · exact new_lst st (sort_pairs (f := id) ra) h lk
      · exact h.elim
  · exact h.elim
/-- sorted(xs, key=f) -/
def okKeys (ks : List D) : Prop := okSort ks
def sortKQ (r : SpecD) (Q : Sd → Prop) (s : Sd) : Prop := match s.dat with
  | .lst ys => ∃ kf : D → D, (∀ d ∈ ys, r [d] (fun s => s = .fro (kf d)) noE) ∧ okSort (ys.map kf) ∧ Q (.own (ys.mergeSort (dLe kf)))
  | _ => False
def dSortK (r : SpecD) (t : TD) : TD := fun Δ Q E => t Δ (sortKQ r Q) E
theorem de_sortK {k : Nat} {x : Str} {ps : List Str} {r : SpecD} {kp p2 : Pos} (F : FD X.prog X.w X.K X.mg X.base J k x ps r) (hr : Room (k + 2) X.A) (hg : Gl X "sorted") (hm : X.mg "sorted" = none) (hgx : Gl X x) (he : DE X J Wx e t) (hdb : (x == ("__debug__" : Str)) = false := by decide)
    (hs : backTo pos (starEach [e] X.env) = (false, eval e X.env) :: backTo pos (starEach [] X.env) := by rfl) (hpl : (backTo pos (starEach [e] X.env)).any (·.1) = false := by rfl)
    (hall : (backToKw pos (keywordEach [⟨some (Str.ofString "key"), .Name x p2, kp⟩] X.env)).all (·.1.isSome) = true := by rfl) (hnone : (backToKw pos (keywordEach [⟨some (Str.ofString "key"), .Name x p2, kp⟩] X.env)).any (·.1.isNone) = false := by rfl)
    (hks : (backToKw pos (keywordEach [⟨some (Str.ofString "key"), .Name x p2, kp⟩] X.env)).filterMap (·.1) = [Str.ofString "key"] := by rfl)
    (hst : starEach [e] X.env = (false, eval e X.env) :: starEach [] X.env := by rfl) :
    DE X J Wx (.Call (.Name "sorted" p) [e] [⟨some (Str.ofString "key"), .Name x p2, kp⟩] pos) (dSortK r t) := by
  obtain ⟨fd, hf, hb⟩ := F.ex
  have hpe : PE X (.Name x p2) (tC (.ref (He.ga X.K x))) := pe_glob hgx F.mg rfl hdb
  have h := pe_callBK (X := X) (x := "sorted") (p := p) (cr_sortK hf hb hr) hg hm rfl (pa_cons he pa_nil hst) (pk_cons (kpos := kp) (nm := some (Str.ofString "key")) hpe pk_nil) (by decide) (by decide) hs hpl hall hnone hks
  refine h.imp fun σ H Q ⟨W0, H0, Δ, W, Qd, Xd, st, ht, lk, lx⟩ => ?_
  refine ⟨W0, H0, Δ, W, _, _, st, ht, fun s v W1 H1 q st1 y1 r1 => ?_, lx⟩
  unfold sortKQ at q
  split at q
  · rename_i ys es
    obtain ⟨kf, hk, ⟨hp, hal, hsk, hdp⟩, q⟩ := q
    obtain ⟨a, us, rfl, ha, ra⟩ := r1.isLst st1.wok es
    have hlen := ra.length
    refine ⟨rfl, a, us, fun ks H' => ∃ W', WOk J W' H' ∧ Stp W1 H1 W' H' ∧ Dns X.K W' ks ((ys.take ks.length).map kf), rfl, SqL.of ha, ⟨W1, st1.wok, .refl W1 H1, .nil⟩, ?_, ?_⟩
    · rintro i u ks H' hu hi ⟨W', w', y', rk⟩
      obtain ⟨d, ed, rd⟩ := ra.getV hu
      refine ⟨W', [d], _, _, w', .cons (rd.mono y'.le) .nil, hk d (List.mem_of_getElem? ed), fun s v W2 H2 es2 w2 y2 rr => ?_, fun e c d' W2 H2 z => z.elim⟩
      subst es2
      refine ⟨W2, w2, y'.trans y2 st1.wok w', ?_⟩
      rw [List.length_append, List.length_singleton, hi, List.take_add_one, ed, List.map_append]
      rw [hi] at rk
      exact (rk.mono y2.le).append (.cons rr .nil)
    · rintro ks H' hl ⟨W', w', y', rk⟩
      have e1 : (ys.take ks.length).map kf = ys.map kf := by rw [hl, hlen, List.take_length]
      rw [e1] at rk
      have e3 : (ys.map kf).map (·.py) = (ys.map kf).map (·.py) := rfl
      refine ⟨ys.map kf, by simp [hlen], fun b hb => Dn.dp w' (rk.zip_mem hb) (pures_mem hp (List.of_mem_zip hb).2), hal, hsk, hdp, fun p hn => ?_⟩
      have st2 := st1.stp y' w'
      have lk2 := lk.at st st2 (y1.trans y' st.wok st1.wok)
      have e4 : ((us.zip (ys.map kf)).mergeSort (dataLe false fun b : V × D => b.2.py)).map (·.1) = ((us.zip ys).mergeSort (fun a b => dLe kf a.2 b.2)).map (·.1) := by
        have e5 : us.zip (ys.map kf) = (us.zip ys).map (fun b => (b.1, kf b.2)) := by
          rw [List.zip_map_right]; rfl
        rw [e5, ← List.map_mergeSort (r := fun a b => dLe kf a.2 b.2) (fun a _ b _ => rfl), List.map_map]
        rfl
      rw [e4]
      exact new_lst st2 (sort_pairs (ra.mono y'.le)) q lk2 p hn
  · exact q.elim
end
end DL
set_option Elab.async false
set_option linter.all false
set_option maxRecDepth 100000
set_option maxHeartbeats 4000000
namespace DL
open PySem PySem.Spec PyProof.Rows L2
/-! ### defs that change their first argument, an instance of their own -/
def Hp.less (H : Hp) (a : Addr) : Hp := fun b => if b = a then none else H b
theorem less_at {H : Hp} {a : Addr} : Hp.less H a a = none := if_pos rfl
theorem less_ne {H : Hp} {a b : Addr} (h : b ≠ a) : Hp.less H a b = H b := if_neg h
/-- a step that may change the cell a -/
structure StpO (a : Addr) (W : Wd) (H : Hp) (W' : Wd) (H' : Hp) : Prop where
  le : W.le W'
  keep : ∀ b o, b ≠ a → H b = some o → ¬ W.has b → H' b = some o
  new : ∀ b, W'.has b → b ≠ a → W.has b ∨ H b = none
abbrev SpecO := List (Str × D) → List D → (List (Str × D) → Prop) → (ED → Prop) → Prop
def SpO (K : PySem.W.Frag) (J : JS) (C : Str) (r : SpecO) : Sp := fun vs H Q E => ∃ W a dx fv us fs ds Rd Xd, vs = .ref a :: us ∧ H a = some (.ins (He.ga K C) dx fv) ∧ ¬ W.has a ∧ DnF K W fv fs ∧ WOk J W H ∧ Dns K W us ds ∧ r fs ds Rd Xd ∧
  (∀ fs' dx' fv' W' H', Rd fs' → WOk J W' H' → StpO a W H W' H' → H' a = some (.ins (He.ga K C) dx' fv') → ¬ W'.has a → DnF K W' fv' fs' → Q .non H') ∧ (∀ e c d W' H', Xd e → WOk J W' H' → StpO a W H W' H' → ExR K W' H' e c d → E c d H')
def startO (N : List Str) (a : Addr) (C : Str) (fs : List (Str × D)) (ds : List D) : Dl := some (.owni a C fs) :: (ds.map (fun d => some (.fro d)) ++ List.replicate (N.length - (ds.length + 1)) none)
def insAt (i : Nat) (a : Addr) (C : Str) (Δ : Dl) (k : List (Str × D) → Prop) : Prop := match Δ[i]? with
  | some (some (.owni a' C' fs)) => (a' = a ∧ C' = C) ∧ k fs
  | _ => False
theorem insAt.ex {i : Nat} {a : Addr} {C : Str} {Δ : Dl} {k : List (Str × D) → Prop} (h : insAt i a C Δ k) : ∃ fs, Δ[i]? = some (some (.owni a C fs)) ∧ k fs := by
  unfold insAt at h
  split at h
  · obtain ⟨⟨rfl, rfl⟩, h⟩ := h
    exact ⟨_, by assumption, h⟩
  · exact h.elim
def bodyO (N : List Str) (a : Addr) (C : Str) (t : TDS) : SpecO := fun fs ds R E => t { nx := fun Δ => insAt 0 a C Δ R, rt := fun _ => False, ex := fun e _ => E e } (startO N a C fs ds)
section
variable {K : PySem.W.Frag} {J : JS} {W0 W : Wd} {H0 H : Hp} {Δ : Dl} {σ : L2.St} {i : Nat}
/-- slot 0 holds the instance; the instance's dict is its own -/
theorem startO_ok {C : Str} {a dx : Addr} {fv : List (Str × V)} {fs : List (Str × D)} {us : List V} {ds : List D} {N : List Str} (w : WOk J W H) (ha : H a = some (.ins (He.ga K C) dx fv)) (n : ¬ W.has a) (rf : DnF K W fv fs) (r : Dns K W us ds) :
    Stt K J W (Hp.less H a) (startO N a C fs ds) W (L2.start N (.ref a :: us)) H where
  len := by unfold startO L2.start; simp [r.length]
  wok := w
  ext := .refl W
  new := fun b h => .inl h
  frm := fun b o h _ => by
    have hb : b ≠ a := fun e => by subst e; rw [less_at] at h; cases h
    rw [less_ne hb] at h; exact h
  dom := fun b h => by
    have hb : b ≠ a := fun e => by subst e; exact h less_at
    rw [less_ne hb] at h; exact h
  slot := fun i s h => by
    cases i with
    | zero =>
      have e : some (Sd.owni a C fs) = some s := Option.some.inj h
      cases e
      exact ⟨.ref a, rfl, (dx, fv), rfl, ha, n, rf⟩
    | succ i =>
      have h' : (ds.map (fun d => some (Sd.fro d)) ++ List.replicate (N.length - (ds.length + 1)) none)[i]? = some (some s) := h
      by_cases hi : i < ds.length
      · rw [List.getElem?_append_left (by simpa using hi), List.getElem?_map] at h'
        cases e : ds[i]? with
        | none => rw [e] at h'; cases h'
        | some d =>
          rw [e] at h'
          cases h'
          obtain ⟨v, ev, rv⟩ := r.get e
          refine ⟨v, ?_, rv⟩
          unfold L2.start
          rw [List.map_cons, List.cons_append, List.getElem?_cons_succ, List.getElem?_append_left (by rw [List.length_map, r.length]; exact hi), List.getElem?_map, ev]
          rfl
      · rw [List.getElem?_append_right (by simp; omega), List.getElem?_replicate] at h'
        split at h' <;> cases h'
  own := fun i s v h hm hv => by
    cases i with
    | zero =>
      have e : some (V.ref a) = some v := Option.some.inj hv
      cases e
      exact fun b eb => by cases eb; exact less_at
    | succ i =>
      have h' : (ds.map (fun d => some (Sd.fro d)) ++ List.replicate (N.length - (ds.length + 1)) none)[i]? = some (some s) := h
      by_cases hi : i < ds.length
      · rw [List.getElem?_append_left (by simpa using hi), List.getElem?_map] at h'
        cases e : ds[i]? with
        | none => rw [e] at h'; cases h'
        | some d => rw [e] at h'; cases h'; cases hm
      · rw [List.getElem?_append_right (by simp; omega), List.getElem?_replicate] at h'
        split at h' <;> cases h'
  sep := fun i j s t v hij h1 h2 m1 m2 _ => by
    have at0 : ∀ (k : Nat) s, (startO N a C fs ds)[k]? = some (some s) → s.mine = true → k = 0 := fun k s h hm => by
      cases k with
      | zero => rfl
      | succ i =>
        have h' : (ds.map (fun d => some (Sd.fro d)) ++ List.replicate (N.length - (ds.length + 1)) none)[i]? = some (some s) := h
        by_cases hi : i < ds.length
        · rw [List.getElem?_append_left (by simpa using hi), List.getElem?_map] at h'
          cases e : ds[i]? with
          | none => rw [e] at h'; cases h'
          | some d => rw [e] at h'; cases h'; cases hm
        · rw [List.getElem?_append_right (by simp; omega), List.getElem?_replicate] at h'
          split at h' <;> cases h'
    exact absurd ((at0 i s h1 m1).trans (at0 j t h2 m2).symm) hij
end
section
variable {P : Program} {w : World} {K : PySem.W.Frag} {mg : Str → Option Value} {base : Heap} {J : JS}
theorem stpO_of {a : Addr} {W : Wd} {H : Hp} {Δ : Dl} {W' : Wd} {σ' : L2.St} {H' : Hp} (st : Stt K J W (Hp.less H a) Δ W' σ' H') : StpO a W H W' H' where
  le := st.ext
  keep := fun b o hb e nb => st.frm b o (by rw [less_ne hb]; exact e) nb
  new := fun b h hb => by
    rcases st.new b h with q | q
    · exact .inl q
    · rw [less_ne hb] at q; exact .inr q
theorem fn_O {x qual : Str} {params : Arguments} {body : List Stmt} {scope : Scope} {dvs : List V} {kws : List (Str × V)} {f : Addr} {fd : FuncData} {N ps : List Str} {k : Nat} {C : Str} {r : SpecO} {t : TDS} (F : FunD K x qual params body scope dvs kws f fd) (S : FnScope N ps scope)
    (hlen : ∀ fs ds R E, r fs ds R E → ds.length + 1 = ps.length)
    (hb : ∀ (cdv : Value) (A : Around) (outer : List Env) (s : Shared) (H : Hp) (E : XK), Room k (A.deeper (envOfC qual scope s.heap.objs.size f cdv)) →
      DSs (cxOf (L2.CX P w) P w K mg base N qual scope f cdv A outer s H E) J (WxE E) body t)
    (ht : ∀ a fs ds R E, r fs ds R E → bodyO N a C t fs ds R E) : FnOk P w K mg base (L2.CX P w) (k + 1) f fd ps (SpO K J C r) := by
  refine F.ok S (fun vs H Q E h => ?_) (fun cdv A outer s H vs Q E hr h => ?_)
  · obtain ⟨W, a, dx, fv, us, fs, ds, Rd, Xd, rfl, _, _, _, _, hv, h, _⟩ := h
    rw [List.length_cons, hv.length]
    exact hlen _ _ _ _ h
  · obtain ⟨W, a, dx, fv, us, fs, ds, Rd, Xd, rfl, ha, n, rf, w, hv, h, hq, he⟩ := h
    refine ⟨_, hb cdv A outer s H E hr, W, Hp.less H a, startO N a C fs ds, W, _, startO_ok w ha n rf hv, ht a fs ds Rd Xd h, ?_⟩
    exact {
      nx := fun Δ W' σ H' q st _ => by
        obtain ⟨fs', hi, q⟩ := q.ex
        obtain ⟨v, ev, vs, rfl, h1, h2, h3⟩ := st.slot 0 _ hi
        exact hq fs' vs.1 vs.2 W' H' q st.wok (stpO_of st) h1 h2 h3
      bk := fun Δ W' σ H' q _ _ => q.elim
      ct := fun Δ W' σ H' q _ _ => q.elim
      rt := fun s v Δ W' σ H' q st _ rr => q.elim
      ex := fun e c d Δ W' σ H' q st _ rr => he e c d W' H' q st.wok (stpO_of st) rr }
end
/-! ### self.f = e -/
def putFD (f : Str) (d : D) : List (Str × D) → List (Str × D)
  | [] => [(f, d)]
  | (g, e) :: r => if g = f then (g, d) :: r else (g, e) :: putFD f d r
theorem DnF.put {K : PySem.W.Frag} {W : Wd} {f : Str} {v : V} {d : D} (q : Dn K W v d) : ∀ {vs : List (Str × V)} {ds : List (Str × D)}, DnF K W vs ds → DnF K W (putF f v vs) (putFD f d ds)
  | _, _, .nil => .cons q .nil
  | _, _, .cons (k := g) (vs := vs) (ds := ds) h r => by
    unfold putF putFD
    by_cases e : g = f
    · first
        | rw [if_pos e, if_pos e]; exact .cons q r
        | (simp only [e, if_true, beq_self_eq_true]; exact .cons q r)
    · first
        | rw [if_neg e, if_neg e]; exact .cons h (DnF.put q r)
        | (simp only [e, if_false, beq_iff_eq, Bool.false_eq_true]; exact .cons h (DnF.put q r))
theorem DnF.length {K : PySem.W.Frag} {W : Wd} : ∀ {vs : List (Str × V)} {ds : List (Str × D)}, DnF K W vs ds → vs.length = ds.length
  | _, _, .nil => rfl
  | _, _, .cons _ r => congrArg (· + 1) (DnF.length r)
/-- slot i's instance becomes another -/
theorem Stt.owni_set {K : PySem.W.Frag} {J : JS} {W0 W : Wd} {H0 H : Hp} {Δ : Dl} {σ : L2.St} {i : Nat} {a dx dx' : Addr} {C : Str} {fs fs' : List (Str × D)} {vs vs' : List (Str × V)} (st : Stt K J W0 H0 Δ W σ H) (hi : Δ[i]? = some (some (.owni a C fs))) (hσ : σ[i]? = some (some (.ref a))) (n : ¬ W.has a) (r' : DnF K W vs' fs') :
    Stt K J W0 H0 (Δ.set i (some (.owni a C fs'))) W σ (upd H a (.ins (He.ga K C) dx' vs')) := st.wr (s' := .owni a C fs') (o := .ins (He.ga K C) dx vs) hi rfl hσ n rfl ⟨(dx', vs'), rfl, upd_same, n, r'⟩
/-- slot i's own instance -/
def owniAt (i : Nat) (C : Str) (Δ : Dl) (k : Addr → List (Str × D) → Prop) : Prop := match Δ[i]? with
  | some (some (.owni a C' fs)) => C' = C ∧ k a fs
  | _ => False
theorem owniAt.ex {i : Nat} {C : Str} {Δ : Dl} {k : Addr → List (Str × D) → Prop} (h : owniAt i C Δ k) : ∃ a fs, Δ[i]? = some (some (.owni a C fs)) ∧ k a fs := by
  unfold owniAt at h
  split at h
  · obtain ⟨rfl, h⟩ := h
    exact ⟨_, _, by assumption, h⟩
  · exact h.elim
section
variable {X : Cx} {J : JS} {Wx : WX} {e o : Expr} {es : List Expr} {pos pos' p apos : Pos} {t : TD} {tA : TDA} {i : Nat} {f m : Str}
def dFldSet (i : Nat) (C f : Str) (t : TD) : TDS := fun DD Δ => t Δ (fun s => sFrz s fun d => owniAt i C Δ fun a fs => fs.length < 1000 ∧ DD.nx (Δ.set i (some (.owni a C (putFD f d fs))))) (fun e => DD.ex e Δ)
theorem ds_fldSet {C : Str} (ho : PE X o (tVar i)) (he : DE X J Wx e t) (hC : Cls X.K (He.ga X.K C)) (hn : NoAttr X.K (He.ga X.K C) f) (hs : swapsWith e (some (.Attribute o f pos')) pos.line X.env = pure false := by rfl) :
    DS X J Wx (.Assign [.Attribute o f pos'] e pos) (dFldSet i C f t) := (ps_fld ho he hs).imp fun D σ H ⟨W0, H0, Δ, W, DD, st, ht, l⟩ => by
  refine ⟨W0, H0, Δ, W, _, _, st, ht, fun s v W1 H1 q st1 y1 r1 => ?_, l.lx⟩
  obtain ⟨d, W2, q2, _, st2, y2, r2⟩ := frz_ok st1 y1 st r1 q
  obtain ⟨a, fs, hi, hl, q3⟩ := q2.ex
  obtain ⟨dx, vs, e1, e2, e3, e4⟩ := st2.owni_at hi
  refine ⟨.ref a, e1, a, _, dx, vs, rfl, e2, hC, hn, by rw [e4.length]; exact hl, ?_⟩
  exact l.nx _ W2 σ _ q3 (st2.owni_set (dx := dx) (vs := vs) hi e1 e3 (e4.put r2)) y2.le
/-! ### self.m(..) that changes self -/
theorem Stt.afterO {K : PySem.W.Frag} {W0 W W' : Wd} {H0 H H' : Hp} {Δ : Dl} {σ : L2.St} {a dx' : Addr} {C : Str} {fs fs' : List (Str × D)} {vs' : List (Str × V)} (st : Stt K J W0 H0 Δ W σ H) (hi : Δ[i]? = some (some (.owni a C fs))) (hσ : σ[i]? = some (some (.ref a))) (n : ¬ W.has a)
    (w : WOk J W' H') (y : StpO a W H W' H') (h' : H' a = some (.ins (He.ga K C) dx' vs')) (n' : ¬ W'.has a) (r' : DnF K W' vs' fs') : Stt K J W0 H0 (Δ.set i (some (.owni a C fs'))) W' σ H' := by
  have h0 : H0 a = none := st.own i _ _ hi rfl hσ a rfl
  have nh : ∀ b, ¬ W.has b → H b ≠ none → b ≠ a → ¬ W'.has b := fun b nb hb hne q => by
    rcases y.new b q hne with z | z
    · exact nb z
    · exact hb z
  have sl : ∀ (j : Nat) t v, j ≠ i → Δ[j]? = some (some t) → σ[j]? = some (some v) → RepS K W H v t → RepS K W' H' v t := fun j t v hj hΔ hv r => by
    have other : t.mine = true → ∀ b, v = .ref b → b ≠ a := fun hm b eb q => by
      subst q
      subst eb
      exact st.sep i j _ t (.ref b) (Ne.symm hj) hi hΔ rfl hm hσ hv
    cases t with
    | fro d => exact Dn.mono y.le r
    | own xs =>
      obtain ⟨b, vs, eb, hb, nb, rr⟩ := r
      exact ⟨b, vs, eb, y.keep b _ (other rfl b eb) hb nb, nh b nb (by rw [hb]; simp) (other rfl b eb), rr.mono y.le⟩
    | ownd xs =>
      obtain ⟨b, vs, eb, hb, nb, rr⟩ := r
      exact ⟨b, vs, eb, y.keep b _ (other rfl b eb) hb nb, nh b nb (by rw [hb]; simp) (other rfl b eb), rr.mono y.le⟩
    | owni a2 C2 xs =>
      obtain ⟨vs, eb, hb, nb, rr⟩ := r
      exact ⟨vs, eb, y.keep a2 _ (other rfl a2 eb) hb nb, nh a2 nb (by rw [hb]; simp) (other rfl a2 eb), rr.mono y.le⟩
    | brw _ => exact r.elim
    | brwd _ => exact r.elim
    | brwi _ _ _ => exact r.elim
  exact {
    len := by simp [st.len]
    wok := w
    ext := st.ext.trans y.le
    new := fun b h => by
      by_cases hb : b = a
      · subst hb; exact absurd h n'
      · rcases y.new b h hb with q | q
        · exact st.new b q
        · exact .inr (st.back0 b q)
    frm := fun b o e nb => by
      have hb : b ≠ a := fun q => by subst q; rw [h0] at e; cases e
      refine y.keep b o hb (st.frm b o e nb) fun q => ?_
      rcases st.new b q with z | z
      · exact nb z
      · rw [z] at e; cases e
    dom := fun b h => by
      by_cases hb : b = a
      · subst hb; exact absurd h0 h
      · cases e : H b with
        | none => exact absurd e (st.dom b h)
        | some o =>
          by_cases hw : W.has b
          · obtain ⟨o', e'⟩ := w.there (y.le.has hw)
            rw [e']; simp
          · rw [y.keep b o hb e hw]; simp
    slot := fun j t h => by
      rcases set_at h with ⟨e, q⟩ | ⟨e, q⟩
      · subst e
        cases q
        exact ⟨.ref a, hσ, (dx', vs'), rfl, h', n', r'⟩
      · obtain ⟨v, ev, rv⟩ := st.slot j t q
        exact ⟨v, ev, sl j t v (Ne.symm e) q ev rv⟩
    own := fun j t v h hm hv => by
      rcases set_at h with ⟨e, q⟩ | ⟨e, q⟩
      · subst e
        cases q
        rw [hσ] at hv; cases hv
        exact fun b eb => by cases eb; exact h0
      · exact st.own j t v q hm hv
    sep := fun j k t u v hjk h1 h2 m1 m2 h3 h4 => by
      rcases set_at h1 with ⟨e1, q1⟩ | ⟨e1, q1⟩
      · subst e1
        rcases set_at h2 with ⟨e2, q2⟩ | ⟨e2, q2⟩
        · exact hjk e2
        · exact st.sep i k _ u v hjk hi q2 rfl m2 h3 h4
      · rcases set_at h2 with ⟨e2, q2⟩ | ⟨e2, q2⟩
        · subst e2
          exact st.sep j i t _ v hjk q1 hi m1 rfl h3 h4
        · exact st.sep j k t u v hjk q1 q2 m1 m2 h3 h4 }
/-- what is known of a method that changes its own instance -/
structure FM (P : Program) (w : World) (K : PySem.W.Frag) (mg : Str → Option Value) (base : Heap) (J : JS) (k : Nat) (C m : Str) (ps : List Str) (r : SpecO) : Prop where
  cl : Cls K (He.ga K C)
  ex : ∃ f fd, FnOk P w K mg base (L2.CX P w) k f fd ps (SpO K J C r) ∧ Binds K fd ps [] ∧ Meth K (He.ga K C) m f
theorem FM.mono {P : Program} {w : World} {K : PySem.W.Frag} {mg : Str → Option Value} {base : Heap} {j k : Nat} {C m : Str} {ps : List Str} {r : SpecO} (F : FM P w K mg base J j C m ps r) (h : j ≤ k) : FM P w K mg base J k C m ps r :=
  ⟨F.cl, by obtain ⟨f, fd, a, b, c⟩ := F.ex; exact ⟨f, fd, a.mono h, b, c⟩⟩
theorem passF {X : Cx} : Passes (L2.CX X.prog X.w) X (fun _ _ _ => False) := fun pins σ H s e s' I hq => by
  obtain ⟨_, _, _, _, _, _, _, _, _, _, _, _, z⟩ := hq
  exact z.elim
def dCallO (i : Nat) (C m : Str) (r : SpecO) (t : TDA) : TDS := fun DD Δ => owniAt i C Δ fun a fs => fs.lookup m = none ∧ t Δ (fun ds => r fs ds (fun fs' => DD.nx (Δ.set i (some (.owni a C fs')))) noE) (fun e => DD.ex e Δ)
theorem ds_callO {k : Nat} {C : Str} {ps : List Str} {r : SpecO} {pl : Sem Bool} (F : FM X.prog X.w X.K X.mg X.base J k C m ps r) (hr : Room k X.A) (ho : PE X o (tVar i)) (ha : DA X J Wx (e :: es) tA)
    (hst : starEach (e :: es) X.env = (false, eval e X.env) :: starEach es X.env := by rfl) (hpl : (backTo p (starEach es X.env)).any (·.1) = false := by rfl)
    (ht : eval (.Call (.Attribute o m apos) (e :: es) [] p) X.env = (do
      let ov ← eval o X.env
      standAt apos.atName
      let (f, first) ← holding [ov] (getMethod ov m pl)
      callWith p f first (backTo p (starEach (e :: es) X.env)) (backToKw p (keywordEach [] X.env))) := by rfl)
    (hsw : swapsWith (.Call (.Attribute o m apos) (e :: es) [] p) none pos.line X.env = pure false := by rfl) : DS X J Wx (.Expr (.Call (.Attribute o m apos) (e :: es) [] p) pos) (dCallO i C m r tA) := by
  obtain ⟨f, fd, hf, hb, hm⟩ := F.ex
  refine (ps_expr (pe_meth (pl := pl) (dvs := []) (CX := L2.CX X.prog X.w) (E := fun _ _ _ => False) ho F.cl hm hf hr hb .nil passF ha hst hpl ht) hsw).imp fun D σ H ⟨W0, H0, Δ, W, DD, st, ht, l⟩ => ?_
  obtain ⟨a, fs, hi, hlk, ht⟩ := ht.ex
  obtain ⟨dx, vs, e1, e2, e3, e4⟩ := st.owni_at hi
  refine ⟨_, e1, a, dx, vs, rfl, e2, e4.none hlk, W0, H0, Δ, W, _, _, st, ht, fun ds us W1 H1 q st1 y1 r1 => ?_, l.lx⟩
  show SpO X.K J C r (V.ref a :: (us ++ [])) H1 _ _
  rw [List.append_nil]
  refine ⟨W1, a, dx, vs, us, fs, ds, _, _, rfl, y1.keep a _ e2 e3, y1.nothas e2 e3, e4.mono y1.le, st1.wok, r1, q, fun fs' dx' fv' W' H' q' w' y' h' n' rf' => ?_, fun e c d W' H' z => z.elim⟩
  exact l.nx _ W' σ H' q' (st1.afterO hi e1 (y1.nothas e2 e3) w' y' h' n' rf') (y1.le.trans y'.le)
/-! ### C(..) -/
structure FC (P : Program) (w : World) (K : PySem.W.Frag) (mg : Str → Option Value) (base : Heap) (J : JS) (k : Nat) (C : Str) (ps : List Str) (r : SpecO) : Prop where
  ex : ∃ f fd, FnOk P w K mg base (L2.CX P w) k f fd ps (SpO K J C r) ∧ Binds K fd ps [] ∧ Mk K (He.ga K C) f
  mg : mg C = some (.ref (He.ga K C))
theorem FC.mono {P : Program} {w : World} {K : PySem.W.Frag} {mg : Str → Option Value} {base : Heap} {j k : Nat} {C : Str} {ps : List Str} {r : SpecO} (F : FC P w K mg base J j C ps r) (h : j ≤ k) : FC P w K mg base J k C ps r :=
  ⟨by obtain ⟨f, fd, a, b, c⟩ := F.ex; exact ⟨f, fd, a.mono h, b, c⟩, F.mg⟩
def tMakeS (C : Addr) (sp : Sp) (E : L2.St → XK) (t : TA) : TE := fun σ H Q => t σ H fun vs H1 => ∀ x dx, H1 x = none → H1 dx = none → dx ≠ x →
  sp (.ref x :: vs) (upd (upd H1 dx (.own x)) x (.ins C dx [])) (fun v H2 => v = .non ∧ Q (.ref x) H2) (E σ)
theorem pe_makeS {CX : CXT} {k : Nat} {f C : Addr} {fd : FuncData} {ps : List Str} {sp : Sp} {E : L2.St → XK} {x : Str} {t : TA} (M : Mk X.K C f) (F : FnOk X.prog X.w X.K X.mg X.base CX k f fd ps sp) (hr : Room (k + 1) X.A) (hg : Gl X x) (hm : X.mg x = some (.ref C)) (hb : Binds X.K fd ps [])
    (hx : ∀ σ, PassesAt CX X σ (E σ)) (ha : PA X (e :: es) t) (hdb : (x == ("__debug__" : Str)) = false := by decide) (he : starEach (e :: es) X.env = (false, eval e X.env) :: starEach es X.env := by rfl) (hpl : (backTo pos (starEach es X.env)).any (·.1) = false := by rfl) :
    PE X (.Call (.Name x p) (e :: es) [] pos) (tMakeS C sp E t) := by
  refine ⟨fun pins s σ H Q I h => ?_⟩
  refine wpAny_Call_Name_kw (ld_glob I hg hm ?_ hdb)
  refine PySem.W.callWith_K (h₀ := X.base) I.ok.mod.kin M.kp (thn (ha.run pos pins s σ H _ I h) fun us s1 ⟨vs, H1, I1, r, q⟩ => ⟨I1.kIn, ?_⟩) he hpl
  have hq := q (s1.heap.objs.size + 1) s1.heap.objs.size (I1.hok.fresh (Nat.le_succ _)) (I1.hok.fresh (Nat.le_refl _)) (Nat.ne_of_lt (Nat.lt_succ_self _))
  have I2 := Inv.made (C := C) I1
  have r2 : Vals (V.ref (s1.heap.objs.size + 1) :: vs) (Value.ref (s1.heap.objs.size + 1) :: us) := .cons rfl r
  have hl : (Value.ref (s1.heap.objs.size + 1) :: us).length = ps.length := r2.length.symm.trans (F.len _ _ _ _ hq)
  refine wpAny_call (make_map (f := f) I1.kIn M.makes M.init (beq_iff_eq.mp M.fn) (codeAny_mono (F.run _ X.stack _ _ ⟨Value.ref (s1.heap.objs.size + 1) :: us, []⟩ (Value.ref (s1.heap.objs.size + 1) :: us) _ _ (E σ) (hr.make C us [])
    (I2.env0.make C us []) (by have := hb _ (Value.ref (s1.heap.objs.size + 1) :: us) I2.kIn (by simpa using hl); simpa using this) r2 hq) fun r s' z => ?_))
  cases r with
  | error u => exact hx σ pins _ _ u s' I2 z
  | ok fl =>
    cases fl with
    | ret u =>
      obtain ⟨v, H', I3, rv, ev, q3⟩ := I2.after z
      subst ev
      exact ⟨rv, ⟨V.ref (s1.heap.objs.size + 1), H', I3, rfl, q3⟩⟩
    | next => exact False.elim z
    | brk => exact False.elim z
    | cont => exact False.elim z
/-- a new instance, data from there on -/
def dMake (C : Str) (r : SpecO) (t : TDA) : TD := fun Δ Q E => t Δ (fun ds => r [] ds (fun fs' => Q (.fro (.ins C fs'))) E) E
theorem de_make {k : Nat} {C : Str} {ps : List Str} {r : SpecO} (F : FC X.prog X.w X.K X.mg X.base J k C ps r) (hr : Room (k + 1) X.A) (hg : Gl X C) (tk : Takes X Wx) (ha : DA X J Wx (e :: es) tA)
    (hdb : (C == ("__debug__" : Str)) = false := by decide) (he : starEach (e :: es) X.env = (false, eval e X.env) :: starEach es X.env := by rfl) (hpl : (backTo pos (starEach es X.env)).any (·.1) = false := by rfl) :
    DE X J Wx (.Call (.Name C p) (e :: es) [] pos) (dMake C r tA) := by
  obtain ⟨f, fd, hf, hb, hm⟩ := F.ex
  refine (pe_makeS hm hf hr hg F.mg hb (fun σ => passAt tk σ) ha hdb he hpl).imp fun σ H Q ⟨W0, H0, Δ, W, Qd, Xd, st, ht, lk, lx⟩ => ?_
  refine ⟨W0, H0, Δ, W, _, _, st, ht, fun ds us W1 H1 q st1 y1 r1 x dx hx hdx hne => ?_, lx⟩
  have nx := st1.wok.fresh hx
  have hx' : upd H1 dx (.own x) x = none := by rw [upd_ne (Ne.symm hne)]; exact hx
  have w1 : WOk J W1 (upd (upd H1 dx (.own x)) x (.ins (He.ga X.K C) dx [])) := (st1.wok.laid hdx).laid hx'
  have lk1 := lk.at st st1 y1
  have lx1 := lx.at st st1 y1
  have up : ∀ {W' : Wd} {H' : Hp}, StpO x W1 (upd (upd H1 dx (.own x)) x (.ins (He.ga X.K C) dx [])) W' H' → Stp W1 H1 W' H' := fun {W' H'} y => {
    le := y.le
    keep := fun b o hb nb => by
      have b1 : b ≠ x := fun z => by subst z; rw [hx] at hb; cases hb
      have b2 : b ≠ dx := fun z => by subst z; rw [hdx] at hb; cases hb
      exact y.keep b o b1 (by rw [upd_ne b1, upd_ne b2]; exact hb) nb
    new := fun b h => by
      by_cases b1 : b = x
      · subst b1; exact .inr hx
      · rcases y.new b h b1 with z | z
        · exact .inl z
        · rw [upd_ne b1] at z
          by_cases b2 : b = dx
          · subst b2; exact .inr hdx
          · rw [upd_ne b2] at z; exact .inr z }
  refine ⟨W1, x, dx, [], us, [], ds, _, _, rfl, upd_same, nx, .nil, w1, r1, q, fun fs' dx' fv' W' H' q' w' y' h' n' rf' => ⟨rfl, ?_⟩, fun e c d W' H' q' w' y' r' => lx1 e c d W' H' q' (st1.stp (up y') w') (up y') r'⟩
  -- the new instance comes into the world
  have st2 := st1.stp (up y') w'
  have w2 : WOk J (W'.add x (.ins (He.ga X.K C) dx' fv')) H' := w'.add n' h'
  have y2 : Stp W1 H1 (W'.add x (.ins (He.ga X.K C) dx' fv')) H' := {
    le := (up y').le.trans (Wd.le_add n')
    keep := (up y').keep
    new := fun b h => by
      rcases Wd.has_add h with z | z
      · exact (up y').new b z
      · subst z; exact .inr hx }
  exact lk1 _ (.ref x) (W'.add x (.ins (He.ga X.K C) dx' fv')) H' q' (st1.stp y2 w2) y2 (Dn.ins Wd.add_at (rf'.mono (Wd.le_add n')))
end
end DL
set_option Elab.async false
set_option linter.all false
set_option maxRecDepth 100000
set_option maxHeartbeats 4000000
namespace DL
open PySem PySem.Spec PyProof.Rows L2
/-! ### freezing what an expression gives -/
section
variable {X : Cx} {J : JS} {Wx : WX} {e : Expr} {t : TD}
def dFz (t : TD) : TD := fun Δ Q E => t Δ (fun s => sFrz s fun d => Q (.fro d)) E
theorem de_fz (h : DE X J Wx e t) : DE X J Wx e (dFz t) := h.imp fun σ H Q ⟨W0, H0, Δ, W, Qd, Xd, st, ht, lk, lx⟩ => by
  refine ⟨W0, H0, Δ, W, _, _, st, ht, fun s v W1 H1 q st1 y1 r1 => ?_, lx⟩
  obtain ⟨d, W2, q2, _, st2, y2, r2⟩ := frz_ok st1 y1 st r1 q
  exact lk _ v W2 H1 q2 st2 y2 r2
end
/-! ### == and != by a method of the text -/
section
variable {prog : Program} {w : World} {A : Around} {E : Value → Shared → Prop} {s : Shared} {K : PySem.W.Frag} {x y C f : Addr} {ox : Obj} {od : Option Obj} {tb : Value}
theorem ne_entry (X : K.In s.heap) (I : PySem.W.InstAt s.heap x ox C od) (hs : PySem.W.findIn K (.ref C) "__eq__" = some (some (.ref f))) (hf : PySem.W.isFn K (.ref f) = true) (hu : A.units < cLine) {Q : PySem.Fin → Shared → Prop}
    (hcall : wpAny (model prog w) A (call (.ref f) [.ref x, .ref y]) (fun v s' => ∃ b, v = .bool b ∧ Q (.done (.ret (.bool (!b)))) s') E s) : wpAny (model prog w) A (Builtin.«object.__ne__» ⟨[.ref x, .ref y], []⟩) Q E s := by
  unfold Builtin.«object.__ne__»
  repeat (first
    | with_reducible refine wpAny_cRoomFor hu ?_
    | (refine wpAny_bind (m := callSpecialIfBound? (.ref x) (Str.ofString "__eq__") [.ref y])
        (PySem.W.ifBound_K X I hs hf (wpAny_mono hcall (fun r s' hr => by
          obtain ⟨b, rfl, hq⟩ := hr
          repeat (first | exact hq | exact wpAny_pure hq | exact wpAny_truthy_bool hq | (refine wpAny_bind (m := truthy (.bool _)) (wpAny_truthy_bool ?_)) | wp_step)) fun _ _ e => e)))
    | wp_step)
theorem ifBound_ne {M : Model} {args : List Value} {Q : Option Value → Shared → Prop} (X : K.In s.heap) (I : PySem.W.InstAt s.heap x ox C od) (hs : PySem.W.findIn K (.ref C) "__ne__" = some (some (.builtin "object.__ne__")))
    (h : wpAny M A (call (.builtin "object.__ne__") (.ref x :: args)) (fun v => Q (some v)) E s) : wpAny M A (callSpecialIfBound? (.ref x) "__ne__" args) Q E s := by
  simp only [callSpecialIfBound?, bindSpecialIfBound?]
  refine wpAny_holding (wpAny_bind (wpAny_bind (wpAny_bind (I.type.here ((PySem.W.looks_findIn X hs).here ?_)))))
  refine wpAny_bind (wpAny_askSetting (wpAny_ite ?_))
  have fin : wpAny M A (call (.builtin "object.__ne__") ([.ref x] ++ args) >>= fun v => pure (some v)) Q E s := wpAny_bind (wpAny_mono h (fun v s' q => wpAny_pure q) fun _ _ q => q)
  split
  · exact wpAny_bind (wpAny_of_eq (F.cmp_object.ne.bind _) (wpAny_pure (by exact fin)))
  · exact wpAny_tryCatch (wpAny_bind (wpAny_of_eq (F.cmp_object.ne.bind _) (wpAny_pure (by exact fin))))
theorem ne_K {Q : Value → Shared → Prop} (hu : A.units + 1 < cLine) (X : K.In s.heap) (I : PySem.W.InstAt s.heap x ox C od) (hb : PySem.W.Looks (model prog w) s.heap (typeOf (.ref y)) tb) (hn : PySem.W.notFirst K C tb = true) (hm : PySem.W.mroIn K C (.type "object") = some true)
    (hs : PySem.W.findIn K (.ref C) "__eq__" = some (some (.ref f))) (hne : PySem.W.findIn K (.ref C) "__ne__" = some (some (.builtin "object.__ne__"))) (hf : PySem.W.isFn K (.ref f) = true)
    (h : wpAny (model prog w) A.in1 (call (.ref f) [.ref x, .ref y]) (fun v s' => ∃ b, v = .bool b ∧ Q (.bool (!b)) s') E s) : wpAny (model prog w) A (richCompare .NotEq (.ref x) (.ref y)) Q E s := by
  have one : wpAny (model prog w) A (tryCompare (.ref x) (cmpInfo .NotEq).2.1 (.ref y)) (fun r s' => ∃ v, r = some v ∧ Q v s') E s := by
    unfold tryCompare
    refine wpAny_bind (ifBound_ne X I hne (wpAny_call (codeAny_call_builtin F.cmp_object.ne.plain F.cmpEntry_ne (PySem.W.check_slot F.cmpKind_ne F.cmpSplit_ne (I.type.andThen (PySem.W.looks_mroIn X hm)) (F.cmpArgs_ne _ _)
      (ne_entry (A := A.in1) X I hs hf hu (wpAny_mono h (fun v s' hv => ?_) fun _ _ e => e))))))
    obtain ⟨b, rfl, hq⟩ := hv
    first | exact ⟨b, rfl, wpAny_pure ⟨_, rfl, hq⟩⟩ | exact ⟨b, rfl, ⟨_, rfl, hq⟩⟩ | exact ⟨b, rfl, wpAny_pure (wpAny_pure ⟨_, rfl, hq⟩)⟩
  unfold richCompare
  simp only [oneThing_ref]
  refine wpAny_holding (wpAny_bind (wpAny_cRoomFor (Nat.lt_of_succ_lt hu) ?_))
  refine wpAny_bind (I.type.here (wpAny_bind (hb.here ?_)))
  split
  · rename_i q
    have e : PySem.W.subIn K tb (.ref C) = some false := by
      rcases Bool.or_eq_true_iff.mp hn with e | e
      · rw [beq_iff_eq.mp e] at q; simp at q
      · exact beq_iff_eq.mp e
    refine wpAny_bind ((PySem.W.looks_subIn X e).here ?_)
    simp only [Bool.false_eq_true, if_false]
    refine wpAny_bind (wpAny_mono one (fun r s' z => ?_) fun _ _ e => e)
    obtain ⟨v, rfl, hq⟩ := z
    exact wpAny_pure hq
  · refine wpAny_bind (wpAny_pure ?_)
    simp only [Bool.false_eq_true, if_false]
    refine wpAny_bind (wpAny_mono one (fun r s' z => ?_) fun _ _ e => e)
    obtain ⟨v, rfl, hq⟩ := z
    exact wpAny_pure hq
end
end DL
set_option Elab.async false
set_option linter.all false
set_option maxRecDepth 100000
set_option maxHeartbeats 4000000
namespace DL
open PySem PySem.Spec PyProof.Rows L2
/-- what is known of the class C's == against an instance of C' -/
structure FEq (P : Program) (w : World) (K : PySem.W.Frag) (mg : Str → Option Value) (base : Heap) (J : JS) (k : Nat) (r : SpecD) (C C' : Str) : Prop where
  ex : ∃ f fd ps, FnOk P w K mg base (L2.CX P w) k f fd ps (SpD K J r) ∧ Binds K fd ps [] ∧ PySem.W.findIn K (.ref (He.ga K C)) "__eq__" = some (some (.ref f)) ∧ PySem.W.isFn K (.ref f) = true
  nf : PySem.W.notFirst K (He.ga K C) (.ref (He.ga K C')) = true
  ne : PySem.W.findIn K (.ref (He.ga K C)) "__ne__" = some (some (.builtin "object.__ne__"))
  ob : PySem.W.mroIn K (He.ga K C) (.type "object") = some true
section
variable {X : Cx} {J : JS} {Wx : WX}
def rEqI (K : PySem.W.Frag) (J : JS) (neg : Bool) (r : SpecD) (ok : Str → Str → Bool) : R2 := fun x y H Q => ∃ C C' a b dx dy fs gs, ok C C' = true ∧ x = .ref a ∧ y = .ref b ∧ H a = some (.ins (He.ga K C) dx fs) ∧ H b = some (.ins (He.ga K C') dy gs) ∧
  SpD K J r [.ref a, .ref b] H (fun v H' => ∃ c, v = .bl c ∧ Q (.bl (if neg then !c else c)) H') (fun _ _ _ => False)
theorem op_eqI {k : Nat} {r : SpecD} {ok : Str → Str → Bool} (F : ∀ C C', ok C C' = true → FEq X.prog X.w X.K X.mg X.base J k r C C') (hr : Room (k + 1) X.A) : OpR X (compareOp .Eq) (rEqI X.K J false r ok) := by
  intro pins s σ H x y v u Q I rx ry h
  obtain ⟨C, C', a, b, dx, dy, fs, gs, hok, rfl, rfl, ha, hb', sp⟩ := h
  cases rx
  cases ry
  obtain ⟨⟨f, fd, ps, hF, hB, hs, hf⟩, nf, _, _⟩ := F C C' hok
  obtain ⟨mA, Ja, _⟩ := ins_get I.hok ha
  obtain ⟨mB, Jb, _⟩ := ins_get I.hok hb'
  obtain ⟨od, Ja, _⟩ := Ja.look
  obtain ⟨od', Jb, _⟩ := Jb.look
  obtain ⟨m, hFr⟩ := I.fr
  have hr0 : Room k X.A := hr.mono (Nat.le_succ _)
  show wpAny (model X.prog X.w) X.A (richCompare .Eq (.ref a) (.ref b)) (EP X pins σ Q) X.xe s
  refine PySem.W.cmp_K (op := .Eq) (tb := .ref (He.ga X.K C')) (by have := hr.un; omega) hFr I.ok.mod.kin Ja Jb.type nf hs hf ?_
  refine wpAny_mono (run_fn (us := [.ref a, .ref b]) (vs := [.ref a, .ref b]) (dvs := []) (ds := []) hF hr0 hB .nil passF I (.cons rfl (.cons rfl .nil)) sp) (fun w' s' z => ?_) fun _ _ x => x
  obtain ⟨v, H', I', rv, c, ev, q⟩ := z
  subst ev
  cases rv
  exact ⟨.bl c, H', I', rfl, q⟩
theorem op_neI {k : Nat} {r : SpecD} {ok : Str → Str → Bool} (F : ∀ C C', ok C C' = true → FEq X.prog X.w X.K X.mg X.base J k r C C') (hr : Room (k + 1) X.A) : OpR X (compareOp .NotEq) (rEqI X.K J true r ok) := by
  intro pins s σ H x y v u Q I rx ry h
  obtain ⟨C, C', a, b, dx, dy, fs, gs, hok, rfl, rfl, ha, hb', sp⟩ := h
  cases rx
  cases ry
  obtain ⟨⟨f, fd, ps, hF, hB, hs, hf⟩, nf, hne, hob⟩ := F C C' hok
  obtain ⟨mA, Ja, _⟩ := ins_get I.hok ha
  obtain ⟨mB, Jb, _⟩ := ins_get I.hok hb'
  obtain ⟨od, Ja, _⟩ := Ja.look
  obtain ⟨od', Jb, _⟩ := Jb.look
  have hr0 : Room k X.A.in1 := hr.in1
  show wpAny (model X.prog X.w) X.A (richCompare .NotEq (.ref a) (.ref b)) (EP X pins σ Q) X.xe s
  refine ne_K (by have := hr.un; omega) I.kIn Ja Jb.type nf hob hs hne hf ?_
  have hl : ([.ref a, .ref b] : List Value).length = ps.length := hF.len _ _ _ _ sp
  refine wpAny_call (codeAny_mono (hF.run X.A.in1 X.stack s H ⟨[.ref a, .ref b], []⟩ [.ref a, .ref b] [.ref a, .ref b] _ _ hr0 I.env0.in1 (by have := hB s [.ref a, .ref b] I.kIn (by simpa using hl); simpa using this) (.cons rfl (.cons rfl .nil)) sp) fun r s' z => ?_)
  cases r with
  | error e =>
    obtain ⟨_, _, _, _, _, _, _, _, _, _, _, _, z⟩ := z
    exact z.elim
  | ok fl =>
    cases fl with
    | ret w' =>
      obtain ⟨v, H', I', rv, c, ev, q⟩ := I.after z
      subst ev
      cases rv
      exact ⟨c, rfl, .bl _, H', I', rfl, q⟩
    | next => exact False.elim z
    | brk => exact False.elim z
    | cont => exact False.elim z
def blQ (neg : Bool) (Q : Sd → Prop) (s : Sd) : Prop := match s with
  | .fro (.bl b) => Q (.fro (.bl (if neg then !b else b)))
  | _ => False
def fEqI (neg : Bool) (r : SpecD) (ok : Str → Str → Bool) (x y : Sd) (Q : Sd → Prop) : Prop := match x, y with
  | .fro (.ins C fs), .fro (.ins C' gs) => ok C C' = true ∧ r [.ins C fs, .ins C' gs] (blQ neg Q) noE
  | _, _ => False
theorem eqI_ok {K : PySem.W.Frag} {neg : Bool} {r : SpecD} {ok : Str → Str → Bool} : OpS K J (rEqI K J neg r ok) (fEqI neg r ok) := by
  intro W0 H0 Δ W σ H Hs Qd Q x y v u st rx ry h lk
  unfold fEqI at h
  split at h
  · rename_i C fs C' gs
    obtain ⟨hok, h⟩ := h
    have rx' : Dn K W v (.ins C fs) := rx
    have ry' : Dn K W u (.ins C' gs) := ry
    cases rx with
    | ins h1 r1 =>
      cases ry with
      | ins h2 r2 =>
        refine ⟨C, C', _, _, _, _, _, _, hok, rfl, rfl, st.wok.ins h1, st.wok.ins h2, W, _, _, _, st.wok, .cons rx' (.cons ry' .nil), h, fun s v' W' H' q w' y' rr => ?_, fun e c d W' H' z => z.elim⟩
        unfold blQ at q
        split at q
        · cases rr
          exact ⟨_, rfl, lk _ _ W' H' q (st.stp y' w') y' (Dn.bl _)⟩
        · exact q.elim
  · exact h.elim
/-! ### isinstance by a class of the text -/
structure FIsi (K : PySem.W.Frag) (C' C : Str) (b : Bool) : Prop where
  cl : Cls K (He.ga K C')
  ca : PySem.W.findIn K (.ref (He.ga K C')) "__class__" = some (some (.builtin "object.__class__"))
  hn : PySem.W.specialIn K (.builtin "object.__class__") "__get__" = some (some (.builtin "getset_descriptor.__get__"))
  tk : PySem.W.takesIn K (.builtin "object.__class__") = some true
  hm : PySem.W.mroIn K (He.ga K C') (.type "object") = some true
  kit : PySem.W.kitOne K (.ref (He.ga K C')) (.ref (He.ga K C)) = some b
/-- the built-in classes' instances are none of it -/
def FIsB (K : PySem.W.Frag) (C : Str) : Prop := ∀ a ∈ ["NoneType", "bool", "int", "str", "list", "tuple", "dict"], PySem.W.kitOne K (.type a) (.ref (He.ga K C)) = some false
def isiQ (subs : Str → Option Bool) (Q : Sd → Prop) (s : Sd) : Prop := match s.dat with
  | .ins C' _ => (match subs C' with
    | some b => Q (.fro (.bl b))
    | none => False)
  | d => (match tyN d with
    | some _ => Q (.fro (.bl false))
    | none => False)
def dIsiC (subs : Str → Option Bool) (t : TD) : TD := fun Δ Q E => t Δ (isiQ subs Q) E
theorem de_isiC {e : Expr} {t : TD} {C : Str} {subs : Str → Option Bool} {p p2 pos : Pos} (F : ∀ C' b, subs C' = some b → FIsi X.K C' C b) (FB : FIsB X.K C) (hg : Gl X "isinstance") (hm : X.mg "isinstance" = none) (hgC : Gl X C) (hmC : X.mg C = some (.ref (He.ga X.K C))) (h : DE X J Wx e t)
    (hd : (C == ("__debug__" : Str)) = false := by decide) (h1 : starEach [e, .Name C p2] X.env = (false, eval e X.env) :: starEach [.Name C p2] X.env := by rfl) (h2 : starEach [.Name C p2] X.env = (false, eval (.Name C p2) X.env) :: starEach [] X.env := by rfl)
    (hpl : (backTo pos (starEach [.Name C p2] X.env)).any (·.1) = false := by rfl) : DE X J Wx (.Call (.Name "isinstance" p) [e, .Name C p2] [] pos) (dIsiC subs t) := by
  have hc : PE X (.Name C p2) (tC (.ref (He.ga X.K C))) := pe_glob hgC hmC rfl hd
  refine (pe_callB (x := "isinstance") call_isi hg hm rfl (pa_cons h (pa_cons hc pa_nil h2) h1) (by decide) (by decide) h1 hpl).imp fun σ H Q ⟨W0, H0, Δ, W, Qd, Xd, st, ht, lk, lx⟩ => ?_
  refine ⟨W0, H0, Δ, W, _, _, st, ht, fun s v W1 H1 q st1 y1 r1 => ?_, lx⟩
  show rIsi X.K [v, .ref (He.ga X.K C)] H1 Q
  unfold isiQ at q
  split at q
  · rename_i C' fs es
    split at q
    · rename_i b eb
      obtain ⟨a, dx, vs, rfl, ha, _⟩ := r1.isIns st1.wok es
      obtain ⟨cl, ca, hn, tk, hm', kit⟩ := F C' b eb
      exact ⟨_, _, _, _, b, rfl, .own _, .base (.ins ha cl ca hn tk hm'), kit, lk _ _ W1 H1 q st1 y1 (Dn.bl _)⟩
    · exact q.elim
  · split at q
    · rename_i a ea
      obtain ⟨hin, ty⟩ := r1.ty st1.wok ea
      exact ⟨_, _, _, _, false, rfl, .own _, ty, FB _ hin, lk _ _ W1 H1 q st1 y1 (Dn.bl _)⟩
    · exact q.elim
end
end DL
set_option Elab.async false
set_option linter.all false
set_option maxRecDepth 100000
set_option maxHeartbeats 4000000
namespace DL
open PySem PySem.Spec PyProof.Rows L2
section
variable {X : Cx} {J : JS} {Wx : WX} {a b e : Expr} {es : List Expr} {t ta tb : TD} {tA : TDA} {pos p : Pos}
def fSub (x y : Sd) (Q : Sd → Prop) : Prop := match x.dat, y.dat with
  | .int i, .int j => Q (.fro (.int (i - j)))
  | _, _ => False
theorem sub_ok {K : PySem.W.Frag} : OpS K J (rI0 fun i j => .int (i - j)) fSub := by
  intro W0 H0 Δ W σ H Hs Qd Q x y v u st rx ry h lk
  unfold fSub at h
  split at h
  · rename_i i j e1 e2
    exact ⟨i, j, rx.isInt e1, ry.isInt e2, lk _ _ W H h st (.refl W H) (Dn.int _)⟩
  · exact h.elim
/-- * : ints, list by int, tuple by int -/
def fMulA (x y : Sd) (Q : Sd → Prop) : Prop := match x.dat, y.dat with
  | .int i, .int j => CMul i j ∧ Q (.fro (.int (i * j)))
  | .lst xs, .int k => (-(2 ^ 63) ≤ k ∧ k < 2 ^ 63 ∧ xs.length * k.toNat ≤ sizeLine) ∧ Q (.own (List.replicate k.toNat xs).flatten)
  | .tup xs, .int k => (xs ≠ [] ∧ 2 ≤ k ∧ k ≤ 1000 ∧ xs.length ≤ 1000) ∧ Q (.fro (.tup (List.replicate k.toNat xs).flatten))
  | _, _ => False
def rMulA (K : PySem.W.Frag) : R2 := fun x y H Q => ((rI CMul fun i j => .int (i * j)) x y H Q ∨ rRep x y H Q) ∨ rRepP K x y H Q
theorem op_mulB : OpR X (binaryOp .Mult) (rMulA X.K) := op_mulA.or op_repP
theorem mulB_ok {K : PySem.W.Frag} : OpS K J (rMulA K) fMulA := by
  intro W0 H0 Δ W σ H Hs Qd Q x y v u st rx ry h lk
  unfold fMulA at h
  split at h
  · rename_i i j e1 e2
    exact .inl (mul_ok st rx ry (by unfold fMul; rw [e1, e2]; exact h) lk)
  · rename_i xs k e1 e2
    exact .inl (mul_ok st rx ry (by unfold fMul; rw [e1, e2]; exact h) lk)
  · rename_i xs k e1 e2
    exact .inr (mulT_ok st rx ry (by unfold fMulT; rw [e1, e2]; exact h) lk)
  · exact h.elim
theorem e_add (ha : DE X J Wx a ta) (hb : DE X J Wx b tb) : DE X J Wx (.BinOp a .Add b pos) (dOp fAdd ta tb) := de_op op_addA add_ok ha hb
theorem e_sub (ha : DE X J Wx a ta) (hb : DE X J Wx b tb) : DE X J Wx (.BinOp a .Sub b pos) (dOp fSub ta tb) := de_op op_sub sub_ok ha hb
theorem e_mul (ha : DE X J Wx a ta) (hb : DE X J Wx b tb) : DE X J Wx (.BinOp a .Mult b pos) (dOp fMulA ta tb) := de_op op_mulB mulB_ok ha hb
theorem e_mod (ha : DE X J Wx a ta) (hb : DE X J Wx b tb) : DE X J Wx (.BinOp a .Mod b pos) (dOp (fI (fun _ j => 0 < j) fun i j => i % j) ta tb) := de_op op_mod (int_ok fun _ _ h => h) ha hb
theorem e_pow (ha : DE X J Wx a ta) (hb : DE X J Wx b tb) : DE X J Wx (.BinOp a .Pow b pos) (dOp (fI CPow fun i j => i ^ j.toNat) ta tb) := de_op op_pow (int_ok fun _ _ h => h) ha hb
theorem e_fdiv (ha : DE X J Wx a ta) (hb : DE X J Wx b tb) : DE X J Wx (.BinOp a .FloorDiv b pos) (dOp (fI CDiv fun i j => i / j) ta tb) := de_op op_fdiv (int_ok fun _ _ h => h) ha hb
/-! comparisons -/
def rLtA : R2 := rCmp pLt qLt
theorem op_ltA : OpR X (compareOp .Lt) (rCmp pLt qLt) := op_lt.or op_lt_str
abbrev qF : List Nat → List Nat → Bool := fun _ _ => false
def fCI (p : Int → Int → Bool) (x y : Sd) (Q : Sd → Prop) : Prop := match x.dat, y.dat with
  | .int i, .int j => Q (.fro (.bl (p i j)))
  | _, _ => False
theorem ci_ok {K : PySem.W.Frag} {p : Int → Int → Bool} : OpS K J (rI0 fun i j => .bl (p i j)) (fCI p) := by
  intro W0 H0 Δ W σ H Hs Qd Q x y v u st rx ry h lk
  unfold fCI at h
  split at h
  · rename_i i j e1 e2
    exact ⟨i, j, rx.isInt e1, ry.isInt e2, lk _ _ W H h st (.refl W H) (Dn.bl _)⟩
  · exact h.elim
theorem e_cmp {op : CmpOp} {q : Int → Int → Bool} (ho : OpR X (compareOp op) (rI0 fun i j => .bl (q i j))) (ha : DE X J Wx a ta) (hb : DE X J Wx b tb) (hm : behindInMarks op b = false := by first | exact nobehind _ (by decide) (by decide) | rfl) : DE X J Wx (.Compare a [op] [b] pos) (dOp (fCI q) ta tb) := de_cmp ho ci_ok ha hb hm
theorem t_cmp {op : CmpOp} {q : Int → Int → Bool} (ho : OpR X (compareOp op) (rI0 fun i j => .bl (q i j))) (ha : DE X J Wx a ta) (hb : DE X J Wx b tb) (hm : behindInMarks op b = false := by first | exact nobehind _ (by decide) (by decide) | rfl) : DT X J Wx (.Compare a [op] [b] pos) (dTst (dOp (fCI q) ta tb)) := dt_cmp ho ci_ok ha hb hm
/-- < of ints or of texts -/
theorem e_ltA (ha : DE X J Wx a ta) (hb : DE X J Wx b tb) (hm : behindInMarks .Lt b = false := by first | exact nobehind _ (by decide) (by decide) | rfl) : DE X J Wx (.Compare a [.Lt] [b] pos) (dOp (fCmp pLt qLt) ta tb) := de_cmp op_ltA cmp_ok ha hb hm
theorem t_ltA (ha : DE X J Wx a ta) (hb : DE X J Wx b tb) (hm : behindInMarks .Lt b = false := by first | exact nobehind _ (by decide) (by decide) | rfl) : DT X J Wx (.Compare a [.Lt] [b] pos) (dTst (dOp (fCmp pLt qLt) ta tb)) := dt_cmp op_ltA cmp_ok ha hb hm
theorem e_eq {k : Nat} (hr : Room k X.A) (ha : DE X J Wx a ta) (hb : DE X J Wx b tb) (hm : behindInMarks .Eq b = false := by first | exact nobehind _ (by decide) (by decide) | rfl) : DE X J Wx (.Compare a [.Eq] [b] pos) (dOp (fEq false) ta tb) := de_cmp (op_eqD (by have := hr.un; omega)) eq_ok ha hb hm
theorem t_eq {k : Nat} (hr : Room k X.A) (ha : DE X J Wx a ta) (hb : DE X J Wx b tb) (hm : behindInMarks .Eq b = false := by first | exact nobehind _ (by decide) (by decide) | rfl) : DT X J Wx (.Compare a [.Eq] [b] pos) (dTst (dOp (fEq false) ta tb)) := dt_cmp (op_eqD (by have := hr.un; omega)) eq_ok ha hb hm
theorem e_ne {k : Nat} (hr : Room k X.A) (ha : DE X J Wx a ta) (hb : DE X J Wx b tb) (hm : behindInMarks .NotEq b = false := by first | exact nobehind _ (by decide) (by decide) | rfl) : DE X J Wx (.Compare a [.NotEq] [b] pos) (dOp (fEq true) ta tb) := de_cmp (op_neD (by have := hr.un; omega)) ne_ok ha hb hm
theorem t_ne {k : Nat} (hr : Room k X.A) (ha : DE X J Wx a ta) (hb : DE X J Wx b tb) (hm : behindInMarks .NotEq b = false := by first | exact nobehind _ (by decide) (by decide) | rfl) : DT X J Wx (.Compare a [.NotEq] [b] pos) (dTst (dOp (fEq true) ta tb)) := dt_cmp (op_neD (by have := hr.un; omega)) ne_ok ha hb hm
theorem e_in {k : Nat} (hr : Room k X.A) (ha : DE X J Wx a ta) (hb : DE X J Wx b tb) (hm : behindInMarks .In b = false := by first | exact nobehind _ (by decide) (by decide) | rfl) : DE X J Wx (.Compare a [.In] [b] pos) (dOp (fIn false) ta tb) := de_cmp (op_inA (by have := hr.un; omega)) in_ok ha hb hm
theorem t_in {k : Nat} (hr : Room k X.A) (ha : DE X J Wx a ta) (hb : DE X J Wx b tb) (hm : behindInMarks .In b = false := by first | exact nobehind _ (by decide) (by decide) | rfl) : DT X J Wx (.Compare a [.In] [b] pos) (dTst (dOp (fIn false) ta tb)) := dt_cmp (op_inA (by have := hr.un; omega)) in_ok ha hb hm
theorem e_notin {k : Nat} (hr : Room k X.A) (ha : DE X J Wx a ta) (hb : DE X J Wx b tb) (hm : behindInMarks .NotIn b = false := by first | exact nobehind _ (by decide) (by decide) | rfl) : DE X J Wx (.Compare a [.NotIn] [b] pos) (dOp (fIn true) ta tb) := de_cmp (op_notInA (by have := hr.un; omega)) in_ok ha hb hm
theorem t_notin {k : Nat} (hr : Room k X.A) (ha : DE X J Wx a ta) (hb : DE X J Wx b tb) (hm : behindInMarks .NotIn b = false := by first | exact nobehind _ (by decide) (by decide) | rfl) : DT X J Wx (.Compare a [.NotIn] [b] pos) (dTst (dOp (fIn true) ta tb)) := dt_cmp (op_notInA (by have := hr.un; omega)) in_ok ha hb hm
theorem e_inS (ha : DE X J Wx a ta) (hb : DE X J Wx b tb) (hm : behindInMarks .In b = false := by first | exact nobehind _ (by decide) (by decide) | rfl) : DE X J Wx (.Compare a [.In] [b] pos) (dOp (fInS false) ta tb) := de_cmp op_inS inS_ok ha hb hm
theorem e_notinS (ha : DE X J Wx a ta) (hb : DE X J Wx b tb) (hm : behindInMarks .NotIn b = false := by first | exact nobehind _ (by decide) (by decide) | rfl) : DE X J Wx (.Compare a [.NotIn] [b] pos) (dOp (fInS true) ta tb) := de_cmp op_notInS inS_ok ha hb hm
theorem e_ix (ha : DE X J Wx a ta) (hb : DE X J Wx b tb) (hs : PlainIx b) : DE X J Wx (.Subscript a b pos) (dOp fIx ta tb) := de_ix ix_seq ix_ok ha hb hs
theorem e_din {k : Nat} (hr : Room k X.A) (ha : DE X J Wx a ta) (hb : DE X J Wx b tb) (h1 : behindInMarks .In b = false := by first | exact nobehind _ (by decide) (by decide) | rfl) : DE X J Wx (.Compare a [.In] [b] pos) (dOp (fDin false) ta tb) := de_din (by have := hr.un; omega) ha hb h1
theorem t_din {k : Nat} (hr : Room k X.A) (ha : DE X J Wx a ta) (hb : DE X J Wx b tb) (h1 : behindInMarks .In b = false := by first | exact nobehind _ (by decide) (by decide) | rfl) : DT X J Wx (.Compare a [.In] [b] pos) (dTst (dOp (fDin false) ta tb)) := dt_din (by have := hr.un; omega) ha hb h1
theorem e_dnotin {k : Nat} (hr : Room k X.A) (ha : DE X J Wx a ta) (hb : DE X J Wx b tb) (h1 : behindInMarks .NotIn b = false := by first | exact nobehind _ (by decide) (by decide) | rfl) : DE X J Wx (.Compare a [.NotIn] [b] pos) (dOp (fDin true) ta tb) := de_dnotin (by have := hr.un; omega) ha hb h1
theorem t_dnotin {k : Nat} (hr : Room k X.A) (ha : DE X J Wx a ta) (hb : DE X J Wx b tb) (h1 : behindInMarks .NotIn b = false := by first | exact nobehind _ (by decide) (by decide) | rfl) : DT X J Wx (.Compare a [.NotIn] [b] pos) (dTst (dOp (fDin true) ta tb)) := dt_dnotin (by have := hr.un; omega) ha hb h1
theorem e_dget {k : Nat} (hr : Room k X.A) (ha : DE X J Wx a ta) (hb : DE X J Wx b tb) (hs : NoSl b) : DE X J Wx (.Subscript a b pos) (dOp fDget ta tb) := de_dget (by have := hr.un; omega) ha hb hs
theorem s_dput {k i : Nat} {o ix : Expr} {spos : Pos} {ti tv : TD} (hr : Room k X.A) (ho : PE X o (tVar i)) (hi : DE X J Wx ix ti) (hv : DE X J Wx e tv) (hs : swapsWith e (some (.Subscript o ix spos)) pos.line X.env = pure false := by rfl) : DS X J Wx (.Assign [.Subscript o ix spos] e pos) (dDput i ti tv) := ds_dput (by have := hr.un; omega) ho hi hv hs
/-! calls of built-ins -/
theorem e_len (hm : X.mg "len" = none) (hg : Gl X "len") (h : DE X J Wx e t) (he : starEach [e] X.env = (false, eval e X.env) :: starEach [] X.env := by rfl) : DE X J Wx (.Call (.Name "len" p) [e] [] pos) (dCB fLen (bCons t bNil)) := de_callB call_lenA len_ok hg hm rfl (db_cons h db_nil he) (by decide) (by decide) he
theorem e_sum (hc : X.calm = true) (hm : X.mg "sum" = none) (hg : Gl X "sum") (h : DE X J Wx e t) (he : starEach [e] X.env = (false, eval e X.env) :: starEach [] X.env := by rfl) : DE X J Wx (.Call (.Name "sum" p) [e] [] pos) (dCB fSum (bCons t bNil)) := de_callB (cr_sum hc) sum_ok hg hm rfl (db_cons h db_nil he) (by decide) (by decide) he
theorem e_abs (hm : X.mg "abs" = none) (hg : Gl X "abs") (h : DE X J Wx e t) (he : starEach [e] X.env = (false, eval e X.env) :: starEach [] X.env := by rfl) : DE X J Wx (.Call (.Name "abs" p) [e] [] pos) (dCB (f1i gAbs) (bCons t bNil)) := de_callB call_abs abs_ok hg hm rfl (db_cons h db_nil he) (by decide) (by decide) he
theorem e_int (hm : X.mg "int" = none) (hg : Gl X "int") (h : DE X J Wx e t) (he : starEach [e] X.env = (false, eval e X.env) :: starEach [] X.env := by rfl) : DE X J Wx (.Call (.Name "int" p) [e] [] pos) (dCB (f1i .int) (bCons t bNil)) := de_callT call_int1 int_ok1 hg hm rfl (db_cons h db_nil he) (by decide) (by decide) he
theorem e_sorted {k : Nat} (hr : Room k X.A) (hm : X.mg "sorted" = none) (hg : Gl X "sorted") (h : DE X J Wx e t) (he : starEach [e] X.env = (false, eval e X.env) :: starEach [] X.env := by rfl) : DE X J Wx (.Call (.Name "sorted" p) [e] [] pos) (dCB fSort (bCons t bNil)) := de_callB (cr_sortD (by have := hr.un; omega)) sort_ok hg hm rfl (db_cons h db_nil he) (by decide) (by decide) he
theorem e_tuple (hm : X.mg "tuple" = none) (hg : Gl X "tuple") (h : DE X J Wx e t) (he : starEach [e] X.env = (false, eval e X.env) :: starEach [] X.env := by rfl) : DE X J Wx (.Call (.Name "tuple" p) [e] [] pos) (dCB fTupOf (bCons t bNil)) := de_callT call_tupP tupOf_ok hg hm rfl (db_cons h db_nil he) (by decide) (by decide) he
theorem e_dict (hc : X.calm = true) (hm : X.mg "dict" = none) (hg : Gl X "dict") (h : DE X J Wx e t) (he : starEach [e] X.env = (false, eval e X.env) :: starEach [] X.env := by rfl) : DE X J Wx (.Call (.Name "dict" p) [e] [] pos) (dCB fDictP (bCons t bNil)) := de_callT (call_dictA hc) dictP_ok hg hm rfl (db_cons h db_nil he) (by decide) (by decide) he
theorem e_max (hc : X.calm = true) (hm : X.mg "max" = none) (hg : Gl X "max") (h : DE X J Wx a ta) (h2 : DE X J Wx b tb) (he : starEach [a, b] X.env = (false, eval a X.env) :: starEach [b] X.env := by rfl) (he2 : starEach [b] X.env = (false, eval b X.env) :: starEach [] X.env := by rfl) (hpl : (backTo pos (starEach [b] X.env)).any (·.1) = false := by rfl) :
    DE X J Wx (.Call (.Name "max" p) [a, b] [] pos) (dCB (f2i gMax) (bCons ta (bCons tb bNil))) := de_callB (call_max2 hc) max_ok hg hm rfl (db_cons h (db_cons h2 db_nil he2) he) (by decide) (by decide) he hpl
theorem e_min (hc : X.calm = true) (hm : X.mg "min" = none) (hg : Gl X "min") (h : DE X J Wx a ta) (h2 : DE X J Wx b tb) (he : starEach [a, b] X.env = (false, eval a X.env) :: starEach [b] X.env := by rfl) (he2 : starEach [b] X.env = (false, eval b X.env) :: starEach [] X.env := by rfl) (hpl : (backTo pos (starEach [b] X.env)).any (·.1) = false := by rfl) :
    DE X J Wx (.Call (.Name "min" p) [a, b] [] pos) (dCB (f2i gMin) (bCons ta (bCons tb bNil))) := de_callB (call_min2 hc) min_ok hg hm rfl (db_cons h (db_cons h2 db_nil he2) he) (by decide) (by decide) he hpl
theorem e_isi {x : Str} {T : String} {p2 : Pos} (hm : X.mg "isinstance" = none) (hg : Gl X "isinstance") (h : DE X J Wx e t) (h2 : DE X J Wx (.Name x p2) (dC (.fro (.ob (.ty T))))) (he : starEach [e, .Name x p2] X.env = (false, eval e X.env) :: starEach [.Name x p2] X.env := by rfl) (he2 : starEach [.Name x p2] X.env = (false, eval (.Name x p2) X.env) :: starEach [] X.env := by rfl) (hpl : (backTo pos (starEach [.Name x p2] X.env)).any (·.1) = false := by rfl) :
    DE X J Wx (.Call (.Name "isinstance" p) [e, .Name x p2] [] pos) (dCB fIsi (bCons t (bCons (dC (.fro (.ob (.ty T)))) bNil))) := de_callB call_isi isi_ok hg hm rfl (db_cons h (db_cons h2 db_nil he2) he) (by decide) (by decide) he hpl
/-! x += e of ints -/
def dAugI (i : Nat) (g : Int → Int → Int) (t : TD) : TDS := fun DD Δ => match Δ[i]? with
  | some (some (.fro (.int x))) => t Δ (fun s => match s.dat with
    | .int y => DD.nx (Δ.set i (some (.fro (.int (g x y)))))
    | _ => False) (fun e => DD.ex e Δ)
  | _ => False
theorem aug_lift {i : Nat} {g : Int → Int → Int} : ∀ D σ H, liftS X.K J Wx (dAugI i g t) D σ H → tAug i (liftE X.K J Wx t) (ipI g) D σ H := fun D σ H ⟨W0, H0, Δ, W, DD, st, ht, l⟩ => by
  unfold dAugI at ht
  split at ht
  · rename_i x hi
    obtain ⟨v, ev, rv⟩ := st.slot i _ hi
    cases rv
    refine ⟨_, ev, W0, H0, Δ, W, _, _, st, ht, fun s v W1 H1 q st1 y1 r1 => ?_, l.lx⟩
    dsimp only at q
    split at q
    · rename_i y ey
      rw [r1.isInt ey]
      exact ⟨x, y, rfl, rfl, l.nx _ W1 _ H1 q (Stt.set (s := .fro (.int (g x y))) (Hs := H1) st1 st1 (Dn.int _) rfl) y1.le⟩
    · exact q.elim
  · exact ht.elim
theorem ds_augAdd {i : Nat} {x : Str} {pos' : Pos} (hN : X.N.Nodup) (hi : X.N[i]? = some x) (hx : Loc X.env.scope x) (he : DE X J Wx e t) (hf : X.fn x = true ∨ X.env.scope.names.lookup x = some .local := by first | exact .inl rfl | exact .inr rfl | assumption) :
    DS X J Wx (.AugAssign (.Name x pos') .Add e pos) (dAugI i (fun a b => a + b) t) := (ps_aug hN hi hx he ip_add hf).imp aug_lift
theorem e_all (hc : X.calm = true) (hm : X.mg "all" = none) (hg : Gl X "all") (h : DE X J Wx e t) (he : starEach [e] X.env = (false, eval e X.env) :: starEach [] X.env := by rfl) : DE X J Wx (.Call (.Name "all" p) [e] [] pos) (dCB (fBl fun bs => bs.all id) (bCons t bNil)) := de_callB (cr_all hc) all_ok hg hm rfl (db_cons h db_nil he) (by decide) (by decide) he
theorem e_any (hc : X.calm = true) (hm : X.mg "any" = none) (hg : Gl X "any") (h : DE X J Wx e t) (he : starEach [e] X.env = (false, eval e X.env) :: starEach [] X.env := by rfl) : DE X J Wx (.Call (.Name "any" p) [e] [] pos) (dCB (fBl fun bs => bs.any id) (bCons t bNil)) := de_callB (cr_any hc) any_ok hg hm rfl (db_cons h db_nil he) (by decide) (by decide) he
theorem e_list (hm : X.mg "list" = none) (hg : Gl X "list") (h : DE X J Wx e t) (he : starEach [e] X.env = (false, eval e X.env) :: starEach [] X.env := by rfl) : DE X J Wx (.Call (.Name "list" p) [e] [] pos) (dCB fLstOf (bCons t bNil)) := de_callT call_list_of lstOf_ok hg hm rfl (db_cons h db_nil he) (by decide) (by decide) he
/-- e.f of an instance of one of some classes -/
def fldAQ (cs : List Str) (f : Str) (Q : Sd → Prop) (s : Sd) : Prop := match s.dat with
  | .ins C fs => C ∈ cs ∧ (match fs.lookup f with
    | some d => Q (.fro d)
    | none => False)
  | _ => False
def dFldA (cs : List Str) (f : Str) (t : TD) : TD := fun Δ Q E => t Δ (fldAQ cs f Q) E
def FldA (K : PySem.W.Frag) (cs : List Str) (f : Str) : Prop := ∀ C ∈ cs, Cls K (He.ga K C) ∧ NoAttr K (He.ga K C) f
theorem de_fldA {cs : List Str} {f : Str} (F : FldA X.K cs f) (h : DE X J Wx e t) (hb : attributeBase e f X.env (eval e X.env) = eval e X.env := by rfl) : DE X J Wx (.Attribute e f pos) (dFldA cs f t) := (pe_fld h hb).imp fun σ H Q ⟨W0, H0, Δ, W, Qd, Xd, st, ht, lk, lx⟩ => by
  refine ⟨W0, H0, Δ, W, _, _, st, ht, fun s v W1 H1 q st1 y1 r1 => ?_, lx⟩
  unfold fldAQ at q
  split at q
  · rename_i C fs es
    obtain ⟨hC, q⟩ := q
    obtain ⟨a, dx, vs, rfl, hw, rr⟩ := r1.isIns st1.wok es
    split at q
    · rename_i d ed
      obtain ⟨v, ev, rv⟩ := rr.look ed
      obtain ⟨c1, c2⟩ := F C hC
      exact ⟨_, _, _, _, v, rfl, hw, c1, c2, ev, lk _ v W1 H1 q st1 y1 rv⟩
    · exact q.elim
  · exact q.elim
/-- the built-ins' names are free -/
structure Bl (mg : Str → Option Value) : Prop where
  abs : mg "abs" = none
  all : mg "all" = none
  any : mg "any" = none
  dict : mg "dict" = none
  enumerate : mg "enumerate" = none
  int : mg "int" = none
  isinstance : mg "isinstance" = none
  len : mg "len" = none
  list : mg "list" = none
  max : mg "max" = none
  min : mg "min" = none
  range : mg "range" = none
  repr : mg "repr" = none
  set : mg "set" = none
  sorted : mg "sorted" = none
  str : mg "str" = none
  sum : mg "sum" = none
  tuple : mg "tuple" = none
  zip : mg "zip" = none
  bool : mg "bool" = none
end
end DL
set_option Elab.async false
set_option linter.all false
set_option maxRecDepth 100000
set_option maxHeartbeats 4000000
namespace DL
open PySem PySem.Spec PyProof.Rows L2
abbrev AlM : Type := He.AlD × Bool
def obsM (n : Nat) (fa : List He.Fa) (fn : List He.DefD) (ex : PySem.W.Frag → Bool) (g : Addr → Option Obj) : AlM := (He.obsD fa fn (He.frG g (He.asD g n)), ex (He.frG g (He.asD g n)))
def hookM (n : Nat) (fa : List He.Fa) (fn : List He.DefD) (ex : PySem.W.Frag → Bool) : PySem.W.Hook where
  α := AlM
  obs := fun s => obsM n fa fn ex s.heap.get?
  val := fun _ => (He.valD fn, true)
  says := fun _ h => ∃ K : PySem.W.Frag, K.In h ∧ He.SaysD fa fn K ∧ ex K = true
  of := fun _ _ e => ⟨_, He.frG_in, congrArg (fun z : AlM => z.1) e, congrArg (fun z : AlM => z.2) e⟩
  keeps := fun _ _ _ ⟨K, hK, c⟩ k => ⟨K, PySem.W.Frag.In.keeps hK k, c⟩
theorem obsM_eq {n : Nat} {fa : List He.Fa} {fn : List He.DefD} {ex : PySem.W.Frag → Bool} {g : Addr → Option Obj} {s : Shared} (h : ∀ a, g a = s.heap.get? a) : obsM n fa fn ex g = (hookM n fa fn ex).obs s := by
  have e : g = s.heap.get? := funext h
  rw [e] <;> rfl
end DL
set_option Elab.async false
set_option linter.all false
set_option maxRecDepth 100000
set_option maxHeartbeats 4000000
namespace DL
open PySem PySem.Spec PyProof.Rows L2
/-! ### the pool of draws -/
structure JPool (J : JS) : Prop where
  p0 : ∀ ds W o, J.P 0 ds W o ↔ ∃ (s t : Int) (c : Addr), o = .lst [.int s, .int t, .ref c] ∧ W.jn c = some (1, [])
  p1 : ∀ ds W o, J.P 1 ds W o ↔ ∃ cs : List Int, o = .lst (cs.map .int)
theorem WOk.jput {J : JS} {W : Wd} {H : Hp} {a : Addr} {n : Nat} {ds : List D} {o : HO} (w : WOk J W H) (h : W.jn a = some (n, ds)) (p : J.P n ds W o) : WOk J W (upd H a o) where
  f := fun b u e => by
    have hb : b ≠ a := fun q => by
      subst q
      have := w.d b (by rw [e]; simp)
      rw [this] at h; cases h
    unfold Held
    rw [upd_ne hb]
    exact w.f b u e
  j := fun b m es e => by
    by_cases hb : b = a
    · subst hb
      rw [h] at e; cases e
      exact ⟨o, upd_same, p⟩
    · obtain ⟨u, h1, h2⟩ := w.j b m es e
      exact ⟨u, by rw [upd_ne hb]; exact h1, h2⟩
  d := w.d
  n := w.n
theorem Stp.jput {W : Wd} {H : Hp} {a : Addr} {o : HO} (h : W.has a) : Stp W H W (upd H a o) where
  le := .refl W
  keep := fun b u e n => by
    have hb : b ≠ a := fun q => n (q ▸ h)
    rw [upd_ne hb]; exact e
  new := fun b h => .inl h
abbrev N_u_law_draw : List Str := ["pool", "many", "cells", "digit", "mixed"]
abbrev P_u_law_draw : List Str := ["pool", "many"]
def R_u_law_draw : SpecD := fun ds R _ => ∃ m : Int, ds = [.cell 0 [], .int m] ∧ 0 < m ∧ m < 1073741824 ∧ ∀ d, 0 ≤ d → d < m → R (.fro (.int d))
abbrev rLn (K : PySem.W.Frag) : List V → Hp → VK → Prop := fun xs H Q => ∃ p ys, xs = [.ref p] ∧ (SqL K H p ys ∨ SqT K H p ys) ∧ Q (.int ys.length) H
abbrev rI1 : List V → Hp → VK → Prop := fun xs H Q => (∃ i, xs = [.int i] ∧ Q (.int i) H) ∨ ∃ k, xs = [.bl k] ∧ Q (.int (if k then 1 else 0)) H
abbrev xAt (K : PySem.W.Frag) (i : Nat) (k : Int) : TE := tOp (rIxL K) (tVar i) (tC (.int k))
abbrev tInt (t : TE) : TE := tCB rI1 (tCons t tNil)
abbrev rAdd : R2 := rI0 fun i j => .int (i + j)
abbrev rMul : R2 := rI CMul fun i j => .int (i * j)
abbrev rMod : R2 := rI (fun _ j => 0 < j) fun i j => .int (i % j)
abbrev rDiv : R2 := rI CDiv fun i j => .int (i / j)
def t_drawA (K : PySem.W.Frag) : TS := tSeq (tAsg (tOp rMod (tInt (xAt K 2 0)) (tVar 1)) (gName 3))
  (tSeq (tAsg (tOp rDiv (tInt (xAt K 2 0)) (tVar 1)) (gSub (tVar 2) (tC (.int 0)) rSetL))
  (tSeq (tIfS (tB (tEqI (xAt K 2 0) (tC (.int 0)))) (tDrop (tBM K "list" rPopAt (tVar 2) (tCons (tC (.int 0)) tNil))) tNext) (tRet (tVar 3))))
def t_drawM (a b c : Int) : TS := tAsg (tOp rMod (tInt (tOp rMul (tVar 4) (tOp rAdd (tOp rDiv (tVar 4) (tC (.int a))) (tC (.int b))))) (tC (.int c))) (gName 4)
def t_drawB (K : PySem.W.Frag) : TS := tSeq (tAsg (tOp rMod (tInt (tOp rMul (tOp rAdd (xAt K 0 0) (tOp rMul (tC (.int 7919)) (xAt K 0 1))) (tC (.int 48271)))) (tC (.int 2147483647))) (gName 4))
  (tSeq (t_drawM 1009 69621 2147483647) (tSeq (t_drawM 2003 40692 2147483399) (tRet (tOp rMod (tInt (tOp rDiv (tVar 4) (tC (.int 16)))) (tVar 1)))))
def t_draw (K : PySem.W.Frag) : TS := tSeq (tAsg (tOp rAdd (xAt K 0 1) (tC (.int 1))) (gSub (tVar 0) (tC (.int 1)) rSetL))
  (tSeq (tAsg (xAt K 0 2) (gName 2)) (tSeq (tIfS (tB (tGt (tCB (rLn K) (tCons (tVar 2) tNil)) (tC (.int 0)))) (t_drawA K) tNext) (t_drawB K)))
theorem drawM_ok {a b c m : Int} {D : Ends} {σ : L2.St} {H : Hp} (ha : 0 < a ∧ a < 1073741824) (hc : 0 < c ∧ c < 2 ^ 40) (h4 : σ[4]? = some (some (.int m))) (hm : 0 ≤ m ∧ m < 2 ^ 40) (q : ∀ m', 0 ≤ m' → m' < c → D.nx (σ.set 4 (some (.int m'))) H) : t_drawM a b c D σ H := by
  refine ⟨_, h4, _, h4, m, a, rfl, rfl, ha, _, _, rfl, rfl, m, _, rfl, rfl, .inl ⟨by omega, by omega⟩, .inl ⟨_, rfl, ?_⟩⟩
  exact ⟨_, c, rfl, rfl, hc.1, q _ (Int.emod_nonneg _ (by omega)) (Int.emod_lt_of_pos _ hc.1)⟩
theorem drawB_ok {K : PySem.W.Frag} {D : Ends} {σ : L2.St} {H : Hp} {a : Addr} {s t m : Int} {c : V} (hl : 4 < σ.length) (h0 : σ[0]? = some (some (.ref a))) (h1 : σ[1]? = some (some (.int m))) (hm : 0 < m) (hp : H a = some (.lst [.int s, .int t, c])) (q : ∀ d, 0 ≤ d → d < m → D.rt (.int d) H) : t_drawB K D σ H := by
  have hq : SqL K H a [.int s, .int t, c] := SqL.of hp
  refine ⟨_, h0, a, _, 0, .int s, rfl, rfl, hq, rfl, _, h0, a, _, 1, .int t, rfl, rfl, hq, rfl, 7919, t, rfl, rfl, .inl ⟨by omega, by omega⟩, s, _, rfl, rfl, _, 48271, rfl, rfl, .inr ⟨by omega, by omega⟩, .inl ⟨_, rfl, ?_⟩⟩
  refine ⟨_, 2147483647, rfl, rfl, by omega, ?_⟩
  have g4 : ∀ (τ : L2.St) (z : V), 4 < τ.length → (τ.set 4 (some z))[4]? = some (some z) := fun τ z h => List.getElem?_set_self h
  refine drawM_ok ⟨by omega, by omega⟩ ⟨by omega, by omega⟩ (g4 _ _ hl) ⟨Int.emod_nonneg _ (by omega), Int.lt_trans (Int.emod_lt_of_pos _ (by omega)) (by omega)⟩ fun m1 a1 a2 => ?_
  refine drawM_ok ⟨by omega, by omega⟩ ⟨by omega, by omega⟩ (g4 _ _ (by simpa using hl)) ⟨a1, by omega⟩ fun m2 b1 b2 => ?_
  refine ⟨_, g4 _ _ (by simpa using hl), m2, 16, rfl, rfl, ⟨by omega, by omega⟩, .inl ⟨_, rfl, .int m, ?_, _, m, rfl, rfl, hm, q _ (Int.emod_nonneg _ (by omega)) (Int.emod_lt_of_pos _ hm)⟩⟩
  simp only [List.getElem?_set_ne (show (4 : Nat) ≠ 1 by decide)]
  exact h1
theorem drawA_ok {K : PySem.W.Frag} {D : Ends} {σ : L2.St} {H : Hp} {c : Addr} {x m : Int} {r : List Int} (hl : 4 < σ.length) (h1 : σ[1]? = some (some (.int m))) (h2 : σ[2]? = some (some (.ref c))) (hm : 0 < m ∧ m < 1073741824) (hp : H c = some (.lst ((x :: r).map V.int)))
    (q : ∀ d (cs : List Int), 0 ≤ d → d < m → D.rt (.int d) (upd H c (.lst (cs.map V.int)))) : t_drawA K D σ H := by
  have hq : SqL K H c ((x :: r).map V.int) := SqL.of hp
  have at0 : ∀ (y : Int), atI ((y :: r).map V.int) 0 = some (.int y) := fun y => by
    have e : ixN ((y :: r).map V.int).length 0 = some 0 := by unfold ixN; rw [if_pos (by decide), if_pos (by simp)]; rfl
    unfold atI
    rw [e]
    rfl
  have h2' : (σ.set 3 (some (.int (x % m))))[2]? = some (some (.ref c)) := by rw [List.getElem?_set_ne (by decide)]; exact h2
  have h1' : (σ.set 3 (some (.int (x % m))))[1]? = some (some (.int m)) := by rw [List.getElem?_set_ne (by decide)]; exact h1
  have h3' : (σ.set 3 (some (.int (x % m))))[3]? = some (some (.int (x % m))) := List.getElem?_set_self (by omega)
  have d0 := Int.emod_nonneg x (b := m) (by omega)
  have d1 := Int.emod_lt_of_pos x hm.1
  refine ⟨_, h2, c, _, 0, .int x, rfl, rfl, hq, at0 x, .inl ⟨x, rfl, _, h1, x, m, rfl, rfl, hm.1, ?_⟩⟩
  refine ⟨_, h2', c, _, 0, .int x, rfl, rfl, hq, at0 x, .inl ⟨x, rfl, _, h1', x, m, rfl, rfl, hm, ?_⟩⟩
  refine ⟨_, h2', c, _, 0, 0, rfl, rfl, hp, by unfold ixN; rw [if_pos (by decide), if_pos (by simp)]; rfl, ?_⟩
  have hp2 : upd H c (.lst (((x :: r).map V.int).set 0 (.int (x / m)))) c = some (.lst ((x / m :: r).map V.int)) := by rw [upd_same]; rfl
  refine ⟨_, h2', c, _, 0, .int (x / m), rfl, rfl, SqL.of hp2, at0 (x / m), x / m, 0, rfl, rfl, ?_⟩
  refine ⟨_, rfl, ?_⟩
  dsimp only
  by_cases hz : x / m = 0
  · rw [if_pos (decide_eq_true hz)]
    refine ⟨_, h2', .inl ⟨rfl, _, SqL.of hp2⟩, c, _, 0, 0, .int (x / m), rfl, rfl, hp2, by decide, by decide, by simp [seqIndex?], rfl, ?_⟩
    refine ⟨_, h3', ?_⟩
    rw [upd_upd]
    exact q _ r d0 d1
  · rw [if_neg (by rw [decide_eq_false hz]; exact Bool.false_ne_true)]
    exact ⟨_, h3', q _ (x / m :: r) d0 d1⟩
theorem draw_ok {K : PySem.W.Frag} {J : JS} (JP : JPool J) {vs : List V} {H : Hp} {Q : VK} {E : XK} (h : SpD K J R_u_law_draw vs H Q E) : t_draw K { nx := fun _ H' => Q .non H', rt := Q } (L2.start N_u_law_draw vs) H := by
  obtain ⟨W, ds, Rd, Xd, w, hv, ⟨m, rfl, m0, m1, hR⟩, hq, _⟩ := h
  cases hv with
  | cons hp hv =>
    cases hv with
    | cons hm hv =>
      cases hv
      cases hm
      cases hp with
      | @cell a _ _ hj =>
        obtain ⟨o, ho, hP⟩ := w.j a 0 [] hj
        obtain ⟨s, t, c, rfl, hc⟩ := (JP.p0 _ _ _).mp hP
        obtain ⟨o2, ho2, hP2⟩ := w.j c 1 [] hc
        obtain ⟨cs, rfl⟩ := (JP.p1 _ _ _).mp hP2
        have hq0 : SqL K H a [.int s, .int t, .ref c] := SqL.of ho
        refine ⟨_, rfl, a, _, 1, .int t, rfl, rfl, hq0, rfl, t, 1, rfl, rfl, _, rfl, a, _, 1, 1, rfl, rfl, ho, rfl, ?_⟩
        have hH1 : upd H a (.lst ([V.int s, .int t, .ref c].set 1 (.int (t + 1)))) a = some (.lst [.int s, .int (t + 1), .ref c]) := by rw [upd_same]; rfl
        have w1 : WOk J W (upd H a (.lst ([V.int s, .int t, .ref c].set 1 (.int (t + 1))))) := w.jput hj ((JP.p0 _ _ _).mpr ⟨s, t + 1, c, rfl, hc⟩)
        have y1 : Stp W H W (upd H a (.lst ([V.int s, .int t, .ref c].set 1 (.int (t + 1))))) := .jput (.inr (by rw [hj]; simp))
        have hca : c ≠ a := fun z => by subst z; rw [hj] at hc; cases hc
        have hc2 : upd H a (.lst ([V.int s, .int t, .ref c].set 1 (.int (t + 1)))) c = some (.lst (cs.map V.int)) := by rw [upd_ne hca]; exact ho2
        revert hH1 w1 y1 hc2
        generalize upd H a (.lst ([V.int s, .int t, .ref c].set 1 (.int (t + 1)))) = H1
        intro hH1 w1 y1 hc2
        refine ⟨_, rfl, a, _, 2, .ref c, rfl, rfl, SqL.of hH1, rfl, ?_⟩
        have out : ∀ d, 0 ≤ d → d < m → ∀ H2, WOk J W H2 → Stp W H W H2 → Q (.int d) H2 := fun d h0 h1 H2 w2 y2 => hq _ _ W H2 (hR d h0 h1) w2 y2 (Dn.int d)
        refine ⟨_, rfl, c, _, rfl, .inl (SqL.of hc2), ((cs.map V.int).length : Int), 0, rfl, rfl, _, rfl, ?_⟩
        cases cs with
        | nil =>
          dsimp only
          rw [if_neg (by simp)]
          exact drawB_ok (c := .ref c) (show 4 < 5 by decide) rfl rfl m0 hH1 fun d h0 h1 => out d h0 h1 H1 w1 y1
        | cons x r =>
          dsimp only
          rw [if_pos (by simp)]
          refine drawA_ok (show 4 < 5 by decide) rfl rfl ⟨m0, m1⟩ hc2 fun d cs' h0 h1 => out d h0 h1 _ (w1.jput hc ((JP.p1 _ _ _).mpr ⟨cs', rfl⟩)) (y1.trans (.jput (.inr (by rw [hc]; simp))) w w1)
end DL
set_option Elab.async false
set_option linter.all false
set_option maxRecDepth 100000
set_option maxHeartbeats 4000000
namespace DL
open PySem PySem.Spec PyProof.Rows L2
/-! ### cells that keep an invariant are made -/
def Wd.addj (W : Wd) (a : Addr) (t : Nat × List D) : Wd := ⟨W.fro, fun b => if b = a then some t else W.jn b, W.lk⟩
theorem Wd.addj_at {W : Wd} {a : Addr} {t : Nat × List D} : (W.addj a t).jn a = some t := if_pos rfl
theorem Wd.le_addj {W : Wd} {a : Addr} {t : Nat × List D} (n : ¬ W.has a) : W.le (W.addj a t) := ⟨fun _ _ h => h, fun b u h => by
  have hb : b ≠ a := fun q => n (q ▸ .inr (by rw [h]; simp))
  show (if b = a then _ else _) = _
  rw [if_neg hb]; exact h, fun _ _ => rfl⟩
theorem Wd.has_addj {W : Wd} {a b : Addr} {t : Nat × List D} (h : (W.addj a t).has b) : W.has b ∨ b = a := by
  by_cases hb : b = a
  · exact .inr hb
  · rcases h with h | h
    · exact .inl (.inl h)
    · refine .inl (.inr ?_)
      have : (W.addj a t).jn b = W.jn b := if_neg hb
      rwa [this] at h
theorem WOk.addj {J : JS} {W : Wd} {H : Hp} {a : Addr} {n : Nat} {ds : List D} {o : HO} (w : WOk J W H) (nh : ¬ W.has a) (ha : H a = some o) (p : J.P n ds (W.addj a (n, ds)) o) : WOk J (W.addj a (n, ds)) H where
  f := fun b u e => by
    have : Held W H b u := w.f b u e
    exact this
  j := fun b m es e => by
    by_cases hb : b = a
    · subst hb
      rw [Wd.addj_at] at e
      cases e
      exact ⟨o, ha, p⟩
    · have e' : W.jn b = some (m, es) := by
        have : (W.addj a (n, ds)).jn b = W.jn b := if_neg hb
        rw [← this]; exact e
      obtain ⟨u, h1, h2⟩ := w.j b m es e'
      exact ⟨u, h1, J.mono (Wd.le_addj nh).f (Wd.le_addj nh).j h2⟩
  d := fun b h => by
    have hb : b ≠ a := fun q => nh (q ▸ .inl h)
    show (if b = a then _ else _) = _
    rw [if_neg hb]
    exact w.d b h
  n := w.n
/-- a def's last row at the layer below -/
def lastS (fin : TS) : TS := fin
abbrev N_u_law_pool : List Str := ["script", "seed", "cell"]
abbrev P_u_law_pool : List Str := ["script"]
def intD (ns : List Int) : List D := ns.map D.int
def R_u_law_pool : SpecD := fun ds R _ => ∃ ns : List Int, ds = [.scr (intD ns)] ∧ ns.length < 64 ∧ R (.fro (.cell 0 []))
def T_pool1 : TDS := (dSet 1 (dOp fAdd (dOp fAdd (dOp (fI (fun _ j => 0 < j) fun i j => i % j) (dCB (f1i .int) (bCons (dCB fSum (bCons (dSl (dVar 0) oNone (oSome (dC (.fro (.int 1))))) bNil)) bNil)) (dC (.fro (.int 1000003)))) (dCB fLen (bCons (dVar 0) bNil))) (dC (.fro (.int 1)))))
def T_pool2 : TDS := (dFor (dSeqOf (dSl (dVar 0) oNone (oSome (dC (.fro (.int 63)))))) (dgName 2) (dSet 1 (dOp (fI (fun _ j => 0 < j) fun i j => i % j) (dCB (f1i .int) (bCons (dOp fAdd (dOp fAdd (dOp fMulA (dVar 1) (dC (.fro (.int 48271)))) (dOp (fI (fun _ j => 0 < j) fun i j => i % j) (dCB (f1i .int) (bCons (dVar 2) bNil)) (dC (.fro (.int 2147483629))))) (dC (.fro (.int 11)))) bNil)) (dC (.fro (.int 2147483647))))))
theorem intsOf_intD : ∀ ns : List Int, intsOf (intD ns) = some ns
  | [] => rfl
  | n :: r => by
    show (intsOf (intD r)).map (n :: ·) = _
    rw [intsOf_intD r]
    rfl
theorem cut_intD (ns : List Int) (lo hi : Option Int) : ∃ ms : List Int, cutD (intD ns) lo hi = intD ms ∧ ms.length ≤ HT.sIx ns.length ns.length hi := by
  refine ⟨(ns.drop (HT.sIx ns.length 0 lo)).take (HT.sIx ns.length ns.length hi - HT.sIx ns.length 0 lo), ?_, ?_⟩
  · unfold cutD intD
    rw [List.length_map, List.map_take, List.map_drop]
  · rw [List.length_take]
    omega
def ΔP (ns : List Int) (s : Int) (z : Option Sd) : Dl := [some (.fro (.scr (intD ns))), some (.fro (.int s)), z]
theorem pool1_ok (ns : List Int) (DD : EndsD) (q : ∀ s, 0 ≤ s → s < 2 ^ 40 → DD.nx (ΔP ns s none)) (hn : ns.length < 64) : T_pool1 DD (startD N_u_law_pool [.scr (intD ns)]) := by
  obtain ⟨ms, hms, _⟩ := cut_intD ns none (some 1)
  unfold T_pool1
  simp only [dSeq, dNext, dRet, dRetN, dIfS, dSet, dDrop, dFor, dWhile, dAppend, dExtend, dSetX, dAsgG, dAsgX, dAugI, dgName, dgCons, dgNil, dgTup, dVar, dC, dOp, dCB, dCall, dTup, dLst, dCons, dNil, bCons, bNil, dSl, oNone, oSome, dTst, tstB, dAnd, dOr, dNot, vAnd, vOr, vNot, dIf, dUn, dChain, chN, dSeqOf, dTupOf, dStrOf, dRng, dEnum, dIsN, isNQ, sFrz, dLc, dRev, dFz, bodyD, startD, Sd.view, Sd.dat, Sd.stored, Sd.ret, fAdd, fSub, fMulA, fI, fCI, fCmp, fEq, fIn, fInS, fIx, fSl, fLen, fIsi, fSum, f1i, f2i, fTupOf, fLstOf, fBl, fSort, fDictP, fRev, fNeg, fDin, fDget, keyD, xOf, xPop, xSl, ownAt, seqOf, seqD, dExtendX, List.set_cons_zero, List.set_cons_succ, List.getElem?_cons_zero, List.getElem?_cons_succ, List.map_cons, List.map_nil, List.cons_append, List.nil_append, List.length_cons, List.length_nil, List.replicate_succ, List.replicate_zero, if_true, if_false, Bool.false_eq_true, Bool.not_true, Bool.not_false, hms, intsOf_intD]
  have hl : (intD ns).length = ns.length := List.length_map _
  exact ⟨by decide, trivial, q _ (by rw [hl]; omega) (by rw [hl]; omega)⟩
theorem pool2_for (ns : List Int) (DD : EndsD) (tb : TDS) (hq : ∀ s z, 0 ≤ s → s < 2 ^ 40 → DD.nx (ΔP ns s z))
    (turn : ∀ (D' : EndsD) (s : Int) (c : Int), 0 ≤ s → s < 2 ^ 40 → (∀ s', 0 ≤ s' → s' < 2 ^ 40 → D'.nx (ΔP ns s' (some (.fro (.int c))))) → tb D' (ΔP ns s (some (.fro (.int c))))) :
    ∀ (ms : List Int) (s : Int) (z : Option Sd), 0 ≤ s → s < 2 ^ 40 → forR (dgName 2) tb DD (intD ms) (ΔP ns s z)
  | [], s, z, h0, h1 => hq s z h0 h1
  | c :: r, s, z, h0, h1 => turn _ s c h0 h1 fun s' a b => pool2_for ns DD tb hq turn r s' _ a b
theorem pool2_ok (ns : List Int) (DD : EndsD) (s : Int) (z : Option Sd) (h0 : 0 ≤ s) (h1 : s < 2 ^ 40) (q : ∀ s z, 0 ≤ s → s < 2 ^ 40 → DD.nx (ΔP ns s z)) : T_pool2 DD (ΔP ns s z) := by
  obtain ⟨ms, hms, _⟩ := cut_intD ns none (some 63)
  unfold T_pool2
  unfold dFor
  simp only [dSeqOf, dSl, dVar, ΔP, oNone, oSome, dC, fSl, Sd.view, Sd.dat, sFrz, List.getElem?_cons_zero, hms]
  refine pool2_for ns DD _ q (fun D' s c h0 h1 q => ?_) ms s z h0 h1
  unfold ΔP at *
  simp only [dSeq, dNext, dRet, dRetN, dIfS, dSet, dDrop, dFor, dWhile, dAppend, dExtend, dSetX, dAsgG, dAsgX, dAugI, dgName, dgCons, dgNil, dgTup, dVar, dC, dOp, dCB, dCall, dTup, dLst, dCons, dNil, bCons, bNil, dSl, oNone, oSome, dTst, tstB, dAnd, dOr, dNot, vAnd, vOr, vNot, dIf, dUn, dChain, chN, dSeqOf, dTupOf, dStrOf, dRng, dEnum, dIsN, isNQ, sFrz, dLc, dRev, dFz, bodyD, startD, Sd.view, Sd.dat, Sd.stored, Sd.ret, fAdd, fSub, fMulA, fI, fCI, fCmp, fEq, fIn, fInS, fIx, fSl, fLen, fIsi, fSum, f1i, f2i, fTupOf, fLstOf, fBl, fSort, fDictP, fRev, fNeg, fDin, fDget, keyD, xOf, xPop, xSl, ownAt, seqOf, seqD, dExtendX, List.set_cons_zero, List.set_cons_succ, List.getElem?_cons_zero, List.getElem?_cons_succ, List.map_cons, List.map_nil, List.cons_append, List.nil_append, List.length_cons, List.length_nil, List.replicate_succ, List.replicate_zero, if_true, if_false, Bool.false_eq_true, Bool.not_true, Bool.not_false]
  exact ⟨.inr ⟨by omega, by omega⟩, by decide, by decide, trivial, q _ (Int.emod_nonneg _ (by decide)) (Int.lt_trans (Int.emod_lt_of_pos _ (by decide)) (by decide))⟩
def T_pool3 : TD := (dLc (dSeqOf (dSl (dVar 0) oNone (oSome (dC (.fro (.int 63)))))) (dgName 2) (dTst (dOp (fCI pGe) (dCB (f1i gAbs) (bCons (dVar 2) bNil)) (dOp (fI CPow fun i j => i ^ j.toNat) (dC (.fro (.int 10))) (dC (.fro (.int 18)))))) (dCB (f1i gAbs) (bCons (dVar 2) bNil)) [2])
theorem pool3_lc (Δ0 : Dl) (g : TDG) (tt : TDT) (te : TD) (hg : ∀ c (Q : Dl → Prop), (∀ Δ2, (∀ Q' : Bool → Prop, (∀ b, Q' b) → tt Δ2 Q' noE) → (∀ Q' : Sd → Prop, (∀ n, Q' (.fro (.int n))) → te Δ2 Q' noE) → Q Δ2) → g (.int c) Δ0 Q) (Q : List D → Prop) (hQ : ∀ cs : List Int, Q (intD cs)) :
    ∀ (ms acc : List Int), ms.length + acc.length < 1000 → lcR g tt te Δ0 (intD ms) (intD acc) Q
  | [], acc, _ => hQ acc
  | c :: r, acc, h => by
    show g (.int c) Δ0 _
    refine hg c _ fun Δ2 h1 h2 => h1 _ fun b => ?_
    cases b with
    | false =>
      rw [if_neg Bool.false_ne_true]
      exact pool3_lc Δ0 g tt te hg Q hQ r acc (by simp at h; omega)
    | true =>
      rw [if_pos rfl]
      refine h2 _ fun n => ⟨?_, ?_⟩
      · have : (intD acc).length = acc.length := List.length_map _
        rw [this, sizeLine_eq]
        simp at h
        omega
      · have e : intD acc ++ [D.int n] = intD (acc ++ [n]) := by unfold intD; simp
        rw [e]
        exact pool3_lc Δ0 g tt te hg Q hQ r (acc ++ [n]) (by simp at h ⊢; omega)
theorem pool3_ok (ns : List Int) (s : Int) (z : Option Sd) (Q : Sd → Prop) (E : ED → Prop) (q : ∀ cs : List Int, Q (.own (intD cs))) : T_pool3 (ΔP ns s z) Q E := by
  obtain ⟨ms, hms, hl⟩ := cut_intD ns none (some 63)
  have e63 : HT.sIx ns.length ns.length (some 63) = min 63 ns.length := HT.sIx_nat ns.length ns.length 63
  have hl : ms.length ≤ 63 := by omega
  unfold T_pool3
  unfold dLc
  simp only [dSeqOf, dSl, dVar, ΔP, oNone, oSome, dC, fSl, Sd.view, Sd.dat, sFrz, List.getElem?_cons_zero, hms]
  refine pool3_lc _ _ _ _ (fun c Q h => ?_) _ q ms [] (by simp; omega)
  refine h _ (fun Q' h' => ?_) (fun Q' h' => ?_)
  · simp only [dSeq, dNext, dRet, dRetN, dIfS, dSet, dDrop, dFor, dWhile, dAppend, dExtend, dSetX, dAsgG, dAsgX, dAugI, dgName, dgCons, dgNil, dgTup, dVar, dC, dOp, dCB, dCall, dTup, dLst, dCons, dNil, bCons, bNil, dSl, oNone, oSome, dTst, tstB, dAnd, dOr, dNot, vAnd, vOr, vNot, dIf, dUn, dChain, chN, dSeqOf, dTupOf, dStrOf, dRng, dEnum, dIsN, isNQ, sFrz, dLc, dRev, dFz, bodyD, startD, Sd.view, Sd.dat, Sd.stored, Sd.ret, fAdd, fSub, fMulA, fI, fCI, fCmp, fEq, fIn, fInS, fIx, fSl, fLen, fIsi, fSum, f1i, f2i, fTupOf, fLstOf, fBl, fSort, fDictP, fRev, fNeg, fDin, fDget, keyD, xOf, xPop, xSl, ownAt, seqOf, seqD, dExtendX, List.set_cons_zero, List.set_cons_succ, List.getElem?_cons_zero, List.getElem?_cons_succ, List.map_cons, List.map_nil, List.cons_append, List.nil_append, List.length_cons, List.length_nil, List.replicate_succ, List.replicate_zero, if_true, if_false, Bool.false_eq_true, Bool.not_true, Bool.not_false, wipeD]
    exact ⟨⟨by decide, by decide, by decide⟩, h' _⟩
  · simp only [dSeq, dNext, dRet, dRetN, dIfS, dSet, dDrop, dFor, dWhile, dAppend, dExtend, dSetX, dAsgG, dAsgX, dAugI, dgName, dgCons, dgNil, dgTup, dVar, dC, dOp, dCB, dCall, dTup, dLst, dCons, dNil, bCons, bNil, dSl, oNone, oSome, dTst, tstB, dAnd, dOr, dNot, vAnd, vOr, vNot, dIf, dUn, dChain, chN, dSeqOf, dTupOf, dStrOf, dRng, dEnum, dIsN, isNQ, sFrz, dLc, dRev, dFz, bodyD, startD, Sd.view, Sd.dat, Sd.stored, Sd.ret, fAdd, fSub, fMulA, fI, fCI, fCmp, fEq, fIn, fInS, fIx, fSl, fLen, fIsi, fSum, f1i, f2i, fTupOf, fLstOf, fBl, fSort, fDictP, fRev, fNeg, fDin, fDget, keyD, xOf, xPop, xSl, ownAt, seqOf, seqD, dExtendX, List.set_cons_zero, List.set_cons_succ, List.getElem?_cons_zero, List.getElem?_cons_succ, List.map_cons, List.map_nil, List.cons_append, List.nil_append, List.length_cons, List.length_nil, List.replicate_succ, List.replicate_zero, if_true, if_false, Bool.false_eq_true, Bool.not_true, Bool.not_false, wipeD]
    exact h' _
def t_poolL (K : PySem.W.Frag) (J : JS) (Wx : WX) : TS := tRet (tLst (tCons (tVar 1) (tCons (tC (.int 0)) (tCons (liftE K J Wx T_pool3) tNil))))
theorem poolL_ok {K : PySem.W.Frag} {J : JS} (JP : JPool J) {Wx : WX} {W0 W : Wd} {H0 H : Hp} {σ : L2.St} {ns : List Int} {s : Int} {z : Option Sd} {D : Ends} (st : Stt K J W0 H0 (ΔP ns s z) W σ H)
    (q : ∀ v W' H', WOk J W' H' → Stt K J W0 H0 (ΔP ns s z) W' σ H' → Dn K W' v (.cell 0 []) → D.rt v H') : t_poolL K J Wx D σ H := by
  obtain ⟨v, ev, rv⟩ := st.slot 1 (.fro (.int s)) rfl
  cases rv
  refine ⟨_, ev, W0, H0, ΔP ns s z, W, fun s => ∃ cs, s = .own (intD cs), fun _ => False, st, pool3_ok ns s z _ _ fun cs => ⟨cs, rfl⟩, fun s3 v3 W3 H3 hs st3 y3 r3 => ?_, fun e cls d W' H' h => h.elim⟩
  obtain ⟨cs, rfl⟩ := hs
  obtain ⟨⟨c, vs, rfl, hc, nc, rc⟩, hn⟩ := r3
  have evs : vs = cs.map V.int := rc.ints (intsOf_intD cs)
  subst evs
  refine ⟨by show 3 ≤ sizeLine; decide, fun p hp => ?_⟩
  have hpc : p ≠ c := fun e => by subst e; rw [hp] at hc; cases hc
  -- the two cells come to keep their invariants
  have w4 : WOk J (W3.addj c (1, [])) H3 := st3.wok.addj nc hc ((JP.p1 _ _ _).mpr ⟨cs, rfl⟩)
  have hp0 : H p = none := by
    cases e : H p with
    | none => rfl
    | some o =>
      by_cases hw : W.has p
      · obtain ⟨o', e'⟩ := st3.wok.there (y3.le.has hw)
        rw [hp] at e'; cases e'
      · rw [y3.keep p o e hw] at hp; cases hp
  have hc0 : H c = none := hn c rfl
  have np : ¬ (W3.addj c (1, [])).has p := fun h => by
    rcases Wd.has_addj h with h | h
    · exact st3.wok.fresh hp h
    · exact hpc h
  have w5 : WOk J (W3.addj c (1, [])) (upd H3 p (.lst [.int s, .int 0, .ref c])) := w4.laid hp
  have w6 : WOk J ((W3.addj c (1, [])).addj p (0, [])) (upd H3 p (.lst [.int s, .int 0, .ref c])) := by
    refine w5.addj np upd_same ((JP.p0 _ _ _).mpr ⟨s, 0, c, rfl, ?_⟩)
    show (if c = p then _ else (W3.addj c (1, [])).jn c) = _
    rw [if_neg (Ne.symm hpc)]
    exact Wd.addj_at
  have y6 : Stp W H ((W3.addj c (1, [])).addj p (0, [])) (upd H3 p (.lst [.int s, .int 0, .ref c])) := {
    le := (y3.le.trans (Wd.le_addj nc)).trans (Wd.le_addj np)
    keep := fun b o e n => by
      have hb : b ≠ p := fun z => by subst z; rw [hp0] at e; cases e
      rw [upd_ne hb]
      exact y3.keep b o e n
    new := fun b h => by
      rcases Wd.has_addj h with h | h
      · rcases Wd.has_addj h with h | h
        · exact y3.new b h
        · subst h; exact .inr hc0
      · subst h; exact .inr hp0 }
  exact q _ _ _ w6 (st.stp y6 w6) (.cell Wd.addj_at)
/-- the whole of it -/
def t_pool (K : PySem.W.Frag) (J : JS) (Wx : WX) : TS := tSeq (liftS K J Wx T_pool1) (tSeq (liftS K J Wx T_pool2) (t_poolL K J Wx))
theorem pool_ok {K : PySem.W.Frag} {J : JS} (JP : JPool J) {Wx : WX} {W : Wd} {H : Hp} {D : Ends} {vs : List V} {ns : List Int} (w : WOk J W H) (hv : Dns K W vs [.scr (intD ns)]) (hn : ns.length < 64)
    (q : ∀ v W' H', WOk J W' H' → Stp W H W' H' → Dn K W' v (.cell 0 []) → D.rt v H') : t_pool K J Wx D (L2.start N_u_law_pool vs) H := by
  have noX : ∀ {W0 : Wd} {H0 : Hp} {Wb : Wd} {nx : Dl → Prop} {D' : Ends}, (∀ Δ W σ H, nx Δ → Stt K J W0 H0 Δ W σ H → Wb.le W → D'.nx σ H) → LkS K J Wx W0 H0 Wb { nx := nx, rt := fun _ => False } D' := fun h =>
    { nx := h, bk := fun _ _ _ _ z => z.elim, ct := fun _ _ _ _ z => z.elim, rt := fun _ _ _ _ _ _ z => z.elim, ex := fun _ _ _ _ _ _ _ z => z.elim }
  refine ⟨W, H, startD N_u_law_pool [.scr (intD ns)], W, { nx := fun Δ => ∃ s, 0 ≤ s ∧ s < 2 ^ 40 ∧ Δ = ΔP ns s none, rt := fun _ => False }, start_ok w hv, pool1_ok ns _ (fun s a b => ⟨s, a, b, rfl⟩) hn, noX fun Δ W1 σ1 H1 hΔ st1 le1 => ?_⟩
  obtain ⟨s, a, b, rfl⟩ := hΔ
  refine ⟨W, H, ΔP ns s none, W1, { nx := fun Δ => ∃ s z, Δ = ΔP ns s z, rt := fun _ => False }, st1, pool2_ok ns _ s none a b (fun s z _ _ => ⟨s, z, rfl⟩), noX fun Δ W2 σ2 H2 hΔ st2 le2 => ?_⟩
  obtain ⟨s2, z2, rfl⟩ := hΔ
  exact poolL_ok JP st2 fun v W' H' w' st' r' => q v W' H' w' ⟨st'.ext, st'.frm, st'.new⟩ r'
end DL
set_option Elab.async false
set_option linter.all false
set_option maxRecDepth 100000
set_option maxHeartbeats 4000000
namespace DL
open PySem PySem.Spec PyProof.Rows L2
/-! ### what is told by one way -/
def Ev (t : TD) (Δ : Dl) (E : ED → Prop) (s : Sd) : Prop := ∀ Q : Sd → Prop, Q s → t Δ Q E
def EvT (t : TDT) (Δ : Dl) (E : ED → Prop) (b : Bool) : Prop := ∀ Q : Bool → Prop, Q b → t Δ Q E
def EvA (t : TDA) (Δ : Dl) (E : ED → Prop) (ds : List D) : Prop := ∀ Q : List D → Prop, Q ds → t Δ Q E
def EvB (t : TDB) (Δ : Dl) (E : ED → Prop) (ss : List Sd) : Prop := ∀ Q : List Sd → Prop, Q ss → t Δ Q E
section
variable {Δ : Dl} {E : ED → Prop} {t ta tb : TD} {tA : TDA} {tB : TDB} {cc cd : TDT} {s x y z : Sd} {d : D} {ds : List D} {ss : List Sd} {b b' : Bool}
theorem Ev.var {i : Nat} (h : Δ[i]? = some (some s)) : Ev (dVar i) Δ E s.view := fun Q q => by
  unfold dVar
  rw [h]
  exact q
theorem Ev.varF {i : Nat} (h : Δ[i]? = some (some (.fro d))) : Ev (dVar i) Δ E (.fro d) := Ev.var h
theorem Ev.c : Ev (dC s) Δ E s := fun Q q => q
theorem Ev.op {f : Sd → Sd → (Sd → Prop) → Prop} (ha : Ev ta Δ E x) (hb : Ev tb Δ E y) (ho : ∀ Q : Sd → Prop, Q z → f x y Q) : Ev (dOp f ta tb) Δ E z := fun Q q => ha _ (hb _ (ho Q q))
theorem Ev.un {f : Sd → (Sd → Prop) → Prop} (ha : Ev ta Δ E x) (ho : ∀ Q : Sd → Prop, Q z → f x Q) : Ev (dUn f ta) Δ E z := fun Q q => ha _ (ho Q q)
theorem EvA.nil : EvA dNil Δ E [] := fun Q q => q
theorem EvA.cons {u : TDA} (h : Ev t Δ E (.fro d)) (g : EvA u Δ E ds) : EvA (dCons t u) Δ E (d :: ds) := fun Q q => h _ (g _ q)
theorem EvA.consL {u : TDA} {xs : List D} (h : Ev t Δ E (.own xs)) (g : EvA u Δ E ds) : EvA (dCons t u) Δ E (.lst xs :: ds) := fun Q q => h _ (g _ q)
theorem EvA.consD {u : TDA} {xs : List (Key × D)} (h : Ev t Δ E (.ownd xs)) (g : EvA u Δ E ds) : EvA (dCons t u) Δ E (.dic xs :: ds) := fun Q q => h _ (g _ q)
theorem EvB.nil : EvB bNil Δ E [] := fun Q q => q
theorem EvB.cons {u : TDB} (h : Ev t Δ E s) (g : EvB u Δ E ss) : EvB (bCons t u) Δ E (s :: ss) := fun Q q => h _ (g _ q)
theorem Ev.tup (h : EvA tA Δ E ds) (hl : ds.length ≤ sizeLine := by rw [sizeLine_eq]; simp only [List.length_cons, List.length_nil]; decide) : Ev (dTup tA) Δ E (.fro (.tup ds)) := fun Q q => h _ ⟨hl, q⟩
theorem Ev.lst (h : EvA tA Δ E ds) (hl : ds.length ≤ sizeLine := by rw [sizeLine_eq]; simp only [List.length_cons, List.length_nil]; decide) : Ev (dLst tA) Δ E (.own ds) := fun Q q => h _ ⟨hl, q⟩
theorem Ev.call {r : SpecD} (h : EvA tA Δ E ds) (hr : ∀ R : Sd → Prop, R s → r ds R E) : Ev (dCall r tA) Δ E s.ret := fun Q q => h _ (hr _ q)
theorem Ev.callF {r : SpecD} (h : EvA tA Δ E ds) (hr : ∀ R : Sd → Prop, R (.fro d) → r ds R E) : Ev (dCall r tA) Δ E (.fro d) := fun Q q => h _ (hr _ q)
theorem Ev.callL {r : SpecD} {xs : List D} (h : EvA tA Δ E ds) (hr : ∀ R : Sd → Prop, R (.own xs) → r ds R E) : Ev (dCall r tA) Δ E (.own xs) := fun Q q => h _ (hr _ q)
theorem Ev.cb {f : List Sd → (Sd → Prop) → Prop} (h : EvB tB Δ E ss) (hf : ∀ Q : Sd → Prop, Q z → f ss Q) : Ev (dCB f tB) Δ E z := fun Q q => h _ (hf Q q)
theorem Ev.fldA {cs : List Str} {f C : Str} {fs : List (Str × D)} (h : Ev t Δ E (.fro (.ins C fs))) (hC : C ∈ cs) (hf : fs.lookup f = some d) : Ev (dFldA cs f t) Δ E (.fro d) := fun Q q => h _ (by
  unfold fldAQ
  simp only [Sd.dat, hf]
  exact ⟨hC, q⟩)
theorem Ev.make {C : Str} {r : SpecO} {fs : List (Str × D)} (h : EvA tA Δ E ds) (hr : ∀ R : List (Str × D) → Prop, R fs → r [] ds R E) : Ev (dMake C r tA) Δ E (.fro (.ins C fs)) := fun Q q => h _ (hr _ q)
theorem Ev.and1 (ha : Ev ta Δ E (.fro (.bl true))) (hb : Ev tb Δ E z) : Ev (vAnd ta tb) Δ E z := fun Q q => ha _ (by simp only [tstB, if_true]; exact hb Q q)
theorem Ev.and0 (ha : Ev ta Δ E (.fro (.bl false))) : Ev (vAnd ta tb) Δ E (.fro (.bl false)) := fun Q q => ha _ (by simp only [tstB, Bool.false_eq_true, if_false]; exact q)
theorem Ev.andB (ha : Ev ta Δ E (.fro (.bl b))) (hb : b = true → Ev tb Δ E (.fro (.bl b'))) : Ev (vAnd ta tb) Δ E (.fro (.bl (b && b'))) := by
  cases b
  · exact .and0 ha
  · exact .and1 ha (hb rfl)
theorem Ev.or1 (ha : Ev ta Δ E (.fro (.bl true))) : Ev (vOr ta tb) Δ E (.fro (.bl true)) := fun Q q => ha _ (by simp only [tstB, if_true]; exact q)
theorem Ev.or0 (ha : Ev ta Δ E (.fro (.bl false))) (hb : Ev tb Δ E z) : Ev (vOr ta tb) Δ E z := fun Q q => ha _ (by simp only [tstB, Bool.false_eq_true, if_false]; exact hb Q q)
theorem Ev.not (ha : Ev ta Δ E (.fro (.bl b))) : Ev (vNot ta) Δ E (.fro (.bl (!b))) := fun Q q => ha _ q
theorem Ev.ife (h : EvT cc Δ E b) (h1 : b = true → Ev ta Δ E z) (h0 : b = false → Ev tb Δ E z) : Ev (dIf cc ta tb) Δ E z := fun Q q => h _ (by
  cases b
  · rw [if_neg (by decide)]; exact h0 rfl Q q
  · rw [if_pos rfl]; exact h1 rfl Q q)
theorem EvT.tst (h : Ev t Δ E (.fro (.bl b))) : EvT (dTst t) Δ E b := fun Q q => h _ q
theorem EvT.not (h : EvT cc Δ E b) : EvT (dNot cc) Δ E (!b) := fun Q q => h _ q
theorem EvT.orB (h : EvT cc Δ E b) (g : b = false → EvT cd Δ E b') : EvT (dOr cc cd) Δ E (b || b') := fun Q q => h _ (by
  cases b
  · rw [if_neg (by decide)]; exact g rfl Q q
  · rw [if_pos rfl]; exact q)
theorem EvT.andB (h : EvT cc Δ E b) (g : b = true → EvT cd Δ E b') : EvT (dAnd cc cd) Δ E (b && b') := fun Q q => h _ (by
  cases b
  · rw [if_neg (by decide)]; exact q
  · rw [if_pos rfl]; exact g rfl Q q)
theorem EvT.no (h : EvT cc Δ E false) (g : EvT cd Δ E false) : EvT (dOr cc cd) Δ E false := .orB h fun _ => g
theorem EvT.or1 (h : EvT cc Δ E true) : EvT (dOr cc cd) Δ E true := .orB (b' := true) h fun e => nomatch e
theorem EvT.yes (h : EvT cc Δ E true) (g : EvT cd Δ E true) : EvT (dAnd cc cd) Δ E true := .andB h fun _ => g
/-! statements -/
theorem seq_ev {u v : TDS} {DD : EndsD} (q : u { DD with nx := v DD } Δ) : dSeq u v DD Δ := q
theorem set_call {i : Nat} {r : SpecD} {DD : EndsD} (h : EvA tA Δ (fun e => DD.ex e Δ) ds) (hr : r ds (fun s => s.ret.stored = true ∧ DD.nx (Δ.set i (some s.ret))) (fun e => DD.ex e Δ)) : dSet i (dCall r tA) DD Δ := h _ hr
theorem set_ev {i : Nat} {DD : EndsD} (h : Ev t Δ (fun e => DD.ex e Δ) s) (hs : s.stored = true) (q : DD.nx (Δ.set i (some s))) : dSet i t DD Δ := h _ ⟨hs, q⟩
theorem ret_ev {DD : EndsD} (h : Ev t Δ (fun e => DD.ex e Δ) s) (q : DD.rt s.ret) : dRet t DD Δ := h _ q
theorem drop_ev {DD : EndsD} (h : Ev t Δ (fun e => DD.ex e Δ) s) (q : DD.nx Δ) : dDrop t DD Δ := h _ q
theorem if_ev {u v : TDS} {DD : EndsD} (h : EvT cc Δ (fun e => DD.ex e Δ) b) (h1 : b = true → u DD Δ) (h0 : b = false → v DD Δ) : dIfS cc u v DD Δ := h _ (by
  cases b
  · rw [if_neg (by decide)]; exact h0 rfl
  · rw [if_pos rfl]; exact h1 rfl)
theorem if_no {u v : TDS} {DD : EndsD} (h : EvT cc Δ (fun e => DD.ex e Δ) false) (h0 : v DD Δ) : dIfS cc u v DD Δ := if_ev h (fun e => nomatch e) fun _ => h0
theorem if_skip {u : TDS} {DD : EndsD} (h : EvT cc Δ (fun e => DD.ex e Δ) false) (q : DD.nx Δ) : dIfS cc u dNext DD Δ := if_no h q
theorem if_yes {u v : TDS} {DD : EndsD} (h : EvT cc Δ (fun e => DD.ex e Δ) true) (h1 : u DD Δ) : dIfS cc u v DD Δ := if_ev h (fun _ => h1) fun e => nomatch e
theorem app_ev {i : Nat} {xs : List D} {DD : EndsD} (hi : Δ[i]? = some (some (.own xs))) (h : Ev t Δ (fun e => DD.ex e Δ) (.fro d)) (hl : xs.length < sizeLine) (q : DD.nx (Δ.set i (some (.own (xs ++ [d]))))) : dAppend i t DD Δ := by
  unfold dAppend ownAt
  rw [hi]
  exact h _ ⟨hl, q⟩
end
/-! operations -/
theorem ixO {xs : List D} {i : Int} {d : D} (h : atI xs i = some d) : ∀ Q : Sd → Prop, Q (.fro d) → fIx (.fro (.tup xs)) (.fro (.int i)) Q := fun Q q => by
  simp only [fIx, Sd.dat, h]
  exact q
theorem ixL {xs : List D} {i : Int} {d : D} (h : atI xs i = some d) : ∀ Q : Sd → Prop, Q (.fro d) → fIx (.fro (.lst xs)) (.fro (.int i)) Q := fun Q q => by
  simp only [fIx, Sd.dat, h]
  exact q
theorem ixB {xs : List D} {i : Int} {d : D} (h : atI xs i = some d) : ∀ Q : Sd → Prop, Q (.fro d) → fIx (.brw xs) (.fro (.int i)) Q := fun Q q => by
  simp only [fIx, Sd.dat, h]
  exact q
theorem addT {xs ys : List D} (h : xs.length + ys.length ≤ sizeLine) : ∀ Q : Sd → Prop, Q (.fro (.tup (xs ++ ys))) → fAdd (.fro (.tup xs)) (.fro (.tup ys)) Q := fun Q q => ⟨h, q⟩
theorem lenT {xs : List D} : ∀ Q : Sd → Prop, Q (.fro (.int xs.length)) → fLen [.fro (.tup xs)] Q := fun Q q => q
theorem lenB {xs : List D} : ∀ Q : Sd → Prop, Q (.fro (.int xs.length)) → fLen [.brw xs] Q := fun Q q => q
theorem lenO {xs : List D} : ∀ Q : Sd → Prop, Q (.fro (.int xs.length)) → fLen [.own xs] Q := fun Q q => q
theorem lenL {xs : List D} : ∀ Q : Sd → Prop, Q (.fro (.int xs.length)) → fLen [.fro (.lst xs)] Q := fun Q q => q
theorem tupL {xs : List D} : ∀ Q : Sd → Prop, Q (.fro (.tup xs)) → fTupOf [.own xs] Q := fun Q q => q
theorem tupB {xs : List D} : ∀ Q : Sd → Prop, Q (.fro (.tup xs)) → fTupOf [.brw xs] Q := fun Q q => q
theorem tupT {xs : List D} : ∀ Q : Sd → Prop, Q (.fro (.tup xs)) → fTupOf [.fro (.tup xs)] Q := fun Q q => q
theorem tupF {xs : List D} : ∀ Q : Sd → Prop, Q (.fro (.tup xs)) → fTupOf [.fro (.lst xs)] Q := fun Q q => q
end DL
set_option Elab.async false
set_option linter.all false
set_option maxRecDepth 100000
set_option maxHeartbeats 4000000
namespace DX
open PySem PySem.W PySem.Calls PyProof.Rows
section
variable {prog : Program} {w : World} {A : Around} {E : Value → Shared → Prop} {K : Frag}
/-- super() in a method of the class at C itself, of an instance at x -/
theorem sup_base {s : Shared} {mg mb m : Str → Option Value} {L f cc cda x C : Addr} {ox : Obj} {odx : Option Obj} {body : List Stmt} {q : Str} {scope : Scope} {p0 p1 : Pos} {attr : Str} {whole : Sem Value} {fd : FuncData} {ar : Arg} {vs : Array Value} {file : Str} {tf : Tok} {oc ccl cl : Value} {od cdd cld : Option Addr} {osl ccs csl : Array (Option Value)} {cdD : ClassData} {Q : Value → Shared → Prop}
    (X : K.In s.heap) (hg : s.heap.Ns mainGlobals mg) (hb : s.heap.Ns builtinsNs mb) (hbb : mb "super" = bootBuiltins "super") (hm0 : mg "super" = none) (hns : s.heap.Ns L m)
    (hf : K.lookup f = some ⟨oc, od, .func fd, osl⟩) (hp : (fd.params.posonlyargs ++ fd.params.args).head? = some ar) (hv : m ar.arg = some (.ref x)) (I : InstAt s.heap x ox C odx)
    (hcode : K.lookup cda = some ⟨ccl, cdd, .fields vs, ccs⟩) (hvs : vs[2]? = some (.str file tf)) (hfile : ((prog.main.file : Str) == file) = true)
    (hcell : K.lookup cc = some ⟨cl, cld, .cell (some (.ref C)), csl⟩) (hD : clsIn K C = some cdD) (hsub : mroIn K C (.ref C) = some true)
    (hat : (attr == ("__class__" : Str)) = false) (hks : scope.names.lookup ("super" : Str) = some .globalImplicit) (hkc : scope.names.lookup ("__class__" : Str) = some .free) (hka : scope.names.lookup ar.arg = some .local) (hk : scope.kind = .function)
    (htop : (prog.main.scope.names.lookup ("super" : Str)).isSome = false)
    (h : ∀ h', (∀ b o, s.heap.get? b = some o → h'.get? b = some o) → h'.get? s.heap.objs.size = some (ks_superObj C x C) → Q (.ref s.heap.objs.size) { s with heap := h' }) :
    _root_.PySem.wpAt (model prog w) A (.func body (ksEnv q scope L f (.ref cda) cc)) (attributeBase (.Call (.Name "super" p0) [] [] p1) attr (ksEnv q scope L f (.ref cda) cc) whole) Q E s := by
  obtain ⟨hh, g, d, t, os⟩ := s
  obtain ⟨oD, hD1, hD2⟩ : ∃ oD, hh.get? C = some oD ∧ oD.data = .cls cdD := by
    unfold clsIn at hD
    split at hD
    · rename_i c d cd' sl ho
      cases hD
      exact ⟨_, X _ _ ho, rfl⟩
    · cases hD
  refine ks_wpAt_super_base (env := ksEnv q scope L f (.ref cda) cc) hks hkc hat rfl (X _ _ hf) rfl hp rfl (X _ _ hcode) rfl hvs hfile htop ?_
  refine ks_loadName_global hk hks (loadGlobal_builtin (env := ksEnv q scope L f (.ref cda) cc) hg hm0 hb (hbb.trans (show bootBuiltins "super" = some (.type "super") by kernel_rfl)) ⟨rfl, ?_⟩)
  refine wpAny_loadName_free hk hkc rfl ⟨_, X _ _ hcell, rfl⟩ ?_
  refine wpAny_loadName_local hk hka hns hv ?_
  refine ks_wpAny_isType_cls hD1 hD2 ⟨rfl, ?_⟩
  refine ks_wpAny_call_super hD1 hD2 I.at_ I.cls (fun c e => ?_) (looks_mroIn X hsub) (fun h' e k => ?_)
  · have := I.no
    unfold notCls at this
    rw [e] at this
    exact Bool.noConfusion this
  · exact h h' k e
/-- super().__init__(..)'s call -/
theorem sup_call {s : Shared} {C u x t0 : Addr} {rest : List Value} {Q : Value → Shared → Prop} {nm q : Str} {N : Addr} {bs bm : List Value} {hdct : Bool} {sn : List Str} {sub : List Value} {ab : Bool} {col : Option Bool} {dd : Option Addr} {k0 k1 k2 k3 k5 : Option Value}
    (hC : s.heap.get? C = some (excClassObj nm q C N bs bm hdct sn sub ab col dd k0 k1 k2 k3 k5 "ValueError.__new__")) (he : s.heap.get? x = some (HandSPX.excO C t0)) (hu : s.heap.get? u = some (kxs_mw "ValueError.__init__" x)) (hz : rest.length ≤ sizeLine)
    (h : ∀ h' t1, (∀ b o, b ≠ x → s.heap.get? b = some o → h'.get? b = some o) → h'.get? x = some (HandSPX.excO C t1) → Q .none { s with heap := h' }) :
    wpAny (model prog w) A (call (.ref u) rest) Q E s := by
  have FB := F.excBase_ValueError
  obtain ⟨hh, g, d, tk, os⟩ := s
  refine wpAny_call (codeAny_of_tree ?_)
  show wpAny _ A.in1 (callAny (.ref u) ⟨rest, []⟩) _ _ _
  simp only [callAny]
  refine wpAny_bind (wpAny_load hu ?_)
  simp only [kxs_mw, show (Value.type "method-wrapper" == Value.type "method" || Value.type "method-wrapper" == Value.type "builtin_function_or_method" || Value.type "method-wrapper" == Value.type "method-wrapper") = true by decide, if_true]
  refine KFB.if_so (by decide) ?_
  refine wpAny_bind (check_bound_init FB.toExcCallFacts hC he rfl ?_)
  refine wpAny_bind (wpAny_pure (wpAny_pure ?_))
  refine ⟨plainId_quiet FB.init.plain _, codeAny_builtin FB.initEntry ?_⟩
  refine exc_init_tree (cls := .ref C) (t0 := t0) (dv := none) (c2 := .none) (c3 := .none) (b4 := .bool false) he hz fun h' k e' t' => ?_
  exact h h' _ k e'
end
/-- what the written part tells of an own exception's class whose __init__ says super().__init__(..) -/
structure SupX (K : Frag) (prog : Program) (C fI : Addr) (qual : Str) (params : Arguments) (body : List Stmt) (scope : Scope) : Prop where
  oex : L2.OexC K C
  init : findIn K (.ref C) "__init__" = some (some (.ref fI))
  tI : typeIn K (.ref fI) = some (.type "function")
  fn : ∃ (oc : Value) (od : Option Addr) (osl : Array (Option Value)) (doc pm : Value) (an : Option Addr) (cda : Addr) (ct : Value) (cc : Addr) (ccl : Value) (cdd : Option Addr) (vs : Array Value) (ccs : Array (Option Value)) (file : Str) (tf : Tok) (cl : Value) (cld : Option Addr) (csl : Array (Option Value)),
    K.lookup fI = some ⟨oc, od, .func (ksFn "__init__" qual params body scope .none .none doc pm an (.ref cda) ct cc), osl⟩ ∧ codeIn K (.ref cda) qual = true ∧ K.lookup cda = some ⟨ccl, cdd, .fields vs, ccs⟩ ∧ vs[2]? = some (.str file tf) ∧ ((prog.main.file : Str) == file) = true ∧ K.lookup cc = some ⟨cl, cld, .cell (some (.ref C)), csl⟩
  self : mroIn K C (.ref C) = some true
  sup : ks_superIn K C C "__init__" = some (some (.builtin "ValueError.__init__"))
  isV : subIn K (.ref C) (.type "ValueError") = some true
  thr : nsIn K cStatics "thirdparty.any" = some none
theorem oex_cls {K : Frag} {C : Addr} (T : L2.OexC K C) : ∃ cd, clsIn K C = some cd ∧ HandSPX.refsVE cd.mro = true ∧ cd.hasDict = true := by
  obtain ⟨nm, q, N, bs, bm, sn, sub, ab, col, dd, k0, k1, k2, k3, k5, hC, hbm⟩ := T.cls
  refine ⟨{ name := nm, bases := bs, mro := .ref C :: bm, ns := N, qualname := q, hasDict := true, slotNames := sn, subclasses := sub, abstract := ab, collection := col, hasDel := false }, ?_, hbm, rfl⟩
  unfold clsIn
  rw [hC]
abbrev argS (p : Pos) : Arg := { arg := "self", annotation := none, pos := p }
abbrev argN (x : Str) (p : Pos) : Arg := { arg := x, annotation := none, pos := p }
abbrev params0 (p : Pos) : Arguments := { posonlyargs := [], args := [argS p], vararg := none, kwonlyargs := [], kw_defaults := [], kwarg := none, defaults := [] }
abbrev params1 (x : Str) (p p2 : Pos) : Arguments := { posonlyargs := [], args := [argS p, argN x p2], vararg := none, kwonlyargs := [], kw_defaults := [], kwarg := none, defaults := [] }
abbrev body0 (p0 p1 p2 p3 p4 : Pos) : List Stmt := [.Expr (.Call (.Attribute (.Call (.Name "super" p0) [] [] p1) "__init__" p2) [] [] p3) p4]
abbrev body1 (x : Str) (p0 p1 p2 p3 p4 p5 p6 p7 p8 p9 : Pos) : List Stmt := [.Expr (.Call (.Attribute (.Call (.Name "super" p0) [] [] p1) "__init__" p2) [.Name x p5] [] p3) p4, .Assign [.Attribute (.Name "self" p6) x p7] (.Name x p8) p9]
theorem he_of {o : Expr} {name : Str} {apos pos : Pos} {args : List Expr} {env : Env} (hline : (apos.endLine == pos.line) = true) (hf : methodCallForm (args.length + ([] : List Keyword).length) (backTo pos (starEach args env)) (backToKw pos (keywordEach [] env)) = true) :
    eval (.Call (.Attribute o name apos) args [] pos) env = (do
      let ov ← attributeBase o name env (eval o env)
      standAt apos.atName
      let (f, first) ← holding [ov] (getMethod ov name (do return (← importBound o env).getD true))
      callWith pos f first (backTo pos (starEach args env)) []) := by
  have e : eval (.Call (.Attribute o name apos) args [] pos) env = (do
      let ov ← attributeBase o name env (eval o env)
      standAt apos.atName
      methodCall o name apos pos env ov (args.length + ([] : List Keyword).length) (backTo pos (starEach args env)) (backToKw pos (keywordEach [] env))) := rfl
  rw [e]
  unfold methodCall calleeOf methodCallPos
  have hk : backToKw pos (keywordEach [] env) = [] := rfl
  rw [hk] at hf ⊢
  simp only [hf, hline, if_true, Bool.not_true, Bool.false_or, pure_bind]
structure ScopeOk (scope : Scope) : Prop where
  sup : scope.names.lookup ("super" : Str) = some .globalImplicit
  cls : scope.names.lookup ("__class__" : Str) = some .free
  self : scope.names.lookup ("self" : Str) = some .local
  kind : scope.kind = .function
  cell : ∀ x ∈ scope.names, x.2 ≠ .cell
  co : scope.isCoroutine = false
  gen : scope.isGenerator = false
section
variable {prog : Program} {w : World} {A : Around} {R : Result → Shared → Prop} {K : Frag} {mg mb : Str → Option Value} {C fI x t0 : Addr} {qual : Str} {scope : Scope}
theorem code0 {p p0 p1 p2 p3 p4 : Pos} {h : Heap} {g : Array GenState} {d : Drawn} {t : Nat} {os : OsState} (hline : (p2.endLine == p3.line) = true) (T : SupX K prog C fI qual (params0 p) (body0 p0 p1 p2 p3 p4) scope) (S : ScopeOk scope) (X : K.In h) (hg : h.Ns mainGlobals mg) (hb : h.Ns builtinsNs mb) (hbb : mb "super" = bootBuiltins "super") (hm0 : mg "super" = none) (hlim : h.NoLimit)
    (htop : (prog.main.scope.names.lookup ("super" : Str)).isSome = false) (hx : h.get? x = some (HandSPX.excO C t0)) (hroom : A.depth < recursionLimit)
    (hq : ∀ h' tk t1, (∀ b o, b ≠ x → h.get? b = some o → h'.get? b = some o) → h'.get? x = some (HandSPX.excO C t1) → R (.ok (.ret .none)) ⟨h', g, d, tk, os⟩) :
    codeAny (model prog w) A (.call (.ref fI) ⟨[.ref x], []⟩) R ⟨h, g, d, t, os⟩ := by
  obtain ⟨oc, od, osl, doc, pm, an, cda, ct, cc, ccl, cdd, vs, ccs, file, tf, cl, cld, csl, hfn, hcd, hcode, hvs, hfile, hcell⟩ := T.fn
  obtain ⟨nm, q, N, bs, bm, sn, sub, ab, col, dd, k0, k1, k2, k3, k5, hC, hbm⟩ := T.oex.cls
  obtain ⟨cd, hcls, _, _⟩ := oex_cls T.oex
  refine ks_codeAny_call_defAt (fd := ksFn "__init__" qual (params0 p) (body0 p0 p1 p2 p3 p4) scope .none .none doc pm an (.ref cda) ct cc) (body := body0 p0 p1 p2 p3 p4) (binds := [("self", .ref x)]) hroom (X _ _ hfn) rfl hlim (codeRec_of X hcd) rfl
    (BindsTo.of_eq (by first | rfl | with_unfolding_all rfl)) S.cell (fun y hy => by cases List.mem_singleton.mp hy; exact S.self) (fun h₁ hns k => ?_) S.co S.gen S.kind
  have X1 : K.In h₁ := X.keeps k
  refine ks_wpAt_execs_cons (ks_wpAt_Expr_any (ks_wpAt_MethodCall ?_ (he_of hline rfl)) (by show (scope.kind == .module && _) = false; rw [S.kind]; rfl) rfl)
  refine sup_base (s := ⟨h₁, g, d, _, os⟩) (odx := none) X1 (hg.keeps k) (hb.keeps k) hbb hm0 hns hfn rfl (by rfl) ⟨k _ _ hx, rfl, rfl, trivial⟩ hcode hvs hfile hcell hcls T.self (by decide) S.sup S.cls S.self S.kind htop (fun h₂ k2 hso => ?_)
  have X2 : K.In h₂ := X1.keeps k2
  have hx2 := k2 _ _ (k _ _ hx)
  have I2 : InstAt h₂ x (HandSPX.excO C t0) C none := ⟨hx2, rfl, rfl, trivial⟩
  have hm := T.sup
  unfold ks_superIn at hm
  rw [hcls] at hm
  refine kxs_getMethod kxs_ValueError hso (looks_opaque X2 T.thr) (l₀ := cd.mro) (fun A Q E s k q => wpAny_bind ((looks_clsIn X2 hcls) A _ E s k (wpAny_pure q))) rfl X2 hm (I2.type.andThen (looks_subIn X2 T.isV)) (ks_ne X2 I2 hcls) (by decide) ?_
  refine kxs_callWith (i := "ValueError.__init__") (x := x) rfl (evalArgs_empty ⟨Heap.get?_push_at rfl rfl, ?_⟩)
  have k3 : ∀ b o, h₂.get? b = some o → (h₂.push (kxs_mw "ValueError.__init__" x)).get? b = some o := fun b o e => Heap.get?_push_of_some _ e
  refine sup_call (s := ⟨h₂.push (kxs_mw "ValueError.__init__" x), g, d, _, os⟩) (k3 _ _ (X2 _ _ hC)) (k3 _ _ hx2) (Heap.get?_push_at rfl rfl) (by show 0 ≤ sizeLine; exact Nat.zero_le _) fun h' t1 k4 hx4 => ?_
  refine wpAt_of_wpAny (wpAny_execs_nil (hq _ _ t1 (fun b o hbx e => k4 b o hbx (k3 _ _ (k2 _ _ (k _ _ e)))) hx4))
abbrev bnd (x : Addr) (f : Str) (v : Value) : List (Str × Value) := [("self", .ref x), (f, v)]
theorem code1 {f : Str} {v : Value} {p p0 p1 p2 p3 p4 p5 p6 p7 p8 p9 pf : Pos} {h : Heap} {g : Array GenState} {d : Drawn} {t : Nat} {os : OsState} (hline : (p2.endLine == p3.line) = true) (T : SupX K prog C fI qual (params1 f p pf) (body1 f p0 p1 p2 p3 p4 p5 p6 p7 p8 p9) scope) (S : ScopeOk scope) (hfl : scope.names.lookup f = some .local) (hfd : (f == ("__debug__" : Str)) = false) (hfs : f ≠ "self") (hba : ∀ (doc pm : Value) (an : Option Addr) (cda : Addr) (ct : Value) (cc : Addr) (u v : Value), bindArgs (ksFn "__init__" qual (params1 f p pf) (body1 f p0 p1 p2 p3 p4 p5 p6 p7 p8 p9) scope .none .none doc pm an (.ref cda) ct cc) ⟨[u, v], []⟩ = pure [(("self" : Str), u), (f, v)]) (hnf : findIn K (.ref C) f = some none)
    (X : K.In h) (hg : h.Ns mainGlobals mg) (hb : h.Ns builtinsNs mb) (hbb : mb "super" = bootBuiltins "super") (hm0 : mg "super" = none) (hlim : h.NoLimit) (hnx : K.lookup x = none)
    (htop : (prog.main.scope.names.lookup ("super" : Str)).isSome = false) (hx : h.get? x = some (HandSPX.excO C t0)) (hroom : A.depth < recursionLimit)
    (hq : ∀ h' tk t1 dx, (∀ b o, b ≠ x → h.get? b = some o → h'.get? b = some o) → h.objs.size ≤ dx → dx ≠ x → h'.get? x = some { cls := .ref C, dict := some dx, data := .fields #[.ref t1, .none, .none, .none, .bool false, .none] } → h'.Ns1 dx (fun y => if y = f then some v else none) → R (.ok (.ret .none)) ⟨h', g, d, tk, os⟩) :
    codeAny (model prog w) A (.call (.ref fI) ⟨[.ref x, v], []⟩) R ⟨h, g, d, t, os⟩ := by
  obtain ⟨oc, od, osl, doc, pm, an, cda, ct, cc, ccl, cdd, vs, ccs, file, tf, cl, cld, csl, hfn, hcd, hcode, hvs, hfile, hcell⟩ := T.fn
  obtain ⟨nm, q, N, bs, bm, sn, sub, ab, col, dd, k0, k1, k2, k3, k5, hC, hbm⟩ := T.oex.cls
  obtain ⟨cd, hcls, hmr, hhd⟩ := oex_cls T.oex
  have hfs' : (f == ("self" : Str)) = false := by simpa using hfs
  refine ks_codeAny_call_defAt (fd := ksFn "__init__" qual (params1 f p pf) (body1 f p0 p1 p2 p3 p4 p5 p6 p7 p8 p9) scope .none .none doc pm an (.ref cda) ct cc) (body := body1 f p0 p1 p2 p3 p4 p5 p6 p7 p8 p9) (binds := bnd x f v) hroom (X _ _ hfn) rfl hlim (codeRec_of X hcd) rfl
    (BindsTo.of_eq (hba _ _ _ _ _ _ _ _)) S.cell (fun y hy => ?_) (fun h₁ hns k => ?_) S.co S.gen S.kind
  · rcases List.mem_cons.mp hy with rfl | hy
    · exact S.self
    · cases List.mem_singleton.mp hy
      exact hfl
  have X1 : K.In h₁ := X.keeps k
  have vself : List.lookup ("self" : Str) (bnd x f v).reverse = some (.ref x) := by
    show (match ("self" : Str) == f with | true => some v | false => List.lookup ("self" : Str) ([("self", .ref x)] : List (Str × Value))) = _
    rw [show (("self" : Str) == f) = false by simpa using hfs.symm]
    rfl
  have vf : List.lookup f (bnd x f v).reverse = some v := by
    show (match f == f with | true => some v | false => _) = _
    rw [beq_self_eq_true]
  refine ks_wpAt_execs_cons (ks_wpAt_Expr_any (ks_wpAt_MethodCall ?_ (he_of hline rfl)) (by show (scope.kind == .module && _) = false; rw [S.kind]; rfl) rfl)
  refine sup_base (s := ⟨h₁, g, d, _, os⟩) (odx := none) X1 (hg.keeps k) (hb.keeps k) hbb hm0 hns hfn rfl vself ⟨k _ _ hx, rfl, rfl, trivial⟩ hcode hvs hfile hcell hcls T.self (by decide) S.sup S.cls S.self S.kind htop (fun h₂ k2 hso => ?_)
  have X2 : K.In h₂ := X1.keeps k2
  have hx2 := k2 _ _ (k _ _ hx)
  have I2 : InstAt h₂ x (HandSPX.excO C t0) C none := ⟨hx2, rfl, rfl, trivial⟩
  have hm := T.sup
  unfold ks_superIn at hm
  rw [hcls] at hm
  refine kxs_getMethod kxs_ValueError hso (looks_opaque X2 T.thr) (l₀ := cd.mro) (fun A Q E s k q => wpAny_bind ((looks_clsIn X2 hcls) A _ E s k (wpAny_pure q))) rfl X2 hm (I2.type.andThen (looks_subIn X2 T.isV)) (ks_ne X2 I2 hcls) (by decide) ?_
  have k3 : ∀ b o, h₂.get? b = some o → (h₂.push (kxs_mw "ValueError.__init__" x)).get? b = some o := fun b o e => Heap.get?_push_of_some _ e
  have kns : ∀ {hA hB : Heap} {L : Addr} {m : Str → Option Value}, (∀ b o, hA.get? b = some o → hB.get? b = some o) → hA.Ns L m → hB.Ns L m := fun kk n => n.keeps kk
  have hns2 := kns k3 (kns k2 hns)
  refine kxs_callWith (i := "ValueError.__init__") (x := x) rfl ?_
  refine evalArgs_plain (Calls.spliced_cons ?_)
  rw [if_neg Bool.false_ne_true]
  refine wpAny_Name (wpAny_loadName_local S.kind hfl hns2 vf ?_) hfd
  refine Calls.spliced_nil ⟨Heap.get?_push_at rfl rfl, ?_⟩
  refine sup_call (k3 _ _ (X2 _ _ hC)) (k3 _ _ hx2) (Heap.get?_push_at rfl rfl) (by show 1 ≤ sizeLine; rw [sizeLine_eq]; decide) fun h₄ t1 k4 hx4 => ?_
  have X4 : K.In h₄ := fun a o e => k4 a o (fun z => by rw [z, hnx] at e; cases e) (k3 _ _ (X2 a o e))
  have lx : h.objs.size ≠ x := Nat.ne_of_gt (Heap.lt_size hx)
  have hns4 : h₄.Ns h.objs.size (fun y => List.lookup y (bnd x f v).reverse) := by
    obtain ⟨oL, es, ep, hL, r⟩ := hns2
    exact ⟨oL, es, ep, k4 _ _ lx hL, r⟩
  refine ks_wpAt_execs_cons (ks_wpAt_Assign_Attr (wpAt_of_wpAny (wpAny_Name (wpAny_loadName_local S.kind hfl hns4 vf (wpAny_Name (wpAny_loadName_local S.kind S.self hns4 vself ?_) (by decide))) hfd)) (by rfl))
  refine set_plain (od := none) X4 ⟨hx4, rfl, rfl, trivial⟩ T.oex.sa ?_
  refine HandSPX.exc_osa X4 hx4 hcls hmr hhd hnf (fun h₅ tk₅ dx k5 dn dne hx5 hn5 => ?_)
  have up : ∀ b o, b ≠ x → h.get? b = some o → h₄.get? b = some o := fun b o hb e => k4 b o hb (k3 _ _ (k2 _ _ (k _ _ e)))
  refine wpAt_of_wpAny (wpAny_execs_nil (hq h₅ _ t1 dx (fun b o hb e => k5 b o hb (up b o hb e)) ?_ dne hx5 hn5))
  obtain ⟨oL, es, ep, hL, r⟩ := hns4
  exact Nat.le_of_lt (Nat.lt_of_lt_of_le (Heap.lt_size hL) dn)
end
end DX
set_option Elab.async false
set_option linter.all false
set_option maxRecDepth 100000
set_option maxHeartbeats 4000000
namespace DX
open PySem PySem.Spec PyProof.Rows L2
section
variable {X : Cx} {C fI : Addr} {qual x : Str} {scope : Scope} {k : Nat} {p pos : Pos}
theorem pmk_x0 {q p0 p1 p2 p3 p4 : Pos} (hline : (p2.endLine == p3.line) = true) (T : SupX X.K X.prog C fI qual (params0 q) (body0 p0 p1 p2 p3 p4) scope) (S : ScopeOk scope) (hm0 : X.mg "super" = none) (htop : (X.prog.main.scope.names.lookup ("super" : Str)).isSome = false)
    (hr : Room (k + 1) X.A) (hg : Gl X x) (hm : X.mg x = some (.ref C)) (hdb : (x == ("__debug__" : Str)) = false := by decide) : PMk X (.Call (.Name x p) [] [] pos) (fun _ H Q => Q (.ref C) none H) := by
  intro pins s σ H Q I h
  obtain ⟨nm, q', N, bs, bm, sn, sub, ab, col, dd, k0, k1, k2, k3, k5, hC, hbm⟩ := T.oex.cls
  refine wpAny_Call_Name_kw (ld_glob I hg hm ?_ hdb)
  refine PySem.W.callWith_K0 I.kIn T.oex.kC ?_
  show wpAny _ _ (call (.ref C) []) _ _ _
  obtain ⟨hp, g, dr, tk, os⟩ := s
  have kk : ∀ b o, hp.get? b = some o → ((hp.push (PySem.W.kdv_tup [])).push (PySem.HandSPX.excO C hp.objs.size)).get? b = some o := fun b o e => Heap.get?_push_of_some _ (Heap.get?_push_of_some _ e)
  have hget : ((hp.push (PySem.W.kdv_tup [])).push (PySem.HandSPX.excO C hp.objs.size)).get? (hp.objs.size + 1) = some (PySem.HandSPX.excO C hp.objs.size) := by heap_get
  obtain ⟨mb, hmb, hbb⟩ := I.ok.mod.blt
  have KX := I.kIn
  refine wpAny_call (PySem.HandSPX.call_own F.excBase_ValueError (fun Y => PySem.HandSPX.refsVE_contains Y bm hbm) (KX _ _ hC) (PySem.W.looks_findIn KX T.init) (fun self => PySem.W.bind_fn KX self T.tI) (Nat.zero_le _) ?_)
  refine code0 hline T S (KX.keeps kk) ((I.ok.mod.glob.keeps I.bk).keeps kk) ((hmb.keeps I.bk).keeps kk) (hbb _ (by decide)) hm0 (I.nolimit.keeps kk) htop hget (hr.make C [] []).depth (fun h' tk' t1 k' hx => ?_)
  have fr : hp.get? (hp.objs.size + 1) = none := by
    cases e : hp.get? (hp.objs.size + 1) with
    | none => rfl
    | some o => exact absurd (Heap.lt_size e) (Nat.not_lt.mpr (Nat.le_succ _))
  exact ⟨rfl, hp.objs.size + 1, _, _, ⟨hp, g, dr, tk, os⟩, H, .ref C, none, rfl, I, fun b o e => k' b o (Nat.ne_of_lt (Nat.lt_succ_of_lt (Heap.lt_size e))) (kk b o e), fr, hx, ⟨rfl, rfl⟩, rfl, rfl, I.hok.fresh (Nat.le_succ _), rfl, I.bare, raises_own T.oex.exC T.oex.tyC, h⟩
theorem pmk_x1 {f : Str} {e : Expr} {ta : TA} {q q2 p0 p1 p2 p3 p4 p5 p6 p7 p8 p9 : Pos} (hline : (p2.endLine == p3.line) = true) (T : SupX X.K X.prog C fI qual (params1 f q q2) (body1 f p0 p1 p2 p3 p4 p5 p6 p7 p8 p9) scope) (S : ScopeOk scope)
    (hfl : scope.names.lookup f = some .local) (hfd : (f == ("__debug__" : Str)) = false) (hfs : f ≠ "self")
    (hba : ∀ (doc pm : Value) (an : Option Addr) (cda : Addr) (ct : Value) (cc : Addr) (u v : Value), bindArgs (PySem.W.ksFn "__init__" qual (params1 f q q2) (body1 f p0 p1 p2 p3 p4 p5 p6 p7 p8 p9) scope .none .none doc pm an (.ref cda) ct cc) ⟨[u, v], []⟩ = pure [(("self" : Str), u), (f, v)])
    (hnf : PySem.W.findIn X.K (.ref C) f = some none) (hm0 : X.mg "super" = none) (htop : (X.prog.main.scope.names.lookup ("super" : Str)).isSome = false)
    (hr : Room (k + 1) X.A) (hg : Gl X x) (hm : X.mg x = some (.ref C)) (ha : PA X [e] ta) (hdb : (x == ("__debug__" : Str)) = false := by decide) (he : starEach [e] X.env = (false, eval e X.env) :: starEach [] X.env := by rfl) :
    PMk X (.Call (.Name x p) [e] [] pos) (fun σ H Q => ta σ H fun vs H1 => ∃ v, vs = [v] ∧ ∀ d, H1 d = none → Q (.ref C) (some d) (upd H1 d (.xd [(f, v)]))) := by
  intro pins s σ H Q I h
  obtain ⟨nm, q', N, bs, bm, sn, sub, ab, col, dd, k0, k1, k2, k3, k5, hC, hbm⟩ := T.oex.cls
  refine wpAny_Call_Name_kw (ld_glob I hg hm ?_ hdb)
  refine PySem.W.callWith_K (h₀ := X.base) I.ok.mod.kin T.oex.kC (thn (ha.run pos pins s σ H _ I h) fun us s1 ⟨vs, H1, I1, r1, v, ev, q1⟩ => ⟨I1.kIn, ?_⟩) he rfl
  subst ev
  cases r1 with
  | @cons _ u _ us' ru rn =>
    cases rn
    show wpAny _ _ (call (.ref C) [u]) _ _ _
    obtain ⟨hp, g, dr, tk, os⟩ := s1
    have kk : ∀ b o, hp.get? b = some o → ((hp.push (PySem.W.kdv_tup [u])).push (PySem.HandSPX.excO C hp.objs.size)).get? b = some o := fun b o e => Heap.get?_push_of_some _ (Heap.get?_push_of_some _ e)
    have hget : ((hp.push (PySem.W.kdv_tup [u])).push (PySem.HandSPX.excO C hp.objs.size)).get? (hp.objs.size + 1) = some (PySem.HandSPX.excO C hp.objs.size) := by heap_get
    obtain ⟨mb, hmb, hbb⟩ := I1.ok.mod.blt
    have KX := I1.kIn
    have fr : hp.get? (hp.objs.size + 1) = none := by
      cases e : hp.get? (hp.objs.size + 1) with
      | none => rfl
      | some o => exact absurd (Heap.lt_size e) (Nat.not_lt.mpr (Nat.le_succ _))
    have hnx : X.K.lookup (hp.objs.size + 1) = none := by
      cases e : X.K.lookup (hp.objs.size + 1) with
      | none => rfl
      | some o =>
        have := KX _ _ e
        rw [fr] at this
        cases this
    refine wpAny_call (PySem.HandSPX.call_own F.excBase_ValueError (fun Y => PySem.HandSPX.refsVE_contains Y bm hbm) (KX _ _ hC) (PySem.W.looks_findIn KX T.init) (fun self => PySem.W.bind_fn KX self T.tI) (by show 1 ≤ sizeLine; rw [sizeLine_eq]; decide) ?_)
    refine code1 hline T S hfl hfd hfs hba hnf (KX.keeps kk) ((I1.ok.mod.glob.keeps I1.bk).keeps kk) ((hmb.keeps I1.bk).keeps kk) (hbb _ (by decide)) hm0 (I1.nolimit.keeps kk) hnx htop hget (hr.make C [u] []).depth (fun h' tk' t1 dx k' hdx hdne hx hns => ?_)
    obtain ⟨G, g1', g2'⟩ := restrict h' fun b => decide (b ≠ hp.objs.size + 1)
    have gk : ∀ b, b ≠ hp.objs.size + 1 → G.get? b = h'.get? b := fun b hb => g1' b (decide_eq_true hb)
    have ge : G.get? (hp.objs.size + 1) = none := g2' _ (by simp)
    have hle : hp.objs.size ≤ dx := by
      have : hp.objs.size + 2 ≤ dx := by simpa [Heap.size_push] using hdx
      omega
    have J : Inv X pins σ (upd H1 dx (.xd [(f, v)])) ⟨G, g, dr, tk, os⟩ := I1.laid (t' := tk) (fun b o e => (gk b (Nat.ne_of_lt (Nat.lt_succ_of_lt (Heap.lt_size e)))).trans (k' b o (Nat.ne_of_lt (Nat.lt_succ_of_lt (Heap.lt_size e))) (kk b o e))) hle ⟨_, hns.at fun o y => (gk dx hdne).trans y, fun g => by
      by_cases hgf : g = f
      · subst hgf
        rw [if_pos rfl]
        have e : List.lookup g [(g, v)] = some v := by simp [List.lookup]
        rw [e]
        exact ru
      · rw [if_neg hgf]
        have qw : (g == f) = false := by simpa using hgf
        have e : List.lookup g [(f, v)] = none := by simp [List.lookup, qw]
        rw [e]
        trivial⟩
    have na : (upd H1 dx (.xd [(f, v)])) (hp.objs.size + 1) = none := by
      rw [upd_ne (Ne.symm hdne)]
      exact I1.hok.fresh (Nat.le_succ _)
    refine ⟨rfl, hp.objs.size + 1, _, _, ⟨G, g, dr, tk, os⟩, _, .ref C, some dx, rfl, J, fun b o e => ?_, ge, hx, ⟨rfl, rfl⟩, rfl, rfl, na, rfl, I1.bare, raises_own T.oex.exC T.oex.tyC, q1 dx (I1.hok.fresh hle)⟩
    by_cases hb : b = hp.objs.size + 1
    · rw [hb, ge] at e
      cases e
    · exact (gk b hb).symm.trans e
end
end DX
set_option Elab.async false
set_option linter.all false
set_option maxRecDepth 100000
set_option maxHeartbeats 4000000
namespace DL
open PySem PySem.Spec PyProof.Rows L2
section
variable {X : Cx} {J : JS} {Wx : WX} {e : Expr} {t : TD} {pos : Pos}
/-! ### raise -/
def dRaise0 (C : Str) : TDS := fun DD Δ => DD.ex ⟨C, []⟩ Δ
theorem ds_raise0 {C : Str} (hc : X.calm = true) (tk : Takes X Wx) (he : PMk X e (fun _ H Q => Q (.ref (He.ga X.K C)) none H)) : DS X J Wx (.Raise (some e) none pos) (dRaise0 C) :=
  (ps_raise hc tk he).imp fun D σ H ⟨W0, H0, Δ, W, DD, st, ht, l⟩ => l.ex ⟨C, []⟩ _ none Δ W σ H ht st (.refl W) ⟨rfl, .inl ⟨rfl, rfl⟩⟩
def dRaise1 (C f : Str) (t : TD) : TDS := fun DD Δ => t Δ (fun s => sFrz s fun d => DD.ex ⟨C, [(f, d)]⟩ Δ) (fun e => DD.ex e Δ)
theorem ds_raise1 {C f : Str} (hc : X.calm = true) (tk : Takes X Wx) (he : PMk X e (fun σ H Q => liftA X.K J Wx (dCons t dNil) σ H fun vs H1 => ∃ v, vs = [v] ∧ ∀ d, H1 d = none → Q (.ref (He.ga X.K C)) (some d) (upd H1 d (.xd [(f, v)])))) :
    DS X J Wx (.Raise (some e) none pos) (dRaise1 C f t) :=
  (ps_raise hc tk he).imp fun D σ H ⟨W0, H0, Δ, W, DD, st, ht, l⟩ => by
    refine ⟨W0, H0, Δ, W, (fun ds => match ds with
      | [d] => DD.ex ⟨C, [(f, d)]⟩ Δ
      | _ => False), (fun e => DD.ex e Δ), st, ht, fun ds vs W1 H1 q st1 y1 r1 => ?_, l.lx⟩
    dsimp only at q
    split at q
    · rename_i d
      cases r1 with
      | cons r rn =>
        cases rn
        refine ⟨_, rfl, fun dd hd => ?_⟩
        exact l.ex ⟨C, [(f, d)]⟩ _ (some dd) Δ W1 σ _ q (st1.stp (Stp.laid W1 hd) (st1.wok.laid hd)) y1.le ⟨rfl, .inr ⟨dd, _, rfl, upd_same, .cons r .nil⟩⟩
    · exact q.elim
/-! ### try: .. except C: .. -/
/-- which classes the clause takes -/
def HitOk (K : PySem.W.Frag) (C : Str) (hit : Str → Option Bool) : Prop := ∀ C' b, hit C' = some b → PySem.W.exmOne K (.ref (He.ga K C')) (.ref (He.ga K C)) = some b
def dTry (hit : Str → Option Bool) (tB tS : TDS) : TDS := fun DD Δ => tB { DD with ex := fun e Δ' => match hit e.C with
  | some true => tS { DD with ex := fun _ _ => False } Δ'
  | some false => DD.ex e Δ'
  | none => False } Δ
theorem ds_try {C : Str} {hit : Str → Option Bool} {tB tS : TDS} {body suite : List Stmt} {b₀ : Stmt} {np pos' : Pos} (hk : HitOk X.K C hit) (hs : X.stack = X.env :: X.outer) (hf : X.env.frame = some X.env.locals) (hg : Gl X C) (hdb : (C == ("__debug__" : Str)) = false) (hm : X.mg C = some (.ref (He.ga X.K C))) (tk : Takes X Wx)
    (hb : ∀ (W : WX) (pn : List (Addr × Obj)) (xe : Value → Shared → Prop), Takes (X.tr pn xe) W → PassesOwn (model X.prog X.w) X.A X.env xe → DSs (X.tr pn xe) J W body tB)
    (hsu : ∀ (a : Addr) (pn : List (Addr × Obj)), DSs (X.suite a pn) J Wx0 (b₀ :: suite) tS) :
    DS X J Wx (.Try body [.ExceptHandler (some (.Name C np)) none (b₀ :: suite) pos'] [] [] pos) (dTry hit tB tS) :=
  (ps_try_only (c := .ref (He.ga X.K C)) (tb := fun W => liftS X.K J W tB) (ts := fun _ _ _ => liftS X.K J Wx0 tS) hs hf ⟨hg, hdb, .inl hm⟩ tk (fun W pn xe tk po => hb W pn xe tk po) (fun a oe cls d pn _ _ => hsu a _)).imp
    fun D σ H ⟨W0, H0, Δ, W, DD, st, ht, l⟩ => by
      refine ⟨W0, H0, Δ, W, _, st, ht, { nx := l.nx, bk := l.bk, ct := l.ct, rt := l.rt, ex := fun e cls d Δ' W' σ' H' q st' le' r => ?_ }⟩
      dsimp only at q
      split at q
      · rename_i hh
        refine ⟨true, by rw [r.1]; exact hk _ _ hh, fun _ a _ => ?_, fun z => absurd z (by decide)⟩
        have l' := l.at le'
        exact ⟨W0, H0, Δ', W', _, st', q, { nx := l'.nx, bk := l'.bk, ct := l'.ct, rt := l'.rt, ex := fun _ _ _ _ _ _ _ z => z.elim }⟩
      · rename_i hh
        exact ⟨false, by rw [r.1]; exact hk _ _ hh, fun z => absurd z (by decide), fun _ => l.ex e cls d Δ' W' σ' H' q st' le' r⟩
      · exact q.elim
end
end DL
set_option Elab.async false
set_option linter.all false
set_option maxRecDepth 100000
set_option maxHeartbeats 4000000
namespace DX
open PySem PySem.W PySem.Calls PyProof.Rows
/-- what is seen of a class's own __init__ that says super() -/
abbrev FnX : Type := Option (Str × Str × Arguments × FuncBody × Scope × Addr × List Str × Value × Value × Addr)
def fnXo (K : Frag) (C : Str) : FnX := match K.lookup (He.ma K (He.ga K C) "__init__") with
  | some ⟨_, _, .func fd, _⟩ => some (fd.name, fd.qualname, fd.params, fd.body, fd.scope, fd.globals, fd.closure.map (·.1), fd.defaults, fd.kwdefaults, fd.builtins)
  | _ => none
def fnXv (qual : Str) (params : Arguments) (body : List Stmt) (scope : Scope) : FnX := some ("__init__", qual, params, .stmts body, scope, mainGlobals, ["__class__"], .none, .none, builtinsNs)
def oexB (K : Frag) (C : Addr) : Bool := (match K.lookup C with
  | some ⟨.type "type", _, .cls cd, sl⟩ => (match cd.mro, sl.toList with
    | .ref C' :: bm, [_, _, _, _, some (.builtin n), _] => C' == C && n == "ValueError.__new__" && !cd.hasDel && cd.hasDict && HandSPX.refsVE bm
    | _, _ => false)
  | _ => false) && (He.eqO (findIn K (.ref C) "__setattr__") (some (some (.builtin "object.__setattr__"))) && (decide (subIn K (.ref C) (.type "BaseException") = some true) && (decide (typeIn K (.ref C) = some (.type "type")) && keepIn K (.ref C))))
theorem oexB_ok {K : Frag} {C : Addr} (h : oexB K C = true) : L2.OexC K C := by
  unfold oexB at h
  obtain ⟨q, h⟩ := He.ba h
  obtain ⟨h1, h⟩ := He.ba h
  obtain ⟨h2, h⟩ := He.ba h
  obtain ⟨h3, h4⟩ := He.ba h
  refine ⟨?_, He.eqO_ok h1, of_decide_eq_true h2, of_decide_eq_true h3, h4⟩
  split at q
  · rename_i dd cd sl ho
    split at q
    · rename_i C' bm k0 k1 k2 k3 n k5 hm hs
      simp only [Bool.and_eq_true, beq_iff_eq, Bool.not_eq_true'] at q
      obtain ⟨⟨⟨⟨rfl, rfl⟩, hdel⟩, hdic⟩, ht⟩ := q
      obtain ⟨nm, bs, mro, ns, qn, hd, sn, sub, ab, col, del⟩ := cd
      dsimp only at hm hdel hdic
      subst hm hdel hdic
      have hsl : sl = #[k0, k1, k2, k3, some (.builtin "ValueError.__new__"), k5] := by
        obtain ⟨l⟩ := sl
        simp only at hs
        rw [hs]
      subst hsl
      exact ⟨nm, qn, ns, bs, bm, sn, sub, ab, col, dd, k0, k1, k2, k3, k5, ho, ht⟩
    · cases q
  · cases q
def codeB (K : Frag) (file qual : Str) (C : Addr) (f : Addr) : Bool := match K.lookup f with
  | some ⟨_, _, .func fd, _⟩ => (match fd.code, fd.closure with
    | .ref cda, [(_, cc)] => codeIn K (.ref cda) qual && ((match K.lookup cda with
      | some ⟨_, _, .fields vs, _⟩ => (match (vs[2]? : Option Value) with
        | some (.str f _) => file == f
        | _ => false)
      | _ => false) && (match K.lookup cc with
      | some ⟨_, _, .cell (some (.ref D)), _⟩ => D == C
      | _ => false))
    | _, _ => false)
  | _ => false
def supB (file qual C : Str) (K : Frag) : Bool := oexB K (He.ga K C) && (He.eqO (findIn K (.ref (He.ga K C)) "__init__") (some (some (.ref (He.ma K (He.ga K C) "__init__")))) && (decide (typeIn K (.ref (He.ma K (He.ga K C) "__init__")) = some (.type "function")) && (codeB K file qual (He.ga K C) (He.ma K (He.ga K C) "__init__") &&
  (decide (mroIn K (He.ga K C) (.ref (He.ga K C)) = some true) && (He.eqO (ks_superIn K (He.ga K C) (He.ga K C) "__init__") (some (some (.builtin "ValueError.__init__"))) && (decide (subIn K (.ref (He.ga K C)) (.type "ValueError") = some true) && He.eqO (nsIn K cStatics "thirdparty.any") (some none)))))))
theorem supX_of {K : Frag} {prog : Program} {qual C : Str} {params : Arguments} {body : List Stmt} {scope : Scope} (h : supB prog.main.file qual C K = true) (e : fnXo K C = fnXv qual params body scope) : SupX K prog (He.ga K C) (He.ma K (He.ga K C) "__init__") qual params body scope := by
  unfold supB at h
  obtain ⟨h1, h⟩ := He.ba h
  obtain ⟨h2, h⟩ := He.ba h
  obtain ⟨h3, h⟩ := He.ba h
  obtain ⟨h4, h⟩ := He.ba h
  obtain ⟨h5, h⟩ := He.ba h
  obtain ⟨h6, h⟩ := He.ba h
  obtain ⟨h7, h8⟩ := He.ba h
  refine ⟨oexB_ok h1, He.eqO_ok h2, of_decide_eq_true h3, ?_, of_decide_eq_true h5, He.eqO_ok h6, of_decide_eq_true h7, He.eqO_ok h8⟩
  unfold codeB at h4
  unfold fnXo at e
  split at h4
  · rename_i oc od fd osl hf
    rw [hf] at e
    split at h4
    · rename_i cda nm cc hcda hcl
      obtain ⟨c1, c2⟩ := He.ba h4
      obtain ⟨c2, c3⟩ := He.ba c2
      split at c2
      · rename_i ccl cdd vs ccs hcode
        split at c2
        · rename_i f tf hvs
          split at c3
          · rename_i cl cld D csl hcell
            have eD : D = He.ga K C := eq_of_beq c3
            subst eD
            obtain ⟨n1, n2, n3, n4, n5, n6, n7, n8, n9, n10, n11, n12, n13, n14, n15⟩ := fd
            dsimp only at hcda hcl e
            subst hcda hcl
            unfold fnXv at e
            simp only [Option.some.injEq, Prod.mk.injEq, List.map_cons, List.map_nil, List.cons.injEq, and_true] at e
            obtain ⟨e1, e2, e3, e4, e5, e6, e7, e8, e9, e10⟩ := e
            subst e1 e2 e3 e4 e5 e6 e7 e8 e9 e10
            exact ⟨oc, od, osl, _, _, _, cda, _, cc, ccl, cdd, vs, ccs, f, tf, cl, cld, csl, hf, c1, hcode, hvs, c2, hcell⟩
          · cases c3
        · cases c2
      · cases c2
    · cases h4
  · cases h4
/-- an own exception's class, without | with one field -/
structure FX0 (P : Program) (K : Frag) (mg : Str → Option Value) (C : Str) : Prop where
  ex : ∃ (fI : Addr) (qual : Str) (scope : Scope) (q p0 p1 p2 p3 p4 : Pos), (p2.endLine == p3.line) = true ∧ SupX K P (He.ga K C) fI qual (params0 q) (body0 p0 p1 p2 p3 p4) scope ∧ ScopeOk scope
  hm : mg C = some (.ref (He.ga K C))
  hs : mg "super" = none
  top : (P.main.scope.names.lookup ("super" : Str)).isSome = false
structure FX1 (P : Program) (K : Frag) (mg : Str → Option Value) (C f : Str) : Prop where
  ex : ∃ (fI : Addr) (qual : Str) (scope : Scope) (q q2 p0 p1 p2 p3 p4 p5 p6 p7 p8 p9 : Pos), (p2.endLine == p3.line) = true ∧ SupX K P (He.ga K C) fI qual (params1 f q q2) (body1 f p0 p1 p2 p3 p4 p5 p6 p7 p8 p9) scope ∧ ScopeOk scope ∧
    scope.names.lookup f = some .local ∧ (∀ (doc pm : Value) (an : Option Addr) (cda : Addr) (ct : Value) (cc : Addr) (u v : Value), bindArgs (ksFn "__init__" qual (params1 f q q2) (body1 f p0 p1 p2 p3 p4 p5 p6 p7 p8 p9) scope .none .none doc pm an (.ref cda) ct cc) ⟨[u, v], []⟩ = pure [(("self" : Str), u), (f, v)])
  fd : (f == ("__debug__" : Str)) = false
  fs : f ≠ "self"
  nf : findIn K (.ref (He.ga K C)) f = some none
  hm : mg C = some (.ref (He.ga K C))
  hs : mg "super" = none
  top : (P.main.scope.names.lookup ("super" : Str)).isSome = false
end DX
namespace DL
open PySem PySem.Spec PyProof.Rows L2
section
variable {X : Cx} {J : JS} {Wx : WX} {C f : Str} {k : Nat} {p pos pos' : Pos} {e : Expr} {t : TD}
theorem ds_x0 (F : DX.FX0 X.prog X.K X.mg C) (hr : Room (k + 1) X.A) (hc : X.calm = true) (tk : Takes X Wx) (hg : Gl X C) (hdb : (C == ("__debug__" : Str)) = false := by decide) : DS X J Wx (.Raise (some (.Call (.Name C p) [] [] pos)) none pos') (dRaise0 C) := by
  obtain ⟨fI, qual, scope, q, p0, p1, p2, p3, p4, hl, T, S⟩ := F.ex
  exact ds_raise0 hc tk (DX.pmk_x0 hl T S F.hs F.top hr hg F.hm hdb)
theorem ds_x1 (F : DX.FX1 X.prog X.K X.mg C f) (hr : Room (k + 1) X.A) (hc : X.calm = true) (tk : Takes X Wx) (hg : Gl X C) (he : DE X J Wx e t) (hdb : (C == ("__debug__" : Str)) = false := by decide) (hst : starEach [e] X.env = (false, eval e X.env) :: starEach [] X.env := by rfl) :
    DS X J Wx (.Raise (some (.Call (.Name C p) [e] [] pos)) none pos') (dRaise1 C f t) := by
  obtain ⟨fI, qual, scope, q, q2, p0, p1, p2, p3, p4, p5, p6, p7, p8, p9, hl, T, S, h1, h2⟩ := F.ex
  exact ds_raise1 hc tk (DX.pmk_x1 hl T S h1 F.fd F.fs h2 F.nf F.hs F.top hr hg F.hm (da_cons he da_nil hst) hdb hst)
end
/-! ### the hook -/
abbrev AlX : Type := He.AlD × Bool × List DX.FnX
def frX (n : Nat) (g : Addr → Option Obj) : PySem.W.Frag := He.frG g (cStatics :: He.asD g n)
def obsXK (fa : List He.Fa) (fn : List He.DefD) (ex : PySem.W.Frag → Bool) (xs : List Str) (K : PySem.W.Frag) : AlX := (He.obsD fa fn K, ex K, xs.map fun C => DX.fnXo K C)
def obsX (n : Nat) (fa : List He.Fa) (fn : List He.DefD) (ex : PySem.W.Frag → Bool) (xs : List Str) (g : Addr → Option Obj) : AlX := obsXK fa fn ex xs (frX n g)
def hookX (n : Nat) (fa : List He.Fa) (fn : List He.DefD) (ex : PySem.W.Frag → Bool) (xs : List Str) (xv : List DX.FnX) : PySem.W.Hook where
  α := AlX
  obs := fun s => obsX n fa fn ex xs s.heap.get?
  val := fun _ => (He.valD fn, true, xv)
  says := fun _ h => ∃ K : PySem.W.Frag, K.In h ∧ He.SaysD fa fn K ∧ ex K = true ∧ xs.map (fun C => DX.fnXo K C) = xv
  of := fun _ _ e => ⟨_, He.frG_in, congrArg (fun z : AlX => z.1) e, congrArg (fun z : AlX => z.2.1) e, congrArg (fun z : AlX => z.2.2) e⟩
  keeps := fun _ _ _ ⟨K, hK, c⟩ k => ⟨K, PySem.W.Frag.In.keeps hK k, c⟩
theorem obsX_eq {n : Nat} {fa : List He.Fa} {fn : List He.DefD} {ex : PySem.W.Frag → Bool} {xs : List Str} {xv : List DX.FnX} {g : Addr → Option Obj} {s : Shared} (h : ∀ a, g a = s.heap.get? a) : obsX n fa fn ex xs g = (hookX n fa fn ex xs xv).obs s := by
  have e : g = s.heap.get? := funext h
  rw [e] <;> rfl
end DL
set_option Elab.async false
set_option linter.all false
set_option maxRecDepth 100000
set_option maxHeartbeats 4000000
namespace DL
open PySem PySem.Spec PyProof.Rows L2
section
variable {X : Cx} {J : JS} {Wx : WX} {a b e : Expr} {t ta tb : TD} {p pos : Pos}
/-! ### repr of numbers and texts -/
def fRepr (xs : List Sd) (Q : Sd → Prop) : Prop := match xs with
  | [s] => (match s.dat with
    | .int i => i.natAbs.log2 < 1920 ∧ Q (.fro (.str (toString i : String)))
    | .str z => (reprText z).length ≤ sizeLine ∧ Q (.fro (.str (reprText z)))
    | .bl b => Q (.fro (.str (if b then "True" else "False" : String)))
    | .non => Q (.fro (.str ("None" : String)))
    | _ => False)
  | _ => False
def rReprC : List V → Hp → VK → Prop := fun xs H Q => (∃ i : Int, xs = [.int i] ∧ i.natAbs.log2 < 1920 ∧ Q (.str (toString i : String)) H) ∨ (∃ z : Str, xs = [.str z] ∧ (reprText z).length ≤ sizeLine ∧ Q (.str (reprText z)) H) ∨ (∃ b : Bool, xs = [.bl b] ∧ Q (.str (if b then "True" else "False" : String)) H) ∨ (xs = [.non] ∧ Q (.str ("None" : String)) H)
theorem call_reprC : CallR X (.builtin "repr") rReprC := by
  intro pins s σ H xs us Q I r h
  rcases h with ⟨i, rfl, hz, q⟩ | ⟨z, rfl, hz, q⟩ | ⟨b, rfl, q⟩ | ⟨rfl, q⟩
  · obtain ⟨u, rfl, t, rfl⟩ := vals1 r
    exact PySem.P.repr_of_int hz ⟨.str _, H, I.tok _, ⟨_, rfl⟩, q⟩
  · obtain ⟨u, rfl, t, rfl⟩ := vals1 r
    exact PySem.P.repr_of_str ⟨.str _, H, I.tok _, ⟨_, rfl⟩, q⟩ hz
  · obtain ⟨u, rfl, rr⟩ := vals1 r
    cases rr
    cases b
    · exact PySem.P.repr_of_bool ⟨.str _, H, I.tok _, ⟨_, rfl⟩, q⟩
    · exact PySem.P.repr_of_bool ⟨.str _, H, I.tok _, ⟨_, rfl⟩, q⟩
  · obtain ⟨u, rfl, rr⟩ := vals1 r
    cases rr
    exact PySem.P.repr_of_none ⟨.str _, H, I.tok _, ⟨_, rfl⟩, q⟩
theorem repr_ok {K : PySem.W.Frag} : CallS K J rReprC fRepr := by
  intro W0 H0 Δ W σ H Hs Qd Q xs vs st r h lk
  unfold fRepr at h
  split at h
  · cases r with
    | cons r1 r2 =>
      cases r2
      split at h
      · rename_i i e
        rw [r1.isInt e]
        exact .inl ⟨i, rfl, h.1, lk _ _ W H h.2 st (.refl W H) (Dn.str _)⟩
      · rename_i z e
        rw [r1.isStr e]
        exact .inr (.inl ⟨z, rfl, h.1, lk _ _ W H h.2 st (.refl W H) (Dn.str _)⟩)
      · rename_i b e
        rw [r1.isBl e]
        exact .inr (.inr (.inl ⟨b, rfl, lk _ _ W H h st (.refl W H) (Dn.str _)⟩))
      · rename_i s1 d e
        have ev : rReprC [s1] H Q = rReprC [.non] H Q := by
          have key : ∀ {v : V} {s : Sd}, RepR K W H Hs H0 v s → s.dat = .non → v = .non := fun {v s} r e => by
            cases s with
            | fro d => cases (show d = .non from e); cases r; rfl
            | own _ => cases e
            | brw _ => cases e
            | ownd _ => cases e
            | owni _ _ _ => cases e
            | brwd _ => cases e
            | brwi _ _ _ => cases e
          rw [key r1 e]
        rw [ev]
        exact .inr (.inr (.inr ⟨rfl, lk _ _ W H h st (.refl W H) (Dn.str _)⟩))
      · exact h.elim
  · exact h.elim
theorem e_repr (hm : X.mg "repr" = none) (hg : Gl X "repr") (h : DE X J Wx e t) (he : starEach [e] X.env = (false, eval e X.env) :: starEach [] X.env := by rfl) : DE X J Wx (.Call (.Name "repr" p) [e] [] pos) (dCB fRepr (bCons t bNil)) := de_callB call_reprC repr_ok hg hm rfl (db_cons h db_nil he) (by decide) (by decide) he
/-! ### == of texts -/
def fEqS (neg : Bool) (x y : Sd) (Q : Sd → Prop) : Prop := match x.dat, y.dat with
  | .str a, .str b => Q (.fro (.bl (if neg then !decide (a = b) else decide (a = b))))
  | _, _ => False
theorem dec_strV {a b : Str} : decide (V.str a = V.str b) = decide (a = b) := by
  rw [decide_eq_decide]
  exact ⟨fun h => by injection h, fun h => by rw [h]⟩
theorem eqS_ok {K : PySem.W.Frag} : OpS K J rEq (fEqS false) := by
  intro W0 H0 Δ W σ H Hs Qd Q x y v u st rx ry h lk
  unfold fEqS at h
  split at h
  · rename_i i j e1 e2
    rw [rx.isStr e1, ry.isStr e2]
    refine ⟨rfl, ?_⟩
    rw [dec_strV]
    exact lk _ _ W H h st (.refl W H) (Dn.bl _)
  · exact h.elim
theorem neS_ok {K : PySem.W.Frag} : OpS K J rNe (fEqS true) := by
  intro W0 H0 Δ W σ H Hs Qd Q x y v u st rx ry h lk
  unfold fEqS at h
  split at h
  · rename_i i j e1 e2
    rw [rx.isStr e1, ry.isStr e2]
    refine ⟨rfl, ?_⟩
    rw [dec_strV]
    exact lk _ _ W H h st (.refl W H) (Dn.bl _)
  · exact h.elim
theorem e_eqS (ha : DE X J Wx a ta) (hb : DE X J Wx b tb) (hm : behindInMarks .Eq b = false := by first | exact nobehind _ (by decide) (by decide) | rfl) : DE X J Wx (.Compare a [.Eq] [b] pos) (dOp (fEqS false) ta tb) := de_cmp op_eq eqS_ok ha hb hm
theorem t_eqS (ha : DE X J Wx a ta) (hb : DE X J Wx b tb) (hm : behindInMarks .Eq b = false := by first | exact nobehind _ (by decide) (by decide) | rfl) : DT X J Wx (.Compare a [.Eq] [b] pos) (dTst (dOp (fEqS false) ta tb)) := dt_cmp op_eq eqS_ok ha hb hm
theorem e_neS (ha : DE X J Wx a ta) (hb : DE X J Wx b tb) (hm : behindInMarks .NotEq b = false := by first | exact nobehind _ (by decide) (by decide) | rfl) : DE X J Wx (.Compare a [.NotEq] [b] pos) (dOp (fEqS true) ta tb) := de_cmp op_ne neS_ok ha hb hm
theorem t_neS (ha : DE X J Wx a ta) (hb : DE X J Wx b tb) (hm : behindInMarks .NotEq b = false := by first | exact nobehind _ (by decide) (by decide) | rfl) : DT X J Wx (.Compare a [.NotEq] [b] pos) (dTst (dOp (fEqS true) ta tb)) := dt_cmp op_ne neS_ok ha hb hm
end
end DL
set_option Elab.async false
set_option linter.all false
set_option maxRecDepth 100000
set_option maxHeartbeats 4000000
namespace DL
open PySem PySem.Spec PyProof.Rows L2
section
variable {X : Cx} {J : JS} {Wx : WX}
/-! ### f() -/
theorem pe_call0SD {CX : CXT} {k : Nat} {f : Addr} {fd : FuncData} {ps : List Str} {sp : Sp} {E : L2.St → XK} {x : Str} {p pos : Pos} (F : FnOk X.prog X.w X.K X.mg X.base CX k f fd ps sp) (hr : Room k X.A) (hg : Gl X x) (hm : X.mg x = some (.ref f)) (hk : PySem.W.keepIn X.K (.ref f) = true) (hb : Binds X.K fd ps []) (hx : ∀ σ, PassesAt CX X σ (E σ))
    (hdb : (x == ("__debug__" : Str)) = false := by decide) : PE X (.Call (.Name x p) [] [] pos) (fun σ H Q => sp [] H Q (E σ)) := by
  refine ⟨fun pins s σ H Q I h => ?_⟩
  refine wpAny_Call_Name_kw (ld_glob I hg hm ?_ hdb)
  exact PySem.W.callWith_K0 I.kIn hk (run_fnSD (us := []) (vs := []) F hr hb .nil (hx σ) I .nil h)
theorem de_call0 {k : Nat} {x : Str} {ps : List Str} {r : SpecD} {p pos : Pos} (F : FD X.prog X.w X.K X.mg X.base J k x ps r) (hr : Room k X.A) (hg : Gl X x) (tk : Takes X Wx)
    (hdb : (x == ("__debug__" : Str)) = false := by decide) :
    DE X J Wx (.Call (.Name x p) [] [] pos) (dCall r dNil) := by
  obtain ⟨fd, hf, hb⟩ := F.ex
  refine (pe_call0SD hf hr hg F.mg F.kp hb (E := WE Wx) (fun σ => passAt tk σ) hdb).imp fun σ H Q ⟨W0, H0, Δ, W, Qd, Xd, st, ht, lk, lx⟩ => ?_
  show SpD X.K J r [] H Q (WE Wx σ)
  refine ⟨W, [], _, _, st.wok, .nil, ht, fun s v W' H' q' w' y' rr => ?_, fun e c d W' H' q' w' y' rr => ?_⟩
  · refine lk s.ret v W' H' q' (st.stp y' w') y' ?_
    have : ∀ {s : Sd}, RepR X.K W' H' H H v s → RepR X.K W' H' H H0 v s.ret := fun {s} h => by
      cases s with
      | fro d => exact h
      | own xs => exact h
      | brw xs => exact h
      | ownd xs => exact h
      | owni aA cC xs => exact h
      | brwd xs => exact h
      | brwi aA cC xs => exact h
    exact this rr
  · exact lx e c d W' H' q' (st.stp y' w') y' rr
end
end DL
set_option Elab.async false
set_option linter.all false
set_option maxRecDepth 100000
set_option maxHeartbeats 0
namespace DL
open PySem PySem.Spec PyProof.Rows L2
abbrev N_is_integer : List Str := ["thing"]
abbrev P_is_integer : List Str := ["thing"]
def T_is_integer : TDS := (dRet (vAnd (dCB fIsi (bCons (dVar 0) (bCons (dC (.fro (.ob (.ty "int")))) bNil))) (vNot (dCB fIsi (bCons (dVar 0) (bCons (dC (.fro (.ob (.ty "bool")))) bNil))))))
abbrev N_is_within : List Str := ["thing", "least", "most"]
abbrev P_is_within : List Str := ["thing", "least", "most"]
def T_is_within (R_is_integer : SpecD) : TDS := (dRet (vAnd (dCall R_is_integer (dCons (dVar 0) dNil)) (dChain (fCI pLe) (fCI pLe) (dVar 1) (dVar 0) (dVar 2))))
abbrev N_is_pair : List Str := ["thing"]
abbrev P_is_pair : List Str := ["thing"]
def T_is_pair : TDS := (dRet (vAnd (dCB fIsi (bCons (dVar 0) (bCons (dC (.fro (.ob (.ty "tuple")))) bNil))) (dOp (fEq false) (dCB fLen (bCons (dVar 0) bNil)) (dC (.fro (.int 2))))))
abbrev N_is_sign : List Str := ["thing", "letter"]
abbrev P_is_sign : List Str := ["thing"]
def T_is_sign : TDS := (dSeq (dIfS (dOr (dNot (dTst (dCB fIsi (bCons (dVar 0) (bCons (dC (.fro (.ob (.ty "str")))) bNil))))) (dNot (dTst (dChain (fCI pLe) (fCI pLe) (dC (.fro (.int 1))) (dCB fLen (bCons (dVar 0) bNil)) (dC (.fro (.int 8))))))) (dRet (dC (.fro (.bl false)))) dNext) (dRet (dCB (fBl fun bs => bs.all id) (bCons (dLc (dStrOf (dVar 0)) (dgName 1) (fun _ Q _ => Q true) (dOp (fInS false) (dVar 1) (dC (.fro (.str "abcdefghijklmnopqrstuvwxyz")))) [1]) bNil))))
abbrev N_are_signs : List Str := ["thing", "pair", "rising", "at", "sign", "places"]
abbrev P_are_signs : List Str := ["thing"]
def T_are_signs (R_is_pair : SpecD) (R_is_sign : SpecD) (R_is_within : SpecD) : TDS := (dSeq (dIfS (dOr (dNot (dTst (dCB fIsi (bCons (dVar 0) (bCons (dC (.fro (.ob (.ty "tuple")))) bNil))))) (dNot (dTst (dChain (fCI pLe) (fCI pLe) (dC (.fro (.int 1))) (dCB fLen (bCons (dVar 0) bNil)) (dC (.fro (.int 12))))))) (dRet (dC (.fro (.bl false)))) dNext) (dSeq (dFor (dTupOf (dVar 0)) (dgName 1) (dIfS (dOr (dNot (dTst (dCall R_is_pair (dCons (dVar 1) dNil)))) (dOr (dNot (dTst (dCall R_is_sign (dCons (dOp fIx (dVar 1) (dC (.fro (.int 0)))) dNil)))) (dNot (dTst (dCall R_is_within (dCons (dOp fIx (dVar 1) (dC (.fro (.int 1)))) (dCons (dC (.fro (.int 0))) (dCons (dC (.fro (.int 2))) dNil)))))))) (dRet (dC (.fro (.bl false)))) dNext)) (dSeq (dSet 2 (dCB (fBl fun bs => bs.all id) (bCons (dLc (dRng rg2 (dCons (dC (.fro (.int 1))) (dCons (dCB fLen (bCons (dVar 0) bNil)) dNil))) (dgName 3) (fun _ Q _ => Q true) (dOp (fCmp pLt qLt) (dOp fIx (dOp fIx (dVar 0) (dOp fSub (dVar 3) (dC (.fro (.int 1))))) (dC (.fro (.int 0)))) (dOp fIx (dOp fIx (dVar 0) (dVar 3)) (dC (.fro (.int 0))))) [3]) bNil))) (dRet (vAnd (dVar 2) (dCB (fBl fun bs => bs.any id) (bCons (dLc (dTupOf (dVar 0)) (dgTup 2 (dgCons (dgName 4) (dgCons (dgName 5) dgNil))) (fun _ Q _ => Q true) (dOp (fEq false) (dVar 5) (dC (.fro (.int 0)))) [4, 5]) bNil)))))))
abbrev N_is_term_of : List Str := ["places", "thing", "waiting", "here"]
abbrev P_is_term_of : List Str := ["places", "thing"]
def T_is_term_of : TDS := (dSeq (dSet 2 (dLst (dCons (dVar 1) dNil))) (dSeq (dWhile (dTst (dOp (fCI pGt) (dCB fLen (bCons (dVar 2) bNil)) (dC (.fro (.int 0))))) (dSeq (dSetX 3 (xPop 2)) (dSeq (dIfS (dOr (dNot (dTst (dCB fIsi (bCons (dVar 3) (bCons (dC (.fro (.ob (.ty "tuple")))) bNil))))) (dOr (dTst (dOp (fEq false) (dCB fLen (bCons (dVar 3) bNil)) (dC (.fro (.int 0))))) (dNot (dTst (dCB fIsi (bCons (dOp fIx (dVar 3) (dC (.fro (.int 0)))) (bCons (dC (.fro (.ob (.ty "str")))) bNil))))))) (dRet (dC (.fro (.bl false)))) dNext) (dSeq (dIfS (dOr (dTst (dOp (fDin true) (dOp fIx (dVar 3) (dC (.fro (.int 0)))) (dVar 0))) (dTst (dOp (fEq true) (dCB fLen (bCons (dVar 3) bNil)) (dOp fAdd (dOp fDget (dVar 0) (dOp fIx (dVar 3) (dC (.fro (.int 0))))) (dC (.fro (.int 1))))))) (dRet (dC (.fro (.bl false)))) dNext) (dExtend 2 (dSl (dVar 3) (oSome (dC (.fro (.int 1)))) oNone)))))) (dRet (dC (.fro (.bl true))))))
abbrev N_is_line_of : List Str := ["places", "thing"]
abbrev P_is_line_of : List Str := ["places", "thing"]
def T_is_line_of (R_is_pair : SpecD) (R_is_term_of : SpecD) : TDS := (dRet (vAnd (dCall R_is_pair (dCons (dVar 1) dNil)) (vAnd (dCall R_is_term_of (dCons (dVar 0) (dCons (dOp fIx (dVar 1) (dC (.fro (.int 0)))) dNil))) (dCall R_is_term_of (dCons (dVar 0) (dCons (dOp fIx (dVar 1) (dC (.fro (.int 1)))) dNil))))))
abbrev N_size_of : List Str := ["term", "found", "waiting"]
abbrev P_size_of : List Str := ["term"]
def T_size_of : TDS := (dSeq (dSet 1 (dC (.fro (.int 0)))) (dSeq (dSet 2 (dLst (dCons (dVar 0) dNil))) (dSeq (dWhile (dTst (dOp (fCI pGt) (dCB fLen (bCons (dVar 2) bNil)) (dC (.fro (.int 0))))) (dSeq (dAugI 1 (fun a b => a + b) (dC (.fro (.int 1)))) (dExtendX 2 (xSl (xPop 2) (oSome (dC (.fro (.int 1)))) oNone)))) (dRet (dVar 1)))))
abbrev N_order_of : List Str := ["term"]
abbrev P_order_of : List Str := ["term"]
def T_order_of (R_size_of : SpecD) : TDS := (dRet (dTup (dCons (dCall R_size_of (dCons (dVar 0) dNil)) (dCons (dVar 0) dNil))))
abbrev N_ascending : List Str := ["terms"]
abbrev P_ascending : List Str := ["terms"]
def T_ascending (R_order_of : SpecD) : TDS := (dRet (dSortK R_order_of (dVar 0)))
abbrev N_text_of : List Str := ["term", "found", "waiting", "here", "at"]
abbrev P_text_of : List Str := ["term"]
def T_text_of : TDS := (dSeq (dSet 1 (dLst dNil)) (dSeq (dSet 2 (dLst (dCons (dVar 0) dNil))) (dSeq (dWhile (dTst (dOp (fCI pGt) (dCB fLen (bCons (dVar 2) bNil)) (dC (.fro (.int 0))))) (dSeq (dSetX 3 (xPop 2)) (dIfS (dTst (dCB fIsi (bCons (dVar 3) (bCons (dC (.fro (.ob (.ty "str")))) bNil)))) (dAppend 1 (dVar 3)) (dIfS (dTst (dOp (fEq false) (dCB fLen (bCons (dVar 3) bNil)) (dC (.fro (.int 1))))) (dAppend 1 (dOp fIx (dVar 3) (dC (.fro (.int 0))))) (dSeq (dAppend 1 (dOp fAdd (dOp fIx (dVar 3) (dC (.fro (.int 0)))) (dC (.fro (.str "("))))) (dSeq (dAppend 2 (dC (.fro (.str ")")))) (dFor (dRng rg3 (dCons (dOp fSub (dCB fLen (bCons (dVar 3) bNil)) (dC (.fro (.int 1)))) (dCons (dC (.fro (.int 0))) (dCons (dUn fNeg (dC (.fro (.int 1)))) dNil)))) (dgName 4) (dSeq (dAppend 2 (dOp fIx (dVar 3) (dVar 4))) (dIfS (dTst (dOp (fCI pGt) (dVar 4) (dC (.fro (.int 1))))) (dAppend 2 (dC (.fro (.str ",")))) dNext))))))))) (dRet (dJoin "" (dVar 1))))))
abbrev N_within_of : List Str := ["terms", "found", "waiting", "here", "key"]
abbrev P_within_of : List Str := ["terms"]
def T_within_of (R_text_of : SpecD) (R_ascending : SpecD) : TDS := (dSeq (dSet 1 (dC (.ownd []))) (dSeq (dSet 2 (dCB fLstOf (bCons (dVar 0) bNil))) (dSeq (dWhile (dTst (dOp (fCI pGt) (dCB fLen (bCons (dVar 2) bNil)) (dC (.fro (.int 0))))) (dSeq (dSetX 3 (xPop 2)) (dSeq (dSet 4 (dCall R_text_of (dCons (dVar 3) dNil))) (dIfS (dTst (dOp (fDin true) (dVar 4) (dVar 1))) (dSeq (dDput 1 (dVar 4) (dVar 3)) (dExtend 2 (dSl (dVar 3) (oSome (dC (.fro (.int 1)))) oNone))) dNext)))) (dFreeze 1 (dRet (dCall R_ascending (dCons (dLcKeys 1 (dgName 4) (fun _ Q _ => Q true) (dOp fDget (dVar 1) (dVar 4)) [4]) dNil)))))))
abbrev N_sides_of : List Str := ["lines", "found", "left", "right"]
abbrev P_sides_of : List Str := ["lines"]
def T_sides_of : TDS := (dSeq (dSet 1 (dLst dNil)) (dSeq (dFor (dTupOf (dVar 0)) (dgTup 2 (dgCons (dgName 2) (dgCons (dgName 3) dgNil))) (dExtend 1 (dLst (dCons (dVar 2) (dCons (dVar 3) dNil))))) (dRet (dVar 1))))
abbrev N_is_term_there : List Str := ["lore", "thing"]
abbrev P_is_term_there : List Str := ["lore", "thing"]
def T_is_term_there (R_is_term_of : SpecD) (csL : List Str) : TDS := (dRet (dCall R_is_term_of (dCons (dFldA csL "kept_places" (dVar 0)) (dCons (dVar 1) dNil))))
abbrev N_is_term : List Str := ["lore", "thing"]
abbrev P_is_term : List Str := ["lore", "thing"]
def T_is_term (R_is_term_there : SpecD) : TDS := (dRet (dCall R_is_term_there (dCons (dVar 0) (dCons (dVar 1) dNil))))
abbrev N_check_term : List Str := ["lore", "thing"]
abbrev P_check_term : List Str := ["lore", "thing"]
def T_check_term (R_is_term_there : SpecD) : TDS := (dIfS (dNot (dTst (dCall R_is_term_there (dCons (dVar 0) (dCons (dVar 1) dNil))))) (dRaise0 "NoTerm") dNext)
abbrev N_size : List Str := ["lore", "term"]
abbrev P_size : List Str := ["lore", "term"]
def T_size (R_check_term : SpecD) (R_size_of : SpecD) : TDS := (dSeq (dDrop (dCall R_check_term (dCons (dVar 0) (dCons (dVar 1) dNil)))) (dRet (dCall R_size_of (dCons (dVar 1) dNil))))
abbrev N_told_of : List Str := ["lore"]
abbrev P_told_of : List Str := ["lore"]
def T_told_of (R_sides_of : SpecD) (R_within_of : SpecD) (csL : List Str) : TDS := (dRet (dCall R_within_of (dCons (dCall R_sides_of (dCons (dFldA csL "lines" (dVar 0)) dNil)) dNil)))
abbrev N_told_terms : List Str := ["lore"]
abbrev P_told_terms : List Str := ["lore"]
def T_told_terms (R_told_of : SpecD) : TDS := (dRet (dCB fTupOf (bCons (dCall R_told_of (dCons (dVar 0) dNil)) bNil)))
abbrev N__law_deep : List Str := ["thing", "turn"]
abbrev P__law_deep : List Str := []
def T__law_deep : TDS := (dSeq (dSet 0 (dLst (dCons (dC (.fro .non)) dNil))) (dSeq (dFor (dRng rg1 (dCons (dC (.fro (.int 35))) dNil)) (dgName 1) (dFreeze 0 (dSet 0 (dLst (dCons (dVar 0) dNil))))) (dRet (dVar 0))))
abbrev N__law_flag : List Str := ["thing", "due"]
abbrev P__law_flag : List Str := ["thing", "due"]
def T__law_flag : TDS := (dRet (vAnd (dCB fIsi (bCons (dVar 0) (bCons (dC (.fro (.ob (.ty "bool")))) bNil))) (dOp (fEq false) (dVar 0) (dVar 1))))
abbrev N__law_is : List Str := ["told", "due"]
abbrev P__law_is : List Str := ["told", "due"]
def T__law_is : TDS := (dRet (dOp (fEqS false) (dCB fRepr (bCons (dVar 0) bNil)) (dCB fRepr (bCons (dVar 1) bNil))))
abbrev N__law_signs : List Str := ["pool", "some"]
abbrev P__law_signs : List Str := ["pool"]
def T__law_signs (R__law_draw : SpecD) : TDS := (dSeq (dSet 1 (dSl (dLst (dCons (dTup (dCons (dC (.fro (.str "a"))) (dCons (dC (.fro (.int 0))) dNil))) (dCons (dTup (dCons (dC (.fro (.str "b"))) (dCons (dC (.fro (.int 0))) dNil))) (dCons (dTup (dCons (dC (.fro (.str "c"))) (dCons (dC (.fro (.int 0))) dNil))) dNil)))) oNone (oSome (dOp fAdd (dC (.fro (.int 1))) (dCall R__law_draw (dCons (dVar 0) (dCons (dC (.fro (.int 3))) dNil))))))) (dSeq (dSet 1 (dOp fAdd (dVar 1) (dSl (dLst (dCons (dTup (dCons (dC (.fro (.str "f"))) (dCons (dC (.fro (.int 1))) dNil))) (dCons (dTup (dCons (dC (.fro (.str "g"))) (dCons (dC (.fro (.int 1))) dNil))) (dCons (dTup (dCons (dC (.fro (.str "h"))) (dCons (dC (.fro (.int 1))) dNil))) dNil)))) oNone (oSome (dCall R__law_draw (dCons (dVar 0) (dCons (dC (.fro (.int 4))) dNil))))))) (dSeq (dSet 1 (dOp fAdd (dVar 1) (dSl (dLst (dCons (dTup (dCons (dC (.fro (.str "p"))) (dCons (dC (.fro (.int 2))) dNil))) (dCons (dTup (dCons (dC (.fro (.str "q"))) (dCons (dC (.fro (.int 2))) dNil))) dNil))) oNone (oSome (dCB (f2i gMax) (bCons (dC (.fro (.int 0))) (bCons (dOp fSub (dCall R__law_draw (dCons (dVar 0) (dCons (dC (.fro (.int 4))) dNil))) (dC (.fro (.int 1)))) bNil))))))) (dRet (dCB fTupOf (bCons (dCB fSort (bCons (dVar 1) bNil)) bNil))))))
abbrev N__law_term : List Str := ["pool", "signs", "deep", "some", "pair", "sign", "places", "place"]
abbrev P__law_term : List Str := ["pool", "signs", "deep"]
def T__law_term (R__law_draw : SpecD) (R__law_term : SpecD) : TDS := (dSeq (dSet 3 (dLc (dTupOf (dVar 1)) (dgName 4) (dOr (dTst (dOp (fEq false) (dOp fIx (dVar 4) (dC (.fro (.int 1)))) (dC (.fro (.int 0))))) (dTst (dOp (fCI pGt) (dVar 2) (dC (.fro (.int 0)))))) (dVar 4) [4])) (dSeq (dIfS (dAnd (dTst (dOp (fCI pGt) (dVar 2) (dC (.fro (.int 0))))) (dTst (dOp (fCI pGt) (dCall R__law_draw (dCons (dVar 0) (dCons (dC (.fro (.int 3))) dNil))) (dC (.fro (.int 0)))))) (dSet 3 (dOp fAdd (dLc (dTupOf (dVar 1)) (dgName 4) (dTst (dOp (fCI pGt) (dOp fIx (dVar 4) (dC (.fro (.int 1)))) (dC (.fro (.int 0))))) (dVar 4) [4]) (dSl (dVar 3) oNone (oSome (dC (.fro (.int 1))))))) dNext) (dSeq (dAsgG (dOp fIx (dVar 3) (dCall R__law_draw (dCons (dVar 0) (dCons (dCB fLen (bCons (dVar 3) bNil)) dNil)))) (dgTup 2 (dgCons (dgName 5) (dgCons (dgName 6) dgNil)))) (dRet (dOp fAdd (dTup (dCons (dVar 5) dNil)) (dCB fTupOf (bCons (dLc (dRng rg1 (dCons (dVar 6) dNil)) (dgName 7) (fun _ Q _ => Q true) (dCall R__law_term (dCons (dVar 0) (dCons (dVar 1) (dCons (dOp fSub (dVar 2) (dC (.fro (.int 1)))) dNil)))) [7]) bNil)))))))
abbrev N__law_lines : List Str := ["pool", "signs", "most", "deep", "found", "turn", "line"]
abbrev P__law_lines : List Str := ["pool", "signs", "most", "deep"]
def T__law_lines (R__law_draw : SpecD) (R__law_term : SpecD) : TDS := (dSeq (dSet 4 (dLst dNil)) (dSeq (dFor (dRng rg1 (dCons (dCall R__law_draw (dCons (dVar 0) (dCons (dOp fAdd (dVar 2) (dC (.fro (.int 1)))) dNil))) dNil)) (dgName 5) (dSeq (dSet 6 (dTup (dCons (dCall R__law_term (dCons (dVar 0) (dCons (dVar 1) (dCons (dCall R__law_draw (dCons (dVar 0) (dCons (dOp fAdd (dVar 3) (dC (.fro (.int 1)))) dNil))) dNil)))) (dCons (dCall R__law_term (dCons (dVar 0) (dCons (dVar 1) (dCons (dCall R__law_draw (dCons (dVar 0) (dCons (dOp fAdd (dVar 3) (dC (.fro (.int 1)))) dNil))) dNil)))) dNil)))) (dSeq (dIfS (dAnd (dTst (dOp (fCI pGt) (dCB fLen (bCons (dVar 4) bNil)) (dC (.fro (.int 0))))) (dTst (dOp (fEq false) (dCall R__law_draw (dCons (dVar 0) (dCons (dC (.fro (.int 8))) dNil))) (dC (.fro (.int 0)))))) (dSet 6 (dRev (dOp fIx (dVar 4) (dCall R__law_draw (dCons (dVar 0) (dCons (dCB fLen (bCons (dVar 4) bNil)) dNil)))))) dNext) (dAppend 4 (dVar 6))))) (dRet (dCB fTupOf (bCons (dVar 4) bNil)))))
abbrev N__law_lore : List Str := ["pool", "most", "deep", "signs", "lines"]
abbrev P__law_lore : List Str := ["pool", "most", "deep"]
def T__law_lore (R__law_signs : SpecD) (R__law_lines : SpecD) (R__law_told : SpecD) : TDS := (dSeq (dSet 3 (dCall R__law_signs (dCons (dVar 0) dNil))) (dSeq (dSet 4 (dCall R__law_lines (dCons (dVar 0) (dCons (dVar 3) (dCons (dVar 1) (dCons (dVar 2) dNil)))))) (dSeq (dWhile (dTst (dOp (fCI pGt) (dCB fLen (bCons (dCall R__law_told (dCons (dVar 4) dNil)) bNil)) (dC (.fro (.int 40))))) (dSet 4 (dSl (dVar 4) oNone (oSome (dUn fNeg (dC (.fro (.int 1)))))))) (dRet (dTup (dCons (dVar 3) (dCons (dVar 4) dNil)))))))
abbrev N__law_made : List Str := ["spec"]
abbrev P__law_made : List Str := ["spec"]
def T__law_made (R_Lore : SpecO) : TDS := (dRet (dMake "Lore" R_Lore (dCons (dOp fIx (dVar 0) (dC (.fro (.int 0)))) (dCons (dOp fIx (dVar 0) (dC (.fro (.int 1)))) dNil))))
abbrev N__law_size : List Str := ["term", "part"]
abbrev P__law_size : List Str := ["term"]
def T__law_size (R__law_size : SpecD) : TDS := (dRet (dOp fAdd (dC (.fro (.int 1))) (dCB fSum (bCons (dLc (dTupOf (dSl (dVar 0) (oSome (dC (.fro (.int 1)))) oNone)) (dgName 1) (fun _ Q _ => Q true) (dCall R__law_size (dCons (dVar 1) dNil)) [1]) bNil))))
abbrev N__law_key : List Str := ["term"]
abbrev P__law_key : List Str := ["term"]
def T__law_key (R__law_size : SpecD) : TDS := (dRet (dTup (dCons (dCall R__law_size (dCons (dVar 0) dNil)) (dCons (dVar 0) dNil))))
abbrev N__law_within : List Str := ["terms", "found", "left", "here"]
abbrev P__law_within : List Str := ["terms"]
def T__law_within (R__law_key : SpecD) : TDS := (dSeq (dSet 1 (dLst dNil)) (dSeq (dSet 2 (dCB fLstOf (bCons (dVar 0) bNil))) (dSeq (dWhile (dTst (dOp (fCI pGt) (dCB fLen (bCons (dVar 2) bNil)) (dC (.fro (.int 0))))) (dSeq (dSetX 3 (xPop 2)) (dIfS (dTst (dOp (fIn true) (dVar 3) (dVar 1))) (dSeq (dAppend 1 (dVar 3)) (dSet 2 (dOp fAdd (dVar 2) (dCB fLstOf (bCons (dSl (dVar 3) (oSome (dC (.fro (.int 1)))) oNone) bNil))))) dNext))) (dRet (dSortK R__law_key (dVar 1))))))
abbrev N__law_told : List Str := ["lines", "line"]
abbrev P__law_told : List Str := ["lines"]
def T__law_told (R__law_within : SpecD) : TDS := (dRet (dCall R__law_within (dCons (dOp fAdd (dLc (dTupOf (dVar 0)) (dgName 1) (fun _ Q _ => Q true) (dOp fIx (dVar 1) (dC (.fro (.int 0)))) [1]) (dLc (dTupOf (dVar 0)) (dgName 1) (fun _ Q _ => Q true) (dOp fIx (dVar 1) (dC (.fro (.int 1)))) [1])) dNil)))
abbrev N__law_is_right : List Str := ["signs", "thing", "part"]
abbrev P__law_is_right : List Str := ["signs", "thing"]
def T__law_is_right (R__law_is_right : SpecD) : TDS := (dSeq (dIfS (dOr (dNot (dTst (dCB fIsi (bCons (dVar 1) (bCons (dC (.fro (.ob (.ty "tuple")))) bNil))))) (dOr (dTst (dOp (fEq false) (dCB fLen (bCons (dVar 1) bNil)) (dC (.fro (.int 0))))) (dNot (dTst (dCB fIsi (bCons (dOp fIx (dVar 1) (dC (.fro (.int 0)))) (bCons (dC (.fro (.ob (.ty "str")))) bNil))))))) (dRet (dC (.fro (.bl false)))) dNext) (dRet (vAnd (dOp (fIn false) (dTup (dCons (dOp fIx (dVar 1) (dC (.fro (.int 0)))) (dCons (dOp fSub (dCB fLen (bCons (dVar 1) bNil)) (dC (.fro (.int 1)))) dNil))) (dVar 0)) (dCB (fBl fun bs => bs.all id) (bCons (dLc (dTupOf (dSl (dVar 1) (oSome (dC (.fro (.int 1)))) oNone)) (dgName 2) (fun _ Q _ => Q true) (dCall R__law_is_right (dCons (dVar 0) (dCons (dVar 2) dNil))) [2]) bNil)))))
abbrev N__law_bent : List Str := ["pool", "term", "at", "odd"]
abbrev P__law_bent : List Str := ["pool", "term"]
def T__law_bent (R__law_draw : SpecD) (R__law_bent : SpecD) (R__law_deep : SpecD) : TDS := (dSeq (dIfS (dAnd (dTst (dOp (fCI pGt) (dCB fLen (bCons (dVar 1) bNil)) (dC (.fro (.int 1))))) (dTst (dOp (fCI pGt) (dCall R__law_draw (dCons (dVar 0) (dCons (dC (.fro (.int 3))) dNil))) (dC (.fro (.int 0)))))) (dSeq (dSet 2 (dOp fAdd (dC (.fro (.int 1))) (dCall R__law_draw (dCons (dVar 0) (dCons (dOp fSub (dCB fLen (bCons (dVar 1) bNil)) (dC (.fro (.int 1)))) dNil))))) (dRet (dOp fAdd (dOp fAdd (dSl (dVar 1) oNone (oSome (dVar 2))) (dTup (dCons (dCall R__law_bent (dCons (dVar 0) (dCons (dOp fIx (dVar 1) (dVar 2)) dNil))) dNil))) (dSl (dVar 1) (oSome (dOp fAdd (dVar 2) (dC (.fro (.int 1))))) oNone)))) dNext) (dSeq (dSet 3 (dLst (dCons (dC (.fro .non)) (dCons (dC (.fro (.str "a"))) (dCons (dC (.fro (.int 0))) (dCons (dC (.fro (.bl true))) (dCons (dTup dNil) (dCons (dLst (dCons (dC (.fro (.str "a"))) dNil)) (dCons (dTup (dCons (dC (.fro (.str "zz"))) dNil)) (dCons (dTup (dCons (dC (.fro (.int 1))) dNil)) (dCons (dC (.ownd [])) (dCons (dTup (dCons (dTup (dCons (dC (.fro (.str "a"))) dNil)) dNil)) (dCons (dOp fAdd (dVar 1) (dTup (dCons (dTup (dCons (dC (.fro (.str "a"))) dNil)) dNil))) (dCons (dSl (dVar 1) oNone (oSome (dUn fNeg (dC (.fro (.int 1)))))) (dCons (dCB fLstOf (bCons (dVar 1) bNil)) (dCons (dCall R__law_deep dNil) dNil)))))))))))))))) (dSeq (dSet 3 (dOp fAdd (dVar 3) (dLst (dCons (dTup (dCons (dC (.fro (.str "a"))) dNil)) (dCons (dTup (dCons (dC (.fro (.str "b"))) dNil)) (dCons (dTup (dCons (dOp fIx (dVar 1) (dC (.fro (.int 0)))) (dCons (dTup (dCons (dC (.fro (.str "a"))) dNil)) dNil))) (dCons (dTup (dCons (dOp fIx (dVar 1) (dC (.fro (.int 0)))) (dCons (dTup (dCons (dC (.fro (.str "a"))) dNil)) (dCons (dTup (dCons (dC (.fro (.str "a"))) dNil)) dNil)))) (dCons (dOp fAdd (dTup (dCons (dC (.fro .non)) dNil)) (dSl (dVar 1) (oSome (dC (.fro (.int 1)))) oNone)) dNil)))))))) (dRet (dOp fIx (dVar 3) (dCall R__law_draw (dCons (dVar 0) (dCons (dC (.fro (.int 19))) dNil))))))))
abbrev N__law_size_told : List Str := ["lore", "thing", "found"]
abbrev P__law_size_told : List Str := ["lore", "thing"]
def T__law_size_told (R_size : SpecD) (hit_NoTerm : Str → Option Bool) : TDS := (dSeq (dSet 2 (dC (.fro .non))) (dSeq (dTry hit_NoTerm (dSet 2 (dCall R_size (dCons (dVar 0) (dCons (dVar 1) dNil)))) (dSet 2 (dC (.fro (.str "none"))))) (dRet (dVar 2))))
abbrev N_Lore_u__init_u_ : List Str := ["self", "signs", "lines", "places", "number", "line"]
abbrev P_Lore_u__init_u_ : List Str := ["self", "signs", "lines"]
def T_Lore_u__init_u_ (R_are_signs : SpecD) (R_is_line_of : SpecD) (R_sides_of : SpecD) (R_within_of : SpecD) (R_keep : SpecO) (C : Str) : TDS := (dSeq (dIfS (dNot (dTst (dCall R_are_signs (dCons (dVar 1) dNil)))) (dRaise1 "BadLore" "part" (dC (.fro (.str "signs")))) dNext) (dSeq (dIfS (dOr (dNot (dTst (dCB fIsi (bCons (dVar 2) (bCons (dC (.fro (.ob (.ty "tuple")))) bNil))))) (dTst (dOp (fCI pGt) (dCB fLen (bCons (dVar 2) bNil)) (dC (.fro (.int 24)))))) (dRaise1 "BadLore" "part" (dC (.fro (.str "lines")))) dNext) (dSeq (dSet 3 (dCB fDictP (bCons (dVar 1) bNil))) (dSeq (dFreeze 3 (dFor (dEnum (dCons (dVar 2) dNil)) (dgTup 2 (dgCons (dgName 4) (dgCons (dgName 5) dgNil))) (dIfS (dNot (dTst (dCall R_is_line_of (dCons (dVar 3) (dCons (dVar 5) dNil))))) (dRaise1 "BadLore" "part" (dVar 4)) dNext))) (dSeq (dIfS (dTst (dOp (fCI pGt) (dCB fLen (bCons (dCall R_within_of (dCons (dCall R_sides_of (dCons (dVar 2) dNil)) dNil)) bNil)) (dC (.fro (.int 60))))) (dRaise1 "BadLore" "part" (dC (.fro (.str "terms")))) dNext) (dCallO 0 C "keep" R_keep (dCons (dVar 1) (dCons (dVar 2) dNil))))))))
abbrev N_Lore_keep : List Str := ["self", "signs", "lines"]
abbrev P_Lore_keep : List Str := ["self", "signs", "lines"]
def T_Lore_keep (C : Str) : TDS := (dSeq (dFldSet 0 C "signs" (dVar 1)) (dSeq (dFldSet 0 C "lines" (dVar 2)) (dSeq (dFldSet 0 C "kept_places" (dCB fDictP (bCons (dVar 1) bNil))) (dFldSet 0 C "kept_hall" (dLst dNil)))))
abbrev N_Lore_u__eq_u_ : List Str := ["self", "other"]
abbrev P_Lore_u__eq_u_ : List Str := ["self", "other"]
def T_Lore_u__eq_u_ (sub_Lore : Str → Option Bool) (csL : List Str) : TDS := (dRet (vAnd (dIsiC sub_Lore (dVar 1)) (vAnd (dOp (fEq false) (dFldA csL "signs" (dVar 0)) (dFldA csL "signs" (dVar 1))) (dOp (fEq false) (dFldA csL "lines" (dVar 0)) (dFldA csL "lines" (dVar 1))))))
abbrev N_is_lot : List Str := ["thing", "below", "item", "at"]
abbrev P_is_lot : List Str := ["thing", "below"]
def T_is_lot (R_is_within : SpecD) : TDS := (dSeq (dIfS (dOr (dNot (dTst (dCB fIsi (bCons (dVar 0) (bCons (dC (.fro (.ob (.ty "tuple")))) bNil))))) (dNot (dTst (dCB (fBl fun bs => bs.all id) (bCons (dLc (dTupOf (dVar 0)) (dgName 2) (fun _ Q _ => Q true) (dCall R_is_within (dCons (dVar 2) (dCons (dC (.fro (.int 0))) (dCons (dOp fSub (dVar 1) (dC (.fro (.int 1)))) dNil)))) [2]) bNil))))) (dRet (dC (.fro (.bl false)))) dNext) (dRet (dCB (fBl fun bs => bs.all id) (bCons (dLc (dRng rg2 (dCons (dC (.fro (.int 1))) (dCons (dCB fLen (bCons (dVar 0) bNil)) dNil))) (dgName 3) (fun _ Q _ => Q true) (dOp (fCmp pLt qLt) (dOp fIx (dVar 0) (dOp fSub (dVar 3) (dC (.fro (.int 1))))) (dOp fIx (dVar 0) (dVar 3))) [3]) bNil))))
abbrev N_raw_lore : List Str := ["signs", "lines"]
abbrev P_raw_lore : List Str := ["signs", "lines"]
def T_raw_lore (R_RawLore : SpecO) : TDS := (dRet (dMake "RawLore" R_RawLore (dCons (dCB fTupOf (bCons (dVar 0) bNil)) (dCons (dCB fTupOf (bCons (dVar 1) bNil)) dNil))))
abbrev N_check_line : List Str := ["lore", "thing"]
abbrev P_check_line : List Str := ["lore", "thing"]
def T_check_line (R_is_line_of : SpecD) (csL : List Str) : TDS := (dIfS (dNot (dTst (dCall R_is_line_of (dCons (dFldA csL "kept_places" (dVar 0)) (dCons (dVar 1) dNil))))) dNever dNext)
abbrev N_with_lines : List Str := ["lore", "lines"]
abbrev P_with_lines : List Str := ["lore", "lines"]
def T_with_lines (R_raw_lore : SpecD) (csL : List Str) : TDS := (dRet (dCall R_raw_lore (dCons (dFldA csL "signs" (dVar 0)) (dCons (dOp fAdd (dFldA csL "lines" (dVar 0)) (dCB fTupOf (bCons (dVar 1) bNil))) dNil))))
abbrev N_with_line : List Str := ["lore", "line"]
abbrev P_with_line : List Str := ["lore", "line"]
def T_with_line (R_check_line : SpecD) (R_with_lines : SpecD) : TDS := (dSeq (dDrop (dCall R_check_line (dCons (dVar 0) (dCons (dVar 1) dNil)))) (dRet (dCall R_with_lines (dCons (dVar 0) (dCons (dLst (dCons (dVar 1) dNil)) dNil)))))
abbrev N_less_lines : List Str := ["lore", "lot", "number", "line"]
abbrev P_less_lines : List Str := ["lore", "lot"]
def T_less_lines (R_raw_lore : SpecD) (csL : List Str) : TDS := (dRet (dCall R_raw_lore (dCons (dFldA csL "signs" (dVar 0)) (dCons (dLc (dEnum (dCons (dFldA csL "lines" (dVar 0)) dNil)) (dgTup 2 (dgCons (dgName 2) (dgCons (dgName 3) dgNil))) (dTst (dOp (fIn true) (dVar 2) (dVar 1))) (dVar 3) [2, 3]) dNil))))
abbrev N_without : List Str := ["lore", "lot"]
abbrev P_without : List Str := ["lore", "lot"]
def T_without (R_is_lot : SpecD) (R_less_lines : SpecD) (csL : List Str) : TDS := (dSeq (dIfS (dNot (dTst (dCall R_is_lot (dCons (dVar 1) (dCons (dCB fLen (bCons (dFldA csL "lines" (dVar 0)) bNil)) dNil))))) dNever dNext) (dRet (dCall R_less_lines (dCons (dVar 0) (dCons (dVar 1) dNil)))))
abbrev N_RawLore_u__init_u_ : List Str := ["self", "signs", "lines"]
abbrev P_RawLore_u__init_u_ : List Str := ["self", "signs", "lines"]
def T_RawLore_u__init_u_ (R_keep : SpecO) (C : Str) : TDS := (dCallO 0 C "keep" R_keep (dCons (dVar 1) (dCons (dVar 2) dNil)))
end DL
set_option Elab.async false
set_option linter.all false
namespace DL
open PySem PySem.Spec PyProof.Rows L2
abbrev csLore : List Str := ["Lore"]
end DL
set_option Elab.async false
set_option linter.all false
set_option maxRecDepth 100000
set_option maxHeartbeats 0
namespace DL
open PySem PySem.Spec PyProof.Rows L2
abbrev N_law : List Str := ["script", "pool", "turn", "spec", "lore", "again", "thing", "right", "due"]
abbrev P_law : List Str := ["script"]
def T_law (R__law_pool : SpecD) (R__law_lore : SpecD) (R__law_made : SpecD) (R__law_draw : SpecD) (R__law_term : SpecD) (R__law_bent : SpecD) (R__law_is_right : SpecD) (R__law_size : SpecD) (R_is_term : SpecD) (R__law_flag : SpecD) (R__law_size_told : SpecD) (R__law_is : SpecD) (R_told_terms : SpecD) (R__law_told : SpecD) : TDS := (dSeq (dSet 1 (dCall R__law_pool (dCons (dVar 0) dNil))) (dSeq (dFor (dRng rg1 (dCons (dC (.fro (.int 3))) dNil)) (dgName 2) (dSeq (dSet 3 (dCall R__law_lore (dCons (dVar 1) (dCons (dC (.fro (.int 5))) (dCons (dC (.fro (.int 2))) dNil))))) (dSeq (dSet 4 (dCall R__law_made (dCons (dVar 3) dNil))) (dSeq (dFor (dRng rg1 (dCons (dC (.fro (.int 5))) dNil)) (dgName 5) (dSeq (dSet 6 (dCall R__law_term (dCons (dVar 1) (dCons (dOp fIx (dVar 3) (dC (.fro (.int 0)))) (dCons (dCall R__law_draw (dCons (dVar 1) (dCons (dC (.fro (.int 5))) dNil))) dNil))))) (dSeq (dIfS (dTst (dOp (fCI pGt) (dCall R__law_draw (dCons (dVar 1) (dCons (dC (.fro (.int 3))) dNil))) (dC (.fro (.int 0))))) (dSet 6 (dCall R__law_bent (dCons (dVar 1) (dCons (dVar 6) dNil)))) dNext) (dSeq (dSet 7 (dCall R__law_is_right (dCons (dOp fIx (dVar 3) (dC (.fro (.int 0)))) (dCons (dVar 6) dNil)))) (dSeq (dSet 8 (dIf (dTst (dVar 7)) (dCall R__law_size (dCons (dVar 6) dNil)) (dC (.fro (.str "none"))))) (dIfS (dOr (dNot (dTst (dCall R__law_flag (dCons (dCall R_is_term (dCons (dVar 4) (dCons (dVar 6) dNil))) (dCons (dVar 7) dNil))))) (dNot (dTst (dCall R__law_is (dCons (dCall R__law_size_told (dCons (dVar 4) (dCons (dVar 6) dNil))) (dCons (dVar 8) dNil)))))) (dRet (dC (.fro (.bl false)))) dNext)))))) (dIfS (dOr (dTst (dOp (fEq true) (dCall R_told_terms (dCons (dVar 4) dNil)) (dCB fTupOf (bCons (dCall R__law_told (dCons (dOp fIx (dVar 3) (dC (.fro (.int 1)))) dNil)) bNil)))) (dNot (dTst (dCB fIsi (bCons (dCall R_told_terms (dCons (dVar 4) dNil)) (bCons (dC (.fro (.ob (.ty "tuple")))) bNil)))))) (dRet (dC (.fro (.bl false)))) dNext))))) (dRet (dC (.fro (.bl true))))))
end DL
set_option Elab.async false
set_option linter.all false
set_option maxRecDepth 100000
set_option maxHeartbeats 4000000
namespace DL
open PySem PySem.Spec PyProof.Rows L2
/-! ### from the head's facts to the bundles -/
section
variable {P : Program} {w : World} {K : PySem.W.Frag} {mg : Str → Option Value} {base : Heap} {J : JS}
/-- a def by its name -/
theorem FD.of {x : Str} {params : Arguments} {body : List Stmt} {scope : Scope} {fd : FuncData} {N ps : List Str} {k : Nat} {r : SpecD} {t : TDS} (F : FunD K x x params body scope [] [] (He.ga K x) fd) (S : FnScope N ps scope)
    (bn : Binds K fd ps []) (g : mg x = some (.ref (He.ga K x))) (hlen : ∀ ds R E, r ds R E → ds.length = ps.length)
    (hb : ∀ (cdv : Value) (A : Around) (outer : List Env) (s : Shared) (H : Hp) (E : XK), Room k (A.deeper (envOfC x scope s.heap.objs.size (He.ga K x) cdv)) →
      DSs (cxOf (L2.CX P w) P w K mg base N x scope (He.ga K x) cdv A outer s H E) J (WxE E) body t)
    (ht : ∀ ds R E, r ds R E → bodyD N t ds R E) : FD P w K mg base J (k + 1) x ps r :=
  ⟨⟨fd, fn_D F S hlen hb ht, bn⟩, F.kp, g⟩
/-- one whose promise asks what cannot be -/
theorem FD.none {x : Str} {params : Arguments} {body : List Stmt} {scope : Scope} {fd : FuncData} {ps : List Str} {k : Nat} {r : SpecD} (F : FunD K x x params body scope [] [] (He.ga K x) fd)
    (bn : Binds K fd ps []) (g : mg x = some (.ref (He.ga K x))) (h : ∀ ds R E, ¬ r ds R E) : FD P w K mg base J k x ps r :=
  ⟨⟨fd, ⟨fun vs H Q E ⟨_, _, _, _, _, _, q, _⟩ => absurd q (h _ _ _), fun _ _ _ _ _ _ _ _ _ _ _ _ _ ⟨_, _, _, _, _, _, q, _⟩ => absurd q (h _ _ _)⟩, bn⟩, F.kp, g⟩
/-- == by a class's own -/
def eqBk (D C C' : Str) (K : PySem.W.Frag) : Bool := He.eqO (PySem.W.findIn K (.ref (He.ga K C)) "__eq__") (some (some (.ref (He.ma K (He.ga K D) "__eq__")))) && (PySem.W.isFn K (.ref (He.ma K (He.ga K D) "__eq__")) && (PySem.W.notFirst K (He.ga K C) (.ref (He.ga K C')) && (He.eqO (PySem.W.findIn K (.ref (He.ga K C)) "__ne__") (some (some (.builtin "object.__ne__"))) && decide (PySem.W.mroIn K (He.ga K C) (.type "object") = some true))))
theorem eqBk_ok {D C C' : Str} {fd : FuncData} {ps : List Str} {k : Nat} {r : SpecD} (h : eqBk D C C' K = true) (F : FnOk P w K mg base (L2.CX P w) k (He.fAd K (D, some "__eq__")) fd ps (SpD K J r)) (bn : Binds K fd ps []) : FEq P w K mg base J k r C C' := by
  unfold eqBk at h
  obtain ⟨h1, h⟩ := He.ba h
  obtain ⟨h2, h⟩ := He.ba h
  obtain ⟨h3, h⟩ := He.ba h
  obtain ⟨h4, h⟩ := He.ba h
  exact ⟨⟨_, fd, ps, F, bn, He.eqO_ok h1, h2⟩, h3, He.eqO_ok h4, of_decide_eq_true h⟩
/-- isinstance by a class of the text -/
def isiBk (C' C : Str) (b : Bool) (K : PySem.W.Frag) : Bool := He.eqO (PySem.W.findIn K (.ref (He.ga K C')) "__class__") (some (some (.builtin "object.__class__"))) && (He.eqO (PySem.W.specialIn K (.builtin "object.__class__") "__get__") (some (some (.builtin "getset_descriptor.__get__"))) && (decide (PySem.W.takesIn K (.builtin "object.__class__") = some true) && (decide (PySem.W.mroIn K (He.ga K C') (.type "object") = some true) && decide (PySem.W.kitOne K (.ref (He.ga K C')) (.ref (He.ga K C)) = some b))))
theorem isiBk_ok {C' C : Str} {b : Bool} (h : isiBk C' C b K = true) (cl : Cls K (He.ga K C')) : FIsi K C' C b := by
  unfold isiBk at h
  obtain ⟨h1, h⟩ := He.ba h
  obtain ⟨h2, h⟩ := He.ba h
  obtain ⟨h3, h⟩ := He.ba h
  obtain ⟨h4, h⟩ := He.ba h
  exact ⟨cl, He.eqO_ok h1, He.eqO_ok h2, of_decide_eq_true h3, of_decide_eq_true h4, of_decide_eq_true h⟩
def isbBk (C : Str) (K : PySem.W.Frag) : Bool := ["NoneType", "bool", "int", "str", "list", "tuple", "dict"].all fun a => decide (PySem.W.kitOne K (.type a) (.ref (He.ga K C)) = some false)
theorem isbBk_ok {C : Str} (h : isbBk C K = true) : FIsB K C := fun a ha => of_decide_eq_true (List.all_eq_true.mp h a ha)
/-- a class takes a method from another one -/
def maBk (C D m : Str) (K : PySem.W.Frag) : Bool := decide (He.ma K (He.ga K C) m = He.ma K (He.ga K D) m)
theorem maBk_ok {C D m : Str} (h : maBk C D m K = true) : He.ma K (He.ga K C) m = He.ma K (He.ga K D) m := of_decide_eq_true h
end
/-! ### the pool's invariants -/
def jpP : Nat → List D → Wd → HO → Prop := fun n _ W o => (n = 0 ∧ ∃ (s t : Int) (c : Addr), o = .lst [.int s, .int t, .ref c] ∧ W.jn c = some (1, [])) ∨ (n = 1 ∧ ∃ cs : List Int, o = .lst (cs.map .int))
def JP0 : JS := ⟨jpP, fun {n ds W W' o} _ hj h => by
  rcases h with ⟨rfl, s, t, c, rfl, h⟩ | ⟨rfl, h⟩
  · exact .inl ⟨rfl, s, t, c, rfl, hj _ _ h⟩
  · exact .inr ⟨rfl, h⟩⟩
theorem jp_ok : JPool JP0 where
  p0 := fun ds W o => by
    constructor
    · rintro (⟨_, h⟩ | ⟨h, _⟩)
      · exact h
      · cases h
    · exact fun h => .inl ⟨rfl, h⟩
  p1 := fun ds W o => by
    constructor
    · rintro (⟨h, _⟩ | ⟨_, h⟩)
      · cases h
      · exact h
    · exact fun h => .inr ⟨rfl, h⟩
/-! ### the law's def, as the head asks it -/
/-- nothing goes out by an error -/
theorem FnOk.to0 {P : Program} {w : World} {K : PySem.W.Frag} {mg : Str → Option Value} {base : Heap} {k : Nat} {f : Addr} {fd : FuncData} {ps : List Str} {sp : Sp} (F : FnOk P w K mg base (L2.CX P w) k f fd ps sp) :
    FnOk P w K mg base CX0 k f fd ps (fun vs H Q _ => sp vs H Q fun _ _ _ => False) :=
  ⟨fun vs H Q E q => F.len vs H Q _ q, fun A outer s H args us vs Q E hr he hb hv hs => codeAny_mono (F.run A outer s H args us vs Q _ hr he hb hv hs) fun r s' z => by
    cases r with
    | error e =>
      obtain ⟨_, _, _, _, _, _, _, _, _, _, _, _, z⟩ := z
      exact z.elim
    | ok fl =>
      cases fl with
      | ret u => exact z
      | next => exact False.elim z
      | brk => exact False.elim z
      | cont => exact False.elim z⟩
theorem dns_int (K : PySem.W.Frag) (W : Wd) : ∀ ns : List Int, Dns K W (ns.map V.int) (intD ns)
  | [] => .nil
  | n :: r => .cons (.int n) (dns_int K W r)
/-- the law's promise holds where it is called -/
theorem law_start {K : PySem.W.Frag} {J : JS} {r : SpecD} {H : Hp} {a : Addr} {ns : List Int} (hO : Only H) (hS : SqL K H a (ns.map V.int))
    (h : r [.scr (intD ns)] (fun s => s = .fro (.bl true)) (fun _ => False)) : SpD K J r [.ref a] H (fun v _ => v = .bl true) (fun _ _ _ => False) := by
  have hd : ∀ W : Wd, Dns K W (ns.map V.int) (intD ns) := fun W => dns_int K W ns
  let W : Wd := ⟨fun b => if b = a then H b else none, fun _ => none, fun _ => none⟩
  have hf : SqL K W.fro a (ns.map V.int) := by
    have e : W.fro a = H a := if_pos rfl
    rcases hS with (q | ⟨o, q⟩) | q
    · exact .inl (.inl (e.trans q))
    · exact .inl (.inr ⟨o, e.trans q⟩)
    · exact .inr q
  refine ⟨W, [.scr (intD ns)], fun s => s = .fro (.bl true), fun _ => False, ⟨fun b o e => ?_, fun b n ds e => (by cases e), fun b _ => rfl, fun b _ => rfl⟩, .cons (.scr hf (hd W)) .nil, h, ?_, fun e c d W' H' z => z.elim⟩
  · refine .inl ⟨rfl, ?_⟩
    by_cases hb : b = a
    · rw [show W.fro b = H b from if_pos hb] at e
      exact e
    · rw [show W.fro b = none from if_neg hb] at e
      cases e
  · rintro s v W' H' rfl w' y' rr
    cases rr
    rfl
end DL
set_option Elab.async false
set_option linter.all false
set_option maxRecDepth 100000
set_option maxHeartbeats 4000000
namespace DL
open PySem PySem.Spec PyProof.Rows L2
/-- which classes a clause takes, and that a class has no such name -/
def exmBk (C' C : Str) (b : Bool) : PySem.W.Frag → Bool := fun K => decide (PySem.W.exmOne K (.ref (He.ga K C')) (.ref (He.ga K C)) = some b)
def nfBk (C f : Str) : PySem.W.Frag → Bool := fun K => He.eqO (PySem.W.findIn K (.ref (He.ga K C)) f) (some none)
theorem exmBk_ok {C' C : Str} {b : Bool} {K : PySem.W.Frag} (h : exmBk C' C b K = true) : PySem.W.exmOne K (.ref (He.ga K C')) (.ref (He.ga K C)) = some b := of_decide_eq_true h
theorem nfBk_ok {C f : Str} {K : PySem.W.Frag} (h : nfBk C f K = true) : PySem.W.findIn K (.ref (He.ga K C)) f = some none := He.eqO_ok h
end DL
set_option Elab.async false
set_option linter.all false
set_option maxRecDepth 100000
set_option maxHeartbeats 0
namespace DL
open PySem PySem.Spec PyProof.Rows L2
abbrev PR : PySem.Program := PySem.Challenge.pw_openbooks_k03_whole_terms_sizes_told_ter
def top (i : Nat) : Stmt := PR.main.body.getD i (.Pass ⟨0, 0, 0, 0⟩)
abbrev s_is_integer : Stmt := top 5
def d_is_integer : He.DefD := ⟨("is_integer", none), "is_integer", "is_integer", defArgs s_is_integer, defBody s_is_integer, defScope s_is_integer, [], []⟩
abbrev s_is_within : Stmt := top 6
def d_is_within : He.DefD := ⟨("is_within", none), "is_within", "is_within", defArgs s_is_within, defBody s_is_within, defScope s_is_within, [], []⟩
abbrev s_is_pair : Stmt := top 7
def d_is_pair : He.DefD := ⟨("is_pair", none), "is_pair", "is_pair", defArgs s_is_pair, defBody s_is_pair, defScope s_is_pair, [], []⟩
abbrev s_is_sign : Stmt := top 15
def d_is_sign : He.DefD := ⟨("is_sign", none), "is_sign", "is_sign", defArgs s_is_sign, defBody s_is_sign, defScope s_is_sign, [], []⟩
abbrev s_are_signs : Stmt := top 16
def d_are_signs : He.DefD := ⟨("are_signs", none), "are_signs", "are_signs", defArgs s_are_signs, defBody s_are_signs, defScope s_are_signs, [], []⟩
abbrev s_is_term_of : Stmt := top 17
def d_is_term_of : He.DefD := ⟨("is_term_of", none), "is_term_of", "is_term_of", defArgs s_is_term_of, defBody s_is_term_of, defScope s_is_term_of, [], []⟩
abbrev s_is_line_of : Stmt := top 18
def d_is_line_of : He.DefD := ⟨("is_line_of", none), "is_line_of", "is_line_of", defArgs s_is_line_of, defBody s_is_line_of, defScope s_is_line_of, [], []⟩
abbrev s_size_of : Stmt := top 19
def d_size_of : He.DefD := ⟨("size_of", none), "size_of", "size_of", defArgs s_size_of, defBody s_size_of, defScope s_size_of, [], []⟩
abbrev s_order_of : Stmt := top 20
def d_order_of : He.DefD := ⟨("order_of", none), "order_of", "order_of", defArgs s_order_of, defBody s_order_of, defScope s_order_of, [], []⟩
abbrev s_ascending : Stmt := top 21
def d_ascending : He.DefD := ⟨("ascending", none), "ascending", "ascending", defArgs s_ascending, defBody s_ascending, defScope s_ascending, [], []⟩
abbrev s_text_of : Stmt := top 22
def d_text_of : He.DefD := ⟨("text_of", none), "text_of", "text_of", defArgs s_text_of, defBody s_text_of, defScope s_text_of, [], []⟩
abbrev s_within_of : Stmt := top 23
def d_within_of : He.DefD := ⟨("within_of", none), "within_of", "within_of", defArgs s_within_of, defBody s_within_of, defScope s_within_of, [], []⟩
abbrev s_sides_of : Stmt := top 24
def d_sides_of : He.DefD := ⟨("sides_of", none), "sides_of", "sides_of", defArgs s_sides_of, defBody s_sides_of, defScope s_sides_of, [], []⟩
abbrev s_Lore_u__init_u_ : Stmt := inClass (top 25) 0
def d_Lore_u__init_u_ : He.DefD := ⟨("Lore", some "__init__"), "__init__", "Lore.__init__", defArgs s_Lore_u__init_u_, defBody s_Lore_u__init_u_, defScope s_Lore_u__init_u_, [], []⟩
abbrev s_Lore_keep : Stmt := inClass (top 25) 1
def d_Lore_keep : He.DefD := ⟨("Lore", some "keep"), "keep", "Lore.keep", defArgs s_Lore_keep, defBody s_Lore_keep, defScope s_Lore_keep, [], []⟩
abbrev s_Lore_u__eq_u_ : Stmt := inClass (top 25) 2
def d_Lore_u__eq_u_ : He.DefD := ⟨("Lore", some "__eq__"), "__eq__", "Lore.__eq__", defArgs s_Lore_u__eq_u_, defBody s_Lore_u__eq_u_, defScope s_Lore_u__eq_u_, [], []⟩
abbrev s_is_term_there : Stmt := top 26
def d_is_term_there : He.DefD := ⟨("is_term_there", none), "is_term_there", "is_term_there", defArgs s_is_term_there, defBody s_is_term_there, defScope s_is_term_there, [], []⟩
abbrev s_is_term : Stmt := top 27
def d_is_term : He.DefD := ⟨("is_term", none), "is_term", "is_term", defArgs s_is_term, defBody s_is_term, defScope s_is_term, [], []⟩
abbrev s_check_term : Stmt := top 28
def d_check_term : He.DefD := ⟨("check_term", none), "check_term", "check_term", defArgs s_check_term, defBody s_check_term, defScope s_check_term, [], []⟩
abbrev s_size : Stmt := top 29
def d_size : He.DefD := ⟨("size", none), "size", "size", defArgs s_size, defBody s_size, defScope s_size, [], []⟩
abbrev s_told_of : Stmt := top 30
def d_told_of : He.DefD := ⟨("told_of", none), "told_of", "told_of", defArgs s_told_of, defBody s_told_of, defScope s_told_of, [], []⟩
abbrev s_told_terms : Stmt := top 31
def d_told_terms : He.DefD := ⟨("told_terms", none), "told_terms", "told_terms", defArgs s_told_terms, defBody s_told_terms, defScope s_told_terms, [], []⟩
abbrev s_u_law_pool : Stmt := top 33
def d_u_law_pool : He.DefD := ⟨("_law_pool", none), "_law_pool", "_law_pool", defArgs s_u_law_pool, defBody s_u_law_pool, defScope s_u_law_pool, [], []⟩
abbrev s_u_law_draw : Stmt := top 34
def d_u_law_draw : He.DefD := ⟨("_law_draw", none), "_law_draw", "_law_draw", defArgs s_u_law_draw, defBody s_u_law_draw, defScope s_u_law_draw, [], []⟩
abbrev s_u_law_deep : Stmt := top 35
def d_u_law_deep : He.DefD := ⟨("_law_deep", none), "_law_deep", "_law_deep", defArgs s_u_law_deep, defBody s_u_law_deep, defScope s_u_law_deep, [], []⟩
abbrev s_u_law_flag : Stmt := top 36
def d_u_law_flag : He.DefD := ⟨("_law_flag", none), "_law_flag", "_law_flag", defArgs s_u_law_flag, defBody s_u_law_flag, defScope s_u_law_flag, [], []⟩
abbrev s_u_law_is : Stmt := top 37
def d_u_law_is : He.DefD := ⟨("_law_is", none), "_law_is", "_law_is", defArgs s_u_law_is, defBody s_u_law_is, defScope s_u_law_is, [], []⟩
abbrev s_u_law_signs : Stmt := top 38
def d_u_law_signs : He.DefD := ⟨("_law_signs", none), "_law_signs", "_law_signs", defArgs s_u_law_signs, defBody s_u_law_signs, defScope s_u_law_signs, [], []⟩
abbrev s_u_law_term : Stmt := top 39
def d_u_law_term : He.DefD := ⟨("_law_term", none), "_law_term", "_law_term", defArgs s_u_law_term, defBody s_u_law_term, defScope s_u_law_term, [], []⟩
abbrev s_u_law_lines : Stmt := top 40
def d_u_law_lines : He.DefD := ⟨("_law_lines", none), "_law_lines", "_law_lines", defArgs s_u_law_lines, defBody s_u_law_lines, defScope s_u_law_lines, [], []⟩
abbrev s_u_law_lore : Stmt := top 41
def d_u_law_lore : He.DefD := ⟨("_law_lore", none), "_law_lore", "_law_lore", defArgs s_u_law_lore, defBody s_u_law_lore, defScope s_u_law_lore, [], []⟩
abbrev s_u_law_made : Stmt := top 42
def d_u_law_made : He.DefD := ⟨("_law_made", none), "_law_made", "_law_made", defArgs s_u_law_made, defBody s_u_law_made, defScope s_u_law_made, [], []⟩
abbrev s_u_law_size : Stmt := top 43
def d_u_law_size : He.DefD := ⟨("_law_size", none), "_law_size", "_law_size", defArgs s_u_law_size, defBody s_u_law_size, defScope s_u_law_size, [], []⟩
abbrev s_u_law_key : Stmt := top 44
def d_u_law_key : He.DefD := ⟨("_law_key", none), "_law_key", "_law_key", defArgs s_u_law_key, defBody s_u_law_key, defScope s_u_law_key, [], []⟩
abbrev s_u_law_within : Stmt := top 45
def d_u_law_within : He.DefD := ⟨("_law_within", none), "_law_within", "_law_within", defArgs s_u_law_within, defBody s_u_law_within, defScope s_u_law_within, [], []⟩
abbrev s_u_law_told : Stmt := top 46
def d_u_law_told : He.DefD := ⟨("_law_told", none), "_law_told", "_law_told", defArgs s_u_law_told, defBody s_u_law_told, defScope s_u_law_told, [], []⟩
abbrev s_u_law_is_right : Stmt := top 47
def d_u_law_is_right : He.DefD := ⟨("_law_is_right", none), "_law_is_right", "_law_is_right", defArgs s_u_law_is_right, defBody s_u_law_is_right, defScope s_u_law_is_right, [], []⟩
abbrev s_u_law_bent : Stmt := top 48
def d_u_law_bent : He.DefD := ⟨("_law_bent", none), "_law_bent", "_law_bent", defArgs s_u_law_bent, defBody s_u_law_bent, defScope s_u_law_bent, [], []⟩
abbrev s_u_law_size_told : Stmt := top 49
def d_u_law_size_told : He.DefD := ⟨("_law_size_told", none), "_law_size_told", "_law_size_told", defArgs s_u_law_size_told, defBody s_u_law_size_told, defScope s_u_law_size_told, [], []⟩
abbrev s_law : Stmt := top 50
def d_law : He.DefD := ⟨("law", none), "law", "law", defArgs s_law, defBody s_law, defScope s_law, [], []⟩
abbrev sx_BadLore : Stmt := inClass (top 2) 0
abbrev sx_NoTerm : Stmt := inClass (top 3) 0

end DL
set_option Elab.async false
set_option linter.all false
set_option maxRecDepth 100000
set_option maxHeartbeats 0
namespace DL
open PySem PySem.Spec PyProof.Rows L2
def fnL : List He.DefD := [d_is_integer, d_is_within, d_is_pair, d_is_sign, d_are_signs, d_is_term_of, d_is_line_of, d_size_of, d_order_of, d_ascending, d_text_of, d_within_of, d_sides_of, d_Lore_u__init_u_, d_Lore_keep, d_Lore_u__eq_u_, d_is_term_there, d_is_term, d_check_term, d_size, d_told_of, d_told_terms, d_u_law_pool, d_u_law_draw, d_u_law_deep, d_u_law_flag, d_u_law_is, d_u_law_signs, d_u_law_term, d_u_law_lines, d_u_law_lore, d_u_law_made, d_u_law_size, d_u_law_key, d_u_law_within, d_u_law_told, d_u_law_is_right, d_u_law_bent, d_u_law_size_told, d_law]
def faL : List He.Fa := [.glo "is_integer", .glo "is_within", .glo "is_pair", .glo "is_sign", .glo "are_signs", .glo "is_term_of", .glo "is_line_of", .glo "size_of", .glo "order_of", .glo "ascending", .glo "text_of", .glo "within_of", .glo "sides_of", .glo "is_term_there", .glo "is_term", .glo "check_term", .glo "size", .glo "told_of", .glo "told_terms", .glo "_law_pool", .glo "_law_draw", .glo "_law_deep", .glo "_law_flag", .glo "_law_is", .glo "_law_signs", .glo "_law_term", .glo "_law_lines", .glo "_law_lore", .glo "_law_made", .glo "_law_size", .glo "_law_key", .glo "_law_within", .glo "_law_told", .glo "_law_is_right", .glo "_law_bent", .glo "_law_size_told", .glo "law", .glo "LoreError", .glo "BadLore", .glo "NoTerm", .glo "Lore", .free "ValueError", .free "abs", .free "all", .free "any", .free "bool", .free "dict", .free "enumerate", .free "int", .free "isinstance", .free "len", .free "list", .free "max", .free "min", .free "range", .free "repr", .free "set", .free "sorted", .free "str", .free "sum", .free "super", .free "tuple", .free "zip", .int "MOST_SIGNS" (12), .int "MOST_PLACES" (2), .int "MOST_LINES" (24), .int "MOST_TERMS" (60), .int "MOST_LETTERS" (8), .str "LETTERS" "abcdefghijklmnopqrstuvwxyz", .cls "Lore", .mkr "Lore", .noat "Lore" "signs", .noat "Lore" "lines", .noat "Lore" "kept_places", .noat "Lore" "kept_hall", .meth "Lore" "keep"]
def exL : PySem.W.Frag → Bool := fun K => isiBk "Lore" "Lore" true K && (isbBk "Lore" K && (DX.supB PR.main.file "BadLore.__init__" "BadLore" K && (nfBk "BadLore" "part" K && (DX.supB PR.main.file "NoTerm.__init__" "NoTerm" K && (exmBk "NoTerm" "NoTerm" true K)))))
def nm0 : List PySem.Str := ["LoreError", "BadLore", "NoTerm", "is_integer", "is_within", "is_pair", "MOST_SIGNS", "MOST_PLACES", "MOST_LINES", "MOST_TERMS", "MOST_LETTERS", "LETTERS", "is_sign", "are_signs", "is_term_of", "is_line_of", "size_of", "order_of", "ascending", "text_of", "within_of", "sides_of", "Lore", "is_term_there", "is_term", "check_term", "size", "told_of", "told_terms", "_law_pool"]
def nm1 : List PySem.Str := ["_law_draw", "_law_deep", "_law_flag", "_law_is", "_law_signs", "_law_term", "_law_lines", "_law_lore", "_law_made", "_law_size", "_law_key", "_law_within", "_law_told", "_law_is_right", "_law_bent", "_law_size_told"]
def nms : List PySem.Str := nm0 ++ nm1
abbrev RO : PySem.W.OpenRow := PySem.W.OpenLaw.row PySem.Challenge.rw_openbooks_k03_whole_terms_sizes_told_ter
def xsL : List PySem.Str := ["BadLore", "NoTerm"]
def xvL : List DX.FnX := [DX.fnXv "BadLore.__init__" (defArgs sx_BadLore) (defBody sx_BadLore) (defScope sx_BadLore), DX.fnXv "NoTerm.__init__" (defArgs sx_NoTerm) (defBody sx_NoTerm) (defScope sx_NoTerm)]
abbrev hk : PySem.W.Hook := hookX 5 faL fnL exL xsL xvL
def ob (s : PySem.W.SharedT) : AlX := obsX 5 faL fnL exL xsL (HandSHeadRun.getT s)
theorem ob_eq (s : PySem.W.SharedT) : ob s = hk.obs s.abs := obsX_eq (HandSHeadRun.getT_eq s)
theorem run (w : World) : HandSHeadRun.RunEq RO (PySem.W.view RO.prog [50]) hk ob 6000 nms w := by
  intro os
  kernel_rfl
end DL
set_option Elab.async false
set_option linter.all false
set_option maxRecDepth 100000
set_option maxHeartbeats 0
namespace DL
open PySem PySem.Spec PyProof.Rows L2
theorem sc_is_integer : FnScope N_is_integer P_is_integer (defScope s_is_integer) := ⟨rfl, rfl, rfl, by decide +kernel, rfl, by decide +kernel, by decide +kernel⟩
theorem b_is_integer {P : Program} {w : World} {K : PySem.W.Frag} {mg : Str → Option Value} {base : Heap} {J : JS} (B : Bl mg) (f : Addr) (cdv : Value) (A : Around) (outer : List Env) (s : Shared) (H : Hp) (E : XK) (hr : Room 0 (A.deeper (envOfC "is_integer" (defScope s_is_integer) s.heap.objs.size f cdv))) :
    DSs (cxOf (L2.CX P w) P w K mg base N_is_integer "is_integer" (defScope s_is_integer) f cdv A outer s H E) J (WxE E) (defBody s_is_integer) (T_is_integer) := by
  have ow := passes_of (X := cxOf (L2.CX P w) P w K mg base N_is_integer "is_integer" (defScope s_is_integer) f cdv A outer s H E) rfl
  have tk := takes_of (X := cxOf (L2.CX P w) P w K mg base N_is_integer "is_integer" (defScope s_is_integer) f cdv A outer s H E) rfl rfl rfl rfl
  exact (dss_one (ds_ret (de_and (e_isi B.isinstance rfl (de_var (pv 0)) (de_type rfl B.int rfl)) (de_one (de_not (e_isi B.isinstance rfl (de_var (pv 0)) (de_type rfl B.bool rfl)))))))
theorem sc_is_within : FnScope N_is_within P_is_within (defScope s_is_within) := ⟨rfl, rfl, rfl, by decide +kernel, rfl, by decide +kernel, by decide +kernel⟩
theorem b_is_within {P : Program} {w : World} {K : PySem.W.Frag} {mg : Str → Option Value} {base : Heap} {J : JS} (B : Bl mg) {R_is_integer : SpecD} (F_is_integer : FD P w K mg base J 1 "is_integer" P_is_integer R_is_integer) (f : Addr) (cdv : Value) (A : Around) (outer : List Env) (s : Shared) (H : Hp) (E : XK) (hr : Room 1 (A.deeper (envOfC "is_within" (defScope s_is_within) s.heap.objs.size f cdv))) :
    DSs (cxOf (L2.CX P w) P w K mg base N_is_within "is_within" (defScope s_is_within) f cdv A outer s H E) J (WxE E) (defBody s_is_within) (T_is_within R_is_integer) := by
  have ow := passes_of (X := cxOf (L2.CX P w) P w K mg base N_is_within "is_within" (defScope s_is_within) f cdv A outer s H E) rfl
  have tk := takes_of (X := cxOf (L2.CX P w) P w K mg base N_is_within "is_within" (defScope s_is_within) f cdv A outer s H E) rfl rfl rfl rfl
  exact (dss_one (ds_ret (de_and (de_call F_is_integer (hr.mono (by decide)) rfl tk (da_cons (de_var (pv 0)) da_nil)) (de_one (de_chain op_le ci_ok op_le ci_ok (de_var (pv 1)) (de_var (pv 0)) (de_var (pv 2)))))))
theorem sc_is_pair : FnScope N_is_pair P_is_pair (defScope s_is_pair) := ⟨rfl, rfl, rfl, by decide +kernel, rfl, by decide +kernel, by decide +kernel⟩
theorem b_is_pair {P : Program} {w : World} {K : PySem.W.Frag} {mg : Str → Option Value} {base : Heap} {J : JS} (B : Bl mg) (f : Addr) (cdv : Value) (A : Around) (outer : List Env) (s : Shared) (H : Hp) (E : XK) (hr : Room 0 (A.deeper (envOfC "is_pair" (defScope s_is_pair) s.heap.objs.size f cdv))) :
    DSs (cxOf (L2.CX P w) P w K mg base N_is_pair "is_pair" (defScope s_is_pair) f cdv A outer s H E) J (WxE E) (defBody s_is_pair) (T_is_pair) := by
  have ow := passes_of (X := cxOf (L2.CX P w) P w K mg base N_is_pair "is_pair" (defScope s_is_pair) f cdv A outer s H E) rfl
  have tk := takes_of (X := cxOf (L2.CX P w) P w K mg base N_is_pair "is_pair" (defScope s_is_pair) f cdv A outer s H E) rfl rfl rfl rfl
  exact (dss_one (ds_ret (de_and (e_isi B.isinstance rfl (de_var (pv 0)) (de_type rfl B.tuple rfl)) (de_one (e_eq hr (e_len B.len rfl (de_var (pv 0))) de_int)))))
theorem sc_is_sign : FnScope N_is_sign P_is_sign (defScope s_is_sign) := ⟨rfl, rfl, rfl, by decide +kernel, rfl, by decide +kernel, by decide +kernel⟩
theorem b_is_sign {P : Program} {w : World} {K : PySem.W.Frag} {mg : Str → Option Value} {base : Heap} {J : JS} (B : Bl mg) (g_LETTERS : ∃ t, mg "LETTERS" = some (.str "abcdefghijklmnopqrstuvwxyz" t)) (g_MOST_LETTERS : ∃ t, mg "MOST_LETTERS" = some (.int 8 t)) (f : Addr) (cdv : Value) (A : Around) (outer : List Env) (s : Shared) (H : Hp) (E : XK) (hr : Room 0 (A.deeper (envOfC "is_sign" (defScope s_is_sign) s.heap.objs.size f cdv))) :
    DSs (cxOf (L2.CX P w) P w K mg base N_is_sign "is_sign" (defScope s_is_sign) f cdv A outer s H E) J (WxE E) (defBody s_is_sign) (T_is_sign) := by
  have ow := passes_of (X := cxOf (L2.CX P w) P w K mg base N_is_sign "is_sign" (defScope s_is_sign) f cdv A outer s H E) rfl
  have tk := takes_of (X := cxOf (L2.CX P w) P w K mg base N_is_sign "is_sign" (defScope s_is_sign) f cdv A outer s H E) rfl rfl rfl rfl
  exact (dss_cons (ds_if (dt_w (dw_or (dt_not (dt_val (e_isi B.isinstance rfl (de_var (pv 0)) (de_type rfl B.str rfl)))) (dw_or1 (dt_not (dt_chain op_le ci_ok op_le ci_ok de_int (e_len B.len rfl (de_var (pv 0))) (de_glint rfl g_MOST_LETTERS)))))) (dss_one (ds_ret de_bl)) dss_nil) (dss_one (ds_ret (e_all rfl B.all rfl (de_lc rfl sc_is_sign.nd (di_str (de_var (pv 0))) (own := [("letter", 1)]) (show BlkOk N_is_sign (defScope s_is_sign) _ _ from ⟨rfl, by decide +kernel, by decide +kernel, by decide +kernel, by decide +kernel⟩) (fun _ _ _ _ _ => (dg_name (i := 1) sc_is_sign.nd rfl (Or.inl rfl))) (fun _ _ _ _ _ => dts_nil) (fun _ _ _ _ _ => (e_inS (de_var (pv 1)) (de_glstr rfl g_LETTERS))))))))
theorem sc_are_signs : FnScope N_are_signs P_are_signs (defScope s_are_signs) := ⟨rfl, rfl, rfl, by decide +kernel, rfl, by decide +kernel, by decide +kernel⟩
theorem b_are_signs {P : Program} {w : World} {K : PySem.W.Frag} {mg : Str → Option Value} {base : Heap} {J : JS} (B : Bl mg) {R_is_pair : SpecD} (F_is_pair : FD P w K mg base J 1 "is_pair" P_is_pair R_is_pair) {R_is_sign : SpecD} (F_is_sign : FD P w K mg base J 1 "is_sign" P_is_sign R_is_sign) {R_is_within : SpecD} (F_is_within : FD P w K mg base J 2 "is_within" P_is_within R_is_within) (g_MOST_SIGNS : ∃ t, mg "MOST_SIGNS" = some (.int 12 t)) (g_MOST_PLACES : ∃ t, mg "MOST_PLACES" = some (.int 2 t)) (f : Addr) (cdv : Value) (A : Around) (outer : List Env) (s : Shared) (H : Hp) (E : XK) (hr : Room 2 (A.deeper (envOfC "are_signs" (defScope s_are_signs) s.heap.objs.size f cdv))) :
    DSs (cxOf (L2.CX P w) P w K mg base N_are_signs "are_signs" (defScope s_are_signs) f cdv A outer s H E) J (WxE E) (defBody s_are_signs) (T_are_signs R_is_pair R_is_sign R_is_within) := by
  have ow := passes_of (X := cxOf (L2.CX P w) P w K mg base N_are_signs "are_signs" (defScope s_are_signs) f cdv A outer s H E) rfl
  have tk := takes_of (X := cxOf (L2.CX P w) P w K mg base N_are_signs "are_signs" (defScope s_are_signs) f cdv A outer s H E) rfl rfl rfl rfl
  exact (dss_cons (ds_if (dt_w (dw_or (dt_not (dt_val (e_isi B.isinstance rfl (de_var (pv 0)) (de_type rfl B.tuple rfl)))) (dw_or1 (dt_not (dt_chain op_le ci_ok op_le ci_ok de_int (e_len B.len rfl (de_var (pv 0))) (de_glint rfl g_MOST_SIGNS)))))) (dss_one (ds_ret de_bl)) dss_nil) (dss_cons (ds_for ow rfl (di_tup (de_var (pv 0))) (dg_name (i := 1) sc_are_signs.nd rfl (Or.inl rfl)) (dss_one (ds_if (dt_w (dw_or (dt_not (dt_val (de_call F_is_pair (hr.mono (by decide)) rfl tk (da_cons (de_var (pv 1)) da_nil)))) (dw_or (dt_not (dt_val (de_call F_is_sign (hr.mono (by decide)) rfl tk (da_cons (e_ix (de_var (pv 1)) de_int (fun _ _ => rfl)) da_nil)))) (dw_or1 (dt_not (dt_val (de_call F_is_within (hr.mono (by decide)) rfl tk (da_cons (e_ix (de_var (pv 1)) de_int (fun _ _ => rfl)) (da_cons de_int (da_cons (de_glint rfl g_MOST_PLACES) da_nil)))))))))) (dss_one (ds_ret de_bl)) dss_nil))) (dss_cons (ds_set (i := 2) sc_are_signs.nd rfl (Or.inl rfl) (e_all rfl B.all rfl (de_lc rfl sc_are_signs.nd (di_range2 rfl B.range (da_cons de_int (da_cons (e_len B.len rfl (de_var (pv 0))) da_nil))) (own := [("at", 3)]) (show BlkOk N_are_signs (defScope s_are_signs) _ _ from ⟨rfl, by decide +kernel, by decide +kernel, by decide +kernel, by decide +kernel⟩) (fun _ _ _ _ _ => (dg_name (i := 3) sc_are_signs.nd rfl (Or.inl rfl))) (fun _ _ _ _ _ => dts_nil) (fun _ _ _ _ _ => (e_ltA (e_ix (e_ix (de_var (pv 0)) (e_sub (de_var (pv 3)) de_int) (fun _ _ => rfl)) de_int (fun _ _ => rfl)) (e_ix (e_ix (de_var (pv 0)) (de_var (pv 3)) (fun _ _ => rfl)) de_int (fun _ _ => rfl))))))) (dss_one (ds_ret (de_and (de_var (pv 2)) (de_one (e_any rfl B.any rfl (de_lc rfl sc_are_signs.nd (di_tup (de_var (pv 0))) (own := [("sign", 4), ("places", 5)]) (show BlkOk N_are_signs (defScope s_are_signs) _ _ from ⟨rfl, by decide +kernel, by decide +kernel, by decide +kernel, by decide +kernel⟩) (fun _ _ _ _ _ => (dg_tup rfl (dgs_cons (dg_name (i := 4) sc_are_signs.nd rfl (Or.inl rfl)) (dgs_cons (dg_name (i := 5) sc_are_signs.nd rfl (Or.inl rfl)) dgs_nil)))) (fun _ _ _ _ _ => dts_nil) (fun _ _ _ _ _ => (e_eq hr (de_var (pv 5)) de_int)))))))))))
theorem sc_is_term_of : FnScope N_is_term_of P_is_term_of (defScope s_is_term_of) := ⟨rfl, rfl, rfl, by decide +kernel, rfl, by decide +kernel, by decide +kernel⟩
theorem b_is_term_of {P : Program} {w : World} {K : PySem.W.Frag} {mg : Str → Option Value} {base : Heap} {J : JS} (B : Bl mg) (f : Addr) (cdv : Value) (A : Around) (outer : List Env) (s : Shared) (H : Hp) (E : XK) (hr : Room 0 (A.deeper (envOfC "is_term_of" (defScope s_is_term_of) s.heap.objs.size f cdv))) :
    DSs (cxOf (L2.CX P w) P w K mg base N_is_term_of "is_term_of" (defScope s_is_term_of) f cdv A outer s H E) J (WxE E) (defBody s_is_term_of) (T_is_term_of) := by
  have ow := passes_of (X := cxOf (L2.CX P w) P w K mg base N_is_term_of "is_term_of" (defScope s_is_term_of) f cdv A outer s H E) rfl
  have tk := takes_of (X := cxOf (L2.CX P w) P w K mg base N_is_term_of "is_term_of" (defScope s_is_term_of) f cdv A outer s H E) rfl rfl rfl rfl
  exact (dss_cons (ds_set (i := 2) sc_is_term_of.nd rfl (Or.inl rfl) (de_lst (da_cons (de_var (pv 1)) da_nil))) (dss_cons (ds_while ow (t_cmp op_gt (e_len B.len rfl (de_var (pv 2))) de_int) (dss_cons (ds_setX (j := 3) sc_is_term_of.nd rfl (Or.inl rfl) (dx_pop (pv 2))) (dss_cons (ds_if (dt_w (dw_or (dt_not (dt_val (e_isi B.isinstance rfl (de_var (pv 3)) (de_type rfl B.tuple rfl)))) (dw_or (t_eq hr (e_len B.len rfl (de_var (pv 3))) de_int) (dw_or1 (dt_not (dt_val (e_isi B.isinstance rfl (e_ix (de_var (pv 3)) de_int (fun _ _ => rfl)) (de_type rfl B.str rfl)))))))) (dss_one (ds_ret de_bl)) dss_nil) (dss_cons (ds_if (dt_w (dw_or (t_dnotin hr (e_ix (de_var (pv 3)) de_int (fun _ _ => rfl)) (de_var (pv 0))) (dw_or1 (t_ne hr (e_len B.len rfl (de_var (pv 3))) (e_add (e_dget hr (de_var (pv 0)) (e_ix (de_var (pv 3)) de_int (fun _ _ => rfl)) (fun _ _ => rfl)) de_int))))) (dss_one (ds_ret de_bl)) dss_nil) (dss_one (ds_extend (pv 2) (de_slice (de_var (pv 3)) (do_some de_int) do_none))))))) (dss_one (ds_ret de_bl))))
theorem sc_is_line_of : FnScope N_is_line_of P_is_line_of (defScope s_is_line_of) := ⟨rfl, rfl, rfl, by decide +kernel, rfl, by decide +kernel, by decide +kernel⟩
theorem b_is_line_of {P : Program} {w : World} {K : PySem.W.Frag} {mg : Str → Option Value} {base : Heap} {J : JS} (B : Bl mg) {R_is_pair : SpecD} (F_is_pair : FD P w K mg base J 1 "is_pair" P_is_pair R_is_pair) {R_is_term_of : SpecD} (F_is_term_of : FD P w K mg base J 1 "is_term_of" P_is_term_of R_is_term_of) (f : Addr) (cdv : Value) (A : Around) (outer : List Env) (s : Shared) (H : Hp) (E : XK) (hr : Room 1 (A.deeper (envOfC "is_line_of" (defScope s_is_line_of) s.heap.objs.size f cdv))) :
    DSs (cxOf (L2.CX P w) P w K mg base N_is_line_of "is_line_of" (defScope s_is_line_of) f cdv A outer s H E) J (WxE E) (defBody s_is_line_of) (T_is_line_of R_is_pair R_is_term_of) := by
  have ow := passes_of (X := cxOf (L2.CX P w) P w K mg base N_is_line_of "is_line_of" (defScope s_is_line_of) f cdv A outer s H E) rfl
  have tk := takes_of (X := cxOf (L2.CX P w) P w K mg base N_is_line_of "is_line_of" (defScope s_is_line_of) f cdv A outer s H E) rfl rfl rfl rfl
  exact (dss_one (ds_ret (de_and (de_call F_is_pair (hr.mono (by decide)) rfl tk (da_cons (de_var (pv 1)) da_nil)) (de_and (de_call F_is_term_of (hr.mono (by decide)) rfl tk (da_cons (de_var (pv 0)) (da_cons (e_ix (de_var (pv 1)) de_int (fun _ _ => rfl)) da_nil))) (de_one (de_call F_is_term_of (hr.mono (by decide)) rfl tk (da_cons (de_var (pv 0)) (da_cons (e_ix (de_var (pv 1)) de_int (fun _ _ => rfl)) da_nil))))))))
theorem sc_size_of : FnScope N_size_of P_size_of (defScope s_size_of) := ⟨rfl, rfl, rfl, by decide +kernel, rfl, by decide +kernel, by decide +kernel⟩
theorem b_size_of {P : Program} {w : World} {K : PySem.W.Frag} {mg : Str → Option Value} {base : Heap} {J : JS} (B : Bl mg) (f : Addr) (cdv : Value) (A : Around) (outer : List Env) (s : Shared) (H : Hp) (E : XK) (hr : Room 0 (A.deeper (envOfC "size_of" (defScope s_size_of) s.heap.objs.size f cdv))) :
    DSs (cxOf (L2.CX P w) P w K mg base N_size_of "size_of" (defScope s_size_of) f cdv A outer s H E) J (WxE E) (defBody s_size_of) (T_size_of) := by
  have ow := passes_of (X := cxOf (L2.CX P w) P w K mg base N_size_of "size_of" (defScope s_size_of) f cdv A outer s H E) rfl
  have tk := takes_of (X := cxOf (L2.CX P w) P w K mg base N_size_of "size_of" (defScope s_size_of) f cdv A outer s H E) rfl rfl rfl rfl
  exact (dss_cons (ds_set (i := 1) sc_size_of.nd rfl (Or.inl rfl) de_int) (dss_cons (ds_set (i := 2) sc_size_of.nd rfl (Or.inl rfl) (de_lst (da_cons (de_var (pv 0)) da_nil))) (dss_cons (ds_while ow (t_cmp op_gt (e_len B.len rfl (de_var (pv 2))) de_int) (dss_cons (ds_augAdd (i := 1) sc_size_of.nd rfl (Or.inl rfl) de_int) (dss_one (ds_extendX (pv 2) (dx_slice (dx_pop (pv 2)) (do_some de_int) do_none))))) (dss_one (ds_ret (de_var (pv 1)))))))
theorem sc_order_of : FnScope N_order_of P_order_of (defScope s_order_of) := ⟨rfl, rfl, rfl, by decide +kernel, rfl, by decide +kernel, by decide +kernel⟩
theorem b_order_of {P : Program} {w : World} {K : PySem.W.Frag} {mg : Str → Option Value} {base : Heap} {J : JS} (B : Bl mg) {R_size_of : SpecD} (F_size_of : FD P w K mg base J 1 "size_of" P_size_of R_size_of) (f : Addr) (cdv : Value) (A : Around) (outer : List Env) (s : Shared) (H : Hp) (E : XK) (hr : Room 1 (A.deeper (envOfC "order_of" (defScope s_order_of) s.heap.objs.size f cdv))) :
    DSs (cxOf (L2.CX P w) P w K mg base N_order_of "order_of" (defScope s_order_of) f cdv A outer s H E) J (WxE E) (defBody s_order_of) (T_order_of R_size_of) := by
  have ow := passes_of (X := cxOf (L2.CX P w) P w K mg base N_order_of "order_of" (defScope s_order_of) f cdv A outer s H E) rfl
  have tk := takes_of (X := cxOf (L2.CX P w) P w K mg base N_order_of "order_of" (defScope s_order_of) f cdv A outer s H E) rfl rfl rfl rfl
  exact (dss_one (ds_ret (de_tup (da_cons (de_call F_size_of (hr.mono (by decide)) rfl tk (da_cons (de_var (pv 0)) da_nil)) (da_cons (de_var (pv 0)) da_nil)))))
theorem sc_ascending : FnScope N_ascending P_ascending (defScope s_ascending) := ⟨rfl, rfl, rfl, by decide +kernel, rfl, by decide +kernel, by decide +kernel⟩
theorem b_ascending {P : Program} {w : World} {K : PySem.W.Frag} {mg : Str → Option Value} {base : Heap} {J : JS} (B : Bl mg) {R_order_of : SpecD} (F_order_of : FD P w K mg base J 2 "order_of" P_order_of R_order_of) (f : Addr) (cdv : Value) (A : Around) (outer : List Env) (s : Shared) (H : Hp) (E : XK) (hr : Room 4 (A.deeper (envOfC "ascending" (defScope s_ascending) s.heap.objs.size f cdv))) :
    DSs (cxOf (L2.CX P w) P w K mg base N_ascending "ascending" (defScope s_ascending) f cdv A outer s H E) J (WxE E) (defBody s_ascending) (T_ascending R_order_of) := by
  have ow := passes_of (X := cxOf (L2.CX P w) P w K mg base N_ascending "ascending" (defScope s_ascending) f cdv A outer s H E) rfl
  have tk := takes_of (X := cxOf (L2.CX P w) P w K mg base N_ascending "ascending" (defScope s_ascending) f cdv A outer s H E) rfl rfl rfl rfl
  exact (dss_one (ds_ret (de_sortK F_order_of (hr.mono (by decide)) rfl B.sorted rfl (de_var (pv 0)))))
theorem sc_text_of : FnScope N_text_of P_text_of (defScope s_text_of) := ⟨rfl, rfl, rfl, by decide +kernel, rfl, by decide +kernel, by decide +kernel⟩
theorem b_text_of {P : Program} {w : World} {K : PySem.W.Frag} {mg : Str → Option Value} {base : Heap} {J : JS} (B : Bl mg) (f : Addr) (cdv : Value) (A : Around) (outer : List Env) (s : Shared) (H : Hp) (E : XK) (hr : Room 0 (A.deeper (envOfC "text_of" (defScope s_text_of) s.heap.objs.size f cdv))) :
    DSs (cxOf (L2.CX P w) P w K mg base N_text_of "text_of" (defScope s_text_of) f cdv A outer s H E) J (WxE E) (defBody s_text_of) (T_text_of) := by
  have ow := passes_of (X := cxOf (L2.CX P w) P w K mg base N_text_of "text_of" (defScope s_text_of) f cdv A outer s H E) rfl
  have tk := takes_of (X := cxOf (L2.CX P w) P w K mg base N_text_of "text_of" (defScope s_text_of) f cdv A outer s H E) rfl rfl rfl rfl
  exact (dss_cons (ds_set (i := 1) sc_text_of.nd rfl (Or.inl rfl) (de_lst da_nil)) (dss_cons (ds_set (i := 2) sc_text_of.nd rfl (Or.inl rfl) (de_lst (da_cons (de_var (pv 0)) da_nil))) (dss_cons (ds_while ow (t_cmp op_gt (e_len B.len rfl (de_var (pv 2))) de_int) (dss_cons (ds_setX (j := 3) sc_text_of.nd rfl (Or.inl rfl) (dx_pop (pv 2))) (dss_one (ds_if (dt_val (e_isi B.isinstance rfl (de_var (pv 3)) (de_type rfl B.str rfl))) (dss_one (ds_append (pv 1) (de_var (pv 3)))) (dss_one (ds_if (t_eq hr (e_len B.len rfl (de_var (pv 3))) de_int) (dss_one (ds_append (pv 1) (e_ix (de_var (pv 3)) de_int (fun _ _ => rfl)))) (dss_cons (ds_append (pv 1) (e_add (e_ix (de_var (pv 3)) de_int (fun _ _ => rfl)) de_str)) (dss_cons (ds_append (pv 2) de_str) (dss_one (ds_for ow rfl (di_range3 rfl B.range (da_cons (e_sub (e_len B.len rfl (de_var (pv 3))) de_int) (da_cons de_int (da_cons (de_un un_neg neg_ok de_int) da_nil)))) (dg_name (i := 4) sc_text_of.nd rfl (Or.inl rfl)) (dss_cons (ds_append (pv 2) (e_ix (de_var (pv 3)) (de_var (pv 4)) (fun _ _ => rfl))) (dss_one (ds_if (t_cmp op_gt (de_var (pv 4)) de_int) (dss_one (ds_append (pv 2) de_str)) dss_nil))))))))))))) (dss_one (ds_ret (de_join (de_var (pv 1))))))))
theorem sc_within_of : FnScope N_within_of P_within_of (defScope s_within_of) := ⟨rfl, rfl, rfl, by decide +kernel, rfl, by decide +kernel, by decide +kernel⟩
theorem b_within_of {P : Program} {w : World} {K : PySem.W.Frag} {mg : Str → Option Value} {base : Heap} {J : JS} (B : Bl mg) {R_text_of : SpecD} (F_text_of : FD P w K mg base J 1 "text_of" P_text_of R_text_of) {R_ascending : SpecD} (F_ascending : FD P w K mg base J 5 "ascending" P_ascending R_ascending) (f : Addr) (cdv : Value) (A : Around) (outer : List Env) (s : Shared) (H : Hp) (E : XK) (hr : Room 5 (A.deeper (envOfC "within_of" (defScope s_within_of) s.heap.objs.size f cdv))) :
    DSs (cxOf (L2.CX P w) P w K mg base N_within_of "within_of" (defScope s_within_of) f cdv A outer s H E) J (WxE E) (defBody s_within_of) (T_within_of R_text_of R_ascending) := by
  have ow := passes_of (X := cxOf (L2.CX P w) P w K mg base N_within_of "within_of" (defScope s_within_of) f cdv A outer s H E) rfl
  have tk := takes_of (X := cxOf (L2.CX P w) P w K mg base N_within_of "within_of" (defScope s_within_of) f cdv A outer s H E) rfl rfl rfl rfl
  exact (dss_cons (ds_set (i := 1) sc_within_of.nd rfl (Or.inr rfl) de_dnew) (dss_cons (ds_set (i := 2) sc_within_of.nd rfl (Or.inl rfl) (e_list B.list rfl (de_var (pv 0)))) (dss_cons (ds_while ow (t_cmp op_gt (e_len B.len rfl (de_var (pv 2))) de_int) (dss_cons (ds_setX (j := 3) sc_within_of.nd rfl (Or.inl rfl) (dx_pop (pv 2))) (dss_cons (ds_set (i := 4) sc_within_of.nd rfl (Or.inl rfl) (de_call F_text_of (hr.mono (by decide)) rfl tk (da_cons (de_var (pv 3)) da_nil))) (dss_one (ds_if (t_dnotin hr (de_var (pv 4)) (de_var (pv 1))) (dss_cons (s_dput hr (pv 1) (de_var (pv 4)) (de_var (pv 3))) (dss_one (ds_extend (pv 2) (de_slice (de_var (pv 3)) (do_some de_int) do_none)))) dss_nil))))) (dss_one (ds_freeze 1 (ds_ret (de_call F_ascending (hr.mono (by decide)) rfl tk (da_cons (de_lcKeys rfl sc_within_of.nd (pv 1) (own := [("key", 4)]) (show BlkOk N_within_of (defScope s_within_of) _ _ from ⟨rfl, by decide +kernel, by decide +kernel, by decide +kernel, by decide +kernel⟩) (fun _ _ _ _ _ => (dg_name (i := 4) sc_within_of.nd rfl (Or.inl rfl))) (fun _ _ _ _ _ => dts_nil) (fun _ _ _ _ _ => (e_dget hr (de_var (pv 1)) (de_var (pv 4)) (fun _ _ => rfl)))) da_nil))))))))
theorem sc_sides_of : FnScope N_sides_of P_sides_of (defScope s_sides_of) := ⟨rfl, rfl, rfl, by decide +kernel, rfl, by decide +kernel, by decide +kernel⟩
theorem b_sides_of {P : Program} {w : World} {K : PySem.W.Frag} {mg : Str → Option Value} {base : Heap} {J : JS} (B : Bl mg) (f : Addr) (cdv : Value) (A : Around) (outer : List Env) (s : Shared) (H : Hp) (E : XK) (hr : Room 0 (A.deeper (envOfC "sides_of" (defScope s_sides_of) s.heap.objs.size f cdv))) :
    DSs (cxOf (L2.CX P w) P w K mg base N_sides_of "sides_of" (defScope s_sides_of) f cdv A outer s H E) J (WxE E) (defBody s_sides_of) (T_sides_of) := by
  have ow := passes_of (X := cxOf (L2.CX P w) P w K mg base N_sides_of "sides_of" (defScope s_sides_of) f cdv A outer s H E) rfl
  have tk := takes_of (X := cxOf (L2.CX P w) P w K mg base N_sides_of "sides_of" (defScope s_sides_of) f cdv A outer s H E) rfl rfl rfl rfl
  exact (dss_cons (ds_set (i := 1) sc_sides_of.nd rfl (Or.inl rfl) (de_lst da_nil)) (dss_cons (ds_for ow rfl (di_tup (de_var (pv 0))) (dg_tup rfl (dgs_cons (dg_name (i := 2) sc_sides_of.nd rfl (Or.inl rfl)) (dgs_cons (dg_name (i := 3) sc_sides_of.nd rfl (Or.inl rfl)) dgs_nil))) (dss_one (ds_extend (pv 1) (de_lst (da_cons (de_var (pv 2)) (da_cons (de_var (pv 3)) da_nil)))))) (dss_one (ds_ret (de_var (pv 1))))))
theorem sc_is_term_there : FnScope N_is_term_there P_is_term_there (defScope s_is_term_there) := ⟨rfl, rfl, rfl, by decide +kernel, rfl, by decide +kernel, by decide +kernel⟩
theorem b_is_term_there {P : Program} {w : World} {K : PySem.W.Frag} {mg : Str → Option Value} {base : Heap} {J : JS} (B : Bl mg) {R_is_term_of : SpecD} (F_is_term_of : FD P w K mg base J 1 "is_term_of" P_is_term_of R_is_term_of) {csL : List Str} (fA_kept_places : FldA K csL "kept_places") (f : Addr) (cdv : Value) (A : Around) (outer : List Env) (s : Shared) (H : Hp) (E : XK) (hr : Room 1 (A.deeper (envOfC "is_term_there" (defScope s_is_term_there) s.heap.objs.size f cdv))) :
    DSs (cxOf (L2.CX P w) P w K mg base N_is_term_there "is_term_there" (defScope s_is_term_there) f cdv A outer s H E) J (WxE E) (defBody s_is_term_there) (T_is_term_there R_is_term_of csL) := by
  have ow := passes_of (X := cxOf (L2.CX P w) P w K mg base N_is_term_there "is_term_there" (defScope s_is_term_there) f cdv A outer s H E) rfl
  have tk := takes_of (X := cxOf (L2.CX P w) P w K mg base N_is_term_there "is_term_there" (defScope s_is_term_there) f cdv A outer s H E) rfl rfl rfl rfl
  exact (dss_one (ds_ret (de_call F_is_term_of (hr.mono (by decide)) rfl tk (da_cons (de_fldA fA_kept_places (de_var (pv 0))) (da_cons (de_var (pv 1)) da_nil)))))
theorem sc_is_term : FnScope N_is_term P_is_term (defScope s_is_term) := ⟨rfl, rfl, rfl, by decide +kernel, rfl, by decide +kernel, by decide +kernel⟩
theorem b_is_term {P : Program} {w : World} {K : PySem.W.Frag} {mg : Str → Option Value} {base : Heap} {J : JS} (B : Bl mg) {R_is_term_there : SpecD} (F_is_term_there : FD P w K mg base J 2 "is_term_there" P_is_term_there R_is_term_there) (f : Addr) (cdv : Value) (A : Around) (outer : List Env) (s : Shared) (H : Hp) (E : XK) (hr : Room 2 (A.deeper (envOfC "is_term" (defScope s_is_term) s.heap.objs.size f cdv))) :
    DSs (cxOf (L2.CX P w) P w K mg base N_is_term "is_term" (defScope s_is_term) f cdv A outer s H E) J (WxE E) (defBody s_is_term) (T_is_term R_is_term_there) := by
  have ow := passes_of (X := cxOf (L2.CX P w) P w K mg base N_is_term "is_term" (defScope s_is_term) f cdv A outer s H E) rfl
  have tk := takes_of (X := cxOf (L2.CX P w) P w K mg base N_is_term "is_term" (defScope s_is_term) f cdv A outer s H E) rfl rfl rfl rfl
  exact (dss_one (ds_ret (de_call F_is_term_there (hr.mono (by decide)) rfl tk (da_cons (de_var (pv 0)) (da_cons (de_var (pv 1)) da_nil)))))
theorem sc_check_term : FnScope N_check_term P_check_term (defScope s_check_term) := ⟨rfl, rfl, rfl, by decide +kernel, rfl, by decide +kernel, by decide +kernel⟩
theorem b_check_term {P : Program} {w : World} {K : PySem.W.Frag} {mg : Str → Option Value} {base : Heap} {J : JS} (B : Bl mg) {R_is_term_there : SpecD} (F_is_term_there : FD P w K mg base J 2 "is_term_there" P_is_term_there R_is_term_there) (FX_NoTerm : DX.FX0 P K mg "NoTerm") (f : Addr) (cdv : Value) (A : Around) (outer : List Env) (s : Shared) (H : Hp) (E : XK) (hr : Room 2 (A.deeper (envOfC "check_term" (defScope s_check_term) s.heap.objs.size f cdv))) :
    DSs (cxOf (L2.CX P w) P w K mg base N_check_term "check_term" (defScope s_check_term) f cdv A outer s H E) J (WxE E) (defBody s_check_term) (T_check_term R_is_term_there) := by
  have ow := passes_of (X := cxOf (L2.CX P w) P w K mg base N_check_term "check_term" (defScope s_check_term) f cdv A outer s H E) rfl
  have tk := takes_of (X := cxOf (L2.CX P w) P w K mg base N_check_term "check_term" (defScope s_check_term) f cdv A outer s H E) rfl rfl rfl rfl
  exact (dss_one (ds_if (dt_not (dt_val (de_call F_is_term_there (hr.mono (by decide)) rfl tk (da_cons (de_var (pv 0)) (da_cons (de_var (pv 1)) da_nil))))) (dss_one (ds_x0 FX_NoTerm (k := 0) (hr.mono (by decide)) rfl tk rfl)) dss_nil))
theorem sc_size : FnScope N_size P_size (defScope s_size) := ⟨rfl, rfl, rfl, by decide +kernel, rfl, by decide +kernel, by decide +kernel⟩
theorem b_size {P : Program} {w : World} {K : PySem.W.Frag} {mg : Str → Option Value} {base : Heap} {J : JS} (B : Bl mg) {R_check_term : SpecD} (F_check_term : FD P w K mg base J 3 "check_term" P_check_term R_check_term) {R_size_of : SpecD} (F_size_of : FD P w K mg base J 1 "size_of" P_size_of R_size_of) (f : Addr) (cdv : Value) (A : Around) (outer : List Env) (s : Shared) (H : Hp) (E : XK) (hr : Room 3 (A.deeper (envOfC "size" (defScope s_size) s.heap.objs.size f cdv))) :
    DSs (cxOf (L2.CX P w) P w K mg base N_size "size" (defScope s_size) f cdv A outer s H E) J (WxE E) (defBody s_size) (T_size R_check_term R_size_of) := by
  have ow := passes_of (X := cxOf (L2.CX P w) P w K mg base N_size "size" (defScope s_size) f cdv A outer s H E) rfl
  have tk := takes_of (X := cxOf (L2.CX P w) P w K mg base N_size "size" (defScope s_size) f cdv A outer s H E) rfl rfl rfl rfl
  exact (dss_cons (ds_expr (de_call F_check_term (hr.mono (by decide)) rfl tk (da_cons (de_var (pv 0)) (da_cons (de_var (pv 1)) da_nil)))) (dss_one (ds_ret (de_call F_size_of (hr.mono (by decide)) rfl tk (da_cons (de_var (pv 1)) da_nil)))))
theorem sc_told_of : FnScope N_told_of P_told_of (defScope s_told_of) := ⟨rfl, rfl, rfl, by decide +kernel, rfl, by decide +kernel, by decide +kernel⟩
theorem b_told_of {P : Program} {w : World} {K : PySem.W.Frag} {mg : Str → Option Value} {base : Heap} {J : JS} (B : Bl mg) {R_sides_of : SpecD} (F_sides_of : FD P w K mg base J 1 "sides_of" P_sides_of R_sides_of) {R_within_of : SpecD} (F_within_of : FD P w K mg base J 6 "within_of" P_within_of R_within_of) {csL : List Str} (fA_lines : FldA K csL "lines") (f : Addr) (cdv : Value) (A : Around) (outer : List Env) (s : Shared) (H : Hp) (E : XK) (hr : Room 6 (A.deeper (envOfC "told_of" (defScope s_told_of) s.heap.objs.size f cdv))) :
    DSs (cxOf (L2.CX P w) P w K mg base N_told_of "told_of" (defScope s_told_of) f cdv A outer s H E) J (WxE E) (defBody s_told_of) (T_told_of R_sides_of R_within_of csL) := by
  have ow := passes_of (X := cxOf (L2.CX P w) P w K mg base N_told_of "told_of" (defScope s_told_of) f cdv A outer s H E) rfl
  have tk := takes_of (X := cxOf (L2.CX P w) P w K mg base N_told_of "told_of" (defScope s_told_of) f cdv A outer s H E) rfl rfl rfl rfl
  exact (dss_one (ds_ret (de_call F_within_of (hr.mono (by decide)) rfl tk (da_cons (de_call F_sides_of (hr.mono (by decide)) rfl tk (da_cons (de_fldA fA_lines (de_var (pv 0))) da_nil)) da_nil))))
theorem sc_told_terms : FnScope N_told_terms P_told_terms (defScope s_told_terms) := ⟨rfl, rfl, rfl, by decide +kernel, rfl, by decide +kernel, by decide +kernel⟩
theorem b_told_terms {P : Program} {w : World} {K : PySem.W.Frag} {mg : Str → Option Value} {base : Heap} {J : JS} (B : Bl mg) {R_told_of : SpecD} (F_told_of : FD P w K mg base J 7 "told_of" P_told_of R_told_of) (f : Addr) (cdv : Value) (A : Around) (outer : List Env) (s : Shared) (H : Hp) (E : XK) (hr : Room 7 (A.deeper (envOfC "told_terms" (defScope s_told_terms) s.heap.objs.size f cdv))) :
    DSs (cxOf (L2.CX P w) P w K mg base N_told_terms "told_terms" (defScope s_told_terms) f cdv A outer s H E) J (WxE E) (defBody s_told_terms) (T_told_terms R_told_of) := by
  have ow := passes_of (X := cxOf (L2.CX P w) P w K mg base N_told_terms "told_terms" (defScope s_told_terms) f cdv A outer s H E) rfl
  have tk := takes_of (X := cxOf (L2.CX P w) P w K mg base N_told_terms "told_terms" (defScope s_told_terms) f cdv A outer s H E) rfl rfl rfl rfl
  exact (dss_one (ds_ret (e_tuple B.tuple rfl (de_call F_told_of (hr.mono (by decide)) rfl tk (da_cons (de_var (pv 0)) da_nil)))))
theorem sc__law_deep : FnScope N__law_deep P__law_deep (defScope s_u_law_deep) := ⟨rfl, rfl, rfl, by decide +kernel, rfl, by decide +kernel, by decide +kernel⟩
theorem b__law_deep {P : Program} {w : World} {K : PySem.W.Frag} {mg : Str → Option Value} {base : Heap} {J : JS} (B : Bl mg) (f : Addr) (cdv : Value) (A : Around) (outer : List Env) (s : Shared) (H : Hp) (E : XK) (hr : Room 0 (A.deeper (envOfC "_law_deep" (defScope s_u_law_deep) s.heap.objs.size f cdv))) :
    DSs (cxOf (L2.CX P w) P w K mg base N__law_deep "_law_deep" (defScope s_u_law_deep) f cdv A outer s H E) J (WxE E) (defBody s_u_law_deep) (T__law_deep) := by
  have ow := passes_of (X := cxOf (L2.CX P w) P w K mg base N__law_deep "_law_deep" (defScope s_u_law_deep) f cdv A outer s H E) rfl
  have tk := takes_of (X := cxOf (L2.CX P w) P w K mg base N__law_deep "_law_deep" (defScope s_u_law_deep) f cdv A outer s H E) rfl rfl rfl rfl
  exact (dss_cons (ds_set (i := 0) sc__law_deep.nd rfl (Or.inl rfl) (de_lst (da_cons de_non da_nil))) (dss_cons (ds_for ow rfl (di_range1 rfl B.range (da_cons de_int da_nil)) (dg_name (i := 1) sc__law_deep.nd rfl (Or.inl rfl)) (dss_one (ds_freeze 0 (ds_set (i := 0) sc__law_deep.nd rfl (Or.inl rfl) (de_lst (da_cons (de_var (pv 0)) da_nil)))))) (dss_one (ds_ret (de_var (pv 0))))))
theorem sc__law_flag : FnScope N__law_flag P__law_flag (defScope s_u_law_flag) := ⟨rfl, rfl, rfl, by decide +kernel, rfl, by decide +kernel, by decide +kernel⟩
theorem b__law_flag {P : Program} {w : World} {K : PySem.W.Frag} {mg : Str → Option Value} {base : Heap} {J : JS} (B : Bl mg) (f : Addr) (cdv : Value) (A : Around) (outer : List Env) (s : Shared) (H : Hp) (E : XK) (hr : Room 0 (A.deeper (envOfC "_law_flag" (defScope s_u_law_flag) s.heap.objs.size f cdv))) :
    DSs (cxOf (L2.CX P w) P w K mg base N__law_flag "_law_flag" (defScope s_u_law_flag) f cdv A outer s H E) J (WxE E) (defBody s_u_law_flag) (T__law_flag) := by
  have ow := passes_of (X := cxOf (L2.CX P w) P w K mg base N__law_flag "_law_flag" (defScope s_u_law_flag) f cdv A outer s H E) rfl
  have tk := takes_of (X := cxOf (L2.CX P w) P w K mg base N__law_flag "_law_flag" (defScope s_u_law_flag) f cdv A outer s H E) rfl rfl rfl rfl
  exact (dss_one (ds_ret (de_and (e_isi B.isinstance rfl (de_var (pv 0)) (de_type rfl B.bool rfl)) (de_one (e_eq hr (de_var (pv 0)) (de_var (pv 1)))))))
theorem sc__law_is : FnScope N__law_is P__law_is (defScope s_u_law_is) := ⟨rfl, rfl, rfl, by decide +kernel, rfl, by decide +kernel, by decide +kernel⟩
theorem b__law_is {P : Program} {w : World} {K : PySem.W.Frag} {mg : Str → Option Value} {base : Heap} {J : JS} (B : Bl mg) (f : Addr) (cdv : Value) (A : Around) (outer : List Env) (s : Shared) (H : Hp) (E : XK) (hr : Room 0 (A.deeper (envOfC "_law_is" (defScope s_u_law_is) s.heap.objs.size f cdv))) :
    DSs (cxOf (L2.CX P w) P w K mg base N__law_is "_law_is" (defScope s_u_law_is) f cdv A outer s H E) J (WxE E) (defBody s_u_law_is) (T__law_is) := by
  have ow := passes_of (X := cxOf (L2.CX P w) P w K mg base N__law_is "_law_is" (defScope s_u_law_is) f cdv A outer s H E) rfl
  have tk := takes_of (X := cxOf (L2.CX P w) P w K mg base N__law_is "_law_is" (defScope s_u_law_is) f cdv A outer s H E) rfl rfl rfl rfl
  exact (dss_one (ds_ret (e_eqS (e_repr B.repr rfl (de_var (pv 0))) (e_repr B.repr rfl (de_var (pv 1))))))
theorem sc__law_signs : FnScope N__law_signs P__law_signs (defScope s_u_law_signs) := ⟨rfl, rfl, rfl, by decide +kernel, rfl, by decide +kernel, by decide +kernel⟩
theorem b__law_signs {P : Program} {w : World} {K : PySem.W.Frag} {mg : Str → Option Value} {base : Heap} {J : JS} (B : Bl mg) {R__law_draw : SpecD} (F__law_draw : FD P w K mg base J 1 "_law_draw" P__law_draw R__law_draw) (f : Addr) (cdv : Value) (A : Around) (outer : List Env) (s : Shared) (H : Hp) (E : XK) (hr : Room 1 (A.deeper (envOfC "_law_signs" (defScope s_u_law_signs) s.heap.objs.size f cdv))) :
    DSs (cxOf (L2.CX P w) P w K mg base N__law_signs "_law_signs" (defScope s_u_law_signs) f cdv A outer s H E) J (WxE E) (defBody s_u_law_signs) (T__law_signs R__law_draw) := by
  have ow := passes_of (X := cxOf (L2.CX P w) P w K mg base N__law_signs "_law_signs" (defScope s_u_law_signs) f cdv A outer s H E) rfl
  have tk := takes_of (X := cxOf (L2.CX P w) P w K mg base N__law_signs "_law_signs" (defScope s_u_law_signs) f cdv A outer s H E) rfl rfl rfl rfl
  exact (dss_cons (ds_set (i := 1) sc__law_signs.nd rfl (Or.inl rfl) (de_slice (de_lst (da_cons (de_tup (da_cons de_str (da_cons de_int da_nil))) (da_cons (de_tup (da_cons de_str (da_cons de_int da_nil))) (da_cons (de_tup (da_cons de_str (da_cons de_int da_nil))) da_nil)))) do_none (do_some (e_add de_int (de_call F__law_draw (hr.mono (by decide)) rfl tk (da_cons (de_var (pv 0)) (da_cons de_int da_nil))))))) (dss_cons (ds_set (i := 1) sc__law_signs.nd rfl (Or.inl rfl) (e_add (de_var (pv 1)) (de_slice (de_lst (da_cons (de_tup (da_cons de_str (da_cons de_int da_nil))) (da_cons (de_tup (da_cons de_str (da_cons de_int da_nil))) (da_cons (de_tup (da_cons de_str (da_cons de_int da_nil))) da_nil)))) do_none (do_some (de_call F__law_draw (hr.mono (by decide)) rfl tk (da_cons (de_var (pv 0)) (da_cons de_int da_nil))))))) (dss_cons (ds_set (i := 1) sc__law_signs.nd rfl (Or.inl rfl) (e_add (de_var (pv 1)) (de_slice (de_lst (da_cons (de_tup (da_cons de_str (da_cons de_int da_nil))) (da_cons (de_tup (da_cons de_str (da_cons de_int da_nil))) da_nil))) do_none (do_some (e_max rfl B.max rfl de_int (e_sub (de_call F__law_draw (hr.mono (by decide)) rfl tk (da_cons (de_var (pv 0)) (da_cons de_int da_nil))) de_int)))))) (dss_one (ds_ret (e_tuple B.tuple rfl (e_sorted hr B.sorted rfl (de_var (pv 1)))))))))
theorem sc__law_term : FnScope N__law_term P__law_term (defScope s_u_law_term) := ⟨rfl, rfl, rfl, by decide +kernel, rfl, by decide +kernel, by decide +kernel⟩
theorem b__law_term {P : Program} {w : World} {K : PySem.W.Frag} {mg : Str → Option Value} {base : Heap} {J : JS} {k : Nat} (hk : 1 ≤ k) (B : Bl mg) {R__law_draw : SpecD} (F__law_draw : FD P w K mg base J 1 "_law_draw" P__law_draw R__law_draw) {R__law_term : SpecD} (F__law_term : FD P w K mg base J k "_law_term" P__law_term R__law_term) (f : Addr) (cdv : Value) (A : Around) (outer : List Env) (s : Shared) (H : Hp) (E : XK) (hr : Room (k) (A.deeper (envOfC "_law_term" (defScope s_u_law_term) s.heap.objs.size f cdv))) :
    DSs (cxOf (L2.CX P w) P w K mg base N__law_term "_law_term" (defScope s_u_law_term) f cdv A outer s H E) J (WxE E) (defBody s_u_law_term) (T__law_term R__law_draw R__law_term) := by
  have ow := passes_of (X := cxOf (L2.CX P w) P w K mg base N__law_term "_law_term" (defScope s_u_law_term) f cdv A outer s H E) rfl
  have tk := takes_of (X := cxOf (L2.CX P w) P w K mg base N__law_term "_law_term" (defScope s_u_law_term) f cdv A outer s H E) rfl rfl rfl rfl
  exact (dss_cons (ds_setLc (i := 3) rfl sc__law_term.nd rfl rfl rfl (di_tup (de_var (pv 1))) (own := [("pair", 4)]) (show BlkOk N__law_term (defScope s_u_law_term) _ _ from ⟨rfl, by decide +kernel, by decide +kernel, by decide +kernel, by decide +kernel⟩) (fun _ _ _ _ _ => (dg_name (i := 4) sc__law_term.nd rfl (Or.inl rfl))) (fun _ _ _ _ _ => (dts_one (dt_w (dw_or (t_eq hr (e_ix (de_var (pv 4)) de_int (fun _ _ => rfl)) de_int) (dw_or1 (t_cmp op_gt (de_var (pv 2)) de_int)))))) (fun _ _ _ _ _ => (de_var (pv 4)))) (dss_cons (ds_if (dt_w (dw_and (t_cmp op_gt (de_var (pv 2)) de_int) (dw_and1 (t_cmp op_gt (de_call F__law_draw (hr.mono (by omega)) rfl tk (da_cons (de_var (pv 0)) (da_cons de_int da_nil))) de_int)))) (dss_one (ds_set (i := 3) sc__law_term.nd rfl (Or.inl rfl) (e_add (de_lc rfl sc__law_term.nd (di_tup (de_var (pv 1))) (own := [("pair", 4)]) (show BlkOk N__law_term (defScope s_u_law_term) _ _ from ⟨rfl, by decide +kernel, by decide +kernel, by decide +kernel, by decide +kernel⟩) (fun _ _ _ _ _ => (dg_name (i := 4) sc__law_term.nd rfl (Or.inl rfl))) (fun _ _ _ _ _ => (dts_one (t_cmp op_gt (e_ix (de_var (pv 4)) de_int (fun _ _ => rfl)) de_int))) (fun _ _ _ _ _ => (de_var (pv 4)))) (de_slice (de_var (pv 3)) do_none (do_some de_int))))) dss_nil) (dss_cons (ds_asg (e_ix (de_var (pv 3)) (de_call F__law_draw (hr.mono (by omega)) rfl tk (da_cons (de_var (pv 0)) (da_cons (e_len B.len rfl (de_var (pv 3))) da_nil))) (fun _ _ => rfl)) (dg_tup rfl (dgs_cons (dg_name (i := 5) sc__law_term.nd rfl (Or.inl rfl)) (dgs_cons (dg_name (i := 6) sc__law_term.nd rfl (Or.inl rfl)) dgs_nil)))) (dss_one (ds_ret (e_add (de_tup (da_cons (de_var (pv 5)) da_nil)) (e_tuple B.tuple rfl (de_lc rfl sc__law_term.nd (di_range1 rfl B.range (da_cons (de_var (pv 6)) da_nil)) (own := [("place", 7)]) (show BlkOk N__law_term (defScope s_u_law_term) _ _ from ⟨rfl, by decide +kernel, by decide +kernel, by decide +kernel, by decide +kernel⟩) (fun _ _ _ _ _ => (dg_name (i := 7) sc__law_term.nd rfl (Or.inl rfl))) (fun _ _ _ _ _ => dts_nil) (fun _ _ _ _ _ => (de_call F__law_term hr rfl takes0 (da_cons (de_var (pv 0)) (da_cons (de_var (pv 1)) (da_cons (e_sub (de_var (pv 2)) de_int) da_nil)))))))))))))
theorem sc__law_lines : FnScope N__law_lines P__law_lines (defScope s_u_law_lines) := ⟨rfl, rfl, rfl, by decide +kernel, rfl, by decide +kernel, by decide +kernel⟩
theorem b__law_lines {P : Program} {w : World} {K : PySem.W.Frag} {mg : Str → Option Value} {base : Heap} {J : JS} (B : Bl mg) {R__law_draw : SpecD} (F__law_draw : FD P w K mg base J 1 "_law_draw" P__law_draw R__law_draw) {R__law_term : SpecD} (F__law_term : FD P w K mg base J 10 "_law_term" P__law_term R__law_term) (f : Addr) (cdv : Value) (A : Around) (outer : List Env) (s : Shared) (H : Hp) (E : XK) (hr : Room 10 (A.deeper (envOfC "_law_lines" (defScope s_u_law_lines) s.heap.objs.size f cdv))) :
    DSs (cxOf (L2.CX P w) P w K mg base N__law_lines "_law_lines" (defScope s_u_law_lines) f cdv A outer s H E) J (WxE E) (defBody s_u_law_lines) (T__law_lines R__law_draw R__law_term) := by
  have ow := passes_of (X := cxOf (L2.CX P w) P w K mg base N__law_lines "_law_lines" (defScope s_u_law_lines) f cdv A outer s H E) rfl
  have tk := takes_of (X := cxOf (L2.CX P w) P w K mg base N__law_lines "_law_lines" (defScope s_u_law_lines) f cdv A outer s H E) rfl rfl rfl rfl
  exact (dss_cons (ds_set (i := 4) sc__law_lines.nd rfl (Or.inl rfl) (de_lst da_nil)) (dss_cons (ds_for ow rfl (di_range1 rfl B.range (da_cons (de_call F__law_draw (hr.mono (by decide)) rfl tk (da_cons (de_var (pv 0)) (da_cons (e_add (de_var (pv 2)) de_int) da_nil))) da_nil)) (dg_name (i := 5) sc__law_lines.nd rfl (Or.inl rfl)) (dss_cons (ds_set (i := 6) sc__law_lines.nd rfl (Or.inl rfl) (de_tup (da_cons (de_call F__law_term (hr.mono (by decide)) rfl tk (da_cons (de_var (pv 0)) (da_cons (de_var (pv 1)) (da_cons (de_call F__law_draw (hr.mono (by decide)) rfl tk (da_cons (de_var (pv 0)) (da_cons (e_add (de_var (pv 3)) de_int) da_nil))) da_nil)))) (da_cons (de_call F__law_term (hr.mono (by decide)) rfl tk (da_cons (de_var (pv 0)) (da_cons (de_var (pv 1)) (da_cons (de_call F__law_draw (hr.mono (by decide)) rfl tk (da_cons (de_var (pv 0)) (da_cons (e_add (de_var (pv 3)) de_int) da_nil))) da_nil)))) da_nil)))) (dss_cons (ds_if (dt_w (dw_and (t_cmp op_gt (e_len B.len rfl (de_var (pv 4))) de_int) (dw_and1 (t_eq hr (de_call F__law_draw (hr.mono (by decide)) rfl tk (da_cons (de_var (pv 0)) (da_cons de_int da_nil))) de_int)))) (dss_one (ds_set (i := 6) sc__law_lines.nd rfl (Or.inl rfl) (de_rev (e_ix (de_var (pv 4)) (de_call F__law_draw (hr.mono (by decide)) rfl tk (da_cons (de_var (pv 0)) (da_cons (e_len B.len rfl (de_var (pv 4))) da_nil))) (fun _ _ => rfl))))) dss_nil) (dss_one (ds_append (pv 4) (de_var (pv 6))))))) (dss_one (ds_ret (e_tuple B.tuple rfl (de_var (pv 4)))))))
theorem sc__law_lore : FnScope N__law_lore P__law_lore (defScope s_u_law_lore) := ⟨rfl, rfl, rfl, by decide +kernel, rfl, by decide +kernel, by decide +kernel⟩
theorem b__law_lore {P : Program} {w : World} {K : PySem.W.Frag} {mg : Str → Option Value} {base : Heap} {J : JS} (B : Bl mg) {R__law_signs : SpecD} (F__law_signs : FD P w K mg base J 2 "_law_signs" P__law_signs R__law_signs) {R__law_lines : SpecD} (F__law_lines : FD P w K mg base J 11 "_law_lines" P__law_lines R__law_lines) {R__law_told : SpecD} (F__law_told : FD P w K mg base J 46 "_law_told" P__law_told R__law_told) (f : Addr) (cdv : Value) (A : Around) (outer : List Env) (s : Shared) (H : Hp) (E : XK) (hr : Room 46 (A.deeper (envOfC "_law_lore" (defScope s_u_law_lore) s.heap.objs.size f cdv))) :
    DSs (cxOf (L2.CX P w) P w K mg base N__law_lore "_law_lore" (defScope s_u_law_lore) f cdv A outer s H E) J (WxE E) (defBody s_u_law_lore) (T__law_lore R__law_signs R__law_lines R__law_told) := by
  have ow := passes_of (X := cxOf (L2.CX P w) P w K mg base N__law_lore "_law_lore" (defScope s_u_law_lore) f cdv A outer s H E) rfl
  have tk := takes_of (X := cxOf (L2.CX P w) P w K mg base N__law_lore "_law_lore" (defScope s_u_law_lore) f cdv A outer s H E) rfl rfl rfl rfl
  exact (dss_cons (ds_set (i := 3) sc__law_lore.nd rfl (Or.inl rfl) (de_call F__law_signs (hr.mono (by decide)) rfl tk (da_cons (de_var (pv 0)) da_nil))) (dss_cons (ds_set (i := 4) sc__law_lore.nd rfl (Or.inl rfl) (de_call F__law_lines (hr.mono (by decide)) rfl tk (da_cons (de_var (pv 0)) (da_cons (de_var (pv 3)) (da_cons (de_var (pv 1)) (da_cons (de_var (pv 2)) da_nil)))))) (dss_cons (ds_while ow (t_cmp op_gt (e_len B.len rfl (de_call F__law_told (hr.mono (by decide)) rfl tk (da_cons (de_var (pv 4)) da_nil))) de_int) (dss_one (ds_set (i := 4) sc__law_lore.nd rfl (Or.inl rfl) (de_slice (de_var (pv 4)) do_none (do_some (de_un un_neg neg_ok de_int)))))) (dss_one (ds_ret (de_tup (da_cons (de_var (pv 3)) (da_cons (de_var (pv 4)) da_nil))))))))
theorem sc__law_made : FnScope N__law_made P__law_made (defScope s_u_law_made) := ⟨rfl, rfl, rfl, by decide +kernel, rfl, by decide +kernel, by decide +kernel⟩
theorem b__law_made {P : Program} {w : World} {K : PySem.W.Frag} {mg : Str → Option Value} {base : Heap} {J : JS} (B : Bl mg) {R_Lore : SpecO} (C_Lore : FC P w K mg base J 7 "Lore" P_Lore_u__init_u_ R_Lore) (f : Addr) (cdv : Value) (A : Around) (outer : List Env) (s : Shared) (H : Hp) (E : XK) (hr : Room 8 (A.deeper (envOfC "_law_made" (defScope s_u_law_made) s.heap.objs.size f cdv))) :
    DSs (cxOf (L2.CX P w) P w K mg base N__law_made "_law_made" (defScope s_u_law_made) f cdv A outer s H E) J (WxE E) (defBody s_u_law_made) (T__law_made R_Lore) := by
  have ow := passes_of (X := cxOf (L2.CX P w) P w K mg base N__law_made "_law_made" (defScope s_u_law_made) f cdv A outer s H E) rfl
  have tk := takes_of (X := cxOf (L2.CX P w) P w K mg base N__law_made "_law_made" (defScope s_u_law_made) f cdv A outer s H E) rfl rfl rfl rfl
  exact (dss_one (ds_ret (de_make C_Lore (hr.mono (by decide)) rfl tk (da_cons (e_ix (de_var (pv 0)) de_int (fun _ _ => rfl)) (da_cons (e_ix (de_var (pv 0)) de_int (fun _ _ => rfl)) da_nil)))))
theorem sc__law_size : FnScope N__law_size P__law_size (defScope s_u_law_size) := ⟨rfl, rfl, rfl, by decide +kernel, rfl, by decide +kernel, by decide +kernel⟩
theorem b__law_size {P : Program} {w : World} {K : PySem.W.Frag} {mg : Str → Option Value} {base : Heap} {J : JS} {k : Nat} (hk : 0 ≤ k) (B : Bl mg) {R__law_size : SpecD} (F__law_size : FD P w K mg base J k "_law_size" P__law_size R__law_size) (f : Addr) (cdv : Value) (A : Around) (outer : List Env) (s : Shared) (H : Hp) (E : XK) (hr : Room (k) (A.deeper (envOfC "_law_size" (defScope s_u_law_size) s.heap.objs.size f cdv))) :
    DSs (cxOf (L2.CX P w) P w K mg base N__law_size "_law_size" (defScope s_u_law_size) f cdv A outer s H E) J (WxE E) (defBody s_u_law_size) (T__law_size R__law_size) := by
  have ow := passes_of (X := cxOf (L2.CX P w) P w K mg base N__law_size "_law_size" (defScope s_u_law_size) f cdv A outer s H E) rfl
  have tk := takes_of (X := cxOf (L2.CX P w) P w K mg base N__law_size "_law_size" (defScope s_u_law_size) f cdv A outer s H E) rfl rfl rfl rfl
  exact (dss_one (ds_ret (e_add de_int (e_sum rfl B.sum rfl (de_lc rfl sc__law_size.nd (di_tup (de_slice (de_var (pv 0)) (do_some de_int) do_none)) (own := [("part", 1)]) (show BlkOk N__law_size (defScope s_u_law_size) _ _ from ⟨rfl, by decide +kernel, by decide +kernel, by decide +kernel, by decide +kernel⟩) (fun _ _ _ _ _ => (dg_name (i := 1) sc__law_size.nd rfl (Or.inl rfl))) (fun _ _ _ _ _ => dts_nil) (fun _ _ _ _ _ => (de_call F__law_size hr rfl takes0 (da_cons (de_var (pv 1)) da_nil))))))))
theorem sc__law_key : FnScope N__law_key P__law_key (defScope s_u_law_key) := ⟨rfl, rfl, rfl, by decide +kernel, rfl, by decide +kernel, by decide +kernel⟩
theorem b__law_key {P : Program} {w : World} {K : PySem.W.Frag} {mg : Str → Option Value} {base : Heap} {J : JS} (B : Bl mg) {R__law_size : SpecD} (F__law_size : FD P w K mg base J 41 "_law_size" P__law_size R__law_size) (f : Addr) (cdv : Value) (A : Around) (outer : List Env) (s : Shared) (H : Hp) (E : XK) (hr : Room 41 (A.deeper (envOfC "_law_key" (defScope s_u_law_key) s.heap.objs.size f cdv))) :
    DSs (cxOf (L2.CX P w) P w K mg base N__law_key "_law_key" (defScope s_u_law_key) f cdv A outer s H E) J (WxE E) (defBody s_u_law_key) (T__law_key R__law_size) := by
  have ow := passes_of (X := cxOf (L2.CX P w) P w K mg base N__law_key "_law_key" (defScope s_u_law_key) f cdv A outer s H E) rfl
  have tk := takes_of (X := cxOf (L2.CX P w) P w K mg base N__law_key "_law_key" (defScope s_u_law_key) f cdv A outer s H E) rfl rfl rfl rfl
  exact (dss_one (ds_ret (de_tup (da_cons (de_call F__law_size (hr.mono (by decide)) rfl tk (da_cons (de_var (pv 0)) da_nil)) (da_cons (de_var (pv 0)) da_nil)))))
theorem sc__law_within : FnScope N__law_within P__law_within (defScope s_u_law_within) := ⟨rfl, rfl, rfl, by decide +kernel, rfl, by decide +kernel, by decide +kernel⟩
theorem b__law_within {P : Program} {w : World} {K : PySem.W.Frag} {mg : Str → Option Value} {base : Heap} {J : JS} (B : Bl mg) {R__law_key : SpecD} (F__law_key : FD P w K mg base J 42 "_law_key" P__law_key R__law_key) (f : Addr) (cdv : Value) (A : Around) (outer : List Env) (s : Shared) (H : Hp) (E : XK) (hr : Room 44 (A.deeper (envOfC "_law_within" (defScope s_u_law_within) s.heap.objs.size f cdv))) :
    DSs (cxOf (L2.CX P w) P w K mg base N__law_within "_law_within" (defScope s_u_law_within) f cdv A outer s H E) J (WxE E) (defBody s_u_law_within) (T__law_within R__law_key) := by
  have ow := passes_of (X := cxOf (L2.CX P w) P w K mg base N__law_within "_law_within" (defScope s_u_law_within) f cdv A outer s H E) rfl
  have tk := takes_of (X := cxOf (L2.CX P w) P w K mg base N__law_within "_law_within" (defScope s_u_law_within) f cdv A outer s H E) rfl rfl rfl rfl
  exact (dss_cons (ds_set (i := 1) sc__law_within.nd rfl (Or.inl rfl) (de_lst da_nil)) (dss_cons (ds_set (i := 2) sc__law_within.nd rfl (Or.inl rfl) (e_list B.list rfl (de_var (pv 0)))) (dss_cons (ds_while ow (t_cmp op_gt (e_len B.len rfl (de_var (pv 2))) de_int) (dss_cons (ds_setX (j := 3) sc__law_within.nd rfl (Or.inl rfl) (dx_pop (pv 2))) (dss_one (ds_if (t_notin hr (de_var (pv 3)) (de_var (pv 1))) (dss_cons (ds_append (pv 1) (de_var (pv 3))) (dss_one (ds_set (i := 2) sc__law_within.nd rfl (Or.inl rfl) (e_add (de_var (pv 2)) (e_list B.list rfl (de_slice (de_var (pv 3)) (do_some de_int) do_none)))))) dss_nil)))) (dss_one (ds_ret (de_sortK F__law_key (hr.mono (by decide)) rfl B.sorted rfl (de_var (pv 1))))))))
theorem sc__law_told : FnScope N__law_told P__law_told (defScope s_u_law_told) := ⟨rfl, rfl, rfl, by decide +kernel, rfl, by decide +kernel, by decide +kernel⟩
theorem b__law_told {P : Program} {w : World} {K : PySem.W.Frag} {mg : Str → Option Value} {base : Heap} {J : JS} (B : Bl mg) {R__law_within : SpecD} (F__law_within : FD P w K mg base J 45 "_law_within" P__law_within R__law_within) (f : Addr) (cdv : Value) (A : Around) (outer : List Env) (s : Shared) (H : Hp) (E : XK) (hr : Room 45 (A.deeper (envOfC "_law_told" (defScope s_u_law_told) s.heap.objs.size f cdv))) :
    DSs (cxOf (L2.CX P w) P w K mg base N__law_told "_law_told" (defScope s_u_law_told) f cdv A outer s H E) J (WxE E) (defBody s_u_law_told) (T__law_told R__law_within) := by
  have ow := passes_of (X := cxOf (L2.CX P w) P w K mg base N__law_told "_law_told" (defScope s_u_law_told) f cdv A outer s H E) rfl
  have tk := takes_of (X := cxOf (L2.CX P w) P w K mg base N__law_told "_law_told" (defScope s_u_law_told) f cdv A outer s H E) rfl rfl rfl rfl
  exact (dss_one (ds_ret (de_call F__law_within (hr.mono (by decide)) rfl tk (da_cons (e_add (de_lc rfl sc__law_told.nd (di_tup (de_var (pv 0))) (own := [("line", 1)]) (show BlkOk N__law_told (defScope s_u_law_told) _ _ from ⟨rfl, by decide +kernel, by decide +kernel, by decide +kernel, by decide +kernel⟩) (fun _ _ _ _ _ => (dg_name (i := 1) sc__law_told.nd rfl (Or.inl rfl))) (fun _ _ _ _ _ => dts_nil) (fun _ _ _ _ _ => (e_ix (de_var (pv 1)) de_int (fun _ _ => rfl)))) (de_lc rfl sc__law_told.nd (di_tup (de_var (pv 0))) (own := [("line", 1)]) (show BlkOk N__law_told (defScope s_u_law_told) _ _ from ⟨rfl, by decide +kernel, by decide +kernel, by decide +kernel, by decide +kernel⟩) (fun _ _ _ _ _ => (dg_name (i := 1) sc__law_told.nd rfl (Or.inl rfl))) (fun _ _ _ _ _ => dts_nil) (fun _ _ _ _ _ => (e_ix (de_var (pv 1)) de_int (fun _ _ => rfl))))) da_nil))))
theorem sc__law_is_right : FnScope N__law_is_right P__law_is_right (defScope s_u_law_is_right) := ⟨rfl, rfl, rfl, by decide +kernel, rfl, by decide +kernel, by decide +kernel⟩
theorem b__law_is_right {P : Program} {w : World} {K : PySem.W.Frag} {mg : Str → Option Value} {base : Heap} {J : JS} {k : Nat} (hk : 0 ≤ k) (B : Bl mg) {R__law_is_right : SpecD} (F__law_is_right : FD P w K mg base J k "_law_is_right" P__law_is_right R__law_is_right) (f : Addr) (cdv : Value) (A : Around) (outer : List Env) (s : Shared) (H : Hp) (E : XK) (hr : Room (k) (A.deeper (envOfC "_law_is_right" (defScope s_u_law_is_right) s.heap.objs.size f cdv))) :
    DSs (cxOf (L2.CX P w) P w K mg base N__law_is_right "_law_is_right" (defScope s_u_law_is_right) f cdv A outer s H E) J (WxE E) (defBody s_u_law_is_right) (T__law_is_right R__law_is_right) := by
  have ow := passes_of (X := cxOf (L2.CX P w) P w K mg base N__law_is_right "_law_is_right" (defScope s_u_law_is_right) f cdv A outer s H E) rfl
  have tk := takes_of (X := cxOf (L2.CX P w) P w K mg base N__law_is_right "_law_is_right" (defScope s_u_law_is_right) f cdv A outer s H E) rfl rfl rfl rfl
  exact (dss_cons (ds_if (dt_w (dw_or (dt_not (dt_val (e_isi B.isinstance rfl (de_var (pv 1)) (de_type rfl B.tuple rfl)))) (dw_or (t_eq hr (e_len B.len rfl (de_var (pv 1))) de_int) (dw_or1 (dt_not (dt_val (e_isi B.isinstance rfl (e_ix (de_var (pv 1)) de_int (fun _ _ => rfl)) (de_type rfl B.str rfl)))))))) (dss_one (ds_ret de_bl)) dss_nil) (dss_one (ds_ret (de_and (e_in hr (de_tup (da_cons (e_ix (de_var (pv 1)) de_int (fun _ _ => rfl)) (da_cons (e_sub (e_len B.len rfl (de_var (pv 1))) de_int) da_nil))) (de_var (pv 0))) (de_one (e_all rfl B.all rfl (de_lc rfl sc__law_is_right.nd (di_tup (de_slice (de_var (pv 1)) (do_some de_int) do_none)) (own := [("part", 2)]) (show BlkOk N__law_is_right (defScope s_u_law_is_right) _ _ from ⟨rfl, by decide +kernel, by decide +kernel, by decide +kernel, by decide +kernel⟩) (fun _ _ _ _ _ => (dg_name (i := 2) sc__law_is_right.nd rfl (Or.inl rfl))) (fun _ _ _ _ _ => dts_nil) (fun _ _ _ _ _ => (de_call F__law_is_right hr rfl takes0 (da_cons (de_var (pv 0)) (da_cons (de_var (pv 2)) da_nil)))))))))))
theorem sc__law_bent : FnScope N__law_bent P__law_bent (defScope s_u_law_bent) := ⟨rfl, rfl, rfl, by decide +kernel, rfl, by decide +kernel, by decide +kernel⟩
theorem b__law_bent {P : Program} {w : World} {K : PySem.W.Frag} {mg : Str → Option Value} {base : Heap} {J : JS} {k : Nat} (hk : 1 ≤ k) (B : Bl mg) {R__law_draw : SpecD} (F__law_draw : FD P w K mg base J 1 "_law_draw" P__law_draw R__law_draw) {R__law_bent : SpecD} (F__law_bent : FD P w K mg base J k "_law_bent" P__law_bent R__law_bent) {R__law_deep : SpecD} (F__law_deep : FD P w K mg base J 1 "_law_deep" P__law_deep R__law_deep) (f : Addr) (cdv : Value) (A : Around) (outer : List Env) (s : Shared) (H : Hp) (E : XK) (hr : Room (k) (A.deeper (envOfC "_law_bent" (defScope s_u_law_bent) s.heap.objs.size f cdv))) :
    DSs (cxOf (L2.CX P w) P w K mg base N__law_bent "_law_bent" (defScope s_u_law_bent) f cdv A outer s H E) J (WxE E) (defBody s_u_law_bent) (T__law_bent R__law_draw R__law_bent R__law_deep) := by
  have ow := passes_of (X := cxOf (L2.CX P w) P w K mg base N__law_bent "_law_bent" (defScope s_u_law_bent) f cdv A outer s H E) rfl
  have tk := takes_of (X := cxOf (L2.CX P w) P w K mg base N__law_bent "_law_bent" (defScope s_u_law_bent) f cdv A outer s H E) rfl rfl rfl rfl
  exact (dss_cons (ds_if (dt_w (dw_and (t_cmp op_gt (e_len B.len rfl (de_var (pv 1))) de_int) (dw_and1 (t_cmp op_gt (de_call F__law_draw (hr.mono (by omega)) rfl tk (da_cons (de_var (pv 0)) (da_cons de_int da_nil))) de_int)))) (dss_cons (ds_set (i := 2) sc__law_bent.nd rfl (Or.inl rfl) (e_add de_int (de_call F__law_draw (hr.mono (by omega)) rfl tk (da_cons (de_var (pv 0)) (da_cons (e_sub (e_len B.len rfl (de_var (pv 1))) de_int) da_nil))))) (dss_one (ds_ret (e_add (e_add (de_slice (de_var (pv 1)) do_none (do_some (de_var (pv 2)))) (de_tup (da_cons (de_call F__law_bent hr rfl tk (da_cons (de_var (pv 0)) (da_cons (e_ix (de_var (pv 1)) (de_var (pv 2)) (fun _ _ => rfl)) da_nil))) da_nil))) (de_slice (de_var (pv 1)) (do_some (e_add (de_var (pv 2)) de_int)) do_none))))) dss_nil) (dss_cons (ds_set (i := 3) sc__law_bent.nd rfl (Or.inl rfl) (de_lst (da_cons de_non (da_cons de_str (da_cons de_int (da_cons de_bl (da_cons (de_tup da_nil) (da_cons (de_lst (da_cons de_str da_nil)) (da_cons (de_tup (da_cons de_str da_nil)) (da_cons (de_tup (da_cons de_int da_nil)) (da_cons de_dnew (da_cons (de_tup (da_cons (de_tup (da_cons de_str da_nil)) da_nil)) (da_cons (e_add (de_var (pv 1)) (de_tup (da_cons (de_tup (da_cons de_str da_nil)) da_nil))) (da_cons (de_slice (de_var (pv 1)) do_none (do_some (de_un un_neg neg_ok de_int))) (da_cons (e_list B.list rfl (de_var (pv 1))) (da_cons (de_call0 F__law_deep (hr.mono (by omega)) rfl tk) da_nil)))))))))))))))) (dss_cons (ds_set (i := 3) sc__law_bent.nd rfl (Or.inl rfl) (e_add (de_var (pv 3)) (de_lst (da_cons (de_tup (da_cons de_str da_nil)) (da_cons (de_tup (da_cons de_str da_nil)) (da_cons (de_tup (da_cons (e_ix (de_var (pv 1)) de_int (fun _ _ => rfl)) (da_cons (de_tup (da_cons de_str da_nil)) da_nil))) (da_cons (de_tup (da_cons (e_ix (de_var (pv 1)) de_int (fun _ _ => rfl)) (da_cons (de_tup (da_cons de_str da_nil)) (da_cons (de_tup (da_cons de_str da_nil)) da_nil)))) (da_cons (e_add (de_tup (da_cons de_non da_nil)) (de_slice (de_var (pv 1)) (do_some de_int) do_none)) da_nil)))))))) (dss_one (ds_ret (e_ix (de_var (pv 3)) (de_call F__law_draw (hr.mono (by omega)) rfl tk (da_cons (de_var (pv 0)) (da_cons de_int da_nil))) (fun _ _ => rfl)))))))
theorem sc__law_size_told : FnScope N__law_size_told P__law_size_told (defScope s_u_law_size_told) := ⟨rfl, rfl, rfl, by decide +kernel, rfl, by decide +kernel, by decide +kernel⟩
theorem b__law_size_told {P : Program} {w : World} {K : PySem.W.Frag} {mg : Str → Option Value} {base : Heap} {J : JS} (B : Bl mg) {R_size : SpecD} (F_size : FD P w K mg base J 4 "size" P_size R_size) {hit_NoTerm : Str → Option Bool} (H_NoTerm : HitOk K "NoTerm" hit_NoTerm) (g_NoTerm : mg "NoTerm" = some (.ref (He.ga K "NoTerm"))) (f : Addr) (cdv : Value) (A : Around) (outer : List Env) (s : Shared) (H : Hp) (E : XK) (hr : Room 4 (A.deeper (envOfC "_law_size_told" (defScope s_u_law_size_told) s.heap.objs.size f cdv))) :
    DSs (cxOf (L2.CX P w) P w K mg base N__law_size_told "_law_size_told" (defScope s_u_law_size_told) f cdv A outer s H E) J (WxE E) (defBody s_u_law_size_told) (T__law_size_told R_size hit_NoTerm) := by
  have ow := passes_of (X := cxOf (L2.CX P w) P w K mg base N__law_size_told "_law_size_told" (defScope s_u_law_size_told) f cdv A outer s H E) rfl
  have tk := takes_of (X := cxOf (L2.CX P w) P w K mg base N__law_size_told "_law_size_told" (defScope s_u_law_size_told) f cdv A outer s H E) rfl rfl rfl rfl
  exact (dss_cons (ds_set (i := 2) sc__law_size_told.nd rfl (Or.inl rfl) de_non) (dss_cons (ds_try H_NoTerm rfl rfl rfl (by decide) g_NoTerm tk (fun _ _ _ tk ow => (dss_one (ds_set (i := 2) sc__law_size_told.nd rfl (Or.inl rfl) (de_call F_size (hr.mono (by decide)) rfl tk (da_cons (de_var (pv 0)) (da_cons (de_var (pv 1)) da_nil)))))) (fun _ _ => (dss_one (ds_set (i := 2) sc__law_size_told.nd rfl (Or.inl rfl) de_str)))) (dss_one (ds_ret (de_var (pv 2))))))
theorem sc_law : FnScope N_law P_law (defScope s_law) := ⟨rfl, rfl, rfl, by decide +kernel, rfl, by decide +kernel, by decide +kernel⟩
theorem b_law {P : Program} {w : World} {K : PySem.W.Frag} {mg : Str → Option Value} {base : Heap} {J : JS} (B : Bl mg) {R__law_pool : SpecD} (F__law_pool : FD P w K mg base J 1 "_law_pool" P__law_pool R__law_pool) {R__law_lore : SpecD} (F__law_lore : FD P w K mg base J 47 "_law_lore" P__law_lore R__law_lore) {R__law_made : SpecD} (F__law_made : FD P w K mg base J 9 "_law_made" P__law_made R__law_made) {R__law_draw : SpecD} (F__law_draw : FD P w K mg base J 1 "_law_draw" P__law_draw R__law_draw) {R__law_term : SpecD} (F__law_term : FD P w K mg base J 10 "_law_term" P__law_term R__law_term) {R__law_bent : SpecD} (F__law_bent : FD P w K mg base J 10 "_law_bent" P__law_bent R__law_bent) {R__law_is_right : SpecD} (F__law_is_right : FD P w K mg base J 13 "_law_is_right" P__law_is_right R__law_is_right) {R__law_size : SpecD} (F__law_size : FD P w K mg base J 41 "_law_size" P__law_size R__law_size) {R_is_term : SpecD} (F_is_term : FD P w K mg base J 3 "is_term" P_is_term R_is_term) {R__law_flag : SpecD} (F__law_flag : FD P w K mg base J 1 "_law_flag" P__law_flag R__law_flag) {R__law_size_told : SpecD} (F__law_size_told : FD P w K mg base J 5 "_law_size_told" P__law_size_told R__law_size_told) {R__law_is : SpecD} (F__law_is : FD P w K mg base J 1 "_law_is" P__law_is R__law_is) {R_told_terms : SpecD} (F_told_terms : FD P w K mg base J 8 "told_terms" P_told_terms R_told_terms) {R__law_told : SpecD} (F__law_told : FD P w K mg base J 46 "_law_told" P__law_told R__law_told) (f : Addr) (cdv : Value) (A : Around) (outer : List Env) (s : Shared) (H : Hp) (E : XK) (hr : Room 47 (A.deeper (envOfC "law" (defScope s_law) s.heap.objs.size f cdv))) :
    DSs (cxOf (L2.CX P w) P w K mg base N_law "law" (defScope s_law) f cdv A outer s H E) J (WxE E) (defBody s_law) (T_law R__law_pool R__law_lore R__law_made R__law_draw R__law_term R__law_bent R__law_is_right R__law_size R_is_term R__law_flag R__law_size_told R__law_is R_told_terms R__law_told) := by
  have ow := passes_of (X := cxOf (L2.CX P w) P w K mg base N_law "law" (defScope s_law) f cdv A outer s H E) rfl
  have tk := takes_of (X := cxOf (L2.CX P w) P w K mg base N_law "law" (defScope s_law) f cdv A outer s H E) rfl rfl rfl rfl
  exact (dss_cons (ds_set (i := 1) sc_law.nd rfl (Or.inl rfl) (de_call F__law_pool (hr.mono (by decide)) rfl tk (da_cons (de_var (pv 0)) da_nil))) (dss_cons (ds_for ow rfl (di_range1 rfl B.range (da_cons de_int da_nil)) (dg_name (i := 2) sc_law.nd rfl (Or.inl rfl)) (dss_cons (ds_set (i := 3) sc_law.nd rfl (Or.inl rfl) (de_call F__law_lore (hr.mono (by decide)) rfl tk (da_cons (de_var (pv 1)) (da_cons de_int (da_cons de_int da_nil))))) (dss_cons (ds_set (i := 4) sc_law.nd rfl (Or.inl rfl) (de_call F__law_made (hr.mono (by decide)) rfl tk (da_cons (de_var (pv 3)) da_nil))) (dss_cons (ds_for ow rfl (di_range1 rfl B.range (da_cons de_int da_nil)) (dg_name (i := 5) sc_law.nd rfl (Or.inl rfl)) (dss_cons (ds_set (i := 6) sc_law.nd rfl (Or.inl rfl) (de_call F__law_term (hr.mono (by decide)) rfl tk (da_cons (de_var (pv 1)) (da_cons (e_ix (de_var (pv 3)) de_int (fun _ _ => rfl)) (da_cons (de_call F__law_draw (hr.mono (by decide)) rfl tk (da_cons (de_var (pv 1)) (da_cons de_int da_nil))) da_nil))))) (dss_cons (ds_if (t_cmp op_gt (de_call F__law_draw (hr.mono (by decide)) rfl tk (da_cons (de_var (pv 1)) (da_cons de_int da_nil))) de_int) (dss_one (ds_set (i := 6) sc_law.nd rfl (Or.inl rfl) (de_call F__law_bent (hr.mono (by decide)) rfl tk (da_cons (de_var (pv 1)) (da_cons (de_var (pv 6)) da_nil))))) dss_nil) (dss_cons (ds_set (i := 7) sc_law.nd rfl (Or.inl rfl) (de_call F__law_is_right (hr.mono (by decide)) rfl tk (da_cons (e_ix (de_var (pv 3)) de_int (fun _ _ => rfl)) (da_cons (de_var (pv 6)) da_nil)))) (dss_cons (ds_set (i := 8) sc_law.nd rfl (Or.inl rfl) (de_if (dt_val (de_var (pv 7))) (de_call F__law_size (hr.mono (by decide)) rfl tk (da_cons (de_var (pv 6)) da_nil)) de_str)) (dss_one (ds_if (dt_w (dw_or (dt_not (dt_val (de_call F__law_flag (hr.mono (by decide)) rfl tk (da_cons (de_call F_is_term (hr.mono (by decide)) rfl tk (da_cons (de_var (pv 4)) (da_cons (de_var (pv 6)) da_nil))) (da_cons (de_var (pv 7)) da_nil))))) (dw_or1 (dt_not (dt_val (de_call F__law_is (hr.mono (by decide)) rfl tk (da_cons (de_call F__law_size_told (hr.mono (by decide)) rfl tk (da_cons (de_var (pv 4)) (da_cons (de_var (pv 6)) da_nil))) (da_cons (de_var (pv 8)) da_nil)))))))) (dss_one (ds_ret de_bl)) dss_nil))))))) (dss_one (ds_if (dt_w (dw_or (t_ne hr (de_call F_told_terms (hr.mono (by decide)) rfl tk (da_cons (de_var (pv 4)) da_nil)) (e_tuple B.tuple rfl (de_call F__law_told (hr.mono (by decide)) rfl tk (da_cons (e_ix (de_var (pv 3)) de_int (fun _ _ => rfl)) da_nil)))) (dw_or1 (dt_not (dt_val (e_isi B.isinstance rfl (de_call F_told_terms (hr.mono (by decide)) rfl tk (da_cons (de_var (pv 4)) da_nil)) (de_type rfl B.tuple rfl))))))) (dss_one (ds_ret de_bl)) dss_nil)))))) (dss_one (ds_ret de_bl))))
theorem sc_Lore_u__init_u_ : FnScope N_Lore_u__init_u_ P_Lore_u__init_u_ (defScope s_Lore_u__init_u_) := ⟨rfl, rfl, rfl, by decide +kernel, rfl, by decide +kernel, by decide +kernel⟩
theorem b_Lore_u__init_u_ {P : Program} {w : World} {K : PySem.W.Frag} {mg : Str → Option Value} {base : Heap} {J : JS} (B : Bl mg) {R_are_signs : SpecD} (F_are_signs : FD P w K mg base J 3 "are_signs" P_are_signs R_are_signs) {R_is_line_of : SpecD} (F_is_line_of : FD P w K mg base J 2 "is_line_of" P_is_line_of R_is_line_of) {R_sides_of : SpecD} (F_sides_of : FD P w K mg base J 1 "sides_of" P_sides_of R_sides_of) {R_within_of : SpecD} (F_within_of : FD P w K mg base J 6 "within_of" P_within_of R_within_of) {R_keep : SpecO} {C : Str} (M_keep : FM P w K mg base J 1 C "keep" P_Lore_keep R_keep) (g_MOST_TERMS : ∃ t, mg "MOST_TERMS" = some (.int 60 t)) (g_MOST_LINES : ∃ t, mg "MOST_LINES" = some (.int 24 t)) (FX_BadLore : DX.FX1 P K mg "BadLore" "part") (f : Addr) (cdv : Value) (A : Around) (outer : List Env) (s : Shared) (H : Hp) (E : XK) (hr : Room 6 (A.deeper (envOfC "Lore.__init__" (defScope s_Lore_u__init_u_) s.heap.objs.size f cdv))) :
    DSs (cxOf (L2.CX P w) P w K mg base N_Lore_u__init_u_ "Lore.__init__" (defScope s_Lore_u__init_u_) f cdv A outer s H E) J (WxE E) (defBody s_Lore_u__init_u_) (T_Lore_u__init_u_ R_are_signs R_is_line_of R_sides_of R_within_of R_keep C) := by
  have ow := passes_of (X := cxOf (L2.CX P w) P w K mg base N_Lore_u__init_u_ "Lore.__init__" (defScope s_Lore_u__init_u_) f cdv A outer s H E) rfl
  have tk := takes_of (X := cxOf (L2.CX P w) P w K mg base N_Lore_u__init_u_ "Lore.__init__" (defScope s_Lore_u__init_u_) f cdv A outer s H E) rfl rfl rfl rfl
  exact (dss_cons (ds_if (dt_not (dt_val (de_call F_are_signs (hr.mono (by decide)) rfl tk (da_cons (de_var (pv 1)) da_nil)))) (dss_one (ds_x1 FX_BadLore (k := 0) (hr.mono (by decide)) rfl tk rfl de_str)) dss_nil) (dss_cons (ds_if (dt_w (dw_or (dt_not (dt_val (e_isi B.isinstance rfl (de_var (pv 2)) (de_type rfl B.tuple rfl)))) (dw_or1 (t_cmp op_gt (e_len B.len rfl (de_var (pv 2))) (de_glint rfl g_MOST_LINES))))) (dss_one (ds_x1 FX_BadLore (k := 0) (hr.mono (by decide)) rfl tk rfl de_str)) dss_nil) (dss_cons (ds_set (i := 3) sc_Lore_u__init_u_.nd rfl (Or.inl rfl) (e_dict rfl B.dict rfl (de_var (pv 1)))) (dss_cons (ds_freeze 3 (ds_for ow rfl (di_enum rfl B.enumerate (da_cons (de_var (pv 2)) da_nil)) (dg_tup rfl (dgs_cons (dg_name (i := 4) sc_Lore_u__init_u_.nd rfl (Or.inl rfl)) (dgs_cons (dg_name (i := 5) sc_Lore_u__init_u_.nd rfl (Or.inl rfl)) dgs_nil))) (dss_one (ds_if (dt_not (dt_val (de_call F_is_line_of (hr.mono (by decide)) rfl tk (da_cons (de_var (pv 3)) (da_cons (de_var (pv 5)) da_nil))))) (dss_one (ds_x1 FX_BadLore (k := 0) (hr.mono (by decide)) rfl tk rfl (de_var (pv 4)))) dss_nil)))) (dss_cons (ds_if (t_cmp op_gt (e_len B.len rfl (de_call F_within_of (hr.mono (by decide)) rfl tk (da_cons (de_call F_sides_of (hr.mono (by decide)) rfl tk (da_cons (de_var (pv 2)) da_nil)) da_nil))) (de_glint rfl g_MOST_TERMS)) (dss_one (ds_x1 FX_BadLore (k := 0) (hr.mono (by decide)) rfl tk rfl de_str)) dss_nil) (dss_one (ds_callO M_keep (hr.mono (by decide)) (pv 0) (da_cons (de_var (pv 1)) (da_cons (de_var (pv 2)) da_nil)))))))))
theorem sc_Lore_keep : FnScope N_Lore_keep P_Lore_keep (defScope s_Lore_keep) := ⟨rfl, rfl, rfl, by decide +kernel, rfl, by decide +kernel, by decide +kernel⟩
theorem b_Lore_keep {P : Program} {w : World} {K : PySem.W.Frag} {mg : Str → Option Value} {base : Heap} {J : JS} (B : Bl mg) {C : Str} (cC : Cls K (He.ga K C)) (nA_kept_hall : NoAttr K (He.ga K C) "kept_hall") (nA_kept_places : NoAttr K (He.ga K C) "kept_places") (nA_lines : NoAttr K (He.ga K C) "lines") (nA_signs : NoAttr K (He.ga K C) "signs") (f : Addr) (cdv : Value) (A : Around) (outer : List Env) (s : Shared) (H : Hp) (E : XK) (hr : Room 0 (A.deeper (envOfC "Lore.keep" (defScope s_Lore_keep) s.heap.objs.size f cdv))) :
    DSs (cxOf (L2.CX P w) P w K mg base N_Lore_keep "Lore.keep" (defScope s_Lore_keep) f cdv A outer s H E) J (WxE E) (defBody s_Lore_keep) (T_Lore_keep C) := by
  have ow := passes_of (X := cxOf (L2.CX P w) P w K mg base N_Lore_keep "Lore.keep" (defScope s_Lore_keep) f cdv A outer s H E) rfl
  have tk := takes_of (X := cxOf (L2.CX P w) P w K mg base N_Lore_keep "Lore.keep" (defScope s_Lore_keep) f cdv A outer s H E) rfl rfl rfl rfl
  exact (dss_cons (ds_fldSet (pv 0) (de_var (pv 1)) cC (nA_signs)) (dss_cons (ds_fldSet (pv 0) (de_var (pv 2)) cC (nA_lines)) (dss_cons (ds_fldSet (pv 0) (e_dict rfl B.dict rfl (de_var (pv 1))) cC (nA_kept_places)) (dss_one (ds_fldSet (pv 0) (de_lst da_nil) cC (nA_kept_hall))))))
theorem sc_Lore_u__eq_u_ : FnScope N_Lore_u__eq_u_ P_Lore_u__eq_u_ (defScope s_Lore_u__eq_u_) := ⟨rfl, rfl, rfl, by decide +kernel, rfl, by decide +kernel, by decide +kernel⟩
theorem b_Lore_u__eq_u_ {P : Program} {w : World} {K : PySem.W.Frag} {mg : Str → Option Value} {base : Heap} {J : JS} (B : Bl mg) {sub_Lore : Str → Option Bool} (iS_Lore : ∀ C' b, sub_Lore C' = some b → FIsi K C' "Lore" b) (iB_Lore : FIsB K "Lore") (g_Lore : mg "Lore" = some (.ref (He.ga K "Lore"))) {csL : List Str} (fA_signs : FldA K csL "signs") (fA_lines : FldA K csL "lines") (f : Addr) (cdv : Value) (A : Around) (outer : List Env) (s : Shared) (H : Hp) (E : XK) (hr : Room 0 (A.deeper (envOfC "Lore.__eq__" (defScope s_Lore_u__eq_u_) s.heap.objs.size f cdv))) :
    DSs (cxOf (L2.CX P w) P w K mg base N_Lore_u__eq_u_ "Lore.__eq__" (defScope s_Lore_u__eq_u_) f cdv A outer s H E) J (WxE E) (defBody s_Lore_u__eq_u_) (T_Lore_u__eq_u_ sub_Lore csL) := by
  have ow := passes_of (X := cxOf (L2.CX P w) P w K mg base N_Lore_u__eq_u_ "Lore.__eq__" (defScope s_Lore_u__eq_u_) f cdv A outer s H E) rfl
  have tk := takes_of (X := cxOf (L2.CX P w) P w K mg base N_Lore_u__eq_u_ "Lore.__eq__" (defScope s_Lore_u__eq_u_) f cdv A outer s H E) rfl rfl rfl rfl
  exact (dss_one (ds_ret (de_and (de_isiC iS_Lore iB_Lore rfl B.isinstance rfl g_Lore (de_var (pv 1))) (de_and (e_eq hr (de_fldA fA_signs (de_var (pv 0))) (de_fldA fA_signs (de_var (pv 1)))) (de_one (e_eq hr (de_fldA fA_lines (de_var (pv 0))) (de_fldA fA_lines (de_var (pv 1)))))))))
end DL
set_option Elab.async false
set_option linter.all false
set_option maxRecDepth 100000
set_option maxHeartbeats 0
namespace DL
open PySem PySem.Spec PyProof.Rows L2
theorem sc_u_law_draw : FnScope N_u_law_draw P_u_law_draw (defScope s_u_law_draw) := ⟨rfl, rfl, rfl, by decide +kernel, rfl, by decide +kernel, by decide +kernel⟩
section
variable {P : Program} {w : World} {K : PySem.W.Frag} {mg : Str → Option Value} {base : Heap}
theorem w_u_law_draw {J : JS} (JP : JPool J) (B : Bl mg) {f : Addr} {fd : FuncData} (F : FunD K "_law_draw" "_law_draw" (defArgs s_u_law_draw) (defBody s_u_law_draw) (defScope s_u_law_draw) [] [] f fd) : FnOk P w K mg base (L2.CX P w) 1 f fd P_u_law_draw (SpD K J R_u_law_draw) := by
  refine F.ok sc_u_law_draw (fun vs H Q E h => ?_) (fun cdv A outer s H vs Q E hr h => ⟨t_draw K, ?_, draw_ok JP h⟩)
  · obtain ⟨W, ds, Rd, Xd, w, hv, ⟨m, rfl, _⟩, _⟩ := h
    rw [hv.length]
    rfl
  · exact pss_cons (ps_asg (pe_op op_add (pe_ix ix_list (pv 0) pe_int fun _ _ => rfl) pe_int) (pg_sub (pv 0) pe_int set_list (by intro _; rfl)))
      (pss_cons (ps_set (i := 2) sc_u_law_draw.nd rfl (Or.inl rfl) (pe_ix ix_list (pv 0) pe_int fun _ _ => rfl))
      (pss_cons (ps_if (pt_cmp (pc_gt (pe_callB call_len_seq rfl B.len rfl (pa_cons (pv 2) pa_nil)) pe_int)) (pss_cons (ps_set (i := 3) sc_u_law_draw.nd rfl (Or.inl rfl) (pe_op op_mod (pe_callTy call_int1 rfl B.int rfl (pa_cons (pe_ix ix_list (pv 2) pe_int fun _ _ => rfl) pa_nil)) (pv 1)))
      (pss_cons (ps_asg (pe_op op_fdiv (pe_callTy call_int1 rfl B.int rfl (pa_cons (pe_ix ix_list (pv 2) pe_int fun _ _ => rfl) pa_nil)) (pv 1)) (pg_sub (pv 2) pe_int set_list (by intro _; rfl)))
      (pss_cons (ps_if (pt_cmp (pc_eqI (pe_ix ix_list (pv 2) pe_int fun _ _ => rfl) pe_int)) (pss_one (ps_expr (pe_bm PySem.F.plainAttrs_list PySem.F.slot_list_pop PySem.F.type_list_pop mt_popAt (pv 2) (pa_cons pe_int pa_nil)))) pss_nil)
      (pss_one (ps_ret (pv 3)))))) pss_nil)
      (pss_cons (ps_set (i := 4) sc_u_law_draw.nd rfl (Or.inl rfl) (pe_op op_mod (pe_callTy call_int1 rfl B.int rfl (pa_cons (pe_op op_mul (pe_op op_add (pe_ix ix_list (pv 0) pe_int fun _ _ => rfl) (pe_op op_mul pe_int (pe_ix ix_list (pv 0) pe_int fun _ _ => rfl))) pe_int) pa_nil)) pe_int))
      (pss_cons (ps_set (i := 4) sc_u_law_draw.nd rfl (Or.inl rfl) (pe_op op_mod (pe_callTy call_int1 rfl B.int rfl (pa_cons (pe_op op_mul (pv 4) (pe_op op_add (pe_op op_fdiv (pv 4) pe_int) pe_int)) pa_nil)) pe_int))
      (pss_cons (ps_set (i := 4) sc_u_law_draw.nd rfl (Or.inl rfl) (pe_op op_mod (pe_callTy call_int1 rfl B.int rfl (pa_cons (pe_op op_mul (pv 4) (pe_op op_add (pe_op op_fdiv (pv 4) pe_int) pe_int)) pa_nil)) pe_int))
      (pss_one (ps_ret (pe_op op_mod (pe_callTy call_int1 rfl B.int rfl (pa_cons (pe_op op_fdiv (pv 4) pe_int) pa_nil)) (pv 1)))))))))
theorem sc_u_law_pool : FnScope N_u_law_pool P_u_law_pool (defScope s_u_law_pool) := ⟨rfl, rfl, rfl, by decide +kernel, rfl, by decide +kernel, by decide +kernel⟩
theorem w_u_law_pool {J : JS} (JP : JPool J) (B : Bl mg) {f : Addr} {fd : FuncData} (F : FunD K "_law_pool" "_law_pool" (defArgs s_u_law_pool) (defBody s_u_law_pool) (defScope s_u_law_pool) [] [] f fd) : FnOk P w K mg base (L2.CX P w) 1 f fd P_u_law_pool (SpD K J R_u_law_pool) := by
  refine F.ok sc_u_law_pool (fun vs H Q E h => ?_) (fun cdv A outer s H vs Q E hr h => ⟨t_pool K J (WxE E), ?_, ?_⟩)
  · obtain ⟨W, ds, Rd, Xd, w, hv, ⟨ns, rfl, _⟩, _⟩ := h
    rw [hv.length]
    rfl
  · have ow := passes_of (X := cxOf (L2.CX P w) P w K mg base N_u_law_pool "_law_pool" (defScope s_u_law_pool) f cdv A outer s H E) rfl
    exact pss_cons (show DS _ J (WxE E) _ T_pool1 from (ds_set (i := 1) sc_u_law_pool.nd rfl (Or.inl rfl) (e_add (e_add (e_mod (e_int B.int rfl (e_sum rfl B.sum rfl (de_slice (de_var (pv 0)) do_none (do_some de_int)))) de_int) (e_len B.len rfl (de_var (pv 0)))) de_int)))
      (pss_cons (show DS _ J (WxE E) _ T_pool2 from (ds_for ow rfl (di_list (de_slice (de_var (pv 0)) do_none (do_some de_int))) (dg_name (i := 2) sc_u_law_pool.nd rfl (Or.inl rfl)) (dss_one (ds_set (i := 1) sc_u_law_pool.nd rfl (Or.inl rfl) (e_mod (e_int B.int rfl (e_add (e_add (e_mul (de_var (pv 1)) de_int) (e_mod (e_int B.int rfl (de_var (pv 2))) de_int)) de_int)) de_int)))))
      (pss_one (ps_ret (pe_lst (pa_cons (pv 1) (pa_cons pe_int (pa_cons (show DE _ J (WxE E) _ T_pool3 from (de_lc rfl sc_u_law_pool.nd (di_list (de_slice (de_var (pv 0)) do_none (do_some de_int))) (own := [("cell", 2)]) (show BlkOk N_u_law_pool (defScope s_u_law_pool) _ _ from ⟨rfl, by decide +kernel, by decide +kernel, by decide +kernel, by decide +kernel⟩) (fun _ _ _ _ _ => (dg_name (i := 2) sc_u_law_pool.nd rfl (Or.inl rfl))) (fun _ _ _ _ _ => (dts_one (t_cmp op_ge (e_abs B.abs rfl (de_var (pv 2))) (e_pow de_int de_int)))) (fun _ _ _ _ _ => (e_abs B.abs rfl (de_var (pv 2)))))) pa_nil)))))))
  · obtain ⟨W, ds, Rd, Xd, w, hv, ⟨ns, rfl, hn, hR⟩, hq, _⟩ := h
    exact pool_ok JP w hv hn fun v W' H' w' y' r' => hq _ v W' H' hR w' y' r'
end
end DL
set_option Elab.async false
set_option linter.all false
set_option maxRecDepth 100000
set_option maxHeartbeats 4000000
namespace DL
open PySem PySem.Spec PyProof.Rows L2
/-! ### terms -/
inductive Tm where
  | mk (f : Str) (as : List Tm)
mutual
def Tm.d : Tm → D
  | .mk f as => .tup (.str f :: Tm.ds as)
def Tm.ds : List Tm → List D
  | [] => []
  | t :: r => t.d :: Tm.ds r
end
mutual
def Tm.n : Tm → Nat
  | .mk _ as => Tm.ns as + 1
def Tm.ns : List Tm → Nat
  | [] => 0
  | t :: r => t.n + Tm.ns r
end
mutual
def Tm.h : Tm → Nat
  | .mk _ as => Tm.hs as + 1
def Tm.hs : List Tm → Nat
  | [] => 0
  | t :: r => max t.h (Tm.hs r)
end
/-! every sign of it has p -/
mutual
def Tm.all (p : Str → List Tm → Prop) : Tm → Prop
  | .mk f as => p f as ∧ Tm.alls p as
def Tm.alls (p : Str → List Tm → Prop) : List Tm → Prop
  | [] => True
  | t :: r => t.all p ∧ Tm.alls p r
end
def Tm.f : Tm → Str
  | .mk f _ => f
def Tm.as : Tm → List Tm
  | .mk _ as => as
theorem Tm.ds_map : ∀ ts : List Tm, Tm.ds ts = ts.map Tm.d
  | [] => by rw [Tm.ds]; rfl
  | t :: r => by rw [Tm.ds, Tm.ds_map r]; rfl
theorem Tm.ns_sum : ∀ ts : List Tm, Tm.ns ts = (ts.map Tm.n).sum
  | [] => by rw [Tm.ns]; rfl
  | t :: r => by rw [Tm.ns, Tm.ns_sum r, List.map_cons, List.sum_cons]
theorem Tm.ns_app (a b : List Tm) : Tm.ns (a ++ b) = Tm.ns a + Tm.ns b := by rw [Tm.ns_sum, Tm.ns_sum, Tm.ns_sum, List.map_append, List.sum_append]
theorem Tm.ds_app (a b : List Tm) : Tm.ds (a ++ b) = Tm.ds a ++ Tm.ds b := by rw [Tm.ds_map, Tm.ds_map, Tm.ds_map, List.map_append]
theorem Tm.ds_len (a : List Tm) : (Tm.ds a).length = a.length := by rw [Tm.ds_map, List.length_map]
theorem Tm.n_pos (t : Tm) : 0 < t.n := by cases t; rw [Tm.n]; omega
theorem Tm.len_ns : ∀ ts : List Tm, ts.length ≤ Tm.ns ts
  | [] => Nat.zero_le _
  | t :: r => by
    have := Tm.len_ns r
    have := Tm.n_pos t
    rw [Tm.ns, List.length_cons]
    omega
theorem Tm.d_eq (t : Tm) : t.d = .tup (.str t.f :: Tm.ds t.as) := by cases t; rw [Tm.d]; rfl
theorem Tm.n_eq (t : Tm) : t.n = Tm.ns t.as + 1 := by cases t; rw [Tm.n]; rfl
theorem Tm.h_eq (t : Tm) : t.h = Tm.hs t.as + 1 := by cases t; rw [Tm.h]; rfl
theorem Tm.hs_le {t : Tm} : ∀ {ts : List Tm}, t ∈ ts → t.h ≤ Tm.hs ts
  | u :: r, h => by
    rw [Tm.hs]
    rcases List.mem_cons.mp h with rfl | h
    · exact Nat.le_max_left _ _
    · exact Nat.le_trans (Tm.hs_le h) (Nat.le_max_right _ _)
theorem Tm.n_le {t : Tm} : ∀ {ts : List Tm}, t ∈ ts → t.n ≤ Tm.ns ts
  | u :: r, h => by
    rw [Tm.ns]
    rcases List.mem_cons.mp h with rfl | h
    · exact Nat.le_add_right _ _
    · exact Nat.le_trans (Tm.n_le h) (Nat.le_add_left _ _)
theorem Tm.alls_iff {p : Str → List Tm → Prop} : ∀ {ts : List Tm}, Tm.alls p ts ↔ ∀ t ∈ ts, t.all p
  | [] => ⟨fun _ _ h => (nomatch h), fun _ => by rw [Tm.alls]; trivial⟩
  | t :: r => by
    rw [Tm.alls, Tm.alls_iff (ts := r)]
    simp
theorem Tm.all_eq {p : Str → List Tm → Prop} (t : Tm) : t.all p ↔ p t.f t.as ∧ ∀ u ∈ t.as, u.all p := by
  cases t
  rw [Tm.all, Tm.alls_iff]
  rfl
/-! the last of a row -/
theorem ds_snoc (ws : List Tm) (t : Tm) : Tm.ds (ws ++ [t]) = Tm.ds ws ++ [t.d] := by rw [Tm.ds_app]; rw [Tm.ds, Tm.ds]
theorem snoc_cases {α : Type} : ∀ l : List α, l = [] ∨ ∃ r x, l = r ++ [x] := fun l => by
  rcases List.eq_nil_or_concat l with h | ⟨r, x, h⟩
  · exact .inl h
  · exact .inr ⟨r, x, by simpa using h⟩
theorem last_snoc {α : Type} (l : List α) (x : α) : (l ++ [x]).getLast? = some x := by simp
theorem drop_snoc {α : Type} (l : List α) (x : α) : (l ++ [x]).dropLast = l := by simp
theorem iteB {b : Bool} {A B : Prop} (h1 : b = true → A) (h2 : b = false → B) : if b = true then A else B := by
  cases b
  · rw [if_neg Bool.false_ne_true]; exact h2 rfl
  · rw [if_pos rfl]; exact h1 rfl
theorem atI_0 {α : Type} (x : α) (r : List α) : atI (x :: r) 0 = some x := by
  have e : ixN (x :: r).length 0 = some 0 := by unfold ixN; rw [if_pos (by decide), if_pos (by simp)]; rfl
  unfold atI
  rw [e]
  rfl
theorem atI_1 {α : Type} (x y : α) (r : List α) : atI (x :: y :: r) 1 = some y := by
  have e : ixN (x :: y :: r).length 1 = some 1 := by unfold ixN; rw [if_pos (by decide), if_pos (by simp; omega)]; rfl
  unfold atI
  rw [e]
  rfl
theorem eqv_int (a b : Int) : PyData.eqv (D.py (.int a)) (D.py (.int b)) = (a == b) := by simp only [D.py, PyData.eqv]
theorem okI (a : Int) : okD (.int a) := ⟨rfl, rfl⟩
/-! ### size_of -/
def R_size_of : SpecD := fun ds R _ => ∃ t : Tm, ds = [t.d] ∧ t.n < 1000000 ∧ R (.fro (.int t.n))
theorem cut1 (t : Tm) : cutD (.str t.f :: Tm.ds t.as) (some 1) none = Tm.ds t.as := by
  unfold cutD
  have e1 : HT.sIx (D.str t.f :: Tm.ds t.as).length 0 (some 1) = min 1 (D.str t.f :: Tm.ds t.as).length := HT.sIx_nat _ _ 1
  rw [e1, HT.sIx_none, List.length_cons, show min 1 ((Tm.ds t.as).length + 1) = 1 by omega]
  rw [List.drop_succ_cons, List.drop_zero, List.take_of_length_le (by omega)]
theorem p_size_of (ds : List D) (R : Sd → Prop) (E : ED → Prop) (h : R_size_of ds R E) : bodyD N_size_of T_size_of ds R E := by
  obtain ⟨t, rfl, hn, hR⟩ := h
  unfold T_size_of
  simp only [dSeq, dNext, dRet, dRetN, dIfS, dSet, dDrop, dFor, dWhile, dAppend, dExtend, dSetX, dAsgG, dAsgX, dAugI, dgName, dgCons, dgNil, dgTup, dVar, dC, dOp, dCB, dCall, dTup, dLst, dCons, dNil, bCons, bNil, dSl, oNone, oSome, dTst, tstB, dAnd, dOr, dNot, vAnd, vOr, vNot, dIf, dUn, dChain, chN, dSeqOf, dTupOf, dStrOf, dRng, dEnum, dIsN, isNQ, sFrz, dLc, dRev, dFz, bodyD, startD, Sd.view, Sd.dat, Sd.stored, Sd.ret, fAdd, fSub, fMulA, fI, fCI, fCmp, fEq, fIn, fInS, fIx, fSl, fLen, fIsi, fSum, f1i, f2i, fTupOf, fLstOf, fBl, fSort, fDictP, fRev, fNeg, fDin, fDget, keyD, xOf, xPop, xSl, ownAt, seqOf, seqD, dExtendX, List.set_cons_zero, List.set_cons_succ, List.getElem?_cons_zero, List.getElem?_cons_succ, List.map_cons, List.map_nil, List.cons_append, List.nil_append, List.length_cons, List.length_nil, List.replicate_succ, List.replicate_zero, if_true, if_false, Bool.false_eq_true, Bool.not_true, Bool.not_false]
  refine ⟨trivial, by decide, trivial, fun m Δ => ∃ (ws : List Tm) (k : Nat), m = Tm.ns ws ∧ k + Tm.ns ws = t.n ∧ Δ = [some (.fro t.d), some (.fro (.int k)), some (.own (Tm.ds ws))], ⟨_, [t], 0, rfl, ?_, ?_⟩, ?_⟩
  · rw [Tm.ns, Tm.ns]; omega
  · rw [Tm.ds, Tm.ds]; rfl
  · rintro m Δ ⟨ws, k, rfl, hk, rfl⟩
    simp only [dSeq, dNext, dRet, dRetN, dIfS, dSet, dDrop, dFor, dWhile, dAppend, dExtend, dSetX, dAsgG, dAsgX, dAugI, dgName, dgCons, dgNil, dgTup, dVar, dC, dOp, dCB, dCall, dTup, dLst, dCons, dNil, bCons, bNil, dSl, oNone, oSome, dTst, tstB, dAnd, dOr, dNot, vAnd, vOr, vNot, dIf, dUn, dChain, chN, dSeqOf, dTupOf, dStrOf, dRng, dEnum, dIsN, isNQ, sFrz, dLc, dRev, dFz, bodyD, startD, Sd.view, Sd.dat, Sd.stored, Sd.ret, fAdd, fSub, fMulA, fI, fCI, fCmp, fEq, fIn, fInS, fIx, fSl, fLen, fIsi, fSum, f1i, f2i, fTupOf, fLstOf, fBl, fSort, fDictP, fRev, fNeg, fDin, fDget, keyD, xOf, xPop, xSl, ownAt, seqOf, seqD, dExtendX, List.set_cons_zero, List.set_cons_succ, List.getElem?_cons_zero, List.getElem?_cons_succ, List.map_cons, List.map_nil, List.cons_append, List.nil_append, List.length_cons, List.length_nil, List.replicate_succ, List.replicate_zero, if_true, if_false, Bool.false_eq_true, Bool.not_true, Bool.not_false, Tm.ds_len]
    rcases snoc_cases ws with rfl | ⟨r, x, rfl⟩
    · rw [Tm.ns] at hk
      rw [if_neg (by decide), show k = t.n by omega]
      exact hR
    · rw [Tm.ns_app, Tm.ns, Tm.ns] at hk
      have hl := Tm.len_ns r
      have hl2 := Tm.len_ns x.as
      have hx := x.n_eq
      rw [if_pos (by simp [pGt])]
      simp only [ds_snoc, last_snoc, drop_snoc, Tm.d_eq x, cut1, Tm.ds_len]
      refine ⟨⟨_, rfl⟩, by rw [sizeLine_eq]; omega, Tm.ns (r ++ x.as), ?_, r ++ x.as, k + 1, rfl, ?_, ?_⟩
      · rw [Tm.ns_app, Tm.ns_app, Tm.ns, Tm.ns]; omega
      · rw [Tm.ns_app]; omega
      · rw [Tm.ds_app]
        first | done | rfl
/-! ### order_of, ascending -/
def R_order_of : SpecD := fun ds R _ => ∃ t : Tm, ds = [t.d] ∧ t.n < 1000000 ∧ R (.fro (.tup [.int t.n, t.d]))
theorem p_order_of (ds : List D) (R : Sd → Prop) (E : ED → Prop) (h : R_order_of ds R E) : bodyD N_order_of (T_order_of R_size_of) ds R E := by
  obtain ⟨t, rfl, hn, hR⟩ := h
  unfold T_order_of
  simp only [dSeq, dNext, dRet, dRetN, dIfS, dSet, dDrop, dFor, dWhile, dAppend, dExtend, dSetX, dAsgG, dAsgX, dAugI, dgName, dgCons, dgNil, dgTup, dVar, dC, dOp, dCB, dCall, dTup, dLst, dCons, dNil, bCons, bNil, dSl, oNone, oSome, dTst, tstB, dAnd, dOr, dNot, vAnd, vOr, vNot, dIf, dUn, dChain, chN, dSeqOf, dTupOf, dStrOf, dRng, dEnum, dIsN, isNQ, sFrz, dLc, dRev, dFz, bodyD, startD, Sd.view, Sd.dat, Sd.stored, Sd.ret, fAdd, fSub, fMulA, fI, fCI, fCmp, fEq, fIn, fInS, fIx, fSl, fLen, fIsi, fSum, f1i, f2i, fTupOf, fLstOf, fBl, fSort, fDictP, fRev, fNeg, fDin, fDget, keyD, xOf, xPop, xSl, ownAt, seqOf, seqD, dExtendX, List.set_cons_zero, List.set_cons_succ, List.getElem?_cons_zero, List.getElem?_cons_succ, List.map_cons, List.map_nil, List.cons_append, List.nil_append, List.length_cons, List.length_nil, List.replicate_succ, List.replicate_zero, if_true, if_false, Bool.false_eq_true, Bool.not_true, Bool.not_false]
  exact ⟨t, rfl, hn, by decide, hR⟩
/-- what the order looks at -/
def Tm.key (t : Tm) : D := .tup [.int t.n, t.d]
def tmLe (t u : Tm) : Bool := PySem.W.dataLe false (fun t : Tm => t.key.py) t u
/-- small, with signs that are written -/
def Tm.okS (t : Tm) : Prop := t.n < 1000000 ∧ t.h ≤ 40 ∧ t.all fun f _ => PyData.strOk f = true
mutual
theorem Tm.inj : ∀ {t u : Tm}, t.d = u.d → t = u
  | .mk f as, .mk g bs, h => by
    rw [Tm.d, Tm.d] at h
    injection h with h
    injection h with h1 h2
    injection h1 with h1
    rw [h1, Tm.injs h2]
theorem Tm.injs : ∀ {ts us : List Tm}, Tm.ds ts = Tm.ds us → ts = us
  | [], [], _ => rfl
  | [], _ :: _, h => by rw [Tm.ds, Tm.ds] at h; cases h
  | _ :: _, [], h => by rw [Tm.ds, Tm.ds] at h; cases h
  | t :: ts, u :: us, h => by
    rw [Tm.ds, Tm.ds] at h
    injection h with h1 h2
    rw [Tm.inj h1, Tm.injs h2]
end
open PySem.W in
mutual
theorem Tm.like : ∀ t u : Tm, alike t.d.py u.d.py = true
  | .mk f as, .mk g bs => by
    simp only [Tm.d, D.py, D.pys, alike, alikeAll, Bool.true_and]
    exact Tm.likes as bs
theorem Tm.likes : ∀ ts us : List Tm, alikeAll (D.pys (Tm.ds ts)) (D.pys (Tm.ds us)) = true
  | [], [] => by simp only [Tm.ds, D.pys, alikeAll]
  | [], _ :: _ => by simp only [Tm.ds, D.pys, alikeAll]
  | _ :: _, [] => by simp only [Tm.ds, D.pys, alikeAll]
  | t :: ts, u :: us => by
    simp only [Tm.ds, D.pys, alikeAll, Bool.and_eq_true]
    exact ⟨Tm.like t u, Tm.likes ts us⟩
end
mutual
theorem Tm.pure : ∀ t : Tm, t.d.pure = true
  | .mk f as => by
    simp only [Tm.d, D.pure, D.pures, Bool.true_and]
    exact Tm.pures as
theorem Tm.pures : ∀ ts : List Tm, D.pures (Tm.ds ts) = true
  | [] => by simp only [Tm.ds, D.pures]
  | t :: ts => by
    simp only [Tm.ds, D.pures, Bool.and_eq_true]
    exact ⟨Tm.pure t, Tm.pures ts⟩
end
mutual
theorem Tm.dep : ∀ t : Tm, t.d.py.depth ≤ t.h
  | .mk f as => by
    simp only [Tm.d, D.py, D.pys, PyData.depth, PyData.depthAll, Tm.h]
    have := Tm.deps as
    omega
theorem Tm.deps : ∀ ts : List Tm, PyData.depthAll (D.pys (Tm.ds ts)) ≤ Tm.hs ts
  | [] => by simp only [Tm.ds, D.pys, PyData.depthAll]; omega
  | t :: ts => by
    simp only [Tm.ds, D.pys, PyData.depthAll, Tm.hs]
    have := Tm.dep t
    have := Tm.deps ts
    omega
end
mutual
theorem Tm.lay : ∀ t : Tm, (t.all fun f _ => PyData.strOk f = true) → t.d.py.canLay0 = true
  | .mk f as, h => by
    rw [Tm.all] at h
    simp only [Tm.d, D.py, D.pys, PyData.canLay0, PyData.canLayAll0, Bool.and_eq_true]
    exact ⟨h.1, Tm.lays as h.2⟩
theorem Tm.lays : ∀ ts : List Tm, (Tm.alls (fun f _ => PyData.strOk f = true) ts) → PyData.canLayAll0 (D.pys (Tm.ds ts)) = true
  | [], _ => by simp only [Tm.ds, D.pys, PyData.canLayAll0]
  | t :: ts, h => by
    rw [Tm.alls] at h
    simp only [Tm.ds, D.pys, PyData.canLayAll0, Bool.and_eq_true]
    exact ⟨Tm.lay t h.1, Tm.lays ts h.2⟩
end
noncomputable def keyF (d : D) : D := open Classical in if h : ∃ t : Tm, d = t.d then (Classical.choose h).key else .non
theorem keyF_d (t : Tm) : keyF t.d = t.key := by
  unfold keyF
  have h : ∃ u : Tm, t.d = u.d := ⟨t, rfl⟩
  rw [dif_pos h, ← Tm.inj (Classical.choose_spec h)]
theorem keyF_ds (ts : List Tm) : (Tm.ds ts).map keyF = ts.map Tm.key := by
  rw [Tm.ds_map, List.map_map]
  exact List.map_congr_left fun t _ => keyF_d t
theorem sort_ds (ts : List Tm) : (Tm.ds ts).mergeSort (dLe keyF) = Tm.ds (ts.mergeSort tmLe) := by
  rw [Tm.ds_map, Tm.ds_map, List.map_mergeSort (r := tmLe) (s := dLe keyF) (f := Tm.d)]
  intro a _ b _
  unfold tmLe dLe
  simp only [PySem.W.dataLe_eq, keyF_d]
theorem pures_of {ds : List D} (h : ∀ d ∈ ds, d.pure = true) : D.pures ds = true := by
  induction ds with
  | nil => simp [D.pures]
  | cons d r ih =>
    simp only [D.pures, Bool.and_eq_true]
    exact ⟨h d List.mem_cons_self, ih fun e he => h e (List.mem_cons_of_mem _ he)⟩
theorem okSort_keys {ts : List Tm} (h : ∀ t ∈ ts, t.h ≤ 40) : okSort (ts.map Tm.key) := by
  refine ⟨pures_of fun d hd => ?_, ?_, .inl fun d hd => ?_, fun d hd => ?_⟩
  · obtain ⟨t, _, rfl⟩ := List.mem_map.mp hd
    simp only [Tm.key, D.pure, D.pures, Bool.and_eq_true, Bool.true_and, Bool.and_true]
    exact Tm.pure t
  · intro d hd e he
    rw [List.map_map] at hd he
    obtain ⟨t, _, rfl⟩ := List.mem_map.mp hd
    obtain ⟨u, _, rfl⟩ := List.mem_map.mp he
    simp only [Function.comp, Tm.key, D.py, D.pys, PySem.W.alike, PySem.W.alikeAll, Bool.true_and, Bool.and_true]
    exact Tm.like t u
  · rw [List.map_map] at hd
    obtain ⟨t, _, rfl⟩ := List.mem_map.mp hd
    exact ⟨_, _, by simp only [Function.comp, Tm.key, D.py, D.pys]; rfl⟩
  · obtain ⟨t, ht, rfl⟩ := List.mem_map.mp hd
    have := h t ht
    have := Tm.dep t
    simp only [Tm.key, D.py, D.pys, PyData.depth, PyData.depthAll]
    omega
def R_ascending : SpecD := fun ds R _ => ∃ ts : List Tm, ds = [.lst (Tm.ds ts)] ∧ (∀ t ∈ ts, t.n < 1000000 ∧ t.h ≤ 40) ∧ R (.own (Tm.ds (ts.mergeSort tmLe)))
theorem p_ascending (ds : List D) (R : Sd → Prop) (E : ED → Prop) (h : R_ascending ds R E) : bodyD N_ascending (T_ascending R_order_of) ds R E := by
  obtain ⟨ts, rfl, ht, hR⟩ := h
  unfold T_ascending
  unfold dSortK sortKQ
  simp only [dSeq, dNext, dRet, dRetN, dIfS, dSet, dDrop, dFor, dWhile, dAppend, dExtend, dSetX, dAsgG, dAsgX, dAugI, dgName, dgCons, dgNil, dgTup, dVar, dC, dOp, dCB, dCall, dTup, dLst, dCons, dNil, bCons, bNil, dSl, oNone, oSome, dTst, tstB, dAnd, dOr, dNot, vAnd, vOr, vNot, dIf, dUn, dChain, chN, dSeqOf, dTupOf, dStrOf, dRng, dEnum, dIsN, isNQ, sFrz, dLc, dRev, dFz, bodyD, startD, Sd.view, Sd.dat, Sd.stored, Sd.ret, fAdd, fSub, fMulA, fI, fCI, fCmp, fEq, fIn, fInS, fIx, fSl, fLen, fIsi, fSum, f1i, f2i, fTupOf, fLstOf, fBl, fSort, fDictP, fRev, fNeg, fDin, fDget, keyD, xOf, xPop, xSl, ownAt, seqOf, seqD, dExtendX, List.set_cons_zero, List.set_cons_succ, List.getElem?_cons_zero, List.getElem?_cons_succ, List.map_cons, List.map_nil, List.cons_append, List.nil_append, List.length_cons, List.length_nil, List.replicate_succ, List.replicate_zero, if_true, if_false, Bool.false_eq_true, Bool.not_true, Bool.not_false]
  refine ⟨keyF, fun d hd => ?_, by rw [keyF_ds]; exact okSort_keys fun t h => (ht t h).2, by rw [sort_ds]; exact hR⟩
  rw [Tm.ds_map] at hd
  obtain ⟨t, h, rfl⟩ := List.mem_map.mp hd
  exact ⟨t, rfl, (ht t h).1, by rw [keyF_d]; rfl⟩
/-! ### the small checks -/
def isIntD : D → Bool
  | .int _ => true
  | _ => false
def R_is_integer : SpecD := fun ds R _ => ∃ d, ds = [d] ∧ tyN d ≠ none ∧ R (.fro (.bl (isIntD d)))
theorem p_is_integer (ds : List D) (R : Sd → Prop) (E : ED → Prop) (h : R_is_integer ds R E) : bodyD N_is_integer T_is_integer ds R E := by
  obtain ⟨d, rfl, ht, hR⟩ := h
  unfold T_is_integer
  cases d <;> first
    | exact absurd rfl ht
    | (simp only [dSeq, dNext, dRet, dRetN, dIfS, dSet, dDrop, dFor, dWhile, dAppend, dExtend, dSetX, dAsgG, dAsgX, dAugI, dgName, dgCons, dgNil, dgTup, dVar, dC, dOp, dCB, dCall, dTup, dLst, dCons, dNil, bCons, bNil, dSl, oNone, oSome, dTst, tstB, dAnd, dOr, dNot, vAnd, vOr, vNot, dIf, dUn, dChain, chN, dSeqOf, dTupOf, dStrOf, dRng, dEnum, dIsN, isNQ, sFrz, dLc, dRev, dFz, bodyD, startD, Sd.view, Sd.dat, Sd.stored, Sd.ret, fAdd, fSub, fMulA, fI, fCI, fCmp, fEq, fIn, fInS, fIx, fSl, fLen, fIsi, fSum, f1i, f2i, fTupOf, fLstOf, fBl, fSort, fDictP, fRev, fNeg, fDin, fDget, keyD, xOf, xPop, xSl, ownAt, seqOf, seqD, dExtendX, List.set_cons_zero, List.set_cons_succ, List.getElem?_cons_zero, List.getElem?_cons_succ, List.map_cons, List.map_nil, List.cons_append, List.nil_append, List.length_cons, List.length_nil, List.replicate_succ, List.replicate_zero, if_true, if_false, Bool.false_eq_true, Bool.not_true, Bool.not_false, tyN]; exact ⟨by decide, by first | exact hR | (refine ⟨by decide, ?_⟩; exact hR)⟩)
def withinD (lo hi : Int) : D → Bool
  | .int i => decide (lo ≤ i) && decide (i ≤ hi)
  | _ => false
def R_is_within : SpecD := fun ds R _ => ∃ d lo hi, ds = [d, .int lo, .int hi] ∧ tyN d ≠ none ∧ R (.fro (.bl (withinD lo hi d)))
theorem p_is_within (ds : List D) (R : Sd → Prop) (E : ED → Prop) (h : R_is_within ds R E) : bodyD N_is_within (T_is_within R_is_integer) ds R E := by
  obtain ⟨d, lo, hi, rfl, ht, hR⟩ := h
  unfold T_is_within
  simp only [dSeq, dNext, dRet, dRetN, dIfS, dSet, dDrop, dFor, dWhile, dAppend, dExtend, dSetX, dAsgG, dAsgX, dAugI, dgName, dgCons, dgNil, dgTup, dVar, dC, dOp, dCB, dCall, dTup, dLst, dCons, dNil, bCons, bNil, dSl, oNone, oSome, dTst, tstB, dAnd, dOr, dNot, vAnd, vOr, vNot, dIf, dUn, dChain, chN, dSeqOf, dTupOf, dStrOf, dRng, dEnum, dIsN, isNQ, sFrz, dLc, dRev, dFz, bodyD, startD, Sd.view, Sd.dat, Sd.stored, Sd.ret, fAdd, fSub, fMulA, fI, fCI, fCmp, fEq, fIn, fInS, fIx, fSl, fLen, fIsi, fSum, f1i, f2i, fTupOf, fLstOf, fBl, fSort, fDictP, fRev, fNeg, fDin, fDget, keyD, xOf, xPop, xSl, ownAt, seqOf, seqD, dExtendX, List.set_cons_zero, List.set_cons_succ, List.getElem?_cons_zero, List.getElem?_cons_succ, List.map_cons, List.map_nil, List.cons_append, List.nil_append, List.length_cons, List.length_nil, List.replicate_succ, List.replicate_zero, if_true, if_false, Bool.false_eq_true, Bool.not_true, Bool.not_false]
  refine ⟨d, rfl, ht, ?_⟩
  cases d with
  | int i =>
    refine iteB (fun _ => iteB (fun h1 => ?_) (fun h1 => ?_)) (fun h => by cases h)
    · have e : withinD lo hi (.int i) = decide (i ≤ hi) := by
        show (decide (lo ≤ i) && decide (i ≤ hi)) = _
        rw [show decide (lo ≤ i) = true from h1, Bool.true_and]
      rw [e] at hR
      exact hR
    · have e : withinD lo hi (.int i) = false := by
        show (decide (lo ≤ i) && decide (i ≤ hi)) = _
        rw [show decide (lo ≤ i) = false from h1, Bool.false_and]
      rw [e] at hR
      exact hR
  | _ => exact iteB (fun h => by cases h) (fun _ => hR)
def R_is_pair : SpecD := fun ds R _ => ∃ xs, ds = [.tup xs] ∧ R (.fro (.bl (decide (xs.length = 2))))
theorem p_is_pair (ds : List D) (R : Sd → Prop) (E : ED → Prop) (h : R_is_pair ds R E) : bodyD N_is_pair T_is_pair ds R E := by
  obtain ⟨xs, rfl, hR⟩ := h
  unfold T_is_pair
  simp only [dSeq, dNext, dRet, dRetN, dIfS, dSet, dDrop, dFor, dWhile, dAppend, dExtend, dSetX, dAsgG, dAsgX, dAugI, dgName, dgCons, dgNil, dgTup, dVar, dC, dOp, dCB, dCall, dTup, dLst, dCons, dNil, bCons, bNil, dSl, oNone, oSome, dTst, tstB, dAnd, dOr, dNot, vAnd, vOr, vNot, dIf, dUn, dChain, chN, dSeqOf, dTupOf, dStrOf, dRng, dEnum, dIsN, isNQ, sFrz, dLc, dRev, dFz, bodyD, startD, Sd.view, Sd.dat, Sd.stored, Sd.ret, fAdd, fSub, fMulA, fI, fCI, fCmp, fEq, fIn, fInS, fIx, fSl, fLen, fIsi, fSum, f1i, f2i, fTupOf, fLstOf, fBl, fSort, fDictP, fRev, fNeg, fDin, fDget, keyD, xOf, xPop, xSl, ownAt, seqOf, seqD, dExtendX, List.set_cons_zero, List.set_cons_succ, List.getElem?_cons_zero, List.getElem?_cons_succ, List.map_cons, List.map_nil, List.cons_append, List.nil_append, List.length_cons, List.length_nil, List.replicate_succ, List.replicate_zero, if_true, if_false, Bool.false_eq_true, Bool.not_true, Bool.not_false, tyN]
  refine ⟨by decide, ?_⟩
  rw [if_pos (by decide)]
  refine ⟨⟨⟨rfl, rfl⟩, ⟨rfl, rfl⟩⟩, ?_⟩
  have e : PyData.eqv (D.py (.int (xs.length : Int))) (D.py (.int 2)) = decide (xs.length = 2) := by
    simp only [D.py, PyData.eqv]
    by_cases h : xs.length = 2
    · rw [h]; decide
    · rw [decide_eq_false h]
      exact beq_eq_false_iff_ne.mpr (by omega)
  rw [e]
  exact hR
/-! ### is_term_of, of a term that is one -/
def fits (kvs : List (Key × D)) (t : Tm) : Prop := t.all fun f as => getD kvs (.inr f) = some (.int as.length)
def R_is_term_of : SpecD := fun ds R _ => ∃ kvs t, ds = [.dic kvs, t.d] ∧ fits kvs t ∧ t.n < 1000000 ∧ R (.fro (.bl true))
theorem p_is_term_of (ds : List D) (R : Sd → Prop) (E : ED → Prop) (h : R_is_term_of ds R E) : bodyD N_is_term_of T_is_term_of ds R E := by
  obtain ⟨kvs, t, rfl, hf, hn, hR⟩ := h
  unfold T_is_term_of
  simp only [dSeq, dNext, dRet, dRetN, dIfS, dSet, dDrop, dFor, dWhile, dAppend, dExtend, dSetX, dAsgG, dAsgX, dAugI, dgName, dgCons, dgNil, dgTup, dVar, dC, dOp, dCB, dCall, dTup, dLst, dCons, dNil, bCons, bNil, dSl, oNone, oSome, dTst, tstB, dAnd, dOr, dNot, vAnd, vOr, vNot, dIf, dUn, dChain, chN, dSeqOf, dTupOf, dStrOf, dRng, dEnum, dIsN, isNQ, sFrz, dLc, dRev, dFz, bodyD, startD, Sd.view, Sd.dat, Sd.stored, Sd.ret, fAdd, fSub, fMulA, fI, fCI, fCmp, fEq, fIn, fInS, fIx, fSl, fLen, fIsi, fSum, f1i, f2i, fTupOf, fLstOf, fBl, fSort, fDictP, fRev, fNeg, fDin, fDget, keyD, xOf, xPop, xSl, ownAt, seqOf, seqD, dExtendX, List.set_cons_zero, List.set_cons_succ, List.getElem?_cons_zero, List.getElem?_cons_succ, List.map_cons, List.map_nil, List.cons_append, List.nil_append, List.length_cons, List.length_nil, List.replicate_succ, List.replicate_zero, if_true, if_false, Bool.false_eq_true, Bool.not_true, Bool.not_false]
  refine ⟨by decide, trivial, fun m Δ => ∃ (ws : List Tm) (z : Option Sd), m = Tm.ns ws ∧ Tm.ns ws ≤ t.n ∧ (∀ u ∈ ws, fits kvs u) ∧ Δ = [some (.fro (.dic kvs)), some (.fro t.d), some (.own (Tm.ds ws)), z], ⟨_, [t], none, rfl, ?_, ?_, ?_⟩, ?_⟩
  · rw [Tm.ns, Tm.ns]; omega
  · intro u hu
    cases List.mem_singleton.mp hu
    exact hf
  · rw [Tm.ds, Tm.ds]
  · rintro m Δ ⟨ws, z, rfl, hk, hw, rfl⟩
    simp only [dSeq, dNext, dRet, dRetN, dIfS, dSet, dDrop, dFor, dWhile, dAppend, dExtend, dSetX, dAsgG, dAsgX, dAugI, dgName, dgCons, dgNil, dgTup, dVar, dC, dOp, dCB, dCall, dTup, dLst, dCons, dNil, bCons, bNil, dSl, oNone, oSome, dTst, tstB, dAnd, dOr, dNot, vAnd, vOr, vNot, dIf, dUn, dChain, chN, dSeqOf, dTupOf, dStrOf, dRng, dEnum, dIsN, isNQ, sFrz, dLc, dRev, dFz, bodyD, startD, Sd.view, Sd.dat, Sd.stored, Sd.ret, fAdd, fSub, fMulA, fI, fCI, fCmp, fEq, fIn, fInS, fIx, fSl, fLen, fIsi, fSum, f1i, f2i, fTupOf, fLstOf, fBl, fSort, fDictP, fRev, fNeg, fDin, fDget, keyD, xOf, xPop, xSl, ownAt, seqOf, seqD, dExtendX, List.set_cons_zero, List.set_cons_succ, List.getElem?_cons_zero, List.getElem?_cons_succ, List.map_cons, List.map_nil, List.cons_append, List.nil_append, List.length_cons, List.length_nil, List.replicate_succ, List.replicate_zero, if_true, if_false, Bool.false_eq_true, Bool.not_true, Bool.not_false, Tm.ds_len]
    rcases snoc_cases ws with rfl | ⟨r, x, rfl⟩
    · exact iteB (fun h => by cases h) fun _ => hR
    · refine iteB (fun _ => ?_) fun h => by simp [pGt] at h
      have hx := hw x (by simp)
      rw [fits, Tm.all_eq] at hx
      rw [Tm.ns_app, Tm.ns, Tm.ns] at hk
      have hxn := x.n_eq
      have hl := Tm.len_ns r
      have hl2 := Tm.len_ns x.as
      simp only [ds_snoc, last_snoc, drop_snoc, Tm.d_eq x, tyN, atI_0, keyD, hx.1, Option.isSome_some, Bool.not_true, eqv_int, cut1, Tm.ds_len]
      refine ⟨by decide, iteB (fun h => absurd h (by decide)) fun _ => ?_⟩
      have lenE : ((D.str x.f :: Tm.ds x.as).length : Int) = (x.as.length : Int) + 1 := by rw [List.length_cons, Tm.ds_len]; rfl
      refine ⟨⟨okI _, okI _⟩, iteB (fun h => ?_) fun _ => ?_⟩
      · have h' := beq_iff_eq.mp h
        rw [lenE] at h'
        omega
      · refine ⟨by decide, iteB (fun h => absurd h (by decide)) fun _ => ?_⟩
        refine ⟨⟨okI _, okI _⟩, iteB (fun h => ?_) fun _ => ?_⟩
        · rw [lenE] at h
          simp at h
        · refine ⟨by rw [sizeLine_eq]; omega, Tm.ns (r ++ x.as), ?_, r ++ x.as, _, rfl, ?_, ?_, by rw [Tm.ds_app]⟩
          · rw [Tm.ns_app, Tm.ns_app, Tm.ns, Tm.ns]; omega
          · rw [Tm.ns_app]; omega
          · intro u hu
            rcases List.mem_append.mp hu with h | h
            · exact hw u (List.mem_append_left _ h)
            · exact hx.2 u h
/-! ### lines -/
structure Ln where
  l : Tm
  r : Tm
def Ln.d (x : Ln) : D := .tup [x.l.d, x.r.d]
def lnD (ls : List Ln) : List D := ls.map Ln.d
def R_is_line_of : SpecD := fun ds R _ => ∃ kvs x, ds = [.dic kvs, Ln.d x] ∧ fits kvs x.l ∧ fits kvs x.r ∧ x.l.n < 1000000 ∧ x.r.n < 1000000 ∧ R (.fro (.bl true))
theorem p_is_line_of (ds : List D) (R : Sd → Prop) (E : ED → Prop) (h : R_is_line_of ds R E) : bodyD N_is_line_of (T_is_line_of R_is_pair R_is_term_of) ds R E := by
  obtain ⟨kvs, x, rfl, h1, h2, h3, h4, hR⟩ := h
  unfold T_is_line_of
  simp only [dSeq, dNext, dRet, dRetN, dIfS, dSet, dDrop, dFor, dWhile, dAppend, dExtend, dSetX, dAsgG, dAsgX, dAugI, dgName, dgCons, dgNil, dgTup, dVar, dC, dOp, dCB, dCall, dTup, dLst, dCons, dNil, bCons, bNil, dSl, oNone, oSome, dTst, tstB, dAnd, dOr, dNot, vAnd, vOr, vNot, dIf, dUn, dChain, chN, dSeqOf, dTupOf, dStrOf, dRng, dEnum, dIsN, isNQ, sFrz, dLc, dRev, dFz, bodyD, startD, Sd.view, Sd.dat, Sd.stored, Sd.ret, fAdd, fSub, fMulA, fI, fCI, fCmp, fEq, fIn, fInS, fIx, fSl, fLen, fIsi, fSum, f1i, f2i, fTupOf, fLstOf, fBl, fSort, fDictP, fRev, fNeg, fDin, fDget, keyD, xOf, xPop, xSl, ownAt, seqOf, seqD, dExtendX, List.set_cons_zero, List.set_cons_succ, List.getElem?_cons_zero, List.getElem?_cons_succ, List.map_cons, List.map_nil, List.cons_append, List.nil_append, List.length_cons, List.length_nil, List.replicate_succ, List.replicate_zero, if_true, if_false, Bool.false_eq_true, Bool.not_true, Bool.not_false, Ln.d, atI_0, atI_1]
  refine ⟨_, rfl, ?_⟩
  refine iteB (fun _ => ?_) fun h => absurd h (by simp)
  refine ⟨kvs, x.l, rfl, h1, h3, ?_⟩
  refine iteB (fun _ => ?_) fun h => absurd h (by decide)
  exact ⟨kvs, x.r, rfl, h2, h4, hR⟩
def sides : List Ln → List Tm
  | [] => []
  | x :: r => x.l :: x.r :: sides r
theorem sides_len (ls : List Ln) : (sides ls).length = 2 * ls.length := by
  induction ls with
  | nil => rfl
  | cons x r ih => simp [sides, ih]; omega
def R_sides_of : SpecD := fun ds R _ => ∃ ls : List Ln, ds = [.tup (lnD ls)] ∧ ls.length ≤ 1000 ∧ R (.own (Tm.ds (sides ls)))
theorem sides_for (DD : EndsD) (z0 : Option Sd) : ∀ (ls : List Ln) (acc : List Tm) (a b : Option Sd) (q : ∀ a b, DD.nx [z0, some (.own (Tm.ds (acc ++ sides ls))), a, b]), acc.length + 2 * ls.length ≤ 2000 →
    forR (dgTup 2 (dgCons (dgName 2) (dgCons (dgName 3) dgNil))) (dExtend 1 (dLst (dCons (dVar 2) (dCons (dVar 3) dNil)))) DD (lnD ls) [z0, some (.own (Tm.ds acc)), a, b]
  | [], acc, a, b, q, _ => by
    show DD.nx _
    have := q a b
    rwa [sides, List.append_nil] at this
  | x :: r, acc, a, b, q, h => by
    unfold lnD
    rw [List.map_cons]
    unfold forR
    simp only [dSeq, dNext, dRet, dRetN, dIfS, dSet, dDrop, dFor, dWhile, dAppend, dExtend, dSetX, dAsgG, dAsgX, dAugI, dgName, dgCons, dgNil, dgTup, dVar, dC, dOp, dCB, dCall, dTup, dLst, dCons, dNil, bCons, bNil, dSl, oNone, oSome, dTst, tstB, dAnd, dOr, dNot, vAnd, vOr, vNot, dIf, dUn, dChain, chN, dSeqOf, dTupOf, dStrOf, dRng, dEnum, dIsN, isNQ, sFrz, dLc, dRev, dFz, bodyD, startD, Sd.view, Sd.dat, Sd.stored, Sd.ret, fAdd, fSub, fMulA, fI, fCI, fCmp, fEq, fIn, fInS, fIx, fSl, fLen, fIsi, fSum, f1i, f2i, fTupOf, fLstOf, fBl, fSort, fDictP, fRev, fNeg, fDin, fDget, keyD, xOf, xPop, xSl, ownAt, seqOf, seqD, dExtendX, List.set_cons_zero, List.set_cons_succ, List.getElem?_cons_zero, List.getElem?_cons_succ, List.map_cons, List.map_nil, List.cons_append, List.nil_append, List.length_cons, List.length_nil, List.replicate_succ, List.replicate_zero, if_true, if_false, Bool.false_eq_true, Bool.not_true, Bool.not_false, Ln.d, Tm.ds_len]
    rw [List.length_cons] at h
    refine ⟨trivial, by rw [sizeLine_eq]; decide, by rw [sizeLine_eq]; omega, ?_⟩
    have e : Tm.ds acc ++ [x.l.d, x.r.d] = Tm.ds (acc ++ [x.l, x.r]) := by rw [Tm.ds_app]; rw [Tm.ds, Tm.ds, Tm.ds]
    rw [e]
    refine sides_for DD z0 r (acc ++ [x.l, x.r]) _ _ (fun a b => ?_) (by simp; omega)
    have := q a b
    rw [sides] at this
    simpa using this
theorem p_sides_of (ds : List D) (R : Sd → Prop) (E : ED → Prop) (h : R_sides_of ds R E) : bodyD N_sides_of T_sides_of ds R E := by
  obtain ⟨ls, rfl, hl, hR⟩ := h
  unfold T_sides_of
  simp only [bodyD, startD, dSeq, dSet, dLst, dNil, dFor, dTupOf, dVar, dRet, Sd.view, Sd.stored, List.map_cons, List.map_nil, List.length_cons, List.length_nil, List.cons_append, List.nil_append, List.replicate_succ, List.replicate_zero, List.set_cons_zero, List.set_cons_succ, List.getElem?_cons_zero, List.getElem?_cons_succ]
  refine ⟨by decide, trivial, sides_for _ _ ls [] _ _ (fun a b => ?_) (by simp; omega)⟩
  exact hR
end DL
set_option Elab.async false
set_option linter.all false
set_option maxRecDepth 100000
set_option maxHeartbeats 4000000
namespace DL
open PySem PySem.Spec PyProof.Rows L2
/-! ### text_of -/
mutual
def Tm.cs : Tm → List Nat
  | .mk f as => f.cps.toList ++ (match as with
    | [] => []
    | _ :: _ => 40 :: (Tm.csA as ++ [41]))
def Tm.csA : List Tm → List Nat
  | [] => []
  | t :: r => t.cs ++ Tm.csR r
def Tm.csR : List Tm → List Nat
  | [] => []
  | t :: r => 44 :: (t.cs ++ Tm.csR r)
end
def Tm.tx (t : Tm) : Str := ⟨t.cs.toArray⟩
theorem Tm.csR_snoc (x : Tm) : ∀ l : List Tm, Tm.csR (l ++ [x]) = Tm.csR l ++ (44 :: x.cs)
  | [] => by rw [List.nil_append, Tm.csR, Tm.csR, Tm.csR]; simp
  | t :: r => by rw [List.cons_append, Tm.csR, Tm.csR, Tm.csR_snoc x r]; simp
theorem Tm.csA_snoc (x : Tm) : ∀ l : List Tm, Tm.csA (l ++ [x]) = Tm.csA l ++ ((if l.length = 0 then [] else [44]) ++ x.cs)
  | [] => by rw [List.nil_append, Tm.csA, Tm.csA, Tm.csR]; simp
  | t :: r => by rw [List.cons_append, Tm.csA, Tm.csA, Tm.csR_snoc x r, if_neg (by simp)]; simp
inductive It1 where
  | tm (t : Tm)
  | sg (c : Nat)
def It1.d : It1 → D
  | .tm t => t.d
  | .sg c => .str ⟨#[c]⟩
def It1.cs : It1 → List Nat
  | .tm t => t.cs
  | .sg c => [c]
def It1.w : It1 → Nat
  | .tm t => 2 * t.n - 1
  | .sg _ => 1
def itD (l : List It1) : List D := l.map It1.d
/-- what is waiting, the top last, is read from the top on -/
def itT (l : List It1) : List Nat := (l.reverse.map It1.cs).flatten
def itW (l : List It1) : Nat := (l.map It1.w).sum
theorem itD_app (a b : List It1) : itD (a ++ b) = itD a ++ itD b := List.map_append
theorem itW_app (a b : List It1) : itW (a ++ b) = itW a + itW b := by unfold itW; rw [List.map_append, List.sum_append]
theorem itT_app (a b : List It1) : itT (a ++ b) = itT b ++ itT a := by unfold itT; rw [List.reverse_append, List.map_append, List.flatten_append]
theorem itW_len : ∀ l : List It1, l.length ≤ itW l
  | [] => Nat.zero_le _
  | x :: r => by
    have h1 := itW_len r
    have h2 : 1 ≤ x.w := by
      cases x with
      | tm t => have := t.n_pos; show 1 ≤ 2 * t.n - 1; omega
      | sg c => exact Nat.le_refl _
    have : itW (x :: r) = x.w + itW r := rfl
    rw [List.length_cons]
    omega
/-- the arguments k, .., 1, as they are put on -/
def appK (as : List Tm) : Nat → List It1
  | 0 => []
  | k + 1 => (match as[k]? with
    | some x => [It1.tm x]
    | none => []) ++ ((if k = 0 then [] else [It1.sg 44]) ++ appK as k)
theorem appK_T (as : List Tm) : ∀ k, k ≤ as.length → itT (appK as k) = Tm.csA (as.take k)
  | 0, _ => by rw [List.take_zero, Tm.csA]; rfl
  | k + 1, h => by
    have e : as[k]? = some as[k] := List.getElem?_eq_getElem h
    rw [appK, e, itT_app, itT_app, appK_T as k (by omega), List.take_add_one, e]
    simp only [Option.toList]
    rw [Tm.csA_snoc, List.length_take]
    by_cases hk : k = 0
    · subst hk
      simp [itT, It1.cs]
    · rw [if_neg hk, if_neg (by omega)]
      simp [itT, It1.cs]
theorem appK_W (as : List Tm) : ∀ k, k ≤ as.length → itW (appK as k) + (if k = 0 then 0 else 1) = 2 * Tm.ns (as.take k)
  | 0, _ => by rw [List.take_zero, Tm.ns]; rfl
  | k + 1, h => by
    have e : as[k]? = some as[k] := List.getElem?_eq_getElem h
    have ih := appK_W as k (by omega)
    have hp := (as[k]).n_pos
    rw [appK, e, itW_app, itW_app, List.take_add_one, e]
    simp only [Option.toList]
    rw [Tm.ns_app, Tm.ns, Tm.ns]
    have w1 : itW [It1.tm as[k]] = 2 * (as[k]).n - 1 := rfl
    have e2 : (if k + 1 = 0 then 0 else 1) = 1 := if_neg (by omega)
    rw [w1, e2]
    by_cases hk : k = 0
    · subst hk
      rw [if_pos rfl] at ih ⊢
      have w2 : itW [] = 0 := rfl
      rw [w2]
      omega
    · rw [if_neg hk] at ih ⊢
      have w2 : itW [It1.sg 44] = 1 := rfl
      rw [w2]
      omega
theorem rngC_succ (k : Nat) : rngC ((k + 1 : Nat) : Int) (-1) (k + 1) = .int ((k + 1 : Nat) : Int) :: rngC (k : Int) (-1) k := by
  unfold rngC
  rw [List.range_succ_eq_map, List.map_cons, List.map_map]
  congr 1
  simp
  intro a _
  omega
/-- the arguments are put on the stack -/
theorem text_for (as : List Tm) (f : Str) (DD : EndsD) (z0 z1 : Option Sd) : ∀ (k : Nat) (acc : List It1) (z4 : Option Sd), k ≤ as.length → acc.length + 2 * k ≤ 10000000 → (∀ z4, DD.nx [z0, z1, some (.own (itD (acc ++ appK as k))), some (.fro (.tup (.str f :: Tm.ds as))), z4]) →
    forR (dgName 4) (dSeq (dAppend 2 (dOp fIx (dVar 3) (dVar 4))) (dIfS (dTst (dOp (fCI pGt) (dVar 4) (dC (.fro (.int 1))))) (dAppend 2 (dC (.fro (.str ",")))) dNext)) DD (rngC (k : Int) (-1) k) [z0, z1, some (.own (itD acc)), some (.fro (.tup (.str f :: Tm.ds as))), z4]
  | 0, acc, z4, _, _, q => by
    show DD.nx _
    have := q z4
    rwa [appK, List.append_nil] at this
  | k + 1, acc, z4, hk, hz, q => by
    have e : as[k]? = some as[k] := List.getElem?_eq_getElem hk
    have e1 : atI (D.str f :: Tm.ds as) ((k + 1 : Nat) : Int) = some (as[k]).d := by
      have e2 : ixN (D.str f :: Tm.ds as).length ((k + 1 : Nat) : Int) = some (k + 1) := by
        unfold ixN
        rw [if_pos (by omega), if_pos (by rw [List.length_cons, Tm.ds_len]; omega)]
        rfl
      unfold atI
      rw [e2]
      show (D.str f :: Tm.ds as)[k + 1]? = _
      rw [List.getElem?_cons_succ, Tm.ds_map, List.getElem?_map, e]
      rfl
    have len : ∀ l : List It1, (itD l).length = l.length := fun l => List.length_map _
    have sn : ∀ (l : List It1) (x : It1), itD l ++ [x.d] = itD (l ++ [x]) := fun l x => by rw [itD_app]; rfl
    rw [rngC_succ]
    unfold forR
    simp only [dSeq, dNext, dRet, dRetN, dIfS, dSet, dDrop, dFor, dWhile, dAppend, dExtend, dSetX, dAsgG, dAsgX, dAugI, dgName, dgCons, dgNil, dgTup, dVar, dC, dOp, dCB, dCall, dTup, dLst, dCons, dNil, bCons, bNil, dSl, oNone, oSome, dTst, tstB, dAnd, dOr, dNot, vAnd, vOr, vNot, dIf, dUn, dChain, chN, dSeqOf, dTupOf, dStrOf, dRng, dEnum, dIsN, isNQ, sFrz, dLc, dRev, dFz, bodyD, startD, Sd.view, Sd.dat, Sd.stored, Sd.ret, fAdd, fSub, fMulA, fI, fCI, fCmp, fEq, fIn, fInS, fIx, fSl, fLen, fIsi, fSum, f1i, f2i, fTupOf, fLstOf, fBl, fSort, fDictP, fRev, fNeg, fDin, fDget, keyD, xOf, xPop, xSl, ownAt, seqOf, seqD, dExtendX, List.set_cons_zero, List.set_cons_succ, List.getElem?_cons_zero, List.getElem?_cons_succ, List.map_cons, List.map_nil, List.cons_append, List.nil_append, List.length_cons, List.length_nil, List.replicate_succ, List.replicate_zero, if_true, if_false, Bool.false_eq_true, Bool.not_true, Bool.not_false, e1, len]
    refine ⟨by rw [sizeLine_eq]; omega, iteB (fun h => ⟨by rw [sizeLine_eq, List.length_append, len]; simp; omega, ?_⟩) fun h => ?_⟩
    · have hk0 : k ≠ 0 := fun z => by subst z; simp [pGt] at h
      rw [show D.tup (D.str f :: Tm.ds as) = D.tup (D.str f :: Tm.ds as) from rfl]
      have s1 : itD acc ++ [(as[k]).d] = itD (acc ++ [It1.tm as[k]]) := sn acc (.tm as[k])
      have s2 : itD (acc ++ [It1.tm as[k]]) ++ [D.str ","] = itD ((acc ++ [It1.tm as[k]]) ++ [It1.sg 44]) := sn _ (.sg 44)
      rw [s1, s2]
      refine text_for as f DD z0 z1 k _ _ (by omega) (by simp; omega) fun z4 => ?_
      have := q z4
      rw [appK, e, if_neg hk0] at this
      simpa using this
    · have hk0 : k = 0 := by
        have h' : decide (1 < ((k + 1 : Nat) : Int)) = false := h
        have := of_decide_eq_false h'
        omega
      have s1 : itD acc ++ [(as[k]).d] = itD (acc ++ [It1.tm as[k]]) := sn acc (.tm as[k])
      rw [s1]
      refine text_for as f DD z0 z1 k _ _ (by omega) (by simp; omega) fun z4 => ?_
      have := q z4
      rw [appK, e, if_pos hk0] at this
      simpa using this
theorem join_cs (P : List Str) : (Txt.join "" P).cps.toList = (P.map fun x => x.cps.toList).flatten := by
  rw [TL.join_eq]
  have h : ∀ L : List (List Nat), TL.joinL [] L = L.flatten := fun L => by
    induction L with
    | nil => rfl
    | cons p r ih =>
      cases r with
      | nil => simp [TL.joinL]
      | cons q r => rw [TL.joinL, ih]; simp
  have := TL.tl_join "" P
  rw [show TL.tl ("" : Str) = [] from rfl, h] at this
  exact this
theorem strsOf_map (P : List Str) : strsOf (P.map D.str) = some P := by
  induction P with
  | nil => rfl
  | cons x r ih => rw [List.map_cons]; unfold strsOf; rw [ih]; rfl
def R_text_of : SpecD := fun ds R _ => ∃ t : Tm, ds = [t.d] ∧ t.n < 1000000 ∧ t.cs.length < 1000000 ∧ R (.fro (.str t.tx))
def pD (P : List Str) : List D := P.map D.str
def pT (P : List Str) : List Nat := (P.map fun x => x.cps.toList).flatten
theorem pD_snoc (P : List Str) (x : Str) : pD P ++ [D.str x] = pD (P ++ [x]) := by unfold pD; simp
theorem pT_snoc (P : List Str) (x : Str) : pT (P ++ [x]) = pT P ++ x.cps.toList := by unfold pT; simp
theorem p_text_of (ds : List D) (R : Sd → Prop) (E : ED → Prop) (h : R_text_of ds R E) : bodyD N_text_of T_text_of ds R E := by
  obtain ⟨t, rfl, hn, hc, hR⟩ := h
  have tp := t.n_pos
  have len : ∀ l : List It1, (itD l).length = l.length := fun l => List.length_map _
  have plen : ∀ l : List Str, (pD l).length = l.length := fun l => List.length_map _
  unfold T_text_of
  simp only [bodyD, startD, dSeq, dSet, dLst, dNil, dCons, dVar, sFrz, Sd.view, Sd.stored, List.map_cons, List.map_nil, List.length_cons, List.length_nil, List.cons_append, List.nil_append, List.replicate_succ, List.replicate_zero, List.set_cons_zero, List.set_cons_succ, List.getElem?_cons_zero, List.getElem?_cons_succ]
  refine ⟨by decide, trivial, by decide, trivial, ?_⟩
  refine ⟨fun m Δ => ∃ (P : List Str) (S : List It1) (z3 z4 : Option Sd), m = itW S ∧ pT P ++ itT S = t.cs ∧ P.length + itW S ≤ 2 * t.n ∧ Δ = [some (.fro t.d), some (.own (pD P)), some (.own (itD S)), z3, z4], ⟨_, [], [.tm t], none, none, rfl, ?_, ?_, rfl⟩, ?_⟩
  · simp [pT, itT, It1.cs]
  · have : itW [It1.tm t] = 2 * t.n - 1 := rfl
    rw [this, List.length_nil]; omega
  · rintro m Δ ⟨P, S, z3, z4, rfl, hT, hW, rfl⟩
    have hS := itW_len S
    rcases snoc_cases S with rfl | ⟨S, x, rfl⟩
    · simp only [dSeq, dNext, dRet, dRetN, dIfS, dSet, dDrop, dFor, dWhile, dAppend, dExtend, dSetX, dAsgG, dAsgX, dAugI, dgName, dgCons, dgNil, dgTup, dVar, dC, dOp, dCB, dCall, dTup, dLst, dCons, dNil, bCons, bNil, dSl, oNone, oSome, dTst, tstB, dAnd, dOr, dNot, vAnd, vOr, vNot, dIf, dUn, dChain, chN, dSeqOf, dTupOf, dStrOf, dRng, dEnum, dIsN, isNQ, sFrz, dLc, dRev, dFz, bodyD, startD, Sd.view, Sd.dat, Sd.stored, Sd.ret, fAdd, fSub, fMulA, fI, fCI, fCmp, fEq, fIn, fInS, fIx, fSl, fLen, fIsi, fSum, f1i, f2i, fTupOf, fLstOf, fBl, fSort, fDictP, fRev, fNeg, fDin, fDget, keyD, xOf, xPop, xSl, ownAt, seqOf, seqD, dExtendX, List.set_cons_zero, List.set_cons_succ, List.getElem?_cons_zero, List.getElem?_cons_succ, List.map_cons, List.map_nil, List.cons_append, List.nil_append, List.length_cons, List.length_nil, List.replicate_succ, List.replicate_zero, if_true, if_false, Bool.false_eq_true, Bool.not_true, Bool.not_false, dJoin, len]
      refine iteB (fun h => by cases h) fun _ => ?_
      unfold joinQ
      rw [show strsOf (pD P) = some P from strsOf_map P]
      have e : pT P = t.cs := by simpa [itT] using hT
      have l1 : (P.map (·.length)).sum = t.cs.length := by
        rw [← e]
        unfold pT
        rw [List.length_flatten, List.map_map]
        congr 1
      refine ⟨by rw [l1, show Str.length "" = 0 from rfl]; omega, ?_⟩
      have e2 : Txt.join "" P = t.tx := Str.ext' (by
        apply Array.toList_inj.mp
        rw [join_cs]
        show pT P = (t.cs.toArray).toList
        rw [e])
      rw [e2]
      exact hR
    · rw [itW_app] at hW hS
      rw [itT_app] at hT
      simp only [List.length_append, List.length_singleton] at hS
      cases x with
      | sg c =>
        have w1 : itW [It1.sg c] = 1 := rfl
        have d1 : itD (S ++ [It1.sg c]) = itD S ++ [D.str ⟨#[c]⟩] := by rw [itD_app]; rfl
        simp only [dSeq, dNext, dRet, dRetN, dIfS, dSet, dDrop, dFor, dWhile, dAppend, dExtend, dSetX, dAsgG, dAsgX, dAugI, dgName, dgCons, dgNil, dgTup, dVar, dC, dOp, dCB, dCall, dTup, dLst, dCons, dNil, bCons, bNil, dSl, oNone, oSome, dTst, tstB, dAnd, dOr, dNot, vAnd, vOr, vNot, dIf, dUn, dChain, chN, dSeqOf, dTupOf, dStrOf, dRng, dEnum, dIsN, isNQ, sFrz, dLc, dRev, dFz, bodyD, startD, Sd.view, Sd.dat, Sd.stored, Sd.ret, fAdd, fSub, fMulA, fI, fCI, fCmp, fEq, fIn, fInS, fIx, fSl, fLen, fIsi, fSum, f1i, f2i, fTupOf, fLstOf, fBl, fSort, fDictP, fRev, fNeg, fDin, fDget, keyD, xOf, xPop, xSl, ownAt, seqOf, seqD, dExtendX, List.set_cons_zero, List.set_cons_succ, List.getElem?_cons_zero, List.getElem?_cons_succ, List.map_cons, List.map_nil, List.cons_append, List.nil_append, List.length_cons, List.length_nil, List.replicate_succ, List.replicate_zero, if_true, if_false, Bool.false_eq_true, Bool.not_true, Bool.not_false, d1, last_snoc, drop_snoc, tyN, len, plen]
        refine iteB (fun _ => ?_) fun h => by simp [pGt] at h
        refine ⟨by decide, iteB (fun _ => ?_) fun h => absurd h (by decide)⟩
        refine ⟨by rw [sizeLine_eq]; omega, itW S, ?_, P ++ [⟨#[c]⟩], S, some (.fro (.str ⟨#[c]⟩)), z4, rfl, ?_, ?_, ?_⟩
        · rw [itW_app]; omega
        · rw [pT_snoc, List.append_assoc]
          exact hT
        · simp; omega
        · rw [pD_snoc]
      | tm u =>
        have up := u.n_pos
        have w1 : itW [It1.tm u] = 2 * u.n - 1 := rfl
        have d1 : itD (S ++ [It1.tm u]) = itD S ++ [D.tup (.str u.f :: Tm.ds u.as)] := by rw [itD_app, ← Tm.d_eq]; rfl
        have t1 : itT [It1.tm u] = u.cs := by simp [itT, It1.cs]
        rw [t1] at hT
        have un := u.n_eq
        have ul := Tm.len_ns u.as
        have cl : u.cs.length ≤ t.cs.length := by
          rw [← hT]
          simp only [List.length_append]
          omega
        simp only [dSeq, dNext, dRet, dRetN, dIfS, dSet, dDrop, dFor, dWhile, dAppend, dExtend, dSetX, dAsgG, dAsgX, dAugI, dgName, dgCons, dgNil, dgTup, dVar, dC, dOp, dCB, dCall, dTup, dLst, dCons, dNil, bCons, bNil, dSl, oNone, oSome, dTst, tstB, dAnd, dOr, dNot, vAnd, vOr, vNot, dIf, dUn, dChain, chN, dSeqOf, dTupOf, dStrOf, dRng, dEnum, dIsN, isNQ, sFrz, dLc, dRev, dFz, bodyD, startD, Sd.view, Sd.dat, Sd.stored, Sd.ret, fAdd, fSub, fMulA, fI, fCI, fCmp, fEq, fIn, fInS, fIx, fSl, fLen, fIsi, fSum, f1i, f2i, fTupOf, fLstOf, fBl, fSort, fDictP, fRev, fNeg, fDin, fDget, keyD, xOf, xPop, xSl, ownAt, seqOf, seqD, dExtendX, List.set_cons_zero, List.set_cons_succ, List.getElem?_cons_zero, List.getElem?_cons_succ, List.map_cons, List.map_nil, List.cons_append, List.nil_append, List.length_cons, List.length_nil, List.replicate_succ, List.replicate_zero, if_true, if_false, Bool.false_eq_true, Bool.not_true, Bool.not_false, d1, last_snoc, drop_snoc, tyN, len, plen, atI_0, eqv_int]
        refine iteB (fun _ => ?_) fun h => by simp [pGt] at h
        refine ⟨by decide, iteB (fun h => absurd h (by decide)) fun _ => ?_⟩
        refine ⟨⟨okI _, okI _⟩, iteB (fun h => ?_) fun h => ?_⟩
        · -- a sign alone
          have h0 : u.as = [] := by
            have h' := beq_iff_eq.mp h
            first
              | rw [List.length_cons, Tm.ds_len] at h'
              | rw [Tm.ds_len] at h'
            exact List.eq_nil_of_length_eq_zero (by omega)
          have ec : u.cs = u.f.cps.toList := by
            cases u with
            | mk f as =>
              have h0 : as = [] := h0
              subst h0
              rw [Tm.cs]
              simp [Tm.f]
          refine ⟨by rw [sizeLine_eq]; omega, itW S, ?_, P ++ [u.f], S, some (.fro (.tup (.str u.f :: Tm.ds u.as))), z4, rfl, ?_, ?_, ?_⟩
          · rw [itW_app]; omega
          · rw [pT_snoc, List.append_assoc, ← ec]
            exact hT
          · simp; omega
          · rw [pD_snoc]
        · have h0 : u.as ≠ [] := fun z => by rw [z, Tm.ds] at h; simp at h
          have ec : u.cs = u.f.cps.toList ++ 40 :: (Tm.csA u.as ++ [41]) := by
            cases u with
            | mk f as =>
              cases as with
              | nil => exact absurd rfl h0
              | cons a r => rw [Tm.cs]; rfl
          have fl : u.f.length + 1 ≤ u.cs.length := by
            rw [ec]
            simp [Str.length]
            try omega
          refine ⟨by show u.f.length + 1 ≤ _; rw [sizeLine_eq]; omega, by rw [sizeLine_eq]; omega, by rw [sizeLine_eq]; omega, ?_⟩
          have hlen : ((Tm.ds u.as).length + 1 : Nat) = u.as.length + 1 := by rw [Tm.ds_len]
          rw [hlen, show (((u.as.length + 1 : Nat) : Int) - 1) = (u.as.length : Int) by omega]
          refine ⟨u.as.length, ?_, ?_⟩
          · have := RgC.neg (i := (u.as.length : Int)) (j := 0) (by omega) (by omega) (by omega) (by omega)
            rwa [show ((u.as.length : Int) - 0).toNat = u.as.length by omega] at this
          · have s1 : itD S ++ [D.str ")"] = itD (S ++ [It1.sg 41]) := by rw [itD_app]; rfl
            rw [s1]
            refine text_for u.as u.f _ _ _ u.as.length (S ++ [It1.sg 41]) z4 (Nat.le_refl _) (by simp; omega) fun z4' => ?_
            have aw := appK_W u.as u.as.length (Nat.le_refl _)
            have aT := appK_T u.as u.as.length (Nat.le_refl _)
            rw [List.take_length] at aw aT
            have n0 : u.as.length ≠ 0 := fun z => h0 (List.eq_nil_of_length_eq_zero z)
            rw [if_neg n0] at aw
            have w2 : itW [It1.sg 41] = 1 := rfl
            have t2 : itT [It1.sg 41] = [41] := rfl
            have wN : itW ((S ++ [It1.sg 41]) ++ appK u.as u.as.length) = itW S + 2 * u.n - 2 := by
              rw [itW_app, itW_app, w2]
              omega
            refine ⟨itW ((S ++ [It1.sg 41]) ++ appK u.as u.as.length), ?_, P ++ [u.f ++ "("], (S ++ [It1.sg 41]) ++ appK u.as u.as.length, some (.fro (.tup (.str u.f :: Tm.ds u.as))), z4', rfl, ?_, ?_, ?_⟩
            · rw [wN, itW_app]
              omega
            · rw [pT_snoc, itT_app, itT_app, aT, t2]
              rw [← hT, ec]
              rw [Str.cps_append, Array.toList_append, show ("(" : Str).cps.toList = [40] from rfl]
              simp
            · rw [wN, List.length_append, List.length_singleton]
              omega
            · rw [pD_snoc]
end DL
set_option Elab.async false
set_option linter.all false
set_option maxRecDepth 100000
set_option maxHeartbeats 4000000
namespace DL
open PySem PySem.Spec PyProof.Rows L2
/-! ### subterms -/
mutual
def Tm.subs : Tm → List Tm
  | .mk f as => .mk f as :: Tm.subss as
def Tm.subss : List Tm → List Tm
  | [] => []
  | t :: r => t.subs ++ Tm.subss r
end
theorem Tm.subs_eq (t : Tm) : t.subs = t :: Tm.subss t.as := by cases t; rw [Tm.subs]; rfl
theorem Tm.subss_app (b : List Tm) : ∀ a : List Tm, Tm.subss (a ++ b) = Tm.subss a ++ Tm.subss b
  | [] => by rw [Tm.subss]; rfl
  | t :: r => by rw [List.cons_append, Tm.subss, Tm.subss, Tm.subss_app b r, List.append_assoc]
theorem Tm.mem_subss {u : Tm} : ∀ {ts : List Tm}, u ∈ Tm.subss ts ↔ ∃ t ∈ ts, u ∈ t.subs
  | [] => by rw [Tm.subss]; simp
  | t :: r => by rw [Tm.subss, List.mem_append, Tm.mem_subss (ts := r)]; simp
theorem Tm.self_subss {t : Tm} {ts : List Tm} (h : t ∈ ts) : t ∈ Tm.subss ts := Tm.mem_subss.mpr ⟨t, h, by rw [Tm.subs_eq]; exact List.mem_cons_self⟩
mutual
theorem Tm.subs_trans : ∀ (t : Tm) {u v : Tm}, u ∈ t.subs → v ∈ u.subs → v ∈ t.subs
  | .mk f as, u, v, h, hv => by
    rw [Tm.subs] at h ⊢
    rcases List.mem_cons.mp h with rfl | h
    · rw [Tm.subs] at hv
      exact hv
    · exact List.mem_cons_of_mem _ (Tm.subss_trans as h hv)
theorem Tm.subss_trans : ∀ (ts : List Tm) {u v : Tm}, u ∈ Tm.subss ts → v ∈ u.subs → v ∈ Tm.subss ts
  | [], u, v, h, _ => by rw [Tm.subss] at h; cases h
  | t :: r, u, v, h, hv => by
    rw [Tm.subss] at h ⊢
    rcases List.mem_append.mp h with h | h
    · exact List.mem_append_left _ (Tm.subs_trans t h hv)
    · exact List.mem_append_right _ (Tm.subss_trans r h hv)
end
theorem Tm.arg_subss {ts : List Tm} {u a : Tm} (h : u ∈ Tm.subss ts) (ha : a ∈ u.as) : a ∈ Tm.subss ts :=
  Tm.subss_trans ts h (by rw [Tm.subs_eq]; exact List.mem_cons_of_mem _ (Tm.self_subss ha))
/-- all of the subterms, each once -/
def Within (ts rs : List Tm) : Prop := rs.Nodup ∧ ∀ u, u ∈ rs ↔ u ∈ Tm.subss ts
mutual
theorem Tm.closed {rs : List Tm} (h : ∀ r ∈ rs, ∀ a ∈ r.as, a ∈ rs) : ∀ (t : Tm), t ∈ rs → ∀ u ∈ t.subs, u ∈ rs
  | .mk f as, ht, u, hu => by
    rw [Tm.subs] at hu
    rcases List.mem_cons.mp hu with rfl | hu
    · exact ht
    · exact Tm.closeds h as (fun a ha => h _ ht a ha) u hu
theorem Tm.closeds {rs : List Tm} (h : ∀ r ∈ rs, ∀ a ∈ r.as, a ∈ rs) : ∀ (ts : List Tm), (∀ t ∈ ts, t ∈ rs) → ∀ u ∈ Tm.subss ts, u ∈ rs
  | [], _, u, hu => by rw [Tm.subss] at hu; cases hu
  | t :: r, ht, u, hu => by
    rw [Tm.subss] at hu
    rcases List.mem_append.mp hu with hu | hu
    · exact Tm.closed h t (ht t List.mem_cons_self) u hu
    · exact Tm.closeds h r (fun a ha => ht a (List.mem_cons_of_mem _ ha)) u hu
end
/-- the walk over the waiting -/
structure WInv (ts rs ws : List Tm) : Prop where
  nd : rs.Nodup
  rsub : ∀ r ∈ rs, r ∈ Tm.subss ts
  wsub : ∀ w ∈ ws, w ∈ Tm.subss ts
  top : ∀ t ∈ ts, t ∈ rs ∨ t ∈ ws
  arg : ∀ r ∈ rs, ∀ a ∈ r.as, a ∈ rs ∨ a ∈ ws
  len : rs.length + Tm.ns ws ≤ Tm.ns ts
theorem WInv.start (ts : List Tm) : WInv ts [] ts := ⟨.nil, fun _ h => (nomatch h), fun w h => Tm.self_subss h, fun t h => .inr h, fun _ h => (nomatch h), by simp⟩
theorem WInv.done {ts rs : List Tm} (h : WInv ts rs []) : Within ts rs :=
  ⟨h.nd, fun u => ⟨fun hu => h.rsub u hu, fun hu => Tm.closeds (fun r hr a ha => (h.arg r hr a ha).elim id fun z => nomatch z) ts (fun t ht => (h.top t ht).elim id fun z => nomatch z) u hu⟩⟩
theorem WInv.old {ts rs ws : List Tm} {x : Tm} (h : WInv ts rs (ws ++ [x])) (hx : x ∈ rs) : WInv ts rs ws where
  nd := h.nd
  rsub := h.rsub
  wsub := fun w hw => h.wsub w (List.mem_append_left _ hw)
  top := fun t ht => by
    rcases h.top t ht with z | z
    · exact .inl z
    · rcases List.mem_append.mp z with z | z
      · exact .inr z
      · cases List.mem_singleton.mp z; exact .inl hx
  arg := fun r hr a ha => by
    rcases h.arg r hr a ha with z | z
    · exact .inl z
    · rcases List.mem_append.mp z with z | z
      · exact .inr z
      · cases List.mem_singleton.mp z; exact .inl hx
  len := by
    have := h.len
    rw [Tm.ns_app] at this
    omega
theorem WInv.new {ts rs ws : List Tm} {x : Tm} (h : WInv ts rs (ws ++ [x])) (hx : x ∉ rs) : WInv ts (rs ++ [x]) (ws ++ x.as) where
  nd := by
    rw [List.nodup_append]
    refine ⟨h.nd, by simp, fun a ha b hb => ?_⟩
    cases List.mem_singleton.mp hb
    exact fun z => hx (z ▸ ha)
  rsub := fun r hr => by
    rcases List.mem_append.mp hr with z | z
    · exact h.rsub r z
    · cases List.mem_singleton.mp z; exact h.wsub x (by simp)
  wsub := fun w hw => by
    rcases List.mem_append.mp hw with z | z
    · exact h.wsub w (List.mem_append_left _ z)
    · exact Tm.arg_subss (h.wsub x (by simp)) z
  top := fun t ht => by
    rcases h.top t ht with z | z
    · exact .inl (List.mem_append_left _ z)
    · rcases List.mem_append.mp z with z | z
      · exact .inr (List.mem_append_left _ z)
      · cases List.mem_singleton.mp z; exact .inl (by simp)
  arg := fun r hr a ha => by
    rcases List.mem_append.mp hr with z | z
    · rcases h.arg r z a ha with q | q
      · exact .inl (List.mem_append_left _ q)
      · rcases List.mem_append.mp q with q | q
        · exact .inr (List.mem_append_left _ q)
        · cases List.mem_singleton.mp q; exact .inl (by simp)
    · cases List.mem_singleton.mp z
      exact .inr (List.mem_append_right _ ha)
  len := by
    have h1 := h.len
    have h2 := x.n_eq
    rw [Tm.ns_app, Tm.ns, Tm.ns] at h1
    rw [Tm.ns_app, List.length_append, List.length_singleton]
    omega
/-! ### within_of -/
def kvT (rs : List Tm) : List (Key × D) := rs.map fun t => (.inr t.tx, t.d)
theorem kvT_get {rs : List Tm} {x : Tm} (h : x ∈ rs) (inj : ∀ u ∈ rs, u.tx = x.tx → u = x) : getD (kvT rs) (.inr x.tx) = some x.d := by
  unfold getD kvT
  induction rs with
  | nil => cases h
  | cons r rs ih =>
    rw [List.map_cons, List.find?_cons]
    by_cases e : r.tx = x.tx
    · have := inj r List.mem_cons_self e
      subst this
      simp
    · have hx : x ∈ rs := by
        rcases List.mem_cons.mp h with rfl | h
        · exact absurd rfl e
        · exact h
      have e2 : decide ((Sum.inr r.tx : Key) = Sum.inr x.tx) = false := decide_eq_false fun z => e (by injection z)
      simp only [e2]
      exact ih hx fun u hu => inj u (List.mem_cons_of_mem _ hu)
theorem kvT_none {rs : List Tm} {x : Tm} (h : ∀ u ∈ rs, u.tx ≠ x.tx) : getD (kvT rs) (.inr x.tx) = none ∧ (kvT rs).any (fun kv => decide (kv.1 = .inr x.tx)) = false := by
  unfold getD kvT
  induction rs with
  | nil => exact ⟨rfl, rfl⟩
  | cons r rs ih =>
    have e : decide ((Sum.inr r.tx : Key) = Sum.inr x.tx) = false := decide_eq_false fun z => h r List.mem_cons_self (by injection z)
    obtain ⟨i1, i2⟩ := ih fun u hu => h u (List.mem_cons_of_mem _ hu)
    rw [List.map_cons, List.find?_cons, List.any_cons]
    simp only [e]
    exact ⟨i1, by rw [i2]; rfl⟩
theorem kvT_put {rs : List Tm} {x : Tm} (h : ∀ u ∈ rs, u.tx ≠ x.tx) : putD (kvT rs) (.inr x.tx) x.d = kvT (rs ++ [x]) := by
  unfold putD
  rw [(kvT_none h).2, if_neg Bool.false_ne_true]
  unfold kvT
  simp
def R_within_of : SpecD := fun ds R _ => ∃ ts : List Tm, ds = [.lst (Tm.ds ts)] ∧ Tm.ns ts < 1000000 ∧ (∀ u ∈ Tm.subss ts, u.n < 1000000 ∧ u.h ≤ 40 ∧ u.cs.length < 1000000) ∧ (∀ u ∈ Tm.subss ts, ∀ v ∈ Tm.subss ts, u.tx = v.tx → u = v) ∧
  ∀ rs, Within ts rs → R (.own (Tm.ds (rs.mergeSort tmLe)))
theorem keys_lc (rs : List Tm) (inj : ∀ u ∈ rs, ∀ v ∈ rs, u.tx = v.tx → u = v) (Δ0 : Dl) (Q : List D → Prop) (h1 : ∀ z, (Δ0.set 4 z)[1]? = some (some (.fro (.dic (kvT rs))))) (h4 : 4 < Δ0.length) (hz : rs.length < 1000000) :
    ∀ (us acc : List Tm), (∀ u ∈ us, u ∈ rs) → acc.length + us.length ≤ rs.length → Q (Tm.ds (acc ++ us)) → lcR (dgName 4) (fun _ Q _ => Q true) (dOp fDget (dVar 1) (dVar 4)) Δ0 ((kvT us).map fun kv => dKey kv.1) (Tm.ds acc) Q
  | [], acc, _, _, hq => by
    rw [List.append_nil] at hq
    exact hq
  | u :: us, acc, hu, hl, hq => by
    unfold kvT
    rw [List.map_cons, List.map_cons]
    unfold lcR
    have g4 : (Δ0.set 4 (some (.fro (.str u.tx))))[4]? = some (some (.fro (.str u.tx))) := List.getElem?_set_self h4
    show dgName 4 (.str u.tx) Δ0 _
    simp only [dgName, dOp, dVar, h1, g4, Sd.view, fDget, Sd.dat, keyD, if_true, sFrz, kvT_get (hu u List.mem_cons_self) fun v hv e => inj v hv u (hu u List.mem_cons_self) e]
    rw [List.length_cons] at hl
    refine ⟨by rw [Tm.ds_len, sizeLine_eq]; omega, ?_⟩
    rw [← ds_snoc]
    have := keys_lc rs inj Δ0 Q h1 h4 hz us (acc ++ [u]) (fun v hv => hu v (List.mem_cons_of_mem _ hv)) (by simp; omega) (by simpa using hq)
    exact this
theorem p_within_of (ds : List D) (R : Sd → Prop) (E : ED → Prop) (h : R_within_of ds R E) : bodyD N_within_of (T_within_of R_text_of R_ascending) ds R E := by
  obtain ⟨ts, rfl, hn, hb, inj, hR⟩ := h
  unfold T_within_of
  simp only [bodyD, startD, dSeq, dSet, dC, dCB, bCons, bNil, fLstOf, dVar, Sd.view, Sd.dat, Sd.stored, List.map_cons, List.map_nil, List.length_cons, List.length_nil, List.cons_append, List.nil_append, List.replicate_succ, List.replicate_zero, List.set_cons_zero, List.set_cons_succ, List.getElem?_cons_zero, List.getElem?_cons_succ]
  refine ⟨trivial, trivial, ?_⟩
  refine ⟨fun m Δ => ∃ (rs ws : List Tm) (z3 z4 : Option Sd), m = Tm.ns ws ∧ WInv ts rs ws ∧ Δ = [some (.fro (.lst (Tm.ds ts))), some (.ownd (kvT rs)), some (.own (Tm.ds ws)), z3, z4], ⟨_, [], ts, none, none, rfl, .start ts, rfl⟩, ?_⟩
  rintro m Δ ⟨rs, ws, z3, z4, rfl, inv, rfl⟩
  have injr : ∀ u ∈ rs, ∀ v ∈ rs, u.tx = v.tx → u = v := fun u hu v hv => inj u (inv.rsub u hu) v (inv.rsub v hv)
  have hlen := inv.len
  rcases snoc_cases ws with rfl | ⟨ws, x, rfl⟩
  · have hW := inv.done
    simp only [dSeq, dNext, dRet, dRetN, dIfS, dSet, dDrop, dFor, dWhile, dAppend, dExtend, dSetX, dAsgG, dAsgX, dAugI, dgName, dgCons, dgNil, dgTup, dVar, dC, dOp, dCB, dCall, dTup, dLst, dCons, dNil, bCons, bNil, dSl, oNone, oSome, dTst, tstB, dAnd, dOr, dNot, vAnd, vOr, vNot, dIf, dUn, dChain, chN, dSeqOf, dTupOf, dStrOf, dRng, dEnum, dIsN, isNQ, sFrz, dLc, dRev, dFz, bodyD, startD, Sd.view, Sd.dat, Sd.stored, Sd.ret, fAdd, fSub, fMulA, fI, fCI, fCmp, fEq, fIn, fInS, fIx, fSl, fLen, fIsi, fSum, f1i, f2i, fTupOf, fLstOf, fBl, fSort, fDictP, fRev, fNeg, fDin, fDget, keyD, xOf, xPop, xSl, ownAt, seqOf, seqD, dExtendX, List.set_cons_zero, List.set_cons_succ, List.getElem?_cons_zero, List.getElem?_cons_succ, List.map_cons, List.map_nil, List.cons_append, List.nil_append, List.length_cons, List.length_nil, List.replicate_succ, List.replicate_zero, if_true, if_false, Bool.false_eq_true, Bool.not_true, Bool.not_false, dFreeze, frzSlot, dLcKeys, dicAt, wipeD]
    refine iteB (fun h => by cases h) fun _ => ?_
    refine keys_lc rs injr [some (.fro (.lst (Tm.ds ts))), some (.fro (.dic (kvT rs))), some (.own (Tm.ds [])), z3, none] _ (fun z => rfl) (show 4 < 5 by decide) (by omega) rs [] (fun u hu => hu) (by simp) ?_
    rw [List.nil_append]
    exact ⟨rs, rfl, fun t ht => ⟨(hb t (inv.rsub t ht)).1, (hb t (inv.rsub t ht)).2.1⟩, hR rs hW⟩
  · have hx := inv.wsub x (by simp)
    obtain ⟨hx1, hx2, hx3⟩ := hb x hx
    have xn := x.n_eq
    have wl := Tm.len_ns ws
    have xl := Tm.len_ns x.as
    rw [Tm.ns_app, Tm.ns, Tm.ns] at hlen
    have e1 : R_text_of [x.d] = R_text_of [x.d] := rfl
    simp only [bodyD, dSeq, dTst, tstB, dOp, fCI, dCB, bCons, bNil, fLen, dVar, dC, Sd.view, Sd.dat, List.getElem?_cons_zero, List.getElem?_cons_succ]
    refine iteB (fun _ => ?_) fun h => by rw [Tm.ds_len] at h; simp [pGt] at h
    unfold dSetX xPop ownAt
    simp only [List.getElem?_cons_zero, List.getElem?_cons_succ, ds_snoc, last_snoc, drop_snoc, List.set_cons_zero, List.set_cons_succ, dSet, dCall, dCons, dNil, dVar, Sd.view, sFrz]
    refine ⟨x, rfl, hx1, hx3, rfl, ?_⟩
    simp only [Sd.ret, List.set_cons_zero, List.set_cons_succ, dIfS, dTst, tstB, dOp, dVar, fDin, Sd.view, Sd.dat, keyD, List.getElem?_cons_zero, List.getElem?_cons_succ, if_true]
    by_cases hin : x ∈ rs
    · rw [kvT_get hin fun u hu e => injr u hu x hin e]
      refine iteB (fun h => by cases h) fun _ => ?_
      refine ⟨Tm.ns ws, ?_, rs, ws, _, _, rfl, inv.old hin, rfl⟩
      rw [Tm.ns_app, Tm.ns, Tm.ns]; omega
    · have hne : ∀ u ∈ rs, u.tx ≠ x.tx := fun u hu e => hin (by rw [← inj u (inv.rsub u hu) x hx e]; exact hu)
      rw [(kvT_none hne).1]
      refine iteB (fun _ => ?_) fun h => by cases h
      unfold dDput owndAt dExtend ownAt
      simp only [dVar, Sd.view, sFrz, Sd.dat, keyD, List.getElem?_cons_zero, List.getElem?_cons_succ, List.set_cons_zero, List.set_cons_succ, dSl, oSome, oNone, dC, fSl, seqOf]
      have kl : (kvT rs).length = rs.length := List.length_map _
      refine ⟨by rw [kl, sizeLine_eq]; omega, ?_⟩
      rw [kvT_put hne, Tm.d_eq x]
      simp only [cut1, Tm.ds_len, List.getElem?_cons_zero, List.getElem?_cons_succ, List.set_cons_zero, List.set_cons_succ, Sd.view, Sd.dat]
      refine ⟨by rw [sizeLine_eq]; omega, Tm.ns (ws ++ x.as), ?_, rs ++ [x], ws ++ x.as, _, _, rfl, inv.new hin, by rw [Tm.ds_app]⟩
      rw [Tm.ns_app, Tm.ns_app, Tm.ns, Tm.ns]; omega
end DL
set_option Elab.async false
set_option linter.all false
set_option maxRecDepth 100000
set_option maxHeartbeats 4000000
namespace DL
open PySem PySem.Spec PyProof.Rows L2
/-! ### == of terms -/
mutual
theorem Tm.eqv_iff : ∀ t u : Tm, PyData.eqv t.d.py u.d.py = true ↔ t = u
  | .mk f as, .mk g bs => by
    simp only [Tm.d, D.py, D.pys, PyData.eqv, PyData.eqvAll, Bool.and_eq_true, beq_iff_eq, Tm.mk.injEq]
    rw [Tm.eqvs_iff as bs]
theorem Tm.eqvs_iff : ∀ ts us : List Tm, PyData.eqvAll (D.pys (Tm.ds ts)) (D.pys (Tm.ds us)) = true ↔ ts = us
  | [], [] => by simp only [Tm.ds, D.pys, PyData.eqvAll]
  | [], _ :: _ => by simp [Tm.ds, D.pys, PyData.eqvAll]
  | _ :: _, [] => by simp [Tm.ds, D.pys, PyData.eqvAll]
  | t :: ts, u :: us => by
    simp only [Tm.ds, D.pys, PyData.eqvAll, Bool.and_eq_true, List.cons.injEq]
    rw [Tm.eqv_iff t u, Tm.eqvs_iff ts us]
end
def strsOk (t : Tm) : Prop := t.all fun f _ => PyData.strOk f = true
theorem okD_tm {t : Tm} (h : t.h ≤ 60) (hs : strsOk t) : okD t.d := by
  refine ⟨Tm.pure t, ?_⟩
  unfold SeqAt.shaped
  rw [Tm.lay t hs, Bool.true_and]
  have := Tm.dep t
  exact decide_eq_true (by omega)
theorem alls_of {ts : List Tm} (h : ∀ t ∈ ts, strsOk t) : Tm.alls (fun f _ => PyData.strOk f = true) ts := Tm.alls_iff.mpr h
theorem hs_of {n : Nat} : ∀ {ts : List Tm}, (∀ t ∈ ts, t.h ≤ n) → Tm.hs ts ≤ n
  | [], _ => by rw [Tm.hs]; omega
  | t :: r, h => by
    rw [Tm.hs]
    have h1 := h t List.mem_cons_self
    have h2 := hs_of fun u hu => h u (List.mem_cons_of_mem t hu)
    omega
theorem okD_tms {ts : List Tm} (h : ∀ t ∈ ts, t.h ≤ 60 ∧ strsOk t) : okD (.lst (Tm.ds ts)) := by
  refine ⟨by simp only [D.pure]; exact Tm.pures ts, ?_⟩
  unfold SeqAt.shaped
  have h1 := Tm.deps ts
  have h2 := hs_of fun t ht => (h t ht).1
  rw [show (D.lst (Tm.ds ts)).py.canLay0 = true by simp only [D.py, PyData.canLay0]; exact Tm.lays ts (alls_of fun t ht => (h t ht).2), Bool.true_and]
  refine decide_eq_true ?_
  simp only [D.py, PyData.depth]
  omega
theorem anyD_tm (x : Tm) (ts : List Tm) : anyD x.d (Tm.ds ts) = true ↔ x ∈ ts := by
  unfold anyD
  induction ts with
  | nil => simp [Tm.ds, D.pys]
  | cons t r ih =>
    simp only [Tm.ds, D.pys, List.any_cons, Bool.or_eq_true, List.mem_cons]
    rw [ih, Tm.eqv_iff]
    exact ⟨fun h => h.imp (fun e => e.symm) id, fun h => h.imp (fun e => e.symm) id⟩
/-! ### _law_size, _law_key -/
def R__law_size (h : Nat) : SpecD := fun ds R _ => ∃ t : Tm, ds = [t.d] ∧ t.h ≤ h ∧ t.n < 1000000 ∧ R (.fro (.int t.n))
theorem size_lc (h : Nat) (Δ0 : Dl) (h1 : 1 < Δ0.length) (Q : List D → Prop) : ∀ (as acc : List Tm), (∀ a ∈ as, a.h ≤ h ∧ a.n < 1000000) → acc.length + as.length < 1000000 → Q ((acc ++ as).map fun t => .int t.n) →
    lcR (dgName 1) (fun _ Q _ => Q true) (dCall (R__law_size h) (dCons (dVar 1) dNil)) Δ0 (Tm.ds as) (acc.map fun t => .int t.n) Q
  | [], acc, _, _, q => by
    rw [List.append_nil] at q
    rw [Tm.ds]
    exact q
  | a :: as, acc, ha, hl, q => by
    rw [Tm.ds]
    show dgName 1 a.d Δ0 _
    have g : (Δ0.set 1 (some (.fro a.d)))[1]? = some (some (.fro a.d)) := List.getElem?_set_self h1
    simp only [dgName, dCall, dCons, dNil, dVar, g, Sd.view, sFrz, if_true]
    rw [List.length_cons] at hl
    refine ⟨a, rfl, (ha a List.mem_cons_self).1, (ha a List.mem_cons_self).2, ?_⟩
    refine ⟨by rw [List.length_map, sizeLine_eq]; omega, ?_⟩
    have e : (acc.map fun t : Tm => D.int t.n) ++ [D.int a.n] = (acc ++ [a]).map fun t => .int t.n := by simp
    rw [e]
    exact size_lc h Δ0 h1 Q as (acc ++ [a]) (fun b hb => ha b (List.mem_cons_of_mem _ hb)) (by simp; omega) (by simpa using q)
theorem ints_n (ts : List Tm) : intsOf (ts.map fun t => D.int t.n) = some (ts.map fun t => (t.n : Int)) := by
  have := intsOf_intD (ts.map fun t => (t.n : Int))
  unfold intD at this
  rw [List.map_map] at this
  exact this
theorem sum_n (ts : List Tm) : (ts.map fun t => (t.n : Int)).sum = (Tm.ns ts : Int) := by
  induction ts with
  | nil => rw [Tm.ns]; rfl
  | cons t r ih => rw [List.map_cons, List.sum_cons, ih, Tm.ns]; omega
theorem p__law_size (h : Nat) (ds : List D) (R : Sd → Prop) (E : ED → Prop) (hh : R__law_size (h + 1) ds R E) : bodyD N__law_size (T__law_size (R__law_size h)) ds R E := by
  obtain ⟨t, rfl, h1, h2, hR⟩ := hh
  have th := t.h_eq
  have tn := t.n_eq
  have tl := Tm.len_ns t.as
  unfold T__law_size
  simp only [bodyD, startD, dRet, dOp, dC, dCB, bCons, bNil, dLc, dTupOf, dSl, dVar, oSome, oNone, Sd.view, Sd.dat, Tm.d_eq t, fSl, cut1, wipeD, List.map_cons, List.map_nil, List.length_cons, List.length_nil, List.cons_append, List.nil_append, List.replicate_succ, List.replicate_zero, List.set_cons_zero, List.set_cons_succ, List.getElem?_cons_zero, List.getElem?_cons_succ]
  refine size_lc h [some (.fro (.tup (.str t.f :: Tm.ds t.as))), none] (show 1 < 2 by decide) _ t.as [] (fun a ha => ?_) (by simp; omega) ?_
  · have := Tm.hs_le ha
    have := Tm.n_le ha
    exact ⟨by omega, by omega⟩
  · rw [List.nil_append]
    simp only [fSum, Sd.dat, ints_n, fAdd, sum_n]
    have e : (1 : Int) + (Tm.ns t.as : Int) = (t.n : Int) := by omega
    rw [e]
    exact hR
def R__law_key : SpecD := fun ds R _ => ∃ t : Tm, ds = [t.d] ∧ t.h ≤ 40 ∧ t.n < 1000000 ∧ R (.fro t.key)
theorem p__law_key (ds : List D) (R : Sd → Prop) (E : ED → Prop) (h : R__law_key ds R E) : bodyD N__law_key (T__law_key (R__law_size 40)) ds R E := by
  obtain ⟨t, rfl, h1, h2, hR⟩ := h
  unfold T__law_key
  simp only [dSeq, dNext, dRet, dRetN, dIfS, dSet, dDrop, dFor, dWhile, dAppend, dExtend, dSetX, dAsgG, dAsgX, dAugI, dgName, dgCons, dgNil, dgTup, dVar, dC, dOp, dCB, dCall, dTup, dLst, dCons, dNil, bCons, bNil, dSl, oNone, oSome, dTst, tstB, dAnd, dOr, dNot, vAnd, vOr, vNot, dIf, dUn, dChain, chN, dSeqOf, dTupOf, dStrOf, dRng, dEnum, dIsN, isNQ, sFrz, dLc, dRev, dFz, bodyD, startD, Sd.view, Sd.dat, Sd.stored, Sd.ret, fAdd, fSub, fMulA, fI, fCI, fCmp, fEq, fIn, fInS, fIx, fSl, fLen, fIsi, fSum, f1i, f2i, fTupOf, fLstOf, fBl, fSort, fDictP, fRev, fNeg, fDin, fDget, keyD, xOf, xPop, xSl, ownAt, seqOf, seqD, dExtendX, List.set_cons_zero, List.set_cons_succ, List.getElem?_cons_zero, List.getElem?_cons_succ, List.map_cons, List.map_nil, List.cons_append, List.nil_append, List.length_cons, List.length_nil, List.replicate_succ, List.replicate_zero, if_true, if_false, Bool.false_eq_true, Bool.not_true, Bool.not_false]
  exact ⟨t, rfl, h1, h2, by decide, hR⟩
/-! ### _law_within -/
def R__law_within : SpecD := fun ds R _ => ∃ ts : List Tm, ds = [.lst (Tm.ds ts)] ∧ Tm.ns ts < 1000000 ∧ (∀ u ∈ Tm.subss ts, u.n < 1000000 ∧ u.h ≤ 40 ∧ strsOk u) ∧ ∀ rs, Within ts rs → R (.own (Tm.ds (rs.mergeSort tmLe)))
theorem p__law_within (ds : List D) (R : Sd → Prop) (E : ED → Prop) (h : R__law_within ds R E) : bodyD N__law_within (T__law_within R__law_key) ds R E := by
  obtain ⟨ts, rfl, hn, hb, hR⟩ := h
  unfold T__law_within
  simp only [bodyD, startD, dSeq, dSet, dC, dLst, dNil, dCB, bCons, bNil, fLstOf, dVar, Sd.view, Sd.dat, Sd.stored, List.map_cons, List.map_nil, List.length_cons, List.length_nil, List.cons_append, List.nil_append, List.replicate_succ, List.replicate_zero, List.set_cons_zero, List.set_cons_succ, List.getElem?_cons_zero, List.getElem?_cons_succ]
  refine ⟨by decide, trivial, trivial, ?_⟩
  refine ⟨fun m Δ => ∃ (rs ws : List Tm) (z3 : Option Sd), m = Tm.ns ws ∧ WInv ts rs ws ∧ Δ = [some (.fro (.lst (Tm.ds ts))), some (.own (Tm.ds rs)), some (.own (Tm.ds ws)), z3], ⟨_, [], ts, none, rfl, .start ts, by rw [Tm.ds]⟩, ?_⟩
  rintro m Δ ⟨rs, ws, z3, rfl, inv, rfl⟩
  have hlen := inv.len
  rcases snoc_cases ws with rfl | ⟨ws, x, rfl⟩
  · have hW := inv.done
    unfold dSortK sortKQ
    simp only [dSeq, dNext, dRet, dRetN, dIfS, dSet, dDrop, dFor, dWhile, dAppend, dExtend, dSetX, dAsgG, dAsgX, dAugI, dgName, dgCons, dgNil, dgTup, dVar, dC, dOp, dCB, dCall, dTup, dLst, dCons, dNil, bCons, bNil, dSl, oNone, oSome, dTst, tstB, dAnd, dOr, dNot, vAnd, vOr, vNot, dIf, dUn, dChain, chN, dSeqOf, dTupOf, dStrOf, dRng, dEnum, dIsN, isNQ, sFrz, dLc, dRev, dFz, bodyD, startD, Sd.view, Sd.dat, Sd.stored, Sd.ret, fAdd, fSub, fMulA, fI, fCI, fCmp, fEq, fIn, fInS, fIx, fSl, fLen, fIsi, fSum, f1i, f2i, fTupOf, fLstOf, fBl, fSort, fDictP, fRev, fNeg, fDin, fDget, keyD, xOf, xPop, xSl, ownAt, seqOf, seqD, dExtendX, List.set_cons_zero, List.set_cons_succ, List.getElem?_cons_zero, List.getElem?_cons_succ, List.map_cons, List.map_nil, List.cons_append, List.nil_append, List.length_cons, List.length_nil, List.replicate_succ, List.replicate_zero, if_true, if_false, Bool.false_eq_true, Bool.not_true, Bool.not_false]
    refine iteB (fun h => by cases h) fun _ => ?_
    refine ⟨keyF, fun d hd => ?_, by rw [keyF_ds]; exact okSort_keys fun t h => (hb t (inv.rsub t h)).2.1, by rw [sort_ds]; exact hR rs hW⟩
    rw [Tm.ds_map] at hd
    obtain ⟨t, ht, rfl⟩ := List.mem_map.mp hd
    exact ⟨t, rfl, (hb t (inv.rsub t ht)).2.1, (hb t (inv.rsub t ht)).1, by rw [keyF_d]⟩
  · have hx := inv.wsub x (by simp)
    obtain ⟨hx1, hx2, hx3⟩ := hb x hx
    have xn := x.n_eq
    have wl := Tm.len_ns ws
    have xl := Tm.len_ns x.as
    rw [Tm.ns_app, Tm.ns, Tm.ns] at hlen
    simp only [bodyD, dSeq, dTst, tstB, dOp, fCI, dCB, bCons, bNil, fLen, dVar, dC, Sd.view, Sd.dat, List.getElem?_cons_zero, List.getElem?_cons_succ]
    refine iteB (fun _ => ?_) fun h => by rw [Tm.ds_len] at h; simp [pGt] at h
    unfold dSetX xPop ownAt
    simp only [List.getElem?_cons_zero, List.getElem?_cons_succ, ds_snoc, last_snoc, drop_snoc, List.set_cons_zero, List.set_cons_succ, dIfS, dTst, tstB, dOp, dVar, fIn, Sd.view, Sd.dat, if_true]
    refine ⟨⟨okD_tm (by omega) hx3, okD_tms fun t ht => ⟨by have := (hb t (inv.rsub t ht)).2.1; omega, (hb t (inv.rsub t ht)).2.2⟩⟩, ?_⟩
    by_cases hin : x ∈ rs
    · rw [(anyD_tm x rs).mpr hin]
      refine iteB (fun h => by cases h) fun _ => ?_
      refine ⟨Tm.ns ws, ?_, rs, ws, _, rfl, inv.old hin, rfl⟩
      rw [Tm.ns_app, Tm.ns, Tm.ns]; omega
    · have ha : anyD x.d (Tm.ds rs) = false := by
        cases e : anyD x.d (Tm.ds rs) with
        | false => rfl
        | true => exact absurd ((anyD_tm x rs).mp e) hin
      rw [ha]
      refine iteB (fun _ => ?_) fun h => by cases h
      unfold dAppend ownAt
      simp only [dSeq, dSet, dOp, dCB, bCons, bNil, dVar, Sd.view, sFrz, Sd.dat, Sd.stored, List.getElem?_cons_zero, List.getElem?_cons_succ, List.set_cons_zero, List.set_cons_succ, dSl, oSome, oNone, dC, fSl, fLstOf, fAdd, Tm.d_eq x, cut1, Tm.ds_len]
      refine ⟨by rw [sizeLine_eq]; omega, by rw [sizeLine_eq]; omega, trivial, Tm.ns (ws ++ x.as), ?_, rs ++ [x], ws ++ x.as, _, rfl, inv.new hin, by rw [ds_snoc, Tm.ds_app, Tm.d_eq x]⟩
      rw [Tm.ns_app, Tm.ns_app, Tm.ns, Tm.ns]; omega
end DL
set_option Elab.async false
set_option linter.all false
set_option maxRecDepth 100000
set_option maxHeartbeats 4000000
namespace DL
open PySem PySem.Spec PyProof.Rows L2
/-! ### _law_told -/
theorem side_lc (k : Int) (p : Ln → Tm) (Δ0 : Dl) (h1 : 1 < Δ0.length) (hk : ∀ x : Ln, atI [x.l.d, x.r.d] k = some (p x).d) (Q : List D → Prop) : ∀ (ls : List Ln) (acc : List Tm), acc.length + ls.length < 1000000 → Q (Tm.ds (acc ++ ls.map p)) →
    lcR (dgName 1) (fun _ Q _ => Q true) (dOp fIx (dVar 1) (dC (.fro (.int k)))) Δ0 (lnD ls) (Tm.ds acc) Q
  | [], acc, _, q => by
    rw [List.map_nil, List.append_nil] at q
    exact q
  | x :: r, acc, hl, q => by
    show dgName 1 (.tup [x.l.d, x.r.d]) Δ0 _
    have g : (Δ0.set 1 (some (.fro (.tup [x.l.d, x.r.d]))))[1]? = some (some (.fro (.tup [x.l.d, x.r.d]))) := List.getElem?_set_self h1
    rw [List.length_cons] at hl
    simp only [dgName, dOp, dVar, g, Sd.view, dC, fIx, Sd.dat, hk x, sFrz, if_true]
    refine ⟨by rw [Tm.ds_len, sizeLine_eq]; omega, ?_⟩
    rw [← ds_snoc]
    exact side_lc k p Δ0 h1 hk Q r (acc ++ [p x]) (by simp; omega) (by simpa using q)
def lefts (ls : List Ln) : List Tm := ls.map Ln.l ++ ls.map Ln.r
theorem sides_mem (u : Tm) (ls : List Ln) : u ∈ Tm.subss (sides ls) ↔ u ∈ Tm.subss (lefts ls) := by
  unfold lefts
  rw [Tm.subss_app, List.mem_append]
  induction ls with
  | nil => simp [sides, Tm.subss]
  | cons x r ih =>
    rw [sides, Tm.subss, Tm.subss, List.mem_append, List.mem_append, ih, List.map_cons, List.map_cons, Tm.subss, Tm.subss, List.mem_append, List.mem_append]
    constructor
    · rintro (h | h | h | h)
      · exact .inl (.inl h)
      · exact .inr (.inl h)
      · exact .inl (.inr h)
      · exact .inr (.inr h)
    · rintro ((h | h) | (h | h))
      · exact .inl h
      · exact .inr (.inr (.inl h))
      · exact .inr (.inl h)
      · exact .inr (.inr (.inr h))
theorem Within.len {ts us rs qs : List Tm} (h : Within ts rs) (g : Within us qs) (e : ∀ u, u ∈ Tm.subss ts ↔ u ∈ Tm.subss us) : rs.length = qs.length :=
  ((List.perm_ext_iff_of_nodup h.1 g.1).mpr fun u => by rw [h.2, g.2, e]).length_eq
def R__law_told : SpecD := fun ds R _ => ∃ ls : List Ln, ds = [.tup (lnD ls)] ∧ ls.length < 1000 ∧ Tm.ns (lefts ls) < 1000000 ∧ (∀ u ∈ Tm.subss (lefts ls), u.n < 1000000 ∧ u.h ≤ 40 ∧ strsOk u) ∧ ∀ rs, Within (lefts ls) rs → R (.own (Tm.ds (rs.mergeSort tmLe)))
theorem p__law_told (ds : List D) (R : Sd → Prop) (E : ED → Prop) (h : R__law_told ds R E) : bodyD N__law_told (T__law_told R__law_within) ds R E := by
  obtain ⟨ls, rfl, h1, h2, h3, hR⟩ := h
  unfold T__law_told
  simp only [bodyD, startD, dRet, dCall, dCons, dNil, dOp, dLc, dTupOf, dVar, Sd.view, wipeD, List.map_cons, List.map_nil, List.length_cons, List.length_nil, List.cons_append, List.nil_append, List.replicate_succ, List.replicate_zero, List.set_cons_zero, List.set_cons_succ, List.getElem?_cons_zero, List.getElem?_cons_succ]
  refine side_lc 0 Ln.l [some (.fro (.tup (lnD ls))), none] (show 1 < 2 by decide) (fun x => atI_0 _ _) _ ls [] (by simp; omega) ?_
  refine side_lc 1 Ln.r [some (.fro (.tup (lnD ls))), none] (show 1 < 2 by decide) (fun x => atI_1 _ _ _) _ ls [] (by simp; omega) ?_
  rw [List.nil_append, List.nil_append]
  simp only [fAdd, Sd.dat, Tm.ds_len, List.length_map, sFrz, ← Tm.ds_app]
  exact ⟨by rw [sizeLine_eq]; omega, lefts ls, rfl, h2, h3, fun rs hr => hR rs hr⟩
end DL
set_option Elab.async false
set_option linter.all false
set_option maxRecDepth 100000
set_option maxHeartbeats 4000000
namespace DL
open PySem PySem.Spec PyProof.Rows L2
/-! ### signs -/
abbrev Sg := List (Str × Nat)
def prD (p : Str × Nat) : D := .tup [.str p.1, .int p.2]
def sgD (s : Sg) : List D := s.map prD
theorem sgD_app (a b : Sg) : sgD (a ++ b) = sgD a ++ sgD b := List.map_append
theorem cut_take (xs : List D) (n : Nat) : cutD xs none (some (n : Int)) = xs.take n := by
  unfold cutD
  rw [HT.sIx_none, HT.sIx_nat, List.drop_zero, Nat.sub_zero]
  rcases Nat.le_total n xs.length with h | h
  · rw [Nat.min_eq_left h]
  · rw [Nat.min_eq_right h, List.take_of_length_le h, List.take_of_length_le (Nat.le_refl _)]
def sgA : Sg := [("a", 0), ("b", 0), ("c", 0)]
def sgB : Sg := [("f", 1), ("g", 1), ("h", 1)]
def sgC : Sg := [("p", 2), ("q", 2)]
def signsOf (i j k : Nat) : Sg := sgA.take (1 + i) ++ sgB.take j ++ sgC.take (k - 1)
theorem take_sgD (s : Sg) (n : Nat) : (sgD s).take n = sgD (s.take n) := by unfold sgD; rw [List.map_take]
theorem signs_sorted : ∀ i : Fin 3, ∀ j : Fin 4, ∀ k : Fin 4, (sgD (signsOf i j k)).Pairwise (fun a b => dLe id a b = true) := by decide +kernel
theorem okSort_sg (s : Sg) : okSort (sgD s) := by
  refine ⟨pures_of fun d hd => ?_, ?_, .inl fun d hd => ?_, fun d hd => ?_⟩
  · obtain ⟨p, _, rfl⟩ := List.mem_map.mp hd
    rfl
  · intro d hd e he
    obtain ⟨d', hd', rfl⟩ := List.mem_map.mp hd
    obtain ⟨e', he', rfl⟩ := List.mem_map.mp he
    obtain ⟨p, _, rfl⟩ := List.mem_map.mp hd'
    obtain ⟨q, _, rfl⟩ := List.mem_map.mp he'
    simp only [prD, D.py, D.pys, PySem.W.alike, PySem.W.alikeAll, Bool.and_true]
  · obtain ⟨d', hd', rfl⟩ := List.mem_map.mp hd
    obtain ⟨p, _, rfl⟩ := List.mem_map.mp hd'
    exact ⟨_, _, by simp only [prD, D.py, D.pys]; rfl⟩
  · obtain ⟨p, _, rfl⟩ := List.mem_map.mp hd
    simp only [prD, D.py, D.pys, PyData.depth, PyData.depthAll]
    omega
def R__law_signs : SpecD := fun ds R _ => ds = [.cell 0 []] ∧ ∀ i j k : Nat, i < 3 → j < 4 → k < 4 → R (.fro (.tup (sgD (signsOf i j k))))
theorem p__law_signs (ds : List D) (R : Sd → Prop) (E : ED → Prop) (h : R__law_signs ds R E) : bodyD N__law_signs (T__law_signs R_u_law_draw) ds R E := by
  obtain ⟨rfl, hR⟩ := h
  have z2 : 2 ≤ sizeLine := by rw [sizeLine_eq]; decide
  have z3 : 3 ≤ sizeLine := by rw [sizeLine_eq]; decide
  conv => whnf
  refine ⟨z2, ?_⟩
  conv => whnf
  refine ⟨z2, ?_⟩
  conv => whnf
  refine ⟨z2, ?_⟩
  conv => whnf
  refine ⟨z3, ?_⟩
  conv => whnf
  refine ⟨3, rfl, by decide, by decide, fun d0 h0 h1 => ?_⟩
  obtain ⟨i, rfl⟩ := Int.eq_ofNat_of_zero_le h0
  conv => whnf
  refine ⟨rfl, ?_⟩
  conv => whnf
  refine ⟨z2, ?_⟩
  conv => whnf
  refine ⟨z2, ?_⟩
  conv => whnf
  refine ⟨z2, ?_⟩
  conv => whnf
  refine ⟨z3, ?_⟩
  conv => whnf
  refine ⟨4, rfl, by decide, by decide, fun d1 g0 g1 => ?_⟩
  obtain ⟨j, rfl⟩ := Int.eq_ofNat_of_zero_le g0
  have sA : cutD [prD ("a", 0), prD ("b", 0), prD ("c", 0)] none (some (1 + (i : Int))) = sgD (sgA.take (1 + i)) := by
    rw [show (1 + (i : Int)) = ((1 + i : Nat) : Int) by omega, cut_take]
    exact take_sgD sgA (1 + i)
  have sB : cutD [prD ("f", 1), prD ("g", 1), prD ("h", 1)] none (some (j : Int)) = sgD (sgB.take j) := by
    rw [cut_take]
    exact take_sgD sgB j
  have lA : (cutD [prD ("a", 0), prD ("b", 0), prD ("c", 0)] none (some (1 + (i : Int)))).length ≤ 3 := by
    rw [sA]; unfold sgD; rw [List.length_map, List.length_take]; exact Nat.min_le_right _ _
  have lB : (cutD [prD ("f", 1), prD ("g", 1), prD ("h", 1)] none (some (j : Int))).length ≤ 3 := by
    rw [sB]; unfold sgD; rw [List.length_map, List.length_take]; exact Nat.min_le_right _ _
  conv => whnf
  refine ⟨Nat.le_trans (Nat.add_le_add lA lB) (by rw [sizeLine_eq]; decide), ?_⟩
  conv => whnf
  refine ⟨rfl, ?_⟩
  conv => whnf
  refine ⟨z2, ?_⟩
  conv => whnf
  refine ⟨z2, ?_⟩
  conv => whnf
  refine ⟨Nat.le_trans (by decide) z2, ?_⟩
  conv => whnf
  refine ⟨4, rfl, by decide, by decide, fun d2 e0 e1 => ?_⟩
  obtain ⟨k, rfl⟩ := Int.eq_ofNat_of_zero_le e0
  have sC : cutD [prD ("p", 2), prD ("q", 2)] none (some (if (k : Int) - 1 > 0 then (k : Int) - 1 else 0)) = sgD (sgC.take (k - 1)) := by
    have e : (if (k : Int) - 1 > 0 then (k : Int) - 1 else 0) = ((k - 1 : Nat) : Int) := by split <;> omega
    rw [e, cut_take]
    exact take_sgD sgC (k - 1)
  have lC : (cutD [prD ("p", 2), prD ("q", 2)] none (some (if (k : Int) - 1 > 0 then (k : Int) - 1 else 0))).length ≤ 2 := by
    rw [sC]; unfold sgD; rw [List.length_map, List.length_take]; exact Nat.min_le_right _ _
  conv => whnf
  refine ⟨Nat.le_trans (Nat.add_le_add (by rw [List.length_append]; exact Nat.add_le_add lA lB) lC) (by rw [sizeLine_eq]; decide), ?_⟩
  conv => whnf
  refine ⟨rfl, ?_⟩
  conv => whnf
  have all : (cutD [prD ("a", 0), prD ("b", 0), prD ("c", 0)] none (some (1 + (i : Int))) ++ cutD [prD ("f", 1), prD ("g", 1), prD ("h", 1)] none (some (j : Int))) ++ cutD [prD ("p", 2), prD ("q", 2)] none (some (if (k : Int) - 1 > 0 then (k : Int) - 1 else 0)) = sgD (signsOf i j k) := by
    rw [sA, sB, sC, ← sgD_app, ← sgD_app]
    rfl
  refine ⟨?_, ?_⟩
  · show okSort _
    have := okSort_sg (signsOf i j k)
    rw [← all] at this
    exact this
  · conv => whnf
    have hs := signs_sorted ⟨i, by omega⟩ ⟨j, by omega⟩ ⟨k, by omega⟩
    have hm : (sgD (signsOf i j k)).mergeSort (dLe id) = sgD (signsOf i j k) := List.mergeSort_of_pairwise hs
    have := hR i j k (by omega) (by omega) (by omega)
    rw [← hm, ← all] at this
    exact this
end DL
set_option Elab.async false
set_option linter.all false
set_option maxRecDepth 100000
set_option maxHeartbeats 4000000
namespace DL
open PySem PySem.Spec PyProof.Rows L2
/-! ### a term's text tells the term -/
/-- a sign: no bracket, no comma in it -/
def plainS (f : Str) : Prop := ∀ c ∈ f.cps.toList, c ≠ 40 ∧ c ≠ 41 ∧ c ≠ 44
/-- what may follow a term -/
def endS (r : List Nat) : Prop := r = [] ∨ ∃ c r', r = c :: r' ∧ (c = 41 ∨ c = 44)
def headS (r : List Nat) : Prop := r = [] ∨ ∃ c r', r = c :: r' ∧ (c = 40 ∨ c = 41 ∨ c = 44)
theorem endS.head {r : List Nat} (h : endS r) : headS r := by
  rcases h with h | ⟨c, r', h, e⟩
  · exact .inl h
  · exact .inr ⟨c, r', h, .inr e⟩
theorem sign_split : ∀ {a b r s : List Nat}, (∀ c ∈ a, c ≠ 40 ∧ c ≠ 41 ∧ c ≠ 44) → (∀ c ∈ b, c ≠ 40 ∧ c ≠ 41 ∧ c ≠ 44) → headS r → headS s → a ++ r = b ++ s → a = b ∧ r = s
  | [], [], r, s, _, _, _, _, e => ⟨rfl, e⟩
  | [], y :: b, r, s, _, hb, hr, _, e => by
    exfalso
    obtain ⟨h1, h2, h3⟩ := hb y List.mem_cons_self
    rw [List.nil_append] at e
    rcases hr with rfl | ⟨c, r', rfl, q⟩
    · cases e
    · have : c = y := by injection e
      omega
  | x :: a, [], r, s, ha, _, _, hs, e => by
    exfalso
    obtain ⟨h1, h2, h3⟩ := ha x List.mem_cons_self
    rw [List.nil_append] at e
    rcases hs with rfl | ⟨c, r', rfl, q⟩
    · cases e
    · have : x = c := by injection e
      omega
  | x :: a, y :: b, r, s, ha, hb, hr, hs, e => by
    rw [List.cons_append, List.cons_append] at e
    injection e with e1 e2
    obtain ⟨h1, h2⟩ := sign_split (fun c hc => ha c (List.mem_cons_of_mem _ hc)) (fun c hc => hb c (List.mem_cons_of_mem _ hc)) hr hs e2
    exact ⟨by rw [e1, h1], h2⟩
def plainT (t : Tm) : Prop := t.all fun f _ => plainS f
theorem endS.r (as : List Tm) (r : List Nat) : endS (Tm.csR as ++ (41 :: r)) := by
  cases as with
  | nil => rw [Tm.csR]; exact .inr ⟨41, r, rfl, .inl rfl⟩
  | cons a as => rw [Tm.csR]; exact .inr ⟨44, _, rfl, .inr rfl⟩
mutual
theorem Tm.cs_inj : ∀ (t u : Tm) {r s : List Nat}, plainT t → plainT u → endS r → endS s → t.cs ++ r = u.cs ++ s → t = u ∧ r = s
  | .mk f as, .mk g bs, r, s, ht, hu, hr, hs, e => by
    unfold plainT at ht hu
    rw [Tm.all] at ht hu
    rw [Tm.cs.eq_def, Tm.cs.eq_def (.mk g bs)] at e
    dsimp only at e
    rw [List.append_assoc, List.append_assoc] at e
    have hd : ∀ (cs : List Tm) {q : List Nat}, endS q → headS ((match cs with
      | [] => []
      | _ :: _ => 40 :: (Tm.csA cs ++ [41])) ++ q) := fun cs q hq => by
      cases cs with
      | nil => exact hq.head
      | cons a r => exact .inr ⟨40, _, rfl, .inl rfl⟩
    obtain ⟨e1, e2⟩ := sign_split ht.1 hu.1 (hd as hr) (hd bs hs) e
    have ef : f = g := Str.ext' (Array.toList_inj.mp e1)
    subst ef
    cases as with
    | nil =>
      cases bs with
      | nil => exact ⟨rfl, e2⟩
      | cons b bs =>
        exfalso
        have e2' : r = 40 :: ((Tm.csA (b :: bs) ++ [41]) ++ s) := e2
        rcases hr with rfl | ⟨c, r', rfl, q⟩
        · cases e2'
        · injection e2' with e3 _
          omega
    | cons a as =>
      cases bs with
      | nil =>
        exfalso
        have e2' : 40 :: ((Tm.csA (a :: as) ++ [41]) ++ r) = s := e2
        rcases hs with rfl | ⟨c, r', rfl, q⟩
        · cases e2'
        · injection e2' with e3 _
          omega
      | cons b bs =>
        have e2' : 40 :: ((Tm.csA (a :: as) ++ [41]) ++ r) = 40 :: ((Tm.csA (b :: bs) ++ [41]) ++ s) := e2
        injection e2' with _ e3
        rw [Tm.csA, Tm.csA, List.append_assoc, List.append_assoc, List.append_assoc, List.append_assoc] at e3
        rw [Tm.alls] at ht hu
        obtain ⟨h1, h2⟩ := Tm.cs_inj a b ht.2.1 hu.2.1 (endS.r as r) (endS.r bs s) e3
        obtain ⟨h3, h4⟩ := Tm.csR_inj as bs ht.2.2 hu.2.2 h2
        rw [h1, h3]
        exact ⟨rfl, h4⟩
theorem Tm.csR_inj : ∀ (as bs : List Tm) {r s : List Nat}, Tm.alls (fun f _ => plainS f) as → Tm.alls (fun f _ => plainS f) bs → Tm.csR as ++ (41 :: r) = Tm.csR bs ++ (41 :: s) → as = bs ∧ r = s
  | [], [], r, s, _, _, e => by
    rw [Tm.csR] at e
    injection e with _ e
    exact ⟨rfl, e⟩
  | [], b :: bs, r, s, _, _, e => by
    rw [Tm.csR, Tm.csR] at e
    injection e with e _
    omega
  | a :: as, [], r, s, _, _, e => by
    rw [Tm.csR, Tm.csR] at e
    injection e with e _
    omega
  | a :: as, b :: bs, r, s, ha, hb, e => by
    rw [Tm.csR, Tm.csR] at e
    injection e with _ e
    rw [Tm.alls] at ha hb
    have e' : (a.cs ++ Tm.csR as) ++ (41 :: r) = (b.cs ++ Tm.csR bs) ++ (41 :: s) := e
    rw [List.append_assoc, List.append_assoc] at e'
    obtain ⟨h1, h2⟩ := Tm.cs_inj a b ha.1 hb.1 (endS.r as r) (endS.r bs s) e'
    obtain ⟨h3, h4⟩ := Tm.csR_inj as bs ha.2 hb.2 h2
    rw [h1, h3]
    exact ⟨rfl, h4⟩
end
theorem Tm.tx_inj {t u : Tm} (ht : plainT t) (hu : plainT u) (e : t.tx = u.tx) : t = u := by
  have e' : t.cs = u.cs := by
    have := congrArg (fun x : Str => x.cps.toList) e
    exact this
  exact (Tm.cs_inj t u (r := []) (s := []) ht hu (.inl rfl) (.inl rfl) (by rw [e'])).1
end DL
set_option Elab.async false
set_option linter.all false
set_option maxRecDepth 100000
set_option maxHeartbeats 4000000
namespace DL
open PySem PySem.Spec PyProof.Rows L2
/-! ### dict(signs) -/
def kvS (s : Sg) : List (Key × D) := s.map fun p => (.inr p.1, .int p.2)
theorem dKVs_sg : ∀ s : Sg, dKVs (sgD s) = some (kvS s)
  | [] => rfl
  | p :: r => by
    show (match dKV (prD p), dKVs (sgD r) with
      | some kv, some kvs => some (kv :: kvs)
      | _, _ => none) = _
    rw [dKVs_sg r]
    rfl
theorem mergeD_nodup : ∀ (s acc : Sg), ((acc ++ s).map (·.1)).Nodup → mergeD (kvS acc) (kvS s) = kvS (acc ++ s)
  | [], acc, _ => by rw [List.append_nil]; rfl
  | p :: r, acc, h => by
    show mergeD (putD (kvS acc) (.inr p.1) (.int p.2)) (kvS r) = _
    have hn : (kvS acc).any (fun kv => decide (kv.1 = .inr p.1)) = false := by
      rw [List.any_eq_false]
      intro kv hkv
      obtain ⟨q, hq, rfl⟩ := List.mem_map.mp hkv
      rw [List.map_append, List.nodup_append] at h
      have := h.2.2 q.1 (List.mem_map_of_mem hq) p.1 (by simp)
      simp only [decide_eq_true_eq]
      intro z
      injection z with z
      exact this z
    have e : putD (kvS acc) (.inr p.1) (.int p.2) = kvS (acc ++ [p]) := by
      unfold putD
      rw [hn, if_neg Bool.false_ne_true]
      unfold kvS
      simp
    rw [e, mergeD_nodup r (acc ++ [p]) (by simpa using h)]
    simp
theorem dict_sg {s : Sg} (h : (s.map (·.1)).Nodup) : mergeD [] (kvS s) = kvS s := mergeD_nodup s [] h
theorem kvS_get : ∀ {s : Sg} {f : Str} {n : Nat}, (s.map (·.1)).Nodup → (f, n) ∈ s → getD (kvS s) (.inr f) = some (.int n)
  | p :: r, f, n, h, hm => by
    unfold getD kvS
    rw [List.map_cons, List.find?_cons]
    rw [List.map_cons, List.nodup_cons] at h
    rcases List.mem_cons.mp hm with rfl | hm
    · simp
    · have hne : p.1 ≠ f := fun z => h.1 (z ▸ List.mem_map_of_mem (f := (·.1)) hm)
      have e : decide ((Sum.inr p.1 : Key) = Sum.inr f) = false := decide_eq_false fun z => hne (by injection z)
      simp only [e]
      exact kvS_get h.2 hm
/-- a term over the signs -/
def over (s : Sg) (t : Tm) : Prop := t.all fun f as => (f, as.length) ∈ s
mutual
theorem over.fits {s : Sg} (h : (s.map (·.1)).Nodup) : ∀ {t : Tm}, over s t → fits (kvS s) t
  | .mk f as, ho => by
    unfold over DL.fits at *
    rw [Tm.all] at ho ⊢
    exact ⟨kvS_get h ho.1, over.fitss h ho.2⟩
theorem over.fitss {s : Sg} (h : (s.map (·.1)).Nodup) : ∀ {ts : List Tm}, Tm.alls (fun f as => (f, as.length) ∈ s) ts → Tm.alls (fun f as => getD (kvS s) (.inr f) = some (.int as.length)) ts
  | [], _ => by rw [Tm.alls]; trivial
  | t :: r, ho => by
    rw [Tm.alls] at ho ⊢
    exact ⟨over.fits h ho.1, over.fitss h ho.2⟩
end
mutual
theorem Tm.all_imp {p q : Str → List Tm → Prop} (h : ∀ f as, p f as → q f as) : ∀ {t : Tm}, t.all p → t.all q
  | .mk f as, ho => by
    rw [Tm.all] at ho ⊢
    exact ⟨h f as ho.1, Tm.alls_imp h ho.2⟩
theorem Tm.alls_imp {p q : Str → List Tm → Prop} (h : ∀ f as, p f as → q f as) : ∀ {ts : List Tm}, Tm.alls p ts → Tm.alls q ts
  | [], _ => by rw [Tm.alls]; trivial
  | t :: r, ho => by
    rw [Tm.alls] at ho ⊢
    exact ⟨Tm.all_imp h ho.1, Tm.alls_imp h ho.2⟩
end
theorem Tm.all_subs {p : Str → List Tm → Prop} {t u : Tm} (h : t.all p) (hu : u ∈ t.subs) : u.all p := by
  have key : ∀ (n : Nat) (t : Tm), t.n ≤ n → t.all p → u ∈ t.subs → u.all p := fun n => by
    induction n with
    | zero => intro t hn; have := t.n_pos; omega
    | succ n ih =>
      intro t hn h hu
      rw [Tm.subs_eq] at hu
      rcases List.mem_cons.mp hu with rfl | hu
      · exact h
      · obtain ⟨a, ha, hu⟩ := Tm.mem_subss.mp hu
        have := Tm.n_le ha
        have := t.n_eq
        exact ih a (by omega) ((Tm.all_eq t).mp h |>.2 a ha) hu
  exact key t.n t (Nat.le_refl _) h hu
end DL
set_option Elab.async false
set_option linter.all false
set_option maxRecDepth 100000
set_option maxHeartbeats 4000000
namespace DL
open PySem PySem.Spec PyProof.Rows L2
/-! ### is_sign -/
def abc : Str := "abcdefghijklmnopqrstuvwxyz"
def signOk (z : Str) : Prop := 1 ≤ z.length ∧ z.length ≤ 8 ∧ ∀ c ∈ z.cps.toList, c ∈ abc.cps.toList
theorem bls_true (n : Nat) : bls (List.replicate n (D.bl true)) = some (List.replicate n true) := by
  induction n with
  | zero => rfl
  | succ n ih => rw [List.replicate_succ]; unfold bls; rw [ih]; rfl
theorem sign_lc (Δ0 : Dl) (h1 : 1 < Δ0.length) (Q : List D → Prop) : ∀ (cs : List Nat) (n : Nat), (∀ c ∈ cs, c ∈ abc.cps.toList) → n + cs.length < 1000 → Q (List.replicate (n + cs.length) (.bl true)) →
    lcR (dgName 1) (fun _ Q _ => Q true) (dOp (fInS false) (dVar 1) (dC (.fro (.str "abcdefghijklmnopqrstuvwxyz")))) Δ0 (cs.map fun c => .str ⟨#[c]⟩) (List.replicate n (.bl true)) Q
  | [], n, _, _, q => q
  | c :: r, n, h, hl, q => by
    rw [List.map_cons]
    show dgName 1 (.str ⟨#[c]⟩) Δ0 _
    have g : (Δ0.set 1 (some (.fro (.str ⟨#[c]⟩))))[1]? = some (some (.fro (.str ⟨#[c]⟩))) := List.getElem?_set_self h1
    rw [List.length_cons] at hl q
    simp only [dgName, dOp, dVar, g, Sd.view, dC, fInS, Sd.dat, sFrz, if_true]
    refine ⟨c, rfl, ?_⟩
    have hc : c ∈ ("abcdefghijklmnopqrstuvwxyz" : Str).cps.toList := h c List.mem_cons_self
    simp only [Bool.false_eq_true, if_false, decide_eq_true hc]
    refine ⟨by rw [List.length_replicate, sizeLine_eq]; omega, ?_⟩
    rw [← List.replicate_succ']
    exact sign_lc Δ0 h1 Q r (n + 1) (fun d hd => h d (List.mem_cons_of_mem _ hd)) (by omega) (by rw [show n + 1 + r.length = n + (r.length + 1) by omega]; exact q)
def R_is_sign : SpecD := fun ds R _ => ∃ z, ds = [.str z] ∧ signOk z ∧ R (.fro (.bl true))
theorem p_is_sign (ds : List D) (R : Sd → Prop) (E : ED → Prop) (h : R_is_sign ds R E) : bodyD N_is_sign T_is_sign ds R E := by
  obtain ⟨z, rfl, ⟨h1, h2, h3⟩, hR⟩ := h
  have zl : z.cps.toList.length = z.length := by simp [Str.length]
  unfold T_is_sign
  simp only [dSeq, dNext, dRet, dRetN, dIfS, dSet, dDrop, dFor, dWhile, dAppend, dExtend, dSetX, dAsgG, dAsgX, dAugI, dgName, dgCons, dgNil, dgTup, dVar, dC, dOp, dCB, dCall, dTup, dLst, dCons, dNil, bCons, bNil, dSl, oNone, oSome, dTst, tstB, dAnd, dOr, dNot, vAnd, vOr, vNot, dIf, dUn, dChain, chN, dSeqOf, dTupOf, dStrOf, dRng, dEnum, dIsN, isNQ, sFrz, dLc, dRev, dFz, bodyD, startD, Sd.view, Sd.dat, Sd.stored, Sd.ret, fAdd, fSub, fMulA, fI, fCI, fCmp, fEq, fIn, fInS, fIx, fSl, fLen, fIsi, fSum, f1i, f2i, fTupOf, fLstOf, fBl, fSort, fDictP, fRev, fNeg, fDin, fDget, keyD, xOf, xPop, xSl, ownAt, seqOf, seqD, dExtendX, List.set_cons_zero, List.set_cons_succ, List.getElem?_cons_zero, List.getElem?_cons_succ, List.map_cons, List.map_nil, List.cons_append, List.nil_append, List.length_cons, List.length_nil, List.replicate_succ, List.replicate_zero, if_true, if_false, Bool.false_eq_true, Bool.not_true, Bool.not_false, tyN]
  refine ⟨by decide, iteB (fun h => absurd h (by decide)) fun _ => ?_⟩
  refine ⟨by rw [sizeLine_eq]; omega, iteB (fun _ => iteB (fun h => ?_) fun _ => ?_) fun h => ?_⟩
  · have h' : (!decide ((z.length : Int) ≤ 8)) = true := h
    simp at h'
    omega
  · refine sign_lc [some (.fro (.str z)), none] (show 1 < 2 by decide) _ z.cps.toList 0 h3 (by omega) ?_
    simp only [fBl, Sd.dat, bls_true]
    have e : (List.replicate (0 + z.cps.toList.length) true).all id = true := by simp
    rw [e]
    exact hR
  · have h' : decide ((1 : Int) ≤ (z.length : Int)) = false := h
    simp at h'
    omega
end DL
set_option Elab.async false
set_option linter.all false
set_option maxRecDepth 100000
set_option maxHeartbeats 4000000
namespace DL
open PySem PySem.Spec PyProof.Rows L2
/-! ### are_signs -/
structure Valid (s : Sg) : Prop where
  lo : 1 ≤ s.length
  hi : s.length ≤ 12
  ok : ∀ p ∈ s, signOk p.1 ∧ p.2 ≤ 2
  up : ∀ (i : Nat) p q, s[i]? = some p → s[i + 1]? = some q → p.1.cps.toList < q.1.cps.toList
  z : ∃ p ∈ s, p.2 = 0
theorem signs_for (DD : EndsD) (tb : TDS) (z0 : Option Sd) (zs : Dl) (hq : ∀ z1, DD.nx (z0 :: z1 :: zs)) (turn : ∀ (D' : EndsD) (p : Str × Nat), signOk p.1 → p.2 ≤ 2 → D'.nx (z0 :: some (.fro (prD p)) :: zs) → tb D' (z0 :: some (.fro (prD p)) :: zs)) :
    ∀ (s : Sg) (z1 : Option Sd), (∀ p ∈ s, signOk p.1 ∧ p.2 ≤ 2) → forR (dgName 1) tb DD (sgD s) (z0 :: z1 :: zs)
  | [], z1, _ => hq z1
  | p :: r, z1, h => turn _ p (h p List.mem_cons_self).1 (h p List.mem_cons_self).2 (signs_for DD tb z0 zs hq turn r _ fun q hq => h q (List.mem_cons_of_mem _ hq))
theorem atI_nat {α : Type} {xs : List α} {i : Nat} {x : α} (h : xs[i]? = some x) : atI xs (i : Int) = some x := by
  have hi := (List.getElem?_eq_some_iff.mp h).1
  have e : ixN xs.length (i : Int) = some i := by
    unfold ixN
    rw [if_pos (by omega), if_pos (by omega)]
    rfl
  unfold atI
  rw [e]
  exact h
theorem rngD_succ (lo : Int) (n : Nat) : rngD lo (n + 1) = .int lo :: rngD (lo + 1) n := by
  unfold rngD
  rw [List.range_succ_eq_map, List.map_cons, List.map_map]
  congr 1
  · simp
  · apply List.map_congr_left
    intro i _
    simp only [Function.comp, D.int.injEq]
    omega
theorem rise_lc {s : Sg} (v : Valid s) (Δ0 : Dl) (h3 : 3 < Δ0.length) (h0 : ∀ z, (Δ0.set 3 z)[0]? = some (some (.fro (.tup (sgD s))))) (Q : List D → Prop) : ∀ (m j : Nat), j + m + 1 = s.length → Q (List.replicate (j + m) (.bl true)) →
    lcR (dgName 3) (fun _ Q _ => Q true) (dOp (fCmp pLt qLt) (dOp fIx (dOp fIx (dVar 0) (dOp fSub (dVar 3) (dC (.fro (.int 1))))) (dC (.fro (.int 0)))) (dOp fIx (dOp fIx (dVar 0) (dVar 3)) (dC (.fro (.int 0))))) Δ0 (rngD (1 + (j : Int)) m) (List.replicate j (.bl true)) Q
  | 0, j, _, q => q
  | m + 1, j, hm, q => by
    rw [rngD_succ]
    show dgName 3 (.int (1 + (j : Int))) Δ0 _
    have g : (Δ0.set 3 (some (.fro (.int (1 + (j : Int))))))[3]? = some (some (.fro (.int (1 + (j : Int))))) := List.getElem?_set_self h3
    obtain ⟨p, hp⟩ : ∃ p, s[j]? = some p := ⟨_, List.getElem?_eq_getElem (by omega)⟩
    obtain ⟨p', hp'⟩ : ∃ p, s[j + 1]? = some p := ⟨_, List.getElem?_eq_getElem (by omega)⟩
    have a1 : atI (sgD s) ((1 + (j : Int)) - 1) = some (prD p) := by
      rw [show (1 + (j : Int)) - 1 = (j : Int) by omega]
      exact atI_nat (by unfold sgD; rw [List.getElem?_map, hp]; rfl)
    have a2 : atI (sgD s) (1 + (j : Int)) = some (prD p') := by
      rw [show 1 + (j : Int) = ((j + 1 : Nat) : Int) by omega]
      exact atI_nat (by unfold sgD; rw [List.getElem?_map, hp']; rfl)
    have up := v.up j p p' hp hp'
    have up2 : qLt p.1.cps.toList p'.1.cps.toList = true := decide_eq_true up
    simp only [dgName, dOp, dVar, h0, g, Sd.view, dC, fSub, fIx, Sd.dat, a1, a2, prD, atI_0, fCmp, up2, sFrz, if_true]
    refine ⟨by rw [List.length_replicate, sizeLine_eq]; have := v.hi; omega, ?_⟩
    rw [← List.replicate_succ', show (1 : Int) + (j : Int) + 1 = 1 + ((j + 1 : Nat) : Int) by omega]
    exact rise_lc v Δ0 h3 h0 Q m (j + 1) (by omega) (by rw [show j + 1 + m = j + (m + 1) by omega]; exact q)
theorem zero_lc (Δ0 : Dl) (h5 : 5 < Δ0.length) (Q : List D → Prop) : ∀ (r acc : Sg), acc.length + r.length < 1000 → Q ((acc ++ r).map fun p => .bl (decide (p.2 = 0))) →
    lcR (dgTup 2 (dgCons (dgName 4) (dgCons (dgName 5) dgNil))) (fun _ Q _ => Q true) (dOp (fEq false) (dVar 5) (dC (.fro (.int 0)))) Δ0 (sgD r) (acc.map fun p => .bl (decide (p.2 = 0))) Q
  | [], acc, _, q => by
    rw [List.append_nil] at q
    exact q
  | p :: r, acc, hl, q => by
    show dgTup 2 (dgCons (dgName 4) (dgCons (dgName 5) dgNil)) (.tup [.str p.1, .int p.2]) Δ0 _
    have g : ((Δ0.set 4 (some (.fro (.str p.1)))).set 5 (some (.fro (.int p.2))))[5]? = some (some (.fro (.int p.2))) := List.getElem?_set_self (by simpa using h5)
    rw [List.length_cons] at hl
    simp only [dgTup, dgCons, dgNil, dgName, dOp, dVar, g, Sd.view, dC, fEq, Sd.dat, sFrz, if_true, if_false, Bool.false_eq_true, eqv_int, List.length_cons, List.length_nil]
    refine ⟨trivial, ⟨okI _, okI _⟩, by rw [List.length_map, sizeLine_eq]; omega, ?_⟩
    have e : ((p.2 : Int) == 0) = decide (p.2 = 0) := by
      by_cases h : p.2 = 0
      · rw [h]; rfl
      · rw [decide_eq_false h]; exact beq_eq_false_iff_ne.mpr (by omega)
    have e2 : (acc.map fun p : Str × Nat => D.bl (decide (p.2 = 0))) ++ [D.bl ((p.2 : Int) == 0)] = (acc ++ [p]).map fun p => .bl (decide (p.2 = 0)) := by rw [e]; simp
    rw [e2]
    exact zero_lc Δ0 h5 Q r (acc ++ [p]) (by simp; omega) (by simpa using q)
theorem bls_map {α : Type} (f : α → Bool) (l : List α) : bls (l.map fun p => D.bl (f p)) = some (l.map f) := by
  induction l with
  | nil => rfl
  | cons x r ih => rw [List.map_cons]; unfold bls; rw [ih]; rfl
def R_are_signs : SpecD := fun ds R _ => ∃ s, ds = [.tup (sgD s)] ∧ Valid s ∧ R (.fro (.bl true))
theorem p_are_signs (ds : List D) (R : Sd → Prop) (E : ED → Prop) (h : R_are_signs ds R E) : bodyD N_are_signs (T_are_signs R_is_pair R_is_sign R_is_within) ds R E := by
  obtain ⟨s, rfl, v, hR⟩ := h
  have sl : (sgD s).length = s.length := List.length_map _
  have v1 := v.lo
  have v2 := v.hi
  unfold T_are_signs
  simp only [bodyD, startD, dSeq, dIfS, dOr, dNot, dTst, tstB, dCB, bCons, bNil, dVar, dC, dChain, chN, fIsi, fLen, fCI, Sd.view, Sd.dat, tyN, dNext, dRet, dFor, dTupOf, List.map_cons, List.map_nil, List.length_cons, List.length_nil, List.cons_append, List.nil_append, List.replicate_succ, List.replicate_zero, List.getElem?_cons_zero, List.getElem?_cons_succ]
  refine ⟨by decide, iteB (fun h => absurd h (by decide)) fun _ => ?_⟩
  refine iteB (fun _ => iteB (fun h => ?_) fun _ => ?_) fun h => ?_
  · have h' : (!decide (((sgD s).length : Int) ≤ 12)) = true := h
    rw [sl] at h'
    simp at h'
    omega
  · refine signs_for _ _ _ _ (fun z1 => ?_) (fun D' p h1 h2 q => ?_) s _ v.ok
    · simp only [dSeq, dSet, dCB, bCons, bNil, dLc, dRng, dCons, dNil, dC, dVar, fLen, rg2, sFrz, Sd.view, Sd.dat, wipeD, List.getElem?_cons_zero, List.getElem?_cons_succ]
      rw [sl]
      refine ⟨⟨by decide, by decide, by omega, by omega⟩, ?_⟩
      rw [show ((s.length : Int) - 1).toNat = s.length - 1 by omega]
      refine rise_lc v [some (.fro (.tup (sgD s))), z1, none, none, none, none] (show 3 < 6 by decide) (fun z => rfl) _ (s.length - 1) 0 (by omega) ?_
      simp only [fBl, Sd.dat, bls_true]
      have e1 : (List.replicate (0 + (s.length - 1)) true).all id = true := by simp
      rw [e1]
      refine ⟨rfl, ?_⟩
      simp only [dRet, vAnd, tstB, dVar, Sd.view, dCB, bCons, bNil, dLc, dTupOf, wipeD, List.set_cons_zero, List.set_cons_succ, List.getElem?_cons_zero, List.getElem?_cons_succ]
      rw [if_pos True.intro]
      refine zero_lc [some (.fro (.tup (sgD s))), z1, some (.fro (.bl true)), none, none, none] (show 5 < 6 by decide) _ s [] (by simp; omega) ?_
      rw [List.nil_append]
      simp only [fBl, Sd.dat, bls_map]
      have e2 : (s.map fun p : Str × Nat => decide (p.2 = 0)).any id = true := by
        obtain ⟨p, hp, h0⟩ := v.z
        rw [List.any_eq_true]
        exact ⟨true, List.mem_map.mpr ⟨p, hp, decide_eq_true h0⟩, rfl⟩
      rw [e2]
      exact hR
    · simp only [dSeq, dNext, dRet, dRetN, dIfS, dSet, dDrop, dFor, dWhile, dAppend, dExtend, dSetX, dAsgG, dAsgX, dAugI, dgName, dgCons, dgNil, dgTup, dVar, dC, dOp, dCB, dCall, dTup, dLst, dCons, dNil, bCons, bNil, dSl, oNone, oSome, dTst, tstB, dAnd, dOr, dNot, vAnd, vOr, vNot, dIf, dUn, dChain, chN, dSeqOf, dTupOf, dStrOf, dRng, dEnum, dIsN, isNQ, sFrz, dLc, dRev, dFz, bodyD, startD, Sd.view, Sd.dat, Sd.stored, Sd.ret, fAdd, fSub, fMulA, fI, fCI, fCmp, fEq, fIn, fInS, fIx, fSl, fLen, fIsi, fSum, f1i, f2i, fTupOf, fLstOf, fBl, fSort, fDictP, fRev, fNeg, fDin, fDget, keyD, xOf, xPop, xSl, ownAt, seqOf, seqD, dExtendX, List.set_cons_zero, List.set_cons_succ, List.getElem?_cons_zero, List.getElem?_cons_succ, List.map_cons, List.map_nil, List.cons_append, List.nil_append, List.length_cons, List.length_nil, List.replicate_succ, List.replicate_zero, if_true, if_false, Bool.false_eq_true, Bool.not_true, Bool.not_false, prD, atI_0, atI_1]
      refine ⟨_, rfl, iteB (fun h => absurd h (by simp)) fun _ => ?_⟩
      refine ⟨p.1, rfl, h1, iteB (fun h => absurd h (by simp)) fun _ => ?_⟩
      refine ⟨.int p.2, 0, 2, rfl, by simp [tyN], ?_⟩
      have e : withinD 0 2 (.int (p.2 : Int)) = true := by
        show (decide ((0 : Int) ≤ p.2) && decide ((p.2 : Int) ≤ 2)) = true
        rw [decide_eq_true (by omega), decide_eq_true (by omega)]
        rfl
      rw [e]
      exact iteB (fun h => absurd h (by simp)) fun _ => q
  · have h' : decide ((1 : Int) ≤ ((sgD s).length : Int)) = false := h
    rw [sl] at h'
    simp at h'
    omega
end DL
set_option Elab.async false
set_option linter.all false
set_option maxRecDepth 100000
set_option maxHeartbeats 4000000
namespace DL
open PySem PySem.Spec PyProof.Rows L2
/-! ### the signs of the law are valid -/
theorem sg_up : ∀ i : Fin 3, ∀ j : Fin 4, ∀ k : Fin 4, (signsOf i j k).Pairwise (fun p q => qLt p.1.cps.toList q.1.cps.toList = true) := by decide +kernel
theorem sg_len : ∀ i : Fin 3, ∀ j : Fin 4, ∀ k : Fin 4, 1 ≤ (signsOf i j k).length ∧ (signsOf i j k).length ≤ 12 := by decide +kernel
theorem sg_z (i j k : Nat) : ((("a" : Str), 0) : Str × Nat) ∈ signsOf i j k := by
  unfold signsOf
  rw [Nat.add_comm 1 i]
  exact List.mem_append_left _ (List.mem_append_left _ List.mem_cons_self)
theorem sg_all (i j k : Nat) (p : Str × Nat) (h : p ∈ signsOf i j k) : p ∈ (sgA ++ sgB ++ sgC : Sg) := by
  unfold signsOf at h
  rcases List.mem_append.mp h with h | h
  · rcases List.mem_append.mp h with h | h
    · exact List.mem_append_left _ (List.mem_append_left _ (List.mem_of_mem_take h))
    · exact List.mem_append_left _ (List.mem_append_right _ (List.mem_of_mem_take h))
  · exact List.mem_append_right _ (List.mem_of_mem_take h)
theorem sg_one (z : Str) (hz : z.length = 1) (h : z.cps.toList.all (fun c => abc.cps.toList.contains c) = true) : signOk z := by
  refine ⟨by omega, by omega, fun c hc => ?_⟩
  have := List.all_eq_true.mp h c hc
  simpa using this
theorem sg_ok : ∀ p ∈ (sgA ++ sgB ++ sgC : Sg), signOk p.1 ∧ p.2 ≤ 2 := by
  intro p hp
  have e : (sgA ++ sgB ++ sgC : Sg) = [(("a" : Str), 0), (("b" : Str), 0), (("c" : Str), 0), (("f" : Str), 1), (("g" : Str), 1), (("h" : Str), 1), (("p" : Str), 2), (("q" : Str), 2)] := rfl
  rw [e] at hp
  simp only [List.mem_cons, List.not_mem_nil, or_false] at hp
  rcases hp with rfl | rfl | rfl | rfl | rfl | rfl | rfl | rfl <;> exact ⟨sg_one _ (by decide) (by decide), by decide⟩
theorem pairUp {α : Type} {r : α → α → Prop} : ∀ {s : List α}, s.Pairwise r → ∀ (i : Nat) p q, s[i]? = some p → s[i + 1]? = some q → r p q
  | [], _, i, p, q, h, _ => by simp at h
  | x :: s, hp, 0, p, q, h, h' => by
    rw [List.getElem?_cons_zero] at h
    cases h
    rw [List.getElem?_cons_succ] at h'
    exact (List.pairwise_cons.mp hp).1 q (List.mem_of_getElem? h')
  | x :: s, hp, i + 1, p, q, h, h' => by
    rw [List.getElem?_cons_succ] at h h'
    exact pairUp (List.pairwise_cons.mp hp).2 i p q h h'
theorem valid_signs (i j k : Nat) (hi : i < 3) (hj : j < 4) (hk : k < 4) : Valid (signsOf i j k) where
  lo := (sg_len ⟨i, hi⟩ ⟨j, hj⟩ ⟨k, hk⟩).1
  hi := (sg_len ⟨i, hi⟩ ⟨j, hj⟩ ⟨k, hk⟩).2
  ok := fun p hp => sg_ok p (sg_all i j k p hp)
  up := fun n p q h h' => of_decide_eq_true (pairUp (sg_up ⟨i, hi⟩ ⟨j, hj⟩ ⟨k, hk⟩) n p q h h')
  z := ⟨_, sg_z i j k, rfl⟩
end DL
set_option Elab.async false
set_option linter.all false
set_option maxRecDepth 100000
set_option maxHeartbeats 4000000
namespace DL
open PySem PySem.Spec PyProof.Rows L2
/-! ### comprehensions, at large -/
theorem lc_gen {α : Type} {g : TDG} {tt : TDT} {te : TD} {Δ0 : Dl} {Q : List D → Prop} (inp : α → D) (keep : α → Bool) (out : α → D) : ∀ (l : List α) (acc : List D),
    (∀ a ∈ l, ∀ (K : D → Prop) (N : Prop), (keep a = true → K (out a)) → (keep a = false → N) → g (inp a) Δ0 fun Δ2 => tt Δ2 (fun b => if b = true then te Δ2 (fun s => sFrz s K) noE else N) noE) →
    acc.length + l.length ≤ sizeLine → Q (acc ++ (l.filter keep).map out) → lcR g tt te Δ0 (l.map inp) acc Q
  | [], acc, _, _, q => by
    rw [List.filter_nil, List.map_nil, List.append_nil] at q
    exact q
  | a :: r, acc, st, hl, q => by
    rw [List.map_cons]
    rw [List.length_cons] at hl
    refine st a List.mem_cons_self _ _ (fun hk => ?_) fun hk => ?_
    · refine ⟨by omega, lc_gen inp keep out r (acc ++ [out a]) (fun b hb => st b (List.mem_cons_of_mem _ hb)) (by simp; omega) ?_⟩
      rw [List.filter_cons_of_pos hk] at q
      simpa using q
    · refine lc_gen inp keep out r acc (fun b hb => st b (List.mem_cons_of_mem _ hb)) (by omega) ?_
      rw [List.filter_cons_of_neg (by simp [hk])] at q
      exact q
theorem lc_inv {g : TDG} {tt : TDT} {te : TD} {Δ0 : Dl} {Q : List D → Prop} (I : List D → List D → Prop) (hz : ∀ d r acc, I (d :: r) acc → acc.length < sizeLine)
    (st : ∀ d r acc, I (d :: r) acc → ∀ (K : D → Prop) (N : Prop), (∀ y, I r (acc ++ [y]) → K y) → (I r acc → N) → g d Δ0 fun Δ2 => tt Δ2 (fun b => if b = true then te Δ2 (fun s => sFrz s K) noE else N) noE) (q : ∀ acc, I [] acc → Q acc) :
    ∀ ds acc, I ds acc → lcR g tt te Δ0 ds acc Q
  | [], acc, h => q acc h
  | d :: r, acc, h => st d r acc h _ _ (fun y hy => ⟨hz d r acc h, lc_inv I hz st q r (acc ++ [y]) hy⟩) (fun hn => lc_inv I hz st q r acc hn)
theorem for_inv {g : TDG} {tb : TDS} {DD : EndsD} (I : List D → Dl → Prop)
    (st : ∀ d r Δ, I (d :: r) Δ → ∀ (D' : EndsD), (∀ Δ', I r Δ' → D'.nx Δ') → (∀ Δ', I r Δ' → D'.ct Δ') → D'.bk = DD.nx → D'.rt = DD.rt → D'.ex = DD.ex → g d Δ fun Δ' => tb D' Δ') (q : ∀ Δ, I [] Δ → DD.nx Δ) :
    ∀ ds Δ, I ds Δ → forR g tb DD ds Δ
  | [], Δ, h => q Δ h
  | d :: r, Δ, h => st d r Δ h _ (fun Δ' h' => for_inv I st q r Δ' h') (fun Δ' h' => for_inv I st q r Δ' h') rfl rfl rfl
theorem filt_sg {tt : TDT} (p : Str × Nat → Bool) (Δ0 : Dl) (h4 : 4 < Δ0.length) {Q : List D → Prop} {s : Sg} (hl : s.length < 1000) (ht : ∀ pr ∈ s, ∀ (A B : Prop), (p pr = true → A) → (p pr = false → B) → tt (Δ0.set 4 (some (.fro (prD pr)))) (fun b => if b = true then A else B) noE) (q : Q (sgD (s.filter p))) :
    lcR (dgName 4) tt (dVar 4) Δ0 (sgD s) [] Q := by
  refine lc_gen prD p prD s [] (fun a ha K N h1 h2 => ?_) (by rw [sizeLine_eq]; simp; omega) q
  have g : (Δ0.set 4 (some (.fro (prD a))))[4]? = some (some (.fro (prD a))) := List.getElem?_set_self h4
  show tt (Δ0.set 4 (some (.fro (prD a)))) _ noE
  simp only [dVar, g, Sd.view, sFrz]
  exact ht a ha _ _ h1 h2
/-! ### _law_term -/
def R__law_term (h : Nat) : SpecD := fun ds R _ => ∃ (s : Sg) (deep : Nat), ds = [.cell 0 [], .tup (sgD s), .int deep] ∧ Valid s ∧ deep < h ∧ ∀ t, over s t → t.h ≤ deep + 1 → t.n + 1 ≤ 2 ^ (deep + 1) → R (.fro t.d)
theorem p__law_term (h : Nat) (ds : List D) (R : Sd → Prop) (E : ED → Prop) (hh : R__law_term (h + 1) ds R E) : bodyD N__law_term (T__law_term R_u_law_draw (R__law_term h)) ds R E := by
  obtain ⟨s, deep, rfl, v, hd, hR⟩ := hh
  have v2 := v.hi
  have two : ∀ p : Str × Nat, atI [D.str p.1, D.int p.2] 1 = some (D.int p.2) := fun p => atI_1 _ _ _
  have tail : ∀ (ss : Sg) (z4 : Option Sd), ss ≠ [] → ss.length ≤ 20 → (∀ p ∈ ss, p ∈ s ∧ (p.2 = 0 ∨ 0 < deep)) →
      (dSeq (dAsgG (dOp fIx (dVar 3) (dCall R_u_law_draw (dCons (dVar 0) (dCons (dCB fLen (bCons (dVar 3) bNil)) dNil)))) (dgTup 2 (dgCons (dgName 5) (dgCons (dgName 6) dgNil)))) (dRet (dOp fAdd (dTup (dCons (dVar 5) dNil)) (dCB fTupOf (bCons (dLc (dRng rg1 (dCons (dVar 6) dNil)) (dgName 7) (fun _ Q _ => Q true) (dCall (R__law_term h) (dCons (dVar 0) (dCons (dVar 1) (dCons (dOp fSub (dVar 2) (dC (.fro (.int 1)))) dNil)))) [7]) bNil)))))
      { nx := fun _ => R (.fro .non), rt := R, ex := fun e _ => E e } [some (.fro (.cell 0 [])), some (.fro (.tup (sgD s))), some (.fro (.int deep)), some (.own (sgD ss)), z4, none, none, none] := by
    intro ss z4 hne hl hp
    simp only [dSeq, dAsgG, dOp, dVar, dCall, dCons, dNil, dCB, bCons, bNil, fLen, Sd.view, Sd.dat, sFrz, List.getElem?_cons_zero, List.getElem?_cons_succ]
    have sl : (sgD ss).length = ss.length := List.length_map _
    have s0 : 0 < ss.length := List.length_pos_iff.mpr hne
    refine ⟨_, rfl, by rw [sl]; omega, by rw [sl]; omega, fun d d0 d1 => ?_⟩
    obtain ⟨i, rfl⟩ := Int.eq_ofNat_of_zero_le d0
    rw [sl] at d1
    obtain ⟨p, hpi⟩ : ∃ p, ss[i]? = some p := ⟨_, List.getElem?_eq_getElem (by omega)⟩
    have a1 : atI (sgD ss) (i : Int) = some (prD p) := atI_nat (by unfold sgD; rw [List.getElem?_map, hpi]; rfl)
    obtain ⟨ps, pz⟩ := hp p (List.mem_of_getElem? hpi)
    have p2 := (v.ok p ps).2
    simp only [Sd.ret, fIx, Sd.dat, a1, sFrz, prD, dgTup, dgCons, dgNil, dgName, List.length_cons, List.length_nil, List.set_cons_zero, List.set_cons_succ, dRet, dOp, dTup, dVar, dCons, dNil, Sd.view, dCB, bCons, bNil, dLc, dRng, rg1, wipeD, List.getElem?_cons_zero, List.getElem?_cons_succ]
    refine ⟨trivial, by rw [sizeLine_eq]; decide, ⟨by omega, by omega⟩, ?_⟩
    refine lc_inv (fun r acc => ∃ ts : List Tm, acc = Tm.ds ts ∧ ts.length + r.length = p.2 ∧ ∀ t ∈ ts, over s t ∧ t.h ≤ deep ∧ t.n + 1 ≤ 2 ^ deep) ?_ ?_ ?_ _ _ ⟨[], by rw [Tm.ds], by simp [rngD], by simp⟩
    · rintro d r acc ⟨ts, rfl, hl, _⟩
      rw [Tm.ds_len, sizeLine_eq]
      rw [List.length_cons] at hl
      omega
    · rintro d r acc ⟨ts, rfl, hl, ht⟩ K N hK hN
      rw [List.length_cons] at hl
      simp only [dgName, dCall, dCons, dNil, dVar, dOp, dC, fSub, Sd.view, Sd.dat, sFrz, if_true, List.set_cons_zero, List.set_cons_succ, List.getElem?_cons_zero, List.getElem?_cons_succ]
      have hdp : 0 < deep := pz.resolve_left (by omega)
      have hde : (deep : Int) - 1 = ((deep - 1 : Nat) : Int) := by omega
      refine ⟨s, deep - 1, by rw [hde], v, by omega, fun t h1 h2 h3 => ?_⟩
      refine hK _ ⟨ts ++ [t], by rw [Tm.ds_app, Tm.ds, Tm.ds], by simp; omega, fun u hu => ?_⟩
      rcases List.mem_append.mp hu with hu | hu
      · exact ht u hu
      · cases List.mem_singleton.mp hu
        rw [show deep - 1 + 1 = deep by omega] at h2 h3
        exact ⟨h1, h2, h3⟩
    · rintro acc ⟨ts, rfl, hl, ht⟩
      rw [List.length_nil, Nat.add_zero] at hl
      simp only [fTupOf, Sd.dat, fAdd, List.length_cons, List.length_nil, Tm.ds_len]
      refine ⟨by rw [sizeLine_eq]; omega, ?_⟩
      have e : [D.str p.1] ++ Tm.ds ts = .str p.1 :: Tm.ds ts := rfl
      rw [e]
      have hts : ∀ us : List Tm, (∀ t ∈ us, t.n + 1 ≤ 2 ^ deep) → Tm.ns us + us.length ≤ us.length * 2 ^ deep := fun us => by
        induction us with
        | nil => intro _; simp [Tm.ns]
        | cons u us ih =>
          intro hu
          have h1 := ih fun t ht => hu t (List.mem_cons_of_mem _ ht)
          have h2 := hu u List.mem_cons_self
          rw [Tm.ns, List.length_cons, Nat.succ_mul]
          omega
      have h1 := hts ts fun t h => (ht t h).2.2
      have h2 : ts.length * 2 ^ deep ≤ 2 * 2 ^ deep := Nat.mul_le_mul_right _ (by omega)
      have h3 : 0 < 2 ^ deep := Nat.pow_pos (by decide)
      have h4 : 2 ^ (deep + 1) = 2 * 2 ^ deep := by rw [Nat.pow_succ]; omega
      have := hR (.mk p.1 ts) (by
        unfold over
        rw [Tm.all, Tm.alls_iff]
        exact ⟨by rw [hl]; exact ps, fun t h => (ht t h).1⟩) (by
        rw [Tm.h]
        have := hs_of fun t h => (ht t h).2.1
        omega) (by
        rw [Tm.n]
        have : ts.length = 0 ∨ ts.length = 1 ∨ ts.length = 2 := by omega
        rcases this with e | e | e
        · rw [e] at h1
          omega
        · rw [e] at h1
          omega
        · rw [e] at h1
          omega)
      rw [Tm.d] at this
      exact this
  unfold T__law_term
  simp only [bodyD, startD, dLc, dTupOf, dVar, Sd.view, wipeD, List.map_cons, List.map_nil, List.length_cons, List.length_nil, List.cons_append, List.nil_append, List.replicate_succ, List.replicate_zero, List.set_cons_zero, List.set_cons_succ, List.getElem?_cons_zero, List.getElem?_cons_succ]
  obtain ⟨pz, hpz, hpz0⟩ := v.z
  have ne0 : s.filter (fun p => decide (p.2 = 0) || decide (0 < deep)) ≠ [] := List.ne_nil_of_mem (List.mem_filter.mpr ⟨hpz, by simp [hpz0]⟩)
  unfold dSeq dSet
  dsimp only
  refine filt_sg (fun p => decide (p.2 = 0) || decide (0 < deep)) [_, _, _, _, _, _, _, _] (show 4 < 8 by decide) (by omega) (fun pr _ A B h1 h2 => ?_) ?_
  · simp only [dOr, dTst, tstB, dOp, dVar, dC, Sd.view, Sd.dat, fIx, prD, two, fEq, fCI, pGt, Bool.false_eq_true, if_false, eqv_int, List.set_cons_zero, List.set_cons_succ, List.getElem?_cons_zero, List.getElem?_cons_succ]
    refine ⟨⟨okI _, okI _⟩, iteB (fun e => ?_) fun e => iteB (fun e2 => ?_) fun e2 => ?_⟩
    · have e' : pr.2 = 0 := by have := beq_iff_eq.mp e; omega
      rw [if_pos True.intro]
      exact h1 (by simp [e'])
    · exact h1 (by simp at e2; simp [e2])
    · refine h2 ?_
      have e' : pr.2 ≠ 0 := by have := beq_eq_false_iff_ne.mp e; omega
      simp at e2
      simp [e', e2]
  · refine ⟨rfl, ?_⟩
    unfold dIfS dAnd dTst
    simp only [tstB, dOp, dVar, dC, dCall, dCons, dNil, Sd.view, Sd.dat, fCI, pGt, sFrz, List.set_cons_zero, List.set_cons_succ, List.getElem?_cons_zero, List.getElem?_cons_succ]
    have lenF : ∀ q : Str × Nat → Bool, (s.filter q).length ≤ 12 := fun q => Nat.le_trans (List.length_filter_le _ _) v2
    have mem0 : ∀ p ∈ s.filter (fun p => decide (p.2 = 0) || decide (0 < deep)), p ∈ s ∧ (p.2 = 0 ∨ 0 < deep) := fun p hp => by
      obtain ⟨h1, h2⟩ := List.mem_filter.mp hp
      refine ⟨h1, ?_⟩
      simpa using h2
    refine iteB (fun e => ?_) fun e => ?_
    · refine ⟨3, rfl, by decide, by decide, fun d d0 d1 => ?_⟩
      simp only [Sd.ret, Sd.dat]
      refine iteB (fun _ => ?_) fun _ => ?_
      · simp only [dOp, dLc, dTupOf, dVar, Sd.view, wipeD, List.set_cons_zero, List.set_cons_succ, List.getElem?_cons_zero, List.getElem?_cons_succ]
        refine filt_sg (fun p => decide (0 < p.2)) [_, _, _, _, _, _, _, _] (show 4 < 8 by decide) (by omega) (fun pr _ A B h1 h2 => ?_) ?_
        · simp only [dTst, tstB, dOp, dVar, dC, Sd.view, Sd.dat, fIx, prD, two, fCI, pGt, List.set_cons_zero, List.set_cons_succ, List.getElem?_cons_zero, List.getElem?_cons_succ]
          refine iteB (fun e => h1 ?_) fun e => h2 ?_
          · simp at e
            simpa using e
          · simp at e
            simpa using e
        · simp only [dSl, dVar, oNone, oSome, dC, Sd.view, fSl, Sd.dat, List.getElem?_cons_zero, List.getElem?_cons_succ]
          have ec : ∀ ss : Sg, cutD (sgD ss) none (some 1) = sgD (ss.take 1) := fun ss => (cut_take (sgD ss) 1).trans (take_sgD ss 1)
          simp only [ec, fAdd, Sd.dat, ← sgD_app]
          have l1 := lenF fun p => decide (0 < p.2)
          have l2 : ((s.filter (fun p => decide (p.2 = 0) || decide (0 < deep))).take 1).length ≤ 1 := by rw [List.length_take]; omega
          refine ⟨by unfold sgD; rw [List.length_map, List.length_map, sizeLine_eq]; omega, rfl, ?_⟩
          refine tail _ _ (fun z => ?_) (by rw [List.length_append]; omega) fun p hp => ?_
          · exact ne0 ((List.take_eq_nil_iff.mp (List.append_eq_nil_iff.mp z).2).resolve_left (by decide))
          · rcases List.mem_append.mp hp with hp | hp
            · exact ⟨(List.mem_filter.mp hp).1, .inr (by simpa using e)⟩
            · exact mem0 p (List.mem_of_mem_take hp)
      · exact tail _ _ ne0 (by have := lenF fun p => decide (p.2 = 0) || decide (0 < deep); omega) mem0
    · exact tail _ _ ne0 (by have := lenF fun p => decide (p.2 = 0) || decide (0 < deep); omega) mem0
end DL
set_option Elab.async false
set_option linter.all false
set_option maxRecDepth 100000
set_option maxHeartbeats 4000000
namespace DL
open PySem PySem.Spec PyProof.Rows L2
/-! ### terms over valid signs -/
theorem abc_small : ∀ c ∈ abc.cps.toList, c < 1000 ∧ c ≠ 40 ∧ c ≠ 41 ∧ c ≠ 44 := by decide +kernel
theorem signOk.plain {z : Str} (h : signOk z) : plainS z := fun c hc => (abc_small c (h.2.2 c hc)).2
theorem signOk.str {z : Str} (h : signOk z) : PyData.strOk z = true := by
  unfold PyData.strOk
  rw [Array.all_eq_true']
  intro c hc
  have := (abc_small c (h.2.2 c (by simpa using hc))).1
  simp
  omega
theorem over.strs {s : Sg} (v : Valid s) {t : Tm} (h : over s t) : strsOk t := Tm.all_imp (fun f as (q : (f, as.length) ∈ s) => (v.ok _ q).1.str) h
theorem over.plain {s : Sg} (v : Valid s) {t : Tm} (h : over s t) : plainT t := Tm.all_imp (fun f as (q : (f, as.length) ∈ s) => (v.ok _ q).1.plain) h
/-- a drawn term -/
structure tmOk (s : Sg) (d : Nat) (t : Tm) : Prop where
  o : over s t
  h : t.h ≤ d + 1
  n : t.n + 1 ≤ 2 ^ (d + 1)
theorem tmOk.mono {s : Sg} {d e : Nat} {t : Tm} (x : tmOk s d t) (h : d ≤ e) : tmOk s e t :=
  ⟨x.o, by have := x.h; omega, Nat.le_trans x.n (Nat.pow_le_pow_right (by decide) (by omega))⟩
structure lnOk (s : Sg) (d : Nat) (x : Ln) : Prop where
  l : tmOk s d x.l
  r : tmOk s d x.r
theorem Tm.subs_h {t u : Tm} : u ∈ t.subs → u.h ≤ t.h := by
  have key : ∀ (n : Nat) (t : Tm), t.n ≤ n → u ∈ t.subs → u.h ≤ t.h := fun n => by
    induction n with
    | zero => intro t hn; have := t.n_pos; omega
    | succ n ih =>
      intro t hn hu
      rw [Tm.subs_eq] at hu
      rcases List.mem_cons.mp hu with rfl | hu
      · exact Nat.le_refl _
      · obtain ⟨a, ha, hu⟩ := Tm.mem_subss.mp hu
        have := Tm.n_le ha
        have := Tm.hs_le ha
        have := t.n_eq
        have := t.h_eq
        have := ih a (by omega) hu
        omega
  exact key t.n t (Nat.le_refl _)
theorem Tm.subs_n {t u : Tm} : u ∈ t.subs → u.n ≤ t.n := by
  have key : ∀ (n : Nat) (t : Tm), t.n ≤ n → u ∈ t.subs → u.n ≤ t.n := fun n => by
    induction n with
    | zero => intro t hn; have := t.n_pos; omega
    | succ n ih =>
      intro t hn hu
      rw [Tm.subs_eq] at hu
      rcases List.mem_cons.mp hu with rfl | hu
      · exact Nat.le_refl _
      · obtain ⟨a, ha, hu⟩ := Tm.mem_subss.mp hu
        have := Tm.n_le ha
        have := t.n_eq
        have := ih a (by omega) hu
        omega
  exact key t.n t (Nat.le_refl _)
/-! ### _law_lines -/
def R__law_lines : SpecD := fun ds R _ => ∃ (s : Sg) (most deep : Nat), ds = [.cell 0 [], .tup (sgD s), .int most, .int deep] ∧ Valid s ∧ most < 100 ∧ deep < 8 ∧ ∀ ls : List Ln, ls.length ≤ most → (∀ x ∈ ls, lnOk s deep x) → R (.fro (.tup (lnD ls)))
theorem lnD_app (a b : List Ln) : lnD (a ++ b) = lnD a ++ lnD b := List.map_append
theorem lnD_len (a : List Ln) : (lnD a).length = a.length := List.length_map _
theorem p__law_lines (ds : List D) (R : Sd → Prop) (E : ED → Prop) (h : R__law_lines ds R E) : bodyD N__law_lines (T__law_lines R_u_law_draw (R__law_term 8)) ds R E := by
  obtain ⟨s, most, deep, rfl, v, hm, hd, hR⟩ := h
  unfold T__law_lines
  simp only [bodyD, startD, dSeq, dSet, dLst, dNil, dFor, dRng, dCons, dCall, dVar, dOp, dC, fAdd, Sd.view, Sd.dat, sFrz, List.map_cons, List.map_nil, List.length_cons, List.length_nil, List.cons_append, List.nil_append, List.replicate_succ, List.replicate_zero, List.set_cons_zero, List.set_cons_succ, List.getElem?_cons_zero, List.getElem?_cons_succ]
  refine ⟨by decide, rfl, _, rfl, by omega, by omega, fun d d0 d1 => ?_⟩
  obtain ⟨n, rfl⟩ := Int.eq_ofNat_of_zero_le d0
  simp only [Sd.ret, sFrz, rg1]
  refine ⟨⟨by omega, by omega⟩, ?_⟩
  refine for_inv (fun r Δ => ∃ (ls : List Ln) (z5 z6 : Option Sd), Δ = [some (.fro (.cell 0 [])), some (.fro (.tup (sgD s))), some (.fro (.int most)), some (.fro (.int deep)), some (.own (lnD ls)), z5, z6] ∧ ls.length + r.length ≤ most ∧ ∀ x ∈ ls, lnOk s deep x) ?_ ?_ _ _ ⟨[], none, none, rfl, by simp [rngD]; omega, by simp⟩
  · rintro d r Δ ⟨ls, z5, z6, rfl, hl, hx⟩ D' hnx _ _ _ _
    rw [List.length_cons] at hl
    have fin : ∀ (x : Ln) (z : Option Sd), lnOk s deep x → dAppend 4 (dVar 6) D' [some (.fro (.cell 0 [])), some (.fro (.tup (sgD s))), some (.fro (.int most)), some (.fro (.int deep)), some (.own (lnD ls)), z, some (.fro (.tup [x.l.d, x.r.d]))] := fun x z hxo => by
      simp only [dAppend, ownAt, dVar, Sd.view, sFrz, List.getElem?_cons_zero, List.getElem?_cons_succ, List.set_cons_zero, List.set_cons_succ]
      refine ⟨by rw [lnD_len, sizeLine_eq]; omega, hnx _ ⟨ls ++ [x], _, _, by rw [lnD_app]; rfl, by simp; omega, fun y hy => ?_⟩⟩
      rcases List.mem_append.mp hy with hy | hy
      · exact hx y hy
      · cases List.mem_singleton.mp hy
        exact hxo
    simp only [dgName, dSeq, dSet, dTup, dCons, dNil, dCall, dVar, dOp, dC, fAdd, Sd.view, Sd.dat, sFrz, List.set_cons_zero, List.set_cons_succ, List.getElem?_cons_zero, List.getElem?_cons_succ]
    refine ⟨_, rfl, by omega, by omega, fun a a0 a1 => ?_⟩
    obtain ⟨i, rfl⟩ := Int.eq_ofNat_of_zero_le a0
    simp only [Sd.ret, sFrz]
    refine ⟨s, i, rfl, v, by omega, fun t t1 t2 t3 => ?_⟩
    simp only [Sd.ret, sFrz]
    refine ⟨_, rfl, by omega, by omega, fun b b0 b1 => ?_⟩
    obtain ⟨j, rfl⟩ := Int.eq_ofNat_of_zero_le b0
    simp only [Sd.ret, sFrz]
    refine ⟨s, j, rfl, v, by omega, fun u u1 u2 u3 => ?_⟩
    simp only [Sd.ret, sFrz, List.length_cons, List.length_nil, Sd.stored]
    have ok : lnOk s deep ⟨t, u⟩ := ⟨tmOk.mono ⟨t1, t2, t3⟩ (by omega), tmOk.mono ⟨u1, u2, u3⟩ (by omega)⟩
    refine ⟨by rw [sizeLine_eq]; decide, trivial, ?_⟩
    simp only [dIfS, dAnd, dTst, tstB, dOp, dCB, bCons, bNil, fLen, dVar, dC, fCI, pGt, dCall, dCons, dNil, Sd.view, Sd.dat, sFrz, lnD_len, List.getElem?_cons_zero, List.getElem?_cons_succ]
    refine iteB (fun e => ?_) fun e => fin ⟨t, u⟩ _ ok
    have e' : 0 < ls.length := by simp at e; omega
    refine ⟨8, rfl, by decide, by decide, fun c c0 c1 => ?_⟩
    simp only [Sd.ret, Sd.dat, fEq, Bool.false_eq_true, if_false, eqv_int]
    refine ⟨⟨okI _, okI _⟩, iteB (fun _ => ?_) fun _ => fin ⟨t, u⟩ _ ok⟩
    simp only [dSet, dRev, dOp, dCall, dCons, dNil, dCB, bCons, bNil, fLen, dVar, Sd.view, Sd.dat, sFrz, lnD_len, List.getElem?_cons_zero, List.getElem?_cons_succ]
    refine ⟨_, rfl, by omega, by omega, fun w w0 w1 => ?_⟩
    obtain ⟨k, rfl⟩ := Int.eq_ofNat_of_zero_le w0
    obtain ⟨x, hxk⟩ : ∃ x, ls[k]? = some x := ⟨_, List.getElem?_eq_getElem (by omega)⟩
    have a1 : atI (lnD ls) (k : Int) = some (Ln.d x) := atI_nat (by unfold lnD; rw [List.getElem?_map, hxk]; rfl)
    simp only [Sd.ret, fIx, Sd.dat, a1, Ln.d, fRev, Sd.stored, List.set_cons_zero, List.set_cons_succ]
    refine ⟨trivial, fin ⟨x.r, x.l⟩ _ ?_⟩
    have := hx x (List.mem_of_getElem? hxk)
    exact ⟨this.r, this.l⟩
  · rintro Δ ⟨ls, z5, z6, rfl, hl, hx⟩
    exact hR ls (by simpa using hl) hx
/-! ### _law_lore -/
theorem cut_last (xs : List D) : cutD xs none (some (-1)) = xs.dropLast := by
  unfold cutD
  have e : HT.sIx xs.length xs.length (some (-1)) = xs.length - 1 := by
    show (if (-1 : Int) < 0 then ((-1 : Int) + (xs.length : Int)).toNat else min (-1 : Int).toNat xs.length) = _
    rw [if_pos (by decide)]
    omega
  rw [e, HT.sIx_none, List.drop_zero, Nat.sub_zero, List.dropLast_eq_take]
theorem lefts_ok {s : Sg} {d : Nat} {ls : List Ln} (v : Valid s) (hd : d < 8) (hl : ls.length < 1000) (h : ∀ x ∈ ls, lnOk s d x) :
    Tm.ns (lefts ls) < 1000000 ∧ ∀ u ∈ Tm.subss (lefts ls), u.n < 1000000 ∧ u.h ≤ 40 ∧ strsOk u := by
  have p8 : 2 ^ (d + 1) ≤ 2 ^ 8 := Nat.pow_le_pow_right (by decide) (by omega)
  have hm : ∀ t ∈ lefts ls, tmOk s d t := fun t ht => by
    rcases List.mem_append.mp ht with ht | ht
    · obtain ⟨x, hx, rfl⟩ := List.mem_map.mp ht
      exact (h x hx).l
    · obtain ⟨x, hx, rfl⟩ := List.mem_map.mp ht
      exact (h x hx).r
  have key : ∀ ts : List Tm, (∀ t ∈ ts, t.n ≤ 256) → Tm.ns ts ≤ 256 * ts.length := fun ts => by
    induction ts with
    | nil => intro _; simp [Tm.ns]
    | cons t ts ih =>
      intro q
      have h1 := ih fun u hu => q u (List.mem_cons_of_mem _ hu)
      have h2 := q t List.mem_cons_self
      rw [Tm.ns, List.length_cons]
      omega
  have nb : ∀ t ∈ lefts ls, t.n ≤ 256 := fun t ht => by
    have := (hm t ht).n
    omega
  have hk := key _ nb
  have ll : (lefts ls).length = ls.length + ls.length := by unfold lefts; simp
  refine ⟨by omega, fun u hu => ?_⟩
  obtain ⟨t, ht, hut⟩ := Tm.mem_subss.mp hu
  have h1 := Tm.subs_n hut
  have h2 := Tm.subs_h hut
  have h3 := nb t ht
  have h4 := (hm t ht).h
  exact ⟨by omega, by omega, Tm.all_subs ((hm t ht).o.strs v) hut⟩
def R__law_lore : SpecD := fun ds R _ => ∃ (most deep : Nat), ds = [.cell 0 [], .int most, .int deep] ∧ most < 100 ∧ deep < 8 ∧ ∀ (s : Sg) (ls : List Ln), Valid s → ls.length ≤ most → (∀ x ∈ ls, lnOk s deep x) → (∀ rs, Within (lefts ls) rs → rs.length ≤ 40) → R (.fro (.tup [.tup (sgD s), .tup (lnD ls)]))
theorem p__law_lore (ds : List D) (R : Sd → Prop) (E : ED → Prop) (h : R__law_lore ds R E) : bodyD N__law_lore (T__law_lore R__law_signs R__law_lines R__law_told) ds R E := by
  obtain ⟨most, deep, rfl, hm, hd, hR⟩ := h
  unfold T__law_lore
  simp only [bodyD, startD, dSeq, dSet, dCall, dCons, dNil, dVar, Sd.view, sFrz, List.map_cons, List.map_nil, List.length_cons, List.length_nil, List.cons_append, List.nil_append, List.replicate_succ, List.replicate_zero, List.set_cons_zero, List.set_cons_succ, List.getElem?_cons_zero, List.getElem?_cons_succ]
  refine ⟨rfl, fun i j k hi hj hk => ⟨rfl, ?_⟩⟩
  have v := valid_signs i j k hi hj hk
  generalize signsOf i j k = s at v ⊢
  simp only [Sd.ret, Sd.view, sFrz, List.set_cons_zero, List.set_cons_succ, List.getElem?_cons_zero, List.getElem?_cons_succ]
  refine ⟨s, most, deep, rfl, v, hm, hd, fun ls hl hx => ⟨rfl, ?_⟩⟩
  simp only [Sd.ret, List.set_cons_zero, List.set_cons_succ]
  refine ⟨fun m Δ => ∃ ls : List Ln, m = ls.length ∧ Δ = [some (.fro (.cell 0 [])), some (.fro (.int most)), some (.fro (.int deep)), some (.fro (.tup (sgD s))), some (.fro (.tup (lnD ls)))] ∧ ls.length ≤ most ∧ ∀ x ∈ ls, lnOk s deep x, ⟨_, ls, rfl, rfl, hl, hx⟩, ?_⟩
  rintro m Δ ⟨ls, rfl, rfl, hl, hx⟩
  obtain ⟨b1, b2⟩ := lefts_ok v hd (by omega) hx
  simp only [dTst, tstB, dOp, dCB, bCons, bNil, dCall, dCons, dNil, dVar, dC, Sd.view, sFrz, List.getElem?_cons_zero, List.getElem?_cons_succ]
  refine ⟨ls, rfl, by omega, b1, b2, fun rs hw => ?_⟩
  simp only [Sd.ret, fLen, Sd.dat, fCI, pGt, Tm.ds_len, List.length_mergeSort]
  refine iteB (fun e => ?_) fun e => ?_
  · have e' : 40 < rs.length := by simp at e; omega
    rcases snoc_cases ls with rfl | ⟨r, x, rfl⟩
    · exfalso
      have : rs = [] := List.eq_nil_iff_forall_not_mem.mpr fun u hu => by
        have := (hw.2 u).mp hu
        simp [lefts, Tm.subss] at this
      rw [this] at e'
      simp at e'
    · simp only [dSet, dSl, dVar, oNone, oSome, dUn, dC, fNeg, Sd.view, Sd.dat, fSl, cut_last, Sd.stored, List.getElem?_cons_zero, List.getElem?_cons_succ, List.set_cons_zero, List.set_cons_succ]
      refine ⟨trivial, r.length, by simp, r, rfl, ?_, by simp at hl; omega, fun y hy => hx y (List.mem_append_left _ hy)⟩
      have : (lnD (r ++ [x])).dropLast = lnD r := by rw [lnD_app]; exact drop_snoc _ _
      rw [this]
  · have e' : rs.length ≤ 40 := by simp at e; omega
    simp only [dRet, dTup, dCons, dNil, dVar, Sd.view, sFrz, Sd.ret, List.getElem?_cons_zero, List.getElem?_cons_succ, List.length_cons, List.length_nil]
    refine ⟨by rw [sizeLine_eq]; decide, hR s ls v hl hx fun qs hq => ?_⟩
    rw [hq.len hw fun _ => Iff.rfl]
    exact e'
end DL
set_option Elab.async false
set_option linter.all false
set_option maxRecDepth 100000
set_option maxHeartbeats 4000000
namespace DL
open PySem PySem.Spec PyProof.Rows L2
/-! ### texts are not long -/
theorem abc_str {z : Str} : z.cps.toList.length = z.length := by simp [Str.length]
mutual
theorem Tm.cs_len {s : Sg} (v : Valid s) : ∀ {t : Tm}, over s t → t.cs.length + 1 ≤ 11 * t.n
  | .mk f as, h => by
    unfold over at h
    rw [Tm.all] at h
    have hf : f.length ≤ 8 := (v.ok _ h.1).1.2.1
    have hl : f.cps.toList.length = f.length := abc_str
    have hl2 : f.cps.size = f.length := by rw [← hl]; simp
    rw [Tm.cs.eq_def, Tm.n]
    dsimp only
    cases as with
    | nil => simp [Tm.ns]; omega
    | cons a r =>
      have := Tm.csR_len v h.2
      rw [Tm.csR, List.length_cons] at this
      dsimp only
      rw [Tm.csA]
      simp only [List.length_append, List.length_cons, List.length_nil] at *
      omega
theorem Tm.csR_len {s : Sg} (v : Valid s) : ∀ {ts : List Tm}, Tm.alls (fun f as => (f, as.length) ∈ s) ts → (Tm.csR ts).length ≤ 11 * Tm.ns ts
  | [], _ => by simp [Tm.csR]
  | t :: r, h => by
    rw [Tm.alls] at h
    have h1 := Tm.cs_len v (t := t) h.1
    have h2 := Tm.csR_len v h.2
    rw [Tm.csR, Tm.ns]
    simp only [List.length_append, List.length_cons]
    omega
end
/-! ### Lore -/
def loreF (s : Sg) (ls : List Ln) : List (Str × D) := [("signs", .tup (sgD s)), ("lines", .tup (lnD ls)), ("kept_places", .dic (kvS s)), ("kept_hall", .lst [])]
theorem putFD_len (f : Str) (d : D) : ∀ fs : List (Str × D), (putFD f d fs).length ≤ fs.length + 1
  | [] => by simp [putFD]
  | (g, e) :: r => by
    unfold putFD
    split
    · simp
    · have := putFD_len f d r
      simp only [List.length_cons]
      omega
def R_keep : SpecO := fun fs ds R _ => ∃ (s : Sg) (ls : List Ln), fs = [] ∧ ds = [.tup (sgD s), .tup (lnD ls)] ∧ (s.map (·.1)).Nodup ∧ R (loreF s ls)
theorem p_keep (a : Addr) (C : Str) (fs : List (Str × D)) (ds : List D) (R : List (Str × D) → Prop) (E : ED → Prop) (h : R_keep fs ds R E) : bodyO N_Lore_keep a C (T_Lore_keep C) fs ds R E := by
  obtain ⟨s, ls, rfl, rfl, hn, hR⟩ := h
  unfold T_Lore_keep
  simp only [bodyO, startO, dSeq, dFldSet, dVar, dCB, bCons, bNil, fDictP, dLst, dNil, Sd.view, Sd.dat, sFrz, owniAt, dKVs_sg, dict_sg hn, List.map_cons, List.map_nil, List.length_cons, List.length_nil, List.cons_append, List.nil_append, List.replicate_succ, List.replicate_zero, List.set_cons_zero, List.set_cons_succ, List.getElem?_cons_zero, List.getElem?_cons_succ]
  have l1 := putFD_len "signs" (.tup (sgD s)) []
  have l2 := putFD_len "lines" (.tup (lnD ls)) (putFD "signs" (.tup (sgD s)) [])
  have l3 := putFD_len "kept_places" (.dic (kvS s)) (putFD "lines" (.tup (lnD ls)) (putFD "signs" (.tup (sgD s)) []))
  rw [List.length_nil] at l1
  refine ⟨trivial, by decide, trivial, by omega, trivial, by omega, by rw [sizeLine_eq]; decide, trivial, by omega, ?_⟩
  simp only [insAt, List.getElem?_cons_zero]
  exact ⟨⟨trivial, trivial⟩, hR⟩
theorem valid_nodup {s : Sg} (v : Valid s) : (s.map (·.1)).Nodup := by
  have key : ∀ (n i : Nat) (p q : Str × Nat), s[i]? = some p → s[i + n + 1]? = some q → p.1.cps.toList < q.1.cps.toList := fun n => by
    induction n with
    | zero => exact fun i p q h1 h2 => v.up i p q h1 h2
    | succ n ih =>
      intro i p q h1 h2
      have hlt := (List.getElem?_eq_some_iff.mp h2).1
      obtain ⟨r, hr⟩ : ∃ r, s[i + 1]? = some r := ⟨_, List.getElem?_eq_getElem (by omega)⟩
      exact List.lt_trans (v.up i p r h1 hr) (ih (i + 1) r q hr (by rw [show i + 1 + n + 1 = i + (n + 1) + 1 by omega]; exact h2))
  unfold List.Nodup
  rw [List.pairwise_iff_getElem]
  intro i j hi hj hij e
  rw [List.length_map] at hi hj
  have h1 : s[i]? = some s[i] := List.getElem?_eq_getElem hi
  have h2 : s[j]? = some s[j] := List.getElem?_eq_getElem hj
  have h3 := key (j - i - 1) i s[i] s[j] h1 (by rw [show i + (j - i - 1) + 1 = j by omega]; exact h2)
  rw [List.getElem_map, List.getElem_map] at e
  rw [e] at h3
  exact List.lt_irrefl _ h3
/-- a lore as the constructor lets it -/
structure LoreOk (s : Sg) (ls : List Ln) : Prop where
  v : Valid s
  len : ls.length ≤ 24
  ok : ∀ x ∈ ls, over s x.l ∧ over s x.r ∧ x.l.n < 10000 ∧ x.r.n < 10000 ∧ x.l.h ≤ 40 ∧ x.r.h ≤ 40
  told : ∀ rs, Within (lefts ls) rs → rs.length ≤ 60
/-- what within_of wants of a lore's sides -/
theorem sides_ok {s : Sg} (v : Valid s) {ls : List Ln} (hl : ls.length ≤ 40) (ok : ∀ x ∈ ls, over s x.l ∧ over s x.r ∧ x.l.n < 10000 ∧ x.r.n < 10000 ∧ x.l.h ≤ 40 ∧ x.r.h ≤ 40) :
    Tm.ns (sides ls) < 1000000 ∧ (∀ u ∈ Tm.subss (sides ls), u.n < 1000000 ∧ u.h ≤ 40 ∧ u.cs.length < 1000000) ∧ (∀ u ∈ Tm.subss (sides ls), ∀ w ∈ Tm.subss (sides ls), u.tx = w.tx → u = w) := by
  have hm : ∀ ls : List Ln, (∀ x ∈ ls, over s x.l ∧ over s x.r ∧ x.l.n < 10000 ∧ x.r.n < 10000 ∧ x.l.h ≤ 40 ∧ x.r.h ≤ 40) → Tm.ns (sides ls) ≤ 20000 * ls.length ∧ ∀ t ∈ sides ls, over s t ∧ t.n < 10000 ∧ t.h ≤ 40 := fun ls => by
    induction ls with
    | nil => intro _; exact ⟨by simp [sides, Tm.ns], fun t h => (nomatch h)⟩
    | cons x r ih =>
      intro q
      obtain ⟨h1, h2⟩ := ih fun y hy => q y (List.mem_cons_of_mem _ hy)
      obtain ⟨a1, a2, a3, a4, a5, a6⟩ := q x List.mem_cons_self
      rw [sides, Tm.ns, Tm.ns, List.length_cons]
      refine ⟨by omega, fun t ht => ?_⟩
      rcases List.mem_cons.mp ht with rfl | ht
      · exact ⟨a1, a3, a5⟩
      · rcases List.mem_cons.mp ht with rfl | ht
        · exact ⟨a2, a4, a6⟩
        · exact h2 t ht
  obtain ⟨h1, h2⟩ := hm ls ok
  have hs : ∀ u ∈ Tm.subss (sides ls), over s u ∧ u.n < 10000 ∧ u.h ≤ 40 := fun u hu => by
    obtain ⟨t, ht, hut⟩ := Tm.mem_subss.mp hu
    obtain ⟨b1, b2, b3⟩ := h2 t ht
    have := Tm.subs_n hut
    have := Tm.subs_h hut
    exact ⟨Tm.all_subs b1 hut, by omega, by omega⟩
  refine ⟨by omega, fun u hu => ?_, fun u hu w hw e => Tm.tx_inj ((hs u hu).1.plain v) ((hs w hw).1.plain v) e⟩
  obtain ⟨b1, b2, b3⟩ := hs u hu
  have := Tm.cs_len v b1
  exact ⟨by omega, b3, by omega⟩
def R_Lore_init : SpecO := fun fs ds R _ => ∃ (s : Sg) (ls : List Ln), fs = [] ∧ ds = [.tup (sgD s), .tup (lnD ls)] ∧ LoreOk s ls ∧ R (loreF s ls)
theorem enumD_lnD (ls : List Ln) : enumD (lnD ls) = ls.zipIdx.map fun p => .tup [.int (p.2 : Nat), p.1.d] := by
  unfold enumD lnD
  rw [List.zipIdx_map, List.map_map]
  rfl
theorem p_Lore_init (a : Addr) (C : Str) (fs : List (Str × D)) (ds : List D) (R : List (Str × D) → Prop) (E : ED → Prop) (h : R_Lore_init fs ds R E) : bodyO N_Lore_u__init_u_ a C (T_Lore_u__init_u_ R_are_signs R_is_line_of R_sides_of R_within_of R_keep C) fs ds R E := by
  obtain ⟨s, ls, rfl, rfl, ok, hR⟩ := h
  have v := ok.v
  have hn := valid_nodup v
  have hlen := ok.len
  obtain ⟨w1, w2, w3⟩ := sides_ok v (by omega) ok.ok
  unfold T_Lore_u__init_u_
  simp only [bodyO, startO, dSeq, dIfS, dNot, dOr, dTst, tstB, dCall, dCons, dNil, dVar, Sd.view, Sd.dat, Sd.ret, sFrz, dNext, dCB, bCons, bNil, dC, dOp, fIsi, fLen, fCI, pGt, tyN, lnD_len, List.map_cons, List.map_nil, List.length_cons, List.length_nil, List.cons_append, List.nil_append, List.replicate_succ, List.replicate_zero, List.set_cons_zero, List.set_cons_succ, List.getElem?_cons_zero, List.getElem?_cons_succ]
  refine ⟨s, rfl, v, iteB (fun e => absurd e (by decide)) fun _ => ?_⟩
  refine ⟨by decide, iteB (fun e => absurd e (by decide)) fun _ => iteB (fun e => ?_) fun _ => ?_⟩
  · simp at e
    omega
  · simp only [dSet, dCB, bCons, bNil, dVar, Sd.view, fDictP, Sd.dat, dKVs_sg, dict_sg hn, Sd.stored, List.set_cons_zero, List.set_cons_succ, List.getElem?_cons_zero, List.getElem?_cons_succ]
    refine ⟨trivial, ?_⟩
    simp only [dSeq, dFreeze, frzSlot, dFor, dEnum, dCons, dNil, dVar, Sd.view, sFrz, List.set_cons_zero, List.set_cons_succ, List.getElem?_cons_zero, List.getElem?_cons_succ]
    rw [enumD_lnD]
    refine for_inv (fun r Δ => ∃ (zs : List (Ln × Nat)) (z4 z5 : Option Sd), r = zs.map (fun p => .tup [.int (p.2 : Nat), p.1.d]) ∧ (∀ p ∈ zs, p.1 ∈ ls) ∧ Δ = [some (.owni a C []), some (.fro (.tup (sgD s))), some (.fro (.tup (lnD ls))), some (.fro (.dic (kvS s))), z4, z5]) ?_ ?_ _ _ ⟨ls.zipIdx, none, none, rfl, fun p hp => List.fst_mem_of_mem_zipIdx hp, rfl⟩
    · rintro d r Δ ⟨zs, z4, z5, hz, hm, rfl⟩ D' hnx _ _ _ _
      cases zs with
      | nil => cases hz
      | cons p zs =>
        rw [List.map_cons] at hz
        injection hz with e1 e2
        subst e1 e2
        obtain ⟨o1, o2, o3, o4, _, _⟩ := ok.ok _ (hm p List.mem_cons_self)
        simp only [dgTup, dgCons, dgNil, dgName, List.length_cons, List.length_nil, dIfS, dNot, dTst, tstB, dCall, dCons, dNil, dVar, Sd.view, sFrz, Sd.ret, dNext, List.set_cons_zero, List.set_cons_succ, List.getElem?_cons_zero, List.getElem?_cons_succ]
        refine ⟨trivial, kvS s, p.1, rfl, o1.fits hn, o2.fits hn, by omega, by omega, iteB (fun e => absurd e (by decide)) fun _ => ?_⟩
        exact hnx _ ⟨zs, _, _, rfl, fun q hq => hm q (List.mem_cons_of_mem _ hq), rfl⟩
    · rintro Δ ⟨zs, z4, z5, hz, hm, rfl⟩
      simp only [dSeq, dIfS, dTst, tstB, dOp, dCB, bCons, bNil, dCall, dCons, dNil, dVar, dC, Sd.view, sFrz, Sd.ret, dNext, List.getElem?_cons_zero, List.getElem?_cons_succ]
      refine ⟨ls, rfl, by omega, ?_⟩
      simp only [Sd.ret, sFrz]
      refine ⟨sides ls, rfl, w1, w2, w3, fun rs hw => ?_⟩
      simp only [Sd.ret, fLen, Sd.dat, fCI, pGt, Tm.ds_len, List.length_mergeSort]
      have l60 : rs.length ≤ 60 := by
        have := ok.told rs ⟨hw.1, fun u => (hw.2 u).trans (sides_mem u ls)⟩
        exact this
      refine iteB (fun e => ?_) fun _ => ?_
      · simp at e
        omega
      · simp only [dCallO, owniAt, dCons, dNil, dVar, Sd.view, sFrz, insAt, List.set_cons_zero, List.set_cons_succ, List.getElem?_cons_zero, List.getElem?_cons_succ]
        exact ⟨trivial, rfl, s, ls, rfl, rfl, hn, ⟨⟨trivial, trivial⟩, hR⟩⟩
def R_Raw_init : SpecO := R_keep
theorem p_Raw_init (a : Addr) (C : Str) (fs : List (Str × D)) (ds : List D) (R : List (Str × D) → Prop) (E : ED → Prop) (h : R_Raw_init fs ds R E) : bodyO N_RawLore_u__init_u_ a C (T_RawLore_u__init_u_ R_keep C) fs ds R E := by
  obtain ⟨s, ls, rfl, rfl, hn, hR⟩ := h
  unfold T_RawLore_u__init_u_
  simp only [bodyO, startO, dCallO, owniAt, dCons, dNil, dVar, Sd.view, sFrz, insAt, List.map_cons, List.map_nil, List.length_cons, List.length_nil, List.cons_append, List.nil_append, List.replicate_succ, List.replicate_zero, List.set_cons_zero, List.set_cons_succ, List.getElem?_cons_zero, List.getElem?_cons_succ]
  exact ⟨trivial, rfl, s, ls, rfl, rfl, hn, ⟨⟨trivial, trivial⟩, hR⟩⟩
/-! ### raw_lore, _law_made -/
def R_raw_lore : SpecD := fun ds R _ => ∃ (s : Sg) (ls : List Ln), (ds = [.tup (sgD s), .tup (lnD ls)] ∨ ds = [.tup (sgD s), .lst (lnD ls)] ∨ ds = [.lst (sgD s), .lst (lnD ls)] ∨ ds = [.lst (sgD s), .tup (lnD ls)]) ∧ (s.map (·.1)).Nodup ∧ R (.fro (.ins "RawLore" (loreF s ls)))
theorem p_raw_lore (ds : List D) (R : Sd → Prop) (E : ED → Prop) (h : R_raw_lore ds R E) : bodyD N_raw_lore (T_raw_lore R_Raw_init) ds R E := by
  obtain ⟨s, ls, hds, hn, hR⟩ := h
  unfold T_raw_lore
  rcases hds with rfl | rfl | rfl | rfl <;>
  · simp only [bodyD, startD, dRet, dMake, dCons, dNil, dCB, bCons, bNil, dVar, Sd.view, fTupOf, Sd.dat, sFrz, Sd.ret, List.map_cons, List.map_nil, List.length_cons, List.length_nil, List.cons_append, List.nil_append, List.replicate_succ, List.replicate_zero, List.getElem?_cons_zero, List.getElem?_cons_succ]
    exact ⟨s, ls, rfl, rfl, hn, hR⟩
def R__law_made : SpecD := fun ds R _ => ∃ (s : Sg) (ls : List Ln), ds = [.tup [.tup (sgD s), .tup (lnD ls)]] ∧ LoreOk s ls ∧ R (.fro (.ins "Lore" (loreF s ls)))
theorem p__law_made (ds : List D) (R : Sd → Prop) (E : ED → Prop) (h : R__law_made ds R E) : bodyD N__law_made (T__law_made R_Lore_init) ds R E := by
  obtain ⟨s, ls, rfl, ok, hR⟩ := h
  unfold T__law_made
  simp only [bodyD, startD, dRet, dMake, dCons, dNil, dOp, dC, dVar, Sd.view, fIx, atI_0, atI_1, Sd.dat, sFrz, Sd.ret, List.map_cons, List.map_nil, List.length_cons, List.length_nil, List.cons_append, List.nil_append, List.replicate_succ, List.replicate_zero, List.getElem?_cons_zero, List.getElem?_cons_succ]
  exact ⟨s, ls, rfl, rfl, ok, hR⟩
end DL
set_option Elab.async false
set_option linter.all false
set_option maxRecDepth 100000
set_option maxHeartbeats 4000000
namespace DL
open PySem PySem.Spec PyProof.Rows L2
/-! ### plain data: == is = -/
mutual
def D.sd : D → Bool
  | .non => true
  | .int _ => true
  | .str _ => true
  | .lst xs => D.sds xs
  | .tup xs => D.sds xs
  | _ => false
def D.sds : List D → Bool
  | [] => true
  | x :: xs => x.sd && D.sds xs
end
mutual
theorem D.eqv_iff : ∀ d e : D, d.sd = true → e.sd = true → (PyData.eqv d.py e.py = true ↔ d = e)
  | .non, e, _, h => by cases e <;> simp_all [D.sd, D.py, PyData.eqv]
  | .int i, e, _, h => by cases e <;> simp_all [D.sd, D.py, PyData.eqv]
  | .str i, e, _, h => by cases e <;> simp_all [D.sd, D.py, PyData.eqv]
  | .lst xs, .lst ys, h, g => by
    simp only [D.sd] at h g
    simp only [D.py, PyData.eqv, D.lst.injEq]
    exact D.eqvs_iff xs ys h g
  | .tup xs, .tup ys, h, g => by
    simp only [D.sd] at h g
    simp only [D.py, PyData.eqv, D.tup.injEq]
    exact D.eqvs_iff xs ys h g
  | .lst xs, .non, _, _ => by simp [D.py, PyData.eqv]
  | .lst xs, .int _, _, _ => by simp [D.py, PyData.eqv]
  | .lst xs, .str _, _, _ => by simp [D.py, PyData.eqv]
  | .lst xs, .tup _, _, _ => by simp [D.py, PyData.eqv]
  | .tup xs, .non, _, _ => by simp [D.py, PyData.eqv]
  | .tup xs, .int _, _, _ => by simp [D.py, PyData.eqv]
  | .tup xs, .str _, _, _ => by simp [D.py, PyData.eqv]
  | .tup xs, .lst _, _, _ => by simp [D.py, PyData.eqv]
  | .lst _, .bl _, _, h => by simp [D.sd] at h
  | .lst _, .dic _, _, h => by simp [D.sd] at h
  | .lst _, .ins _ _, _, h => by simp [D.sd] at h
  | .lst _, .cell _ _, _, h => by simp [D.sd] at h
  | .lst _, .ob _, _, h => by simp [D.sd] at h
  | .tup _, .bl _, _, h => by simp [D.sd] at h
  | .tup _, .dic _, _, h => by simp [D.sd] at h
  | .tup _, .ins _ _, _, h => by simp [D.sd] at h
  | .tup _, .cell _ _, _, h => by simp [D.sd] at h
  | .tup _, .ob _, _, h => by simp [D.sd] at h
  | .bl _, _, h, _ => by simp [D.sd] at h
  | .dic _, _, h, _ => by simp [D.sd] at h
  | .ins _ _, _, h, _ => by simp [D.sd] at h
  | .cell _ _, _, h, _ => by simp [D.sd] at h
  | .ob _, _, h, _ => by simp [D.sd] at h
theorem D.eqvs_iff : ∀ ds es : List D, D.sds ds = true → D.sds es = true → (PyData.eqvAll (D.pys ds) (D.pys es) = true ↔ ds = es)
  | [], [], _, _ => by simp only [D.pys, PyData.eqvAll]
  | [], _ :: _, _, _ => by simp [D.pys, PyData.eqvAll]
  | _ :: _, [], _, _ => by simp [D.pys, PyData.eqvAll]
  | d :: ds, e :: es, h, g => by
    simp only [D.sds, Bool.and_eq_true] at h g
    simp only [D.pys, PyData.eqvAll, Bool.and_eq_true, List.cons.injEq]
    rw [D.eqv_iff d e h.1 g.1, D.eqvs_iff ds es h.2 g.2]
end
open Classical in
theorem D.eqv_dec {d e : D} (h : d.sd = true) (g : e.sd = true) : PyData.eqv d.py e.py = decide (d = e) := by
  rw [Bool.eq_iff_iff, D.eqv_iff d e h g]
  simp
theorem D.eqv_rfl {d : D} (h : d.sd = true) : PyData.eqv d.py d.py = true := (D.eqv_iff d d h h).mpr rfl
theorem D.eqv_ne {d e : D} (h : d.sd = true) (g : e.sd = true) (n : d ≠ e) : PyData.eqv d.py e.py = false := by
  cases q : PyData.eqv d.py e.py with
  | false => rfl
  | true => exact absurd ((D.eqv_iff d e h g).mp q) n
theorem sds_iff {ds : List D} : D.sds ds = true ↔ ∀ d ∈ ds, d.sd = true := by
  induction ds with
  | nil => simp [D.sds]
  | cons d r ih => simp [D.sds, ih]
theorem anyD_iff {x : D} {ys : List D} (h : x.sd = true) (g : D.sds ys = true) : anyD x ys = true ↔ x ∈ ys := by
  unfold anyD
  induction ys with
  | nil => simp [D.pys]
  | cons y r ih =>
    simp only [D.sds, Bool.and_eq_true] at g
    simp only [D.pys, List.any_cons, Bool.or_eq_true, List.mem_cons]
    rw [ih g.2, D.eqv_iff y x g.1 h]
    exact ⟨fun h => h.imp (fun e => e.symm) id, fun h => h.imp (fun e => e.symm) id⟩
/-! ### data that == may look at: how deep, with texts that are texts -/
structure nice (n : Nat) (d : D) : Prop where
  sd : d.sd = true
  lay : d.py.canLay0 = true
  dep : d.py.depth ≤ n
mutual
theorem D.sd_pure : ∀ d : D, d.sd = true → d.pure = true
  | .non, _ => rfl
  | .int _, _ => rfl
  | .str _, _ => rfl
  | .lst xs, h => by simp only [D.sd] at h; simp only [D.pure]; exact D.sds_pures xs h
  | .tup xs, h => by simp only [D.sd] at h; simp only [D.pure]; exact D.sds_pures xs h
  | .bl _, h => by simp [D.sd] at h
  | .dic _, h => by simp [D.sd] at h
  | .ins _ _, h => by simp [D.sd] at h
  | .cell _ _, h => by simp [D.sd] at h
  | .ob _, h => by simp [D.sd] at h
theorem D.sds_pures : ∀ ds : List D, D.sds ds = true → D.pures ds = true
  | [], _ => by simp only [D.pures]
  | d :: r, h => by
    simp only [D.sds, Bool.and_eq_true] at h
    simp only [D.pures, Bool.and_eq_true]
    exact ⟨D.sd_pure d h.1, D.sds_pures r h.2⟩
end
theorem nice.ok {d : D} {n : Nat} (h : nice n d) (hn : n ≤ 64 := by decide) : okD d := by
  refine ⟨D.sd_pure d h.sd, ?_⟩
  unfold SeqAt.shaped
  rw [h.lay, Bool.true_and]
  exact decide_eq_true (Nat.le_trans h.dep hn)
theorem nice.mono {d : D} {m n : Nat} (h : nice m d) (k : m ≤ n) : nice n d := ⟨h.sd, h.lay, Nat.le_trans h.dep k⟩
theorem nice_int (i : Int) : nice 0 (.int i) := ⟨rfl, rfl, Nat.le_refl _⟩
theorem nice_non : nice 0 .non := ⟨rfl, rfl, Nat.le_refl _⟩
theorem nice_str {z : Str} (h : PyData.strOk z = true) : nice 0 (.str z) := ⟨rfl, h, Nat.le_refl _⟩
theorem nices {n : Nat} {ds : List D} (h : ∀ d ∈ ds, nice n d) : D.sds ds = true ∧ PyData.canLayAll0 (D.pys ds) = true ∧ PyData.depthAll (D.pys ds) ≤ n := by
  induction ds with
  | nil => simp [D.sds, D.pys, PyData.canLayAll0, PyData.depthAll]
  | cons d r ih =>
    obtain ⟨h1, h2, h3⟩ := ih fun e he => h e (List.mem_cons_of_mem _ he)
    have hd := h d List.mem_cons_self
    refine ⟨by simp [D.sds, hd.sd, h1], by simp [D.pys, PyData.canLayAll0, hd.lay, h2], ?_⟩
    simp only [D.pys, PyData.depthAll]
    have := hd.dep
    omega
theorem nice_tup {n : Nat} {ds : List D} (h : ∀ d ∈ ds, nice n d) : nice (n + 1) (.tup ds) := by
  obtain ⟨h1, h2, h3⟩ := nices h
  exact ⟨by simpa [D.sd] using h1, by simpa [D.py, PyData.canLay0] using h2, by simp only [D.py, PyData.depth]; omega⟩
theorem nice_lst {n : Nat} {ds : List D} (h : ∀ d ∈ ds, nice n d) : nice (n + 1) (.lst ds) := by
  obtain ⟨h1, h2, h3⟩ := nices h
  exact ⟨by simpa [D.sd] using h1, by simpa [D.py, PyData.canLay0] using h2, by simp only [D.py, PyData.depth]; omega⟩
theorem nice_pair {n : Nat} {a b : D} (h : nice n a) (g : nice n b) : nice (n + 1) (.tup [a, b]) := nice_tup fun d hd => by
  rcases List.mem_cons.mp hd with rfl | hd
  · exact h
  · cases List.mem_singleton.mp hd; exact g
mutual
theorem Tm.sd : ∀ t : Tm, t.d.sd = true
  | .mk f as => by
    simp only [Tm.d, D.sd, D.sds, Bool.true_and]
    exact Tm.sds as
theorem Tm.sds : ∀ ts : List Tm, D.sds (Tm.ds ts) = true
  | [] => by simp only [Tm.ds, D.sds]
  | t :: ts => by
    simp only [Tm.ds, D.sds, Bool.and_eq_true]
    exact ⟨Tm.sd t, Tm.sds ts⟩
end
theorem nice_tm {n : Nat} {t : Tm} (h : t.h ≤ n) (hs : strsOk t) : nice n t.d := ⟨Tm.sd t, Tm.lay t hs, Nat.le_trans (Tm.dep t) h⟩
theorem nice_ln {n : Nat} {x : Ln} (h1 : x.l.h ≤ n) (h2 : x.r.h ≤ n) (s1 : strsOk x.l) (s2 : strsOk x.r) : nice (n + 1) x.d := nice_pair (nice_tm h1 s1) (nice_tm h2 s2)
theorem nice_sg {s : Sg} (v : ∀ p ∈ s, PyData.strOk p.1 = true) : nice 2 (.tup (sgD s)) := nice_tup fun d hd => by
  obtain ⟨p, hp, rfl⟩ := List.mem_map.mp hd
  exact nice_pair (nice_str (v p hp)) (nice_int _)
theorem Valid.nice {s : Sg} (v : Valid s) : nice 2 (.tup (sgD s)) := nice_sg fun p hp => (v.ok p hp).1.str
theorem Ln.inj {x y : Ln} (h : x.d = y.d) : x = y := by
  unfold Ln.d at h
  injection h with h
  injection h with h1 h2
  injection h2 with h2 _
  cases x
  cases y
  rw [Ln.mk.injEq]
  exact ⟨Tm.inj h1, Tm.inj h2⟩
theorem map_inj {α β : Type} {f : α → β} (h : ∀ a b, f a = f b → a = b) : ∀ {l m : List α}, l.map f = m.map f → l = m
  | [], [], _ => rfl
  | [], _ :: _, e => by simp at e
  | _ :: _, [], e => by simp at e
  | x :: l, y :: m, e => by
    rw [List.map_cons, List.map_cons] at e
    injection e with e1 e2
    rw [h _ _ e1, map_inj h e2]
theorem prD_inj {p q : Str × Nat} (h : prD p = prD q) : p = q := by
  unfold prD at h
  injection h with h
  injection h with h1 h2
  injection h1 with h1
  injection h2 with h2
  injection h2 with h2
  exact Prod.ext h1 (by omega)
theorem sgD_inj {s t : Sg} : sgD s = sgD t → s = t := map_inj fun _ _ => prD_inj
theorem lnD_inj {s t : List Ln} : lnD s = lnD t → s = t := map_inj fun _ _ => Ln.inj
/-! ### a lore's fields -/
/-- lines that == may look at -/
def lsOk (ls : List Ln) : Prop := ∀ x ∈ ls, x.l.h ≤ 40 ∧ x.r.h ≤ 40 ∧ strsOk x.l ∧ strsOk x.r
theorem lsOk.nice {ls : List Ln} (h : lsOk ls) : nice 42 (.tup (lnD ls)) := nice_tup fun d hd => by
  obtain ⟨x, hx, rfl⟩ := List.mem_map.mp hd
  obtain ⟨h1, h2, h3, h4⟩ := h x hx
  exact nice_ln h1 h2 h3 h4
theorem lk_signs (s : Sg) (ls : List Ln) : List.lookup ("signs" : Str) (loreF s ls) = some (.tup (sgD s)) := rfl
theorem lk_lines (s : Sg) (ls : List Ln) : List.lookup ("lines" : Str) (loreF s ls) = some (.tup (lnD ls)) := rfl
theorem lk_places (s : Sg) (ls : List Ln) : List.lookup ("kept_places" : Str) (loreF s ls) = some (.dic (kvS s)) := rfl
def isLo (C : Str) : Prop := C ∈ csLore
theorem fldAQ_ok {C : Str} {f : Str} {fs : List (Str × D)} {Q : Sd → Prop} {d : D} (h : isLo C) (e : fs.lookup f = some d) (q : Q (.fro d)) : fldAQ csLore f Q (.fro (.ins C fs)) := by
  unfold fldAQ
  simp only [Sd.dat, e]
  exact ⟨h, q⟩
def subL (C : Str) : Option Bool := if C ∈ csLore then some true else none
theorem subL_ok {C : Str} (h : isLo C) : subL C = some true := by
  unfold subL
  unfold isLo csLore at h
  rw [if_pos]
  simpa using h
open Classical in
noncomputable def R_eqL : SpecD := fun ds R _ => ∃ (C C' : Str) (s t : Sg) (ls ms : List Ln), ds = [.ins C (loreF s ls), .ins C' (loreF t ms)] ∧ isLo C ∧ isLo C' ∧ Valid s ∧ Valid t ∧ lsOk ls ∧ lsOk ms ∧ R (.fro (.bl (decide (s = t ∧ ls = ms))))
open Classical in
theorem p_eqL (ds : List D) (R : Sd → Prop) (E : ED → Prop) (h : R_eqL ds R E) : bodyD N_Lore_u__eq_u_ (T_Lore_u__eq_u_ subL csLore) ds R E := by
  obtain ⟨C, C', s, t, ls, ms, rfl, c1, c2, v1, v2, l1, l2, hR⟩ := h
  unfold T_Lore_u__eq_u_
  simp only [bodyD, startD, dRet, vAnd, dIsiC, dVar, Sd.view, isiQ, Sd.dat, subL_ok c2, tstB, dOp, dFldA, List.map_cons, List.map_nil, List.length_cons, List.length_nil, List.cons_append, List.nil_append, List.replicate_succ, List.replicate_zero, List.getElem?_cons_zero, List.getElem?_cons_succ]
  rw [if_pos True.intro]
  refine fldAQ_ok c1 (lk_signs s ls) (fldAQ_ok c2 (lk_signs t ms) ⟨⟨(v1.nice).ok, (v2.nice).ok⟩, ?_⟩)
  simp only [Sd.dat, Bool.false_eq_true, if_false, D.eqv_dec v1.nice.sd v2.nice.sd]
  refine iteB (fun e => ?_) fun e => ?_
  · have e' : s = t := by
      have := of_decide_eq_true e
      injection this with this
      exact sgD_inj this
    refine fldAQ_ok c1 (lk_lines s ls) (fldAQ_ok c2 (lk_lines t ms) ⟨⟨(l1.nice).ok, (l2.nice).ok⟩, ?_⟩)
    simp only [Sd.dat, Bool.false_eq_true, if_false, D.eqv_dec l1.nice.sd l2.nice.sd, Sd.ret]
    have q : decide (D.tup (lnD ls) = D.tup (lnD ms)) = decide (s = t ∧ ls = ms) := by
      rw [decide_eq_decide]
      constructor
      · intro h
        injection h with h
        exact ⟨e', lnD_inj h⟩
      · rintro ⟨_, h⟩
        rw [h]
    rw [q]
    exact hR
  · have q : decide (s = t ∧ ls = ms) = false := decide_eq_false fun h => by
      have := of_decide_eq_false e
      exact this (by rw [h.1])
    rw [q] at hR
    exact hR
end DL
set_option Elab.async false
set_option linter.all false
set_option maxRecDepth 100000
set_option maxHeartbeats 4000000
namespace DL
open PySem PySem.Spec PyProof.Rows L2
theorem lc_map {α : Type} {g : TDG} {te : TD} {Δ0 : Dl} {Q : List D → Prop} (inp out : α → D) (l : List α) (st : ∀ a ∈ l, ∀ (K : D → Prop), K (out a) → g (inp a) Δ0 fun Δ2 => te Δ2 (fun s => sFrz s K) noE)
    (hl : l.length ≤ sizeLine) (q : Q (l.map out)) : lcR g (fun _ Q _ => Q true) te Δ0 (l.map inp) [] Q := by
  refine lc_gen inp (fun _ => true) out l [] (fun a ha K N h1 _ => ?_) (by simpa using hl) (by rw [List.nil_append, List.filter_eq_self.mpr fun _ _ => rfl]; exact q)
  simp only [if_true]
  exact st a ha K (h1 rfl)
/-! ### lots -/
def natD (l : List Nat) : List D := l.map fun k => .int (k : Nat)
theorem natD_inj {a b : List Nat} : natD a = natD b → a = b := map_inj fun x y h => by injection h with h; omega
theorem natD_nice (l : List Nat) : nice 1 (.tup (natD l)) := nice_tup fun d hd => by
  obtain ⟨k, _, rfl⟩ := List.mem_map.mp hd
  exact nice_int _
def R_is_lot : SpecD := fun ds R _ => ∃ (lot : List Nat) (b : Nat), ds = [.tup (natD lot), .int b] ∧ lot.Pairwise (· < ·) ∧ (∀ k ∈ lot, k < b) ∧ b < 1000000 ∧ lot.length < 1000000 ∧ R (.fro (.bl true))
theorem p_is_lot (ds : List D) (R : Sd → Prop) (E : ED → Prop) (h : R_is_lot ds R E) : bodyD N_is_lot (T_is_lot R_is_within) ds R E := by
  obtain ⟨lot, b, rfl, hp, hb, hbb, hl, hR⟩ := h
  unfold T_is_lot
  simp only [bodyD, startD, dSeq, dIfS, dOr, dNot, dTst, tstB, dCB, bCons, bNil, dVar, dC, fIsi, Sd.view, Sd.dat, tyN, dLc, dTupOf, wipeD, List.map_cons, List.map_nil, List.length_cons, List.length_nil, List.cons_append, List.nil_append, List.replicate_succ, List.replicate_zero, List.set_cons_zero, List.set_cons_succ, List.getElem?_cons_zero, List.getElem?_cons_succ]
  refine ⟨by decide, iteB (fun e => absurd e (by decide)) fun _ => ?_⟩
  refine lc_map (fun k : Nat => .int k) (fun _ => .bl true) lot (fun k hk K q => ?_) (by rw [sizeLine_eq]; omega) ?_
  · simp only [dgName, dCall, dCons, dNil, dVar, dC, dOp, fSub, Sd.view, Sd.dat, sFrz, List.set_cons_zero, List.set_cons_succ, List.getElem?_cons_zero, List.getElem?_cons_succ]
    refine ⟨_, _, _, rfl, by simp [tyN], ?_⟩
    have := hb k hk
    have e : withinD 0 ((b : Int) - 1) (.int (k : Nat)) = true := by
      show (decide ((0 : Int) ≤ k) && decide ((k : Int) ≤ (b : Int) - 1)) = true
      rw [decide_eq_true (by omega), decide_eq_true (by omega)]
      rfl
    rw [e]
    exact q
  · simp only [fBl, Sd.dat, bls_map]
    have e1 : (lot.map fun _ => true).all id = true := by simp
    rw [e1]
    simp only [tstB]
    refine iteB (fun e => absurd e (by decide)) fun _ => ?_
    simp only [dNext, dRet, dCB, bCons, bNil, dLc, dRng, dCons, dNil, dC, dVar, fLen, rg2, sFrz, Sd.view, Sd.dat, wipeD, List.set_cons_zero, List.set_cons_succ, List.getElem?_cons_zero, List.getElem?_cons_succ]
    have ll : (natD lot).length = lot.length := List.length_map _
    rw [ll]
    refine ⟨⟨by decide, by decide, by omega, by omega⟩, ?_⟩
    refine lc_map (fun i : Nat => .int (1 + (i : Int))) (fun _ => .bl true) (List.range ((lot.length : Int) - 1).toNat) (fun i hi K q => ?_) (by rw [sizeLine_eq, List.length_range]; omega) ?_
    · have hi' := List.mem_range.mp hi
      obtain ⟨x, hx⟩ : ∃ x, lot[i]? = some x := ⟨_, List.getElem?_eq_getElem (by omega)⟩
      obtain ⟨y, hy⟩ : ∃ x, lot[i + 1]? = some x := ⟨_, List.getElem?_eq_getElem (by omega)⟩
      have a1 : atI (natD lot) ((1 + (i : Int)) - 1) = some (.int x) := by
        rw [show (1 + (i : Int)) - 1 = (i : Int) by omega]
        exact atI_nat (by unfold natD; rw [List.getElem?_map, hx]; rfl)
      have a2 : atI (natD lot) (1 + (i : Int)) = some (.int y) := by
        rw [show 1 + (i : Int) = ((i + 1 : Nat) : Int) by omega]
        exact atI_nat (by unfold natD; rw [List.getElem?_map, hy]; rfl)
      have lt : x < y := pairUp hp i x y hx hy
      have e : pLt (x : Int) (y : Int) = true := decide_eq_true (by omega)
      simp only [dgName, dOp, dVar, dC, fIx, fSub, Sd.view, Sd.dat, a1, a2, fCmp, e, sFrz, List.set_cons_zero, List.set_cons_succ, List.getElem?_cons_zero, List.getElem?_cons_succ]
      exact q
    · simp only [fBl, Sd.dat, bls_map]
      have e2 : ((List.range ((lot.length : Int) - 1).toNat).map fun _ => true).all id = true := by simp
      rw [e2]
      exact hR
/-! ### lores made of lores -/
def R_check_line : SpecD := fun ds R _ => ∃ (C : Str) (s : Sg) (ls : List Ln) (x : Ln), ds = [.ins C (loreF s ls), x.d] ∧ isLo C ∧ (s.map (·.1)).Nodup ∧ over s x.l ∧ over s x.r ∧ x.l.n < 1000000 ∧ x.r.n < 1000000 ∧ R (.fro .non)
theorem p_check_line (ds : List D) (R : Sd → Prop) (E : ED → Prop) (h : R_check_line ds R E) : bodyD N_check_line (T_check_line R_is_line_of csLore) ds R E := by
  obtain ⟨C, s, ls, x, rfl, hC, hn, h1, h2, h3, h4, hR⟩ := h
  unfold T_check_line
  simp only [bodyD, startD, dIfS, dNot, dTst, dCall, dCons, dNil, dFldA, dVar, Sd.view, sFrz, List.map_cons, List.map_nil, List.length_cons, List.length_nil, List.cons_append, List.nil_append, List.replicate_succ, List.replicate_zero, List.getElem?_cons_zero, List.getElem?_cons_succ]
  refine fldAQ_ok hC (lk_places s ls) ?_
  simp only [sFrz]
  refine ⟨kvS s, x, rfl, h1.fits hn, h2.fits hn, h3, h4, ?_⟩
  simp only [Sd.ret, tstB]
  exact iteB (fun e => absurd e (by decide)) fun _ => hR
def R_told_of : SpecD := fun ds R _ => ∃ (C : Str) (s : Sg) (ls : List Ln), ds = [.ins C (loreF s ls)] ∧ isLo C ∧ Valid s ∧ ls.length ≤ 40 ∧ (∀ x ∈ ls, over s x.l ∧ over s x.r ∧ x.l.n < 10000 ∧ x.r.n < 10000 ∧ x.l.h ≤ 40 ∧ x.r.h ≤ 40) ∧
  ∀ rs, Within (sides ls) rs → R (.own (Tm.ds (rs.mergeSort tmLe)))
theorem p_told_of (ds : List D) (R : Sd → Prop) (E : ED → Prop) (h : R_told_of ds R E) : bodyD N_told_of (T_told_of R_sides_of R_within_of csLore) ds R E := by
  obtain ⟨C, s, ls, rfl, hC, v, hl, ok, hR⟩ := h
  obtain ⟨w1, w2, w3⟩ := sides_ok v hl ok
  unfold T_told_of
  simp only [bodyD, startD, dRet, dCall, dCons, dNil, dFldA, dVar, Sd.view, sFrz, List.map_cons, List.map_nil, List.length_cons, List.length_nil, List.cons_append, List.nil_append, List.replicate_succ, List.replicate_zero, List.getElem?_cons_zero, List.getElem?_cons_succ]
  refine fldAQ_ok hC (lk_lines s ls) ?_
  simp only [sFrz]
  refine ⟨ls, rfl, by omega, ?_⟩
  simp only [Sd.ret, sFrz]
  exact ⟨sides ls, rfl, w1, w2, w3, hR⟩
def R_told_terms : SpecD := fun ds R _ => ∃ (C : Str) (s : Sg) (ls : List Ln), ds = [.ins C (loreF s ls)] ∧ isLo C ∧ Valid s ∧ ls.length ≤ 40 ∧ (∀ x ∈ ls, over s x.l ∧ over s x.r ∧ x.l.n < 10000 ∧ x.r.n < 10000 ∧ x.l.h ≤ 40 ∧ x.r.h ≤ 40) ∧
  ∀ rs, Within (sides ls) rs → R (.fro (.tup (Tm.ds (rs.mergeSort tmLe))))
theorem p_told_terms (ds : List D) (R : Sd → Prop) (E : ED → Prop) (h : R_told_terms ds R E) : bodyD N_told_terms (T_told_terms R_told_of) ds R E := by
  obtain ⟨C, s, ls, rfl, hC, v, hl, ok, hR⟩ := h
  unfold T_told_terms
  simp only [bodyD, startD, dRet, dCB, bCons, bNil, dCall, dCons, dNil, dVar, Sd.view, sFrz, List.map_cons, List.map_nil, List.length_cons, List.length_nil, List.cons_append, List.nil_append, List.replicate_succ, List.replicate_zero, List.getElem?_cons_zero, List.getElem?_cons_succ]
  exact ⟨C, s, ls, rfl, hC, v, hl, ok, fun rs hw => hR rs hw⟩
def R_with_lines : SpecD := fun ds R _ => ∃ (C : Str) (s : Sg) (ls ms : List Ln), ds = [.ins C (loreF s ls), .lst (lnD ms)] ∧ isLo C ∧ (s.map (·.1)).Nodup ∧ ls.length + ms.length < 1000000 ∧ R (.fro (.ins "RawLore" (loreF s (ls ++ ms))))
theorem p_with_lines (ds : List D) (R : Sd → Prop) (E : ED → Prop) (h : R_with_lines ds R E) : bodyD N_with_lines (T_with_lines R_raw_lore csLore) ds R E := by
  obtain ⟨C, s, ls, ms, rfl, hC, hn, hl, hR⟩ := h
  unfold T_with_lines
  simp only [bodyD, startD, dRet, dCall, dCons, dNil, dFldA, dVar, Sd.view, sFrz, List.map_cons, List.map_nil, List.length_cons, List.length_nil, List.cons_append, List.nil_append, List.replicate_succ, List.replicate_zero, List.getElem?_cons_zero, List.getElem?_cons_succ]
  refine fldAQ_ok hC (lk_signs s ls) ?_
  simp only [dOp, dFldA, dVar, dC, dCons, dNil, bCons, bNil, Sd.view, Sd.dat, Sd.ret, Sd.stored, sFrz, tstB, List.map_cons, List.map_nil, List.length_cons, List.length_nil, List.cons_append, List.nil_append, List.replicate_succ, List.replicate_zero, List.set_cons_zero, List.set_cons_succ, List.getElem?_cons_zero, List.getElem?_cons_succ, Nat.sub_self]
  refine fldAQ_ok hC (lk_lines s ls) ?_
  simp only [dCB, bCons, bNil, dVar, Sd.view, fTupOf, Sd.dat, fAdd, lnD_len, sFrz, ← lnD_app, List.getElem?_cons_zero, List.getElem?_cons_succ]
  exact ⟨by rw [sizeLine_eq]; omega, s, ls ++ ms, .inl rfl, hn, hR⟩
def R_with_line : SpecD := fun ds R _ => ∃ (C : Str) (s : Sg) (ls : List Ln) (x : Ln), ds = [.ins C (loreF s ls), x.d] ∧ isLo C ∧ (s.map (·.1)).Nodup ∧ ls.length < 1000 ∧ over s x.l ∧ over s x.r ∧ x.l.n < 1000000 ∧ x.r.n < 1000000 ∧ R (.fro (.ins "RawLore" (loreF s (ls ++ [x]))))
theorem p_with_line (ds : List D) (R : Sd → Prop) (E : ED → Prop) (h : R_with_line ds R E) : bodyD N_with_line (T_with_line R_check_line R_with_lines) ds R E := by
  obtain ⟨C, s, ls, x, rfl, hC, hn, hl, h1, h2, h3, h4, hR⟩ := h
  unfold T_with_line
  simp only [bodyD, startD, dSeq, dDrop, dCall, dCons, dNil, dVar, Sd.view, sFrz, List.map_cons, List.map_nil, List.length_cons, List.length_nil, List.cons_append, List.nil_append, List.replicate_succ, List.replicate_zero, List.getElem?_cons_zero, List.getElem?_cons_succ]
  refine ⟨C, s, ls, x, rfl, hC, hn, h1, h2, h3, h4, ?_⟩
  simp only [dRet, dCall, dCons, dNil, dLst, dVar, Sd.view, sFrz, List.length_cons, List.length_nil, List.getElem?_cons_zero, List.getElem?_cons_succ]
  exact ⟨by rw [sizeLine_eq]; decide, C, s, ls, [x], rfl, hC, hn, by simp; omega, hR⟩
def lessL (ls : List Ln) (lot : List Nat) : List Ln := (ls.zipIdx.filter fun p => !decide (p.2 ∈ lot)).map (·.1)
def R_less_lines : SpecD := fun ds R _ => ∃ (C : Str) (s : Sg) (ls : List Ln) (lot : List Nat), ds = [.ins C (loreF s ls), .tup (natD lot)] ∧ isLo C ∧ (s.map (·.1)).Nodup ∧ ls.length < 1000000 ∧ R (.fro (.ins "RawLore" (loreF s (lessL ls lot))))
theorem p_less_lines (ds : List D) (R : Sd → Prop) (E : ED → Prop) (h : R_less_lines ds R E) : bodyD N_less_lines (T_less_lines R_raw_lore csLore) ds R E := by
  obtain ⟨C, s, ls, lot, rfl, hC, hn, hl, hR⟩ := h
  unfold T_less_lines
  simp only [bodyD, startD, dRet, dCall, dCons, dNil, dFldA, dVar, Sd.view, sFrz, List.map_cons, List.map_nil, List.length_cons, List.length_nil, List.cons_append, List.nil_append, List.replicate_succ, List.replicate_zero, List.getElem?_cons_zero, List.getElem?_cons_succ]
  refine fldAQ_ok hC (lk_signs s ls) ?_
  simp only [dLc, dEnum, dCons, dNil, dFldA, dVar, Sd.view, sFrz, wipeD, List.set_cons_zero, List.set_cons_succ, List.getElem?_cons_zero, List.getElem?_cons_succ]
  refine fldAQ_ok hC (lk_lines s ls) ?_
  simp only [sFrz]
  rw [enumD_lnD]
  refine lc_gen (fun p : Ln × Nat => .tup [.int (p.2 : Nat), p.1.d]) (fun p => !decide (p.2 ∈ lot)) (fun p => p.1.d) ls.zipIdx [] (fun p hp K N h1 h2 => ?_) (by simp; rw [sizeLine_eq]; omega) ?_
  · simp only [dgTup, dgCons, dgNil, dgName, dTst, tstB, dOp, dVar, fIn, Sd.view, Sd.dat, if_true, sFrz, List.length_cons, List.length_nil, List.set_cons_zero, List.set_cons_succ, List.getElem?_cons_zero, List.getElem?_cons_succ]
    refine ⟨trivial, ⟨(nice_int _).ok, (natD_nice lot).ok⟩, ?_⟩
    have e : anyD (.int (p.2 : Nat)) (natD lot) = decide (p.2 ∈ lot) := by
      rw [Bool.eq_iff_iff, anyD_iff rfl (by have := (natD_nice lot).sd; simpa [D.sd] using this), decide_eq_true_iff]
      unfold natD
      rw [List.mem_map]
      constructor
      · rintro ⟨k, hk, e⟩
        injection e with e
        have : k = p.2 := by omega
        rw [← this]
        exact hk
      · intro h
        exact ⟨_, h, rfl⟩
    rw [e]
    exact iteB h1 h2
  · rw [List.nil_append]
    have e : (List.filter (fun p : Ln × Nat => !decide (p.2 ∈ lot)) ls.zipIdx).map (fun p => p.1.d) = lnD (lessL ls lot) := by
      unfold lnD lessL
      rw [List.map_map]
      rfl
    rw [e]
    exact ⟨s, lessL ls lot, .inr (.inl rfl), hn, hR⟩
def R_without : SpecD := fun ds R _ => ∃ (C : Str) (s : Sg) (ls : List Ln) (lot : List Nat), ds = [.ins C (loreF s ls), .tup (natD lot)] ∧ isLo C ∧ (s.map (·.1)).Nodup ∧ ls.length < 1000000 ∧ lot.Pairwise (· < ·) ∧ (∀ k ∈ lot, k < ls.length) ∧ lot.length < 1000000 ∧ R (.fro (.ins "RawLore" (loreF s (lessL ls lot))))
theorem p_without (ds : List D) (R : Sd → Prop) (E : ED → Prop) (h : R_without ds R E) : bodyD N_without (T_without R_is_lot R_less_lines csLore) ds R E := by
  obtain ⟨C, s, ls, lot, rfl, hC, hn, hl, h1, h2, h3, hR⟩ := h
  unfold T_without
  simp only [bodyD, startD, dSeq, dIfS, dNot, dTst, dCall, dCons, dNil, dCB, bCons, bNil, dFldA, dVar, Sd.view, sFrz, List.map_cons, List.map_nil, List.length_cons, List.length_nil, List.cons_append, List.nil_append, List.replicate_succ, List.replicate_zero, List.getElem?_cons_zero, List.getElem?_cons_succ]
  refine fldAQ_ok hC (lk_lines s ls) ?_
  simp only [fLen, Sd.dat, lnD_len, sFrz]
  refine ⟨lot, ls.length, rfl, h1, h2, hl, h3, ?_⟩
  simp only [Sd.ret, tstB]
  refine iteB (fun e => absurd e (by decide)) fun _ => ?_
  simp only [dNext, dRet, dCall, dCons, dNil, dVar, Sd.view, sFrz, List.getElem?_cons_zero, List.getElem?_cons_succ]
  exact ⟨C, s, ls, lot, rfl, hC, hn, hl, hR⟩
end DL
set_option Elab.async false
set_option linter.all false
set_option maxRecDepth 100000
set_option maxHeartbeats 4000000
namespace DL
open PySem PySem.Spec PyProof.Rows L2
/-! ### lists without twice -/
theorem nodup_len {α : Type} : ∀ {l m : List α}, l.Nodup → (∀ x ∈ l, x ∈ m) → l.length ≤ m.length
  | [], m, _, _ => Nat.zero_le _
  | x :: l, m, hn, h => by
    rw [List.nodup_cons] at hn
    obtain ⟨a, b, rfl⟩ := List.append_of_mem (h x List.mem_cons_self)
    have := nodup_len (l := l) (m := a ++ b) hn.2 fun y hy => by
      have := h y (List.mem_cons_of_mem _ hy)
      rcases List.mem_append.mp this with h | h
      · exact List.mem_append_left _ h
      · rcases List.mem_cons.mp h with rfl | h
        · exact absurd hy hn.1
        · exact List.mem_append_right _ h
    simp only [List.length_append, List.length_cons] at *
    omega
theorem nodup_ex {α : Type} (l : List α) : ∃ r : List α, r.Nodup ∧ ∀ x, x ∈ r ↔ x ∈ l := by
  induction l with
  | nil => exact ⟨[], .nil, fun _ => Iff.rfl⟩
  | cons x l ih =>
    obtain ⟨r, h1, h2⟩ := ih
    by_cases hx : x ∈ r
    · refine ⟨r, h1, fun y => ?_⟩
      rw [List.mem_cons, ← h2]
      exact ⟨.inr, fun h => h.elim (fun e => e ▸ hx) id⟩
    · refine ⟨x :: r, List.nodup_cons.mpr ⟨hx, h1⟩, fun y => ?_⟩
      rw [List.mem_cons, List.mem_cons, h2]
theorem Within.ex (ts : List Tm) : ∃ rs, Within ts rs := nodup_ex _
mutual
theorem Tm.subs_len : ∀ t : Tm, t.subs.length = t.n
  | .mk f as => by rw [Tm.subs, Tm.n, List.length_cons, Tm.subss_len]
theorem Tm.subss_len : ∀ ts : List Tm, (Tm.subss ts).length = Tm.ns ts
  | [] => by rw [Tm.subss, Tm.ns]; rfl
  | t :: r => by rw [Tm.subss, Tm.ns, List.length_append, Tm.subs_len, Tm.subss_len]
end
theorem Within.more {ts us vs rs : List Tm} {k : Nat} (h : ∀ qs, Within ts qs → qs.length ≤ k) (e : ∀ u, u ∈ Tm.subss us ↔ u ∈ Tm.subss ts ∨ u ∈ Tm.subss vs) (w : Within us rs) : rs.length ≤ k + Tm.ns vs := by
  obtain ⟨qs, hq⟩ := Within.ex ts
  have := nodup_len (m := qs ++ Tm.subss vs) w.1 fun u hu => by
    rcases (e u).mp ((w.2 u).mp hu) with h | h
    · exact List.mem_append_left _ ((hq.2 u).mpr h)
    · exact List.mem_append_right _ h
  rw [List.length_append, Tm.subss_len] at this
  have := h qs hq
  omega
theorem lefts_snoc (ls : List Ln) (x : Ln) (u : Tm) : u ∈ Tm.subss (lefts (ls ++ [x])) ↔ u ∈ Tm.subss (lefts ls) ∨ u ∈ Tm.subss [x.l, x.r] := by
  unfold lefts
  simp only [List.map_append, Tm.subss_app, List.mem_append, List.map_cons, List.map_nil, Tm.subss, List.not_mem_nil, or_false]
  constructor
  · rintro ((h | h) | (h | h))
    · exact .inl (.inl h)
    · exact .inr (.inl h)
    · exact .inl (.inr h)
    · exact .inr (.inr h)
  · rintro ((h | h) | (h | h))
    · exact .inl (.inl h)
    · exact .inr (.inl h)
    · exact .inl (.inr h)
    · exact .inr (.inr h)
/-! ### lines left out -/
theorem less_range (lot : List Nat) (f : Nat → D) : ∀ (ls : List Ln) (k : Nat), (∀ i x, ls[i]? = some x → f (k + i) = x.d) →
    ((ls.zipIdx k).filter fun p => !decide (p.2 ∈ lot)).map (fun p => p.1.d) = ((List.range' k ls.length).filter fun i => !decide (i ∈ lot)).map f
  | [], k, _ => rfl
  | x :: r, k, h => by
    have ih := less_range lot f r (k + 1) fun i y hy => by
      rw [show k + 1 + i = k + (i + 1) by omega]
      exact h (i + 1) y (by rw [List.getElem?_cons_succ]; exact hy)
    have h0 := h 0 x rfl
    rw [Nat.add_zero] at h0
    rw [List.zipIdx_cons, List.length_cons, List.range'_succ, List.filter_cons, List.filter_cons]
    cases decide (k ∈ lot) with
    | true => simpa using ih
    | false => simp [ih, h0]
theorem lessL_nil (ls : List Ln) : lessL ls [] = ls := by
  unfold lessL
  rw [List.filter_eq_self.mpr fun p _ => by simp]
  simp
theorem zip_lt {α : Type} {l : List α} {p : α × Nat} {k : Nat} (h : p ∈ l.zipIdx k) : p.2 < k + l.length := by
  have := List.snd_lt_of_mem_zipIdx h
  omega
theorem lessL_app (ls ms : List Ln) (lot : List Nat) (h : ∀ i, ls.length ≤ i → i < ls.length + ms.length → i ∈ lot) (h2 : ∀ i ∈ lot, ls.length ≤ i) : lessL (ls ++ ms) lot = ls := by
  unfold lessL
  rw [List.zipIdx_append, List.filter_append, List.filter_eq_self.mpr fun p hp => ?_, List.filter_eq_nil_iff.mpr fun p hp => ?_, List.append_nil]
  · simp
  · have := zip_lt hp
    have h3 := List.le_snd_of_mem_zipIdx hp
    simp [h p.2 (by omega) (by omega)]
  · have := zip_lt hp
    have : p.2 ∉ lot := fun q => by have := h2 _ q; omega
    simp [this]
def okL (C C' : Str) : Bool := (C == "Lore" || C == "RawLore") && C' == "Lore"
theorem fEqI_eq {C C' : Str} {s : Sg} {ls : List Ln} {neg : Bool} {Q : Sd → Prop} (ok : okL C C' = true) (c1 : isLo C) (c2 : isLo C') (v : Valid s) (l : lsOk ls) (q : Q (.fro (.bl (if neg then false else true)))) : fEqI neg R_eqL okL (.fro (.ins C (loreF s ls))) (.fro (.ins C' (loreF s ls))) Q := by
  refine ⟨ok, C, C', s, s, ls, ls, rfl, c1, c2, v, v, l, l, ?_⟩
  simp only [blQ, and_self, decide_true, Bool.not_true]
  exact q
theorem lsOk_of {s : Sg} (v : Valid s) {ls : List Ln} (h : ∀ x ∈ ls, over s x.l ∧ over s x.r ∧ x.l.n < 10000 ∧ x.r.n < 10000 ∧ x.l.h ≤ 40 ∧ x.r.h ≤ 40) : lsOk ls := fun x hx => by
  obtain ⟨h1, h2, _, _, h5, h6⟩ := h x hx
  exact ⟨h5, h6, h1.strs v, h2.strs v⟩
end DL
set_option Elab.async false
set_option linter.all false
set_option maxRecDepth 100000
set_option maxHeartbeats 4000000
namespace DL
open PySem PySem.Spec PyProof.Rows L2
/-! ### things: what need not be a term -/
mutual
def D.tn : D → Nat
  | .tup xs => D.tns xs + 1
  | .non => 1
  | .bl _ => 1
  | .int _ => 1
  | .str _ => 1
  | .lst _ => 1
  | .dic _ => 1
  | .ins _ _ => 1
  | .cell _ _ => 1
  | .scr _ => 1
  | .ob _ => 1
def D.tns : List D → Nat
  | [] => 0
  | d :: r => d.tn + D.tns r
end
mutual
def D.th : D → Nat
  | .tup xs => D.ths xs + 1
  | .non => 0
  | .bl _ => 0
  | .int _ => 0
  | .str _ => 0
  | .lst _ => 0
  | .dic _ => 0
  | .ins _ _ => 0
  | .cell _ _ => 0
  | .scr _ => 0
  | .ob _ => 0
def D.ths : List D → Nat
  | [] => 0
  | d :: r => max d.th (D.ths r)
end
mutual
def D.tg : D → Bool
  | .tup xs => D.tgs xs
  | .non => true
  | .bl _ => true
  | .int _ => true
  | .str z => PyData.strOk z
  | .lst _ => true
  | .dic _ => true
  | .ins _ _ => false
  | .cell _ _ => false
  | .scr _ => false
  | .ob _ => false
def D.tgs : List D → Bool
  | [] => true
  | d :: r => d.tg && D.tgs r
end
/-- the sign at the head of a tuple -/
def hdOk (s : Sg) : List D → Bool
  | .str f :: as => decide ((f, as.length) ∈ s)
  | _ => false
mutual
def isTm (s : Sg) : D → Bool
  | .tup xs => hdOk s xs && isTmt s xs
  | .non => false
  | .bl _ => false
  | .int _ => false
  | .str _ => false
  | .lst _ => false
  | .dic _ => false
  | .ins _ _ => false
  | .cell _ _ => false
  | .scr _ => false
  | .ob _ => false
def isTms (s : Sg) : List D → Bool
  | [] => true
  | d :: r => isTm s d && isTms s r
def isTmt (s : Sg) : List D → Bool
  | [] => false
  | _ :: r => isTms s r
end
theorem isTm_str (s : Sg) (f : Str) (as : List D) : isTm s (.tup (.str f :: as)) = (decide ((f, as.length) ∈ s) && isTms s as) := by
  rw [isTm, isTmt, hdOk]
theorem isTm_nil (s : Sg) : isTm s (.tup []) = false := by
  rw [isTm, hdOk]
  · rfl
  · intro f as h; cases h
theorem isTm_not (s : Sg) {d : D} (h : ∀ xs, d ≠ .tup xs) : isTm s d = false := by
  cases d <;> first | exact absurd rfl (h _) | rw [isTm]
theorem isTm_hd (s : Sg) {d : D} {as : List D} (h : ∀ f, d ≠ .str f) : isTm s (.tup (d :: as)) = false := by
  rw [isTm, hdOk]
  · rfl
  · intro f as' e
    injection e with e1 e2
    exact h f e1
theorem isTms_app (s : Sg) : ∀ a b : List D, isTms s (a ++ b) = (isTms s a && isTms s b)
  | [], b => by rw [List.nil_append, isTms]; rfl
  | d :: r, b => by rw [List.cons_append, isTms, isTms, isTms_app s r b, Bool.and_assoc]
theorem isTms_snoc (s : Sg) (a : List D) (d : D) : isTms s (a ++ [d]) = (isTms s a && isTm s d) := by rw [isTms_app, isTms, isTms, Bool.and_true]
theorem D.tn_pos (d : D) : 0 < d.tn := by cases d <;> rw [D.tn] <;> omega
theorem D.tns_app : ∀ a b : List D, D.tns (a ++ b) = D.tns a + D.tns b
  | [], b => by rw [List.nil_append, D.tns]; omega
  | d :: r, b => by rw [List.cons_append, D.tns, D.tns, D.tns_app r b]; omega
theorem D.len_tns : ∀ a : List D, a.length ≤ D.tns a
  | [] => Nat.zero_le _
  | d :: r => by
    have := D.len_tns r
    have := d.tn_pos
    rw [D.tns, List.length_cons]
    omega
theorem D.tgs_app : ∀ a b : List D, D.tgs (a ++ b) = (D.tgs a && D.tgs b)
  | [], b => by rw [List.nil_append, D.tgs]; rfl
  | d :: r, b => by rw [List.cons_append, D.tgs, D.tgs, D.tgs_app r b, Bool.and_assoc]
theorem D.tgs_iff {xs : List D} : D.tgs xs = true ↔ ∀ d ∈ xs, d.tg = true := by
  induction xs with
  | nil => rw [D.tgs]; simp
  | cons d r ih => rw [D.tgs, Bool.and_eq_true, ih]; simp
theorem D.ths_le {xs : List D} {n : Nat} : D.ths xs ≤ n ↔ ∀ d ∈ xs, d.th ≤ n := by
  induction xs with
  | nil => rw [D.ths]; simp
  | cons d r ih => rw [D.ths, Nat.max_le, ih]; simp
theorem D.tn_le {d : D} : ∀ {xs : List D}, d ∈ xs → d.tn ≤ D.tns xs
  | u :: r, h => by
    rw [D.tns]
    rcases List.mem_cons.mp h with rfl | h
    · exact Nat.le_add_right _ _
    · exact Nat.le_trans (D.tn_le h) (Nat.le_add_left _ _)
def D.isT : D → Bool
  | .tup _ => true
  | _ => false
def D.isS : D → Bool
  | .str _ => true
  | _ => false
theorem isi_tup {d : D} {Q : Sd → Prop} (h : d.tg = true) (q : Q (.fro (.bl d.isT))) : fIsi [.fro d, .fro (.ob (.ty "tuple"))] Q := by
  cases d <;> first | (rw [D.tg] at h; cases h; done) | simpa [fIsi, tyN, tyT, Sd.dat, D.isT] using q
theorem isi_str {d : D} {Q : Sd → Prop} (h : d.tg = true) (q : Q (.fro (.bl d.isS))) : fIsi [.fro d, .fro (.ob (.ty "str"))] Q := by
  cases d <;> first | (rw [D.tg] at h; cases h; done) | simpa [fIsi, tyN, tyT, Sd.dat, D.isS] using q
mutual
theorem isTm_tm (s : Sg) : ∀ t : Tm, over s t → isTm s t.d = true
  | .mk f as, h => by
    rw [Tm.d, isTm_str, Tm.ds_len]
    rw [over, Tm.all] at h
    rw [decide_eq_true h.1, isTms_tms s as h.2]
    rfl
theorem isTms_tms (s : Sg) : ∀ ts : List Tm, Tm.alls (fun f as => (f, as.length) ∈ s) ts → isTms s (Tm.ds ts) = true
  | [], _ => by rw [Tm.ds, isTms]
  | t :: r, h => by
    rw [Tm.alls] at h
    rw [Tm.ds, isTms, isTm_tm s t h.1, isTms_tms s r h.2]
    rfl
end
mutual
theorem isTm_of (s : Sg) : ∀ d : D, isTm s d = true → ∃ t : Tm, d = t.d ∧ over s t
  | .tup xs, h => by
    rw [isTm, Bool.and_eq_true] at h
    exact isTmt_of s xs h.1 h.2
  | .non, h => by rw [isTm] at h; cases h
  | .bl _, h => by rw [isTm] at h; cases h
  | .int _, h => by rw [isTm] at h; cases h
  | .str _, h => by rw [isTm] at h; cases h
  | .lst _, h => by rw [isTm] at h; cases h
  | .dic _, h => by rw [isTm] at h; cases h
  | .ins _ _, h => by rw [isTm] at h; cases h
  | .cell _ _, h => by rw [isTm] at h; cases h
  | .scr _, h => by rw [isTm] at h; cases h
  | .ob _, h => by rw [isTm] at h; cases h
theorem isTms_of (s : Sg) : ∀ ds : List D, isTms s ds = true → ∃ ts : List Tm, ds = Tm.ds ts ∧ Tm.alls (fun f as => (f, as.length) ∈ s) ts
  | [], _ => ⟨[], by rw [Tm.ds], by rw [Tm.alls]; trivial⟩
  | d :: r, h => by
    rw [isTms, Bool.and_eq_true] at h
    obtain ⟨t, e, o⟩ := isTm_of s d h.1
    obtain ⟨ts, es, os⟩ := isTms_of s r h.2
    exact ⟨t :: ts, by rw [Tm.ds, e, es], by rw [Tm.alls]; exact ⟨o, os⟩⟩
theorem isTmt_of (s : Sg) : ∀ xs : List D, hdOk s xs = true → isTmt s xs = true → ∃ t : Tm, D.tup xs = t.d ∧ over s t
  | [], h, _ => by rw [hdOk] at h; cases h; intro f as e; cases e
  | d :: r, h, g => by
    rw [isTmt] at g
    obtain ⟨ts, es, os⟩ := isTms_of s r g
    cases d with
    | str f =>
      rw [hdOk] at h
      refine ⟨.mk f ts, by rw [Tm.d, es], ?_⟩
      rw [over, Tm.all]
      refine ⟨?_, os⟩
      have := of_decide_eq_true h
      rw [es, Tm.ds_len] at this
      exact this
    | _ => rw [hdOk] at h; cases h; intro f as e; cases e
end
mutual
theorem Tm.tn : ∀ t : Tm, t.d.tn = 2 * t.n
  | .mk f as => by rw [Tm.d, D.tn, D.tns, D.tn, Tm.n, Tm.tns as]; omega
theorem Tm.tns : ∀ ts : List Tm, D.tns (Tm.ds ts) = 2 * Tm.ns ts
  | [] => by rw [Tm.ds, D.tns, Tm.ns]
  | t :: r => by rw [Tm.ds, D.tns, Tm.ns, Tm.tn t, Tm.tns r]; omega
end
mutual
theorem Tm.th : ∀ t : Tm, t.d.th = t.h
  | .mk f as => by rw [Tm.d, D.th, D.ths, D.th, Tm.h, Tm.ths as]; omega
theorem Tm.ths : ∀ ts : List Tm, D.ths (Tm.ds ts) = Tm.hs ts
  | [] => by rw [Tm.ds, D.ths, Tm.hs]
  | t :: r => by rw [Tm.ds, D.ths, Tm.hs, Tm.th t, Tm.ths r]
end
mutual
theorem Tm.tg : ∀ t : Tm, strsOk t → t.d.tg = true
  | .mk f as, h => by
    unfold strsOk at h
    rw [Tm.all] at h
    rw [Tm.d, D.tg, D.tgs, D.tg, Tm.tgs as h.2, h.1]
    rfl
theorem Tm.tgs : ∀ ts : List Tm, Tm.alls (fun f _ => PyData.strOk f = true) ts → D.tgs (Tm.ds ts) = true
  | [], _ => by rw [Tm.ds, D.tgs]
  | t :: r, h => by
    rw [Tm.alls] at h
    rw [Tm.ds, D.tgs, Tm.tg t h.1, Tm.tgs r h.2]
    rfl
end
end DL
set_option Elab.async false
set_option linter.all false
set_option maxRecDepth 100000
set_option maxHeartbeats 4000000
namespace DL
open PySem PySem.Spec PyProof.Rows L2
/-! ### is_term_of, of anything -/
theorem kvS_none : ∀ {s : Sg} {f : Str}, getD (kvS s) (.inr f) = none → ∀ n, (f, n) ∉ s := fun {s f} h n hm => by
  unfold getD kvS at h
  rw [Option.map_eq_none_iff, List.find?_eq_none] at h
  exact h (.inr f, .int n) (List.mem_map.mpr ⟨(f, n), hm, rfl⟩) (by simp)
theorem kvS_some : ∀ {s : Sg} {f : Str} {d : D}, getD (kvS s) (.inr f) = some d → ∃ n : Nat, d = .int n ∧ (f, n) ∈ s := fun {s f d} h => by
  unfold getD kvS at h
  rw [Option.map_eq_some_iff] at h
  obtain ⟨a, h, rfl⟩ := h
  have h2 := List.find?_some h
  obtain ⟨p, hp, rfl⟩ := List.mem_map.mp (List.mem_of_find?_eq_some h)
  simp only [decide_eq_true_eq, Sum.inr.injEq] at h2
  exact ⟨p.2, rfl, by rw [← h2]; exact hp⟩
theorem nodup_at {s : Sg} (h : (s.map (·.1)).Nodup) {f : Str} {n m : Nat} (h1 : (f, n) ∈ s) (h2 : (f, m) ∈ s) : n = m := by
  have a := kvS_get h h1
  rw [kvS_get h h2] at a
  injection a with a
  injection a with a
  omega
theorem cut_drop (xs : List D) (n : Nat) : cutD xs (some (n : Int)) none = xs.drop n := by
  unfold cutD
  rw [HT.sIx_none, HT.sIx_nat]
  rcases Nat.le_total n xs.length with h | h
  · rw [Nat.min_eq_left h, List.take_of_length_le]
    rw [List.length_drop]
    omega
  · rw [Nat.min_eq_right h, List.drop_eq_nil_of_le h, List.drop_length, List.take_nil]
theorem cut1d (d : D) (r : List D) : cutD (d :: r) (some 1) none = r := cut_drop (d :: r) 1
def R_is_term_of2 : SpecD := fun ds R _ => ∃ (s : Sg) (d : D), ds = [.dic (kvS s), d] ∧ (s.map (·.1)).Nodup ∧ d.tg = true ∧ d.tn < 1000000 ∧ R (.fro (.bl (isTm s d)))
theorem p_is_term_of2 (ds : List D) (R : Sd → Prop) (E : ED → Prop) (h : R_is_term_of2 ds R E) : bodyD N_is_term_of T_is_term_of ds R E := by
  obtain ⟨s, d, rfl, hn, hg, hz, hR⟩ := h
  unfold T_is_term_of
  simp only [bodyD, startD, List.map_cons, List.map_nil, List.length_cons, List.length_nil, List.cons_append, List.nil_append, List.replicate_succ, List.replicate_zero, Nat.sub_self]
  refine seq_ev (set_ev (.lst (.cons (.varF rfl) .nil)) rfl ?_)
  refine seq_ev ?_
  refine ⟨fun m Δ => ∃ (ws : List D) (z : Option Sd), m = D.tns ws ∧ D.tns ws ≤ d.tn ∧ D.tgs ws = true ∧ isTms s ws = isTm s d ∧ Δ = [some (.fro (.dic (kvS s))), some (.fro d), some (.own ws), z], ⟨_, [d], none, rfl, ?_, ?_, ?_, rfl⟩, ?_⟩
  · rw [D.tns, D.tns]; omega
  · rw [D.tgs, D.tgs, hg]; rfl
  · rw [isTms, isTms, Bool.and_true]
  · rintro m Δ ⟨ws, z, rfl, hk, hw, ht, rfl⟩
    simp only [dVar, dC, dOp, dCB, bCons, bNil, dTst, fCI, fLen, Sd.view, Sd.dat, Sd.ret, tstB, List.getElem?_cons_zero, List.getElem?_cons_succ]
    rcases snoc_cases ws with rfl | ⟨r, x, rfl⟩
    · refine iteB (fun h => by cases h) fun _ => ?_
      rw [isTms] at ht
      show R _
      rw [ht]
      exact hR
    · refine iteB (fun _ => ?_) fun h => by simp [pGt] at h
      rw [D.tgs_app, Bool.and_eq_true, D.tgs, Bool.and_eq_true] at hw
      rw [D.tns_app, D.tns, D.tns] at hk
      rw [isTms_snoc] at ht
      have hx := hw.2.1
      have l1 := D.len_tns r
      have l2 := D.tn_pos x
      have no : isTm s x = false → isTm s d = false := fun e => by rw [← ht, e, Bool.and_false]
      refine seq_ev ?_
      simp only [dSetX, xPop, ownAt, List.getElem?_cons_zero, List.getElem?_cons_succ, List.set_cons_zero, List.set_cons_succ, last_snoc, drop_snoc]
      by_cases hT : x.isT = true
      · cases x with
        | tup xs =>
          rw [D.tg] at hx
          cases xs with
          | nil =>
            refine seq_ev (if_yes (.orB (b := false) (b' := true) (.not (b := true) (.tst (.cb (.cons (.varF rfl) (.cons .c .nil)) fun Q q => isi_tup (by rw [D.tg]; exact hx) q))) fun _ => .or1 (.tst (.op (.cb (.cons (.varF rfl) .nil) lenT) .c fun Q q => ⟨⟨okI _, okI _⟩, q⟩))) ?_)
            have e := no (isTm_nil s)
            rw [e] at hR
            exact hR
          | cons y ys =>
            rw [D.tgs, Bool.and_eq_true] at hx
            rw [D.tn, D.tns] at hk
            have ly := D.tn_pos y
            have t1 : ∀ (Δ : Dl) (E' : ED → Prop), Δ[3]? = some (some (.fro (.tup (y :: ys)))) → EvT (dNot (dTst (dCB fIsi (bCons (dVar 3) (bCons (dC (.fro (.ob (.ty "tuple")))) bNil))))) Δ E' false := fun Δ E' h3 =>
              .not (b := true) (.tst (.cb (.cons (.varF h3) (.cons .c .nil)) fun Q q => isi_tup (by rw [D.tg, D.tgs, hx.1, hx.2]; rfl) q))
            have t2 : ∀ (Δ : Dl) (E' : ED → Prop), Δ[3]? = some (some (.fro (.tup (y :: ys)))) → EvT (dTst (dOp (fEq false) (dCB fLen (bCons (dVar 3) bNil)) (dC (.fro (.int 0))))) Δ E' false := fun Δ E' h3 =>
              .tst (.op (.cb (.cons (.varF h3) .nil) lenT) .c fun Q q => ⟨⟨okI _, okI _⟩, by
                rw [if_neg (by decide)]
                show Q (.fro (.bl (PyData.eqv (D.py (.int _)) (D.py (.int 0)))))
                rw [eqv_int, beq_eq_false_iff_ne.mpr (by rw [List.length_cons]; omega)]
                exact q⟩)
            by_cases hS : y.isS = true
            · cases y with
              | str f =>
                refine seq_ev (if_skip (.no (t1 _ _ rfl) (.no (t2 _ _ rfl) (.not (b := true) (.tst (.cb (.cons (.op (.varF rfl) .c (ixO (atI_0 _ _))) (.cons .c .nil)) fun Q q => isi_str hx.1 q))))) ?_)
                dsimp only
                rw [isTm_str] at ht no
                cases hd : getD (kvS s) (.inr f) with
                | none =>
                  refine seq_ev (if_yes (.or1 (.tst (.op (.op (.varF rfl) .c (ixO (atI_0 _ _))) (.varF rfl) fun Q q => ?_))) ?_)
                  · simp only [fDin, Sd.dat, keyD, hd]
                    exact q
                  · have e := no (by rw [decide_eq_false (kvS_none hd _)]; rfl)
                    rw [e] at hR
                    exact hR
                | some nd =>
                  obtain ⟨n, rfl, hm⟩ := kvS_some hd
                  have din : ∀ Q : Sd → Prop, Q (.fro (.bl false)) → fDin true (.fro (.str f)) (.fro (.dic (kvS s))) Q := fun Q q => by
                    simp only [fDin, Sd.dat, keyD, hd]
                    exact q
                  have dget : ∀ Q : Sd → Prop, Q (.fro (.int n)) → fDget (.fro (.dic (kvS s))) (.fro (.str f)) Q := fun Q q => by
                    simp only [fDget, Sd.dat, keyD, hd]
                    exact q
                  have c2 : ∀ (b : Bool), b = !(decide (ys.length = n)) → ∀ Q : Sd → Prop, Q (.fro (.bl b)) → fEq true (.fro (.int ((D.str f :: ys).length : Nat))) (.fro (.int (n + 1))) Q := fun b hb Q q => ⟨⟨okI _, okI _⟩, by
                    rw [if_pos rfl]
                    show Q (.fro (.bl (!(PyData.eqv (D.py (.int _)) (D.py (.int _))))))
                    rw [eqv_int]
                    have e : ((((D.str f :: ys).length : Nat) : Int) == (n : Int) + 1) = decide (ys.length = n) := by
                      rw [List.length_cons, Bool.eq_iff_iff]
                      simp only [beq_iff_eq, decide_eq_true_eq]
                      omega
                    rw [e, ← hb]
                    exact q⟩
                  by_cases hl : ys.length = n
                  · refine seq_ev (if_skip (.no (.tst (.op (.op (.varF rfl) .c (ixO (atI_0 _ _))) (.varF rfl) din)) (.tst (.op (.cb (.cons (.varF rfl) .nil) lenT) (.op (.op (.varF rfl) (.op (.varF rfl) .c (ixO (atI_0 _ _))) dget) .c fun Q q => q) (c2 false (by rw [decide_eq_true hl]; rfl))))) ?_)
                    rw [hl, decide_eq_true hm, Bool.true_and, ← isTms_app] at ht
                    dsimp only
                    simp only [dExtend, ownAt, dSl, dVar, oSome, oNone, dC, fSl, cut1d, Sd.view, Sd.dat, seqOf, seqD, List.getElem?_cons_zero, List.getElem?_cons_succ, List.set_cons_zero, List.set_cons_succ]
                    have l3 := D.len_tns ys
                    refine ⟨by rw [sizeLine_eq]; omega, D.tns (r ++ ys), ?_, r ++ ys, _, rfl, ?_, ?_, ht, rfl⟩
                    · rw [D.tns_app, D.tns_app, D.tns, D.tns, D.tn, D.tns]; omega
                    · rw [D.tns_app]; omega
                    · rw [D.tgs_app, hw.1, hx.2]; rfl
                  · refine seq_ev (if_yes (.orB (b := false) (b' := true) (.tst (.op (.op (.varF rfl) .c (ixO (atI_0 _ _))) (.varF rfl) din)) fun _ => (.tst (.op (.cb (.cons (.varF rfl) .nil) lenT) (.op (.op (.varF rfl) (.op (.varF rfl) .c (ixO (atI_0 _ _))) dget) .c fun Q q => q) (c2 true (by rw [decide_eq_false hl]; rfl))))) ?_)
                    have e := no (by rw [decide_eq_false (fun h => hl (nodup_at hn h hm)), Bool.false_and])
                    rw [e] at hR
                    exact hR
              | _ => cases hS
            · have hS := Bool.eq_false_iff.mpr hS
              refine seq_ev (if_yes (.orB (b := false) (b' := true) (t1 _ _ rfl) fun _ => .orB (b := false) (b' := true) (t2 _ _ rfl) fun _ => .not (b := false) (.tst (.cb (.cons (.op (.varF rfl) .c (ixO (atI_0 _ _))) (.cons .c .nil)) fun Q q => isi_str hx.1 (by rw [hS]; exact q)))) ?_)
              have e := no (isTm_hd s fun f e => by rw [e] at hS; cases hS)
              rw [e] at hR
              exact hR
        | _ => cases hT
      · have hT := Bool.eq_false_iff.mpr hT
        refine seq_ev ?_
        refine if_yes (.or1 (.not (b := false) (.tst (.cb (.cons (.varF rfl) (.cons .c .nil)) fun Q q => isi_tup hx (by rw [hT]; exact q))))) ?_
        have e := no (isTm_not s fun xs e => by rw [e] at hT; cases hT)
        rw [e] at hR
        exact hR
end DL
set_option Elab.async false
set_option linter.all false
set_option maxRecDepth 100000
set_option maxHeartbeats 4000000
namespace DL
open PySem PySem.Spec PyProof.Rows L2
theorem lo1 : isLo "Lore" := List.mem_cons_self
def thOk (s : Sg) (d : D) : Prop := (s.map (·.1)).Nodup ∧ d.tg = true ∧ d.tn < 1000000
def R_is_term_there : SpecD := fun ds R _ => ∃ (C : Str) (s : Sg) (ls : List Ln) (d : D), ds = [.ins C (loreF s ls), d] ∧ isLo C ∧ thOk s d ∧ R (.fro (.bl (isTm s d)))
theorem p_is_term_there (ds : List D) (R : Sd → Prop) (E : ED → Prop) (h : R_is_term_there ds R E) : bodyD N_is_term_there (T_is_term_there R_is_term_of2 csLore) ds R E := by
  obtain ⟨C, s, ls, d, rfl, hC, ⟨h1, h2, h3⟩, hR⟩ := h
  exact ret_ev (.callF (.cons (.fldA (.varF rfl) hC (lk_places s ls)) (.cons (.varF rfl) .nil)) fun R q => ⟨s, d, rfl, h1, h2, h3, q⟩) hR
def R_is_term : SpecD := R_is_term_there
theorem p_is_term (ds : List D) (R : Sd → Prop) (E : ED → Prop) (h : R_is_term ds R E) : bodyD N_is_term (T_is_term R_is_term_there) ds R E := by
  obtain ⟨C, s, ls, d, rfl, hC, hd, hR⟩ := h
  exact ret_ev (.callF (.cons (.varF rfl) (.cons (.varF rfl) .nil)) fun R q => ⟨C, s, ls, d, rfl, hC, hd, q⟩) hR
def R_check_term : SpecD := fun ds R E => ∃ (C : Str) (s : Sg) (ls : List Ln) (d : D), ds = [.ins C (loreF s ls), d] ∧ isLo C ∧ thOk s d ∧ (isTm s d = true → R (.fro .non)) ∧ (isTm s d = false → E ⟨"NoTerm", []⟩)
theorem p_check_term (ds : List D) (R : Sd → Prop) (E : ED → Prop) (h : R_check_term ds R E) : bodyD N_check_term (T_check_term R_is_term_there) ds R E := by
  obtain ⟨C, s, ls, d, rfl, hC, hd, hR, hE⟩ := h
  refine if_ev (b := !(isTm s d)) (.not (.tst (.callF (.cons (.varF rfl) (.cons (.varF rfl) .nil)) fun R q => ⟨C, s, ls, d, rfl, hC, hd, q⟩))) (fun e => ?_) fun e => ?_
  · exact hE (by simpa using e)
  · exact hR (by simpa using e)
def R_size : SpecD := fun ds R E => ∃ (C : Str) (s : Sg) (ls : List Ln) (d : D), ds = [.ins C (loreF s ls), d] ∧ isLo C ∧ thOk s d ∧ (∀ t : Tm, d = t.d → over s t → R (.fro (.int t.n))) ∧ (isTm s d = false → E ⟨"NoTerm", []⟩)
theorem p_size (ds : List D) (R : Sd → Prop) (E : ED → Prop) (h : R_size ds R E) : bodyD N_size (T_size R_check_term R_size_of) ds R E := by
  obtain ⟨C, s, ls, d, rfl, hC, hd, hR, hE⟩ := h
  refine seq_ev ?_
  show R_check_term [.ins C (loreF s ls), d] _ _
  refine ⟨C, s, ls, d, rfl, hC, hd, fun e => ?_, fun e => hE e⟩
  obtain ⟨t, rfl, ho⟩ := isTm_of s d e
  have hz := hd.2.2
  rw [Tm.tn] at hz
  show dRet (dCall R_size_of (dCons (dVar 1) dNil)) { nx := fun _ => R (.fro .non), rt := R, ex := fun e _ => E e } [some (.fro (.ins C (loreF s ls))), some (.fro t.d)]
  exact ret_ev (s := .fro (.int t.n)) (.callF (.cons (.varF rfl) .nil) fun R q => ⟨t, rfl, by omega, q⟩) (hR t rfl ho)
def hit_NoTerm : Str → Option Bool := fun C => if C = "NoTerm" then some true else none
def R__law_size_told : SpecD := fun ds R _ => ∃ (C : Str) (s : Sg) (ls : List Ln) (d : D), ds = [.ins C (loreF s ls), d] ∧ isLo C ∧ thOk s d ∧ (∀ t : Tm, d = t.d → over s t → R (.fro (.int t.n))) ∧ (isTm s d = false → R (.fro (.str "none")))
theorem p__law_size_told (ds : List D) (R : Sd → Prop) (E : ED → Prop) (h : R__law_size_told ds R E) : bodyD N__law_size_told (T__law_size_told R_size hit_NoTerm) ds R E := by
  obtain ⟨C, s, ls, d, rfl, hC, hd, hR, hE⟩ := h
  refine seq_ev (set_ev .c rfl ?_)
  dsimp only
  refine seq_ev ?_
  unfold dTry
  refine set_call (ds := [.ins C (loreF s ls), d]) (.cons (.varF rfl) (.cons (.varF rfl) .nil)) ?_
  refine ⟨C, s, ls, d, rfl, hC, hd, fun t e ho => ?_, fun e => ?_⟩
  · refine ⟨rfl, ?_⟩
    dsimp only
    exact ret_ev (s := .fro (.int t.n)) (.varF rfl) (hR t e ho)
  · dsimp only
    rw [show hit_NoTerm "NoTerm" = some true from if_pos rfl]
    dsimp only
    refine set_ev .c rfl ?_
    dsimp only
    exact ret_ev (s := .fro (.str "none")) (.varF rfl) (hE e)
def R__law_flag : SpecD := fun ds R _ => ∃ b : Bool, ds = [.bl b, .bl b] ∧ R (.fro (.bl true))
theorem p__law_flag (ds : List D) (R : Sd → Prop) (E : ED → Prop) (h : R__law_flag ds R E) : bodyD N__law_flag T__law_flag ds R E := by
  obtain ⟨b, rfl, hR⟩ := h
  refine ret_ev (s := .fro (.bl true)) (.and1 (.cb (.cons (.varF rfl) (.cons .c .nil)) fun Q q => ?_) (.op (.varF rfl) (.varF rfl) fun Q q => ?_)) hR
  · exact ⟨by decide, q⟩
  · cases b <;> exact ⟨⟨⟨rfl, rfl⟩, ⟨rfl, rfl⟩⟩, q⟩
def R__law_is : SpecD := fun ds R _ => ∃ d : D, ds = [d, d] ∧ (d = .str "none" ∨ ∃ n : Nat, d = .int n ∧ n < 1000000) ∧ R (.fro (.bl true))
theorem p__law_is (ds : List D) (R : Sd → Prop) (E : ED → Prop) (h : R__law_is ds R E) : bodyD N__law_is T__law_is ds R E := by
  obtain ⟨d, rfl, hd, hR⟩ := h
  have key : ∃ z : Str, ∀ Q : Sd → Prop, Q (.fro (.str z)) → fRepr [.fro d] Q := by
    rcases hd with rfl | ⟨n, rfl, hn⟩
    · exact ⟨_, fun Q q => ⟨by rw [sizeLine_eq]; decide +kernel, q⟩⟩
    · refine ⟨_, fun Q q => ⟨?_, q⟩⟩
      rw [show (n : Int).natAbs = n from rfl]
      rcases Nat.eq_zero_or_pos n with rfl | h0
      · decide
      · have := (Nat.log2_lt (n := n) (k := 20) (by omega)).mpr (by omega)
        omega
  obtain ⟨z, kz⟩ := key
  refine ret_ev (s := .fro (.bl true)) (.op (x := .fro (.str z)) (y := .fro (.str z)) (.cb (.cons (.varF rfl) .nil) kz) (.cb (.cons (.varF rfl) .nil) kz) fun Q q => ?_) hR
  simpa [fEqS, Sd.dat] using q
end DL
set_option Elab.async false
set_option linter.all false
set_option maxRecDepth 100000
set_option maxHeartbeats 4000000
namespace DL
open PySem PySem.Spec PyProof.Rows L2
theorem eqZ {a b : Int} {c : Bool} (h : c = decide (a = b)) : ∀ Q : Sd → Prop, Q (.fro (.bl c)) → fEq false (.fro (.int a)) (.fro (.int b)) Q := fun Q q => ⟨⟨okI _, okI _⟩, by
  rw [if_neg (by decide)]
  show Q (.fro (.bl (PyData.eqv (D.py (.int a)) (D.py (.int b)))))
  rw [eqv_int, show (a == b) = c by rw [h]; rfl]
  exact q⟩
theorem inS {s : Sg} {f : Str} {n : Nat} (v : Valid s) (hf : PyData.strOk f = true) : ∀ Q : Sd → Prop, Q (.fro (.bl (decide ((f, n) ∈ s)))) → fIn false (.fro (.tup [.str f, .int n])) (.fro (.tup (sgD s))) Q := fun Q q => by
  have hp := nice_pair (nice_str hf) (nice_int (n : Int))
  have sd1 := hp.sd
  have sd2 : D.sds (sgD s) = true := by
    have := v.nice.sd
    simpa [D.sd] using this
  refine ⟨⟨hp.ok, v.nice.ok⟩, ?_⟩
  rw [if_neg (by decide)]
  have e : anyD (Sd.fro (D.tup [D.str f, D.int n])).dat (sgD s) = decide ((f, n) ∈ s) := by
    rw [Bool.eq_iff_iff, decide_eq_true_iff]
    refine (anyD_iff sd1 sd2).trans ?_
    constructor
    · intro h
      obtain ⟨p, hp, e⟩ := List.mem_map.mp h
      unfold prD at e
      injection e with e
      injection e with e1 e2
      injection e1 with e1
      injection e2 with e2 _
      injection e2 with e2
      have : p = (f, n) := Prod.ext e1 (by have := Int.ofNat.inj e2; exact this)
      rw [← this]
      exact hp
    · exact fun h => List.mem_map.mpr ⟨(f, n), h, rfl⟩
  rw [e]
  exact q
def R__law_is_right (h : Nat) : SpecD := fun ds R _ => ∃ (s : Sg) (d : D), ds = [.tup (sgD s), d] ∧ Valid s ∧ d.tg = true ∧ d.tn < 1000000 ∧ d.th < h ∧ R (.fro (.bl (isTm s d)))
theorem right_lc (h : Nat) (s : Sg) (v : Valid s) (Δ0 : Dl) (h0 : Δ0[0]? = some (some (.fro (.tup (sgD s))))) (h2 : 2 < Δ0.length) (Q : List D → Prop) : ∀ (as acc : List D), (∀ a ∈ as, a.tg = true ∧ a.tn < 1000000 ∧ a.th < h) → acc.length + as.length < 1000000 → Q (acc ++ as.map fun d => .bl (isTm s d)) →
    lcR (dgName 2) (fun _ Q _ => Q true) (dCall (R__law_is_right h) (dCons (dVar 0) (dCons (dVar 2) dNil))) Δ0 as acc Q
  | [], acc, _, _, q => by
    rw [List.map_nil, List.append_nil] at q
    exact q
  | a :: as, acc, ha, hl, q => by
    show dgName 2 a Δ0 _
    have g : (Δ0.set 2 (some (.fro a)))[2]? = some (some (.fro a)) := List.getElem?_set_self h2
    have g0 : (Δ0.set 2 (some (.fro a)))[0]? = some (some (.fro (.tup (sgD s)))) := by rw [List.getElem?_set_ne (by decide)]; exact h0
    simp only [dgName, dCall, dCons, dNil, dVar, g, g0, Sd.view, sFrz, if_true]
    rw [List.length_cons] at hl
    obtain ⟨a1, a2, a3⟩ := ha a List.mem_cons_self
    refine ⟨s, a, rfl, v, a1, a2, a3, ?_⟩
    refine ⟨by rw [sizeLine_eq]; omega, ?_⟩
    refine right_lc h s v Δ0 h0 h2 Q as (acc ++ [.bl (isTm s a)]) (fun b hb => ha b (List.mem_cons_of_mem _ hb)) (by simp; omega) ?_
    rw [List.map_cons] at q
    simpa using q
theorem bls_isTm (s : Sg) : ∀ as : List D, bls (as.map fun d => .bl (isTm s d)) = some (as.map (isTm s))
  | [] => rfl
  | a :: r => by
    rw [List.map_cons, bls, bls_isTm s r]
    rfl
theorem isTms_all (s : Sg) : ∀ as : List D, (as.map (isTm s)).all id = isTms s as
  | [] => by rw [isTms]; rfl
  | a :: r => by
    rw [List.map_cons, List.all_cons, isTms_all s r, isTms]
    rfl
theorem p__law_is_right (h : Nat) (ds : List D) (R : Sd → Prop) (E : ED → Prop) (hh : R__law_is_right (h + 1) ds R E) : bodyD N__law_is_right (T__law_is_right (R__law_is_right h)) ds R E := by
  obtain ⟨s, d, rfl, v, hg, hz, hd, hR⟩ := hh
  unfold T__law_is_right
  simp only [bodyD, startD, List.map_cons, List.map_nil, List.length_cons, List.length_nil, List.cons_append, List.nil_append, List.replicate_succ, List.replicate_zero, Nat.sub_self]
  by_cases hT : d.isT = true
  · cases d with
    | tup xs =>
      have hg' := hg
      rw [D.tg] at hg
      cases xs with
      | nil =>
        refine seq_ev (if_yes (.orB (b := false) (b' := true) (.not (b := true) (.tst (.cb (.cons (.varF rfl) (.cons .c .nil)) fun Q q => isi_tup hg' q))) fun _ => .or1 (.tst (.op (.cb (.cons (.varF rfl) .nil) lenT) .c (eqZ (c := true) rfl)))) ?_)
        rw [isTm_nil] at hR
        exact hR
      | cons y ys =>
        rw [D.tgs, Bool.and_eq_true] at hg
        rw [D.tn, D.tns] at hz
        rw [D.th, D.ths] at hd
        have ly := D.tn_pos y
        have l3 := D.len_tns ys
        have t1 : ∀ (Δ : Dl) (E' : ED → Prop), Δ[1]? = some (some (.fro (.tup (y :: ys)))) → EvT (dNot (dTst (dCB fIsi (bCons (dVar 1) (bCons (dC (.fro (.ob (.ty "tuple")))) bNil))))) Δ E' false := fun Δ E' h3 =>
          .not (b := true) (.tst (.cb (.cons (.varF h3) (.cons .c .nil)) fun Q q => isi_tup hg' q))
        have t2 : ∀ (Δ : Dl) (E' : ED → Prop), Δ[1]? = some (some (.fro (.tup (y :: ys)))) → EvT (dTst (dOp (fEq false) (dCB fLen (bCons (dVar 1) bNil)) (dC (.fro (.int 0))))) Δ E' false := fun Δ E' h3 =>
          .tst (.op (.cb (.cons (.varF h3) .nil) lenT) .c (eqZ (by rw [List.length_cons]; exact (decide_eq_false (by omega)).symm)))
        by_cases hS : y.isS = true
        · cases y with
          | str f =>
            have hf : PyData.strOk f = true := by
              have := hg.1
              rwa [D.tg] at this
            refine seq_ev (if_skip (.no (t1 _ _ rfl) (.no (t2 _ _ rfl) (.not (b := true) (.tst (.cb (.cons (.op (.varF rfl) .c (ixO (atI_0 _ _))) (.cons .c .nil)) fun Q q => isi_str hg.1 q))))) ?_)
            dsimp only
            rw [isTm_str] at hR
            refine ret_ev (.andB (b := decide ((f, ys.length) ∈ s)) (b' := isTms s ys) (.op (.tup (.cons (.op (.varF rfl) .c (ixO (atI_0 _ _))) (.cons (.op (.cb (.cons (.varF rfl) .nil) lenT) .c ?g1) .nil))) (.varF rfl) (inS v hf)) fun _ => ?g2) hR
            case g1 =>
              intro Q q
              show Q (.fro (.int (((D.str f :: ys).length : Nat) - 1)))
              rw [List.length_cons, show (((ys.length + 1 : Nat) : Int) - 1) = (ys.length : Int) by omega]
              exact q
            case g2 =>
              intro Q q
              simp only [dCB, dLc, dTupOf, dSl, dVar, dC, oSome, oNone, bCons, bNil, fSl, cut1d, wipeD, Sd.view, Sd.dat, List.set_cons_zero, List.set_cons_succ, List.getElem?_cons_zero, List.getElem?_cons_succ]
              refine right_lc h s v [some (.fro (.tup (sgD s))), some (.fro (.tup (.str f :: ys))), none] rfl (show 2 < 3 by decide) _ ys [] (fun a ha => ⟨?_, ?_, ?_⟩) (by simp; omega) ?_
              · exact D.tgs_iff.mp hg.2 a ha
              · have := D.tn_le ha; omega
              · have := (D.ths_le (xs := ys) (n := D.ths ys)).mp (Nat.le_refl _) a ha; omega
              · rw [List.nil_append]
                simp only [fBl, Sd.dat, bls_isTm, isTms_all]
                exact q
          | _ => cases hS
        · have hS := Bool.eq_false_iff.mpr hS
          refine seq_ev (if_yes (.orB (b := false) (b' := true) (t1 _ _ rfl) fun _ => .orB (b := false) (b' := true) (t2 _ _ rfl) fun _ => .not (b := false) (.tst (.cb (.cons (.op (.varF rfl) .c (ixO (atI_0 _ _))) (.cons .c .nil)) fun Q q => isi_str hg.1 (by rw [hS]; exact q)))) ?_)
          rw [isTm_hd s fun f e => by rw [e] at hS; cases hS] at hR
          exact hR
    | _ => cases hT
  · have hT := Bool.eq_false_iff.mpr hT
    refine seq_ev (if_yes (.or1 (.not (b := false) (.tst (.cb (.cons (.varF rfl) (.cons .c .nil)) fun Q q => isi_tup hg (by rw [hT]; exact q))))) ?_)
    rw [isTm_not s fun xs e => by rw [e] at hT; cases hT] at hR
    exact hR
def deepD : Nat → D
  | 0 => .non
  | n + 1 => .lst [deepD n]
def R__law_deep : SpecD := fun ds R _ => ds = [] ∧ R (.own [deepD 35])
theorem p__law_deep (ds : List D) (R : Sd → Prop) (E : ED → Prop) (h : R__law_deep ds R E) : bodyD N__law_deep T__law_deep ds R E := by
  obtain ⟨rfl, hR⟩ := h
  unfold T__law_deep
  simp only [bodyD, startD, List.map_cons, List.map_nil, List.length_cons, List.length_nil, List.cons_append, List.nil_append, List.replicate_succ, List.replicate_zero, Nat.sub_zero]
  refine seq_ev (set_ev (.lst (.cons .c .nil)) rfl ?_)
  refine seq_ev ?_
  simp only [dFor, dRng, rg1, dCons, dC, dNil, sFrz]
  refine ⟨by decide, ?_⟩
  refine for_inv (fun r Δ => ∃ (k : Nat) (z : Option Sd), r.length + k = 35 ∧ Δ = [some (.own [deepD k]), z]) ?_ ?_ _ _ ⟨0, _, by decide, rfl⟩
  · rintro d r Δ ⟨k, z, hk, rfl⟩ D' hnx _ _ _ _
    rw [List.length_cons] at hk
    show dFreeze 0 (dSet 0 (dLst (dCons (dVar 0) dNil))) D' [some (.own [deepD k]), some (.fro d)]
    simp only [dFreeze, frzSlot, dSet, dLst, dCons, dNil, dVar, sFrz, Sd.view, Sd.stored, List.set_cons_zero, List.getElem?_cons_zero]
    exact ⟨by rw [sizeLine_eq]; simp only [List.length_cons, List.length_nil]; decide, trivial, hnx _ ⟨k + 1, _, by omega, rfl⟩⟩
  · rintro Δ ⟨k, z, hk, rfl⟩
    rw [List.length_nil] at hk
    have : k = 35 := by omega
    subst this
    exact hR
/-! ### draws in statements -/
theorem draw_q {Δ : Dl} {Q : Sd → Prop} {E : ED → Prop} {m : Int} {tm : TD} (h0 : Δ[0]? = some (some (.fro (.cell 0 [])))) (hm : Ev tm Δ E (.fro (.int m))) (p : 0 < m) (q : m < 1073741824) (k : ∀ d, 0 ≤ d → d < m → Q (.fro (.int d))) :
    dCall R_u_law_draw (dCons (dVar 0) (dCons tm dNil)) Δ Q E := by
  have h1 : EvA (dCons (dVar 0) (dCons tm dNil)) Δ E [.cell 0 [], .int m] := .cons (.varF h0) (.cons hm .nil)
  exact h1 _ ⟨m, rfl, p, q, fun d d0 d1 => k d d0 d1⟩
theorem if_draw {Δ : Dl} {cc : TDT} {b : Bool} {m : Int} {DD : EndsD} {u v : TDS} (c1 : EvT cc Δ (fun e => DD.ex e Δ) b) (h0 : Δ[0]? = some (some (.fro (.cell 0 [])))) (p : 0 < m) (q : m < 1073741824) (hy : b = true → u DD Δ) (hn : v DD Δ) :
    dIfS (dAnd cc (dTst (dOp (fCI pGt) (dCall R_u_law_draw (dCons (dVar 0) (dCons (dC (.fro (.int m))) dNil))) (dC (.fro (.int 0)))))) u v DD Δ := by
  unfold dIfS dAnd
  refine c1 _ ?_
  cases b with
  | false => rw [if_neg (by decide)]; exact iteB (fun e => nomatch e) fun _ => hn
  | true =>
    rw [if_pos rfl]
    refine draw_q (Q := fun x => dC (.fro (.int 0)) Δ (fun y => fCI pGt x y (tstB _)) _) h0 .c p q fun d d0 d1 => ?_
    exact iteB (fun _ => hy rfl) fun _ => hn
theorem set_draw {Δ : Dl} {i : Nat} {c m : Int} {tm : TD} {DD : EndsD} (h0 : Δ[0]? = some (some (.fro (.cell 0 [])))) (hm : Ev tm Δ (fun e => DD.ex e Δ) (.fro (.int m))) (p : 0 < m) (q : m < 1073741824) (k : ∀ d, 0 ≤ d → d < m → DD.nx (Δ.set i (some (.fro (.int (c + d)))))) :
    dSet i (dOp fAdd (dC (.fro (.int c))) (dCall R_u_law_draw (dCons (dVar 0) (dCons tm dNil)))) DD Δ := by
  unfold dSet dOp
  exact draw_q (Q := fun y => fAdd (.fro (.int c)) y _) h0 hm p q fun d d0 d1 => ⟨rfl, k d d0 d1⟩
theorem ret_ixdraw {Δ : Dl} {i : Nat} {m : Int} {xs : List D} {DD : EndsD} (h0 : Δ[0]? = some (some (.fro (.cell 0 [])))) (hi : Δ[i]? = some (some (.own xs))) (hm : m = xs.length) (p : 0 < m) (q : m < 1073741824) (k : ∀ d ∈ xs, DD.rt (.fro d)) :
    dRet (dOp fIx (dVar i) (dCall R_u_law_draw (dCons (dVar 0) (dCons (dC (.fro (.int m))) dNil)))) DD Δ := by
  unfold dRet dOp
  have hv : Ev (dVar i) Δ (fun e => DD.ex e Δ) (.brw xs) := .var hi
  refine hv _ ?_
  refine draw_q (Q := fun y => fIx (.brw xs) y _) h0 .c p q fun d d0 d1 => ?_
  obtain ⟨j, rfl⟩ := Int.eq_ofNat_of_zero_le d0
  obtain ⟨x, hx⟩ : ∃ x, xs[j]? = some x := ⟨_, List.getElem?_eq_getElem (by omega)⟩
  exact ixB (atI_nat hx) _ (k x (List.mem_of_getElem? hx))
end DL
set_option Elab.async false
set_option linter.all false
set_option maxRecDepth 100000
set_option maxHeartbeats 4000000
namespace DL
open PySem PySem.Spec PyProof.Rows L2
/-! ### _law_bent -/
def bentA (t : Tm) : List D := [.non, .str "a", .int 0, .bl true, .tup [], .lst [.str "a"], .tup [.str "zz"], .tup [.int 1], .dic [], .tup [.tup [.str "a"]], .tup ((.str t.f :: Tm.ds t.as) ++ [.tup [.str "a"]]), .tup (.str t.f :: Tm.ds t.as).dropLast, .lst (.str t.f :: Tm.ds t.as), .lst [deepD 35]]
def bentB (t : Tm) : List D := [.tup [.str "a"], .tup [.str "b"], .tup [.str t.f, .tup [.str "a"]], .tup [.str t.f, .tup [.str "a"], .tup [.str "a"]], .tup ([.non] ++ Tm.ds t.as)]
def bentOk (t : Tm) (d : D) : Prop := d.tg = true ∧ d.tn ≤ 2 * t.n + 10 ∧ d.th ≤ t.h + 3
theorem D.tns_dl (xs : List D) : D.tns xs.dropLast ≤ D.tns xs := by
  rcases snoc_cases xs with rfl | ⟨r, x, rfl⟩
  · exact Nat.le_refl _
  · rw [drop_snoc, D.tns_app]; omega
theorem D.ths_app (a b : List D) : D.ths (a ++ b) = max (D.ths a) (D.ths b) := by
  induction a with
  | nil => rw [List.nil_append, D.ths]; omega
  | cons d r ih => rw [List.cons_append, D.ths, D.ths, ih]; omega
theorem D.ths_dl (xs : List D) : D.ths xs.dropLast ≤ D.ths xs := by
  rcases snoc_cases xs with rfl | ⟨r, x, rfl⟩
  · exact Nat.le_refl _
  · rw [drop_snoc, D.ths_app]; omega
theorem D.tgs_dl {xs : List D} (h : D.tgs xs = true) : D.tgs xs.dropLast = true := by
  rcases snoc_cases xs with rfl | ⟨r, x, rfl⟩
  · exact h
  · rw [D.tgs_app, Bool.and_eq_true] at h
    rw [drop_snoc]
    exact h.1
theorem Tm.xs_tn (t : Tm) : D.tns (.str t.f :: Tm.ds t.as) + 1 = 2 * t.n := by
  have := Tm.tn t
  rw [Tm.d_eq, D.tn] at this
  exact this
theorem Tm.xs_th (t : Tm) : D.ths (.str t.f :: Tm.ds t.as) + 1 = t.h := by
  have := Tm.th t
  rw [Tm.d_eq, D.th] at this
  exact this
theorem Tm.xs_tg {t : Tm} (h : strsOk t) : D.tgs (.str t.f :: Tm.ds t.as) = true := by
  have := Tm.tg t h
  rw [Tm.d_eq, D.tg] at this
  exact this
theorem bent_ok {t : Tm} (h : strsOk t) : ∀ d ∈ bentA t ++ bentB t, bentOk t d := by
  have x1 := t.xs_tn
  have x2 := t.xs_th
  have x3 := Tm.xs_tg h
  have x4 := D.tns_dl (.str t.f :: Tm.ds t.as)
  have x5 := D.ths_dl (.str t.f :: Tm.ds t.as)
  have x6 := D.tgs_dl x3
  have n1 := t.n_pos
  have x3' := x3
  rw [D.tgs, Bool.and_eq_true, D.tg] at x3'
  have x1' := x1
  have x2' := x2
  rw [D.tns, D.tn] at x1'
  rw [D.ths, D.th] at x2'
  have sa : PyData.strOk "a" = true := by decide +kernel
  have sb : PyData.strOk "b" = true := by decide +kernel
  have sz : PyData.strOk "zz" = true := by decide +kernel
  intro d hd
  simp only [bentA, bentB, List.cons_append, List.nil_append, List.mem_cons, List.not_mem_nil, or_false] at hd
  rcases hd with rfl | rfl | rfl | rfl | rfl | rfl | rfl | rfl | rfl | rfl | rfl | rfl | rfl | rfl | rfl | rfl | rfl | rfl | rfl
  all_goals
    refine ⟨?_, ?_, ?_⟩
    · simp only [D.tg, D.tgs, D.tgs_app, sa, sb, sz, x6, x3'.1, x3'.2, Bool.and_self, Bool.and_true]
    · simp only [D.tn, D.tns, D.tns_app]
      omega
    · simp only [D.th, D.ths, D.ths_app]
      omega
theorem ret_q {t : TD} {DD : EndsD} {Δ : Dl} (h : t Δ (fun s => DD.rt s.ret) (fun e => DD.ex e Δ)) : dRet t DD Δ := h
def R__law_bent (h : Nat) : SpecD := fun ds R _ => ∃ t : Tm, ds = [.cell 0 [], t.d] ∧ strsOk t ∧ t.h ≤ h ∧ t.n < 1000 ∧ ∀ d, bentOk t d → R (.fro d)
theorem p__law_bent (h : Nat) (ds : List D) (R : Sd → Prop) (E : ED → Prop) (hh : R__law_bent (h + 1) ds R E) : bodyD N__law_bent (T__law_bent R_u_law_draw (R__law_bent h) R__law_deep) ds R E := by
  obtain ⟨t, rfl, hs, hd, hz, hR⟩ := hh
  have th := t.h_eq
  have tn := t.n_eq
  have tl := Tm.len_ns t.as
  have lx : (D.str t.f :: Tm.ds t.as).length = t.as.length + 1 := by rw [List.length_cons, Tm.ds_len]
  unfold T__law_bent
  simp only [bodyD, startD, List.map_cons, List.map_nil, List.length_cons, List.length_nil, List.cons_append, List.nil_append, List.replicate_succ, List.replicate_zero, Nat.sub_self, Tm.d_eq t]
  refine seq_ev (if_draw (b := decide (0 < t.as.length)) (.tst (.op (.cb (.cons (.varF rfl) .nil) lenT) .c fun Q q => ?b1)) rfl (by decide) (by decide) (fun hb => ?y) ?n)
  case b1 =>
    show Q (.fro (.bl (pGt _ 1)))
    have e : pGt ((D.str t.f :: Tm.ds t.as).length : Int) 1 = decide (0 < t.as.length) := by
      rw [lx]
      unfold pGt
      rw [decide_eq_decide]
      omega
    rw [e]
    exact q
  case y =>
    have hb := of_decide_eq_true hb
    refine seq_ev (set_draw (m := t.as.length) rfl (.op (.cb (.cons (.varF rfl) .nil) lenT) .c fun Q q => ?m1) (by omega) (by omega) fun d d0 d1 => ?_)
    case m1 =>
      show Q (.fro (.int (((D.str t.f :: Tm.ds t.as).length : Nat) - 1)))
      rw [lx, show (((t.as.length + 1 : Nat) : Int) - 1) = (t.as.length : Int) by omega]
      exact q
    obtain ⟨j, rfl⟩ := Int.eq_ofNat_of_zero_le d0
    have hj : j < t.as.length := by omega
    obtain ⟨u, hu⟩ : ∃ u, t.as[j]? = some u := ⟨_, List.getElem?_eq_getElem hj⟩
    have um := List.mem_of_getElem? hu
    have a1 : atI (D.str t.f :: Tm.ds t.as) (1 + (j : Int)) = some u.d := by
      rw [show (1 : Int) + (j : Int) = ((j + 1 : Nat) : Int) by omega]
      exact atI_nat (by rw [List.getElem?_cons_succ, Tm.ds_map, List.getElem?_map, hu]; rfl)
    have uh := Tm.hs_le um
    have un := Tm.n_le um
    have us : strsOk u := by
      unfold strsOk at hs ⊢
      rw [Tm.all_eq] at hs
      exact hs.2 u um
    dsimp only
    refine ret_q ?_
    dsimp only
    simp only [dOp, dSl, dVar, oNone, oSome, dTup, dCall, dCons, dNil, dC, List.getElem?_cons_zero, List.getElem?_cons_succ, List.set_cons_zero, List.set_cons_succ, Sd.view, sFrz, fSl, Sd.dat]
    refine ixO a1 _ ?_
    refine ⟨u, rfl, us, by omega, by omega, fun d hd => ?_⟩
    refine ⟨by rw [sizeLine_eq]; simp only [List.length_cons, List.length_nil]; decide, ?_⟩
    have e1 : cutD (D.str t.f :: Tm.ds t.as) none (some (1 + (j : Int))) = (D.str t.f :: Tm.ds t.as).take (j + 1) := by
      rw [show (1 : Int) + (j : Int) = ((j + 1 : Nat) : Int) by omega]
      exact cut_take _ _
    have e2 : cutD (D.str t.f :: Tm.ds t.as) (some (1 + (j : Int) + 1)) none = (D.str t.f :: Tm.ds t.as).drop (j + 2) := by
      rw [show (1 : Int) + (j : Int) + 1 = ((j + 2 : Nat) : Int) by omega]
      exact cut_drop _ _
    have e3 : (D.str t.f :: Tm.ds t.as) = (D.str t.f :: Tm.ds t.as).take (j + 1) ++ [u.d] ++ (D.str t.f :: Tm.ds t.as).drop (j + 2) := by
      have g : (D.str t.f :: Tm.ds t.as)[j + 1]? = some u.d := by rw [List.getElem?_cons_succ, Tm.ds_map, List.getElem?_map, hu]; rfl
      obtain ⟨gl, ge⟩ := List.getElem?_eq_some_iff.mp g
      rw [← ge, List.append_assoc]
      have : [(D.str t.f :: Tm.ds t.as)[j + 1]] ++ (D.str t.f :: Tm.ds t.as).drop (j + 2) = (D.str t.f :: Tm.ds t.as).drop (j + 1) := (List.drop_eq_getElem_cons gl).symm
      rw [this, List.take_append_drop]
    have bx1 := t.xs_tn
    have bx2 := t.xs_th
    have bx3 := Tm.xs_tg hs
    generalize hA : (D.str t.f :: Tm.ds t.as).take (j + 1) = A at *
    generalize hB : (D.str t.f :: Tm.ds t.as).drop (j + 2) = B at *
    have lA : A.length ≤ 2000 := by rw [← hA, List.length_take]; omega
    have lB : B.length ≤ 2000 := by rw [← hB, List.length_drop]; omega
    refine addT (by rw [e1, sizeLine_eq]; simp only [List.length_cons, List.length_nil]; omega) _ ?_
    show fAdd (Sd.fro (D.tup (cutD (D.str t.f :: Tm.ds t.as) none (some (1 + (j : Int))) ++ [d]))) (Sd.fro (D.tup (cutD (D.str t.f :: Tm.ds t.as) (some (1 + (j : Int) + 1)) none))) fun s => R s.ret
    rw [e1, e2]
    refine addT (by rw [sizeLine_eq, List.length_append]; simp only [List.length_cons, List.length_nil]; omega) _ ?_
    obtain ⟨d1, d2, d3⟩ := hd
    rw [e3, D.tns_app, D.tns_app, D.tns, D.tns, Tm.tn] at bx1
    rw [e3, D.ths_app, D.ths_app, D.ths, D.ths, Tm.th] at bx2
    rw [e3, D.tgs_app, D.tgs_app, Bool.and_eq_true, Bool.and_eq_true] at bx3
    refine hR _ ⟨?_, ?_, ?_⟩
    · rw [D.tg, D.tgs_app, D.tgs_app, D.tgs, D.tgs, bx3.1.1, bx3.2, d1]; rfl
    · rw [D.tn, D.tns_app, D.tns_app, D.tns, D.tns]; omega
    · rw [D.th, D.ths_app, D.ths_app, D.ths, D.ths]; omega
  case n =>
    refine seq_ev (set_ev (s := .own (bentA t)) (.lst (.cons .c (.cons .c (.cons .c (.cons .c (.cons (.tup .nil) (.consL (.lst (.cons .c .nil)) (.cons (.tup (.cons .c .nil)) (.cons (.tup (.cons .c .nil)) (.consD .c (.cons (.tup (.cons (.tup (.cons .c .nil)) .nil)) (.cons (.op (.varF rfl) (.tup (.cons (.tup (.cons .c .nil)) .nil)) (addT ?l1)) (.cons ?dl (.consL (.cb (.cons (.varF rfl) .nil) fun Q q => q) (.consL (.callL .nil fun R q => ⟨rfl, q⟩) .nil)))))))))))))) ?l2) rfl ?_)
    case l1 => rw [lx, sizeLine_eq]; simp only [List.length_cons, List.length_nil]; omega
    case l2 => rw [sizeLine_eq]; unfold bentA; simp only [List.length_cons, List.length_nil]; decide
    case dl =>
      intro Q q
      simp only [dSl, dVar, oNone, oSome, dUn, dC, fNeg, List.getElem?_cons_zero, List.getElem?_cons_succ, Sd.view, fSl, Sd.dat, cut_last]
      exact q
    dsimp only
    refine seq_ev (set_ev (s := .own (bentA t ++ bentB t)) ?s2 rfl ?_)
    case s2 =>
      refine .op (x := .brw (bentA t)) (y := .own (bentB t)) (Ev.var (s := .own (bentA t)) rfl) (.lst (.cons (.tup (.cons .c .nil)) (.cons (.tup (.cons .c .nil)) (.cons (.tup (.cons (.op (.varF rfl) .c (ixO (atI_0 _ _))) (.cons (.tup (.cons .c .nil)) .nil))) (.cons (.tup (.cons (.op (.varF rfl) .c (ixO (atI_0 _ _))) (.cons (.tup (.cons .c .nil)) (.cons (.tup (.cons .c .nil)) .nil)))) (.cons (.op (.tup (.cons .c .nil)) ?tl (addT ?l3)) .nil))))) ?l4) fun Q q => ?ad
      case l3 => rw [Tm.ds_len, sizeLine_eq]; simp only [List.length_cons, List.length_nil]; omega
      case l4 => rw [sizeLine_eq]; unfold bentB; simp only [List.length_cons, List.length_nil]; decide
      case tl =>
        intro Q q
        simp only [dSl, dVar, oNone, oSome, dC, List.set_cons_zero, List.set_cons_succ, List.getElem?_cons_zero, List.getElem?_cons_succ, Sd.view, fSl, Sd.dat, cut1d]
        exact q
      case ad => exact ⟨by rw [sizeLine_eq]; unfold bentA bentB; simp only [List.length_cons, List.length_nil]; decide, q⟩
    dsimp only
    exact ret_ixdraw rfl rfl rfl (by decide) (by decide) fun d hd => hR d (bent_ok hs d hd)
end DL
set_option Elab.async false
set_option linter.all false
set_option maxRecDepth 100000
set_option maxHeartbeats 4000000
namespace DL
open PySem PySem.Spec PyProof.Rows L2
/-! ### the told terms stand in one order -/
theorem tmLe_total : PySem.W.TotalLe tmLe := PySem.W.sortLe_total _ false _
open PySem.W in
theorem toks_anti {x y : PyData} (h : alike x y = true) (e : keyToks x = keyToks y) : PyData.eqv x y = true := by
  cases hb : PyData.eqv x y with
  | true => rfl
  | false =>
    have k := (toks_eqv x y h).2 hb [] [.inl 0]
    rw [e, lex_pre, lex_irrefl] at k
    exact absurd k (by decide)
theorem key_like (t u : Tm) : PySem.W.alike t.key.py u.key.py = true := by
  simp only [Tm.key, D.py, D.pys, PySem.W.alike, PySem.W.alikeAll, Bool.true_and, Bool.and_true]
  exact Tm.like t u
theorem tmLe_anti {t u : Tm} (h : tmLe t u = true) (g : tmLe u t = true) : t = u := by
  unfold tmLe at h g
  rw [PySem.W.dataLe_eq] at h g
  simp only [cond_false, Bool.not_eq_true'] at h g
  have e := lex_total _ _ g h
  have q := toks_anti (key_like t u) e
  simp only [Tm.key, D.py, D.pys, PyData.eqv, PyData.eqvAll, Bool.and_eq_true] at q
  exact (Tm.eqv_iff t u).mp q.2.1
theorem perm_small {α : Type} {l m : List α} (p : l.Perm m) (h : l.length ≤ 1) : l = m := by
  match l, h with
  | [], _ => exact (List.nil_perm.mp p).symm
  | [x], _ => exact (List.perm_singleton.mp p.symm).symm
theorem sort_perm {l m : List Tm} (p : l.Perm m) (hn : l.Nodup) : l.mergeSort tmLe = m.mergeSort tmLe := by
  refine PySem.W.sort_unique tmLe_total (PySem.W.sort_pairwise tmLe_total l) fun c => ?_
  rw [PySem.W.sort_stable tmLe_total]
  refine perm_small (p.filter _) ?_
  have hs : ∀ x ∈ l.filter (PySem.W.sameRank tmLe c), x = c := fun x hx => by
    have := (List.mem_filter.mp hx).2
    unfold PySem.W.sameRank at this
    rw [Bool.and_eq_true] at this
    exact tmLe_anti this.2 this.1
  have nd := hn.filter (PySem.W.sameRank tmLe c)
  have := nodup_len (m := [c]) nd fun x hx => by rw [hs x hx]; exact List.mem_cons_self
  simpa using this
theorem Within.sort {ts us rs qs : List Tm} (h : Within ts rs) (g : Within us qs) (e : ∀ u, u ∈ Tm.subss ts ↔ u ∈ Tm.subss us) : rs.mergeSort tmLe = qs.mergeSort tmLe :=
  sort_perm ((List.perm_ext_iff_of_nodup h.1 g.1).mpr fun u => by rw [h.2, g.2, e]) h.1
end DL
set_option Elab.async false
set_option linter.all false
set_option maxRecDepth 100000
set_option maxHeartbeats 4000000
namespace DL
open PySem PySem.Spec PyProof.Rows L2
/-! ### the law -/
theorem eqO (neg : Bool) {x y : Sd} (hx : okD x.dat) (hy : okD y.dat) (sy : y.dat.sd = true) (e : x.dat = y.dat) : ∀ Q : Sd → Prop, Q (.fro (.bl (!neg))) → fEq neg x y Q := fun Q q => by
  refine ⟨⟨hx, hy⟩, ?_⟩
  rw [e, D.eqv_rfl sy]
  cases neg <;> exact q
theorem lnOk.to {s : Sg} {d : Nat} {x : Ln} (h : lnOk s d x) (hd : d ≤ 7) : over s x.l ∧ over s x.r ∧ x.l.n < 10000 ∧ x.r.n < 10000 ∧ x.l.h ≤ 40 ∧ x.r.h ≤ 40 := by
  have p8 : 2 ^ (d + 1) ≤ 2 ^ 8 := Nat.pow_le_pow_right (by decide) (by omega)
  have := h.l.n
  have := h.r.n
  have := h.l.h
  have := h.r.h
  exact ⟨h.l.o, h.r.o, by omega, by omega, by omega, by omega⟩
theorem for_rng {m : Int} {g : TDG} {tb : TDS} {DD : EndsD} {Δ : Dl} (b : -(2 ^ 62) ≤ m ∧ m < 2 ^ 62) (h : forR g tb DD (rngD 0 m.toNat) Δ) : dFor (dRng rg1 (dCons (dC (.fro (.int m))) dNil)) g tb DD Δ := ⟨b, h⟩
theorem draw_p {Δ : Dl} {i : Nat} {Q : Sd → Prop} {E : ED → Prop} {m : Int} {tm : TD} (h0 : Δ[i]? = some (some (.fro (.cell 0 [])))) (hm : Ev tm Δ E (.fro (.int m))) (p : 0 < m) (q : m < 1073741824) (k : ∀ d, 0 ≤ d → d < m → Q (.fro (.int d))) :
    dCall R_u_law_draw (dCons (dVar i) (dCons tm dNil)) Δ Q E := by
  have h1 : EvA (dCons (dVar i) (dCons tm dNil)) Δ E [.cell 0 [], .int m] := .cons (.varF h0) (.cons hm .nil)
  exact h1 _ ⟨m, rfl, p, q, fun d d0 d1 => k d d0 d1⟩
/-- f(a, b, draw(pool, m)) put in a slot -/
theorem set_args3 {Δ : Dl} {i j : Nat} {a b : D} {m : Int} {ta tb : TD} {r : SpecD} {DD : EndsD} (ha : Ev ta Δ (fun e => DD.ex e Δ) (.fro a)) (hb : Ev tb Δ (fun e => DD.ex e Δ) (.fro b)) (h0 : Δ[j]? = some (some (.fro (.cell 0 [])))) (p : 0 < m) (q : m < 1073741824)
    (k : ∀ d, 0 ≤ d → d < m → r [a, b, .int d] (fun s => s.ret.stored = true ∧ DD.nx (Δ.set i (some s.ret))) (fun e => DD.ex e Δ)) :
    dSet i (dCall r (dCons ta (dCons tb (dCons (dCall R_u_law_draw (dCons (dVar j) (dCons (dC (.fro (.int m))) dNil))) dNil)))) DD Δ := by
  unfold dSet dCall
  unfold dCons
  refine ha _ ?_
  refine hb _ ?_
  have := draw_p (Q := fun s => sFrz s fun d => dNil Δ (fun ds => r (a :: b :: d :: ds) (fun s => s.ret.stored = true ∧ DD.nx (Δ.set i (some s.ret))) fun e => DD.ex e Δ) (fun e => DD.ex e Δ)) (E := fun e => DD.ex e Δ) h0 (tm := dC (.fro (.int m))) .c p q fun d d0 d1 => k d d0 d1
  exact this
theorem if_draw1 {Δ : Dl} {j : Nat} {m : Int} {DD : EndsD} {u v : TDS} (h0 : Δ[j]? = some (some (.fro (.cell 0 [])))) (p : 0 < m) (q : m < 1073741824) (hy : u DD Δ) (hn : v DD Δ) :
    dIfS (dTst (dOp (fCI pGt) (dCall R_u_law_draw (dCons (dVar j) (dCons (dC (.fro (.int m))) dNil))) (dC (.fro (.int 0))))) u v DD Δ := by
  unfold dIfS
  refine draw_p (Q := fun x => dC (.fro (.int 0)) Δ (fun y => fCI pGt x y (tstB _)) _) h0 .c p q fun d d0 d1 => ?_
  exact iteB (fun _ => hy) fun _ => hn
def R_law : SpecD := fun ds R _ => ∃ ns : List Int, ds = [.scr (intD ns)] ∧ ns.length < 64 ∧ R (.fro (.bl true))
def turnI (Δ : Dl) : Prop := ∃ (z0 z2 z3 z4 z5 z6 z7 z8 : Option Sd), Δ = [z0, some (.fro (.cell 0 [])), z2, z3, z4, z5, z6, z7, z8]
theorem p_law (ds : List D) (R : Sd → Prop) (E : ED → Prop) (h : R_law ds R E) : bodyD N_law (T_law R_u_law_pool R__law_lore R__law_made R_u_law_draw (R__law_term 8) (R__law_bent 8) (R__law_is_right 12) (R__law_size 40) R_is_term R__law_flag R__law_size_told R__law_is R_told_terms R__law_told) ds R E := by
  obtain ⟨ns, rfl, hn, hR⟩ := h
  unfold T_law
  simp only [bodyD, startD, List.map_cons, List.map_nil, List.length_cons, List.length_nil, List.cons_append, List.nil_append, List.replicate_succ, List.replicate_zero, Nat.sub_self]
  refine seq_ev ?_
  refine set_call (ds := [.scr (intD ns)]) (.cons (.varF rfl) .nil) ⟨ns, rfl, hn, rfl, ?_⟩
  dsimp only
  refine seq_ev (for_rng (by decide) ?_)
  refine for_inv (fun r Δ => turnI Δ) ?_ ?_ _ _ ⟨_, _, _, _, _, _, _, _, rfl⟩
  · rintro d r Δ ⟨z0, z2, z3, z4, z5, z6, z7, z8, rfl⟩ D' hnx _ _ hrt _
    simp only [dgName, List.set_cons_zero, List.set_cons_succ]
    refine seq_ev ?_
    refine set_call (ds := [.cell 0 [], .int 5, .int 2]) (.cons (.varF rfl) (.cons .c (.cons .c .nil))) ⟨5, 2, rfl, by decide, by decide, fun s ls v hl hx ht => ⟨rfl, ?_⟩⟩
    have okx : ∀ x ∈ ls, over s x.l ∧ over s x.r ∧ x.l.n < 10000 ∧ x.r.n < 10000 ∧ x.l.h ≤ 40 ∧ x.r.h ≤ 40 := fun x h => (hx x h).to (by decide)
    have lok : LoreOk s ls := ⟨v, by omega, okx, fun rs h => Nat.le_trans (ht rs h) (by decide)⟩
    have hnd := valid_nodup v
    dsimp only
    refine seq_ev ?_
    refine set_call (ds := [.tup [.tup (sgD s), .tup (lnD ls)]]) (.cons (.varF rfl) .nil) ⟨s, ls, rfl, lok, rfl, ?_⟩
    dsimp only
    refine seq_ev (for_rng (by decide) ?_)
    refine for_inv (fun r Δ => ∃ (z0 z2 z5 z6 z7 z8 : Option Sd), Δ = [z0, some (.fro (.cell 0 [])), z2, some (.fro (.tup [.tup (sgD s), .tup (lnD ls)])), some (.fro (.ins "Lore" (loreF s ls))), z5, z6, z7, z8]) ?_ ?_ _ _ ⟨_, _, _, _, _, _, rfl⟩
    · rintro d r Δ ⟨z0, z2, z5, z6, z7, z8, rfl⟩ D' hnx _ _ hrt _
      simp only [dgName, List.set_cons_zero, List.set_cons_succ]
      refine seq_ev ?_
      refine set_args3 (a := .cell 0 []) (b := .tup (sgD s)) (.varF rfl) (.op (.varF rfl) .c (ixO (atI_0 _ _))) rfl (by decide) (by decide) fun dp d0 d1 => ?_
      obtain ⟨deep, rfl⟩ := Int.eq_ofNat_of_zero_le d0
      have hdp : deep ≤ 4 := by omega
      refine ⟨s, deep, rfl, v, by omega, fun t ho th tn => ⟨rfl, ?_⟩⟩
      have p8 : 2 ^ (deep + 1) ≤ 2 ^ 5 := Nat.pow_le_pow_right (by decide) (by omega)
      dsimp only
      refine seq_ev ?_
      have rest : ∀ (z5 : Option Sd) (d : D), d.tg = true → d.tn < 1000000 → d.th < 12 → (dSeq (dSet 7 (dCall (R__law_is_right 12) (dCons (dOp fIx (dVar 3) (dC (.fro (.int 0)))) (dCons (dVar 6) dNil)))) (dSeq (dSet 8 (dIf (dTst (dVar 7)) (dCall (R__law_size 40) (dCons (dVar 6) dNil)) (dC (.fro (.str "none"))))) (dIfS (dOr (dNot (dTst (dCall R__law_flag (dCons (dCall R_is_term (dCons (dVar 4) (dCons (dVar 6) dNil))) (dCons (dVar 7) dNil))))) (dNot (dTst (dCall R__law_is (dCons (dCall R__law_size_told (dCons (dVar 4) (dCons (dVar 6) dNil))) (dCons (dVar 8) dNil)))))) (dRet (dC (.fro (.bl false)))) dNext)))
          D' [z0, some (.fro (.cell 0 [])), z2, some (.fro (.tup [.tup (sgD s), .tup (lnD ls)])), some (.fro (.ins "Lore" (loreF s ls))), z5, some (.fro d), z7, z8] := by
        intro z5 d hg hz hh
        have thok : thOk s d := ⟨hnd, hg, hz⟩
        refine seq_ev (set_ev (s := .fro (.bl (isTm s d))) (.callF (ds := [.tup (sgD s), d]) (.cons (.op (.varF rfl) .c (ixO (atI_0 _ _))) (.cons (.varF rfl) .nil)) fun R q => ⟨s, d, rfl, v, hg, hz, hh, q⟩) rfl ?_)
        dsimp only
        cases hb : isTm s d with
        | true =>
          obtain ⟨t, rfl, ho⟩ := isTm_of s d hb
          rw [Tm.tn] at hz
          rw [Tm.th] at hh
          refine seq_ev (set_ev (s := .fro (.int t.n)) (.ife (b := true) (.tst (.varF rfl)) (fun _ => .callF (ds := [t.d]) (.cons (.varF rfl) .nil) fun R q => ⟨t, rfl, by omega, by omega, q⟩) (fun e => nomatch e)) rfl ?_)
          dsimp only
          refine if_skip (.no (.not (b := true) (.tst (.callF (ds := [.bl true, .bl true]) (.cons (.callF (ds := [.ins "Lore" (loreF s ls), t.d]) (.cons (.varF rfl) (.cons (.varF rfl) .nil)) (fun R q => ⟨"Lore", s, ls, t.d, rfl, lo1, thok, by rw [hb]; exact q⟩)) (.cons (.varF rfl) .nil)) fun R q => ⟨true, rfl, q⟩)))
            (.not (b := true) (.tst (.callF (ds := [.int t.n, .int t.n]) (.cons (.callF (ds := [.ins "Lore" (loreF s ls), t.d]) (.cons (.varF rfl) (.cons (.varF rfl) .nil)) (fun R q => ⟨"Lore", s, ls, t.d, rfl, lo1, thok, fun t' e _ => by rw [← Tm.inj e]; exact q, fun e => by rw [hb] at e; cases e⟩)) (.cons (.varF rfl) .nil)) fun R q => ⟨_, rfl, .inr ⟨t.n, rfl, by omega⟩, q⟩)))) ?_
          exact hnx _ ⟨_, _, _, _, _, _, rfl⟩
        | false =>
          refine seq_ev (set_ev (s := .fro (.str "none")) (.ife (b := false) (.tst (.varF rfl)) (fun e => nomatch e) (fun _ => .c)) rfl ?_)
          dsimp only
          refine if_skip (.no (.not (b := true) (.tst (.callF (ds := [.bl false, .bl false]) (.cons (.callF (ds := [.ins "Lore" (loreF s ls), d]) (.cons (.varF rfl) (.cons (.varF rfl) .nil)) (fun R q => ⟨"Lore", s, ls, d, rfl, lo1, thok, by rw [hb]; exact q⟩)) (.cons (.varF rfl) .nil)) fun R q => ⟨false, rfl, q⟩)))
            (.not (b := true) (.tst (.callF (ds := [.str "none", .str "none"]) (.cons (.callF (ds := [.ins "Lore" (loreF s ls), d]) (.cons (.varF rfl) (.cons (.varF rfl) .nil)) (fun R q => ⟨"Lore", s, ls, d, rfl, lo1, thok, fun t' e ho => (by rw [e, isTm_tm s t' ho] at hb; cases hb), fun _ => q⟩)) (.cons (.varF rfl) .nil)) fun R q => ⟨_, rfl, .inl rfl, q⟩)))) ?_
          exact hnx _ ⟨_, _, _, _, _, _, rfl⟩
      refine if_draw1 rfl (by decide) (by decide) ?_ ?_
      · exact set_call (ds := [.cell 0 [], t.d]) (.cons (.varF rfl) (.cons (.varF rfl) .nil)) ⟨t, rfl, ho.strs v, by omega, by omega, fun d hd => ⟨rfl, rest _ d hd.1 (by have := hd.2.1; omega) (by have := hd.2.2; omega)⟩⟩
      · exact rest _ t.d (Tm.tg t (ho.strs v)) (by rw [Tm.tn]; omega) (by rw [Tm.th]; omega)
    · rintro Δ ⟨z0, z2, z5, z6, z7, z8, rfl⟩
      dsimp only
      obtain ⟨rs0, w0⟩ := Within.ex (lefts ls)
      obtain ⟨lf1, lf2⟩ := lefts_ok v (by decide) (show ls.length < 1000 by omega) hx
      have told : ∀ (R : Sd → Prop) (E : ED → Prop), R (.fro (.tup (Tm.ds (rs0.mergeSort tmLe)))) → R_told_terms [.ins "Lore" (loreF s ls)] R E := fun R E q => ⟨"Lore", s, ls, rfl, lo1, v, by omega, okx, fun rs w => by rw [Within.sort w w0 fun u => sides_mem u ls]; exact q⟩
      have told2 : ∀ (R : Sd → Prop) (E : ED → Prop), R (.own (Tm.ds (rs0.mergeSort tmLe))) → R__law_told [.tup (lnD ls)] R E := fun R E q => ⟨ls, rfl, by omega, lf1, lf2, fun rs w => by rw [Within.sort w w0 fun u => Iff.rfl]; exact q⟩
      have nt : nice 41 (.tup (Tm.ds (rs0.mergeSort tmLe))) := nice_tup fun d hd => by
        rw [Tm.ds_map] at hd
        obtain ⟨u, hu, rfl⟩ := List.mem_map.mp hd
        have hu := (w0.2 u).mp ((List.mergeSort_perm _ _).mem_iff.mp hu)
        exact nice_tm (lf2 u hu).2.1 (lf2 u hu).2.2
      refine if_skip (.no (.tst (.op (.callF (ds := [.ins "Lore" (loreF s ls)]) (.cons (.varF rfl) .nil) fun R q => told R _ q) (.cb (.cons (.callL (ds := [.tup (lnD ls)]) (.cons (.op (.varF rfl) .c (ixO (atI_1 _ _ _))) .nil) fun R q => told2 R _ q) .nil) tupL) (eqO true nt.ok nt.ok nt.sd rfl)))
        (.not (b := true) (.tst (.cb (.cons (.callF (ds := [.ins "Lore" (loreF s ls)]) (.cons (.varF rfl) .nil) fun R q => told R _ q) (.cons .c .nil)) fun Q q => ⟨by decide, q⟩)))) ?_
      exact hnx _ ⟨_, _, _, _, _, _, _, _, rfl⟩
  · rintro Δ ⟨z0, z2, z3, z4, z5, z6, z7, z8, rfl⟩
    exact hR
end DL
set_option Elab.async false
set_option linter.all false
set_option maxRecDepth 100000
set_option maxHeartbeats 0
namespace DL
open PySem PySem.Spec PyProof.Rows L2
theorem law_facts {w : World} {K : PySem.W.Frag} {h : Heap} {mg : Str → Option Value} {f : Addr} (X : K.In h) (G : h.Ns mainGlobals mg) (hfa : mg ("law" : Str) = some (.ref f)) (c : He.SaysD faL fnL K) (ex : exL K = true) (xe : xsL.map (fun C => DX.fnXo K C) = xvL) :
    ∃ fd : FuncData, (∀ (s : Shared) (v : Value), BindsTo s fd ⟨[v], []⟩ [("script", v)]) ∧ ∀ base : Heap, K.In base → base.Ns mainGlobals mg → FnOk PR w K mg base CX0 48 f fd ["script"] (fun vs H Q _ => SpD K JP0 R_law vs H Q fun _ _ _ => False) := by
  have B : Bl mg := ⟨He.free_ok X G (c.fact 42 (f := .free "abs") rfl), He.free_ok X G (c.fact 43 (f := .free "all") rfl), He.free_ok X G (c.fact 44 (f := .free "any") rfl), He.free_ok X G (c.fact 46 (f := .free "dict") rfl), He.free_ok X G (c.fact 47 (f := .free "enumerate") rfl), He.free_ok X G (c.fact 48 (f := .free "int") rfl), He.free_ok X G (c.fact 49 (f := .free "isinstance") rfl), He.free_ok X G (c.fact 50 (f := .free "len") rfl), He.free_ok X G (c.fact 51 (f := .free "list") rfl), He.free_ok X G (c.fact 52 (f := .free "max") rfl), He.free_ok X G (c.fact 53 (f := .free "min") rfl), He.free_ok X G (c.fact 54 (f := .free "range") rfl), He.free_ok X G (c.fact 55 (f := .free "repr") rfl), He.free_ok X G (c.fact 56 (f := .free "set") rfl), He.free_ok X G (c.fact 57 (f := .free "sorted") rfl), He.free_ok X G (c.fact 58 (f := .free "str") rfl), He.free_ok X G (c.fact 59 (f := .free "sum") rfl), He.free_ok X G (c.fact 61 (f := .free "tuple") rfl), He.free_ok X G (c.fact 62 (f := .free "zip") rfl), He.free_ok X G (c.fact 45 (f := .free "bool") rfl)⟩
  have JP : JPool JP0 := jp_ok
  obtain ⟨x0, ex⟩ := He.ba ex
  obtain ⟨x1, ex⟩ := He.ba ex
  obtain ⟨x2, ex⟩ := He.ba ex
  obtain ⟨x3, ex⟩ := He.ba ex
  obtain ⟨x4, ex⟩ := He.ba ex
  have x5 := ex
  have cl_Lore : Cls K (He.ga K "Lore") := He.cls_ok (c.fact 69 (f := .cls "Lore") rfl)
  have na_Lore_signs : NoAttr K (He.ga K "Lore") "signs" := He.noat_ok (c.fact 71 (f := .noat "Lore" "signs") rfl)
  have na_Lore_lines : NoAttr K (He.ga K "Lore") "lines" := He.noat_ok (c.fact 72 (f := .noat "Lore" "lines") rfl)
  have na_Lore_kept_places : NoAttr K (He.ga K "Lore") "kept_places" := He.noat_ok (c.fact 73 (f := .noat "Lore" "kept_places") rfl)
  have na_Lore_kept_hall : NoAttr K (He.ga K "Lore") "kept_hall" := He.noat_ok (c.fact 74 (f := .noat "Lore" "kept_hall") rfl)
  have fA_signs : FldA K csLore "signs" := fun C hC => by
    simp only [csLore, List.mem_cons, List.not_mem_nil, or_false] at hC
    rcases hC with rfl
    · exact ⟨cl_Lore, na_Lore_signs⟩
  have fA_lines : FldA K csLore "lines" := fun C hC => by
    simp only [csLore, List.mem_cons, List.not_mem_nil, or_false] at hC
    rcases hC with rfl
    · exact ⟨cl_Lore, na_Lore_lines⟩
  have fA_kept_places : FldA K csLore "kept_places" := fun C hC => by
    simp only [csLore, List.mem_cons, List.not_mem_nil, or_false] at hC
    rcases hC with rfl
    · exact ⟨cl_Lore, na_Lore_kept_places⟩
  have fA_kept_hall : FldA K csLore "kept_hall" := fun C hC => by
    simp only [csLore, List.mem_cons, List.not_mem_nil, or_false] at hC
    rcases hC with rfl
    · exact ⟨cl_Lore, na_Lore_kept_hall⟩
  have iS_Lore : ∀ C' b, subL C' = some b → FIsi K C' "Lore" b := fun C' b e => by
    unfold subL at e
    split at e
    · rename_i q
      cases e
      simp only [csLore, List.mem_cons, List.not_mem_nil, or_false] at q
      rcases q with rfl
      · exact isiBk_ok x0 cl_Lore
    · cases e
  have iB_Lore : FIsB K "Lore" := isbBk_ok x1
  have g_MOST_SIGNS : ∃ t, mg "MOST_SIGNS" = some (.int 12 t) := He.int_ok X G (c.fact 63 (f := .int "MOST_SIGNS" (12)) rfl)
  have g_MOST_PLACES : ∃ t, mg "MOST_PLACES" = some (.int 2 t) := He.int_ok X G (c.fact 64 (f := .int "MOST_PLACES" (2)) rfl)
  have g_MOST_LINES : ∃ t, mg "MOST_LINES" = some (.int 24 t) := He.int_ok X G (c.fact 65 (f := .int "MOST_LINES" (24)) rfl)
  have g_MOST_TERMS : ∃ t, mg "MOST_TERMS" = some (.int 60 t) := He.int_ok X G (c.fact 66 (f := .int "MOST_TERMS" (60)) rfl)
  have g_MOST_LETTERS : ∃ t, mg "MOST_LETTERS" = some (.int 8 t) := He.int_ok X G (c.fact 67 (f := .int "MOST_LETTERS" (8)) rfl)
  have g_LETTERS : ∃ t, mg "LETTERS" = some (.str "abcdefghijklmnopqrstuvwxyz" t) := He.str_ok X G (c.fact 68 (f := .str "LETTERS" "abcdefghijklmnopqrstuvwxyz") rfl)
  have g_Lore : mg "Lore" = some (.ref (He.ga K "Lore")) := He.glo_ok X G (c.fact 40 (f := .glo "Lore") rfl)
  have hsup : mg "super" = none := He.free_ok X G (c.fact 60 (f := .free "super") rfl)
  have htop : (PR.main.scope.names.lookup ("super" : Str)).isSome = false := by decide +kernel
  unfold xsL xvL at xe
  simp only [List.map_cons, List.map_nil, List.cons.injEq, and_true] at xe
  obtain ⟨xe_BadLore, xe_NoTerm⟩ := xe
  have gx_BadLore : mg "BadLore" = some (.ref (He.ga K "BadLore")) := He.glo_ok X G (c.fact 38 (f := .glo "BadLore") rfl)
  have FX_BadLore : DX.FX1 PR K mg "BadLore" "part" := ⟨⟨_, "BadLore.__init__", defScope sx_BadLore, _, _, _, _, _, _, _, _, _, _, _, _, by exact (rfl : _ = true), DX.supX_of x2 xe_BadLore, ⟨by decide +kernel, by decide +kernel, by decide +kernel, by decide +kernel, by decide +kernel, by decide +kernel, by decide +kernel⟩, by decide +kernel, fun _ _ _ _ _ _ _ _ => rfl⟩, by decide, by decide, nfBk_ok x3, gx_BadLore, hsup, htop⟩
  have gx_NoTerm : mg "NoTerm" = some (.ref (He.ga K "NoTerm")) := He.glo_ok X G (c.fact 39 (f := .glo "NoTerm") rfl)
  have FX_NoTerm : DX.FX0 PR K mg "NoTerm" := ⟨⟨_, "NoTerm.__init__", defScope sx_NoTerm, _, _, _, _, _, _, by exact (rfl : _ = true), DX.supX_of x4 xe_NoTerm, ⟨by decide +kernel, by decide +kernel, by decide +kernel, by decide +kernel, by decide +kernel, by decide +kernel, by decide +kernel⟩⟩, gx_NoTerm, hsup, htop⟩
  have g_NoTerm : mg "NoTerm" = some (.ref (He.ga K "NoTerm")) := He.glo_ok X G (c.fact 39 (f := .glo "NoTerm") rfl)
  have H_NoTerm : HitOk K "NoTerm" hit_NoTerm := fun C' b e => by
    unfold hit_NoTerm at e
    split at e
    · rename_i q; cases e; subst q; exact exmBk_ok x5
    · skip
      cases e
  obtain ⟨fd__law_pool, Fd__law_pool⟩ := c.def_ 22 (d := d_u_law_pool) rfl
  have Fn__law_pool : FunD K "_law_pool" "_law_pool" (defArgs s_u_law_pool) (defBody s_u_law_pool) (defScope s_u_law_pool) [] [] (He.ga K "_law_pool") fd__law_pool := Fd__law_pool
  have bn__law_pool : Binds K fd__law_pool P_u_law_pool [] := Fn__law_pool.bindsN (ps := P_u_law_pool) (fun _ _ _ _ _ _ us hl => match us, hl with | [_], _ => rfl)
  have gl__law_pool : mg "_law_pool" = some (.ref (He.ga K "_law_pool")) := He.glo_ok X G (c.fact 19 (f := .glo "_law_pool") rfl)
  obtain ⟨fd__law_draw, Fd__law_draw⟩ := c.def_ 23 (d := d_u_law_draw) rfl
  have Fn__law_draw : FunD K "_law_draw" "_law_draw" (defArgs s_u_law_draw) (defBody s_u_law_draw) (defScope s_u_law_draw) [] [] (He.ga K "_law_draw") fd__law_draw := Fd__law_draw
  have bn__law_draw : Binds K fd__law_draw P_u_law_draw [] := Fn__law_draw.bindsN (ps := P_u_law_draw) (fun _ _ _ _ _ _ us hl => match us, hl with | [_, _], _ => rfl)
  have gl__law_draw : mg "_law_draw" = some (.ref (He.ga K "_law_draw")) := He.glo_ok X G (c.fact 20 (f := .glo "_law_draw") rfl)
  obtain ⟨fd__law_signs, Fd__law_signs⟩ := c.def_ 27 (d := d_u_law_signs) rfl
  have Fn__law_signs : FunD K "_law_signs" "_law_signs" (defArgs s_u_law_signs) (defBody s_u_law_signs) (defScope s_u_law_signs) [] [] (He.ga K "_law_signs") fd__law_signs := Fd__law_signs
  have bn__law_signs : Binds K fd__law_signs P__law_signs [] := Fn__law_signs.bindsN (ps := P__law_signs) (fun _ _ _ _ _ _ us hl => match us, hl with | [_], _ => rfl)
  have gl__law_signs : mg "_law_signs" = some (.ref (He.ga K "_law_signs")) := He.glo_ok X G (c.fact 24 (f := .glo "_law_signs") rfl)
  obtain ⟨fd__law_term, Fd__law_term⟩ := c.def_ 28 (d := d_u_law_term) rfl
  have Fn__law_term : FunD K "_law_term" "_law_term" (defArgs s_u_law_term) (defBody s_u_law_term) (defScope s_u_law_term) [] [] (He.ga K "_law_term") fd__law_term := Fd__law_term
  have bn__law_term : Binds K fd__law_term P__law_term [] := Fn__law_term.bindsN (ps := P__law_term) (fun _ _ _ _ _ _ us hl => match us, hl with | [_, _, _], _ => rfl)
  have gl__law_term : mg "_law_term" = some (.ref (He.ga K "_law_term")) := He.glo_ok X G (c.fact 25 (f := .glo "_law_term") rfl)
  obtain ⟨fd__law_lines, Fd__law_lines⟩ := c.def_ 29 (d := d_u_law_lines) rfl
  have Fn__law_lines : FunD K "_law_lines" "_law_lines" (defArgs s_u_law_lines) (defBody s_u_law_lines) (defScope s_u_law_lines) [] [] (He.ga K "_law_lines") fd__law_lines := Fd__law_lines
  have bn__law_lines : Binds K fd__law_lines P__law_lines [] := Fn__law_lines.bindsN (ps := P__law_lines) (fun _ _ _ _ _ _ us hl => match us, hl with | [_, _, _, _], _ => rfl)
  have gl__law_lines : mg "_law_lines" = some (.ref (He.ga K "_law_lines")) := He.glo_ok X G (c.fact 26 (f := .glo "_law_lines") rfl)
  obtain ⟨fd__law_size, Fd__law_size⟩ := c.def_ 32 (d := d_u_law_size) rfl
  have Fn__law_size : FunD K "_law_size" "_law_size" (defArgs s_u_law_size) (defBody s_u_law_size) (defScope s_u_law_size) [] [] (He.ga K "_law_size") fd__law_size := Fd__law_size
  have bn__law_size : Binds K fd__law_size P__law_size [] := Fn__law_size.bindsN (ps := P__law_size) (fun _ _ _ _ _ _ us hl => match us, hl with | [_], _ => rfl)
  have gl__law_size : mg "_law_size" = some (.ref (He.ga K "_law_size")) := He.glo_ok X G (c.fact 29 (f := .glo "_law_size") rfl)
  obtain ⟨fd__law_key, Fd__law_key⟩ := c.def_ 33 (d := d_u_law_key) rfl
  have Fn__law_key : FunD K "_law_key" "_law_key" (defArgs s_u_law_key) (defBody s_u_law_key) (defScope s_u_law_key) [] [] (He.ga K "_law_key") fd__law_key := Fd__law_key
  have bn__law_key : Binds K fd__law_key P__law_key [] := Fn__law_key.bindsN (ps := P__law_key) (fun _ _ _ _ _ _ us hl => match us, hl with | [_], _ => rfl)
  have gl__law_key : mg "_law_key" = some (.ref (He.ga K "_law_key")) := He.glo_ok X G (c.fact 30 (f := .glo "_law_key") rfl)
  obtain ⟨fd__law_within, Fd__law_within⟩ := c.def_ 34 (d := d_u_law_within) rfl
  have Fn__law_within : FunD K "_law_within" "_law_within" (defArgs s_u_law_within) (defBody s_u_law_within) (defScope s_u_law_within) [] [] (He.ga K "_law_within") fd__law_within := Fd__law_within
  have bn__law_within : Binds K fd__law_within P__law_within [] := Fn__law_within.bindsN (ps := P__law_within) (fun _ _ _ _ _ _ us hl => match us, hl with | [_], _ => rfl)
  have gl__law_within : mg "_law_within" = some (.ref (He.ga K "_law_within")) := He.glo_ok X G (c.fact 31 (f := .glo "_law_within") rfl)
  obtain ⟨fd__law_told, Fd__law_told⟩ := c.def_ 35 (d := d_u_law_told) rfl
  have Fn__law_told : FunD K "_law_told" "_law_told" (defArgs s_u_law_told) (defBody s_u_law_told) (defScope s_u_law_told) [] [] (He.ga K "_law_told") fd__law_told := Fd__law_told
  have bn__law_told : Binds K fd__law_told P__law_told [] := Fn__law_told.bindsN (ps := P__law_told) (fun _ _ _ _ _ _ us hl => match us, hl with | [_], _ => rfl)
  have gl__law_told : mg "_law_told" = some (.ref (He.ga K "_law_told")) := He.glo_ok X G (c.fact 32 (f := .glo "_law_told") rfl)
  obtain ⟨fd__law_lore, Fd__law_lore⟩ := c.def_ 30 (d := d_u_law_lore) rfl
  have Fn__law_lore : FunD K "_law_lore" "_law_lore" (defArgs s_u_law_lore) (defBody s_u_law_lore) (defScope s_u_law_lore) [] [] (He.ga K "_law_lore") fd__law_lore := Fd__law_lore
  have bn__law_lore : Binds K fd__law_lore P__law_lore [] := Fn__law_lore.bindsN (ps := P__law_lore) (fun _ _ _ _ _ _ us hl => match us, hl with | [_, _, _], _ => rfl)
  have gl__law_lore : mg "_law_lore" = some (.ref (He.ga K "_law_lore")) := He.glo_ok X G (c.fact 27 (f := .glo "_law_lore") rfl)
  obtain ⟨fd_is_pair, Fd_is_pair⟩ := c.def_ 2 (d := d_is_pair) rfl
  have Fn_is_pair : FunD K "is_pair" "is_pair" (defArgs s_is_pair) (defBody s_is_pair) (defScope s_is_pair) [] [] (He.ga K "is_pair") fd_is_pair := Fd_is_pair
  have bn_is_pair : Binds K fd_is_pair P_is_pair [] := Fn_is_pair.bindsN (ps := P_is_pair) (fun _ _ _ _ _ _ us hl => match us, hl with | [_], _ => rfl)
  have gl_is_pair : mg "is_pair" = some (.ref (He.ga K "is_pair")) := He.glo_ok X G (c.fact 2 (f := .glo "is_pair") rfl)
  obtain ⟨fd_is_sign, Fd_is_sign⟩ := c.def_ 3 (d := d_is_sign) rfl
  have Fn_is_sign : FunD K "is_sign" "is_sign" (defArgs s_is_sign) (defBody s_is_sign) (defScope s_is_sign) [] [] (He.ga K "is_sign") fd_is_sign := Fd_is_sign
  have bn_is_sign : Binds K fd_is_sign P_is_sign [] := Fn_is_sign.bindsN (ps := P_is_sign) (fun _ _ _ _ _ _ us hl => match us, hl with | [_], _ => rfl)
  have gl_is_sign : mg "is_sign" = some (.ref (He.ga K "is_sign")) := He.glo_ok X G (c.fact 3 (f := .glo "is_sign") rfl)
  obtain ⟨fd_is_integer, Fd_is_integer⟩ := c.def_ 0 (d := d_is_integer) rfl
  have Fn_is_integer : FunD K "is_integer" "is_integer" (defArgs s_is_integer) (defBody s_is_integer) (defScope s_is_integer) [] [] (He.ga K "is_integer") fd_is_integer := Fd_is_integer
  have bn_is_integer : Binds K fd_is_integer P_is_integer [] := Fn_is_integer.bindsN (ps := P_is_integer) (fun _ _ _ _ _ _ us hl => match us, hl with | [_], _ => rfl)
  have gl_is_integer : mg "is_integer" = some (.ref (He.ga K "is_integer")) := He.glo_ok X G (c.fact 0 (f := .glo "is_integer") rfl)
  obtain ⟨fd_is_within, Fd_is_within⟩ := c.def_ 1 (d := d_is_within) rfl
  have Fn_is_within : FunD K "is_within" "is_within" (defArgs s_is_within) (defBody s_is_within) (defScope s_is_within) [] [] (He.ga K "is_within") fd_is_within := Fd_is_within
  have bn_is_within : Binds K fd_is_within P_is_within [] := Fn_is_within.bindsN (ps := P_is_within) (fun _ _ _ _ _ _ us hl => match us, hl with | [_, _, _], _ => rfl)
  have gl_is_within : mg "is_within" = some (.ref (He.ga K "is_within")) := He.glo_ok X G (c.fact 1 (f := .glo "is_within") rfl)
  obtain ⟨fd_are_signs, Fd_are_signs⟩ := c.def_ 4 (d := d_are_signs) rfl
  have Fn_are_signs : FunD K "are_signs" "are_signs" (defArgs s_are_signs) (defBody s_are_signs) (defScope s_are_signs) [] [] (He.ga K "are_signs") fd_are_signs := Fd_are_signs
  have bn_are_signs : Binds K fd_are_signs P_are_signs [] := Fn_are_signs.bindsN (ps := P_are_signs) (fun _ _ _ _ _ _ us hl => match us, hl with | [_], _ => rfl)
  have gl_are_signs : mg "are_signs" = some (.ref (He.ga K "are_signs")) := He.glo_ok X G (c.fact 4 (f := .glo "are_signs") rfl)
  obtain ⟨fd_is_term_of, Fd_is_term_of⟩ := c.def_ 5 (d := d_is_term_of) rfl
  have Fn_is_term_of : FunD K "is_term_of" "is_term_of" (defArgs s_is_term_of) (defBody s_is_term_of) (defScope s_is_term_of) [] [] (He.ga K "is_term_of") fd_is_term_of := Fd_is_term_of
  have bn_is_term_of : Binds K fd_is_term_of P_is_term_of [] := Fn_is_term_of.bindsN (ps := P_is_term_of) (fun _ _ _ _ _ _ us hl => match us, hl with | [_, _], _ => rfl)
  have gl_is_term_of : mg "is_term_of" = some (.ref (He.ga K "is_term_of")) := He.glo_ok X G (c.fact 5 (f := .glo "is_term_of") rfl)
  obtain ⟨fd_is_line_of, Fd_is_line_of⟩ := c.def_ 6 (d := d_is_line_of) rfl
  have Fn_is_line_of : FunD K "is_line_of" "is_line_of" (defArgs s_is_line_of) (defBody s_is_line_of) (defScope s_is_line_of) [] [] (He.ga K "is_line_of") fd_is_line_of := Fd_is_line_of
  have bn_is_line_of : Binds K fd_is_line_of P_is_line_of [] := Fn_is_line_of.bindsN (ps := P_is_line_of) (fun _ _ _ _ _ _ us hl => match us, hl with | [_, _], _ => rfl)
  have gl_is_line_of : mg "is_line_of" = some (.ref (He.ga K "is_line_of")) := He.glo_ok X G (c.fact 6 (f := .glo "is_line_of") rfl)
  obtain ⟨fd_sides_of, Fd_sides_of⟩ := c.def_ 12 (d := d_sides_of) rfl
  have Fn_sides_of : FunD K "sides_of" "sides_of" (defArgs s_sides_of) (defBody s_sides_of) (defScope s_sides_of) [] [] (He.ga K "sides_of") fd_sides_of := Fd_sides_of
  have bn_sides_of : Binds K fd_sides_of P_sides_of [] := Fn_sides_of.bindsN (ps := P_sides_of) (fun _ _ _ _ _ _ us hl => match us, hl with | [_], _ => rfl)
  have gl_sides_of : mg "sides_of" = some (.ref (He.ga K "sides_of")) := He.glo_ok X G (c.fact 12 (f := .glo "sides_of") rfl)
  obtain ⟨fd_text_of, Fd_text_of⟩ := c.def_ 10 (d := d_text_of) rfl
  have Fn_text_of : FunD K "text_of" "text_of" (defArgs s_text_of) (defBody s_text_of) (defScope s_text_of) [] [] (He.ga K "text_of") fd_text_of := Fd_text_of
  have bn_text_of : Binds K fd_text_of P_text_of [] := Fn_text_of.bindsN (ps := P_text_of) (fun _ _ _ _ _ _ us hl => match us, hl with | [_], _ => rfl)
  have gl_text_of : mg "text_of" = some (.ref (He.ga K "text_of")) := He.glo_ok X G (c.fact 10 (f := .glo "text_of") rfl)
  obtain ⟨fd_size_of, Fd_size_of⟩ := c.def_ 7 (d := d_size_of) rfl
  have Fn_size_of : FunD K "size_of" "size_of" (defArgs s_size_of) (defBody s_size_of) (defScope s_size_of) [] [] (He.ga K "size_of") fd_size_of := Fd_size_of
  have bn_size_of : Binds K fd_size_of P_size_of [] := Fn_size_of.bindsN (ps := P_size_of) (fun _ _ _ _ _ _ us hl => match us, hl with | [_], _ => rfl)
  have gl_size_of : mg "size_of" = some (.ref (He.ga K "size_of")) := He.glo_ok X G (c.fact 7 (f := .glo "size_of") rfl)
  obtain ⟨fd_order_of, Fd_order_of⟩ := c.def_ 8 (d := d_order_of) rfl
  have Fn_order_of : FunD K "order_of" "order_of" (defArgs s_order_of) (defBody s_order_of) (defScope s_order_of) [] [] (He.ga K "order_of") fd_order_of := Fd_order_of
  have bn_order_of : Binds K fd_order_of P_order_of [] := Fn_order_of.bindsN (ps := P_order_of) (fun _ _ _ _ _ _ us hl => match us, hl with | [_], _ => rfl)
  have gl_order_of : mg "order_of" = some (.ref (He.ga K "order_of")) := He.glo_ok X G (c.fact 8 (f := .glo "order_of") rfl)
  obtain ⟨fd_ascending, Fd_ascending⟩ := c.def_ 9 (d := d_ascending) rfl
  have Fn_ascending : FunD K "ascending" "ascending" (defArgs s_ascending) (defBody s_ascending) (defScope s_ascending) [] [] (He.ga K "ascending") fd_ascending := Fd_ascending
  have bn_ascending : Binds K fd_ascending P_ascending [] := Fn_ascending.bindsN (ps := P_ascending) (fun _ _ _ _ _ _ us hl => match us, hl with | [_], _ => rfl)
  have gl_ascending : mg "ascending" = some (.ref (He.ga K "ascending")) := He.glo_ok X G (c.fact 9 (f := .glo "ascending") rfl)
  obtain ⟨fd_within_of, Fd_within_of⟩ := c.def_ 11 (d := d_within_of) rfl
  have Fn_within_of : FunD K "within_of" "within_of" (defArgs s_within_of) (defBody s_within_of) (defScope s_within_of) [] [] (He.ga K "within_of") fd_within_of := Fd_within_of
  have bn_within_of : Binds K fd_within_of P_within_of [] := Fn_within_of.bindsN (ps := P_within_of) (fun _ _ _ _ _ _ us hl => match us, hl with | [_], _ => rfl)
  have gl_within_of : mg "within_of" = some (.ref (He.ga K "within_of")) := He.glo_ok X G (c.fact 11 (f := .glo "within_of") rfl)
  obtain ⟨fd_Lore_keep, Fd_Lore_keep⟩ := c.def_ 14 (d := d_Lore_keep) rfl
  have Fn_Lore_keep : FunD K "keep" "Lore.keep" (defArgs s_Lore_keep) (defBody s_Lore_keep) (defScope s_Lore_keep) [] [] (He.ma K (He.ga K "Lore") "keep") fd_Lore_keep := Fd_Lore_keep
  have bn_Lore_keep : Binds K fd_Lore_keep P_Lore_keep [] := Fn_Lore_keep.bindsN (ps := P_Lore_keep) (fun _ _ _ _ _ _ us hl => match us, hl with | [_, _, _], _ => rfl)
  obtain ⟨fd_Lore_u__init_u_, Fd_Lore_u__init_u_⟩ := c.def_ 13 (d := d_Lore_u__init_u_) rfl
  have Fn_Lore_u__init_u_ : FunD K "__init__" "Lore.__init__" (defArgs s_Lore_u__init_u_) (defBody s_Lore_u__init_u_) (defScope s_Lore_u__init_u_) [] [] (He.ma K (He.ga K "Lore") "__init__") fd_Lore_u__init_u_ := Fd_Lore_u__init_u_
  have bn_Lore_u__init_u_ : Binds K fd_Lore_u__init_u_ P_Lore_u__init_u_ [] := Fn_Lore_u__init_u_.bindsN (ps := P_Lore_u__init_u_) (fun _ _ _ _ _ _ us hl => match us, hl with | [_, _, _], _ => rfl)
  obtain ⟨fd__law_made, Fd__law_made⟩ := c.def_ 31 (d := d_u_law_made) rfl
  have Fn__law_made : FunD K "_law_made" "_law_made" (defArgs s_u_law_made) (defBody s_u_law_made) (defScope s_u_law_made) [] [] (He.ga K "_law_made") fd__law_made := Fd__law_made
  have bn__law_made : Binds K fd__law_made P__law_made [] := Fn__law_made.bindsN (ps := P__law_made) (fun _ _ _ _ _ _ us hl => match us, hl with | [_], _ => rfl)
  have gl__law_made : mg "_law_made" = some (.ref (He.ga K "_law_made")) := He.glo_ok X G (c.fact 28 (f := .glo "_law_made") rfl)
  obtain ⟨fd__law_deep, Fd__law_deep⟩ := c.def_ 24 (d := d_u_law_deep) rfl
  have Fn__law_deep : FunD K "_law_deep" "_law_deep" (defArgs s_u_law_deep) (defBody s_u_law_deep) (defScope s_u_law_deep) [] [] (He.ga K "_law_deep") fd__law_deep := Fd__law_deep
  have bn__law_deep : Binds K fd__law_deep P__law_deep [] := Fn__law_deep.bindsN (ps := P__law_deep) (fun _ _ _ _ _ _ us hl => match us, hl with | [], _ => rfl)
  have gl__law_deep : mg "_law_deep" = some (.ref (He.ga K "_law_deep")) := He.glo_ok X G (c.fact 21 (f := .glo "_law_deep") rfl)
  obtain ⟨fd__law_bent, Fd__law_bent⟩ := c.def_ 37 (d := d_u_law_bent) rfl
  have Fn__law_bent : FunD K "_law_bent" "_law_bent" (defArgs s_u_law_bent) (defBody s_u_law_bent) (defScope s_u_law_bent) [] [] (He.ga K "_law_bent") fd__law_bent := Fd__law_bent
  have bn__law_bent : Binds K fd__law_bent P__law_bent [] := Fn__law_bent.bindsN (ps := P__law_bent) (fun _ _ _ _ _ _ us hl => match us, hl with | [_, _], _ => rfl)
  have gl__law_bent : mg "_law_bent" = some (.ref (He.ga K "_law_bent")) := He.glo_ok X G (c.fact 34 (f := .glo "_law_bent") rfl)
  obtain ⟨fd__law_is_right, Fd__law_is_right⟩ := c.def_ 36 (d := d_u_law_is_right) rfl
  have Fn__law_is_right : FunD K "_law_is_right" "_law_is_right" (defArgs s_u_law_is_right) (defBody s_u_law_is_right) (defScope s_u_law_is_right) [] [] (He.ga K "_law_is_right") fd__law_is_right := Fd__law_is_right
  have bn__law_is_right : Binds K fd__law_is_right P__law_is_right [] := Fn__law_is_right.bindsN (ps := P__law_is_right) (fun _ _ _ _ _ _ us hl => match us, hl with | [_, _], _ => rfl)
  have gl__law_is_right : mg "_law_is_right" = some (.ref (He.ga K "_law_is_right")) := He.glo_ok X G (c.fact 33 (f := .glo "_law_is_right") rfl)
  obtain ⟨fd_is_term_there, Fd_is_term_there⟩ := c.def_ 16 (d := d_is_term_there) rfl
  have Fn_is_term_there : FunD K "is_term_there" "is_term_there" (defArgs s_is_term_there) (defBody s_is_term_there) (defScope s_is_term_there) [] [] (He.ga K "is_term_there") fd_is_term_there := Fd_is_term_there
  have bn_is_term_there : Binds K fd_is_term_there P_is_term_there [] := Fn_is_term_there.bindsN (ps := P_is_term_there) (fun _ _ _ _ _ _ us hl => match us, hl with | [_, _], _ => rfl)
  have gl_is_term_there : mg "is_term_there" = some (.ref (He.ga K "is_term_there")) := He.glo_ok X G (c.fact 13 (f := .glo "is_term_there") rfl)
  obtain ⟨fd_is_term, Fd_is_term⟩ := c.def_ 17 (d := d_is_term) rfl
  have Fn_is_term : FunD K "is_term" "is_term" (defArgs s_is_term) (defBody s_is_term) (defScope s_is_term) [] [] (He.ga K "is_term") fd_is_term := Fd_is_term
  have bn_is_term : Binds K fd_is_term P_is_term [] := Fn_is_term.bindsN (ps := P_is_term) (fun _ _ _ _ _ _ us hl => match us, hl with | [_, _], _ => rfl)
  have gl_is_term : mg "is_term" = some (.ref (He.ga K "is_term")) := He.glo_ok X G (c.fact 14 (f := .glo "is_term") rfl)
  obtain ⟨fd__law_flag, Fd__law_flag⟩ := c.def_ 25 (d := d_u_law_flag) rfl
  have Fn__law_flag : FunD K "_law_flag" "_law_flag" (defArgs s_u_law_flag) (defBody s_u_law_flag) (defScope s_u_law_flag) [] [] (He.ga K "_law_flag") fd__law_flag := Fd__law_flag
  have bn__law_flag : Binds K fd__law_flag P__law_flag [] := Fn__law_flag.bindsN (ps := P__law_flag) (fun _ _ _ _ _ _ us hl => match us, hl with | [_, _], _ => rfl)
  have gl__law_flag : mg "_law_flag" = some (.ref (He.ga K "_law_flag")) := He.glo_ok X G (c.fact 22 (f := .glo "_law_flag") rfl)
  obtain ⟨fd_check_term, Fd_check_term⟩ := c.def_ 18 (d := d_check_term) rfl
  have Fn_check_term : FunD K "check_term" "check_term" (defArgs s_check_term) (defBody s_check_term) (defScope s_check_term) [] [] (He.ga K "check_term") fd_check_term := Fd_check_term
  have bn_check_term : Binds K fd_check_term P_check_term [] := Fn_check_term.bindsN (ps := P_check_term) (fun _ _ _ _ _ _ us hl => match us, hl with | [_, _], _ => rfl)
  have gl_check_term : mg "check_term" = some (.ref (He.ga K "check_term")) := He.glo_ok X G (c.fact 15 (f := .glo "check_term") rfl)
  obtain ⟨fd_size, Fd_size⟩ := c.def_ 19 (d := d_size) rfl
  have Fn_size : FunD K "size" "size" (defArgs s_size) (defBody s_size) (defScope s_size) [] [] (He.ga K "size") fd_size := Fd_size
  have bn_size : Binds K fd_size P_size [] := Fn_size.bindsN (ps := P_size) (fun _ _ _ _ _ _ us hl => match us, hl with | [_, _], _ => rfl)
  have gl_size : mg "size" = some (.ref (He.ga K "size")) := He.glo_ok X G (c.fact 16 (f := .glo "size") rfl)
  obtain ⟨fd__law_size_told, Fd__law_size_told⟩ := c.def_ 38 (d := d_u_law_size_told) rfl
  have Fn__law_size_told : FunD K "_law_size_told" "_law_size_told" (defArgs s_u_law_size_told) (defBody s_u_law_size_told) (defScope s_u_law_size_told) [] [] (He.ga K "_law_size_told") fd__law_size_told := Fd__law_size_told
  have bn__law_size_told : Binds K fd__law_size_told P__law_size_told [] := Fn__law_size_told.bindsN (ps := P__law_size_told) (fun _ _ _ _ _ _ us hl => match us, hl with | [_, _], _ => rfl)
  have gl__law_size_told : mg "_law_size_told" = some (.ref (He.ga K "_law_size_told")) := He.glo_ok X G (c.fact 35 (f := .glo "_law_size_told") rfl)
  obtain ⟨fd__law_is, Fd__law_is⟩ := c.def_ 26 (d := d_u_law_is) rfl
  have Fn__law_is : FunD K "_law_is" "_law_is" (defArgs s_u_law_is) (defBody s_u_law_is) (defScope s_u_law_is) [] [] (He.ga K "_law_is") fd__law_is := Fd__law_is
  have bn__law_is : Binds K fd__law_is P__law_is [] := Fn__law_is.bindsN (ps := P__law_is) (fun _ _ _ _ _ _ us hl => match us, hl with | [_, _], _ => rfl)
  have gl__law_is : mg "_law_is" = some (.ref (He.ga K "_law_is")) := He.glo_ok X G (c.fact 23 (f := .glo "_law_is") rfl)
  obtain ⟨fd_told_of, Fd_told_of⟩ := c.def_ 20 (d := d_told_of) rfl
  have Fn_told_of : FunD K "told_of" "told_of" (defArgs s_told_of) (defBody s_told_of) (defScope s_told_of) [] [] (He.ga K "told_of") fd_told_of := Fd_told_of
  have bn_told_of : Binds K fd_told_of P_told_of [] := Fn_told_of.bindsN (ps := P_told_of) (fun _ _ _ _ _ _ us hl => match us, hl with | [_], _ => rfl)
  have gl_told_of : mg "told_of" = some (.ref (He.ga K "told_of")) := He.glo_ok X G (c.fact 17 (f := .glo "told_of") rfl)
  obtain ⟨fd_told_terms, Fd_told_terms⟩ := c.def_ 21 (d := d_told_terms) rfl
  have Fn_told_terms : FunD K "told_terms" "told_terms" (defArgs s_told_terms) (defBody s_told_terms) (defScope s_told_terms) [] [] (He.ga K "told_terms") fd_told_terms := Fd_told_terms
  have bn_told_terms : Binds K fd_told_terms P_told_terms [] := Fn_told_terms.bindsN (ps := P_told_terms) (fun _ _ _ _ _ _ us hl => match us, hl with | [_], _ => rfl)
  have gl_told_terms : mg "told_terms" = some (.ref (He.ga K "told_terms")) := He.glo_ok X G (c.fact 18 (f := .glo "told_terms") rfl)
  obtain ⟨fd_law, Fd_law⟩ := c.def_ 39 (d := d_law) rfl
  have Fn_law : FunD K "law" "law" (defArgs s_law) (defBody s_law) (defScope s_law) [] [] (He.ga K "law") fd_law := Fd_law
  have e := hfa.symm.trans (He.glo_ok X G (c.fact 36 (f := .glo "law") rfl))
  cases e
  have bA := FunD.bindsA (ps := ["script"]) Fn_law (fun _ _ _ _ _ _ us hl => match us, hl with | [_], _ => rfl)
  refine ⟨fd_law, fun s v => bA s [v] rfl, fun base _ _ => ?_⟩
  have F__law_pool : FD PR w K mg base JP0 1 "_law_pool" P_u_law_pool R_u_law_pool := ⟨⟨fd__law_pool, w_u_law_pool JP B Fn__law_pool, bn__law_pool⟩, Fn__law_pool.kp, gl__law_pool⟩
  have F__law_draw : FD PR w K mg base JP0 1 "_law_draw" P_u_law_draw R_u_law_draw := ⟨⟨fd__law_draw, w_u_law_draw JP B Fn__law_draw, bn__law_draw⟩, Fn__law_draw.kp, gl__law_draw⟩
  have F__law_signs : FD PR w K mg base JP0 2 "_law_signs" P__law_signs R__law_signs := FD.of Fn__law_signs sc__law_signs bn__law_signs gl__law_signs (fun ds R E h => by first | (obtain ⟨rfl, _⟩ := h; rfl) | (obtain ⟨_, rfl, _⟩ := h; rfl) | (obtain ⟨_, _, rfl, _⟩ := h; rfl) | (obtain ⟨_, _, _, rfl, _⟩ := h; rfl) | (obtain ⟨_, _, _, _, rfl, _⟩ := h; rfl) | (obtain ⟨_, _, _, _, _, rfl, _⟩ := h; rfl) | (obtain ⟨_, _, _, _, _, _, rfl, _⟩ := h; rfl) | (obtain ⟨_, _, _, _, _, _, _, rfl, _⟩ := h; rfl) | (obtain ⟨_, _, rfl | rfl | rfl | rfl, _⟩ := h <;> rfl)) (b__law_signs B (F__law_draw := F__law_draw) _) p__law_signs
  have F__law_term : FD PR w K mg base JP0 10 "_law_term" P__law_term (R__law_term 8) := by
    have key : ∀ n, FD PR w K mg base JP0 (2 + n) "_law_term" P__law_term (R__law_term n) := fun n => by
      induction n with
      | zero => exact .none Fn__law_term bn__law_term gl__law_term (fun ds R E h => by first | (obtain ⟨t, _, h, _⟩ := h; cases t; rw [Tm.h] at h; omega) | (obtain ⟨_, _, _, _, h, _⟩ := h; omega))
      | succ n ih => exact FD.of (k := 2 + n) Fn__law_term sc__law_term bn__law_term gl__law_term (fun ds R E h => by first | (obtain ⟨rfl, _⟩ := h; rfl) | (obtain ⟨_, rfl, _⟩ := h; rfl) | (obtain ⟨_, _, rfl, _⟩ := h; rfl) | (obtain ⟨_, _, _, rfl, _⟩ := h; rfl) | (obtain ⟨_, _, _, _, rfl, _⟩ := h; rfl) | (obtain ⟨_, _, _, _, _, rfl, _⟩ := h; rfl) | (obtain ⟨_, _, _, _, _, _, rfl, _⟩ := h; rfl) | (obtain ⟨_, _, _, _, _, _, _, rfl, _⟩ := h; rfl) | (obtain ⟨_, _, rfl | rfl | rfl | rfl, _⟩ := h <;> rfl)) (b__law_term (k := 2 + n) (by omega) B (F__law_draw := F__law_draw) (F__law_term := ih) _) (p__law_term n)
    exact key 8
  have F__law_lines : FD PR w K mg base JP0 11 "_law_lines" P__law_lines R__law_lines := FD.of Fn__law_lines sc__law_lines bn__law_lines gl__law_lines (fun ds R E h => by first | (obtain ⟨rfl, _⟩ := h; rfl) | (obtain ⟨_, rfl, _⟩ := h; rfl) | (obtain ⟨_, _, rfl, _⟩ := h; rfl) | (obtain ⟨_, _, _, rfl, _⟩ := h; rfl) | (obtain ⟨_, _, _, _, rfl, _⟩ := h; rfl) | (obtain ⟨_, _, _, _, _, rfl, _⟩ := h; rfl) | (obtain ⟨_, _, _, _, _, _, rfl, _⟩ := h; rfl) | (obtain ⟨_, _, _, _, _, _, _, rfl, _⟩ := h; rfl) | (obtain ⟨_, _, rfl | rfl | rfl | rfl, _⟩ := h <;> rfl)) (b__law_lines B (F__law_draw := F__law_draw) (F__law_term := F__law_term) _) p__law_lines
  have F__law_size : FD PR w K mg base JP0 41 "_law_size" P__law_size (R__law_size 40) := by
    have key : ∀ n, FD PR w K mg base JP0 (1 + n) "_law_size" P__law_size (R__law_size n) := fun n => by
      induction n with
      | zero => exact .none Fn__law_size bn__law_size gl__law_size (fun ds R E h => by first | (obtain ⟨t, _, h, _⟩ := h; cases t; rw [Tm.h] at h; omega) | (obtain ⟨_, _, _, _, h, _⟩ := h; omega))
      | succ n ih => exact FD.of (k := 1 + n) Fn__law_size sc__law_size bn__law_size gl__law_size (fun ds R E h => by first | (obtain ⟨rfl, _⟩ := h; rfl) | (obtain ⟨_, rfl, _⟩ := h; rfl) | (obtain ⟨_, _, rfl, _⟩ := h; rfl) | (obtain ⟨_, _, _, rfl, _⟩ := h; rfl) | (obtain ⟨_, _, _, _, rfl, _⟩ := h; rfl) | (obtain ⟨_, _, _, _, _, rfl, _⟩ := h; rfl) | (obtain ⟨_, _, _, _, _, _, rfl, _⟩ := h; rfl) | (obtain ⟨_, _, _, _, _, _, _, rfl, _⟩ := h; rfl) | (obtain ⟨_, _, rfl | rfl | rfl | rfl, _⟩ := h <;> rfl)) (b__law_size (k := 1 + n) (by omega) B  (F__law_size := ih) _) (p__law_size n)
    exact key 40
  have F__law_key : FD PR w K mg base JP0 42 "_law_key" P__law_key R__law_key := FD.of Fn__law_key sc__law_key bn__law_key gl__law_key (fun ds R E h => by first | (obtain ⟨rfl, _⟩ := h; rfl) | (obtain ⟨_, rfl, _⟩ := h; rfl) | (obtain ⟨_, _, rfl, _⟩ := h; rfl) | (obtain ⟨_, _, _, rfl, _⟩ := h; rfl) | (obtain ⟨_, _, _, _, rfl, _⟩ := h; rfl) | (obtain ⟨_, _, _, _, _, rfl, _⟩ := h; rfl) | (obtain ⟨_, _, _, _, _, _, rfl, _⟩ := h; rfl) | (obtain ⟨_, _, _, _, _, _, _, rfl, _⟩ := h; rfl) | (obtain ⟨_, _, rfl | rfl | rfl | rfl, _⟩ := h <;> rfl)) (b__law_key B (F__law_size := F__law_size) _) p__law_key
  have F__law_within : FD PR w K mg base JP0 45 "_law_within" P__law_within R__law_within := FD.of Fn__law_within sc__law_within bn__law_within gl__law_within (fun ds R E h => by first | (obtain ⟨rfl, _⟩ := h; rfl) | (obtain ⟨_, rfl, _⟩ := h; rfl) | (obtain ⟨_, _, rfl, _⟩ := h; rfl) | (obtain ⟨_, _, _, rfl, _⟩ := h; rfl) | (obtain ⟨_, _, _, _, rfl, _⟩ := h; rfl) | (obtain ⟨_, _, _, _, _, rfl, _⟩ := h; rfl) | (obtain ⟨_, _, _, _, _, _, rfl, _⟩ := h; rfl) | (obtain ⟨_, _, _, _, _, _, _, rfl, _⟩ := h; rfl) | (obtain ⟨_, _, rfl | rfl | rfl | rfl, _⟩ := h <;> rfl)) (b__law_within B (F__law_key := F__law_key) _) p__law_within
  have F__law_told : FD PR w K mg base JP0 46 "_law_told" P__law_told R__law_told := FD.of Fn__law_told sc__law_told bn__law_told gl__law_told (fun ds R E h => by first | (obtain ⟨rfl, _⟩ := h; rfl) | (obtain ⟨_, rfl, _⟩ := h; rfl) | (obtain ⟨_, _, rfl, _⟩ := h; rfl) | (obtain ⟨_, _, _, rfl, _⟩ := h; rfl) | (obtain ⟨_, _, _, _, rfl, _⟩ := h; rfl) | (obtain ⟨_, _, _, _, _, rfl, _⟩ := h; rfl) | (obtain ⟨_, _, _, _, _, _, rfl, _⟩ := h; rfl) | (obtain ⟨_, _, _, _, _, _, _, rfl, _⟩ := h; rfl) | (obtain ⟨_, _, rfl | rfl | rfl | rfl, _⟩ := h <;> rfl)) (b__law_told B (F__law_within := F__law_within) _) p__law_told
  have F__law_lore : FD PR w K mg base JP0 47 "_law_lore" P__law_lore R__law_lore := FD.of Fn__law_lore sc__law_lore bn__law_lore gl__law_lore (fun ds R E h => by first | (obtain ⟨rfl, _⟩ := h; rfl) | (obtain ⟨_, rfl, _⟩ := h; rfl) | (obtain ⟨_, _, rfl, _⟩ := h; rfl) | (obtain ⟨_, _, _, rfl, _⟩ := h; rfl) | (obtain ⟨_, _, _, _, rfl, _⟩ := h; rfl) | (obtain ⟨_, _, _, _, _, rfl, _⟩ := h; rfl) | (obtain ⟨_, _, _, _, _, _, rfl, _⟩ := h; rfl) | (obtain ⟨_, _, _, _, _, _, _, rfl, _⟩ := h; rfl) | (obtain ⟨_, _, rfl | rfl | rfl | rfl, _⟩ := h <;> rfl)) (b__law_lore B (F__law_lines := F__law_lines) (F__law_signs := F__law_signs) (F__law_told := F__law_told) _) p__law_lore
  have F_is_pair : FD PR w K mg base JP0 1 "is_pair" P_is_pair R_is_pair := FD.of Fn_is_pair sc_is_pair bn_is_pair gl_is_pair (fun ds R E h => by first | (obtain ⟨rfl, _⟩ := h; rfl) | (obtain ⟨_, rfl, _⟩ := h; rfl) | (obtain ⟨_, _, rfl, _⟩ := h; rfl) | (obtain ⟨_, _, _, rfl, _⟩ := h; rfl) | (obtain ⟨_, _, _, _, rfl, _⟩ := h; rfl) | (obtain ⟨_, _, _, _, _, rfl, _⟩ := h; rfl) | (obtain ⟨_, _, _, _, _, _, rfl, _⟩ := h; rfl) | (obtain ⟨_, _, _, _, _, _, _, rfl, _⟩ := h; rfl) | (obtain ⟨_, _, rfl | rfl | rfl | rfl, _⟩ := h <;> rfl)) (b_is_pair B  _) p_is_pair
  have F_is_sign : FD PR w K mg base JP0 1 "is_sign" P_is_sign R_is_sign := FD.of Fn_is_sign sc_is_sign bn_is_sign gl_is_sign (fun ds R E h => by first | (obtain ⟨rfl, _⟩ := h; rfl) | (obtain ⟨_, rfl, _⟩ := h; rfl) | (obtain ⟨_, _, rfl, _⟩ := h; rfl) | (obtain ⟨_, _, _, rfl, _⟩ := h; rfl) | (obtain ⟨_, _, _, _, rfl, _⟩ := h; rfl) | (obtain ⟨_, _, _, _, _, rfl, _⟩ := h; rfl) | (obtain ⟨_, _, _, _, _, _, rfl, _⟩ := h; rfl) | (obtain ⟨_, _, _, _, _, _, _, rfl, _⟩ := h; rfl) | (obtain ⟨_, _, rfl | rfl | rfl | rfl, _⟩ := h <;> rfl)) (b_is_sign B (g_LETTERS := g_LETTERS) (g_MOST_LETTERS := g_MOST_LETTERS) _) p_is_sign
  have F_is_integer : FD PR w K mg base JP0 1 "is_integer" P_is_integer R_is_integer := FD.of Fn_is_integer sc_is_integer bn_is_integer gl_is_integer (fun ds R E h => by first | (obtain ⟨rfl, _⟩ := h; rfl) | (obtain ⟨_, rfl, _⟩ := h; rfl) | (obtain ⟨_, _, rfl, _⟩ := h; rfl) | (obtain ⟨_, _, _, rfl, _⟩ := h; rfl) | (obtain ⟨_, _, _, _, rfl, _⟩ := h; rfl) | (obtain ⟨_, _, _, _, _, rfl, _⟩ := h; rfl) | (obtain ⟨_, _, _, _, _, _, rfl, _⟩ := h; rfl) | (obtain ⟨_, _, _, _, _, _, _, rfl, _⟩ := h; rfl) | (obtain ⟨_, _, rfl | rfl | rfl | rfl, _⟩ := h <;> rfl)) (b_is_integer B  _) p_is_integer
  have F_is_within : FD PR w K mg base JP0 2 "is_within" P_is_within R_is_within := FD.of Fn_is_within sc_is_within bn_is_within gl_is_within (fun ds R E h => by first | (obtain ⟨rfl, _⟩ := h; rfl) | (obtain ⟨_, rfl, _⟩ := h; rfl) | (obtain ⟨_, _, rfl, _⟩ := h; rfl) | (obtain ⟨_, _, _, rfl, _⟩ := h; rfl) | (obtain ⟨_, _, _, _, rfl, _⟩ := h; rfl) | (obtain ⟨_, _, _, _, _, rfl, _⟩ := h; rfl) | (obtain ⟨_, _, _, _, _, _, rfl, _⟩ := h; rfl) | (obtain ⟨_, _, _, _, _, _, _, rfl, _⟩ := h; rfl) | (obtain ⟨_, _, rfl | rfl | rfl | rfl, _⟩ := h <;> rfl)) (b_is_within B (F_is_integer := F_is_integer) _) p_is_within
  have F_are_signs : FD PR w K mg base JP0 3 "are_signs" P_are_signs R_are_signs := FD.of Fn_are_signs sc_are_signs bn_are_signs gl_are_signs (fun ds R E h => by first | (obtain ⟨rfl, _⟩ := h; rfl) | (obtain ⟨_, rfl, _⟩ := h; rfl) | (obtain ⟨_, _, rfl, _⟩ := h; rfl) | (obtain ⟨_, _, _, rfl, _⟩ := h; rfl) | (obtain ⟨_, _, _, _, rfl, _⟩ := h; rfl) | (obtain ⟨_, _, _, _, _, rfl, _⟩ := h; rfl) | (obtain ⟨_, _, _, _, _, _, rfl, _⟩ := h; rfl) | (obtain ⟨_, _, _, _, _, _, _, rfl, _⟩ := h; rfl) | (obtain ⟨_, _, rfl | rfl | rfl | rfl, _⟩ := h <;> rfl)) (b_are_signs B (F_is_pair := F_is_pair) (F_is_sign := F_is_sign) (F_is_within := F_is_within) (g_MOST_PLACES := g_MOST_PLACES) (g_MOST_SIGNS := g_MOST_SIGNS) _) p_are_signs
  have F_is_term_of : FD PR w K mg base JP0 1 "is_term_of" P_is_term_of R_is_term_of := FD.of Fn_is_term_of sc_is_term_of bn_is_term_of gl_is_term_of (fun ds R E h => by first | (obtain ⟨rfl, _⟩ := h; rfl) | (obtain ⟨_, rfl, _⟩ := h; rfl) | (obtain ⟨_, _, rfl, _⟩ := h; rfl) | (obtain ⟨_, _, _, rfl, _⟩ := h; rfl) | (obtain ⟨_, _, _, _, rfl, _⟩ := h; rfl) | (obtain ⟨_, _, _, _, _, rfl, _⟩ := h; rfl) | (obtain ⟨_, _, _, _, _, _, rfl, _⟩ := h; rfl) | (obtain ⟨_, _, _, _, _, _, _, rfl, _⟩ := h; rfl) | (obtain ⟨_, _, rfl | rfl | rfl | rfl, _⟩ := h <;> rfl)) (b_is_term_of B  _) p_is_term_of
  have F2_is_term_of : FD PR w K mg base JP0 1 "is_term_of" P_is_term_of R_is_term_of2 := FD.of Fn_is_term_of sc_is_term_of bn_is_term_of gl_is_term_of (fun ds R E h => by first | (obtain ⟨rfl, _⟩ := h; rfl) | (obtain ⟨_, rfl, _⟩ := h; rfl) | (obtain ⟨_, _, rfl, _⟩ := h; rfl) | (obtain ⟨_, _, _, rfl, _⟩ := h; rfl) | (obtain ⟨_, _, _, _, rfl, _⟩ := h; rfl) | (obtain ⟨_, _, _, _, _, rfl, _⟩ := h; rfl) | (obtain ⟨_, _, _, _, _, _, rfl, _⟩ := h; rfl) | (obtain ⟨_, _, _, _, _, _, _, rfl, _⟩ := h; rfl) | (obtain ⟨_, _, rfl | rfl | rfl | rfl, _⟩ := h <;> rfl)) (b_is_term_of B  _) p_is_term_of2
  have F_is_line_of : FD PR w K mg base JP0 2 "is_line_of" P_is_line_of R_is_line_of := FD.of Fn_is_line_of sc_is_line_of bn_is_line_of gl_is_line_of (fun ds R E h => by first | (obtain ⟨rfl, _⟩ := h; rfl) | (obtain ⟨_, rfl, _⟩ := h; rfl) | (obtain ⟨_, _, rfl, _⟩ := h; rfl) | (obtain ⟨_, _, _, rfl, _⟩ := h; rfl) | (obtain ⟨_, _, _, _, rfl, _⟩ := h; rfl) | (obtain ⟨_, _, _, _, _, rfl, _⟩ := h; rfl) | (obtain ⟨_, _, _, _, _, _, rfl, _⟩ := h; rfl) | (obtain ⟨_, _, _, _, _, _, _, rfl, _⟩ := h; rfl) | (obtain ⟨_, _, rfl | rfl | rfl | rfl, _⟩ := h <;> rfl)) (b_is_line_of B (F_is_pair := F_is_pair) (F_is_term_of := F_is_term_of) _) p_is_line_of
  have F_sides_of : FD PR w K mg base JP0 1 "sides_of" P_sides_of R_sides_of := FD.of Fn_sides_of sc_sides_of bn_sides_of gl_sides_of (fun ds R E h => by first | (obtain ⟨rfl, _⟩ := h; rfl) | (obtain ⟨_, rfl, _⟩ := h; rfl) | (obtain ⟨_, _, rfl, _⟩ := h; rfl) | (obtain ⟨_, _, _, rfl, _⟩ := h; rfl) | (obtain ⟨_, _, _, _, rfl, _⟩ := h; rfl) | (obtain ⟨_, _, _, _, _, rfl, _⟩ := h; rfl) | (obtain ⟨_, _, _, _, _, _, rfl, _⟩ := h; rfl) | (obtain ⟨_, _, _, _, _, _, _, rfl, _⟩ := h; rfl) | (obtain ⟨_, _, rfl | rfl | rfl | rfl, _⟩ := h <;> rfl)) (b_sides_of B  _) p_sides_of
  have F_text_of : FD PR w K mg base JP0 1 "text_of" P_text_of R_text_of := FD.of Fn_text_of sc_text_of bn_text_of gl_text_of (fun ds R E h => by first | (obtain ⟨rfl, _⟩ := h; rfl) | (obtain ⟨_, rfl, _⟩ := h; rfl) | (obtain ⟨_, _, rfl, _⟩ := h; rfl) | (obtain ⟨_, _, _, rfl, _⟩ := h; rfl) | (obtain ⟨_, _, _, _, rfl, _⟩ := h; rfl) | (obtain ⟨_, _, _, _, _, rfl, _⟩ := h; rfl) | (obtain ⟨_, _, _, _, _, _, rfl, _⟩ := h; rfl) | (obtain ⟨_, _, _, _, _, _, _, rfl, _⟩ := h; rfl) | (obtain ⟨_, _, rfl | rfl | rfl | rfl, _⟩ := h <;> rfl)) (b_text_of B  _) p_text_of
  have F_size_of : FD PR w K mg base JP0 1 "size_of" P_size_of R_size_of := FD.of Fn_size_of sc_size_of bn_size_of gl_size_of (fun ds R E h => by first | (obtain ⟨rfl, _⟩ := h; rfl) | (obtain ⟨_, rfl, _⟩ := h; rfl) | (obtain ⟨_, _, rfl, _⟩ := h; rfl) | (obtain ⟨_, _, _, rfl, _⟩ := h; rfl) | (obtain ⟨_, _, _, _, rfl, _⟩ := h; rfl) | (obtain ⟨_, _, _, _, _, rfl, _⟩ := h; rfl) | (obtain ⟨_, _, _, _, _, _, rfl, _⟩ := h; rfl) | (obtain ⟨_, _, _, _, _, _, _, rfl, _⟩ := h; rfl) | (obtain ⟨_, _, rfl | rfl | rfl | rfl, _⟩ := h <;> rfl)) (b_size_of B  _) p_size_of
  have F_order_of : FD PR w K mg base JP0 2 "order_of" P_order_of R_order_of := FD.of Fn_order_of sc_order_of bn_order_of gl_order_of (fun ds R E h => by first | (obtain ⟨rfl, _⟩ := h; rfl) | (obtain ⟨_, rfl, _⟩ := h; rfl) | (obtain ⟨_, _, rfl, _⟩ := h; rfl) | (obtain ⟨_, _, _, rfl, _⟩ := h; rfl) | (obtain ⟨_, _, _, _, rfl, _⟩ := h; rfl) | (obtain ⟨_, _, _, _, _, rfl, _⟩ := h; rfl) | (obtain ⟨_, _, _, _, _, _, rfl, _⟩ := h; rfl) | (obtain ⟨_, _, _, _, _, _, _, rfl, _⟩ := h; rfl) | (obtain ⟨_, _, rfl | rfl | rfl | rfl, _⟩ := h <;> rfl)) (b_order_of B (F_size_of := F_size_of) _) p_order_of
  have F_ascending : FD PR w K mg base JP0 5 "ascending" P_ascending R_ascending := FD.of Fn_ascending sc_ascending bn_ascending gl_ascending (fun ds R E h => by first | (obtain ⟨rfl, _⟩ := h; rfl) | (obtain ⟨_, rfl, _⟩ := h; rfl) | (obtain ⟨_, _, rfl, _⟩ := h; rfl) | (obtain ⟨_, _, _, rfl, _⟩ := h; rfl) | (obtain ⟨_, _, _, _, rfl, _⟩ := h; rfl) | (obtain ⟨_, _, _, _, _, rfl, _⟩ := h; rfl) | (obtain ⟨_, _, _, _, _, _, rfl, _⟩ := h; rfl) | (obtain ⟨_, _, _, _, _, _, _, rfl, _⟩ := h; rfl) | (obtain ⟨_, _, rfl | rfl | rfl | rfl, _⟩ := h <;> rfl)) (b_ascending B (F_order_of := F_order_of) _) p_ascending
  have F_within_of : FD PR w K mg base JP0 6 "within_of" P_within_of R_within_of := FD.of Fn_within_of sc_within_of bn_within_of gl_within_of (fun ds R E h => by first | (obtain ⟨rfl, _⟩ := h; rfl) | (obtain ⟨_, rfl, _⟩ := h; rfl) | (obtain ⟨_, _, rfl, _⟩ := h; rfl) | (obtain ⟨_, _, _, rfl, _⟩ := h; rfl) | (obtain ⟨_, _, _, _, rfl, _⟩ := h; rfl) | (obtain ⟨_, _, _, _, _, rfl, _⟩ := h; rfl) | (obtain ⟨_, _, _, _, _, _, rfl, _⟩ := h; rfl) | (obtain ⟨_, _, _, _, _, _, _, rfl, _⟩ := h; rfl) | (obtain ⟨_, _, rfl | rfl | rfl | rfl, _⟩ := h <;> rfl)) (b_within_of B (F_ascending := F_ascending) (F_text_of := F_text_of) _) p_within_of
  have M_keep_Lore : FM PR w K mg base JP0 1 "Lore" "keep" P_Lore_keep R_keep := ⟨cl_Lore, _, fd_Lore_keep, fn_O Fn_Lore_keep sc_Lore_keep (fun fs ds R E h => by first | (obtain ⟨_, rfl, _⟩ := h; rfl) | (obtain ⟨_, _, rfl, _⟩ := h; rfl) | (obtain ⟨_, _, _, rfl, _⟩ := h; rfl) | (obtain ⟨_, _, _, _, rfl, _⟩ := h; rfl) | (obtain ⟨_, _, _, _, _, rfl, _⟩ := h; rfl)) (b_Lore_keep (C := "Lore") B (cC := cl_Lore) (nA_kept_hall := na_Lore_kept_hall) (nA_kept_places := na_Lore_kept_places) (nA_lines := na_Lore_lines) (nA_signs := na_Lore_signs) _) (fun a => p_keep a "Lore"), bn_Lore_keep, He.meth_ok (c.fact 75 (f := .meth "Lore" "keep") rfl)⟩
  have C_Lore : FC PR w K mg base JP0 7 "Lore" P_Lore_u__init_u_ R_Lore_init := ⟨⟨_, fd_Lore_u__init_u_, fn_O Fn_Lore_u__init_u_ sc_Lore_u__init_u_ (fun fs ds R E h => by first | (obtain ⟨_, rfl, _⟩ := h; rfl) | (obtain ⟨_, _, rfl, _⟩ := h; rfl) | (obtain ⟨_, _, _, rfl, _⟩ := h; rfl) | (obtain ⟨_, _, _, _, rfl, _⟩ := h; rfl) | (obtain ⟨_, _, _, _, _, rfl, _⟩ := h; rfl)) (b_Lore_u__init_u_ (C := "Lore") B (FX_BadLore := FX_BadLore) (F_are_signs := F_are_signs) (F_is_line_of := F_is_line_of) (F_sides_of := F_sides_of) (F_within_of := F_within_of) (M_keep := M_keep_Lore) (g_MOST_LINES := g_MOST_LINES) (g_MOST_TERMS := g_MOST_TERMS) _) (fun a => p_Lore_init a "Lore"), bn_Lore_u__init_u_, He.mkr_ok (c.fact 70 (f := .mkr "Lore") rfl)⟩, g_Lore⟩
  have F__law_made : FD PR w K mg base JP0 9 "_law_made" P__law_made R__law_made := FD.of Fn__law_made sc__law_made bn__law_made gl__law_made (fun ds R E h => by first | (obtain ⟨rfl, _⟩ := h; rfl) | (obtain ⟨_, rfl, _⟩ := h; rfl) | (obtain ⟨_, _, rfl, _⟩ := h; rfl) | (obtain ⟨_, _, _, rfl, _⟩ := h; rfl) | (obtain ⟨_, _, _, _, rfl, _⟩ := h; rfl) | (obtain ⟨_, _, _, _, _, rfl, _⟩ := h; rfl) | (obtain ⟨_, _, _, _, _, _, rfl, _⟩ := h; rfl) | (obtain ⟨_, _, _, _, _, _, _, rfl, _⟩ := h; rfl) | (obtain ⟨_, _, rfl | rfl | rfl | rfl, _⟩ := h <;> rfl)) (b__law_made B (C_Lore := C_Lore) _) p__law_made
  have F__law_deep : FD PR w K mg base JP0 1 "_law_deep" P__law_deep R__law_deep := FD.of Fn__law_deep sc__law_deep bn__law_deep gl__law_deep (fun ds R E h => by first | (obtain ⟨rfl, _⟩ := h; rfl) | (obtain ⟨_, rfl, _⟩ := h; rfl) | (obtain ⟨_, _, rfl, _⟩ := h; rfl) | (obtain ⟨_, _, _, rfl, _⟩ := h; rfl) | (obtain ⟨_, _, _, _, rfl, _⟩ := h; rfl) | (obtain ⟨_, _, _, _, _, rfl, _⟩ := h; rfl) | (obtain ⟨_, _, _, _, _, _, rfl, _⟩ := h; rfl) | (obtain ⟨_, _, _, _, _, _, _, rfl, _⟩ := h; rfl) | (obtain ⟨_, _, rfl | rfl | rfl | rfl, _⟩ := h <;> rfl)) (b__law_deep B  _) p__law_deep
  have F__law_bent : FD PR w K mg base JP0 10 "_law_bent" P__law_bent (R__law_bent 8) := by
    have key : ∀ n, FD PR w K mg base JP0 (2 + n) "_law_bent" P__law_bent (R__law_bent n) := fun n => by
      induction n with
      | zero => exact .none Fn__law_bent bn__law_bent gl__law_bent (fun ds R E h => by obtain ⟨t, _, _, h, _⟩ := h; cases t; rw [Tm.h] at h; omega)
      | succ n ih => exact FD.of (k := 2 + n) Fn__law_bent sc__law_bent bn__law_bent gl__law_bent (fun ds R E h => by first | (obtain ⟨rfl, _⟩ := h; rfl) | (obtain ⟨_, rfl, _⟩ := h; rfl) | (obtain ⟨_, _, rfl, _⟩ := h; rfl) | (obtain ⟨_, _, _, rfl, _⟩ := h; rfl) | (obtain ⟨_, _, _, _, rfl, _⟩ := h; rfl) | (obtain ⟨_, _, _, _, _, rfl, _⟩ := h; rfl) | (obtain ⟨_, _, _, _, _, _, rfl, _⟩ := h; rfl) | (obtain ⟨_, _, _, _, _, _, _, rfl, _⟩ := h; rfl) | (obtain ⟨_, _, rfl | rfl | rfl | rfl, _⟩ := h <;> rfl)) (b__law_bent (k := 2 + n) (by omega) B (F__law_deep := F__law_deep) (F__law_draw := F__law_draw) (F__law_bent := ih) _) (p__law_bent n)
    exact key 8
  have F__law_is_right : FD PR w K mg base JP0 13 "_law_is_right" P__law_is_right (R__law_is_right 12) := by
    have key : ∀ n, FD PR w K mg base JP0 (1 + n) "_law_is_right" P__law_is_right (R__law_is_right n) := fun n => by
      induction n with
      | zero => exact .none Fn__law_is_right bn__law_is_right gl__law_is_right (fun ds R E h => by obtain ⟨_, _, _, _, _, _, h, _⟩ := h; omega)
      | succ n ih => exact FD.of (k := 1 + n) Fn__law_is_right sc__law_is_right bn__law_is_right gl__law_is_right (fun ds R E h => by first | (obtain ⟨rfl, _⟩ := h; rfl) | (obtain ⟨_, rfl, _⟩ := h; rfl) | (obtain ⟨_, _, rfl, _⟩ := h; rfl) | (obtain ⟨_, _, _, rfl, _⟩ := h; rfl) | (obtain ⟨_, _, _, _, rfl, _⟩ := h; rfl) | (obtain ⟨_, _, _, _, _, rfl, _⟩ := h; rfl) | (obtain ⟨_, _, _, _, _, _, rfl, _⟩ := h; rfl) | (obtain ⟨_, _, _, _, _, _, _, rfl, _⟩ := h; rfl) | (obtain ⟨_, _, rfl | rfl | rfl | rfl, _⟩ := h <;> rfl)) (b__law_is_right (k := 1 + n) (by omega) B  (F__law_is_right := ih) _) (p__law_is_right n)
    exact key 12
  have F_is_term_there : FD PR w K mg base JP0 2 "is_term_there" P_is_term_there R_is_term_there := FD.of Fn_is_term_there sc_is_term_there bn_is_term_there gl_is_term_there (fun ds R E h => by first | (obtain ⟨rfl, _⟩ := h; rfl) | (obtain ⟨_, rfl, _⟩ := h; rfl) | (obtain ⟨_, _, rfl, _⟩ := h; rfl) | (obtain ⟨_, _, _, rfl, _⟩ := h; rfl) | (obtain ⟨_, _, _, _, rfl, _⟩ := h; rfl) | (obtain ⟨_, _, _, _, _, rfl, _⟩ := h; rfl) | (obtain ⟨_, _, _, _, _, _, rfl, _⟩ := h; rfl) | (obtain ⟨_, _, _, _, _, _, _, rfl, _⟩ := h; rfl) | (obtain ⟨_, _, rfl | rfl | rfl | rfl, _⟩ := h <;> rfl)) (b_is_term_there B (F_is_term_of := F2_is_term_of) (fA_kept_places := fA_kept_places) _) p_is_term_there
  have F_is_term : FD PR w K mg base JP0 3 "is_term" P_is_term R_is_term := FD.of Fn_is_term sc_is_term bn_is_term gl_is_term (fun ds R E h => by first | (obtain ⟨rfl, _⟩ := h; rfl) | (obtain ⟨_, rfl, _⟩ := h; rfl) | (obtain ⟨_, _, rfl, _⟩ := h; rfl) | (obtain ⟨_, _, _, rfl, _⟩ := h; rfl) | (obtain ⟨_, _, _, _, rfl, _⟩ := h; rfl) | (obtain ⟨_, _, _, _, _, rfl, _⟩ := h; rfl) | (obtain ⟨_, _, _, _, _, _, rfl, _⟩ := h; rfl) | (obtain ⟨_, _, _, _, _, _, _, rfl, _⟩ := h; rfl) | (obtain ⟨_, _, rfl | rfl | rfl | rfl, _⟩ := h <;> rfl)) (b_is_term B (F_is_term_there := F_is_term_there) _) p_is_term
  have F__law_flag : FD PR w K mg base JP0 1 "_law_flag" P__law_flag R__law_flag := FD.of Fn__law_flag sc__law_flag bn__law_flag gl__law_flag (fun ds R E h => by first | (obtain ⟨rfl, _⟩ := h; rfl) | (obtain ⟨_, rfl, _⟩ := h; rfl) | (obtain ⟨_, _, rfl, _⟩ := h; rfl) | (obtain ⟨_, _, _, rfl, _⟩ := h; rfl) | (obtain ⟨_, _, _, _, rfl, _⟩ := h; rfl) | (obtain ⟨_, _, _, _, _, rfl, _⟩ := h; rfl) | (obtain ⟨_, _, _, _, _, _, rfl, _⟩ := h; rfl) | (obtain ⟨_, _, _, _, _, _, _, rfl, _⟩ := h; rfl) | (obtain ⟨_, _, rfl | rfl | rfl | rfl, _⟩ := h <;> rfl)) (b__law_flag B  _) p__law_flag
  have F_check_term : FD PR w K mg base JP0 3 "check_term" P_check_term R_check_term := FD.of Fn_check_term sc_check_term bn_check_term gl_check_term (fun ds R E h => by first | (obtain ⟨rfl, _⟩ := h; rfl) | (obtain ⟨_, rfl, _⟩ := h; rfl) | (obtain ⟨_, _, rfl, _⟩ := h; rfl) | (obtain ⟨_, _, _, rfl, _⟩ := h; rfl) | (obtain ⟨_, _, _, _, rfl, _⟩ := h; rfl) | (obtain ⟨_, _, _, _, _, rfl, _⟩ := h; rfl) | (obtain ⟨_, _, _, _, _, _, rfl, _⟩ := h; rfl) | (obtain ⟨_, _, _, _, _, _, _, rfl, _⟩ := h; rfl) | (obtain ⟨_, _, rfl | rfl | rfl | rfl, _⟩ := h <;> rfl)) (b_check_term B (FX_NoTerm := FX_NoTerm) (F_is_term_there := F_is_term_there) _) p_check_term
  have F_size : FD PR w K mg base JP0 4 "size" P_size R_size := FD.of Fn_size sc_size bn_size gl_size (fun ds R E h => by first | (obtain ⟨rfl, _⟩ := h; rfl) | (obtain ⟨_, rfl, _⟩ := h; rfl) | (obtain ⟨_, _, rfl, _⟩ := h; rfl) | (obtain ⟨_, _, _, rfl, _⟩ := h; rfl) | (obtain ⟨_, _, _, _, rfl, _⟩ := h; rfl) | (obtain ⟨_, _, _, _, _, rfl, _⟩ := h; rfl) | (obtain ⟨_, _, _, _, _, _, rfl, _⟩ := h; rfl) | (obtain ⟨_, _, _, _, _, _, _, rfl, _⟩ := h; rfl) | (obtain ⟨_, _, rfl | rfl | rfl | rfl, _⟩ := h <;> rfl)) (b_size B (F_check_term := F_check_term) (F_size_of := F_size_of) _) p_size
  have F__law_size_told : FD PR w K mg base JP0 5 "_law_size_told" P__law_size_told R__law_size_told := FD.of Fn__law_size_told sc__law_size_told bn__law_size_told gl__law_size_told (fun ds R E h => by first | (obtain ⟨rfl, _⟩ := h; rfl) | (obtain ⟨_, rfl, _⟩ := h; rfl) | (obtain ⟨_, _, rfl, _⟩ := h; rfl) | (obtain ⟨_, _, _, rfl, _⟩ := h; rfl) | (obtain ⟨_, _, _, _, rfl, _⟩ := h; rfl) | (obtain ⟨_, _, _, _, _, rfl, _⟩ := h; rfl) | (obtain ⟨_, _, _, _, _, _, rfl, _⟩ := h; rfl) | (obtain ⟨_, _, _, _, _, _, _, rfl, _⟩ := h; rfl) | (obtain ⟨_, _, rfl | rfl | rfl | rfl, _⟩ := h <;> rfl)) (b__law_size_told B (F_size := F_size) (H_NoTerm := H_NoTerm) (g_NoTerm := g_NoTerm) _) p__law_size_told
  have F__law_is : FD PR w K mg base JP0 1 "_law_is" P__law_is R__law_is := FD.of Fn__law_is sc__law_is bn__law_is gl__law_is (fun ds R E h => by first | (obtain ⟨rfl, _⟩ := h; rfl) | (obtain ⟨_, rfl, _⟩ := h; rfl) | (obtain ⟨_, _, rfl, _⟩ := h; rfl) | (obtain ⟨_, _, _, rfl, _⟩ := h; rfl) | (obtain ⟨_, _, _, _, rfl, _⟩ := h; rfl) | (obtain ⟨_, _, _, _, _, rfl, _⟩ := h; rfl) | (obtain ⟨_, _, _, _, _, _, rfl, _⟩ := h; rfl) | (obtain ⟨_, _, _, _, _, _, _, rfl, _⟩ := h; rfl) | (obtain ⟨_, _, rfl | rfl | rfl | rfl, _⟩ := h <;> rfl)) (b__law_is B  _) p__law_is
  have F_told_of : FD PR w K mg base JP0 7 "told_of" P_told_of R_told_of := FD.of Fn_told_of sc_told_of bn_told_of gl_told_of (fun ds R E h => by first | (obtain ⟨rfl, _⟩ := h; rfl) | (obtain ⟨_, rfl, _⟩ := h; rfl) | (obtain ⟨_, _, rfl, _⟩ := h; rfl) | (obtain ⟨_, _, _, rfl, _⟩ := h; rfl) | (obtain ⟨_, _, _, _, rfl, _⟩ := h; rfl) | (obtain ⟨_, _, _, _, _, rfl, _⟩ := h; rfl) | (obtain ⟨_, _, _, _, _, _, rfl, _⟩ := h; rfl) | (obtain ⟨_, _, _, _, _, _, _, rfl, _⟩ := h; rfl) | (obtain ⟨_, _, rfl | rfl | rfl | rfl, _⟩ := h <;> rfl)) (b_told_of B (F_sides_of := F_sides_of) (F_within_of := F_within_of) (fA_lines := fA_lines) _) p_told_of
  have F_told_terms : FD PR w K mg base JP0 8 "told_terms" P_told_terms R_told_terms := FD.of Fn_told_terms sc_told_terms bn_told_terms gl_told_terms (fun ds R E h => by first | (obtain ⟨rfl, _⟩ := h; rfl) | (obtain ⟨_, rfl, _⟩ := h; rfl) | (obtain ⟨_, _, rfl, _⟩ := h; rfl) | (obtain ⟨_, _, _, rfl, _⟩ := h; rfl) | (obtain ⟨_, _, _, _, rfl, _⟩ := h; rfl) | (obtain ⟨_, _, _, _, _, rfl, _⟩ := h; rfl) | (obtain ⟨_, _, _, _, _, _, rfl, _⟩ := h; rfl) | (obtain ⟨_, _, _, _, _, _, _, rfl, _⟩ := h; rfl) | (obtain ⟨_, _, rfl | rfl | rfl | rfl, _⟩ := h <;> rfl)) (b_told_terms B (F_told_of := F_told_of) _) p_told_terms
  exact FnOk.to0 (fn_D Fn_law sc_law (fun ds R E h => by first | (obtain ⟨rfl, _⟩ := h; rfl) | (obtain ⟨_, rfl, _⟩ := h; rfl) | (obtain ⟨_, _, rfl, _⟩ := h; rfl) | (obtain ⟨_, _, _, rfl, _⟩ := h; rfl) | (obtain ⟨_, _, _, _, rfl, _⟩ := h; rfl) | (obtain ⟨_, _, _, _, _, rfl, _⟩ := h; rfl) | (obtain ⟨_, _, _, _, _, _, rfl, _⟩ := h; rfl) | (obtain ⟨_, _, _, _, _, _, _, rfl, _⟩ := h; rfl) | (obtain ⟨_, _, rfl | rfl | rfl | rfl, _⟩ := h <;> rfl)) (b_law B (F__law_bent := F__law_bent) (F__law_draw := F__law_draw) (F__law_flag := F__law_flag) (F__law_is := F__law_is) (F__law_is_right := F__law_is_right) (F__law_lore := F__law_lore) (F__law_made := F__law_made) (F__law_pool := F__law_pool) (F__law_size := F__law_size) (F__law_size_told := F__law_size_told) (F__law_term := F__law_term) (F__law_told := F__law_told) (F_is_term := F_is_term) (F_told_terms := F_told_terms) _) p_law)
end DL
set_option Elab.async false
set_option linter.all false
set_option maxRecDepth 100000
set_option maxHeartbeats 0
open PySem PySem.W PySem.Calls PyProof.Rows
theorem PySem.Challenge.cw_openbooks_k03_whole_terms_sizes_told_ter_holds : PySem.Challenge.rw_openbooks_k03_whole_terms_sizes_told_ter.Holds := by
  w_on; o_law
  refine HandSHeadRun.head_any (r := OpenLaw.row PySem.Challenge.rw_openbooks_k03_whole_terms_sizes_told_ter) (q := view (OpenLaw.row PySem.Challenge.rw_openbooks_k03_whole_terms_sizes_told_ter).prog [50]) (H := DL.hk) (ob := DL.ob) (M := 6000) (loose := DL.nms) (d := HandSHeadRun.topDef (OpenLaw.row PySem.Challenge.rw_openbooks_k03_whole_terms_sizes_told_ter).prog 50) (kwd := []) DL.ob_eq
    (by kernel_rfl) (fun s => by kernel_rfl) DL.run (by kernel_rfl) (by kernel_rfl) (by kernel_rfl) (by rfl) (by first | assumption | decide +kernel) (by decide +kernel) ⟨rfl, rfl, rfl, rfl, rfl, by decide +kernel⟩ ?hw ?hc
  case hw => w_witness2
  case hc =>
    refine L2.walk_ofE (l := PySem.Challenge.rw_openbooks_k03_whole_terms_sizes_told_ter) (n := 63) (k := 48) (x := "script") (CX := L2.CX0) rfl (by decide) (by kernel_rfl) ⟨rfl, by decide, by decide⟩ ?F (fun _ _ _ _ z => z)
    intro w mg fa h Y G hmg0
    obtain ⟨K, KX, c, ex, xe⟩ := Y
    have hmg : mg ("law" : PySem.Str) = some (.ref fa) := by
      have e : (HandSHeadRun.topDef (OpenLaw.row PySem.Challenge.rw_openbooks_k03_whole_terms_sizes_told_ter).prog 50).name = ("law" : PySem.Str) := by kernel_rfl
      rw [← e]
      exact hmg0
    obtain ⟨fd, hb, hF⟩ := DL.law_facts (w := w) KX G hmg c ex xe
    exact ⟨K, fd, fun vs H Q _ => DL.SpD K DL.JP0 DL.R_law vs H Q (fun _ _ _ => False), KX, hb, fun H a ns hl hO hS => DL.law_start hO hS ⟨ns, rfl, by omega, rfl⟩, hF⟩
