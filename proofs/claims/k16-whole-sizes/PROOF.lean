import PyProof.Rows.All
import Wide.All
import OpenK.AllK
import Wide.FinOn
import HandS.ForMost
import HandS.Zip
import KE.GoesNew
import KE.GoesNewDict
import KE.GoesDict
import KE.KDictKeyed
import HandS.Evl
import KE.KDictDisplayH
import KE.KDictItemsList
import HandS.TupLen
import KE.GoesSet
import PyProof.DictCompW
import HandS.DictComp
import HandS.SetFor
import HandS.SetBool
import HandS.TupMul
import PyProof.ReprRoads
import HandS.IsInst
import HandS.Star
import HandS.Style
import HandS.Flow
import HandS.Wide
import HandS.Deep
import HandS.TupAny
import HandS.TupSets
import PySem.Challenge.RW_stepsbehind_k16_whole_sizes
set_option Elab.async false
set_option linter.all false
set_option maxRecDepth 100000
set_option maxHeartbeats 4000000
namespace KA
open PySem PySem.Spec PyProof.Rows L2

/-- any iterator told as GoesN, as a Turn: what it yields stood before -/
theorem turn_same {P : Program} {w : World} {K : PySem.W.Frag} {tg : Expr} {I : Addr} {own : List Addr} {n : Nat} {tn : Nat → Heap → Prop}
    (G : Hp → Prop) (yl : Nat → Hp → V → Prop) (hI : I ∈ own)
    (hobj : ∀ i h, tn i h → ∀ b ∈ own, ∃ o, h.get? b = some o ∧ ∀ v, o.data ≠ .cell v)
    (hkeep : ∀ i h h', tn i h → (∀ b ∈ own, ∀ o, h.get? b = some o → h'.get? b = some o) → tn i h')
    (step : ∀ (X : Cx) (pins : List (Addr × Obj)) (σ : L2.St) (H : Hp) (s : Shared) (i : Nat), X.prog = P → X.w = w → X.K = K → X.A.handled = none →
      Inv X pins σ H s → tn i s.heap → G H → i ≤ n →
      ∃ (fp wr : List Addr) (Y : Nat → Heap → Value → Heap → Prop) (St : Nat → Heap → Prop), GoesN P w X.A tg I fp wr n Y St ∧ St i s.heap ∧ (∀ b ∈ wr, b ∈ own) ∧
        (∀ h', St (i + 1) h' → tn (i + 1) h') ∧ ∀ v h', i < n → Y i s.heap v h' → ∃ x, RelV x v ∧ yl i H x)
    (hself : ∀ (A : Around) (i : Nat) (s : Shared) (Q : Value → Shared → Prop) (E : Value → Shared → Prop), tn i s.heap → Q (.ref I) s → wpAny (model P w) A (pyIter (.ref I)) Q E s) :
    Turn P w K tg ⟨fun i H => G H ∧ i < n, fun i H x H' => H' = H ∧ yl i H x, fun i H => G H ∧ i = n⟩ own I tn where
  mem := hI
  obj := hobj
  keep := hkeep
  self := hself
  item := by
    intro X hP hw hK hc i pins s σ H E Iv hf st hg
    obtain ⟨hG, hi⟩ := hg
    obtain ⟨fp, wr, Y, St, W, hst, hwr, hnext, hy⟩ := step X pins σ H s i hP hw hK (Iv.ok.hd hc) Iv st hG (Nat.le_of_lt hi)
    refine wpAny_mono (W.goes i s (fun v s2 => ∃ x H', Inv X pins σ H' s2 ∧ RelV x v ∧ (H' = H ∧ yl i H x) ∧ tn (i + 1) s2.heap ∧ ∀ b ∈ own, H' b = none) E hi hst
      fun v h' tk hY st' hk _ => ?_) (fun _ _ q => q) fun _ _ q => q
    obtain ⟨x, rx, q⟩ := hy v h' hi hY
    exact ⟨x, H, Iv.turnedL (t' := tk) (ch := own) (fun b o hb e => hk b o (fun z => hb (hwr b z)) e) hf, rx, ⟨rfl, q⟩, hnext h' st', fun b hb => (hf b hb).1⟩
  done := by
    intro X hP hw hK hc i pins s σ H E Iv hf st hg
    obtain ⟨hG, rfl⟩ := hg
    obtain ⟨fp, wr, Y, St, W, hst, hwr, hnext, hy⟩ := step X pins σ H s i hP hw hK (Iv.ok.hd hc) Iv st hG (Nat.le_refl _)
    refine wpAny_mono (W.stops s (fun s1 => Inv X pins σ H s1) E hst fun h' tk hk _ => ?_) (fun _ _ q => q) fun _ _ q => q
    exact Iv.turnedL (t' := tk) (ch := own) (fun b o hb e => hk b o (fun z => hb (hwr b z)) e) hf

/-- .. what it yields is a new tuple -/
theorem turn_new {P : Program} {w : World} {K : PySem.W.Frag} {tg : Expr} {I : Addr} {own : List Addr} {n : Nat} {tn : Nat → Heap → Prop}
    (G : Hp → Prop) (yl : Nat → Hp → List V → Prop) (hI : I ∈ own)
    (hobj : ∀ i h, tn i h → ∀ b ∈ own, ∃ o, h.get? b = some o ∧ ∀ v, o.data ≠ .cell v)
    (hkeep : ∀ i h h', tn i h → (∀ b ∈ own, ∀ o, h.get? b = some o → h'.get? b = some o) → tn i h')
    (step : ∀ (X : Cx) (pins : List (Addr × Obj)) (σ : L2.St) (H : Hp) (s : Shared) (i : Nat), X.prog = P → X.w = w → X.K = K → X.A.handled = none →
      Inv X pins σ H s → tn i s.heap → G H → i ≤ n →
      ∃ (fp wr : List Addr) (Y : Nat → Heap → Value → Heap → Prop) (St : Nat → Heap → Prop), GoesN P w X.A tg I fp wr n Y St ∧ St i s.heap ∧ (∀ b ∈ wr, b ∈ own) ∧
        (∀ h', St (i + 1) h' → tn (i + 1) h') ∧ ∀ v h', i < n → Y i s.heap v h' →
          ∃ (T : Addr) (its : List Value) (xs : List V), v = .ref T ∧ s.heap.objs.size ≤ T ∧ h'.IsTuple T its.toArray ∧ Vals xs its ∧ xs.length ≤ sizeLine ∧ yl i H xs)
    (hself : ∀ (A : Around) (i : Nat) (s : Shared) (Q : Value → Shared → Prop) (E : Value → Shared → Prop), tn i s.heap → Q (.ref I) s → wpAny (model P w) A (pyIter (.ref I)) Q E s) :
    Turn P w K tg ⟨fun i H => G H ∧ i < n, fun i H x H' => ∃ (T : Addr) (xs : List V), x = .ref T ∧ H T = none ∧ H' = upd H T (.tup xs) ∧ yl i H xs, fun i H => G H ∧ i = n⟩ own I tn where
  mem := hI
  obj := hobj
  keep := hkeep
  self := hself
  item := by
    intro X hP hw hK hc i pins s σ H E Iv hf st hg
    obtain ⟨hG, hi⟩ := hg
    obtain ⟨fp, wr, Y, St, W, hst, hwr, hnext, hy⟩ := step X pins σ H s i hP hw hK (Iv.ok.hd hc) Iv st hG (Nat.le_of_lt hi)
    refine wpAny_mono (W.goes i s (fun v s2 => ∃ x H', Inv X pins σ H' s2 ∧ RelV x v ∧ (∃ (T : Addr) (xs : List V), x = .ref T ∧ H T = none ∧ H' = upd H T (.tup xs) ∧ yl i H xs) ∧ tn (i + 1) s2.heap ∧ ∀ b ∈ own, H' b = none) E hi hst
      fun v h' tk hY st' hk _ => ?_) (fun _ _ q => q) fun _ _ q => q
    obtain ⟨T, its, xs, rfl, hT, hIs, rv, hz, q⟩ := hy v h' hi hY
    have hn : H T = none := Iv.hok.fresh hT
    have new : ObjOk X.prog X.w (upd H T (.tup xs)) h' T (.tup xs) := ⟨hz, its, rv, hIs⟩
    refine ⟨.ref T, upd H T (.tup xs), Iv.turnedNew (t' := tk) (ch := own) (fun b o hb e => hk b o (fun z => hb (hwr b z)) e) hf hT new, rfl, ⟨T, xs, rfl, hn, rfl, q⟩, hnext h' st', fun b hb => ?_⟩
    have hlt : b < s.heap.objs.size := by
      obtain ⟨o, e, _⟩ := hobj i s.heap st b hb
      exact Heap.lt_size e
    rw [upd_ne (Nat.ne_of_lt (Nat.lt_of_lt_of_le hlt hT))]
    exact (hf b hb).1
  done := by
    intro X hP hw hK hc i pins s σ H E Iv hf st hg
    obtain ⟨hG, rfl⟩ := hg
    obtain ⟨fp, wr, Y, St, W, hst, hwr, hnext, hy⟩ := step X pins σ H s i hP hw hK (Iv.ok.hd hc) Iv st hG (Nat.le_refl _)
    refine wpAny_mono (W.stops s (fun s1 => Inv X pins σ H s1) E hst fun h' tk hk _ => ?_) (fun _ _ q => q) fun _ _ q => q
    exact Iv.turnedL (t' := tk) (ch := own) (fun b o hb e => hk b o (fun z => hb (hwr b z)) e) hf

/-! ### enumerate of a tuple -/
def ItEnT (K : PySem.W.Frag) (a : Addr) (xs : List V) : It :=
  ⟨fun i H => SqT K H a xs ∧ i < xs.length,
    fun i H v H' => ∃ (T : Addr) (ys : List V), v = .ref T ∧ H T = none ∧ H' = upd H T (.tup ys) ∧ ∃ x, xs[i]? = some x ∧ ys = [.int (i : Nat), x],
    fun i H => SqT K H a xs ∧ i = xs.length⟩
theorem two_fit : 2 ≤ sizeLine := by decide
theorem turn_enumT {P : Program} {w : World} {K : PySem.W.Frag} {elts : List Expr} {kk : Nat} {tpos : Pos} (a e it : Addr) (xs : List V) :
    Turn P w K (.Tuple elts kk tpos) (ItEnT K a xs) [e, it] e (fun i h => (∃ old, IsEnum h e it (0 + (i : Int)) old) ∧ h.IsTupleIter it a i ∧ e ≠ it) := by
  refine turn_new (n := xs.length) (fun H => SqT K H a xs) (fun i _ ys => ∃ x, xs[i]? = some x ∧ ys = [.int (i : Nat), x]) (by simp) (fun i h st b hb => ?_) (fun i h h' st k => ?_)
    (fun X pins σ H s i hP hw hK hh Iv st hG hi => ?_) (fun A i s Q E st h => let ⟨_, q⟩ := st.1; wpAny_pyIter_enum q h)
  · obtain ⟨⟨old, q⟩, ⟨o, e1, _, d1⟩, _⟩ := st
    rcases List.mem_cons.mp hb with z | z
    · rw [z]; exact ⟨_, q, fun v r => nomatch r⟩
    · rw [List.mem_singleton.mp z]; exact ⟨o, e1, fun v r => by rw [d1] at r; cases r⟩
  · obtain ⟨⟨old, q⟩, h1, hne⟩ := st
    exact ⟨⟨old, k e (by simp) _ q⟩, h1.at fun o r => k it (by simp) o r, hne⟩
  · subst hP hw hK
    obtain ⟨⟨old, q⟩, h1, hne⟩ := st
    obtain ⟨its, rv, p, hz⟩ := Iv.tuple hG
    have hn : its.toArray.size = xs.length := by simp [rv.length]
    obtain ⟨o, ho, hcl, _⟩ := id p
    obtain ⟨o1, ho1, hcl1, _⟩ := id h1
    have ha : a ≠ it := fun z => by
      rw [z, ho1] at ho
      cases ho
      rw [hcl1] at hcl
      exact absurd (Value.type.inj hcl) (by decide)
    have hb : a ≠ e := fun z => by
      rw [z, q] at ho
      cases ho
      exact absurd (Value.type.inj hcl) (by decide)
    have W := GoesN.enumFrom (prog := X.prog) (w := X.w) (A := X.A) (elts := elts) (x1 := kk) (pos := tpos) 0 (Draws.tuple (A := X.A.in1) hh it a ha its.toArray) e hne
      (fun z => by rcases List.mem_cons.mp z with z | z
                   · exact hne z
                   · exact hb (List.mem_singleton.mp z).symm) (List.mem_cons_self ..)
    rw [hn] at W
    refine ⟨_, _, _, _, W, ⟨⟨old, q⟩, h1, p⟩, fun b z => z, fun h' z => ⟨z.1, z.2.1, hne⟩, fun v h' hlt hy => ?_⟩
    obtain ⟨T, t, x, ev, hT, hx, hIs⟩ := hy
    have hx' : its[i]? = some x := by simpa using hx
    obtain ⟨x', hx2⟩ : ∃ x', xs[i]? = some x' := ⟨xs[i], List.getElem?_eq_getElem hlt⟩
    obtain ⟨u, hu, ru⟩ := rv.get hx2
    rw [hx'] at hu
    cases hu
    refine ⟨T, [.int (0 + (i : Int)) t, x], [.int (i : Nat), x'], ev, hT, hIs, .cons ⟨t, ?_⟩ (.cons ru .nil), two_fit, x', hx2, rfl⟩
    rw [Int.zero_add]

theorem meets_enumT (l : Addr) (items : Array Value) :
    Meets (Builtin.«enumerate.__new__» ⟨[.type "enumerate", .ref l], []⟩) (fun _ R s => s.heap.IsTuple l items ∧
      R (.ok (.ret (.ref (s.heap.push { cls := .type "tuple_iterator", data := .fields #[.ref l, .int 0 0] }).objs.size)))
        { s with heap := (s.heap.push { cls := .type "tuple_iterator", data := .fields #[.ref l, .int 0 0] }).push { cls := .type "enumerate", data := .fields #[.none, .bool false, .ref s.heap.objs.size, rawInt 0, .none, .none] } }) :=
  .of_wp fun prog w A R s h => by
    obtain ⟨hp, g, d, tk, os⟩ := s
    obtain ⟨h1, h⟩ := h
    have hsub := sub_enumerate
    have q1 : ∀ {A' : Around} {E : Value → Shared → Prop} {Q : Value → Shared → Prop}, Q (.ref hp.objs.size) ⟨hp.push { cls := .type "tuple_iterator", data := .fields #[.ref l, .int 0 0] }, g, d, tk, os⟩ → wpAny (model prog w) A' (pyIter (.ref l)) Q E ⟨hp, g, d, tk, os⟩ :=
      fun q => (begins_tuple l items).iter prog w _ _ ⟨hp, g, d, tk, os⟩ _ h1 q
    wp_walk using q1
    refine wpAny_stack_any fun st => wpAny_pure ?_
    split
    · rename_i c _ _ _ _ _
      cases (c == Value.type "enumerate")
      · wp_walk using q1
        exact ⟨_, rfl, h⟩
      · wp_walk using q1
        exact ⟨_, rfl, h⟩
    · wp_walk using q1
      exact ⟨_, rfl, h⟩
theorem call_enumT {prog : Program} {w : World} {A : Around} {E : Value → Shared → Prop} {s : Shared} {l : Addr} {items : Array Value} {Q : Value → Shared → Prop} (hL : s.heap.IsTuple l items)
    (h : ∀ h', IsEnum h' (s.heap.objs.size + 1) s.heap.objs.size (0 + ((0 : Nat) : Int)) .none → h'.IsTupleIter s.heap.objs.size l 0 →
      (∀ b o, s.heap.get? b = some o → h'.get? b = some o) → Q (.ref (s.heap.objs.size + 1)) { s with heap := h' }) :
    wpAny (model prog w) A (call (.type "enumerate") [.ref l]) Q E s := by
  refine callType_new F.called_enumerate (by decide) (F.typeCall_enumerate_1 _) (F.newCall_enumerate_1 _) (fun obj => F.args_object_init_2 obj _) F.entry_enumerate_new
    (meets_enumT l items) ⟨hL, ?_⟩
  have hz : (s.heap.push { cls := .type "tuple_iterator", data := .fields #[.ref l, .int 0 0] }).objs.size = s.heap.objs.size + 1 := Heap.size_push ..
  show _ ∧ _
  rw [hz]
  have he := Heap.get?_push_size (s.heap.push { cls := .type "tuple_iterator", data := .fields #[.ref l, .int 0 0] })
    (o := { cls := .type "enumerate", data := .fields #[.none, .bool false, .ref s.heap.objs.size, rawInt 0, .none, .none] }) rfl
  rw [hz] at he
  exact ⟨⟨_, he, rfl⟩, h _ he ⟨_, Heap.get?_push_of_some _ (Heap.get?_push_size _ rfl), rfl, rfl⟩ fun b o x => Heap.get?_push_of_some _ (Heap.get?_push_of_some _ x)⟩

def iEnumT (K : PySem.W.Frag) (ta : TA) : TI := fun σ H R => ta σ H fun vs H1 => ∃ (a : Addr) (xs : List V), vs = [.ref a] ∧ SqT K H1 a xs ∧ R (ItEnT K a xs) H1
theorem pi_enumT {X : Cx} {e : Expr} {ta : TA} {p pos tpos : Pos} {elts : List Expr} {kk : Nat} (hg : Gl X "enumerate") (hm : X.mg "enumerate" = none) (ha : PA X [e] ta) (hs : starEach [e] X.env = [(false, eval e X.env)] := by rfl) :
    PI X (.Tuple elts kk tpos) (.Call (.Name "enumerate" p) [e] [] pos) (iEnumT X.K ta) := by
  refine ⟨fun pins s σ H R I h => ?_⟩
  refine Call_ (ld_blt I hg hm boot_enumerate (PyProof.Rows.callWith_type1 (thn (ha.run pos pins s σ H _ I h) fun us s1 ⟨vs, H1, I1, r1, q1⟩ => ?_) hs rfl))
  obtain ⟨a, xs, ex, hq, q⟩ := q1
  subst ex
  cases r1 with
  | cons r rr =>
    cases rr
    cases r
    obtain ⟨its, rv, p', hz⟩ := I1.tuple hq
    refine call_enumT (items := its.toArray) p' fun h' he hit hk => wpAny_pyIter_enum he ?_
    have I2 : Inv X pins σ H1 { s1 with heap := h' } := I1.kept (t' := s1.toks) hk
    refine ⟨s1.heap.objs.size + 1, [s1.heap.objs.size + 1, s1.heap.objs.size], _, _, H1, rfl, I2, turn_enumT a (s1.heap.objs.size + 1) s1.heap.objs.size xs, ⟨⟨.none, he⟩, hit, Nat.succ_ne_self _⟩, fun b hb => ?_, q⟩
    have hle : s1.heap.objs.size ≤ b := by
      rcases List.mem_cons.mp hb with z | z
      · rw [z]; exact Nat.le_add_right _ _
      · rw [List.mem_singleton.mp z]; exact Nat.le_refl _
    exact I1.fpOk hle (I1.hok.fresh hle)

/-! ### zip of a tuple and a list -/
def ItZM (K : PySem.W.Frag) (a b : Addr) (xs ys : List V) : It :=
  ⟨fun i H => (SqT K H a xs ∧ SqL K H b ys) ∧ i < min xs.length ys.length,
    fun i H v H' => ∃ (T : Addr) (zs : List V), v = .ref T ∧ H T = none ∧ H' = upd H T (.tup zs) ∧ ∃ x y, xs[i]? = some x ∧ ys[i]? = some y ∧ zs = [x, y],
    fun i H => (SqT K H a xs ∧ SqL K H b ys) ∧ i = min xs.length ys.length⟩
theorem turn_zipM {P : Program} {w : World} {K : PySem.W.Frag} {elts : List Expr} {kk : Nat} {tpos : Pos} (a b z TI TO i1 i2 : Addr) (xs ys : List V) (D : ZipSep2 z TI TO i1 i2 [i1, a] [i2, b]) :
    Turn P w K (.Tuple elts kk tpos) (ItZM K a b xs ys) [z, TI, TO, i1, i2] z
      (fun i h => IsZip h z TI TO .none ∧ IsTupOf2 h TI (.ref i1) (.ref i2) ∧ (∃ a1 a2, IsTupOf2 h TO a1 a2) ∧ h.IsTupleIter i1 a i ∧ h.IsListIter i2 b i) := by
  refine turn_new (n := min xs.length ys.length) (fun H => SqT K H a xs ∧ SqL K H b ys) (fun i _ zs => ∃ x y, xs[i]? = some x ∧ ys[i]? = some y ∧ zs = [x, y]) (by simp) (fun i h st c hc => ?_) (fun i h h' st k => ?_)
    (fun X pins σ H s i hP hw hK hh Iv st hG hi => ?_) (fun A i s Q E st h => wpAny_pyIter_zip st.1 h)
  · obtain ⟨hz, hTI, ⟨x, y, hTO⟩, ⟨o1, e1, _, d1⟩, ⟨o2, e2, _, d2⟩⟩ := st
    have e' : c = z ∨ c = TI ∨ c = TO ∨ c = i1 ∨ c = i2 := by simpa using hc
    rcases e' with q | q | q | q | q
    · rw [q]; exact ⟨_, hz, fun v q => nomatch q⟩
    · rw [q]; exact ⟨_, hTI, fun v q => nomatch q⟩
    · rw [q]; exact ⟨_, hTO, fun v q => nomatch q⟩
    · rw [q]; exact ⟨o1, e1, fun v q => by rw [d1] at q; cases q⟩
    · rw [q]; exact ⟨o2, e2, fun v q => by rw [d2] at q; cases q⟩
  · obtain ⟨hz, hTI, ⟨x, y, hTO⟩, h1, h2⟩ := st
    exact ⟨k z (by simp) _ hz, k TI (by simp) _ hTI, ⟨x, y, k TO (by simp) _ hTO⟩, h1.at fun o q => k i1 (by simp) o q, h2.at fun o q => k i2 (by simp) o q⟩
  · subst hP hw hK
    obtain ⟨hz, hTI, hTO, h1, h2⟩ := st
    obtain ⟨its, rv, p, _⟩ := Iv.tuple hG.1
    obtain ⟨its2, rv2, p2, _⟩ := Iv.list hG.2
    obtain ⟨o, ho, hcl, _⟩ := id p
    obtain ⟨o1, ho1, hcl1, _⟩ := id h1
    have ha : a ≠ i1 := fun z => by
      rw [z, ho1] at ho
      cases ho
      rw [hcl1] at hcl
      exact absurd (Value.type.inj hcl) (by decide)
    obtain ⟨o', _, ho', hcl', _⟩ := id p2
    obtain ⟨o2, ho2, hcl2, _⟩ := id h2
    have hb : b ≠ i2 := fun z => by
      rw [z, ho2] at ho'
      cases ho'
      rw [hcl2] at hcl'
      exact absurd (Value.type.inj hcl') (by decide)
    have hn : min its.toArray.size its2.toArray.size = min xs.length ys.length := by simp [rv.length, rv2.length]
    have W := GoesN.zip2 (prog := X.prog) (w := X.w) (A := X.A) (elts := elts) (x1 := kk) (pos := tpos) D (Draws.tuple (A := X.A.in1) hh i1 a ha its.toArray) (Draws.list (A := X.A.in1) hh i2 b hb its2.toArray)
    rw [hn] at W
    refine ⟨_, _, _, _, W, ⟨hz, hTI, hTO, ⟨h1, p⟩, ⟨h2, p2.isList⟩⟩, fun c q => ?_, fun h' q => ⟨q.1, q.2.1, q.2.2.1, q.2.2.2.1.1, q.2.2.2.2.1⟩, fun v h' hlt hy => ?_⟩
    · have e' : c = z ∨ c = TO ∨ c = i1 ∨ c = i2 := by simpa using q
      rcases e' with q | q | q | q <;> (rw [q]; simp)
    · obtain ⟨T, x, y, ev, hT, hx, hy2, hIs⟩ := hy
      have hx' : its[i]? = some x := by simpa using hx
      have hy' : its2[i]? = some y := by simpa using hy2
      obtain ⟨x', hx2⟩ : ∃ x', xs[i]? = some x' := ⟨xs[i]'(by omega), List.getElem?_eq_getElem _⟩
      obtain ⟨y', hy3⟩ : ∃ y', ys[i]? = some y' := ⟨ys[i]'(by omega), List.getElem?_eq_getElem _⟩
      obtain ⟨u, hu, ru⟩ := rv.get hx2
      obtain ⟨u2, hu2, ru2⟩ := rv2.get hy3
      rw [hx'] at hu
      cases hu
      rw [hy'] at hu2
      cases hu2
      exact ⟨T, [x, y], [x', y'], ev, hT, hIs, .cons ru (.cons ru2 .nil), two_fit, x', y', hx2, hy3, rfl⟩
def iZipM (K : PySem.W.Frag) (ta : TA) : TI := fun σ H R => ta σ H fun vs H1 => ∃ (a b : Addr) (xs ys : List V), vs = [.ref a, .ref b] ∧ SqT K H1 a xs ∧ SqL K H1 b ys ∧ R (ItZM K a b xs ys) H1
theorem pi_zipM {X : Cx} {e e2 : Expr} {ta : TA} {p pos tpos : Pos} {elts : List Expr} {kk : Nat} (hg : Gl X "zip") (hm : X.mg "zip" = none) (ha : PA X [e, e2] ta)
    (hs : starEach [e, e2] X.env = (false, eval e X.env) :: starEach [e2] X.env := by rfl) (hpl : (backTo pos (starEach [e2] X.env)).any (·.1) = false := by rfl) :
    PI X (.Tuple elts kk tpos) (.Call (.Name "zip" p) [e, e2] [] pos) (iZipM X.K ta) := by
  refine ⟨fun pins s σ H R I h => ?_⟩
  refine Call_ (ld_blt I hg hm PyProof.Rows.boot_zip (PyProof.Rows.callWith_type1 (thn (ha.run pos pins s σ H _ I h) fun us s1 ⟨vs, H1, I1, r1, q1⟩ => ?_) hs hpl))
  obtain ⟨a, b, xs, ys, ex, hq, hq2, q⟩ := q1
  subst ex
  cases r1 with
  | cons r rr =>
    cases rr with
    | cons r' rr =>
      cases rr
      cases r
      cases r'
      obtain ⟨its, rv, p1, _⟩ := I1.tuple hq
      obtain ⟨its2, rv2, p2, _⟩ := I1.list hq2
      refine zip_begins2 (begins_tuple a its.toArray) (begins_list b its2.toArray) p1 p2.isList fun h' hz hTI hTO h1 h2 hsz hk => wpAny_pyIter_zip hz ?_
      have I2 : Inv X pins σ H1 { s1 with heap := h' } := I1.kept (t' := s1.toks) hk
      have la : a < s1.heap.objs.size := let ⟨_, e, _⟩ := p1; Heap.lt_size e
      have lb : b < s1.heap.objs.size := p2.lt
      have D := zip_sep2 (N := s1.heap.objs.size) (fp1 := [a]) (fp2 := [b]) (fun c hc => by rw [List.mem_singleton.mp hc]; exact la) (fun c hc => by rw [List.mem_singleton.mp hc]; exact lb)
      refine ⟨s1.heap.objs.size + 4, [s1.heap.objs.size + 4, s1.heap.objs.size + 2, s1.heap.objs.size + 3, s1.heap.objs.size, s1.heap.objs.size + 1], _, _, H1, rfl, I2,
        turn_zipM a b _ _ _ _ _ xs ys D, ⟨hz, hTI, ⟨_, _, hTO⟩, ⟨_, h1, rfl, rfl⟩, ⟨_, h2, rfl, rfl⟩⟩, fun c hcm => ?_, q⟩
      have hle : s1.heap.objs.size ≤ c := by
        have e' : c = s1.heap.objs.size + 4 ∨ c = s1.heap.objs.size + 2 ∨ c = s1.heap.objs.size + 3 ∨ c = s1.heap.objs.size ∨ c = s1.heap.objs.size + 1 := by simpa using hcm
        rcases e' with z | z | z | z | z
        · rw [z]; exact Nat.le_add_right _ _
        · rw [z]; exact Nat.le_add_right _ _
        · rw [z]; exact Nat.le_add_right _ _
        · rw [z]; exact Nat.le_refl _
        · rw [z]; exact Nat.le_add_right _ _
      exact I1.fpOk hle (I1.hok.fresh hle)
end KA
namespace KB
open PySem PySem.Spec PyProof.Rows L2

/-! ### data that never changes: what a value is worth in a heap -/
mutual
inductive Im (H : Hp) : V → PyData → Prop
  | non : Im H .non .none
  | bl (b : Bool) : Im H (.bl b) (.bool b)
  | int (i : Int) : Im H (.int i) (.int i)
  | str (x : Str) : Im H (.str x) (.str x)
  | tup {a : Addr} {xs : List V} {ds : List PyData} : H a = some (.tup xs) → ImA H xs ds → Im H (.ref a) (.tuple ds)
inductive ImA (H : Hp) : List V → List PyData → Prop
  | nil : ImA H [] []
  | cons {v : V} {vs : List V} {d : PyData} {ds : List PyData} : Im H v d → ImA H vs ds → ImA H (v :: vs) (d :: ds)
end
/-- the tuples stay -/
def Tx (H H' : Hp) : Prop := ∀ a xs, H a = some (.tup xs) → H' a = some (.tup xs)
theorem Tx.refl (H : Hp) : Tx H H := fun _ _ h => h
theorem Tx.trans {H H1 H2 : Hp} (a : Tx H H1) (b : Tx H1 H2) : Tx H H2 := fun x xs h => b x xs (a x xs h)
theorem Tx.of {H H' : Hp} (e : Evl.Ex H H') : Tx H H' := fun a xs h => e a _ h
/-- an object that is no tuple is written, or a new one laid -/
theorem Tx.upd {H : Hp} {p : Addr} {o : HO} (h : ∀ xs, H p ≠ some (.tup xs)) : Tx H (upd H p o) := fun a xs e => by
  rw [upd_ne (fun z => h xs (by rw [← z]; exact e))]
  exact e
mutual
theorem Im.mono {H H' : Hp} (e : Tx H H') : ∀ (d : PyData) (v : V), Im H v d → Im H' v d
  | .none, _, h => by cases h; exact .non
  | .bool b, _, h => by cases h; exact .bl b
  | .int i, _, h => by cases h; exact .int i
  | .str x, _, h => by cases h; exact .str x
  | .list _, _, h => by cases h
  | .tuple ds, _, h => by
    cases h with
    | tup h1 h2 => exact .tup (e _ _ h1) (ImA.mono e ds _ h2)
  | .dict _, _, h => by cases h
theorem ImA.mono {H H' : Hp} (e : Tx H H') : ∀ (ds : List PyData) (vs : List V), ImA H vs ds → ImA H' vs ds
  | [], _, h => by cases h; exact .nil
  | d :: ds, _, h => by
    cases h with
    | cons h1 h2 => exact .cons (Im.mono e d _ h1) (ImA.mono e ds _ h2)
end
theorem Im.to {H H' : Hp} {d : PyData} {v : V} (h : Im H v d) (e : Tx H H') : Im H' v d := Im.mono e d v h
theorem ImA.to {H H' : Hp} {ds : List PyData} {vs : List V} (h : ImA H vs ds) (e : Tx H H') : ImA H' vs ds := ImA.mono e ds vs h
theorem ImA.length {H : Hp} : ∀ {ds : List PyData} {vs : List V}, ImA H vs ds → vs.length = ds.length
  | [], _, h => by cases h; rfl
  | d :: ds, _, h => by
    cases h with
    | cons h1 h2 => rw [List.length_cons, List.length_cons, ImA.length h2]
theorem ImA.get {H : Hp} : ∀ {ds : List PyData} {vs : List V} {i : Nat} {v : V}, ImA H vs ds → vs[i]? = some v → ∃ d, ds[i]? = some d ∧ Im H v d
  | [], _, i, v, h, e => by cases h; simp at e
  | d :: ds, _, i, v, h, e => by
    cases h with
    | cons h1 h2 =>
      cases i with
      | zero =>
        simp only [List.getElem?_cons_zero, Option.some.injEq] at e
        subst e
        exact ⟨d, rfl, h1⟩
      | succ j =>
        simp only [List.getElem?_cons_succ] at e
        obtain ⟨d', e', q⟩ := ImA.get (i := j) h2 e
        exact ⟨d', by simpa using e', q⟩
theorem ImA.at {H : Hp} {ds : List PyData} {vs : List V} {i : Nat} {d : PyData} (h : ImA H vs ds) (e : ds[i]? = some d) : ∃ v, vs[i]? = some v ∧ Im H v d := by
  have hl : i < vs.length := by
    rw [h.length]
    exact (List.getElem?_eq_some_iff.mp e).1
  obtain ⟨d', e', q⟩ := h.get (List.getElem?_eq_getElem hl)
  rw [e] at e'
  cases e'
  exact ⟨_, List.getElem?_eq_getElem hl, q⟩
theorem ImA.append {H : Hp} : ∀ {ds es : List PyData} {vs us : List V}, ImA H vs ds → ImA H us es → ImA H (vs ++ us) (ds ++ es)
  | [], _, _, _, h, q => by cases h; exact q
  | d :: ds, _, _, _, h, q => by
    cases h with
    | cons h1 h2 => exact .cons h1 (ImA.append h2 q)
theorem ImA.one {H : Hp} {v : V} {d : PyData} (h : Im H v d) : ImA H [v] [d] := .cons h .nil
theorem ImA.ints {H : Hp} : ∀ ns : List Int, ImA H (ns.map V.int) (ns.map PyData.int)
  | [] => .nil
  | n :: ns => .cons (.int n) (ImA.ints ns)
theorem ImA.ints_eq {H : Hp} : ∀ {ns : List Int} {vs : List V}, ImA H vs (ns.map PyData.int) → vs = ns.map V.int
  | [], _, h => by cases h; rfl
  | n :: ns, _, h => by
    cases h with
    | cons h1 h2 =>
      cases h1
      rw [ImA.ints_eq h2]
      rfl
theorem Im.ref {H : Hp} {v : V} {ds : List PyData} (h : Im H v (.tuple ds)) : ∃ a xs, v = .ref a ∧ H a = some (.tup xs) ∧ ImA H xs ds := by
  cases h with
  | tup h1 h2 => exact ⟨_, _, rfl, h1, h2⟩
theorem Im.int_eq {H : Hp} {v : V} {i : Int} (h : Im H v (.int i)) : v = .int i := by cases h; rfl
theorem Im.bl_eq {H : Hp} {v : V} {i : Bool} (h : Im H v (.bool i)) : v = .bl i := by cases h; rfl
theorem Im.str_eq {H : Hp} {v : V} {i : Str} (h : Im H v (.str i)) : v = .str i := by cases h; rfl
theorem Im.non_eq {H : Hp} {v : V} (h : Im H v .none) : v = .non := by cases h; rfl
theorem ImA.nil_eq {H : Hp} {vs : List V} (h : ImA H vs []) : vs = [] := by cases h; rfl
theorem ImA.cons_eq {H : Hp} {vs : List V} {d : PyData} {ds : List PyData} (h : ImA H vs (d :: ds)) : ∃ v us, vs = v :: us ∧ Im H v d ∧ ImA H us ds := by
  cases h with
  | cons h1 h2 => exact ⟨_, _, rfl, h1, h2⟩
mutual
theorem Im.dp {K : PySem.W.Frag} {H : Hp} : ∀ (d : PyData) (v : V), Im H v d → Dp K H v d
  | .none, _, h => by cases h; exact .non
  | .bool b, _, h => by cases h; exact .bl b
  | .int i, _, h => by cases h; exact .int i
  | .str x, _, h => by cases h; exact .str x
  | .list _, _, h => by cases h
  | .tuple ds, _, h => by
    cases h with
    | tup h1 h2 => exact .tup (SqT.of h1) (ImA.dp ds _ h2)
  | .dict _, _, h => by cases h
theorem ImA.dp {K : PySem.W.Frag} {H : Hp} : ∀ (ds : List PyData) (vs : List V), ImA H vs ds → DpAll K H vs ds
  | [], _, h => by cases h; exact .nil
  | d :: ds, _, h => by
    cases h with
    | cons h1 h2 => exact .cons (Im.dp d _ h1) (ImA.dp ds _ h2)
end

/-! ### data as a key -/
mutual
def nk : PyData → NestedKey
  | .none => .none
  | .bool b => .num (if b = true then 1 else 0)
  | .int i => .num i
  | .str x => .text x
  | .list _ => .none
  | .tuple ds => .tup (nkA ds)
  | .dict _ => .none
def nkA : List PyData → List NestedKey
  | [] => []
  | d :: ds => nk d :: nkA ds
end
section
variable {X : Cx} {pins : List (Addr × Obj)} {σ : L2.St} {H : Hp} {s : Shared}
mutual
theorem im_nested (I : Inv X pins σ H s) : ∀ (d : PyData) (v : V) (u : Value), Im H v d → RelV v u → NestedIs s.heap (nk d) u
  | .none, _, _, h, r => by
    cases h
    cases r
    exact .none
  | .bool b, _, _, h, r => by
    cases h
    cases r
    exact .bool rfl
  | .int i, _, _, h, r => by
    cases h
    obtain ⟨t, rfl⟩ := r
    exact .int i t
  | .str x, _, _, h, r => by
    cases h
    obtain ⟨t, rfl⟩ := r
    exact .text x t
  | .list _, _, _, h, _ => by cases h
  | .tuple ds, _, _, h, r => by
    cases h with
    | tup h1 h2 =>
      cases r
      obtain ⟨_, its, rv, o, ho, hc, n, hd⟩ := I.hok _ _ h1
      exact .tup ho hc hd (by simpa using imA_nested I ds _ its h2 rv)
  | .dict _, _, _, h, _ => by cases h
theorem imA_nested (I : Inv X pins σ H s) : ∀ (ds : List PyData) (vs : List V) (us : List Value), ImA H vs ds → Vals vs us → NestedAll s.heap (nkA ds) us
  | [], _, _, h, r => by
    cases h
    cases r
    exact .nil
  | d :: ds, _, _, h, r => by
    cases h with
    | cons h1 h2 =>
      cases r with
      | cons r1 r2 => exact .cons (im_nested I d _ _ h1 r1) (imA_nested I ds _ _ h2 r2)
end
end
/-- keys of a type of one's own, written as data -/
structure Enc {α : Type} (en : α → PyData) : Prop where
  tupl : ∀ a, ∃ ds, en a = .tuple ds
  deep : ∀ a, (nk (en a)).depth ≤ 8
  inj : ∀ a b, nk (en a) = nk (en b) → a = b
theorem Enc.ref {α : Type} {en : α → PyData} (hE : Enc en) {H : Hp} {v : V} {a : α} (h : Im H v (en a)) : ∃ p, v = .ref p := by
  obtain ⟨ds, e⟩ := hE.tupl a
  rw [e] at h
  obtain ⟨p, _, q, _⟩ := h.ref
  exact ⟨p, q⟩

theorem paired_app {α β : Type} {F : α → β → Prop} : ∀ {l₁ : List α} {l₂ : List β} {m₁ : List α} {m₂ : List β}, Paired F l₁ l₂ → Paired F m₁ m₂ → Paired F (l₁ ++ m₁) (l₂ ++ m₂)
  | _, _, _, _, .nil, q => q
  | _, _, _, _, .cons r t, q => .cons r (paired_app t q)

/-! ### the dict -/
def NdAt (P : Program) (w : World) (h : Heap) (d : Addr) (xs : List (NestedKey × Addr × V)) : Prop :=
  (d == sysModules) = false ∧ xs.length ≤ sizeLine ∧ ∃ ys : List (NestedKey × Addr × Value), Paired (fun (p : NestedKey × Addr × V) (q : NestedKey × Addr × Value) => p.1 = q.1 ∧ p.2.1 = q.2.1 ∧ RelV p.2.2 q.2.2) xs ys ∧
    ∃ o es ep, h.get? d = some o ∧ o.ExactDict ∧ o.data = .dict es ep ∧ es.toList = ys.map (entryOfKey (nestedKind P w)) ∧ (ys.map (·.1)).Nodup
def NdO (P : Program) (w : World) (d : Addr) (xs : List (NestedKey × Addr × V)) : HO := .ext fun h => NdAt P w h d xs
theorem nd_obj {P : Program} {w : World} {H : Hp} {h : Heap} {d : Addr} {xs : List (NestedKey × Addr × V)} (q : NdAt P w h d xs) : ObjOk P w H h d (NdO P w d xs) := by
  refine ⟨q, ?_, fun h1 h2 z k => ?_⟩
  · obtain ⟨_, _, _, _, o, _, _, e, _⟩ := q
    exact ⟨o, e⟩
  · obtain ⟨z1, z2, ys, z3, o, es, ep, e, r⟩ := z
    exact ⟨z1, z2, ys, z3, o, es, ep, k o e, r⟩

section
variable {α : Type} [DecidableEq α] {en : α → PyData}
/-- how the tracked entries stand for the pairs L -/
def Ents (en : α → PyData) (H : Hp) (xs : List (NestedKey × Addr × V)) (L : List (α × V)) : Prop :=
  Paired (fun (x : NestedKey × Addr × V) (p : α × V) => x.1 = nk (en p.1) ∧ Im H (.ref x.2.1) (en p.1) ∧ x.2.2 = p.2) xs L
/-- at d a dict with the pairs L, that may be written | read -/
def TDw (P : Program) (w : World) (en : α → PyData) (H : Hp) (d : Addr) (L : List (α × V)) : Prop := ∃ xs, H d = some (NdO P w d xs) ∧ Ents en H xs L
def TDr (P : Program) (w : World) (en : α → PyData) (H : Hp) (d : Addr) (L : List (α × V)) : Prop := ∃ xs, Rd H d (NdO P w d xs) ∧ Ents en H xs L
theorem TDw.rd {P : Program} {w : World} {H : Hp} {d : Addr} {L : List (α × V)} (t : TDw P w en H d L) : TDr P w en H d L := let ⟨xs, e, q⟩ := t; ⟨xs, .inl e, q⟩
theorem Ents.to {H H' : Hp} (e : Tx H H') {xs : List (NestedKey × Addr × V)} {L : List (α × V)} (h : Ents en H xs L) : Ents en H' xs L := Paired.mapP h fun x p q => ⟨q.1, q.2.1.to e, q.2.2⟩
theorem TDw.to {P : Program} {w : World} {H H' : Hp} {d : Addr} {L : List (α × V)} (t : TDw P w en H d L) (e : Tx H H') (k : H' d = H d) : TDw P w en H' d L := let ⟨xs, z, q⟩ := t; ⟨xs, k.trans z, q.to e⟩
theorem TDr.to {P : Program} {w : World} {H H' : Hp} {d : Addr} {L : List (α × V)} (t : TDr P w en H d L) (e : Tx H H') (k : H' d = H d) : TDr P w en H' d L := let ⟨xs, z, q⟩ := t; ⟨xs, by unfold Rd; rw [k]; exact z, q.to e⟩
theorem TDw.some {P : Program} {w : World} {H : Hp} {d : Addr} {L : List (α × V)} (t : TDw P w en H d L) : ∃ xs, H d = some (NdO P w d xs) := let ⟨xs, z, _⟩ := t; ⟨xs, z⟩
theorem nd_notup {P : Program} {w : World} {H : Hp} {d : Addr} {xs : List (NestedKey × Addr × V)} (h : H d = some (NdO P w d xs)) : ∀ ys, H d ≠ some (.tup ys) := fun ys z => by
  rw [h] at z
  cases z

section
variable {X : Cx} {pins : List (Addr × Obj)} {σ : L2.St} {H : Hp} {s : Shared} {d : Addr} {L : List (α × V)}
theorem ents_ys {xs : List (NestedKey × Addr × V)} {ys : List (NestedKey × Addr × Value)} (rel : Paired (fun (p : NestedKey × Addr × V) (q : NestedKey × Addr × Value) => p.1 = q.1 ∧ p.2.1 = q.2.1 ∧ RelV p.2.2 q.2.2) xs ys) :
    ∀ {L : List (α × V)}, Ents en H xs L → Paired (fun (p : α × V) (q : NestedKey × Addr × Value) => q.1 = nk (en p.1) ∧ Im H (.ref q.2.1) (en p.1) ∧ RelV p.2 q.2.2) L ys := by
  induction rel with
  | nil => intro L h; cases h; exact .nil
  | @cons a b l₁ l₂ r t ih =>
    intro L h
    cases h with
    | cons h1 h2 =>
      obtain ⟨e1, e2, e3⟩ := h1
      obtain ⟨r1, r2, r3⟩ := r
      exact .cons ⟨r1 ▸ e1, r2 ▸ e2, e3 ▸ r3⟩ (ih h2)
/-- what stands in the heap -/
theorem td_heap (hE : Enc en) (I : Inv X pins σ H s) (t : TDr X.prog X.w en H d L) : (d == sysModules) = false ∧ L.length ≤ sizeLine ∧
    ∃ ys : List (NestedKey × Addr × Value), s.heap.DictOfH (nestedKind X.prog X.w) d ys ∧ Paired (fun (p : α × V) (q : NestedKey × Addr × Value) => q.1 = nk (en p.1) ∧ Im H (.ref q.2.1) (en p.1) ∧ RelV p.2 q.2.2) L ys := by
  obtain ⟨xs, hd, he⟩ := t
  obtain ⟨⟨z1, z2, ys, rel, o, es, ep, e, ex, hdat, hes, hn⟩, _, _⟩ := hd.ok I.hok
  have pr := ents_ys rel he
  have l1 : xs.length = L.length := Paired.length he
  refine ⟨z1, by omega, ys, ⟨o, es, ep, e, ex, hdat, hes, fun y hy => ?_, hn⟩, pr⟩
  obtain ⟨j, hj⟩ := List.getElem?_of_mem hy
  have hl : j < L.length := by
    rw [Paired.length pr]
    exact (List.getElem?_eq_some_iff.mp hj).1
  obtain ⟨b, hb, q1, q2, _⟩ := paired_get pr (List.getElem?_eq_getElem hl)
  rw [hj] at hb
  cases hb
  show NestedIs s.heap y.1 (.ref y.2.1) ∧ y.1.depth ≤ 8
  rw [q1]
  exact ⟨im_nested I _ _ _ q2 rfl, hE.deep _⟩
theorem key_is (hE : Enc en) (I : Inv X pins σ H s) {p : Addr} {a : α} (h : Im H (.ref p) (en a)) : (nestedKind X.prog X.w).is s.heap (nk (en a)) p := ⟨im_nested I _ _ _ h rfl, hE.deep _⟩
theorem look {R : α × V → NestedKey × Addr × Value → Prop} (hE : Enc en) (hR : ∀ p q, R p q → q.1 = nk (en p.1) ∧ RelV p.2 q.2.2) : ∀ {L : List (α × V)} {ys : List (NestedKey × Addr × Value)}, Paired R L ys → ∀ a,
    (∀ v, valV L a = some v → ∃ p, atKey ys (nk (en a)) = some p ∧ RelV v p.2) ∧ (valV L a = none → atKey ys (nk (en a)) = none)
  | _, _, .nil, a => ⟨fun v e => (nomatch e), fun _ => rfl⟩
  | (x, z) :: L, q :: ys, .cons r t, a => by
    obtain ⟨r1, r2⟩ := hR _ _ r
    obtain ⟨i1, i2⟩ := look hE hR t a
    by_cases e : x = a
    · have c1 : valV ((x, z) :: L) a = some z := by
        unfold valV
        rw [List.find?_cons_of_pos (by simpa using e)]
        rfl
      have c2 : atKey (q :: ys) (nk (en a)) = some q.2 := by
        unfold atKey
        rw [List.find?_cons_of_pos (by rw [r1]; simpa using congrArg (fun b => nk (en b)) e)]
        rfl
      rw [c1, c2]
      exact ⟨fun v ev => by cases ev; exact ⟨_, rfl, r2⟩, fun ev => nomatch ev⟩
    · have c1 : valV ((x, z) :: L) a = valV L a := by
        unfold valV
        rw [List.find?_cons_of_neg (by simpa using e)]
      have c2 : atKey (q :: ys) (nk (en a)) = atKey ys (nk (en a)) := by
        unfold atKey
        rw [List.find?_cons_of_neg (by rw [r1]; simpa using fun w => e (hE.inj _ _ w))]
      rw [c1, c2]
      exact ⟨i1, i2⟩
theorem look_some (hE : Enc en) {ys : List (NestedKey × Addr × Value)} (pr : Paired (fun (p : α × V) (q : NestedKey × Addr × Value) => q.1 = nk (en p.1) ∧ Im H (.ref q.2.1) (en p.1) ∧ RelV p.2 q.2.2) L ys) (a : α) :
    (atKey ys (nk (en a))).isSome = (valV L a).isSome := by
  obtain ⟨h1, h2⟩ := look hE (fun p q r => ⟨r.1, r.2.2⟩) pr a
  cases e : valV L a with
  | none =>
    rw [h2 e]
    rfl
  | some v =>
    obtain ⟨p, q, _⟩ := h1 v e
    rw [q]
    rfl

/-! ### in, not in -/
theorem room_of (hu : X.A.units + 64 < cLine) : (nestedKind X.prog X.w).room X.A.in1 := by
  show X.A.units + 1 + 8 < cLine
  omega
theorem room_of0 (hu : X.A.units + 64 < cLine) : (nestedKind X.prog X.w).room X.A := by
  show X.A.units + 8 < cLine
  omega
theorem room_of2 (hu : X.A.units + 64 < cLine) : (nestedKind X.prog X.w).room X.A.in1.in1 := by
  show X.A.units + 1 + 1 + 8 < cLine
  omega
end
def rNIn (P : Program) (w : World) (en : α → PyData) : R2 := fun x y H Q => ∃ d L a, y = .ref d ∧ TDr P w en H d L ∧ Im H x (en a) ∧ Q (.bl (valV L a).isSome) H
def rNNotIn (P : Program) (w : World) (en : α → PyData) : R2 := fun x y H Q => ∃ d L a, y = .ref d ∧ TDr P w en H d L ∧ Im H x (en a) ∧ Q (.bl (!(valV L a).isSome)) H
theorem op_inN {X : Cx} (hE : Enc en) (hu : X.A.units + 64 < cLine) : OpR X (compareOp .In) (rNIn X.prog X.w en) := by
  intro pins s σ H x y v u Q I rx ry h
  obtain ⟨d, L, a, rfl, t, hx, q⟩ := h
  obtain ⟨p, rfl⟩ := hE.ref hx
  cases rx
  cases ry
  obtain ⟨hs, hz, ys, hm, pr⟩ := td_heap hE I t
  refine wpAny_in_heap (room_of hu) (key_is hE I hx) hs hm ?_
  rw [look_some hE pr a]
  exact ⟨.bl _, H, I.tok _, rfl, q⟩
theorem op_notInN {X : Cx} (hE : Enc en) (hu : X.A.units + 64 < cLine) : OpR X (compareOp .NotIn) (rNNotIn X.prog X.w en) := by
  intro pins s σ H x y v u Q I rx ry h
  obtain ⟨d, L, a, rfl, t, hx, q⟩ := h
  obtain ⟨p, rfl⟩ := hE.ref hx
  cases rx
  cases ry
  obtain ⟨hs, hz, ys, hm, pr⟩ := td_heap hE I t
  show wpAny _ _ ((do return Value.bool (!(← contains (.ref d) (.ref p)))) : Sem Value) _ _ s
  refine wpAny_bind (wpAny_contains_heap (room_of hu) (key_is hE I hx) hs hm (wpAny_pure ?_))
  rw [look_some hE pr a]
  exact ⟨.bl _, H, I.tok _, rfl, q⟩

/-! ### d[k] -/
def rNGet (P : Program) (w : World) (en : α → PyData) : R2 := fun x y H Q => ∃ d L a v, x = .ref d ∧ TDr P w en H d L ∧ Im H y (en a) ∧ valV L a = some v ∧ Q v H
theorem ix_nd {X : Cx} (hE : Enc en) (hu : X.A.units + 64 < cLine) : IxR X (rNGet X.prog X.w en) := by
  intro value slice pins s σ H x y v u Q I rx ry h hsub
  obtain ⟨d, L, a, z, rfl, t, hy, hv, q⟩ := h
  obtain ⟨p, rfl⟩ := hE.ref hy
  cases rx
  cases ry
  obtain ⟨hs, hz, ys, hm, pr⟩ := td_heap hE I t
  obtain ⟨p2, e2, r2⟩ := (look hE (fun p q r => ⟨r.1, r.2.2⟩) pr a).1 z hv
  have hT : s.TypeIs (.ref d) "dict" := hm.typeIs
  unfold subscriptTail
  refine wpAny_bind ?_
  rw [getitemInPython_of_ne hT.not_modules]
  refine wpAny_bind (wpAny_specialOf hT PySem.F.slot_dict_getitem.lookup ?_)
  have fin : wpAny (model X.prog X.w) X.A (subscripted slice false (.ref d) (.ref p)) (fun r s₃ => wpAny (model X.prog X.w) X.A (letTemporaryGo value (.ref d) r >>= fun _ => pure r) (EP X pins σ Q) X.xe s₃) X.xe s := by
    rw [hsub]
    exact wpAny_operating (wpAny_getItem_heap (room_of hu) (key_is hE I hy) hm e2 (wpAny_bind (wpAny_letTemporaryGo (wpAny_pure ⟨z, H, I.tok _, r2, q⟩))))
  first
    | exact wpAny_pure (wpAny_bind fin)
    | exact wpAny_bind (wpAny_pure (wpAny_bind fin))
    | exact wpAny_bind fin

/-! ### d[k] = v -/
theorem stored_ents (hE : Enc en) {k : α} {p : Addr} {v : V} {H' : Hp} (hk : Im H' (.ref p) (en k)) {u : Value} (rv : RelV v u) :
    ∀ {L : List (α × V)} {xs : List (NestedKey × Addr × V)} {ys : List (NestedKey × Addr × Value)}, Ents en H' xs L →
      Paired (fun (p : NestedKey × Addr × V) (q : NestedKey × Addr × Value) => p.1 = q.1 ∧ p.2.1 = q.2.1 ∧ RelV p.2.2 q.2.2) xs ys →
      ∃ xs', Ents en H' xs' (putK L k v) ∧ Paired (fun (p : NestedKey × Addr × V) (q : NestedKey × Addr × Value) => p.1 = q.1 ∧ p.2.1 = q.2.1 ∧ RelV p.2.2 q.2.2) xs' (storedH ys (nk (en k)) p u) := by
  intro L xs ys hL hr
  have pr := ents_ys hr hL
  have hsome := look_some hE pr k
  unfold putK storedH
  rw [valV_any, hsome]
  by_cases c : (valV L k).isSome = true
  · rw [if_pos c, if_pos c]
    clear pr hsome c
    induction hr generalizing L with
    | nil =>
      cases hL
      exact ⟨[], .nil, .nil⟩
    | @cons a b l₁ l₂ r t ih =>
      cases hL with
      | @cons a' p' l₁' l₂' h1 h2 =>
        obtain ⟨xs', g1, g2⟩ := ih h2
        obtain ⟨e1, e2, e3⟩ := h1
        obtain ⟨r1, r2, r3⟩ := r
        by_cases z : p'.1 = k
        · have f2 : putAt (nk (en k)) u b = (b.1, b.2.1, u) := if_pos (by rw [← r1, e1, z])
          refine ⟨(a.1, a.2.1, v) :: xs', ?_, ?_⟩
          · rw [List.map_cons, if_pos z]
            exact .cons ⟨e1, e2, rfl⟩ g1
          · rw [List.map_cons, f2]
            exact .cons ⟨r1, r2, rv⟩ g2
        · have f2 : putAt (nk (en k)) u b = b := if_neg fun q => z (hE.inj _ _ (by rw [← e1, r1, q]))
          refine ⟨a :: xs', ?_, ?_⟩
          · rw [List.map_cons, if_neg z]
            exact .cons ⟨e1, e2, e3⟩ g1
          · rw [List.map_cons, f2]
            exact .cons ⟨r1, r2, r3⟩ g2
  · rw [if_neg c, if_neg c]
    exact ⟨xs ++ [(nk (en k), p, v)], paired_app hL (.cons ⟨rfl, hk, rfl⟩ .nil), paired_app hr (.cons ⟨rfl, rfl, rv⟩ .nil)⟩
end
end KB
namespace KB
open PySem PySem.Spec PyProof.Rows L2

/-- all but d is as it was -/
def But (d : Addr) (H H' : Hp) : Prop := ∀ b, b ≠ d → H' b = H b
theorem But.upd {d : Addr} {H : Hp} {o : HO} : But d H (upd H d o) := fun _ h => upd_ne h
theorem But.refl (d : Addr) (H : Hp) : But d H H := fun _ _ => rfl
theorem But.trans {d : Addr} {H H1 H2 : Hp} (a : But d H H1) (b : But d H1 H2) : But d H H2 := fun x h => (b x h).trans (a x h)
theorem But.tx {d : Addr} {H H' : Hp} (a : But d H H') (h : ∀ xs, H d ≠ some (.tup xs)) : Tx H H' := fun x xs e => by
  rw [a x (fun z => h xs (by rw [← z]; exact e))]
  exact e
theorem But.new {d : Addr} {H H' : Hp} (a : But d H H') (h : H d = none) : Evl.Ex H H' := fun x o e => by
  rw [a x (fun z => by rw [z, h] at e; cases e)]
  exact e

section
variable {X : Cx} {pins : List (Addr × Obj)} {σ : L2.St} {H : Hp} {s : Shared}
/-- several new objects, each told -/
theorem laid_many {H' : Hp} {h' : Heap} {tk : Nat} (I : Inv X pins σ H s) (hk : ∀ b o, s.heap.get? b = some o → h'.get? b = some o) (ke : ∀ b u, H b = some u → H' b = some u)
    (new : ∀ b u, H b = none → H' b = some u → s.heap.objs.size ≤ b ∧ ObjOk X.prog X.w H' h' b u) : Inv X pins σ H' { s with heap := h', toks := tk } := by
  refine I.un (h' := h') (t' := tk) ⟨fun b o e _ _ _ => hk b o e, fun b o e _ _ _ => ⟨o.slots, hk b o e⟩, fun b o e n _ => ?_, fun b o e _ => ⟨o, hk b o e⟩, fun b xs e => ke b _ e, fun b o u e => ke b _ e, fun b ps e => ⟨#[], by rw [ke b _ e]; simp⟩⟩ fun b u q => ?_
  · cases q : H' b with
    | none => rfl
    | some u => exact absurd (Nat.lt_of_lt_of_le (Heap.lt_size e) (new b u n q).1) (Nat.lt_irrefl _)
  · cases e : H b with
    | none => exact (new b u e q).2
    | some u0 =>
      have z := ke b u0 e
      rw [q] at z
      cases z
      exact (I.hok b u e).stay (fun c v _ y => hk c v y) (fun c y => ke c _ y) fun c xs y => ke c _ y
end

section
variable {α : Type} [DecidableEq α] {en : α → PyData}
section
variable {X : Cx} {pins : List (Addr × Obj)} {σ : L2.St} {H : Hp} {s : Shared} {d : Addr} {L : List (α × V)}
/-- a store into the dict -/
theorem td_put (hE : Enc en) (I : Inv X pins σ H s) (t : TDw X.prog X.w en H d L) (hz : L.length < sizeLine) {a : α} {p : Addr} (hk : Im H (.ref p) (en a)) {v : V} {u : Value} (rv : RelV v u) :
    ∃ ys : List (NestedKey × Addr × Value), s.heap.DictOfH (nestedKind X.prog X.w) d ys ∧ ys.length ≤ sizeLine ∧
      ∀ (h' : Heap) (tk : Nat), h'.DictOfH (nestedKind X.prog X.w) d (storedH ys (nk (en a)) p u) → Heap.SameBut d s.heap h' →
        ∃ H', But d H H' ∧ TDw X.prog X.w en H' d (putK L a v) ∧ Inv X pins σ H' { s with heap := h', toks := tk } := by
  obtain ⟨xs, hd, he⟩ := t
  obtain ⟨⟨z1, z2, ys, rel, o, es, ep, e, ex, hdat, hes, hn⟩, _, _⟩ := I.hok d _ hd
  have l1 : xs.length = L.length := Paired.length he
  have l2 : xs.length = ys.length := Paired.length rel
  have pr := ents_ys rel he
  have dd : s.heap.DictOfH (nestedKind X.prog X.w) d ys := by
    obtain ⟨_, _, ys', dd', pr'⟩ := td_heap hE I ⟨xs, .inl hd, he⟩
    refine ⟨o, es, ep, e, ex, hdat, hes, fun y hy => ?_, hn⟩
    obtain ⟨j, hj⟩ := List.getElem?_of_mem hy
    have hl : j < L.length := by
      rw [Paired.length pr]
      exact (List.getElem?_eq_some_iff.mp hj).1
    obtain ⟨b, hb, q1, q2, _⟩ := paired_get pr (List.getElem?_eq_getElem hl)
    rw [hj] at hb
    cases hb
    show NestedIs s.heap y.1 (.ref y.2.1) ∧ y.1.depth ≤ 8
    rw [q1]
    exact ⟨im_nested I _ _ _ q2 rfl, hE.deep _⟩
  refine ⟨ys, dd, by omega, fun h' tk dd' hs => ?_⟩
  obtain ⟨xs', g1, g2⟩ := stored_ents hE hk rv he rel
  have tx : Tx H (upd H d (NdO X.prog X.w d xs')) := Tx.upd (nd_notup hd)
  obtain ⟨o', es', ep', e', ex', hdat', hes', _, hn'⟩ := dd'
  have hl := length_putK L a v
  have l3 : xs'.length = (putK L a v).length := Paired.length g1
  refine ⟨upd H d (NdO X.prog X.w d xs'), But.upd, ⟨xs', upd_same, g1.to tx⟩, d_write I (by rw [hd]; exact True.intro) hs ⟨o', e'⟩ (nd_obj ⟨z1, by omega, _, g2, o', es', ep', e', ex', hdat', hes', hn'⟩)⟩
end
def rNSet (P : Program) (w : World) (en : α → PyData) : TSet := fun o i v H Q => ∃ d L a, o = .ref d ∧ TDw P w en H d L ∧ Im H i (en a) ∧ L.length < sizeLine ∧ ∀ H', But d H H' → TDw P w en H' d (putK L a v) → Q H'
theorem set_nd {X : Cx} (hE : Enc en) (hu : X.A.units + 64 < cLine) : PSet X (rNSet X.prog X.w en) := by
  intro pins s σ H o i v ov iv u Q I ro ri rv h
  obtain ⟨d, L, a, rfl, t, hi, hz, q⟩ := h
  obtain ⟨p, rfl⟩ := hE.ref hi
  cases ro
  cases ri
  obtain ⟨ys, dd, hsz, fin⟩ := td_put hE I t hz hi rv
  refine wpAny_setItem_heap (hsz := hsz) (room_of hu) (key_is hE I hi) dd fun h' hm' hs => ?_
  obtain ⟨H', b, t', I'⟩ := fin h' _ hm' hs
  exact ⟨H', I', q H' b t'⟩

/-! ### d.setdefault(k, x) -/
def tNSetd (P : Program) (w : World) (en : α → PyData) (td ty tx : TE) : TE := fun σ H Q => td σ H fun x H1 => ∃ d L, x = .ref d ∧ TDw P w en H1 d L ∧ ty σ H1 fun y H2 => tx σ H2 fun z H3 => ∃ L a, TDw P w en H3 d L ∧ Im H3 y (en a) ∧ L.length < sizeLine ∧
  (∀ v, valV L a = some v → Q v H3) ∧ (valV L a = none → ∀ H', But d H3 H' → TDw P w en H' d (putK L a z) → Q z H')
theorem pe_nsetd {X : Cx} (hE : Enc en) (hu : X.A.units + 64 < cLine) {o e f : Expr} {td ty tx : TE} {apos cpos : Pos} (ho : PE X o td) (he : PE X e ty) (hf : PE X f tx) (m : M2 X o "setdefault" apos e f cpos) :
    PE X (.Call (.Attribute o "setdefault" apos) [e, f] [] cpos) (tNSetd X.prog X.w en td ty tx) := by
  refine ⟨fun pins s σ H Q I h => ?_⟩
  refine wpAny_Call_method m.base m.few m.line PySem.F.plainAttrs_dict PySem.F.slot_dict_setdefault PySem.F.type_dict_setdefault (thn (ho.run pins s σ H _ I h) fun u s1 ⟨x, H1, I1, rx, d, L, ex, t, q1⟩ => ?_)
  subst ex
  obtain rfl : u = Value.ref d := rx
  obtain ⟨_, _, ys, dd, _⟩ := td_heap hE I1 t.rd
  have hT : s1.TypeIs (.ref d) "dict" := dd.typeIs
  refine ⟨hT, fun b eb => ?_, ?_⟩
  · cases eb
    obtain ⟨ob, _, _, h1, h2, _⟩ := dd
    exact ⟨ob, h1, h2.2.1⟩
  rw [m.trees]
  refine Calls.callWith_builtin rfl (Calls.evalArgs_plain (Calls.spliced_cons (thn (he.run pins s1 σ H1 _ I1 q1) fun iv s2 ⟨y, H2, I2, ry, q2⟩ =>
    Calls.spliced_cons (thn (hf.run pins s2 σ H2 _ I2 q2) fun fv s3 ⟨z, H3, I3, rz, L3, a, t3, hy, hz, q3, q4⟩ => Calls.spliced_nil ?_))))
  obtain ⟨p, rfl⟩ := hE.ref hy
  cases ry
  obtain ⟨hs, _, ys1, dd1, pr⟩ := td_heap hE I3 t3.rd
  obtain ⟨ys3, dd3, hsz, fin⟩ := td_put hE I3 t3 hz hy rz
  obtain ⟨k1, k2⟩ := look hE (fun p q r => ⟨r.1, r.2.2⟩) pr a
  cases hv : valV L3 a with
  | some v =>
    obtain ⟨p2, e2, r2⟩ := k1 v hv
    refine call_setdefault_heap (hsz := by rw [← Paired.length pr]; omega) (room_of hu) (key_is hE I3 hy) hs dd1 (fun p3 h3 => ?_) fun hn => ?_
    · rw [e2] at h3
      cases h3
      exact ⟨v, H3, I3.tok _, r2, q3 v hv⟩
    · rw [e2] at hn
      cases hn
  | none =>
    have e0 := k2 hv
    refine call_setdefault_heap (hsz := hsz) (room_of hu) (key_is hE I3 hy) hs dd3 (fun p3 h3 => ?_) fun hn h' hm' hsb => ?_
    · exfalso
      have : ys3 = ys1 := by
        obtain ⟨o1, es1, ep1, g1, _, g2, g3, g4, _⟩ := dd1
        obtain ⟨o3, es3, ep3, f1, _, f2, f3, f4, _⟩ := dd3
        rw [g1] at f1
        cases f1
        rw [g2] at f2
        cases f2
        have hl : ys1.length = ys3.length := by
          have := congrArg List.length (g3.symm.trans f3)
          simpa using this
        apply List.ext_getElem hl.symm
        intro i h1 h2
        have ei := congrArg (fun l => l[i]?) (g3.symm.trans f3)
        simp only [List.getElem?_map, List.getElem?_eq_getElem h1, List.getElem?_eq_getElem h2, Option.map_some, Option.some.injEq] at ei
        have hkey : (ys1[i]).2.1 = (ys3[i]).2.1 := Value.ref.inj (congrArg DictEntry.key ei)
        have hval : (ys1[i]).2.2 = (ys3[i]).2.2 := congrArg DictEntry.val ei
        have m1 := g4 _ (List.getElem_mem h2)
        have m3 := f4 _ (List.getElem_mem h1)
        rw [hkey] at m1
        have hk := (nestedKind X.prog X.w).inj m1 m3
        exact (Prod.ext hk (Prod.ext hkey hval)).symm
      rw [this, e0] at h3
      cases h3
    · obtain ⟨H', b, t', I'⟩ := fin h' _ hm' hsb
      exact ⟨z, H', I', rz, q4 hv H' b t'⟩

/-! ### len(d) -/
def rNLen (P : Program) (w : World) (en : α → PyData) : List V → Hp → VK → Prop := fun xs H Q => ∃ d L, xs = [.ref d] ∧ TDr P w en H d L ∧ Q (.int ((L.length : Nat) : Int)) H
theorem call_lenN {X : Cx} (hE : Enc en) : CallR X (.builtin "len") (rNLen X.prog X.w en) := by
  intro pins s σ H xs us Q I r h
  obtain ⟨d, L, rfl, t, q⟩ := h
  obtain ⟨u, rfl, rx⟩ := vals1 r
  obtain rfl : u = .ref d := rx
  obtain ⟨hs, hz, ys, dd, pr⟩ := td_heap hE I t
  have hl : L.length = ys.length := Paired.length pr
  refine call_len_dictH hs dd (by rw [← hl]; rw [sizeLine_eq] at hz; omega) ?_
  rw [← hl]
  exact ⟨.int ((L.length : Nat) : Int), H, I.tok _, ⟨_, rfl⟩, q⟩

/-! ### list(d), list(d.values()), list(d.items()) -/
theorem refs_vals : ∀ as : List Addr, Vals (as.map V.ref) (as.map Value.ref)
  | [] => .nil
  | _ :: as => .cons rfl (refs_vals as)
theorem keys_vals : ∀ ys : List (NestedKey × Addr × Value), Vals (ys.map fun q => V.ref q.2.1) (ys.map fun q => Value.ref q.2.1)
  | [] => .nil
  | _ :: ys => .cons rfl (keys_vals ys)
theorem ents_keys {H : Hp} : ∀ {L : List (α × V)} {ys : List (NestedKey × Addr × Value)}, Paired (fun (p : α × V) (q : NestedKey × Addr × Value) => q.1 = nk (en p.1) ∧ Im H (.ref q.2.1) (en p.1) ∧ RelV p.2 q.2.2) L ys → ImA H (ys.map fun q => V.ref q.2.1) (L.map fun p => en p.1)
  | _, _, .nil => .nil
  | _, _, .cons r t => .cons r.2.1 (ents_keys t)
theorem ents_vals {H : Hp} : ∀ {L : List (α × V)} {ys : List (NestedKey × Addr × Value)}, Paired (fun (p : α × V) (q : NestedKey × Addr × Value) => q.1 = nk (en p.1) ∧ Im H (.ref q.2.1) (en p.1) ∧ RelV p.2 q.2.2) L ys → Vals (L.map fun p => p.2) (ys.map fun q => q.2.2)
  | _, _, .nil => .nil
  | _, _, .cons r t => .cons r.2.2 (ents_vals t)
theorem acc_list {n : Nat} {acc : Array Value} {ws : List Value} (hl : acc.size = n) (hw : ws.length = n) (h : ∀ (j : Nat) (v : Value), acc[j]? = some v → ws[j]? = some v) : acc.toList = ws := by
  apply List.ext_getElem?
  intro j
  cases hj : acc.toList[j]? with
  | none =>
    have h1 := List.getElem?_eq_none_iff.mp hj
    rw [Array.length_toList] at h1
    rw [List.getElem?_eq_none (by omega)]
  | some v =>
    exact (h j v (by rw [← Array.getElem?_toList]; exact hj)).symm
def rNKeys (P : Program) (w : World) (en : α → PyData) : List V → Hp → VK → Prop := fun xs H Q => ∃ d L, xs = [.ref d] ∧ TDr P w en H d L ∧ ∀ p vs, H p = none → ImA H vs (L.map fun q => en q.1) → Q (.ref p) (upd H p (.lst vs))
theorem call_listN {X : Cx} (hE : Enc en) (hc : X.calm = true) : CallR X (.type "list") (rNKeys X.prog X.w en) := by
  intro pins s σ H xs us Q I r h
  obtain ⟨d, L, rfl, t, q⟩ := h
  obtain ⟨u, rfl, rx⟩ := vals1 r
  obtain rfl : u = .ref d := rx
  obtain ⟨hs, hz, ys, dd, pr⟩ := td_heap hE I t
  have hl : L.length = ys.length := Paired.length pr
  obtain ⟨es, ep, hr, hsz, he⟩ := dd.raw
  refine PySem.W.kdl_call (KdlSrc.rawDict hs) (I.ok.hd hc) hr (by omega) fun h' tk acc' c' kp e it => ?_
  have ea : acc'.toList = ys.map fun y => Value.ref y.2.1 := by
    refine acc_list (n := es.size) it.1 (by rw [List.length_map, hsz]) fun j v hj => ?_
    obtain ⟨hi, ev⟩ := it.2 j v hj
    obtain ⟨y, hy, e1, _⟩ := he j hi
    rw [List.getElem?_map, hy, ev, e1]
    rfl
  have ev : Vals (ys.map fun q => V.ref q.2.1) acc'.toList := by
    rw [ea]
    exact keys_vals ys
  refine ⟨.ref s.heap.objs.size, _, I.laid (a := s.heap.objs.size) (o := .lst (ys.map fun q => V.ref q.2.1)) (t' := tk) kp (Nat.le_refl _) ⟨by rw [List.length_map]; omega, acc'.toList, c', ev, ?_⟩, rfl, q _ _ (I.hok.fresh (Nat.le_refl _)) (ents_keys pr)⟩
  rw [Array.toArray_toList]
  exact e

def tNVals (P : Program) (w : World) (en : α → PyData) (te : TE) : TE := fun σ H Q => te σ H fun x H1 => ∃ d L, x = .ref d ∧ TDr P w en H1 d L ∧ ∀ p, H1 p = none → Q (.ref p) (upd H1 p (.lst (L.map fun q => q.2)))
theorem pe_listVals {X : Cx} {e : Expr} {te : TE} {p apos cpos pos : Pos} (hE : Enc en) (hc : X.calm = true) (he : PE X e te) (hg : Gl X "list") (hm : X.mg "list" = none) (hv : bootBuiltins "list" = some (.type "list"))
    (hbase : attributeBase e "values" X.env (eval e X.env) = eval e X.env := by rfl) (hline : (apos.endLine == cpos.line) = true := by rfl)
    (hs : starEach [.Call (.Attribute e "values" apos) [] [] cpos] X.env = (false, eval (.Call (.Attribute e "values" apos) [] [] cpos) X.env) :: starEach [] X.env := by rfl) :
    PE X (.Call (.Name "list" p) [.Call (.Attribute e "values" apos) [] [] cpos] [] pos) (tNVals X.prog X.w en te) := by
  refine ⟨fun pins s σ H Q I hq => ?_⟩
  refine wpAny_Call_Name_kw (ld_blt I hg hm hv ?_)
  refine PyProof.Rows.callWith_type1 ?_ hs rfl
  rw [hs]
  show wpAny _ _ (spliced ((false, eval (.Call (.Attribute e "values" apos) [] [] cpos) X.env) :: backTo pos (starEach [] X.env))) _ _ s
  refine Calls.spliced_cons ?_
  refine wpAny_Call_method (T := "dict") (id := "dict.values") hbase rfl hline F.plainAttrs_dict F.slot_dict_values F.type_dict_values (thn (he.run pins s σ H _ I hq) fun u s1 ⟨x, H1, I1, rx, d, L, ex, t, q⟩ => ?_)
  subst ex
  obtain rfl : u = Value.ref d := rx
  obtain ⟨hs0, hz, ys, dd, pr⟩ := td_heap hE I1 t
  have hl : L.length = ys.length := Paired.length pr
  obtain ⟨es, ep, hr, hsz, hes⟩ := dd.raw
  have I2 : Inv X pins σ H1 { s1 with heap := s1.heap.push { cls := .type "dict_values", data := .fields #[.ref d] } } := I1.kept (t' := s1.toks) fun b ob q => Heap.get?_push_of_some _ q
  refine ⟨dd.typeIs, fun b eb => ?_, ?_⟩
  · cases eb
    obtain ⟨ob, _, _, h1, h2, _⟩ := dd
    exact ⟨ob, h1, h2.2.1⟩
  show wpAny _ _ (callWith cpos (.builtin "dict.values") [.ref d] [] []) _ X.xe s1
  refine method_meetsIn F.slot_dict_values F.entry_dict_values rfl (PySem.evalArgs_none ⟨rfl, dd.typeIs, F.args_dict_values_1 _, _, meets_dict_values_raw d hs0, ⟨es, ep, hr⟩, ?_⟩)
  refine Calls.spliced_nil ?_
  refine PySem.W.kdl_call (KdlSrc.rawValues (es := es) (ep := ep)) (I1.ok.hd hc) ⟨⟨_, Heap.get?_push_size _ rfl, rfl, rfl⟩, hr.push _⟩ (by omega) fun h' tk acc' c' kp eo it => ?_
  have ea : acc'.toList = ys.map fun y => y.2.2 := by
    refine acc_list (n := es.size) it.1 (by rw [List.length_map, hsz]) fun j v hj => ?_
    obtain ⟨hi, ev⟩ := it.2 j v hj
    obtain ⟨y, hy, _, e1, _⟩ := hes j hi
    rw [List.getElem?_map, hy, ev, e1]
    rfl
  have ev : Vals (L.map fun q => q.2) acc'.toList := by
    rw [ea]
    exact ents_vals pr
  refine ⟨.ref _, _, I2.laid (o := .lst (L.map fun q => q.2)) (t' := tk) kp (Nat.le_refl _) ⟨by rw [List.length_map]; omega, acc'.toList, c', ev, ?_⟩, rfl, q _ (I2.hok.fresh (Nat.le_refl _))⟩
  rw [Array.toArray_toList]
  exact eo

/-- the tuples tracked at their addresses -/
def putTs : Hp → List Addr → List (Addr × V) → Hp
  | H, a :: as, p :: ps => putTs (upd H a (.tup [.ref p.1, p.2])) as ps
  | H, _, _ => H
theorem putTs_off {b : Addr} : ∀ (as : List Addr) (ps : List (Addr × V)) (H : Hp), b ∉ as → putTs H as ps b = H b
  | [], _, _, _ => rfl
  | _ :: _, [], _, _ => rfl
  | a :: as, p :: ps, H, h => by
    have z := putTs_off as ps (upd H a (.tup [.ref p.1, p.2])) (fun z => h (List.mem_cons_of_mem _ z))
    exact z.trans (upd_ne fun z => h (by rw [z]; exact List.mem_cons_self))
theorem putTs_at : ∀ (as : List Addr) (ps : List (Addr × V)) (H : Hp), as.length = ps.length → as.Nodup → ∀ (j : Nat) (t : Addr) (p : Addr × V), as[j]? = some t → ps[j]? = some p → putTs H as ps t = some (.tup [.ref p.1, p.2])
  | [], _, _, _, _, j, t, p, h, _ => by simp at h
  | _ :: _, [], _, h, _, _, _, _, _, _ => by cases h
  | a :: as, p :: ps, H, h, hn, j, t, q, e1, e2 => by
    have hn' := List.nodup_cons.mp hn
    cases j with
    | zero =>
      cases e1
      cases e2
      exact (putTs_off as ps _ hn'.1).trans upd_same
    | succ j => exact putTs_at as ps _ (Nat.succ.inj h) hn'.2 j t q (by simpa using e1) (by simpa using e2)
def tNItems (P : Program) (w : World) (en : α → PyData) (te : TE) : TE := fun σ H Q => te σ H fun x H1 => ∃ d L, x = .ref d ∧ TDr P w en H1 d L ∧
  ∀ (H' : Hp) (p : Addr) (ts : List Addr), Evl.Ex H1 H' → H1 p = none → H' p = some (.lst (ts.map V.ref)) →
    Paired (fun (t : Addr) (q : α × V) => ∃ kr : Addr, H' t = some (.tup [.ref kr, q.2]) ∧ Im H1 (.ref kr) (en q.1)) ts L → Q (.ref p) H'
theorem paired_of {β γ : Type} {F : β → γ → Prop} : ∀ {l : List β} {m : List γ}, l.length = m.length → (∀ (j : Nat) (x : β) (y : γ), l[j]? = some x → m[j]? = some y → F x y) → Paired F l m
  | [], [], _, _ => .nil
  | [], _ :: _, h, _ => by cases h
  | _ :: _, [], h, _ => by cases h
  | x :: l, y :: m, h, f => .cons (f 0 x y rfl rfl) (paired_of (Nat.succ.inj h) fun j a b e1 e2 => f (j + 1) a b (by simpa using e1) (by simpa using e2))
theorem pe_listItemsN {X : Cx} {e : Expr} {te : TE} {p apos cpos pos : Pos} (hE : Enc en) (hc : X.calm = true) (he : PE X e te) (hg : Gl X "list") (hm : X.mg "list" = none) (hv : bootBuiltins "list" = some (.type "list"))
    (hbase : attributeBase e "items" X.env (eval e X.env) = eval e X.env := by rfl) (hline : (apos.endLine == cpos.line) = true := by rfl)
    (hs : starEach [.Call (.Attribute e "items" apos) [] [] cpos] X.env = (false, eval (.Call (.Attribute e "items" apos) [] [] cpos) X.env) :: starEach [] X.env := by rfl) :
    PE X (.Call (.Name "list" p) [.Call (.Attribute e "items" apos) [] [] cpos] [] pos) (tNItems X.prog X.w en te) := by
  refine ⟨fun pins s σ H Q I hq => ?_⟩
  refine wpAny_Call_Name_kw (ld_blt I hg hm hv ?_)
  refine PyProof.Rows.callWith_type1 ?_ hs rfl
  rw [hs]
  show wpAny _ _ (spliced ((false, eval (.Call (.Attribute e "items" apos) [] [] cpos) X.env) :: backTo pos (starEach [] X.env))) _ _ s
  refine Calls.spliced_cons ?_
  refine wpAny_Call_method (T := "dict") (id := "dict.items") hbase rfl hline F.plainAttrs_dict F.slot_dict_items F.type_dict_items (thn (he.run pins s σ H _ I hq) fun u s1 ⟨x, H1, I1, rx, d, L, ex, t, q⟩ => ?_)
  subst ex
  obtain rfl : u = Value.ref d := rx
  obtain ⟨hs0, hz, ys, dd, pr⟩ := td_heap hE I1 t
  have hl : L.length = ys.length := Paired.length pr
  obtain ⟨es, ep, hr, hsz, hes⟩ := dd.raw
  have I2 : Inv X pins σ H1 { s1 with heap := s1.heap.push { cls := .type "dict_items", data := .fields #[.ref d] } } := I1.kept (t' := s1.toks) fun b ob q => Heap.get?_push_of_some _ q
  refine ⟨dd.typeIs, fun b eb => ?_, ?_⟩
  · cases eb
    obtain ⟨ob, _, _, h1, h2, _⟩ := dd
    exact ⟨ob, h1, h2.2.1⟩
  show wpAny _ _ (callWith cpos (.builtin "dict.items") [.ref d] [] []) _ X.xe s1
  refine method_meetsIn F.slot_dict_items F.entry_dict_items rfl (PySem.evalArgs_none ⟨rfl, dd.typeIs, F.args_dict_items_1 _, _, meets_dict_items_raw d hs0, ⟨es, ep, hr⟩, ?_⟩)
  refine Calls.spliced_nil ?_
  generalize hs2 : ({ s1 with heap := s1.heap.push { cls := .type "dict_items", data := .fields #[.ref d] } } : Shared) = s2 at I2 ⊢
  have hr2 : s2.heap.DictRaw d es ep := by rw [← hs2]; exact hr.push _
  have hv2 : s2.heap.IsItemsView s1.heap.objs.size d := by rw [← hs2]; exact ⟨_, Heap.get?_push_size _ rfl, rfl, rfl⟩
  refine PySem.W.dil_call (es := es) (ep := ep) (I2.ok.hd hc) hv2 hr2 (by omega) fun h' tk acc c as hk hS hla hG hacc => ?_
  have nd : as.Nodup := List.Pairwise.imp (fun {a b} (h : a < b) => Nat.ne_of_lt h) hG.rise
  have hSn : s2.heap.objs.size ∉ as := fun z => Nat.lt_irrefl _ (hG.above _ z)
  have new : ∀ t ∈ as, H1 t = none := fun t ht => I2.hok.fresh (Nat.le_of_lt (hG.above t ht))
  have newS : H1 s2.heap.objs.size = none := I2.hok.fresh (Nat.le_refl _)
  have hps : as.length = ((List.zip (ys.map fun y => y.2.1) (L.map fun q => q.2))).length := by
    rw [List.length_zip, List.length_map, List.length_map]
    omega
  have atP := putTs_at as (List.zip (ys.map fun y => y.2.1) (L.map fun q => q.2)) (upd H1 s2.heap.objs.size (.lst (as.map V.ref))) hps nd
  have off : ∀ b, b ∉ as → b ≠ s2.heap.objs.size → putTs (upd H1 s2.heap.objs.size (.lst (as.map V.ref))) as (List.zip (ys.map fun y => y.2.1) (L.map fun q => q.2)) b = H1 b := fun b h1 h2 => by rw [putTs_off as _ _ h1, upd_ne h2]
  have eS : putTs (upd H1 s2.heap.objs.size (.lst (as.map V.ref))) as (List.zip (ys.map fun y => y.2.1) (L.map fun q => q.2)) s2.heap.objs.size = some (.lst (as.map V.ref)) := by rw [putTs_off as _ _ hSn, upd_same]
  have kp : Evl.Ex H1 (putTs (upd H1 s2.heap.objs.size (.lst (as.map V.ref))) as (List.zip (ys.map fun y => y.2.1) (L.map fun q => q.2))) := fun b u e => by
    rw [off b (fun z => by rw [new b z] at e; cases e) (fun z => by rw [z, newS] at e; cases e)]
    exact e
  generalize hH' : putTs (upd H1 s2.heap.objs.size (.lst (as.map V.ref))) as (List.zip (ys.map fun y => y.2.1) (L.map fun q => q.2)) = H' at atP off eS kp
  have each : ∀ (j : Nat) (t : Addr) (r : α × V), as[j]? = some t → L[j]? = some r → ∃ kr u, H' t = some (.tup [.ref kr, r.2]) ∧ Im H1 (.ref kr) (en r.1) ∧ RelV r.2 u ∧ h'.get? t = some { cls := .type "tuple", data := .seq #[.ref kr, u] } := fun j t r e1 e2 => by
    obtain ⟨y, ey, y1, y2, y3⟩ := paired_get pr e2
    have z := atP j t (y.2.1, r.2) e1 (by rw [List.getElem?_zip_eq_some]; simp [ey, e2])
    obtain ⟨hj, g⟩ := hG.pairs j t e1
    obtain ⟨y', ey', k1, k2, _⟩ := hes j hj
    rw [ey] at ey'
    cases ey'
    rw [k1, k2] at g
    exact ⟨y.2.1, y.2.2, z, y2, y3, g⟩
  refine ⟨.ref _, H', laid_many (tk := tk) I2 hk kp fun b u e1 e2 => ?_, rfl, q H' _ as kp newS eS (paired_of (by omega) fun j t r e1 e2 => ?_)⟩
  · by_cases hb : b ∈ as
    · obtain ⟨j, hj⟩ := List.getElem?_of_mem hb
      have hjl : j < L.length := by
        have := (List.getElem?_eq_some_iff.mp hj).1
        omega
      obtain ⟨kr, u0, z1, z2, z3, z4⟩ := each j b _ hj (List.getElem?_eq_getElem hjl)
      rw [z1] at e2
      cases e2
      exact ⟨Nat.le_of_lt (hG.above b hb), by show 2 ≤ sizeLine; decide, [.ref kr, u0], .cons rfl (.cons z3 .nil), ⟨_, z4, rfl, _, rfl⟩⟩
    · by_cases hb2 : b = s2.heap.objs.size
      · subst hb2
        rw [eS] at e2
        cases e2
        refine ⟨Nat.le_refl _, by rw [List.length_map]; omega, acc.toList, c, by rw [hacc]; exact refs_vals as, ?_⟩
        rw [Array.toArray_toList]
        exact hS
      · rw [off b hb hb2, e1] at e2
        cases e2
  · obtain ⟨kr, u0, z1, z2, _, _⟩ := each j t r e1 e2
    exact ⟨kr, z1, z2⟩
end
end KB
namespace KC
open PySem PySem.Spec PyProof.Rows L2 KB

/-- evaluating the element and keeping it in the new object at D -/
abbrev Col := Env → Addr → (Shared → Prop) → (Value → Shared → Prop) → Shared → Prop
/-- what a comprehension of one for is, seen from outside: how its object begins, what a turn keeps, its loop -/
structure CompKind (prog : Program) (w : World) (A : Around) (comp tg iter : Expr) (ifs : List Expr) (scope : Scope) (new : Sem Value) (ob : Obj) (col : Col) : Prop where
  clauses : clausesOf comp = [⟨tg, iter, ifs, 0⟩]
  made : ∀ (s : Shared) (Q : Value → Shared → Prop) (E : Value → Shared → Prop), Q (.ref s.heap.objs.size) { s with heap := s.heap.push ob } → wpAny (model prog w) A new Q E s
  free : ob.isFreed = false
  loop : ∀ (R : Result → Shared → Prop) (s : Shared) (it : Value) (D : Addr) (env : Env) (I : Nat → Shared → Prop),
    (∀ n s, I n s → wpAny (model prog w) A (pyNext it) (fun r s₁ => match r with
      | none => R (.ok .next) s₁
      | some v => wpAny (model prog w) A (letOwnedTupleGo tg it v) (fun _ s₂ => wpAny (model prog w) A (assign tg env v) (fun _ s₃ =>
          wpAny (model prog w) A (testsOf ifs env) (fun ok s₄ => if ok = true then col env D (fun s₅ => ∃ m, m < n ∧ I m s₅) (notedBy (model prog w) A env fun e s' => R (.error e) s') s₄ else ∃ m, m < n ∧ I m s₄)
            (notedBy (model prog w) A env fun e s' => R (.error e) s') s₃) (notedBy (model prog w) A env fun e s' => R (.error e) s') s₂) (notedBy (model prog w) A env fun e s' => R (.error e) s') s₁) (notedBy (model prog w) A env fun e s' => R (.error e) s') s) →
    ∀ n, I n s → codeAny (model prog w) A (.compLoop comp 0 it (.ref D) env) R s
  start : ∀ (R : Result → Shared → Prop) (s : Shared) (it acc : Value) (env : Env), codeAny (model prog w) A (.compLoop comp 0 it acc env) R s →
    wpAny (model prog w) A (pyIter it) (fun it' s' => codeAny (model prog w) A (.compLoop comp 0 it' acc env) R s') (notedBy (model prog w) A env fun x s' => R (.error x) s') s → codeAny (model prog w) A (.compStart comp 0 it acc env) R s
  colMono : ∀ (env : Env) (D : Addr) (Q Q' : Shared → Prop) (E E' : Value → Shared → Prop) (s : Shared), col env D Q E s → (∀ s, Q s → Q' s) → (∀ e s, E e s → E' e s) → col env D Q' E' s

/-- how a turn's keeping is told over the abstract heap -/
abbrev TCol := Addr → L2.St → Hp → (Hp → Prop) → Prop
def tCm (o0 : Addr → HO) (wi : TI) (g : TG) (tt : TT) (tc : TCol) (vs : List Nat) : TE := fun σ H Q => wi σ H fun J H1 => ∀ D, H1 D = none → ∃ W : Nat → Nat → Hp → Prop, (∃ m, W 0 m (upd H1 D (o0 D))) ∧ ∀ i m H, W i m H →
  (J.stop i H ∧ Q (.ref D) H) ∨ (J.go i H ∧ ∃ Nx : Hp → Prop, (∀ H', Nx H' → ∃ m', m' < m ∧ W (i + 1) m' H') ∧ ∀ x H', J.yld i H x H' → g x (wipe σ vs) H' fun σ2 H2 => wipe σ2 vs = wipe σ vs ∧ tt σ2 H2 fun b H3 =>
    if b = true then tc D σ2 H3 Nx else Nx H3)

section
variable {X : Cx}
abbrev Blk (X : Cx) (scope : Scope) (s : Shared) (H : Hp) (C : Addr) (cl : List (Str × Addr)) (fp : List Addr) : Cx := X.blk s H scope (compEnvC scope cl C X.env) fp
/-- the tests of a comprehension, as the model runs them -/
theorem tests_of (ifs : List Expr) (env : Env) : testsOf ifs env = (forIn ifs true fun c r => if r = true then do let ok ← isTrue c env (eval c env); pure (ForInStep.yield ok) else pure (ForInStep.yield r)) := rfl

theorem cm_core {pins : List (Addr × Obj)} {s : Shared} {σ : L2.St} {H : Hp} {Q : VK} {comp tg iter : Expr} {ifs : List Expr} {scope : Scope} {own : List (Str × Nat)} {pos' : Pos} {new : Sem Value} {ob : Obj} {col : Col} {o0 : Addr → HO}
    {wi : TI} {g : TG} {tt : TT} {tc : TCol} {use : Option (Value → Sem Unit)} {Qf : Value → Shared → Prop}
    (ck : CompKind X.prog X.w X.A comp tg iter ifs scope new ob col) (hc : X.calm = true) (hN : X.N.Nodup) (I : Inv X pins σ H s) (hi : PI X tg iter wi) (ok : BlkOk X.N X.env.scope scope own)
    (hob : ∀ (h : Heap) (H : Hp), sysModules < h.objs.size → ObjOk X.prog X.w H (h.push ob) h.objs.size (o0 h.objs.size))
    (hg : ∀ s H C cl fp, PG (Blk X scope s H C cl fp) tg g) (ht : ∀ s H C cl fp, PTs (Blk X scope s H C cl fp) ifs tt)
    (hcol : ∀ s H C cl fp (pins : List (Addr × Obj)) (s1 : Shared) (σ1 : L2.St) (H1 : Hp) (D : Addr) (N : Hp → Prop), Inv (Blk X scope s H C cl fp) pins σ1 H1 s1 → tc D σ1 H1 N →
      col (compEnvC scope cl C X.env) D (fun s2 => ∃ H2, Inv (Blk X scope s H C cl fp) pins σ1 H2 s2 ∧ N H2) (fun _ _ => False) s1)
    (hs : ∀ x, foldedSetIterable iter X.env x = pure x) (h : tCm o0 wi g tt tc (own.map (·.2)) σ H Q)
    (hRR : ∀ D C s' m H', Inv X pins σ H' s' → Q (.ref D) H' → s'.heap.Ns C m → FpOk X pins H' C → compPost (model X.prog X.w) X.A X.xe use Qf (.ref D) C (.ok .next) s') :
    wpAny (model X.prog X.w) X.A (comprehension comp scope X.env pos' new false (eval iter X.env) use) Qf X.xe s := by
  have hfree : ∀ y ∈ scope.names, y.2 = .free → ∃ c, X.env.cells.lookup y.1 = some c := fun y hy e => (ok.free y hy e).elim (fun k => I.ok.has _ (.inl k)) fun k => I.ok.has _ (.inr k)
  refine wpAny_comprehension_free (use := use) ck.clauses hs (closure_ok hfree) ok.kind (fun y hy e => by rw [ok.uniq y hy, e])
    (thn (hi.run pins s σ H _ I h) fun xv s1 hx => thn hx fun itv s2 h2 => ?_)
  obtain ⟨it, fp, tn, J, H2, e, I2, T, st2, f2, q⟩ := h2
  subst e
  refine ck.made _ _ _ (newEnv_comp ?_)
  have szD := Nat.le_refl s2.heap.objs.size
  obtain ⟨W, ⟨m0, w0⟩, turn⟩ := q s2.heap.objs.size (I2.hok.fresh szD)
  -- the object laid
  have I3 : Inv X pins σ (upd H2 s2.heap.objs.size (o0 s2.heap.objs.size)) { s2 with heap := s2.heap.push ob } := I2.laid (t' := s2.toks) (fun b o e => Heap.get?_push_of_some _ e) szD (hob _ _ I2.big)
  have low : ∀ b ∈ fp, b < s2.heap.objs.size := fun b hb => let ⟨o, e, _⟩ := T.obj _ _ st2 b hb; Heap.lt_size e
  have f3 : ∀ b ∈ fp, FpOk X pins (upd H2 s2.heap.objs.size (o0 s2.heap.objs.size)) b ∧ b < (s2.heap.push ob).objs.size := fun b hb =>
    ⟨⟨by rw [upd_ne (Nat.ne_of_lt (low b hb))]; exact (f2 b hb).1, (f2 b hb).2⟩, by rw [Heap.size_push]; exact Nat.lt_succ_of_lt (low b hb)⟩
  have st3 : tn 0 (s2.heap.push ob) := T.keep _ _ _ st2 fun b _ o e => Heap.get?_push_of_some _ e
  generalize hDD : s2.heap.objs.size = D at *
  generalize hs3 : ({ s2 with heap := s2.heap.push ob } : Shared) = s3 at I3
  have h3 : s2.heap.push ob = s3.heap := by rw [← hs3]
  rw [h3] at f3 st3
  have I4 := block_start I3 ok hN f3
  have pg : PG (X.blk s3 (upd H2 D (o0 D)) scope (compEnvC scope (cellsFrom (s3.heap.objs.size + 1) scope.names (cloFrom X.env.cells scope.names [])) s3.heap.objs.size X.env) fp) tg g := hg s3 (upd H2 D (o0 D)) s3.heap.objs.size (cellsFrom (s3.heap.objs.size + 1) scope.names (cloFrom X.env.cells scope.names [])) fp
  have pt : PTs (X.blk s3 (upd H2 D (o0 D)) scope (compEnvC scope (cellsFrom (s3.heap.objs.size + 1) scope.names (cloFrom X.env.cells scope.names [])) s3.heap.objs.size X.env) fp) ifs tt := ht s3 (upd H2 D (o0 D)) s3.heap.objs.size (cellsFrom (s3.heap.objs.size + 1) scope.names (cloFrom X.env.cells scope.names [])) fp
  have pc : ∀ (pins : List (Addr × Obj)) (s1 : Shared) (σ1 : L2.St) (H1 : Hp) (D' : Addr) (N : Hp → Prop), Inv (X.blk s3 (upd H2 D (o0 D)) scope (compEnvC scope (cellsFrom (s3.heap.objs.size + 1) scope.names (cloFrom X.env.cells scope.names [])) s3.heap.objs.size X.env) fp) pins σ1 H1 s1 → tc D' σ1 H1 N →
      col (compEnvC scope (cellsFrom (s3.heap.objs.size + 1) scope.names (cloFrom X.env.cells scope.names [])) s3.heap.objs.size X.env) D' (fun s2' => ∃ H2', Inv (X.blk s3 (upd H2 D (o0 D)) scope (compEnvC scope (cellsFrom (s3.heap.objs.size + 1) scope.names (cloFrom X.env.cells scope.names [])) s3.heap.objs.size X.env) fp) pins σ1 H2' s2' ∧ N H2') (fun _ _ => False) s1 := hcol s3 (upd H2 D (o0 D)) s3.heap.objs.size (cellsFrom (s3.heap.objs.size + 1) scope.names (cloFrom X.env.cells scope.names [])) fp
  show codeAny _ _ (.compStart comp 0 (.ref it) (.ref D) (compEnvC scope (cellsFrom (s3.heap.objs.size + 1) scope.names (cloFrom X.env.cells scope.names [])) s3.heap.objs.size X.env)) (compPost (model X.prog X.w) X.A X.xe use Qf (.ref D) s3.heap.objs.size) { s3 with heap := pushCells (s3.heap.push { cls := .type "dict", data := .dict #[] }) scope.names }
  have nfp : ∀ b ∈ fp, (upd H2 D (o0 D)) b = none := fun b hb => (f3 b hb).1.1
  generalize hce : compEnvC scope (cellsFrom (s3.heap.objs.size + 1) scope.names (cloFrom X.env.cells scope.names [])) s3.heap.objs.size X.env = ce at I4 pg pt pc ⊢
  have cL : ce.locals = s3.heap.objs.size := by subst hce; rfl
  generalize hH3 : upd H2 D (o0 D) = H3 at I3 I4 pg pt pc w0 nfp f3
  have st4 : tn 0 (pushCells (s3.heap.push { cls := .type "dict", data := .dict #[] }) scope.names) := T.keep _ _ _ st3 fun b _ o e => pushCells_keeps _ _ _ _ (Heap.get?_push_of_some _ e)
  have stat : ∀ {σ' : L2.St} {H' : Hp} {s' : Shared}, Inv (X.blk s3 H3 scope ce fp) [] σ' H' s' → (∀ b ∈ fp, H' b = none) → ∀ b ∈ fp, FpOk (X.blk s3 H3 scope ce fp) [] H' b := fun {σ' H' s'} I' hn b hb =>
    ⟨hn b hb, (I'.ok.exf b hb).1, I'.ok.exfs b hb, .inl hb, fun x c e => (I'.ok.exf b hb).2 x c e, fun p hp => nomatch (show p ∈ ([] : List (Addr × Obj)) from hp)⟩
  have run : codeAny (model X.prog X.w) X.A (.compLoop comp 0 (.ref it) (.ref D) ce) (compPost (model X.prog X.w) X.A X.xe use Qf (.ref D) s3.heap.objs.size) { s3 with heap := pushCells (s3.heap.push { cls := .type "dict", data := .dict #[] }) scope.names } := by
    refine ck.loop _ _ _ _ _ (fun n s' => ∃ i H', Inv (X.blk s3 H3 scope ce fp) [] (wipe σ (own.map (·.2))) H' s' ∧ tn i s'.heap ∧ (∀ b ∈ fp, H' b = none) ∧ W i n H') ?_ m0 ⟨0, H3, I4, st4, nfp, w0⟩
    rintro n s5 ⟨i, H5, I5, st5, n5, w5⟩
    rcases turn i n H5 w5 with ⟨stop, qq⟩ | ⟨go, Nx, hNx, step⟩
    · refine thnF (T.done (X.blk s3 H3 scope ce fp) rfl rfl rfl hc i [] s5 _ H5 (fun _ _ => False) I5 (stat I5 n5) st5 stop) fun r s6 ⟨hr, I6⟩ => ?_
      subst hr
      have I7 : Inv X pins σ H5 s6 := I3.call' (ch := fp) I6.os I6.base I6.hok I6.bare fun b hb => ⟨(f3 b hb).1.2.2.2.1, (f3 b hb).1.2.1, (f3 b hb).1.2.2.2.2.1, (f3 b hb).1.2.2.2.2.2⟩
      have nC : H5 ce.locals = none := I6.free
      obtain ⟨m, hn, _⟩ := I6.loc
      have hn : s6.heap.Ns ce.locals m := hn
      rw [cL] at hn nC
      exact hRR D s3.heap.objs.size s6 m H5 I7 qq hn (I3.fpOk (Nat.le_refl _) nC)
    · refine thnF (T.item (X.blk s3 H3 scope ce fp) rfl rfl rfl hc i [] s5 _ H5 (fun _ _ => False) I5 (stat I5 n5) st5 go) fun r s6 ⟨u, hr, h6⟩ => ?_
      subst hr
      refine thnF h6 fun _ s7 ⟨x, H7, I7, r7, y7, st7, n7⟩ => ?_
      have I7' := I7.pinned (stat I7 n7) (T.obj _ _ st7)
      refine thnF (pg.run _ s7 _ H7 x u _ I7' r7 (step x H7 y7)) fun _ s8 ⟨σ8, H8, I8, hw8, q8⟩ => ?_
      refine thnF (pt.run _ s8 σ8 H8 _ I8 q8) fun b s9 ⟨H9, I9, q9⟩ => ?_
      have fin : ∀ {s' : Shared} {H' : Hp}, Inv (X.blk s3 H3 scope ce fp) ([] ++ pinsAt fp s7.heap) σ8 H' s' → Nx H' →
          ∃ m, m < n ∧ ∃ i H', Inv (X.blk s3 H3 scope ce fp) [] (wipe σ (own.map (·.2))) H' s' ∧ tn i s'.heap ∧ (∀ b ∈ fp, H' b = none) ∧ W i m H' := fun {s' H'} I' nx => by
        obtain ⟨m', hm, w'⟩ := hNx H' nx
        have pin' : ∀ b ∈ fp, ∀ o, s7.heap.get? b = some o → s'.heap.get? b = some o ∧ H' b = none := fun b hb o e =>
          let z := I'.pin (b, o) (List.mem_append_right _ (List.mem_append_right _ (mem_pinsAt hb e)))
          ⟨z.1, z.2.1⟩
        refine ⟨m', hm, i + 1, H', (I'.unpinned (pins := [])).weak (by rw [← hw8, wipe_length]) (fun j v e => ?_), T.keep _ _ _ st7 fun b hb o e => (pin' b hb o e).1, fun b hb => ?_, w'⟩
        · rw [← hw8] at e
          exact (wipe_some e).1
        · obtain ⟨o, e, _⟩ := T.obj _ _ st7 b hb
          exact (pin' b hb o e).2
      cases b with
      | false =>
        simp only [Bool.false_eq_true, if_false] at q9 ⊢
        exact fin I9 q9
      | true =>
        simp only [if_true] at q9 ⊢
        exact ck.colMono _ _ _ _ _ _ _ (pc _ s9 σ8 H9 D Nx I9 q9) (fun s10 ⟨H10, I10, nx⟩ => fin I10 nx) fun _ _ z => z.elim
  exact ck.start _ _ _ _ _ run (T.self X.A 0 _ _ _ st4 run)
/-- as a value -/
theorem pe_cm {comp tg iter : Expr} {ifs : List Expr} {scope : Scope} {own : List (Str × Nat)} {pos' : Pos} {new : Sem Value} {ob : Obj} {col : Col} {o0 : Addr → HO}
    {wi : TI} {g : TG} {tt : TT} {tc : TCol} (he : eval comp X.env = comprehension comp scope X.env pos' new false (eval iter X.env) none)
    (ck : CompKind X.prog X.w X.A comp tg iter ifs scope new ob col) (hc : X.calm = true) (hN : X.N.Nodup) (hi : PI X tg iter wi) (ok : BlkOk X.N X.env.scope scope own)
    (hob : ∀ (h : Heap) (H : Hp), sysModules < h.objs.size → ObjOk X.prog X.w H (h.push ob) h.objs.size (o0 h.objs.size))
    (hg : ∀ s H C cl fp, PG (Blk X scope s H C cl fp) tg g) (ht : ∀ s H C cl fp, PTs (Blk X scope s H C cl fp) ifs tt)
    (hcol : ∀ s H C cl fp (pins : List (Addr × Obj)) (s1 : Shared) (σ1 : L2.St) (H1 : Hp) (D : Addr) (N : Hp → Prop), Inv (Blk X scope s H C cl fp) pins σ1 H1 s1 → tc D σ1 H1 N →
      col (compEnvC scope cl C X.env) D (fun s2 => ∃ H2, Inv (Blk X scope s H C cl fp) pins σ1 H2 s2 ∧ N H2) (fun _ _ => False) s1)
    (hs : ∀ x, foldedSetIterable iter X.env x = pure x) : PE X comp (tCm o0 wi g tt tc (own.map (·.2))) := by
  refine ⟨fun pins s σ H Q I h => ?_⟩
  rw [he]
  refine cm_core ck hc hN I hi ok hob hg ht hcol hs h fun D C s' m H' I' q hn f => ⟨m, hn, fun h'' sb => ?_⟩
  obtain ⟨f0, f1, f2, f3, f4, f5⟩ := f
  exact ⟨.ref D, H', I'.turned (t' := s'.toks) (fun b o hb e => (sb.2 b hb).trans e) f0 f1 f3 f4 f5, rfl, q⟩
/-- name = {..} on one line, the name a local -/
theorem ps_setCm {i : Nat} {y : Str} {py spos : Pos} {comp tg iter : Expr} {ifs : List Expr} {scope : Scope} {own : List (Str × Nat)} {pos' : Pos} {new : Sem Value} {ob : Obj} {col : Col} {o0 : Addr → HO}
    {wi : TI} {g : TG} {tt : TT} {tc : TCol} (hy : X.N[i]? = some y) (hyl : X.env.scope.names.lookup y = some .local) (hsw : swapsWith comp (some (.Name y py)) spos.line X.env = pure true)
    (he : evalThenUse comp X.env (assign (.Name y py) X.env) = (do let _ ← comprehension comp scope X.env pos' new false (eval iter X.env) (some (assign (.Name y py) X.env))))
    (ck : CompKind X.prog X.w X.A comp tg iter ifs scope new ob col) (hc : X.calm = true) (hN : X.N.Nodup) (hi : PI X tg iter wi) (ok : BlkOk X.N X.env.scope scope own)
    (hob : ∀ (h : Heap) (H : Hp), sysModules < h.objs.size → ObjOk X.prog X.w H (h.push ob) h.objs.size (o0 h.objs.size))
    (hg : ∀ s H C cl fp, PG (Blk X scope s H C cl fp) tg g) (ht : ∀ s H C cl fp, PTs (Blk X scope s H C cl fp) ifs tt)
    (hcol : ∀ s H C cl fp (pins : List (Addr × Obj)) (s1 : Shared) (σ1 : L2.St) (H1 : Hp) (D : Addr) (N : Hp → Prop), Inv (Blk X scope s H C cl fp) pins σ1 H1 s1 → tc D σ1 H1 N →
      col (compEnvC scope cl C X.env) D (fun s2 => ∃ H2, Inv (Blk X scope s H C cl fp) pins σ1 H2 s2 ∧ N H2) (fun _ _ => False) s1)
    (hs : ∀ x, foldedSetIterable iter X.env x = pure x) : PS X (.Assign [.Name y py] comp spos) (tAsg (tCm o0 wi g tt tc (own.map (·.2))) (gName i)) := by
  refine ⟨fun pins s σ H D I h => ?_⟩
  rw [exec_Assign_Name_used _ _ _ _ hsw]
  refine wpAny_bind (wpAny_standAt (wpAny_bind ?_))
  rw [he]
  have h : tCm o0 wi g tt tc (own.map (·.2)) σ H (fun x H1 => gName i x σ H1 D.nx) := h
  refine wpAny_bind (thn (cm_core (Qf := fun _ s' => SP X pins D .next s') ck hc hN I hi ok hob hg ht hcol hs h fun L C s' m H' I' q hn f => ?_) fun _ s' hq => wpAny_pure (wpAny_pure hq))
  show wpAny _ _ (assign (.Name y py) X.env (.ref L)) _ _ _
  refine wpAny_assign_Name (store_ok2 (v := V.ref L) I' hN hy (.inl hyl) rfl (fun s2 I2 ⟨a, sb, ha⟩ => ?_) (.inr hyl))
  obtain ⟨f0, f1, f2, f3, f4, f5⟩ := f
  have haC : C ≠ a := ha.elim (fun z => by rw [z]; exact f1) fun z e => f4 y a z e.symm
  exact ⟨m, hn.sameBut sb haC, fun h3 sb3 => ⟨_, H', I2.turned (t' := s2.toks) (fun b o hb e => (sb3.2 b hb).trans e) f0 f1 f3 f4 f5, q⟩⟩
end
end KC
namespace KC
open PySem PySem.Spec PyProof.Rows L2 KB

/-! ### how many different ones -/
section
variable {α : Type} [DecidableEq α]
def dd : List α → List α
  | [] => []
  | x :: xs => if x ∈ dd xs then dd xs else x :: dd xs
theorem mem_dd {a : α} : ∀ {l : List α}, a ∈ dd l ↔ a ∈ l
  | [] => Iff.rfl
  | x :: xs => by
    have ih := mem_dd (a := a) (l := xs)
    unfold dd
    split
    · rename_i h
      rw [ih, List.mem_cons]
      constructor
      · exact .inr
      · rintro (rfl | h2)
        · exact ih.mp h
        · exact h2
    · rw [List.mem_cons, List.mem_cons, ih]
theorem nodup_dd : ∀ l : List α, (dd l).Nodup
  | [] => List.nodup_nil
  | x :: xs => by
    unfold dd
    split
    · exact nodup_dd xs
    · rename_i h
      exact List.nodup_cons.mpr ⟨h, nodup_dd xs⟩
def cnt (l : List α) : Nat := (dd l).length
theorem nodup_len_le : ∀ {l m : List α}, l.Nodup → (∀ x ∈ l, x ∈ m) → l.length ≤ m.length
  | [], _, _, _ => Nat.zero_le _
  | x :: xs, m, h, hs => by
    obtain ⟨h1, h2⟩ := List.nodup_cons.mp h
    have hx : x ∈ m := hs x (List.mem_cons_self ..)
    have := nodup_len_le (l := xs) (m := m.erase x) h2 fun y hy => (List.mem_erase_of_ne (fun e => h1 (by rw [← e]; exact hy))).mpr (hs y (List.mem_cons_of_mem _ hy))
    rw [List.length_erase_of_mem hx] at this
    have hp : 0 < m.length := List.length_pos_of_mem hx
    rw [List.length_cons]
    omega
theorem cnt_of {l m : List α} (h : l.Nodup) (e : ∀ x, x ∈ l ↔ x ∈ m) : l.length = cnt m :=
  Nat.le_antisymm (nodup_len_le h fun x hx => mem_dd.mpr ((e x).mp hx)) (nodup_len_le (nodup_dd m) fun x hx => (e x).mpr (mem_dd.mp hx))
theorem cnt_le (l : List α) : cnt l ≤ l.length := nodup_len_le (nodup_dd l) fun x hx => mem_dd.mp hx
theorem cnt_congr {l m : List α} (e : ∀ x, x ∈ l ↔ x ∈ m) : cnt l = cnt m := cnt_of (nodup_dd l) fun x => mem_dd.trans (e x)
end

/-! ### sets of ints -/
theorem step_facts : ∀ (ns acc : List Int), acc.Nodup → (ns.foldl step_dedup acc).Nodup ∧ ∀ x, x ∈ ns.foldl step_dedup acc ↔ (x ∈ acc ∨ x ∈ ns)
  | [], acc, h => ⟨h, fun x => by simp⟩
  | n :: ns, acc, h => by
    show (ns.foldl step_dedup (step_dedup acc n)).Nodup ∧ _
    by_cases c : acc.any (· == n) = true
    · have e : step_dedup acc n = acc := by unfold step_dedup; rw [if_pos c]
      have hn : n ∈ acc := by simpa using c
      obtain ⟨q1, q2⟩ := step_facts ns acc h
      show (ns.foldl step_dedup (step_dedup acc n)).Nodup ∧ ∀ x, x ∈ ns.foldl step_dedup (step_dedup acc n) ↔ _
      rw [e]
      refine ⟨q1, fun x => ?_⟩
      rw [q2, List.mem_cons]
      constructor
      · rintro (z | z)
        · exact .inl z
        · exact .inr (.inr z)
      · rintro (z | rfl | z)
        · exact .inl z
        · exact .inl hn
        · exact .inr z
    · have e : step_dedup acc n = acc ++ [n] := by unfold step_dedup; rw [if_neg c]
      have hn : ¬ n ∈ acc := fun z => c (by simpa using z)
      have h' : (acc ++ [n]).Nodup := nd_snoc h hn
      obtain ⟨q1, q2⟩ := step_facts ns (acc ++ [n]) h'
      show (ns.foldl step_dedup (step_dedup acc n)).Nodup ∧ ∀ x, x ∈ ns.foldl step_dedup (step_dedup acc n) ↔ _
      rw [e]
      refine ⟨q1, fun x => ?_⟩
      rw [q2, List.mem_append, List.mem_singleton, List.mem_cons, or_assoc]
theorem range_getD : ∀ ns : List Int, (List.range ns.length).map (fun i => ns.getD i 0) = ns := fun ns => by
  apply List.ext_getElem
  · simp
  · intro i h1 h2
    simp [List.getElem?_eq_getElem h2]
theorem ints_vals : ∀ {ns : List Int} {us : List Value}, Vals (ns.map V.int) us → IntsAre us ns
  | [], _, r => by cases r; exact .nil
  | n :: ns, _, r => by
    cases r with
    | cons r t =>
      obtain ⟨k, rfl⟩ := r
      exact .cons n k (ints_vals t)
theorem set_congr {P : Program} {w : World} {h : Heap} {a : Addr} {S S' : Int → Bool} {n : Nat} (r : h.SetOf (intKind P w) a S n) (e : ∀ k, S k = S' k) : h.SetOf (intKind P w) a S' n := by
  have : S = S' := funext e
  rw [← this]
  exact r
def rSetI (K : PySem.W.Frag) : List V → Hp → VK → Prop := fun xs H Q => ∃ (l : Addr) (ns : List Int), xs = [.ref l] ∧ SqL K H l (ns.map V.int) ∧ ns.length ≤ 4000 ∧ ∀ (p : Addr) (S : Int → Bool), H p = none → (∀ k, S k = true ↔ k ∈ ns) → Q (.ref p) (upd H p (.set S (cnt ns)))
theorem call_setI {X : Cx} (hc : X.calm = true) : CallR X (.type "set") (rSetI X.K) := by
  intro pins s σ H xs us Q I r h
  obtain ⟨l, ns, rfl, hq, hl, q⟩ := h
  obtain ⟨u, rfl, rx⟩ := vals1 r
  obtain rfl : u = .ref l := rx
  obtain ⟨its, rv, pl, hz⟩ := I.list hq
  have hlen : its.toArray.size = ns.length := by rw [List.size_toArray, ← rv.length, List.length_map]
  refine call_set_list (I.ok.hd hc) pl.isList (by simpa using ints_vals rv) (by rw [hlen]; unfold scanBound; omega) fun h' tk hS hk => ?_
  have e : firstMet (fun i => ns.getD i 0) its.toArray.size = ns.foldl step_dedup [] := by
    rw [hlen]
    unfold firstMet
    rw [range_getD]
  rw [e] at hS
  obtain ⟨f1, f2⟩ := step_facts ns [] List.nodup_nil
  have hc : (ns.foldl step_dedup []).length = cnt ns := cnt_of f1 fun x => by rw [f2]; simp
  rw [hc] at hS
  refine ⟨.ref _, _, I.laid (a := s.heap.objs.size) (o := .set (fun k => (ns.foldl step_dedup []).any (· == k)) (cnt ns)) (t' := tk) (fun b o e => hk b o (Heap.lt_size e) e) (Nat.le_refl _) hS, rfl, q _ _ (I.hok.fresh (Nat.le_refl _)) fun k => ?_⟩
  rw [List.any_eq_true]
  constructor
  · rintro ⟨x, hx, hk⟩
    have hk : x = k := by simpa using hk
    subst hk
    exact ((f2 x).mp hx).elim (fun z => nomatch z) id
  · intro hk
    exact ⟨k, (f2 k).mpr (.inr hk), by simp⟩
def rLenSet : List V → Hp → VK → Prop := fun xs H Q => ∃ (p : Addr) (S : Int → Bool) (n : Nat), xs = [.ref p] ∧ H p = some (.set S n) ∧ Q (.int (n : Nat)) H
theorem call_lenSet {X : Cx} : CallR X (.builtin "len") rLenSet := by
  intro pins s σ H xs us Q I r h
  obtain ⟨p, S, n, rfl, hp, q⟩ := h
  obtain ⟨u, rfl, rx⟩ := vals1 r
  obtain rfl : u = .ref p := rx
  obtain ⟨o, es, ep, t, ho, hex, hd, _, _, hb, hf, hn⟩ := I.hok p _ hp
  exact call_len_set ho hex hd hf (by unfold scanBound at hb; omega) ⟨.int (n : Nat), H, I.tok _, ⟨_, by rw [hn]⟩, q⟩

/-! ### {e for x in ..}, ints -/
section
variable {X : Cx}
def colS (prog : Program) (w : World) (A : Around) (elt : Expr) : Col := fun env D Q E s =>
  wpAny (model prog w) A (eval elt env) (fun x s1 => wpAny (model prog w) A (call (.builtin "set.add") [.ref D, x]) (fun _ s2 => Q s2) E s1) E s
def setObj (w : World) : Obj := { cls := .type "set", dict := none, data := .set #[] 0 (.fresh 0 0 (!w.params.followText "set-order")) }
theorem kind_set {prog : Program} {w : World} {A : Around} {elt tg iter : Expr} {ifs : List Expr} {scope : Scope} {pos : Pos} : CompKind prog w A (.SetComp elt [⟨tg, iter, ifs, 0⟩] scope pos) tg iter ifs scope (newSet (.type "set")) (setObj w) (colS prog w A elt) where
  clauses := rfl
  made := fun s Q E h => PpSet.newSet_ok h
  free := rfl
  loop := fun R s it D env I turn n h => compLoop_set_any I turn n h
  start := fun R s it acc env h0 h => codeAny_compStart_set h0 h
  colMono := fun env D Q Q' E E' s h hq he => wpAny_mono h (fun x s1 h1 => wpAny_mono h1 (fun _ s2 h2 => hq s2 h2) he) he
def tcS (te : TE) : TCol := fun D σ H N => te σ H fun y H1 => ∃ (i : Int) (S : Int → Bool) (n : Nat), y = .int i ∧ H1 D = some (.set S n) ∧ n + 1 < scanBound ∧ N (upd H1 D (.set (fun j => S j || decide (j = i)) (if S i = true then n else n + 1)))
theorem set_start (w : World) (P : Program) (h : Heap) (H : Hp) : ObjOk P w H (h.push (setObj w)) h.objs.size (.set (fun _ => false) 0) :=
  ⟨_, #[], 0, _, Heap.get?_push_size _ rfl, ⟨rfl, rfl, rfl⟩, rfl, fun e he => by simp at he, fun k => by simp, by decide, rfl, rfl⟩
theorem colS_ok {scope : Scope} {elt : Expr} {te : TE} (he : ∀ s H C cl fp, PE (Blk X scope s H C cl fp) elt te) (s : Shared) (H : Hp) (C : Addr) (cl : List (Str × Addr)) (fp : List Addr) (pins : List (Addr × Obj)) (s1 : Shared) (σ1 : L2.St) (H1 : Hp) (D : Addr) (N : Hp → Prop)
    (I : Inv (Blk X scope s H C cl fp) pins σ1 H1 s1) (h : tcS te D σ1 H1 N) : colS X.prog X.w X.A elt (compEnvC scope cl C X.env) D (fun s2 => ∃ H2, Inv (Blk X scope s H C cl fp) pins σ1 H2 s2 ∧ N H2) (fun _ _ => False) s1 := by
  refine thnF ((he s H C cl fp).run pins s1 σ1 H1 _ I h) fun u s2 ⟨y, H2, I2, ry, i, S, n, ey, hD, hb, nx⟩ => ?_
  subst ey
  obtain ⟨t, rfl⟩ := ry
  have hS : s2.heap.SetOf (intKind X.prog X.w) D S n := I2.hok D _ hD
  refine call_set_add (k := i) (intKind_is _ _ _ _) rfl hS hb fun h' sb hS' => ⟨_, ?_, nx⟩
  obtain ⟨o', _, _, _, e', _⟩ := id hS'
  exact d_write (t' := s2.toks + 1) I2 (by rw [hD]; exact True.intro) sb ⟨o', e'⟩ hS'
/-- {elt for tg in iter if ..}, the elements ints -/
theorem pe_setC {elt tg iter : Expr} {ifs : List Expr} {scope : Scope} {own : List (Str × Nat)} {pos : Pos} {wi : TI} {g : TG} {tt : TT} {te : TE} (hc : X.calm = true) (hN : X.N.Nodup) (hi : PI X tg iter wi) (ok : BlkOk X.N X.env.scope scope own)
    (hg : ∀ s H C cl fp, PG (Blk X scope s H C cl fp) tg g) (ht : ∀ s H C cl fp, PTs (Blk X scope s H C cl fp) ifs tt) (he : ∀ s H C cl fp, PE (Blk X scope s H C cl fp) elt te) (hs : ∀ x, foldedSetIterable iter X.env x = pure x := by intro _; rfl) :
    PE X (.SetComp elt [⟨tg, iter, ifs, 0⟩] scope pos) (tCm (fun _ => .set (fun _ => false) 0) wi g tt (tcS te) (own.map (·.2))) :=
  pe_cm rfl kind_set hc hN hi ok (fun h H _ => set_start X.w X.prog h H) hg ht (colS_ok he) hs

/-! ### {k: v for x in ..}, keys nested tuples -/
def colD (prog : Program) (w : World) (A : Around) (kx vx : Expr) : Col := fun env D Q E s =>
  wpAny (model prog w) A (eval kx env) (fun kv s1 => wpAny (model prog w) A (eval vx env) (fun vv s2 => wpAny (model prog w) A (dictSet D kv vv) (fun _ s3 => Q s3) E s2) E s1) E s
theorem kind_dict {prog : Program} {w : World} {A : Around} {kx vx tg iter : Expr} {ifs : List Expr} {scope : Scope} {pos : Pos} : CompKind prog w A (.DictComp kx vx [⟨tg, iter, ifs, 0⟩] scope pos) tg iter ifs scope newDict { cls := .type "dict", data := .dict #[] } (colD prog w A kx vx) where
  clauses := rfl
  made := fun s Q E h => wpAny_newObj_type h
  free := rfl
  loop := fun R s it D env I turn n h => compLoop_anyD I turn n h
  start := fun R s it acc env h0 h => codeAny_compStart_dict h0 h
  colMono := fun env D Q Q' E E' s h hq he => wpAny_mono h (fun x s1 h1 => wpAny_mono h1 (fun _ s2 h2 => wpAny_mono h2 (fun _ s3 h3 => hq s3 h3) he) he) he
section
variable {α : Type} [DecidableEq α] {en : α → PyData}
def tcD (P : Program) (w : World) (en : α → PyData) (tk tv : TE) : TCol := fun D σ H N => tk σ H fun y H1 => tv σ H1 fun z H2 => ∃ (L : List (α × V)) (a : α), TDw P w en H2 D L ∧ Im H2 y (en a) ∧ L.length < sizeLine ∧ ∀ H3, But D H2 H3 → TDw P w en H3 D (putK L a z) → N H3
theorem dict_start (w : World) (P : Program) (h : Heap) (H : Hp) (hb : sysModules < h.objs.size) : ObjOk P w H (h.push { cls := .type "dict", data := .dict #[] }) h.objs.size (NdO P w h.objs.size []) :=
  nd_obj ⟨beq_eq_false_iff_ne.mpr (Ne.symm (Nat.ne_of_lt hb)), Nat.zero_le _, [], .nil, _, #[], 0, Heap.get?_push_size _ rfl, ⟨rfl, rfl, rfl⟩, rfl, rfl, List.nodup_nil⟩
theorem td_nil {P : Program} {w : World} {H : Hp} {D : Addr} : TDw P w en (upd H D (NdO P w D [])) D [] := ⟨[], upd_same, .nil⟩
theorem colD_ok (hE : Enc en) (hu : X.A.units + 64 < cLine) {scope : Scope} {kx vx : Expr} {tk tv : TE} (hk : ∀ s H C cl fp, PE (Blk X scope s H C cl fp) kx tk) (he : ∀ s H C cl fp, PE (Blk X scope s H C cl fp) vx tv) (s : Shared) (H : Hp) (C : Addr) (cl : List (Str × Addr)) (fp : List Addr) (pins : List (Addr × Obj)) (s1 : Shared) (σ1 : L2.St) (H1 : Hp) (D : Addr) (N : Hp → Prop)
    (I : Inv (Blk X scope s H C cl fp) pins σ1 H1 s1) (h : tcD X.prog X.w en tk tv D σ1 H1 N) : colD X.prog X.w X.A kx vx (compEnvC scope cl C X.env) D (fun s2 => ∃ H2, Inv (Blk X scope s H C cl fp) pins σ1 H2 s2 ∧ N H2) (fun _ _ => False) s1 := by
  refine thnF ((hk s H C cl fp).run pins s1 σ1 H1 _ I h) fun u s2 ⟨y, H2, I2, ry, q2⟩ => ?_
  refine thnF ((he s H C cl fp).run pins s2 σ1 H2 _ I2 q2) fun u2 s3 ⟨z, H3, I3, rz, L, a, t, hy, hz, q3⟩ => ?_
  obtain ⟨p, rfl⟩ := hE.ref hy
  cases ry
  have I3' : Inv (Blk X scope s H C cl fp) pins σ1 H3 s3 := I3
  obtain ⟨ys, dd, hsz, fin⟩ := td_put (X := Blk X scope s H C cl fp) hE I3 t hz hy rz
  refine wpAny_dictSet_heap (hsz := hsz) (room_of0 hu) (key_is (X := Blk X scope s H C cl fp) hE I3 hy) dd fun h' hm' hs => ?_
  obtain ⟨H', b, t', I'⟩ := fin h' _ hm' hs
  exact ⟨H', I', q3 H' b t'⟩
theorem pe_dictC (hE : Enc en) (hu : X.A.units + 64 < cLine) {kx vx tg iter : Expr} {ifs : List Expr} {scope : Scope} {own : List (Str × Nat)} {pos : Pos} {wi : TI} {g : TG} {tt : TT} {tk tv : TE} (hc : X.calm = true) (hN : X.N.Nodup) (hi : PI X tg iter wi) (ok : BlkOk X.N X.env.scope scope own)
    (hg : ∀ s H C cl fp, PG (Blk X scope s H C cl fp) tg g) (ht : ∀ s H C cl fp, PTs (Blk X scope s H C cl fp) ifs tt) (hk : ∀ s H C cl fp, PE (Blk X scope s H C cl fp) kx tk) (he : ∀ s H C cl fp, PE (Blk X scope s H C cl fp) vx tv) (hs : ∀ x, foldedSetIterable iter X.env x = pure x := by intro _; rfl) :
    PE X (.DictComp kx vx [⟨tg, iter, ifs, 0⟩] scope pos) (tCm (fun D => NdO X.prog X.w D []) wi g tt (tcD X.prog X.w en tk tv) (own.map (·.2))) :=
  pe_cm rfl kind_dict hc hN hi ok (fun h H hb => dict_start X.w X.prog h H hb) hg ht (colD_ok hE hu hk he) hs
theorem ps_dictC (hE : Enc en) (hu : X.A.units + 64 < cLine) {i : Nat} {y : Str} {py spos : Pos} {kx vx tg iter : Expr} {ifs : List Expr} {scope : Scope} {own : List (Str × Nat)} {pos : Pos} {wi : TI} {g : TG} {tt : TT} {tk tv : TE} (hy : X.N[i]? = some y) (hyl : X.env.scope.names.lookup y = some .local)
    (hsw : swapsWith (.DictComp kx vx [⟨tg, iter, ifs, 0⟩] scope pos) (some (.Name y py)) spos.line X.env = pure true) (hc : X.calm = true) (hN : X.N.Nodup) (hi : PI X tg iter wi) (ok : BlkOk X.N X.env.scope scope own)
    (hg : ∀ s H C cl fp, PG (Blk X scope s H C cl fp) tg g) (ht : ∀ s H C cl fp, PTs (Blk X scope s H C cl fp) ifs tt) (hk : ∀ s H C cl fp, PE (Blk X scope s H C cl fp) kx tk) (he : ∀ s H C cl fp, PE (Blk X scope s H C cl fp) vx tv) (hs : ∀ x, foldedSetIterable iter X.env x = pure x := by intro _; rfl) :
    PS X (.Assign [.Name y py] (.DictComp kx vx [⟨tg, iter, ifs, 0⟩] scope pos) spos) (tAsg (tCm (fun D => NdO X.prog X.w D []) wi g tt (tcD X.prog X.w en tk tv) (own.map (·.2))) (gName i)) :=
  ps_setCm hy hyl hsw rfl kind_dict hc hN hi ok (fun h H hb => dict_start X.w X.prog h H hb) hg ht (colD_ok hE hu hk he) hs

/-! ### {}, {k: v} -/
def tNNew (P : Program) (w : World) : TE := fun _ H Q => ∀ p, H p = none → Q (.ref p) (upd H p (NdO P w p []))
theorem pe_nnew {pos : Pos} : PE X (.Dict [] [] pos) (tNNew X.prog X.w) := ⟨fun pins s σ H Q I h =>
  wpAny_Dict_empty ⟨.ref s.heap.objs.size, _, I.laid (a := s.heap.objs.size) (o := NdO X.prog X.w s.heap.objs.size []) (t' := s.toks) (fun _ _ q => Heap.get?_push_of_some _ q) (Nat.le_refl _) (dict_start X.w X.prog s.heap _ I.big), rfl, h _ (I.hok.fresh (Nat.le_refl _))⟩⟩
def tNOne (P : Program) (w : World) (en : α → PyData) (tk tv : TE) : TE := fun σ H Q => ∀ p, H p = none → tk σ (upd H p (NdO P w p [])) fun y H1 => tv σ H1 fun z H2 => ∃ a : α, TDw P w en H2 p [] ∧ Im H2 y (en a) ∧ ∀ H3, But p H2 H3 → TDw P w en H3 p [(a, z)] → Q (.ref p) H3
theorem pe_none1 (hE : Enc en) (hu : X.A.units + 64 < cLine) {k v : Expr} {pos : Pos} {tk tv : TE} (hk : PE X k tk) (hv : PE X v tv) : PE X (.Dict [some k] [v] pos) (tNOne X.prog X.w en tk tv) := by
  refine ⟨fun pins s σ H Q I q => ?_⟩
  have hn := I.hok.fresh (Nat.le_refl s.heap.objs.size)
  have I1 := I.laid (a := s.heap.objs.size) (o := NdO X.prog X.w s.heap.objs.size []) (h' := s.heap.push { cls := .type "dict", data := .dict #[] }) (t' := s.toks) (fun _ _ q => Heap.get?_push_of_some _ q) (Nat.le_refl _) (dict_start X.w X.prog s.heap _ I.big)
  rw [arm_eval_Dict, zip_pairTrees [some k] [v] X.env pos rfl rfl, dictDisplay_pairs (pairTrees [some k] [v] X.env pos) (by intro z; cases z) (by show 1 < 17; decide)]
  refine wpAny_bind (wpAny_standAt (wpAny_bind (wpAny_subDictH (knd := nestedKind X.prog X.w) (Q := fun d s' => wpAny (model X.prog X.w) X.A (pure (Value.ref d)) (EP X pins σ Q) X.xe s') (room_of0 hu) (by show 1 ≤ 15; decide) ?_)))
  refine pairTrees_cons_walk (thn (hk.run pins _ σ _ _ I1 (q _ hn)) fun u s1 ⟨y, H1, I1, ry, q1⟩ => thn (hv.run pins s1 σ H1 _ I1 q1) fun u2 s2 ⟨z, H2, I2, rz, a, t, hy, q2⟩ => pairTrees_nil_walk ?_)
  obtain ⟨p, rfl⟩ := hE.ref hy
  cases ry
  obtain ⟨ys, dd, hsz, fin⟩ := td_put hE I2 t (by show 0 < sizeLine; decide) hy rz
  have e0 : ys = [] := by
    obtain ⟨_, _, ys2, dd2, pr⟩ := td_heap hE I2 t.rd
    obtain ⟨o, es, ep, h1, _, h2, h3, _⟩ := dd
    obtain ⟨o', es', ep', h1', _, h2', h3', _⟩ := dd2
    rw [h1] at h1'
    cases h1'
    rw [h2] at h2'
    cases h2'
    cases pr
    have := congrArg List.length (h3.symm.trans h3')
    simpa using this
  subst e0
  refine ⟨[(nk (en a), p, u2)], ⟨rfl, rfl, key_is hE I2 hy, True.intro⟩, dd, fun h' tk hm' hs => ?_⟩
  obtain ⟨H', b, t', I'⟩ := fin h' tk hm' hs
  exact wpAny_pure ⟨.ref s.heap.objs.size, H', I', rfl, q2 H' b t'⟩
end
end
end KC
namespace KD
open PySem PySem.Spec PyProof.Rows L2 KB KC

section
variable {α : Type} [DecidableEq α] {en : α → PyData}
/-! ### for v in d.values(), for k, v in d.items(): the dict locked -/
/-- at d a locked dict with the pairs L -/
def TDf (P : Program) (w : World) (en : α → PyData) (H : Hp) (d : Addr) (o : Obj) (L : List (α × V)) : Prop := ∃ xs, H d = some (.frz o (NdO P w d xs)) ∧ Ents en H xs L
theorem TDf.rd {P : Program} {w : World} {H : Hp} {d : Addr} {o : Obj} {L : List (α × V)} (t : TDf P w en H d o L) : TDr P w en H d L := let ⟨xs, e, q⟩ := t; ⟨xs, .inr ⟨o, e⟩, q⟩
theorem TDf.to {P : Program} {w : World} {H H' : Hp} {d : Addr} {o : Obj} {L : List (α × V)} (t : TDf P w en H d o L) (e : Tx H H') (k : H' d = H d) : TDf P w en H' d o L := let ⟨xs, z, q⟩ := t; ⟨xs, k.trans z, q.to e⟩
theorem tdf_heap {X : Cx} {pins : List (Addr × Obj)} {σ : L2.St} {H : Hp} {s : Shared} {d : Addr} {o : Obj} {L : List (α × V)} (hE : Enc en) (I : Inv X pins σ H s) (t : TDf X.prog X.w en H d o L) : (d == sysModules) = false ∧ L.length ≤ sizeLine ∧ s.heap.get? d = some o ∧
    ∃ (ys : List (NestedKey × Addr × Value)) (es : Array DictEntry) (ep : Nat), o.data = .dict es ep ∧ s.heap.DictOfH (nestedKind X.prog X.w) d ys ∧ s.heap.DictRaw d es ep ∧ es.size = L.length ∧ (∀ (i : Nat) (hi : i < es.size), ∃ y, ys[i]? = some y ∧ es[i].key = .ref y.2.1 ∧ es[i].val = y.2.2) ∧
      Paired (fun (p : α × V) (q : NestedKey × Addr × Value) => q.1 = nk (en p.1) ∧ Im H (.ref q.2.1) (en p.1) ∧ RelV p.2 q.2.2) L ys := by
  obtain ⟨z1, z2, ys, dd, pr⟩ := td_heap hE I t.rd
  obtain ⟨xs, hd, _⟩ := t
  obtain ⟨e0, _⟩ := I.hok d _ hd
  obtain ⟨es, ep, hr, hsz, hes⟩ := dd.raw
  obtain ⟨o', e1, _, e2⟩ := id hr
  rw [e0] at e1
  cases e1
  refine ⟨z1, z2, e0, ys, es, ep, e2, dd, hr, by rw [hsz]; exact (Paired.length pr).symm, fun i hi => ?_, pr⟩
  obtain ⟨y, q1, q2, q3, _⟩ := hes i hi
  exact ⟨y, q1, q2, q3⟩
theorem ep_eq {o : Obj} {es es' : Array DictEntry} {ep ep' : Nat} (h : o.data = .dict es ep) (h' : o.data = .dict es' ep') : ep' = ep := by
  rw [h] at h'
  cases h'
  rfl
def ItVal (P : Program) (w : World) (en : α → PyData) (d : Addr) (o : Obj) (L : List (α × V)) : It :=
  ⟨fun i H => TDf P w en H d o L ∧ i < L.length, fun i H x H' => H' = H ∧ ∃ p, L[i]? = some p ∧ x = p.2, fun i H => TDf P w en H d o L ∧ i = L.length⟩
theorem turn_valN {P : Program} {w : World} {K : PySem.W.Frag} {tg : Expr} (hE : Enc en) (it d : Addr) (o : Obj) (L : List (α × V)) {es0 : Array DictEntry} {ep : Nat} (hod : o.data = .dict es0 ep) :
    Turn P w K tg (ItVal P w en d o L) [it] it (fun i h => h.IsValIter it d i L.length ep) := by
  refine KA.turn_same (n := L.length) (fun H => TDf P w en H d o L) (fun i _ x => ∃ p, L[i]? = some p ∧ x = p.2) (by simp) (fun i h st b hb => ?_) (fun i h h' st k => ?_)
    (fun X pins σ H s i hP hw hK hh Iv st hG hi => ?_) (fun A i s Q E st h => wpAny_pyIter_valiter st h)
  · rw [List.mem_singleton.mp hb]
    obtain ⟨oi, e, c, dd⟩ := st
    exact ⟨oi, e, fun v z => by rw [dd] at z; cases z⟩
  · obtain ⟨oi, e, c, dd⟩ := st
    exact ⟨oi, k it (by simp) _ e, c, dd⟩
  · subst hP hw hK
    obtain ⟨z1, z2, hg, ys, es, ep', hdt, dd, hr, hsz, hes, pr⟩ := tdf_heap hE Iv hG
    obtain rfl := ep_eq hod hdt
    obtain ⟨oi, e, c, dt⟩ := id st
    have hne : d ≠ it := fun z => by
      rw [z, e] at hg
      cases hg
      rw [hdt] at dt
      cases dt
    have W := ((Goes.rawValues (prog := X.prog) (w := X.w) (A := X.A) (target := tg) hh it d hne es ep').toN).mono (Y' := fun i _ v _ => ∃ e : DictEntry, es[i]? = some e ∧ v = e.val) fun i h0 v h _ ⟨hi, ev⟩ => ⟨es[i], Array.getElem?_eq_getElem hi, ev⟩
    rw [hsz] at W
    refine ⟨_, _, _, _, W, ⟨st, hr⟩, fun b z => z, fun h' z => z.1, fun v h' hlt hy => ?_⟩
    obtain ⟨en', he', ev⟩ := hy
    have hi' : i < es.size := by omega
    rw [Array.getElem?_eq_getElem hi'] at he'
    cases he'
    obtain ⟨y, hy1, _, hy2⟩ := hes i hi'
    obtain ⟨b, hb, _, _, rb⟩ := paired_get pr (List.getElem?_eq_getElem hlt)
    rw [hy1] at hb
    cases hb
    exact ⟨_, by rw [ev, hy2]; exact rb, _, List.getElem?_eq_getElem hlt, rfl⟩
def ItItm (P : Program) (w : World) (en : α → PyData) (d : Addr) (o : Obj) (L : List (α × V)) : It :=
  ⟨fun i H => TDf P w en H d o L ∧ i < L.length, fun i H x H' => ∃ (T : Addr) (xs : List V), x = .ref T ∧ H T = none ∧ H' = upd H T (.tup xs) ∧ ∃ p kr, L[i]? = some p ∧ xs = [.ref kr, p.2] ∧ Im H (.ref kr) (en p.1),
    fun i H => TDf P w en H d o L ∧ i = L.length⟩
theorem turn_itmN {P : Program} {w : World} {K : PySem.W.Frag} {elts : List Expr} {kk : Nat} {tpos : Pos} (hE : Enc en) (it d : Addr) (o : Obj) (L : List (α × V)) {es0 : Array DictEntry} {ep : Nat} (hod : o.data = .dict es0 ep) :
    Turn P w K (.Tuple elts kk tpos) (ItItm P w en d o L) [it] it (fun i h => ∃ ok ov, IsItemIter h it d i L.length ep ok ov) := by
  refine KA.turn_new (n := L.length) (fun H => TDf P w en H d o L) (fun i H xs => ∃ p kr, L[i]? = some p ∧ xs = [.ref kr, p.2] ∧ Im H (.ref kr) (en p.1)) (by simp) (fun i h st b hb => ?_) (fun i h h' st k => ?_)
    (fun X pins σ H s i hP hw hK hh Iv st hG hi => ?_) (fun A i s Q E st h => let ⟨_, _, e⟩ := st; PySem.W.kcp_self e h)
  · rw [List.mem_singleton.mp hb]
    obtain ⟨_, _, e⟩ := st
    exact ⟨_, e, fun v z => nomatch z⟩
  · obtain ⟨a, b, e⟩ := st
    exact ⟨a, b, k it (by simp) _ e⟩
  · subst hP hw hK
    obtain ⟨z1, z2, hg, ys, es, ep', hdt, dd, hr, hsz, hes, pr⟩ := tdf_heap hE Iv hG
    obtain rfl := ep_eq hod hdt
    obtain ⟨ok, ov, e⟩ := id st
    have hne : d ≠ it := fun z => by
      rw [z, e] at hg
      cases hg
      cases hdt
    have W := GoesN.rawItems (prog := X.prog) (w := X.w) (A := X.A) (elts := elts) (x1 := kk) (pos := tpos) hh it d hne es ep'
    have W := W.mono (Y' := fun i h0 v h => ∃ (T : Addr) (e : DictEntry), v = .ref T ∧ h0.objs.size ≤ T ∧ es[i]? = some e ∧ h.IsTuple T #[e.key, e.val]) fun i h0 v h _ ⟨T, hi, ev, hT, hIs⟩ => ⟨T, es[i], ev, hT, Array.getElem?_eq_getElem hi, hIs⟩
    rw [hsz] at W
    refine ⟨_, _, _, _, W, ⟨st, hr⟩, fun b z => z, fun h' z => z.1, fun v h' hlt hy => ?_⟩
    obtain ⟨T, en', ev, hT, he', hIs⟩ := hy
    have hi' : i < es.size := by omega
    rw [Array.getElem?_eq_getElem hi'] at he'
    cases he'
    obtain ⟨y, hy1, hy0, hy2⟩ := hes i hi'
    obtain ⟨b, hb, _, kb, rb⟩ := paired_get pr (List.getElem?_eq_getElem hlt)
    rw [hy1] at hb
    cases hb
    rw [hy0, hy2] at hIs
    exact ⟨T, [.ref y.2.1, y.2.2], [.ref y.2.1, L[i].2], ev, hT, hIs, .cons rfl (.cons rb .nil), KA.two_fit, L[i], y.2.1, List.getElem?_eq_getElem hlt, rfl, kb⟩
def iValN (P : Program) (w : World) (en : α → PyData) (td : TE) : TI := fun σ H R => td σ H fun x H1 => ∃ d o L, x = .ref d ∧ TDf P w en H1 d o L ∧ R (ItVal P w en d o L) H1
def iItmN (P : Program) (w : World) (en : α → PyData) (td : TE) : TI := fun σ H R => td σ H fun x H1 => ∃ d o L, x = .ref d ∧ TDf P w en H1 d o L ∧ R (ItItm P w en d o L) H1
theorem pi_valN {X : Cx} {tg e : Expr} {td : TE} {apos cpos : Pos} (hE : Enc en) (he : PE X e td) (hbase : attributeBase e "values" X.env (eval e X.env) = eval e X.env := by rfl) (hline : (apos.endLine == cpos.line) = true := by rfl) : PI X tg (.Call (.Attribute e "values" apos) [] [] cpos) (iValN X.prog X.w en td) := by
  refine ⟨fun pins s σ H R I h => ?_⟩
  refine wpAny_Call_method (T := "dict") (id := "dict.values") hbase rfl hline F.plainAttrs_dict F.slot_dict_values F.type_dict_values (thn (he.run pins s σ H _ I h) fun u s1 ⟨x, H1, I1, rx, d, o, L, ex, t, q⟩ => ?_)
  subst ex
  obtain rfl : u = Value.ref d := rx
  obtain ⟨hs, _, hg, ys, es, ep, hdt, dd, hr, hsz, _, _⟩ := tdf_heap hE I1 t
  refine ⟨dd.typeIs, fun b eb => ?_, ?_⟩
  · cases eb
    obtain ⟨ob, _, _, h1, h2, _⟩ := dd
    exact ⟨ob, h1, h2.2.1⟩
  have I2 : Inv X pins σ H1 { s1 with heap := s1.heap.push { cls := .type "dict_values", data := .fields #[.ref d] } } := I1.kept (t' := s1.toks) fun b ob q => Heap.get?_push_of_some _ q
  have fin : wpAny (model X.prog X.w) X.A (pyIter (.ref s1.heap.objs.size)) (PIE X pins σ tg R) X.xe { s1 with heap := s1.heap.push { cls := .type "dict_values", data := .fields #[.ref d] } } := by
    refine wpAny_pyIter_values_raw (d := d) ⟨_, Heap.get?_push_size _ rfl, rfl, rfl⟩ (hr.push _) (pi_one (tk := s1.toks) I2 _ (turn_valN hE _ d o L hdt) ⟨_, Heap.get?_push_size _ rfl, rfl, ?_⟩ q)
    rw [hsz] <;> rfl
  show wpAny _ _ (callWith cpos (.builtin "dict.values") [.ref d] [] []) _ X.xe s1
  exact method_meetsIn F.slot_dict_values F.entry_dict_values rfl (PySem.evalArgs_none ⟨rfl, dd.typeIs, F.args_dict_values_1 _, _, meets_dict_values_raw d hs, ⟨es, ep, hr⟩, fin⟩)
theorem pi_itmN {X : Cx} {e : Expr} {td : TE} {apos cpos tpos : Pos} {elts : List Expr} {kk : Nat} (hE : Enc en) (he : PE X e td) (hbase : attributeBase e "items" X.env (eval e X.env) = eval e X.env := by rfl) (hline : (apos.endLine == cpos.line) = true := by rfl) : PI X (.Tuple elts kk tpos) (.Call (.Attribute e "items" apos) [] [] cpos) (iItmN X.prog X.w en td) := by
  refine ⟨fun pins s σ H R I h => ?_⟩
  refine wpAny_Call_method (T := "dict") (id := "dict.items") hbase rfl hline F.plainAttrs_dict F.slot_dict_items F.type_dict_items (thn (he.run pins s σ H _ I h) fun u s1 ⟨x, H1, I1, rx, d, o, L, ex, t, q⟩ => ?_)
  subst ex
  obtain rfl : u = Value.ref d := rx
  obtain ⟨hs, _, hg, ys, es, ep, hdt, dd, hr, hsz, _, _⟩ := tdf_heap hE I1 t
  refine ⟨dd.typeIs, fun b eb => ?_, ?_⟩
  · cases eb
    obtain ⟨ob, _, _, h1, h2, _⟩ := dd
    exact ⟨ob, h1, h2.2.1⟩
  have I2 : Inv X pins σ H1 { s1 with heap := s1.heap.push { cls := .type "dict_items", data := .fields #[.ref d] } } := I1.kept (t' := s1.toks) fun b ob q => Heap.get?_push_of_some _ q
  have fin : wpAny (model X.prog X.w) X.A (pyIter (.ref s1.heap.objs.size)) (PIE X pins σ (.Tuple elts kk tpos) R) X.xe { s1 with heap := s1.heap.push { cls := .type "dict_items", data := .fields #[.ref d] } } := by
    refine wpAny_pyIter_items_raw (d := d) ⟨_, Heap.get?_push_size _ rfl, rfl, rfl⟩ (hr.push _) (pi_one (tk := s1.toks) I2 _ (turn_itmN hE _ d o L hdt) ⟨.none, .none, ?_⟩ q)
    rw [← hsz]
    exact Heap.get?_push_size _ rfl
  show wpAny _ _ (callWith cpos (.builtin "dict.items") [.ref d] [] []) _ X.xe s1
  exact method_meetsIn F.slot_dict_items F.entry_dict_items rfl (PySem.evalArgs_none ⟨rfl, dd.typeIs, F.args_dict_items_1 _, _, meets_dict_items_raw d hs, ⟨es, ep, hr⟩, fin⟩)

/-! ### dict(a list of pairs) -/
theorem stored_new {ps : List (NestedKey × Addr × Value)} : ∀ (qs acc : List (NestedKey × Addr × Value)), ((acc ++ qs).map (·.1)).Nodup → storedAllH acc qs = acc ++ qs
  | [], acc, _ => by rw [List.append_nil]; rfl
  | q :: qs, acc, h => by
    show storedAllH (storedH acc q.1 q.2.1 q.2.2) qs = _
    have hn : atKey acc q.1 = none := by
      unfold atKey
      rw [Option.map_eq_none_iff, List.find?_eq_none]
      intro x hx
      simp only [decide_eq_true_eq]
      intro e
      rw [List.map_append, List.map_cons] at h
      have := (List.nodup_append.mp h).2.2 x.1 (List.mem_map_of_mem hx) q.1 (List.mem_cons_self ..)
      exact this e
    have e : storedH acc q.1 q.2.1 q.2.2 = acc ++ [q] := by
      unfold storedH
      rw [hn]
      exact if_neg Bool.false_ne_true
    rw [e, stored_new (ps := ps) qs (acc ++ [q]) (by rw [List.append_assoc]; exact h), List.append_assoc]
    rfl
def rNPairs (P : Program) (w : World) (en : α → PyData) : List V → Hp → VK → Prop := fun xs H Q => ∃ (l : Addr) (ts : List Addr) (L : List (α × V)), xs = [.ref l] ∧ H l = some (.lst (ts.map V.ref)) ∧ (L.map (·.1)).Nodup ∧
  Paired (fun (t : Addr) (q : α × V) => ∃ kr : Addr, H t = some (.tup [.ref kr, q.2]) ∧ Im H (.ref kr) (en q.1)) ts L ∧ ∀ p H', H p = none → But p H H' → TDw P w en H' p L → Q (.ref p) H'
theorem pair_items {X : Cx} {pins : List (Addr × Obj)} {σ : L2.St} {H : Hp} {s : Shared} (I : Inv X pins σ H s) : ∀ {ts : List Addr} {L : List (α × V)}, Paired (fun (t : Addr) (q : α × V) => ∃ kr : Addr, H t = some (.tup [.ref kr, q.2]) ∧ Im H (.ref kr) (en q.1)) ts L →
    ∃ ys : List (NestedKey × Addr × Value), Paired (fun (p : α × V) (q : NestedKey × Addr × Value) => q.1 = nk (en p.1) ∧ Im H (.ref q.2.1) (en p.1) ∧ RelV p.2 q.2.2) L ys ∧ ∀ (j : Nat) (y : NestedKey × Addr × Value), ys[j]? = some y → ∃ t, ts[j]? = some t ∧ s.heap.IsTuple t #[.ref y.2.1, y.2.2]
  | _, _, .nil => ⟨[], .nil, fun j y e => by simp at e⟩
  | _, _, .cons (a := t) (b := q) h tl => by
    obtain ⟨ys, pr, hy⟩ := pair_items I tl
    obtain ⟨kr, h1, h2⟩ := h
    obtain ⟨_, its, rv, o, ho, hc, n, hd⟩ := I.hok t _ h1
    cases rv with
    | cons r1 rr =>
      cases r1
      cases rr with
      | @cons _ u _ _ r2 rr =>
        cases rr
        refine ⟨(nk (en q.1), kr, u) :: ys, .cons ⟨rfl, h2, r2⟩ pr, fun j y e => ?_⟩
        cases j with
        | zero =>
          cases e
          exact ⟨t, rfl, o, ho, hc, n, hd⟩
        | succ j =>
          obtain ⟨t', e1, e2⟩ := hy j y (by simpa using e)
          exact ⟨t', by simpa using e1, e2⟩
theorem call_dictN {X : Cx} (hE : Enc en) (hc : X.calm = true) (hu : X.A.units + 64 < cLine) : CallR X (.type "dict") (rNPairs X.prog X.w en) := by
  intro pins s σ H xs us Q I r h
  obtain ⟨l, ts, L, rfl, hl, hn, pr0, q⟩ := h
  obtain ⟨u, rfl, rx⟩ := vals1 r
  obtain rfl : u = .ref l := rx
  obtain ⟨hz, its, n, rv, ho⟩ := I.hok l _ hl
  obtain ⟨ys, pr, hys⟩ := pair_items I pr0
  have hts : ts.length = L.length := Paired.length pr0
  have hly : L.length = ys.length := Paired.length pr
  rw [List.length_map] at hz
  have eits : its = ts.map Value.ref := refs_at rv
  subst eits
  have hnk : (ys.map (·.1)).Nodup := by
    have e : ys.map (·.1) = (L.map (·.1)).map fun a => nk (en a) := by
      clear hys hly hn q hts pr0
      induction pr with
      | nil => rfl
      | cons r t ih => rw [List.map_cons, List.map_cons, List.map_cons, r.1, ih]
    rw [e]
    exact List.Pairwise.map _ (fun a b hne e => hne (hE.inj _ _ e)) hn
  have P := PairArg.list (prog := X.prog) (w := X.w) l (ts.map Value.ref).toArray (fun j => ts.getD j 0) (ys.map fun y => (Value.ref y.2.1, y.2.2))
  refine call_dict_pairsH P (I.ok.hd hc) (room_of2 hu) ⟨⟨_, n, ho, rfl, rfl, rfl⟩, ?_, fun j k v e => ?_⟩ (ps := ys) ⟨by rw [List.length_map], fun i k v e => ?_⟩ (fun h' hk x hx => ?_) (by rw [List.length_map]; omega) fun h' tk hd' hk => ?_
  · simp [hts, hly]
  · rw [List.getElem?_map] at e
    obtain ⟨y, ey, e'⟩ := Option.map_eq_some_iff.mp e
    cases e'
    obtain ⟨t, et, hIs⟩ := hys j y ey
    refine ⟨?_, .inl ?_⟩
    · simp [et]
    · show s.heap.IsTuple (ts.getD j 0) _
      rw [List.getD_eq_getElem?_getD, et]
      exact hIs
  · have e : (ys.map fun y => (Value.ref y.2.1, y.2.2))[i]? = some (k, v) := e
    rw [List.getElem?_map] at e
    obtain ⟨y, ey, e'⟩ := Option.map_eq_some_iff.mp e
    cases e'
    exact ⟨y.1, y.2.1, ey, rfl⟩
  · obtain ⟨j, hj⟩ := List.getElem?_of_mem hx
    have hjl : j < L.length := by
      have := (List.getElem?_eq_some_iff.mp hj).1
      omega
    obtain ⟨y, ey, y1, y2, _⟩ := paired_get pr (List.getElem?_eq_getElem hjl)
    rw [hj] at ey
    cases ey
    rw [y1]
    exact nestedKind_stays.stays (fun b o vs n e _ => hk b o (Nat.ne_of_lt (Heap.lt_size e)) (fun z => nomatch z) e) (key_is hE I y2)
  · rw [stored_new (ps := []) ys [] hnk, List.nil_append] at hd'
    have hk' : ∀ b o, s.heap.get? b = some o → h'.get? b = some o := fun b o e => hk b o (fun z => nomatch z) e
    have hfr := I.hok.fresh (Nat.le_refl s.heap.objs.size)
    obtain ⟨o', es', ep', e', ex', hdat', hes', his', hn'⟩ := hd'
    have rel : ∃ xs : List (NestedKey × Addr × V), Ents en H xs L ∧ Paired (fun (p : NestedKey × Addr × V) (q : NestedKey × Addr × Value) => p.1 = q.1 ∧ p.2.1 = q.2.1 ∧ RelV p.2.2 q.2.2) xs ys := by
      clear hys hly hn hnk hes' hn' q hts his'
      clear pr0 P
      induction pr with
      | nil => exact ⟨[], .nil, .nil⟩
      | @cons p y L' ys' r t ih =>
        obtain ⟨xs, a1, a2⟩ := ih
        exact ⟨(y.1, y.2.1, p.2) :: xs, .cons ⟨r.1, r.2.1, rfl⟩ a1, .cons ⟨rfl, rfl, r.2.2⟩ a2⟩
    obtain ⟨xs, a1, a2⟩ := rel
    have lx : xs.length = ys.length := Paired.length a2
    refine ⟨.ref s.heap.objs.size, upd H s.heap.objs.size (NdO X.prog X.w s.heap.objs.size xs), I.laid (t' := tk) hk' (Nat.le_refl _) (nd_obj ⟨beq_eq_false_iff_ne.mpr (Ne.symm (Nat.ne_of_lt I.big)), by omega, ys, a2, o', es', ep', e', ex', hdat', hes', hn'⟩), rfl,
      q _ _ hfr But.upd ⟨xs, upd_same, a1.to (Tx.upd fun z e => by rw [hfr] at e; cases e)⟩⟩
end

/-! ### tuple * int, also by 1 -/
theorem tuple_mul1 (l : Addr) (items : Array Value) (n : Nat) (dd : Option Addr) (sl : Array (Option Value)) (u : Tok) :
    Meets (Builtin.«tuple.__mul__» ⟨[.ref l, .int 1 u], []⟩) (fun _ R s => s.heap.get? l = some { cls := .type "tuple", dict := dd, data := .seq items n, slots := sl } ∧ R (.ok (.ret (Value.ref l))) s) :=
  .of_wp fun prog w A R s h => by
    obtain ⟨hp, g, d, tk, os⟩ := s
    obtain ⟨hl, h⟩ := h
    have f1 := AutoSeq1.idx_int
    have c1 : (items.isEmpty || (1 : Int) == 1) = true := by simp
    wp_walk using AutoSeq1.wpAny_loadPart' hl
    exact ⟨_, rfl, h⟩
def rRepN (K : PySem.W.Frag) : R2 := fun x y H Q => ∃ (l : Addr) (k : Int) (xs : List V), x = .ref l ∧ y = .int k ∧ H l = some (.tup xs) ∧ xs ≠ [] ∧ 1 ≤ k ∧ k ≤ 1000 ∧ xs.length ≤ 1000 ∧
  (k = 1 → Q (.ref l) H) ∧ (2 ≤ k → ∀ p, H p = none → Q (.ref p) (upd H p (.tup (List.replicate k.toNat xs).flatten)))
theorem op_repN {X : Cx} : OpR X (binaryOp .Mult) (rRepN X.K) := by
  intro pins s σ H x y v u Q I rx ry h
  obtain ⟨l, k, xs, rfl, rfl, hl, hne, h1, h2, hz, q1, q2⟩ := h
  by_cases hk : k = 1
  · subst hk
    cases rx
    obtain ⟨t, rfl⟩ := ry
    obtain ⟨its, r, ⟨⟨cls, dd, data, sl⟩, ho, hc, n, hd⟩, hs⟩ := I.tuple (SqT.of hl)
    simp only at hc hd
    subst hc hd
    exact wpAny_binaryOp_repeat_ref (T := "tuple") (U := "int") (by decide) ⟨_, ho, rfl⟩ (fun s' => typeIs_int s' 1 t) noFill_tuple_mul F.fills_int_mul F.slot_int_rmul repeat_tuple F.slot_int_index.lookup
      (call_meets F.slot_int_rmul (typeIs_int s 1 t) F.entry_int_rmul (F.args_int_rmul_2 _ _) (int_rmul_tuple 1 t l its.toArray n dd sl)
        ⟨ho, rfl, ⟨_, ho, rfl⟩, call_meets F.slot_tuple_mul ⟨_, ho, rfl⟩ F.entry_tuple_mul (F.args_tuple_mul_2 _ _) (tuple_mul1 l its.toArray n dd sl t) ⟨ho, .ref l, H, I, rfl, q1 rfl⟩⟩)
  · exact op_repT pins s σ H _ _ v u Q I rx ry ⟨l, k, xs, rfl, rfl, SqT.of hl, hne, by omega, h2, hz, q2 (by omega)⟩

/-! ### repr of data, where no repr runs around -/
def rReprD (K : PySem.W.Frag) : List V → Hp → VK → Prop := fun xs H Q => ∃ (a : Addr) (d : PyData), xs = [.ref a] ∧ Dp K H (.ref a) d ∧ d.showable = true ∧ d.hasDict = false ∧ d.depth ≤ 64 ∧ d.shown.length ≤ sizeLine ∧ Q (.str d.shown) H
theorem call_reprD {X : Cx} (hg : X.A.guards = some []) (hu : X.A.units + 65 < cLine) : CallR X (.builtin "repr") (rReprD X.K) := by
  intro pins s σ H xs us Q I r h
  obtain ⟨a, d, rfl, hd, h1, h2, h3, h4, q⟩ := h
  obtain ⟨u, rfl, rx⟩ := vals1 r
  obtain rfl : u = .ref a := rx
  obtain ⟨as, hr⟩ := Dp.reads I d _ _ hd rfl
  exact repr_of_reads' (h₀ := s.heap) hr h1 (fun z => by rw [h2] at z; cases z) hg (by omega) (fun b o e => e) (fun h' u tk hk => ⟨.str _, H, I.kept hk, ⟨_, rfl⟩, q⟩) h4
end KD
namespace KV
open PySem PySem.Spec PyProof.Rows L2 KB KC KD
open Evl (Ex EvT)
open StX (tStar)

/-! ### what a slot holds, what an expression gives: data that never changes, or a list of such -/
inductive Da where
  | im (d : PyData)
  | ls (ds : List PyData)
def Hs (H : Hp) (v : V) : Da → Prop
  | .im d => Im H v d
  | .ls ds => ∃ p vs, v = .ref p ∧ H p = some (.lst vs) ∧ ImA H vs ds
theorem Hs.to {H H' : Hp} {v : V} : ∀ {a : Da}, Hs H v a → Ex H H' → Hs H' v a
  | .im d, h, e => Im.to h (Tx.of e)
  | .ls ds, h, e => let ⟨p, vs, z1, z2, z3⟩ := h; ⟨p, vs, z1, e _ _ z2, z3.to (Tx.of e)⟩
abbrev SL := List (Option Da)
def SlotOk (H : Hp) (x : Option V) (a : Option Da) : Prop := match a with
  | none => True
  | some a => ∃ v, x = some v ∧ Hs H v a
def Sl (H : Hp) (σ : L2.St) (sl : SL) : Prop := Paired (SlotOk H) σ sl
theorem Sl.to {H H' : Hp} {σ : L2.St} {sl : SL} (h : Sl H σ sl) (e : Ex H H') : Sl H' σ sl := Paired.mapP h fun x a q => by
  cases a with
  | none => exact True.intro
  | some a =>
    obtain ⟨v, z1, z2⟩ := q
    exact ⟨v, z1, z2.to e⟩
theorem Sl.get {H : Hp} : ∀ {σ : L2.St} {sl : SL} {i : Nat} {a : Da}, Sl H σ sl → sl[i]? = some (some a) → ∃ v, σ[i]? = some (some v) ∧ Hs H v a
  | _, _, i, a, .nil, e => by simp at e
  | _, _, 0, a, .cons r _, e => by
    cases e
    obtain ⟨v, z1, z2⟩ := r
    exact ⟨v, by rw [z1]; rfl, z2⟩
  | _, _, i + 1, a, .cons _ t, e => by
    obtain ⟨v, q1, q2⟩ := Sl.get t (i := i) (by simpa using e)
    exact ⟨v, by simpa using q1, q2⟩
theorem Sl.set {H : Hp} {v : V} {a : Da} (r : Hs H v a) : ∀ {σ : L2.St} {sl : SL} (i : Nat), Sl H σ sl → Sl H (σ.set i (some v)) (sl.set i (some a))
  | _, _, _, .nil => .nil
  | _, _, 0, .cons _ t => .cons ⟨v, rfl, r⟩ t
  | _, _, i + 1, .cons q t => .cons q (Sl.set r i t)
theorem Sl.none {H : Hp} : ∀ {σ : L2.St} {sl : SL} (i : Nat), Sl H σ sl → Sl H (σ.set i Option.none) (sl.set i Option.none)
  | _, _, _, .nil => .nil
  | _, _, 0, .cons _ t => .cons True.intro t
  | _, _, i + 1, .cons q t => .cons q (Sl.none i t)
theorem Sl.length {H : Hp} {σ : L2.St} {sl : SL} (h : Sl H σ sl) : σ.length = sl.length := Paired.length h
/-- less is known -/
theorem Sl.weak {H : Hp} : ∀ {σ : L2.St} {sl : SL} (i : Nat), Sl H σ sl → Sl H σ (sl.set i Option.none)
  | _, _, _, .nil => .nil
  | _, _, 0, .cons _ t => .cons True.intro t
  | _, _, i + 1, .cons q t => .cons q (Sl.weak i t)
def wipeD (sl : SL) : List Nat → SL
  | [] => sl
  | i :: is => (wipeD sl is).set i none
theorem Sl.wipe {H : Hp} {σ : L2.St} {sl : SL} (h : Sl H σ sl) : ∀ vs : List Nat, Sl H (L2.wipe σ vs) (wipeD sl vs)
  | [] => h
  | i :: is => Sl.none i (Sl.wipe h is)
theorem wipe_in {σ : L2.St} {k : Nat} : ∀ {vs : List Nat}, k ∈ vs → (L2.wipe σ vs)[k]? = if k < σ.length then some Option.none else Option.none
  | [], h => nomatch h
  | i :: is, h => by
    unfold L2.wipe
    by_cases e : i = k
    · subst e
      rw [List.getElem?_set, L2.wipe_length]
      simp
    · rw [List.getElem?_set_ne e]
      exact wipe_in ((List.mem_cons.mp h).resolve_left fun z => e z.symm)
theorem wipe_set {σ : L2.St} {x : Option V} {vs : List Nat} {j : Nat} (hj : j ∈ vs) : L2.wipe ((L2.wipe σ vs).set j x) vs = L2.wipe σ vs := by
  apply List.ext_getElem?
  intro k
  by_cases hk : k ∈ vs
  · rw [wipe_in hk, wipe_in hk, List.length_set, L2.wipe_length]
  · rw [L2.wipe_out hk]
    exact List.getElem?_set_ne (fun e => hk (by rw [← e]; exact hj))
theorem wipe_set2 {σ : L2.St} {x y : Option V} {vs : List Nat} {i j : Nat} (hi : i ∈ vs) (hj : j ∈ vs) : L2.wipe (((L2.wipe σ vs).set i x).set j y) vs = L2.wipe σ vs := by
  apply List.ext_getElem?
  intro k
  by_cases hk : k ∈ vs
  · rw [wipe_in hk, wipe_in hk, List.length_set, List.length_set, L2.wipe_length]
  · rw [L2.wipe_out hk, List.getElem?_set_ne (fun e => hk (by rw [← e]; exact hj))]
    exact List.getElem?_set_ne (fun e => hk (by rw [← e]; exact hi))

/-! ### the judgements -/
def De (te : TE) (sl : SL) (a : Da) : Prop := ∀ σ H, Sl H σ sl → ∀ Q : VK, (∀ v H2, Ex H H2 → Hs H2 v a → Q v H2) → te σ H Q
def Dt (tt : TT) (sl : SL) (b : Bool) : Prop := ∀ σ H, Sl H σ sl → ∀ Q : Bool → Hp → Prop, (∀ H2, Ex H H2 → Q b H2) → tt σ H Q
inductive HsA (H : Hp) : List V → List Da → Prop
  | nil : HsA H [] []
  | cons {v : V} {vs : List V} {a : Da} {as : List Da} : Hs H v a → HsA H vs as → HsA H (v :: vs) (a :: as)
theorem HsA.to {H H' : Hp} : ∀ {vs : List V} {as : List Da}, HsA H vs as → Ex H H' → HsA H' vs as
  | _, _, .nil, _ => .nil
  | _, _, .cons r t, e => .cons (r.to e) (t.to e)
theorem HsA.length {H : Hp} : ∀ {vs : List V} {as : List Da}, HsA H vs as → vs.length = as.length
  | _, _, .nil => rfl
  | _, _, .cons _ t => by rw [List.length_cons, List.length_cons, t.length]
theorem HsA.ims {H : Hp} : ∀ {vs : List V} {ds : List PyData}, HsA H vs (ds.map Da.im) → ImA H vs ds
  | _, [], .nil => .nil
  | _, d :: ds, .cons r t => .cons r t.ims
theorem _root_.KB.ImA.app {H : Hp} : ∀ {ds : List PyData} {vs us : List V} {as : List Da}, ImA H vs ds → HsA H us as → HsA H (vs ++ us) (ds.map Da.im ++ as)
  | [], _, _, _, h, q => by cases h; exact q
  | d :: ds, _, _, _, h, q => by
    cases h with
    | cons h1 h2 => exact .cons h1 (KB.ImA.app h2 q)
def DeA (ta : TA) (sl : SL) (as : List Da) : Prop := ∀ σ H, Sl H σ sl → ∀ Q : List V → Hp → Prop, (∀ vs H2, Ex H H2 → HsA H2 vs as → Q vs H2) → ta σ H Q
/-- a body that gives back a -/
def Dr (t : TS) (sl : SL) (a : Da) : Prop := ∀ σ H, Sl H σ sl → ∀ (Q : VK) (nx : L2.St → Hp → Prop), (∀ v H2, Ex H H2 → Hs H2 v a → Q v H2) → t { nx := nx, rt := Q } σ H

section
variable {ta tb tc te : TE} {tt tu : TT} {sl : SL} {a b : Da} {d e : PyData} {K : PySem.W.Frag} {P : Program} {w : World}
theorem De.is (h : De te sl a) (e : a = b) : De te sl b := e ▸ h
theorem Dt.is {x y : Bool} (h : Dt tt sl x) (e : x = y) : Dt tt sl y := e ▸ h
theorem de_var {i : Nat} (h : sl[i]? = some (some a)) : De (tVar i) sl a := fun σ H hs Q q => by
  obtain ⟨v, z1, z2⟩ := hs.get h
  exact ⟨v, z1, q v H (Evl.Ex.refl H) z2⟩
theorem de_int {i : Int} : De (tC (.int i)) sl (.im (.int i)) := fun σ H _ Q q => q _ H (Evl.Ex.refl H) (.int i)
theorem de_bl {i : Bool} : De (tC (.bl i)) sl (.im (.bool i)) := fun σ H _ Q q => q _ H (Evl.Ex.refl H) (.bl i)
theorem de_str {i : Str} : De (tC (.str i)) sl (.im (.str i)) := fun σ H _ Q q => q _ H (Evl.Ex.refl H) (.str i)
theorem de_non : De (tC .non) sl (.im .none) := fun σ H _ Q q => q _ H (Evl.Ex.refl H) .non
/-- two operands, then an operation on their values -/
theorem de_op {r : R2} {a' b' : Da} (ha : De ta sl a') (hb : De tb sl b') (hr : ∀ x y H, Hs H x a' → Hs H y b' → ∀ Q : VK, (∀ v H2, Ex H H2 → Hs H2 v a → Q v H2) → r x y H Q) : De (tOp r ta tb) sl a := fun σ H hs Q q =>
  ha σ H hs _ fun x H1 e1 q1 => hb σ H1 (hs.to e1) _ fun y H2 e2 q2 => hr x y H2 (q1.to e2) q2 Q fun v H3 e3 q3 => q v H3 ((e1.trans e2).trans e3) q3
theorem de_I0 {g : Int → Int → V} {i j : Int} (ha : De ta sl (.im (.int i))) (hb : De tb sl (.im (.int j))) (hg : ∀ H, Im H (g i j) d) : De (tOp (rI0 g) ta tb) sl (.im d) :=
  de_op ha hb fun x y H hx hy Q q => ⟨i, j, Im.int_eq hx, Im.int_eq hy, q _ H (Evl.Ex.refl H) (hg H)⟩
theorem de_add {i j : Int} (ha : De ta sl (.im (.int i))) (hb : De tb sl (.im (.int j))) : De (tOp (rI0 fun i j => .int (i + j)) ta tb) sl (.im (.int (i + j))) := de_I0 ha hb fun _ => .int _
theorem de_sub {i j : Int} (ha : De ta sl (.im (.int i))) (hb : De tb sl (.im (.int j))) : De (tOp (rI0 fun i j => .int (i - j)) ta tb) sl (.im (.int (i - j))) := de_I0 ha hb fun _ => .int _
theorem de_lt {i j : Int} (ha : De ta sl (.im (.int i))) (hb : De tb sl (.im (.int j))) : De (tOp (rI0 fun i j => .bl (decide (i < j))) ta tb) sl (.im (.bool (decide (i < j)))) := de_I0 ha hb fun _ => .bl _
theorem de_gt {i j : Int} (ha : De ta sl (.im (.int i))) (hb : De tb sl (.im (.int j))) : De (tOp (rI0 fun i j => .bl (decide (j < i))) ta tb) sl (.im (.bool (decide (j < i)))) := de_I0 ha hb fun _ => .bl _
theorem de_le {i j : Int} (ha : De ta sl (.im (.int i))) (hb : De tb sl (.im (.int j))) : De (tOp (rI0 fun i j => .bl (decide (i ≤ j))) ta tb) sl (.im (.bool (decide (i ≤ j)))) := de_I0 ha hb fun _ => .bl _
theorem de_eqI {i j : Int} (ha : De ta sl (.im (.int i))) (hb : De tb sl (.im (.int j))) : De (tOp rEq ta tb) sl (.im (.bool (decide (i = j)))) :=
  de_op ha hb fun x y H hx hy Q q => by
    rw [Im.int_eq hx, Im.int_eq hy]
    refine ⟨rfl, ?_⟩
    have e : decide (V.int i = V.int j) = decide (i = j) := by rw [dec_int]; exact Bool.beq_eq_decide_eq ..
    rw [e]
    exact q _ H (Evl.Ex.refl H) (.bl _)
theorem de_eqS {i j : Str} (ha : De ta sl (.im (.str i))) (hb : De tb sl (.im (.str j))) : De (tOp rEq ta tb) sl (.im (.bool (decide (i = j)))) :=
  de_op ha hb fun x y H hx hy Q q => by
    rw [Im.str_eq hx, Im.str_eq hy]
    refine ⟨rfl, ?_⟩
    have e : decide (V.str i = V.str j) = decide (i = j) := by simp
    rw [e]
    exact q _ H (Evl.Ex.refl H) (.bl _)
theorem de_neS {i j : Str} (ha : De ta sl (.im (.str i))) (hb : De tb sl (.im (.str j))) : De (tOp rNe ta tb) sl (.im (.bool (!decide (i = j)))) :=
  de_op ha hb fun x y H hx hy Q q => by
    rw [Im.str_eq hx, Im.str_eq hy]
    refine ⟨rfl, ?_⟩
    have e : decide (V.str i = V.str j) = decide (i = j) := by simp
    rw [e]
    exact q _ H (Evl.Ex.refl H) (.bl _)
theorem de_ifT (ht : Dt tt sl true) (ha : De ta sl a) : De (tIf tt ta tb) sl a := fun σ H hs Q q => ht σ H hs _ fun H1 e1 => by
  show (if true = true then ta σ H1 Q else tb σ H1 Q)
  rw [if_pos rfl]
  exact ha σ H1 (hs.to e1) Q fun v H2 e2 q2 => q v H2 (e1.trans e2) q2
theorem de_ifF (ht : Dt tt sl false) (hb : De tb sl a) : De (tIf tt ta tb) sl a := fun σ H hs Q q => ht σ H hs _ fun H1 e1 => by
  show (if false = true then ta σ H1 Q else tb σ H1 Q)
  rw [if_neg Bool.false_ne_true]
  exact hb σ H1 (hs.to e1) Q fun v H2 e2 q2 => q v H2 (e1.trans e2) q2
theorem de_if {x : Bool} (ht : Dt tt sl x) (ha : x = true → De ta sl a) (hb : x = false → De tb sl a) : De (tIf tt ta tb) sl a := by
  cases x with
  | true => exact de_ifT ht (ha rfl)
  | false => exact de_ifF ht (hb rfl)
theorem dt_test {x : Bool} (h : De te sl (.im (.bool x))) : Dt (tTest te) sl x := fun σ H hs Q q => h σ H hs _ fun v H1 e1 q1 => ⟨x, Im.bl_eq q1, q H1 e1⟩
theorem dt_B {x : Bool} (h : De te sl (.im (.bool x))) : Dt (tB te) sl x := fun σ H hs Q q => h σ H hs _ fun v H1 e1 q1 => ⟨x, Im.bl_eq q1, q H1 e1⟩
theorem dt_not {x : Bool} (h : Dt tt sl x) : Dt (tNot tt) sl (!x) := fun σ H hs Q q => h σ H hs _ fun H1 e1 => q H1 e1
theorem dt_and {x y : Bool} (h1 : Dt tt sl x) (h2 : x = true → Dt tu sl y) : Dt (tAnd tt tu) sl (x && y) := fun σ H hs Q q => h1 σ H hs _ fun H1 e1 => by
  cases x with
  | true => exact h2 rfl σ H1 (hs.to e1) Q fun H2 e2 => q H2 (e1.trans e2)
  | false => exact q H1 e1
theorem dt_or {x y : Bool} (h1 : Dt tt sl x) (h2 : x = false → Dt tu sl y) : Dt (tOr tt tu) sl (x || y) := fun σ H hs Q q => h1 σ H hs _ fun H1 e1 => by
  cases x with
  | false => exact h2 rfl σ H1 (hs.to e1) Q fun H2 e2 => q H2 (e1.trans e2)
  | true => exact q H1 e1
theorem de_andV {x y : Bool} (h1 : De ta sl (.im (.bool x))) (h2 : x = true → De tb sl (.im (.bool y))) : De (tAndV ta tb) sl (.im (.bool (x && y))) := fun σ H hs Q q => h1 σ H hs _ fun v H1 e1 q1 => ⟨x, Im.bl_eq q1, by
  cases x with
  | true => exact h2 rfl σ H1 (hs.to e1) Q fun v H2 e2 q2 => q v H2 (e1.trans e2) q2
  | false => exact q _ H1 e1 (.bl _)⟩
theorem de_orV {x y : Bool} (h1 : De ta sl (.im (.bool x))) (h2 : x = false → De tb sl (.im (.bool y))) : De (tOrV ta tb) sl (.im (.bool (x || y))) := fun σ H hs Q q => h1 σ H hs _ fun v H1 e1 q1 => ⟨x, Im.bl_eq q1, by
  cases x with
  | false => exact h2 rfl σ H1 (hs.to e1) Q fun v H2 e2 q2 => q v H2 (e1.trans e2) q2
  | true => exact q _ H1 e1 (.bl _)⟩
theorem de_notV {x : Bool} (h : De ta sl (.im (.bool x))) : De (tNotV ta) sl (.im (.bool (!x))) := fun σ H hs Q q => h σ H hs _ fun v H1 e1 q1 => ⟨x, Im.bl_eq q1, q _ H1 e1 (.bl _)⟩
/-- is None of what may be None -/
def isN : PyData → Bool
  | .none => true
  | _ => false
theorem im_isN {H : Hp} {v : V} (h : Im H v d) : decide (v = .non) = isN d := by
  cases h <;> first | rfl | simp [isN]
theorem de_isN (h : De ta sl (.im d)) : De (tIsN ta) sl (.im (.bool (isN d))) := fun σ H hs Q q => h σ H hs _ fun v H1 e1 q1 => by
  rw [im_isN q1]
  exact q _ H1 e1 (.bl _)
theorem de_notN (h : De ta sl (.im d)) : De (tNotN ta) sl (.im (.bool (!isN d))) := fun σ H hs Q q => h σ H hs _ fun v H1 e1 q1 => by
  rw [im_isN q1]
  exact q _ H1 e1 (.bl _)
theorem dea_nil : DeA tNil sl [] := fun σ H _ Q q => q [] H (Evl.Ex.refl H) .nil
theorem dea_cons {t : TA} {as : List Da} (h : De te sl a) (ht : DeA t sl as) : DeA (tCons te t) sl (a :: as) := fun σ H hs Q q => h σ H hs _ fun v H1 e1 q1 => ht σ H1 (hs.to e1) _ fun vs H2 e2 q2 => q _ H2 (e1.trans e2) (.cons (q1.to e2) q2)
theorem dea_star {t : TA} {ds : List PyData} {as : List Da} (h : De te sl (.ls ds)) (ht : DeA t sl as) : DeA (tStar K te t) sl (ds.map Da.im ++ as) := fun σ H hs Q q => h σ H hs _ fun v H1 e1 q1 => by
  obtain ⟨p, vs, rfl, z1, z2⟩ := q1
  exact ⟨p, vs, rfl, .inr (SqL.of z1), ht σ H1 (hs.to e1) _ fun us H2 e2 q2 => q _ H2 (e1.trans e2) ((z2.to (Tx.of e2)).app q2)⟩
theorem de_tup {t : TA} {ds : List PyData} (h : DeA t sl (ds.map Da.im)) (hl : ds.length ≤ 100000) : De (tTup t) sl (.im (.tuple ds)) := fun σ H hs Q q => h σ H hs _ fun vs H1 e1 q1 =>
  ⟨by rw [q1.length, List.length_map]; exact Evl.sz_of hl, fun p hp => q _ _ (e1.trans (Evl.Ex.new hp)) (.tup upd_same (q1.ims.to (Tx.of (Evl.Ex.new hp))))⟩
theorem de_lst {t : TA} {ds : List PyData} (h : DeA t sl (ds.map Da.im)) (hl : ds.length ≤ 100000) : De (tLst t) sl (.ls ds) := fun σ H hs Q q => h σ H hs _ fun vs H1 e1 q1 =>
  ⟨by rw [q1.length, List.length_map]; exact Evl.sz_of hl, fun p hp => q _ _ (e1.trans (Evl.Ex.new hp)) ⟨p, vs, rfl, upd_same, q1.ims.to (Tx.of (Evl.Ex.new hp))⟩⟩
/-- t[i] -/
theorem de_ixT {ds : List PyData} {j : Nat} (ha : De ta sl (.im (.tuple ds))) (hb : De tb sl (.im (.int (j : Int)))) (hj : ds[j]? = some d) : De (tOp (rIxT K) ta tb) sl (.im d) :=
  de_op ha hb fun x y H hx hy Q q => by
    obtain ⟨p, xs, rfl, h1, h2⟩ := Im.ref hx
    obtain ⟨v, hv, qv⟩ := h2.at hj
    exact ⟨p, xs, j, v, rfl, Im.int_eq hy, SqT.of h1, atI_nat hv, q v H (Evl.Ex.refl H) qv⟩
theorem de_ixL {ds : List PyData} {j : Nat} (ha : De ta sl (.ls ds)) (hb : De tb sl (.im (.int (j : Int)))) (hj : ds[j]? = some d) : De (tOp (rIxL K) ta tb) sl (.im d) :=
  de_op ha hb fun x y H hx hy Q q => by
    obtain ⟨p, xs, rfl, h1, h2⟩ := hx
    obtain ⟨v, hv, qv⟩ := h2.at hj
    exact ⟨p, xs, j, v, rfl, Im.int_eq hy, SqL.of h1, atI_nat hv, q v H (Evl.Ex.refl H) qv⟩
/-- x in t -/
theorem inV_int {k : Int} : ∀ ks : List Int, inV (.int k) (ks.map V.int) = decide (k ∈ ks)
  | [] => rfl
  | x :: ks => by
    show (eqV (.int x) (.int k) || inV (.int k) (ks.map V.int)) = _
    rw [inV_int ks]
    show ((x == k) || _) = _
    by_cases e : x = k
    · simp [e]
    · simp [e, Ne.symm e]
theorem inV_str {k : Str} : ∀ ks : List Str, inV (.str k) (ks.map V.str) = decide (k ∈ ks)
  | [] => rfl
  | x :: ks => by
    show (eqV (.str x) (.str k) || inV (.str k) (ks.map V.str)) = _
    rw [inV_str ks]
    show ((x == k) || _) = _
    by_cases e : x = k
    · simp [e]
    · simp [e, Ne.symm e]
theorem flat_ints (ks : List Int) : (ks.map V.int).all flatV = true := by simp [flatV]
theorem flat_strs (ks : List Str) : (ks.map V.str).all flatV = true := by simp [flatV]
theorem ImA.strs_eq {H : Hp} : ∀ {ns : List Str} {vs : List V}, ImA H vs (ns.map PyData.str) → vs = ns.map V.str
  | [], _, h => by cases h; rfl
  | n :: ns, _, h => by
    cases h with
    | cons h1 h2 =>
      cases h1
      rw [ImA.strs_eq h2]
      rfl
theorem de_inTI {k : Int} {ks : List Int} (ha : De ta sl (.im (.int k))) (hb : De tb sl (.im (.tuple (ks.map PyData.int)))) : De (tOp (rIn K false) ta tb) sl (.im (.bool (decide (k ∈ ks)))) :=
  de_op ha hb fun x y H hx hy Q q => by
    obtain ⟨p, xs, rfl, h1, h2⟩ := Im.ref hy
    rw [Im.int_eq hx]
    obtain rfl := ImA.ints_eq h2
    refine ⟨p, _, rfl, .inr (SqT.of h1), rfl, flat_ints ks, ?_⟩
    rw [inV_int]
    exact q _ H (Evl.Ex.refl H) (.bl _)
theorem de_inLI {k : Int} {ks : List Int} (ha : De ta sl (.im (.int k))) (hb : De tb sl (.ls (ks.map PyData.int))) : De (tOp (rIn K false) ta tb) sl (.im (.bool (decide (k ∈ ks)))) :=
  de_op ha hb fun x y H hx hy Q q => by
    obtain ⟨p, xs, rfl, h1, h2⟩ := hy
    rw [Im.int_eq hx]
    obtain rfl := ImA.ints_eq h2
    refine ⟨p, _, rfl, .inl (SqL.of h1), rfl, flat_ints ks, ?_⟩
    rw [inV_int]
    exact q _ H (Evl.Ex.refl H) (.bl _)
theorem de_inTS {k : Str} {ks : List Str} (ha : De ta sl (.im (.str k))) (hb : De tb sl (.im (.tuple (ks.map PyData.str)))) : De (tOp (rIn K false) ta tb) sl (.im (.bool (decide (k ∈ ks)))) :=
  de_op ha hb fun x y H hx hy Q q => by
    obtain ⟨p, xs, rfl, h1, h2⟩ := Im.ref hy
    rw [Im.str_eq hx]
    obtain rfl := ImA.strs_eq h2
    refine ⟨p, _, rfl, .inr (SqT.of h1), rfl, flat_strs ks, ?_⟩
    rw [inV_str]
    exact q _ H (Evl.Ex.refl H) (.bl _)
/-! ### built-ins -/
abbrev rLenS (K : PySem.W.Frag) : List V → Hp → VK → Prop := Evl.rLenS K
theorem de_lenT {ds : List PyData} (h : De te sl (.im (.tuple ds))) : De (tCB (rLenS K) (tCons te tNil)) sl (.im (.int (ds.length : Int))) := fun σ H hs Q q => h σ H hs _ fun v H1 e1 q1 => by
  obtain ⟨p, xs, rfl, h1, h2⟩ := Im.ref q1
  refine ⟨p, xs, rfl, .inr (SqT.of h1), ?_⟩
  rw [h2.length]
  exact q _ H1 e1 (.int _)
theorem de_lenL {ds : List PyData} (h : De te sl (.ls ds)) : De (tCB (rLenS K) (tCons te tNil)) sl (.im (.int (ds.length : Int))) := fun σ H hs Q q => h σ H hs _ fun v H1 e1 q1 => by
  obtain ⟨p, xs, rfl, h1, h2⟩ := q1
  refine ⟨p, xs, rfl, .inl (SqL.of h1), ?_⟩
  rw [h2.length]
  exact q _ H1 e1 (.int _)
def rTupOf (K : PySem.W.Frag) : List V → Hp → VK → Prop := fun xs H Q => ∃ p ys, xs = [.ref p] ∧ ((SqL K H p ys ∧ ∀ l, H l = none → Q (.ref l) (upd H l (.tup ys))) ∨ (SqT K H p ys ∧ Q (.ref p) H))
theorem call_tup {X : Cx} : CallR X (.type "tuple") (rTupOf X.K) := call_tuple_of
theorem de_tupOf {ds : List PyData} (h : De te sl (.ls ds)) : De (tCB (rTupOf K) (tCons te tNil)) sl (.im (.tuple ds)) := fun σ H hs Q q => h σ H hs _ fun v H1 e1 q1 => by
  obtain ⟨p, xs, rfl, h1, h2⟩ := q1
  exact ⟨p, xs, rfl, .inl ⟨SqL.of h1, fun l hl => q _ _ (e1.trans (Evl.Ex.new hl)) (.tup upd_same (h2.to (Tx.of (Evl.Ex.new hl))))⟩⟩
theorem de_int1 {i : Int} {r : List V → Hp → VK → Prop} (h : De te sl (.im (.int i))) (hr : r = fun xs H Q => (∃ i, xs = [.int i] ∧ Q (.int i) H) ∨ ∃ k, xs = [.bl k] ∧ Q (.int (if k then 1 else 0)) H) : De (tCB r (tCons te tNil)) sl (.im (.int i)) := fun σ H hs Q q => h σ H hs _ fun v H1 e1 q1 => by
  subst hr
  obtain rfl := Im.int_eq q1
  exact .inl ⟨i, rfl, q _ H1 e1 (.int _)⟩
def rMax2 : List V → Hp → VK → Prop := fun xs H Q => ∃ i j, xs = [.int i, .int j] ∧ Q (.int (if j > i then j else i)) H
def rMin2 : List V → Hp → VK → Prop := fun xs H Q => ∃ i j, xs = [.int i, .int j] ∧ Q (.int (if j < i then j else i)) H
theorem de_max2 {i j : Int} (h1 : De ta sl (.im (.int i))) (h2 : De tb sl (.im (.int j))) : De (tCB rMax2 (tCons ta (tCons tb tNil))) sl (.im (.int (max i j))) := fun σ H hs Q q => h1 σ H hs _ fun v H1 e1 q1 => h2 σ H1 (hs.to e1) _ fun u H2 e2 q2 => by
  obtain rfl := Im.int_eq q1
  obtain rfl := Im.int_eq q2
  refine ⟨i, j, rfl, ?_⟩
  have e : (if j > i then j else i) = max i j := by
    show _ = if i ≤ j then j else i
    split <;> split <;> omega
  rw [e]
  exact q _ H2 (e1.trans e2) (.int _)
theorem de_min2 {i j : Int} (h1 : De ta sl (.im (.int i))) (h2 : De tb sl (.im (.int j))) : De (tCB rMin2 (tCons ta (tCons tb tNil))) sl (.im (.int (min i j))) := fun σ H hs Q q => h1 σ H hs _ fun v H1 e1 q1 => h2 σ H1 (hs.to e1) _ fun u H2 e2 q2 => by
  obtain rfl := Im.int_eq q1
  obtain rfl := Im.int_eq q2
  refine ⟨i, j, rfl, ?_⟩
  have e : (if j < i then j else i) = min i j := by
    show _ = if i ≤ j then i else j
    split <;> split <;> omega
  rw [e]
  exact q _ H2 (e1.trans e2) (.int _)
/-- max of a list of ints, not empty -/
def maxI : List Int → Int
  | [] => 0
  | [x] => x
  | x :: y :: r => max x (maxI (y :: r))
theorem maxI_mem : ∀ {l : List Int}, l ≠ [] → maxI l ∈ l ∧ ∀ y ∈ l, y ≤ maxI l
  | [], h => absurd rfl h
  | [x], _ => ⟨List.mem_singleton.mpr rfl, fun y hy => by rw [List.mem_singleton.mp hy]; exact Int.le_refl _⟩
  | x :: y :: r, _ => by
    obtain ⟨h1, h2⟩ := maxI_mem (l := y :: r) (by simp)
    show max x (maxI (y :: r)) ∈ _ ∧ ∀ z ∈ x :: y :: r, z ≤ max x (maxI (y :: r))
    constructor
    · by_cases c : x ≤ maxI (y :: r)
      · rw [Int.max_eq_right c]
        exact List.mem_cons_of_mem _ h1
      · rw [Int.max_eq_left (by omega)]
        exact List.mem_cons_self ..
    · intro z hz
      rcases List.mem_cons.mp hz with rfl | hz
      · exact Int.le_max_left ..
      · exact Int.le_trans (h2 z hz) (Int.le_max_right ..)
theorem maxI_of {l : List Int} {m : Int} (h : m ∈ l) (h2 : ∀ y ∈ l, y ≤ m) : m = maxI l := by
  have hn : l ≠ [] := fun e => by rw [e] at h; cases h
  obtain ⟨q1, q2⟩ := maxI_mem hn
  exact Int.le_antisymm (q2 m h) (h2 _ q1)
theorem de_maxL {ns : List Int} (h : De te sl (.ls (ns.map PyData.int))) (hn : ns ≠ []) : De (tCB (rMax K) (tCons te tNil)) sl (.im (.int (maxI ns))) := fun σ H hs Q q => h σ H hs _ fun v H1 e1 q1 => by
  obtain ⟨p, xs, rfl, h1, h2⟩ := q1
  obtain rfl := ImA.ints_eq h2
  refine ⟨p, ns, rfl, SqL.of h1, List.length_pos_iff.mpr hn, fun m hm hy => ?_⟩
  rw [maxI_of hm hy]
  exact q _ H1 e1 (.int _)
theorem ImA.bls_eq {H : Hp} : ∀ {ns : List Bool} {vs : List V}, ImA H vs (ns.map PyData.bool) → vs = ns.map V.bl
  | [], _, h => by cases h; rfl
  | n :: ns, _, h => by
    cases h with
    | cons h1 h2 =>
      cases h1
      rw [ImA.bls_eq h2]
      rfl
theorem de_all {bs : List Bool} (h : De te sl (.ls (bs.map PyData.bool))) : De (tCB (rAll K) (tCons te tNil)) sl (.im (.bool (bs.all id))) := fun σ H hs Q q => h σ H hs _ fun v H1 e1 q1 => by
  obtain ⟨p, xs, rfl, h1, h2⟩ := q1
  obtain rfl := ImA.bls_eq h2
  exact ⟨p, bs, rfl, SqL.of h1, q _ H1 e1 (.bl _)⟩
/-! ### isinstance -/
def tyD : PyData → String
  | .none => "NoneType"
  | .bool _ => "bool"
  | .int _ => "int"
  | .str _ => "str"
  | .list _ => "list"
  | .tuple _ => "tuple"
  | .dict _ => "dict"
theorem im_ty {H : Hp} {v : V} (h : Im H v d) : TyX K H v (.type (tyD d)) := by
  cases h with
  | non => exact .base .non
  | bl b => exact .base (.bl b)
  | int i => exact .base (.int i)
  | str x => exact .base (.str x)
  | tup h1 h2 => exact .base (.tup h1)
theorem de_isi {n : String} {x : Bool} (h1 : De ta sl (.im d)) (hk : PySem.W.kitOne K (.type (tyD d)) (.type n) = some x) : De (tCB (rIsi K) (tCons ta (tCons (tC (.ty n)) tNil))) sl (.im (.bool x)) := fun σ H hs Q q => h1 σ H hs _ fun v H1 e1 q1 =>
  ⟨v, .ty n, _, _, x, rfl, .ty n, im_ty q1, hk, q _ H1 e1 (.bl _)⟩
end
end KV
namespace KV
open PySem PySem.Spec PyProof.Rows L2 KB KC KD
open Evl (Ex EvT)
open StX (tStar)

/-! ### what a for walks, told as data -/
def SrcOk (J : It) (H0 : Hp) (src : List PyData) : Prop :=
  (∀ i H, Ex H0 H → i < src.length → J.go i H) ∧ (∀ H, Ex H0 H → J.stop src.length H) ∧ ∀ i H x H' d, Ex H0 H → src[i]? = some d → J.yld i H x H' → Ex H H' ∧ Im H' x d
def DI (wi : TI) (sl : SL) (src : List PyData) : Prop := ∀ σ H, Sl H σ sl → ∀ R : It → Hp → Prop, (∀ J H2, Ex H H2 → SrcOk J H2 src → R J H2) → wi σ H R
section
variable {te tl : TE} {sl : SL} {ds es : List PyData} {K : PySem.W.Frag} {P : Program} {w : World}
theorem src_list {a : Addr} {vs : List V} {H0 : Hp} (h1 : H0 a = some (.lst vs)) (h2 : ImA H0 vs ds) : SrcOk (Itl K a) H0 ds := by
  refine ⟨fun i H e hi => ?_, fun H e => ⟨vs, SqL.of (e _ _ h1), Nat.le_of_eq h2.length⟩, fun i H x H' d e hd y => ?_⟩
  · obtain ⟨v, hv, _⟩ := h2.at (List.getElem?_eq_getElem hi)
    exact ⟨vs, v, SqL.of (e _ _ h1), hv⟩
  · obtain ⟨y1, y2⟩ := y
    subst y1
    obtain ⟨v, hv, q⟩ := h2.at hd
    have := y2 vs (SqL.of (e _ _ h1))
    rw [hv] at this
    cases this
    exact ⟨Evl.Ex.refl _, q.to (Tx.of e)⟩
theorem src_tup {a : Addr} {vs : List V} {H0 : Hp} (h1 : H0 a = some (.tup vs)) (h2 : ImA H0 vs ds) : SrcOk (Itt K a) H0 ds := by
  refine ⟨fun i H e hi => ?_, fun H e => ⟨vs, SqT.of (e _ _ h1), Nat.le_of_eq h2.length⟩, fun i H x H' d e hd y => ?_⟩
  · obtain ⟨v, hv, _⟩ := h2.at (List.getElem?_eq_getElem hi)
    exact ⟨vs, v, SqT.of (e _ _ h1), hv⟩
  · obtain ⟨y1, y2⟩ := y
    subst y1
    obtain ⟨v, hv, q⟩ := h2.at hd
    have := y2 vs (SqT.of (e _ _ h1))
    rw [hv] at this
    cases this
    exact ⟨Evl.Ex.refl _, q.to (Tx.of e)⟩
theorem di_list (h : De tl sl (.ls ds)) : DI (iList K tl) sl ds := fun σ H hs R r => h σ H hs _ fun v H1 e1 q1 => by
  obtain ⟨p, vs, rfl, h1, h2⟩ := q1
  exact ⟨p, rfl, ⟨vs, SqL.of h1⟩, r _ H1 e1 (src_list h1 h2)⟩
theorem di_tup (h : De tl sl (.im (.tuple ds))) : DI (iTup K tl) sl ds := fun σ H hs R r => h σ H hs _ fun v H1 e1 q1 => by
  obtain ⟨p, vs, rfl, h1, h2⟩ := Im.ref q1
  exact ⟨p, rfl, ⟨vs, SqT.of h1⟩, r _ H1 e1 (src_tup h1 h2)⟩
def rngD (n : Nat) : List PyData := (List.range n).map fun (i : Nat) => PyData.int (i : Int)
theorem di_rng {n : Int} (h : De te sl (.im (.int n))) (h0 : 0 ≤ n) (h1 : n ≤ 100000) : DI (iRng1 (tCons te tNil)) sl (rngD n.toNat) := fun σ H hs R r => h σ H hs _ fun v H1 e1 q1 => by
  obtain rfl := Im.int_eq q1
  refine ⟨n, rfl, by omega, by omega, r _ H1 e1 ⟨fun i H _ hi => ?_, fun H _ => ?_, fun i H x H' d _ hd y => ?_⟩⟩
  · show i < n.toNat
    simpa [rngD] using hi
  · show n.toNat ≤ (rngD n.toNat).length
    simp [rngD]
  · obtain ⟨rfl, rfl⟩ := y
    have hd' : (List.range n.toNat)[i]?.map (fun (i : Nat) => PyData.int (i : Int)) = some d := by rw [← List.getElem?_map]; exact hd
    obtain ⟨j, hj, rfl⟩ := Option.map_eq_some_iff.mp hd'
    obtain ⟨hj1, hj2⟩ := List.getElem?_eq_some_iff.mp hj
    rw [List.getElem_range] at hj2
    subst hj2
    refine ⟨Evl.Ex.refl _, ?_⟩
    rw [Int.zero_add]
    exact .int _
def enD : Nat → List PyData → List PyData
  | _, [] => []
  | k, d :: ds => .tuple [.int (k : Int), d] :: enD (k + 1) ds
theorem enD_get : ∀ (ds : List PyData) (k i : Nat), (enD k ds)[i]? = (ds[i]?).map fun d => .tuple [.int ((k + i : Nat) : Int), d]
  | [], k, i => by simp [enD]
  | d :: ds, k, 0 => by simp [enD]
  | d :: ds, k, i + 1 => by
    show (enD (k + 1) ds)[i]? = _
    rw [enD_get ds (k + 1) i]
    simp only [List.getElem?_cons_succ]
    rw [show k + 1 + i = k + (i + 1) by omega]
theorem enD_len : ∀ (ds : List PyData) (k : Nat), (enD k ds).length = ds.length
  | [], _ => rfl
  | d :: ds, k => by
    show (enD (k + 1) ds).length + 1 = _
    rw [enD_len ds (k + 1)]
    rfl
theorem di_enumT (h : De te sl (.im (.tuple ds))) : DI (KA.iEnumT K (tCons te tNil)) sl (enD 0 ds) := fun σ H hs R r => h σ H hs _ fun v H1 e1 q1 => by
  obtain ⟨p, vs, rfl, h1, h2⟩ := Im.ref q1
  refine ⟨p, vs, rfl, SqT.of h1, r _ H1 e1 ⟨fun i H e hi => ⟨SqT.of (e _ _ h1), ?_⟩, fun H e => ⟨SqT.of (e _ _ h1), ?_⟩, fun i H x H' d e hd y => ?_⟩⟩
  · rw [enD_len] at hi
    rw [h2.length]
    exact hi
  · rw [enD_len, h2.length]
  · obtain ⟨T, ys, rfl, hT, rfl, u, hu, rfl⟩ := y
    rw [enD_get, Nat.zero_add] at hd
    obtain ⟨d', hd', rfl⟩ := Option.map_eq_some_iff.mp hd
    obtain ⟨v, hv, q⟩ := h2.at hd'
    rw [hv] at hu
    cases hu
    exact ⟨Evl.Ex.new hT, .tup upd_same (.cons (.int _) (.cons (q.to (Tx.of (e.trans (Evl.Ex.new hT)))) .nil))⟩
theorem di_enumL (h : De te sl (.ls ds)) : DI (iEnum K (tCons te tNil)) sl (enD 0 ds) := fun σ H hs R r => h σ H hs _ fun v H1 e1 q1 => by
  obtain ⟨p, vs, rfl, h1, h2⟩ := q1
  refine ⟨p, vs, rfl, SqL.of h1, r _ H1 e1 ⟨fun i H e hi => ?_, fun H e => ⟨vs, SqL.of (e _ _ h1), ?_⟩, fun i H x H' d e hd y => ?_⟩⟩
  · rw [enD_len, ← h2.length] at hi
    exact ⟨vs, vs[i], SqL.of (e _ _ h1), List.getElem?_eq_getElem hi⟩
  · rw [enD_len, h2.length]
    exact Nat.le_refl _
  · obtain ⟨T, u, rfl, hT, rfl, hu⟩ := y
    have hu := hu vs (SqL.of (e _ _ h1))
    rw [enD_get, Nat.zero_add] at hd
    obtain ⟨d', hd', rfl⟩ := Option.map_eq_some_iff.mp hd
    obtain ⟨v, hv, q⟩ := h2.at hd'
    rw [hv] at hu
    cases hu
    exact ⟨Evl.Ex.new hT, .tup upd_same (.cons (.int _) (.cons (q.to (Tx.of (e.trans (Evl.Ex.new hT)))) .nil))⟩
def zipD : List PyData → List PyData → List PyData := List.zipWith fun d e => .tuple [d, e]
theorem zipD_get {i : Nat} {d : PyData} (h : (zipD ds es)[i]? = some d) : ∃ x y, ds[i]? = some x ∧ es[i]? = some y ∧ d = .tuple [x, y] := by
  unfold zipD at h
  rw [List.getElem?_zipWith] at h
  cases h1 : ds[i]? with
  | none => rw [h1] at h; cases h
  | some x =>
    cases h2 : es[i]? with
    | none => rw [h1, h2] at h; cases h
    | some y =>
      rw [h1, h2] at h
      cases h
      exact ⟨x, y, rfl, rfl, rfl⟩
theorem zipD_len : (zipD ds es).length = min ds.length es.length := by simp [zipD]
theorem di_zipM {ta tb : TE} (ha : De ta sl (.im (.tuple ds))) (hb : De tb sl (.ls es)) : DI (KA.iZipM K (tCons ta (tCons tb tNil))) sl (zipD ds es) := fun σ H hs R r => ha σ H hs _ fun v H1 e1 q1 => hb σ H1 (hs.to e1) _ fun u H2 e2 q2 => by
  obtain ⟨p, vs, rfl, h1, h2⟩ := Im.ref q1
  obtain ⟨p2, us, rfl, g1, g2⟩ := q2
  have h1 := e2 _ _ h1
  have h2 := h2.to (Tx.of e2)
  have hn : min vs.length us.length = (zipD ds es).length := by rw [zipD_len, h2.length, g2.length]
  refine ⟨p, p2, vs, us, rfl, SqT.of h1, SqL.of g1, r _ H2 (e1.trans e2) ⟨fun i H e hi => ⟨⟨SqT.of (e _ _ h1), SqL.of (e _ _ g1)⟩, by rw [hn]; exact hi⟩, fun H e => ⟨⟨SqT.of (e _ _ h1), SqL.of (e _ _ g1)⟩, hn.symm⟩, fun i H x H' d e hd y => ?_⟩⟩
  obtain ⟨T, zs, rfl, hT, rfl, a, b, hx, hy, rfl⟩ := y
  obtain ⟨x', y', k1, k2, rfl⟩ := zipD_get hd
  obtain ⟨v1, z1, w1⟩ := h2.at k1
  obtain ⟨v2, z2, w2⟩ := g2.at k2
  rw [z1] at hx
  cases hx
  rw [z2] at hy
  cases hy
  exact ⟨Evl.Ex.new hT, .tup upd_same (.cons (w1.to (Tx.of (e.trans (Evl.Ex.new hT)))) (.cons (w2.to (Tx.of (e.trans (Evl.Ex.new hT)))) .nil))⟩
theorem di_zipT {ta tb : TE} (ha : De ta sl (.im (.tuple ds))) (hb : De tb sl (.im (.tuple es))) : DI (RZ.iZipA K (tCons ta (tCons tb tNil))) sl (zipD ds es) := fun σ H hs R r => ha σ H hs _ fun v H1 e1 q1 => hb σ H1 (hs.to e1) _ fun u H2 e2 q2 => by
  obtain ⟨p, vs, rfl, h1, h2⟩ := Im.ref q1
  obtain ⟨p2, us, rfl, g1, g2⟩ := Im.ref q2
  have h1 := e2 _ _ h1
  have h2 := h2.to (Tx.of e2)
  have hn : min vs.length us.length = (zipD ds es).length := by rw [zipD_len, h2.length, g2.length]
  refine ⟨p, p2, vs, us, rfl, .inr ⟨SqT.of h1, SqT.of g1, r _ H2 (e1.trans e2) ⟨fun i H e hi => ?_, fun H e => ⟨vs, us, SqT.of (e _ _ h1), SqT.of (e _ _ g1), by omega⟩, fun i H x H' d e hd y => ?_⟩⟩⟩
  · exact ⟨vs, us, vs[i]'(by omega), us[i]'(by omega), SqT.of (e _ _ h1), SqT.of (e _ _ g1), List.getElem?_eq_getElem _, List.getElem?_eq_getElem _⟩
  · obtain ⟨T, a, b, rfl, hT, rfl, hx, hy⟩ := y
    have hx := hx vs (SqT.of (e _ _ h1))
    have hy := hy us (SqT.of (e _ _ g1))
    obtain ⟨x', y', k1, k2, rfl⟩ := zipD_get hd
    obtain ⟨v1, z1, w1⟩ := h2.at k1
    obtain ⟨v2, z2, w2⟩ := g2.at k2
    rw [z1] at hx
    cases hx
    rw [z2] at hy
    cases hy
    exact ⟨Evl.Ex.new hT, .tup upd_same (.cons (w1.to (Tx.of (e.trans (Evl.Ex.new hT)))) (.cons (w2.to (Tx.of (e.trans (Evl.Ex.new hT)))) .nil))⟩

/-! ### targets -/
def Tg (g : TG) (vs : List Nat) (fs : PyData → SL → SL → Prop) : Prop := ∀ (σ0 : L2.St) (σ : L2.St) (H : Hp) (x : V) (d : PyData) (sl sl' : SL), σ = L2.wipe σ0 vs → Sl H σ sl → Im H x d → fs d sl sl' →
  ∀ R : L2.St → Hp → Prop, (∀ σ2, Sl H σ2 sl' → L2.wipe σ2 vs = L2.wipe σ0 vs → R σ2 H) → g x σ H R
def fsN (j : Nat) : PyData → SL → SL → Prop := fun d sl sl' => sl' = sl.set j (some (.im d))
def fsP (i j : Nat) : PyData → SL → SL → Prop := fun d sl sl' => ∃ d1 d2, d = .tuple [d1, d2] ∧ sl' = (sl.set i (some (.im d1))).set j (some (.im d2))
abbrev gPair (K : PySem.W.Frag) (i j : Nat) : TG := gTup K 2 (gCons (gName i) (gCons (gName j) gNil))
theorem tg_name {j : Nat} {vs : List Nat} (hj : j ∈ vs) : Tg (gName j) vs (fsN j) := by
  intro σ0 σ H x d sl sl' e hs hx f R r
  cases f
  subst e
  exact r _ (Sl.set (a := .im d) hx j hs) (wipe_set hj)
theorem tg_pair {i j : Nat} {vs : List Nat} (hi : i ∈ vs) (hj : j ∈ vs) : Tg (gPair K i j) vs (fsP i j) := by
  intro σ0 σ H x d sl sl' e hs hx f R r
  obtain ⟨d1, d2, rfl, rfl⟩ := f
  subst e
  obtain ⟨T, xs, rfl, h1, h2⟩ := Im.ref hx
  obtain ⟨v1, us, rfl, q1, h3⟩ := h2.cons_eq
  obtain ⟨v2, us, rfl, q2, h4⟩ := h3.cons_eq
  obtain rfl := h4.nil_eq
  exact ⟨T, _, rfl, SqT.of h1, rfl, v1, _, rfl, v2, [], rfl, rfl, r _ (Sl.set (a := .im d2) q2 j (Sl.set (a := .im d1) q1 i hs)) (wipe_set2 hi hj)⟩
/-! ### list comprehensions -/
theorem tx_lst {H : Hp} {D : Addr} {vs us : List V} (h : H D = some (.lst vs)) : Tx H (upd H D (.lst us)) := Tx.upd fun xs e => by
  rw [h] at e
  cases e
theorem de_lc {wi : TI} {g : TG} {tt : TT} {vs : List Nat} {fs : PyData → SL → SL → Prop} {src : List PyData} (f : PyData → Option PyData) (hi : DI wi sl src) (hg : Tg g vs fs) (hl : src.length ≤ 50000)
    (turn : ∀ d ∈ src, ∃ sl', fs d (wipeD sl vs) sl' ∧ ∃ b, Dt tt sl' b ∧ (b = true → ∃ e, f d = some e ∧ De te sl' (.im e)) ∧ (b = false → f d = none)) : De (tLc wi g tt te vs) sl (.ls (src.filterMap f)) := by
  intro σ H hs Q q
  refine hi σ H hs _ fun J H2 e2 hJ => ?_
  obtain ⟨s1, s2, s3⟩ := hJ
  intro D hD
  refine ⟨fun i m H' => m = src.length - i ∧ i ≤ src.length ∧ Ex H2 H' ∧ ∃ us, H' D = some (.lst us) ∧ ImA H' us ((src.take i).filterMap f), ⟨_, rfl, Nat.zero_le _, Evl.Ex.new hD, [], upd_same, .nil⟩, ?_⟩
  rintro i m H' ⟨rfl, hile, e3, us, hus, hims⟩
  by_cases hlt : i < src.length
  · refine .inr ⟨s1 i H' e3 hlt, fun H4 => Ex H2 H4 ∧ ∃ us, H4 D = some (.lst us) ∧ ImA H4 us ((src.take (i + 1)).filterMap f), fun H4 ⟨k1, k2⟩ => ⟨src.length - (i + 1), by omega, rfl, hlt, k1, k2⟩, fun x H5 y => ?_⟩
    obtain ⟨e5, hx⟩ := s3 i H' x H5 src[i] e3 (List.getElem?_eq_getElem hlt) y
    obtain ⟨sl', hf, b, hb, ht, hff⟩ := turn src[i] (List.getElem_mem hlt)
    have hsw := ((hs.to (e2.trans (e3.trans e5))).wipe vs)
    refine hg σ _ H5 x src[i] _ sl' rfl hsw hx hf _ fun σ2 hs2 hw => ⟨hw, ?_⟩
    have etake : src.take (i + 1) = src.take i ++ [src[i]] := by rw [List.take_add_one, List.getElem?_eq_getElem hlt]; rfl
    have hacc : us.length < sizeLine := by
      rw [hims.length]
      have := List.length_filterMap_le f (src.take i)
      rw [List.length_take] at this
      exact Evl.sz_lt (by omega)
    refine hb σ2 H5 hs2 _ fun H6 e6 => ?_
    cases b with
    | false =>
      show Ex H2 H6 ∧ _
      have e36 := (e3.trans e5).trans e6
      refine ⟨e36, us, e6 _ _ (e5 _ _ hus), ?_⟩
      rw [etake, List.filterMap_append]
      have : [src[i]].filterMap f = [] := by simp [hff rfl]
      rw [this, List.append_nil]
      exact hims.to (Tx.of (e5.trans e6))
    | true =>
      obtain ⟨e, he1, he2⟩ := ht rfl
      show te σ2 H6 _
      refine he2 σ2 H6 (hs2.to e6) _ fun yv H7 e7 qy => ⟨us, e7 _ _ (e6 _ _ (e5 _ _ hus)), hacc, Evl.Ex.mut (((e3.trans e5).trans e6).trans e7) hD, us ++ [yv], upd_same, ?_⟩
      rw [etake, List.filterMap_append]
      have : [src[i]].filterMap f = [e] := by simp [he1]
      rw [this]
      have hus7 := e7 _ _ (e6 _ _ (e5 _ _ hus))
      exact (hims.to ((Tx.of ((e5.trans e6).trans e7)).trans (tx_lst hus7))).append (.one (Im.to qy (tx_lst hus7)))
  · have e : i = src.length := by omega
    subst e
    rw [List.take_length] at hims
    exact .inl ⟨s2 H' e3, q _ _ (e2.trans e3) ⟨D, us, rfl, hus, hims⟩⟩
/-- no test -/
theorem dt_yes : Dt tYes sl true := fun σ H _ Q q => q H (Evl.Ex.refl H)
theorem de_lcA {wi : TI} {g : TG} {vs : List Nat} {fs : PyData → SL → SL → Prop} {src : List PyData} (f : PyData → PyData) (hi : DI wi sl src) (hg : Tg g vs fs) (hl : src.length ≤ 50000)
    (turn : ∀ d ∈ src, ∃ sl', fs d (wipeD sl vs) sl' ∧ De te sl' (.im (f d))) : De (tLc wi g tYes te vs) sl (.ls (src.map f)) := by
  have := de_lc (te := te) (tt := tYes) (fun d => some (f d)) hi hg hl fun d hd => by
    obtain ⟨sl', h1, h2⟩ := turn d hd
    exact ⟨sl', h1, true, dt_yes, fun _ => ⟨_, rfl, h2⟩, fun z => nomatch z⟩
  rw [List.filterMap_eq_map'] at this
  exact this

/-! ### bodies -/
section
variable {a a1 a2 a3 : Da} {t u : TS} {ta : TA} {c : TT} {b : Bool} {i j k : Nat}
theorem dr_ret (h : De te sl a) : Dr (tRet te) sl a := fun σ H hs Q nx q => h σ H hs _ q
theorem dr_retS (h : De te sl a) : Dr (tSeq (tRet te) u) sl a := fun σ H hs Q nx q => h σ H hs _ q
theorem dr_asg (h : De te sl a1) (k : Dr u (sl.set i (some a1)) a) : Dr (tSeq (tAsg te (gName i)) u) sl a := fun σ H hs Q nx q => h σ H hs _ fun v H1 e1 q1 => k _ H1 (Sl.set q1 i (hs.to e1)) Q nx fun v H2 e2 q2 => q v H2 (e1.trans e2) q2
theorem dr_par (h : DeA ta sl [a1, a2]) (k : Dr u ((sl.set i (some a1)).set j (some a2)) a) : Dr (tSeq (tPar i j ta) u) sl a := fun σ H hs Q nx q => h σ H hs _ fun vs H1 e1 q1 => by
  cases q1 with
  | cons r1 q1 =>
    cases q1 with
    | cons r2 q1 =>
      cases q1
      exact ⟨_, _, rfl, k _ H1 (Sl.set r2 j (Sl.set r1 i (hs.to e1))) Q nx fun v H2 e2 q2 => q v H2 (e1.trans e2) q2⟩
theorem dr_unp2 {d1 d2 : PyData} (h : De te sl (.im (.tuple [d1, d2]))) (k : Dr u ((sl.set i (some (.im d1))).set j (some (.im d2))) a) : Dr (tSeq (tAsg te (gTup K 2 (gCons (gName i) (gCons (gName j) gNil)))) u) sl a := fun σ H hs Q nx q => h σ H hs _ fun v H1 e1 q1 => by
  obtain ⟨T, xs, rfl, h1, h2⟩ := Im.ref q1
  obtain ⟨v1, us, rfl, r1, h3⟩ := h2.cons_eq
  obtain ⟨v2, us, rfl, r2, h4⟩ := h3.cons_eq
  obtain rfl := h4.nil_eq
  exact ⟨T, _, rfl, SqT.of h1, rfl, v1, _, rfl, v2, [], rfl, rfl, k _ H1 (Sl.set (a := .im d2) r2 j (Sl.set (a := .im d1) r1 i (hs.to e1))) Q nx fun v H2 e2 q2 => q v H2 (e1.trans e2) q2⟩
theorem dr_unp3 {d1 d2 d3 : PyData} (h : De te sl (.im (.tuple [d1, d2, d3]))) (kk : Dr u (((sl.set i (some (.im d1))).set j (some (.im d2))).set k (some (.im d3))) a) : Dr (tSeq (tAsg te (gTup K 3 (gCons (gName i) (gCons (gName j) (gCons (gName k) gNil))))) u) sl a := fun σ H hs Q nx q => h σ H hs _ fun v H1 e1 q1 => by
  obtain ⟨T, xs, rfl, h1, h2⟩ := Im.ref q1
  obtain ⟨v1, us, rfl, r1, h3⟩ := h2.cons_eq
  obtain ⟨v2, us, rfl, r2, h4⟩ := h3.cons_eq
  obtain ⟨v3, us, rfl, r3, h5⟩ := h4.cons_eq
  obtain rfl := h5.nil_eq
  exact ⟨T, _, rfl, SqT.of h1, rfl, v1, _, rfl, v2, _, rfl, v3, [], rfl, rfl, kk _ H1 (Sl.set (a := .im d3) r3 k (Sl.set (a := .im d2) r2 j (Sl.set (a := .im d1) r1 i (hs.to e1)))) Q nx fun v H2 e2 q2 => q v H2 (e1.trans e2) q2⟩
theorem dr_if {t2 : TS} (h : Dt c sl b) (h1 : b = true → Dr (tSeq t u) sl a) (h2 : b = false → Dr (tSeq t2 u) sl a) : Dr (tSeq (tIfS c t t2) u) sl a := fun σ H hs Q nx q => h σ H hs _ fun H1 e1 => by
  cases b with
  | true => exact h1 rfl σ H1 (hs.to e1) Q nx fun v H2 e2 q2 => q v H2 (e1.trans e2) q2
  | false => exact h2 rfl σ H1 (hs.to e1) Q nx fun v H2 e2 q2 => q v H2 (e1.trans e2) q2
theorem dr_next (h : Dr u sl a) : Dr (tSeq tNext u) sl a := h
theorem dr_assoc {t2 : TS} (h : Dr (tSeq t (tSeq t2 u)) sl a) : Dr (tSeq (tSeq t t2) u) sl a := h
end
end

/-! ### promises of defs that change nothing -/
/-- called with data as it gives a where R as a -/
def spR (R : List Da → Da → Prop) : Sp := fun vs H Q _ => ∃ as a, HsA H vs as ∧ R as a ∧ ∀ v H', Ex H H' → Hs H' v a → Q v H'
theorem de_call {R : List Da → Da → Prop} {t : TA} {sl : SL} {as : List Da} {a : Da} (h : DeA t sl as) (hR : R as a) : De (tCall (spR R) [] E0 t) sl a := fun σ H hs Q q => h σ H hs _ fun vs H1 e1 q1 =>
  ⟨as, a, by rw [List.append_nil]; exact q1, hR, fun v H' e2 q2 => q v H' (e1.trans e2) q2⟩
theorem sl_start {H : Hp} {N : List Str} : ∀ {vs : List V} {as : List Da}, HsA H vs as → ∀ n, Sl H (vs.map some ++ List.replicate n none) (as.map some ++ List.replicate n none)
  | _, _, .nil, n => by
    induction n with
    | zero => exact .nil
    | succ n ih => exact .cons True.intro ih
  | _, _, .cons r t, n => .cons ⟨_, rfl, r⟩ (sl_start (N := N) t n)
section
variable {P : Program} {w : World} {K : PySem.W.Frag} {mg : Str → Option Value} {base : Heap}
theorem pure_ok {x qual : Str} {st : Stmt} {f : Addr} {fd : FuncData} {N ps : List Str} {k : Nat} {R : List Da → Da → Prop} (F : Fun K x qual st f fd) (S : FnScope N ps (defScope st)) (len : ∀ as a, R as a → as.length = ps.length)
    (body : ∀ (cdv : Value) (A : Around) (outer : List Env) (s : Shared) (H : Hp) (E : XK), Room k (A.deeper (envOfC qual (defScope st) s.heap.objs.size f cdv)) →
      ∃ t, PSs (cxOf CX0 P w K mg base N qual (defScope st) f cdv A outer s H E).nox (defBody st) t ∧ ∀ as a, R as a → Dr t (as.map some ++ List.replicate (N.length - as.length) none) a) : FnOk P w K mg base CX0 (k + 1) f fd ps (spR R) := by
  refine F.ok S (fun vs H Q E h => ?_) (fun cdv A outer s H vs Q E hr h => ?_)
  · obtain ⟨as, a, h1, h2, _⟩ := h
    rw [h1.length]
    exact len as a h2
  · obtain ⟨as, a, h1, h2, q⟩ := h
    obtain ⟨t, ht, hd⟩ := body cdv A outer s H E hr
    refine ⟨t, ht, hd as a h2 _ H ?_ Q _ q⟩
    show Sl H (vs.map some ++ List.replicate (N.length - vs.length) none) _
    rw [h1.length]
    exact sl_start (N := N) h1 _
end
end KV
namespace KV
open PySem PySem.Spec PyProof.Rows L2 KB KC KD
open Evl (Ex EvT)
open StX (tStar)
section
variable {ta tb tc te tl : TE} {tt tu : TT} {sl : SL} {a b : Da} {d e : PyData} {ds es : List PyData} {K : PySem.W.Frag} {P : Program} {w : World} {α β : Type}
theorem de_eq2 {te' : TE} (h : De te sl a) (e : te = te') : De te' sl a := e ▸ h
theorem de_chainLe {i j k : Int} (ha : De ta sl (.im (.int i))) (hb : De tb sl (.im (.int j))) (hc : De tc sl (.im (.int k))) :
    De (tChain (rI0 fun i j => .bl (decide (i ≤ j))) (rI0 fun i j => .bl (decide (i ≤ j))) ta tb tc) sl (.im (.bool (decide (i ≤ j) && decide (j ≤ k)))) := fun σ H hs Q q =>
  ha σ H hs _ fun v H1 e1 q1 => hb σ H1 (hs.to e1) _ fun u H2 e2 q2 => by
    obtain rfl := Im.int_eq q1
    obtain rfl := Im.int_eq q2
    refine ⟨i, j, rfl, rfl, decide (i ≤ j), rfl, ?_⟩
    by_cases c : i ≤ j
    · rw [if_pos (decide_eq_true c)]
      refine hc σ H2 (hs.to (e1.trans e2)) _ fun z H3 e3 q3 => ?_
      obtain rfl := Im.int_eq q3
      refine ⟨j, k, rfl, rfl, ?_⟩
      rw [decide_eq_true c, Bool.true_and] at q
      exact q _ H3 ((e1.trans e2).trans e3) (.bl _)
    · have : decide (i ≤ j) = false := decide_eq_false c
      rw [if_neg (by rw [this]; exact Bool.false_ne_true)]
      rw [this, Bool.false_and] at q
      exact q _ H2 (e1.trans e2) (.bl _)
/-- a list that is new -/
def DeN (te : TE) (sl : SL) (ds : List PyData) : Prop := ∀ σ H, Sl H σ sl → ∀ Q : VK, (∀ p vs H2, Ex H H2 → H p = none → H2 p = some (.lst vs) → ImA H2 vs ds → Q (.ref p) H2) → te σ H Q
theorem DeN.de (h : DeN te sl ds) : De te sl (.ls ds) := fun σ H hs Q q => h σ H hs Q fun p vs H2 e _ h1 h2 => q _ H2 e ⟨p, vs, rfl, h1, h2⟩
theorem den_lc {wi : TI} {g : TG} {tt : TT} {vs : List Nat} {fs : PyData → SL → SL → Prop} {src : List α} {enc : α → PyData} {out : β → PyData} (f : α → Option β) (hi : DI wi sl (src.map enc)) (hg : Tg g vs fs) (hl : src.length ≤ 50000)
    (turn : ∀ d ∈ src, ∃ sl', fs (enc d) (wipeD sl vs) sl' ∧ ∃ b, Dt tt sl' b ∧ (b = true → ∃ e, f d = some e ∧ De te sl' (.im (out e))) ∧ (b = false → f d = none)) : DeN (tLc wi g tt te vs) sl ((src.filterMap f).map out) := by
  intro σ H hs Q q
  refine hi σ H hs _ fun J H2 e2 hJ => ?_
  obtain ⟨s1, s2, s3⟩ := hJ
  rw [List.length_map] at s1 s2
  intro D hD
  have hD0 : H D = none := by
    cases e : H D with
    | none => rfl
    | some o => rw [e2 _ _ e] at hD; cases hD
  refine ⟨fun i m H' => m = src.length - i ∧ i ≤ src.length ∧ Ex H2 H' ∧ ∃ us, H' D = some (.lst us) ∧ ImA H' us (((src.take i).filterMap f).map out), ⟨_, rfl, Nat.zero_le _, Evl.Ex.new hD, [], upd_same, .nil⟩, ?_⟩
  rintro i m H' ⟨rfl, hile, e3, us, hus, hims⟩
  by_cases hlt : i < src.length
  · refine .inr ⟨s1 i H' e3 hlt, fun H4 => Ex H2 H4 ∧ ∃ us, H4 D = some (.lst us) ∧ ImA H4 us (((src.take (i + 1)).filterMap f).map out), fun H4 ⟨k1, k2⟩ => ⟨src.length - (i + 1), by omega, rfl, hlt, k1, k2⟩, fun x H5 y => ?_⟩
    obtain ⟨e5, hx⟩ := s3 i H' x H5 (enc src[i]) e3 (by rw [List.getElem?_map, List.getElem?_eq_getElem hlt]; rfl) y
    obtain ⟨sl', hf, b, hb, ht, hff⟩ := turn src[i] (List.getElem_mem hlt)
    have hsw := ((hs.to (e2.trans (e3.trans e5))).wipe vs)
    refine hg σ _ H5 x (enc src[i]) _ sl' rfl hsw hx hf _ fun σ2 hs2 hw => ⟨hw, ?_⟩
    have etake : src.take (i + 1) = src.take i ++ [src[i]] := by rw [List.take_add_one, List.getElem?_eq_getElem hlt]; rfl
    have hacc : us.length < sizeLine := by
      rw [hims.length, List.length_map]
      have := List.length_filterMap_le f (src.take i)
      rw [List.length_take] at this
      exact Evl.sz_lt (by omega)
    refine hb σ2 H5 hs2 _ fun H6 e6 => ?_
    cases b with
    | false =>
      show Ex H2 H6 ∧ _
      have e36 := (e3.trans e5).trans e6
      refine ⟨e36, us, e6 _ _ (e5 _ _ hus), ?_⟩
      rw [etake, List.filterMap_append]
      have : [src[i]].filterMap f = [] := by simp [hff rfl]
      rw [this, List.append_nil]
      exact hims.to (Tx.of (e5.trans e6))
    | true =>
      obtain ⟨e, he1, he2⟩ := ht rfl
      show te σ2 H6 _
      refine he2 σ2 H6 (hs2.to e6) _ fun yv H7 e7 qy => ⟨us, e7 _ _ (e6 _ _ (e5 _ _ hus)), hacc, Evl.Ex.mut (((e3.trans e5).trans e6).trans e7) hD, us ++ [yv], upd_same, ?_⟩
      rw [etake, List.filterMap_append, List.map_append]
      have : [src[i]].filterMap f = [e] := by simp [he1]
      rw [this]
      have hus7 := e7 _ _ (e6 _ _ (e5 _ _ hus))
      exact (hims.to ((Tx.of ((e5.trans e6).trans e7)).trans (tx_lst hus7))).append (.one (Im.to qy (tx_lst hus7)))
  · have e : i = src.length := by omega
    subst e
    rw [List.take_length] at hims
    exact .inl ⟨s2 H' e3, q D us H' (e2.trans e3) hD0 hus hims⟩
theorem den_lcA {wi : TI} {g : TG} {vs : List Nat} {fs : PyData → SL → SL → Prop} {src : List α} {enc : α → PyData} (f : α → PyData) (hi : DI wi sl (src.map enc)) (hg : Tg g vs fs) (hl : src.length ≤ 50000)
    (turn : ∀ d ∈ src, ∃ sl', fs (enc d) (wipeD sl vs) sl' ∧ De te sl' (.im (f d))) : DeN (tLc wi g tYes te vs) sl (src.map f) := by
  have := den_lc (te := te) (tt := tYes) (out := f) some hi hg hl fun d hd => by
    obtain ⟨sl', h1, h2⟩ := turn d hd
    exact ⟨sl', h1, true, dt_yes, fun _ => ⟨_, rfl, h2⟩, fun z => nomatch z⟩
  rw [List.filterMap_some] at this
  exact this
/-- two fors, no tests, the inner one over range(n) -/
theorem den_lc2 {wi : TI} {j0 j1 : Nat} {vs : List Nat} {src : List α} {enc : α → PyData} (n : Nat) (f : α → Nat → PyData) (hi : DI wi sl (src.map enc)) (hj0 : j0 ∈ vs)
    (turn : ∀ d ∈ src, ∃ sl', sl' = (wipeD sl vs).set j0 (some (.im (enc d))) ∧ De te sl' (.im (.int (n : Int))) ∧ ∀ i, i < n → De tl ((wipeD sl' [j1]).set j1 (some (.im (.int (i : Int))))) (.im (f d i))) (hl : (src.flatMap fun d => (List.range n).map (f d)).length ≤ 50000) (hn : n ≤ 50000) :
    DeN (tLc2 wi (gName j0) tYes (iRng1 (tCons te tNil)) (gName j1) tYes tl vs [j1]) sl (src.flatMap fun d => (List.range n).map (f d)) := by
  intro σ H hs Q q
  refine hi σ H hs _ fun J H2 e2 hJ => ?_
  obtain ⟨s1, s2, s3⟩ := hJ
  rw [List.length_map] at s1 s2
  intro D hD
  have hD0 : H D = none := by
    cases e : H D with
    | none => rfl
    | some o => rw [e2 _ _ e] at hD; cases hD
  refine ⟨fun i m H' => m = src.length - i ∧ i ≤ src.length ∧ Ex H2 H' ∧ ∃ us, H' D = some (.lst us) ∧ ImA H' us ((src.take i).flatMap fun d => (List.range n).map (f d)), ⟨_, rfl, Nat.zero_le _, Evl.Ex.new hD, [], upd_same, .nil⟩, ?_⟩
  rintro i m H' ⟨rfl, hile, e3, us, hus, hims⟩
  by_cases hlt : i < src.length
  · refine .inr ⟨s1 i H' e3 hlt, fun H4 => Ex H2 H4 ∧ ∃ us, H4 D = some (.lst us) ∧ ImA H4 us ((src.take (i + 1)).flatMap fun d => (List.range n).map (f d)), fun H4 ⟨k1, k2⟩ => ⟨src.length - (i + 1), by omega, rfl, hlt, k1, k2⟩, fun x H5 y => ?_⟩
    obtain ⟨e5, hx⟩ := s3 i H' x H5 (enc src[i]) e3 (by rw [List.getElem?_map, List.getElem?_eq_getElem hlt]; rfl) y
    obtain ⟨sl', hf, hinn, ht⟩ := turn src[i] (List.getElem_mem hlt)
    have mkS : ∀ {H' : Hp}, Ex H2 H' → Im H' x (enc src[i]) → Sl H' ((L2.wipe σ vs).set j0 (some x)) sl' := fun {H'} e q => by
      rw [hf]
      exact Sl.set (a := .im (enc src[i])) q j0 ((hs.to (e2.trans e)).wipe vs)
    have hs2 := mkS (e3.trans e5) hx
    refine ⟨wipe_set hj0, ?_⟩
    generalize hσ2 : (L2.wipe σ vs).set j0 (some x) = σ2 at hs2 mkS
    have etake : src.take (i + 1) = src.take i ++ [src[i]] := by rw [List.take_add_one, List.getElem?_eq_getElem hlt]; rfl
    refine dt_yes σ2 H5 (sl := sl') hs2 _ fun H6 e6 => ?_
    rw [if_pos rfl]
    show iRng1 (tCons te tNil) σ2 H6 _
    refine hinn σ2 H6 (hs2.to e6) _ fun v H7 e7 q7 => ?_
    obtain rfl := Im.int_eq q7
    refine ⟨n, rfl, by omega, by omega, ?_⟩
    have e27 := ((e3.trans e5).trans e6).trans e7
    have hus7 := e7 _ _ (e6 _ _ (e5 _ _ hus))
    have hims7 := hims.to (Tx.of ((e5.trans e6).trans e7))
    have hbig : ((src.take i).flatMap fun d => (List.range n).map (f d)).length + n ≤ 50000 := by
      have h1 : (src.flatMap fun d => (List.range n).map (f d)) = ((src.take i).flatMap fun d => (List.range n).map (f d)) ++ (src.drop i).flatMap fun d => (List.range n).map (f d) := by
        rw [← List.flatMap_append, List.take_append_drop]
      rw [h1, List.drop_eq_getElem_cons hlt, List.flatMap_cons, List.length_append, List.length_append, List.length_map, List.length_range] at hl
      omega
    have hs7 := (hs.to (e2.trans e27))
    refine ⟨fun j k H' => k = n - j ∧ j ≤ n ∧ Ex H2 H' ∧ Im H' x (enc src[i]) ∧ ∃ us, H' D = some (.lst us) ∧ ImA H' us (((src.take i).flatMap fun d => (List.range n).map (f d)) ++ ((List.range j).map (f src[i]))), ⟨_, rfl, Nat.zero_le _, e27, Im.to hx (Tx.of (e6.trans e7)), us, hus7, by simpa using hims7⟩, ?_⟩
    rintro j k H8 ⟨rfl, hjle, e8, hx8, us8, hus8, hims8⟩
    have hs8 := mkS e8 hx8
    by_cases hj : j < n
    · refine .inr ⟨hj, fun H' => Ex H2 H' ∧ Im H' x (enc src[i]) ∧ ∃ us, H' D = some (.lst us) ∧ ImA H' us (((src.take i).flatMap fun d => (List.range n).map (f d)) ++ ((List.range (j + 1)).map (f src[i]))), fun H' ⟨k1, k2, k3⟩ => ⟨n - (j + 1), by omega, rfl, hj, k1, k2, k3⟩, fun z H9 y9 => ?_⟩
      obtain ⟨rfl, rfl⟩ := y9
      rw [Int.zero_add]
      refine ⟨wipe_set (by simp), ?_⟩
      have hs9 : Sl H9 ((L2.wipe σ2 [j1]).set j1 (some (.int (j : Int)))) ((wipeD sl' [j1]).set j1 (some (.im (.int (j : Int))))) := Sl.set (a := .im (.int (j : Int))) (.int _) j1 (hs8.wipe [j1])
      refine dt_yes _ H9 hs9 _ fun H10 e10 => ?_
      rw [if_pos rfl]
      refine ht j hj _ H10 (hs9.to e10) _ fun yv H11 e11 q11 => ?_
      have hus11 := e11 _ _ (e10 _ _ hus8)
      refine ⟨us8, hus11, ?_, Evl.Ex.mut ((e8.trans e10).trans e11) hD, ?_, us8 ++ [yv], upd_same, ?_⟩
      · rw [hims8.length, List.length_append, List.length_map, List.length_range]
        exact Evl.sz_lt (by omega)
      · exact Im.to hx8 ((Tx.of (e10.trans e11)).trans (tx_lst hus11))
      · rw [List.range_succ, List.map_append, ← List.append_assoc]
        exact (hims8.to ((Tx.of (e10.trans e11)).trans (tx_lst hus11))).append (.one (Im.to q11 (tx_lst hus11)))
    · have : j = n := by omega
      subst this
      refine .inl ⟨Nat.le_refl _, e8, us8, hus8, ?_⟩
      rw [etake, List.flatMap_append]
      simpa using hims8
  · have e : i = src.length := by omega
    subst e
    rw [List.take_length] at hims
    exact .inl ⟨s2 H' e3, q D us H' (e2.trans e3) hD0 hus hims⟩
end
end KV
namespace KV
open PySem PySem.Spec PyProof.Rows L2 KB KC KD
open Evl (Ex EvT)
open StX (tStar)
section
variable {ta tb tc te tl : TE} {tt tu : TT} {sl : SL} {a b : Da} {d e : PyData} {ds es : List PyData} {K : PySem.W.Frag} {P : Program} {w : World} {α β : Type}
/-! ### comprehensions, with all types written -/
theorem den_lcX {wi : TI} {g : TG} {vs : List Nat} {fs : PyData → SL → SL → Prop} {S : List PyData} (src : List α) (enc : α → PyData) (f : α → PyData) (hsrc : S = src.map enc) (hout : src.map f = ds) (hi : DI wi sl S) (hg : Tg g vs fs) (hl : src.length ≤ 50000)
    (turn : ∀ d ∈ src, ∃ sl', fs (enc d) (wipeD sl vs) sl' ∧ De te sl' (.im (f d))) : DeN (tLc wi g tYes te vs) sl ds := by
  subst hsrc
  subst hout
  exact den_lcA f hi hg hl turn
theorem den_lcF {wi : TI} {g : TG} {vs : List Nat} {fs : PyData → SL → SL → Prop} {S : List PyData} (src : List α) (enc : α → PyData) (f : α → Option β) (out : β → PyData) (hsrc : S = src.map enc) (hout : (src.filterMap f).map out = ds) (hi : DI wi sl S) (hg : Tg g vs fs) (hl : src.length ≤ 50000)
    (turn : ∀ d ∈ src, ∃ sl', fs (enc d) (wipeD sl vs) sl' ∧ ∃ b, Dt tt sl' b ∧ (b = true → ∃ e, f d = some e ∧ De te sl' (.im (out e))) ∧ (b = false → f d = none)) : DeN (tLc wi g tt te vs) sl ds := by
  subst hsrc
  subst hout
  exact den_lc f hi hg hl turn
/-! ### more operations -/
theorem ima_drop {H : Hp} : ∀ (n : Nat) {ds : List PyData} {vs : List V}, ImA H vs ds → ImA H (vs.drop n) (ds.drop n)
  | 0, _, _, h => h
  | n + 1, [], _, h => by cases h; exact .nil
  | n + 1, d :: ds, _, h => by
    cases h with
    | cons h1 h2 => exact ima_drop n h2
theorem cut1 (xs : List V) : cutV xs (some 1) none = xs.drop 1 := by
  unfold cutV
  rw [show HT.sIx xs.length 0 (some 1) = min 1 xs.length from HT.sIx_nat xs.length 0 1, HT.sIx_none]
  cases xs with
  | nil => rfl
  | cons x r =>
    rw [show min 1 (x :: r).length = 1 by
      rw [List.length_cons]
      omega]
    show (List.take ((x :: r).length - 1) r) = r
    rw [List.length_cons, Nat.add_sub_cancel]
    exact List.take_length
/-- t[1:], t not empty -/
theorem de_tail (h : De te sl (.im (.tuple (d :: ds)))) : De (tSl (rSlT K) te (tPart (tC (.int 1))) tNoPart) sl (.im (.tuple ds)) := fun σ H hs Q q => h σ H hs _ fun v H1 e1 q1 => by
  obtain ⟨p, xs, rfl, h1, h2⟩ := Im.ref q1
  have hl : xs.length = ds.length + 1 := h2.length
  refine ⟨1, rfl, p, xs, rfl, SqT.of h1, fun z => ?_, fun l hl => q _ _ (e1.trans (Evl.Ex.new hl)) (.tup upd_same ?_)⟩
  · have := z.1
    rw [show HT.sIx xs.length 0 (some 1) = min 1 xs.length from HT.sIx_nat xs.length 0 1] at this
    omega
  · rw [cut1]
    exact (ima_drop 1 h2).to (Tx.of (Evl.Ex.new hl))
theorem flatten_one {γ : Type} (x : γ) : ∀ n : Nat, (List.replicate n [x]).flatten = List.replicate n x
  | 0 => rfl
  | n + 1 => by rw [List.replicate_succ, List.flatten_cons, flatten_one x n, List.replicate_succ]; rfl
theorem ima_rep {H : Hp} : ∀ n : Nat, ImA H (List.replicate n .non) (List.replicate n .none)
  | 0 => .nil
  | n + 1 => .cons .non (ima_rep n)
/-- [None] * n -/
theorem den_rep {n : Nat} (h : De te sl (.im (.int (n : Int)))) (hn : n ≤ 1000) : DeN (tOp rRep (tLst (tCons (tC .non) tNil)) te) sl (List.replicate n .none) := fun σ H hs Q q =>
  ⟨by decide, fun p hp => h σ _ (hs.to (Evl.Ex.new hp)) _ fun v H2 e2 q2 => by
    obtain rfl := Im.int_eq q2
    have e1 := (Evl.Ex.new hp).trans e2
    refine ⟨p, n, [.non], rfl, rfl, e2 _ _ upd_same, by omega, by omega, ?_, fun l hl => ?_⟩
    · have : ([V.non] : List V).length * ((n : Int)).toNat ≤ 1000 := by simpa using hn
      exact Nat.le_trans this (by decide)
    · have hH : H l = none := by
        cases e : H l with
        | none => rfl
        | some o => rw [e1 _ _ e] at hl; cases hl
      refine q l _ _ (e1.trans (Evl.Ex.new hl)) hH upd_same ?_
      rw [show ((n : Int)).toNat = n by omega, flatten_one]
      exact ima_rep n⟩
/-- (None,) * n, n at least 1 -/
theorem de_repT {n : Nat} (h : De te sl (.im (.int (n : Int)))) (h1 : 1 ≤ n) (hn : n ≤ 1000) : De (tOp (rRepN K) (tTup (tCons (tC .non) tNil)) te) sl (.im (.tuple (List.replicate n .none))) := fun σ H hs Q q =>
  ⟨by decide, fun p hp => h σ _ (hs.to (Evl.Ex.new hp)) _ fun v H2 e2 q2 => by
    obtain rfl := Im.int_eq q2
    have e1 := (Evl.Ex.new hp).trans e2
    have hp2 := e2 _ _ (upd_same (H := H) (a := p) (o := .tup [.non]))
    refine ⟨p, n, [.non], rfl, rfl, hp2, by simp, by omega, by omega, by decide, fun en => ?_, fun _ l hl => ?_⟩
    · have : n = 1 := by omega
      subst this
      exact q _ H2 e1 (.tup hp2 (ima_rep 1))
    · refine q _ _ (e1.trans (Evl.Ex.new hl)) (.tup upd_same ?_)
      rw [show ((n : Int)).toNat = n by omega, flatten_one]
      exact ima_rep n⟩
/-- list + list -/
theorem den_cat (h1 : De ta sl (.ls ds)) (h2 : De tb sl (.ls es)) (hl : ds.length + es.length ≤ 50000) : DeN (tOp rCat ta tb) sl (ds ++ es) := fun σ H hs Q q => h1 σ H hs _ fun v H1 e1 q1 => h2 σ H1 (hs.to e1) _ fun u H2 e2 q2 => by
  obtain ⟨p, xs, rfl, a1, a2⟩ := q1
  obtain ⟨p2, ys, rfl, b1, b2⟩ := q2
  have e12 := e1.trans e2
  refine ⟨p, p2, xs, ys, rfl, rfl, e2 _ _ a1, b1, ?_, fun l hl => ?_⟩
  · rw [a2.length, b2.length]
    exact Evl.sz_of (Nat.le_trans hl (by decide))
  · have hH : H l = none := by
      cases e : H l with
      | none => rfl
      | some o => rw [e12 _ _ e] at hl; cases hl
    exact q l _ _ (e12.trans (Evl.Ex.new hl)) hH upd_same ((ImA.append (a2.to (Tx.of e2)) b2).to (Tx.of (Evl.Ex.new hl)))
theorem den_lst {t : TA} {ds : List PyData} (h : DeA t sl (ds.map Da.im)) (hl : ds.length ≤ 100000) : DeN (tLst t) sl ds := fun σ H hs Q q => h σ H hs _ fun vs H1 e1 q1 =>
  ⟨by rw [q1.length, List.length_map]; exact Evl.sz_of hl, fun p hp => by
    have hH : H p = none := by
      cases e : H p with
      | none => rfl
      | some o => rw [e1 _ _ e] at hp; cases hp
    exact q p vs _ (e1.trans (Evl.Ex.new hp)) hH upd_same (q1.ims.to (Tx.of (Evl.Ex.new hp)))⟩
theorem den_ifT (ht : Dt tt sl true) (ha : DeN ta sl ds) : DeN (tIf tt ta tb) sl ds := fun σ H hs Q q => ht σ H hs _ fun H1 e1 => by
  rw [if_pos rfl]
  refine ha σ H1 (hs.to e1) Q fun p vs H2 e2 hp h1 h2 => q p vs H2 (e1.trans e2) ?_ h1 h2
  cases e : H p with
  | none => rfl
  | some o => rw [e1 _ _ e] at hp; cases hp
theorem den_ifF (ht : Dt tt sl false) (hb : DeN tb sl ds) : DeN (tIf tt ta tb) sl ds := fun σ H hs Q q => ht σ H hs _ fun H1 e1 => by
  rw [if_neg Bool.false_ne_true]
  refine hb σ H1 (hs.to e1) Q fun p vs H2 e2 hp h1 h2 => q p vs H2 (e1.trans e2) ?_ h1 h2
  cases e : H p with
  | none => rfl
  | some o => rw [e1 _ _ e] at hp; cases hp
/-- defs that give a new list -/
def DrN (t : TS) (sl : SL) (ds : List PyData) : Prop := ∀ σ H, Sl H σ sl → ∀ (Q : VK) (nx : L2.St → Hp → Prop), (∀ p vs H2, Ex H H2 → H p = none → H2 p = some (.lst vs) → ImA H2 vs ds → Q (.ref p) H2) → t { nx := nx, rt := Q } σ H
theorem drn_ret (h : DeN te sl ds) : DrN (tRet te) sl ds := fun σ H hs Q nx q => h σ H hs _ q
def spN (R : List Da → List PyData → Prop) : Sp := fun vs H Q _ => ∃ as ds, HsA H vs as ∧ R as ds ∧ ∀ p us H', Ex H H' → H p = none → H' p = some (.lst us) → ImA H' us ds → Q (.ref p) H'
theorem den_call {R : List Da → List PyData → Prop} {t : TA} {sl : SL} {as : List Da} (h : DeA t sl as) (hR : R as ds) : DeN (tCall (spN R) [] E0 t) sl ds := fun σ H hs Q q => h σ H hs _ fun vs H1 e1 q1 =>
  ⟨as, ds, by rw [List.append_nil]; exact q1, hR, fun p us H' e2 hp h1 h2 => q p us H' (e1.trans e2) (by
    cases e : H p with
    | none => rfl
    | some o => rw [e1 _ _ e] at hp; cases hp) h1 h2⟩
theorem pure_okN {mg : Str → Option Value} {base : Heap} {x qual : Str} {st : Stmt} {f : Addr} {fd : FuncData} {N ps : List Str} {k : Nat} {R : List Da → List PyData → Prop} (F : Fun K x qual st f fd) (S : FnScope N ps (defScope st)) (len : ∀ as a, R as a → as.length = ps.length)
    (body : ∀ (cdv : Value) (A : Around) (outer : List Env) (s : Shared) (H : Hp) (E : XK), Room k (A.deeper (envOfC qual (defScope st) s.heap.objs.size f cdv)) →
      ∃ t, PSs (cxOf CX0 P w K mg base N qual (defScope st) f cdv A outer s H E).nox (defBody st) t ∧ ∀ as a, R as a → DrN t (as.map some ++ List.replicate (N.length - as.length) none) a) : FnOk P w K mg base CX0 (k + 1) f fd ps (spN R) := by
  refine F.ok S (fun vs H Q E h => ?_) (fun cdv A outer s H vs Q E hr h => ?_)
  · obtain ⟨as, a, h1, h2, _⟩ := h
    rw [h1.length]
    exact len as a h2
  · obtain ⟨as, a, h1, h2, q⟩ := h
    obtain ⟨t, ht, hd⟩ := body cdv A outer s H E hr
    refine ⟨t, ht, hd as a h2 _ H ?_ Q _ q⟩
    show Sl H (vs.map some ++ List.replicate (N.length - vs.length) none) _
    rw [h1.length]
    exact sl_start (N := N) h1 _
/-! ### a list that is written while a loop runs -/
/-- the heap without p -/
def Er (p : Addr) (H : Hp) : Hp := fun a => if a = p then none else H a
theorem er_ex {p : Addr} {H : Hp} : Ex (Er p H) H := fun a o h => by
  unfold Er at h
  split at h
  · cases h
  · exact h
theorem er_mono {p : Addr} {H H' : Hp} (e : Ex H H') : Ex (Er p H) (Er p H') := fun a o h => by
  unfold Er at h ⊢
  split at h
  · cases h
  · rename_i c
    rw [if_neg c]
    exact e _ _ h
theorem er_upd {p : Addr} {H : Hp} {o : HO} : Er p (upd H p o) = Er p H := by
  funext a
  unfold Er
  split
  · rfl
  · rename_i c
    exact upd_ne c
theorem er_new {p : Addr} {H H2 : Hp} (hp : H p = none) (e : Ex H H2) : Ex H (Er p H2) := fun a o h => by
  unfold Er
  rw [if_neg (fun z => by rw [z, hp] at h; cases h)]
  exact e _ _ h
theorem im_er {p : Addr} {H : Hp} {vs : List V} {v : V} (hp : H p = some (.lst vs)) (h : Im H v d) : Im (Er p H) v d := h.to fun a xs q => by
  unfold Er
  rw [if_neg (fun z => by rw [z, hp] at q; cases q)]
  exact q
/-- what a statement of the body does: the list at p from cur to cur', nothing else -/
def Dm (t : TS) (m : Nat) (sl : SL) (cur cur' : List PyData) : Prop := ∀ σ H p us, Sl (Er p H) σ sl → σ[m]? = some (some (.ref p)) → H p = some (.lst us) → ImA H us cur →
  ∀ D : Ends, (∀ H2 us2, Ex (Er p H) (Er p H2) → H2 p = some (.lst us2) → ImA H2 us2 cur' → D.nx σ H2) → t D σ H
theorem dm_next {m : Nat} {cur : List PyData} : Dm tNext m sl cur cur := fun σ H p us hs hm hp hi D q => q H us (Evl.Ex.refl _) hp hi
theorem dm_if {t u : TS} {m : Nat} {cur cur' : List PyData} {b : Bool} (hb : Dt tt sl b) (h1 : b = true → Dm t m sl cur cur') (h2 : b = false → Dm u m sl cur cur') : Dm (tIfS tt t u) m sl cur cur' := fun σ H p us hs hm hp hi D q => by
  refine hb σ H (hs.to er_ex) _ fun H1 e1 => ?_
  cases b with
  | true => exact h1 rfl σ H1 p us (hs.to (er_mono e1)) hm (e1 _ _ hp) (hi.to (Tx.of e1)) D fun H2 us2 e2 g1 g2 => q H2 us2 ((er_mono e1).trans e2) g1 g2
  | false => exact h2 rfl σ H1 p us (hs.to (er_mono e1)) hm (e1 _ _ hp) (hi.to (Tx.of e1)) D fun H2 us2 e2 g1 g2 => q H2 us2 ((er_mono e1).trans e2) g1 g2
theorem dm_seq1 {t : TS} {m : Nat} {cur cur' : List PyData} (h : Dm t m sl cur cur') : Dm (tSeq t tNext) m sl cur cur' := fun σ H p us hs hm hp hi D q => h σ H p us hs hm hp hi _ q
theorem ima_set {H : Hp} {v : V} (r : Im H v d) : ∀ (j : Nat) {ds : List PyData} {vs : List V}, ImA H vs ds → ImA H (vs.set j v) (ds.set j d)
  | _, [], _, h => by cases h; exact .nil
  | 0, _ :: _, _, h => by
    cases h with
    | cons h1 h2 => exact .cons r h2
  | j + 1, _ :: _, _, h => by
    cases h with
    | cons h1 h2 => exact .cons h1 (ima_set r j h2)
/-- l[j] = e -/
theorem dm_set {m j : Nat} {cur : List PyData} (he : De te sl (.im d)) (hi : De tl sl (.im (.int (j : Int)))) (hj : j < cur.length) : Dm (tAsg te (gSub (tVar m) tl rSetL)) m sl cur (cur.set j d) := fun σ H p us hs hm hp hii D q =>
  he σ H (hs.to er_ex) _ fun v H1 e1 q1 => ⟨.ref p, hm, hi σ H1 ((hs.to (er_mono e1)).to er_ex) _ fun u H2 e2 q2 => by
    obtain rfl := Im.int_eq q2
    have hp2 := e2 _ _ (e1 _ _ hp)
    have hi2 := hii.to (Tx.of (e1.trans e2))
    refine ⟨p, us, j, j, rfl, rfl, hp2, Evl.ixN_nat (by rw [hii.length]; exact hj), q _ (us.set j v) ?_ upd_same ?_⟩
    · rw [er_upd]
      exact er_mono (e1.trans e2)
    · exact (ima_set (Im.to q1 (Tx.of e2)) j hi2).to (tx_lst hp2)⟩
/-- l.append(e) -/
theorem dm_app {m : Nat} {cur : List PyData} (he : De te sl (.im d)) (hl : cur.length ≤ 50000) : Dm (tDrop (tBM K "list" rAppend (tVar m) (tCons te tNil))) m sl cur (cur ++ [d]) := fun σ H p us hs hm hp hii D q =>
  ⟨.ref p, hm, .inl ⟨rfl, us, SqL.of hp⟩, he σ H (hs.to er_ex) _ fun v H1 e1 q1 => by
    have hp1 := e1 _ _ hp
    refine ⟨p, us, v, rfl, rfl, hp1, ?_, q _ (us ++ [v]) ?_ upd_same ?_⟩
    · rw [hii.length]
      exact Evl.sz_lt (by omega)
    · rw [er_upd]
      exact er_mono e1
    · exact ((hii.to (Tx.of e1)).to (tx_lst hp1)).append (.one (Im.to q1 (tx_lst hp1)))⟩
/-- a target of a loop -/
def TgL (g : TG) (vs : List Nat) (fs : PyData → SL → SL → Prop) : Prop := ∀ (σ : L2.St) (H' H : Hp) (x : V) (d : PyData) (sl sl' : SL), Ex H' H → Sl H' σ sl → Im H' x d → fs d sl sl' →
  ∀ R : L2.St → Hp → Prop, (∀ σ2, Sl H' σ2 sl' → (∀ i, i ∉ vs → σ2[i]? = σ[i]?) → R σ2 H) → g x σ H R
theorem tgl_name {j : Nat} : TgL (gName j) [j] (fsN j) := by
  intro σ H' H x d sl sl' e hs hx f R r
  cases f
  exact r _ (Sl.set (a := .im d) hx j hs) fun i hi => List.getElem?_set_ne (fun z => hi (by simp [z]))
theorem tgl_pair {i j : Nat} : TgL (gPair K i j) [i, j] (fsP i j) := by
  intro σ H' H x d sl sl' e hs hx f R r
  obtain ⟨d1, d2, rfl, rfl⟩ := f
  obtain ⟨T, xs, rfl, h1, h2⟩ := Im.ref hx
  obtain ⟨v1, us, rfl, q1, h3⟩ := h2.cons_eq
  obtain ⟨v2, us, rfl, q2, h4⟩ := h3.cons_eq
  obtain rfl := h4.nil_eq
  exact ⟨T, _, rfl, SqT.of (e _ _ h1), rfl, v1, _, rfl, v2, [], rfl, rfl, r _ (Sl.set (a := .im d2) q2 j (Sl.set (a := .im d1) q1 i hs)) fun k hk => by
    rw [List.getElem?_set_ne (fun z => hk (by simp [z])), List.getElem?_set_ne (fun z => hk (by simp [z]))]⟩
theorem foldl_take {γ δ : Type} (f : γ → δ → γ) (c : γ) {l : List δ} {i : Nat} (h : i < l.length) : (l.take (i + 1)).foldl f c = f ((l.take i).foldl f c) l[i] := by
  rw [List.take_add_one, List.getElem?_eq_getElem h, List.foldl_append]
  rfl
theorem Sl.weaks {H : Hp} {σ : L2.St} {sl : SL} (h : Sl H σ sl) : ∀ vs : List Nat, Sl H σ (wipeD sl vs)
  | [] => h
  | i :: is => Sl.weak i (Sl.weaks h is)
theorem Sl.none_all {H : Hp} {σ2 : L2.St} {sl sl' : SL} {vs : List Nat} (h2 : Sl H σ2 sl') (e : wipeD sl' vs = wipeD sl vs) : Sl H σ2 (wipeD sl vs) := by
  rw [← e]
  exact h2.weaks vs
/-- for g in l: body, l a local's list, the body writes the list in slot m -/
theorem ds_forM {g : TG} {tb : TS} {m j : Nat} {vs : List Nat} {fs : PyData → SL → SL → Prop} {src : List α} {enc : α → PyData} {γ : Type} {cur : γ} (encL : γ → List PyData) (Iv : γ → Prop) (f : γ → α → γ) (hj : (wipeD sl vs)[j]? = some (some (.ls (src.map enc)))) (hm : m ∉ vs) (hg : TgL g vs fs)
    (turn : ∀ a ∈ src, ∃ sl', fs (enc a) (wipeD sl vs) sl' ∧ wipeD sl' vs = wipeD sl vs ∧ ∀ cur, Iv cur → Dm tb m sl' (encL cur) (encL (f cur a))) (hb : ∀ i ≤ src.length, Iv ((src.take i).foldl f cur))
    (σ : L2.St) (H : Hp) (p : Addr) (us : List V) (hs : Sl (Er p H) σ sl) (hσ : σ[m]? = some (some (.ref p))) (hp : H p = some (.lst us)) (hi : ImA H us (encL cur)) (D : Ends)
    (q : ∀ σ2 H2 us2, Ex (Er p H) (Er p H2) → Sl (Er p H2) σ2 (wipeD sl vs) → σ2[m]? = some (some (.ref p)) → H2 p = some (.lst us2) → ImA H2 us2 (encL (src.foldl f cur)) → D.nx σ2 H2) : tFor (iList K (tVar j)) g tb D σ H := by
  have hs0 : Sl (Er p H) σ (wipeD sl vs) := hs.weaks vs
  obtain ⟨v, hv, A, xs, rfl, hA, hxs⟩ := hs0.get hj
  refine ⟨_, hv, A, rfl, ⟨xs, SqL.of (er_ex _ _ hA)⟩, ?_⟩
  have src0 := src_list (K := K) hA hxs
  refine ⟨fun i k σ' H' => k = src.length - i ∧ i ≤ src.length ∧ Ex (Er p H) (Er p H') ∧ Sl (Er p H') σ' (wipeD sl vs) ∧ σ'[m]? = some (some (.ref p)) ∧ ∃ us, H' p = some (.lst us) ∧ ImA H' us (encL ((src.take i).foldl f cur)), ⟨_, rfl, Nat.zero_le _, Evl.Ex.refl _, hs0, hσ, us, hp, hi⟩, ?_⟩
  rintro i k σ' H' ⟨rfl, hle, e1, s1, m1, us1, p1, i1⟩
  have eH : Ex (Er p H) H' := e1.trans er_ex
  obtain ⟨k1, k2, k3⟩ := src0
  rw [List.length_map] at k1 k2
  by_cases hlt : i < src.length
  · refine .inr ⟨k1 i H' eH hlt, fun σ' H' => Ex (Er p H) (Er p H') ∧ Sl (Er p H') σ' (wipeD sl vs) ∧ σ'[m]? = some (some (.ref p)) ∧ ∃ us, H' p = some (.lst us) ∧ ImA H' us (encL ((src.take (i + 1)).foldl f cur)), fun σ' H' hN => ⟨src.length - (i + 1), by omega, rfl, hlt, hN⟩, fun x H2 y => ?_⟩
    obtain ⟨e5, hx⟩ := k3 i H' x H2 (enc src[i]) eH (by rw [List.getElem?_map, List.getElem?_eq_getElem hlt]; rfl) y
    obtain ⟨sl', hf, hw, hbody⟩ := turn src[i] (List.getElem_mem hlt)
    have p2 := e5 _ _ p1
    refine hg σ' (Er p H2) H2 x (enc src[i]) _ sl' er_ex (s1.to (er_mono e5)) (im_er p2 hx) hf _ fun σ2 s2 fr => ?_
    refine hbody _ (hb i (by omega)) σ2 H2 p us1 s2 (by rw [fr m hm]; exact m1) p2 (i1.to (Tx.of e5)) _ fun H3 us3 e3 p3 i3 => ⟨(e1.trans (er_mono e5)).trans e3, (s2.to e3).none_all hw, by rw [fr m hm]; exact m1, us3, p3, ?_⟩
    rw [foldl_take f cur hlt]
    exact i3
  · have : i = src.length := by omega
    subst this
    rw [List.take_length] at i1
    exact .inl ⟨k2 H' eH, q σ' H' us1 e1 s1 m1 p1 i1⟩
end
end KV
namespace WZ
open PySem PySem.Spec PyProof.Rows L2 KB KC KD KV
open Evl (Ex EvT)
open StX (tStar)
/-! ### the text -/
def topS (i : Nat) : Stmt := PySem.Challenge.pw_stepsbehind_k16_whole_sizes.main.body.getD i (.Pass ⟨0, 0, 0, 0⟩)
theorem sc16 : FnScope ["value", "least", "most"] ["value", "least", "most"] (defScope (topS 16)) := ⟨rfl, rfl, rfl, by decide +kernel, rfl, by decide +kernel, by decide +kernel⟩
theorem sc17 : FnScope ["value", "words"] ["value", "words"] (defScope (topS 17)) := ⟨rfl, rfl, rfl, by decide +kernel, rfl, by decide +kernel, by decide +kernel⟩
theorem sc18 : FnScope ["value", "one", "other"] ["value"] (defScope (topS 18)) := ⟨rfl, rfl, rfl, by decide +kernel, rfl, by decide +kernel, by decide +kernel⟩
theorem sc19 : FnScope ["value", "one"] ["value"] (defScope (topS 19)) := ⟨rfl, rfl, rfl, by decide +kernel, rfl, by decide +kernel, by decide +kernel⟩
theorem sc20 : FnScope ["thing"] ["thing"] (defScope (topS 20)) := ⟨rfl, rfl, rfl, by decide +kernel, rfl, by decide +kernel, by decide +kernel⟩
theorem sc21 : FnScope ["thing", "place"] ["thing"] (defScope (topS 21)) := ⟨rfl, rfl, rfl, by decide +kernel, rfl, by decide +kernel, by decide +kernel⟩
theorem sc22 : FnScope ["way", "kind", "number", "kinds"] ["way", "kind"] (defScope (topS 22)) := ⟨rfl, rfl, rfl, by decide +kernel, rfl, by decide +kernel, by decide +kernel⟩
theorem sc25 : FnScope ["way"] ["way"] (defScope (topS 25)) := ⟨rfl, rfl, rfl, by decide +kernel, rfl, by decide +kernel, by decide +kernel⟩
theorem sc26 : FnScope ["ages", "gap", "window", "age"] ["ages", "gap", "window"] (defScope (topS 26)) := ⟨rfl, rfl, rfl, by decide +kernel, rfl, by decide +kernel, by decide +kernel⟩
theorem sc27 : FnScope ["way", "begun", "ages", "kind", "found", "steps", "step"] ["way", "begun", "ages", "kind"] (defScope (topS 27)) := ⟨rfl, rfl, rfl, by decide +kernel, rfl, by decide +kernel, by decide +kernel⟩
theorem sc28 : FnScope ["one", "other"] ["one", "other"] (defScope (topS 28)) := ⟨rfl, rfl, rfl, by decide +kernel, rfl, by decide +kernel, by decide +kernel⟩
theorem sc29 : FnScope ["way", "standing", "event", "best", "begun", "ages", "gap", "kind", "steps", "fresh", "number", "age", "other"] ["way", "standing", "event"] (defScope (topS 29)) := ⟨rfl, rfl, rfl, by decide +kernel, rfl, by decide +kernel, by decide +kernel⟩
theorem sc30 : FnScope ["window", "gap", "kind"] ["window"] (defScope (topS 30)) := ⟨rfl, rfl, rfl, by decide +kernel, rfl, by decide +kernel, by decide +kernel⟩
theorem sc31 : FnScope ["way", "found", "waiting", "letters", "later", "standing", "event", "there"] ["way"] (defScope (topS 31)) := ⟨rfl, rfl, rfl, by decide +kernel, rfl, by decide +kernel, by decide +kernel⟩
theorem sc32 : FnScope ["rows", "marks", "many", "fresh", "numbers", "mark", "thing", "row", "there"] ["rows", "marks"] (defScope (topS 32)) := ⟨rfl, rfl, rfl, by decide +kernel, rfl, by decide +kernel, by decide +kernel⟩
theorem sc33 : FnScope ["way", "some", "letters", "rows", "marks", "standing", "event", "mark"] ["way"] (defScope (topS 33)) := ⟨rfl, rfl, rfl, by decide +kernel, rfl, by decide +kernel, by decide +kernel⟩
theorem sc35 : FnScope ["_law_script", "_law_k", "_law_cells", "_law_great", "_law_seed", "_law_cell"] ["_law_script", "_law_k"] (defScope (topS 35)) := ⟨rfl, rfl, rfl, by decide +kernel, rfl, by decide +kernel, by decide +kernel⟩
theorem sc36 : FnScope ["_law_m", "_law_many", "_law_found", "_law_spot", "_law_cells", "_law_added", "_law_cell", "_law_blend"] ["_law_m", "_law_many"] (defScope (topS 36)) := ⟨rfl, rfl, rfl, by decide +kernel, rfl, by decide +kernel, by decide +kernel⟩
theorem sc37 : FnScope ["_law_m", "_law_some_here"] ["_law_m", "_law_some_here"] (defScope (topS 37)) := ⟨rfl, rfl, rfl, by decide +kernel, rfl, by decide +kernel, by decide +kernel⟩
theorem sc38 : FnScope ["_law_m", "_law_most", "_law_share", "_law_found", "_law_k"] ["_law_m", "_law_most", "_law_share"] (defScope (topS 38)) := ⟨rfl, rfl, rfl, by decide +kernel, rfl, by decide +kernel, by decide +kernel⟩
theorem sc39 : FnScope ["_law_m", "_law_most", "_law_window", "_law_steps", "_law_wide", "_law_how", "_law_k"] ["_law_m", "_law_most", "_law_window"] (defScope (topS 39)) := ⟨rfl, rfl, rfl, by decide +kernel, rfl, by decide +kernel, by decide +kernel⟩
theorem sc40 : FnScope ["_law_way_here", "_law_kind", "_law_number"] ["_law_way_here", "_law_kind"] (defScope (topS 40)) := ⟨rfl, rfl, rfl, by decide +kernel, rfl, by decide +kernel, by decide +kernel⟩
theorem sc41 : FnScope ["_law_way_here"] ["_law_way_here"] (defScope (topS 41)) := ⟨rfl, rfl, rfl, by decide +kernel, rfl, by decide +kernel, by decide +kernel⟩
theorem sc42 : FnScope ["_law_way_here", "_law_kept", "_law_event", "_law_best", "_law_begun_here", "_law_old", "_law_gap", "_law_kind", "_law_steps", "_law_many", "_law_fresh", "_law_step", "_law_age"] ["_law_way_here", "_law_kept", "_law_event"] (defScope (topS 42)) := ⟨rfl, rfl, rfl, by decide +kernel, rfl, by decide +kernel, by decide +kernel⟩
theorem sc43 : FnScope ["_law_window", "_law_found", "_law_gap", "_law_kind"] ["_law_window"] (defScope (topS 43)) := ⟨rfl, rfl, rfl, by decide +kernel, rfl, by decide +kernel, by decide +kernel⟩
theorem sc44 : FnScope ["_law_way_here", "_law_most", "_law_found", "_law_waiting", "_law_kept", "_law_event"] ["_law_way_here", "_law_most"] (defScope (topS 44)) := ⟨rfl, rfl, rfl, by decide +kernel, rfl, by decide +kernel, by decide +kernel⟩
theorem sc45 : FnScope ["_law_found", "_law_marks", "_law_many", "_law_rows", "_law_kept", "_law_there", "_law_order", "_law_one", "_law_row"] ["_law_found"] (defScope (topS 45)) := ⟨rfl, rfl, rfl, by decide +kernel, rfl, by decide +kernel, by decide +kernel⟩
theorem sc46 : FnScope ["_law_script", "_law_k", "_law_m", "_law_turn", "_law_way_here", "_law_found", "_law_due", "_law_turned", "_law_told", "_law_kinds", "_law_kind"] ["_law_script"] (defScope (topS 46)) := ⟨rfl, rfl, rfl, by decide +kernel, rfl, by decide +kernel, by decide +kernel⟩
/-! ### a def as it stands, and what is promised of it -/
def DefAt (K : PySem.W.Frag) (mg : Str → Option Value) (x : Str) (i : Nat) (ps : List Str) : Prop :=
  ∃ f fd, Fun K x x (topS i) f fd ∧ mg x = some (.ref f) ∧ Binds K fd ps []
def Prom (P : Program) (w : World) (K : PySem.W.Frag) (mg : Str → Option Value) (base : Heap) (k : Nat) (x : Str) (ps : List Str) (sp : Sp) : Prop :=
  ∃ f fd, FnOk P w K mg base CX0 k f fd ps sp ∧ mg x = some (.ref f) ∧ PySem.W.keepIn K (.ref f) = true ∧ Binds K fd ps []
section
variable {P : Program} {w : World} {K : PySem.W.Frag} {mg : Str → Option Value} {base : Heap}
theorem DefAt.prom {x : Str} {i k : Nat} {ps : List Str} {sp : Sp} (D : DefAt K mg x i ps) (h : ∀ f fd, Fun K x x (topS i) f fd → FnOk P w K mg base CX0 k f fd ps sp) : Prom P w K mg base k x ps sp :=
  let ⟨f, fd, F, g, b⟩ := D; ⟨f, fd, h f fd F, g, F.kp, b⟩
theorem Prom.mono {x : Str} {j k : Nat} {ps : List Str} {sp : Sp} (h : Prom P w K mg base j x ps sp) (q : j ≤ k) : Prom P w K mg base k x ps sp :=
  let ⟨f, fd, F, g, c, b⟩ := h; ⟨f, fd, F.mono q, g, c, b⟩
end
theorem pe_pr {X : Cx} {k : Nat} {ps : List Str} {sp : Sp} {x : Str} {p pos : Pos} {e : Expr} {es : List Expr} {t : TA} (h : Prom X.prog X.w X.K X.mg X.base k x ps sp) (hr : Room k X.A) (hg : Gl X x) (ha : PA X (e :: es) t)
    (hdb : (x == ("__debug__" : Str)) = false := by decide) (he : starEach (e :: es) X.env = (false, eval e X.env) :: starEach es X.env := by rfl) (hpl : (backTo pos (starEach es X.env)).any (·.1) = false := by rfl) :
    PE X (.Call (.Name x p) (e :: es) [] pos) (tCall sp [] E0 t) :=
  let ⟨f, fd, F, g, c, b⟩ := h; pe_call F hr hg g c b .nil pass0 ha hdb he hpl
/-- a constant of the module -/
def CStr (mg : Str → Option Value) (x v : Str) : Prop := ∃ t, mg x = some (.str v t)
def CInt (mg : Str → Option Value) (x : Str) (v : Int) : Prop := ∃ t, mg x = some (.int v t)
theorem pe_cs {X : Cx} {x v : Str} {pos : Pos} (h : CStr X.mg x v) (hg : Gl X x) (hd : (x == ("__debug__" : Str)) = false := by decide) : PE X (.Name x pos) (tC (.str v)) := let ⟨t, e⟩ := h; pe_glob hg e ⟨t, rfl⟩ hd
theorem pe_ci {X : Cx} {x : Str} {v : Int} {pos : Pos} (h : CInt X.mg x v) (hg : Gl X x) (hd : (x == ("__debug__" : Str)) = false := by decide) : PE X (.Name x pos) (tC (.int v)) := let ⟨t, e⟩ := h; pe_glob hg e ⟨t, rfl⟩ hd
end WZ
/-! the data of the program and of the law, and what the small defs compute -/
namespace MW
open PySem PySem.Spec PyProof.Rows L2 KB KC KD KV
inductive How where
  | loose | among | strict | any
  deriving DecidableEq
def How.s : How → Str
  | .loose => "loose"
  | .among => "among"
  | .strict => "strict"
  | .any => "any"
structure Wy where
  steps : List (List Int)
  how : How
  each : Bool
  wide : Int
  fst : Bool
abbrev Std := Int × Bool × List (Option Int)
abbrev Kpt := Int × Bool × List (Int × Int)
def kD (ks : List Int) : PyData := .tuple (ks.map .int)
def stD (st : List (List Int)) : PyData := .tuple (st.map kD)
def wyD (W : Wy) : PyData := .tuple [stD W.steps, .str W.how.s, .str (if W.each = true then "each" else "whole"), .int W.wide, .str (if W.fst = true then "first" else "all")]
def oD : Option Int → PyData
  | none => .none
  | some i => .int i
def stdD (x : Std) : PyData := .tuple [.int x.1, .bool x.2.1, .tuple (x.2.2.map oD)]
def evD (e : Int × Int) : PyData := .tuple [.int e.1, .int e.2]
def kpD (x : Kpt) : PyData := .tuple [.int x.1, .bool x.2.1, .tuple (x.2.2.map evD)]
structure OkK (ks : List Int) : Prop where
  ne : ks ≠ []
  rng : ∀ k ∈ ks, 0 ≤ k ∧ k ≤ 4
  asc : ks.Pairwise (· < ·)
  len : ks.length ≤ 5
structure OkW (W : Wy) : Prop where
  one : 1 ≤ W.steps.length
  few : W.steps.length ≤ 3
  ks : ∀ x ∈ W.steps, OkK x
  w0 : 0 ≤ W.wide
  w2 : W.wide ≤ 2
  any : W.how = .any → W.each = false ∧ W.fst = false
/-- which steps are of the kind, from 0 -/
def idx (st : List (List Int)) (k : Int) : List Nat := (List.range st.length).filter fun j => decide (k ∈ st.getD j [])
def stpD (j : Nat) : PyData := .int ((j : Int) + 1)
theorem zipIdx_range {α : Type} (d : α) (l : List α) : l.zipIdx = (List.range l.length).map fun j => (l.getD j d, j) := by
  apply List.ext_getElem?
  intro i
  rw [List.getElem?_zipIdx, List.getElem?_map]
  by_cases h : i < l.length
  · rw [List.getElem?_range h, List.getElem?_eq_getElem h]
    simp [List.getD_eq_getElem?_getD, List.getElem?_eq_getElem h]
  · have h1 : l[i]? = none := List.getElem?_eq_none (by omega)
    have h2 : (List.range l.length)[i]? = none := List.getElem?_eq_none (by simp; omega)
    rw [h1, h2]
    rfl
theorem filterMap_if {α β : Type} (p : α → Bool) (g : α → β) (l : List α) : (l.filterMap fun a => if p a = true then some (g a) else none) = (l.filter p).map g := by
  induction l with
  | nil => rfl
  | cons a r ih =>
    rw [List.filterMap_cons, List.filter_cons]
    by_cases h : p a = true
    · simp [h, ih]
    · simp [h, ih]
theorem idx_zip (st : List (List Int)) (k : Int) : (st.zipIdx.filterMap fun p => if decide (k ∈ p.1) = true then some p.2 else none) = idx st k := by
  rw [filterMap_if (fun p : List Int × Nat => decide (k ∈ p.1)) (·.2), zipIdx_range [], List.filter_map, List.map_map]
  unfold idx
  have : ((fun x : List Int × Nat => x.2) ∘ fun j => (st.getD j [], j)) = id := rfl
  rw [this, List.map_id]
  rfl
theorem mem_idx {st : List (List Int)} {k : Int} {j : Nat} : j ∈ idx st k ↔ j < st.length ∧ k ∈ st.getD j [] := by
  unfold idx
  rw [List.mem_filter, List.mem_range]
  simp
theorem enD_zipIdx {α : Type} (g : α → PyData) : ∀ (l : List α) (n : Nat), enD n (l.map g) = (l.zipIdx n).map fun p => .tuple [.int (p.2 : Int), g p.1]
  | [], _ => rfl
  | a :: r, n => by
    show PyData.tuple [.int (n : Int), g a] :: enD (n + 1) (r.map g) = _
    rw [enD_zipIdx g r (n + 1)]
    rfl
theorem zipD_zip {α β : Type} (f : α → PyData) (g : β → PyData) : ∀ (l : List α) (m : List β), zipD (l.map f) (m.map g) = (l.zip m).map fun p => .tuple [f p.1, g p.2]
  | [], _ => rfl
  | _ :: _, [] => rfl
  | a :: l, b :: m => by
    show PyData.tuple [f a, g b] :: zipD (l.map f) (m.map g) = _
    rw [zipD_zip f g l m]
    rfl
def first (W : Wy) : Std := (0, false, List.replicate W.steps.length none)
def ageG (gap w : Int) : Option Int → Option Int
  | none => none
  | some a => if w < a + gap then none else some (a + gap)
def grown (as : List (Option Int)) (gap w : Int) : List (Option Int) := as.map (ageG gap w)
def came1 (W : Wy) (b : Bool) (as : List (Option Int)) (found : List (Option Int)) (j : Nat) : List (Option Int) :=
  if j = 0 then found.set 0 (if (W.fst && b) = true then none else some 0)
  else match as.getD (j - 1) none with
    | none => found
    | some a => found.set j (some (if W.each = true then 0 else a))
def came (W : Wy) (b : Bool) (as : List (Option Int)) (k : Int) : List (Option Int) := (idx W.steps k).foldl (came1 W b as) (List.replicate W.steps.length none)
def lesser : Option Int → Option Int → Option Int
  | none, o => o
  | some a, none => some a
  | some a, some b => some (min a b)
/-- at which places there is an age -/
def somes (as : List (Option Int)) : List Nat := (as.zipIdx.filterMap fun p => if p.1.isSome = true then some p.2 else none)
def behind (W : Wy) (x : Std) (e : Int × Int) : Std :=
  let as := grown x.2.2 e.1 W.wide
  let st := idx W.steps e.2
  if W.how = .any then
    let as2 := as.zipIdx.map fun p => if p.2 ∈ st then some 0 else p.1
    (max x.1 ((as2.filter (·.isSome)).length : Int), x.2.1 || decide (0 ∈ st), as2)
  else
    let fresh := came W x.2.1 as e.2
    (maxI (x.1 :: (somes fresh).map fun (j : Nat) => (j : Int) + 1), x.2.1 || decide (0 ∈ st),
      if W.how = .loose then List.zipWith lesser as fresh else if W.how ≠ .among ∨ st ≠ [] then fresh else as)
def events (w : Int) : List (Int × Int) := (List.range (w + 2).toNat).flatMap fun (g : Nat) => (List.range 5).map fun (k : Nat) => ((g : Int), (k : Int))
/-- pairs, sorted, each once -/
def cod (p : Int × Int) : Int := TS.code 100 [p.1, p.2]
def ins (p : Int × Int) : List (Int × Int) → List (Int × Int)
  | [] => [p]
  | q :: r => if cod p < cod q then p :: q :: r else if p = q then q :: r else q :: ins p r
def sortU (l : List (Int × Int)) : List (Int × Int) := l.foldr ins []
def later (W : Wy) (y : Kpt) (e : Int × Int) : Kpt :=
  let old := y.2.2.filterMap fun p => if decide (p.2 + e.1 ≤ W.wide) = true then some (p.1, p.2 + e.1) else none
  let st := idx W.steps e.2
  if W.how = .any then
    let old2 := sortU (old ++ st.map fun (j : Nat) => ((j : Int) + 1, 0))
    (max y.1 (cnt (old2.map (·.1)) : Int), y.2.1 || decide (0 ∈ st), old2)
  else
    let f0 : List (Int × Int) := if (decide (0 ∈ st) && (!W.fst || !y.2.1)) = true then [(1, 0)] else []
    let fresh := old.foldl (fun fr p => if (decide (p.1.toNat ∈ st) && decide (0 ≤ p.1)) = true then fr ++ [(p.1 + 1, if W.each = true then 0 else p.2)] else fr) f0
    (maxI (y.1 :: fresh.map (·.1)), y.2.1 || decide (0 ∈ st),
      sortU ((if W.how = .strict ∨ (W.how = .among ∧ st ≠ []) then [] else old) ++ fresh))
end MW
namespace WZ
open PySem PySem.Spec PyProof.Rows L2 KB KC KD KV MW
open Evl (Ex EvT)
open StX (tStar)
/-- a built-in class written by its name -/
theorem pe_ty {X : Cx} {x : Str} {n : String} {pos : Pos} (hg : Gl X x) (hm : X.mg x = none) (hv : bootBuiltins x = some (.type n)) (hn : x ≠ "__name__" := by decide) (hd : (x == ("__debug__" : Str)) = false := by decide) : PE X (.Name x pos) (tC (.ty n)) :=
  pe_bltn hg hm hv (v := .ty n) rfl hn hd
theorem de_isT {ta : TE} {sl : SL} {d : PyData} {K : PySem.W.Frag} (t n : String) {x : Bool} (h1 : De ta sl (.im d)) (ha : tyD d = t) (hk : kitB t n = some x) : De (tCB (rIsi K) (tCons ta (tCons (tC (.ty n)) tNil))) sl (.im (.bool x)) :=
  de_isi h1 (by rw [ha]; exact kit_ty hk)
section
variable {P : Program} {w : World} {K : PySem.W.Frag} {mg : Str → Option Value} {base : Heap}
/-! ### is_integer -/
def RInt (as : List Da) (a : Da) : Prop := ∃ i lo hi : Int, as = [.im (.int i), .im (.int lo), .im (.int hi)] ∧ lo ≤ i ∧ i ≤ hi ∧ a = .im (.bool true)
theorem pr_is_integer (D : DefAt K mg "is_integer" 16 ["value", "least", "most"]) (mi : mg "isinstance" = none) (mn : mg "int" = none) (mb : mg "bool" = none) : Prom P w K mg base 1 "is_integer" ["value", "least", "most"] (spR RInt) :=
  D.prom fun f fd F => pure_ok F sc16 (fun as a h => by obtain ⟨i, lo, hi, rfl, _⟩ := h; rfl) fun cdv A outer s H E hr =>
    ⟨_, pss_one (ps_ret (pe_and (pe_callB call_isi (by rfl) mi PyProof.Rows.boot_isinstance (pa_cons (pv 0) (pa_cons (pe_ty (by rfl) mn rfl) pa_nil)))
      (pe_and (pe_not (pe_callB call_isi (by rfl) mi PyProof.Rows.boot_isinstance (pa_cons (pv 0) (pa_cons (pe_ty (by rfl) mb rfl) pa_nil))))
        (pe_one (pe_chain op_le op_le (pv 1) (pv 0) (pv 2)))))), fun as a h => by
      obtain ⟨i, lo, hi, rfl, h1, h2, rfl⟩ := h
      refine dr_retS ?_
      exact (de_andV (de_isT "int" "int" (x := true) (de_var rfl) rfl (by decide +kernel)) fun _ => de_andV (de_notV (de_isT "int" "bool" (x := false) (de_var rfl) rfl (by decide +kernel))) fun _ => de_chainLe (de_var rfl) (de_var rfl) (de_var rfl)).is (by
        rw [decide_eq_true h1, decide_eq_true h2]; rfl)⟩
/-! ### is_word -/
def RWord (as : List Da) (a : Da) : Prop := ∃ (x : Str) (ks : List Str), as = [.im (.str x), .im (.tuple (ks.map .str))] ∧ x ∈ ks ∧ a = .im (.bool true)
theorem pr_is_word (D : DefAt K mg "is_word" 17 ["value", "words"]) (mi : mg "isinstance" = none) (ms : mg "str" = none) : Prom P w K mg base 1 "is_word" ["value", "words"] (spR RWord) :=
  D.prom fun f fd F => pure_ok F sc17 (fun as a h => by obtain ⟨x, ks, rfl, _⟩ := h; rfl) fun cdv A outer s H E hr =>
    ⟨_, pss_one (ps_ret (pe_and (pe_callB call_isi (by rfl) mi PyProof.Rows.boot_isinstance (pa_cons (pv 0) (pa_cons (pe_ty (by rfl) ms rfl) pa_nil)))
      (pe_one (pe_cmpR op_in_seq (pv 0) (pv 1) (by rfl))))), fun as a h => by
      obtain ⟨x, ks, rfl, h1, rfl⟩ := h
      refine dr_retS ?_
      exact (de_andV (de_isT "str" "str" (x := true) (de_var rfl) rfl (by decide +kernel)) fun _ => de_inTS (de_var rfl) (de_var rfl)).is (by
        rw [decide_eq_true h1]; rfl)⟩
/-! ### are_kinds -/
theorem asc_zip : ∀ {k : Int} {ks : List Int}, (k :: ks).Pairwise (· < ·) → ∀ p ∈ (k :: ks).zip ks, p.1 < p.2
  | _, [], _, p, hp => by simp at hp
  | k, x :: r, h, p, hp => by
    rw [List.zip_cons_cons] at hp
    rcases List.mem_cons.mp hp with rfl | hp
    · exact (List.pairwise_cons.mp h).1 x (List.mem_cons_self ..)
    · exact asc_zip (List.pairwise_cons.mp h).2 p hp
def RKinds (as : List Da) (a : Da) : Prop := ∃ ks : List Int, as = [.im (kD ks)] ∧ OkK ks ∧ a = .im (.bool true)
theorem de_ne0 {ta : TE} {sl : SL} {d : PyData} {ds : List PyData} {K : PySem.W.Frag} (h : De ta sl (.im (.tuple (d :: ds)))) (hs : SeqAt.shaped (.tuple (d :: ds)) = true) : De (tOp (rEqD K) ta (tTup tNil)) sl (.im (.bool false)) :=
  de_op h (de_tup (ds := []) dea_nil (by simp)) fun x y H hx hy Q q => ⟨_, _, Im.dp _ _ hx, Im.dp _ _ hy, hs, by decide, by
    show Q (.bl (PyData.eqvAll (d :: ds) [])) H
    exact q _ H (Evl.Ex.refl H) (.bl false)⟩
theorem canLay_ints : ∀ ks : List Int, PyData.canLayAll0 (ks.map .int) = true
  | [] => rfl
  | k :: ks => by
    show (PyData.canLay0 (.int k) && PyData.canLayAll0 (ks.map .int)) = true
    rw [canLay_ints ks]
    rfl
theorem depth_ints : ∀ ks : List Int, PyData.depthAll (ks.map .int) ≤ 1
  | [] => by decide
  | k :: ks => by
    have := depth_ints ks
    show max (PyData.depth (.int k)) _ ≤ 1
    exact Nat.max_le.mpr ⟨Nat.zero_le _, this⟩
theorem shaped_kD (ks : List Int) : SeqAt.shaped (kD ks) = true := by
  unfold SeqAt.shaped
  rw [Bool.and_eq_true]
  refine ⟨canLay_ints ks, decide_eq_true ?_⟩
  have := depth_ints ks
  show PyData.depthAll (ks.map .int) + 1 ≤ 64
  omega
theorem pr_are_kinds (D : DefAt K mg "are_kinds" 18 ["value"]) (pI : Prom P w K mg base 1 "is_integer" ["value", "least", "most"] (spR RInt)) (mi : mg "isinstance" = none) (mt : mg "tuple" = none) (ma : mg "all" = none) (mz : mg "zip" = none) (ck : CInt mg "MOST_KIND" 4) :
    Prom P w K mg base 2 "are_kinds" ["value"] (spR RKinds) :=
  D.prom fun f fd F => pure_ok F sc18 (fun as a h => by obtain ⟨ks, rfl, _⟩ := h; rfl) fun cdv A outer s H E hr =>
    ⟨_, pss_cons (ps_if (PW.pt (pw_or (pt_not (pt_val (pe_callB call_isi (by rfl) mi PyProof.Rows.boot_isinstance (pa_cons (pv 0) (pa_cons (pe_ty (by rfl) mt rfl) pa_nil)))))
        (pw_or (pt_cmpR (op_eqD hr.units) (pv 0) (pe_tup pa_nil) (nomark _))
          (pw_or1 (pt_not (pt_val (pe_callB (cr_all rfl) (by rfl) ma PyProof.Rows.boot_all (pa_cons (pe_lc (own := [("one", 1)]) (g := gName 1) (tt := tYes) rfl sc18.nd (pi_tup (pv 0)) (blkOk_by (N := ["value", "one", "other"]) (sc := defScope (topS 18)) (by decide +kernel))
            (fun _ _ _ _ _ => pg_name (i := 1) sc18.nd rfl (.inl rfl)) (fun _ _ _ _ _ => pts_nil) (fun _ _ _ _ _ => pe_pr pI hr (by rfl) (pa_cons (pv 1) (pa_cons pe_int (pa_cons (pe_ci ck (by rfl)) pa_nil))))) pa_nil)))))))) (pss_one (ps_ret pe_bl)) pss_nil)
      (pss_one (ps_ret (pe_callB (cr_all rfl) (by rfl) ma PyProof.Rows.boot_all (pa_cons (pe_lc (own := [("one", 1), ("other", 2)]) (g := gPair _ 1 2) (tt := tYes) rfl sc18.nd (RZ.pi_zipA (by rfl) mz (pa_cons (pv 0) (pa_cons (pe_slice sl_tup (pv 0) (po_some pe_int) po_none) pa_nil))) (blkOk_by (N := ["value", "one", "other"]) (sc := defScope (topS 18)) (by decide +kernel))
            (fun _ _ _ _ _ => pg_tup rfl (pgs_cons (pg_name (i := 1) sc18.nd rfl (.inl rfl)) (pgs_cons (pg_name (i := 2) sc18.nd rfl (.inl rfl)) pgs_nil))) (fun _ _ _ _ _ => pts_nil) (fun _ _ _ _ _ => pe_cmpR op_lt (pv 1) (pv 2) (nomark _))) pa_nil)))), fun as a h => by
      obtain ⟨ks, rfl, ok, rfl⟩ := h
      obtain ⟨k0, kr, rfl⟩ : ∃ k0 kr, ks = k0 :: kr := by
        cases ks with
        | nil => exact absurd rfl ok.ne
        | cons a r => exact ⟨a, r, rfl⟩
      have len := ok.len
      refine dr_if (b := false) ((dt_or (x := false) (y := false) ((dt_not (dt_B (de_isT "tuple" "tuple" (x := true) (de_var (a := .im (kD (k0 :: kr))) rfl) rfl (by decide +kernel)))).is rfl) fun _ =>
        (dt_or (x := false) (y := false) (dt_test (de_ne0 (d := .int k0) (ds := kr.map .int) (de_var rfl) (shaped_kD _))) fun _ =>
          (dt_not (x := true) (dt_B ((de_all (bs := (k0 :: kr).map fun _ => true) ?h1).is ?h2))).is rfl).is rfl).is rfl) (fun z => nomatch z) fun _ => ?_
      case h1 =>
        exact (den_lcX (k0 :: kr) PyData.int (fun _ => PyData.bool true) rfl (by rw [List.map_map]; rfl) (di_tup (de_var (a := .im (.tuple ((k0 :: kr).map .int))) rfl)) (tg_name (by simp)) (by omega) fun d hd => ⟨_, rfl, de_call (R := RInt) (a := .im (.bool true)) (dea_cons (de_var (a := .im (.int d)) rfl) (dea_cons de_int (dea_cons de_int dea_nil))) ⟨d, 0, 4, rfl, (ok.rng d hd).1, (ok.rng d hd).2, rfl⟩⟩).de
      case h2 => simp
      refine dr_next (dr_ret ?_)
      refine (de_all (bs := ((k0 :: kr).zip kr).map fun p => decide (p.1 < p.2)) ?_).is ?_
      · refine (den_lcX ((k0 :: kr).zip kr) (fun p => .tuple [.int p.1, .int p.2]) (fun p => PyData.bool (decide (p.1 < p.2))) (zipD_zip _ _ (k0 :: kr) kr) (by rw [List.map_map]; rfl)
          (di_zipT (de_var (a := .im (.tuple ((k0 :: kr).map .int))) rfl) (de_tail (d := .int k0) (de_var (a := .im (.tuple ((k0 :: kr).map .int))) rfl))) (tg_pair (by simp) (by simp)) (by
            rw [List.length_zip]
            simp at len ⊢
            omega) fun d hd => ⟨_, ⟨_, _, rfl, rfl⟩, de_lt (de_var rfl) (de_var rfl)⟩).de
      · have : (((k0 :: kr).zip kr).map fun p => decide (p.1 < p.2)).all id = true := by
          rw [List.all_eq_true]
          intro b hb
          obtain ⟨p, hp, rfl⟩ := List.mem_map.mp hb
          exact decide_eq_true (asc_zip ok.asc p hp)
        rw [this]⟩
end
end WZ
namespace WZ
open PySem PySem.Spec PyProof.Rows L2 KB KC KD KV MW
open Evl (Ex EvT)
open StX (tStar)
/-- statements that are not reached -/
def tDead : TS := fun _ _ _ => False
theorem pss_dead {X : Cx} {st : List Stmt} : PSs X st tDead := ⟨fun _ _ _ _ _ _ h => h.elim⟩
theorem de_neI {ta tb : TE} {sl : SL} {i j : Int} (ha : De ta sl (.im (.int i))) (hb : De tb sl (.im (.int j))) : De (tOp rNe ta tb) sl (.im (.bool (!decide (i = j)))) :=
  de_op ha hb fun x y H hx hy Q q => by
    rw [Im.int_eq hx, Im.int_eq hy]
    refine ⟨rfl, ?_⟩
    have e : decide (V.int i = V.int j) = decide (i = j) := by rw [dec_int]; exact Bool.beq_eq_decide_eq ..
    rw [e]
    exact q _ H (Evl.Ex.refl H) (.bl _)
section
variable {P : Program} {w : World} {K : PySem.W.Frag} {mg : Str → Option Value} {base : Heap}
/-! ### are_steps -/
def RSteps (as : List Da) (a : Da) : Prop := ∃ st : List (List Int), as = [.im (stD st)] ∧ (∀ ks ∈ st, OkK ks) ∧ 1 ≤ st.length ∧ st.length ≤ 4 ∧ a = .im (.bool true)
theorem pr_are_steps (D : DefAt K mg "are_steps" 19 ["value"]) (pK : Prom P w K mg base 2 "are_kinds" ["value"] (spR RKinds)) (mi : mg "isinstance" = none) (mt : mg "tuple" = none) (ma : mg "all" = none) (ml : mg "len" = none) (ck : CInt mg "MOST_STEPS" 4) :
    Prom P w K mg base 3 "are_steps" ["value"] (spR RSteps) :=
  D.prom fun f fd F => pure_ok F sc19 (fun as a h => by obtain ⟨ks, rfl, _⟩ := h; rfl) fun cdv A outer s H E hr =>
    ⟨_, pss_cons (ps_if (PW.pt (pw_or (pt_not (pt_val (pe_callB call_isi (by rfl) mi PyProof.Rows.boot_isinstance (pa_cons (pv 0) (pa_cons (pe_ty (by rfl) mt rfl) pa_nil)))))
        (pw_or1 (pt_not (pt_chain op_le op_le pe_int (pe_callB call_len_seq (by rfl) ml PySem.boot_len (pa_cons (pv 0) pa_nil)) (pe_ci ck (by rfl))))))) pss_dead pss_nil)
      (pss_one (ps_ret (pe_callB (cr_all rfl) (by rfl) ma PyProof.Rows.boot_all (pa_cons (pe_lc (own := [("one", 1)]) (g := gName 1) (tt := tYes) rfl sc19.nd (pi_tup (pv 0)) (blkOk_by (N := ["value", "one"]) (sc := defScope (topS 19)) (by decide +kernel))
            (fun _ _ _ _ _ => pg_name (i := 1) sc19.nd rfl (.inl rfl)) (fun _ _ _ _ _ => pts_nil) (fun _ _ _ _ _ => pe_pr pK hr (by rfl) (pa_cons (pv 1) pa_nil))) pa_nil)))), fun as a h => by
      obtain ⟨st, rfl, ok, h1, h4, rfl⟩ := h
      refine dr_if (b := false) ((dt_or (x := false) (y := false) ((dt_not (dt_B (de_isT "tuple" "tuple" (x := true) (de_var (a := .im (stD st)) rfl) rfl (by decide +kernel)))).is rfl) fun _ =>
        (dt_not (x := true) ((dt_test (de_chainLe (i := 1) (j := (st.length : Int)) (k := 4) de_int ((de_lenT (ds := st.map kD) (de_var rfl)).is (by rw [List.length_map])) de_int)).is (by
          rw [decide_eq_true (by omega : (1 : Int) ≤ (st.length : Int)), decide_eq_true (by omega : (st.length : Int) ≤ 4)]; rfl))).is rfl).is rfl) (fun z => nomatch z) fun _ => ?_
      refine dr_next (dr_ret ?_)
      refine (de_all (bs := st.map fun _ => true) (den_lcX st kD (fun _ => PyData.bool true) rfl (by rw [List.map_map]; rfl) (di_tup (de_var (a := .im (.tuple (st.map kD))) rfl)) (tg_name (by simp)) (by omega) fun d hd =>
        ⟨_, rfl, de_call (R := RKinds) (a := .im (.bool true)) (dea_cons (de_var (a := .im (kD d)) rfl) dea_nil) ⟨d, rfl, ok d hd, rfl⟩⟩).de).is ?_
      have : (st.map fun _ => true).all id = true := by
        rw [List.all_eq_true]
        intro b hb
        obtain ⟨p, hp, rfl⟩ := List.mem_map.mp hb
        rfl
      rw [this]⟩
/-! ### wrong_place -/
def RWrong (as : List Da) (a : Da) : Prop := ∃ W : Wy, as = [.im (wyD W)] ∧ OkW W ∧ a = .im .none
theorem how_any {W : Wy} : (W.how.s = ("any" : Str)) ↔ W.how = .any := by
  cases W.how <;> simp [How.s] <;> decide
theorem pr_wrong_place (D : DefAt K mg "wrong_place" 20 ["thing"]) (pS : Prom P w K mg base 3 "are_steps" ["value"] (spR RSteps)) (pW : Prom P w K mg base 1 "is_word" ["value", "words"] (spR RWord)) (pI : Prom P w K mg base 1 "is_integer" ["value", "least", "most"] (spR RInt))
    (mi : mg "isinstance" = none) (mt : mg "tuple" = none) (ml : mg "len" = none) (c1 : CStr mg "LOOSE" "loose") (c2 : CStr mg "AMONG" "among") (c3 : CStr mg "STRICT" "strict") (c4 : CStr mg "ANY" "any") (c5 : CStr mg "WHOLE" "whole") (c6 : CStr mg "EACH" "each") (c7 : CStr mg "ALL" "all") (c8 : CStr mg "FIRST" "first") (c9 : CInt mg "MOST_WINDOW" 8) :
    Prom P w K mg base 4 "wrong_place" ["thing"] (spR RWrong) :=
  D.prom fun f fd F => pure_ok F sc20 (fun as a h => by obtain ⟨W, rfl, _⟩ := h; rfl) fun cdv A outer s H E hr =>
    ⟨_, pss_cons (ps_if (PW.pt (pw_or (pt_not (pt_val (pe_callB call_isi (by rfl) mi PyProof.Rows.boot_isinstance (pa_cons (pv 0) (pa_cons (pe_ty (by rfl) mt rfl) pa_nil)))))
        (pw_or1 (pt_cmpR op_ne (pe_callB call_len_seq (by rfl) ml PySem.boot_len (pa_cons (pv 0) pa_nil)) pe_int (nomark _))))) pss_dead pss_nil)
      (pss_cons (ps_if (pt_not (pt_val (pe_pr pS hr (by rfl) (pa_cons (pe_ix ix_tup (pv 0) pe_int (fun _ _ => rfl)) pa_nil)))) pss_dead pss_nil)
      (pss_cons (ps_if (pt_not (pt_val (pe_pr pW (hr.mono (by decide)) (by rfl) (pa_cons (pe_ix ix_tup (pv 0) pe_int (fun _ _ => rfl)) (pa_cons (pe_tup (pa_cons (pe_cs c1 (by rfl)) (pa_cons (pe_cs c2 (by rfl)) (pa_cons (pe_cs c3 (by rfl)) (pa_cons (pe_cs c4 (by rfl)) pa_nil))))) pa_nil))))) pss_dead pss_nil)
      (pss_cons (ps_if (pt_not (pt_val (pe_pr pW (hr.mono (by decide)) (by rfl) (pa_cons (pe_ix ix_tup (pv 0) pe_int (fun _ _ => rfl)) (pa_cons (pe_ifExp (pt_cmpR op_eq (pe_ix ix_tup (pv 0) pe_int (fun _ _ => rfl)) (pe_cs c4 (by rfl)) (nomark _)) (pe_tup (pa_cons (pe_cs c5 (by rfl)) pa_nil)) (pe_tup (pa_cons (pe_cs c5 (by rfl)) (pa_cons (pe_cs c6 (by rfl)) pa_nil)))) pa_nil))))) pss_dead pss_nil)
      (pss_cons (ps_if (pt_not (pt_val (pe_pr pI (hr.mono (by decide)) (by rfl) (pa_cons (pe_ix ix_tup (pv 0) pe_int (fun _ _ => rfl)) (pa_cons pe_int (pa_cons (pe_ci c9 (by rfl)) pa_nil)))))) pss_dead pss_nil)
      (pss_one (ps_ret (pe_ifExp (pt_val (pe_pr pW (hr.mono (by decide)) (by rfl) (pa_cons (pe_ix ix_tup (pv 0) pe_int (fun _ _ => rfl)) (pa_cons (pe_ifExp (pt_cmpR op_eq (pe_ix ix_tup (pv 0) pe_int (fun _ _ => rfl)) (pe_cs c4 (by rfl)) (nomark _)) (pe_tup (pa_cons (pe_cs c7 (by rfl)) pa_nil)) (pe_tup (pa_cons (pe_cs c7 (by rfl)) (pa_cons (pe_cs c8 (by rfl)) pa_nil)))) pa_nil)))) pe_non (pe_tup (pa_cons pe_int pa_nil))))))))), fun as a h => by
      obtain ⟨W, rfl, ok, rfl⟩ := h
      have v0 : ∀ {sl : SL}, sl[0]? = some (some (.im (wyD W))) → De (tVar 0) sl (.im (wyD W)) := fun e => de_var e
      refine dr_if (b := false) ((dt_or (x := false) (y := false) ((dt_not (dt_B (de_isT "tuple" "tuple" (x := true) (v0 rfl) rfl (by decide +kernel)))).is rfl) fun _ =>
        (dt_test (de_neI (de_lenT (v0 rfl)) (de_int (i := 5)))).is rfl).is rfl) (fun z => nomatch z) fun _ => dr_next ?_
      refine dr_if (b := false) ((dt_not (dt_B (de_call (R := RSteps) (a := .im (.bool true)) (dea_cons (de_ixT (j := 0) (v0 rfl) de_int rfl) dea_nil) ⟨W.steps, rfl, ok.ks, ok.one, by have := ok.few; omega, rfl⟩))).is rfl) (fun z => nomatch z) fun _ => dr_next ?_
      refine dr_if (b := false) ((dt_not (dt_B (de_call (R := RWord) (a := .im (.bool true)) (dea_cons (de_ixT (j := 1) (v0 rfl) de_int rfl) (dea_cons (de_tup (ds := [.str "loose", .str "among", .str "strict", .str "any"]) (dea_cons de_str (dea_cons de_str (dea_cons de_str (dea_cons de_str dea_nil)))) (by simp)) dea_nil))
        ⟨W.how.s, ["loose", "among", "strict", "any"], rfl, by cases W.how <;> simp [How.s], rfl⟩))).is rfl) (fun z => nomatch z) fun _ => dr_next ?_
      have ta : ∀ {K' : PySem.W.Frag} {x y : Str} {sl : SL}, sl[0]? = some (some (.im (wyD W))) → De (tIf (tTest (tOp rEq (tOp (rIxT K') (tVar 0) (tC (.int 1))) (tC (.str "any")))) (tTup (tCons (tC (.str x)) tNil)) (tTup (tCons (tC (.str x)) (tCons (tC (.str y)) tNil)))) sl
          (.im (.tuple ((if W.how = .any then [x] else [x, y]).map .str))) := fun {K' x y sl} e => by
        refine de_if (x := decide (W.how.s = ("any" : Str))) (dt_test (de_eqS (de_ixT (j := 1) (v0 e) de_int rfl) de_str)) (fun z => ?_) (fun z => ?_)
        · rw [if_pos (how_any.mp (of_decide_eq_true z))]
          exact de_tup (ds := [.str x]) (dea_cons de_str dea_nil) (by simp)
        · rw [if_neg (fun q => of_decide_eq_false z (how_any.mpr q))]
          exact de_tup (ds := [.str x, .str y]) (dea_cons de_str (dea_cons de_str dea_nil)) (by simp)
      refine dr_if (b := false) ((dt_not (dt_B (de_call (R := RWord) (a := .im (.bool true)) (dea_cons (de_ixT (j := 2) (v0 rfl) de_int rfl) (dea_cons (ta rfl) dea_nil))
        ⟨_, _, rfl, ?_, rfl⟩))).is rfl) (fun z => nomatch z) fun _ => dr_next ?_
      · by_cases c : W.how = .any
        · rw [if_pos c, (ok.any c).1]
          simp
        · rw [if_neg c]
          cases W.each <;> simp
      refine dr_if (b := false) ((dt_not (dt_B (de_call (R := RInt) (a := .im (.bool true)) (dea_cons (de_ixT (j := 3) (v0 rfl) de_int rfl) (dea_cons de_int (dea_cons de_int dea_nil)))
        ⟨W.wide, 0, 8, rfl, ok.w0, by have := ok.w2; omega, rfl⟩))).is rfl) (fun z => nomatch z) fun _ => dr_next ?_
      refine dr_ret (de_ifT (dt_B (de_call (R := RWord) (a := .im (.bool true)) (dea_cons (de_ixT (j := 4) (v0 rfl) de_int rfl) (dea_cons (ta rfl) dea_nil))
        ⟨_, _, rfl, ?_, rfl⟩)) de_non)
      by_cases c : W.how = .any
      · rw [if_pos c, (ok.any c).2]
        simp
      · rw [if_neg c]
        cases W.fst <;> simp⟩
/-! ### need_way -/
def RNeed (as : List Da) (a : Da) : Prop := ∃ W : Wy, as = [.im (wyD W)] ∧ OkW W ∧ a = .im (wyD W)
theorem pr_need_way (D : DefAt K mg "need_way" 21 ["thing"]) (pW : Prom P w K mg base 4 "wrong_place" ["thing"] (spR RWrong)) : Prom P w K mg base 5 "need_way" ["thing"] (spR RNeed) :=
  D.prom fun f fd F => pure_ok F sc21 (fun as a h => by obtain ⟨W, rfl, _⟩ := h; rfl) fun cdv A outer s H E hr =>
    ⟨_, pss_cons (ps_set (i := 1) sc21.nd rfl (.inl rfl) (pe_pr pW hr (by rfl) (pa_cons (pv 0) pa_nil)))
      (pss_cons (ps_if (pt_cmp (pc_notN (pv 1))) pss_dead pss_nil) (pss_one (ps_ret (pv 0)))), fun as a h => by
      obtain ⟨W, rfl, ok, rfl⟩ := h
      refine dr_asg (de_call (R := RWrong) (a := .im .none) (dea_cons (de_var (a := .im (wyD W)) rfl) dea_nil) ⟨W, rfl, ok, rfl⟩) ?_
      refine dr_if (b := false) ((dt_B (de_notN (de_var (a := .im .none) rfl))).is rfl) (fun z => nomatch z) fun _ => dr_next ?_
      exact dr_ret (de_var rfl)⟩
end
end WZ
namespace WZ
open PySem PySem.Spec PyProof.Rows L2 KB KC KD KV MW
open Evl (Ex EvT)
open StX (tStar)
section
variable {P : Program} {w : World} {K : PySem.W.Frag} {mg : Str → Option Value} {base : Heap}
/-! ### steps_in -/
def RIn (as : List Da) (ds : List PyData) : Prop := ∃ (W : Wy) (k : Int), as = [.im (wyD W), .im (.int k)] ∧ OkW W ∧ ds = (idx W.steps k).map stpD
theorem pr_steps_in (D : DefAt K mg "steps_in" 22 ["way", "kind"]) (me : mg "enumerate" = none) : Prom P w K mg base 1 "steps_in" ["way", "kind"] (spN RIn) :=
  D.prom fun f fd F => pure_okN F sc22 (fun as a h => by obtain ⟨W, k, rfl, _⟩ := h; rfl) fun cdv A outer s H E hr =>
    ⟨_, pss_one (ps_ret (pe_lc (own := [("number", 2), ("kinds", 3)]) (g := gPair K 2 3) (tt := tTest (tOp (rIn K false) (tVar 1) (tVar 3))) rfl sc22.nd (KA.pi_enumT (by rfl) me (pa_cons (pe_ix ix_tup (pv 0) pe_int (fun _ _ => rfl)) pa_nil)) (blkOk_by (N := ["way", "kind", "number", "kinds"]) (sc := defScope (topS 22)) (by decide +kernel))
            (fun _ _ _ _ _ => pg_tup rfl (pgs_cons (pg_name (i := 2) sc22.nd rfl (.inl rfl)) (pgs_cons (pg_name (i := 3) sc22.nd rfl (.inl rfl)) pgs_nil))) (fun _ _ _ _ _ => pts_one (pt_cmpR op_in_seq (pv 1) (pv 3) (by rfl))) (fun _ _ _ _ _ => pe_op op_add (pv 2) pe_int))), fun as a h => by
      obtain ⟨W, k, rfl, ok, rfl⟩ := h
      have few := ok.few
      refine drn_ret (den_lcF W.steps.zipIdx (fun p => .tuple [.int (p.2 : Int), kD p.1]) (fun p => if decide (k ∈ p.1) = true then some p.2 else none) stpD (enD_zipIdx kD W.steps 0) (by rw [idx_zip])
        (di_enumT (de_ixT (j := 0) (de_var (a := .im (wyD W)) rfl) de_int rfl)) (tg_pair (by simp) (by simp)) (by simp; omega) fun p hp => ?_)
      refine ⟨_, ⟨_, _, rfl, rfl⟩, _, dt_test (de_inTI (k := k) (ks := p.1) (de_var rfl) (de_var rfl)), fun z => ⟨p.2, by rw [if_pos z], de_add (de_var rfl) de_int⟩, fun z => by rw [if_neg (by rw [z]; exact Bool.false_ne_true)]⟩⟩
/-! ### first_in -/
def RFirst (as : List Da) (a : Da) : Prop := ∃ W : Wy, as = [.im (wyD W)] ∧ OkW W ∧ a = .im (stdD (first W))
theorem map_rep (n : Nat) : (List.replicate n (none : Option Int)).map oD = List.replicate n .none := by
  rw [List.map_replicate]
  rfl
theorem pr_first_in (D : DefAt K mg "first_in" 25 ["way"]) (ml : mg "len" = none) : Prom P w K mg base 1 "first_in" ["way"] (spR RFirst) :=
  D.prom fun f fd F => pure_ok F sc25 (fun as a h => by obtain ⟨W, rfl, _⟩ := h; rfl) fun cdv A outer s H E hr =>
    ⟨_, pss_one (ps_ret (pe_tup (pa_cons pe_int (pa_cons pe_bl (pa_cons (pe_op op_repN (pe_tup (pa_cons pe_non pa_nil)) (pe_callB call_len_seq (by rfl) ml PySem.boot_len (pa_cons (pe_ix ix_tup (pv 0) pe_int (fun _ _ => rfl)) pa_nil))) pa_nil))))), fun as a h => by
      obtain ⟨W, rfl, ok, rfl⟩ := h
      have few := ok.few
      have one := ok.one
      refine dr_ret ?_
      unfold first stdD
      rw [map_rep]
      exact de_tup (ds := [.int 0, .bool false, .tuple (List.replicate W.steps.length .none)]) (dea_cons de_int (dea_cons de_bl (dea_cons (de_repT ((de_lenT (ds := W.steps.map kD) (de_ixT (j := 0) (de_var (a := .im (wyD W)) rfl) de_int rfl)).is (by rw [List.length_map])) one (by omega)) dea_nil))) (by simp)⟩
/-! ### grown -/
def asD (as : List (Option Int)) : PyData := .tuple (as.map oD)
def RGrown (as : List Da) (a : Da) : Prop := ∃ (ag : List (Option Int)) (g v : Int), as = [.im (asD ag), .im (.int g), .im (.int v)] ∧ ag.length ≤ 3 ∧ a = .im (asD (MW.grown ag g v))
theorem isN_o (o : Option Int) : isN (oD o) = o.isNone := by cases o <;> rfl
theorem pr_grown (D : DefAt K mg "grown" 26 ["ages", "gap", "window"]) (mt : mg "tuple" = none) : Prom P w K mg base 1 "grown" ["ages", "gap", "window"] (spR RGrown) :=
  D.prom fun f fd F => pure_ok F sc26 (fun as a h => by obtain ⟨ag, g, v, rfl, _⟩ := h; rfl) fun cdv A outer s H E hr =>
    ⟨_, pss_one (ps_ret (pe_callTy call_tup (by rfl) mt PyProof.Rows.boot_tuple (pa_cons (pe_lc (own := [("age", 3)]) (g := gName 3) (tt := tYes) rfl sc26.nd (pi_tup (pv 0)) (blkOk_by (N := ["ages", "gap", "window", "age"]) (sc := defScope (topS 26)) (by decide +kernel))
            (fun _ _ _ _ _ => pg_name (i := 3) sc26.nd rfl (.inl rfl)) (fun _ _ _ _ _ => pts_nil) (fun _ _ _ _ _ => pe_ifExp (PW.pt (pw_or (pt_cmp (pc_isN (pv 3))) (pw_or1 (pt_cmpR op_gt (pe_op op_add (pv 3) (pv 1)) (pv 2) (nomark _))))) pe_non (pe_op op_add (pv 3) (pv 1)))) pa_nil))), fun as a h => by
      obtain ⟨ag, g, v, rfl, h3, rfl⟩ := h
      refine dr_ret (de_tupOf (den_lcX ag oD (fun o => oD (ageG g v o)) rfl (by unfold MW.grown; rw [List.map_map]; rfl) (di_tup (de_var (a := .im (.tuple (ag.map oD))) rfl)) (tg_name (by simp)) (by omega) fun o ho => ⟨_, rfl, ?_⟩).de)
      cases o with
      | none => exact de_ifT ((dt_or (x := true) (y := false) (dt_B (de_isN (de_var (a := .im .none) rfl))) fun z => nomatch z).is rfl) de_non
      | some x =>
        refine de_if (x := decide (v < x + g)) ((dt_or (x := false) (dt_B (de_isN (de_var (a := .im (.int x)) rfl))) fun _ => dt_test (de_gt (de_add (de_var rfl) (de_var rfl)) (de_var rfl))).is (Bool.false_or _)) (fun z => ?_) (fun z => ?_)
        · show De _ _ (.im (oD (if v < x + g then none else some (x + g))))
          rw [if_pos (of_decide_eq_true z)]
          exact de_non
        · show De _ _ (.im (oD (if v < x + g then none else some (x + g))))
          rw [if_neg (of_decide_eq_false z)]
          exact de_add (de_var rfl) (de_var rfl)⟩
/-! ### lesser -/
def RLess (as : List Da) (a : Da) : Prop := ∃ o p : Option Int, as = [.im (oD o), .im (oD p)] ∧ a = .im (oD (MW.lesser o p))
theorem pr_lesser (D : DefAt K mg "lesser" 28 ["one", "other"]) (mm : mg "min" = none) : Prom P w K mg base 1 "lesser" ["one", "other"] (spR RLess) :=
  D.prom fun f fd F => pure_ok F sc28 (fun as a h => by obtain ⟨o, p, rfl, _⟩ := h; rfl) fun cdv A outer s H E hr =>
    ⟨_, pss_cons (ps_if (PW.pt (pw_or (pt_cmp (pc_isN (pv 0))) (pw_or1 (pt_cmp (pc_isN (pv 1)))))) (pss_one (ps_ret (pe_ifExp (pt_cmp (pc_isN (pv 0))) (pv 1) (pv 0)))) pss_nil)
      (pss_one (ps_ret (pe_callB (call_min2 rfl) (by rfl) mm PyProof.Rows.boot_min (pa_cons (pv 0) (pa_cons (pv 1) pa_nil))))), fun as a h => by
      obtain ⟨o, p, rfl, rfl⟩ := h
      have t0 : Dt (tB (tIsN (tVar 0))) (List.map some [Da.im (oD o), .im (oD p)] ++ []) o.isNone := (dt_B (de_isN (de_var (a := .im (oD o)) rfl))).is (isN_o o)
      have t1 : Dt (tB (tIsN (tVar 1))) (List.map some [Da.im (oD o), .im (oD p)] ++ []) p.isNone := (dt_B (de_isN (de_var (a := .im (oD p)) rfl))).is (isN_o p)
      refine dr_if (dt_or t0 fun _ => t1) (fun z => ?_) (fun z => dr_next ?_)
      · refine dr_assoc (dr_retS (de_if t0 (fun q => ?_) (fun q => ?_)))
        · cases o with
          | none => exact de_var rfl
          | some x => cases q
        · cases o with
          | none => cases q
          | some x =>
            cases p with
            | none => exact de_var rfl
            | some y => cases z
      · cases o with
        | none => cases z
        | some x =>
          cases p with
          | none => cases z
          | some y => exact dr_ret (de_min2 (de_var rfl) (de_var rfl))⟩
end
end WZ
namespace KV
open PySem PySem.Spec PyProof.Rows L2 KB KC KD
open Evl (Ex EvT)
theorem ima_er {p : Addr} {H : Hp} {vs : List V} {xs : List V} {ds : List PyData} (hp : H p = some (.lst vs)) (h : ImA H xs ds) : ImA (Er p H) xs ds := h.to fun a xs q => by
  unfold Er
  rw [if_neg (fun z => by rw [z, hp] at q; cases q)]
  exact q
theorem Sl.setN {H : Hp} {x : Option V} : ∀ {σ : L2.St} {sl : SL} (i : Nat), Sl H σ sl → Sl H (σ.set i x) (sl.set i Option.none)
  | _, _, _, .nil => .nil
  | _, _, 0, .cons _ t => .cons True.intro t
  | _, _, i + 1, .cons q t => .cons q (Sl.setN i t)
theorem er_at {p q : Addr} {H : Hp} {o : HO} (h : H q = some o) (n : q ≠ p) : Er p H q = some o := by
  unfold Er
  rw [if_neg n]
  exact h
end KV
namespace MW
open PySem PySem.Spec PyProof.Rows L2 KB KC KD KV
theorem came1_len (W : Wy) (b : Bool) (as f : List (Option Int)) (j : Nat) : (came1 W b as f j).length = f.length := by
  unfold came1
  split
  · rw [List.length_set]
  · split
    · rfl
    · rw [List.length_set]
theorem came_fold_len (W : Wy) (b : Bool) (as : List (Option Int)) : ∀ (js : List Nat) (f : List (Option Int)), (js.foldl (came1 W b as) f).length = f.length
  | [], _ => rfl
  | j :: js, f => by
    rw [List.foldl_cons, came_fold_len W b as js, came1_len]
end MW
namespace WZ
open PySem PySem.Spec PyProof.Rows L2 KB KC KD KV MW
open Evl (Ex EvT)
open StX (tStar)
section
variable {P : Program} {w : World} {K : PySem.W.Frag} {mg : Str → Option Value} {base : Heap}
/-! ### came -/
def RCame (as : List Da) (ds : List PyData) : Prop := ∃ (W : Wy) (b : Bool) (ag : List (Option Int)) (k : Int), as = [.im (wyD W), .im (.bool b), .im (asD ag), .im (.int k)] ∧ OkW W ∧ ag.length = W.steps.length ∧ ds = (MW.came W b ag k).map oD
theorem each_s {W : Wy} : decide ((if W.each = true then ("each" : Str) else "whole") = "whole") = !W.each := by
  cases W.each <;> decide
theorem first_s {W : Wy} : decide ((if W.fst = true then ("first" : Str) else "all") = "first") = W.fst := by
  cases W.fst <;> decide
theorem all_s {W : Wy} : decide ((if W.fst = true then ("first" : Str) else "all") = "all") = !W.fst := by
  cases W.fst <;> decide
theorem pr_came (D : DefAt K mg "came" 27 ["way", "begun", "ages", "kind"]) (pS : Prom P w K mg base 1 "steps_in" ["way", "kind"] (spN RIn)) (ml : mg "len" = none) (c5 : CStr mg "WHOLE" "whole") (c8 : CStr mg "FIRST" "first") :
    Prom P w K mg base 2 "came" ["way", "begun", "ages", "kind"] (spN RCame) :=
  D.prom fun f fd F => pure_okN F sc27 (fun as a h => by obtain ⟨W, b, ag, k, rfl, _⟩ := h; rfl) fun cdv A outer s H E hr =>
    ⟨_, pss_cons (ps_par (i := 4) (j := 5) rfl sc27.nd rfl rfl (by decide) rfl rfl (pa_cons (pe_op op_rep (pe_lst (pa_cons pe_non pa_nil)) (pe_callB call_len_seq (by rfl) ml PySem.boot_len (pa_cons (pe_ix ix_tup (pv 0) pe_int (fun _ _ => rfl)) pa_nil))) (pa_cons (pe_pr pS hr (by rfl) (pa_cons (pv 0) (pa_cons (pv 3) pa_nil))) pa_nil)) (by rfl))
      (pss_cons (ps_for PassesOwn.never rfl (pi_list (pv 5)) (pg_name (i := 6) sc27.nd rfl (.inl rfl))
        (pss_one (ps_if (pt_cmpR op_eq (pv 6) pe_int (nomark _))
          (pss_one (ps_asg (pe_ifExp (PW.pt (pw_and (pt_cmpR op_eq (pe_ix ix_tup (pv 0) pe_int (fun _ _ => rfl)) (pe_cs c8 (by rfl)) (nomark _)) (pw_and1 (pt_val (pv 1))))) pe_non pe_int) (pg_sub (pv 4) pe_int set_list (fun _ => rfl))))
          (pss_one (ps_if (pt_cmp (pc_notN (pe_ix ix_tup (pv 2) (pe_op op_sub (pv 6) pe_int) (fun _ _ => rfl))))
            (pss_one (ps_asg (pe_ifExp (pt_cmpR op_eq (pe_ix ix_tup (pv 0) pe_int (fun _ _ => rfl)) (pe_cs c5 (by rfl)) (nomark _)) (pe_ix ix_tup (pv 2) (pe_op op_sub (pv 6) pe_int) (fun _ _ => rfl)) pe_int) (pg_sub (pv 4) (pe_op op_sub (pv 6) pe_int) set_list (fun _ => rfl)))) pss_nil)))))
      (pss_one (ps_ret (pv 4)))), fun as a h => by
      obtain ⟨W, b, ag, k, rfl, ok, hag, rfl⟩ := h
      have few := ok.few
      intro σ H hs Q nx q
      refine den_rep (n := W.steps.length) ((de_lenT (ds := W.steps.map kD) (de_ixT (j := 0) (de_var (a := .im (wyD W)) rfl) de_int rfl)).is (by rw [List.length_map])) (by omega) σ H hs _ fun p us H1 e1 hp h1 i1 => ?_
      refine den_call (R := RIn) (dea_cons (de_var (a := .im (wyD W)) rfl) (dea_cons (de_var (a := .im (.int k)) rfl) dea_nil)) ⟨W, k, rfl, ok, rfl⟩ σ H1 (hs.to e1) _ fun p2 us2 H2 e2 hp2 h2 i2 => ⟨_, _, rfl, ?_⟩
      have h1' := e2 _ _ h1
      have hn : p2 ≠ p := fun z => by rw [z, h1] at hp2; cases hp2
      have hsE : Sl (Er p H2) ((σ.set 4 (some (.ref p))).set 5 (some (.ref p2))) [some (.im (wyD W)), some (.im (.bool b)), some (.im (asD ag)), some (.im (.int k)), none, some (.ls ((idx W.steps k).map stpD)), none] :=
        Sl.set (a := .ls ((idx W.steps k).map stpD)) ⟨p2, us2, rfl, er_at h2 hn, ima_er h1' i2⟩ 5 (Sl.setN 4 (hs.to (er_new hp (e1.trans e2))))
      have hlen : σ.length = 7 := hs.length
      refine ds_forM (m := 4) (j := 5) (vs := [6]) (sl := [some (.im (wyD W)), some (.im (.bool b)), some (.im (asD ag)), some (.im (.int k)), none, some (.ls ((idx W.steps k).map stpD)), none]) (src := idx W.steps k) (enc := stpD) (cur := List.replicate W.steps.length none) (fun l : List (Option Int) => l.map oD)
        (fun l => l.length = W.steps.length) (came1 W b ag) rfl (by decide) tgl_name (fun j hj => ⟨_, rfl, rfl, fun cur hc => ?_⟩) (fun i _ => by rw [came_fold_len, List.length_replicate]) _ H2 p us hsE ?_ h1' (by rw [map_rep]; exact i1.to (Tx.of e2)) _ fun σ2 H3 us3 e3 s3 m3 h3 i3 => ?_
      · -- the body
        have hj := (mem_idx.mp hj).1
        have v6 : ∀ {K' : List (Option Da)}, K'[6]? = some (some (.im (.int ((j : Int) + 1)))) → De (tVar 6) K' (.im (.int ((j : Int) + 1))) := fun e => de_var e
        refine dm_seq1 (dm_if (b := decide (j = 0)) ((dt_test (de_eqI (v6 rfl) (de_int (i := 1)))).is (decide_eq_decide.mpr (by omega))) (fun z => ?_) (fun z => ?_))
        · have z : j = 0 := of_decide_eq_true z
          subst z
          show Dm _ 4 _ _ (((came1 W b ag cur 0)).map oD)
          unfold came1
          rw [if_pos rfl, List.map_set]
          refine dm_seq1 (dm_set (de_if (x := W.fst && b) ((dt_and (x := W.fst) (y := b) ((dt_test (de_eqS (de_ixT (j := 4) (de_var (a := .im (wyD W)) rfl) de_int rfl) de_str)).is first_s) fun _ => dt_B (de_var rfl))) (fun z => ?_) (fun z => ?_)) (de_int (i := ((0 : Nat) : Int))) (by rw [List.length_map, hc]; omega))
          · rw [if_pos z]
            exact de_non
          · rw [if_neg (by rw [z]; exact Bool.false_ne_true)]
            exact de_int
        · have z : j ≠ 0 := of_decide_eq_false z
          have ej : ((j : Int) + 1 - 2) = ((j - 1 : Nat) : Int) := by omega
          have hjg : j - 1 < ag.length := by omega
          have hix : ∀ {K' : PySem.W.Frag} {sl' : SL}, sl'[2]? = some (some (.im (asD ag))) → sl'[6]? = some (some (.im (.int ((j : Int) + 1)))) → De (tOp (rIxT K') (tVar 2) (tOp (rI0 fun i j => .int (i - j)) (tVar 6) (tC (.int 2)))) sl' (.im (oD (ag.getD (j - 1) none))) := fun {K' sl'} g1 g2 => by
            refine de_ixT (ds := ag.map oD) (j := j - 1) (de_var g1) ((de_sub (v6 g2) (de_int (i := 2))).is (by rw [ej])) ?_
            rw [List.getElem?_map, List.getElem?_eq_getElem hjg, List.getD_eq_getElem?_getD, List.getElem?_eq_getElem hjg]
            rfl
          refine dm_seq1 (dm_if (b := (ag.getD (j - 1) none).isSome) ((dt_B (de_notN (hix rfl rfl))).is (by rw [isN_o]; cases ag.getD (j - 1) none <;> rfl)) (fun z2 => ?_) (fun z2 => ?_))
          · obtain ⟨x, hx⟩ := Option.isSome_iff_exists.mp z2
            show Dm _ 4 _ _ (((came1 W b ag cur j)).map oD)
            unfold came1
            rw [if_neg z, hx, List.map_set]
            refine dm_seq1 (dm_set (de_if (x := !W.each) ((dt_test (de_eqS (de_ixT (j := 2) (de_var (a := .im (wyD W)) rfl) de_int rfl) de_str)).is each_s) (fun z => ?_) (fun z => ?_)) ((de_sub (v6 rfl) (de_int (i := 1))).is (by rw [show (j : Int) + 1 - 1 = (j : Int) by omega])) (by rw [List.length_map, hc]; exact hj))
            · have := hix (K' := K) (sl' := [some (.im (wyD W)), some (.im (.bool b)), some (.im (asD ag)), some (.im (.int k)), none, some (.ls ((idx W.steps k).map stpD)), some (.im (.int ((j : Int) + 1)))]) rfl rfl
              rw [hx] at this
              rw [if_neg (by cases h : W.each <;> simp_all)]
              exact this
            · rw [if_pos (by cases h : W.each <;> simp_all)]
              exact de_int
          · show Dm _ 4 _ _ (((came1 W b ag cur j)).map oD)
            unfold came1
            rw [if_neg z]
            have : ag.getD (j - 1) none = none := by
              cases h : ag.getD (j - 1) none with
              | none => rfl
              | some x => rw [h] at z2; cases z2
            rw [this]
            exact dm_next
      · rw [List.getElem?_set_ne (by decide), List.getElem?_set_self (by omega)]
      · -- return found
        refine ⟨.ref p, m3, q p us3 H3 ?_ hp h3 i3⟩
        exact (er_new hp (e1.trans e2)).trans (e3.trans er_ex)⟩
end
end WZ
namespace KV
open PySem PySem.Spec PyProof.Rows L2 KB KC KD
open Evl (Ex EvT)
section
variable {ta te tb : TE} {sl : SL} {K : PySem.W.Frag} {a a1 a2 : Da} {u : TS} {i j : Nat}
theorem dr_unpA2 {t : TA} (h : DeA t sl [a1, a2]) (k : Dr u ((sl.set i (some a1)).set j (some a2)) a) : Dr (tSeq (tAsg (tTup t) (gTup K 2 (gCons (gName i) (gCons (gName j) gNil)))) u) sl a := fun σ H hs Q nx q => h σ H hs _ fun vs H1 e1 q1 => by
  cases q1 with
  | @cons v1 _ _ _ r1 q1 =>
    cases q1 with
    | @cons v2 _ _ _ r2 q1 =>
      cases q1
      refine ⟨by show 2 ≤ sizeLine; decide, fun p hp => ?_⟩
      have e2 := e1.trans (Evl.Ex.new (o := .tup [v1, v2]) hp)
      exact ⟨p, _, rfl, SqT.of upd_same, rfl, _, _, rfl, _, [], rfl, rfl, k _ _ (Sl.set (r2.to (Evl.Ex.new hp)) j (Sl.set (r1.to (Evl.Ex.new hp)) i (hs.to e2))) Q nx fun v H2 e3 q2 => q v H2 (e2.trans e3) q2⟩
theorem dr_asgS {te : TE} (h : De te sl a1) (k : Dr u (sl.set i (some a1)) a) : Dr (tSeq (tAsg te (gName i)) u) sl a := dr_asg h k
theorem hs_dp {H : Hp} {v : V} {ds : List PyData} (h : Hs H v (.ls ds)) : Dp K H v (.list ds) := by
  obtain ⟨p, vs, rfl, h1, h2⟩ := h
  exact .lst (SqL.of h1) (ImA.dp _ _ h2)
theorem de_neL {ds es : List PyData} (h1 : De ta sl (.ls ds)) (h2 : De tb sl (.ls es)) (s1 : SeqAt.shaped (.list ds) = true) (s2 : SeqAt.shaped (.list es) = true) : De (tOp (rNeD K) ta tb) sl (.im (.bool (!PyData.eqvAll ds es))) :=
  de_op h1 h2 fun x y H hx hy Q q => ⟨_, _, hs_dp hx, hs_dp hy, s1, s2, q _ H (Evl.Ex.refl H) (.bl _)⟩
end
end KV
namespace WZ
open PySem PySem.Spec PyProof.Rows L2 KB KC KD KV MW
open Evl (Ex EvT)
open StX (tStar)
section
variable {P : Program} {w : World} {K : PySem.W.Frag} {mg : Str → Option Value} {base : Heap}
theorem shaped_ints (ks : List Int) : SeqAt.shaped (.list (ks.map .int)) = true := by
  unfold SeqAt.shaped
  rw [Bool.and_eq_true]
  refine ⟨canLay_ints ks, decide_eq_true ?_⟩
  have := depth_ints ks
  show PyData.depthAll (ks.map .int) + 1 ≤ 64
  omega
theorem stp_ints (js : List Nat) : js.map stpD = (js.map fun (j : Nat) => (j : Int) + 1).map .int := by
  rw [List.map_map]
  rfl
theorem mem_stp {js : List Nat} {j : Nat} : ((j : Int) + 1 ∈ js.map fun (j : Nat) => (j : Int) + 1) ↔ j ∈ js := by
  rw [List.mem_map]
  constructor
  · rintro ⟨i, hi, e⟩
    have : i = j := by omega
    exact this ▸ hi
  · exact fun h => ⟨j, h, rfl⟩
theorem mem_stp1 {js : List Nat} : ((1 : Int) ∈ js.map fun (j : Nat) => (j : Int) + 1) ↔ 0 ∈ js := mem_stp (j := 0)
theorem map_oD_somes (l : List (Option Int)) : (l.zipIdx.filterMap fun p => if p.1.isSome = true then some p.2 else none) = somes l := rfl
theorem zip_less : ∀ l m : List (Option Int), (l.zip m).map (fun p => oD (MW.lesser p.1 p.2)) = (List.zipWith MW.lesser l m).map oD
  | [], _ => rfl
  | _ :: _, [] => rfl
  | a :: l, b :: m => by
    show oD (MW.lesser a b) :: (l.zip m).map (fun p => oD (MW.lesser p.1 p.2)) = _
    rw [zip_less l m]
    rfl
theorem eqv_nil (l : List Nat) : (!PyData.eqvAll ((l.map fun (j : Nat) => (j : Int) + 1).map .int) []) = decide (l ≠ []) := by
  cases l with
  | nil => rfl
  | cons a r =>
    rw [decide_eq_true (List.cons_ne_nil a r)]
    rfl
/-! ### behind_in -/
def RBehind (as : List Da) (a : Da) : Prop := ∃ (W : Wy) (x : Std) (e : Int × Int), as = [.im (wyD W), .im (stdD x), .im (evD e)] ∧ OkW W ∧ x.2.2.length = W.steps.length ∧ a = .im (stdD (MW.behind W x e))
theorem grown_len (ag : List (Option Int)) (g v : Int) : (MW.grown ag g v).length = ag.length := by
  unfold MW.grown
  rw [List.length_map]
theorem came_len (W : Wy) (b : Bool) (ag : List (Option Int)) (k : Int) : (MW.came W b ag k).length = W.steps.length := by
  unfold MW.came
  rw [came_fold_len, List.length_replicate]
theorem idx_len (st : List (List Int)) (k : Int) : (idx st k).length ≤ st.length := by
  unfold idx
  refine Nat.le_trans (List.length_filter_le _ _) ?_
  rw [List.length_range]
  exact Nat.le_refl _
theorem somes_len (l : List (Option Int)) : (somes l).length ≤ l.length := by
  unfold somes
  refine Nat.le_trans (List.length_filterMap_le _ _) ?_
  rw [List.length_zipIdx]
  exact Nat.le_refl _
theorem pr_behind_in (D : DefAt K mg "behind_in" 29 ["way", "standing", "event"]) (pG : Prom P w K mg base 1 "grown" ["ages", "gap", "window"] (spR RGrown)) (pS : Prom P w K mg base 1 "steps_in" ["way", "kind"] (spN RIn))
    (pC : Prom P w K mg base 2 "came" ["way", "begun", "ages", "kind"] (spN RCame)) (pL : Prom P w K mg base 1 "lesser" ["one", "other"] (spR RLess))
    (mt : mg "tuple" = none) (me : mg "enumerate" = none) (mm : mg "max" = none) (ml : mg "len" = none) (mz : mg "zip" = none) (c1 : CStr mg "LOOSE" "loose") (c2 : CStr mg "AMONG" "among") (c4 : CStr mg "ANY" "any") :
    Prom P w K mg base 3 "behind_in" ["way", "standing", "event"] (spR RBehind) :=
  D.prom fun f fd F => pure_ok F sc29 (fun as a h => by obtain ⟨W, x, e, rfl, _⟩ := h; rfl) fun cdv A outer s H E hr => by
    have bk : ∀ (own : List (Str × Nat)) (scope : Scope), blkC ["way", "standing", "event", "best", "begun", "ages", "gap", "kind", "steps", "fresh", "number", "age", "other"] (defScope (topS 29)) scope own = true → BlkOk ["way", "standing", "event", "best", "begun", "ages", "gap", "kind", "steps", "fresh", "number", "age", "other"] (defScope (topS 29)) scope own := fun own scope h => blkOk_by h
    refine ⟨_, pss_cons (ps_asg (pv 1) (pg_tup rfl (pgs_cons (pg_name (i := 3) sc29.nd rfl (.inl rfl)) (pgs_cons (pg_name (i := 4) sc29.nd rfl (.inl rfl)) (pgs_cons (pg_name (i := 5) sc29.nd rfl (.inl rfl)) pgs_nil)))))
      (pss_cons (ps_asg (pv 2) (pg_tup rfl (pgs_cons (pg_name (i := 6) sc29.nd rfl (.inl rfl)) (pgs_cons (pg_name (i := 7) sc29.nd rfl (.inl rfl)) pgs_nil))))
      (pss_cons (ps_asg (pe_tup (pa_cons (pe_pr pG (hr.mono (by decide)) (by rfl) (pa_cons (pv 5) (pa_cons (pv 6) (pa_cons (pe_ix ix_tup (pv 0) pe_int (fun _ _ => rfl)) pa_nil)))) (pa_cons (pe_pr pS (hr.mono (by decide)) (by rfl) (pa_cons (pv 0) (pa_cons (pv 7) pa_nil))) pa_nil))) (pg_tup rfl (pgs_cons (pg_name (i := 5) sc29.nd rfl (.inl rfl)) (pgs_cons (pg_name (i := 8) sc29.nd rfl (.inr rfl)) pgs_nil))))
      (pss_cons (ps_if (pt_cmpR op_eq (pe_ix ix_tup (pv 0) pe_int (fun _ _ => rfl)) (pe_cs c4 (by rfl)) (nomark _))
        (pss_cons (ps_set (i := 5) sc29.nd rfl (.inl rfl) (pe_callTy call_tup (by rfl) mt PyProof.Rows.boot_tuple (pa_cons (pe_lc (own := [("number", 10), ("age", 11)]) (g := gPair K 10 11) (tt := tYes) rfl sc29.nd (KA.pi_enumT (by rfl) me (pa_cons (pv 5) pa_nil)) (blkOk_by (N := ["way", "standing", "event", "best", "begun", "ages", "gap", "kind", "steps", "fresh", "number", "age", "other"]) (sc := defScope (topS 29)) (by decide +kernel))
            (fun _ _ _ _ _ => pg_tup rfl (pgs_cons (pg_name (i := 10) sc29.nd rfl (.inl rfl)) (pgs_cons (pg_name (i := 11) sc29.nd rfl (.inl rfl)) pgs_nil))) (fun _ _ _ _ _ => pts_nil) (te := tIf (tTest (tOp (rIn K false) (tOp (rI0 fun i j => .int (i + j)) (tVar 10) (tC (.int 1))) (tVar 8))) (tC (.int 0)) (tVar 11)) (fun _ _ _ _ _ => pe_ifExp (pt_cmpR op_in_seq (pe_op op_add (pv 10) pe_int) (pv 8) (by rfl)) pe_int (pv 11))) pa_nil)))
        (pss_one (ps_ret (pe_tup (pa_cons (pe_callB (call_max2 rfl) (by rfl) mm PyProof.Rows.boot_max (pa_cons (pv 3) (pa_cons (pe_callB call_len_seq (by rfl) ml PySem.boot_len (pa_cons (pe_lc (own := [("age", 11)]) (g := gName 11) rfl sc29.nd (pi_tup (pv 5)) (blkOk_by (N := ["way", "standing", "event", "best", "begun", "ages", "gap", "kind", "steps", "fresh", "number", "age", "other"]) (sc := defScope (topS 29)) (by decide +kernel))
            (fun _ _ _ _ _ => pg_name (i := 11) sc29.nd rfl (.inl rfl)) (fun _ _ _ _ _ => pts_one (pt_cmp (pc_notN (pv 11)))) (fun _ _ _ _ _ => pv 11)) pa_nil)) pa_nil))) (pa_cons (pe_or (pv 4) (pe_one (pe_cmpR op_in_seq pe_int (pv 8) (by rfl)))) (pa_cons (pv 5) pa_nil)))))))
        pss_nil)
      (pss_cons (ps_set (i := 9) sc29.nd rfl (.inl rfl) (pe_pr pC hr (by rfl) (pa_cons (pv 0) (pa_cons (pv 4) (pa_cons (pv 5) (pa_cons (pv 7) pa_nil))))))
      (pss_cons (ps_set (i := 3) sc29.nd rfl (.inl rfl) (pe_callB (cr_max rfl) (by rfl) mm PyProof.Rows.boot_max (pa_cons (pe_op op_cat (pe_lst (pa_cons (pv 3) pa_nil)) (pe_lc (own := [("number", 10), ("age", 11)]) (g := gPair K 10 11) rfl sc29.nd (pi_enum (by rfl) me (pa_cons (pv 9) pa_nil)) (blkOk_by (N := ["way", "standing", "event", "best", "begun", "ages", "gap", "kind", "steps", "fresh", "number", "age", "other"]) (sc := defScope (topS 29)) (by decide +kernel))
            (fun _ _ _ _ _ => pg_tup rfl (pgs_cons (pg_name (i := 10) sc29.nd rfl (.inl rfl)) (pgs_cons (pg_name (i := 11) sc29.nd rfl (.inl rfl)) pgs_nil))) (fun _ _ _ _ _ => pts_one (pt_cmp (pc_notN (pv 11)))) (fun _ _ _ _ _ => pe_op op_add (pv 10) pe_int))) pa_nil)))
      (pss_cons (ps_if (pt_cmpR op_eq (pe_ix ix_tup (pv 0) pe_int (fun _ _ => rfl)) (pe_cs c1 (by rfl)) (nomark _))
        (pss_one (ps_set (i := 5) sc29.nd rfl (.inl rfl) (pe_callTy call_tup (by rfl) mt PyProof.Rows.boot_tuple (pa_cons (pe_lc (own := [("age", 11), ("other", 12)]) (g := gPair K 11 12) (tt := tYes) rfl sc29.nd (KA.pi_zipM (by rfl) mz (pa_cons (pv 5) (pa_cons (pv 9) pa_nil))) (blkOk_by (N := ["way", "standing", "event", "best", "begun", "ages", "gap", "kind", "steps", "fresh", "number", "age", "other"]) (sc := defScope (topS 29)) (by decide +kernel))
            (fun _ _ _ _ _ => pg_tup rfl (pgs_cons (pg_name (i := 11) sc29.nd rfl (.inl rfl)) (pgs_cons (pg_name (i := 12) sc29.nd rfl (.inl rfl)) pgs_nil))) (fun _ _ _ _ _ => pts_nil) (fun _ _ _ _ _ => pe_pr pL (hr.mono (by decide)) (by rfl) (pa_cons (pv 11) (pa_cons (pv 12) pa_nil)))) pa_nil))))
        (pss_one (ps_if (PW.pt (pw_or (pt_cmpR op_ne (pe_ix ix_tup (pv 0) pe_int (fun _ _ => rfl)) (pe_cs c2 (by rfl)) (nomark _)) (pw_or1 (pt_cmpR (op_neD hr.units) (pv 8) (pe_lst pa_nil) (nomark _)))))
          (pss_one (ps_set (i := 5) sc29.nd rfl (.inl rfl) (pe_callTy call_tup (by rfl) mt PyProof.Rows.boot_tuple (pa_cons (pv 9) pa_nil)))) pss_nil)))
      (pss_one (ps_ret (pe_tup (pa_cons (pv 3) (pa_cons (pe_or (pv 4) (pe_one (pe_cmpR op_in_seq pe_int (pv 8) (by rfl)))) (pa_cons (pv 5) pa_nil)))))))))))), fun as a h => ?_⟩
    obtain ⟨W, x, e, rfl, ok, hx, rfl⟩ := h
    obtain ⟨b0, g0, ag0⟩ := x
    obtain ⟨gp, kd⟩ := e
    have few := ok.few
    have hx : ag0.length = W.steps.length := hx
    have lg := grown_len ag0 gp W.wide
    have li := idx_len W.steps kd
    refine dr_unp3 (d1 := .int b0) (d2 := .bool g0) (d3 := asD ag0) (de_var rfl) ?_
    refine dr_unp2 (d1 := .int gp) (d2 := .int kd) (de_var rfl) ?_
    refine dr_unpA2 (a1 := .im (asD (MW.grown ag0 gp W.wide))) (a2 := .ls (((idx W.steps kd).map fun (j : Nat) => (j : Int) + 1).map .int))
      (dea_cons (de_call (R := RGrown) (dea_cons (de_var (a := .im (asD ag0)) rfl) (dea_cons (de_var (a := .im (.int gp)) rfl) (dea_cons (de_ixT (j := 3) (de_var (a := .im (wyD W)) rfl) de_int rfl) dea_nil))) ⟨ag0, gp, W.wide, rfl, by omega, rfl⟩)
        (dea_cons (den_call (R := RIn) (dea_cons (de_var (a := .im (wyD W)) rfl) (dea_cons (de_var (a := .im (.int kd)) rfl) dea_nil)) ⟨W, kd, rfl, ok, (stp_ints _).symm⟩).de dea_nil)) ?_
    show Dr _ [some (.im (wyD W)), some (.im (stdD (b0, g0, ag0))), some (.im (evD (gp, kd))), some (.im (.int b0)), some (.im (.bool g0)), some (.im (asD (MW.grown ag0 gp W.wide))), some (.im (.int gp)), some (.im (.int kd)), some (.ls (((idx W.steps kd).map fun (j : Nat) => (j : Int) + 1).map .int)), none, none, none, none] _
    have hw : ∀ {K' : PySem.W.Frag} {sl' : SL} {c : Str}, sl'[0]? = some (some (.im (wyD W))) → Dt (tTest (tOp rEq (tOp (rIxT K') (tVar 0) (tC (.int 1))) (tC (.str c)))) sl' (decide (W.how.s = c)) := fun e => dt_test (de_eqS (de_ixT (j := 1) (de_var e) de_int rfl) de_str)
    have hor : ∀ {K' : PySem.W.Frag} {sl' : SL}, sl'[4]? = some (some (.im (.bool g0))) → sl'[8]? = some (some (.ls (((idx W.steps kd).map fun (j : Nat) => (j : Int) + 1).map .int))) → De (tOrV (tVar 4) (tOp (rIn K' false) (tC (.int 1)) (tVar 8))) sl' (.im (.bool (g0 || decide (0 ∈ idx W.steps kd)))) := fun e4 e8 =>
      (de_orV (de_var e4) fun _ => de_inLI (k := 1) de_int (de_var e8)).is (by rw [decide_eq_decide.mpr mem_stp1])
    refine dr_if (b := decide (W.how = .any)) ((hw rfl).is (decide_eq_decide.mpr how_any)) (fun z => ?_) (fun z => dr_next ?_)
    · have z : W.how = .any := of_decide_eq_true z
      unfold behind
      simp only [if_pos z]
      refine dr_assoc (dr_asg (a1 := .im (asD ((MW.grown ag0 gp W.wide).zipIdx.map fun p => if p.2 ∈ idx W.steps kd then some 0 else p.1))) (de_tupOf (den_lcX (MW.grown ag0 gp W.wide).zipIdx (fun p => .tuple [.int (p.2 : Int), oD p.1]) (fun p => oD (if p.2 ∈ idx W.steps kd then some 0 else p.1)) (enD_zipIdx oD _ 0) (by rw [List.map_map]; rfl)
        (di_enumT (de_var (a := .im (asD (MW.grown ag0 gp W.wide))) rfl)) (tg_pair (by simp) (by simp)) (by simp; omega) fun p hp => ⟨_, ⟨_, _, rfl, rfl⟩, ?_⟩).de) (dr_assoc (dr_retS ?_)))
      · refine de_if (x := decide (p.2 ∈ idx W.steps kd)) ((dt_test (de_inLI (k := (p.2 : Int) + 1) (de_add (de_var rfl) de_int) (de_var rfl))).is (decide_eq_decide.mpr mem_stp)) (fun q => ?_) (fun q => ?_)
        · rw [if_pos (of_decide_eq_true q)]
          exact de_int
        · rw [if_neg (of_decide_eq_false q)]
          exact de_var rfl
      · refine de_tup (ds := [.int _, .bool _, .tuple _]) (dea_cons (de_max2 (de_var rfl) ((de_lenL (ds := (((MW.grown ag0 gp W.wide).zipIdx.map fun p => if p.2 ∈ idx W.steps kd then some 0 else p.1).filter (·.isSome)).map oD) (den_lcF _ oD (fun o => if o.isSome = true then some o else none) oD rfl (by rw [filterMap_if (fun o : Option Int => o.isSome) (fun o => o)]; simp) (di_tup (de_var (a := .im (asD _)) rfl)) (tg_name (by simp)) (by simp; omega)
            fun o ho => ⟨_, rfl, _, dt_B (de_notN (de_var rfl)), fun q => ⟨o, ?_, de_var rfl⟩, fun q => ?_⟩).de).is (by rw [List.length_map]))) (dea_cons (hor rfl rfl) (dea_cons (de_var rfl) dea_nil))) (by simp)
        · rw [isN_o] at q
          rw [if_pos (by cases o <;> simp_all)]
        · rw [isN_o] at q
          rw [if_neg (by cases o <;> simp_all)]
    · have z : W.how ≠ .any := of_decide_eq_false z
      unfold behind
      simp only [if_neg z]
      have lc := came_len W g0 (MW.grown ag0 gp W.wide) kd
      refine dr_asg (a1 := .ls ((MW.came W g0 (MW.grown ag0 gp W.wide) kd).map oD)) (den_call (R := RCame) (dea_cons (de_var (a := .im (wyD W)) rfl) (dea_cons (de_var (a := .im (.bool g0)) rfl) (dea_cons (de_var (a := .im (asD (MW.grown ag0 gp W.wide))) rfl) (dea_cons (de_var (a := .im (.int kd)) rfl) dea_nil)))) ⟨W, g0, _, kd, rfl, ok, by omega, rfl⟩).de ?_
      generalize hfr : MW.came W g0 (MW.grown ag0 gp W.wide) kd = fr at lc ⊢
      generalize hgr : MW.grown ag0 gp W.wide = gr at lg ⊢
      show Dr _ [some (.im (wyD W)), some (.im (stdD (b0, g0, ag0))), some (.im (evD (gp, kd))), some (.im (.int b0)), some (.im (.bool g0)), some (.im (asD gr)), some (.im (.int gp)), some (.im (.int kd)), some (.ls (((idx W.steps kd).map fun (j : Nat) => (j : Int) + 1).map .int)), some (.ls (fr.map oD)), none, none, none] _
      have hs : (somes fr).length ≤ 3 := Nat.le_trans (somes_len fr) (by omega)
      refine dr_asg (de_maxL (ns := b0 :: (somes fr).map fun (j : Nat) => (j : Int) + 1) (den_cat (ds := [.int b0]) (es := (somes fr).map stpD) (de_lst (dea_cons (de_var rfl) dea_nil) (by simp)) (den_lcF fr.zipIdx (fun p => .tuple [.int (p.2 : Int), oD p.1]) (fun p => if p.1.isSome = true then some p.2 else none) stpD (enD_zipIdx oD _ 0) rfl
        (di_enumL (de_var (a := .ls (fr.map oD)) rfl)) (tg_pair (by simp) (by simp)) (by simp; omega) fun p hp => ⟨_, ⟨_, _, rfl, rfl⟩, _, dt_B (de_notN (de_var rfl)), fun q => ⟨p.2, ?_, de_add (de_var rfl) de_int⟩, fun q => ?_⟩).de (by simp; omega) |>.de |>.is (by rw [List.map_cons, ← stp_ints]; rfl)) (by simp)) ?_
      · rw [isN_o] at q
        rw [if_pos (by cases h : p.1 <;> simp_all)]
      · rw [isN_o] at q
        rw [if_neg (by cases h : p.1 <;> simp_all)]
      show Dr _ [some (.im (wyD W)), some (.im (stdD (b0, g0, ag0))), some (.im (evD (gp, kd))), some (.im (.int (maxI (b0 :: (somes fr).map fun (j : Nat) => (j : Int) + 1)))), some (.im (.bool g0)), some (.im (asD gr)), some (.im (.int gp)), some (.im (.int kd)), some (.ls (((idx W.steps kd).map fun (j : Nat) => (j : Int) + 1).map .int)), some (.ls (fr.map oD)), none, none, none] _
      refine dr_if (b := decide (W.how = .loose)) ((hw rfl).is (decide_eq_decide.mpr (by cases W.how <;> simp [How.s] <;> decide))) (fun q => ?_) (fun q => ?_)
      · rw [if_pos (of_decide_eq_true q)]
        refine dr_assoc (dr_asg (a1 := .im (asD (List.zipWith MW.lesser gr fr))) (de_tupOf (den_lcX (gr.zip fr) (fun p => .tuple [oD p.1, oD p.2]) (fun p => oD (MW.lesser p.1 p.2)) (zipD_zip oD oD gr fr) (zip_less gr fr)
          (di_zipM (de_var (a := .im (asD gr)) rfl) (de_var (a := .ls (fr.map oD)) rfl)) (tg_pair (by simp) (by simp)) (by simp; omega) fun p hp => ⟨_, ⟨_, _, rfl, rfl⟩, de_call (R := RLess) (dea_cons (de_var (a := .im (oD p.1)) rfl) (dea_cons (de_var (a := .im (oD p.2)) rfl) dea_nil)) ⟨p.1, p.2, rfl, rfl⟩⟩).de) (dr_next (dr_ret ?_)))
        exact de_tup (ds := [.int _, .bool _, .tuple _]) (dea_cons (de_var rfl) (dea_cons (hor rfl rfl) (dea_cons (de_var rfl) dea_nil))) (by simp)
      · rw [if_neg (of_decide_eq_false q)]
        have ht := dt_or (x := decide (W.how ≠ .among)) (y := decide (idx W.steps kd ≠ [])) (tt := tTest (tOp rNe (tOp (rIxT K) (tVar 0) (tC (.int 1))) (tC (.str "among")))) (tu := tTest (tOp (rNeD K) (tVar 8) (tLst tNil)))
          (sl := [some (.im (wyD W)), some (.im (stdD (b0, g0, ag0))), some (.im (evD (gp, kd))), some (.im (.int (maxI (b0 :: (somes fr).map fun (j : Nat) => (j : Int) + 1)))), some (.im (.bool g0)), some (.im (asD gr)), some (.im (.int gp)), some (.im (.int kd)), some (.ls (((idx W.steps kd).map fun (j : Nat) => (j : Int) + 1).map .int)), some (.ls (fr.map oD)), none, none, none])
          ((dt_test (de_neS (de_ixT (j := 1) (de_var (a := .im (wyD W)) rfl) de_int rfl) de_str)).is (by cases W.how <;> simp [How.s] <;> decide))
          (fun _ => (dt_test (de_neL (es := []) (de_var rfl) (de_lst dea_nil (by simp)) (shaped_ints _) (by decide))).is (eqv_nil _))
        refine dr_assoc (dr_if ht (fun r => ?_) (fun r => ?_))
        · rw [if_pos (by
            rw [Bool.or_eq_true] at r
            rcases r with r | r
            · exact .inl (of_decide_eq_true r)
            · exact .inr (of_decide_eq_true r))]
          refine dr_assoc (dr_asg (a1 := .im (asD fr)) (de_tupOf (de_var rfl)) (dr_next (dr_next (dr_ret ?_))))
          exact de_tup (ds := [.int _, .bool _, .tuple _]) (dea_cons (de_var rfl) (dea_cons (hor rfl rfl) (dea_cons (de_var rfl) dea_nil))) (by simp)
        · rw [if_neg (by
            rw [Bool.or_eq_false_iff] at r
            rintro (h | h)
            · exact of_decide_eq_false r.1 h
            · exact of_decide_eq_false r.2 h)]
          refine dr_next (dr_next (dr_ret ?_))
          exact de_tup (ds := [.int _, .bool _, .tuple _]) (dea_cons (de_var rfl) (dea_cons (hor rfl rfl) (dea_cons (de_var rfl) dea_nil))) (by simp)
end
end WZ
namespace WZ
open PySem PySem.Spec PyProof.Rows L2 KB KC KD KV MW
open Evl (Ex EvT)
open StX (tStar)
section
variable {P : Program} {w : World} {K : PySem.W.Frag} {mg : Str → Option Value} {base : Heap}
/-! ### letters_to -/
def RLetters (as : List Da) (ds : List PyData) : Prop := ∃ v : Int, as = [.im (.int v)] ∧ 0 ≤ v ∧ v ≤ 2 ∧ ds = (events v).map evD
theorem events_D (v : Int) : (events v).map evD = (List.range (v + 2).toNat).flatMap fun (g : Nat) => (List.range 5).map fun (k : Nat) => PyData.tuple [.int (g : Int), .int (k : Int)] := by
  unfold events
  rw [List.map_flatMap]
  congr 1
theorem flat5_len {α : Type} (f : Nat → Nat → α) (n : Nat) : ((List.range n).flatMap fun g => (List.range 5).map (f g)).length = n * 5 := by
  induction n with
  | zero => rfl
  | succ n ih =>
    rw [List.range_succ (n := n), List.flatMap_append, List.length_append, ih]
    simp
    omega
theorem pr_letters_to (D : DefAt K mg "letters_to" 30 ["window"]) (mr : mg "range" = none) (ck : CInt mg "MOST_KIND" 4) : Prom P w K mg base 1 "letters_to" ["window"] (spN RLetters) :=
  D.prom fun f fd F => pure_okN F sc30 (fun as a h => by obtain ⟨v, rfl, _⟩ := h; rfl) fun cdv A outer s H E hr =>
    ⟨_, pss_one (ps_ret (pe_lc2 (own := [("gap", 1), ("kind", 2)]) (vs1 := [2]) (g := gName 1) (g1 := gName 2) (tt := tYes) (tt1 := tYes) rfl sc30.nd (pi_range1 (by rfl) mr (pa_cons (pe_op op_add (pv 0) pe_int) pa_nil)) (blkOk_by (N := ["window", "gap", "kind"]) (sc := defScope (topS 30)) (by decide +kernel)) (by decide)
            (fun _ _ _ _ _ => pg_name (i := 1) sc30.nd rfl (.inl rfl)) (fun _ _ _ _ _ => pts_nil) (fun _ _ _ _ _ => pi_range1 (by rfl) mr (pa_cons (pe_op op_add (pe_ci ck (by rfl)) pe_int) pa_nil)) (fun _ _ _ _ _ => pg_name (i := 2) sc30.nd rfl (.inl rfl)) (fun _ _ _ _ _ => pts_nil)
            (fun _ _ _ _ _ => pe_tup (pa_cons (pv 1) (pa_cons (pv 2) pa_nil))))), fun as a h => by
      obtain ⟨v, rfl, v0, v2, rfl⟩ := h
      rw [events_D]
      refine drn_ret (den_lc2 (src := List.range (v + 2).toNat) (enc := fun (g : Nat) => PyData.int (g : Int)) 5 (fun g k => PyData.tuple [.int (g : Int), .int (k : Int)]) (di_rng (de_add (de_var rfl) de_int) (by omega) (by omega)) (by decide) (fun g hg => ⟨_, rfl, (de_add de_int de_int).is rfl, fun k hk => de_tup (ds := [.int (g : Int), .int (k : Int)]) (dea_cons (de_var rfl) (dea_cons (de_var rfl) dea_nil)) (by simp)⟩) (by rw [flat5_len]; omega) (by omega))⟩
/-! ### _law_is_of -/
theorem pr_is_of (D : DefAt K mg "_law_is_of" 40 ["_law_way_here", "_law_kind"]) (mr : mg "range" = none) (ml : mg "len" = none) : Prom P w K mg base 1 "_law_is_of" ["_law_way_here", "_law_kind"] (spN RIn) :=
  D.prom fun f fd F => pure_okN F sc40 (fun as a h => by obtain ⟨W, k, rfl, _⟩ := h; rfl) fun cdv A outer s H E hr =>
    ⟨_, pss_one (ps_ret (pe_lc (own := [("_law_number", 2)]) (g := gName 2) (tt := tTest (tOp (rIn K false) (tVar 1) (tOp (rIxT K) (tOp (rIxT K) (tVar 0) (tC (.int 0))) (tVar 2)))) rfl sc40.nd (pi_range1 (by rfl) mr (pa_cons (pe_callB call_len_seq (by rfl) ml PySem.boot_len (pa_cons (pe_ix ix_tup (pv 0) pe_int (fun _ _ => rfl)) pa_nil)) pa_nil)) (blkOk_by (N := ["_law_way_here", "_law_kind", "_law_number"]) (sc := defScope (topS 40)) (by decide +kernel))
            (fun _ _ _ _ _ => pg_name (i := 2) sc40.nd rfl (.inl rfl)) (fun _ _ _ _ _ => pts_one (pt_cmpR op_in_seq (pv 1) (pe_ix ix_tup (pe_ix ix_tup (pv 0) pe_int (fun _ _ => rfl)) (pv 2) (fun _ _ => rfl)) (by rfl))) (fun _ _ _ _ _ => pe_op op_add (pv 2) pe_int))), fun as a h => by
      obtain ⟨W, k, rfl, ok, rfl⟩ := h
      have few := ok.few
      refine drn_ret (den_lcF (List.range W.steps.length) (fun (i : Nat) => PyData.int (i : Int)) (fun j => if decide (k ∈ W.steps.getD j []) = true then some j else none) stpD rfl (by rw [filterMap_if (fun j => decide (k ∈ W.steps.getD j [])) (fun j => j)]; unfold idx; simp)
        (di_rng (n := (W.steps.length : Int)) ((de_lenT (ds := W.steps.map kD) (de_ixT (j := 0) (de_var (a := .im (wyD W)) rfl) de_int rfl)).is (by rw [List.length_map])) (by omega) (by omega)) (tg_name (by simp)) (by simp; omega) fun j hj => ?_)
      have hj : j < W.steps.length := List.mem_range.mp hj
      refine ⟨_, rfl, _, dt_test (de_inTI (k := k) (ks := W.steps.getD j []) (de_var rfl) (de_ixT (ds := W.steps.map kD) (j := j) (de_ixT (j := 0) (de_var (a := .im (wyD W)) rfl) de_int rfl) (de_var rfl) ?_)), fun z => ⟨j, by rw [if_pos z], de_add (de_var rfl) de_int⟩, fun z => by rw [if_neg (by rw [z]; exact Bool.false_ne_true)]⟩
      rw [List.getElem?_map, List.getElem?_eq_getElem hj, List.getD_eq_getElem?_getD, List.getElem?_eq_getElem hj]
      rfl⟩
/-! ### _law_first -/
def RFirst0 (as : List Da) (a : Da) : Prop := ∃ W : Wy, as = [.im (wyD W)] ∧ a = .im (kpD (0, false, []))
theorem pr_first0 (D : DefAt K mg "_law_first" 41 ["_law_way_here"]) : Prom P w K mg base 1 "_law_first" ["_law_way_here"] (spR RFirst0) :=
  D.prom fun f fd F => pure_ok F sc41 (fun as a h => by obtain ⟨W, rfl, _⟩ := h; rfl) fun cdv A outer s H E hr =>
    ⟨_, pss_one (ps_ret (pe_tup (pa_cons pe_int (pa_cons pe_bl (pa_cons (pe_tup pa_nil) pa_nil))))), fun as a h => by
      obtain ⟨W, rfl, rfl⟩ := h
      exact dr_ret (de_tup (ds := [.int 0, .bool false, .tuple []]) (dea_cons de_int (dea_cons de_bl (dea_cons (de_tup (ds := []) dea_nil (by simp)) dea_nil))) (by simp))⟩
end
end WZ
namespace KV
open PySem PySem.Spec PyProof.Rows L2 KB KC KD
open Evl (Ex EvT)
section
variable {ta te tb : TE} {sl sl' : SL} {K : PySem.W.Frag} {a a1 a2 : Da} {t u : TS} {i j : Nat}
/-- a statement that leaves the slots so -/
def Ds (t : TS) (sl sl' : SL) : Prop := ∀ σ H, Sl H σ sl → ∀ D : Ends, (∀ σ2 H2, Ex H H2 → Sl H2 σ2 sl' → D.nx σ2 H2) → t D σ H
theorem ds_asg (h : De te sl a1) : Ds (tAsg te (gName i)) sl (sl.set i (some a1)) := fun σ H hs D q => h σ H hs _ fun v H1 e1 q1 => q _ H1 e1 (Sl.set q1 i (hs.to e1))
theorem ds_one (h : Ds t sl sl') : Ds (tSeq t tNext) sl sl' := fun σ H hs D q => h σ H hs _ q
theorem ds_weak (h : Ds t sl sl') (i : Nat) : Ds t sl (sl'.set i none) := fun σ H hs D q => h σ H hs D fun σ2 H2 e s2 => q σ2 H2 e (Sl.weak i s2)
theorem dr_forRng {n : Int} {tb : TS} {st : Nat → SL} (he : De te sl (.im (.int n))) (h0 : 0 ≤ n) (h1 : n ≤ 100000) (hst : st 0 = sl) (body : ∀ i : Nat, i < n.toNat → Ds tb ((st i).set j (some (.im (.int (i : Int))))) (st (i + 1))) (after : Dr u (st n.toNat) a) :
    Dr (tSeq (tFor (iRng1 (tCons te tNil)) (gName j) tb) u) sl a := fun σ H hs Q nx q => by
  refine he σ H hs _ fun v H1 e1 q1 => ?_
  obtain rfl := Im.int_eq q1
  refine ⟨n, rfl, by omega, by omega, fun i m σ' H' => m = n.toNat - i ∧ i ≤ n.toNat ∧ Ex H H' ∧ Sl H' σ' (st i), ⟨_, rfl, Nat.zero_le _, e1, by rw [hst]; exact hs.to e1⟩, ?_⟩
  rintro i m σ' H' ⟨rfl, hle, e2, s2⟩
  by_cases hi : i < n.toNat
  · refine .inr ⟨hi, fun σ' H' => Ex H H' ∧ Sl H' σ' (st (i + 1)), fun σ' H' ⟨k1, k2⟩ => ⟨n.toNat - (i + 1), by omega, rfl, hi, k1, k2⟩, fun x H3 y => ?_⟩
    obtain ⟨rfl, rfl⟩ := y
    rw [Int.zero_add]
    exact body i hi _ _ (Sl.set (a := .im (.int (i : Int))) (.int _) j s2) _ fun σ4 H4 e4 s4 => ⟨e2.trans e4, s4⟩
  · have : i = n.toNat := by omega
    subst this
    exact .inl ⟨Nat.le_refl _, after σ' H' s2 Q nx fun v H2 e3 q2 => q v H2 (e2.trans e3) q2⟩
end
end KV
namespace WZ
open PySem PySem.Spec PyProof.Rows L2 KB KC KD KV MW
open Evl (Ex EvT)
open StX (tStar)
section
variable {P : Program} {w : World} {K : PySem.W.Frag} {mg : Str → Option Value} {base : Heap}
/-! ### _law_events -/
def REvents (as : List Da) (a : Da) : Prop := ∃ v : Int, as = [.im (.int v)] ∧ 0 ≤ v ∧ v ≤ 2 ∧ a = .ls ((events v).map evD)
def grp (g : Nat) : List PyData := (List.range 5).map fun (k : Nat) => PyData.tuple [.int (g : Int), .int (k : Int)]
theorem pr_events (D : DefAt K mg "_law_events" 43 ["_law_window"]) (mr : mg "range" = none) : Prom P w K mg base 1 "_law_events" ["_law_window"] (spR REvents) :=
  D.prom fun f fd F => pure_ok F sc43 (fun as a h => by obtain ⟨v, rfl, _⟩ := h; rfl) fun cdv A outer s H E hr =>
    ⟨_, pss_cons (ps_set (i := 1) sc43.nd rfl (.inl rfl) (pe_lst pa_nil))
      (pss_cons (ps_for PassesOwn.never rfl (pi_range1 (by rfl) mr (pa_cons (pe_op op_add (pv 0) pe_int) pa_nil)) (pg_name (i := 2) sc43.nd rfl (.inr rfl))
        (pss_one (ps_set (i := 1) sc43.nd rfl (.inl rfl) (pe_op op_cat (pv 1) (pe_lc (own := [("_law_kind", 3)]) (g := gName 3) (tt := tYes) rfl sc43.nd (pi_range1 (by rfl) mr (pa_cons pe_int pa_nil)) (blkOk_by (N := ["_law_window", "_law_found", "_law_gap", "_law_kind"]) (sc := defScope (topS 43)) (by decide +kernel))
            (fun _ _ _ _ _ => pg_name (i := 3) sc43.nd rfl (.inl rfl)) (fun _ _ _ _ _ => pts_nil) (fun _ _ _ _ _ => pe_tup (pa_cons (pv 2) (pa_cons (pv 3) pa_nil))))))))
      (pss_one (ps_ret (pv 1)))), fun as a h => by
      obtain ⟨v, rfl, v0, v2, rfl⟩ := h
      rw [events_D]
      refine dr_asg (de_lst (ds := []) dea_nil (by simp)) ?_
      refine dr_forRng (n := v + 2) (st := fun i => [some (.im (.int v)), some (.ls ((List.range i).flatMap grp)), none, none]) (de_add (de_var rfl) de_int) (by omega) (by omega) rfl (fun i hi => ?_) (dr_ret (de_var rfl))
      have := ds_weak (ds_asg (i := 1) (te := tOp rCat (tVar 1) (tLc (iRng1 (tCons (tC (.int 5)) tNil)) (gName 3) tYes (tTup (tCons (tVar 2) (tCons (tVar 3) tNil))) [3])) (sl := [some (.im (.int v)), some (.ls ((List.range i).flatMap grp)), some (.im (.int (i : Int))), none])
        (den_cat (de_var rfl) (den_lcX (List.range 5) (fun (k : Nat) => PyData.int (k : Int)) (fun (k : Nat) => PyData.tuple [.int (i : Int), .int (k : Int)]) rfl (ds := grp i) rfl (di_rng (n := 5) de_int (by omega) (by omega)) (tg_name (by simp)) (by simp) fun k hk =>
          ⟨_, rfl, de_tup (ds := [.int (i : Int), .int (k : Int)]) (dea_cons (de_var rfl) (dea_cons (de_var rfl) dea_nil)) (by simp)⟩).de (by
            have : ((List.range i).flatMap grp).length = i * 5 := flat5_len _ _
            rw [this]
            have : (grp i).length = 5 := rfl
            omega)).de) 2
      simp only [List.range_succ (n := i), List.flatMap_append]
      simpa using this⟩
end
end WZ
namespace MW
open PySem PySem.Spec PyProof.Rows L2 KB KC KD KV
theorem strict_ext {α : Type} {f : α → Int} : ∀ {l m : List α}, l.Pairwise (fun a b => f a < f b) → m.Pairwise (fun a b => f a < f b) → (∀ x, x ∈ l ↔ x ∈ m) → l = m
  | [], [], _, _, _ => rfl
  | [], b :: m, _, _, h => by cases (h b).mpr (List.mem_cons_self ..)
  | a :: l, [], _, _, h => by cases (h a).mp (List.mem_cons_self ..)
  | a :: l, b :: m, h1, h2, h => by
    rw [List.pairwise_cons] at h1 h2
    have e : a = b := by
      rcases List.mem_cons.mp ((h a).mp (List.mem_cons_self ..)) with e | e
      · exact e
      · rcases List.mem_cons.mp ((h b).mpr (List.mem_cons_self ..)) with q | q
        · exact q.symm
        · have := h2.1 a e
          have := h1.1 b q
          omega
    subst e
    have : l = m := strict_ext h1.2 h2.2 fun x => by
      constructor
      · intro hx
        rcases List.mem_cons.mp ((h x).mp (List.mem_cons_of_mem _ hx)) with e | e
        · subst e
          have := h1.1 x hx
          omega
        · exact e
      · intro hx
        rcases List.mem_cons.mp ((h x).mpr (List.mem_cons_of_mem _ hx)) with e | e
        · subst e
          have := h2.1 x hx
          omega
        · exact e
    rw [this]
def Bp (p : Int × Int) : Prop := 0 ≤ p.1 ∧ p.1 < 100 ∧ 0 ≤ p.2 ∧ p.2 < 100
theorem cod_val (p : Int × Int) : cod p = p.1 * 100 + p.2 := by
  show p.1 * 100 ^ 1 + (p.2 * 100 ^ 0 + 0) = _
  rw [Int.pow_zero, Int.pow_succ, Int.pow_zero]
  omega
theorem cod_inj {p q : Int × Int} (h : Bp p) (h2 : Bp q) (e : cod p = cod q) : p = q := by
  rw [cod_val, cod_val] at e
  obtain ⟨a, b⟩ := p
  obtain ⟨c, d⟩ := q
  obtain ⟨g1, g2, g3, g4⟩ := h2
  obtain ⟨h1, h2, h3, h4⟩ := h
  simp only at *
  have : a = c := by omega
  have : b = d := by omega
  simp [*]
theorem mem_ins {x p : Int × Int} : ∀ {l : List (Int × Int)}, x ∈ ins p l ↔ x = p ∨ x ∈ l
  | [] => by simp [ins]
  | q :: r => by
    unfold ins
    split
    · simp
    · split
      · rename_i h
        subst h
        simp
      · rw [List.mem_cons, mem_ins (l := r), List.mem_cons]
        constructor
        · rintro (h | h | h)
          · exact .inr (.inl h)
          · exact .inl h
          · exact .inr (.inr h)
        · rintro (h | h | h)
          · exact .inr (.inl h)
          · exact .inl h
          · exact .inr (.inr h)
theorem mem_sortU {x : Int × Int} : ∀ {l : List (Int × Int)}, x ∈ sortU l ↔ x ∈ l
  | [] => Iff.rfl
  | q :: r => by
    show x ∈ ins q (sortU r) ↔ _
    rw [mem_ins, mem_sortU (l := r), List.mem_cons]
theorem ins_strict {p : Int × Int} (hp : Bp p) : ∀ {l : List (Int × Int)}, (∀ q ∈ l, Bp q) → l.Pairwise (fun a b => cod a < cod b) → (ins p l).Pairwise (fun a b => cod a < cod b)
  | [], _, _ => by simp [ins]
  | q :: r, hb, h => by
    have h' := List.pairwise_cons.mp h
    unfold ins
    split
    · rename_i c
      refine List.pairwise_cons.mpr ⟨fun x hx => ?_, h⟩
      rcases List.mem_cons.mp hx with rfl | hx
      · exact c
      · have := h'.1 x hx
        omega
    · split
      · exact h
      · rename_i c n
        refine List.pairwise_cons.mpr ⟨fun x hx => ?_, ins_strict hp (fun q hq => hb q (List.mem_cons_of_mem _ hq)) h'.2⟩
        rcases mem_ins.mp hx with rfl | hx
        · have : cod x ≠ cod q := fun z => n (cod_inj hp (hb q (List.mem_cons_self ..)) z)
          omega
        · exact h'.1 x hx
theorem sortU_strict : ∀ {l : List (Int × Int)}, (∀ q ∈ l, Bp q) → (sortU l).Pairwise (fun a b => cod a < cod b)
  | [], _ => .nil
  | q :: r, h => ins_strict (h q (List.mem_cons_self ..)) (fun x hx => h x (List.mem_cons_of_mem _ (mem_sortU.mp hx))) (sortU_strict fun x hx => h x (List.mem_cons_of_mem _ hx))
theorem nodup_of_strict {α : Type} {f : α → Int} {l : List α} (h : l.Pairwise (fun a b => f a < f b)) : l.Nodup := h.imp fun {a b} q e => by
  rw [e] at q
  omega
end MW
namespace KV
open PySem PySem.Spec PyProof.Rows L2 KB KC KD MW
open Evl (Ex EvT)
def prL (p : Int × Int) : List Int := [p.1, p.2]
/-- pairs as objects -/
theorem ima_pairs {H : Hp} : ∀ {l : List (Int × Int)} {vs : List V}, ImA H vs (l.map evD) → ∃ ks : List (Addr × (Int × Int)), vs = ks.map (fun p => V.ref p.1) ∧ ks.map (·.2) = l ∧ ∀ p ∈ ks, H p.1 = some (.tup [.int p.2.1, .int p.2.2])
  | [], _, h => by
    cases h
    exact ⟨[], rfl, rfl, fun p hp => by cases hp⟩
  | q :: r, _, h => by
    cases h with
    | cons h1 h2 =>
      obtain ⟨ks, rfl, e, hk⟩ := ima_pairs h2
      obtain ⟨a, xs, rfl, g1, g2⟩ := Im.ref h1
      obtain ⟨v1, us, rfl, r1, g3⟩ := g2.cons_eq
      obtain ⟨v2, us, rfl, r2, g4⟩ := g3.cons_eq
      obtain rfl := g4.nil_eq
      obtain rfl := Im.int_eq r1
      obtain rfl := Im.int_eq r2
      refine ⟨(a, q) :: ks, rfl, by rw [List.map_cons, e], fun p hp => ?_⟩
      rcases List.mem_cons.mp hp with rfl | hp
      · exact g1
      · exact hk p hp
theorem prL_inj {p q : Int × Int} (h : prL p = prL q) : p = q := by
  unfold prL at h
  obtain ⟨a, b⟩ := p
  obtain ⟨c, d⟩ := q
  simp only [List.cons.injEq] at h
  rw [h.1, h.2.1]
theorem ima_of_pairs {H : Hp} : ∀ {L : List (Addr × List Int)} {l : List (Int × Int)}, L.map (·.2) = l.map prL → (∀ p ∈ L, ∃ q : Int × Int, p.2 = prL q ∧ H p.1 = some (.tup [.int q.1, .int q.2])) → ImA H (L.map fun q => V.ref q.1) (l.map evD)
  | [], [], _, _ => .nil
  | [], q :: r, h, _ => by cases h
  | p :: L, [], h, _ => by cases h
  | p :: L, q :: r, h, hk => by
    rw [List.map_cons, List.map_cons, List.cons.injEq] at h
    obtain ⟨q', e1, e2⟩ := hk p (List.mem_cons_self ..)
    have : q' = q := prL_inj (e1.symm.trans h.1)
    subst this
    exact .cons (.tup e2 (.cons (.int _) (.cons (.int _) .nil))) (ima_of_pairs h.2 fun x hx => hk x (List.mem_cons_of_mem _ hx))
section
variable {te : TE} {sl : SL} {K : PySem.W.Frag} {P : Program} {w : World}
/-- sorted(set(l)), l pairs -/
theorem de_sortSet {l : List (Int × Int)} (h : De te sl (.ls (l.map evD))) (hl : l.length < 64) (hb : ∀ p ∈ l, Bp p) (hne : l ≠ [] ∨ True) : De (tCB (rSortedT K P w) (tCons (tCB (rSetOfT K P w) (tCons te tNil)) tNil)) sl (.ls ((sortU l).map evD)) := fun σ H hs Q q => h σ H hs _ fun v H1 e1 q1 => by
  obtain ⟨p, xs, rfl, h1, h2⟩ := q1
  obtain ⟨ks, rfl, ek, hk⟩ := ima_pairs h2
  refine ⟨p, ks.map fun x => (x.1, prL x.2), rfl, by rw [List.map_map]; exact SqL.of h1, fun x hx => ?_, by rw [List.length_map, ← List.length_map (f := (·.2)), ek]; exact hl, fun a L ha hL1 hL2 => ?_⟩
  · obtain ⟨y, hy, rfl⟩ := List.mem_map.mp hx
    exact SqT.of (hk y hy)
  · have eA := Evl.Ex.new (o := SetTO P w a L) ha
    have fact : ∀ x ∈ L, ∃ z : Addr × (Int × Int), z ∈ ks ∧ x = (z.1, prL z.2) := fun x hx => by
      obtain ⟨y, hy, rfl⟩ := List.mem_map.mp (hL1 x hx)
      exact ⟨y, hy, rfl⟩
    have inl : ∀ z ∈ ks, z.2 ∈ l := fun z hz => by
      rw [← ek]
      exact List.mem_map.mpr ⟨z, hz, rfl⟩
    have bd : ∀ {z : Int × Int}, Bp z → TS.Bd 100 (prL z) := fun {z} hz m hm => by
      obtain ⟨b1, b2, b3, b4⟩ := hz
      unfold prL at hm
      rcases List.mem_cons.mp hm with rfl | hm
      · exact ⟨b1, b2⟩
      · rw [List.mem_singleton.mp hm]
        exact ⟨b3, b4⟩
    refine ⟨a, L, 2, 100, rfl, upd_same, fun x hx => ?_, by omega, fun x hx => ?_, fun L' p2 hp nd few srt hn => ?_⟩
    · obtain ⟨z, hz, rfl⟩ := fact x hx
      exact SqT.of (eA _ _ (hk z hz))
    · obtain ⟨z, hz, rfl⟩ := fact x hx
      exact ⟨rfl, bd (hb _ (inl z hz))⟩
    · have e2 := Evl.Ex.new (o := .lst (L'.map fun q => V.ref q.1)) hn
      refine q _ _ ((e1.trans eA).trans e2) ⟨p2, _, rfl, upd_same, ima_of_pairs (l := sortU l) ?_ fun x hx => ?_⟩
      · -- the values, in order
        have mk : ∀ x ∈ L', ∃ z : Int × Int, z ∈ l ∧ x.2 = prL z := fun x hx => by
          obtain ⟨z, hz, rfl⟩ := fact x (hp.mem_iff.mp hx)
          exact ⟨z.2, inl z hz, rfl⟩
        refine strict_ext (f := fun ns => TS.code 100 ns) ?_ ?_ fun x => ?_
        · have nd' : (L'.map (·.2)).Pairwise (fun a b => a ≠ b) := nd
          rw [List.pairwise_map] at nd' ⊢
          refine (srt.and nd').imp_of_mem fun {x y} hx hy q => ?_
          obtain ⟨z1, m1, r1⟩ := mk x hx
          obtain ⟨z2, m2, r2⟩ := mk y hy
          have n : TS.code 100 x.2 ≠ TS.code 100 y.2 := fun e => q.2 (by
            rw [r1, r2] at e ⊢
            rw [cod_inj (hb z1 m1) (hb z2 m2) e])
          exact Int.lt_iff_le_and_ne.mpr ⟨q.1, n⟩
        · rw [List.pairwise_map]
          exact sortU_strict hb
        · constructor
          · intro hx
            obtain ⟨y, hy, rfl⟩ := List.mem_map.mp hx
            obtain ⟨z, m, r⟩ := mk y hy
            exact List.mem_map.mpr ⟨z, mem_sortU.mpr m, r.symm⟩
          · intro hx
            obtain ⟨z, hz, rfl⟩ := List.mem_map.mp hx
            have hz := mem_sortU.mp hz
            rw [← ek] at hz
            obtain ⟨y, hy, rfl⟩ := List.mem_map.mp hz
            obtain ⟨u, hu, e⟩ := List.mem_map.mp (hL2 (y.1, prL y.2) (List.mem_map.mpr ⟨y, hy, rfl⟩))
            exact List.mem_map.mpr ⟨u, hp.mem_iff.mpr hu, e⟩
      · obtain ⟨z, hz, rfl⟩ := fact x (hp.mem_iff.mp hx)
        exact ⟨z.2, rfl, e2 _ _ (eA _ _ (hk z hz))⟩
/-- len(set(l)), l ints -/
theorem de_lenSetI {ns : List Int} (h : De te sl (.ls (ns.map .int))) (hl : ns.length ≤ 4000) : De (tCB rLenSet (tCons (tCB (rSetI K) (tCons te tNil)) tNil)) sl (.im (.int (cnt ns : Int))) := fun σ H hs Q q => h σ H hs _ fun v H1 e1 q1 => by
  obtain ⟨p, xs, rfl, h1, h2⟩ := q1
  obtain rfl := ImA.ints_eq h2
  exact ⟨p, ns, rfl, SqL.of h1, hl, fun a S ha hS => ⟨a, S, cnt ns, rfl, upd_same, q _ _ (e1.trans (Evl.Ex.new ha)) (.int _)⟩⟩
end
end KV
namespace KV
open PySem PySem.Spec PyProof.Rows L2 KB KC KD MW
open Evl (Ex EvT)
theorem Sl.know {H : Hp} {v : V} {a : Da} (r : Hs H v a) : ∀ {σ : L2.St} {sl : SL} {m : Nat}, Sl H σ sl → σ[m]? = some (some v) → Sl H σ (sl.set m (some a))
  | _, _, m, .nil, e => by simp at e
  | _, _, 0, .cons _ t, e => by
    rw [List.getElem?_cons_zero] at e
    cases e
    exact .cons ⟨v, rfl, r⟩ t
  | _, _, m + 1, .cons q t, e => .cons q (Sl.know r t (by simpa using e))
/-- x = <new list>; for g in l: body that appends to x; rest -/
theorem dr_forM {K : PySem.W.Frag} {α γ : Type} {te : TE} {sl : SL} {a : Da} {u : TS} {g : TG} {tb : TS} {m j : Nat} {vs : List Nat} {fs : PyData → SL → SL → Prop} {src : List α} {enc : α → PyData} {cur : γ} (encL : γ → List PyData) (Iv : γ → Prop) (f : γ → α → γ)
    (hnew : DeN te sl (encL cur)) (hml : m < sl.length) (hj : (wipeD (sl.set m none) vs)[j]? = some (some (.ls (src.map enc)))) (hm : m ∉ vs) (hg : TgL g vs fs)
    (turn : ∀ a ∈ src, ∃ sl', fs (enc a) (wipeD (sl.set m none) vs) sl' ∧ wipeD sl' vs = wipeD (sl.set m none) vs ∧ ∀ cur, Iv cur → Dm tb m sl' (encL cur) (encL (f cur a))) (hb : ∀ i ≤ src.length, Iv ((src.take i).foldl f cur))
    (hu : Dr u ((wipeD (sl.set m none) vs).set m (some (.ls (encL (src.foldl f cur))))) a) : Dr (tSeq (tAsg te (gName m)) (tSeq (tFor (iList K (tVar j)) g tb) u)) sl a := fun σ H hs Q nx q =>
  hnew σ H hs _ fun p us H1 e1 hp h1 i1 => by
    refine ds_forM (sl := sl.set m none) encL Iv f hj hm hg turn hb (σ.set m (some (.ref p))) H1 p us (Sl.setN m (hs.to (er_new hp e1))) (List.getElem?_set_self (by rw [hs.length]; exact hml)) h1 i1 _ fun σ2 H2 us2 e3 s3 m3 h3 i3 => ?_
    have eH : Ex H H2 := (er_new hp e1).trans (e3.trans er_ex)
    exact hu σ2 H2 (Sl.know (a := .ls _) ⟨p, us2, rfl, h3, i3⟩ (s3.to er_ex) m3) Q nx fun v H3 e4 q4 => q v H3 (eH.trans e4) q4
end KV
namespace WZ
open PySem PySem.Spec PyProof.Rows L2 KB KC KD KV MW
open Evl (Ex EvT)
open StX (tStar)
structure InvK (W : Wy) (y : Kpt) : Prop where
  at_ : ∀ p ∈ y.2.2, 1 ≤ p.1 ∧ p.1 ≤ (W.steps.length : Int) ∧ 0 ≤ p.2 ∧ p.2 ≤ W.wide
  few : y.2.2.length ≤ 9
def RLater (as : List Da) (a : Da) : Prop := ∃ (W : Wy) (y : Kpt) (e : Int × Int), as = [.im (wyD W), .im (kpD y), .im (evD e)] ∧ OkW W ∧ InvK W y ∧ 0 ≤ e.1 ∧ a = .im (kpD (later W y e))
section
variable {P : Program} {w : World} {K : PySem.W.Frag} {mg : Str → Option Value} {base : Heap}
theorem old_facts {W : Wy} {L : List (Int × Int)} {gp : Int} (g0 : 0 ≤ gp) (h : ∀ p ∈ L, 1 ≤ p.1 ∧ p.1 ≤ (W.steps.length : Int) ∧ 0 ≤ p.2 ∧ p.2 ≤ W.wide) :
    ∀ p ∈ (L.filterMap fun p => if decide (p.2 + gp ≤ W.wide) = true then some (p.1, p.2 + gp) else none), 1 ≤ p.1 ∧ p.1 ≤ (W.steps.length : Int) ∧ 0 ≤ p.2 ∧ p.2 ≤ W.wide := fun p hp => by
  obtain ⟨q, hq, e⟩ := List.mem_filterMap.mp hp
  split at e
  · rename_i c
    have c := of_decide_eq_true c
    cases e
    obtain ⟨h1, h2, h3, h4⟩ := h q hq
    exact ⟨h1, h2, by show 0 ≤ q.2 + gp; omega, c⟩
  · cases e
def frF (W : Wy) (st : List Nat) (fr : List (Int × Int)) (p : Int × Int) : List (Int × Int) := if (decide (p.1.toNat ∈ st) && decide (0 ≤ p.1)) = true then fr ++ [(p.1 + 1, if W.each = true then 0 else p.2)] else fr
theorem frF_len (W : Wy) (st : List Nat) : ∀ (l : List (Int × Int)) (f0 : List (Int × Int)), (l.foldl (frF W st) f0).length ≤ f0.length + l.length
  | [], _ => Nat.le_refl _
  | p :: r, f0 => by
    rw [List.foldl_cons]
    have := frF_len W st r (frF W st f0 p)
    have h2 : (frF W st f0 p).length ≤ f0.length + 1 := by
      unfold frF
      split
      · simp
      · omega
    rw [List.length_cons]
    omega
theorem frF_at {W : Wy} {kd : Int} {P : Int × Int → Prop} : ∀ {l : List (Int × Int)} {f0 : List (Int × Int)}, (∀ p ∈ f0, P p) → (∀ p ∈ l, p.1.toNat ∈ idx W.steps kd → 0 ≤ p.1 → P (p.1 + 1, if W.each = true then 0 else p.2)) → ∀ p ∈ l.foldl (frF W (idx W.steps kd)) f0, P p
  | [], _, h, _, p, hp => h p hp
  | q :: r, f0, h, h2, p, hp => by
    refine frF_at (l := r) (fun x hx => ?_) (fun x hx => h2 x (List.mem_cons_of_mem _ hx)) p hp
    unfold frF at hx
    split at hx
    · rename_i c
      rw [Bool.and_eq_true] at c
      rcases List.mem_append.mp hx with hx | hx
      · exact h x hx
      · rw [List.mem_singleton.mp hx]
        exact h2 q (List.mem_cons_self ..) (of_decide_eq_true c.1) (of_decide_eq_true c.2)
    · exact h x hx
theorem mem_stpZ {js : List Nat} {s : Int} : (s + 1 ∈ js.map fun (j : Nat) => (j : Int) + 1) ↔ (decide (s.toNat ∈ js) && decide (0 ≤ s)) = true := by
  rw [Bool.and_eq_true, decide_eq_true_iff, decide_eq_true_iff, List.mem_map]
  constructor
  · rintro ⟨j, hj, e⟩
    have : s.toNat = j := by omega
    exact ⟨this ▸ hj, by omega⟩
  · rintro ⟨h1, h2⟩
    exact ⟨_, h1, by omega⟩
theorem pr_later (D : DefAt K mg "_law_later" 42 ["_law_way_here", "_law_kept", "_law_event"]) (pS : Prom P w K mg base 1 "_law_is_of" ["_law_way_here", "_law_kind"] (spN RIn))
    (mt : mg "tuple" = none) (mm : mg "max" = none) (ml : mg "len" = none) (ms : mg "set" = none) (mo : mg "sorted" = none) :
    Prom P w K mg base 2 "_law_later" ["_law_way_here", "_law_kept", "_law_event"] (spR RLater) :=
  D.prom fun f fd F => pure_ok F sc42 (fun as a h => by obtain ⟨W, x, e, rfl, _⟩ := h; rfl) fun cdv A outer s H E hr => by
    refine ⟨_, pss_cons (ps_asg (pv 1) (pg_tup rfl (pgs_cons (pg_name (i := 3) sc42.nd rfl (.inl rfl)) (pgs_cons (pg_name (i := 4) sc42.nd rfl (.inl rfl)) (pgs_cons (pg_name (i := 5) sc42.nd rfl (.inl rfl)) pgs_nil)))))
      (pss_cons (ps_asg (pv 2) (pg_tup rfl (pgs_cons (pg_name (i := 6) sc42.nd rfl (.inr rfl)) (pgs_cons (pg_name (i := 7) sc42.nd rfl (.inl rfl)) pgs_nil))))
      (pss_cons (ps_setLc (i := 5) (own := [("_law_step", 11), ("_law_age", 12)]) (g := gPair K 11 12) (tt := tTest (tOp (rI0 fun i j => .bl (decide (i ≤ j))) (tOp (rI0 fun i j => .int (i + j)) (tVar 12) (tVar 6)) (tOp (rIxT K) (tVar 0) (tC (.int 3))))) rfl sc42.nd rfl rfl (by rfl) (pi_tup (pv 5)) (blkOk_by (N := ["_law_way_here", "_law_kept", "_law_event", "_law_best", "_law_begun_here", "_law_old", "_law_gap", "_law_kind", "_law_steps", "_law_many", "_law_fresh", "_law_step", "_law_age"]) (sc := defScope (topS 42)) (by decide +kernel))
            (fun _ _ _ _ _ => pg_tup rfl (pgs_cons (pg_name (i := 11) sc42.nd rfl (.inl rfl)) (pgs_cons (pg_name (i := 12) sc42.nd rfl (.inl rfl)) pgs_nil))) (fun _ _ _ _ _ => pts_one (pt_cmpR op_le (pe_op op_add (pv 12) (pv 6)) (pe_ix ix_tup (pv 0) pe_int (fun _ _ => rfl)) (nomark _))) (fun _ _ _ _ _ => pe_tup (pa_cons (pv 11) (pa_cons (pe_op op_add (pv 12) (pv 6)) pa_nil))))
      (pss_cons (ps_set (i := 8) sc42.nd rfl (.inl rfl) (pe_pr pS hr (by rfl) (pa_cons (pv 0) (pa_cons (pv 7) pa_nil))))
      (pss_cons (ps_if (pt_cmpR op_eq (pe_ix ix_tup (pv 0) pe_int (fun _ _ => rfl)) pe_str (nomark _))
        (pss_cons (ps_set (i := 5) sc42.nd rfl (.inl rfl) (pe_callB (cr_sortedT rfl) (by rfl) mo PyProof.Rows.boot_sorted (pa_cons (pe_callTy (cr_setOfT rfl hr.units) (by rfl) ms PyProof.Rows.boot_set (pa_cons (pe_op op_cat (pv 5) (pe_lc (own := [("_law_step", 11)]) (g := gName 11) (tt := tYes) rfl sc42.nd (pi_list (pv 8)) (blkOk_by (N := ["_law_way_here", "_law_kept", "_law_event", "_law_best", "_law_begun_here", "_law_old", "_law_gap", "_law_kind", "_law_steps", "_law_many", "_law_fresh", "_law_step", "_law_age"]) (sc := defScope (topS 42)) (by decide +kernel))
            (fun _ _ _ _ _ => pg_name (i := 11) sc42.nd rfl (.inl rfl)) (fun _ _ _ _ _ => pts_nil) (fun _ _ _ _ _ => pe_tup (pa_cons (pv 11) (pa_cons pe_int pa_nil))))) pa_nil)) pa_nil)))
        (pss_cons (ps_set (i := 9) sc42.nd rfl (.inl rfl) (pe_callB call_lenSet (by rfl) ml PySem.boot_len (pa_cons (pe_callTy (call_setI rfl) (by rfl) ms PyProof.Rows.boot_set (pa_cons (pe_lc (own := [("_law_step", 11), ("_law_age", 12)]) (g := gPair K 11 12) (tt := tYes) rfl sc42.nd (pi_list (pv 5)) (blkOk_by (N := ["_law_way_here", "_law_kept", "_law_event", "_law_best", "_law_begun_here", "_law_old", "_law_gap", "_law_kind", "_law_steps", "_law_many", "_law_fresh", "_law_step", "_law_age"]) (sc := defScope (topS 42)) (by decide +kernel))
            (fun _ _ _ _ _ => pg_tup rfl (pgs_cons (pg_name (i := 11) sc42.nd rfl (.inl rfl)) (pgs_cons (pg_name (i := 12) sc42.nd rfl (.inl rfl)) pgs_nil))) (fun _ _ _ _ _ => pts_nil) (fun _ _ _ _ _ => pv 11)) pa_nil)) pa_nil)))
        (pss_one (ps_ret (pe_tup (pa_cons (pe_callB (call_max2 rfl) (by rfl) mm PyProof.Rows.boot_max (pa_cons (pv 3) (pa_cons (pv 9) pa_nil))) (pa_cons (pe_or (pv 4) (pe_one (pe_cmpR op_in_seq pe_int (pv 8) (by rfl)))) (pa_cons (pe_callTy call_tup (by rfl) mt PyProof.Rows.boot_tuple (pa_cons (pv 5) pa_nil)) pa_nil))))))))
        pss_nil)
      (pss_cons (ps_set (i := 10) sc42.nd rfl (.inl rfl) (pe_ifExp (PW.pt (pw_and (pt_cmpR op_in_seq pe_int (pv 8) (by rfl)) (pw_and1 (PW.pt (pw_or (pt_cmpR op_eq (pe_ix ix_tup (pv 0) pe_int (fun _ _ => rfl)) pe_str (nomark _)) (pw_or1 (pt_not (pt_val (pv 4))))))))) (pe_lst (pa_cons (pe_tup (pa_cons pe_int (pa_cons pe_int pa_nil))) pa_nil)) (pe_lst pa_nil)))
      (pss_cons (ps_for PassesOwn.never rfl (pi_list (pv 5)) (pg_tup rfl (pgs_cons (pg_name (i := 11) sc42.nd rfl (.inl rfl)) (pgs_cons (pg_name (i := 12) sc42.nd rfl (.inl rfl)) pgs_nil)))
        (pss_one (ps_if (pt_cmpR op_in_seq (pe_op op_add (pv 11) pe_int) (pv 8) (by rfl))
          (pss_one (ps_expr (pe_bm PySem.F.plainAttrs_list PySem.F.slot_list_append PySem.F.type_list_append mt_append (pv 10) (pa_cons (pe_tup (pa_cons (pe_op op_add (pv 11) pe_int) (pa_cons (pe_ifExp (pt_cmpR op_eq (pe_ix ix_tup (pv 0) pe_int (fun _ _ => rfl)) pe_str (nomark _)) (pv 12) pe_int) pa_nil))) pa_nil)))) pss_nil)))
      (pss_cons (ps_set (i := 3) sc42.nd rfl (.inl rfl) (pe_callB (cr_max rfl) (by rfl) mm PyProof.Rows.boot_max (pa_cons (pe_op op_cat (pe_lst (pa_cons (pv 3) pa_nil)) (pe_lc (own := [("_law_step", 11), ("_law_age", 12)]) (g := gPair K 11 12) (tt := tYes) rfl sc42.nd (pi_list (pv 10)) (blkOk_by (N := ["_law_way_here", "_law_kept", "_law_event", "_law_best", "_law_begun_here", "_law_old", "_law_gap", "_law_kind", "_law_steps", "_law_many", "_law_fresh", "_law_step", "_law_age"]) (sc := defScope (topS 42)) (by decide +kernel))
            (fun _ _ _ _ _ => pg_tup rfl (pgs_cons (pg_name (i := 11) sc42.nd rfl (.inl rfl)) (pgs_cons (pg_name (i := 12) sc42.nd rfl (.inl rfl)) pgs_nil))) (fun _ _ _ _ _ => pts_nil) (fun _ _ _ _ _ => pv 11))) pa_nil)))
      (pss_cons (ps_if (PW.pt (pw_or (pt_cmpR op_eq (pe_ix ix_tup (pv 0) pe_int (fun _ _ => rfl)) pe_str (nomark _)) (pw_or1 (PW.pt (pw_and (pt_cmpR op_eq (pe_ix ix_tup (pv 0) pe_int (fun _ _ => rfl)) pe_str (nomark _)) (pw_and1 (pt_cmpR (op_neD hr.units) (pv 8) (pe_lst pa_nil) (nomark _))))))))
        (pss_one (ps_set (i := 5) sc42.nd rfl (.inl rfl) (pe_lst pa_nil))) pss_nil)
      (pss_one (ps_ret (pe_tup (pa_cons (pv 3) (pa_cons (pe_or (pv 4) (pe_one (pe_cmpR op_in_seq pe_int (pv 8) (by rfl)))) (pa_cons (pe_callTy call_tup (by rfl) mt PyProof.Rows.boot_tuple (pa_cons (pe_callB (cr_sortedT rfl) (by rfl) mo PyProof.Rows.boot_sorted (pa_cons (pe_callTy (cr_setOfT rfl hr.units) (by rfl) ms PyProof.Rows.boot_set (pa_cons (pe_op op_cat (pv 5) (pv 10)) pa_nil)) pa_nil)) pa_nil)) pa_nil)))))))))))))), fun as a h => ?_⟩
    obtain ⟨W, y, e, rfl, ok, iv, ge, rfl⟩ := h
    obtain ⟨b0, g0, L0⟩ := y
    obtain ⟨gp, kd⟩ := e
    have few := ok.few
    have w2 := ok.w2
    have ge : 0 ≤ gp := ge
    have fL : L0.length ≤ 9 := iv.few
    have li := idx_len W.steps kd
    have hold := old_facts ge iv.at_
    have lold := List.length_filterMap_le (fun p => if decide (p.2 + gp ≤ W.wide) = true then some (p.1, p.2 + gp) else none) L0
    unfold later
    simp only
    generalize hO : (L0.filterMap fun p => if decide (p.2 + gp ≤ W.wide) = true then some (p.1, p.2 + gp) else none) = old at hold lold ⊢
    have hst : ∀ j ∈ idx W.steps kd, (j : Int) + 1 ≤ W.steps.length := fun j hj => by
      have := (mem_idx.mp hj).1
      omega
    refine dr_unp3 (d1 := .int b0) (d2 := .bool g0) (d3 := .tuple (L0.map evD)) (de_var rfl) ?_
    refine dr_unp2 (d1 := .int gp) (d2 := .int kd) (de_var rfl) ?_
    refine dr_asg (a1 := .ls (old.map evD)) (den_lcF L0 evD (fun p => if decide (p.2 + gp ≤ W.wide) = true then some (p.1, p.2 + gp) else none) evD rfl (by rw [hO]) (di_tup (de_var rfl)) (tg_pair (by simp) (by simp)) (by omega) fun p hp =>
      ⟨_, ⟨_, _, rfl, rfl⟩, _, dt_test (de_le (de_add (de_var rfl) (de_var rfl)) (de_ixT (j := 3) (de_var (a := .im (wyD W)) rfl) de_int rfl)), fun z => ⟨(p.1, p.2 + gp), by rw [if_pos z], de_tup (ds := [.int p.1, .int (p.2 + gp)]) (dea_cons (de_var rfl) (dea_cons (de_add (de_var rfl) (de_var rfl)) dea_nil)) (by simp)⟩, fun z => by rw [if_neg (by rw [z]; exact Bool.false_ne_true)]⟩).de ?_
    refine dr_asg (a1 := .ls (((idx W.steps kd).map fun (j : Nat) => (j : Int) + 1).map .int)) (den_call (R := RIn) (dea_cons (de_var (a := .im (wyD W)) rfl) (dea_cons (de_var (a := .im (.int kd)) rfl) dea_nil)) ⟨W, kd, rfl, ok, (stp_ints _).symm⟩).de ?_
    show Dr _ [some (.im (wyD W)), some (.im (kpD (b0, g0, L0))), some (.im (evD (gp, kd))), some (.im (.int b0)), some (.im (.bool g0)), some (.ls (old.map evD)), some (.im (.int gp)), some (.im (.int kd)), some (.ls (((idx W.steps kd).map fun (j : Nat) => (j : Int) + 1).map .int)), none, none, none, none] _
    have hw : ∀ {K' : PySem.W.Frag} {sl' : SL} {c : Str}, sl'[0]? = some (some (.im (wyD W))) → Dt (tTest (tOp rEq (tOp (rIxT K') (tVar 0) (tC (.int 1))) (tC (.str c)))) sl' (decide (W.how.s = c)) := fun e => dt_test (de_eqS (de_ixT (j := 1) (de_var e) de_int rfl) de_str)
    have h1in : ∀ {K' : PySem.W.Frag} {sl' : SL}, sl'[8]? = some (some (.ls (((idx W.steps kd).map fun (j : Nat) => (j : Int) + 1).map .int))) → De (tOp (rIn K' false) (tC (.int 1)) (tVar 8)) sl' (.im (.bool (decide (0 ∈ idx W.steps kd)))) := fun e8 =>
      (de_inLI (k := 1) de_int (de_var e8)).is (by rw [decide_eq_decide.mpr mem_stp1])
    have hor : ∀ {K' : PySem.W.Frag} {sl' : SL}, sl'[4]? = some (some (.im (.bool g0))) → sl'[8]? = some (some (.ls (((idx W.steps kd).map fun (j : Nat) => (j : Int) + 1).map .int))) → De (tOrV (tVar 4) (tOp (rIn K' false) (tC (.int 1)) (tVar 8))) sl' (.im (.bool (g0 || decide (0 ∈ idx W.steps kd)))) := fun e4 e8 =>
      de_orV (de_var e4) fun _ => h1in e8
    refine dr_if (b := decide (W.how = .any)) ((hw rfl).is (decide_eq_decide.mpr how_any)) (fun z => ?_) (fun z => dr_next ?_)
    · have z : W.how = .any := of_decide_eq_true z
      rw [if_pos z]
      generalize hU : sortU (old ++ (idx W.steps kd).map fun (j : Nat) => ((j : Int) + 1, 0)) = old2
      have l2 : old2.length ≤ 4000 := by
        rw [← hU]
        refine Nat.le_trans (nodup_len_le (m := old ++ (idx W.steps kd).map fun (j : Nat) => ((j : Int) + 1, 0)) (nodup_of_strict (sortU_strict ?_)) fun x hx => mem_sortU.mp hx) (by simp; omega)
        intro p hp
        rcases List.mem_append.mp hp with hp | hp
        · obtain ⟨a1, a2, a3, a4⟩ := hold p hp
          exact ⟨by omega, by omega, by omega, by omega⟩
        · obtain ⟨j, hj, rfl⟩ := List.mem_map.mp hp
          have := hst j hj
          exact ⟨by show (0 : Int) ≤ (j : Int) + 1; omega, by show (j : Int) + 1 < 100; omega, by show (0 : Int) ≤ 0; omega, by show (0 : Int) < 100; omega⟩
      refine dr_assoc (dr_asg (a1 := .ls (old2.map evD)) (by
        rw [← hU]
        refine de_sortSet ((den_cat (ds := old.map evD) (es := (idx W.steps kd).map fun (j : Nat) => evD ((j : Int) + 1, 0)) (de_var rfl) (den_lcX (idx W.steps kd) stpD (fun (j : Nat) => evD ((j : Int) + 1, 0)) rfl rfl (di_list (by rw [stp_ints]; exact de_var rfl)) (tg_name (by simp)) (by omega) fun j hj => ⟨_, rfl, de_tup (ds := [.int ((j : Int) + 1), .int 0]) (dea_cons (de_var rfl) (dea_cons de_int dea_nil)) (by simp)⟩).de (by simp; omega)).de.is (by rw [List.map_append, List.map_map]; rfl)) (by simp; omega) ?_ (.inr trivial)
        intro p hp
        rcases List.mem_append.mp hp with hp | hp
        · obtain ⟨a1, a2, a3, a4⟩ := hold p hp
          exact ⟨by omega, by omega, by omega, by omega⟩
        · obtain ⟨j, hj, rfl⟩ := List.mem_map.mp hp
          have := hst j hj
          exact ⟨by show (0 : Int) ≤ (j : Int) + 1; omega, by show (j : Int) + 1 < 100; omega, by show (0 : Int) ≤ 0; omega, by show (0 : Int) < 100; omega⟩) (dr_assoc ?_))
      refine dr_asg (a1 := .im (.int (cnt (old2.map (·.1)) : Int))) (de_lenSetI (den_lcX old2 evD (fun p => .int p.1) rfl (by rw [List.map_map]; rfl) (di_list (de_var rfl)) (tg_pair (by simp) (by simp)) (by omega) fun p hp => ⟨_, ⟨_, _, rfl, rfl⟩, de_var rfl⟩).de (by simp; omega)) (dr_assoc (dr_retS ?_))
      exact de_tup (ds := [.int _, .bool _, .tuple _]) (dea_cons (de_max2 (de_var rfl) (de_var rfl)) (dea_cons (hor rfl rfl) (dea_cons (de_tupOf (de_var rfl)) dea_nil))) (by simp)
    · have z : W.how ≠ .any := of_decide_eq_false z
      rw [if_neg z]
      generalize hf0 : (if (decide (0 ∈ idx W.steps kd) && (!W.fst || !g0)) = true then [(1, 0)] else [] : List (Int × Int)) = f0
      have lf0 : f0.length ≤ 1 := by
        rw [← hf0]
        split <;> simp
      show Dr _ _ (.im (kpD (maxI (b0 :: ((old.foldl (frF W (idx W.steps kd)) f0).map (·.1))), g0 || decide (0 ∈ idx W.steps kd), sortU ((if W.how = .strict ∨ (W.how = .among ∧ idx W.steps kd ≠ []) then [] else old) ++ old.foldl (frF W (idx W.steps kd)) f0))))
      have lfr := frF_len W (idx W.steps kd) old f0
      refine dr_forM (K := K) (m := 10) (j := 5) (vs := [11, 12]) (src := old) (enc := evD) (cur := f0) (fun l : List (Int × Int) => l.map evD) (fun l => l.length ≤ 50) (frF W (idx W.steps kd)) ?_ (by simp) rfl (by decide) tgl_pair (fun p hp => ⟨_, ⟨_, _, rfl, rfl⟩, rfl, fun cur hc => ?_⟩) (fun i hi => ?_) ?_
      · -- fresh
        have ht := dt_and (x := decide (0 ∈ idx W.steps kd)) (y := !W.fst || !g0) (tt := tTest (tOp (rIn K false) (tC (.int 1)) (tVar 8))) (tu := tOr (tTest (tOp rEq (tOp (rIxT K) (tVar 0) (tC (.int 4))) (tC (.str "all")))) (tNot (tB (tVar 4))))
          (sl := [some (.im (wyD W)), some (.im (kpD (b0, g0, L0))), some (.im (evD (gp, kd))), some (.im (.int b0)), some (.im (.bool g0)), some (.ls (old.map evD)), some (.im (.int gp)), some (.im (.int kd)), some (.ls (((idx W.steps kd).map fun (j : Nat) => (j : Int) + 1).map .int)), none, none, none, none])
          (dt_test (h1in rfl)) (fun _ => dt_or ((dt_test (de_eqS (de_ixT (j := 4) (de_var (a := .im (wyD W)) rfl) de_int rfl) de_str)).is all_s) fun _ => dt_not (dt_B (de_var rfl)))
        by_cases c : (decide (0 ∈ idx W.steps kd) && (!W.fst || !g0)) = true
        · rw [if_pos c] at hf0
          subst hf0
          exact den_ifT (ht.is c) (den_lst (ds := [evD (1, 0)]) (dea_cons (de_tup (ds := [.int 1, .int 0]) (dea_cons de_int (dea_cons de_int dea_nil)) (by simp)) dea_nil) (by simp))
        · rw [if_neg c] at hf0
          subst hf0
          exact den_ifF (ht.is (Bool.eq_false_iff.mpr c)) (den_lst (ds := []) dea_nil (by simp))
      · -- the loop's body
        unfold frF
        refine dm_if (b := (decide (p.1.toNat ∈ idx W.steps kd) && decide (0 ≤ p.1))) ((dt_test (de_inLI (k := p.1 + 1) (de_add (de_var rfl) de_int) (de_var rfl))).is (by
          rw [Bool.eq_iff_iff, decide_eq_true_iff]
          exact mem_stpZ)) (fun q => ?_) (fun q => ?_)
        · rw [if_pos q, List.map_append]
          refine dm_app (d := evD (p.1 + 1, if W.each = true then 0 else p.2)) (de_tup (ds := [.int (p.1 + 1), .int (if W.each = true then 0 else p.2)]) (dea_cons (de_add (de_var rfl) de_int) (dea_cons (de_if (x := !W.each) ((dt_test (de_eqS (de_ixT (j := 2) (de_var (a := .im (wyD W)) rfl) de_int rfl) de_str)).is each_s) (fun z => ?_) (fun z => ?_)) dea_nil)) (by simp)) (by rw [List.length_map]; omega)
          · rw [if_neg (by cases h : W.each <;> simp_all)]
            exact de_var rfl
          · rw [if_pos (by cases h : W.each <;> simp_all)]
            exact de_int
        · rw [if_neg (by rw [q]; exact Bool.false_ne_true)]
          exact dm_next
      · have := frF_len W (idx W.steps kd) (old.take i) f0
        have h2 := List.length_take_le i old
        simp only [List.length_take] at this
        omega
      · generalize hfr : old.foldl (frF W (idx W.steps kd)) f0 = fr at lfr ⊢
        show Dr _ [some (.im (wyD W)), some (.im (kpD (b0, g0, L0))), some (.im (evD (gp, kd))), some (.im (.int b0)), some (.im (.bool g0)), some (.ls (old.map evD)), some (.im (.int gp)), some (.im (.int kd)), some (.ls (((idx W.steps kd).map fun (j : Nat) => (j : Int) + 1).map .int)), none, some (.ls (fr.map evD)), none, none] _
        have hfrB : ∀ p ∈ fr, Bp p := by
          rw [← hfr]
          refine frF_at (fun p hp => ?_) (fun p hp h1 h2 => ?_)
          · rw [← hf0] at hp
            split at hp
            · rw [List.mem_singleton.mp hp]
              exact ⟨by decide, by decide, by decide, by decide⟩
            · cases hp
          · obtain ⟨a1, a2, a3, a4⟩ := hold p hp
            refine ⟨by show 0 ≤ p.1 + 1; omega, by show p.1 + 1 < 100; omega, ?_, ?_⟩
            · show 0 ≤ (if W.each = true then 0 else p.2)
              split <;> omega
            · show (if W.each = true then 0 else p.2) < 100
              split <;> omega
        have lfr2 : fr.length ≤ 10 := by omega
        refine dr_asg (a1 := .im (.int (maxI (b0 :: fr.map (·.1))))) (de_maxL (den_cat (ds := [.int b0]) (es := fr.map fun p => .int p.1) (de_lst (dea_cons (de_var rfl) dea_nil) (by simp)) (den_lcX fr evD (fun p => .int p.1) rfl rfl (di_list (de_var rfl)) (tg_pair (by simp) (by simp)) (by omega) fun p hp => ⟨_, ⟨_, _, rfl, rfl⟩, de_var rfl⟩).de (by simp; omega) |>.de |>.is (by rw [List.map_cons, List.map_map]; rfl)) (by simp)) ?_
        generalize hsx : sortU ((if W.how = .strict ∨ (W.how = .among ∧ idx W.steps kd ≠ []) then [] else old) ++ fr) = sx
        have last : ∀ {o2 : List (Int × Int)} {K' : PySem.W.Frag} {P' : Program} {w' : World}, o2 = (if W.how = .strict ∨ (W.how = .among ∧ idx W.steps kd ≠ []) then [] else old) →
            Dr (tRet (tTup (tCons (tVar 3) (tCons (tOrV (tVar 4) (tOp (rIn K' false) (tC (.int 1)) (tVar 8))) (tCons (tCB (rTupOf K') (tCons (tCB (rSortedT K' P' w') (tCons (tCB (rSetOfT K' P' w') (tCons (tOp rCat (tVar 5) (tVar 10)) tNil)) tNil)) tNil)) tNil)))))
              [some (.im (wyD W)), some (.im (kpD (b0, g0, L0))), some (.im (evD (gp, kd))), some (.im (.int (maxI (b0 :: fr.map (·.1))))), some (.im (.bool g0)), some (.ls (o2.map evD)), some (.im (.int gp)), some (.im (.int kd)), some (.ls (((idx W.steps kd).map fun (j : Nat) => (j : Int) + 1).map .int)), none, some (.ls (fr.map evD)), none, none]
              (.im (kpD (maxI (b0 :: fr.map (·.1)), g0 || decide (0 ∈ idx W.steps kd), sx))) := fun {o2 K' P' w'} eo => by
          have lo2 : o2.length ≤ 9 := by
            rw [eo]
            split
            · simp
            · omega
          have bo2 : ∀ p ∈ o2 ++ fr, Bp p := fun p hp => by
            rcases List.mem_append.mp hp with hp | hp
            · rw [eo] at hp
              split at hp
              · cases hp
              · obtain ⟨a1, a2, a3, a4⟩ := hold p hp
                exact ⟨by omega, by omega, by omega, by omega⟩
            · exact hfrB p hp
          refine dr_ret (de_tup (ds := [.int _, .bool _, .tuple (sx.map evD)]) (dea_cons (de_var rfl) (dea_cons (hor rfl rfl) (dea_cons (de_tupOf ?_) dea_nil))) (by simp))
          rw [← hsx, ← eo]
          exact de_sortSet ((den_cat (ds := o2.map evD) (es := fr.map evD) (de_var rfl) (de_var rfl) (by simp; omega)).de.is (by rw [List.map_append])) (by simp; omega) bo2 (.inr trivial)
        have ht := dt_or (x := decide (W.how = .strict)) (y := decide (W.how = .among) && decide (idx W.steps kd ≠ [])) (tt := tTest (tOp rEq (tOp (rIxT K) (tVar 0) (tC (.int 1))) (tC (.str "strict")))) (tu := tAnd (tTest (tOp rEq (tOp (rIxT K) (tVar 0) (tC (.int 1))) (tC (.str "among")))) (tTest (tOp (rNeD K) (tVar 8) (tLst tNil))))
          (sl := [some (.im (wyD W)), some (.im (kpD (b0, g0, L0))), some (.im (evD (gp, kd))), some (.im (.int (maxI (b0 :: fr.map (·.1))))), some (.im (.bool g0)), some (.ls (old.map evD)), some (.im (.int gp)), some (.im (.int kd)), some (.ls (((idx W.steps kd).map fun (j : Nat) => (j : Int) + 1).map .int)), none, some (.ls (fr.map evD)), none, none])
          ((hw rfl).is (decide_eq_decide.mpr (by cases W.how <;> simp [How.s] <;> decide)))
          (fun _ => dt_and ((hw rfl).is (decide_eq_decide.mpr (by cases W.how <;> simp [How.s] <;> decide))) fun _ => (dt_test (de_neL (es := []) (de_var rfl) (de_lst dea_nil (by simp)) (shaped_ints _) (by decide))).is (eqv_nil _))
        have eb : (decide (W.how = .strict) || (decide (W.how = .among) && decide (idx W.steps kd ≠ []))) = decide (W.how = .strict ∨ (W.how = .among ∧ idx W.steps kd ≠ [])) := by
          rw [Bool.decide_or, Bool.decide_and]
        refine dr_if ht (fun r => ?_) (fun r => ?_)
        · rw [eb] at r
          refine dr_asg (a1 := .ls ([] : List PyData)) (de_lst (ds := []) dea_nil (by simp)) ?_
          exact last (o2 := []) (by rw [if_pos (of_decide_eq_true r)])
        · rw [eb] at r
          refine dr_next ?_
          exact last (o2 := old) (by rw [if_neg (of_decide_eq_false r)])
end
end WZ
namespace MW
open PySem PySem.Spec PyProof.Rows L2 KB KC KD KV
inductive Reach (W : Wy) : Std → Prop
  | first : Reach W (first W)
  | step {x : Std} {e : Int × Int} : Reach W x → e ∈ events W.wide → Reach W (behind W x e)
theorem behind_len (W : Wy) (x : Std) (e : Int × Int) (h : x.2.2.length = W.steps.length) : (behind W x e).2.2.length = W.steps.length := by
  have hg : (grown x.2.2 e.1 W.wide).length = x.2.2.length := by unfold grown; rw [List.length_map]
  have hc : (came W x.2.1 (grown x.2.2 e.1 W.wide) e.2).length = W.steps.length := by
    unfold came
    rw [came_fold_len, List.length_replicate]
  unfold behind
  by_cases c : W.how = .any
  · simp only [if_pos c]
    simp [hg, h]
  · simp only [if_neg c]
    split
    · rw [List.length_zipWith, hg, hc, h]
      exact Nat.min_self _
    · split
      · exact hc
      · rw [hg, h]
theorem Reach.len {W : Wy} {x : Std} (h : Reach W x) : x.2.2.length = W.steps.length := by
  induction h with
  | first => simp [MW.first]
  | step _ _ ih => exact behind_len W _ _ ih
/-- the inner state of the closing: standing i, event j -/
structure Jn (W : Wy) (n0 : Nat) (ws : List Std) (i j : Nat) (ks ls : List Std) : Prop where
  nd : ks.Nodup
  fst : first W ∈ ks
  re : ∀ x ∈ ks, Reach W x
  lsub : ∀ x ∈ ls, x ∈ ks
  wsub : ∀ x ∈ ws, x ∈ ks
  cnt : ks.length = n0 + ls.length
  cl : ∀ x ∈ ks, x ∉ ls → x ∉ ws → ∀ e ∈ events W.wide, behind W x e ∈ ks
  pr : ∀ i' x, i' < i → ws[i']? = some x → ∀ e ∈ events W.wide, behind W x e ∈ ks
  pj : ∀ j' x e, j' < j → ws[i]? = some x → (events W.wide)[j']? = some e → behind W x e ∈ ks
structure Jo (W : Wy) (ks ws : List Std) : Prop where
  nd : ks.Nodup
  fst : first W ∈ ks
  re : ∀ x ∈ ks, Reach W x
  wsub : ∀ x ∈ ws, x ∈ ks
  cl : ∀ x ∈ ks, x ∉ ws → ∀ e ∈ events W.wide, behind W x e ∈ ks
theorem Jo.start (W : Wy) : Jo W [first W] [first W] :=
  ⟨by simp, by simp, fun x hx => by rw [List.mem_singleton.mp hx]; exact .first, fun x hx => hx, fun x hx hn => absurd hx hn⟩
theorem Jo.jn {W : Wy} {ks ws : List Std} (h : Jo W ks ws) : Jn W ks.length ws 0 0 ks [] :=
  ⟨h.nd, h.fst, h.re, fun x hx => (by cases hx), h.wsub, by simp, fun x hx _ hn => h.cl x hx hn, fun _ _ hi => absurd hi (Nat.not_lt_zero _), fun _ _ _ hj => absurd hj (Nat.not_lt_zero _)⟩
theorem Jn.old {W : Wy} {n0 i j : Nat} {ws ks ls : List Std} {x : Std} {e : Int × Int} (h : Jn W n0 ws i j ks ls) (hx : ws[i]? = some x) (he : (events W.wide)[j]? = some e) (hin : behind W x e ∈ ks) : Jn W n0 ws i (j + 1) ks ls :=
  ⟨h.nd, h.fst, h.re, h.lsub, h.wsub, h.cnt, h.cl, h.pr, fun j' x' e' hj hx' he' => by
    by_cases c : j' = j
    · subst c
      rw [hx] at hx'
      rw [he] at he'
      cases hx'
      cases he'
      exact hin
    · exact h.pj j' x' e' (by omega) hx' he'⟩
theorem Jn.new {W : Wy} {n0 i j : Nat} {ws ks ls : List Std} {x : Std} {e : Int × Int} (h : Jn W n0 ws i j ks ls) (hx : ws[i]? = some x) (he : (events W.wide)[j]? = some e) (hin : behind W x e ∉ ks) : Jn W n0 ws i (j + 1) (ks ++ [behind W x e]) (ls ++ [behind W x e]) := by
  have up : ∀ {z}, z ∈ ks → z ∈ ks ++ [behind W x e] := fun hz => List.mem_append_left _ hz
  refine ⟨?_, up h.fst, fun z hz => ?_, fun z hz => ?_, fun z hz => up (h.wsub z hz), ?_, fun z hz hl hw e' he' => ?_, fun i' x' hi hx' e' he' => up (h.pr i' x' hi hx' e' he'), fun j' x' e' hj hx' he' => ?_⟩
  · rw [List.nodup_append]
    exact ⟨h.nd, by simp, fun a ha b hb z => hin (by rw [List.mem_singleton] at hb; rw [← hb, ← z]; exact ha)⟩
  · rcases List.mem_append.mp hz with hz | hz
    · exact h.re z hz
    · rw [List.mem_singleton.mp hz]
      exact .step (h.re x (h.wsub x (List.mem_of_getElem? hx))) (List.mem_of_getElem? he)
  · rcases List.mem_append.mp hz with hz | hz
    · exact up (h.lsub z hz)
    · exact List.mem_append_right _ hz
  · rw [List.length_append, List.length_append, h.cnt]
    simp
    omega
  · rcases List.mem_append.mp hz with hz | hz
    · exact up (h.cl z hz (fun q => hl (List.mem_append_left _ q)) hw e' he')
    · exact absurd (List.mem_append_right _ hz) hl
  · by_cases c : j' = j
    · subst c
      rw [hx] at hx'
      rw [he] at he'
      cases hx'
      cases he'
      exact List.mem_append_right _ (List.mem_singleton.mpr rfl)
    · exact up (h.pj j' x' e' (by omega) hx' he')
theorem Jn.next {W : Wy} {n0 i : Nat} {ws ks ls : List Std} {x : Std} (h : Jn W n0 ws i (events W.wide).length ks ls) (hx : ws[i]? = some x) : Jn W n0 ws (i + 1) 0 ks ls :=
  ⟨h.nd, h.fst, h.re, h.lsub, h.wsub, h.cnt, h.cl, fun i' x' hi hx' e he => by
    by_cases c : i' = i
    · subst c
      rw [hx] at hx'
      cases hx'
      obtain ⟨j, hj, e2⟩ := List.mem_iff_getElem.mp he
      exact h.pj j x e hj hx (by rw [List.getElem?_eq_getElem hj, e2])
    · exact h.pr i' x' (by omega) hx' e he, fun _ _ _ hj => absurd hj (Nat.not_lt_zero _)⟩
theorem Jn.done {W : Wy} {n0 : Nat} {ws ks ls : List Std} (h : Jn W n0 ws ws.length 0 ks ls) : Jo W ks ls :=
  ⟨h.nd, h.fst, h.re, h.lsub, fun x hx hl e he => by
    by_cases c : x ∈ ws
    · obtain ⟨i, hi, e2⟩ := List.mem_iff_getElem.mp c
      exact h.pr i x hi (by rw [List.getElem?_eq_getElem hi, e2]) e he
    · exact h.cl x hx hl c e he⟩
theorem Jo.fin {W : Wy} {ks : List Std} (h : Jo W ks []) : ∀ x, x ∈ ks ↔ Reach W x := fun x => ⟨h.re x, fun r => by
  induction r with
  | first => exact h.fst
  | step _ he ih => exact h.cl _ ih (by simp) _ he⟩
theorem Jo.le {W : Wy} {ks ws R : List Std} (h : Jo W ks ws) (hR : ∀ x, Reach W x → x ∈ R) : ks.length ≤ R.length := nodup_len_le h.nd fun x hx => hR x (h.re x hx)
theorem Jn.le {W : Wy} {n0 i j : Nat} {ks ws ls R : List Std} (h : Jn W n0 ws i j ks ls) (hR : ∀ x, Reach W x → x ∈ R) : ks.length ≤ R.length := nodup_len_le h.nd fun x hx => hR x (h.re x hx)
/-! ### standings as keys -/
theorem nk_o_inj {a b : Option Int} (h : nk (oD a) = nk (oD b)) : a = b := by
  cases a <;> cases b <;> simp [oD, nk] at h ⊢
  exact h
theorem nkA_inj {α : Type} {f : α → PyData} (hf : ∀ a b, nk (f a) = nk (f b) → a = b) : ∀ {l m : List α}, nkA (l.map f) = nkA (m.map f) → l = m
  | [], [], _ => rfl
  | [], b :: m, h => by simp [nkA] at h
  | a :: l, [], h => by simp [nkA] at h
  | a :: l, b :: m, h => by
    simp only [List.map_cons, nkA, List.cons.injEq] at h
    rw [hf a b h.1, nkA_inj hf h.2]
theorem nk_b_inj {a b : Bool} (h : (if a = true then (1 : Int) else 0) = if b = true then 1 else 0) : a = b := by
  cases a <;> cases b <;> simp_all
theorem depthAll_le {α : Type} {f : α → PyData} {n : Nat} (hf : ∀ a, (nk (f a)).depth ≤ n) : ∀ l : List α, NestedKey.depthAll (nkA (l.map f)) ≤ n
  | [] => Nat.zero_le _
  | a :: l => by
    show max (nk (f a)).depth (NestedKey.depthAll (nkA (l.map f))) ≤ n
    exact Nat.max_le.mpr ⟨hf a, depthAll_le hf l⟩
theorem depth_o (o : Option Int) : (nk (oD o)).depth ≤ 0 := by cases o <;> exact Nat.le_refl _
theorem depth_ev (e : Int × Int) : (nk (evD e)).depth ≤ 1 := Nat.le_refl _
theorem evD_inj {a b : Int × Int} (h : nk (evD a) = nk (evD b)) : a = b := by
  simp [evD, nk, nkA] at h
  exact Prod.ext h.1 h.2
theorem encS : Enc stdD := ⟨fun a => ⟨_, rfl⟩, fun a => by
    show max 0 (max 0 (max (NestedKey.depthAll (nkA (a.2.2.map oD)) + 1) 0)) + 1 ≤ 8
    have := depthAll_le depth_o a.2.2
    omega, fun a b h => by
    simp only [stdD, nk, nkA, NestedKey.tup.injEq, List.cons.injEq, NestedKey.num.injEq] at h
    obtain ⟨h1, h2, h3, _⟩ := h
    exact Prod.ext h1 (Prod.ext (nk_b_inj h2) (nkA_inj (fun _ _ => nk_o_inj) h3))⟩
theorem encK : Enc kpD := ⟨fun a => ⟨_, rfl⟩, fun a => by
    show max 0 (max 0 (max (NestedKey.depthAll (nkA (a.2.2.map evD)) + 1) 0)) + 1 ≤ 8
    have := depthAll_le depth_ev a.2.2
    omega, fun a b h => by
    simp only [kpD, nk, nkA, NestedKey.tup.injEq, List.cons.injEq, NestedKey.num.injEq] at h
    obtain ⟨h1, h2, h3, _⟩ := h
    exact Prod.ext h1 (Prod.ext (nk_b_inj h2) (nkA_inj (fun _ _ => evD_inj) h3))⟩
/-! ### shaped data -/
theorem canLay_map {α : Type} {f : α → PyData} (hf : ∀ a, (f a).canLay0 = true) : ∀ l : List α, PyData.canLayAll0 (l.map f) = true
  | [] => rfl
  | a :: l => by
    show ((f a).canLay0 && PyData.canLayAll0 (l.map f)) = true
    rw [hf a, canLay_map hf l]
    rfl
theorem depth_map {α : Type} {f : α → PyData} {n : Nat} (hf : ∀ a, (f a).depth ≤ n) : ∀ l : List α, PyData.depthAll (l.map f) ≤ n
  | [] => Nat.zero_le _
  | a :: l => by
    show max (f a).depth (PyData.depthAll (l.map f)) ≤ n
    exact Nat.max_le.mpr ⟨hf a, depth_map hf l⟩
theorem lay_o (o : Option Int) : (oD o).canLay0 = true := by cases o <;> rfl
theorem lay_std (x : Std) : (stdD x).canLay0 = true := by
  show (true && (true && (PyData.canLayAll0 (x.2.2.map oD) && true))) = true
  rw [canLay_map lay_o]
  rfl
theorem lay_ev (x : Int × Int) : (evD x).canLay0 = true := rfl
theorem lay_kp (x : Kpt) : (kpD x).canLay0 = true := by
  show (true && (true && (PyData.canLayAll0 (x.2.2.map evD) && true))) = true
  rw [canLay_map lay_ev]
  rfl
theorem dep_o (o : Option Int) : (oD o).depth ≤ 0 := by cases o <;> exact Nat.le_refl _
theorem dep_std (x : Std) : (stdD x).depth ≤ 2 := by
  show max 0 (max 0 (max (PyData.depthAll (x.2.2.map oD) + 1) 0)) + 1 ≤ 2
  have := depth_map dep_o x.2.2
  omega
theorem dep_ev (x : Int × Int) : (evD x).depth ≤ 1 := Nat.le_refl _
theorem dep_kp (x : Kpt) : (kpD x).depth ≤ 3 := by
  show max 0 (max 0 (max (PyData.depthAll (x.2.2.map evD) + 1) 0)) + 1 ≤ 3
  have := depth_map dep_ev x.2.2
  omega
theorem shaped_list {α : Type} {f : α → PyData} {n : Nat} (h1 : ∀ a, (f a).canLay0 = true) (h2 : ∀ a, (f a).depth ≤ n) (hn : n ≤ 60) (l : List α) : SeqAt.shaped (.list (l.map f)) = true := by
  unfold SeqAt.shaped
  rw [Bool.and_eq_true]
  refine ⟨canLay_map h1 l, decide_eq_true ?_⟩
  have := depth_map h2 l
  show PyData.depthAll (l.map f) + 1 ≤ 64
  omega
theorem eqv_nilD {α : Type} {f : α → PyData} (l : List α) : (!PyData.eqvAll (l.map f) []) = decide (l ≠ []) := by
  cases l with
  | nil => rfl
  | cons a r =>
    rw [decide_eq_true (List.cons_ne_nil a r)]
    rfl
end MW
namespace WZ
open PySem PySem.Spec PyProof.Rows L2 KB KC KD KV MW
open Evl (Ex EvT)
open StX (tStar)
theorem valV_keys {κ : Type} [DecidableEq κ] (v : V) (a : κ) : ∀ ks : List κ, valV (ks.map fun x => (x, v)) a = if a ∈ ks then some v else none
  | [] => rfl
  | k :: ks => by
    by_cases c : k = a
    · rw [List.map_cons, valV_pos c, if_pos (by rw [c]; exact List.mem_cons_self ..)]
    · rw [List.map_cons, valV_neg c, valV_keys v a ks]
      have : (a ∈ k :: ks) ↔ a ∈ ks := by
        rw [List.mem_cons]
        exact ⟨fun h => h.resolve_left fun e => c e.symm, .inr⟩
      simp only [this]
section
variable {P : Program} {w : World} {K : PySem.W.Frag} {mg : Str → Option Value} {base : Heap}
def spAll : Sp := fun vs H Q _ => ∃ (W : Wy) (R : List Std) (v : V), vs = [v] ∧ Im H v (wyD W) ∧ OkW W ∧ (∀ x, Reach W x → x ∈ R) ∧ R.length ≤ 5000 ∧
  ∀ p us H' (ks : List Std), Ex H H' → H p = none → H' p = some (.lst us) → ImA H' us (ks.map stdD) → ks.Nodup → (∀ x, x ∈ ks ↔ Reach W x) → Q (.ref p) H'
structure AH (P : Program) (w : World) (H0 H : Hp) (W : Wy) (fa wa la ea : Addr) (ks ws ls : List Std) : Prop where
  ex : Ex H0 H
  td : TDw P w stdD H fa (ks.map fun x => (x, V.bl true))
  wt : ∃ vs, H wa = some (.lst vs) ∧ ImA H vs (ws.map stdD)
  lt : ∃ us, H la = some (.lst us) ∧ ImA H us (ls.map stdD)
  et : ∃ es, H ea = some (.lst es) ∧ ImA H es ((events W.wide).map evD)
  fn : H0 fa = none
  ln : H0 la = none
  n1 : wa ≠ la
  n2 : ea ≠ la
theorem td_ex {α : Type} [DecidableEq α] {en : α → PyData} {H H' : Hp} {d : Addr} {L : List (α × V)} (t : TDw P w en H d L) (e : Ex H H') : TDw P w en H' d L := by
  obtain ⟨xs, hx⟩ := t.some
  exact t.to (Tx.of e) ((e _ _ hx).trans hx.symm)
theorem AH.to {H0 H H' : Hp} {W : Wy} {fa wa la ea : Addr} {ks ws ls : List Std} (h : AH P w H0 H W fa wa la ea ks ws ls) (e : Ex H H') : AH P w H0 H' W fa wa la ea ks ws ls :=
  ⟨h.ex.trans e, td_ex h.td e, let ⟨vs, a, b⟩ := h.wt; ⟨vs, e _ _ a, b.to (Tx.of e)⟩, let ⟨vs, a, b⟩ := h.lt; ⟨vs, e _ _ a, b.to (Tx.of e)⟩, let ⟨vs, a, b⟩ := h.et; ⟨vs, e _ _ a, b.to (Tx.of e)⟩, h.fn, h.ln, h.n1, h.n2⟩
theorem nd_nelst {α : Type} [DecidableEq α] {en : α → PyData} {H : Hp} {d a : Addr} {L : List (α × V)} {vs : List V} (t : TDw P w en H d L) (h : H a = some (.lst vs)) : a ≠ d := fun z => by
  obtain ⟨xs, hx⟩ := t.some
  rw [z, hx] at h
  cases h
theorem AH.put {H0 H H1 : Hp} {W : Wy} {fa wa la ea : Addr} {ks ws ls : List Std} {x : Std} {us : List V} {v : V} (h : AH P w H0 H W fa wa la ea ks ws ls) (b : But fa H H1) (t : TDw P w stdD H1 fa (putK (ks.map fun x => (x, V.bl true)) x (.bl true))) (hn : x ∉ ks)
    (hl : H1 la = some (.lst us)) (hi : ImA H1 us (ls.map stdD)) (hv : Im H1 v (stdD x)) : AH P w H0 (upd H1 la (.lst (us ++ [v]))) W fa wa la ea (ks ++ [x]) ws (ls ++ [x]) := by
  obtain ⟨vs, w1, w2⟩ := h.wt
  obtain ⟨es, e1, e2⟩ := h.et
  have nl : la ≠ fa := nd_nelst t hl
  have nw : wa ≠ fa := nd_nelst h.td w1
  have ne : ea ≠ fa := nd_nelst h.td e1
  have tx1 : Tx H H1 := b.tx fun xs => by
    obtain ⟨ys, hy⟩ := h.td.some
    exact nd_notup hy xs
  have tx2 : Tx H1 (upd H1 la (.lst (us ++ [v]))) := tx_lst hl
  have ex1 : Ex H0 H1 := fun p o q => by
    rw [b p fun z => by rw [z, h.fn] at q; cases q]
    exact h.ex p o q
  refine ⟨Evl.Ex.mut ex1 h.ln, ?_, ⟨vs, ?_, (w2.to tx1).to tx2⟩, ⟨us ++ [v], upd_same, ?_⟩, ⟨es, ?_, (e2.to tx1).to tx2⟩, h.fn, h.ln, h.n1, h.n2⟩
  · rw [putK_new _ (by rw [valV_keys, if_neg hn])] at t
    rw [List.map_append]
    exact t.to tx2 (upd_ne nl.symm)
  · rw [upd_ne h.n1, b wa nw]
    exact w1
  · rw [List.map_append]
    exact (hi.to tx2).append (.one (Im.to hv tx2))
  · rw [upd_ne h.n2, b ea ne]
    exact e1
theorem pr_all_in (D : DefAt K mg "all_in" 31 ["way"]) (pF : Prom P w K mg base 1 "first_in" ["way"] (spR RFirst)) (pL : Prom P w K mg base 1 "letters_to" ["window"] (spN RLetters)) (pB : Prom P w K mg base 3 "behind_in" ["way", "standing", "event"] (spR RBehind))
    (ml : mg "len" = none) (mi : mg "list" = none) (ck : CInt mg "MOST_PAIRS" 5000) : Prom P w K mg base 4 "all_in" ["way"] spAll :=
  D.prom fun f fd F => F.ok sc31 (fun vs H Q E h => by obtain ⟨W, R, v, rfl, _⟩ := h; rfl) fun cdv A outer s H vs Q E hr h => by
    obtain ⟨W, R, v, rfl, hv, ok, hR, hR5, q⟩ := h
    refine ⟨_, pss_cons (ps_par3 (i := 1) (j := 2) (l := 3) rfl sc31.nd rfl rfl rfl (by decide) (by decide) (by decide) rfl rfl rfl
        (pa_cons (pe_none1 encS hr.units (pe_pr pF (hr.mono (by decide)) (by rfl) (pa_cons (pv 0) pa_nil)) pe_bl) (pa_cons (pe_lst (pa_cons (pe_pr pF (hr.mono (by decide)) (by rfl) (pa_cons (pv 0) pa_nil)) pa_nil)) (pa_cons (pe_pr pL (hr.mono (by decide)) (by rfl) (pa_cons (pe_ix ix_tup (pv 0) pe_int (fun _ _ => rfl)) pa_nil)) pa_nil))) (by rfl))
      (pss_cons (ps_while PassesOwn.never (pt_cmpR (op_neD hr.units) (pv 2) (pe_lst pa_nil) (nomark _))
        (pss_cons (ps_set (i := 4) sc31.nd rfl (.inl rfl) (pe_lst pa_nil))
        (pss_cons (ps_for PassesOwn.never rfl (pi_list (pv 2)) (pg_name (i := 5) sc31.nd rfl (.inl rfl))
          (pss_cons (ps_for PassesOwn.never rfl (pi_list (pv 3)) (pg_name (i := 6) sc31.nd rfl (.inl rfl))
            (pss_cons (ps_set (i := 7) sc31.nd rfl (.inl rfl) (pe_pr pB hr (by rfl) (pa_cons (pv 0) (pa_cons (pv 5) (pa_cons (pv 6) pa_nil)))))
            (pss_one (ps_if (pt_cmpR (op_notInN encS hr.units) (pv 7) (pv 1) (by rfl))
              (pss_cons (ps_asg pe_bl (pg_sub (pv 1) (pv 7) (set_nd encS hr.units) (fun _ => rfl)))
              (pss_one (ps_expr (pe_bm PySem.F.plainAttrs_list PySem.F.slot_list_append PySem.F.type_list_append mt_append (pv 4) (pa_cons (pv 7) pa_nil))))) pss_nil))))
          (pss_one (ps_if (pt_cmpR op_gt (pe_callB (call_lenN encS) (by rfl) ml PySem.boot_len (pa_cons (pv 1) pa_nil)) (pe_ci ck (by rfl)) (nomark _)) pss_dead pss_nil))))
        (pss_one (ps_set (i := 2) sc31.nd rfl (.inl rfl) (pv 4))))))
      (pss_one (ps_ret (pe_callTy (call_listN encS rfl) (by rfl) mi PyProof.Rows.boot_list (pa_cons (pv 1) pa_nil))))), ?_⟩
    -- the first line
    have hs0 : ∀ {H' : Hp}, Ex H H' → Sl H' (start ["way", "found", "waiting", "letters", "later", "standing", "event", "there"] [v]) [some (.im (wyD W)), none, none, none, none, none, none, none] := fun {H'} e =>
      .cons ⟨v, rfl, Im.to hv (Tx.of e)⟩ (.cons trivial (.cons trivial (.cons trivial (.cons trivial (.cons trivial (.cons trivial (.cons trivial .nil)))))))
    have hfi : ∀ {K' : PySem.W.Frag}, De (tCall (spR RFirst) [] E0 (tCons (tVar 0) tNil)) [some (.im (wyD W)), none, none, none, none, none, none, none] (.im (stdD (MW.first W))) := fun {_} =>
      de_call (R := RFirst) (dea_cons (de_var (a := .im (wyD W)) rfl) dea_nil) ⟨W, rfl, ok, rfl⟩
    intro fa hfa
    refine hfi (K' := K) _ _ (hs0 (Evl.Ex.new hfa)) _ fun v1 H1 e1 q1 => ?_
    have hfa1 := e1 _ _ (upd_same (H := H) (a := fa) (o := NdO P w fa []))
    refine ⟨MW.first W, ⟨[], hfa1, .nil⟩, q1, fun H2 b2 t2 => ?_⟩
    have e2 : Ex H H2 := fun p o z => by
      rw [b2 p fun y => by rw [y, hfa] at z; cases z]
      exact e1 _ _ (Evl.Ex.new hfa p o z)
    refine hfi (K' := K) _ _ (hs0 e2) _ fun v3 H3 e3 q3 => ⟨by show 1 ≤ sizeLine; decide, fun wa hwa => ?_⟩
    have e4 := Evl.Ex.new (o := .lst [v3]) hwa
    refine den_call (R := RLetters) (dea_cons (de_ixT (j := 3) (de_var (a := .im (wyD W)) rfl) de_int rfl) dea_nil) ⟨W.wide, rfl, ok.w0, ok.w2, rfl⟩ _ _ (hs0 (e2.trans (e3.trans e4))) _ fun ea es H5 e5 hea h5 i5 => ⟨_, _, _, rfl, ?_⟩
    have t5 : TDw P w stdD H5 fa ([MW.first W].map fun x => (x, V.bl true)) := td_ex t2 ((e3.trans e4).trans e5)
    have w5 := e5 _ _ (upd_same (H := H3) (a := wa) (o := .lst [v3]))
    have iw5 : ImA H5 [v3] ([MW.first W].map stdD) := .one (Im.to q3 (Tx.of (e4.trans e5)))
    have e05 : Ex H H5 := (e2.trans (e3.trans e4)).trans e5
    show tSeq (tWhile _ _) _ _ [some v, some (.ref fa), some (.ref wa), some (.ref ea), none, none, none, none] H5
    -- the loop
    refine ⟨fun m σ H' => ∃ (ks ws : List Std) (wa : Addr) (x4 x5 x6 x7 : Option V), σ = [some v, some (.ref fa), some (.ref wa), some (.ref ea), x4, x5, x6, x7] ∧ m = 2 * (R.length - ks.length) + (if ws = [] then 0 else 1) ∧ Jo W ks ws ∧ Ex H H' ∧ TDw P w stdD H' fa (ks.map fun x => (x, V.bl true)) ∧ (∃ vs, H' wa = some (.lst vs) ∧ ImA H' vs (ws.map stdD)) ∧ (∃ es, H' ea = some (.lst es) ∧ ImA H' es ((events W.wide).map evD)),
      ⟨_, [MW.first W], [MW.first W], wa, none, none, none, none, rfl, rfl, Jo.start W, e05, t5, ⟨_, w5, iw5⟩, ⟨es, h5, i5⟩⟩, ?_⟩
    rintro m σ H6 ⟨ks, ws, wa, x4, x5, x6, x7, rfl, rfl, J, e06, t6, ⟨vs6, w6, iw6⟩, ⟨es6, h6, i6⟩⟩
    refine dt_test (de_neL (ds := ws.map stdD) (es := []) (sl := [none, none, some (.ls (ws.map stdD)), none, none, none, none, none]) (de_var rfl) (de_lst (ds := []) dea_nil (by simp)) (shaped_list lay_std dep_std (by decide) _) (by decide)) _ H6
      (.cons trivial (.cons trivial (.cons ⟨_, rfl, wa, vs6, rfl, w6, iw6⟩ (.cons trivial (.cons trivial (.cons trivial (.cons trivial (.cons trivial .nil)))))))) _ fun H7 e7 => ?_
    rw [eqv_nilD]
    by_cases hw : ws = []
    · -- done
      subst hw
      rw [if_neg (by simp)]
      refine ⟨.ref fa, rfl, fa, _, rfl, (td_ex t6 e7).rd, fun p us hp hi => ?_⟩
      have hpH : H p = none := by
        cases z : H p with
        | none => rfl
        | some o => rw [(e06.trans e7) _ _ z] at hp; cases hp
      refine q p us _ ks ((e06.trans e7).trans (Evl.Ex.new hp)) hpH upd_same ?_ J.nd J.fin
      have : ((ks.map fun x => (x, V.bl true)).map fun q => stdD q.1) = ks.map stdD := by rw [List.map_map]; rfl
      rw [this] at hi
      exact hi.to (Tx.of (Evl.Ex.new hp))
    · rw [if_pos (by simpa using hw)]
      refine ⟨fun σ' H' => ∃ (ks' ws' : List Std) (wa : Addr) (x4 x5 x6 x7 : Option V), σ' = [some v, some (.ref fa), some (.ref wa), some (.ref ea), x4, x5, x6, x7] ∧ Jo W ks' ws' ∧ ks'.length = ks.length + ws'.length ∧ Ex H H' ∧ TDw P w stdD H' fa (ks'.map fun x => (x, V.bl true)) ∧ (∃ vs, H' wa = some (.lst vs) ∧ ImA H' vs (ws'.map stdD)) ∧ (∃ es, H' ea = some (.lst es) ∧ ImA H' es ((events W.wide).map evD)),
        fun σ' H' => ?_, ?_⟩
      · rintro ⟨ks', ws', wa', x4, x5, x6, x7, rfl, J', hc, k1, k2, k3, k4⟩
        refine ⟨_, ?_, ks', ws', wa', x4, x5, x6, x7, rfl, rfl, J', k1, k2, k3, k4⟩
        have l1 := J'.le hR
        rw [if_neg hw]
        by_cases hw' : ws' = []
        · rw [if_pos hw']
          omega
        · rw [if_neg hw']
          have : 1 ≤ ws'.length := List.length_pos_iff.mpr hw'
          omega
      · -- later = []
        refine ⟨by decide, fun la hla => ?_⟩
        have e8 := Evl.Ex.new (o := .lst []) hla
        have hlaH : H la = none := by
          cases z : H la with
          | none => rfl
          | some o => rw [(e06.trans e7) _ _ z] at hla; cases hla
        have w7 := e7 _ _ w6
        have h7 := e7 _ _ h6
        have hfaH : H fa = none := hfa
        have A0 : AH P w H (upd H7 la (.lst [])) W fa wa la ea ks ws [] := ⟨(e06.trans e7).trans e8, td_ex t6 (e7.trans e8), ⟨vs6, e8 _ _ w7, iw6.to (Tx.of (e7.trans e8))⟩, ⟨[], upd_same, .nil⟩, ⟨es6, e8 _ _ h7, i6.to (Tx.of (e7.trans e8))⟩, hfaH, hlaH, ne_of_none w7 hla, ne_of_none h7 hla⟩
        refine ⟨.ref wa, rfl, wa, rfl, ⟨vs6, SqL.of (e8 _ _ w7)⟩, fun i m σ' H' => ∃ (ks' ls : List Std) (x5 x6 x7 : Option V), σ' = [some v, some (.ref fa), some (.ref wa), some (.ref ea), some (.ref la), x5, x6, x7] ∧ m = ws.length - i ∧ i ≤ ws.length ∧ Jn W ks.length ws i 0 ks' ls ∧ AH P w H H' W fa wa la ea ks' ws ls,
          ⟨_, ks, [], _, _, _, rfl, rfl, Nat.zero_le _, J.jn, A0⟩, ?_⟩
        rintro i m σ' H9 ⟨ks9, ls9, y5, y6, y7, rfl, rfl, hi, J9, A9⟩
        obtain ⟨vs9, w9, iw9⟩ := A9.wt
        have lw : vs9.length = ws.length := by rw [iw9.length, List.length_map]
        by_cases hlt : i < ws.length
        · refine .inr ⟨⟨vs9, vs9[i]'(by omega), SqL.of w9, List.getElem?_eq_getElem _⟩, fun σ' H' => ∃ (ks' ls : List Std) (x5 x6 x7 : Option V), σ' = [some v, some (.ref fa), some (.ref wa), some (.ref ea), some (.ref la), x5, x6, x7] ∧ Jn W ks.length ws (i + 1) 0 ks' ls ∧ AH P w H H' W fa wa la ea ks' ws ls, fun σ' H' => ?_, fun x H10 y => ?_⟩
          · rintro ⟨ks', ls, x5, x6, x7, rfl, g1, g2⟩
            exact ⟨ws.length - (i + 1), by omega, ks', ls, x5, x6, x7, rfl, rfl, by omega, g1, g2⟩
          · obtain ⟨rfl, yx⟩ := y
            obtain ⟨v5, hv5, iv5⟩ := iw9.at (i := i) (d := stdD ws[i]) (by rw [List.getElem?_map, List.getElem?_eq_getElem hlt]; rfl)
            obtain rfl : x = v5 := Option.some.inj ((yx _ (SqL.of w9)).symm.trans hv5)
            obtain ⟨es9, h9, i9⟩ := A9.et
            have hxi : ws[i]? = some ws[i] := List.getElem?_eq_getElem hlt
            have hlx : (ws[i]).2.2.length = W.steps.length := (J9.re _ (J9.wsub _ (List.getElem_mem hlt))).len
            generalize ws[i] = sx at iv5 hxi hlx
            -- the events
            show tSeq (tFor _ _ _) _ _ [some v, some (.ref fa), some (.ref wa), some (.ref ea), some (.ref la), some x, y6, y7] H10
            refine ⟨.ref ea, rfl, ea, rfl, ⟨es9, SqL.of h9⟩, fun j m σ' H' => ∃ (ks' ls : List Std) (x6 x7 : Option V), σ' = [some v, some (.ref fa), some (.ref wa), some (.ref ea), some (.ref la), some x, x6, x7] ∧ m = (events W.wide).length - j ∧ j ≤ (events W.wide).length ∧ Jn W ks.length ws i j ks' ls ∧ AH P w H H' W fa wa la ea ks' ws ls ∧ Im H' x (stdD sx),
              ⟨_, ks9, ls9, y6, y7, rfl, rfl, Nat.zero_le _, J9, A9, iv5⟩, ?_⟩
            rintro j m σ' H11 ⟨ks11, ls11, z6, z7, rfl, rfl, hj, J11, A11, iv11⟩
            obtain ⟨es11, h11, i11⟩ := A11.et
            have le : es11.length = (events W.wide).length := by rw [i11.length, List.length_map]
            by_cases hjt : j < (events W.wide).length
            · refine .inr ⟨⟨es11, es11[j]'(by omega), SqL.of h11, List.getElem?_eq_getElem _⟩, fun σ' H' => ∃ (ks' ls : List Std) (x6 x7 : Option V), σ' = [some v, some (.ref fa), some (.ref wa), some (.ref ea), some (.ref la), some x, x6, x7] ∧ Jn W ks.length ws i (j + 1) ks' ls ∧ AH P w H H' W fa wa la ea ks' ws ls ∧ Im H' x (stdD sx), fun σ' H' => ?_, fun y H12 yy => ?_⟩
              · rintro ⟨ks', ls, x6, x7, rfl, g1, g2, g3⟩
                exact ⟨(events W.wide).length - (j + 1), by omega, ks', ls, x6, x7, rfl, rfl, by omega, g1, g2, g3⟩
              · obtain ⟨rfl, yx⟩ := yy
                obtain ⟨v6, hv6, iv6⟩ := i11.at (i := j) (d := evD (events W.wide)[j]) (by rw [List.getElem?_map, List.getElem?_eq_getElem hjt]; rfl)
                obtain rfl : y = v6 := Option.some.inj ((yx _ (SqL.of h11)).symm.trans hv6)
                have hej : (events W.wide)[j]? = some (events W.wide)[j] := List.getElem?_eq_getElem hjt
                generalize (events W.wide)[j] = ev at iv6 hej
                -- there = behind_in(..)
                refine de_call (R := RBehind) (a := .im (stdD (MW.behind W sx ev))) (sl := [some (.im (wyD W)), none, none, none, none, some (.im (stdD sx)), some (.im (evD ev)), none]) (dea_cons (de_var (a := .im (wyD W)) rfl) (dea_cons (de_var (a := .im (stdD sx)) rfl) (dea_cons (de_var (a := .im (evD ev)) rfl) dea_nil))) ⟨W, sx, ev, rfl, ok, hlx, rfl⟩ _ H12
                  (.cons ⟨v, rfl, Im.to hv (Tx.of A11.ex)⟩ (.cons trivial (.cons trivial (.cons trivial (.cons trivial (.cons ⟨x, rfl, iv11⟩ (.cons ⟨y, rfl, iv6⟩ (.cons trivial .nil)))))))) _ fun tv H13 e13 q13 => ?_
                have A13 := A11.to e13
                have q13 : Im H13 tv (stdD (MW.behind W sx ev)) := q13
                have lk := J11.le hR
                -- there not in found
                refine ⟨tv, rfl, .ref fa, rfl, fa, _, MW.behind W sx ev, rfl, A13.td.rd, q13, _, rfl, ?_⟩
                rw [valV_keys]
                by_cases hin : MW.behind W sx ev ∈ ks11
                · rw [if_pos hin]
                  show (if (!(Option.isSome (some (V.bl true)))) = true then _ else _)
                  rw [if_neg (by decide : ¬ ((!(Option.isSome (some (V.bl true)))) = true))]
                  exact ⟨ks11, ls11, _, _, rfl, J11.old hxi hej hin, A13, Im.to iv11 (Tx.of e13)⟩
                · rw [if_neg hin]
                  show (if (!(Option.isSome (none : Option V))) = true then _ else _)
                  rw [if_pos (by decide : (!(Option.isSome (none : Option V))) = true)]
                  refine ⟨.ref fa, rfl, tv, rfl, fa, _, MW.behind W sx ev, rfl, A13.td, q13, ?_, fun H14 b14 t14 => ?_⟩
                  · rw [List.length_map]
                    exact Nat.lt_of_le_of_lt (Nat.le_trans lk hR5) (by decide)
                  · obtain ⟨us, l13, il13⟩ := A13.lt
                    have tx14 : Tx H13 H14 := b14.tx fun xs => by
                      obtain ⟨ys, hy⟩ := A13.td.some
                      exact nd_notup hy xs
                    have l14 : H14 la = some (.lst us) := by
                      rw [b14 la (nd_nelst A13.td l13)]
                      exact l13
                    refine ⟨.ref la, rfl, .inl ⟨rfl, us, SqL.of l14⟩, tv, rfl, la, us, tv, rfl, rfl, l14, ?_, ?_⟩
                    · have h1 := J11.cnt
                      rw [il13.length, List.length_map]
                      exact Evl.sz_lt (by omega)
                    · exact ⟨_, _, _, _, rfl, J11.new hxi hej hin, A13.put b14 t14 hin l14 (il13.to tx14) (Im.to q13 tx14), Im.to iv11 ((Tx.of e13).trans (tx14.trans (tx_lst l14)))⟩
            · -- the events are through
              have : j = (events W.wide).length := by omega
              subst this
              refine .inl ⟨⟨es11, SqL.of h11, by omega⟩, ?_⟩
              have lk := J11.le hR
              refine ⟨.ref fa, rfl, fa, _, rfl, A11.td.rd, _, _, rfl, rfl, _, rfl, ?_⟩
              have e5000 : decide ((5000 : Int) < ((ks11.map fun x => (x, V.bl true)).length : Nat)) = false := decide_eq_false (by rw [List.length_map]; omega)
              show (if (decide ((5000 : Int) < ((ks11.map fun x => (x, V.bl true)).length : Nat))) = true then _ else _)
              rw [if_neg (by rw [e5000]; decide)]
              exact ⟨ks11, ls11, _, _, _, rfl, J11.next hxi, A11⟩
        · have : i = ws.length := by omega
          subst this
          refine .inl ⟨⟨vs9, SqL.of w9, by omega⟩, ?_⟩
          refine ⟨.ref la, rfl, ?_⟩
          exact ⟨ks9, ls9, la, _, _, _, _, rfl, J9.done, J9.cnt, A9.ex, A9.td, A9.lt, A9.et⟩
end
end WZ
/-! parting classes, in plain Lean -/
namespace MW
open KC
section
variable {α β γ : Type} [DecidableEq β] [DecidableEq γ]
theorem cnt_cons (a : β) (l : List β) : cnt (a :: l) = if a ∈ l then cnt l else cnt l + 1 := by
  by_cases h : a ∈ l
  · rw [if_pos h]
    exact cnt_congr fun x => by
      rw [List.mem_cons]
      exact ⟨fun q => q.elim (fun e => e ▸ h) id, .inr⟩
  · rw [if_neg h]
    have : (a :: dd l).length = cnt (a :: l) := cnt_of (List.nodup_cons.mpr ⟨fun q => h (mem_dd.mp q), nodup_dd l⟩) fun x => by
      rw [List.mem_cons, List.mem_cons, mem_dd]
    rw [← this]
    rfl
theorem cnt_snoc (a : β) (l : List β) : cnt (l ++ [a]) = if a ∈ l then cnt l else cnt l + 1 := by
  rw [← cnt_cons]
  exact cnt_congr fun x => by
    rw [List.mem_append, List.mem_singleton, List.mem_cons]
    exact Or.comm
theorem cnt_nil : cnt ([] : List β) = 0 := rfl
theorem cnt_factor {f : α → β} {g : α → γ} : ∀ {l : List α}, (∀ x ∈ l, ∀ y ∈ l, g x = g y → f x = f y) → cnt (l.map f) ≤ cnt (l.map g)
  | [], _ => Nat.le_refl _
  | a :: l, h => by
    have ih := cnt_factor (l := l) fun x hx y hy => h x (List.mem_cons_of_mem _ hx) y (List.mem_cons_of_mem _ hy)
    rw [List.map_cons, List.map_cons, cnt_cons, cnt_cons]
    by_cases c : f a ∈ l.map f
    · rw [if_pos c]
      split <;> omega
    · rw [if_neg c]
      have : g a ∉ l.map g := fun q => by
        obtain ⟨y, hy, e⟩ := List.mem_map.mp q
        exact c (List.mem_map.mpr ⟨y, hy, h y (List.mem_cons_of_mem _ hy) a (List.mem_cons_self ..) e⟩)
      rw [if_neg this]
      omega
theorem cnt_same {f : α → β} {g : α → γ} {l : List α} (h : ∀ x ∈ l, ∀ y ∈ l, (f x = f y ↔ g x = g y)) : cnt (l.map f) = cnt (l.map g) :=
  Nat.le_antisymm (cnt_factor fun x hx y hy e => (h x hx y hy).mpr e) (cnt_factor fun x hx y hy e => (h x hx y hy).mp e)
end
/-- what is seen of x along all words of length at most k -/
def beh {α : Type} (row : α → List α) (m0 : α → Int) : Nat → α → List Int
  | 0, x => [m0 x]
  | k + 1, x => beh row m0 k x ++ (row x).flatMap (beh row m0 k)
section
variable {α : Type} {row : α → List α} {m0 : α → Int}
theorem beh_len {r : Nat} (hr : ∀ x, (row x).length = r) : ∀ k x y, (beh row m0 k x).length = (beh row m0 k y).length
  | 0, x, y => rfl
  | k + 1, x, y => by
    have ih := beh_len hr k
    have fl : ∀ l : List α, (l.flatMap (beh row m0 k)).length = l.length * (beh row m0 k x).length := fun l => by
      induction l with
      | nil => simp
      | cons a l ih2 =>
        rw [List.flatMap_cons, List.length_append, ih2, ih a x, List.length_cons, Nat.succ_mul]
        omega
    show (beh row m0 k x ++ _).length = (beh row m0 k y ++ _).length
    rw [List.length_append, List.length_append, fl, fl, hr, hr, ih x y]
theorem flat_inj {f : α → List Int} (hf : ∀ x y, (f x).length = (f y).length) : ∀ {l m : List α}, l.length = m.length → (l.flatMap f = m.flatMap f ↔ l.map f = m.map f)
  | [], [], _ => by simp
  | [], _ :: _, h => by simp at h
  | _ :: _, [], h => by simp at h
  | a :: l, b :: m, h => by
    rw [List.flatMap_cons, List.flatMap_cons, List.map_cons, List.map_cons]
    constructor
    · intro e
      obtain ⟨e1, e2⟩ := List.append_inj e (hf a b)
      rw [e1, (flat_inj hf (by simpa using h)).mp e2]
    · intro e
      rw [List.cons.injEq] at e
      rw [e.1, (flat_inj hf (by simpa using h)).mpr e.2]
theorem beh_succ {r : Nat} (hr : ∀ x, (row x).length = r) (k : Nat) (x y : α) : beh row m0 (k + 1) x = beh row m0 (k + 1) y ↔ beh row m0 k x = beh row m0 k y ∧ (row x).map (beh row m0 k) = (row y).map (beh row m0 k) := by
  show beh row m0 k x ++ _ = beh row m0 k y ++ _ ↔ _
  constructor
  · intro e
    obtain ⟨e1, e2⟩ := List.append_inj e (beh_len hr k x y)
    exact ⟨e1, (flat_inj (beh_len hr k) (by rw [hr, hr])).mp e2⟩
  · rintro ⟨e1, e2⟩
    rw [e1, (flat_inj (beh_len hr k) (by rw [hr, hr])).mpr e2]
/-- how many classes at depth k -/
def Nk (row : α → List α) (m0 : α → Int) (ks : List α) (k : Nat) : Nat := cnt (ks.map (beh row m0 k))
theorem Nk_mono {r : Nat} (hr : ∀ x, (row x).length = r) (ks : List α) (k : Nat) : Nk row m0 ks k ≤ Nk row m0 ks (k + 1) :=
  cnt_factor fun x _ y _ e => ((beh_succ hr k x y).mp e).1
theorem Nk_le (ks : List α) (k : Nat) : Nk row m0 ks k ≤ ks.length := Nat.le_trans (cnt_le _) (by rw [List.length_map]; exact Nat.le_refl _)
theorem Nk_pos {ks : List α} (h : ks ≠ []) (k : Nat) : 0 < Nk row m0 ks k := by
  obtain ⟨a, l, rfl⟩ : ∃ a l, ks = a :: l := by
    cases ks with
    | nil => exact absurd rfl h
    | cons a l => exact ⟨a, l, rfl⟩
  unfold Nk
  rw [List.map_cons, cnt_cons]
  split
  · rename_i c
    obtain ⟨y, hy, e⟩ := List.mem_map.mp c
    have : 0 < (dd (l.map (beh row m0 k))).length := List.length_pos_iff.mpr fun z => by
      have := mem_dd.mpr c
      rw [z] at this
      cases this
    exact this
  · omega
end
/-- the number at which no class parts any more -/
def IsSz (N : Nat → Nat) (n : Nat) : Prop := ∃ k, (∀ j, j < k → N j < N (j + 1)) ∧ N (k + 1) ≤ N k ∧ n = N k
theorem IsSz.unique {N M : Nat → Nat} {n m : Nat} (h : IsSz N n) (h2 : IsSz M m) (e : ∀ k, N k = M k) : n = m := by
  obtain ⟨k, a1, a2, rfl⟩ := h
  obtain ⟨l, b1, b2, rfl⟩ := h2
  have : k = l := by
    rcases Nat.lt_trichotomy k l with c | c | c
    · have := b1 k c
      rw [e, e] at a2
      omega
    · exact c
    · have := a1 l c
      rw [e, e] at this
      omega
  rw [this, e]
/-- the marks part as beh k does -/
def Parts {α : Type} (row : α → List α) (m0 : α → Int) (ks : List α) (k : Nat) (m : α → Int) : Prop := ∀ x ∈ ks, ∀ y ∈ ks, (m x = m y ↔ beh row m0 k x = beh row m0 k y)
section
variable {α : Type} {row : α → List α} {m0 : α → Int} {ks : List α}
theorem Parts.zero : Parts row m0 ks 0 m0 := fun x _ y _ => by simp [beh]
theorem Parts.cnt {k : Nat} {m : α → Int} (h : Parts row m0 ks k m) : cnt (ks.map m) = Nk row m0 ks k := cnt_same h
theorem map_eq_iff {β γ : Type} {f : α → β} {g : α → γ} : ∀ {l l2 : List α}, (∀ x ∈ l, ∀ y ∈ l2, (f x = f y ↔ g x = g y)) → l.length = l2.length → (l.map f = l2.map f ↔ l.map g = l2.map g)
  | [], [], _, _ => by simp
  | [], _ :: _, _, h => by simp at h
  | _ :: _, [], _, h => by simp at h
  | a :: l, b :: m, h, hl => by
    rw [List.map_cons, List.map_cons, List.map_cons, List.map_cons, List.cons.injEq, List.cons.injEq, h a (List.mem_cons_self ..) b (List.mem_cons_self ..), map_eq_iff (fun x hx y hy => h x (List.mem_cons_of_mem _ hx) y (List.mem_cons_of_mem _ hy)) (by simpa using hl)]
/-- one turn: the new marks part by the old ones and those of the row -/
theorem Parts.step {r k : Nat} {m m' : α → Int} (hr : ∀ x, (row x).length = r) (hcl : ∀ x ∈ ks, ∀ y ∈ row x, y ∈ ks) (h : Parts row m0 ks k m) (hm : ∀ x ∈ ks, ∀ y ∈ ks, (m' x = m' y ↔ m x :: (row x).map m = m y :: (row y).map m)) : Parts row m0 ks (k + 1) m' := fun x hx y hy => by
  rw [hm x hx y hy, beh_succ hr, List.cons.injEq, h x hx y hy, map_eq_iff (fun a ha b hb => h a (hcl x hx a ha) b (hcl y hy b hb)) (by rw [hr, hr])]
end
end MW
namespace MW
open PySem PySem.Spec PyProof.Rows L2 KB KC KD KV
/-- where a stands -/
def posn {β : Type} [DecidableEq β] : List β → β → Nat
  | [], _ => 0
  | x :: l, a => if x = a then 0 else posn l a + 1
theorem posn_inj {β : Type} [DecidableEq β] {a b : β} : ∀ {l : List β}, a ∈ l → b ∈ l → posn l a = posn l b → a = b
  | [], h, _, _ => by cases h
  | x :: l, h1, h2, e => by
    unfold posn at e
    by_cases c1 : x = a
    · by_cases c2 : x = b
      · exact c1.symm.trans c2
      · rw [if_pos c1, if_neg c2] at e
        omega
    · by_cases c2 : x = b
      · rw [if_neg c1, if_pos c2] at e
        omega
      · rw [if_neg c1, if_neg c2] at e
        exact posn_inj ((List.mem_cons.mp h1).resolve_left fun z => c1 z.symm) ((List.mem_cons.mp h2).resolve_left fun z => c2 z.symm) (by omega)
theorem valV_pos_zip {β : Type} [DecidableEq β] (a : β) : ∀ (l : List β) (n : Nat), valV ((l.zipIdx n).map fun p => (p.1, V.int (p.2 : Int))) a = if a ∈ l then some (V.int ((n + posn l a : Nat) : Int)) else none
  | [], _ => rfl
  | x :: l, n => by
    rw [List.zipIdx_cons, List.map_cons]
    by_cases c : x = a
    · rw [valV_pos c, if_pos (by rw [c]; exact List.mem_cons_self ..)]
      unfold posn
      rw [if_pos c]
      rfl
    · rw [valV_neg c, valV_pos_zip a l (n + 1)]
      have : (a ∈ x :: l) ↔ a ∈ l := by
        rw [List.mem_cons]
        exact ⟨fun h => h.resolve_left fun e => c e.symm, .inr⟩
      have e2 : posn (x :: l) a = posn l a + 1 := by
        show (if x = a then 0 else posn l a + 1) = _
        rw [if_neg c]
      simp only [this, e2]
      rw [show n + 1 + posn l a = n + (posn l a + 1) by omega]
theorem valV_fn {κ : Type} [DecidableEq κ] (f : κ → V) (a : κ) : ∀ ks : List κ, valV (ks.map fun x => (x, f x)) a = if a ∈ ks then some (f a) else none
  | [] => rfl
  | k :: ks => by
    by_cases c : k = a
    · rw [List.map_cons, valV_pos c, if_pos (by rw [c]; exact List.mem_cons_self ..), c]
    · rw [List.map_cons, valV_neg c, valV_fn f a ks]
      have : (a ∈ k :: ks) ↔ a ∈ ks := by
        rw [List.mem_cons]
        exact ⟨fun h => h.resolve_left fun e => c e.symm, .inr⟩
      simp only [this]
def tupI (l : List Int) : PyData := .tuple (l.map .int)
theorem tupI_inj {a b : List Int} (h : nk (tupI a) = nk (tupI b)) : a = b := by
  simp only [tupI, nk, NestedKey.tup.injEq] at h
  exact nkA_inj (fun x y e => by simpa [nk] using e) h
theorem encT : Enc tupI := ⟨fun a => ⟨_, rfl⟩, fun a => by
    show NestedKey.depthAll (nkA (a.map .int)) + 1 ≤ 8
    have := depthAll_le (f := PyData.int) (n := 0) (fun _ => Nat.le_refl _) a
    omega, fun a b h => tupI_inj h⟩
end MW
namespace WZ
open PySem PySem.Spec PyProof.Rows L2 KB KC KD KV MW
open Evl (Ex EvT)
open StX (tStar)
/-- all but d stays -/
def Lx (d : Addr) (H H' : Hp) : Prop := ∀ b o, b ≠ d → H b = some o → H' b = some o
theorem Lx.refl (d : Addr) (H : Hp) : Lx d H H := fun _ _ _ h => h
theorem Lx.trans {d : Addr} {H H1 H2 : Hp} (a : Lx d H H1) (b : Lx d H1 H2) : Lx d H H2 := fun x o n h => b x o n (a x o n h)
theorem Lx.of {d : Addr} {H H' : Hp} (e : Ex H H') : Lx d H H' := fun b o _ h => e b o h
theorem Lx.lock {d : Addr} {H : Hp} {o : HO} : Lx d H (upd H d o) := fun b x n h => by
  rw [upd_ne n]
  exact h
theorem Lx.mut {d D : Addr} {H H' : Hp} {u : HO} (a : Lx d H H') (h : H D = none) : Lx d H (upd H' D u) := fun b o n q => by
  rw [upd_ne (ne_of_none q h)]
  exact a b o n q
theorem Lx.tx {d : Addr} {H H' : Hp} (a : Lx d H H') (h : ∀ xs, H d ≠ some (.tup xs)) : Tx H H' := fun x xs e => a x _ (fun z => h xs (by rw [← z]; exact e)) e
theorem Lx.unlock {d : Addr} {H H' : Hp} {u : HO} (a : Lx d H H') (h : H d = some u) : Ex H (upd H' d u) := fun b o e => by
  by_cases c : b = d
  · subst c
    rw [upd_same, ← h]
    exact e
  · rw [upd_ne c]
    exact a b o c e
theorem at_set {σ : L2.St} {i j : Nat} {v : V} (h : j ≠ i) : ((L2.wipe σ [j]).set j (some v))[i]? = σ[i]? := by
  rw [List.getElem?_set_ne h]
  exact L2.wipe_out (by simpa using h.symm)
theorem at_self {σ : L2.St} {j : Nat} {v : V} (h : j < σ.length) : ((L2.wipe σ [j]).set j (some v))[j]? = some (some v) := by
  rw [List.getElem?_set_self (by rw [L2.wipe_length]; exact h)]
theorem tYes_if {σ : L2.St} {H : Hp} {p q : Hp → Prop} (h : p H) : tYes σ H (fun b H3 => if b = true then p H3 else q H3) := by
  show (if true = true then p H else q H)
  rw [if_pos rfl]
  exact h
section
variable {P : Program} {w : World} {K : PySem.W.Frag} {α : Type} [DecidableEq α] {en : α → PyData}
/-- len({x for x in d.values()}) -/
theorem rd_lenVals {σ : L2.St} {H : Hp} {i j : Nat} {d : Addr} {ks : List α} {m : α → Int} {Q : VK} (hi : σ[i]? = some (some (.ref d))) (t : TDw P w en H d (ks.map fun x => (x, .int (m x)))) (hk : ks.length ≤ 4000) (hj : j < σ.length) (q : ∀ H2, Ex H H2 → Q (.int (cnt (ks.map m) : Nat)) H2) :
    tCB rLenSet (tCons (tLockE (tCm (fun _ => .set (fun _ => false) 0) (iValN P w en (tVar i)) (gName j) tYes (tcS (tVar j)) [j])) tNil) σ H Q := by
  obtain ⟨xs, hx, ents⟩ := t
  refine ⟨d, NdO P w d xs, hx, trivial, fun od => ⟨.ref d, hi, d, od, ks.map fun x => (x, .int (m x)), rfl, ⟨xs, upd_same, ents.to (Lx.lock.tx (nd_notup hx))⟩, fun D hD => ?_⟩⟩
  have hDd : D ≠ d := fun z => by rw [z, upd_same] at hD; cases hD
  have hDH : H D = none := by rw [upd_ne hDd] at hD; exact hD
  refine ⟨fun i' n H' => n = ks.length - i' ∧ i' ≤ ks.length ∧ H' d = some (.frz od (NdO P w d xs)) ∧ Lx d H H' ∧ ∃ S, H' D = some (.set S (cnt ((ks.take i').map m))) ∧ ∀ k, S k = true ↔ k ∈ (ks.take i').map m,
    ⟨_, rfl, Nat.zero_le _, by rw [upd_ne hDd.symm, upd_same], Lx.lock.trans (Lx.of (Evl.Ex.new hD)), _, upd_same, fun k => by simp⟩, ?_⟩
  rintro i' n H' ⟨rfl, hle, hf, lx, S, hS, hSk⟩
  have tf : TDf P w en H' d od (ks.map fun x => (x, .int (m x))) := ⟨xs, hf, ents.to (lx.tx (nd_notup hx))⟩
  by_cases hlt : i' < ks.length
  · refine .inr ⟨⟨tf, by rw [List.length_map]; exact hlt⟩, fun H' => H' d = some (.frz od (NdO P w d xs)) ∧ Lx d H H' ∧ ∃ S, H' D = some (.set S (cnt ((ks.take (i' + 1)).map m))) ∧ ∀ k, S k = true ↔ k ∈ (ks.take (i' + 1)).map m, fun H' h => ⟨ks.length - (i' + 1), by omega, rfl, hlt, h⟩, fun x H2 y => ?_⟩
    obtain ⟨rfl, p, hp, rfl⟩ := y
    rw [List.getElem?_map, List.getElem?_eq_getElem hlt] at hp
    cases hp
    have etake : (ks.take (i' + 1)).map m = (ks.take i').map m ++ [m ks[i']] := by rw [List.take_add_one, List.getElem?_eq_getElem hlt, List.map_append]; rfl
    refine ⟨wipe_set (by simp), ?_⟩
    refine tYes_if ?_
    refine ⟨_, at_self hj, m ks[i'], S, _, rfl, hS, ?_, by rw [upd_ne hDd.symm]; exact hf, lx.mut hDH, fun j => S j || decide (j = m ks[i']), ?_, fun k => ?_⟩
    · have := KC.cnt_le ((ks.take i').map m)
      rw [List.length_map, List.length_take] at this
      unfold scanBound
      omega
    · rw [upd_same, etake, cnt_snoc]
      by_cases c : m ks[i'] ∈ (ks.take i').map m
      · rw [if_pos c, if_pos ((hSk _).mpr c)]
      · rw [if_neg c, if_neg fun z => c ((hSk _).mp z)]
    · rw [etake, Bool.or_eq_true, hSk, List.mem_append, decide_eq_true_iff, List.mem_singleton]
  · have : i' = ks.length := by omega
    subst this
    rw [List.take_length] at hS
    refine .inl ⟨⟨tf, by rw [List.length_map]⟩, hf, D, S, _, rfl, by rw [upd_ne hDd]; exact hS, q _ (lx.unlock hx)⟩
/-- (marks[x], *[marks[y] for y in row]) -/
theorem rd_sig {σ : L2.St} {H : Hp} {im it ir iy : Nat} {md ra : Addr} {v : V} {us : List V} {x : α} {row ks : List α} {m : α → Int} {Q : VK} (hm : σ[im]? = some (some (.ref md))) (ht : σ[it]? = some (some v)) (hr : σ[ir]? = some (some (.ref ra))) (hy : iy < σ.length) (nm : iy ≠ im) (nr : iy ≠ ir)
    (hv : Im H v (en x)) (h1 : H ra = some (.lst us)) (h2 : ImA H us (row.map en)) (t : TDw P w en H md (ks.map fun x => (x, .int (m x)))) (hx : x ∈ ks) (hrow : ∀ y ∈ row, y ∈ ks) (hl : row.length ≤ 1000)
    (q : ∀ p H2, Ex H H2 → H2 p = some (.tup ((m x :: row.map m).map V.int)) → Q (.ref p) H2) :
    tTup (tCons (tOp (rNGet P w en) (tVar im) (tVar it)) (tStar K (tLc (iList K (tVar ir)) (gName iy) tYes (tOp (rNGet P w en) (tVar im) (tVar iy)) [iy]) tNil)) σ H Q := by
  refine ⟨_, hm, v, ht, md, _, x, .int (m x), rfl, t.rd, hv, by rw [valV_fn, if_pos hx], ?_⟩
  refine ⟨_, hr, ra, rfl, ⟨us, SqL.of h1⟩, fun D hD => ?_⟩
  have lus : us.length = row.length := by rw [h2.length, List.length_map]
  refine ⟨fun i n H' => n = row.length - i ∧ i ≤ row.length ∧ Ex H H' ∧ H' D = some (.lst (((row.take i).map m).map V.int)), ⟨_, rfl, Nat.zero_le _, Evl.Ex.new hD, upd_same⟩, ?_⟩
  rintro i n H' ⟨rfl, hle, e, hDl⟩
  by_cases hlt : i < row.length
  · refine .inr ⟨⟨us, us[i]'(by omega), SqL.of (e _ _ h1), List.getElem?_eq_getElem _⟩, fun H' => Ex H H' ∧ H' D = some (.lst (((row.take (i + 1)).map m).map V.int)), fun H' h => ⟨row.length - (i + 1), by omega, rfl, hlt, h⟩, fun z H2 y => ?_⟩
    obtain ⟨rfl, yz⟩ := y
    obtain ⟨v2, hv2, iv2⟩ := h2.at (i := i) (d := en row[i]) (by rw [List.getElem?_map, List.getElem?_eq_getElem hlt]; rfl)
    obtain rfl : z = v2 := Option.some.inj ((yz _ (SqL.of (e _ _ h1))).symm.trans hv2)
    refine ⟨wipe_set (by simp), ?_⟩
    refine tYes_if ?_
    refine ⟨_, by rw [at_set nm]; exact hm, z, at_self hy, md, _, row[i], .int (m row[i]), rfl, (td_ex t e).rd, Im.to iv2 (Tx.of e), by rw [valV_fn, if_pos (hrow _ (List.getElem_mem hlt))], _, hDl, ?_, Evl.Ex.mut e hD, ?_⟩
    · rw [List.length_map, List.length_map, List.length_take]
      exact Evl.sz_lt (by omega)
    · rw [upd_same, List.take_add_one, List.getElem?_eq_getElem hlt, List.map_append, List.map_append]
      rfl
  · have : i = row.length := by omega
    subst this
    rw [List.take_length] at hDl
    refine .inl ⟨⟨us, SqL.of (e _ _ h1), by omega⟩, D, _, rfl, .inr (SqL.of hDl), ?_, fun p hp => ?_⟩
    · rw [List.append_nil, List.length_cons, List.length_map, List.length_map]
      exact Evl.sz_of (by omega)
    · refine q p _ (e.trans (Evl.Ex.new hp)) ?_
      rw [upd_same, List.append_nil]
      rfl
/-- rows: a dict of lists -/
def RowsOk (en : α → PyData) (row : α → List α) (H : Hp) (L : List (α × V)) (ks : List α) : Prop := Paired (fun (p : α × V) (x : α) => p.1 = x ∧ ∃ a us, p.2 = .ref a ∧ H a = some (.lst us) ∧ ImA H us ((row x).map en)) L ks
theorem RowsOk.to {row : α → List α} {H H' : Hp} {L : List (α × V)} {ks : List α} (h : RowsOk en row H L ks) (e : Ex H H') : RowsOk en row H' L ks := Paired.mapP h fun p x q => ⟨q.1, let ⟨a, us, z1, z2, z3⟩ := q.2; ⟨a, us, z1, e _ _ z2, z3.to (Tx.of e)⟩⟩
/-- a dict of tuples of ints -/
def SigOk (sg : α → List Int) (H : Hp) (L : List (α × V)) (ks : List α) : Prop := Paired (fun (p : α × V) (x : α) => p.1 = x ∧ ∃ a, p.2 = .ref a ∧ H a = some (.tup ((sg x).map V.int))) L ks
theorem SigOk.to {sg : α → List Int} {H H' : Hp} {L : List (α × V)} {ks : List α} (h : SigOk sg H L ks) (e : Tx H H') : SigOk sg H' L ks := Paired.mapP h fun p x q => ⟨q.1, let ⟨a, z1, z2⟩ := q.2; ⟨a, z1, e _ _ z2⟩⟩
theorem paired_keys {F : α → V → Prop} {L : List (α × V)} {ks : List α} (h : Paired (fun (p : α × V) (x : α) => p.1 = x ∧ F x p.2) L ks) : L.map (·.1) = ks := by
  induction h with
  | nil => rfl
  | cons q _ ih => rw [List.map_cons, ih, q.1]
theorem paired_snoc {β γ : Type} {F : β → γ → Prop} {l : List β} {m : List γ} {x : β} {y : γ} (h : Paired F l m) (q : F x y) : Paired F (l ++ [x]) (m ++ [y]) := by
  induction h with
  | nil => exact .cons q .nil
  | cons r _ ih => exact .cons r ih
theorem paired_at {β γ : Type} {F : β → γ → Prop} {l : List β} {m : List γ} (h : Paired F l m) : ∀ {i : Nat} {x : β}, l[i]? = some x → ∃ y, m[i]? = some y ∧ F x y := by
  induction h with
  | nil => intro i x e; simp at e
  | cons r _ ih =>
    intro i x e
    cases i with
    | zero => cases e; exact ⟨_, rfl, r⟩
    | succ i => exact ih (by simpa using e)
theorem valV_nokey {ks : List α} {L : List (α × V)} {a : α} (e : L.map (·.1) = ks) (h : a ∉ ks) : valV L a = none := by
  cases c : valV L a with
  | none => rfl
  | some v => exact absurd (valV_in c) (by rw [e]; exact h)
end
end WZ
namespace WZ
open PySem PySem.Spec PyProof.Rows L2 KB KC KD KV MW
open Evl (Ex EvT)
open StX (tStar)
section
variable {P : Program} {w : World} {K : PySem.W.Frag} {α : Type} [DecidableEq α] {en : α → PyData}
/-- what stands though a dict at D is written -/
def DMono (P : Program) (w : World) (F : Hp → α → V → Prop) : Prop := ∀ (H H' : Hp) (D : Addr) (x : α) (z : V), (∃ xs, H D = some (NdO P w D xs)) → Lx D H H' → F H x z → F H' x z
theorem dictC_core {σ : L2.St} {H1 : Hp} {wi : TI} {g : TG} {tk tv : TE} {vs : List Nat} {J : It} {ks : List α} {F : Hp → α → V → Prop} {Q : VK} {H : Hp} (e01 : Ex H H1) (hF : DMono P w F) (hF2 : ∀ H H' x z, Ex H H' → F H x z → F H' x z) (nd : ks.Nodup) (hl : ks.length ≤ 4000)
    (go : ∀ i H, Ex H1 H → i < ks.length → J.go i H) (stop : ∀ H, Ex H1 H → J.stop ks.length H)
    (step : ∀ (i : Nat) (hi : i < ks.length) (H : Hp) (x : V) (H' : Hp), Ex H1 H → J.yld i H x H' → Ex H H' ∧ ∀ R : L2.St → Hp → Prop, (∀ σ2, L2.wipe σ2 vs = L2.wipe σ vs →
      (∀ Q2 : V → V → Hp → Prop, (∀ y z H3, Ex H' H3 → Im H3 y (en ks[i]) → F H3 ks[i] z → Q2 y z H3) → tk σ2 H' fun y Ha => tv σ2 Ha fun z Hb => Q2 y z Hb) → R σ2 H') → g x (L2.wipe σ vs) H' R)
    (q : ∀ D H2 Lf, H1 D = none → Ex H1 H2 → TDw P w en H2 D Lf → Paired (fun (p : α × V) (x : α) => p.1 = x ∧ F H2 x p.2) Lf ks → Q (.ref D) H2) :
    ∀ D, H1 D = none → ∃ W : Nat → Nat → Hp → Prop, (∃ m, W 0 m (upd H1 D (NdO P w D []))) ∧ ∀ i m H, W i m H →
      (J.stop i H ∧ Q (.ref D) H) ∨ (J.go i H ∧ ∃ Nx : Hp → Prop, (∀ H', Nx H' → ∃ m', m' < m ∧ W (i + 1) m' H') ∧ ∀ x H', J.yld i H x H' → g x (L2.wipe σ vs) H' fun σ2 H2 => L2.wipe σ2 vs = L2.wipe σ vs ∧ tYes σ2 H2 fun b H3 =>
        if b = true then tcD P w en tk tv D σ2 H3 Nx else Nx H3) := by
  intro D hD
  refine ⟨fun i n H' => n = ks.length - i ∧ i ≤ ks.length ∧ Ex H1 H' ∧ ∃ Lf, TDw P w en H' D Lf ∧ Paired (fun (p : α × V) (x : α) => p.1 = x ∧ F H' x p.2) Lf (ks.take i), ⟨_, rfl, Nat.zero_le _, Evl.Ex.new hD, [], ⟨[], upd_same, .nil⟩, by rw [List.take_zero]; exact .nil⟩, ?_⟩
  rintro i n H' ⟨rfl, hle, e, Lf, td, pr⟩
  by_cases hlt : i < ks.length
  · refine .inr ⟨go i H' e hlt, fun H' => Ex H1 H' ∧ ∃ Lf, TDw P w en H' D Lf ∧ Paired (fun (p : α × V) (x : α) => p.1 = x ∧ F H' x p.2) Lf (ks.take (i + 1)), fun H' h => ⟨ks.length - (i + 1), by omega, rfl, hlt, h⟩, fun x H2 y => ?_⟩
    obtain ⟨e2, hg⟩ := step i hlt H' x H2 e y
    refine hg _ fun σ2 hw body => ⟨hw, tYes_if ?_⟩
    refine body (fun y z H3 => ∃ (L : List (α × V)) (a : α), TDw P w en H3 D L ∧ Im H3 y (en a) ∧ L.length < sizeLine ∧ ∀ H4, But D H3 H4 → TDw P w en H4 D (putK L a z) → _) fun y z H3 e3 hy hz => ?_
    have e23 := e2.trans e3
    have keys : Lf.map (·.1) = ks.take i := paired_keys (F := fun x v => F H' x v) pr
    refine ⟨Lf, ks[i], td_ex td e23, hy, ?_, fun H4 b4 t4 => ⟨fun a o h => ?_, putK Lf ks[i] z, t4, ?_⟩⟩
    · have := congrArg List.length keys
      rw [List.length_map, List.length_take] at this
      exact Evl.sz_lt (by omega)
    · rw [b4 a (ne_of_none h hD)]
      exact e23 _ _ (e _ _ h)
    · have hn : valV Lf ks[i] = none := valV_nokey keys fun c => by
        have nt : (ks.take (i + 1)).Nodup := nd.sublist (List.take_sublist _ _)
        rw [List.take_add_one, List.getElem?_eq_getElem hlt, List.nodup_append] at nt
        exact nt.2.2 _ c _ (List.mem_singleton.mpr rfl) rfl
      rw [putK_new _ hn, List.take_add_one, List.getElem?_eq_getElem hlt]
      have lx : Lx D H3 H4 := fun b o n h => by rw [b4 b n]; exact h
      have hd3 : ∃ xs, H3 D = some (NdO P w D xs) := (td_ex td e23).some
      refine paired_snoc (Paired.mapP pr fun p x qq => ⟨qq.1, hF _ _ D _ _ hd3 lx (hF2 _ _ _ _ e23 qq.2)⟩) ⟨rfl, hF _ _ D _ _ hd3 lx hz⟩
  · have : i = ks.length := by omega
    subst this
    rw [List.take_length] at pr
    exact .inl ⟨stop H' e, q D H' Lf hD e td pr⟩
/-- {k: v for k, u in d.items()}, d locked -/
theorem rd_itemsC {σ : L2.St} {H : Hp} {i0 j1 j2 : Nat} {tv : TE} {d : Addr} {od : Obj} {L : List (α × V)} {ks : List α} {G F : Hp → α → V → Prop} {Q : VK} (hi : σ[i0]? = some (some (.ref d))) (tf : TDf P w en H d od L) (hG : ∀ H H' x z, Ex H H' → G H x z → G H' x z) (hF : DMono P w F) (hF2 : ∀ H H' x z, Ex H H' → F H x z → F H' x z)
    (pr : Paired (fun (p : α × V) (x : α) => p.1 = x ∧ G H x p.2) L ks) (nd : ks.Nodup) (hl : ks.length ≤ 4000) (l1 : j1 < σ.length) (l12 : j1 ≠ j2)
    (turn : ∀ x ∈ ks, ∀ σ2 H2 v kr, Ex H H2 → σ2 = ((L2.wipe σ [j1, j2]).set j1 (some (.ref kr))).set j2 (some v) → Im H2 (.ref kr) (en x) → G H2 x v → ∀ Q2 : VK, (∀ z H3, Ex H2 H3 → F H3 x z → Q2 z H3) → tv σ2 H2 Q2)
    (q : ∀ D H2 Lf, H D = none → Ex H H2 → TDw P w en H2 D Lf → Paired (fun (p : α × V) (x : α) => p.1 = x ∧ F H2 x p.2) Lf ks → Q (.ref D) H2) :
    tCm (fun D => NdO P w D []) (iItmN P w en (tVar i0)) (gPair K j1 j2) tYes (tcD P w en (tVar j1) tv) [j1, j2] σ H Q := by
  refine ⟨.ref d, hi, d, od, L, rfl, tf, ?_⟩
  have hll : L.length = ks.length := Paired.length pr
  have tf' : ∀ {H'}, Ex H H' → TDf P w en H' d od L := fun {H'} e => by
    obtain ⟨xs, hx, _⟩ := id tf
    exact tf.to (Tx.of e) ((e _ _ hx).trans hx.symm)
  refine dictC_core (H := H) (wi := iItmN P w en (tVar i0)) (Evl.Ex.refl H) hF hF2 nd hl (fun i H' e hi => ⟨tf' e, by rw [hll]; exact hi⟩) (fun H' e => ⟨tf' e, hll.symm⟩) (fun i hi H' x H2 e y => ?_) q
  obtain ⟨T, xs, rfl, hT, rfl, p, kr, hp, rfl, hk⟩ := y
  have e2 := Evl.Ex.new (o := .tup [.ref kr, p.2]) hT
  refine ⟨e2, fun R r => ?_⟩
  obtain ⟨x, hx, ex, gx⟩ := paired_at pr hp
  rw [List.getElem?_eq_getElem hi] at hx
  cases hx
  refine ⟨T, _, rfl, SqT.of upd_same, rfl, .ref kr, _, rfl, p.2, [], rfl, rfl, r _ (wipe_set2 (by simp) (by simp)) fun Q2 hq => ?_⟩
  refine ⟨.ref kr, ?_, ?_⟩
  · rw [List.getElem?_set_ne l12.symm, List.getElem?_set_self (by rw [L2.wipe_length]; exact l1)]
  · rw [ex] at hk
    exact turn _ (List.getElem_mem hi) _ _ p.2 kr (e.trans e2) rfl (Im.to hk (Tx.of e2)) (hG _ _ _ _ (e.trans e2) gx) _ fun z H3 e3 fz => hq _ z H3 e3 (Im.to hk (Tx.of (e2.trans e3))) fz
/-- {k: v for k in l}, l a list -/
theorem rd_listC {σ : L2.St} {H : Hp} {i0 j1 : Nat} {tv : TE} {l : Addr} {us : List V} {ks : List α} {F : Hp → α → V → Prop} {Q : VK} (hi : σ[i0]? = some (some (.ref l))) (h1 : H l = some (.lst us)) (h2 : ImA H us (ks.map en)) (hF : DMono P w F) (hF2 : ∀ H H' x z, Ex H H' → F H x z → F H' x z)
    (nd : ks.Nodup) (hl : ks.length ≤ 4000) (l1 : j1 < σ.length)
    (turn : ∀ x ∈ ks, ∀ σ2 H2 kr, Ex H H2 → σ2 = (L2.wipe σ [j1]).set j1 (some kr) → Im H2 kr (en x) → ∀ Q2 : VK, (∀ z H3, Ex H2 H3 → F H3 x z → Q2 z H3) → tv σ2 H2 Q2)
    (q : ∀ D H2 Lf, H D = none → Ex H H2 → TDw P w en H2 D Lf → Paired (fun (p : α × V) (x : α) => p.1 = x ∧ F H2 x p.2) Lf ks → Q (.ref D) H2) :
    tCm (fun D => NdO P w D []) (iList K (tVar i0)) (gName j1) tYes (tcD P w en (tVar j1) tv) [j1] σ H Q := by
  refine ⟨.ref l, hi, l, rfl, ⟨us, SqL.of h1⟩, ?_⟩
  have lus : us.length = ks.length := by rw [h2.length, List.length_map]
  refine dictC_core (H := H) (wi := iList K (tVar i0)) (Evl.Ex.refl H) hF hF2 nd hl (fun i H' e hi => ⟨us, us[i]'(by omega), SqL.of (e _ _ h1), List.getElem?_eq_getElem _⟩) (fun H' e => ⟨us, SqL.of (e _ _ h1), by omega⟩) (fun i hi H' x H2 e y => ?_) q
  obtain ⟨rfl, yx⟩ := y
  refine ⟨Evl.Ex.refl _, fun R r => ?_⟩
  obtain ⟨v2, hv2, iv2⟩ := h2.at (i := i) (d := en ks[i]) (by rw [List.getElem?_map, List.getElem?_eq_getElem hi]; rfl)
  obtain rfl : x = v2 := Option.some.inj ((yx _ (SqL.of (e _ _ h1))).symm.trans hv2)
  refine r _ (wipe_set (by simp)) fun Q2 hq => ⟨x, by rw [List.getElem?_set_self (by rw [L2.wipe_length]; exact l1)], ?_⟩
  exact turn _ (List.getElem_mem hi) _ _ x e rfl (Im.to iv2 (Tx.of e)) _ fun z H3 e3 fz => hq _ z H3 e3 (Im.to iv2 (Tx.of (e.trans e3))) fz
end
end WZ
namespace WZ
open PySem PySem.Spec PyProof.Rows L2 KB KC KD KV MW
open Evl (Ex EvT)
open StX (tStar)
section
variable {P : Program} {w : World} {K : PySem.W.Frag} {mg : Str → Option Value} {base : Heap}
def spCls (P : Program) (w : World) : Sp := fun vs H Q _ => ∃ (ra ma : Addr) (ks : List Std) (row : Std → List Std) (r : Nat) (m0 : Std → Int) (L : List (Std × V)), vs = [.ref ra, .ref ma] ∧ TDw P w stdD H ra L ∧ RowsOk stdD row H L ks ∧ TDw P w stdD H ma (ks.map fun x => (x, V.int (m0 x))) ∧ ma ≠ ra ∧
  ks.Nodup ∧ ks ≠ [] ∧ ks.length ≤ 4000 ∧ (∀ x, (row x).length = r) ∧ r ≤ 1000 ∧ (∀ x ∈ ks, ∀ y ∈ row x, y ∈ ks) ∧
  ∀ pa H' (m : Std → Int), Ex H H' → TDw P w stdD H' pa (ks.map fun x => (x, V.int (m x))) → IsSz (Nk row m0 ks) (cnt (ks.map m)) → Q (.ref pa) H'
theorem paired_fn {α : Type} {f : α → V} {L : List (α × V)} {ks : List α} (h : Paired (fun (p : α × V) (x : α) => p.1 = x ∧ p.2 = f x) L ks) : L = ks.map fun x => (x, f x) := by
  induction h with
  | nil => rfl
  | @cons p x _ _ r _ ih =>
    rw [List.map_cons, ih]
    have e1 : p.1 = x := r.1
    have e2 : p.2 = f x := r.2
    have : p = (x, f x) := Prod.ext e1 e2
    rw [← this]
theorem pr_classes_of (D : DefAt K mg "classes_of" 32 ["rows", "marks"]) (ml : mg "len" = none) : Prom P w K mg base 1 "classes_of" ["rows", "marks"] (spCls P w) :=
  D.prom fun f fd F => F.ok sc32 (fun vs H Q E h => by obtain ⟨ra, ma, ks, row, r, m0, L, rfl, _⟩ := h; rfl) fun cdv A outer s H vs Q E hr h => by
    obtain ⟨ra, ma, ks, row, r, m0, L, rfl, tr, rok, tm, hmr, nd, ne, hl, hrow, hr1, hcl, q⟩ := h
    refine ⟨_, pss_cons (ps_set (i := 2) sc32.nd rfl (.inl rfl) pe_int)
      (pss_cons (ps_while PassesOwn.never (pt_cmpR op_gt (pe_callB call_lenSet (by rfl) ml PySem.boot_len (pa_cons (pe_lock (pe_setC (own := [("mark", 5)]) (g := gName 5) (tt := tYes) rfl sc32.nd (pi_valN encS (pv 1)) (blkOk_by (N := ["rows", "marks", "many", "fresh", "numbers", "mark", "thing", "row", "there"]) (sc := defScope (topS 32)) (by decide +kernel))
            (fun _ _ _ _ _ => pg_name (i := 5) sc32.nd rfl (.inl rfl)) (fun _ _ _ _ _ => pts_nil) (fun _ _ _ _ _ => pv 5))) pa_nil)) (pv 2) (nomark _))
        (pss_cons (ps_set (i := 2) sc32.nd rfl (.inl rfl) (pe_callB call_lenSet (by rfl) ml PySem.boot_len (pa_cons (pe_lock (pe_setC (own := [("mark", 5)]) (g := gName 5) (tt := tYes) rfl sc32.nd (pi_valN encS (pv 1)) (blkOk_by (N := ["rows", "marks", "many", "fresh", "numbers", "mark", "thing", "row", "there"]) (sc := defScope (topS 32)) (by decide +kernel))
            (fun _ _ _ _ _ => pg_name (i := 5) sc32.nd rfl (.inl rfl)) (fun _ _ _ _ _ => pts_nil) (fun _ _ _ _ _ => pv 5))) pa_nil)))
        (pss_cons (ps_lock (ps_dictC (i := 3) (own := [("thing", 6), ("row", 7)]) (g := gPair K 6 7) (tt := tYes) (tk := tVar 6) (tv := tTup (tCons (tOp (rNGet P w stdD) (tVar 1) (tVar 6)) (tStar K (tLc (iList K (tVar 7)) (gName 8) tYes (tOp (rNGet P w stdD) (tVar 1) (tVar 8)) [8]) tNil))) encS hr.units rfl rfl (by rfl) rfl sc32.nd (pi_itmN encS (pv 0)) (blkOk_by (N := ["rows", "marks", "many", "fresh", "numbers", "mark", "thing", "row", "there"]) (sc := defScope (topS 32)) (by decide +kernel))
            (fun _ _ _ _ _ => pg_tup rfl (pgs_cons (pg_name (i := 6) sc32.nd rfl (.inl rfl)) (pgs_cons (pg_name (i := 7) sc32.nd rfl (.inl rfl)) pgs_nil))) (fun _ _ _ _ _ => pts_nil) (fun _ _ _ _ _ => pv 6)
            (fun _ _ _ _ _ => pe_tup (pa_cons (pe_ix (ix_nd encS hr.units) (pv 1) (pv 6) (fun _ _ => rfl)) (StX.pa_star (pe_lc (own := [("there", 8)]) (g := gName 8) (tt := tYes) rfl sc32.nd (pi_list (pv 7)) (blkOk_by (N := ["rows", "marks", "many", "fresh", "numbers", "mark", "thing", "row", "there"]) (sc := { kind := .function, names := [(".0", .local), ("thing", .local), ("row", .local), ("marks", .cell)], isGenerator := false, isCoroutine := false }) (by decide +kernel))
              (fun _ _ _ _ _ => pg_name (i := 8) sc32.nd rfl (.inl rfl)) (fun _ _ _ _ _ => pts_nil) (fun _ _ _ _ _ => pe_ix (ix_nd encS hr.units) (pv 1) (pv 8) (fun _ _ => rfl))) pa_nil)))))
        (pss_cons (ps_set (i := 4) sc32.nd rfl (.inr rfl) pe_nnew)
        (pss_cons (ps_lock (ps_for PassesOwn.never rfl (pi_valN encS (pv 3)) (pg_name (i := 5) sc32.nd rfl (.inl rfl))
          (pss_one (ps_expr (pe_nsetd encT hr.units (pv 4) (pv 5) (pe_callB (call_lenN encT) (by rfl) ml PySem.boot_len (pa_cons (pv 4) pa_nil)) ⟨rfl, rfl, rfl, rfl⟩)))))
        (pss_one (ps_set (i := 1) sc32.nd rfl (.inr rfl) (pe_lock (pe_dictC (own := [("thing", 6), ("mark", 5)]) (g := gPair K 6 5) (tt := tYes) (tk := tVar 6) (tv := tOp (rNGet P w tupI) (tVar 4) (tVar 5)) encS hr.units rfl sc32.nd (pi_itmN encS (pv 3)) (blkOk_by (N := ["rows", "marks", "many", "fresh", "numbers", "mark", "thing", "row", "there"]) (sc := defScope (topS 32)) (by decide +kernel))
            (fun _ _ _ _ _ => pg_tup rfl (pgs_cons (pg_name (i := 6) sc32.nd rfl (.inl rfl)) (pgs_cons (pg_name (i := 5) sc32.nd rfl (.inl rfl)) pgs_nil))) (fun _ _ _ _ _ => pts_nil) (fun _ _ _ _ _ => pv 6) (fun _ _ _ _ _ => pe_ix (ix_nd encT hr.units) (pv 4) (pv 5) (fun _ _ => rfl)))))))))))
      (pss_one (ps_ret (pv 1)))), ?_⟩
    have hra : ∀ {H' : Hp}, Ex H H' → TDw P w stdD H' ra L ∧ RowsOk stdD row H' L ks := fun {H'} e => ⟨td_ex tr e, rok.to e⟩
    -- the loop
    refine ⟨fun n σ H' => ∃ (k nn : Nat) (ma : Addr) (m : Std → Int) (x3 x4 x5 x6 x7 x8 : Option V), σ = [some (.ref ra), some (.ref ma), some (.int (nn : Int)), x3, x4, x5, x6, x7, x8] ∧ n = ks.length + 1 - nn ∧ Ex H H' ∧ TDw P w stdD H' ma (ks.map fun x => (x, V.int (m x))) ∧ ma ≠ ra ∧ Parts row m0 ks k m ∧
        ((k = 0 ∧ nn = 0) ∨ ∃ k', k = k' + 1 ∧ nn = Nk row m0 ks k' ∧ ∀ j, j < k' → Nk row m0 ks j < Nk row m0 ks (j + 1)),
      ⟨_, 0, 0, ma, m0, none, none, none, none, none, none, rfl, rfl, Evl.Ex.refl H, tm, hmr, Parts.zero, .inl ⟨rfl, rfl⟩⟩, ?_⟩
    rintro n σ H1 ⟨k, nn, ma, m, x3, x4, x5, x6, x7, x8, rfl, rfl, e1, t1, hmr, pt, hk⟩
    have hcnt : cnt (ks.map m) = Nk row m0 ks k := pt.cnt
    refine rd_lenVals (ks := ks) (m := m) rfl t1 hl (by show 5 < 9; decide) fun H2 e2 => ⟨_, rfl, _, _, rfl, rfl, _, rfl, ?_⟩
    rw [hcnt]
    refine ite2 (fun hb => ?_) (fun hb => ?_)
    · have hlt : nn < Nk row m0 ks k := by have := of_decide_eq_true hb; omega
      refine ⟨fun σ' H' => ∃ (ma : Addr) (m : Std → Int) (x3 x4 x5 x6 x7 x8 : Option V), σ' = [some (.ref ra), some (.ref ma), some (.int (Nk row m0 ks k : Nat)), x3, x4, x5, x6, x7, x8] ∧ Ex H H' ∧ TDw P w stdD H' ma (ks.map fun x => (x, V.int (m x))) ∧ ma ≠ ra ∧ Parts row m0 ks (k + 1) m, fun σ' H' => ?_, ?_⟩
      · rintro ⟨ma, m, x3, x4, x5, x6, x7, x8, rfl, g1, g2, g3, g4⟩
        have hN := Nk_le (row := row) (m0 := m0) ks k
        refine ⟨_, ?_, k + 1, Nk row m0 ks k, ma, m, x3, x4, x5, x6, x7, x8, rfl, rfl, g1, g2, g3, g4, .inr ⟨k, rfl, rfl, ?_⟩⟩
        · omega
        · rcases hk with ⟨rfl, _⟩ | ⟨k', rfl, rfl, h⟩
          · intro j hj
            omega
          · intro j hj
            by_cases c : j = k'
            · subst c
              exact hlt
            · exact h j (by omega)
      · have t2 := td_ex t1 e2
        refine rd_lenVals (ks := ks) (m := m) rfl t2 hl (by show 5 < 9; decide) fun H3 e3 => ?_
        rw [hcnt]
        have t3 := td_ex t2 e3
        have e13 : Ex H H3 := (e1.trans e2).trans e3
        obtain ⟨tr3, rok3⟩ := hra e13
        obtain ⟨xs3, hx3, ents3⟩ := id tr3
        -- fresh
        refine ⟨ra, NdO P w ra xs3, hx3, trivial, fun od => ?_⟩
        have lx3 : Lx ra H3 (upd H3 ra (.frz od (NdO P w ra xs3))) := Lx.lock
        have tx3 := lx3.tx (nd_notup hx3)
        have tL : TDw P w stdD (upd H3 ra (.frz od (NdO P w ra xs3))) ma (ks.map fun x => (x, V.int (m x))) := t3.to tx3 (upd_ne hmr)
        refine rd_itemsC (P := P) (w := w) (K := K) (i0 := 0) (j1 := 6) (j2 := 7) (d := ra) (od := od) (L := L) (ks := ks)
          (G := fun H' x v => ∃ a us, v = .ref a ∧ H' a = some (.lst us) ∧ ImA H' us ((row x).map stdD)) (F := fun H' x z => ∃ a, z = .ref a ∧ H' a = some (.tup ((m x :: (row x).map m).map V.int)))
          rfl ⟨xs3, upd_same, ents3.to tx3⟩ (fun _ _ _ _ e ⟨a, us, z1, z2, z3⟩ => ⟨a, us, z1, e _ _ z2, z3.to (Tx.of e)⟩) (fun Ha Hb D x z hD lx ⟨a, z1, z2⟩ => ⟨a, z1, lx _ _ (fun y => by obtain ⟨xs, hxs⟩ := hD; rw [y, hxs] at z2; cases z2) z2⟩) (fun _ _ _ _ e ⟨a, z1, z2⟩ => ⟨a, z1, e _ _ z2⟩)
          (Paired.mapP rok3 fun p x ⟨q1, a, us, z1, z2, z3⟩ => ⟨q1, a, us, z1, lx3 _ _ (fun y => by rw [y, hx3] at z2; cases z2) z2, z3.to tx3⟩) nd hl (by show 6 < 9; decide) (by decide) (fun x hx σ2 H4 v kr e4 hσ hkr hG Q2 q2 => ?_) fun fr H4 Lf hfr e4 tf4 pr4 => ?_
        · obtain ⟨a, us, rfl, z2, z3⟩ := hG
          subst hσ
          exact rd_sig (ks := ks) (m := m) (row := row x) (x := x) (im := 1) (it := 6) (ir := 7) (iy := 8) rfl rfl rfl (by show 8 < 9; decide) (by decide) (by decide) hkr z2 z3 (td_ex tL e4) hx (hcl x hx) (by rw [hrow]; exact hr1) fun p H5 e5 h5 => q2 _ H5 e5 ⟨p, rfl, h5⟩
        · have hfra : fr ≠ ra := fun z => by rw [z, upd_same] at hfr; cases hfr
          have lx4 : Lx ra H3 H4 := lx3.trans (Lx.of e4)
          have hr4 : H4 ra = some (.frz od (NdO P w ra xs3)) := e4 _ _ upd_same
          refine ⟨hr4, ?_⟩
          have e34 : Ex H3 (upd H4 ra (NdO P w ra xs3)) := lx4.unlock hx3
          have tx4 : Tx H4 (upd H4 ra (NdO P w ra xs3)) := Tx.upd fun xs z => by rw [hr4] at z; cases z
          have tf5 : TDw P w stdD (upd H4 ra (NdO P w ra xs3)) fr Lf := tf4.to tx4 (upd_ne hfra)
          have sg5 : SigOk (fun x => m x :: (row x).map m) (upd H4 ra (NdO P w ra xs3)) Lf ks := SigOk.to (sg := fun x => m x :: (row x).map m) pr4 tx4
          generalize hH5 : upd H4 ra (NdO P w ra xs3) = H5 at e34 tf5 sg5
          generalize hsg : (fun x => m x :: (row x).map m) = sg at sg5
          -- numbers
          intro na hna
          have e56 := Evl.Ex.new (o := NdO P w na []) hna
          have tf6 := td_ex tf5 e56
          have sg6 := sg5.to (Tx.of e56)
          obtain ⟨xs6, hx6, ents6⟩ := id tf6
          have hnf : na ≠ fr := fun z => by
            obtain ⟨xs, hxs⟩ := tf5.some
            rw [z, hxs] at hna
            cases hna
          have hf5 : H5 fr = some (NdO P w fr xs6) := by rw [upd_ne hnf.symm] at hx6; exact hx6
          show tSeq (tLock (tFor _ _ _)) _ _ [some (.ref ra), some (.ref ma), some (.int (Nk row m0 ks k : Nat)), some (.ref fr), some (.ref na), x5, x6, x7, x8] (upd H5 na (NdO P w na []))
          generalize hH6 : upd H5 na (NdO P w na []) = H6 at e56 tf6 sg6 hx6 ents6 ⊢
          have tn6 : TDw P w tupI H6 na [] := ⟨[], by rw [← hH6, upd_same], .nil⟩
          refine ⟨fr, NdO P w fr xs6, hx6, trivial, fun od2 => ⟨.ref fr, rfl, fr, od2, Lf, rfl, ⟨xs6, upd_same, ents6.to (Lx.lock.tx (nd_notup hx6))⟩, ?_⟩⟩
          have lenf : Lf.length = ks.length := Paired.length sg6
          have keysf : Lf.map (·.1) = ks := paired_keys (F := fun x v => ∃ a, v = .ref a ∧ H6 a = some (.tup ((sg x).map V.int))) sg6
          have lx56 : Lx fr H5 (upd H6 fr (.frz od2 (NdO P w fr xs6))) := (Lx.of e56).trans Lx.lock
          have tx6 : Tx H6 (upd H6 fr (.frz od2 (NdO P w fr xs6))) := Lx.lock.tx (nd_notup hx6)
          refine ⟨fun i n' σ' H' => n' = ks.length - i ∧ i ≤ ks.length ∧ (∃ x5, σ' = [some (.ref ra), some (.ref ma), some (.int (Nk row m0 ks k : Nat)), some (.ref fr), some (.ref na), x5, x6, x7, x8]) ∧ H' fr = some (.frz od2 (NdO P w fr xs6)) ∧ Lx fr H5 H' ∧
              ∃ nT : List (List Int), TDw P w tupI H' na (nT.zipIdx.map fun p => (p.1, V.int (p.2 : Int))) ∧ nT.length ≤ i ∧ ∀ s, s ∈ nT ↔ s ∈ (ks.take i).map sg,
            ⟨_, rfl, Nat.zero_le _, ⟨x5, rfl⟩, upd_same, lx56, [], tn6.to tx6 (upd_ne hnf), Nat.le_refl _, fun s => by simp⟩, ?_⟩
          rintro i n' σ' H7 ⟨rfl, hi, ⟨y5, rfl⟩, hf7, lx7, nT, tn7, ln7, hn7⟩
          have tx7 : Tx H5 H7 := lx7.tx fun xs z => by rw [hf5] at z; exact nd_notup hf5 xs (by rw [hf5]; exact z)
          have tfz : TDf P w stdD H7 fr od2 Lf := by
            obtain ⟨xs5, hx5, ents5⟩ := id tf5
            rw [hf5] at hx5
            refine ⟨xs6, hf7, ?_⟩
            have := Lx.tx (d := fr) (H := H6) (H' := upd H6 fr (.frz od2 (NdO P w fr xs6))) Lx.lock (nd_notup hx6)
            exact Ents.to (H := H6) (fun a ys z => by
              by_cases ca : a = na
              · rw [ca, ← hH6, upd_same] at z
                exact absurd z (nd_notup (P := P) (w := w) (d := na) (xs := []) (H := upd H5 na (NdO P w na [])) upd_same ys |> fun h => by rw [upd_same] at h; exact h)
              · rw [← hH6, upd_ne ca] at z
                exact tx7 _ _ z) ents6
          have sg7 := sg5.to tx7
          by_cases hlt2 : i < ks.length
          · refine .inr ⟨⟨tfz, by omega⟩, fun σ' H' => (∃ x5, σ' = [some (.ref ra), some (.ref ma), some (.int (Nk row m0 ks k : Nat)), some (.ref fr), some (.ref na), x5, x6, x7, x8]) ∧ H' fr = some (.frz od2 (NdO P w fr xs6)) ∧ Lx fr H5 H' ∧
                ∃ nT : List (List Int), TDw P w tupI H' na (nT.zipIdx.map fun p => (p.1, V.int (p.2 : Int))) ∧ nT.length ≤ i + 1 ∧ ∀ s, s ∈ nT ↔ s ∈ (ks.take (i + 1)).map sg, fun σ' H' h => ⟨ks.length - (i + 1), by omega, rfl, hlt2, h⟩, fun z H8 y => ?_⟩
            obtain ⟨rfl, p, hp, rfl⟩ := y
            obtain ⟨x, hx, ex, a, ea, ha⟩ := paired_at sg7 hp
            rw [List.getElem?_eq_getElem hlt2] at hx
            cases hx
            have etake : (ks.take (i + 1)).map sg = (ks.take i).map sg ++ [sg ks[i]] := by rw [List.take_add_one, List.getElem?_eq_getElem hlt2, List.map_append]; rfl
            have hin : ∀ s, s ∈ (ks.take (i + 1)).map sg ↔ s ∈ nT ∨ s = sg ks[i] := fun s => by rw [etake, List.mem_append, List.mem_singleton, hn7]
            have imz : Im H8 p.2 (tupI (sg ks[i])) := by
              rw [ea]
              exact .tup ha (ImA.ints _)
            refine ⟨.ref na, rfl, na, _, rfl, tn7, p.2, rfl, .ref na, rfl, na, _, rfl, tn7.rd, _, sg ks[i], tn7, imz, ?_, fun v hv => ?_, fun hv H9 b9 t9 => ?_⟩
            · rw [List.length_map, List.length_zipIdx]
              exact Evl.sz_lt (by omega)
            · rw [valV_pos_zip] at hv
              have hmem : sg ks[i] ∈ nT := by
                by_cases c : sg ks[i] ∈ nT
                · exact c
                · rw [if_neg c] at hv
                  cases hv
              exact ⟨⟨_, rfl⟩, hf7, lx7, nT, tn7, by omega, fun s => by
                rw [hin]
                exact ⟨.inl, fun h => h.elim id fun e => e ▸ hmem⟩⟩
            · have hv2 := hv
              rw [valV_pos_zip] at hv2
              have hmem : sg ks[i] ∉ nT := fun c => by
                rw [if_pos c] at hv2
                cases hv2
              rw [putK_new _ hv] at t9
              refine ⟨⟨_, rfl⟩, ?_, fun b o nb h => ?_, nT ++ [sg ks[i]], ?_, by rw [List.length_append]; simp; omega, fun s => by rw [hin, List.mem_append, List.mem_singleton]⟩
              · rw [b9 fr hnf.symm]
                exact hf7
              · rw [b9 b (ne_of_none h hna)]
                exact lx7 b o nb h
              · rw [List.zipIdx_append, List.map_append]
                have t9' : TDw P w tupI H9 na _ := t9
                simpa using t9'
          · have : i = ks.length := by omega
            subst this
            rw [List.take_length] at hn7
            refine .inl ⟨⟨tfz, lenf.symm⟩, hf7, ?_⟩
            -- marks
            have e58 : Ex H5 (upd H7 fr (NdO P w fr xs6)) := lx7.unlock hf5
            have tx78 : Tx H7 (upd H7 fr (NdO P w fr xs6)) := Tx.upd fun xs z => by rw [hf7] at z; cases z
            have tn8 : TDw P w tupI (upd H7 fr (NdO P w fr xs6)) na (nT.zipIdx.map fun p => (p.1, V.int (p.2 : Int))) := tn7.to tx78 (upd_ne hnf)
            have tf8 : TDw P w stdD (upd H7 fr (NdO P w fr xs6)) fr Lf := td_ex tf5 e58
            have sg8 := sg5.to (Tx.of e58)
            generalize hH8 : upd H7 fr (NdO P w fr xs6) = H8 at e58 tn8 tf8 sg8
            obtain ⟨xs8, hx8, ents8⟩ := id tf8
            refine ⟨fr, NdO P w fr xs8, hx8, trivial, fun od3 => ?_⟩
            have lx8 : Lx fr H8 (upd H8 fr (.frz od3 (NdO P w fr xs8))) := Lx.lock
            have tx8 := lx8.tx (nd_notup hx8)
            have tn9 : TDw P w tupI (upd H8 fr (.frz od3 (NdO P w fr xs8))) na (nT.zipIdx.map fun p => (p.1, V.int (p.2 : Int))) := tn8.to tx8 (upd_ne hnf)
            refine rd_itemsC (P := P) (w := w) (K := K) (i0 := 3) (j1 := 6) (j2 := 5) (d := fr) (od := od3) (L := Lf) (ks := ks)
              (G := fun H' x v => ∃ a, v = .ref a ∧ H' a = some (.tup ((sg x).map V.int))) (F := fun H' x z => z = .int (posn nT (sg x) : Int))
              rfl ⟨xs8, upd_same, ents8.to tx8⟩ (fun _ _ _ _ e ⟨a, z1, z2⟩ => ⟨a, z1, e _ _ z2⟩) (fun _ _ _ _ _ _ _ h => h) (fun _ _ _ _ _ h => h)
              (sg8.to tx8) nd hl (by show 6 < 9; decide) (by decide) (fun x hx σ2 H9 v kr e9 hσ hkr hG Q2 q2 => ?_) fun mb H9 Lm hmb e9 tm9 pr9 => ?_
            · obtain ⟨a, rfl, z2⟩ := hG
              subst hσ
              refine ⟨_, rfl, _, rfl, na, _, sg x, .int (posn nT (sg x) : Int), rfl, (td_ex tn9 e9).rd, .tup z2 (ImA.ints _), ?_, q2 _ _ (Evl.Ex.refl _) rfl⟩
              rw [valV_pos_zip, if_pos ((hn7 _).mpr (List.mem_map.mpr ⟨x, hx, rfl⟩)), Nat.zero_add]
            · have hr9 : H9 fr = some (.frz od3 (NdO P w fr xs8)) := e9 _ _ upd_same
              refine ⟨hr9, ?_⟩
              have e89 : Ex H8 (upd H9 fr (NdO P w fr xs8)) := (lx8.trans (Lx.of e9)).unlock hx8
              have hmf : mb ≠ fr := fun z => by rw [z, upd_same] at hmb; cases hmb
              have tx9 : Tx H9 (upd H9 fr (NdO P w fr xs8)) := Tx.upd fun xs z => by rw [hr9] at z; cases z
              have eall : Ex H (upd H9 fr (NdO P w fr xs8)) := ((e13.trans e34).trans e58).trans e89
              have hLm : Lm = ks.map fun x => (x, V.int (posn nT (sg x) : Int)) := paired_fn pr9
              refine ⟨mb, fun x => (posn nT (sg x) : Int), _, _, _, _, _, _, rfl, eall, ?_, fun z => ?_, pt.step hrow hcl fun x hx y hy => ?_⟩
              · rw [← hLm]
                exact tm9.to tx9 (upd_ne hmf)
              · rw [z] at hmb
                have h8 : H8 ra = some (NdO P w ra xs3) := (e34.trans e58) _ _ hx3
                rw [upd_ne (fun y => hfra y.symm)] at hmb
                rw [h8] at hmb
                cases hmb
              · constructor
                · intro e
                  have := posn_inj ((hn7 _).mpr (List.mem_map.mpr ⟨x, hx, rfl⟩)) ((hn7 _).mpr (List.mem_map.mpr ⟨y, hy, rfl⟩)) (Int.ofNat.inj e)
                  rw [← hsg] at this
                  exact this
                · intro e
                  have : sg x = sg y := by
                    rw [← hsg]
                    exact e
                  simp only [this]
    · have hlt : ¬ nn < Nk row m0 ks k := fun c => hb (decide_eq_true (by omega))
      -- return marks
      refine ⟨.ref ma, rfl, q ma H2 m (e1.trans e2) (td_ex t1 e2) ?_⟩
      rcases hk with ⟨rfl, rfl⟩ | ⟨k', rfl, rfl, h⟩
      · exact absurd (Nk_pos ne 0) hlt
      · have mono := Nk_mono (m0 := m0) hrow ks k'
        refine ⟨k', h, by omega, by rw [hcnt]; omega⟩
end
end WZ
namespace WZ
open PySem PySem.Spec PyProof.Rows L2 KB KC KD KV MW
open Evl (Ex EvT)
open StX (tStar)
section
variable {P : Program} {w : World} {K : PySem.W.Frag} {mg : Str → Option Value} {base : Heap}
theorem seq_asg {te : TE} {g : TG} {u : TS} {D : Ends} {σ : L2.St} {H : Hp} (h : te σ H fun v H1 => g v σ H1 fun σ2 H2 => u D σ2 H2) : tSeq (tAsg te g) u D σ H := h
def rowS (W : Wy) (x : Std) : List Std := (events W.wide).map (behind W x)
def levS (x : Std) : Int := x.1
def spSize : Sp := fun vs H Q _ => ∃ (W : Wy) (R : List Std) (v : V), vs = [v] ∧ Im H v (wyD W) ∧ OkW W ∧ (∀ x, Reach W x → x ∈ R) ∧ R.length ≤ 4000 ∧
  ∀ H' (n : Nat) (ks : List Std), Ex H H' → ks.Nodup → (∀ x, x ∈ ks ↔ Reach W x) → IsSz (Nk (rowS W) levS ks) n → Q (.int (n : Int)) H'
theorem events_len (v : Int) : (events v).length = (v + 2).toNat * 5 := flat5_len _ _
theorem pr_size (D : DefAt K mg "size" 33 ["way"]) (pA : Prom P w K mg base 4 "all_in" ["way"] spAll) (pN : Prom P w K mg base 5 "need_way" ["thing"] (spR RNeed)) (pL : Prom P w K mg base 1 "letters_to" ["window"] (spN RLetters))
    (pB : Prom P w K mg base 3 "behind_in" ["way", "standing", "event"] (spR RBehind)) (pC : Prom P w K mg base 1 "classes_of" ["rows", "marks"] (spCls P w)) (ml : mg "len" = none) : Prom P w K mg base 6 "size" ["way"] spSize :=
  D.prom fun f fd F => F.ok sc33 (fun vs H Q E h => by obtain ⟨W, R, v, rfl, _⟩ := h; rfl) fun cdv A outer s H vs Q E hr h => by
    obtain ⟨W, R, v, rfl, hv, ok, hR, hR4, q⟩ := h
    refine ⟨_, pss_cons (ps_asg (pe_tup (pa_cons (pe_pr pA (hr.mono (by decide)) (by rfl) (pa_cons (pe_pr pN hr (by rfl) (pa_cons (pv 0) pa_nil)) pa_nil)) (pa_cons (pe_pr pL (hr.mono (by decide)) (by rfl) (pa_cons (pe_ix ix_tup (pv 0) pe_int (fun _ _ => rfl)) pa_nil)) pa_nil))) (pg_tup rfl (pgs_cons (pg_name (i := 1) sc33.nd rfl (.inl rfl)) (pgs_cons (pg_name (i := 2) sc33.nd rfl (.inr rfl)) pgs_nil))))
      (pss_cons (ps_dictC (i := 3) (own := [("standing", 5)]) (g := gName 5) (tt := tYes) (tk := tVar 5) (tv := tLc (iList K (tVar 2)) (gName 6) tYes (tCall (spR RBehind) [] E0 (tCons (tVar 0) (tCons (tVar 5) (tCons (tVar 6) tNil)))) [6]) encS hr.units rfl rfl (by rfl) rfl sc33.nd (pi_list (pv 1)) (blkOk_by (N := ["way", "some", "letters", "rows", "marks", "standing", "event", "mark"]) (sc := defScope (topS 33)) (by decide +kernel))
          (fun _ _ _ _ _ => pg_name (i := 5) sc33.nd rfl (.inr rfl)) (fun _ _ _ _ _ => pts_nil) (fun _ _ _ _ _ => pv 5)
          (fun _ _ _ _ _ => pe_lc (own := [("event", 6)]) (g := gName 6) (tt := tYes) rfl sc33.nd (pi_list (pv 2)) (blkOk_by (N := ["way", "some", "letters", "rows", "marks", "standing", "event", "mark"]) (sc := { kind := .function, names := [(".0", .local), ("standing", .cell), ("letters", .cell), ("way", .cell)], isGenerator := false, isCoroutine := false }) (by decide +kernel))
              (fun _ _ _ _ _ => pg_name (i := 6) sc33.nd rfl (.inl rfl)) (fun _ _ _ _ _ => pts_nil) (fun _ _ _ _ _ => pe_pr pB (hr.mono (by decide)) (by rfl) (pa_cons (pv 0) (pa_cons (pv 5) (pa_cons (pv 6) pa_nil))))))
      (pss_cons (ps_set (i := 4) sc33.nd rfl (.inl rfl) (pe_pr pC (hr.mono (by decide)) (by rfl) (pa_cons (pv 3) (pa_cons (pe_dictC (own := [("standing", 5)]) (g := gName 5) (tt := tYes) (tk := tVar 5) (tv := tOp (rIxT K) (tVar 5) (tC (.int 0))) encS hr.units rfl sc33.nd (pi_list (pv 1)) (blkOk_by (N := ["way", "some", "letters", "rows", "marks", "standing", "event", "mark"]) (sc := defScope (topS 33)) (by decide +kernel))
          (fun _ _ _ _ _ => pg_name (i := 5) sc33.nd rfl (.inl rfl)) (fun _ _ _ _ _ => pts_nil) (fun _ _ _ _ _ => pv 5) (fun _ _ _ _ _ => pe_ix ix_tup (pv 5) pe_int (fun _ _ => rfl))) pa_nil))))
      (pss_one (ps_ret (pe_callB call_lenSet (by rfl) ml PySem.boot_len (pa_cons (pe_lock (pe_setC (own := [("mark", 7)]) (g := gName 7) (tt := tYes) rfl sc33.nd (pi_valN encS (pv 4)) (blkOk_by (N := ["way", "some", "letters", "rows", "marks", "standing", "event", "mark"]) (sc := defScope (topS 33)) (by decide +kernel))
            (fun _ _ _ _ _ => pg_name (i := 7) sc33.nd rfl (.inl rfl)) (fun _ _ _ _ _ => pts_nil) (fun _ _ _ _ _ => pv 7))) pa_nil)))))), ?_⟩
    have w2 := ok.w2
    have hs0 : ∀ {H' : Hp}, Ex H H' → Sl H' (start ["way", "some", "letters", "rows", "marks", "standing", "event", "mark"] [v]) [some (.im (wyD W)), none, none, none, none, none, none, none] := fun {H'} e =>
      .cons ⟨v, rfl, Im.to hv (Tx.of e)⟩ (.cons trivial (.cons trivial (.cons trivial (.cons trivial (.cons trivial (.cons trivial (.cons trivial .nil)))))))
    refine de_call (R := RNeed) (a := .im (wyD W)) (dea_cons (de_var (a := .im (wyD W)) rfl) dea_nil) ⟨W, rfl, ok, rfl⟩ _ H (hs0 (Evl.Ex.refl H)) _ fun v1 H1 e1 q1 => ?_
    refine ⟨W, R, v1, rfl, q1, ok, hR, by omega, fun sa us H2 ks e2 hsa h2 i2 nd mem => ?_⟩
    refine den_call (R := RLetters) (dea_cons (de_ixT (j := 3) (de_var (a := .im (wyD W)) rfl) de_int rfl) dea_nil) ⟨W.wide, rfl, ok.w0, ok.w2, rfl⟩ _ H2 (hs0 (e1.trans e2)) _ fun ea es H3 e3 hea h3 i3 => ⟨by show 2 ≤ sizeLine; decide, fun T hT => ?_⟩
    have e4 := Evl.Ex.new (o := .tup [.ref sa, .ref ea]) hT
    refine ⟨T, _, rfl, SqT.of upd_same, rfl, .ref sa, _, rfl, .ref ea, [], rfl, rfl, ?_⟩
    have e04 : Ex H (upd H3 T (.tup [.ref sa, .ref ea])) := ((e1.trans e2).trans e3).trans e4
    have h2' := (e3.trans e4) _ _ h2
    have i2' := i2.to (Tx.of (e3.trans e4))
    have h3' := e4 _ _ h3
    have i3' := i3.to (Tx.of e4)
    generalize upd H3 T (.tup [.ref sa, .ref ea]) = H4 at e04 h2' i2' h3' i3' ⊢
    have hks : ks ≠ [] := fun z => by
      have := (mem (MW.first W)).mpr .first
      rw [z] at this
      cases this
    have lks : ks.length ≤ 4000 := Nat.le_trans (nodup_len_le nd fun x hx => hR x ((mem x).mp hx)) hR4
    -- rows
    dsimp only
    refine seq_asg (σ := [some v, some (.ref sa), some (.ref ea), none, none, none, none, none]) ?_
    refine rd_listC (P := P) (w := w) (K := K) (σ := [some v, some (.ref sa), some (.ref ea), none, none, none, none, none]) (i0 := 1) (j1 := 5) (l := sa) (us := us) (ks := ks) (F := fun H' x z => ∃ a us, z = .ref a ∧ H' a = some (.lst us) ∧ ImA H' us ((rowS W x).map stdD)) rfl h2' i2'
      (fun Ha Hb D x z hD lx ⟨a, us, z1, z2, z3⟩ => ⟨a, us, z1, lx _ _ (fun y => by obtain ⟨xs, hxs⟩ := hD; rw [y, hxs] at z2; cases z2) z2, z3.to (lx.tx fun xs z => by obtain ⟨ys, hys⟩ := hD; exact nd_notup hys xs z)⟩)
      (fun _ _ _ _ e ⟨a, us, z1, z2, z3⟩ => ⟨a, us, z1, e _ _ z2, z3.to (Tx.of e)⟩) nd lks (by show 5 < 8; decide) (fun x hx σ2 H5 kr e5 hσ hkr Q2 q2 => ?_) fun rd H5 Lr hrd e5 tr5 pr5 => ?_
    · subst hσ
      have hlx := ((mem x).mp hx).len
      have le : (events W.wide).length ≤ 50000 := by
        rw [events_len]
        omega
      refine den_lcX (ds := (rowS W x).map stdD) (sl := [some (.im (wyD W)), none, some (.ls ((events W.wide).map evD)), none, none, some (.im (stdD x)), none, none]) (events W.wide) evD (fun e => stdD (MW.behind W x e)) rfl (by unfold rowS; rw [List.map_map]; rfl) (di_list (de_var rfl)) (tg_name (by simp)) le
        (fun e he => ⟨_, rfl, de_call (R := RBehind) (dea_cons (de_var (a := .im (wyD W)) rfl) (dea_cons (de_var (a := .im (stdD x)) rfl) (dea_cons (de_var (a := .im (evD e)) rfl) dea_nil))) ⟨W, x, e, rfl, ok, hlx, rfl⟩⟩) _ H5
        (.cons ⟨v, rfl, Im.to hv (Tx.of (e04.trans e5))⟩ (.cons trivial (.cons ⟨.ref ea, rfl, ea, es, rfl, e5 _ _ h3', i3'.to (Tx.of e5)⟩ (.cons trivial (.cons trivial (.cons ⟨kr, rfl, hkr⟩ (.cons trivial (.cons trivial .nil)))))))) _ fun p vs H6 e6 hp h6 i6 => q2 _ H6 e6 ⟨p, vs, rfl, h6, i6⟩
    · have tr5' : TDw P w stdD H5 rd Lr := tr5
      -- marks
      show (tCall (spCls P w) [] E0 _) [some v, some (.ref sa), some (.ref ea), some (.ref rd), none, none, none, none] H5 _
      refine ⟨.ref rd, rfl, rd_listC (P := P) (w := w) (K := K) (σ := [some v, some (.ref sa), some (.ref ea), some (.ref rd), none, none, none, none]) (i0 := 1) (j1 := 5) (l := sa) (us := us) (ks := ks) (F := fun H' x z => z = .int (levS x)) rfl (e5 _ _ h2') (i2'.to (Tx.of e5))
        (fun _ _ _ _ _ _ _ h => h) (fun _ _ _ _ _ h => h) nd lks (by show 5 < 8; decide) (fun x hx σ2 H6 kr e6 hσ hkr Q2 q2 => ?_) fun md H6 Lm hmd e6 tm6 pr6 => ?_⟩
      · subst hσ
        obtain ⟨p, xs, rfl, g1, g2⟩ := Im.ref hkr
        obtain ⟨v1, us1, rfl, r1, g3⟩ := g2.cons_eq
        obtain rfl := Im.int_eq r1
        exact ⟨.ref p, rfl, p, _, 0, _, rfl, rfl, SqT.of g1, atI_nat (j := 0) rfl, q2 _ _ (Evl.Ex.refl _) rfl⟩
      · have hLm := paired_fn pr6
        subst hLm
        have hne : md ≠ rd := fun z => by
          obtain ⟨xs, hxs⟩ := tr5'.some
          rw [z, hxs] at hmd
          cases hmd
        refine ⟨rd, md, ks, rowS W, (events W.wide).length, levS, Lr, rfl, td_ex tr5' e6, RowsOk.to (row := rowS W) (en := stdD) pr5 e6, tm6, hne, nd, hks, lks, fun x => by unfold rowS; rw [List.length_map], by rw [events_len]; omega, fun x hx y hy => ?_, fun pa H7 m e7 t7 sz => ?_⟩
        · obtain ⟨e, he, rfl⟩ := List.mem_map.mp hy
          exact (mem _).mpr (.step ((mem x).mp hx) he)
        · refine rd_lenVals (ks := ks) (m := m) rfl t7 lks (by show 7 < 8; decide) fun H8 e8 => ?_
          exact q H8 _ ks (((e04.trans e5).trans (e6.trans e7)).trans e8) nd mem sz
end
end WZ
/-! the law's chains and the program's standings -/
namespace MW
open PySem PySem.Spec PyProof.Rows KC KV WZ
def LeastOf (S : Int → Prop) : Option Int → Prop
  | none => ∀ x, ¬ S x
  | some m => S m ∧ ∀ x, S x → m ≤ x
theorem LeastOf.uniq {S : Int → Prop} : ∀ {o p : Option Int}, LeastOf S o → LeastOf S p → o = p
  | none, none, _, _ => rfl
  | none, some m, h, q => absurd q.1 (h m)
  | some m, none, h, q => absurd h.1 (q m)
  | some m, some n, h, q => by
    have := h.2 n q.1
    have := q.2 m h.1
    rw [show m = n by omega]
theorem LeastOf.congr {S T : Int → Prop} {o : Option Int} (h : LeastOf S o) (e : ∀ x, S x ↔ T x) : LeastOf T o := by
  have : S = T := funext fun x => propext (e x)
  exact this ▸ h
theorem LeastOf.union {S T : Int → Prop} : ∀ {o p : Option Int}, LeastOf S o → LeastOf T p → LeastOf (fun x => S x ∨ T x) (lesser o p)
  | none, none, h, q => fun x z => z.elim (h x) (q x)
  | none, some m, h, q => ⟨.inr q.1, fun x z => z.elim (fun y => absurd y (h x)) (q.2 x)⟩
  | some m, none, h, q => ⟨.inl h.1, fun x z => z.elim (h.2 x) (fun y => absurd y (q x))⟩
  | some m, some n, h, q => by
    show (S (min m n) ∨ T (min m n)) ∧ ∀ x, S x ∨ T x → min m n ≤ x
    constructor
    · by_cases c : m ≤ n
      · rw [Int.min_eq_left c]
        exact .inl h.1
      · rw [Int.min_eq_right (by omega)]
        exact .inr q.1
    · rintro x (y | y)
      · have := h.2 x y
        omega
      · have := q.2 x y
        omega
theorem LeastOf.some_iff {S : Int → Prop} {o : Option Int} (h : LeastOf S o) : o.isSome = true ↔ ∃ x, S x := by
  cases o with
  | none => exact ⟨fun z => (nomatch z), fun ⟨x, hx⟩ => absurd hx (h x)⟩
  | some m => exact ⟨fun _ => ⟨m, h.1⟩, fun _ => rfl⟩
def least : List Int → Option Int
  | [] => none
  | a :: r => lesser (some a) (least r)
theorem least_of : ∀ l : List Int, LeastOf (fun x => x ∈ l) (least l)
  | [] => fun x h => nomatch h
  | a :: r => by
    have h1 : LeastOf (fun x => x = a) (some a) := ⟨rfl, fun x e => by rw [e]; exact Int.le_refl _⟩
    exact (h1.union (least_of r)).congr fun x => List.mem_cons.symm
def ageAt (L : List (Int × Int)) (j : Nat) : Option Int := least ((L.filter fun p => decide (p.1 = (j : Int) + 1)).map (·.2))
theorem ageAt_of (L : List (Int × Int)) (j : Nat) : LeastOf (fun a => ((j : Int) + 1, a) ∈ L) (ageAt L j) := by
  refine (least_of _).congr fun x => ?_
  rw [List.mem_map]
  constructor
  · rintro ⟨p, hp, rfl⟩
    obtain ⟨h1, h2⟩ := List.mem_filter.mp hp
    rw [← of_decide_eq_true h2]
    exact h1
  · intro h
    exact ⟨_, List.mem_filter.mpr ⟨h, decide_eq_true rfl⟩, rfl⟩
def hK (W : Wy) (y : Kpt) : Std := (y.1, y.2.1, (List.range W.steps.length).map (ageAt y.2.2))
theorem hK_first (W : Wy) : hK W (0, false, []) = first W := by
  have : (List.range W.steps.length).map (ageAt []) = List.replicate W.steps.length none := by
    apply List.ext_getElem?
    intro i
    rw [List.getElem?_map, List.getElem?_replicate]
    by_cases h : i < W.steps.length
    · rw [List.getElem?_range h, if_pos h]
      rfl
    · rw [List.getElem?_eq_none (by simp; omega), if_neg h]
      rfl
  unfold hK first
  rw [this]
/-- two lists of ages, by what they are the least of -/
theorem ages_ext {n : Nat} {as bs : List (Option Int)} {S : Nat → Int → Prop} (h1 : as.length = n) (h2 : bs.length = n) (ha : ∀ j o, j < n → as[j]? = some o → LeastOf (S j) o) (hb : ∀ j o, j < n → bs[j]? = some o → LeastOf (S j) o) : as = bs := by
  apply List.ext_getElem?
  intro j
  by_cases h : j < n
  · have e1 : as[j]? = some (as[j]'(by omega)) := List.getElem?_eq_getElem _
    have e2 : bs[j]? = some (bs[j]'(by omega)) := List.getElem?_eq_getElem _
    rw [e1, e2, (ha j _ h e1).uniq (hb j _ h e2)]
  · rw [List.getElem?_eq_none (by omega), List.getElem?_eq_none (by omega)]
/-- ages that fit pairs -/
def Fit (n : Nat) (L : List (Int × Int)) (as : List (Option Int)) : Prop := as.length = n ∧ ∀ j o, j < n → as[j]? = some o → LeastOf (fun a => ((j : Int) + 1, a) ∈ L) o
theorem fit_range (n : Nat) (L : List (Int × Int)) : Fit n L ((List.range n).map (ageAt L)) := ⟨by simp, fun j o hj e => by
  rw [List.getElem?_map, List.getElem?_range hj] at e
  cases e
  exact ageAt_of L j⟩
theorem Fit.eq {n : Nat} {L : List (Int × Int)} {as bs : List (Option Int)} (h : Fit n L as) (q : Fit n L bs) : as = bs := ages_ext h.1 q.1 h.2 q.2
theorem Fit.congr {n : Nat} {L M : List (Int × Int)} {as : List (Option Int)} (h : Fit n L as) (e : ∀ p, p ∈ L ↔ p ∈ M) : Fit n M as := ⟨h.1, fun j o hj q => (h.2 j o hj q).congr fun a => e _⟩
def oldOf (W : Wy) (gp : Int) (L : List (Int × Int)) : List (Int × Int) := L.filterMap fun p => if decide (p.2 + gp ≤ W.wide) = true then some (p.1, p.2 + gp) else none
theorem mem_oldOf {W : Wy} {gp : Int} {L : List (Int × Int)} {s a : Int} : (s, a) ∈ oldOf W gp L ↔ ∃ a0, (s, a0) ∈ L ∧ a = a0 + gp ∧ a ≤ W.wide := by
  unfold oldOf
  rw [List.mem_filterMap]
  constructor
  · rintro ⟨p, hp, e⟩
    split at e
    · rename_i c
      cases e
      exact ⟨p.2, hp, rfl, of_decide_eq_true c⟩
    · cases e
  · rintro ⟨a0, h, rfl, c⟩
    exact ⟨(s, a0), h, by rw [if_pos (decide_eq_true c)]⟩
theorem Fit.grown {n : Nat} {W : Wy} {gp : Int} {L : List (Int × Int)} {as : List (Option Int)} (h : Fit n L as) : Fit n (oldOf W gp L) (MW.grown as gp W.wide) := ⟨by
  unfold MW.grown
  rw [List.length_map, h.1], fun j o hj e => by
  unfold MW.grown at e
  rw [List.getElem?_map] at e
  obtain ⟨o0, h0, rfl⟩ := Option.map_eq_some_iff.mp e
  have q := h.2 j o0 hj h0
  cases o0 with
  | none =>
    intro a ha
    obtain ⟨a0, g1, _⟩ := mem_oldOf.mp ha
    exact q a0 g1
  | some m =>
    show LeastOf _ (if W.wide < m + gp then none else some (m + gp))
    by_cases c : W.wide < m + gp
    · rw [if_pos c]
      intro a ha
      obtain ⟨a0, g1, g2, g3⟩ := mem_oldOf.mp ha
      have := q.2 a0 g1
      omega
    · rw [if_neg c]
      refine ⟨mem_oldOf.mpr ⟨m, q.1, rfl, by omega⟩, fun a ha => ?_⟩
      obtain ⟨a0, g1, g2, g3⟩ := mem_oldOf.mp ha
      have := q.2 a0 g1
      omega⟩
/-! ### what comes -/
def cval (W : Wy) (b : Bool) (as : List (Option Int)) (j : Nat) : Option Int :=
  if j = 0 then (if (W.fst && b) = true then none else some 0) else match as.getD (j - 1) none with
    | none => none
    | some a => some (if W.each = true then 0 else a)
theorem came1_at {W : Wy} {b : Bool} {as : List (Option Int)} {f : List (Option Int)} {done : List Nat} {j : Nat} (hf : ∀ i, i < f.length → f[i]? = some (if i ∈ done then cval W b as i else none)) :
    ∀ i, i < f.length → (came1 W b as f j)[i]? = some (if i ∈ j :: done then cval W b as i else none) := fun i hi => by
  have hset : ∀ v, v = cval W b as j → (f.set j v)[i]? = some (if i ∈ j :: done then cval W b as i else none) := fun v e => by
    by_cases c : j = i
    · subst c
      rw [List.getElem?_set_self hi, if_pos (List.mem_cons_self ..), e]
    · rw [List.getElem?_set_ne c, hf i hi]
      have : (i ∈ j :: done) ↔ i ∈ done := by
        rw [List.mem_cons]
        exact ⟨fun h => h.resolve_left fun z => c z.symm, .inr⟩
      simp only [this]
  unfold came1
  by_cases c0 : j = 0
  · subst c0
    rw [if_pos rfl]
    exact hset _ (by unfold cval; rw [if_pos rfl])
  · rw [if_neg c0]
    cases h : as.getD (j - 1) none with
    | none =>
      have hc : cval W b as j = none := by
        unfold cval
        rw [if_neg c0, h]
      show f[i]? = _
      rw [hf i hi]
      by_cases c : i = j
      · subst c
        rw [hc]
        simp
      · have : (i ∈ j :: done) ↔ i ∈ done := by
          rw [List.mem_cons]
          exact ⟨fun h => h.resolve_left c, .inr⟩
        simp only [this]
    | some a =>
      exact hset _ (by unfold cval; rw [if_neg c0, h])
theorem came_fold {W : Wy} {b : Bool} {as : List (Option Int)} : ∀ (js : List Nat) {f : List (Option Int)} {done : List Nat}, (∀ i, i < f.length → f[i]? = some (if i ∈ done then cval W b as i else none)) →
    ∀ i, i < f.length → (js.foldl (came1 W b as) f)[i]? = some (if i ∈ js ∨ i ∈ done then cval W b as i else none)
  | [], f, done, hf, i, hi => by
    rw [List.foldl_nil, hf i hi]
    simp
  | j :: js, f, done, hf, i, hi => by
    rw [List.foldl_cons]
    have := came_fold js (f := came1 W b as f j) (done := j :: done) (fun i hi => came1_at hf i (by rw [came1_len] at hi; exact hi)) i (by rw [came1_len]; exact hi)
    rw [this]
    have e : (i ∈ js ∨ i ∈ j :: done) ↔ (i ∈ j :: js ∨ i ∈ done) := by
      rw [List.mem_cons, List.mem_cons]
      constructor
      · rintro (h | h | h)
        · exact .inl (.inr h)
        · exact .inl (.inl h)
        · exact .inr h
      · rintro ((h | h) | h)
        · exact .inr (.inl h)
        · exact .inl h
        · exact .inr (.inr h)
    simp only [e]
theorem came_at {W : Wy} {b : Bool} {as : List (Option Int)} {k : Int} {i : Nat} (hi : i < W.steps.length) : (came W b as k)[i]? = some (if i ∈ idx W.steps k then cval W b as i else none) := by
  unfold came
  rw [came_fold (idx W.steps k) (done := []) (fun i h => by
    rw [List.length_replicate] at h
    rw [List.getElem?_replicate, if_pos h]
    simp) i (by rw [List.length_replicate]; exact hi)]
  simp
theorem mem_frF {W : Wy} {st : List Nat} {x : Int × Int} : ∀ {l f0 : List (Int × Int)}, x ∈ l.foldl (frF W st) f0 ↔ x ∈ f0 ∨ ∃ q ∈ l, q.1.toNat ∈ st ∧ 0 ≤ q.1 ∧ x = (q.1 + 1, if W.each = true then 0 else q.2)
  | [], f0 => by simp
  | q :: r, f0 => by
    rw [List.foldl_cons, mem_frF (l := r)]
    have h1 : x ∈ frF W st f0 q ↔ x ∈ f0 ∨ (q.1.toNat ∈ st ∧ 0 ≤ q.1 ∧ x = (q.1 + 1, if W.each = true then 0 else q.2)) := by
      unfold frF
      by_cases c : (decide (q.1.toNat ∈ st) && decide (0 ≤ q.1)) = true
      · rw [if_pos c, List.mem_append, List.mem_singleton]
        rw [Bool.and_eq_true] at c
        have c1 := of_decide_eq_true c.1
        have c2 := of_decide_eq_true c.2
        exact ⟨fun h => h.imp id fun e => ⟨c1, c2, e⟩, fun h => h.imp id fun e => e.2.2⟩
      · rw [if_neg c]
        rw [Bool.and_eq_true] at c
        exact ⟨.inl, fun h => h.elim id fun e => absurd ⟨decide_eq_true e.1, decide_eq_true e.2.1⟩ c⟩
    rw [h1]
    constructor
    · rintro ((h | h) | ⟨p, hp, h⟩)
      · exact .inl h
      · exact .inr ⟨q, List.mem_cons_self .., h⟩
      · exact .inr ⟨p, List.mem_cons_of_mem _ hp, h⟩
    · rintro (h | ⟨p, hp, h⟩)
      · exact .inl (.inl h)
      · rcases List.mem_cons.mp hp with rfl | hp
        · exact .inl (.inr h)
        · exact .inr ⟨p, hp, h⟩
def frOf (W : Wy) (b : Bool) (k : Int) (old : List (Int × Int)) : List (Int × Int) :=
  old.foldl (frF W (idx W.steps k)) (if (decide (0 ∈ idx W.steps k) && (!W.fst || !b)) = true then [(1, 0)] else [])
theorem fit_came {W : Wy} {b : Bool} {k : Int} {old : List (Int × Int)} {as : List (Option Int)} (h : Fit W.steps.length old as) (h1 : ∀ p ∈ old, 1 ≤ p.1) : Fit W.steps.length (frOf W b k old) (came W b as k) := ⟨by
  unfold came
  rw [came_fold_len, List.length_replicate], fun j o hj e => by
  rw [came_at hj] at e
  cases e
  by_cases cj : j ∈ idx W.steps k
  · rw [if_pos cj]
    by_cases c0 : j = 0
    · subst c0
      unfold cval
      rw [if_pos rfl]
      have hm : ∀ a, ((((0 : Nat) : Int) + 1, a) ∈ frOf W b k old) ↔ (a = 0 ∧ (W.fst && b) = false) := fun a => by
        unfold frOf
        rw [mem_frF]
        constructor
        · rintro (q | ⟨p, hp, _, _, e⟩)
          · by_cases c : (decide (0 ∈ idx W.steps k) && (!W.fst || !b)) = true
            · rw [if_pos c, List.mem_singleton] at q
              rw [Bool.and_eq_true] at c
              refine ⟨(Prod.ext_iff.mp q).2, ?_⟩
              have := c.2
              cases hf : W.fst <;> cases b <;> simp_all
            · rw [if_neg c] at q
              cases q
          · have := h1 p hp
            have := (Prod.ext_iff.mp e).1
            simp only at this
            omega
        · rintro ⟨rfl, c⟩
          refine .inl ?_
          rw [if_pos (by rw [Bool.and_eq_true]; exact ⟨decide_eq_true cj, by cases hf : W.fst <;> cases b <;> simp_all⟩)]
          simp
      cases c : (W.fst && b) with
      | true =>
        rw [if_pos rfl]
        intro a ha
        have := (hm a).mp ha
        rw [c] at this
        cases this.2
      | false =>
        rw [if_neg Bool.false_ne_true]
        exact ⟨(hm 0).mpr ⟨rfl, c⟩, fun a ha => by rw [((hm a).mp ha).1]; exact Int.le_refl _⟩
    · have hm : ∀ a, (((j : Int) + 1, a) ∈ frOf W b k old) ↔ ∃ a0, (((j - 1 : Nat) : Int) + 1, a0) ∈ old ∧ a = (if W.each = true then 0 else a0) := fun a => by
        unfold frOf
        rw [mem_frF]
        constructor
        · rintro (q | ⟨p, hp, _, _, e⟩)
          · split at q
            · rw [List.mem_singleton] at q
              have := (Prod.ext_iff.mp q).1
              simp only at this
              omega
            · cases q
          · have e1 := (Prod.ext_iff.mp e).1
            have e2 := (Prod.ext_iff.mp e).2
            simp only at e1 e2
            refine ⟨p.2, ?_, e2⟩
            have : (((j - 1 : Nat) : Int) + 1) = p.1 := by omega
            rw [this]
            exact hp
        · rintro ⟨a0, ha, rfl⟩
          refine .inr ⟨_, ha, ?_, by show (0 : Int) ≤ ((j - 1 : Nat) : Int) + 1; omega, ?_⟩
          · have : (((j - 1 : Nat) : Int) + 1).toNat = j := by omega
            rw [this]
            exact cj
          · have : (((j - 1 : Nat) : Int) + 1) = (j : Int) := by omega
            simp only [this]
      unfold cval
      rw [if_neg c0]
      have hl : j - 1 < as.length := by rw [h.1]; omega
      have q := h.2 (j - 1) _ (by omega) (List.getElem?_eq_getElem hl)
      rw [List.getD_eq_getElem?_getD, List.getElem?_eq_getElem hl]
      show LeastOf _ (match as[j - 1] with | none => none | some a => some (if W.each = true then 0 else a))
      cases ha : as[j - 1] with
      | none =>
        rw [ha] at q
        intro a z
        obtain ⟨a0, g1, _⟩ := (hm a).mp z
        exact q a0 g1
      | some m =>
        rw [ha] at q
        refine ⟨(hm _).mpr ⟨m, q.1, rfl⟩, fun a z => ?_⟩
        obtain ⟨a0, g1, rfl⟩ := (hm a).mp z
        have := q.2 a0 g1
        split <;> omega
  · rw [if_neg cj]
    intro a ha
    unfold frOf at ha
    rcases mem_frF.mp ha with q | ⟨p, hp, g1, g2, e⟩
    · split at q
      · rename_i c
        rw [Bool.and_eq_true] at c
        rw [List.mem_singleton] at q
        have := (Prod.ext_iff.mp q).1
        simp only at this
        have : j = 0 := by omega
        subst this
        exact cj (of_decide_eq_true c.1)
      · cases q
    · have e1 := (Prod.ext_iff.mp e).1
      simp only at e1
      have : p.1.toNat = j := by omega
      rw [this] at g1
      exact cj g1⟩
end MW
namespace MW
open PySem PySem.Spec PyProof.Rows KC KV WZ
theorem later_any {W : Wy} {y : Kpt} {e : Int × Int} (c : W.how = .any) : later W y e =
    (max y.1 (cnt ((sortU (oldOf W e.1 y.2.2 ++ (idx W.steps e.2).map fun (j : Nat) => ((j : Int) + 1, 0))).map (·.1)) : Int), y.2.1 || decide (0 ∈ idx W.steps e.2), sortU (oldOf W e.1 y.2.2 ++ (idx W.steps e.2).map fun (j : Nat) => ((j : Int) + 1, 0))) := by
  unfold later
  simp only [if_pos c]
  rfl
theorem later_not {W : Wy} {y : Kpt} {e : Int × Int} (c : W.how ≠ .any) : later W y e =
    (maxI (y.1 :: (frOf W y.2.1 e.2 (oldOf W e.1 y.2.2)).map (·.1)), y.2.1 || decide (0 ∈ idx W.steps e.2),
      sortU ((if W.how = .strict ∨ (W.how = .among ∧ idx W.steps e.2 ≠ []) then [] else oldOf W e.1 y.2.2) ++ frOf W y.2.1 e.2 (oldOf W e.1 y.2.2))) := by
  unfold later
  simp only [if_neg c]
  rfl
theorem maxI_congr {l m : List Int} (hl : l ≠ []) (hm : m ≠ []) (e : ∀ x, x ∈ l ↔ x ∈ m) : maxI l = maxI m := by
  obtain ⟨h1, h2⟩ := maxI_mem hl
  exact maxI_of ((e _).mp h1) fun y hy => h2 y ((e y).mpr hy)
theorem mem_somes {as : List (Option Int)} {j : Nat} : j ∈ somes as ↔ ∃ o, as[j]? = some o ∧ o.isSome = true := by
  unfold somes
  rw [List.mem_filterMap]
  constructor
  · rintro ⟨p, hp, e⟩
    obtain ⟨a, i⟩ := p
    rw [List.mem_zipIdx_iff_getElem?] at hp
    split at e
    · rename_i c
      cases e
      exact ⟨a, hp, c⟩
    · cases e
  · rintro ⟨o, h, c⟩
    exact ⟨(o, j), List.mem_zipIdx_iff_getElem?.mpr h, by rw [if_pos c]⟩
structure Good (W : Wy) (L : List (Int × Int)) : Prop where
  at_ : ∀ p ∈ L, 1 ≤ p.1 ∧ p.1 ≤ (W.steps.length : Int) ∧ 0 ≤ p.2 ∧ p.2 ≤ W.wide
theorem old_good {W : Wy} {gp : Int} {L : List (Int × Int)} (g : 0 ≤ gp) (h : Good W L) : Good W (oldOf W gp L) := ⟨old_facts g h.at_⟩
theorem fr_good {W : Wy} {b : Bool} {k : Int} {L : List (Int × Int)} (ok : OkW W) (h : Good W L) : Good W (frOf W b k L) := ⟨fun p hp => by
  unfold frOf at hp
  have one := ok.one
  have w0 := ok.w0
  rcases mem_frF.mp hp with q | ⟨q, hq, g1, g2, rfl⟩
  · split at q
    · rw [List.mem_singleton] at q
      subst q
      exact ⟨by show (1 : Int) ≤ 1; omega, by show (1 : Int) ≤ _; omega, by show (0 : Int) ≤ 0; omega, w0⟩
    · cases q
  · obtain ⟨a1, a2, a3, a4⟩ := h.at_ q hq
    have := (mem_idx.mp g1).1
    refine ⟨by show 1 ≤ q.1 + 1; omega, by show q.1 + 1 ≤ _; omega, ?_, ?_⟩
    · show 0 ≤ (if W.each = true then 0 else q.2)
      split <;> omega
    · show (if W.each = true then 0 else q.2) ≤ _
      split <;> omega⟩
theorem good_app {W : Wy} {L M : List (Int × Int)} (h : Good W L) (q : Good W M) : Good W (L ++ M) := ⟨fun p hp => (List.mem_append.mp hp).elim (h.at_ p) (q.at_ p)⟩
theorem good_sort {W : Wy} {L : List (Int × Int)} (h : Good W L) : Good W (sortU L) := ⟨fun p hp => h.at_ p (mem_sortU.mp hp)⟩
theorem good_st {W : Wy} {k : Int} (ok : OkW W) : Good W ((idx W.steps k).map fun (j : Nat) => ((j : Int) + 1, 0)) := ⟨fun p hp => by
  obtain ⟨j, hj, rfl⟩ := List.mem_map.mp hp
  have := (mem_idx.mp hj).1
  have w0 := ok.w0
  exact ⟨by show (1 : Int) ≤ (j : Int) + 1; omega, by show (j : Int) + 1 ≤ _; omega, by show (0 : Int) ≤ 0; omega, w0⟩⟩
theorem good_len {W : Wy} {L : List (Int × Int)} (ok : OkW W) (h : Good W L) : (sortU L).length ≤ 9 := by
  have few := ok.few
  have w2 := ok.w2
  have nd : (sortU L).Nodup := nodup_of_strict (sortU_strict fun p hp => by
    obtain ⟨a1, a2, a3, a4⟩ := h.at_ p hp
    exact ⟨by omega, by omega, by omega, by omega⟩)
  have := nodup_len_le (m := [((1 : Int), (0 : Int)), (1, 1), (1, 2), (2, 0), (2, 1), (2, 2), (3, 0), (3, 1), (3, 2)]) nd fun p hp => by
    obtain ⟨a1, a2, a3, a4⟩ := h.at_ p (mem_sortU.mp hp)
    obtain ⟨s, a⟩ := p
    simp only at a1 a2 a3 a4
    have hs : s = 1 ∨ s = 2 ∨ s = 3 := by omega
    have ha : a = 0 ∨ a = 1 ∨ a = 2 := by omega
    rcases hs with rfl | rfl | rfl <;> rcases ha with rfl | rfl | rfl <;> simp
  exact this
theorem later_inv {W : Wy} {y : Kpt} {e : Int × Int} (ok : OkW W) (iv : InvK W y) (ge : 0 ≤ e.1) : InvK W (later W y e) := by
  have g0 : Good W (oldOf W e.1 y.2.2) := old_good ge ⟨iv.at_⟩
  by_cases c : W.how = .any
  · rw [later_any c]
    have g := good_app g0 (good_st (k := e.2) ok)
    exact ⟨(good_sort g).at_, good_len ok g⟩
  · rw [later_not c]
    have gf := fr_good (b := y.2.1) (k := e.2) ok g0
    have g : Good W ((if W.how = .strict ∨ (W.how = .among ∧ idx W.steps e.2 ≠ []) then [] else oldOf W e.1 y.2.2) ++ frOf W y.2.1 e.2 (oldOf W e.1 y.2.2)) := good_app (by
      split
      · exact ⟨fun p hp => by cases hp⟩
      · exact g0) gf
    exact ⟨(good_sort g).at_, good_len ok g⟩
theorem fit_union {n : Nat} {L M : List (Int × Int)} {as bs : List (Option Int)} (h : Fit n L as) (q : Fit n M bs) : Fit n (L ++ M) (List.zipWith lesser as bs) := ⟨by
  rw [List.length_zipWith, h.1, q.1]
  exact Nat.min_self _, fun j o hj e => by
  rw [List.getElem?_zipWith, List.getElem?_eq_getElem (by rw [h.1]; exact hj), List.getElem?_eq_getElem (by rw [q.1]; exact hj)] at e
  cases e
  exact ((h.2 j _ hj (List.getElem?_eq_getElem _)).union (q.2 j _ hj (List.getElem?_eq_getElem _))).congr fun a => List.mem_append.symm⟩
theorem fit_any {n : Nat} {L : List (Int × Int)} {as : List (Option Int)} {st : List Nat} (h : Fit n L as) (h0 : ∀ p ∈ L, 0 ≤ p.2) : Fit n (L ++ st.map fun (j : Nat) => ((j : Int) + 1, 0)) (as.zipIdx.map fun p => if p.2 ∈ st then some 0 else p.1) := ⟨by
  rw [List.length_map, List.length_zipIdx, h.1], fun j o hj e => by
  rw [List.getElem?_map, List.getElem?_zipIdx, List.getElem?_eq_getElem (by rw [h.1]; exact hj)] at e
  simp only [Option.map_some, Option.some.injEq, Nat.zero_add] at e
  have hm : ∀ a, (((j : Int) + 1, a) ∈ L ++ st.map fun (j : Nat) => ((j : Int) + 1, (0 : Int))) ↔ ((j : Int) + 1, a) ∈ L ∨ (j ∈ st ∧ a = 0) := fun a => by
    rw [List.mem_append, List.mem_map]
    constructor
    · rintro (q | ⟨i, hi, e⟩)
      · exact .inl q
      · have e1 := (Prod.ext_iff.mp e).1
        have e2 := (Prod.ext_iff.mp e).2
        simp only at e1 e2
        have : i = j := by omega
        subst this
        exact .inr ⟨hi, e2.symm⟩
    · rintro (q | ⟨hj, rfl⟩)
      · exact .inl q
      · exact .inr ⟨j, hj, rfl⟩
  have q := h.2 j _ hj (List.getElem?_eq_getElem (by rw [h.1]; exact hj))
  by_cases c : j ∈ st
  · rw [if_pos c] at e
    subst e
    refine ⟨(hm 0).mpr (.inr ⟨c, rfl⟩), fun a ha => ?_⟩
    rcases (hm a).mp ha with z | ⟨_, rfl⟩
    · exact h0 _ z
    · exact Int.le_refl _
  · rw [if_neg c] at e
    subst e
    exact q.congr fun a => by
      rw [hm]
      exact ⟨.inl, fun z => z.elim id fun y => absurd y.1 c⟩⟩
/-- how many steps there are, either way -/
theorem fit_count {n : Nat} {L : List (Int × Int)} {as : List (Option Int)} (h : Fit n L as) (h1 : ∀ p ∈ L, 1 ≤ p.1 ∧ p.1 ≤ (n : Int)) : (as.filter (·.isSome)).length = cnt (L.map (·.1)) := by
  have e1 : (as.filter (·.isSome)).length = (((List.range n).filter fun j => (as.getD j none).isSome).map fun (j : Nat) => (j : Int) + 1).length := by
    rw [List.length_map]
    have : as = (List.range n).map fun j => as.getD j none := by
      apply List.ext_getElem?
      intro i
      rw [List.getElem?_map]
      by_cases c : i < n
      · rw [List.getElem?_range c, List.getElem?_eq_getElem (by rw [h.1]; exact c)]
        simp [List.getD_eq_getElem?_getD, List.getElem?_eq_getElem (show i < as.length by rw [h.1]; exact c)]
      · rw [List.getElem?_eq_none (by rw [h.1]; omega), List.getElem?_eq_none (by simp; omega)]
        rfl
    conv => lhs; rw [this]
    rw [List.filter_map, List.length_map]
    rfl
  rw [e1]
  refine cnt_of ?_ fun x => ?_
  · rw [List.Nodup, List.pairwise_map]
    exact (List.nodup_range.sublist List.filter_sublist).imp fun {a b} h e => h (by omega)
  · rw [List.mem_map, List.mem_map]
    constructor
    · rintro ⟨j, hj, rfl⟩
      obtain ⟨h2, h3⟩ := List.mem_filter.mp hj
      have hj : j < n := List.mem_range.mp h2
      have hg : as[j]? = some (as.getD j none) := by
        rw [List.getD_eq_getElem?_getD, List.getElem?_eq_getElem (show j < as.length by rw [h.1]; exact hj)]
        rfl
      obtain ⟨a, ha⟩ := (h.2 j _ hj hg).some_iff.mp h3
      exact ⟨_, ha, rfl⟩
    · rintro ⟨p, hp, rfl⟩
      obtain ⟨a1, a2⟩ := h1 p hp
      have hj : (p.1 - 1).toNat < n := by omega
      have e2 : (((p.1 - 1).toNat : Nat) : Int) + 1 = p.1 := by omega
      have hg : as[(p.1 - 1).toNat]? = some (as.getD (p.1 - 1).toNat none) := by
        rw [List.getD_eq_getElem?_getD, List.getElem?_eq_getElem (show (p.1 - 1).toNat < as.length by rw [h.1]; exact hj)]
        rfl
      refine ⟨(p.1 - 1).toNat, List.mem_filter.mpr ⟨List.mem_range.mpr hj, (h.2 _ _ hj hg).some_iff.mpr ⟨p.2, ?_⟩⟩, e2⟩
      rw [e2]
      exact hp
theorem fit_steps {n : Nat} {L : List (Int × Int)} {as : List (Option Int)} (h : Fit n L as) (h1 : ∀ p ∈ L, 1 ≤ p.1 ∧ p.1 ≤ (n : Int)) (x : Int) : x ∈ (somes as).map (fun (j : Nat) => (j : Int) + 1) ↔ x ∈ L.map (·.1) := by
  rw [List.mem_map, List.mem_map]
  constructor
  · rintro ⟨j, hj, rfl⟩
    obtain ⟨o, e, c⟩ := mem_somes.mp hj
    have hl := (List.getElem?_eq_some_iff.mp e).1
    rw [h.1] at hl
    obtain ⟨a, ha⟩ := (h.2 j o hl e).some_iff.mp c
    exact ⟨_, ha, rfl⟩
  · rintro ⟨p, hp, rfl⟩
    obtain ⟨a1, a2⟩ := h1 p hp
    have hj : (p.1 - 1).toNat < n := by omega
    have e2 : (((p.1 - 1).toNat : Nat) : Int) + 1 = p.1 := by omega
    have hg : as[(p.1 - 1).toNat]? = some (as[(p.1 - 1).toNat]'(by rw [h.1]; exact hj)) := List.getElem?_eq_getElem _
    refine ⟨(p.1 - 1).toNat, mem_somes.mpr ⟨_, hg, (h.2 _ _ hj hg).some_iff.mpr ⟨p.2, ?_⟩⟩, e2⟩
    rw [e2]
    exact hp
/-- the law's step is the program's step -/
theorem hK_later {W : Wy} {y : Kpt} {e : Int × Int} (ok : OkW W) (iv : InvK W y) (ge : 0 ≤ e.1) : hK W (later W y e) = behind W (hK W y) e := by
  have fy : Fit W.steps.length y.2.2 (hK W y).2.2 := fit_range _ _
  have fo : Fit W.steps.length (oldOf W e.1 y.2.2) (MW.grown (hK W y).2.2 e.1 W.wide) := fy.grown
  have g0 : Good W (oldOf W e.1 y.2.2) := old_good ge ⟨iv.at_⟩
  have hst : ∀ {L}, Good W L → ∀ p ∈ L, 1 ≤ p.1 ∧ p.1 ≤ (W.steps.length : Int) := fun g p hp => ⟨(g.at_ p hp).1, (g.at_ p hp).2.1⟩
  by_cases c : W.how = .any
  · rw [later_any c]
    unfold behind
    simp only [if_pos c]
    have fa := fit_any (st := idx W.steps e.2) fo fun p hp => (g0.at_ p hp).2.2.1
    have g := good_sort (good_app g0 (good_st (k := e.2) ok))
    have fs : Fit W.steps.length (sortU (oldOf W e.1 y.2.2 ++ (idx W.steps e.2).map fun (j : Nat) => ((j : Int) + 1, 0))) _ := fa.congr fun p => mem_sortU.symm
    refine Prod.ext ?_ (Prod.ext rfl ?_)
    · show max y.1 _ = max y.1 _
      rw [← fit_count fs (hst g)]
    · exact (fit_range _ _).eq fs
  · rw [later_not c]
    unfold behind
    simp only [if_neg c]
    have fc : Fit W.steps.length (frOf W y.2.1 e.2 (oldOf W e.1 y.2.2)) (MW.came W (hK W y).2.1 (MW.grown (hK W y).2.2 e.1 W.wide) e.2) := fit_came fo fun p hp => (g0.at_ p hp).1
    have gf := fr_good (b := y.2.1) (k := e.2) ok g0
    refine Prod.ext ?_ (Prod.ext rfl ?_)
    · show maxI (y.1 :: _) = maxI (y.1 :: _)
      refine maxI_congr (by simp) (by simp) fun x => ?_
      rw [List.mem_cons, List.mem_cons, fit_steps fc (hst gf)]
    · refine (fit_range _ _).eq ?_
      by_cases cl : W.how = .loose
      · rw [if_pos cl, if_neg (by rw [cl]; simp)]
        exact (fit_union fo fc).congr fun p => mem_sortU.symm
      · rw [if_neg cl]
        by_cases cs : W.how ≠ .among ∨ idx W.steps e.2 ≠ []
        · rw [if_pos cs, if_pos (by
            rcases cs with h | h
            · exact .inl (by cases hw : W.how <;> simp_all)
            · by_cases hs : W.how = .strict
              · exact .inl hs
              · exact .inr ⟨by cases hw : W.how <;> simp_all, h⟩)]
          exact fc.congr fun p => by rw [mem_sortU, List.nil_append]
        · rw [if_neg cs, if_neg (by
            rintro (h | h)
            · exact cs (.inl (by rw [h]; simp))
            · exact cs (.inr h.2))]
          have hn : idx W.steps e.2 = [] := Classical.byContradiction fun h => cs (.inr h)
          have hfr : frOf W y.2.1 e.2 (oldOf W e.1 y.2.2) = [] := by
            apply List.eq_nil_iff_forall_not_mem.mpr
            intro p hp
            unfold frOf at hp
            rcases mem_frF.mp hp with q | ⟨q, _, g1, _⟩
            · rw [hn] at q
              simp at q
            · rw [hn] at g1
              cases g1
          rw [hfr, List.append_nil]
          exact fo.congr fun p => mem_sortU.symm
end MW
namespace MW
open PySem PySem.Spec PyProof.Rows KC KV WZ
def rowK (W : Wy) (y : Kpt) : List Kpt := (events W.wide).map (later W y)
def levK (y : Kpt) : Int := y.1
theorem ev_pos {v : Int} {e : Int × Int} (h : e ∈ events v) : 0 ≤ e.1 ∧ 0 ≤ e.2 ∧ e.2 ≤ 4 := by
  unfold events at h
  obtain ⟨g, hg, h⟩ := List.mem_flatMap.mp h
  obtain ⟨k, hk, rfl⟩ := List.mem_map.mp h
  have := List.mem_range.mp hk
  exact ⟨by show (0 : Int) ≤ (g : Int); omega, by show (0 : Int) ≤ (k : Int); omega, by show (k : Int) ≤ 4; omega⟩
theorem ev_turn {v : Int} {e : Int × Int} (h : e ∈ events v) : (e.1, 4 - e.2) ∈ events v := by
  have h3 := ev_pos h
  unfold events at h ⊢
  obtain ⟨g, hg, h⟩ := List.mem_flatMap.mp h
  obtain ⟨k, hk, rfl⟩ := List.mem_map.mp h
  have hk := List.mem_range.mp hk
  refine List.mem_flatMap.mpr ⟨g, hg, List.mem_map.mpr ⟨4 - k, List.mem_range.mpr (by omega), ?_⟩⟩
  show ((g : Int), ((4 - k : Nat) : Int)) = ((g : Int), 4 - (k : Int))
  rw [show ((4 - k : Nat) : Int) = 4 - (k : Int) by omega]
/-- the law's kept ones -/
structure KOk (W : Wy) (y : Kpt) : Prop where
  inv : InvK W y
  re : Reach W (hK W y)
theorem KOk.first (W : Wy) : KOk W (0, false, []) := ⟨⟨fun p hp => (by cases hp), Nat.zero_le _⟩, by rw [hK_first]; exact .first⟩
theorem KOk.later {W : Wy} {y : Kpt} {e : Int × Int} (ok : OkW W) (h : KOk W y) (he : e ∈ events W.wide) : KOk W (MW.later W y e) :=
  ⟨later_inv ok h.inv (ev_pos he).1, by rw [hK_later ok h.inv (ev_pos he).1]; exact .step h.re he⟩
theorem row_hK {W : Wy} {y : Kpt} (ok : OkW W) (h : InvK W y) : rowS W (hK W y) = (rowK W y).map (hK W) := by
  unfold rowS rowK
  rw [List.map_map]
  apply List.map_congr_left
  intro e he
  exact (hK_later ok h (ev_pos he).1).symm
theorem beh_hK {W : Wy} (ok : OkW W) : ∀ (k : Nat) {y : Kpt}, InvK W y → beh (rowK W) levK k y = beh (rowS W) levS k (hK W y)
  | 0, _, _ => rfl
  | k + 1, y, h => by
    show beh (rowK W) levK k y ++ (rowK W y).flatMap (beh (rowK W) levK k) = beh (rowS W) levS k (hK W y) ++ (rowS W (hK W y)).flatMap (beh (rowS W) levS k)
    rw [beh_hK ok k h, row_hK ok h, List.flatMap_map]
    congr 1
    have : ∀ l : List Kpt, (∀ z ∈ l, InvK W z) → l.flatMap (beh (rowK W) levK k) = l.flatMap fun z => beh (rowS W) levS k (hK W z) := fun l hl => by
      induction l with
      | nil => rfl
      | cons a l ih => rw [List.flatMap_cons, List.flatMap_cons, beh_hK ok k (hl a (List.mem_cons_self ..)), ih fun z hz => hl z (List.mem_cons_of_mem _ hz)]
    refine this _ fun z hz => ?_
    obtain ⟨e, he, rfl⟩ := List.mem_map.mp hz
    exact later_inv ok h (ev_pos he).1
/-- what the law has found -/
structure Found (W : Wy) (M : List Kpt) : Prop where
  nd : M.Nodup
  fst : (0, false, []) ∈ M
  ok : ∀ y ∈ M, KOk W y
  cl : ∀ y ∈ M, ∀ z ∈ rowK W y, z ∈ M
theorem Found.reach {W : Wy} {M : List Kpt} (ok : OkW W) (h : Found W M) (x : Std) : Reach W x ↔ x ∈ M.map (hK W) := by
  constructor
  · intro r
    induction r with
    | first => exact List.mem_map.mpr ⟨_, h.fst, hK_first W⟩
    | @step x e _ he ih =>
      obtain ⟨y, hy, rfl⟩ := List.mem_map.mp ih
      exact List.mem_map.mpr ⟨_, h.cl y hy _ (List.mem_map.mpr ⟨e, he, rfl⟩), hK_later ok (h.ok y hy).inv (ev_pos he).1⟩
  · intro hx
    obtain ⟨y, hy, rfl⟩ := List.mem_map.mp hx
    exact (h.ok y hy).re
theorem Found.same {W : Wy} {M : List Kpt} {ks : List Std} (ok : OkW W) (h : Found W M) (hks : ∀ x, x ∈ ks ↔ Reach W x) (k : Nat) : Nk (rowS W) levS ks k = Nk (rowK W) levK M k := by
  unfold Nk
  refine cnt_congr fun v => ?_
  rw [List.mem_map, List.mem_map]
  constructor
  · rintro ⟨x, hx, rfl⟩
    obtain ⟨y, hy, rfl⟩ := List.mem_map.mp ((h.reach ok x).mp ((hks x).mp hx))
    exact ⟨y, hy, beh_hK ok k (h.ok y hy).inv⟩
  · rintro ⟨y, hy, rfl⟩
    exact ⟨hK W y, (hks _).mpr (h.ok y hy).re, (beh_hK ok k (h.ok y hy).inv).symm⟩
/-! ### the kinds called otherwise -/
structure Turned (W V : Wy) : Prop where
  how : V.how = W.how
  each : V.each = W.each
  wide : V.wide = W.wide
  fst : V.fst = W.fst
  len : V.steps.length = W.steps.length
  idx : ∀ k, idx V.steps k = idx W.steps (4 - k)
theorem Turned.came {W V : Wy} (t : Turned W V) (b : Bool) (as : List (Option Int)) (k : Int) : MW.came V b as k = MW.came W b as (4 - k) := by
  have e : came1 V b as = came1 W b as := by
    funext f j
    unfold came1
    rw [t.fst, t.each]
  unfold MW.came
  rw [t.idx, t.len, e]
theorem Turned.behind {W V : Wy} (t : Turned W V) (x : Std) (e : Int × Int) : MW.behind V x e = MW.behind W x (e.1, 4 - e.2) := by
  unfold MW.behind
  simp only [t.how, t.wide, t.idx, t.came]
theorem Turned.first {W V : Wy} (t : Turned W V) : MW.first V = MW.first W := by
  unfold MW.first
  rw [t.len]
theorem Turned.reach1 {W V : Wy} (t : Turned W V) {x : Std} (h : Reach V x) : Reach W x := by
  induction h with
  | first => rw [t.first]; exact .first
  | step _ he ih =>
    rw [t.behind]
    rw [t.wide] at he
    exact .step ih (ev_turn he)
theorem Turned.back {W V : Wy} (t : Turned W V) : Turned V W := ⟨t.how.symm, t.each.symm, t.wide.symm, t.fst.symm, t.len.symm, fun k => by rw [t.idx, show 4 - (4 - k) = k by omega]⟩
theorem Turned.reach {W V : Wy} (t : Turned W V) (x : Std) : Reach V x ↔ Reach W x := ⟨t.reach1, t.back.reach1⟩
theorem rowS_len (W : Wy) (x : Std) : (rowS W x).length = (events W.wide).length := by
  unfold rowS
  rw [List.length_map]
theorem Turned.beh {W V : Wy} (t : Turned W V) : ∀ (k : Nat) (x y : Std), (MW.beh (rowS V) levS k x = MW.beh (rowS V) levS k y ↔ MW.beh (rowS W) levS k x = MW.beh (rowS W) levS k y)
  | 0, x, y => Iff.rfl
  | k + 1, x, y => by
    rw [beh_succ (rowS_len V), beh_succ (rowS_len W), t.beh k x y]
    have hm : ∀ (U : Wy), ((rowS U x).map (MW.beh (rowS U) levS k) = (rowS U y).map (MW.beh (rowS U) levS k)) ↔ ∀ e ∈ events U.wide, MW.beh (rowS U) levS k (MW.behind U x e) = MW.beh (rowS U) levS k (MW.behind U y e) := fun U => by
      unfold rowS
      rw [List.map_map, List.map_map, List.map_inj_left]
      rfl
    rw [hm, hm]
    refine and_congr_right fun _ => ?_
    constructor
    · intro h e he
      have := h (e.1, 4 - e.2) (by rw [t.wide]; exact ev_turn he)
      rw [t.beh k, t.behind, t.behind] at this
      simp only [show 4 - (4 - e.2) = e.2 by omega] at this
      exact this
    · intro h e he
      rw [t.beh k, t.behind, t.behind]
      rw [t.wide] at he
      exact h _ (ev_turn he)
theorem Turned.same {W V : Wy} (t : Turned W V) {ks ls : List Std} (hks : ∀ x, x ∈ ks ↔ Reach W x) (hls : ∀ x, x ∈ ls ↔ Reach V x) (k : Nat) : Nk (rowS V) levS ls k = Nk (rowS W) levS ks k := by
  have e1 : Nk (rowS V) levS ls k = Nk (rowS V) levS ks k := by
    unfold Nk
    refine cnt_congr fun v => ?_
    rw [List.mem_map, List.mem_map]
    constructor
    · rintro ⟨x, hx, rfl⟩
      exact ⟨x, (hks x).mpr ((t.reach x).mp ((hls x).mp hx)), rfl⟩
    · rintro ⟨x, hx, rfl⟩
      exact ⟨x, (hls x).mpr ((t.reach x).mpr ((hks x).mp hx)), rfl⟩
  rw [e1]
  exact cnt_same fun x _ y _ => t.beh k x y
/-- the way with its kinds turned round -/
def turnK (ks : List Int) : List Int := (ks.map fun k => 4 - k).reverse
def turnW (W : Wy) : Wy := { W with steps := W.steps.map turnK }
theorem mem_turnK {k : Int} {ks : List Int} : k ∈ turnK ks ↔ 4 - k ∈ ks := by
  unfold turnK
  rw [List.mem_reverse, List.mem_map]
  constructor
  · rintro ⟨a, ha, rfl⟩
    rw [show 4 - (4 - a) = a by omega]
    exact ha
  · intro h
    exact ⟨_, h, by omega⟩
theorem turned (W : Wy) : Turned W (turnW W) := ⟨rfl, rfl, rfl, rfl, by simp [turnW], fun k => by
  unfold MW.idx turnW
  simp only [List.length_map]
  apply List.filter_congr
  intro j hj
  have hj := List.mem_range.mp hj
  rw [List.getD_eq_getElem?_getD, List.getD_eq_getElem?_getD, List.getElem?_map, List.getElem?_eq_getElem hj]
  exact decide_eq_decide.mpr mem_turnK⟩
theorem turnK_asc {ks : List Int} (h : ks.Pairwise (· < ·)) : (turnK ks).Pairwise (· < ·) := by
  unfold turnK
  rw [List.pairwise_reverse, List.pairwise_map]
  exact h.imp fun {a b} q => by omega
theorem turnK_ok {ks : List Int} (h : OkK ks) : OkK (turnK ks) := ⟨fun e => h.ne (by
    unfold turnK at e
    simpa using e), fun k hk => by
    have := h.rng _ (mem_turnK.mp hk)
    omega, turnK_asc h.asc, by
    unfold turnK
    rw [List.length_reverse, List.length_map]
    exact h.len⟩
theorem turnW_ok {W : Wy} (h : OkW W) : OkW (turnW W) := ⟨by simpa [turnW] using h.one, by simpa [turnW] using h.few, fun x hx => by
  obtain ⟨ks, hk, rfl⟩ := List.mem_map.mp hx
  exact turnK_ok (h.ks ks hk), h.w0, h.w2, h.any⟩
end MW
namespace MW
open PySem PySem.Spec PyProof.Rows KC KV WZ
/-- the state of the law's closing -/
structure Jk (W : Wy) (ks ws : List Kpt) : Prop where
  nd : ks.Nodup
  fst : (0, false, []) ∈ ks ∨ (0, false, []) ∈ ws
  ok : ∀ y ∈ ks, KOk W y
  wok : ∀ y ∈ ws, KOk W y
  cl : ∀ y ∈ ks, ∀ z ∈ rowK W y, z ∈ ks ∨ z ∈ ws
theorem Jk.start (W : Wy) : Jk W [] [(0, false, [])] := ⟨by simp, .inr (by simp), fun y hy => (by cases hy), fun y hy => by rw [List.mem_singleton.mp hy]; exact KOk.first W, fun y hy => by cases hy⟩
theorem Jk.old {W : Wy} {ks ws : List Kpt} {y : Kpt} (h : Jk W ks (ws ++ [y])) (hy : y ∈ ks) : Jk W ks ws :=
  have f : ∀ {z}, z ∈ ks ∨ z ∈ ws ++ [y] → z ∈ ks ∨ z ∈ ws := fun q => q.elim .inl fun q => (List.mem_append.mp q).elim .inr fun q => by
    rw [List.mem_singleton.mp q]
    exact .inl hy
  ⟨h.nd, f h.fst, h.ok, fun z hz => h.wok z (List.mem_append_left _ hz), fun z hz u hu => f (h.cl z hz u hu)⟩
theorem Jk.new {W : Wy} {ks ws : List Kpt} {y : Kpt} (ok : OkW W) (h : Jk W ks (ws ++ [y])) (hy : y ∉ ks) : Jk W (ks ++ [y]) (ws ++ rowK W y) :=
  have ky : KOk W y := h.wok y (by simp)
  have f : ∀ {z}, z ∈ ks ∨ z ∈ ws ++ [y] → z ∈ ks ++ [y] ∨ z ∈ ws ++ rowK W y := fun {z} q => by
    rcases q with q | q
    · exact .inl (List.mem_append_left _ q)
    · rcases List.mem_append.mp q with q | q
      · exact .inr (List.mem_append_left _ q)
      · exact .inl (List.mem_append_right _ q)
  ⟨by
    rw [List.nodup_append]
    exact ⟨h.nd, by simp, fun a ha b hb z => hy (by rw [List.mem_singleton] at hb; rw [← hb, ← z]; exact ha)⟩, f h.fst, fun z hz => (List.mem_append.mp hz).elim (h.ok z) fun q => by rw [List.mem_singleton.mp q]; exact ky,
    fun z hz => (List.mem_append.mp hz).elim (fun q => h.wok z (List.mem_append_left _ q)) fun q => by
      obtain ⟨e, he, rfl⟩ := List.mem_map.mp q
      exact ky.later ok he,
    fun z hz u hu => (List.mem_append.mp hz).elim (fun q => f (h.cl z q u hu)) fun q => by
      rw [List.mem_singleton.mp q] at hu
      exact .inr (List.mem_append_right _ hu)⟩
theorem Jk.found {W : Wy} {ks : List Kpt} (h : Jk W ks []) : Found W ks := ⟨h.nd, h.fst.elim id fun q => (by cases q), h.ok, fun y hy z hz => (h.cl y hy z hz).elim id fun q => by cases q⟩
end MW
namespace KV
open PySem PySem.Spec PyProof.Rows L2 KB KC KD MW
theorem ima_take {H : Hp} : ∀ (n : Nat) {ds : List PyData} {vs : List V}, ImA H vs ds → ImA H (vs.take n) (ds.take n)
  | 0, _, _, h => by rw [List.take_zero, List.take_zero]; exact .nil
  | n + 1, [], _, h => by cases h; exact .nil
  | n + 1, d :: ds, _, h => by
    cases h with
    | cons h1 h2 => exact .cons h1 (ima_take n h2)
end KV
namespace WZ
open PySem PySem.Spec PyProof.Rows L2 KB KC KD KV MW
open Evl (Ex EvT)
open StX (tStar)
section
variable {P : Program} {w : World} {K : PySem.W.Frag} {mg : Str → Option Value} {base : Heap}
def spFound (P : Program) (w : World) : Sp := fun vs H Q _ => ∃ (W : Wy) (v : V), vs = [v, .int 60] ∧ Im H v (wyD W) ∧ OkW W ∧ (∀ H', Ex H H' → Q .non H') ∧
  ∀ fa H' L M, Ex H H' → TDw P w kpD H' fa L → RowsOk kpD (rowK W) H' L M → Found W M → M.length ≤ 60 → Q (.ref fa) H'
structure AK (P : Program) (w : World) (W : Wy) (H0 H : Hp) (fa wa : Addr) (L : List (Kpt × V)) (ks ws : List Kpt) : Prop where
  ex : Ex H0 H
  td : TDw P w kpD H fa L
  rows : Paired (fun (p : Kpt × V) (y : Kpt) => p.1 = y ∧ ∃ a us, p.2 = .ref a ∧ H a = some (.lst us) ∧ ImA H us ((rowK W y).map kpD) ∧ a ≠ wa) L ks
  wt : ∃ vs, H wa = some (.lst vs) ∧ ImA H vs (ws.map kpD)
  fn : H0 fa = none
  wn : H0 wa = none
theorem AK.to {W : Wy} {H0 H H' : Hp} {fa wa : Addr} {L : List (Kpt × V)} {ks ws : List Kpt} (h : AK P w W H0 H fa wa L ks ws) (e : Ex H H') : AK P w W H0 H' fa wa L ks ws :=
  ⟨h.ex.trans e, td_ex h.td e, Paired.mapP h.rows fun p y ⟨q, a, us, z1, z2, z3, z4⟩ => ⟨q, a, us, z1, e _ _ z2, z3.to (Tx.of e), z4⟩, let ⟨vs, a, b⟩ := h.wt; ⟨vs, e _ _ a, b.to (Tx.of e)⟩, h.fn, h.wn⟩
theorem AK.pop {W : Wy} {H0 H : Hp} {fa wa : Addr} {L : List (Kpt × V)} {ks ws : List Kpt} {y : Kpt} {vs : List V} (h : AK P w W H0 H fa wa L ks (ws ++ [y])) (h1 : H wa = some (.lst vs)) (h2 : ImA H vs ((ws ++ [y]).map kpD)) :
    AK P w W H0 (upd H wa (.lst vs.dropLast)) fa wa L ks ws := by
  have hl : vs.length = ws.length + 1 := by rw [h2.length, List.length_map, List.length_append]; rfl
  have ed : vs.dropLast = vs.take ws.length := by rw [List.dropLast_eq_take, hl, Nat.add_sub_cancel]
  rw [ed]
  have tx := tx_lst (us := vs.take ws.length) h1
  refine ⟨Evl.Ex.mut h.ex h.wn, h.td.to tx (upd_ne (nd_nelst h.td h1).symm), Paired.mapP h.rows fun p y ⟨q, a, us, z1, z2, z3, z4⟩ => ⟨q, a, us, z1, by rw [upd_ne z4]; exact z2, z3.to tx, z4⟩, ⟨vs.take ws.length, upd_same, ?_⟩, h.fn, h.wn⟩
  have := ima_take ws.length h2
  rw [List.map_append, List.take_left' (by rw [List.length_map])] at this
  exact this.to tx
theorem pr_found (D : DefAt K mg "_law_all" 44 ["_law_way_here", "_law_most"]) (pF : Prom P w K mg base 1 "_law_first" ["_law_way_here"] (spR RFirst0)) (pE : Prom P w K mg base 1 "_law_events" ["_law_window"] (spR REvents)) (pL : Prom P w K mg base 2 "_law_later" ["_law_way_here", "_law_kept", "_law_event"] (spR RLater))
    (ml : mg "len" = none) : Prom P w K mg base 3 "_law_all" ["_law_way_here", "_law_most"] (spFound P w) :=
  D.prom fun f fd F => F.ok sc44 (fun vs H Q E h => by obtain ⟨W, v, rfl, _⟩ := h; rfl) fun cdv A outer s H vs Q E hr h => by
    obtain ⟨W, v, rfl, hv, ok, qn, q⟩ := h
    refine ⟨_, pss_cons (ps_par (i := 2) (j := 3) rfl sc44.nd rfl rfl (by decide) rfl rfl (pa_cons pe_nnew (pa_cons (pe_lst (pa_cons (pe_pr pF (hr.mono (by decide)) (by rfl) (pa_cons (pv 0) pa_nil)) pa_nil)) pa_nil)) (by rfl))
      (pss_cons (ps_while PassesOwn.never (pt_cmpR (op_neD hr.units) (pv 3) (pe_lst pa_nil) (nomark _))
        (pss_cons (ps_set (i := 4) sc44.nd rfl (.inr rfl) (pe_bm0 PySem.F.plainAttrs_list PySem.F.slot_list_pop PySem.F.type_list_pop mt_pop (pv 3)))
        (pss_cons (ps_if (pt_cmpR (op_notInN encK hr.units) (pv 4) (pv 2) (by rfl))
          (pss_cons (ps_asg (pe_lc (own := [("_law_event", 5)]) (g := gName 5) (tt := tYes) (te := tCall (spR RLater) [] E0 (tCons (tVar 0) (tCons (tVar 4) (tCons (tVar 5) tNil)))) rfl sc44.nd (pi_list (pe_pr pE (hr.mono (by decide)) (by rfl) (pa_cons (pe_ix ix_tup (pv 0) pe_int (fun _ _ => rfl)) pa_nil))) (blkOk_by (N := ["_law_way_here", "_law_most", "_law_found", "_law_waiting", "_law_kept", "_law_event"]) (sc := defScope (topS 44)) (by decide +kernel))
              (fun _ _ _ _ _ => pg_name (i := 5) sc44.nd rfl (.inl rfl)) (fun _ _ _ _ _ => pts_nil) (fun _ _ _ _ _ => pe_pr pL hr (by rfl) (pa_cons (pv 0) (pa_cons (pv 4) (pa_cons (pv 5) pa_nil))))) (pg_sub (pv 2) (pv 4) (set_nd encK hr.units) (fun _ => rfl)))
          (pss_one (ps_set (i := 3) sc44.nd rfl (.inl rfl) (pe_op op_cat (pv 3) (pe_ix (ix_nd encK hr.units) (pv 2) (pv 4) (fun _ _ => rfl)))))) pss_nil)
        (pss_one (ps_if (pt_cmpR op_gt (pe_callB (call_lenN encK) (by rfl) ml PySem.boot_len (pa_cons (pv 2) pa_nil)) (pv 1) (nomark _)) (pss_one (ps_ret pe_non)) pss_nil)))))
      (pss_one (ps_ret (pv 2)))), ?_⟩
    have hs0 : ∀ {H' : Hp}, Ex H H' → Sl H' (start ["_law_way_here", "_law_most", "_law_found", "_law_waiting", "_law_kept", "_law_event"] [v, .int 60]) [some (.im (wyD W)), none, none, none, none, none] := fun {H'} e =>
      .cons ⟨v, rfl, Im.to hv (Tx.of e)⟩ (.cons trivial (.cons trivial (.cons trivial (.cons trivial (.cons trivial .nil)))))
    intro fa hfa
    have e1 := Evl.Ex.new (o := NdO P w fa []) hfa
    refine de_call (R := RFirst0) (a := .im (kpD (0, false, []))) (dea_cons (de_var (a := .im (wyD W)) rfl) dea_nil) ⟨W, rfl, rfl⟩ _ _ (hs0 e1) _ fun v2 H2 e2 q2 => ⟨by show 1 ≤ sizeLine; decide, fun wa hwa => ⟨_, _, rfl, ?_⟩⟩
    have e3 := Evl.Ex.new (o := .lst [v2]) hwa
    have h2fa : H2 fa = some (NdO P w fa []) := e2 _ _ upd_same
    have hwaH : H wa = none := by
      cases z : H wa with
      | none => rfl
      | some o => rw [(e1.trans e2) _ _ z] at hwa; cases hwa
    have A0 : AK P w W H (upd H2 wa (.lst [v2])) fa wa [] [] [(0, false, [])] := ⟨(e1.trans e2).trans e3, ⟨[], e3 _ _ h2fa, .nil⟩, .nil, ⟨[v2], upd_same, .one (Im.to q2 (Tx.of e3))⟩, hfa, hwaH⟩
    have hev : (events W.wide).length ≤ 20 := by
      have := ok.w2
      rw [events_len]
      omega
    have hrl : ∀ y, (rowK W y).length ≤ 20 := fun y => by
      unfold rowK
      rw [List.length_map]
      exact hev
    show tSeq (tWhile _ _) _ _ [some v, some (.int 60), some (.ref fa), some (.ref wa), none, none] _
    refine ⟨fun m σ H' => ∃ (L : List (Kpt × V)) (ks ws : List Kpt) (wa : Addr) (x4 x5 : Option V), σ = [some v, some (.int 60), some (.ref fa), some (.ref wa), x4, x5] ∧ m = ws.length + 21 * (61 - ks.length) ∧ ks.length ≤ 60 ∧ ws.length ≤ 1 + 20 * ks.length ∧ Jk W ks ws ∧ AK P w W H H' fa wa L ks ws,
      ⟨_, [], [], _, wa, none, none, rfl, rfl, Nat.zero_le _, by simp, Jk.start W, A0⟩, ?_⟩
    rintro m σ H4 ⟨L, ks, ws, wa, x4, x5, rfl, rfl, hk60, hw2000, J, A⟩
    obtain ⟨vs, w4, iw4⟩ := A.wt
    refine dt_test (de_neL (ds := ws.map kpD) (es := []) (sl := [none, none, none, some (.ls (ws.map kpD)), none, none]) (de_var rfl) (de_lst (ds := []) dea_nil (by simp)) (shaped_list lay_kp dep_kp (by decide) _) (by decide)) _ H4
      (.cons trivial (.cons trivial (.cons trivial (.cons ⟨_, rfl, wa, vs, rfl, w4, iw4⟩ (.cons trivial (.cons trivial .nil)))))) _ fun H5 e5 => ?_
    rw [eqv_nilD]
    have A5 := A.to e5
    refine ite2 (fun hb => ?_) (fun hb => ?_)
    · have hw : ws ≠ [] := of_decide_eq_true hb
      obtain ⟨ws', y, rfl⟩ : ∃ ws' y, ws = ws' ++ [y] := ⟨ws.dropLast, ws.getLast hw, (List.dropLast_concat_getLast hw).symm⟩
      have hlw : (ws' ++ [y]).length = ws'.length + 1 := by simp
      refine ⟨fun σ' H' => ∃ (L : List (Kpt × V)) (ks2 ws2 : List Kpt) (wa : Addr) (x4 x5 : Option V), σ' = [some v, some (.int 60), some (.ref fa), some (.ref wa), x4, x5] ∧ ws2.length + 21 * (61 - ks2.length) < (ws' ++ [y]).length + 21 * (61 - ks.length) ∧ ks2.length ≤ 60 ∧ ws2.length ≤ 1 + 20 * ks2.length ∧ Jk W ks2 ws2 ∧ AK P w W H H' fa wa L ks2 ws2,
        fun σ' H' => ?_, ?_⟩
      · rintro ⟨L, ks2, ws2, wa, x4, x5, rfl, g1, g2, g3, g4, g5⟩
        exact ⟨_, g1, L, ks2, ws2, wa, x4, x5, rfl, rfl, g2, g3, g4, g5⟩
      · obtain ⟨vs5, w5, iw5⟩ := A5.wt
        have lv : vs5.length = ws'.length + 1 := by rw [iw5.length, List.length_map, hlw]
        obtain ⟨z, hz, iz⟩ := iw5.at (i := ws'.length) (d := kpD y) (by rw [List.getElem?_map, List.getElem?_append_right (Nat.le_refl _), Nat.sub_self]; rfl)
        refine ⟨.ref wa, rfl, .inl ⟨rfl, vs5, SqL.of w5⟩, wa, vs5, z, rfl, rfl, w5, by rw [lv, Nat.add_sub_cancel]; exact hz, ?_⟩
        have A6 := A5.pop w5 iw5
        have iz6 := Im.to iz (tx_lst (us := vs5.dropLast) w5)
        have h6wa : upd H5 wa (.lst vs5.dropLast) wa = some (.lst vs5.dropLast) := upd_same
        generalize upd H5 wa (.lst vs5.dropLast) = H6 at A6 iz6 h6wa ⊢
        have keys : L.map (·.1) = ks := paired_keys (F := fun y v => ∃ a us, v = .ref a ∧ H6 a = some (.lst us) ∧ ImA H6 us ((rowK W y).map kpD) ∧ a ≠ wa) A6.rows
        have lL : L.length = ks.length := Paired.length A6.rows
        refine ⟨z, rfl, .ref fa, rfl, fa, L, y, rfl, A6.td.rd, iz6, _, rfl, ite2 (fun hn => ?_) (fun hn => ?_)⟩
        · -- a new one
          have hv0 : valV L y = none := by
            cases c : valV L y with
            | none => rfl
            | some u => rw [c] at hn; cases hn
          have hy : y ∉ ks := by
            rw [← keys]
            exact valV_not hv0
          have ky : KOk W y := J.wok y (by simp)
          refine seq_asg (σ := [some v, some (.int 60), some (.ref fa), some (.ref wa), some z, x5]) ?_
          refine den_lcX (ds := (rowK W y).map kpD) (sl := [some (.im (wyD W)), none, none, none, some (.im (kpD y)), none]) (events W.wide) evD (fun e => kpD (later W y e)) rfl (by unfold rowK; rw [List.map_map]; rfl) (di_list (de_call (R := REvents) (dea_cons (de_ixT (j := 3) (de_var (a := .im (wyD W)) rfl) de_int rfl) dea_nil) ⟨W.wide, rfl, ok.w0, ok.w2, rfl⟩)) (tg_name (by simp)) (by omega)
            (fun e he => ⟨_, rfl, de_call (R := RLater) (dea_cons (de_var (a := .im (wyD W)) rfl) (dea_cons (de_var (a := .im (kpD y)) rfl) (dea_cons (de_var (a := .im (evD e)) rfl) dea_nil))) ⟨W, y, e, rfl, ok, ky.inv, (ev_pos he).1, rfl⟩⟩) [some v, some (.int 60), some (.ref fa), some (.ref wa), some z, x5] H6
            (.cons ⟨v, rfl, Im.to hv (Tx.of A6.ex)⟩ (.cons trivial (.cons trivial (.cons trivial (.cons ⟨z, rfl, iz6⟩ (.cons trivial .nil)))))) _ fun p us H7 e7 hp h7 i7 => ?_
          have A7 := A6.to e7
          have iz7 := Im.to iz6 (Tx.of e7)
          have hpw : p ≠ wa := fun c => by rw [c, h6wa] at hp; cases hp
          refine ⟨.ref fa, rfl, z, rfl, fa, L, y, rfl, A7.td, iz7, by rw [lL]; exact Nat.lt_of_le_of_lt hk60 (by decide), fun H8 b8 t8 => ?_⟩
          rw [putK_new _ hv0] at t8
          have tx8 : Tx H7 H8 := b8.tx fun xs => by
            obtain ⟨ys, hy⟩ := A7.td.some
            exact nd_notup hy xs
          have hlst : ∀ {a us}, H7 a = some (.lst us) → H8 a = some (.lst us) := fun {a us} h => by
            rw [b8 a (nd_nelst A7.td h)]
            exact h
          have ex8 : Ex H H8 := fun a o h => by
            rw [b8 a (ne_of_none h A7.fn)]
            exact A7.ex _ _ h
          have iz8 := Im.to iz7 tx8
          obtain ⟨vs7, w7, iw7⟩ := A7.wt
          have w8 := hlst w7
          have h8 := hlst h7
          have i8 := i7.to tx8
          have l7 : vs7.length = ws'.length := by rw [iw7.length, List.length_map]
          have lus : us.length ≤ 20 := by
            rw [i7.length, List.length_map]
            exact hrl y
          refine ⟨.ref wa, rfl, .ref fa, rfl, z, rfl, fa, _, y, .ref p, rfl, TDw.rd t8, iz8, by rw [valV_snoc _ _ _ _ hv0, if_pos rfl], wa, p, vs7, us, rfl, rfl, w8, h8, Evl.sz_of (by omega), fun wb hwb => ?_⟩
          have e9 := Evl.Ex.new (o := .lst (vs7 ++ us)) hwb
          have rows8 : Paired (fun (p : Kpt × V) (y : Kpt) => p.1 = y ∧ ∃ a us, p.2 = .ref a ∧ H8 a = some (.lst us) ∧ ImA H8 us ((rowK W y).map kpD)) (L ++ [(y, V.ref p)]) (ks ++ [y]) :=
            paired_snoc (Paired.mapP A7.rows fun p y ⟨q, a, us, z1, z2, z3, z4⟩ => ⟨q, a, us, z1, hlst z2, z3.to tx8⟩) ⟨rfl, p, us, rfl, h8, i8⟩
          have hwbH : H wb = none := by
            cases c : H wb with
            | none => rfl
            | some o => rw [ex8 _ _ c] at hwb; cases hwb
          have A9 : AK P w W H (upd H8 wb (.lst (vs7 ++ us))) fa wb (L ++ [(y, V.ref p)]) (ks ++ [y]) (ws' ++ rowK W y) :=
            ⟨ex8.trans e9, td_ex t8 e9, Paired.mapP rows8 fun p y ⟨q, a, us, z1, z2, z3⟩ => ⟨q, a, us, z1, e9 _ _ z2, z3.to (Tx.of e9), ne_of_none z2 hwb⟩, ⟨_, upd_same, by
              rw [List.map_append]
              exact (ImA.append (iw7.to tx8) i8).to (Tx.of e9)⟩, A7.fn, hwbH⟩
          have J9 := J.new ok hy
          refine ⟨.ref fa, rfl, fa, _, rfl, A9.td.rd, .int 60, rfl, _, _, rfl, rfl, _, rfl, ite2 (fun hg => ?_) (fun hg => ?_)⟩
          · exact qn _ A9.ex
          · have h60 : (L ++ [(y, V.ref p)]).length ≤ 60 := Nat.le_of_not_lt fun c => hg (decide_eq_true (by omega))
            have ll : (L ++ [(y, V.ref p)]).length = ks.length + 1 := by rw [List.length_append, lL]; rfl
            have lr := hrl y
            refine ⟨_, ks ++ [y], ws' ++ rowK W y, wb, _, _, rfl, ?_, ?_, ?_, J9, A9⟩
            · rw [List.length_append, List.length_append, List.length_append]
              simp only [List.length_singleton]
              omega
            · rw [List.length_append]
              simp only [List.length_singleton]
              omega
            · rw [List.length_append, List.length_append]
              simp only [List.length_singleton]
              omega
        · have hy : y ∈ ks := by
            cases c : valV L y with
            | none => rw [c] at hn; exact absurd rfl hn
            | some u =>
              rw [← keys]
              exact valV_in c
          refine ⟨.ref fa, rfl, fa, _, rfl, A6.td.rd, .int 60, rfl, _, _, rfl, rfl, _, rfl, ite2 (fun hg => ?_) (fun hg => ?_)⟩
          · exact absurd (of_decide_eq_true hg) (by omega)
          · exact ⟨L, ks, ws', wa, _, _, rfl, by omega, hk60, by omega, J.old hy, A6⟩
    · have hw : ws = [] := Classical.byContradiction fun h => hb (decide_eq_true h)
      subst hw
      exact ⟨.ref fa, rfl, q fa _ L ks A5.ex A5.td (Paired.mapP A5.rows fun p y ⟨q, a, us, z1, z2, z3, z4⟩ => ⟨q, a, us, z1, z2, z3⟩) J.found hk60⟩
end
end WZ
namespace MW
open PySem PySem.Spec PyProof.Rows L2 KB KC KD KV WZ
theorem posn_get {β : Type} [DecidableEq β] {a : β} : ∀ {l : List β}, a ∈ l → l[posn l a]? = some a
  | [], h => by cases h
  | x :: l, h => by
    unfold posn
    by_cases c : x = a
    · rw [if_pos c, c]
      rfl
    · rw [if_neg c]
      exact posn_get ((List.mem_cons.mp h).resolve_left fun z => c z.symm)
theorem posn_first {β : Type} [DecidableEq β] {a z : β} : ∀ {l : List β} {m : Nat}, m < posn l a → l[m]? = some z → z ≠ a
  | [], _, h, _ => by unfold posn at h; omega
  | x :: l, 0, h, e => by
    cases e
    intro c
    unfold posn at h
    rw [if_pos c] at h
    omega
  | x :: l, m + 1, h, e => by
    unfold posn at h
    by_cases c : x = a
    · rw [if_pos c] at h
      omega
    · rw [if_neg c] at h
      exact posn_first (l := l) (m := m) (by omega) (by simpa using e)
theorem eqv_ints : ∀ a b : List Int, PyData.eqvAll (a.map .int) (b.map .int) = decide (a = b)
  | [], [] => rfl
  | [], b :: bs => rfl
  | a :: as, [] => rfl
  | a :: as, b :: bs => by
    show (PyData.eqv (.int a) (.int b) && PyData.eqvAll (as.map .int) (bs.map .int)) = _
    rw [eqv_ints as bs]
    show ((a == b) && decide (as = bs)) = decide (a :: as = b :: bs)
    by_cases c : a = b
    · subst c
      simp
    · have : (a == b) = false := by simpa using c
      rw [this, decide_eq_false (fun h => c (List.cons.inj h).1)]
      rfl
theorem lay_tupI (l : List Int) : (tupI l).canLay0 = true := canLay_ints l
theorem dep_tupI (l : List Int) : (tupI l).depth ≤ 2 := by
  have := depth_ints l
  show PyData.depthAll (l.map .int) + 1 ≤ 2
  omega
theorem shaped_tupI (l : List Int) : SeqAt.shaped (tupI l) = true := shaped_kD l
theorem reach_pos {W : Wy} {x : Std} (h : Reach W x) : 0 ≤ x.1 := by
  induction h with
  | first => exact Int.le_refl _
  | @step x e _ _ ih =>
    refine Int.le_trans ih ?_
    unfold behind
    by_cases c : W.how = .any
    · simp only [if_pos c]
      exact Int.le_max_left ..
    · simp only [if_neg c]
      exact (maxI_mem (by simp)).2 _ (List.mem_cons_self ..)
theorem bound_of : ∀ l : List Int, ∃ B : Int, ∀ x ∈ l, x < B
  | [] => ⟨0, fun x h => by cases h⟩
  | a :: l => by
    obtain ⟨B, h⟩ := bound_of l
    refine ⟨max B (a + 1), fun x hx => ?_⟩
    rcases List.mem_cons.mp hx with rfl | hx
    · have := Int.le_max_right B (x + 1)
      omega
    · have := h x hx
      have := Int.le_max_left B (a + 1)
      omega
end MW
namespace KV
open PySem PySem.Spec PyProof.Rows L2 KB KC KD MW
open Evl (Ex EvT)
def wiAny (src : List PyData) : TI := fun _ H R => ∀ J H2, Ex H H2 → SrcOk J H2 src → R J H2
theorem di_any {sl : SL} {src : List PyData} : DI (wiAny src) sl src := fun σ H hs R r => r
theorem lc_at {wi : TI} {g : TG} {tt : TT} {te : TE} {vs : List Nat} {σ : L2.St} {H : Hp} {Q : VK} {src : List PyData} (h : ∀ R, (∀ J H2, Ex H H2 → SrcOk J H2 src → R J H2) → wi σ H R) (h2 : tLc (wiAny src) g tt te vs σ H Q) : tLc wi g tt te vs σ H Q := h _ h2
theorem de_index {sl : SL} {K : PySem.W.Frag} {ta te : TE} {ord : List (List Int)} {s : List Int} (h1 : De ta sl (.ls (ord.map tupI))) (h2 : De te sl (.im (tupI s))) (hs : s ∈ ord) : De (tBM K "list" (rIndexD K) ta (tCons te tNil)) sl (.im (.int (posn ord s : Int))) := fun σ H hs0 Q q => h1 σ H hs0 _ fun v H1 e1 q1 => by
  obtain ⟨p, xs, ev, z1, z2⟩ := id q1
  refine ⟨ev ▸ .inl ⟨rfl, xs, SqL.of z1⟩, h2 σ H1 (hs0.to e1) _ fun u H2 e2 q2 => ?_⟩
  subst ev
  refine ⟨p, u, tupI s, ord.map tupI, posn ord s, tupI s, rfl, rfl, hs_dp (q1.to e2), Im.dp _ _ q2, shaped_list lay_tupI dep_tupI (by decide) _, shaped_tupI s, ?_, ?_, fun m z' hm hz => ?_, q _ H2 (e1.trans e2) (.int _)⟩
  · rw [List.getElem?_map, posn_get hs]
    rfl
  · show PyData.eqvAll (s.map .int) (s.map .int) = true
    rw [eqv_ints, decide_eq_true rfl]
  · rw [List.getElem?_map] at hz
    obtain ⟨z, h3, rfl⟩ := Option.map_eq_some_iff.mp hz
    show PyData.eqvAll (z.map .int) (s.map .int) = false
    rw [eqv_ints]
    exact decide_eq_false (posn_first hm h3)
end KV
namespace WZ
open PySem PySem.Spec PyProof.Rows L2 KB KC KD KV MW
open Evl (Ex EvT)
open StX (tStar)
section
variable {P : Program} {w : World} {K : PySem.W.Frag} {α : Type} [DecidableEq α] {en : α → PyData}
/-- len(set(list(d.values()))) -/
theorem rd_lenVals2 {σ : L2.St} {H : Hp} {i : Nat} {d : Addr} {ks : List α} {m : α → Int} {Q : VK} (hi : σ[i]? = some (some (.ref d))) (t : TDw P w en H d (ks.map fun x => (x, .int (m x)))) (hk : ks.length ≤ 4000) (q : ∀ H2, Ex H H2 → Q (.int (cnt (ks.map m) : Nat)) H2) :
    tCB rLenSet (tCons (tCB (rSetI K) (tCons (tNVals P w en (tVar i)) tNil)) tNil) σ H Q := by
  refine ⟨.ref d, hi, d, _, rfl, t.rd, fun p hp => ?_⟩
  have e1 := Evl.Ex.new (o := .lst ((ks.map fun x => (x, V.int (m x))).map fun q => q.2)) hp
  refine ⟨p, ks.map m, rfl, ?_, by rw [List.length_map]; exact hk, fun a S ha hS => ⟨a, S, _, rfl, upd_same, q _ (e1.trans (Evl.Ex.new ha))⟩⟩
  have : ((ks.map fun x => (x, V.int (m x))).map fun q => q.2) = (ks.map m).map V.int := by rw [List.map_map, List.map_map]; rfl
  rw [this]
  exact SqL.of upd_same
/-- pairs for dict(..) -/
theorem ima_kv (hE : Enc en) {H : Hp} {m : α → Int} : ∀ {ks : List α} {vs : List V}, ImA H vs (ks.map fun y => .tuple [en y, .int (m y)]) →
    ∃ ts : List Addr, vs = ts.map V.ref ∧ Paired (fun (t : Addr) (q : α × V) => ∃ kr : Addr, H t = some (.tup [.ref kr, q.2]) ∧ Im H (.ref kr) (en q.1)) ts (ks.map fun y => (y, V.int (m y)))
  | [], _, h => by
    cases h
    exact ⟨[], rfl, .nil⟩
  | y :: ks, _, h => by
    cases h with
    | cons h1 h2 =>
      obtain ⟨ts, rfl, pr⟩ := ima_kv hE h2
      obtain ⟨t, xs, rfl, g1, g2⟩ := Im.ref h1
      obtain ⟨v1, us, rfl, r1, g3⟩ := g2.cons_eq
      obtain ⟨v2, us, rfl, r2, g4⟩ := g3.cons_eq
      obtain rfl := g4.nil_eq
      obtain rfl := Im.int_eq r2
      obtain ⟨kr, rfl⟩ := hE.ref r1
      exact ⟨t :: ts, rfl, .cons ⟨kr, g1, r1⟩ pr⟩
/-- (marks[x],) + tuple([marks[y] for y in row]) -/
theorem rd_sig2 {σ : L2.St} {H : Hp} {im it ir iy : Nat} {md ra : Addr} {v : V} {us : List V} {x : α} {row ks : List α} {m : α → Int} {Q : VK} (hm : σ[im]? = some (some (.ref md))) (ht : σ[it]? = some (some v)) (hr : σ[ir]? = some (some (.ref ra))) (hy : iy < σ.length) (nm : iy ≠ im) (nr : iy ≠ ir)
    (hv : Im H v (en x)) (h1 : H ra = some (.lst us)) (h2 : ImA H us (row.map en)) (t : TDw P w en H md (ks.map fun x => (x, .int (m x)))) (hx : x ∈ ks) (hrow : ∀ y ∈ row, y ∈ ks) (hl : row.length ≤ 1000)
    (q : ∀ p H2, Ex H H2 → H2 p = some (.tup ((m x :: row.map m).map V.int)) → Q (.ref p) H2) :
    tOp (rCatA K) (tTup (tCons (tOp (rNGet P w en) (tVar im) (tVar it)) tNil)) (tCB (rTupOf K) (tCons (tLc (iList K (tVar ir)) (gName iy) tYes (tOp (rNGet P w en) (tVar im) (tVar iy)) [iy]) tNil)) σ H Q := by
  refine ⟨_, hm, v, ht, md, _, x, .int (m x), rfl, t.rd, hv, by rw [valV_fn, if_pos hx], by show 1 ≤ sizeLine; decide, fun t1 ht1 => ?_⟩
  have e1 := Evl.Ex.new (o := .tup [V.int (m x)]) ht1
  have h1' := e1 _ _ h1
  have h2' := h2.to (Tx.of e1)
  have t' := td_ex t e1
  have ht1' : upd H t1 (.tup [V.int (m x)]) t1 = some (.tup [V.int (m x)]) := upd_same
  generalize upd H t1 (.tup [V.int (m x)]) = H1 at e1 h1' h2' t' ht1' ⊢
  refine ⟨_, hr, ra, rfl, ⟨us, SqL.of h1'⟩, fun D hD => ?_⟩
  have lus : us.length = row.length := by rw [h2.length, List.length_map]
  refine ⟨fun i n H' => n = row.length - i ∧ i ≤ row.length ∧ Ex H1 H' ∧ H' D = some (.lst (((row.take i).map m).map V.int)), ⟨_, rfl, Nat.zero_le _, Evl.Ex.new hD, upd_same⟩, ?_⟩
  rintro i n H' ⟨rfl, hle, e, hDl⟩
  by_cases hlt : i < row.length
  · refine .inr ⟨⟨us, us[i]'(by omega), SqL.of (e _ _ h1'), List.getElem?_eq_getElem _⟩, fun H' => Ex H1 H' ∧ H' D = some (.lst (((row.take (i + 1)).map m).map V.int)), fun H' h => ⟨row.length - (i + 1), by omega, rfl, hlt, h⟩, fun z H2 y => ?_⟩
    obtain ⟨rfl, yz⟩ := y
    obtain ⟨v2, hv2, iv2⟩ := h2'.at (i := i) (d := en row[i]) (by rw [List.getElem?_map, List.getElem?_eq_getElem hlt]; rfl)
    obtain rfl : z = v2 := Option.some.inj ((yz _ (SqL.of (e _ _ h1'))).symm.trans hv2)
    refine ⟨wipe_set (by simp), ?_⟩
    refine tYes_if ?_
    refine ⟨_, by rw [at_set nm]; exact hm, z, at_self hy, md, _, row[i], .int (m row[i]), rfl, (td_ex t' e).rd, Im.to iv2 (Tx.of e), by rw [valV_fn, if_pos (hrow _ (List.getElem_mem hlt))], _, hDl, ?_, Evl.Ex.mut e hD, ?_⟩
    · rw [List.length_map, List.length_map, List.length_take]
      exact Evl.sz_lt (by omega)
    · rw [upd_same, List.take_add_one, List.getElem?_eq_getElem hlt, List.map_append, List.map_append]
      rfl
  · have : i = row.length := by omega
    subst this
    rw [List.take_length] at hDl
    refine .inl ⟨⟨us, SqL.of (e _ _ h1'), by omega⟩, D, _, rfl, .inl ⟨SqL.of hDl, fun t2 ht2 => ?_⟩⟩
    have e2 := Evl.Ex.new (o := .tup ((row.map m).map V.int)) ht2
    have g1 := e2 _ _ (e _ _ ht1')
    refine ⟨t1, t2, [V.int (m x)], (row.map m).map V.int, rfl, rfl, SqT.of g1, SqT.of upd_same, ?_, fun z => (by cases z), fun _ z => ?_, fun _ _ p hp => ?_⟩
    · rw [List.length_map, List.length_map]
      exact Evl.sz_of (by simp; omega)
    · refine q t1 _ ((e1.trans e).trans e2) ?_
      rw [g1, List.map_cons, z]
    · exact q p _ (((e1.trans e).trans e2).trans (Evl.Ex.new hp)) (by rw [upd_same]; rfl)
end
end WZ
namespace WZ
open PySem PySem.Spec PyProof.Rows L2 KB KC KD KV MW
open Evl (Ex EvT)
open StX (tStar)
section
variable {P : Program} {w : World} {K : PySem.W.Frag} {mg : Str → Option Value} {base : Heap}
theorem tup_in {t : TA} {σ : L2.St} {H : Hp} {Q : VK} (h : t σ H fun vs H1 => vs.length ≤ sizeLine ∧ ∀ p, H1 p = none → Q (.ref p) (upd H1 p (.tup vs))) : tTup t σ H Q := h
theorem cons_in {te : TE} {t : TA} {σ : L2.St} {H : Hp} {Q : List V → Hp → Prop} (h : te σ H fun v H1 => t σ H1 fun vs H2 => Q (v :: vs) H2) : tCons te t σ H Q := h
theorem cb_in {r : List V → Hp → VK → Prop} {t : TA} {σ : L2.St} {H : Hp} {Q : VK} (h : t σ H fun vs H1 => r vs H1 Q) : tCB r t σ H Q := h
theorem asg_in {te : TE} {g : TG} {D : Ends} {σ : L2.St} {H : Hp} (h : te σ H fun v H1 => g v σ H1 D.nx) : tAsg te g D σ H := h
theorem nm_in {i : Nat} {v : V} {σ : L2.St} {H : Hp} {q : L2.St → Hp → Prop} (h : q (σ.set i (some v)) H) : gName i v σ H q := h
theorem sig_addrs {α : Type} {sg : α → List Int} {H : Hp} {L : List (α × V)} {ks : List α} (h : SigOk sg H L ks) : ∃ as : List (Addr × List Int), (L.map fun q => q.2) = as.map (fun p => V.ref p.1) ∧ as.map (·.2) = ks.map sg ∧ ∀ p ∈ as, H p.1 = some (.tup (p.2.map V.int)) := by
  induction h with
  | nil => exact ⟨[], rfl, rfl, fun p hp => by cases hp⟩
  | @cons p x _ _ r _ ih =>
    obtain ⟨as, e1, e2, e3⟩ := ih
    obtain ⟨_, a, ea, ha⟩ := r
    refine ⟨(a, sg x) :: as, by rw [List.map_cons, List.map_cons, e1, ea], by rw [List.map_cons, List.map_cons, e2], fun q hq => ?_⟩
    rcases List.mem_cons.mp hq with rfl | hq
    · exact ha
    · exact e3 q hq
theorem ima_tups {H : Hp} : ∀ {L : List (Addr × List Int)}, (∀ p ∈ L, H p.1 = some (.tup (p.2.map V.int))) → ImA H (L.map fun q => V.ref q.1) ((L.map (·.2)).map tupI)
  | [], _ => .nil
  | p :: L, h => .cons (.tup (h p (List.mem_cons_self ..)) (ImA.ints _)) (ima_tups fun q hq => h q (List.mem_cons_of_mem _ hq))
theorem ima_items {sg : Kpt → List Int} {H0 H : Hp} (e : Ex H0 H) : ∀ {ts : List Addr} {L : List (Kpt × V)} {M : List Kpt}, Paired (fun (t : Addr) (q : Kpt × V) => ∃ kr : Addr, H t = some (.tup [.ref kr, q.2]) ∧ Im H0 (.ref kr) (kpD q.1)) ts L → SigOk sg H L M → ImA H (ts.map V.ref) (M.map fun y => .tuple [kpD y, tupI (sg y)])
  | _, _, _, .nil, h => by cases h; exact .nil
  | _, _, _, .cons r t, h => by
    cases h with
    | cons r2 t2 =>
      obtain ⟨kr, h1, h2⟩ := r
      obtain ⟨e1, a, e2, h3⟩ := r2
      rw [e2] at h1
      rw [e1] at h2
      exact .cons (.tup h1 (.cons (Im.to h2 (Tx.of e)) (.cons (.tup h3 (ImA.ints _)) .nil))) (ima_items e t t2)
def spParts (P : Program) (w : World) : Sp := fun vs H Q _ => ∃ (W : Wy) (fa : Addr) (M : List Kpt) (L : List (Kpt × V)), vs = [.ref fa] ∧ OkW W ∧ TDw P w kpD H fa L ∧ RowsOk kpD (rowK W) H L M ∧ Found W M ∧ M.length ≤ 60 ∧
  ∀ H' n, Ex H H' → IsSz (Nk (rowK W) levK M) n → Q (.int (n : Int)) H'
theorem pr_parts (D : DefAt K mg "_law_classes" 45 ["_law_found"]) (md : mg "dict" = none) (mi : mg "list" = none) (ml : mg "len" = none) (ms : mg "set" = none) (mt : mg "tuple" = none) (mo : mg "sorted" = none) :
    Prom P w K mg base 1 "_law_classes" ["_law_found"] (spParts P w) :=
  D.prom fun f fd F => F.ok sc45 (fun vs H Q E h => by obtain ⟨W, fa, M, L, rfl, _⟩ := h; rfl) fun cdv A outer s H vs Q E hr h => by
    obtain ⟨W, fa, M, L, rfl, ok, tf, rok, fnd, h60, q⟩ := h
    have hu65 : (A.deeper (envOfC "_law_classes" (defScope (topS 45)) s.heap.objs.size f cdv)).units + 65 < cLine := by have := hr.un; omega
    refine ⟨_, pss_cons (ps_asg (pe_tup (pa_cons (pe_callTy (call_dictN encK rfl hr.units) (by rfl) md PyProof.Rows.boot_dict (pa_cons (pe_lc (own := [("_law_kept", 4)]) (g := gName 4) (tt := tYes) (te := tTup (tCons (tVar 4) (tCons (tOp (rIxT K) (tVar 4) (tC (.int 0))) tNil))) rfl sc45.nd (pi_list (pe_callTy (call_listN encK rfl) (by rfl) mi PyProof.Rows.boot_list (pa_cons (pv 0) pa_nil))) (blkOk_by (N := ["_law_found", "_law_marks", "_law_many", "_law_rows", "_law_kept", "_law_there", "_law_order", "_law_one", "_law_row"]) (sc := defScope (topS 45)) (by decide +kernel))
          (fun _ _ _ _ _ => pg_name (i := 4) sc45.nd rfl (.inl rfl)) (fun _ _ _ _ _ => pts_nil) (fun _ _ _ _ _ => pe_tup (pa_cons (pv 4) (pa_cons (pe_ix ix_tup (pv 4) pe_int (fun _ _ => rfl)) pa_nil)))) pa_nil)) (pa_cons pe_int pa_nil))) (pg_tup rfl (pgs_cons (pg_name (i := 1) sc45.nd rfl (.inr rfl)) (pgs_cons (pg_name (i := 2) sc45.nd rfl (.inl rfl)) pgs_nil))))
      (pss_cons (ps_while PassesOwn.never (pt_cmpR op_gt (pe_callB call_lenSet (by rfl) ml PySem.boot_len (pa_cons (pe_callTy (call_setI rfl) (by rfl) ms PyProof.Rows.boot_set (pa_cons (pe_listVals encK rfl (pv 1) (by rfl) mi PyProof.Rows.boot_list) pa_nil)) pa_nil)) (pv 2) (nomark _))
        (pss_cons (ps_par (i := 2) (j := 3) rfl sc45.nd rfl rfl (by decide) rfl rfl (pa_cons (pe_callB call_lenSet (by rfl) ml PySem.boot_len (pa_cons (pe_callTy (call_setI rfl) (by rfl) ms PyProof.Rows.boot_set (pa_cons (pe_listVals encK rfl (pv 1) (by rfl) mi PyProof.Rows.boot_list) pa_nil)) pa_nil)) (pa_cons pe_nnew pa_nil)) (by rfl))
        (pss_cons (ps_for PassesOwn.never rfl (pi_list (pe_listItemsN encK rfl (pv 0) (by rfl) mi PyProof.Rows.boot_list)) (pg_tup rfl (pgs_cons (pg_name (i := 4) sc45.nd rfl (.inl rfl)) (pgs_cons (pg_name (i := 5) sc45.nd rfl (.inl rfl)) pgs_nil)))
          (pss_one (ps_asg (pe_op op_catA (pe_tup (pa_cons (pe_ix (ix_nd encK hr.units) (pv 1) (pv 4) (fun _ _ => rfl)) pa_nil)) (pe_callTy call_tup (by rfl) mt PyProof.Rows.boot_tuple (pa_cons (pe_lc (own := [("_law_one", 7)]) (g := gName 7) (tt := tYes) (te := tOp (rNGet P w kpD) (tVar 1) (tVar 7)) rfl sc45.nd (pi_list (pv 5)) (blkOk_by (N := ["_law_found", "_law_marks", "_law_many", "_law_rows", "_law_kept", "_law_there", "_law_order", "_law_one", "_law_row"]) (sc := defScope (topS 45)) (by decide +kernel))
              (fun _ _ _ _ _ => pg_name (i := 7) sc45.nd rfl (.inl rfl)) (fun _ _ _ _ _ => pts_nil) (fun _ _ _ _ _ => pe_ix (ix_nd encK hr.units) (pv 1) (pv 7) (fun _ _ => rfl))) pa_nil))) (pg_sub (pv 3) (pv 4) (set_nd encK hr.units) (fun _ => rfl)))))
        (pss_cons (ps_set (i := 6) sc45.nd rfl (.inr rfl) (pe_callB (cr_sortedT rfl) (by rfl) mo PyProof.Rows.boot_sorted (pa_cons (pe_callTy (cr_setOfT rfl hr.units) (by rfl) ms PyProof.Rows.boot_set (pa_cons (pe_listVals encK rfl (pv 3) (by rfl) mi PyProof.Rows.boot_list) pa_nil)) pa_nil)))
        (pss_one (ps_set (i := 1) sc45.nd rfl (.inr rfl) (pe_callTy (call_dictN encK rfl hr.units) (by rfl) md PyProof.Rows.boot_dict (pa_cons (pe_lc (own := [("_law_kept", 4), ("_law_row", 8)]) (g := gPair K 4 8) (tt := tYes) (te := tTup (tCons (tVar 4) (tCons (tBM K "list" (rIndexD K) (tVar 6) (tCons (tVar 8) tNil)) tNil))) rfl sc45.nd (pi_list (pe_listItemsN encK rfl (pv 3) (by rfl) mi PyProof.Rows.boot_list)) (blkOk_by (N := ["_law_found", "_law_marks", "_law_many", "_law_rows", "_law_kept", "_law_there", "_law_order", "_law_one", "_law_row"]) (sc := defScope (topS 45)) (by decide +kernel))
              (fun _ _ _ _ _ => pg_tup rfl (pgs_cons (pg_name (i := 4) sc45.nd rfl (.inl rfl)) (pgs_cons (pg_name (i := 8) sc45.nd rfl (.inl rfl)) pgs_nil))) (fun _ _ _ _ _ => pts_nil) (fun _ _ _ _ _ => pe_tup (pa_cons (pv 4) (pa_cons (pe_bm PySem.F.plainAttrs_list PySem.F.slot_list_index PySem.F.type_list_index (mt_indexD hu65) (pv 6) (pa_cons (pv 8) pa_nil)) pa_nil)))) pa_nil))))))))
      (pss_one (ps_ret (pv 2)))), ?_⟩
    have keysL : (L.map fun q => kpD q.1) = M.map kpD := by
      have := paired_keys (F := fun y v => ∃ a us, v = .ref a ∧ H a = some (.lst us) ∧ ImA H us ((rowK W y).map kpD)) rok
      rw [← this, List.map_map]
      rfl
    have hne : M ≠ [] := fun z => by
      have := fnd.fst
      rw [z] at this
      cases this
    have hrow : ∀ x, (rowK W x).length = (events W.wide).length := fun x => by unfold rowK; rw [List.length_map]
    have hev : (events W.wide).length ≤ 20 := by
      have := ok.w2
      rw [events_len]
      omega
    have hwf : ∀ {H' : Hp}, Ex H H' → TDw P w kpD H' fa L ∧ RowsOk kpD (rowK W) H' L M := fun {H'} e => ⟨td_ex tf e, rok.to e⟩
    -- the first marks
    refine seq_asg (σ := [some (.ref fa), none, none, none, none, none, none, none, none]) (tup_in (cons_in (cb_in (cons_in ?_))))
    refine lc_at (wi := iList K (tCB (rNKeys P w kpD) (tCons (tVar 0) tNil))) (g := gName 4) (tt := tYes) (te := tTup (tCons (tVar 4) (tCons (tOp (rIxT K) (tVar 4) (tC (.int 0))) tNil))) (vs := [4]) (src := M.map kpD) (σ := [some (.ref fa), none, none, none, none, none, none, none, none]) (H := H)
      (fun R r => ⟨.ref fa, rfl, fa, L, rfl, tf.rd, fun p vs hp hi => ⟨p, rfl, ⟨vs, SqL.of upd_same⟩, r _ _ (Evl.Ex.new hp) (src_list upd_same (by rw [← keysL]; exact hi.to (Tx.of (Evl.Ex.new hp))))⟩⟩) ?_
    refine den_lcX (ds := M.map fun y => .tuple [kpD y, .int (levK y)]) (sl := [none, none, none, none, none, none, none, none, none]) M kpD (fun y => .tuple [kpD y, .int (levK y)]) rfl rfl di_any (tg_name (by simp)) (by omega)
      (fun y hy => ⟨_, rfl, de_tup (ds := [kpD y, .int (levK y)]) (dea_cons (de_var (a := .im (kpD y)) rfl) (dea_cons (de_ixT (j := 0) (de_var (a := .im (kpD y)) rfl) de_int rfl) dea_nil)) (by simp)⟩) _ H
      (.cons trivial (.cons trivial (.cons trivial (.cons trivial (.cons trivial (.cons trivial (.cons trivial (.cons trivial (.cons trivial .nil))))))))) _ fun p vs H1 e1 hp h1 i1 => ?_
    obtain ⟨ts, rfl, prts⟩ := ima_kv (m := levK) encK i1
    have ndk : ∀ m : Kpt → Int, ((M.map fun y => (y, V.int (m y))).map (·.1)).Nodup := fun m => by
      rw [List.map_map]
      have : ((fun x : Kpt × V => x.1) ∘ fun y => (y, V.int (m y))) = id := rfl
      rw [this, List.map_id]
      exact fnd.nd
    refine ⟨p, ts, M.map fun y => (y, V.int (levK y)), rfl, h1, ndk levK, prts, fun ma H2 hma b2 t2 => ⟨by show 2 ≤ sizeLine; decide, fun T hT => ⟨T, _, rfl, SqT.of upd_same, rfl, .ref ma, _, rfl, .int 0, [], rfl, rfl, ?_⟩⟩⟩
    have e3 := Evl.Ex.new (o := .tup [.ref ma, .int 0]) hT
    have e03 : Ex H (upd H2 T (.tup [.ref ma, .int 0])) := (e1.trans (b2.new hma)).trans e3
    have t3 : TDw P w kpD (upd H2 T (.tup [.ref ma, .int 0])) ma (M.map fun y => (y, V.int (levK y))) := td_ex t2 e3
    generalize upd H2 T (.tup [.ref ma, .int 0]) = H3 at e03 t3 ⊢
    -- the loop
    refine ⟨fun n σ H' => ∃ (k nn : Nat) (ma : Addr) (m : Kpt → Int) (x3 x4 x5 x6 x7 x8 : Option V), σ = [some (.ref fa), some (.ref ma), some (.int (nn : Int)), x3, x4, x5, x6, x7, x8] ∧ n = M.length + 1 - nn ∧ Ex H H' ∧ TDw P w kpD H' ma (M.map fun x => (x, V.int (m x))) ∧ Parts (rowK W) levK M k m ∧ (∀ x ∈ M, 0 ≤ m x) ∧
        ((k = 0 ∧ nn = 0) ∨ ∃ k', k = k' + 1 ∧ nn = Nk (rowK W) levK M k' ∧ ∀ j, j < k' → Nk (rowK W) levK M j < Nk (rowK W) levK M (j + 1)),
      ⟨_, 0, 0, ma, levK, none, none, none, none, none, none, rfl, rfl, e03, t3, Parts.zero, fun x hx => reach_pos (fnd.ok x hx).re, .inl ⟨rfl, rfl⟩⟩, ?_⟩
    rintro n σ H4 ⟨k, nn, ma, m, x3, x4, x5, x6, x7, x8, rfl, rfl, e04, t4, pt, mpos, hk⟩
    have hcnt : cnt (M.map m) = Nk (rowK W) levK M k := pt.cnt
    refine rd_lenVals2 (ks := M) (m := m) rfl t4 (by omega) fun H5 e5 => ⟨_, rfl, _, _, rfl, rfl, _, rfl, ?_⟩
    rw [hcnt]
    refine ite2 (fun hb => ?_) (fun hb => ?_)
    · have hlt : nn < Nk (rowK W) levK M k := by have := of_decide_eq_true hb; omega
      refine ⟨fun σ' H' => ∃ (ma : Addr) (m : Kpt → Int) (x3 x4 x5 x6 x7 x8 : Option V), σ' = [some (.ref fa), some (.ref ma), some (.int (Nk (rowK W) levK M k : Nat)), x3, x4, x5, x6, x7, x8] ∧ Ex H H' ∧ TDw P w kpD H' ma (M.map fun x => (x, V.int (m x))) ∧ Parts (rowK W) levK M (k + 1) m ∧ (∀ x ∈ M, 0 ≤ m x), fun σ' H' => ?_, ?_⟩
      · rintro ⟨ma, m, x3, x4, x5, x6, x7, x8, rfl, g1, g2, g3, g4⟩
        have hN := Nk_le (row := rowK W) (m0 := levK) M k
        refine ⟨_, ?_, k + 1, Nk (rowK W) levK M k, ma, m, x3, x4, x5, x6, x7, x8, rfl, rfl, g1, g2, g3, g4, .inr ⟨k, rfl, rfl, ?_⟩⟩
        · omega
        · rcases hk with ⟨rfl, _⟩ | ⟨k', rfl, rfl, h⟩
          · intro j hj
            omega
          · intro j hj
            by_cases c : j = k'
            · subst c
              exact hlt
            · exact h j (by omega)
      · have t5 := td_ex t4 e5
        refine rd_lenVals2 (ks := M) (m := m) rfl t5 (by omega) fun H6 e6 => ?_
        rw [hcnt]
        have t6 := td_ex t5 e6
        have e06 : Ex H H6 := (e04.trans e5).trans e6
        intro rd hrd
        refine ⟨_, _, rfl, ?_⟩
        have e67 := Evl.Ex.new (o := NdO P w rd []) hrd
        have tr7 : TDw P w kpD (upd H6 rd (NdO P w rd [])) rd [] := ⟨[], upd_same, .nil⟩
        show tSeq (tFor (iList K (tNItems P w kpD (tVar 0))) (gPair K 4 5) _) _ _ [some (.ref fa), some (.ref ma), some (.int (Nk (rowK W) levK M k : Nat)), some (.ref rd), x4, x5, x6, x7, x8] (upd H6 rd (NdO P w rd []))
        have tf7 := (hwf (e06.trans e67)).1
        have rok7 := (hwf (e06.trans e67)).2
        generalize upd H6 rd (NdO P w rd []) = H7 at e67 tr7 tf7 rok7 ⊢
        generalize hsg : (fun x => m x :: (rowK W x).map m) = sg
        -- the rows
        refine ⟨.ref fa, rfl, fa, L, rfl, tf7.rd, fun H8 p8 ts8 e8 hp8 hl8 pr8 => ⟨p8, rfl, ⟨_, SqL.of hl8⟩, ?_⟩⟩
        have rok8 := rok7.to e8
        have tr8 := td_ex tr7 e8
        obtain ⟨xr8, hr8⟩ := tr8.some
        have lts : ts8.length = M.length := (Paired.length pr8).trans (Paired.length rok8)
        refine ⟨fun i n' σ' H' => n' = M.length - i ∧ i ≤ M.length ∧ (∃ x4 x5, σ' = [some (.ref fa), some (.ref ma), some (.int (Nk (rowK W) levK M k : Nat)), some (.ref rd), x4, x5, x6, x7, x8]) ∧ Lx rd H8 H' ∧ ∃ Lr, TDw P w kpD H' rd Lr ∧ SigOk sg H' Lr (M.take i),
          ⟨_, rfl, Nat.zero_le _, ⟨x4, x5, rfl⟩, Lx.refl _ _, [], tr8, .nil⟩, ?_⟩
        rintro i n' σ' H9 ⟨rfl, hi, ⟨y4, y5, rfl⟩, lx9, Lr, tr9, sg9⟩
        have tx9 : Tx H8 H9 := lx9.tx (nd_notup hr8)
        have e69 : Ex H6 H9 := fun b o h => lx9 b o (ne_of_none h hrd) (e8 _ _ (e67 _ _ h))
        have hl9 : H9 p8 = some (.lst (ts8.map V.ref)) := lx9 _ _ (fun z => by rw [z, hr8] at hl8; cases hl8) hl8
        by_cases hlt2 : i < M.length
        · refine .inr ⟨⟨_, .ref (ts8[i]'(by omega)), SqL.of hl9, by rw [List.getElem?_map, List.getElem?_eq_getElem]; rfl⟩, fun σ' H' => (∃ x4 x5, σ' = [some (.ref fa), some (.ref ma), some (.int (Nk (rowK W) levK M k : Nat)), some (.ref rd), x4, x5, x6, x7, x8]) ∧ Lx rd H8 H' ∧ ∃ Lr, TDw P w kpD H' rd Lr ∧ SigOk sg H' Lr (M.take (i + 1)),
            fun σ' H' h => ⟨M.length - (i + 1), by omega, rfl, hlt2, h⟩, fun x H10 y => ?_⟩
          obtain ⟨rfl, yx⟩ := y
          have hti : ts8[i]? = some (ts8[i]'(by omega)) := List.getElem?_eq_getElem _
          obtain rfl : x = .ref (ts8[i]'(by omega)) := by
            have := yx _ (SqL.of hl9)
            rw [List.getElem?_map, hti] at this
            cases this
            rfl
          obtain ⟨pq, hpq, kr, hkr1, hkr2⟩ := paired_at pr8 hti
          obtain ⟨y, hy, ey, a, us, ea, ha, ia⟩ := paired_at rok8 hpq
          rw [List.getElem?_eq_getElem hlt2] at hy
          cases hy
          rw [ey] at hkr2
          rw [ea] at hkr1
          have ha9 : H10 a = some (.lst us) := lx9 _ _ (fun z => by rw [z, hr8] at ha; cases ha) ha
          have ik10 : Im H10 (.ref kr) (kpD M[i]) := Im.to (Im.to hkr2 (Tx.of e8)) tx9
          refine ⟨_, _, rfl, SqT.of (tx9 _ _ hkr1), rfl, .ref kr, _, rfl, .ref a, [], rfl, rfl, ?_⟩
          refine rd_sig2 (K := K) (P := P) (w := w) (en := kpD) (ks := M) (m := m) (row := rowK W M[i]) (x := M[i]) (σ := [some (.ref fa), some (.ref ma), some (.int (Nk (rowK W) levK M k : Nat)), some (.ref rd), some (.ref kr), some (.ref a), x6, x7, x8]) (im := 1) (it := 4) (ir := 5) (iy := 7) rfl rfl rfl (by show 7 < 9; decide) (by decide) (by decide) ik10 ha9 (ia.to tx9) (td_ex t6 e69) (List.getElem_mem hlt2) (fnd.cl _ (List.getElem_mem hlt2)) (by rw [hrow]; omega) fun tp H11 e11 h11 => ?_
          have tr11 := td_ex tr9 e11
          have sg11 := sg9.to (Tx.of e11)
          have keysr : Lr.map (·.1) = M.take i := paired_keys (F := fun x v => ∃ a, v = .ref a ∧ H10 a = some (.tup ((sg x).map V.int))) sg9
          refine ⟨.ref rd, rfl, .ref kr, rfl, rd, Lr, M[i], rfl, tr11, Im.to ik10 (Tx.of e11), ?_, fun H12 b12 t12 => ?_⟩
          · have := congrArg List.length keysr
            rw [List.length_map, List.length_take] at this
            exact Evl.sz_lt (by omega)
          · have hn : valV Lr M[i] = none := valV_nokey keysr fun c => by
              have nt : (M.take (i + 1)).Nodup := fnd.nd.sublist (List.take_sublist _ _)
              rw [List.take_add_one, List.getElem?_eq_getElem hlt2, List.nodup_append] at nt
              exact nt.2.2 _ c _ (List.mem_singleton.mpr rfl) rfl
            rw [putK_new _ hn] at t12
            have tx12 : Tx H11 H12 := b12.tx fun xs => by
              obtain ⟨ys, hy⟩ := tr11.some
              exact nd_notup hy xs
            refine ⟨⟨_, _, rfl⟩, (lx9.trans (Lx.of e11)).trans (fun b o nb h => by rw [b12 b nb]; exact h), _, t12, ?_⟩
            rw [List.take_add_one, List.getElem?_eq_getElem hlt2]
            refine paired_snoc (sg11.to tx12) ⟨rfl, tp, rfl, tx12 _ _ ?_⟩
            rw [← hsg]
            exact h11
        · have : i = M.length := by omega
          subst this
          rw [List.take_length] at sg9
          refine .inl ⟨⟨_, SqL.of hl9, by rw [List.length_map]; omega⟩, ?_⟩
          have e09 : Ex H H9 := e06.trans e69
          have lLr : Lr.length = M.length := Paired.length sg9
          have keysr : Lr.map (·.1) = M := paired_keys (F := fun x v => ∃ a, v = .ref a ∧ H9 a = some (.tup ((sg x).map V.int))) sg9
          -- the order
          refine ⟨.ref rd, rfl, rd, Lr, rfl, tr9.rd, fun pv hpv => ?_⟩
          obtain ⟨as, ea, es, has⟩ := sig_addrs sg9
          have e10 := Evl.Ex.new (o := .lst (Lr.map fun q => q.2)) hpv
          have las : as.length = M.length := by rw [← List.length_map (f := (·.2)), es, List.length_map]
          refine ⟨pv, as, rfl, by rw [← ea]; exact SqL.of upd_same, fun x hx => SqT.of (e10 _ _ (has x hx)), by omega, fun sa Ls hsa hL1 hL2 => ?_⟩
          obtain ⟨B, hB⟩ := bound_of (M.map m)
          have e11 := Evl.Ex.new (o := SetTO P w sa Ls) hsa
          have hLs : ∀ x ∈ Ls, ∃ y ∈ M, x.2 = sg y := fun x hx => by
            have : x.2 ∈ as.map (·.2) := List.mem_map.mpr ⟨x, hL1 x hx, rfl⟩
            rw [es] at this
            obtain ⟨y, hy, e⟩ := List.mem_map.mp this
            exact ⟨y, hy, e.symm⟩
          refine ⟨sa, Ls, (events W.wide).length + 1, B, rfl, upd_same, fun x hx => SqT.of (e11 _ _ (e10 _ _ (has x (hL1 x hx)))), by omega, fun x hx => ?_, fun L' po hperm ndL few srt hpo => ?_⟩
          · obtain ⟨y, hy, e⟩ := hLs x hx
            rw [e, ← hsg]
            refine ⟨by rw [List.length_cons, List.length_map, hrow], fun z hz => ?_⟩
            rcases List.mem_cons.mp hz with rfl | hz
            · exact ⟨mpos y hy, hB _ (List.mem_map.mpr ⟨y, hy, rfl⟩)⟩
            · obtain ⟨u, hu, rfl⟩ := List.mem_map.mp hz
              have hu := fnd.cl y hy u hu
              exact ⟨mpos u hu, hB _ (List.mem_map.mpr ⟨u, hu, rfl⟩)⟩
          · have e12 := Evl.Ex.new (o := .lst (L'.map fun q => V.ref q.1)) hpo
            have e912 : Ex H9 (upd (upd (upd H9 pv (.lst (Lr.map fun q => q.2))) sa (SetTO P w sa Ls)) po (.lst (L'.map fun q => V.ref q.1))) := (e10.trans e11).trans e12
            have io : ImA (upd (upd (upd H9 pv (.lst (Lr.map fun q => q.2))) sa (SetTO P w sa Ls)) po (.lst (L'.map fun q => V.ref q.1))) (L'.map fun q => V.ref q.1) ((L'.map (·.2)).map tupI) :=
              ima_tups fun x hx => e912 _ _ (has x (hL1 x (hperm.mem_iff.mp hx)))
            have ho : (upd (upd (upd H9 pv (.lst (Lr.map fun q => q.2))) sa (SetTO P w sa Ls)) po (.lst (L'.map fun q => V.ref q.1))) po = some (.lst (L'.map fun q => V.ref q.1)) := upd_same
            have hord : ∀ y ∈ M, sg y ∈ L'.map (·.2) := fun y hy => by
              have : sg y ∈ as.map (·.2) := by
                rw [es]
                exact List.mem_map.mpr ⟨y, hy, rfl⟩
              obtain ⟨x, hx, e⟩ := List.mem_map.mp this
              obtain ⟨z, hz, e2⟩ := List.mem_map.mp (hL2 x hx)
              exact List.mem_map.mpr ⟨z, hperm.mem_iff.mpr hz, e2.trans e⟩
            have tr12 := td_ex tr9 e912
            have sg12 := sg9.to (Tx.of e912)
            refine nm_in ?_
            dsimp only
            refine asg_in (σ := [some (.ref fa), some (.ref ma), some (.int (Nk (rowK W) levK M k : Nat)), some (.ref rd), y4, y5, some (.ref po), x7, x8]) (H := upd (upd (upd H9 pv (.lst (Lr.map fun q => q.2))) sa (SetTO P w sa Ls)) po (.lst (L'.map fun q => V.ref q.1))) (cb_in (cons_in ?_))
            generalize upd (upd (upd H9 pv (.lst (Lr.map fun q => q.2))) sa (SetTO P w sa Ls)) po (.lst (L'.map fun q => V.ref q.1)) = H12 at e912 io ho tr12 sg12 ⊢
            generalize L'.map (fun q => V.ref q.1) = ovs at io ho
            generalize L'.map (fun x => x.2) = ord at io hord
            -- the marks
            refine lc_at (wi := iList K (tNItems P w kpD (tVar 3))) (g := gPair K 4 8) (tt := tYes) (te := tTup (tCons (tVar 4) (tCons (tBM K "list" (rIndexD K) (tVar 6) (tCons (tVar 8) tNil)) tNil))) (vs := [4, 8]) (src := M.map fun y => .tuple [kpD y, tupI (sg y)])
              (σ := [some (.ref fa), some (.ref ma), some (.int (Nk (rowK W) levK M k : Nat)), some (.ref rd), y4, y5, some (.ref po), x7, x8]) (H := H12)
              (fun R r => ⟨.ref rd, rfl, rd, Lr, rfl, tr12.rd, fun H13 pi ti e13 hpi hli pri => ⟨pi, rfl, ⟨_, SqL.of hli⟩, r _ _ e13 (KV.src_list hli (ima_items e13 pri (sg12.to (Tx.of e13))))⟩⟩) ?_
            refine den_lcX (ds := M.map fun y => .tuple [kpD y, .int (posn ord (sg y) : Int)]) (sl := [none, none, none, none, none, none, some (.ls (ord.map tupI)), none, none]) M (fun y => .tuple [kpD y, tupI (sg y)]) (fun y => .tuple [kpD y, .int (posn ord (sg y) : Int)]) rfl rfl di_any (tg_pair (by simp) (by simp)) (by omega)
              (fun y hy => ⟨_, ⟨_, _, rfl, rfl⟩, de_tup (ds := [kpD y, .int (posn ord (sg y) : Int)]) (dea_cons (de_var (a := .im (kpD y)) rfl) (dea_cons (de_index (de_var rfl) (de_var (a := .im (tupI (sg y))) rfl) (hord y hy)) dea_nil)) (by simp)⟩) _ H12
              (.cons trivial (.cons trivial (.cons trivial (.cons trivial (.cons trivial (.cons trivial (.cons ⟨.ref po, rfl, po, ovs, rfl, ho, io⟩ (.cons trivial (.cons trivial .nil))))))))) _ fun pp vs H13 e13 hpp h13 i13 => ?_
            obtain ⟨ts13, rfl, pr13⟩ := ima_kv (m := fun y => (posn ord (sg y) : Int)) encK i13
            refine ⟨pp, ts13, M.map fun y => (y, V.int (posn ord (sg y) : Int)), rfl, h13, ndk fun y => (posn ord (sg y) : Int), pr13, fun mb H14 hmb b14 t14 => ?_⟩
            refine ⟨mb, fun y => (posn ord (sg y) : Int), _, _, _, _, _, _, rfl, ((e09.trans e912).trans e13).trans (b14.new hmb), t14, pt.step hrow fnd.cl fun x hx y hy => ?_, fun x hx => by show (0 : Int) ≤ (posn ord (sg x) : Int); omega⟩
            constructor
            · intro e
              have := posn_inj (hord x hx) (hord y hy) (Int.ofNat.inj e)
              rw [← hsg] at this
              exact this
            · intro e
              have : sg x = sg y := by
                rw [← hsg]
                exact e
              simp only [this]
    · have hlt : ¬ nn < Nk (rowK W) levK M k := fun c => hb (decide_eq_true (by omega))
      refine ⟨_, rfl, q _ nn (e04.trans e5) ?_⟩
      rcases hk with ⟨rfl, rfl⟩ | ⟨k', rfl, rfl, h⟩
      · exact absurd (Nk_pos hne 0) hlt
      · exact ⟨k', h, by omega, rfl⟩
end
end WZ
namespace WZ
open PySem PySem.Spec PyProof.Rows L2 KB KC KD KV MW
open Evl (Ex EvT)
open StX (tStar)
def mKvs (left seed spot : Int) (ca : Addr) : List (Key × V) := [(.inr "left", .int left), (.inr "seed", .int seed), (.inr "cells", .ref ca), (.inr "spot", .int spot)]
theorem ne_ls : ¬ ((Sum.inr "left" : Key) = .inr "seed") := by decide
theorem ne_lc : ¬ ((Sum.inr "left" : Key) = .inr "cells") := by decide
theorem ne_sc : ¬ ((Sum.inr "seed" : Key) = .inr "cells") := by decide
theorem ne_lp : ¬ ((Sum.inr "left" : Key) = .inr "spot") := by decide
theorem ne_sp : ¬ ((Sum.inr "seed" : Key) = .inr "spot") := by decide
theorem ne_cp : ¬ ((Sum.inr "cells" : Key) = .inr "spot") := by decide
theorem m_left (left seed spot : Int) (ca : Addr) : valV (mKvs left seed spot ca) (.inr "left") = some (.int left) := valV_pos rfl
theorem m_seed (left seed spot : Int) (ca : Addr) : valV (mKvs left seed spot ca) (.inr "seed") = some (.int seed) := (valV_neg ne_ls).trans (valV_pos rfl)
theorem m_cells (left seed spot : Int) (ca : Addr) : valV (mKvs left seed spot ca) (.inr "cells") = some (.ref ca) := (valV_neg ne_lc).trans ((valV_neg ne_sc).trans (valV_pos rfl))
theorem m_spot (left seed spot : Int) (ca : Addr) : valV (mKvs left seed spot ca) (.inr "spot") = some (.int spot) := (valV_neg ne_lp).trans ((valV_neg ne_sp).trans ((valV_neg ne_cp).trans (valV_pos rfl)))
theorem m_putL (left seed spot l2 : Int) (ca : Addr) : putK (mKvs left seed spot ca) (.inr "left") (.int l2) = mKvs l2 seed spot ca := by
  unfold putK mKvs
  rfl
theorem m_putS (left seed spot s2 : Int) (ca : Addr) : putK (mKvs left seed spot ca) (.inr "spot") (.int s2) = mKvs left seed s2 ca := by
  unfold putK mKvs
  rfl
structure MOk (H : Hp) (m ca : Addr) (n : Nat) : Prop where
  ex : ∃ (left seed spot : Int) (cs : List Int), H m = some (.dK (mKvs left seed spot ca)) ∧ H ca = some (.lst (cs.map V.int)) ∧ cs ≠ [] ∧ cs.length ≤ 200 ∧ 0 ≤ seed ∧ seed < 2 ^ 31 ∧ 0 ≤ spot ∧ spot ≤ (n : Int)
theorem MOk.mono {H : Hp} {m ca : Addr} {a b : Nat} (h : MOk H m ca a) (q : a ≤ b) : MOk H m ca b :=
  let ⟨left, seed, spot, cs, h1, h2, h3, h4, h5, h6, h7, h8⟩ := h.ex; ⟨left, seed, spot, cs, h1, h2, h3, h4, h5, h6, h7, by omega⟩
theorem MOk.to {H H' : Hp} {m ca : Addr} {a : Nat} (h : MOk H m ca a) (e : Ex H H') : MOk H' m ca a :=
  let ⟨left, seed, spot, cs, h1, h2, h3⟩ := h.ex; ⟨left, seed, spot, cs, e _ _ h1, e _ _ h2, h3⟩
section
variable {P : Program} {w : World} {K : PySem.W.Frag} {mg : Str → Option Value} {base : Heap}
/-- the next draw: a number below many; only m is written -/
def spDraw : Sp := fun vs H Q _ => ∃ (m ca : Addr) (many : Int) (n : Nat), vs = [.ref m, .int many] ∧ 1 ≤ many ∧ many ≤ 100 ∧ n ≤ 1000 ∧ MOk H m ca n ∧ ∀ i H', 0 ≤ i → i < many → But m H H' → MOk H' m ca (n + 1) → Q (.int i) H'
theorem pr_draw (D : DefAt K mg "_law_draw" 36 ["_law_m", "_law_many"]) (mn : mg "int" = none) (ml : mg "len" = none) : Prom P w K mg base 1 "_law_draw" ["_law_m", "_law_many"] spDraw :=
  D.prom fun f fd F => F.ok sc36 (fun vs H Q E h => by obtain ⟨m, ca, many, n, rfl, _⟩ := h; rfl) fun cdv A outer s H vs Q E hr h => by
    obtain ⟨m, ca, many, n, rfl, h1, h100, hn, mok, q⟩ := h
    have hu := hu_of hr
    refine ⟨_, pss_cons (ps_if (pt_cmpR op_gt (pe_dget hu (pv 0) pe_str (fun _ _ => rfl)) pe_int (nomark _))
        (pss_cons (ps_set (i := 2) sc36.nd rfl (.inl rfl) (pe_op op_mod (pe_callTy call_int1 (by rfl) mn PyProof.Rows.boot_int (pa_cons (pe_dget hu (pv 0) pe_str (fun _ _ => rfl)) pa_nil)) (pv 1)))
        (pss_cons (ps_dput hu (pv 0) pe_str (pe_op op_fdiv (pe_dget hu (pv 0) pe_str (fun _ _ => rfl)) (pv 1)) rfl)
        (pss_one (ps_ret (pv 2))))) pss_nil)
      (pss_cons (ps_set (i := 3) sc36.nd rfl (.inl rfl) (pe_dget hu (pv 0) pe_str (fun _ _ => rfl)))
      (pss_cons (ps_dput hu (pv 0) pe_str (pe_op op_add (pv 3) pe_int) rfl)
      (pss_cons (ps_par (i := 4) (j := 5) rfl sc36.nd rfl rfl (by decide) rfl rfl (pa_cons (pe_dget hu (pv 0) pe_str (fun _ _ => rfl)) (pa_cons (pe_op op_add (pe_dget hu (pv 0) pe_str (fun _ _ => rfl)) (pe_op op_mul (pe_op op_mul pe_int (pv 3)) (pv 3))) pa_nil)) (by rfl))
      (pss_cons (ps_set (i := 6) sc36.nd rfl (.inl rfl) (pe_ix ix_list (pv 4) (pe_op op_mod (pe_callTy call_int1 (by rfl) mn PyProof.Rows.boot_int (pa_cons (pv 3) pa_nil)) (pe_callB call_len_seq (by rfl) ml PySem.boot_len (pa_cons (pv 4) pa_nil))) (fun _ _ => rfl)))
      (pss_cons (ps_set (i := 7) sc36.nd rfl (.inl rfl) (pe_op op_mod (pe_callTy call_int1 (by rfl) mn PyProof.Rows.boot_int (pa_cons (pe_op op_add (pe_op op_mul (pv 6) (pe_op op_add (pe_op op_mul pe_int (pv 3)) pe_int)) (pv 5)) pa_nil)) pe_int))
      (pss_cons (ps_set (i := 7) sc36.nd rfl (.inl rfl) (pe_op op_mod (pe_callTy call_int1 (by rfl) mn PyProof.Rows.boot_int (pa_cons (pe_op op_add (pe_op op_add (pe_op op_mul (pv 7) (pv 7)) (pe_op op_mul pe_int (pv 3))) (pe_dget hu (pv 0) pe_str (fun _ _ => rfl))) pa_nil)) pe_int))
      (pss_one (ps_ret (pe_op op_mod (pe_op op_fdiv (pe_op op_mod (pe_callTy call_int1 (by rfl) mn PyProof.Rows.boot_int (pa_cons (pe_op op_add (pe_op op_mul (pv 7) pe_int) (pv 3)) pa_nil)) pe_int) pe_int) (pv 1)))))))))), ?_⟩
    obtain ⟨left, seed, spot, cs, hm, hc, cne, c64, s0, s1, p0, pn⟩ := mok.ex
    have hcm : ca ≠ m := fun z => by rw [z, hm] at hc; cases hc
    have few : (mKvs left seed spot ca).length < sizeLine := by show 4 < sizeLine; decide
    refine ⟨_, rfl, m, .int left, rfl, (m_left left seed spot ca) ▸ DGet.k (k := .inr "left") hm, left, 0, rfl, rfl, _, rfl, ite2 (fun hb => ?_) (fun hb => ?_)⟩
    · have hl : 0 < left := of_decide_eq_true hb
      refine ⟨_, rfl, m, .int left, rfl, (m_left left seed spot ca) ▸ DGet.k (k := .inr "left") hm, .inl ⟨left, rfl, .int many, rfl, left, many, rfl, rfl, by show 0 < many; omega, ?_⟩⟩
      refine ⟨_, rfl, m, .int left, rfl, (m_left left seed spot ca) ▸ DGet.k (k := .inr "left") hm, .int many, rfl, left, many, rfl, rfl, ⟨by omega, by omega⟩, ?_⟩
      refine ⟨_, rfl, m, _, rfl, DPut.k (k := .inr "left") hm few, _, rfl, ?_⟩
      rw [m_putL]
      exact q _ _ (Int.emod_nonneg _ (by omega)) (Int.emod_lt_of_pos _ (by omega)) But.upd ⟨left / many, seed, spot, cs, upd_same, by rw [upd_ne hcm]; exact hc, cne, c64, s0, s1, p0, by omega⟩
    · refine ⟨_, rfl, m, .int spot, rfl, (m_spot left seed spot ca) ▸ DGet.k (k := .inr "spot") hm, ?_⟩
      refine ⟨_, rfl, _, _, rfl, rfl, _, rfl, m, _, rfl, DPut.k (k := .inr "spot") hm few, ?_⟩
      rw [m_putS]
      have hm2 : upd H m (.dK (mKvs left seed (spot + 1) ca)) m = some (.dK (mKvs left seed (spot + 1) ca)) := upd_same
      have hc2 : upd H m (.dK (mKvs left seed (spot + 1) ca)) ca = some (.lst (cs.map V.int)) := by rw [upd_ne hcm]; exact hc
      have bt : But m H (upd H m (.dK (mKvs left seed (spot + 1) ca))) := But.upd
      generalize upd H m (.dK (mKvs left seed (spot + 1) ca)) = H2 at hm2 hc2 bt ⊢
      have dg : ∀ (k : Key) (v : V), valV (mKvs left seed (spot + 1) ca) k = some v → DGet H2 m (kV k) (some v) := fun k v e => e ▸ DGet.k (k := k) hm2
      obtain ⟨c, hci⟩ : ∃ c : Int, atI (cs.map V.int) (spot % ((cs.map V.int).length : Nat)) = some (.int c) := by
        have l0 : 0 < cs.length := List.length_pos_iff.mpr cne
        have e1 : spot % ((cs.map V.int).length : Nat) = ((spot % (cs.length : Nat)).toNat : Int) := by
          rw [List.length_map]
          have := Int.emod_nonneg spot (b := (cs.length : Int)) (by omega)
          omega
        have l1 : (spot % (cs.length : Nat)).toNat < cs.length := by
          have := Int.emod_lt_of_pos spot (b := (cs.length : Int)) (by omega)
          have := Int.emod_nonneg spot (b := (cs.length : Int)) (by omega)
          omega
        refine ⟨cs[(spot % (cs.length : Nat)).toNat], ?_⟩
        rw [e1]
        exact atI_nat (by rw [List.getElem?_map, List.getElem?_eq_getElem l1]; rfl)
      have lpos : (0 : Int) < ((cs.map V.int).length : Nat) := by
        have l0 : 0 < cs.length := List.length_pos_iff.mpr cne
        rw [List.length_map]
        omega
      refine ⟨_, rfl, m, .ref ca, rfl, dg (.inr "cells") _ (m_cells ..), _, rfl, m, .int seed, rfl, dg (.inr "seed") _ (m_seed ..), _, rfl, 40503, spot, rfl, rfl, .inl ⟨by decide, by decide⟩, _, rfl, _, spot, rfl, rfl, .inr ⟨by omega, by omega⟩, _, _, rfl, rfl, _, _, rfl, ?_⟩
      refine ⟨_, rfl, _, rfl, .inl ⟨spot, rfl, _, rfl, ca, _, rfl, .inl (SqL.of hc2), spot, _, rfl, rfl, lpos, ca, _, _, _, rfl, rfl, SqL.of hc2, hci, ?_⟩⟩
      refine ⟨_, rfl, _, rfl, 2, spot, rfl, rfl, .inl ⟨by decide, by decide⟩, _, _, rfl, rfl, c, _, rfl, rfl, .inr ⟨by omega, by omega⟩, _, rfl, _, _, rfl, rfl, .inl ⟨_, rfl, _, _, rfl, rfl, by show (0 : Int) < 2147483647; decide, ?_⟩⟩
      have bl0 : 0 ≤ (c * (2 * spot + 3) + (seed + 40503 * spot * spot)) % 2147483647 := Int.emod_nonneg _ (by decide)
      have bl1 : (c * (2 * spot + 3) + (seed + 40503 * spot * spot)) % 2147483647 < 2147483647 := Int.emod_lt_of_pos _ (by decide)
      refine ⟨_, rfl, _, rfl, (c * (2 * spot + 3) + (seed + 40503 * spot * spot)) % 2147483647, (c * (2 * spot + 3) + (seed + 40503 * spot * spot)) % 2147483647, rfl, rfl, .inl ⟨by omega, by omega⟩, _, rfl, 69621, spot, rfl, rfl, .inl ⟨by decide, by decide⟩, _, _, rfl, rfl, _, rfl, m, .int seed, rfl, dg (.inr "seed") _ (m_seed ..), _, _, rfl, rfl, .inl ⟨_, rfl, _, _, rfl, rfl, by show (0 : Int) < 2147483629; decide, ?_⟩⟩
      generalize (c * (2 * spot + 3) + (seed + 40503 * spot * spot)) % 2147483647 = bl
      have b20 : 0 ≤ (bl * bl + 69621 * spot + seed) % 2147483629 := Int.emod_nonneg _ (by decide)
      have b21 : (bl * bl + 69621 * spot + seed) % 2147483629 < 2147483629 := Int.emod_lt_of_pos _ (by decide)
      refine ⟨_, rfl, (bl * bl + 69621 * spot + seed) % 2147483629, 48271, rfl, rfl, .inl ⟨by omega, by omega⟩, _, rfl, _, _, rfl, rfl, .inl ⟨_, rfl, _, _, rfl, rfl, by show (0 : Int) < 2147483647; decide, _, _, rfl, rfl, ⟨by decide, by decide⟩, .int many, rfl, _, _, rfl, rfl, by show 0 < many; omega, ?_⟩⟩
      exact q _ _ (Int.emod_nonneg _ (by omega)) (Int.emod_lt_of_pos _ (by omega)) bt ⟨left, seed, spot + 1, cs, hm2, hc2, cne, c64, s0, s1, by omega, by omega⟩
end
end WZ
namespace WZ
open PySem PySem.Spec PyProof.Rows L2 KB KC KD KV MW
open Evl (Ex EvT)
open StX (tStar)
theorem MOk.notup {H : Hp} {m ca : Addr} {n : Nat} (h : MOk H m ca n) : ∀ xs, H m ≠ some (.tup xs) := fun xs z => by
  obtain ⟨left, seed, spot, cs, h1, _⟩ := h.ex
  rw [h1] at z
  cases z
theorem But.lx {d : Addr} {H H' : Hp} (b : But d H H') : Lx d H H' := fun x o n h => by rw [b x n]; exact h
section
variable {P : Program} {w : World} {K : PySem.W.Frag} {mg : Str → Option Value} {base : Heap}
/-! ### _law_of -/
def spOf : Sp := fun vs H Q _ => ∃ (m ca l : Addr) (xs : List V) (ds : List PyData) (n : Nat), vs = [.ref m, .ref l] ∧ H l = some (.lst xs) ∧ ImA H xs ds ∧ 1 ≤ ds.length ∧ ds.length ≤ 100 ∧ n ≤ 1000 ∧ MOk H m ca n ∧
  ∀ v d H', d ∈ ds → But m H H' → MOk H' m ca (n + 1) → Im H' v d → Q v H'
theorem pr_of (D : DefAt K mg "_law_of" 37 ["_law_m", "_law_some_here"]) (pD : Prom P w K mg base 1 "_law_draw" ["_law_m", "_law_many"] spDraw) (ml : mg "len" = none) : Prom P w K mg base 2 "_law_of" ["_law_m", "_law_some_here"] spOf :=
  D.prom fun f fd F => F.ok sc37 (fun vs H Q E h => by obtain ⟨m, ca, l, xs, ds, n, rfl, _⟩ := h; rfl) fun cdv A outer s H vs Q E hr h => by
    obtain ⟨m, ca, l, xs, ds, n, rfl, hl, hi, l1, l100, hn, mok, q⟩ := h
    refine ⟨_, pss_one (ps_ret (pe_ix ix_list (pv 1) (pe_pr pD hr (by rfl) (pa_cons (pv 0) (pa_cons (pe_callB call_len_seq (by rfl) ml PySem.boot_len (pa_cons (pv 1) pa_nil)) pa_nil))) (fun _ _ => rfl))), ?_⟩
    have hlm : l ≠ m := fun z => by
      obtain ⟨left, seed, spot, cs, h1, _⟩ := mok.ex
      rw [z, h1] at hl
      cases hl
    have lx : xs.length = ds.length := hi.length
    refine ⟨_, rfl, _, rfl, _, rfl, l, _, rfl, .inl (SqL.of hl), m, ca, _, n, rfl, by rw [lx]; omega, by rw [lx]; omega, hn, mok, fun i H' i0 i1 b mok' => ?_⟩
    rw [lx] at i1
    have hlt : i.toNat < ds.length := by omega
    obtain ⟨v, hv, iv⟩ := hi.at (List.getElem?_eq_getElem hlt)
    have hl' : H' l = some (.lst xs) := by rw [b l hlm]; exact hl
    refine ⟨l, _, i, v, rfl, rfl, SqL.of hl', ?_, q v _ H' (List.getElem_mem hlt) b mok' (Im.to iv (b.tx mok.notup))⟩
    rw [show i = (i.toNat : Int) by omega]
    exact atI_nat hv
/-! ### _law_some -/
structure OkS (ks : List Int) : Prop where
  ne : ks ≠ []
  rng : ∀ k ∈ ks, 0 ≤ k ∧ k ≤ 2
  asc : ks.Pairwise (· < ·)
  len : ks.length ≤ 3
theorem OkS.okK {ks : List Int} (h : OkS ks) : OkK ks := ⟨h.ne, fun k hk => by have := h.rng k hk; omega, h.asc, by have := h.len; omega⟩
def spSome : Sp := fun vs H Q _ => ∃ (m ca : Addr) (n : Nat), vs = [.ref m, .int 3, .int 4] ∧ n ≤ 900 ∧ MOk H m ca n ∧ ∀ v ks H', OkS ks → Lx m H H' → MOk H' m ca (n + 4) → Im H' v (kD ks) → Q v H'
theorem pr_some (D : DefAt K mg "_law_some" 38 ["_law_m", "_law_most", "_law_share"]) (pD : Prom P w K mg base 1 "_law_draw" ["_law_m", "_law_many"] spDraw) (mr : mg "range" = none) (mt : mg "tuple" = none) : Prom P w K mg base 2 "_law_some" ["_law_m", "_law_most", "_law_share"] spSome :=
  D.prom fun f fd F => F.ok sc38 (fun vs H Q E h => by obtain ⟨m, ca, n, rfl, _⟩ := h; rfl) fun cdv A outer s H vs Q E hr h => by
    obtain ⟨m, ca, n, rfl, hn, mok, q⟩ := h
    refine ⟨_, pss_cons (ps_setLc (i := 3) (own := [("_law_k", 4)]) (g := gName 4) (tt := tTest (tOp rEq (tCall spDraw [] E0 (tCons (tVar 0) (tCons (tVar 2) tNil))) (tC (.int 0)))) (te := tVar 4) rfl sc38.nd rfl rfl (by rfl) (pi_range1 (by rfl) mr (pa_cons (pv 1) pa_nil)) (blkOk_by (N := ["_law_m", "_law_most", "_law_share", "_law_found", "_law_k"]) (sc := defScope (topS 38)) (by decide +kernel))
          (fun _ _ _ _ _ => pg_name (i := 4) sc38.nd rfl (.inl rfl)) (fun _ _ _ _ _ => pts_one (pt_cmpR op_eq (pe_pr pD hr (by rfl) (pa_cons (pv 0) (pa_cons (pv 2) pa_nil))) pe_int (nomark _))) (fun _ _ _ _ _ => pv 4))
      (pss_one (ps_ret (pe_ifExp (pt_cmpR (op_neD hr.units) (pv 3) (pe_lst pa_nil) (nomark _)) (pe_callTy call_tup (by rfl) mt PyProof.Rows.boot_tuple (pa_cons (pv 3) pa_nil)) (pe_tup (pa_cons (pe_pr pD hr (by rfl) (pa_cons (pv 0) (pa_cons (pv 1) pa_nil))) pa_nil))))), ?_⟩
    refine ⟨.int 3, rfl, 3, rfl, by decide, by decide, fun Dl hD => ?_⟩
    have hDm : Dl ≠ m := fun z => by
      obtain ⟨left, seed, spot, cs, h1, _⟩ := mok.ex
      rw [z, h1] at hD
      cases hD
    have hcD : ca ≠ Dl := fun z => by
      obtain ⟨left, seed, spot, cs, h1, h2, _⟩ := mok.ex
      rw [← z, h2] at hD
      cases hD
    refine ⟨fun i k H' => k = 3 - i ∧ i ≤ 3 ∧ Lx m H H' ∧ MOk H' m ca (n + i) ∧ ∃ js : List Int, H' Dl = some (.lst (js.map V.int)) ∧ (∀ j ∈ js, 0 ≤ j ∧ j < i) ∧ js.Pairwise (· < ·) ∧ js.length ≤ i,
      ⟨_, rfl, Nat.zero_le _, Lx.of (Evl.Ex.new hD), mok.to (Evl.Ex.new hD), [], upd_same, by simp, .nil, Nat.le_refl _⟩, ?_⟩
    rintro i k H1 ⟨rfl, hi, lx1, mok1, js, hj1, hj2, hj3, hj4⟩
    by_cases hlt : i < 3
    · refine .inr ⟨hlt, fun H' => Lx m H H' ∧ MOk H' m ca (n + (i + 1)) ∧ ∃ js : List Int, H' Dl = some (.lst (js.map V.int)) ∧ (∀ j ∈ js, 0 ≤ j ∧ j < (i + 1 : Nat)) ∧ js.Pairwise (· < ·) ∧ js.length ≤ i + 1, fun H' h => ⟨3 - (i + 1), by omega, rfl, hlt, h⟩, fun x H2 y => ?_⟩
      obtain ⟨rfl, rfl⟩ := y
      rw [Int.zero_add]
      refine ⟨wipe_set (by simp), ?_⟩
      refine ⟨_, rfl, _, rfl, m, ca, 4, n + i, rfl, by decide, by decide, by omega, mok1, fun d H3 d0 d1 b mok3 => ?_⟩
      have lx3 : Lx m H H3 := lx1.trans (But.lx b)
      have hj3' : H3 Dl = some (.lst (js.map V.int)) := by rw [b Dl hDm]; exact hj1
      refine ⟨rfl, _, rfl, ite2 (fun hb => ?_) (fun hb => ?_)⟩
      · refine ⟨_, rfl, _, hj3', ?_, lx3.mut hD, ?_, js ++ [(i : Int)], ?_, fun j hj => ?_, ?_, by rw [List.length_append]; simp; omega⟩
        · rw [List.length_map]
          exact Evl.sz_lt (by omega)
        · obtain ⟨left, seed, spot, cs, z1, z2, z3⟩ := mok3.ex
          exact ⟨left, seed, spot, cs, by rw [upd_ne hDm.symm]; exact z1, by rw [upd_ne hcD]; exact z2, z3⟩
        · rw [upd_same, List.map_append]
          rfl
        · rcases List.mem_append.mp hj with hj | hj
          · have := hj2 j hj
            omega
          · rw [List.mem_singleton.mp hj]
            omega
        · rw [List.pairwise_append]
          refine ⟨hj3, by simp, fun a ha c hc => ?_⟩
          rw [List.mem_singleton.mp hc]
          exact (hj2 a ha).2
      · exact ⟨lx3, mok3, js, hj3', fun j hj => by have := hj2 j hj; omega, hj3, by omega⟩
    · have : i = 3 := by omega
      subst this
      refine .inl ⟨Nat.le_refl _, ?_⟩
      refine dt_test (de_neL (ds := js.map .int) (es := []) (sl := [none, none, none, some (.ls (js.map .int)), none]) (de_var rfl) (de_lst (ds := []) dea_nil (by simp)) (shaped_ints _) (by decide)) [some (.ref m), some (.int 3), some (.int 4), some (.ref Dl), none] H1
        (.cons trivial (.cons trivial (.cons trivial (.cons ⟨_, rfl, Dl, _, rfl, hj1, ImA.ints _⟩ (.cons trivial .nil))))) _ fun H2 e2 => ?_
      rw [eqv_nilD]
      have lx2 : Lx m H H2 := lx1.trans (Lx.of e2)
      have mok2 := mok1.to e2
      refine ite2 (fun hb => ?_) (fun hb => ?_)
      · have hne : js ≠ [] := of_decide_eq_true hb
        refine ⟨_, rfl, Dl, _, rfl, .inl ⟨SqL.of (e2 _ _ hj1), fun l hl => ?_⟩⟩
        have e3 := Evl.Ex.new (o := .tup (js.map V.int)) hl
        exact q _ js _ ⟨hne, fun k hk => by have := hj2 k hk; omega, hj3, hj4⟩ (lx2.trans (Lx.of e3)) ((mok2.to e3).mono (by omega)) (.tup upd_same (ImA.ints _))
      · refine ⟨_, rfl, _, rfl, m, ca, 3, n + 3, rfl, by decide, by decide, by omega, mok2, fun d H3 d0 d1 b mok3 => ⟨by show 1 ≤ sizeLine; decide, fun p hp => ?_⟩⟩
        have e3 := Evl.Ex.new (o := .tup [V.int d]) hp
        exact q _ [d] _ ⟨by simp, fun k hk => by rw [List.mem_singleton.mp hk]; omega, by simp, by simp⟩ ((lx2.trans (But.lx b)).trans (Lx.of e3)) ((mok3.to e3).mono (by omega)) (.tup upd_same (ImA.ints [d]))
/-! ### _law_way -/
theorem Lx.tx0 {m ca : Addr} {n : Nat} {H H' : Hp} (l : Lx m H H') (h : MOk H m ca n) : Tx H H' := l.tx h.notup
def spWay : Sp := fun vs H Q _ => ∃ (m ca : Addr) (n : Nat), vs = [.ref m, .int 3, .int 2] ∧ n ≤ 800 ∧ MOk H m ca n ∧ ∀ v W H', OkW W → Lx m H H' → MOk H' m ca (n + 20) → Im H' v (wyD W) → Q v H'
theorem pr_way (D : DefAt K mg "_law_way" 39 ["_law_m", "_law_most", "_law_window"]) (pD : Prom P w K mg base 1 "_law_draw" ["_law_m", "_law_many"] spDraw) (pO : Prom P w K mg base 2 "_law_of" ["_law_m", "_law_some_here"] spOf) (pS : Prom P w K mg base 2 "_law_some" ["_law_m", "_law_most", "_law_share"] spSome)
    (mr : mg "range" = none) (mt : mg "tuple" = none) : Prom P w K mg base 3 "_law_way" ["_law_m", "_law_most", "_law_window"] spWay :=
  D.prom fun f fd F => F.ok sc39 (fun vs H Q E h => by obtain ⟨m, ca, n, rfl, _⟩ := h; rfl) fun cdv A outer s H vs Q E hr h => by
    obtain ⟨m, ca, n, rfl, hn, mok, q⟩ := h
    refine ⟨_, pss_cons (ps_set (i := 3) sc39.nd rfl (.inl rfl) (pe_callTy call_tup (by rfl) mt PyProof.Rows.boot_tuple (pa_cons (pe_lc (own := [("_law_k", 6)]) (g := gName 6) (tt := tYes) (te := tCall spSome [] E0 (tCons (tVar 0) (tCons (tC (.int 3)) (tCons (tC (.int 4)) tNil)))) rfl sc39.nd (pi_range1 (by rfl) mr (pa_cons (pe_op op_add pe_int (pe_pr pD (hr.mono (by decide)) (by rfl) (pa_cons (pv 0) (pa_cons (pv 1) pa_nil)))) pa_nil)) (blkOk_by (N := ["_law_m", "_law_most", "_law_window", "_law_steps", "_law_wide", "_law_how", "_law_k"]) (sc := defScope (topS 39)) (by decide +kernel))
          (fun _ _ _ _ _ => pg_name (i := 6) sc39.nd rfl (.inl rfl)) (fun _ _ _ _ _ => pts_nil) (fun _ _ _ _ _ => pe_pr pS hr (by rfl) (pa_cons (pv 0) (pa_cons pe_int (pa_cons pe_int pa_nil))))) pa_nil)))
      (pss_cons (ps_set (i := 4) sc39.nd rfl (.inl rfl) (pe_pr pD (hr.mono (by decide)) (by rfl) (pa_cons (pv 0) (pa_cons (pe_op op_add (pv 2) pe_int) pa_nil))))
      (pss_cons (ps_set (i := 5) sc39.nd rfl (.inl rfl) (pe_pr pO hr (by rfl) (pa_cons (pv 0) (pa_cons (pe_lst (pa_cons pe_str (pa_cons pe_str (pa_cons pe_str (pa_cons pe_str pa_nil))))) pa_nil))))
      (pss_cons (ps_if (pt_cmpR op_eq (pv 5) pe_str (nomark _)) (pss_one (ps_ret (pe_tup (pa_cons (pv 3) (pa_cons (pv 5) (pa_cons pe_str (pa_cons (pv 4) (pa_cons pe_str pa_nil)))))))) pss_nil)
      (pss_one (ps_ret (pe_tup (pa_cons (pv 3) (pa_cons (pv 5) (pa_cons (pe_pr pO hr (by rfl) (pa_cons (pv 0) (pa_cons (pe_lst (pa_cons pe_str (pa_cons pe_str pa_nil))) pa_nil))) (pa_cons (pv 4) (pa_cons (pe_pr pO hr (by rfl) (pa_cons (pv 0) (pa_cons (pe_lst (pa_cons pe_str (pa_cons pe_str (pa_cons pe_str pa_nil)))) pa_nil))) pa_nil))))))))))), ?_⟩
    -- how many steps
    refine ⟨_, rfl, _, rfl, m, ca, 3, n, rfl, by decide, by decide, by omega, mok, fun d H1 d0 d1 b1 mok1 => ⟨1, d, rfl, rfl, 1 + d, rfl, by omega, by omega, fun Dl hD => ?_⟩⟩
    have lx1 : Lx m H H1 := But.lx b1
    have hmS : ∃ o, H1 m = some o := let ⟨_, _, _, _, h1, _⟩ := mok1.ex; ⟨_, h1⟩
    have hDm : Dl ≠ m := fun z => by
      obtain ⟨o, h1⟩ := hmS
      rw [z, h1] at hD
      cases hD
    have hcD : ca ≠ Dl := fun z => by
      obtain ⟨left, seed, spot, cs, h1, h2, _⟩ := mok1.ex
      rw [← z, h2] at hD
      cases hD
    have hDH : ∀ o, H Dl ≠ some o := fun o z => by
      rw [lx1 _ _ hDm z] at hD
      cases hD
    have lmut : ∀ {H' : Hp} {u : HO}, Lx m H H' → Lx m H (upd H' Dl u) := fun {H' u} l bb o nb h => by
      rw [upd_ne (fun z => hDH o (by rw [← z]; exact h))]
      exact l bb o nb h
    refine ⟨fun i k H' => k = (1 + d).toNat - i ∧ i ≤ (1 + d).toNat ∧ Lx m H H' ∧ MOk H' m ca (n + 1 + 4 * i) ∧ ∃ (us : List V) (sts : List (List Int)), H' Dl = some (.lst us) ∧ ImA H' us (sts.map kD) ∧ sts.length = i ∧ ∀ x ∈ sts, OkS x,
      ⟨_, rfl, Nat.zero_le _, lmut lx1, mok1.to (Evl.Ex.new hD), [], [], upd_same, .nil, rfl, fun x hx => by cases hx⟩, ?_⟩
    rintro i k H2 ⟨rfl, hi, lx2, mok2, us, sts, g1, g2, g3, g4⟩
    by_cases hlt : i < (1 + d).toNat
    · refine .inr ⟨hlt, fun H' => Lx m H H' ∧ MOk H' m ca (n + 1 + 4 * (i + 1)) ∧ ∃ (us : List V) (sts : List (List Int)), H' Dl = some (.lst us) ∧ ImA H' us (sts.map kD) ∧ sts.length = i + 1 ∧ ∀ x ∈ sts, OkS x, fun H' h => ⟨(1 + d).toNat - (i + 1), by omega, rfl, hlt, h⟩, fun x H3 y => ?_⟩
      obtain ⟨rfl, rfl⟩ := y
      refine ⟨wipe_set (by simp), tYes_if ?_⟩
      refine ⟨_, rfl, m, ca, n + 1 + 4 * i, rfl, by omega, mok2, fun v ks H4 okS l4 mok4 iv => ?_⟩
      have g1' : H4 Dl = some (.lst us) := l4 _ _ hDm g1
      have tx34 : Tx H3 H4 := Lx.tx0 l4 mok2
      have tx45 : Tx H4 (upd H4 Dl (.lst (us ++ [v]))) := tx_lst g1'
      refine ⟨us, g1', ?_, lmut (lx2.trans l4), ?_, us ++ [v], sts ++ [ks], upd_same, ?_, by rw [List.length_append, g3]; rfl, fun x hx => ?_⟩
      · rw [g2.length, List.length_map]
        exact Evl.sz_lt (by omega)
      · obtain ⟨left, seed, spot, cs, z1, z2, z3⟩ := (mok4.mono (b := n + 1 + 4 * (i + 1)) (by omega)).ex
        exact ⟨left, seed, spot, cs, by rw [upd_ne hDm.symm]; exact z1, by rw [upd_ne hcD]; exact z2, z3⟩
      · rw [List.map_append]
        exact ((g2.to tx34).to tx45).append (.one (Im.to iv tx45))
      · rcases List.mem_append.mp hx with hx | hx
        · exact g4 x hx
        · rw [List.mem_singleton.mp hx]
          exact okS
    · have : i = (1 + d).toNat := by omega
      subst this
      refine .inl ⟨Nat.le_refl _, Dl, us, rfl, .inl ⟨SqL.of g1, fun t ht => ?_⟩⟩
      have e3 := Evl.Ex.new (o := .tup us) ht
      have lx3 : Lx m H (upd H2 t (.tup us)) := lx2.trans (Lx.of e3)
      have mok3 : MOk (upd H2 t (.tup us)) m ca (n + 13) := (mok2.to e3).mono (by omega)
      have it3 : Im (upd H2 t (.tup us)) (.ref t) (stD sts) := .tup upd_same (g2.to (Tx.of e3))
      generalize upd H2 t (.tup us) = H3 at lx3 mok3 it3 ⊢
      -- the window
      refine ⟨_, rfl, _, rfl, 2, 1, rfl, rfl, m, ca, 3, n + 13, rfl, by decide, by decide, by omega, mok3, fun wd H4 w0 w1 b4 mok4 => ?_⟩
      have lx4 := lx3.trans (But.lx b4)
      have it4 := Im.to it3 (b4.tx mok3.notup)
      -- how
      refine ⟨_, rfl, by show 4 ≤ sizeLine; decide, fun l hl => ?_⟩
      have e5 := Evl.Ex.new (o := .lst [V.str "loose", .str "among", .str "strict", .str "any"]) hl
      have mok5 := mok4.to e5
      refine ⟨m, ca, l, _, [.str "loose", .str "among", .str "strict", .str "any"], n + 14, rfl, upd_same, .cons (.str _) (.cons (.str _) (.cons (.str _) (.cons (.str _) .nil))), by decide, by decide, by omega, mok5, fun hv hd H6 hmem b6 mok6 ih => ?_⟩
      have lx6 := (lx4.trans (Lx.of e5)).trans (But.lx b6)
      have it6 := Im.to (Im.to it4 (Tx.of e5)) (b6.tx mok5.notup)
      obtain ⟨hw, rfl⟩ : ∃ hw : How, hd = .str hw.s := by
        simp only [List.mem_cons, List.not_mem_nil, or_false] at hmem
        rcases hmem with rfl | rfl | rfl | rfl
        · exact ⟨.loose, rfl⟩
        · exact ⟨.among, rfl⟩
        · exact ⟨.strict, rfl⟩
        · exact ⟨.any, rfl⟩
      obtain rfl := Im.str_eq ih
      have okst : ∀ x ∈ sts, OkK x := fun x hx => (g4 x hx).okK
      refine ⟨_, rfl, rfl, _, rfl, ite2 (fun hb => ?_) (fun hb => ?_)⟩
      · have hany : hw.s = ("any" : Str) := by
          exact V.str.inj (of_decide_eq_true hb)
        refine ⟨_, rfl, _, rfl, _, rfl, by show 5 ≤ sizeLine; decide, fun p hp => ?_⟩
        have e7 := Evl.Ex.new (o := .tup [V.ref t, .str hw.s, .str "whole", .int wd, .str "all"]) hp
        refine q _ ⟨sts, hw, false, wd, false⟩ _ ⟨by show 1 ≤ sts.length; omega, by show sts.length ≤ 3; omega, okst, w0, by show wd ≤ 2; omega, fun _ => ⟨rfl, rfl⟩⟩ (lx6.trans (Lx.of e7)) ((mok6.to e7).mono (by omega)) ?_
        exact .tup upd_same (.cons (Im.to it6 (Tx.of e7)) (.cons (.str _) (.cons (.str _) (.cons (.int _) (.cons (.str _) .nil)))))
      · have hany : hw ≠ .any := fun z => hb (by rw [z]; exact decide_eq_true rfl)
        refine ⟨_, rfl, _, rfl, _, rfl, by show 2 ≤ sizeLine; decide, fun l2 hl2 => ?_⟩
        have e7 := Evl.Ex.new (o := .lst [V.str "whole", .str "each"]) hl2
        have mok7 := mok6.to e7
        refine ⟨m, ca, l2, _, [.str "whole", .str "each"], n + 15, rfl, upd_same, .cons (.str _) (.cons (.str _) .nil), by decide, by decide, by omega, mok7, fun ev ed H8 hmem2 b8 mok8 ie => ?_⟩
        have lx8 := (lx6.trans (Lx.of e7)).trans (But.lx b8)
        have it8 := Im.to (Im.to it6 (Tx.of e7)) (b8.tx mok7.notup)
        obtain ⟨ea, rfl⟩ : ∃ ea : Bool, ed = .str (if ea = true then "each" else "whole") := by
          simp only [List.mem_cons, List.not_mem_nil, or_false] at hmem2
          rcases hmem2 with rfl | rfl
          · exact ⟨false, rfl⟩
          · exact ⟨true, rfl⟩
        obtain rfl := Im.str_eq ie
        refine ⟨_, rfl, _, rfl, by show 3 ≤ sizeLine; decide, fun l3 hl3 => ?_⟩
        have e9 := Evl.Ex.new (o := .lst [V.str "all", .str "all", .str "first"]) hl3
        have mok9 := mok8.to e9
        refine ⟨m, ca, l3, _, [.str "all", .str "all", .str "first"], n + 16, rfl, upd_same, .cons (.str _) (.cons (.str _) (.cons (.str _) .nil)), by decide, by decide, by omega, mok9, fun fv fd H10 hmem3 b10 mok10 iff => ?_⟩
        have lx10 := (lx8.trans (Lx.of e9)).trans (But.lx b10)
        have it10 := Im.to (Im.to it8 (Tx.of e9)) (b10.tx mok9.notup)
        obtain ⟨fa, rfl⟩ : ∃ fa : Bool, fd = .str (if fa = true then "first" else "all") := by
          simp only [List.mem_cons, List.not_mem_nil, or_false] at hmem3
          rcases hmem3 with rfl | rfl | rfl
          · exact ⟨false, rfl⟩
          · exact ⟨false, rfl⟩
          · exact ⟨true, rfl⟩
        obtain rfl := Im.str_eq iff
        refine ⟨by show 5 ≤ sizeLine; decide, fun p hp => ?_⟩
        have e11 := Evl.Ex.new (o := .tup [V.ref t, .str hw.s, .str (if ea = true then "each" else "whole"), .int wd, .str (if fa = true then "first" else "all")]) hp
        refine q _ ⟨sts, hw, ea, wd, fa⟩ _ ⟨by show 1 ≤ sts.length; omega, by show sts.length ≤ 3; omega, okst, w0, by show wd ≤ 2; omega, fun z => absurd z hany⟩ (lx10.trans (Lx.of e11)) ((mok10.to e11).mono (by omega)) ?_
        exact .tup upd_same (.cons (Im.to it10 (Tx.of e11)) (.cons (.str _) (.cons (.str _) (.cons (.int _) (.cons (.str _) .nil)))))
end
end WZ
namespace WZ
open PySem PySem.Spec PyProof.Rows L2 KB KC KD KV MW
open Evl (Ex EvT)
open StX (tStar)
theorem cut_ints (ns : List Int) (lo hi : Option Int) : ∃ cs : List Int, cutV (ns.map V.int) lo hi = cs.map V.int ∧ cs.length ≤ ns.length := by
  refine ⟨(ns.drop (HT.sIx (ns.map V.int).length 0 lo)).take (HT.sIx (ns.map V.int).length (ns.map V.int).length hi - HT.sIx (ns.map V.int).length 0 lo), ?_, ?_⟩
  · unfold cutV
    rw [List.map_take, List.map_drop]
  · rw [List.length_take, List.length_drop]
    omega
theorem m_merge (left seed spot : Int) (ca : Addr) : mergeK [] (mKvs left seed spot ca) = mKvs left seed spot ca := by
  unfold mergeK mKvs
  rfl
theorem dt_ge18 {i : Nat} {sl : SL} {c : Int} (h : sl[i]? = some (some (.im (.int c)))) : Dt (tTest (tOp (rI0 fun i j => .bl (decide (j ≤ i))) (tVar i) (tOp (rI CPow fun i j => .int (i ^ j.toNat)) (tC (.int 10)) (tC (.int 18))))) sl (decide ((10 : Int) ^ 18 ≤ c)) := by
  refine dt_test ?_
  have h2 : De (tOp (rI CPow fun i j => .int (i ^ j.toNat)) (tC (.int 10)) (tC (.int 18))) sl (.im (.int ((10 : Int) ^ 18))) :=
    de_op (de_int (i := 10)) (de_int (i := 18)) fun x y H hx hy Q q => ⟨10, 18, Im.int_eq hx, Im.int_eq hy, ⟨by decide, by decide, by decide⟩, q _ H (Evl.Ex.refl H) (.int _)⟩
  exact de_I0 (de_var h) h2 fun _ => .bl _
section
variable {P : Program} {w : World} {K : PySem.W.Frag} {mg : Str → Option Value} {base : Heap}
def spBegun (K : PySem.W.Frag) : Sp := fun vs H Q _ => ∃ (sa : Addr) (k : Int) (ns : List Int), vs = [.ref sa, .int k] ∧ 0 ≤ k ∧ k ≤ 100 ∧ SqL K H sa (ns.map V.int) ∧ ns.length ≤ 63 ∧ ∀ m ca H', Ex H H' → H m = none → MOk H' m ca 0 → Q (.ref m) H'
theorem pr_begun (D : DefAt K mg "_law_begun" 35 ["_law_script", "_law_k"]) (mn : mg "int" = none) : Prom P w K mg base 1 "_law_begun" ["_law_script", "_law_k"] (spBegun K) :=
  D.prom fun f fd F => F.ok sc35 (fun vs H Q E h => by obtain ⟨sa, k, ns, rfl, _⟩ := h; rfl) fun cdv A outer s H vs Q E hr h => by
    obtain ⟨sa, k, ns, rfl, k0, k100, hS, h63, q⟩ := h
    refine ⟨_, pss_cons (ps_set (i := 2) sc35.nd rfl (.inl rfl) (pe_op op_cat (pe_slice sl_list (pv 0) (po_some (pv 1)) po_none) (pe_slice sl_list (pv 0) po_none (po_some (pv 1)))))
      (pss_cons (ps_setLc (i := 3) (own := [("_law_cell", 5)]) (g := gName 5) (tt := tTest (tOp (rI0 fun i j => .bl (decide (j ≤ i))) (tVar 5) (tOp (rI CPow fun i j => .int (i ^ j.toNat)) (tC (.int 10)) (tC (.int 18))))) (te := tVar 5) rfl sc35.nd rfl rfl (by rfl) (pi_list (pv 2)) (blkOk_by (N := ["_law_script", "_law_k", "_law_cells", "_law_great", "_law_seed", "_law_cell"]) (sc := defScope (topS 35)) (by decide +kernel))
          (fun _ _ _ _ _ => pg_name (i := 5) sc35.nd rfl (.inl rfl)) (fun _ _ _ _ _ => pts_one (pt_cmpR op_ge (pv 5) (pe_op op_pow pe_int pe_int) (nomark _))) (fun _ _ _ _ _ => pv 5))
      (pss_cons (ps_set (i := 4) sc35.nd rfl (.inl rfl) (pe_op op_add pe_int (pv 1)))
      (pss_cons (ps_for PassesOwn.never rfl (pi_list (pv 2)) (pg_name (i := 5) sc35.nd rfl (.inl rfl))
        (pss_one (ps_set (i := 4) sc35.nd rfl (.inl rfl) (pe_op op_mod (pe_callTy call_int1 (by rfl) mn PyProof.Rows.boot_int (pa_cons (pe_op op_add (pe_op op_mul (pv 4) pe_int) (pv 5)) pa_nil)) pe_int))))
      (pss_one (ps_ret (pe_disp (pps_cons pe_str (pe_ifExp (pt_cmpR (op_neD hr.units) (pv 3) (pe_lst pa_nil) (nomark _)) (pe_ix ix_list (pv 3) pe_int (fun _ _ => rfl)) pe_int) (pps_cons pe_str (pv 4) (pps_cons pe_str (pe_op op_cat (pv 2) (pe_lst (pa_cons (pe_op op_add (pe_op op_mul pe_int (pv 1)) pe_int) pa_nil))) (pps_cons pe_str pe_int pps_nil)))) rfl rfl (by simp) (by decide))))))), ?_⟩
    obtain ⟨c1, ec1, lc1⟩ := cut_ints ns (some k) none
    obtain ⟨c2, ec2, lc2⟩ := cut_ints ns none (some k)
    refine ⟨.ref sa, rfl, .int k, rfl, k, rfl, sa, _, rfl, hS, fun p1 hp1 => ?_⟩
    rw [ec1]
    have e1 := Evl.Ex.new (o := .lst (c1.map V.int)) hp1
    refine ⟨.ref sa, rfl, .int k, rfl, k, rfl, sa, _, rfl, Evl.ex_l e1 hS, fun p2 hp2 => ?_⟩
    rw [ec2]
    have e2 := Evl.Ex.new (o := .lst (c2.map V.int)) hp2
    have g1 := e2 _ _ (upd_same (H := H) (a := p1) (o := .lst (c1.map V.int)))
    refine ⟨p1, p2, _, _, rfl, rfl, g1, upd_same, by rw [List.length_map, List.length_map]; exact Evl.sz_of (by omega), fun c0 hc0 => ?_⟩
    have e3 := Evl.Ex.new (o := .lst (c1.map V.int ++ c2.map V.int)) hc0
    have e03 : Ex H _ := (e1.trans e2).trans e3
    have g3 : (upd (upd (upd H p1 (.lst (c1.map V.int))) p2 (.lst (c2.map V.int))) c0 (.lst (c1.map V.int ++ c2.map V.int))) c0 = some (.lst ((c1 ++ c2).map V.int)) := by rw [upd_same, List.map_append]
    generalize hcs : c1 ++ c2 = cs at g3
    have lcs : cs.length ≤ 126 := by rw [← hcs, List.length_append]; omega
    generalize upd (upd (upd H p1 (.lst (c1.map V.int))) p2 (.lst (c2.map V.int))) c0 (.lst (c1.map V.int ++ c2.map V.int)) = H3 at e03 g3 ⊢
    -- the great ones
    refine nm_in ?_
    dsimp only
    refine seq_asg (σ := [some (.ref sa), some (.int k), some (.ref c0), none, none, none]) ?_
    refine den_lcF (ds := (cs.filter fun c => decide ((10 : Int) ^ 18 ≤ c)).map .int) (sl := [none, none, some (.ls (cs.map .int)), none, none, none]) cs PyData.int (fun c => if decide ((10 : Int) ^ 18 ≤ c) = true then some c else none) PyData.int rfl (by rw [filterMap_if (fun c => decide ((10 : Int) ^ 18 ≤ c)) (fun c => c)]; simp) (di_list (de_var rfl)) (tg_name (by simp)) (by omega)
      (fun c hc => ⟨_, rfl, decide ((10 : Int) ^ 18 ≤ c), dt_ge18 rfl, fun z => ⟨c, by rw [if_pos z], de_var rfl⟩, fun z => by rw [if_neg (by rw [z]; exact Bool.false_ne_true)]⟩) _ H3
      (.cons trivial (.cons trivial (.cons ⟨_, rfl, c0, _, rfl, g3, ImA.ints _⟩ (.cons trivial (.cons trivial (.cons trivial .nil)))))) _ fun gp gvs H4 e4 hgp g4 i4 => ?_
    generalize (cs.filter fun c => decide ((10 : Int) ^ 18 ≤ c)) = gs at i4
    obtain rfl := ImA.ints_eq i4
    have e04 := e03.trans e4
    have c4 := e4 _ _ g3
    -- seed = 97 + k
    refine ⟨_, rfl, 97, k, rfl, rfl, ?_⟩
    -- the loop
    refine ⟨.ref c0, rfl, c0, rfl, ⟨_, SqL.of c4⟩, fun i n σ H' => ∃ (sd : Int) (x5 : Option V), σ = [some (.ref sa), some (.int k), some (.ref c0), some (.ref gp), some (.int sd), x5] ∧ n = cs.length - i ∧ i ≤ cs.length ∧ 0 ≤ sd ∧ sd < 2 ^ 31 ∧ H' = H4,
      ⟨_, 97 + k, none, rfl, rfl, Nat.zero_le _, by omega, by omega, rfl⟩, ?_⟩
    rintro i n σ H' ⟨sd, x5, rfl, rfl, hi, sd0, sd1, rfl⟩
    by_cases hlt : i < cs.length
    · refine .inr ⟨⟨_, .int cs[i], SqL.of c4, by rw [List.getElem?_map, List.getElem?_eq_getElem hlt]; rfl⟩, fun σ' H'' => ∃ (sd : Int) (x5 : Option V), σ' = [some (.ref sa), some (.int k), some (.ref c0), some (.ref gp), some (.int sd), x5] ∧ 0 ≤ sd ∧ sd < 2 ^ 31 ∧ H'' = H', fun σ' H'' => ?_, fun x H'' y => ?_⟩
      · rintro ⟨sd, x5, rfl, a0, a1, rfl⟩
        exact ⟨cs.length - (i + 1), by omega, sd, x5, rfl, rfl, hlt, a0, a1, rfl⟩
      · obtain ⟨rfl, yx⟩ := y
        obtain rfl : x = .int cs[i] := by
          have := yx _ (SqL.of c4)
          rw [List.getElem?_map, List.getElem?_eq_getElem hlt] at this
          cases this
          rfl
        refine ⟨_, rfl, sd, 48271, rfl, rfl, .inl ⟨by omega, by omega⟩, _, rfl, _, _, rfl, rfl, .inl ⟨_, rfl, _, _, rfl, rfl, by show (0 : Int) < 2147483647; decide, ?_⟩⟩
        refine ⟨_, _, rfl, Int.emod_nonneg _ (by decide), ?_, rfl⟩
        have := Int.emod_lt_of_pos (sd * 48271 + cs[i]) (b := 2147483647) (by decide)
        omega
    · have : i = cs.length := by omega
      subst this
      refine .inl ⟨⟨_, SqL.of c4, by rw [List.length_map]; exact Nat.le_refl _⟩, ?_⟩
      -- the dict
      intro mm hmm
      have e5 := Evl.Ex.new (o := .dK []) hmm
      have hm5 : upd H' mm (.dK []) mm = some (.dK []) := upd_same
      generalize upd H' mm (.dK []) = H5 at e5 hm5 ⊢
      have hmH : H mm = none := by
        cases z : H mm with
        | none => rfl
        | some o => rw [e04 _ _ z] at hmm; cases hmm
      have fin : ∀ {H6 : Hp} {lf : Int}, Ex H5 H6 → tPairs [(tC (.str "seed"), tVar 4), (tC (.str "cells"), tOp rCat (tVar 2) (tLst (tCons (tOp (rI0 fun i j => .int (i + j)) (tOp (rI CMul fun i j => .int (i * j)) (tC (.int 31)) (tVar 1)) (tC (.int 5))) tNil))), (tC (.str "spot"), tC (.int 0))] [some (.ref sa), some (.int k), some (.ref c0), some (.ref gp), some (.int sd), x5] H6
          fun ps H7 => (fun ps H8 => H8 mm = some (.dK []) ∧ ∃ kvs : List (Key × V), ps = kvs.map (fun kv => (kV kv.1, kv.2)) ∧ kvs.length ≤ 15 ∧ Q (.ref mm) (upd H8 mm (.dK (mergeK [] kvs)))) ((.str "left", .int lf) :: ps) H7 := fun {H6 lf} e6 => by
        have c6 := e6 _ _ (e5 _ _ c4)
        refine ⟨_, rfl, _, rfl, .int k, rfl, 31, k, rfl, rfl, .inl ⟨by decide, by decide⟩, _, _, rfl, rfl, by show 1 ≤ sizeLine; decide, fun l hl => ?_⟩
        have e7 := Evl.Ex.new (o := .lst [V.int (31 * k + 5)]) hl
        refine ⟨c0, l, _, [V.int (31 * k + 5)], rfl, rfl, e7 _ _ c6, upd_same, ?_, fun ca hca => ?_⟩
        · rw [List.length_map]
          exact Evl.sz_of (by show cs.length + 1 ≤ 100000; omega)
        · have e8 := Evl.Ex.new (o := .lst (cs.map V.int ++ [V.int (31 * k + 5)])) hca
          have h8 := (e6.trans (e7.trans e8)) _ _ hm5
          have hcm : ca ≠ mm := fun z => by
            rw [z] at hca
            rw [(e6.trans e7) _ _ hm5] at hca
            cases hca
          refine ⟨h8, mKvs lf sd 0 ca, rfl, by show 4 ≤ 15; decide, ?_⟩
          rw [m_merge]
          refine q mm ca _ (Evl.Ex.mut ((e04.trans e5).trans (e6.trans (e7.trans e8))) hmH) hmH ⟨lf, sd, 0, cs ++ [31 * k + 5], upd_same, ?_, by simp, by rw [List.length_append]; simp; omega, sd0, sd1, Int.le_refl _, Int.le_refl _⟩
          rw [upd_ne hcm, upd_same, List.map_append]
          rfl
      refine dt_test (de_neL (ds := gs.map .int) (es := []) (sl := [none, none, none, some (.ls (gs.map .int)), none, none]) (de_var rfl) (de_lst (ds := []) dea_nil (by simp)) (shaped_ints _) (by decide)) [some (.ref sa), some (.int k), some (.ref c0), some (.ref gp), some (.int sd), x5] H5
        (.cons trivial (.cons trivial (.cons trivial (.cons ⟨_, rfl, gp, _, rfl, e5 _ _ g4, ImA.ints _⟩ (.cons trivial (.cons trivial .nil)))))) _ fun H6 e6 => ?_
      rw [eqv_nilD]
      refine ite2 (fun hb => ?_) (fun hb => ?_)
      · have hne : gs ≠ [] := of_decide_eq_true hb
        obtain ⟨g, gr, rfl⟩ : ∃ g gr, gs = g :: gr := by
          cases gs with
          | nil => exact absurd rfl hne
          | cons a r => exact ⟨a, r, rfl⟩
        exact ⟨_, rfl, gp, _, 0, .int g, rfl, rfl, SqL.of (e6 _ _ (e5 _ _ g4)), atI_nat (j := 0) rfl, fin e6⟩
      · exact fin e6
end
end WZ
namespace KV
open PySem PySem.Spec PyProof.Rows L2 KB KC KD MW
open Evl (Ex EvT)
section
variable {ta tb te : TE} {sl : SL} {K : PySem.W.Frag}
theorem de_catA {ds es : List PyData} (h1 : De ta sl (.im (.tuple ds))) (h2 : De tb sl (.im (.tuple es))) (n1 : ds ≠ []) (n2 : es ≠ []) (hl : ds.length + es.length ≤ 1000) : De (tOp (rCatA K) ta tb) sl (.im (.tuple (ds ++ es))) :=
  de_op h1 h2 fun x y H hx hy Q q => by
    obtain ⟨a, xs, rfl, a1, a2⟩ := Im.ref hx
    obtain ⟨b, ys, rfl, b1, b2⟩ := Im.ref hy
    have lx := a2.length
    have ly := b2.length
    refine ⟨a, b, xs, ys, rfl, rfl, SqT.of a1, SqT.of b1, Evl.sz_of (by omega), fun z => ?_, fun _ z => ?_, fun _ _ p hp => q _ _ (Evl.Ex.new hp) (.tup upd_same ((ImA.append a2 b2).to (Tx.of (Evl.Ex.new hp))))⟩
    · subst z
      exact absurd (List.length_eq_zero_iff.mp lx.symm) n1
    · subst z
      exact absurd (List.length_eq_zero_iff.mp ly.symm) n2
/-- sorted(l), l falling -/
theorem de_sortRev {ns : List Int} (h : De te sl (.ls (ns.map .int))) (hl : ns.length < 64) (hr : ns.reverse.Pairwise (· < ·)) : De (tCB (rSorted K) (tCons te tNil)) sl (.ls (ns.reverse.map .int)) := fun σ H hs Q q => h σ H hs _ fun v H1 e1 q1 => by
  obtain ⟨p, xs, rfl, h1, h2⟩ := q1
  obtain rfl := ImA.ints_eq h2
  refine ⟨p, ns, rfl, SqL.of h1, hl, fun ms l hp hs hl => ?_⟩
  have nd : ns.Nodup := by
    have := nodup_of_strict (f := fun x : Int => x) hr
    exact (List.reverse_perm ns).nodup_iff.mp this
  have ndm : ms.Nodup := hp.nodup_iff.mpr nd
  have e : ms = ns.reverse := strict_ext (f := fun x : Int => x) ((hs.and ndm).imp fun {a b} q => by
    have h1 := q.1
    have h2 := q.2
    show a < b
    omega) hr fun x => by rw [hp.mem_iff, List.mem_reverse]
  rw [e]
  exact q _ _ (e1.trans (Evl.Ex.new hl)) ⟨l, _, rfl, upd_same, ImA.ints _⟩
end
end KV
namespace WZ
open PySem PySem.Spec PyProof.Rows L2 KB KC KD KV MW
open Evl (Ex EvT)
open StX (tStar)
def told3 (n : Nat) : PyData := .list [.int (n : Int), .int (n : Int), .int (n : Int)]
theorem told_fits : ∀ n : Fin 61, (told3 n.val).showable = true ∧ (told3 n.val).hasDict = false ∧ (told3 n.val).depth ≤ 64 ∧ (told3 n.val).shown.length ≤ sizeLine := by decide +kernel
section
variable {P : Program} {w : World} {K : PySem.W.Frag} {mg : Str → Option Value} {base : Heap}
def spLaw (K : PySem.W.Frag) : Sp := fun vs H Q _ => ∃ (a : Addr) (ns : List Int), vs = [.ref a] ∧ SqL K H a (ns.map V.int) ∧ ns.length ≤ 63 ∧ ∀ H', Q (.bl true) H'
theorem law_body (pB : Prom P w K mg base 1 "_law_begun" ["_law_script", "_law_k"] (spBegun K)) (pW : Prom P w K mg base 3 "_law_way" ["_law_m", "_law_most", "_law_window"] spWay) (pF : Prom P w K mg base 3 "_law_all" ["_law_way_here", "_law_most"] (spFound P w)) (pP : Prom P w K mg base 1 "_law_classes" ["_law_found"] (spParts P w)) (pS : Prom P w K mg base 6 "size" ["way"] spSize)
    (mr : mg "range" = none) (mm : mg "min" = none) (ml : mg "len" = none) (mt : mg "tuple" = none) (mo : mg "sorted" = none) (mp : mg "repr" = none) {f : Addr}
    (cdv : Value) (A : Around) (outer : List Env) (s : Shared) (H : Hp) (vs : List V) (Q : VK) (E : XK) (hg : A.guards = some []) (hr : Room 6 (A.deeper (envOfC "law" (defScope (topS 46)) s.heap.objs.size f cdv))) (h : spLaw K vs H Q E) :
    ∃ t, PSs (cxOf CX0 P w K mg base ["_law_script", "_law_k", "_law_m", "_law_turn", "_law_way_here", "_law_found", "_law_due", "_law_turned", "_law_told", "_law_kinds", "_law_kind"] "law" (defScope (topS 46)) f cdv A outer s H E).nox (defBody (topS 46)) t ∧ t { nx := fun _ H' => Q .non H', rt := Q } (start ["_law_script", "_law_k", "_law_m", "_law_turn", "_law_way_here", "_law_found", "_law_due", "_law_turned", "_law_told", "_law_kinds", "_law_kind"] vs) H := by
  obtain ⟨a, ns, rfl, hS, h63, q⟩ := h
  have hgd : (A.deeper (envOfC "law" (defScope (topS 46)) s.heap.objs.size f cdv)).guards = some [] := hg
  have hu65 : (A.deeper (envOfC "law" (defScope (topS 46)) s.heap.objs.size f cdv)).units + 65 < cLine := by have := hr.un; omega
  refine ⟨_, pss_cons (ps_for PassesOwn.never rfl (pi_range1 (by rfl) mr (pa_cons (pe_op op_add pe_int (pe_callB (call_min2 rfl) (by rfl) mm PyProof.Rows.boot_min (pa_cons (pe_callB call_len_seq (by rfl) ml PySem.boot_len (pa_cons (pv 0) pa_nil)) (pa_cons pe_int pa_nil)))) pa_nil)) (pg_name (i := 1) sc46.nd rfl (.inl rfl))
      (pss_cons (ps_set (i := 2) sc46.nd rfl (.inl rfl) (pe_pr pB (hr.mono (by decide)) (by rfl) (pa_cons (pv 0) (pa_cons (pv 1) pa_nil))))
      (pss_one (ps_for PassesOwn.never rfl (pi_range1 (by rfl) mr (pa_cons pe_int pa_nil)) (pg_name (i := 3) sc46.nd rfl (.inl rfl))
        (pss_cons (ps_set (i := 4) sc46.nd rfl (.inl rfl) (pe_pr pW (hr.mono (by decide)) (by rfl) (pa_cons (pv 2) (pa_cons pe_int (pa_cons pe_int pa_nil)))))
        (pss_cons (ps_set (i := 5) sc46.nd rfl (.inl rfl) (pe_pr pF (hr.mono (by decide)) (by rfl) (pa_cons (pv 4) (pa_cons pe_int pa_nil))))
        (pss_one (ps_if (pt_cmp (pc_notN (pv 5)))
          (pss_cons (ps_set (i := 6) sc46.nd rfl (.inl rfl) (pe_pr pP (hr.mono (by decide)) (by rfl) (pa_cons (pv 5) pa_nil)))
          (pss_cons (ps_set (i := 7) sc46.nd rfl (.inl rfl) (pe_callTy call_tup (by rfl) mt PyProof.Rows.boot_tuple (pa_cons (pe_lc (own := [("_law_kinds", 9)]) (g := gName 9) (tt := tYes) (te := tCB (rTupOf K) (tCons (tCB (rSorted K) (tCons (tLc (iTup K (tVar 9)) (gName 10) tYes (tOp (rI0 fun i j => .int (i - j)) (tC (.int 4)) (tVar 10)) [10]) tNil)) tNil)) rfl sc46.nd (pi_tup (pe_ix ix_tup (pv 4) pe_int (fun _ _ => rfl))) (blkOk_by (N := ["_law_script", "_law_k", "_law_m", "_law_turn", "_law_way_here", "_law_found", "_law_due", "_law_turned", "_law_told", "_law_kinds", "_law_kind"]) (sc := defScope (topS 46)) (by decide +kernel))
              (fun _ _ _ _ _ => pg_name (i := 9) sc46.nd rfl (.inl rfl)) (fun _ _ _ _ _ => pts_nil) (fun _ _ _ _ _ => pe_callTy call_tup (by rfl) mt PyProof.Rows.boot_tuple (pa_cons (pe_callB cr_sorted (by rfl) mo PyProof.Rows.boot_sorted (pa_cons (pe_lc (own := [("_law_kind", 10)]) (g := gName 10) (tt := tYes) rfl sc46.nd (pi_tup (pv 9)) (blkOk_by (N := ["_law_script", "_law_k", "_law_m", "_law_turn", "_law_way_here", "_law_found", "_law_due", "_law_turned", "_law_told", "_law_kinds", "_law_kind"]) (sc := { kind := .function, names := [(".0", .local), ("_law_kinds", .local), ("tuple", .globalImplicit), ("sorted", .globalImplicit)], isGenerator := false, isCoroutine := false }) (by decide +kernel))
                (fun _ _ _ _ _ => pg_name (i := 10) sc46.nd rfl (.inl rfl)) (fun _ _ _ _ _ => pts_nil) (fun _ _ _ _ _ => pe_op op_sub pe_int (pv 10))) pa_nil)) pa_nil))) pa_nil)))
          (pss_cons (ps_set (i := 8) sc46.nd rfl (.inl rfl) (pe_lst (pa_cons (pe_pr pS hr (by rfl) (pa_cons (pv 4) pa_nil)) (pa_cons (pe_pr pS hr (by rfl) (pa_cons (pv 4) pa_nil)) (pa_cons (pe_pr pS hr (by rfl) (pa_cons (pe_op op_catA (pe_tup (pa_cons (pv 7) pa_nil)) (pe_slice sl_tup (pv 4) (po_some pe_int) po_none)) pa_nil)) pa_nil)))))
          (pss_one (ps_if (pt_cmpR op_ne (pe_callB (call_reprD hgd hu65) (by rfl) mp PyProof.Rows.boot_repr (pa_cons (pv 8) pa_nil)) (pe_callB (call_reprD hgd hu65) (by rfl) mp PyProof.Rows.boot_repr (pa_cons (pe_lst (pa_cons (pv 6) (pa_cons (pv 6) (pa_cons (pv 6) pa_nil)))) pa_nil)) (nomark _)) (pss_one (ps_ret pe_bl)) pss_nil))))) pss_nil))))))))
      (pss_one (ps_ret pe_bl)), ?_⟩
  have hlen : (ns.map V.int).length = ns.length := List.length_map ..
  have hN0 : 0 ≤ 1 + (if (5 : Int) < ((ns.map V.int).length : Nat) then (5 : Int) else ((ns.map V.int).length : Nat)) ∧ 1 + (if (5 : Int) < ((ns.map V.int).length : Nat) then (5 : Int) else ((ns.map V.int).length : Nat)) ≤ 6 := by
    split <;> omega
  refine ⟨.ref a, rfl, a, _, rfl, .inl hS, _, 5, rfl, 1, _, rfl, rfl, 1 + (if (5 : Int) < ((ns.map V.int).length : Nat) then (5 : Int) else ((ns.map V.int).length : Nat)), rfl, by omega, by omega, ?_⟩
  generalize 1 + (if (5 : Int) < ((ns.map V.int).length : Nat) then (5 : Int) else ((ns.map V.int).length : Nat)) = N at hN0
  refine ⟨fun i n σ H' => n = N.toNat - i ∧ i ≤ N.toNat ∧ Ex H H' ∧ ∃ x1 x2 x3 x4 x5 x6 x7 x8 x9 x10 : Option V, σ = [some (.ref a), x1, x2, x3, x4, x5, x6, x7, x8, x9, x10],
    ⟨_, rfl, Nat.zero_le _, Evl.Ex.refl H, _, _, _, _, _, _, _, _, _, _, rfl⟩, ?_⟩
  rintro i n σ H1 ⟨rfl, hi, e1, x1, x2, x3, x4, x5, x6, x7, x8, x9, x10, rfl⟩
  by_cases hlt : i < N.toNat
  · refine .inr ⟨hlt, fun σ' H' => Ex H H' ∧ ∃ x1 x2 x3 x4 x5 x6 x7 x8 x9 x10 : Option V, σ' = [some (.ref a), x1, x2, x3, x4, x5, x6, x7, x8, x9, x10], fun σ' H' h => ⟨N.toNat - (i + 1), by omega, rfl, hlt, h⟩, fun x H2 y => ?_⟩
    obtain ⟨rfl, rfl⟩ := y
    rw [Int.zero_add]
    -- m = _law_begun(script, k)
    refine ⟨_, rfl, _, rfl, a, (i : Int), ns, rfl, by omega, by omega, Evl.ex_l e1 hS, h63, fun m ca H3 e3 hm mok => ?_⟩
    have e03 := e1.trans e3
    have hmH : H m = none := by
      cases z : H m with
      | none => rfl
      | some o => rw [e1 _ _ z] at hm; cases hm
    refine ⟨2, rfl, by decide, by decide, fun j n σ H' => n = 2 - j ∧ j ≤ 2 ∧ Ex H H' ∧ MOk H' m ca (20 * j) ∧ ∃ x3 x4 x5 x6 x7 x8 x9 x10 : Option V, σ = [some (.ref a), some (.int (i : Int)), some (.ref m), x3, x4, x5, x6, x7, x8, x9, x10],
      ⟨_, rfl, Nat.zero_le _, e03, mok, _, _, _, _, _, _, _, _, rfl⟩, ?_⟩
    rintro j n σ H4 ⟨rfl, hj, e4, mok4, y3, y4, y5, y6, y7, y8, y9, y10, rfl⟩
    by_cases hjt : j < 2
    · refine .inr ⟨hjt, fun σ' H' => Ex H H' ∧ MOk H' m ca (20 * (j + 1)) ∧ ∃ x3 x4 x5 x6 x7 x8 x9 x10 : Option V, σ' = [some (.ref a), some (.int (i : Int)), some (.ref m), x3, x4, x5, x6, x7, x8, x9, x10], fun σ' H' h => ⟨2 - (j + 1), by omega, rfl, hjt, h⟩, fun x H5 y => ?_⟩
      obtain ⟨rfl, rfl⟩ := y
      rw [Int.zero_add]
      -- way
      refine ⟨_, rfl, m, ca, 20 * j, rfl, by omega, mok4, fun v W H6 okW lx6 mok6 iw => ?_⟩
      have e6 : Ex H H6 := fun b o h => lx6 b o (ne_of_none h hmH) (e4 b o h)
      -- found
      refine ⟨_, rfl, W, v, rfl, iw, okW, fun H7 e7 => ?_, fun fa H7 L M e7 td rok fnd h60 => ?_⟩
      · -- None
        refine ⟨_, rfl, _, rfl, ?_⟩
        exact ⟨e6.trans e7, (mok6.to e7).mono (by omega), _, _, _, _, _, _, _, _, rfl⟩
      · refine ⟨_, rfl, _, rfl, ?_⟩
        have iw7 := Im.to iw (Tx.of e7)
        -- due
        refine ⟨_, rfl, W, fa, M, L, rfl, okW, td, rok, fnd, h60, fun H8 n8 e8 sz8 => ?_⟩
        have e68 := e7.trans e8
        have iw8 := Im.to iw (Tx.of e68)
        have hn60 : n8 ≤ 60 := by
          obtain ⟨k, _, _, rfl⟩ := sz8
          exact Nat.le_trans (Nk_le M k) h60
        have few := okW.few
        have iwA : ∀ {H' : Hp}, Ex H8 H' → Im H' v (wyD W) := fun {H'} e => Im.to iw8 (Tx.of e)
        have slA : ∀ {H' : Hp}, Ex H8 H' → ∀ {y7 y8 : Option V}, Sl H' [some (.ref a), some (.int (i : Int)), some (.ref m), some (.int (j : Int)), some v, some (.ref fa), some (.int (n8 : Int)), y7, y8, y9, y10] [none, none, none, none, some (.im (wyD W)), none, none, none, none, none, none] := fun {H'} e {y7 y8} =>
          .cons trivial (.cons trivial (.cons trivial (.cons trivial (.cons ⟨v, rfl, iwA e⟩ (.cons trivial (.cons trivial (.cons trivial (.cons trivial (.cons trivial (.cons trivial .nil))))))))))
        -- turned
        have hturn : De (tCB (rTupOf K) (tCons (tLc (iTup K (tOp (rIxT K) (tVar 4) (tC (.int 0)))) (gName 9) tYes (tCB (rTupOf K) (tCons (tCB (rSorted K) (tCons (tLc (iTup K (tVar 9)) (gName 10) tYes (tOp (rI0 fun i j => .int (i - j)) (tC (.int 4)) (tVar 10)) [10]) tNil)) tNil)) [9]) tNil))
            [none, none, none, none, some (.im (wyD W)), none, none, none, none, none, none] (.im (stD (turnW W).steps)) :=
          de_tupOf (den_lcX W.steps kD (fun ks => kD (turnK ks)) rfl (by unfold turnW; rw [List.map_map]; rfl) (di_tup (de_ixT (j := 0) (de_var (a := .im (wyD W)) rfl) de_int rfl)) (tg_name (by simp)) (by omega)
            (fun ks hks => ⟨_, rfl, de_tupOf (de_sortRev (ns := ks.map fun k => 4 - k) (den_lcX ks PyData.int (fun k => .int (4 - k)) rfl (by rw [List.map_map]; rfl) (di_tup (de_var (a := .im (kD ks)) rfl)) (tg_name (by simp)) (by have := (okW.ks ks hks).len; omega)
              (fun k hk => ⟨_, rfl, de_sub de_int (de_var rfl)⟩)).de (by have := (okW.ks ks hks).len; rw [List.length_map]; omega) (turnK_asc (okW.ks ks hks).asc))⟩)).de
        refine nm_in ?_
        dsimp only
        refine seq_asg (σ := [some (.ref a), some (.int (i : Int)), some (.ref m), some (.int (j : Int)), some v, some (.ref fa), some (.int (n8 : Int)), y7, y8, y9, y10]) ?_
        refine hturn _ H8 (slA (Evl.Ex.refl H8)) _ fun tv H9 e9 it9 => ?_
        have it9 : Im H9 tv (stD (turnW W).steps) := it9
        have hR : ∀ x, Reach W x → x ∈ M.map (hK W) := fun x hx => (fnd.reach okW x).mp hx
        have hRl : (M.map (hK W)).length ≤ 4000 := by rw [List.length_map]; omega
        -- told
        refine ⟨_, rfl, W, M.map (hK W), v, rfl, iwA e9, okW, hR, hRl, fun H10 n1 ks1 e10 nd1 mem1 sz1 => ?_⟩
        refine ⟨_, rfl, W, M.map (hK W), v, rfl, iwA (e9.trans e10), okW, hR, hRl, fun H11 n2 ks2 e11 nd2 mem2 sz2 => ?_⟩
        have hcat : De (tOp (rCatA K) (tTup (tCons (tVar 7) tNil)) (tSl (rSlT K) (tVar 4) (tPart (tC (.int 1))) tNoPart)) [none, none, none, none, some (.im (wyD W)), none, none, some (.im (stD (turnW W).steps)), none, none, none] (.im (wyD (turnW W))) :=
          (de_catA (ds := [stD (turnW W).steps]) (es := [.str W.how.s, .str (if W.each = true then "each" else "whole"), .int W.wide, .str (if W.fst = true then "first" else "all")]) (de_tup (ds := [stD (turnW W).steps]) (dea_cons (de_var rfl) dea_nil) (by simp)) (de_tail (d := stD W.steps) (de_var (a := .im (wyD W)) rfl)) (by simp) (by simp) (by simp))
        have e911 := e9.trans (e10.trans e11)
        refine hcat [some (.ref a), some (.int (i : Int)), some (.ref m), some (.int (j : Int)), some v, some (.ref fa), some (.int (n8 : Int)), some tv, y8, y9, y10] H11
          (.cons trivial (.cons trivial (.cons trivial (.cons trivial (.cons ⟨v, rfl, iwA e911⟩ (.cons trivial (.cons trivial (.cons ⟨tv, rfl, Im.to it9 (Tx.of (e10.trans e11))⟩ (.cons trivial (.cons trivial (.cons trivial .nil))))))))))) _ fun tw H12 e12 it12 => ?_
        refine ⟨turnW W, M.map (hK W), tw, rfl, it12, turnW_ok okW, fun x hx => hR x (((turned W).reach x).mp hx), hRl, fun H13 n3 ks3 e13 nd3 mem3 sz3 => ⟨by show 3 ≤ sizeLine; decide, fun l hl => ?_⟩⟩
        have q1 : n1 = n8 := sz1.unique sz8 fun k => fnd.same okW mem1 k
        have q2 : n2 = n8 := sz2.unique sz8 fun k => fnd.same okW mem2 k
        have q3 : n3 = n8 := sz3.unique sz8 fun k => ((turned W).same mem1 mem3 k).trans (fnd.same okW mem1 k)
        subst q1
        subst q2
        subst q3
        have e14 := Evl.Ex.new (o := .lst [V.int (n3 : Int), .int (n3 : Int), .int (n3 : Int)]) hl
        obtain ⟨fit1, fit2, fit3, fit4⟩ := told_fits ⟨n3, by omega⟩
        have dp : ∀ {H' : Hp} {l : Addr}, H' l = some (.lst [V.int (n3 : Int), .int (n3 : Int), .int (n3 : Int)]) → Dp K H' (.ref l) (told3 n3) := fun h => .lst (SqL.of h) (.cons (.int _) (.cons (.int _) (.cons (.int _) .nil)))
        refine ⟨.ref l, rfl, l, told3 n3, rfl, dp upd_same, fit1, fit2, fit3, fit4, ?_⟩
        refine ⟨_, rfl, _, rfl, _, rfl, by show 3 ≤ sizeLine; decide, fun l2 hl2 => ?_⟩
        have e15 := Evl.Ex.new (o := .lst [V.int (n3 : Int), .int (n3 : Int), .int (n3 : Int)]) hl2
        refine ⟨l2, told3 n3, rfl, dp upd_same, fit1, fit2, fit3, fit4, rfl, _, rfl, ite2 (fun hb => ?_) (fun _ => ?_)⟩
        · rw [decide_eq_true rfl] at hb
          cases hb
        · have eall := (((e911.trans e12).trans e13).trans e14).trans e15
          exact ⟨(e6.trans e68).trans eall, (mok6.to (e68.trans eall)).mono (by omega), _, _, _, _, _, _, _, _, rfl⟩
    · have : j = 2 := by omega
      subst this
      exact .inl ⟨Nat.le_refl _, e4, _, _, _, _, _, _, _, _, _, _, rfl⟩
  · have : i = N.toNat := by omega
    subst this
    exact .inl ⟨Nat.le_refl _, q H1⟩
end
end WZ
namespace WZ
open PySem PySem.Spec PyProof.Rows L2
/-- a def of one parameter, run from the outside: its body stands at the caller's own surroundings -/
theorem run_outer {P : Program} {w : World} {K : PySem.W.Frag} {mg : Str → Option Value} {base : Heap} {k : Nat} {x y : Str} {i : Nat} {f : Addr} {fd : FuncData} {N : List Str} {s : Shared} {H : Hp} {u : Value} {v : V} {Q : VK}
    (F : Fun K x y (topS i) f fd) (S : FnScope N ["_law_script"] (defScope (topS i))) (hr : Room (k + 1) callerA) (e0 : Env0 P w K mg base callerA [] s H) (hb : BindsTo s fd ⟨[u], []⟩ [("_law_script", u)]) (rv : RelV v u)
    (hbody : ∀ cdv : Value, ∃ t, PSs (cxOf CX0 P w K mg base N y (defScope (topS i)) f cdv callerA [] s H E0) (defBody (topS i)) t ∧ t { nx := fun _ H' => Q .non H', rt := Q } (start N [v]) H) :
    codeAny (model P w) callerA (.call (.ref f) ⟨[u], []⟩) (CR CX0 [] P w H s Q E0) s := by
  obtain ⟨oc, od, kV, doc, pm, an, cdv, ct, osl, rfl, lk, hcd⟩ := F.ex
  have KX : K.In s.heap := e0.mod.kin.keeps fun b o e => (e0.bs b o e).1
  have hkind : ∀ z ∈ (["_law_script"] : List Str).zip [u], (defScope (topS i)).names.lookup z.1 = some .local ∨ ((defScope (topS i)).names.lookup z.1 = some .cell ∧ ((cellsFrom (s.heap.objs.size + 1) (defScope (topS i)).names []).lookup z.1).isSome = true) := fun z hz =>
    (S.par z.1 (List.of_mem_zip hz).1).imp id fun q => ⟨q, PySem.W.cellsFrom_some _ _ _ (.inl q)⟩
  obtain ⟨t, ht, hq⟩ := hbody cdv
  refine codeAny_call_function hr.depth (KX _ _ lk) rfl S.co S.gen rfl (PySem.W.codeRec_of KX hcd) (hb _ _ _ _ (wpAny_newFunctionEnv_cells S.kind hkind fun env he s1 x => ?_))
  subst he
  refine ⟨(e0.mod.nolimit.keeps fun b o e => (e0.bs b o e).1).keeps x.toInCall.keep, codeAny_func ?_⟩
  refine wpAny_mono (ht.run [] s1 (start N [v]) H _ (inv_start S hr.hd e0 rfl (.cons rv .nil) x) hq) (fun fl s' hs => ?_) fun e s' hs => hs
  cases fl with
  | ret u' =>
    obtain ⟨v', σ', H', J, r', q⟩ := hs
    exact ⟨v', H', J.os, J.bare, J.base, J.hok, r', q⟩
  | next =>
    obtain ⟨σ', H', J, q⟩ := hs
    exact ⟨.non, H', J.os, J.bare, J.base, J.hok, rfl, q⟩
  | brk => exact hs.elim fun _ h => h.elim fun _ h => h.2.elim
  | cont => exact hs.elim fun _ h => h.elim fun _ h => h.2.elim
/-- the script and nothing else in sight -/
def Seen (K : PySem.W.Frag) (a : Addr) (os : Obj) (xs : List V) (H : Hp) : Prop := ((K.lookup a).isSome = true ∧ H = fun _ => none) ∨ (K.lookup a = none ∧ H = fun b => if b = a then some (.frz os (.lst xs)) else none)
theorem Seen.off {K : PySem.W.Frag} {a b : Addr} {os : Obj} {xs : List V} {H : Hp} (h : Seen K a os xs H) (hb : b ≠ a ∨ (K.lookup b).isSome = true) : H b = none := by
  rcases h with ⟨_, rfl⟩ | ⟨hk, rfl⟩
  · rfl
  · refine if_neg fun e => ?_
    rcases hb with hb | hb
    · exact hb e
    · rw [e, hk] at hb
      cases hb
theorem Seen.there (K : PySem.W.Frag) (a : Addr) (os : Obj) (xs : List V) : ∃ H, Seen K a os xs H := by
  cases e : K.lookup a with
  | some o => exact ⟨_, .inl ⟨by rw [e]; rfl, rfl⟩⟩
  | none => exact ⟨_, .inr ⟨e, rfl⟩⟩
theorem Seen.only {K : PySem.W.Frag} {a b : Addr} {os : Obj} {xs : List V} {H : Hp} (h : Seen K a os xs H) : H b = none ∨ (b = a ∧ H b = some (.frz os (.lst xs))) := by
  rcases h with ⟨_, rfl⟩ | ⟨_, rfl⟩
  · exact .inl rfl
  · by_cases e : b = a
    · exact .inr ⟨e, if_pos e⟩
    · exact .inl (if_neg e)
section
variable {P : Program} {w : World} {K : PySem.W.Frag} {mg mb : Str → Option Value} {fa a : Addr} {s₁ : Shared} {vs : List Value} {ns : List Int}
theorem env_top {H : Hp} (SH : Seen K a { cls := .type "list", data := .seq vs.toArray } (ns.map V.int) H) (KX : K.In s₁.heap) (hns : s₁.heap.Ns mainGlobals mg) (hb : s₁.heap.Ns builtinsNs mb) (hbb : ∀ x : Str, x ≠ "__name__" → mb x = bootBuiltins x) (hlim : s₁.heap.NoLimit) (hg : s₁.gens = #[])
    (ha : s₁.heap.get? a = some { cls := .type "list", data := .seq vs.toArray }) (hi : IntsAre vs ns) (hl : ns.length ≤ sizeLine) : Env0 P w K mg (hidT s₁.heap H) callerA [] s₁ H := by
  have ns_in : ∀ {b : Addr} {q : Str → Option Value}, s₁.heap.Ns b q → (hidT s₁.heap H).Ns b q := fun {b q} ⟨o, es, ep, e, d, r⟩ => ⟨o, es, ep, hidT_get e (SH.off (.inl fun z => by
    rw [z, ha] at e
    cases e
    exact nomatch (show Data.seq vs.toArray _ = Data.dict es ep from d))), d, r⟩
  refine ⟨rfl, ⟨fun b o e => hidT_get (KX b o e) (SH.off (.inr (by rw [e]; rfl))), ns_in hns, ⟨mb, ns_in hb, hbb⟩, hlim.elim fun mc h => ⟨mc, ns_in h.1, h.2⟩⟩, fun b o e => of_hidT e, Nat.le_of_eq (hidT_size _ _), trivial, fun b z => (by cases z), fun b u z => ?_, .of_eq hg⟩
  rcases SH.only (b := b) with q | ⟨rfl, q⟩
  · rw [q] at z
    cases z
  · rw [q] at z
    cases z
    exact ⟨ha, by rw [List.length_map]; exact hl, vs, _, vals_ints hi, ha⟩
theorem sq_top {H : Hp} (SH : Seen K a { cls := .type "list", data := .seq vs.toArray } (ns.map V.int) H) (KX : K.In s₁.heap)
    (ha : s₁.heap.get? a = some { cls := .type "list", data := .seq vs.toArray }) (hi : IntsAre vs ns) (hl : ns.length ≤ sizeLine) : SqL K H a (ns.map V.int) := by
  rcases SH with ⟨hk, rfl⟩ | ⟨_, rfl⟩
  · obtain ⟨o, e⟩ := Option.isSome_iff_exists.mp hk
    have e2 := KX a o e
    rw [ha] at e2
    cases e2
    exact .inr ⟨_, _, _, e, rfl, rfl, rfl, by rw [List.size_toArray, hi.length]; exact hl, by simpa using vals_ints hi⟩
  · exact .inl (.inr ⟨_, if_pos rfl⟩)
/-- True, and the heap as it stood -/
theorem end_top {H : Hp} (SH : Seen K a { cls := .type "list", data := .seq vs.toArray } (ns.map V.int) H) (hok : HOk P w H s₁.heap) {r : Result} {s' : Shared} (h : CR CX0 [] P w H s₁ (fun v _ => v = .bl true) E0 r s') :
    r = .ok (.ret (.bool true)) ∧ OldK s₁.heap s'.heap ∧ s'.os = s₁.os ∧ AllBare s'.gens := by
  cases r with
  | error e => exact h.elim
  | ok fl =>
    cases fl with
    | next => exact h.elim
    | brk => exact h.elim
    | cont => exact h.elim
    | ret u =>
      obtain ⟨v, H', eo, eb, un, hok', rv, rfl⟩ := h
      cases rv
      refine ⟨rfl, OldK.of_keep fun b o e => ?_, eo, eb⟩
      rcases SH.only (b := b) with q | ⟨rfl, q⟩
      · exact un.keep b o e q (by simp [frs]) (by simp)
      · have g1 := (hok b _ q).1
        have g2 := (hok' b _ (un.frzs b _ _ q)).1
        rw [e] at g1
        cases g1
        exact g2
end
end WZ
namespace WZ
open PySem PySem.Spec PyProof.Rows L2
/-! what the top has left -/
structure Facts (K : PySem.W.Frag) (mg : Str → Option Value) : Prop where
  d16 : DefAt K mg "is_integer" 16 ["value", "least", "most"]
  d17 : DefAt K mg "is_word" 17 ["value", "words"]
  d18 : DefAt K mg "are_kinds" 18 ["value"]
  d19 : DefAt K mg "are_steps" 19 ["value"]
  d20 : DefAt K mg "wrong_place" 20 ["thing"]
  d21 : DefAt K mg "need_way" 21 ["thing"]
  d22 : DefAt K mg "steps_in" 22 ["way", "kind"]
  d25 : DefAt K mg "first_in" 25 ["way"]
  d26 : DefAt K mg "grown" 26 ["ages", "gap", "window"]
  d27 : DefAt K mg "came" 27 ["way", "begun", "ages", "kind"]
  d28 : DefAt K mg "lesser" 28 ["one", "other"]
  d29 : DefAt K mg "behind_in" 29 ["way", "standing", "event"]
  d30 : DefAt K mg "letters_to" 30 ["window"]
  d31 : DefAt K mg "all_in" 31 ["way"]
  d32 : DefAt K mg "classes_of" 32 ["rows", "marks"]
  d33 : DefAt K mg "size" 33 ["way"]
  d35 : DefAt K mg "_law_begun" 35 ["_law_script", "_law_k"]
  d36 : DefAt K mg "_law_draw" 36 ["_law_m", "_law_many"]
  d37 : DefAt K mg "_law_of" 37 ["_law_m", "_law_some_here"]
  d38 : DefAt K mg "_law_some" 38 ["_law_m", "_law_most", "_law_share"]
  d39 : DefAt K mg "_law_way" 39 ["_law_m", "_law_most", "_law_window"]
  d40 : DefAt K mg "_law_is_of" 40 ["_law_way_here", "_law_kind"]
  d41 : DefAt K mg "_law_first" 41 ["_law_way_here"]
  d42 : DefAt K mg "_law_later" 42 ["_law_way_here", "_law_kept", "_law_event"]
  d43 : DefAt K mg "_law_events" 43 ["_law_window"]
  d44 : DefAt K mg "_law_all" 44 ["_law_way_here", "_law_most"]
  d45 : DefAt K mg "_law_classes" 45 ["_law_found"]
  b_isinstance : mg "isinstance" = none
  b_int : mg "int" = none
  b_bool : mg "bool" = none
  b_str : mg "str" = none
  b_tuple : mg "tuple" = none
  b_all : mg "all" = none
  b_zip : mg "zip" = none
  b_len : mg "len" = none
  b_enumerate : mg "enumerate" = none
  b_min : mg "min" = none
  b_max : mg "max" = none
  b_range : mg "range" = none
  b_list : mg "list" = none
  b_set : mg "set" = none
  b_sorted : mg "sorted" = none
  b_dict : mg "dict" = none
  b_repr : mg "repr" = none
  c_LOOSE : CStr mg "LOOSE" "loose"
  c_AMONG : CStr mg "AMONG" "among"
  c_STRICT : CStr mg "STRICT" "strict"
  c_ANY : CStr mg "ANY" "any"
  c_WHOLE : CStr mg "WHOLE" "whole"
  c_EACH : CStr mg "EACH" "each"
  c_ALL : CStr mg "ALL" "all"
  c_FIRST : CStr mg "FIRST" "first"
  c_MOST_KIND : CInt mg "MOST_KIND" 4
  c_MOST_STEPS : CInt mg "MOST_STEPS" 4
  c_MOST_WINDOW : CInt mg "MOST_WINDOW" 8
  c_MOST_PAIRS : CInt mg "MOST_PAIRS" 5000
theorem def_at {K : PySem.W.Frag} {h : Heap} {mg : Str → Option Value} {x : Str} {i : Nat} {ps : List Str} {f : Addr} {oc : Value} {od an : Option Addr} {osl : Array (Option Value)} {kV doc pm cdv ct : Value} (X : K.In h) (G : h.Ns mainGlobals mg)
    (a : PySem.W.nsIn K mainGlobals x = some (some (.ref f))) (lk : K.lookup f = some ⟨oc, od, .func (PySem.W.fnOf x x (defArgs (topS i)) (defBody (topS i)) (defScope (topS i)) .none kV doc pm an cdv ct), osl⟩) (c : PySem.W.codeIn K cdv x = true) (k : PySem.W.keepIn K (.ref f) = true)
    (b : ∀ (kV doc pm : Value) (an : Option Addr) (cdv ct : Value) (us : List Value), us.length = ps.length → bindArgs (PySem.W.fnOf x x (defArgs (topS i)) (defBody (topS i)) (defScope (topS i)) .none kV doc pm an cdv ct) ⟨us, []⟩ = pure (ps.zip us)) : DefAt K mg x i ps :=
  ⟨f, _, fun_mk lk c k, PySem.W.mg_of X G a, (fun_mk lk c k).binds b⟩
theorem facts_mk {K : PySem.W.Frag} {h : Heap} {mg : Str → Option Value} {fa : Addr} (X : K.In h) (G : h.Ns mainGlobals mg) (hfa : mg "law" = some (.ref fa))
    {f16 : Addr} {oc16 kV16 dc16 pm16 cd16 ct16 : Value} {od16 an16 : Option Addr} {sl16 : Array (Option Value)}
    {f17 : Addr} {oc17 kV17 dc17 pm17 cd17 ct17 : Value} {od17 an17 : Option Addr} {sl17 : Array (Option Value)}
    {f18 : Addr} {oc18 kV18 dc18 pm18 cd18 ct18 : Value} {od18 an18 : Option Addr} {sl18 : Array (Option Value)}
    {f19 : Addr} {oc19 kV19 dc19 pm19 cd19 ct19 : Value} {od19 an19 : Option Addr} {sl19 : Array (Option Value)}
    {f20 : Addr} {oc20 kV20 dc20 pm20 cd20 ct20 : Value} {od20 an20 : Option Addr} {sl20 : Array (Option Value)}
    {f21 : Addr} {oc21 kV21 dc21 pm21 cd21 ct21 : Value} {od21 an21 : Option Addr} {sl21 : Array (Option Value)}
    {f22 : Addr} {oc22 kV22 dc22 pm22 cd22 ct22 : Value} {od22 an22 : Option Addr} {sl22 : Array (Option Value)}
    {f25 : Addr} {oc25 kV25 dc25 pm25 cd25 ct25 : Value} {od25 an25 : Option Addr} {sl25 : Array (Option Value)}
    {f26 : Addr} {oc26 kV26 dc26 pm26 cd26 ct26 : Value} {od26 an26 : Option Addr} {sl26 : Array (Option Value)}
    {f27 : Addr} {oc27 kV27 dc27 pm27 cd27 ct27 : Value} {od27 an27 : Option Addr} {sl27 : Array (Option Value)}
    {f28 : Addr} {oc28 kV28 dc28 pm28 cd28 ct28 : Value} {od28 an28 : Option Addr} {sl28 : Array (Option Value)}
    {f29 : Addr} {oc29 kV29 dc29 pm29 cd29 ct29 : Value} {od29 an29 : Option Addr} {sl29 : Array (Option Value)}
    {f30 : Addr} {oc30 kV30 dc30 pm30 cd30 ct30 : Value} {od30 an30 : Option Addr} {sl30 : Array (Option Value)}
    {f31 : Addr} {oc31 kV31 dc31 pm31 cd31 ct31 : Value} {od31 an31 : Option Addr} {sl31 : Array (Option Value)}
    {f32 : Addr} {oc32 kV32 dc32 pm32 cd32 ct32 : Value} {od32 an32 : Option Addr} {sl32 : Array (Option Value)}
    {f33 : Addr} {oc33 kV33 dc33 pm33 cd33 ct33 : Value} {od33 an33 : Option Addr} {sl33 : Array (Option Value)}
    {f35 : Addr} {oc35 kV35 dc35 pm35 cd35 ct35 : Value} {od35 an35 : Option Addr} {sl35 : Array (Option Value)}
    {f36 : Addr} {oc36 kV36 dc36 pm36 cd36 ct36 : Value} {od36 an36 : Option Addr} {sl36 : Array (Option Value)}
    {f37 : Addr} {oc37 kV37 dc37 pm37 cd37 ct37 : Value} {od37 an37 : Option Addr} {sl37 : Array (Option Value)}
    {f38 : Addr} {oc38 kV38 dc38 pm38 cd38 ct38 : Value} {od38 an38 : Option Addr} {sl38 : Array (Option Value)}
    {f39 : Addr} {oc39 kV39 dc39 pm39 cd39 ct39 : Value} {od39 an39 : Option Addr} {sl39 : Array (Option Value)}
    {f40 : Addr} {oc40 kV40 dc40 pm40 cd40 ct40 : Value} {od40 an40 : Option Addr} {sl40 : Array (Option Value)}
    {f41 : Addr} {oc41 kV41 dc41 pm41 cd41 ct41 : Value} {od41 an41 : Option Addr} {sl41 : Array (Option Value)}
    {f42 : Addr} {oc42 kV42 dc42 pm42 cd42 ct42 : Value} {od42 an42 : Option Addr} {sl42 : Array (Option Value)}
    {f43 : Addr} {oc43 kV43 dc43 pm43 cd43 ct43 : Value} {od43 an43 : Option Addr} {sl43 : Array (Option Value)}
    {f44 : Addr} {oc44 kV44 dc44 pm44 cd44 ct44 : Value} {od44 an44 : Option Addr} {sl44 : Array (Option Value)}
    {f45 : Addr} {oc45 kV45 dc45 pm45 cd45 ct45 : Value} {od45 an45 : Option Addr} {sl45 : Array (Option Value)}
    {f46 : Addr} {oc46 kV46 dc46 pm46 cd46 ct46 : Value} {od46 an46 : Option Addr} {sl46 : Array (Option Value)}
    {t_LOOSE : Tok}
    {t_AMONG : Tok}
    {t_STRICT : Tok}
    {t_ANY : Tok}
    {t_WHOLE : Tok}
    {t_EACH : Tok}
    {t_ALL : Tok}
    {t_FIRST : Tok}
    {t_MOST_KIND : Tok}
    {t_MOST_STEPS : Tok}
    {t_MOST_WINDOW : Tok}
    {t_MOST_PAIRS : Tok}
    (a16 : PySem.W.nsIn K mainGlobals "is_integer" = some (some (.ref f16))) (l16 : K.lookup f16 = some ⟨oc16, od16, .func (PySem.W.fnOf "is_integer" "is_integer" (defArgs (topS 16)) (defBody (topS 16)) (defScope (topS 16)) .none kV16 dc16 pm16 an16 cd16 ct16), sl16⟩) (q16 : PySem.W.codeIn K cd16 "is_integer" = true) (k16 : PySem.W.keepIn K (.ref f16) = true)
    (a17 : PySem.W.nsIn K mainGlobals "is_word" = some (some (.ref f17))) (l17 : K.lookup f17 = some ⟨oc17, od17, .func (PySem.W.fnOf "is_word" "is_word" (defArgs (topS 17)) (defBody (topS 17)) (defScope (topS 17)) .none kV17 dc17 pm17 an17 cd17 ct17), sl17⟩) (q17 : PySem.W.codeIn K cd17 "is_word" = true) (k17 : PySem.W.keepIn K (.ref f17) = true)
    (a18 : PySem.W.nsIn K mainGlobals "are_kinds" = some (some (.ref f18))) (l18 : K.lookup f18 = some ⟨oc18, od18, .func (PySem.W.fnOf "are_kinds" "are_kinds" (defArgs (topS 18)) (defBody (topS 18)) (defScope (topS 18)) .none kV18 dc18 pm18 an18 cd18 ct18), sl18⟩) (q18 : PySem.W.codeIn K cd18 "are_kinds" = true) (k18 : PySem.W.keepIn K (.ref f18) = true)
    (a19 : PySem.W.nsIn K mainGlobals "are_steps" = some (some (.ref f19))) (l19 : K.lookup f19 = some ⟨oc19, od19, .func (PySem.W.fnOf "are_steps" "are_steps" (defArgs (topS 19)) (defBody (topS 19)) (defScope (topS 19)) .none kV19 dc19 pm19 an19 cd19 ct19), sl19⟩) (q19 : PySem.W.codeIn K cd19 "are_steps" = true) (k19 : PySem.W.keepIn K (.ref f19) = true)
    (a20 : PySem.W.nsIn K mainGlobals "wrong_place" = some (some (.ref f20))) (l20 : K.lookup f20 = some ⟨oc20, od20, .func (PySem.W.fnOf "wrong_place" "wrong_place" (defArgs (topS 20)) (defBody (topS 20)) (defScope (topS 20)) .none kV20 dc20 pm20 an20 cd20 ct20), sl20⟩) (q20 : PySem.W.codeIn K cd20 "wrong_place" = true) (k20 : PySem.W.keepIn K (.ref f20) = true)
    (a21 : PySem.W.nsIn K mainGlobals "need_way" = some (some (.ref f21))) (l21 : K.lookup f21 = some ⟨oc21, od21, .func (PySem.W.fnOf "need_way" "need_way" (defArgs (topS 21)) (defBody (topS 21)) (defScope (topS 21)) .none kV21 dc21 pm21 an21 cd21 ct21), sl21⟩) (q21 : PySem.W.codeIn K cd21 "need_way" = true) (k21 : PySem.W.keepIn K (.ref f21) = true)
    (a22 : PySem.W.nsIn K mainGlobals "steps_in" = some (some (.ref f22))) (l22 : K.lookup f22 = some ⟨oc22, od22, .func (PySem.W.fnOf "steps_in" "steps_in" (defArgs (topS 22)) (defBody (topS 22)) (defScope (topS 22)) .none kV22 dc22 pm22 an22 cd22 ct22), sl22⟩) (q22 : PySem.W.codeIn K cd22 "steps_in" = true) (k22 : PySem.W.keepIn K (.ref f22) = true)
    (a25 : PySem.W.nsIn K mainGlobals "first_in" = some (some (.ref f25))) (l25 : K.lookup f25 = some ⟨oc25, od25, .func (PySem.W.fnOf "first_in" "first_in" (defArgs (topS 25)) (defBody (topS 25)) (defScope (topS 25)) .none kV25 dc25 pm25 an25 cd25 ct25), sl25⟩) (q25 : PySem.W.codeIn K cd25 "first_in" = true) (k25 : PySem.W.keepIn K (.ref f25) = true)
    (a26 : PySem.W.nsIn K mainGlobals "grown" = some (some (.ref f26))) (l26 : K.lookup f26 = some ⟨oc26, od26, .func (PySem.W.fnOf "grown" "grown" (defArgs (topS 26)) (defBody (topS 26)) (defScope (topS 26)) .none kV26 dc26 pm26 an26 cd26 ct26), sl26⟩) (q26 : PySem.W.codeIn K cd26 "grown" = true) (k26 : PySem.W.keepIn K (.ref f26) = true)
    (a27 : PySem.W.nsIn K mainGlobals "came" = some (some (.ref f27))) (l27 : K.lookup f27 = some ⟨oc27, od27, .func (PySem.W.fnOf "came" "came" (defArgs (topS 27)) (defBody (topS 27)) (defScope (topS 27)) .none kV27 dc27 pm27 an27 cd27 ct27), sl27⟩) (q27 : PySem.W.codeIn K cd27 "came" = true) (k27 : PySem.W.keepIn K (.ref f27) = true)
    (a28 : PySem.W.nsIn K mainGlobals "lesser" = some (some (.ref f28))) (l28 : K.lookup f28 = some ⟨oc28, od28, .func (PySem.W.fnOf "lesser" "lesser" (defArgs (topS 28)) (defBody (topS 28)) (defScope (topS 28)) .none kV28 dc28 pm28 an28 cd28 ct28), sl28⟩) (q28 : PySem.W.codeIn K cd28 "lesser" = true) (k28 : PySem.W.keepIn K (.ref f28) = true)
    (a29 : PySem.W.nsIn K mainGlobals "behind_in" = some (some (.ref f29))) (l29 : K.lookup f29 = some ⟨oc29, od29, .func (PySem.W.fnOf "behind_in" "behind_in" (defArgs (topS 29)) (defBody (topS 29)) (defScope (topS 29)) .none kV29 dc29 pm29 an29 cd29 ct29), sl29⟩) (q29 : PySem.W.codeIn K cd29 "behind_in" = true) (k29 : PySem.W.keepIn K (.ref f29) = true)
    (a30 : PySem.W.nsIn K mainGlobals "letters_to" = some (some (.ref f30))) (l30 : K.lookup f30 = some ⟨oc30, od30, .func (PySem.W.fnOf "letters_to" "letters_to" (defArgs (topS 30)) (defBody (topS 30)) (defScope (topS 30)) .none kV30 dc30 pm30 an30 cd30 ct30), sl30⟩) (q30 : PySem.W.codeIn K cd30 "letters_to" = true) (k30 : PySem.W.keepIn K (.ref f30) = true)
    (a31 : PySem.W.nsIn K mainGlobals "all_in" = some (some (.ref f31))) (l31 : K.lookup f31 = some ⟨oc31, od31, .func (PySem.W.fnOf "all_in" "all_in" (defArgs (topS 31)) (defBody (topS 31)) (defScope (topS 31)) .none kV31 dc31 pm31 an31 cd31 ct31), sl31⟩) (q31 : PySem.W.codeIn K cd31 "all_in" = true) (k31 : PySem.W.keepIn K (.ref f31) = true)
    (a32 : PySem.W.nsIn K mainGlobals "classes_of" = some (some (.ref f32))) (l32 : K.lookup f32 = some ⟨oc32, od32, .func (PySem.W.fnOf "classes_of" "classes_of" (defArgs (topS 32)) (defBody (topS 32)) (defScope (topS 32)) .none kV32 dc32 pm32 an32 cd32 ct32), sl32⟩) (q32 : PySem.W.codeIn K cd32 "classes_of" = true) (k32 : PySem.W.keepIn K (.ref f32) = true)
    (a33 : PySem.W.nsIn K mainGlobals "size" = some (some (.ref f33))) (l33 : K.lookup f33 = some ⟨oc33, od33, .func (PySem.W.fnOf "size" "size" (defArgs (topS 33)) (defBody (topS 33)) (defScope (topS 33)) .none kV33 dc33 pm33 an33 cd33 ct33), sl33⟩) (q33 : PySem.W.codeIn K cd33 "size" = true) (k33 : PySem.W.keepIn K (.ref f33) = true)
    (a35 : PySem.W.nsIn K mainGlobals "_law_begun" = some (some (.ref f35))) (l35 : K.lookup f35 = some ⟨oc35, od35, .func (PySem.W.fnOf "_law_begun" "_law_begun" (defArgs (topS 35)) (defBody (topS 35)) (defScope (topS 35)) .none kV35 dc35 pm35 an35 cd35 ct35), sl35⟩) (q35 : PySem.W.codeIn K cd35 "_law_begun" = true) (k35 : PySem.W.keepIn K (.ref f35) = true)
    (a36 : PySem.W.nsIn K mainGlobals "_law_draw" = some (some (.ref f36))) (l36 : K.lookup f36 = some ⟨oc36, od36, .func (PySem.W.fnOf "_law_draw" "_law_draw" (defArgs (topS 36)) (defBody (topS 36)) (defScope (topS 36)) .none kV36 dc36 pm36 an36 cd36 ct36), sl36⟩) (q36 : PySem.W.codeIn K cd36 "_law_draw" = true) (k36 : PySem.W.keepIn K (.ref f36) = true)
    (a37 : PySem.W.nsIn K mainGlobals "_law_of" = some (some (.ref f37))) (l37 : K.lookup f37 = some ⟨oc37, od37, .func (PySem.W.fnOf "_law_of" "_law_of" (defArgs (topS 37)) (defBody (topS 37)) (defScope (topS 37)) .none kV37 dc37 pm37 an37 cd37 ct37), sl37⟩) (q37 : PySem.W.codeIn K cd37 "_law_of" = true) (k37 : PySem.W.keepIn K (.ref f37) = true)
    (a38 : PySem.W.nsIn K mainGlobals "_law_some" = some (some (.ref f38))) (l38 : K.lookup f38 = some ⟨oc38, od38, .func (PySem.W.fnOf "_law_some" "_law_some" (defArgs (topS 38)) (defBody (topS 38)) (defScope (topS 38)) .none kV38 dc38 pm38 an38 cd38 ct38), sl38⟩) (q38 : PySem.W.codeIn K cd38 "_law_some" = true) (k38 : PySem.W.keepIn K (.ref f38) = true)
    (a39 : PySem.W.nsIn K mainGlobals "_law_way" = some (some (.ref f39))) (l39 : K.lookup f39 = some ⟨oc39, od39, .func (PySem.W.fnOf "_law_way" "_law_way" (defArgs (topS 39)) (defBody (topS 39)) (defScope (topS 39)) .none kV39 dc39 pm39 an39 cd39 ct39), sl39⟩) (q39 : PySem.W.codeIn K cd39 "_law_way" = true) (k39 : PySem.W.keepIn K (.ref f39) = true)
    (a40 : PySem.W.nsIn K mainGlobals "_law_is_of" = some (some (.ref f40))) (l40 : K.lookup f40 = some ⟨oc40, od40, .func (PySem.W.fnOf "_law_is_of" "_law_is_of" (defArgs (topS 40)) (defBody (topS 40)) (defScope (topS 40)) .none kV40 dc40 pm40 an40 cd40 ct40), sl40⟩) (q40 : PySem.W.codeIn K cd40 "_law_is_of" = true) (k40 : PySem.W.keepIn K (.ref f40) = true)
    (a41 : PySem.W.nsIn K mainGlobals "_law_first" = some (some (.ref f41))) (l41 : K.lookup f41 = some ⟨oc41, od41, .func (PySem.W.fnOf "_law_first" "_law_first" (defArgs (topS 41)) (defBody (topS 41)) (defScope (topS 41)) .none kV41 dc41 pm41 an41 cd41 ct41), sl41⟩) (q41 : PySem.W.codeIn K cd41 "_law_first" = true) (k41 : PySem.W.keepIn K (.ref f41) = true)
    (a42 : PySem.W.nsIn K mainGlobals "_law_later" = some (some (.ref f42))) (l42 : K.lookup f42 = some ⟨oc42, od42, .func (PySem.W.fnOf "_law_later" "_law_later" (defArgs (topS 42)) (defBody (topS 42)) (defScope (topS 42)) .none kV42 dc42 pm42 an42 cd42 ct42), sl42⟩) (q42 : PySem.W.codeIn K cd42 "_law_later" = true) (k42 : PySem.W.keepIn K (.ref f42) = true)
    (a43 : PySem.W.nsIn K mainGlobals "_law_events" = some (some (.ref f43))) (l43 : K.lookup f43 = some ⟨oc43, od43, .func (PySem.W.fnOf "_law_events" "_law_events" (defArgs (topS 43)) (defBody (topS 43)) (defScope (topS 43)) .none kV43 dc43 pm43 an43 cd43 ct43), sl43⟩) (q43 : PySem.W.codeIn K cd43 "_law_events" = true) (k43 : PySem.W.keepIn K (.ref f43) = true)
    (a44 : PySem.W.nsIn K mainGlobals "_law_all" = some (some (.ref f44))) (l44 : K.lookup f44 = some ⟨oc44, od44, .func (PySem.W.fnOf "_law_all" "_law_all" (defArgs (topS 44)) (defBody (topS 44)) (defScope (topS 44)) .none kV44 dc44 pm44 an44 cd44 ct44), sl44⟩) (q44 : PySem.W.codeIn K cd44 "_law_all" = true) (k44 : PySem.W.keepIn K (.ref f44) = true)
    (a45 : PySem.W.nsIn K mainGlobals "_law_classes" = some (some (.ref f45))) (l45 : K.lookup f45 = some ⟨oc45, od45, .func (PySem.W.fnOf "_law_classes" "_law_classes" (defArgs (topS 45)) (defBody (topS 45)) (defScope (topS 45)) .none kV45 dc45 pm45 an45 cd45 ct45), sl45⟩) (q45 : PySem.W.codeIn K cd45 "_law_classes" = true) (k45 : PySem.W.keepIn K (.ref f45) = true)
    (a46 : PySem.W.nsIn K mainGlobals "law" = some (some (.ref f46))) (l46 : K.lookup f46 = some ⟨oc46, od46, .func (PySem.W.fnOf "law" "law" (defArgs (topS 46)) (defBody (topS 46)) (defScope (topS 46)) .none kV46 dc46 pm46 an46 cd46 ct46), sl46⟩) (q46 : PySem.W.codeIn K cd46 "law" = true) (k46 : PySem.W.keepIn K (.ref f46) = true)
    (z_isinstance : PySem.W.nsIn K mainGlobals "isinstance" = some none)
    (z_int : PySem.W.nsIn K mainGlobals "int" = some none)
    (z_bool : PySem.W.nsIn K mainGlobals "bool" = some none)
    (z_str : PySem.W.nsIn K mainGlobals "str" = some none)
    (z_tuple : PySem.W.nsIn K mainGlobals "tuple" = some none)
    (z_all : PySem.W.nsIn K mainGlobals "all" = some none)
    (z_zip : PySem.W.nsIn K mainGlobals "zip" = some none)
    (z_len : PySem.W.nsIn K mainGlobals "len" = some none)
    (z_enumerate : PySem.W.nsIn K mainGlobals "enumerate" = some none)
    (z_min : PySem.W.nsIn K mainGlobals "min" = some none)
    (z_max : PySem.W.nsIn K mainGlobals "max" = some none)
    (z_range : PySem.W.nsIn K mainGlobals "range" = some none)
    (z_list : PySem.W.nsIn K mainGlobals "list" = some none)
    (z_set : PySem.W.nsIn K mainGlobals "set" = some none)
    (z_sorted : PySem.W.nsIn K mainGlobals "sorted" = some none)
    (z_dict : PySem.W.nsIn K mainGlobals "dict" = some none)
    (z_repr : PySem.W.nsIn K mainGlobals "repr" = some none)
    (y_LOOSE : PySem.W.nsIn K mainGlobals "LOOSE" = some (some (.str "loose" t_LOOSE)))
    (y_AMONG : PySem.W.nsIn K mainGlobals "AMONG" = some (some (.str "among" t_AMONG)))
    (y_STRICT : PySem.W.nsIn K mainGlobals "STRICT" = some (some (.str "strict" t_STRICT)))
    (y_ANY : PySem.W.nsIn K mainGlobals "ANY" = some (some (.str "any" t_ANY)))
    (y_WHOLE : PySem.W.nsIn K mainGlobals "WHOLE" = some (some (.str "whole" t_WHOLE)))
    (y_EACH : PySem.W.nsIn K mainGlobals "EACH" = some (some (.str "each" t_EACH)))
    (y_ALL : PySem.W.nsIn K mainGlobals "ALL" = some (some (.str "all" t_ALL)))
    (y_FIRST : PySem.W.nsIn K mainGlobals "FIRST" = some (some (.str "first" t_FIRST)))
    (y_MOST_KIND : PySem.W.nsIn K mainGlobals "MOST_KIND" = some (some (.int 4 t_MOST_KIND)))
    (y_MOST_STEPS : PySem.W.nsIn K mainGlobals "MOST_STEPS" = some (some (.int 4 t_MOST_STEPS)))
    (y_MOST_WINDOW : PySem.W.nsIn K mainGlobals "MOST_WINDOW" = some (some (.int 8 t_MOST_WINDOW)))
    (y_MOST_PAIRS : PySem.W.nsIn K mainGlobals "MOST_PAIRS" = some (some (.int 5000 t_MOST_PAIRS))) :
    (∃ fd, Fun K "law" "law" (topS 46) fa fd ∧ Binds K fd ["_law_script"] []) ∧ Facts K mg := by
  have e := hfa.symm.trans (PySem.W.mg_of X G a46)
  cases e
  refine ⟨⟨_, fun_mk l46 q46 k46, (fun_mk l46 q46 k46).binds fun _ _ _ _ _ _ us hl => match us, hl with | [_], _ => rfl⟩, ?_⟩
  exact {
    d16 := def_at X G a16 l16 q16 k16 fun _ _ _ _ _ _ us hl => match us, hl with | [_, _, _], _ => rfl
    d17 := def_at X G a17 l17 q17 k17 fun _ _ _ _ _ _ us hl => match us, hl with | [_, _], _ => rfl
    d18 := def_at X G a18 l18 q18 k18 fun _ _ _ _ _ _ us hl => match us, hl with | [_], _ => rfl
    d19 := def_at X G a19 l19 q19 k19 fun _ _ _ _ _ _ us hl => match us, hl with | [_], _ => rfl
    d20 := def_at X G a20 l20 q20 k20 fun _ _ _ _ _ _ us hl => match us, hl with | [_], _ => rfl
    d21 := def_at X G a21 l21 q21 k21 fun _ _ _ _ _ _ us hl => match us, hl with | [_], _ => rfl
    d22 := def_at X G a22 l22 q22 k22 fun _ _ _ _ _ _ us hl => match us, hl with | [_, _], _ => rfl
    d25 := def_at X G a25 l25 q25 k25 fun _ _ _ _ _ _ us hl => match us, hl with | [_], _ => rfl
    d26 := def_at X G a26 l26 q26 k26 fun _ _ _ _ _ _ us hl => match us, hl with | [_, _, _], _ => rfl
    d27 := def_at X G a27 l27 q27 k27 fun _ _ _ _ _ _ us hl => match us, hl with | [_, _, _, _], _ => rfl
    d28 := def_at X G a28 l28 q28 k28 fun _ _ _ _ _ _ us hl => match us, hl with | [_, _], _ => rfl
    d29 := def_at X G a29 l29 q29 k29 fun _ _ _ _ _ _ us hl => match us, hl with | [_, _, _], _ => rfl
    d30 := def_at X G a30 l30 q30 k30 fun _ _ _ _ _ _ us hl => match us, hl with | [_], _ => rfl
    d31 := def_at X G a31 l31 q31 k31 fun _ _ _ _ _ _ us hl => match us, hl with | [_], _ => rfl
    d32 := def_at X G a32 l32 q32 k32 fun _ _ _ _ _ _ us hl => match us, hl with | [_, _], _ => rfl
    d33 := def_at X G a33 l33 q33 k33 fun _ _ _ _ _ _ us hl => match us, hl with | [_], _ => rfl
    d35 := def_at X G a35 l35 q35 k35 fun _ _ _ _ _ _ us hl => match us, hl with | [_, _], _ => rfl
    d36 := def_at X G a36 l36 q36 k36 fun _ _ _ _ _ _ us hl => match us, hl with | [_, _], _ => rfl
    d37 := def_at X G a37 l37 q37 k37 fun _ _ _ _ _ _ us hl => match us, hl with | [_, _], _ => rfl
    d38 := def_at X G a38 l38 q38 k38 fun _ _ _ _ _ _ us hl => match us, hl with | [_, _, _], _ => rfl
    d39 := def_at X G a39 l39 q39 k39 fun _ _ _ _ _ _ us hl => match us, hl with | [_, _, _], _ => rfl
    d40 := def_at X G a40 l40 q40 k40 fun _ _ _ _ _ _ us hl => match us, hl with | [_, _], _ => rfl
    d41 := def_at X G a41 l41 q41 k41 fun _ _ _ _ _ _ us hl => match us, hl with | [_], _ => rfl
    d42 := def_at X G a42 l42 q42 k42 fun _ _ _ _ _ _ us hl => match us, hl with | [_, _, _], _ => rfl
    d43 := def_at X G a43 l43 q43 k43 fun _ _ _ _ _ _ us hl => match us, hl with | [_], _ => rfl
    d44 := def_at X G a44 l44 q44 k44 fun _ _ _ _ _ _ us hl => match us, hl with | [_, _], _ => rfl
    d45 := def_at X G a45 l45 q45 k45 fun _ _ _ _ _ _ us hl => match us, hl with | [_], _ => rfl
    b_isinstance := PySem.W.mg_none_of X G z_isinstance
    b_int := PySem.W.mg_none_of X G z_int
    b_bool := PySem.W.mg_none_of X G z_bool
    b_str := PySem.W.mg_none_of X G z_str
    b_tuple := PySem.W.mg_none_of X G z_tuple
    b_all := PySem.W.mg_none_of X G z_all
    b_zip := PySem.W.mg_none_of X G z_zip
    b_len := PySem.W.mg_none_of X G z_len
    b_enumerate := PySem.W.mg_none_of X G z_enumerate
    b_min := PySem.W.mg_none_of X G z_min
    b_max := PySem.W.mg_none_of X G z_max
    b_range := PySem.W.mg_none_of X G z_range
    b_list := PySem.W.mg_none_of X G z_list
    b_set := PySem.W.mg_none_of X G z_set
    b_sorted := PySem.W.mg_none_of X G z_sorted
    b_dict := PySem.W.mg_none_of X G z_dict
    b_repr := PySem.W.mg_none_of X G z_repr
    c_LOOSE := ⟨t_LOOSE, PySem.W.mg_of X G y_LOOSE⟩
    c_AMONG := ⟨t_AMONG, PySem.W.mg_of X G y_AMONG⟩
    c_STRICT := ⟨t_STRICT, PySem.W.mg_of X G y_STRICT⟩
    c_ANY := ⟨t_ANY, PySem.W.mg_of X G y_ANY⟩
    c_WHOLE := ⟨t_WHOLE, PySem.W.mg_of X G y_WHOLE⟩
    c_EACH := ⟨t_EACH, PySem.W.mg_of X G y_EACH⟩
    c_ALL := ⟨t_ALL, PySem.W.mg_of X G y_ALL⟩
    c_FIRST := ⟨t_FIRST, PySem.W.mg_of X G y_FIRST⟩
    c_MOST_KIND := ⟨t_MOST_KIND, PySem.W.mg_of X G y_MOST_KIND⟩
    c_MOST_STEPS := ⟨t_MOST_STEPS, PySem.W.mg_of X G y_MOST_STEPS⟩
    c_MOST_WINDOW := ⟨t_MOST_WINDOW, PySem.W.mg_of X G y_MOST_WINDOW⟩
    c_MOST_PAIRS := ⟨t_MOST_PAIRS, PySem.W.mg_of X G y_MOST_PAIRS⟩ }
section
variable {P : Program} {w : World} {K : PySem.W.Frag} {mg : Str → Option Value} {base : Heap}
theorem pr_isI (T : Facts K mg) : Prom P w K mg base 1 "is_integer" ["value", "least", "most"] (KV.spR RInt) := pr_is_integer T.d16 T.b_isinstance T.b_int T.b_bool
theorem pr_isW (T : Facts K mg) : Prom P w K mg base 1 "is_word" ["value", "words"] (KV.spR RWord) := pr_is_word T.d17 T.b_isinstance T.b_str
theorem pr_need (T : Facts K mg) : Prom P w K mg base 5 "need_way" ["thing"] (KV.spR RNeed) :=
  pr_need_way T.d21 (pr_wrong_place T.d20 (pr_are_steps T.d19 (pr_are_kinds T.d18 (pr_isI T) T.b_isinstance T.b_tuple T.b_all T.b_zip T.c_MOST_KIND) T.b_isinstance T.b_tuple T.b_all T.b_len T.c_MOST_STEPS) (pr_isW T) (pr_isI T) T.b_isinstance T.b_tuple T.b_len T.c_LOOSE T.c_AMONG T.c_STRICT T.c_ANY T.c_WHOLE T.c_EACH T.c_ALL T.c_FIRST T.c_MOST_WINDOW)
theorem pr_behind (T : Facts K mg) : Prom P w K mg base 3 "behind_in" ["way", "standing", "event"] (KV.spR RBehind) :=
  pr_behind_in T.d29 (pr_grown T.d26 T.b_tuple) (pr_steps_in T.d22 T.b_enumerate) (pr_came T.d27 (pr_steps_in T.d22 T.b_enumerate) T.b_len T.c_WHOLE T.c_FIRST) (pr_lesser T.d28 T.b_min) T.b_tuple T.b_enumerate T.b_max T.b_len T.b_zip T.c_LOOSE T.c_AMONG T.c_ANY
theorem pr_lets (T : Facts K mg) : Prom P w K mg base 1 "letters_to" ["window"] (KV.spN RLetters) := pr_letters_to T.d30 T.b_range T.c_MOST_KIND
theorem pr_sz (T : Facts K mg) : Prom P w K mg base 6 "size" ["way"] spSize :=
  pr_size T.d33 (pr_all_in T.d31 (pr_first_in T.d25 T.b_len) (pr_lets T) (pr_behind T) T.b_len T.b_list T.c_MOST_PAIRS) (pr_need T) (pr_lets T) (pr_behind T) (pr_classes_of T.d32 T.b_len) T.b_len
theorem pr_fnd (T : Facts K mg) : Prom P w K mg base 3 "_law_all" ["_law_way_here", "_law_most"] (spFound P w) :=
  pr_found T.d44 (pr_first0 T.d41) (pr_events T.d43 T.b_range) (pr_later T.d42 (pr_is_of T.d40 T.b_range T.b_len) T.b_tuple T.b_max T.b_len T.b_set T.b_sorted) T.b_len
theorem pr_drw (T : Facts K mg) : Prom P w K mg base 1 "_law_draw" ["_law_m", "_law_many"] spDraw := pr_draw T.d36 T.b_int T.b_len
theorem pr_wy (T : Facts K mg) : Prom P w K mg base 3 "_law_way" ["_law_m", "_law_most", "_law_window"] spWay :=
  pr_way T.d39 (pr_drw T) (pr_of T.d37 (pr_drw T) T.b_len) (pr_some T.d38 (pr_drw T) T.b_range T.b_tuple) T.b_range T.b_tuple
end
theorem room7 : Room 7 callerA := ⟨rfl, by decide, by decide⟩
theorem walk_mine {l : PySem.W.OpenLaw} {q : Program} {loose : List Str} {XP : (Str → Option Value) → Heap → Prop} {YP : World → Heap → Prop} {d : DefRec} {K : Params → PySem.W.Frag} (hn : l.most = some 63) (hdf : d.params.defaults = [])
    (hY : ∀ (w : World) (h : Heap), YP w h → (K w.params).In h)
    (F : ∀ (w : World) (mg : Str → Option Value) (fa : Addr) (h : Heap), (K w.params).In h → h.Ns mainGlobals mg → mg d.name = some (.ref fa) → (∃ fd, Fun (K w.params) "law" "law" (topS 46) fa fd ∧ Binds (K w.params) fd ["_law_script"] []) ∧ Facts (K w.params) mg) :
    PySem.W.WalkO q loose XP YP l.row.toRowW d [] (fun f vs => PySem.call f vs) := by
  refine Att.attach_call hn hdf fun w s₀ s₁ mg mb fa o pm cd doc a vs ns G Y ho hd hcd hmg hobj hints hlen hg => ?_
  have KX := hY w _ Y
  obtain ⟨⟨fd, hF, hb⟩, T⟩ := F w mg fa _ KX G.T.g hmg
  have hl : ns.length ≤ sizeLine := Nat.le_trans hlen (by decide)
  obtain ⟨H, SH⟩ := Seen.there (K w.params) a { cls := .type "list", data := .seq vs.toArray } (ns.map V.int)
  have e0 : Env0 l.prog w (K w.params) mg (hidT s₁.heap H) callerA [] s₁ H := env_top SH KX G.T.g G.T.b G.T.builtins G.T.nolimit hg hobj hints hl
  have hS := sq_top SH KX hobj hints hl
  have rd := run_outer (v := .ref a) (Q := fun v _ => v = .bl true) hF sc46 room7 e0 (hb s₁ [.ref a] KX rfl) rfl fun cdv => by
    obtain ⟨t, ht, hq⟩ := law_body (P := l.prog) (w := w) (base := hidT s₁.heap H) (f := fa) (pr_begun T.d35 T.b_int) (pr_wy T) (pr_fnd T) (pr_parts T.d45 T.b_dict T.b_list T.b_len T.b_set T.b_tuple T.b_sorted) (pr_sz T) T.b_range T.b_min T.b_len T.b_tuple T.b_sorted T.b_repr cdv callerA [] s₁ H [.ref a] (fun v _ => v = .bl true) E0 rfl (room7.deeper _) ⟨a, ns, rfl, hS, hlen, fun _ => rfl⟩
    exact ⟨t, ht.nox, hq⟩
  exact codeAny_mono rd fun r s' h => end_top SH e0.hok h
end WZ
open PySem PySem.W PyProof.Rows
set_option maxHeartbeats 0 in
theorem PySem.Challenge.cw_stepsbehind_k16_whole_sizes_holds : PySem.Challenge.rw_stepsbehind_k16_whole_sizes.Holds := by
  w_on; o_law; k_head; (case hw => w_witness2)
  k_fill
  refine WZ.walk_mine (l := PySem.Challenge.rw_stepsbehind_k16_whole_sizes) rfl rfl (fun w h Y => PySem.W.kIn_of Y) ?F
  case F =>
    intro w mg fa h KX G hmg
    refine' WZ.facts_mk KX G hmg ?a16 ?l16 ?q16 ?k16 ?a17 ?l17 ?q17 ?k17 ?a18 ?l18 ?q18 ?k18 ?a19 ?l19 ?q19 ?k19 ?a20 ?l20 ?q20 ?k20 ?a21 ?l21 ?q21 ?k21 ?a22 ?l22 ?q22 ?k22 ?a25 ?l25 ?q25 ?k25 ?a26 ?l26 ?q26 ?k26 ?a27 ?l27 ?q27 ?k27 ?a28 ?l28 ?q28 ?k28 ?a29 ?l29 ?q29 ?k29 ?a30 ?l30 ?q30 ?k30 ?a31 ?l31 ?q31 ?k31 ?a32 ?l32 ?q32 ?k32 ?a33 ?l33 ?q33 ?k33 ?a35 ?l35 ?q35 ?k35 ?a36 ?l36 ?q36 ?k36 ?a37 ?l37 ?q37 ?k37 ?a38 ?l38 ?q38 ?k38 ?a39 ?l39 ?q39 ?k39 ?a40 ?l40 ?q40 ?k40 ?a41 ?l41 ?q41 ?k41 ?a42 ?l42 ?q42 ?k42 ?a43 ?l43 ?q43 ?k43 ?a44 ?l44 ?q44 ?k44 ?a45 ?l45 ?q45 ?k45 ?a46 ?l46 ?q46 ?k46 ?z_isinstance ?z_int ?z_bool ?z_str ?z_tuple ?z_all ?z_zip ?z_len ?z_enumerate ?z_min ?z_max ?z_range ?z_list ?z_set ?z_sorted ?z_dict ?z_repr ?y_LOOSE ?y_AMONG ?y_STRICT ?y_ANY ?y_WHOLE ?y_EACH ?y_ALL ?y_FIRST ?y_MOST_KIND ?y_MOST_STEPS ?y_MOST_WINDOW ?y_MOST_PAIRS
    (case a16 => k_is); (case l16 => k_is); (case q16 => k_is); (case k16 => k_is); (case a17 => k_is); (case l17 => k_is); (case q17 => k_is); (case k17 => k_is); (case a18 => k_is); (case l18 => k_is); (case q18 => k_is); (case k18 => k_is); (case a19 => k_is); (case l19 => k_is); (case q19 => k_is); (case k19 => k_is); (case a20 => k_is); (case l20 => k_is); (case q20 => k_is); (case k20 => k_is); (case a21 => k_is); (case l21 => k_is); (case q21 => k_is); (case k21 => k_is); (case a22 => k_is); (case l22 => k_is); (case q22 => k_is); (case k22 => k_is); (case a25 => k_is); (case l25 => k_is); (case q25 => k_is); (case k25 => k_is); (case a26 => k_is); (case l26 => k_is); (case q26 => k_is); (case k26 => k_is); (case a27 => k_is); (case l27 => k_is); (case q27 => k_is); (case k27 => k_is); (case a28 => k_is); (case l28 => k_is); (case q28 => k_is); (case k28 => k_is); (case a29 => k_is); (case l29 => k_is); (case q29 => k_is); (case k29 => k_is); (case a30 => k_is); (case l30 => k_is); (case q30 => k_is); (case k30 => k_is); (case a31 => k_is); (case l31 => k_is); (case q31 => k_is); (case k31 => k_is); (case a32 => k_is); (case l32 => k_is); (case q32 => k_is); (case k32 => k_is); (case a33 => k_is); (case l33 => k_is); (case q33 => k_is); (case k33 => k_is); (case a35 => k_is); (case l35 => k_is); (case q35 => k_is); (case k35 => k_is); (case a36 => k_is); (case l36 => k_is); (case q36 => k_is); (case k36 => k_is); (case a37 => k_is); (case l37 => k_is); (case q37 => k_is); (case k37 => k_is); (case a38 => k_is); (case l38 => k_is); (case q38 => k_is); (case k38 => k_is); (case a39 => k_is); (case l39 => k_is); (case q39 => k_is); (case k39 => k_is); (case a40 => k_is); (case l40 => k_is); (case q40 => k_is); (case k40 => k_is); (case a41 => k_is); (case l41 => k_is); (case q41 => k_is); (case k41 => k_is); (case a42 => k_is); (case l42 => k_is); (case q42 => k_is); (case k42 => k_is); (case a43 => k_is); (case l43 => k_is); (case q43 => k_is); (case k43 => k_is); (case a44 => k_is); (case l44 => k_is); (case q44 => k_is); (case k44 => k_is); (case a45 => k_is); (case l45 => k_is); (case q45 => k_is); (case k45 => k_is); (case a46 => k_is); (case l46 => k_is); (case q46 => k_is); (case k46 => k_is); (case z_isinstance => k_is); (case z_int => k_is); (case z_bool => k_is); (case z_str => k_is); (case z_tuple => k_is); (case z_all => k_is); (case z_zip => k_is); (case z_len => k_is); (case z_enumerate => k_is); (case z_min => k_is); (case z_max => k_is); (case z_range => k_is); (case z_list => k_is); (case z_set => k_is); (case z_sorted => k_is); (case z_dict => k_is); (case z_repr => k_is); (case y_LOOSE => k_is); (case y_AMONG => k_is); (case y_STRICT => k_is); (case y_ANY => k_is); (case y_WHOLE => k_is); (case y_EACH => k_is); (case y_ALL => k_is); (case y_FIRST => k_is); (case y_MOST_KIND => k_is); (case y_MOST_STEPS => k_is); (case y_MOST_WINDOW => k_is); (case y_MOST_PAIRS => k_is)
