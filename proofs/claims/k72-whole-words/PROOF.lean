import PyProof.Rows.All
import Wide.All
import OpenK.AllK
import Wide.FinOn
import HandS.ForMost
import HandS.NoneIn
import HandS.Style
import HandS.IsInst
import HandS.SortRule
import HandS.Conv
import HandS.DictTup
import HandS.DictComp
import KE.KPairComp
import KE.GoesNewDict
import KE.KDictDisplayH
import PySem.Challenge.RW_leaprows_k72_whole_words_of_leaps
set_option Elab.async false
set_option linter.all false
set_option maxRecDepth 100000
set_option maxHeartbeats 4000000
/-! Rules that the hand layer has not: enumerate of a tuple, zip of a tuple and a list, the items of a dict with tuple keys, sorted of a tuple, a display with one tuple key. -/
namespace Lq
open PySem PySem.Spec PyProof.Rows L2
/-- a walk whose turns each hand out a new pair -/
theorem turn_pair {P : Program} {w : World} {K : PySem.W.Frag} {tg : Expr} (J : It) (fp : List Addr) (e : Addr) (tn : Nat → Heap → Prop) (he : e ∈ fp)
    (obj : ∀ i h, tn i h → ∀ b ∈ fp, ∃ o, h.get? b = some o ∧ ∀ v, o.data ≠ .cell v) (keep : ∀ i h h', tn i h → (∀ b ∈ fp, ∀ o, h.get? b = some o → h'.get? b = some o) → tn i h')
    (go : ∀ (X : Cx), X.prog = P → X.w = w → X.K = K → X.calm = true → ∀ (i : Nat) (pins : List (Addr × Obj)) (s : Shared) (σ : L2.St) (H : Hp), Inv X pins σ H s → (∀ b ∈ fp, H b = none) → tn i s.heap → J.go i H →
      ∃ (fpG wr : List Addr) (n : Nat) (PY : Value → Value → Prop) (St : Nat → Heap → Prop), GoesN P w X.A tg e fpG wr n (fun j h₀ v h => j = i → ∃ T a b, v = .ref T ∧ h₀.objs.size ≤ T ∧ PY a b ∧ h.IsTuple T #[a, b]) St ∧ i < n ∧ St i s.heap ∧
        (∀ h, St (i + 1) h → tn (i + 1) h) ∧ (∀ b ∈ wr, b ∈ fp) ∧ ∀ a b, PY a b → ∃ x y, RelV x a ∧ RelV y b ∧ ∀ T, H T = none → J.yld i H (.ref T) (upd H T (.tup [x, y])))
    (stop : ∀ (X : Cx), X.prog = P → X.w = w → X.K = K → X.calm = true → ∀ (i : Nat) (pins : List (Addr × Obj)) (s : Shared) (σ : L2.St) (H : Hp), Inv X pins σ H s → (∀ b ∈ fp, H b = none) → tn i s.heap → J.stop i H →
      ∃ (fpG wr : List Addr) (Y : Nat → Heap → Value → Heap → Prop) (St : Nat → Heap → Prop), GoesN P w X.A tg e fpG wr i Y St ∧ St i s.heap ∧ ∀ b ∈ wr, b ∈ fp)
    (self : ∀ (A : Around) (i : Nat) (s : Shared) (Q : Value → Shared → Prop) (E : Value → Shared → Prop), tn i s.heap → Q (.ref e) s → wpAny (model P w) A (pyIter (.ref e)) Q E s) : Turn P w K tg J fp e tn where
  mem := he
  obj := obj
  keep := keep
  item := by
    intro X hP hw hK hc i pins s σ H E I hf st hg
    obtain ⟨fpG, wr, n, PY, St, W, hi, hst, back, hwr, hy⟩ := go X hP hw hK hc i pins s σ H I (fun b hb => (hf b hb).1) st hg
    subst hP hw hK
    refine W.goes i s _ E hi hst fun v h' tk hv st' hk _ => ?_
    obtain ⟨T, a, b, rfl, hT, hab, hI⟩ := hv rfl
    obtain ⟨x, y, rx, ry, hyl⟩ := hy a b hab
    have tup : ObjOk X.prog X.w (upd H T (.tup [x, y])) h' T (.tup [x, y]) := ⟨by show 2 ≤ sizeLine; decide, [a, b], .cons rx (.cons ry .nil), hI⟩
    have lt : ∀ b ∈ fp, b < s.heap.objs.size := fun b hb => by
      obtain ⟨o, ho, _⟩ := obj _ _ st b hb
      exact Heap.lt_size ho
    refine ⟨.ref T, _, I.turnedNew (t' := tk) (ch := fp) (fun c o hc q => hk c o (fun z => hc (hwr c z)) q) hf hT tup, rfl, hyl T (I.hok.fresh hT), back _ st', fun c hc => ?_⟩
    rw [upd_ne (Nat.ne_of_lt (Nat.lt_of_lt_of_le (lt c hc) hT))]
    exact (hf c hc).1
  done := by
    intro X hP hw hK hc i pins s σ H E I hf st hg
    obtain ⟨fpG, wr, Y, St, W, hst, hwr⟩ := stop X hP hw hK hc i pins s σ H I (fun b hb => (hf b hb).1) st hg
    subst hP hw hK
    refine W.stops s _ E hst fun h' tk hk _ => ?_
    exact I.turnedL (t' := tk) (ch := fp) (fun c o hc q => hk c o (fun z => hc (hwr c z)) q) hf
  self := self

theorem gcast {P : Program} {w : World} {A : Around} {t : Expr} {I : Addr} {fp wr : List Addr} {n m : Nat} {Y : Nat → Heap → Value → Heap → Prop} {St : Nat → Heap → Prop} (e : n = m) (G : GoesN P w A t I fp wr n Y St) : GoesN P w A t I fp wr m Y St := by
  subst e
  exact G
/-! ### enumerate(tuple) -/
def IteT (K : PySem.W.Frag) (a : Addr) : It :=
  ⟨fun i H => ∃ (xs : List V) (x : V), SqT K H a xs ∧ xs[i]? = some x, fun i H v H' => ∃ T x, v = .ref T ∧ H T = none ∧ H' = upd H T (.tup [.int (i : Nat), x]) ∧ ∀ xs, SqT K H a xs → xs[i]? = some x, fun i H => ∃ xs : List V, SqT K H a xs ∧ xs.length = i⟩
theorem turn_enumT {P : Program} {w : World} {K : PySem.W.Frag} {elts : List Expr} {kk : Nat} {tpos : Pos} (a e it : Addr) (h1 : e ≠ it) (h2 : e ≠ a) (h3 : a ≠ it) :
    Turn P w K (.Tuple elts kk tpos) (IteT K a) [e, it] e (fun i h => (∃ old, IsEnum h e it (0 + ((i : Nat) : Int)) old) ∧ h.IsTupleIter it a i) := by
  refine turn_pair _ _ e _ (by simp) (fun i h st b hb => ?_) (fun i h h' st k => ?_) (fun X hP hw hK hc i pins s σ H I hn st hg => ?_) (fun X hP hw hK hc i pins s σ H I hn st hg => ?_) fun A i s Q E st h => ?_
  · obtain ⟨⟨old, he⟩, ⟨o, ho, hc, hd⟩⟩ := st
    have e' : b = e ∨ b = it := by simpa using hb
    rcases e' with z | z
    · rw [z]; exact ⟨_, he, fun v q => nomatch q⟩
    · rw [z]; exact ⟨o, ho, fun v q => by rw [hd] at q; cases q⟩
  · obtain ⟨⟨old, he⟩, hi⟩ := st
    exact ⟨⟨old, k e (by simp) _ he⟩, hi.at fun o q => k it (by simp) o q⟩
  · obtain ⟨xs, x, hq, hx⟩ := hg
    subst hK
    obtain ⟨its, rv, p, hz⟩ := I.tuple hq
    obtain ⟨u, hu, ru⟩ := rv.get hx
    have D := Draws.tuple (prog := P) (w := w) (A := X.A.in1) (I.ok.hd hc) it a h3 its.toArray
    refine ⟨_, [e, it], _, fun c d => (∃ t, c = .int (0 + ((i : Nat) : Int)) t) ∧ its[i]? = some d, _, (GoesN.enumFrom 0 D e h1 (by simp [h1, h2]) (by simp)).mono fun j h₀ v h _ ⟨T, t, y, e1, e2, e3, e4⟩ ej => ?_, ?_, ⟨st.1, st.2, p⟩, fun h z => ⟨z.1, z.2.1⟩, fun b hb => hb, fun c d ⟨⟨t, ec⟩, ed⟩ => ?_⟩
    · subst ej
      exact ⟨T, _, y, e1, e2, ⟨⟨t, rfl⟩, by simpa using e3⟩, e4⟩
    · have := (List.getElem?_eq_some_iff.mp hu).1
      simpa using this
    · rw [hu] at ed
      cases ed
      refine ⟨.int (i : Nat), x, ⟨t, by rw [ec, Int.zero_add]⟩, ru, fun T hT => ⟨T, x, rfl, hT, rfl, fun ys hy => ?_⟩⟩
      rw [I.tuple_inj hy hq]
      exact hx
  · obtain ⟨xs, hq, hx⟩ := hg
    subst hK
    obtain ⟨its, rv, p, hz⟩ := I.tuple hq
    have D := Draws.tuple (prog := P) (w := w) (A := X.A.in1) (I.ok.hd hc) it a h3 its.toArray
    have G := GoesN.enumFrom (elts := elts) (x1 := kk) (pos := tpos) 0 D e h1 (by simp [h1, h2]) (by simp)
    have en : its.toArray.size = i := by
      rw [List.size_toArray, ← rv.length]
      exact hx
    rw [en] at G
    exact ⟨_, [e, it], _, _, G, ⟨st.1, st.2, p⟩, fun b hb => hb⟩
  · obtain ⟨⟨old, he⟩, _⟩ := st
    exact wpAny_pyIter_enum he h
theorem meets_enum1 {v : Value} {o : Obj} {H : Heap → Prop} (B : Begins v o H) :
    Meets (Builtin.«enumerate.__new__» ⟨[.type "enumerate", v], []⟩) (fun _ R s => H s.heap ∧
      R (.ok (.ret (.ref (s.heap.push o).objs.size))) { s with heap := (s.heap.push o).push { cls := .type "enumerate", data := .fields #[.none, .bool false, .ref s.heap.objs.size, rawInt 0, .none, .none] } }) :=
  .of_wp fun prog w A R s h => by
    obtain ⟨hp, g, d, tk, os⟩ := s
    obtain ⟨h1, h⟩ := h
    have hsub := sub_enumerate
    have q1 : ∀ {A' : Around} {E : Value → Shared → Prop} {Q : Value → Shared → Prop}, Q (.ref hp.objs.size) ⟨hp.push o, g, d, tk, os⟩ → wpAny (model prog w) A' (pyIter v) Q E ⟨hp, g, d, tk, os⟩ :=
      fun q => B.iter prog w _ _ ⟨hp, g, d, tk, os⟩ _ h1 q
    wp_walk using q1
    refine wpAny_stack_any fun st => wpAny_pure ?_
    split
    · rename_i c _ _ _ _ _
      cases (c == Value.type "enumerate")
      · wp_walk using q1
        exact ⟨_, rfl, h⟩
      · wp_walk using q1
        exact ⟨_, rfl, h⟩
    · wp_walk using q1
      exact ⟨_, rfl, h⟩
theorem enum1_begins {prog : Program} {w : World} {A : Around} {E : Value → Shared → Prop} {s : Shared} {v : Value} {o : Obj} {H : Heap → Prop} {Q : Value → Shared → Prop} (B : Begins v o H) (h1 : H s.heap)
    (h : ∀ h', IsEnum h' (s.heap.objs.size + 1) s.heap.objs.size 0 .none → h'.get? s.heap.objs.size = some o → (∀ b o, s.heap.get? b = some o → h'.get? b = some o) → Q (.ref (s.heap.objs.size + 1)) { s with heap := h' }) :
    wpAny (model prog w) A (call (.type "enumerate") [v]) Q E s := by
  refine callType_new F.called_enumerate (by decide) (F.typeCall_enumerate_1 _) (F.newCall_enumerate_1 _) (fun obj => F.args_object_init_2 obj _) F.entry_enumerate_new (meets_enum1 B) ⟨h1, ?_⟩
  have hz : (s.heap.push o).objs.size = s.heap.objs.size + 1 := Heap.size_push ..
  show _ ∧ _
  rw [hz]
  have he : IsEnum ((s.heap.push o).push { cls := .type "enumerate", data := .fields #[.none, .bool false, .ref s.heap.objs.size, rawInt 0, .none, .none] }) (s.heap.objs.size + 1) s.heap.objs.size 0 .none := by
    have q := Heap.get?_push_size (s.heap.push o) (o := { cls := .type "enumerate", data := .fields #[.none, .bool false, .ref s.heap.objs.size, rawInt 0, .none, .none] }) rfl
    rw [hz] at q
    exact q
  exact ⟨⟨_, he, rfl⟩, h _ he (Heap.get?_push_of_some _ (Heap.get?_push_size _ B.free)) fun b o x => Heap.get?_push_of_some _ (Heap.get?_push_of_some _ x)⟩
def iEnumT (K : PySem.W.Frag) (ta : TA) : TI := fun σ H R => ta σ H fun vs H1 => ∃ a xs, vs = [.ref a] ∧ SqT K H1 a xs ∧ R (IteT K a) H1
theorem pi_enumT {X : Cx} {e : Expr} {ta : TA} {p pos tpos : Pos} {elts : List Expr} {kk : Nat} (hg : Gl X "enumerate") (hm : X.mg "enumerate" = none) (ha : PA X [e] ta) (hs : starEach [e] X.env = [(false, eval e X.env)] := by rfl) :
    PI X (.Tuple elts kk tpos) (.Call (.Name "enumerate" p) [e] [] pos) (iEnumT X.K ta) := by
  refine ⟨fun pins s σ H R I h => ?_⟩
  refine Call_ (ld_blt I hg hm boot_enumerate (PyProof.Rows.callWith_type1 (thn (ha.run pos pins s σ H _ I h) fun us s1 ⟨vs, H1, I1, r1, q1⟩ => ?_) hs rfl))
  obtain ⟨a, xs, ex, hq, q⟩ := q1
  subst ex
  cases r1 with
  | cons r rr =>
    cases rr
    cases r
    obtain ⟨its, rv, p', hz⟩ := I1.tuple hq
    obtain ⟨oa, hoa, _⟩ := id p'
    have hla := Heap.lt_size hoa
    refine enum1_begins (begins_tuple a its.toArray) (show s1.heap.IsTuple a its.toArray from p') fun h' he hit hk => wpAny_pyIter_enum he ?_
    have I2 : Inv X pins σ H1 { s1 with heap := h' } := I1.kept (t' := s1.toks) hk
    refine ⟨s1.heap.objs.size + 1, [s1.heap.objs.size + 1, s1.heap.objs.size], _, _, H1, rfl, I2, turn_enumT a (s1.heap.objs.size + 1) s1.heap.objs.size (Nat.succ_ne_self _) (Nat.ne_of_gt (Nat.lt_succ_of_lt hla)) (Nat.ne_of_lt hla), ⟨⟨.none, he⟩, ⟨_, hit, rfl, rfl⟩⟩, fun b hb => ?_, q⟩
    have e' : b = s1.heap.objs.size + 1 ∨ b = s1.heap.objs.size := by simpa using hb
    have hle : s1.heap.objs.size ≤ b := by
      rcases e' with z | z
      · rw [z]; exact Nat.le_add_right _ _
      · rw [z]; exact Nat.le_refl _
    exact I1.fpOk hle (I1.hok.fresh hle)

/-! ### zip(tuple, list) -/
def ItzM (K : PySem.W.Frag) (a b : Addr) : It :=
  ⟨fun i H => ∃ (xs ys : List V) (x y : V), SqT K H a xs ∧ SqL K H b ys ∧ xs[i]? = some x ∧ ys[i]? = some y,
    fun i H v H' => ∃ T x y, v = .ref T ∧ H T = none ∧ H' = upd H T (.tup [x, y]) ∧ (∀ xs, SqT K H a xs → xs[i]? = some x) ∧ ∀ ys, SqL K H b ys → ys[i]? = some y,
    fun i H => ∃ xs ys : List V, SqT K H a xs ∧ SqL K H b ys ∧ min xs.length ys.length = i⟩
theorem turn_zipM {P : Program} {w : World} {K : PySem.W.Frag} {elts : List Expr} {kk : Nat} {tpos : Pos} {a b z TI TO i1 i2 : Addr} (S : ZipSep2 z TI TO i1 i2 [i1, a] [i2, b]) (h1 : a ≠ i1) (h2 : b ≠ i2) :
    Turn P w K (.Tuple elts kk tpos) (ItzM K a b) [z, TI, TO, i1, i2] z (fun i h => IsZip h z TI TO .none ∧ IsTupOf2 h TI (.ref i1) (.ref i2) ∧ (∃ x y, IsTupOf2 h TO x y) ∧ h.IsTupleIter i1 a i ∧ h.IsListIter i2 b i) := by
  refine turn_pair _ _ z _ (by simp) (fun i h st c hb => ?_) (fun i h h' st k => ?_) (fun X hP hw hK hc i pins s σ H I hn st hg => ?_) (fun X hP hw hK hc i pins s σ H I hn st hg => ?_) fun A i s Q E st h => wpAny_pyIter_zip st.1 h
  · obtain ⟨hz, hTI, ⟨x, y, hTO⟩, ⟨o1, e1, _, d1⟩, ⟨o2, e2, _, d2⟩⟩ := st
    have e' : c = z ∨ c = TI ∨ c = TO ∨ c = i1 ∨ c = i2 := by simpa using hb
    rcases e' with q | q | q | q | q
    · rw [q]; exact ⟨_, hz, fun v q => nomatch q⟩
    · rw [q]; exact ⟨_, hTI, fun v q => nomatch q⟩
    · rw [q]; exact ⟨_, hTO, fun v q => nomatch q⟩
    · rw [q]; exact ⟨o1, e1, fun v q => by rw [d1] at q; cases q⟩
    · rw [q]; exact ⟨o2, e2, fun v q => by rw [d2] at q; cases q⟩
  · obtain ⟨hz, hTI, ⟨x, y, hTO⟩, u1, u2⟩ := st
    exact ⟨k z (by simp) _ hz, k TI (by simp) _ hTI, ⟨x, y, k TO (by simp) _ hTO⟩, u1.at fun o q => k i1 (by simp) o q, u2.at fun o q => k i2 (by simp) o q⟩
  · obtain ⟨xs, ys, x, y, hq, hq2, hx, hy⟩ := hg
    subst hK
    obtain ⟨its, rv, p, _⟩ := I.tuple hq
    obtain ⟨its2, rv2, p2, _⟩ := I.list hq2
    obtain ⟨u, hu, ru⟩ := rv.get hx
    obtain ⟨u2, hu2, ru2⟩ := rv2.get hy
    have D1 := Draws.tuple (prog := P) (w := w) (A := X.A.in1) (I.ok.hd hc) i1 a h1 its.toArray
    have D2 := Draws.list (prog := P) (w := w) (A := X.A.in1) (I.ok.hd hc) i2 b h2 its2.toArray
    refine ⟨_, [z, TO, i1, i2], _, fun c d => its[i]? = some c ∧ its2[i]? = some d, _, (GoesN.zip2 S D1 D2).mono fun j h₀ v h _ ⟨T, c, d, e1, e2, e3, e4, e5⟩ ej => ?_, ?_, ⟨st.1, st.2.1, st.2.2.1, ⟨st.2.2.2.1, p⟩, st.2.2.2.2, p2.isList⟩, fun h q => ⟨q.1, q.2.1, q.2.2.1, q.2.2.2.1.1, q.2.2.2.2.1⟩, fun c hb => ?_, fun c d ⟨ec, ed⟩ => ?_⟩
    · subst ej
      exact ⟨T, c, d, e1, e2, ⟨by simpa using e3, by simpa using e4⟩, e5⟩
    · have l1 := (List.getElem?_eq_some_iff.mp hu).1
      have l2 := (List.getElem?_eq_some_iff.mp hu2).1
      rw [List.size_toArray, List.size_toArray]
      omega
    · simp only [List.mem_cons, List.not_mem_nil, or_false] at hb ⊢
      rcases hb with q | q | q | q
      · exact .inl q
      · exact .inr (.inr (.inl q))
      · exact .inr (.inr (.inr (.inl q)))
      · exact .inr (.inr (.inr (.inr q)))
    · rw [hu] at ec
      rw [hu2] at ed
      cases ec
      cases ed
      refine ⟨x, y, ru, ru2, fun T hT => ⟨T, x, y, rfl, hT, rfl, fun l hl => ?_, fun l hl => ?_⟩⟩
      · rw [I.tuple_inj hl hq]
        exact hx
      · rw [I.list_inj hl hq2]
        exact hy
  · obtain ⟨xs, ys, hq, hq2, hx⟩ := hg
    subst hK
    obtain ⟨its, rv, p, _⟩ := I.tuple hq
    obtain ⟨its2, rv2, p2, _⟩ := I.list hq2
    have D1 := Draws.tuple (prog := P) (w := w) (A := X.A.in1) (I.ok.hd hc) i1 a h1 its.toArray
    have D2 := Draws.list (prog := P) (w := w) (A := X.A.in1) (I.ok.hd hc) i2 b h2 its2.toArray
    have G := GoesN.zip2 (elts := elts) (x1 := kk) (pos := tpos) S D1 D2
    have en : min its.toArray.size its2.toArray.size = i := by
      rw [List.size_toArray, List.size_toArray, ← rv.length, ← rv2.length]
      exact hx
    rw [en] at G
    refine ⟨_, [z, TO, i1, i2], _, _, G, ⟨st.1, st.2.1, st.2.2.1, ⟨st.2.2.2.1, p⟩, st.2.2.2.2, p2.isList⟩, fun c hb => ?_⟩
    simp only [List.mem_cons, List.not_mem_nil, or_false] at hb ⊢
    rcases hb with q | q | q | q
    · exact .inl q
    · exact .inr (.inr (.inl q))
    · exact .inr (.inr (.inr (.inl q)))
    · exact .inr (.inr (.inr (.inr q)))
def iZipM (K : PySem.W.Frag) (ta : TA) : TI := fun σ H R => ta σ H fun vs H1 => ∃ a b xs ys, vs = [.ref a, .ref b] ∧ SqT K H1 a xs ∧ SqL K H1 b ys ∧ R (ItzM K a b) H1
theorem pi_zipM {X : Cx} {e e2 : Expr} {ta : TA} {p pos tpos : Pos} {elts : List Expr} {kk : Nat} (hg : Gl X "zip") (hm : X.mg "zip" = none) (ha : PA X [e, e2] ta)
    (hs : starEach [e, e2] X.env = (false, eval e X.env) :: starEach [e2] X.env := by rfl) (hpl : (backTo pos (starEach [e2] X.env)).any (·.1) = false := by rfl) :
    PI X (.Tuple elts kk tpos) (.Call (.Name "zip" p) [e, e2] [] pos) (iZipM X.K ta) := by
  refine ⟨fun pins s σ H R I h => ?_⟩
  refine Call_ (ld_blt I hg hm PyProof.Rows.boot_zip (PyProof.Rows.callWith_type1 (thn (ha.run pos pins s σ H _ I h) fun us s1 ⟨vs, H1, I1, r1, q1⟩ => ?_) hs hpl))
  obtain ⟨a, b, xs, ys, ex, hqx, hqy, q⟩ := q1
  subst ex
  cases r1 with
  | cons r rr =>
    cases rr with
    | cons r' rr =>
      cases rr
      cases r
      cases r'
      have fresh5 : ∀ c, c ∈ [s1.heap.objs.size + 4, s1.heap.objs.size + 2, s1.heap.objs.size + 3, s1.heap.objs.size, s1.heap.objs.size + 1] → FpOk X pins H1 c := fun c hcm => by
        have e' : c = s1.heap.objs.size + 4 ∨ c = s1.heap.objs.size + 2 ∨ c = s1.heap.objs.size + 3 ∨ c = s1.heap.objs.size ∨ c = s1.heap.objs.size + 1 := by simpa using hcm
        have hle : s1.heap.objs.size ≤ c := by
          rcases e' with z | z | z | z | z
          · rw [z]; exact Nat.le_add_right _ _
          · rw [z]; exact Nat.le_add_right _ _
          · rw [z]; exact Nat.le_add_right _ _
          · rw [z]; exact Nat.le_refl _
          · rw [z]; exact Nat.le_add_right _ _
        exact I1.fpOk hle (I1.hok.fresh hle)
      obtain ⟨its, rv, p1, _⟩ := I1.tuple hqx
      obtain ⟨its2, rv2, p2, _⟩ := I1.list hqy
      obtain ⟨oa, hoa, _⟩ := id p1
      have la := Heap.lt_size hoa
      have lb := p2.lt
      refine zip_begins2 (begins_tuple a its.toArray) (begins_list b its2.toArray) (show s1.heap.IsTuple a its.toArray from p1) p2.isList fun h' hz hTI hTO h1 h2 hsz hk => wpAny_pyIter_zip hz ?_
      have I2 : Inv X pins σ H1 { s1 with heap := h' } := I1.kept (t' := s1.toks) hk
      have S : ZipSep2 (s1.heap.objs.size + 4) (s1.heap.objs.size + 2) (s1.heap.objs.size + 3) s1.heap.objs.size (s1.heap.objs.size + 1) [s1.heap.objs.size, a] [s1.heap.objs.size + 1, b] :=
        zip_sep2 (fp1 := [a]) (fp2 := [b]) (by simpa using la) (by simpa using lb)
      exact ⟨s1.heap.objs.size + 4, [s1.heap.objs.size + 4, s1.heap.objs.size + 2, s1.heap.objs.size + 3, s1.heap.objs.size, s1.heap.objs.size + 1], _, _, H1, rfl, I2, turn_zipM S (Nat.ne_of_lt la) (Nat.ne_of_lt (Nat.lt_succ_of_lt lb)),
        ⟨hz, hTI, ⟨_, _, hTO⟩, ⟨_, h1, rfl, rfl⟩, ⟨_, h2, rfl, rfl⟩⟩, fresh5, q⟩

/-! ### for k, v in d.items(), d a locked dict with tuple keys -/
def ItiT (d : Addr) (o : Obj) (kvs : List (List Key × V)) : It :=
  ⟨fun i H => H d = some (.frz o (.dT kvs)) ∧ i < kvs.length, fun i H x H' => ∃ (T q : Addr) (k : List Key) (v : V), kvs[i]? = some (k, v) ∧ x = .ref T ∧ H T = none ∧ H q = some (.tup (k.map kV)) ∧ H' = upd H T (.tup [.ref q, v]), fun i H => H d = some (.frz o (.dT kvs)) ∧ kvs.length = i⟩
/-- what the entries of a locked dict with tuple keys are -/
theorem frzT' {X : Cx} {pins : List (Addr × Obj)} {σ : L2.St} {H : Hp} {s : Shared} {d : Addr} {o : Obj} {kvs : List (List Key × V)} (I : Inv X pins σ H s) (h : H d = some (.frz o (.dT kvs))) :
    (d == sysModules) = false ∧ s.heap.get? d = some o ∧ o.ExactDict ∧ ∃ (es : Array DictEntry) (ep : Nat), o.data = .dict es ep ∧ es.size = kvs.length ∧
      ∀ (i : Nat) (k : List Key) (v : V), kvs[i]? = some (k, v) → ∃ (en : DictEntry) (q : Addr), es[i]? = some en ∧ en.key = .ref q ∧ H q = some (.tup (k.map kV)) ∧ RelV v en.val := by
  obtain ⟨hd, z, hs, xs, pr, o', es, ep, ho, hx, hdt, he, _⟩ := I.hok d _ h
  rw [hd] at ho
  cases ho
  refine ⟨hs, hd, hx, es, ep, hdt, ?_, fun i k v e => ?_⟩
  · have l1 : es.size = xs.length := size_of_entries he
    have l2 : kvs.length = xs.length := Paired.length pr
    omega
  · obtain ⟨b, hb, e1, e2, e3⟩ := paired_get pr e
    have q := entry_at he i
    rw [hb] at q
    exact ⟨_, b.2.1, q, rfl, e2, e3⟩
theorem turn_itemsT {P : Program} {w : World} {K : PySem.W.Frag} {o : Obj} {kvs : List (List Key × V)} {elts : List Expr} {kk : Nat} {tpos : Pos} {es : Array DictEntry} {ep : Nat} {d it : Addr} (hne : d ≠ it) (hod : o.data = .dict es ep) :
    Turn P w K (.Tuple elts kk tpos) (ItiT d o kvs) [it] it (fun i h => ∃ ok ov, IsItemIter h it d i es.size ep ok ov) := by
  refine turn_pair _ _ it _ (by simp) (fun i h st b hb => ?_) (fun i h h' st k => ?_) (fun X hP hw hK hc i pins s σ H I hn st hg => ?_) (fun X hP hw hK hc i pins s σ H I hn st hg => ?_) fun A i s Q E st h => ?_
  · have e : b = it := by simpa using hb
    subst e
    obtain ⟨ok, ov, e⟩ := st
    exact ⟨_, e, fun v z => nomatch z⟩
  · obtain ⟨ok, ov, e⟩ := st
    exact ⟨ok, ov, k it (by simp) _ e⟩
  · obtain ⟨hd, hi⟩ := hg
    obtain ⟨hs, hgd, hx, es', ep', hdt, hsz, ent⟩ := frzT' I hd
    obtain ⟨rfl, rfl⟩ := dict_ep hod hdt
    obtain ⟨⟨k, v⟩, hkv⟩ : ∃ p, kvs[i]? = some p := ⟨kvs[i], List.getElem?_eq_getElem hi⟩
    obtain ⟨en, q, hen, hkey, hq, hv⟩ := ent i k v hkv
    have R := (GoesN.rawItems (prog := P) (w := w) (A := X.A) (elts := elts) (x1 := kk) (pos := tpos) (I.ok.hd hc) it d hne es' ep')
    refine ⟨_, [it], _, fun c e => c = en.key ∧ e = en.val, _, R.mono fun j h₀ v h _ ⟨T, hj, e1, e2, e3⟩ ej => ?_, by omega, ⟨st, o, hgd, hx, hod⟩, fun h q => q.1, fun b hb => hb, fun c e ⟨ec, ee⟩ => ?_⟩
    · subst ej
      rw [Array.getElem?_eq_getElem hj] at hen
      cases hen
      exact ⟨T, _, _, e1, e2, ⟨rfl, rfl⟩, e3⟩
    · subst ec ee
      refine ⟨.ref q, v, hkey, hv, fun T hT => ⟨T, q, k, v, hkv, rfl, hT, hq, rfl⟩⟩
  · obtain ⟨hd, hi⟩ := hg
    obtain ⟨hs, hgd, hx, es', ep', hdt, hsz, ent⟩ := frzT' I hd
    obtain ⟨rfl, rfl⟩ := dict_ep hod hdt
    have R := (GoesN.rawItems (prog := P) (w := w) (A := X.A) (elts := elts) (x1 := kk) (pos := tpos) (I.ok.hd hc) it d hne es' ep')
    have en : es'.size = i := hsz.trans hi
    have st' : ∃ ok ov, IsItemIter s.heap it d i es'.size ep' ok ov := st
    exact ⟨_, [it], _, _, gcast en R, ⟨st', o, hgd, hx, hod⟩, fun b hb => hb⟩
  · obtain ⟨ok, ov, e⟩ := st
    exact PySem.W.kcp_self e h
def iItemsT (td : TE) : TI := fun σ H R => td σ H fun x H1 => ∃ d o kvs, x = .ref d ∧ H1 d = some (.frz o (.dT kvs)) ∧ R (ItiT d o kvs) H1
theorem pi_itemsT {X : Cx} {e : Expr} {td : TE} {apos cpos tpos : Pos} {elts : List Expr} {kk : Nat} (he : PE X e td) (hbase : attributeBase e "items" X.env (eval e X.env) = eval e X.env := by rfl) (hline : (apos.endLine == cpos.line) = true := by rfl) :
    PI X (.Tuple elts kk tpos) (.Call (.Attribute e "items" apos) [] [] cpos) (iItemsT td) := by
  refine ⟨fun pins s σ H R I h => ?_⟩
  refine wpAny_Call_method (T := "dict") (id := "dict.items") hbase rfl hline F.plainAttrs_dict F.slot_dict_items F.type_dict_items (thn (he.run pins s σ H _ I h) fun u s1 ⟨x, H1, I1, rx, d, o, kvs, ex, hd, q⟩ => ?_)
  subst ex
  obtain rfl : u = Value.ref d := rx
  obtain ⟨hs, hgd, hx, es, ep, hdt, hsz, ent⟩ := frzT' I1 hd
  have raw : s1.heap.DictRaw d es ep := ⟨o, hgd, hx, hdt⟩
  have hld := Heap.lt_size hgd
  refine ⟨raw.typeIs, fun b q => by
    cases q
    exact ⟨o, hgd, hx.2.1⟩, ?_⟩
  have I2 : Inv X pins σ H1 { s1 with heap := s1.heap.push { cls := .type "dict_items", data := .fields #[.ref d] } } := I1.kept (t' := s1.toks) fun b ob q => Heap.get?_push_of_some _ q
  have fin : wpAny (model X.prog X.w) X.A (pyIter (.ref s1.heap.objs.size)) (PIE X pins σ (.Tuple elts kk tpos) R) X.xe { s1 with heap := s1.heap.push { cls := .type "dict_items", data := .fields #[.ref d] } } := by
    have raw2 : (s1.heap.push { cls := .type "dict_items", data := .fields #[.ref d] }).DictRaw d es ep := raw.at fun o e => Heap.get?_push_of_some _ e
    refine wpAny_pyIter_items_raw (d := d) (es := es) (ep := ep) ⟨_, Heap.get?_push_size _ rfl, rfl, rfl⟩ raw2 (pi_one (tk := s1.toks) I2 _ (turn_itemsT ?_ hdt) ⟨.none, .none, ?_⟩ q)
    · rw [Heap.size_push]
      exact Nat.ne_of_lt (Nat.lt_succ_of_lt hld)
    · exact Heap.get?_push_size _ rfl
  show wpAny _ _ (callWith cpos (.builtin "dict.items") [.ref d] [] []) _ X.xe s1
  exact method_meetsIn F.slot_dict_items F.entry_dict_items rfl (PySem.evalArgs_none ⟨rfl, raw.typeIs, F.args_dict_items_1 _, _, meets_dict_items_raw d hs, ⟨⟨es, ep, raw⟩, fin⟩⟩)

/-! ### sorted(tuple of ints) -/
section
variable {prog : Program} {w : World} {A : Around} {E : Value → Shared → Prop} {s : Shared}
theorem collect_tup {tp : Addr} {us : List Value} {Q : List Value → Shared → Prop} (ht : IsTup s.heap tp us.toArray) (hsz : us.length ≤ sizeLine)
    (h : Q us { s with heap := (s.heap.push (seqObj "list" #[] 0)).update s.heap.objs.size (Obj.mapSeq (· ++ us.toArray)) }) : wpAny (model prog w) A (collect (.ref tp)) Q E s := by
  obtain ⟨ot, hot, hct, nt, hdt⟩ := id ht
  unfold collect
  refine wpAny_bind (wpAny_runValue (codeAny_builtin entry_proto_collect' (show wpAny _ _ (do again (.builtin "list.__iadd__" ⟨[← newList [], .ref tp], []⟩)) _ _ s from ?_)))
  refine wpAny_bind (wpAny_newList (wpAny_pure ⟨Code.quiet_builtin _ (by decide +kernel), codeAny_builtin entry_list_iadd' (show wpAny _ _ (Builtin.List.listExtendWith (.ref s.heap.objs.size) (.ref tp) (.ref s.heap.objs.size)) _ _ { s with heap := s.heap.push (seqObj "list" #[] 0) } from ?_)⟩))
  have hot' : (s.heap.push (seqObj "list" #[] 0)).get? tp = some ot := Heap.get?_push_of_some _ hot
  have new : (s.heap.push (seqObj "list" #[] 0)).get? s.heap.objs.size = some (seqObj "list" #[] 0) := Heap.get?_push_size _ rfl
  unfold Builtin.List.listExtendWith
  refine wpAny_bind (wpAny_typeOf (T := "tuple") ⟨ot, hot', hct⟩ ?_)
  have same : (Value.type "tuple" == Value.type "tuple") = true := by rfl
  rw [if_pos (by rw [same, Bool.or_true])]
  have grow : (#[] ++ us.toArray : Array Value).size ≤ sizeLine + 1 := by
    rw [Array.size_append, List.size_toArray]
    show 0 + us.length ≤ sizeLine + 1
    omega
  refine wpAny_bind (listItems_at hot' hdt (wpAny_bind (listItems_at (xs := #[]) (n := 0) new rfl ?_)))
  rw [if_neg (by simp)]
  refine wpAny_bind (listUpdate_at (xs := #[]) (n := 0) new rfl (wpAny_pure ?_) (Nat.zero_le _) grow)
  have back : ((#[] : Array Value) ++ us.toArray).toList = us := by simp
  refine (show wpAny (model prog w) A (do
      let o ← load s.heap.objs.size
      match o.data with | .seq xs _ => pure xs.toList | _ => unsupported "internal:collect") Q E { s with heap := (s.heap.push (seqObj "list" #[] 0)).update s.heap.objs.size (Obj.mapSeq (· ++ us.toArray)) } from ?_)
  refine wpAny_bind (wpAny_load (get?_update_seq new _) ?_)
  refine (show wpAny _ _ (pure ((#[] : Array Value) ++ us.toArray).toList) Q E _ from ?_)
  rw [back]
  exact wpAny_pure h
theorem sorted_tupInts {tp : Addr} {us : List Value} {ns : List Int} {Q : Value → Shared → Prop} (ht : IsTup s.heap tp us.toArray) (hI : IntsAre us ns) (h64 : us.length < 64)
    (h : ∀ (out : Array Value) (ns' : List Int), IntsAre out.toList ns' → ns'.Perm ns → ns'.Pairwise (· ≤ ·) → Q (.ref (s.heap.objs.size + 1)) { s with heap := sortedAll s.heap us out }) :
    wpAny (model prog w) A (call (.builtin "sorted") [.ref tp]) Q E s := by
  have hz : us.length ≤ sizeLine := by
    rw [sizeLine_eq]
    omega
  refine Calls.call_function_entry kind_sorted plain_sorted entry_sorted (args_sorted1 _) (show wpAny _ _ (Builtin.«sorted» _) _ _ _ from ?_)
  unfold Builtin.«sorted»
  refine wpAny_bind (m := checkCount "sorted" 1 1 _) (wpAny_pure (wpAny_bind (collect_tup ht hz (wpAny_bind (wpAny_newList ?_ hz)))))
  have size1 : ((s.heap.push (seqObj "list" #[] 0)).update s.heap.objs.size (Obj.mapSeq (· ++ us.toArray))).objs.size = s.heap.objs.size + 1 := by rw [Heap.size_update, size_push']
  have there : (((s.heap.push (seqObj "list" #[] 0)).update s.heap.objs.size (Obj.mapSeq (· ++ us.toArray))).push (seqObj "list" us.toArray 0)).get? (s.heap.objs.size + 1) = some (seqObj "list" us.toArray 0) := by
    rw [← size1]
    exact Heap.get?_push_size _ rfl
  refine (show wpAny _ _ _ _ _ { s with heap := ((s.heap.push (seqObj "list" #[] 0)).update s.heap.objs.size (Obj.mapSeq (· ++ us.toArray))).push (seqObj "list" us.toArray 0) } from ?_)
  rw [size1]
  exact wpAny_bind (wpAny_holding (wpAny_call_entry slot_list_sort ⟨_, there, rfl⟩ entry_list_sort (list_sort_tree there hI h64 fun out ns' a1 a2 a3 => ⟨_, rfl, wpAny_pure ⟨_, rfl, h out ns' a1 a2 a3⟩⟩) (args_list_sort _)))
end
def rSortedT (K : PySem.W.Frag) : List V → Hp → VK → Prop := fun vs H Q => ∃ (a : Addr) (ns : List Int), vs = [V.ref a] ∧ SqT K H a (ns.map V.int) ∧ ns.length < 64 ∧
  ∀ (ns' : List Int) (p : Addr), ns'.Perm ns → ns'.Pairwise (· ≤ ·) → H p = none → Q (.ref p) (upd H p (.lst (ns'.map V.int)))
theorem cr_sortedT {X : Cx} : CallR X (.builtin "sorted") (rSortedT X.K) := by
  intro pins s σ H vs us Q I r h
  obtain ⟨a, ns, rfl, hs, h64, q⟩ := h
  obtain ⟨its, rv, ht, _⟩ := I.tuple hs
  rw [Vals.ref1 r]
  have hi := rv.ints
  refine sorted_tupInts ht hi (by rw [hi.length]; exact h64) fun out ns' h1 h2 h3 => ?_
  obtain ⟨ep, hat⟩ := PyProof.Rows.sortedAll_at s.heap its out
  have hlen : (ns'.map V.int).length ≤ sizeLine := by
    rw [List.length_map, h2.length_eq, sizeLine_eq]
    omega
  have I2 : Inv X pins σ (upd H (s.heap.objs.size + 1) (.lst (ns'.map V.int))) { s with heap := sortedAll s.heap its out } :=
    I.laid (t' := s.toks) (fun _ _ => PyProof.Rows.sortedAll_old) (Nat.le_succ _) ⟨hlen, out.toList, ep, vals_of_ints h1, hat⟩
  exact ⟨.ref _, _, I2, rfl, q ns' _ h2 h3 (I.hok.fresh (Nat.le_succ _))⟩

/-! ### {k: v}, k a tuple -/
def tDisp1 (tk tv : TE) : TE := fun σ H Q => ∀ p, H p = none → tk σ (upd H p (.dT [])) fun x H1 => tv σ H1 fun y H2 => ∃ (b : Addr) (k : List Key), x = .ref b ∧ H2 b = some (.tup (k.map kV)) ∧ H2 p = some (.dT []) ∧ Q (.ref p) (upd H2 p (.dT [(k, y)]))
theorem pe_disp1 {X : Cx} {k v : Expr} {pos : Pos} {tk tv : TE} (hu : X.A.units + 1 < cLine) (hk : PE X k tk) (hv : PE X v tv) : PE X (.Dict [some k] [v] pos) (tDisp1 tk tv) := by
  refine ⟨fun pins s σ H Q I q => ?_⟩
  have hn := I.hok.fresh (Nat.le_refl s.heap.objs.size)
  have I1 := I.laid (a := s.heap.objs.size) (o := .dT []) (h' := s.heap.push { cls := .type "dict", data := .dict #[] }) (t' := s.toks) (fun _ _ q => Heap.get?_push_of_some _ q) (Nat.le_refl _) (dt_empty s.heap I.big)
  have shape : (evalEachOpt [some k] X.env).zip ((evalEach [v] X.env).map fun v => do let x ← v; standAt pos; pure x) = (pairTrees [some k] [v] X.env pos).map fun p => (some p.1, p.2) := by rfl
  have room : (tupleKind (mixKind X.prog X.w)).room X.A := show X.A.units < cLine from Nat.lt_of_succ_lt hu
  have go : wpAny (model X.prog X.w) X.A (subDict (pairTrees [some k] [v] X.env pos)) (fun d s' => wpAny (model X.prog X.w) X.A (pure (Value.ref d)) (EP X pins σ Q) X.xe s') X.xe s := by
    refine wpAny_subDictH (knd := tupleKind (mixKind X.prog X.w)) room (by show 1 ≤ 15; decide) ?_
    refine pairTrees_cons_walk (thn (hk.run pins _ σ _ _ I1 (q _ hn)) fun kv s1 ⟨x, H1, I2, rx, q1⟩ => thn (hv.run pins s1 σ H1 _ I2 q1) fun vv s2 ⟨y, H2, I3, ry, b, ks, ex, eb, ep, q2⟩ => pairTrees_nil_walk ?_)
    subst ex
    obtain rfl : kv = Value.ref b := rx
    obtain ⟨z, hd, xs, rel, dd⟩ := dt_of I3.hok ep
    cases rel
    refine ⟨[(ks, b, vv)], ⟨rfl, rfl, key_of I3.hok eb, trivial⟩, dd, fun h' tk dk hs => wpAny_pure ⟨.ref s.heap.objs.size, _, ?_, rfl, q2⟩⟩
    obtain ⟨qo, es, ep', hq, h2, h3, h4, _, h6⟩ := dk
    refine d_write I3 (by rw [ep]; exact True.intro) hs ⟨qo, hq⟩ ⟨by show 1 ≤ sizeLine; decide, hd, [(ks, b, vv)], .cons ⟨rfl, ?_, ry⟩ .nil, qo, es, ep', hq, h2, h3, h4, h6⟩
    rw [upd_ne (ne_of eb ep (fun z => nomatch z))]
    exact eb
  rw [arm_eval_Dict, shape, dictDisplay_pairs _ (by intro z; cases z) (by show 1 < 17; decide)]
  exact wpAny_bind (wpAny_standAt (wpAny_bind go))
end Lq

/-! A layer over HandS: data without addresses. -/
namespace Lp
open PySem PySem.Spec PyProof.Rows L2

/-- data: a flat value, a tuple, a list that nobody changes -/
inductive D where
  | v (x : V)
  | t (xs : List D)
  | l (xs : List D)
abbrev D.int (i : Int) : D := .v (.int i)
abbrev D.str (x : Str) : D := .v (.str x)
abbrev D.bl (b : Bool) : D := .v (.bl b)
def noRef : V → Bool
  | .ref _ => false
  | _ => true
mutual
inductive At (H : Hp) : V → D → Prop
  | v {x : V} (h : noRef x = true) : At H x (.v x)
  | t {a : Addr} {xs : List V} {ds : List D} (h : H a = some (.tup xs)) (g : AtA H xs ds) : At H (.ref a) (.t ds)
  | l {a : Addr} {xs : List V} {ds : List D} (h : H a = some (.lst xs)) (g : AtA H xs ds) : At H (.ref a) (.l ds)
inductive AtA (H : Hp) : List V → List D → Prop
  | nil : AtA H [] []
  | cons {v : V} {vs : List V} {d : D} {ds : List D} (h : At H v d) (g : AtA H vs ds) : AtA H (v :: vs) (d :: ds)
end
/-- tuples and lists stay -/
structure Sq (H H' : Hp) : Prop where
  t : ∀ a xs, H a = some (.tup xs) → H' a = some (.tup xs)
  l : ∀ a xs, H a = some (.lst xs) → H' a = some (.lst xs)
theorem Sq.of {H H' : Hp} (e : Same H H') : Sq H H' := ⟨fun a xs h => e a _ h, fun a xs h => e a _ h⟩
mutual
theorem At.sq {H H' : Hp} (e : Sq H H') : ∀ {v : V} {d : D}, At H v d → At H' v d
  | _, _, .v h => .v h
  | _, _, .t h g => .t (e.t _ _ h) (AtA.sq e g)
  | _, _, .l h g => .l (e.l _ _ h) (AtA.sq e g)
theorem AtA.sq {H H' : Hp} (e : Sq H H') : ∀ {v : List V} {d : List D}, AtA H v d → AtA H' v d
  | _, _, .nil => .nil
  | _, _, .cons h g => .cons (At.sq e h) (AtA.sq e g)
end
theorem At.mono {H H' : Hp} {v : V} {d : D} (h : At H v d) (e : Same H H') : At H' v d := h.sq (.of e)
theorem AtA.mono {H H' : Hp} {v : List V} {d : List D} (h : AtA H v d) (e : Same H H') : AtA H' v d := h.sq (.of e)
theorem AtA.length {H : Hp} : ∀ {vs : List V} {ds : List D}, AtA H vs ds → vs.length = ds.length
  | _, _, .nil => rfl
  | _, _, .cons _ g => congrArg (· + 1) g.length
theorem AtA.get {H : Hp} : ∀ {vs : List V} {ds : List D} {i : Nat} {d : D}, AtA H vs ds → ds[i]? = some d → ∃ v, vs[i]? = some v ∧ At H v d
  | _, _, _, _, .nil, e => by simp at e
  | _, _, 0, _, .cons h g, e => ⟨_, rfl, by
      have e' := Option.some.inj e
      subst e'
      exact h⟩
  | _, _, i + 1, _, .cons h g, e => g.get (i := i) e
theorem AtA.get' {H : Hp} : ∀ {vs : List V} {ds : List D} {i : Nat} {v : V}, AtA H vs ds → vs[i]? = some v → ∃ d, ds[i]? = some d ∧ At H v d
  | _, _, _, _, .nil, e => by simp at e
  | _, _, 0, _, .cons h g, e => ⟨_, rfl, by
      have e' := Option.some.inj e
      subst e'
      exact h⟩
  | _, _, i + 1, _, .cons h g, e => g.get' (i := i) e
theorem AtA.append {H : Hp} : ∀ {vs ws : List V} {ds es : List D}, AtA H vs ds → AtA H ws es → AtA H (vs ++ ws) (ds ++ es)
  | _, _, _, _, .nil, b => b
  | _, _, _, _, .cons h g, b => .cons h (g.append b)
theorem AtA.set {H : Hp} {v : V} {d : D} (q : At H v d) : ∀ {vs : List V} {ds : List D} (i : Nat), AtA H vs ds → AtA H (vs.set i v) (ds.set i d)
  | _, _, _, .nil => .nil
  | _, _, 0, .cons _ g => .cons q g
  | _, _, i + 1, .cons h g => .cons h (AtA.set q i g)
theorem AtA.snoc {H : Hp} {v : V} {d : D} {vs : List V} {ds : List D} (g : AtA H vs ds) (q : At H v d) : AtA H (vs ++ [v]) (ds ++ [d]) := g.append (.cons q .nil)
theorem AtA.reverse {H : Hp} {vs : List V} {ds : List D} (g : AtA H vs ds) : AtA H vs.reverse ds.reverse := by
  induction vs generalizing ds with
  | nil => cases g; exact .nil
  | cons v r ih =>
    cases g with
    | cons h g =>
      rw [List.reverse_cons, List.reverse_cons]
      exact (ih g).snoc h
theorem AtA.vals {H : Hp} : ∀ {vs : List V} {xs : List V}, AtA H vs (xs.map D.v) → vs = xs
  | _, [], .nil => rfl
  | _, _ :: _, .cons (.v _) g => congrArg _ g.vals
theorem AtA.of_vals {H : Hp} : ∀ {xs : List V}, xs.all noRef = true → AtA H xs (xs.map D.v)
  | [], _ => .nil
  | x :: r, h => by
    rw [List.all_cons, Bool.and_eq_true] at h
    exact .cons (.v h.1) (AtA.of_vals h.2)
theorem AtA.ints {H : Hp} {vs : List V} {ns : List Int} (g : AtA H vs (ns.map D.int)) : vs = ns.map V.int := by
  have e : ns.map D.int = (ns.map V.int).map D.v := by rw [List.map_map] <;> rfl
  rw [e] at g
  exact g.vals
theorem AtA.of_ints {H : Hp} (ns : List Int) : AtA H (ns.map V.int) (ns.map D.int) := by
  have e : ns.map D.int = (ns.map V.int).map D.v := by rw [List.map_map] <;> rfl
  rw [e]
  refine AtA.of_vals ?_
  rw [List.all_map, List.all_eq_true]
  intro x _
  rfl

/-- the script: known to the object, or an object of the module -/
def ScOk (K : PySem.W.Frag) (H : Hp) (sc : Addr) (ns : List Int) : Prop := (∃ o, H sc = some (.frz o (.lst (ns.map V.int)))) ∨ ∀ H', SqL K H' sc (ns.map V.int)
/-- the law's row of draws: its list, its cell, its state, its rest -/
def RowOk (K : PySem.W.Frag) (H : Hp) (r : Addr) : Prop := ∃ (sc : Addr) (ns : List Int) (i s c : Int), 0 ≤ i ∧ H r = some (.lst [.ref sc, .int i, .int s, .int c]) ∧ ScOk K H sc ns
/-- where a def stands: the data ahead of it, the heap ahead of it, what it may change -/
structure Wd where
  K : PySem.W.Frag
  B0 : Hp
  H0 : Hp
  M : Addr → Prop
structure Cor (W : Wd) (B H : Hp) : Prop where
  bh : Same B H
  b0 : Same W.B0 B
  h0 : ∀ a o, ¬ W.M a → W.H0 a = some o → H a = some o
  nw : ∀ a o, B a = some o → W.B0 a = some o ∨ W.H0 a = none ∨ ∃ xs, o = .tup xs
  rw' : ∀ a, W.M a → B a = none ∧ RowOk W.K H a
  m0 : ∀ a, W.M a → ∃ o, W.H0 a = some o
theorem Cor.h0n {W : Wd} {B H : Hp} (c : Cor W B H) {a : Addr} (h : H a = none) : W.H0 a = none := by
  cases e : W.H0 a with
  | none => rfl
  | some o =>
    by_cases m : W.M a
    · obtain ⟨_, _, _, _, _, _, _, q, _⟩ := c.rw' a m
      rw [h] at q
      cases q
    · rw [c.h0 a o m e] at h
      cases h
theorem Cor.bn {W : Wd} {B H : Hp} (c : Cor W B H) {a : Addr} (h : H a = none) : B a = none := c.bh.free h
/-- a slot: nothing known, data, a list or a dict of our own, the row -/
inductive Sl where
  | no
  | d (x : D)
  | ol (p : Addr) (xs : List D)
  | od (p : Addr) (kvs : List (List Key × D))
  | fz (p : Addr) (o : Obj) (ks : List (List Key × V)) (kvs : List (List Key × D))
  | row (p : Addr)
def Sl.addr : Sl → Option Addr
  | .ol p _ => some p
  | .od p _ => some p
  | .fz p _ _ _ => some p
  | .row p => some p
  | _ => none
def KvA (B : Hp) : List (List Key × V) → List (List Key × D) → Prop := Paired fun (p : List Key × V) (q : List Key × D) => p.1 = q.1 ∧ At B p.2 q.2
def SlOk (W : Wd) (B H : Hp) (o : Option V) : Sl → Prop
  | .no => True
  | .d x => ∃ v, o = some v ∧ At B v x
  | .ol p xs => o = some (.ref p) ∧ B p = none ∧ W.H0 p = none ∧ ∃ vs, H p = some (.lst vs) ∧ AtA B vs xs
  | .od p kvs => o = some (.ref p) ∧ B p = none ∧ W.H0 p = none ∧ ∃ ks, H p = some (.dT ks) ∧ KvA B ks kvs
  | .fz p ob ks kvs => o = some (.ref p) ∧ B p = none ∧ W.H0 p = none ∧ H p = some (.frz ob (.dT ks)) ∧ KvA B ks kvs
  | .row p => o = some (.ref p) ∧ B p = none ∧ (W.H0 p = none ∨ W.M p) ∧ RowOk W.K H p
structure Rh (W : Wd) (ρ : List Sl) (B : Hp) (σ : L2.St) (H : Hp) : Prop where
  cor : Cor W B H
  len : σ.length = ρ.length
  sl : ∀ (i : Nat) (s : Sl), ρ[i]? = some s → ∃ o, σ[i]? = some o ∧ SlOk W B H o s
  ne : ∀ (i j : Nat) (s t : Sl) (p q : Addr), ρ[i]? = some s → ρ[j]? = some t → s.addr = some p → t.addr = some q → i ≠ j → p ≠ q
/-- all but the rows stays -/
def Fr (ρ : List Sl) (H H' : Hp) : Prop := ∀ a o, H a = some o → (∀ i : Nat, ρ[i]? ≠ some (Sl.row a)) → H' a = some o
theorem Fr.of {ρ : List Sl} {H H' : Hp} (e : Same H H') : Fr ρ H H' := fun a o h _ => e a o h
theorem Fr.trans {ρ : List Sl} {H H1 H2 : Hp} (a : Fr ρ H H1) (b : Fr ρ H1 H2) : Fr ρ H H2 := fun x o h n => b x o (a x o h n) n
/-- no tuple -/
def NoT : HO → Prop
  | .tup _ => False
  | _ => True
theorem Rh.addr_some {W : Wd} {ρ : List Sl} {B : Hp} {σ : L2.St} {H : Hp} (R : Rh W ρ B σ H) {i : Nat} {s : Sl} {p : Addr} (e : ρ[i]? = some s) (ea : s.addr = some p) : ∃ o, H p = some o ∧ B p = none ∧ NoT o := by
  obtain ⟨o, _, q⟩ := R.sl i s e
  cases s with
  | no => cases ea
  | d x => cases ea
  | ol p' xs => cases ea; obtain ⟨_, b, _, vs, h, _⟩ := q; exact ⟨_, h, b, trivial⟩
  | od p' xs => cases ea; obtain ⟨_, b, _, vs, h, _⟩ := q; exact ⟨_, h, b, trivial⟩
  | fz p' ob ks xs => cases ea; obtain ⟨_, b, _, h, _⟩ := q; exact ⟨_, h, b, trivial⟩
  | row p' => cases ea; obtain ⟨_, b, _, _, _, _, _, _, _, h, _⟩ := q; exact ⟨_, h, b, trivial⟩

/-- from here to there: the data stays, all but the rows stays, what is data now was so, or is new, or is a tuple -/
structure Go (ρ : List Sl) (B H B' H' : Hp) : Prop where
  sb : Same B B'
  fr : Fr ρ H H'
  nw : ∀ a o, B' a = some o → B a = some o ∨ H a = none ∨ ∃ xs, o = .tup xs
structure Gs (B H B' H' : Hp) : Prop where
  sb : Same B B'
  sh : Same H H'
  nw : ∀ a o, B' a = some o → B a = some o ∨ H a = none ∨ ∃ xs, o = .tup xs
theorem Gs.go {ρ : List Sl} {B H B' H' : Hp} (g : Gs B H B' H') : Go ρ B H B' H' := ⟨g.sb, .of g.sh, g.nw⟩
theorem Gs.refl {B H : Hp} : Gs B H B H := ⟨Same.refl _, Same.refl _, fun _ _ h => .inl h⟩
theorem Gs.trans {B H B1 H1 B2 H2 : Hp} (a : Gs B H B1 H1) (b : Gs B1 H1 B2 H2) : Gs B H B2 H2 := ⟨a.sb.trans b.sb, a.sh.trans b.sh, fun x o h => by
  rcases b.nw x o h with z | z | z
  · exact a.nw x o z
  · exact .inr (.inl (a.sh.free z))
  · exact .inr (.inr z)⟩
theorem Go.refl {ρ : List Sl} {B H : Hp} : Go ρ B H B H := Gs.refl.go
theorem fr_none {W : Wd} {ρ : List Sl} {B : Hp} {σ : L2.St} {H H' : Hp} (R' : Rh W ρ B σ H') (f : Fr ρ H H') {p : Addr} (hp : H' p = none) : H p = none := by
  cases e : H p with
  | none => rfl
  | some o =>
    by_cases hr : ∀ i : Nat, ρ[i]? ≠ some (Sl.row p)
    · rw [f p o e hr] at hp
      cases hp
    · exact absurd (fun i z => by
        obtain ⟨o', h', _, _⟩ := R'.addr_some z rfl
        rw [hp] at h'
        cases h') hr
theorem Go.trans {W : Wd} {ρ : List Sl} {σ : L2.St} {B H B1 H1 B2 H2 : Hp} (a : Go ρ B H B1 H1) (R : Rh W ρ B1 σ H1) (b : Go ρ B1 H1 B2 H2) : Go ρ B H B2 H2 := ⟨a.sb.trans b.sb, a.fr.trans b.fr, fun x o h => by
  rcases b.nw x o h with z | z | z
  · exact a.nw x o z
  · exact .inr (.inl (fr_none R a.fr z))
  · exact .inr (.inr z)⟩

/-! ### judgements -/
def EvP (W : Wd) (te : TE) (ρ : List Sl) (k : D → Prop) : Prop := ∀ B σ H (Q : VK), Rh W ρ B σ H → (∀ v d B' H', k d → Rh W ρ B' σ H' → Go ρ B H B' H' → At B' v d → Q v H') → te σ H Q
/-- a new list of our own -/
def EvN (W : Wd) (te : TE) (ρ : List Sl) (k : List D → Prop) : Prop := ∀ B σ H (Q : VK), Rh W ρ B σ H →
  (∀ p xs vs B' H', k xs → Rh W ρ B' σ H' → Go ρ B H B' H' → H p = none → B' p = none → H' p = some (.lst vs) → AtA B' vs xs → Q (.ref p) H') → te σ H Q
def EvT (W : Wd) (tt : TT) (ρ : List Sl) (k : Bool → Prop) : Prop := ∀ B σ H (Q : Bool → Hp → Prop), Rh W ρ B σ H → (∀ b B' H', k b → Rh W ρ B' σ H' → Go ρ B H B' H' → Q b H') → tt σ H Q
def EvA (W : Wd) (ta : TA) (ρ : List Sl) (k : List D → Prop) : Prop := ∀ B σ H (Q : List V → Hp → Prop), Rh W ρ B σ H → (∀ vs ds B' H', k ds → Rh W ρ B' σ H' → Go ρ B H B' H' → AtA B' vs ds → Q vs H') → ta σ H Q
def Sm (W : Wd) (ts : TS) (ρ : List Sl) (N : List Sl → Prop) (R : D → Prop) : Prop := ∀ B σ H (Dn : Ends), Rh W ρ B σ H →
  (∀ ρ' B' σ' H', N ρ' → Rh W ρ' B' σ' H' → Same B B' → Dn.nx σ' H') → (∀ v d B' H', R d → Cor W B' H' → Same B B' → At B' v d → Dn.rt v H') → ts Dn σ H
/-- a target takes data; it stores at the slots ts -/
def Bnd (W : Wd) (g : TG) (ts : List Nat) (d : D) (ρ : List Sl) (k : List Sl → Prop) : Prop := ∀ B σ H v (Q : L2.St → Hp → Prop), Rh W ρ B σ H → At B v d →
  (∀ ρ' B' σ' H', k ρ' → Rh W ρ' B' σ' H' → Gs B H B' H' → σ'.length = σ.length → (∀ j : Nat, j ∉ ts → σ'[j]? = σ[j]?) → Q σ' H') → g v σ H Q
def BndA (W : Wd) (g : TGs) (ts : List Nat) (ds : List D) (ρ : List Sl) (k : List Sl → Prop) : Prop := ∀ B σ H vs (Q : L2.St → Hp → Prop), Rh W ρ B σ H → AtA B vs ds →
  (∀ ρ' B' σ' H', k ρ' → Rh W ρ' B' σ' H' → Gs B H B' H' → σ'.length = σ.length → (∀ j : Nat, j ∉ ts → σ'[j]? = σ[j]?) → Q σ' H') → g vs σ H Q
/-- what an iterator gives while C stands: these data in order -/
def Yl (W : Wd) (B : Hp) (C : List Sl → Prop) (J : It) (xs : List D) : Prop := ∀ ρ' B' σ' H' (i : Nat), Rh W ρ' B' σ' H' → Same B B' → C ρ' →
  (i = xs.length → J.stop i H') ∧ ∀ d, xs[i]? = some d → J.go i H' ∧ ∀ v H2, J.yld i H' v H2 → ∃ B2, Rh W ρ' B2 σ' H2 ∧ Gs B' H' B2 H2 ∧ At B2 v d
def SrcC (W : Wd) (wi : TI) (ρ : List Sl) (C : List Sl → Prop) (k : List D → Prop) : Prop := ∀ B σ H (R : It → Hp → Prop), Rh W ρ B σ H → (∀ J xs B1 H1, k xs → Rh W ρ B1 σ H1 → Go ρ B H B1 H1 → Yl W B1 C J xs → R J H1) → wi σ H R
abbrev Src (W : Wd) (wi : TI) (ρ : List Sl) (k : List D → Prop) : Prop := SrcC W wi ρ (fun _ => True) k

/-! ### keeping -/
theorem KvA.mono {B B' : Hp} (e : Same B B') {ks : List (List Key × V)} {kvs : List (List Key × D)} (h : KvA B ks kvs) : KvA B' ks kvs := Paired.mapP h fun _ _ z => ⟨z.1, z.2.mono e⟩
/-- what may change is no frozen thing -/
theorem RowOk.keep' {K : PySem.W.Frag} {H H' : Hp} {r : Addr} (h : RowOk K H r) (X : Addr → Prop) (hr : ¬ X r) (hx : ∀ a, X a → ∀ o xs, H a ≠ some (.frz o (.lst xs))) (e : ∀ a o, ¬ X a → H a = some o → H' a = some o) : RowOk K H' r := by
  obtain ⟨sc, ns, i, s, c, h0, h1, h2⟩ := h
  refine ⟨sc, ns, i, s, c, h0, e _ _ hr h1, ?_⟩
  rcases h2 with ⟨o, h2⟩ | h2
  · exact .inl ⟨o, e _ _ (fun z => hx sc z o _ h2) h2⟩
  · exact .inr h2
theorem RowOk.keep {K : PySem.W.Frag} {H H' : Hp} {r : Addr} (h : RowOk K H r) (e : ∀ a o, H a = some o → H' a = some o) : RowOk K H' r :=
  h.keep' (fun _ => False) (fun z => z) (fun _ z => z.elim) fun a o _ q => e a o q
theorem Rh.keep {W : Wd} {ρ : List Sl} {B B' : Hp} {σ : L2.St} {H H' : Hp} (R : Rh W ρ B σ H) (hb : Same B B') (hh : Same H H') (bh : Same B' H') (nw : ∀ a o, B' a = some o → B a = some o ∨ H a = none ∨ ∃ xs, o = .tup xs) : Rh W ρ B' σ H' := by
  have bn : ∀ p o, H p = some o → NoT o → B p = none → B' p = none := fun p o h nt b => by
    cases e : B' p with
    | none => rfl
    | some x =>
      rcases nw p x e with z | z | ⟨xs, z⟩
      · rw [b] at z; cases z
      · rw [h] at z; cases z
      · subst z
        have z1 := bh _ _ e
        rw [hh _ _ h] at z1
        cases z1
        exact nt.elim
  refine ⟨⟨bh, R.cor.b0.trans hb, fun a o m h => hh _ _ (R.cor.h0 a o m h), fun a o h => ?_, fun a m => ?_, R.cor.m0⟩, R.len, fun i s e => ?_, R.ne⟩
  · rcases nw a o h with z | z | z
    · exact R.cor.nw a o z
    · exact .inr (.inl (R.cor.h0n z))
    · exact .inr (.inr z)
  · obtain ⟨b, q⟩ := R.cor.rw' a m
    obtain ⟨_, _, _, _, _, _, h1, _⟩ := id q
    exact ⟨bn _ _ h1 trivial b, q.keep hh⟩
  · obtain ⟨o, e1, q⟩ := R.sl i s e
    refine ⟨o, e1, ?_⟩
    cases s with
    | no => trivial
    | d x => obtain ⟨v, e2, a⟩ := q; exact ⟨v, e2, a.mono hb⟩
    | ol p xs => obtain ⟨e2, b, h0, vs, h, g⟩ := q; exact ⟨e2, bn _ _ h trivial b, h0, vs, hh _ _ h, g.mono hb⟩
    | od p kvs => obtain ⟨e2, b, h0, vs, h, g⟩ := q; exact ⟨e2, bn _ _ h trivial b, h0, vs, hh _ _ h, g.mono hb⟩
    | fz p ob ks kvs => obtain ⟨e2, b, h0, h, g⟩ := q; exact ⟨e2, bn _ _ h trivial b, h0, hh _ _ h, g.mono hb⟩
    | row p =>
      obtain ⟨e2, b, h0, q⟩ := q
      obtain ⟨_, _, _, _, _, _, h1, _⟩ := id q
      exact ⟨e2, bn _ _ h1 trivial b, h0, q.keep hh⟩
/-- new data at q -/
theorem same_new {H : Hp} {p : Addr} {o : HO} (h : H p = none) : Same H (upd H p o) := fun b x e => by
  rw [upd_ne (ne_of_none e h)]
  exact e
theorem same_upd2 {B H : Hp} {p : Addr} {o : HO} (e : Same B H) : Same (upd B p o) (upd H p o) := fun b x h => by
  by_cases hb : b = p
  · subst hb
    rw [upd_same] at h ⊢
    exact h
  · rw [upd_ne hb] at h ⊢
    exact e b x h
theorem Gs.data {B H : Hp} {q : Addr} {o : HO} (h : H q = none) (hb : B q = none) : Gs B H (upd B q o) (upd H q o) := ⟨same_new hb, same_new h, fun a x e => by
    by_cases ha : a = q
    · subst ha
      exact .inr (.inl h)
    · rw [upd_ne ha] at e
      exact .inl e⟩
theorem Gs.fresh {B H : Hp} {q : Addr} {o : HO} (h : H q = none) : Gs B H B (upd H q o) := ⟨Same.refl _, same_new h, fun a x e => .inl e⟩
theorem Rh.keepG {W : Wd} {ρ : List Sl} {B B' : Hp} {σ : L2.St} {H H' : Hp} (R : Rh W ρ B σ H) (g : Gs B H B' H') (bh : Same B' H') : Rh W ρ B' σ H' := R.keep g.sb g.sh bh g.nw
theorem Rh.data {W : Wd} {ρ : List Sl} {B : Hp} {σ : L2.St} {H : Hp} (R : Rh W ρ B σ H) {q : Addr} {o : HO} (h : H q = none) : Rh W ρ (upd B q o) σ (upd H q o) :=
  R.keep (same_new (R.cor.bn h)) (same_new h) (same_upd2 R.cor.bh) fun a x e => by
    by_cases ha : a = q
    · subst ha
      exact .inr (.inl h)
    · rw [upd_ne ha] at e
      exact .inl e
/-- a new object that is no data -/
theorem Rh.fresh {W : Wd} {ρ : List Sl} {B : Hp} {σ : L2.St} {H : Hp} (R : Rh W ρ B σ H) {q : Addr} {o : HO} (h : H q = none) : Rh W ρ B σ (upd H q o) :=
  R.keep (Same.refl _) (same_new h) (fun a x e => same_new h a x (R.cor.bh a x e)) fun a x e => .inl e
/-- our own list becomes data -/
theorem Rh.freeze {W : Wd} {ρ : List Sl} {B : Hp} {σ : L2.St} {H : Hp} (R : Rh W ρ B σ H) {q : Addr} {o : HO} (h : H q = some o) (hb : B q = none) (h0 : W.H0 q = none) (hs : ∀ (i : Nat) (s : Sl), ρ[i]? = some s → s.addr ≠ some q) : Rh W ρ (upd B q o) σ H := by
  have sb : Same B (upd B q o) := same_new hb
  have bn : ∀ p, p ≠ q → B p = none → upd B q o p = none := fun p n b => by rw [upd_ne n]; exact b
  refine ⟨⟨fun a x e => ?_, R.cor.b0.trans sb, R.cor.h0, fun a x e => ?_, fun a m => ?_, R.cor.m0⟩, R.len, fun i s e => ?_, R.ne⟩
  · by_cases ha : a = q
    · subst ha
      rw [upd_same] at e
      cases e
      exact h
    · rw [upd_ne ha] at e
      exact R.cor.bh a x e
  · by_cases ha : a = q
    · subst ha
      exact .inr (.inl h0)
    · rw [upd_ne ha] at e
      exact R.cor.nw a x e
  · obtain ⟨b, z⟩ := R.cor.rw' a m
    refine ⟨bn a (fun e => ?_) b, z⟩
    subst e
    obtain ⟨o', e'⟩ := R.cor.m0 a m
    rw [h0] at e'
    cases e'
  · obtain ⟨w, e1, z⟩ := R.sl i s e
    refine ⟨w, e1, ?_⟩
    have hs' := hs i s e
    cases s with
    | no => trivial
    | d x => obtain ⟨v, e2, a⟩ := z; exact ⟨v, e2, a.mono sb⟩
    | ol p xs => obtain ⟨e2, b, h0, vs, h, g⟩ := z; exact ⟨e2, bn _ (fun z => hs' (by rw [z]; rfl)) b, h0, vs, h, g.mono sb⟩
    | od p kvs => obtain ⟨e2, b, h0, vs, h, g⟩ := z; exact ⟨e2, bn _ (fun z => hs' (by rw [z]; rfl)) b, h0, vs, h, g.mono sb⟩
    | fz p ob ks kvs => obtain ⟨e2, b, h0, h, g⟩ := z; exact ⟨e2, bn _ (fun z => hs' (by rw [z]; rfl)) b, h0, h, g.mono sb⟩
    | row p => obtain ⟨e2, b, h0, z⟩ := z; exact ⟨e2, bn _ (fun z => hs' (by rw [z]; rfl)) b, h0, z⟩
/-- a tuple that stands becomes data -/
theorem Rh.know {W : Wd} {ρ : List Sl} {B : Hp} {σ : L2.St} {H : Hp} (R : Rh W ρ B σ H) {b : Addr} {xs : List V} (h : H b = some (.tup xs)) : ∃ B', Rh W ρ B' σ H ∧ Gs B H B' H ∧ B' b = some (.tup xs) := by
  cases e : B b with
  | some o =>
    have e2 := R.cor.bh _ _ e
    rw [h] at e2
    cases e2
    exact ⟨B, R, .refl, e⟩
  | none =>
    have g : Gs B H (upd B b (.tup xs)) H := ⟨same_new e, Same.refl _, fun a o q => by
      by_cases ha : a = b
      · subst ha
        rw [upd_same] at q
        cases q
        exact .inr (.inr ⟨_, rfl⟩)
      · rw [upd_ne ha] at q
        exact .inl q⟩
    refine ⟨upd B b (.tup xs), R.keepG g (fun a o q => ?_), g, upd_same⟩
    by_cases ha : a = b
    · subst ha
      rw [upd_same] at q
      cases q
      exact h
    · rw [upd_ne ha] at q
      exact R.cor.bh a o q
end Lp

namespace Lp
open PySem PySem.Spec PyProof.Rows L2
variable {W : Wd} {ρ : List Sl}
/-! ### expressions -/
theorem evp_mono {te : TE} {k k' : D → Prop} (h : EvP W te ρ k) (e : ∀ d, k d → k' d) : EvP W te ρ k' := fun B σ H Q R q =>
  h B σ H Q R fun v d B' H' kd => q v d B' H' (e d kd)
theorem evp_var {i : Nat} {x : D} {k : D → Prop} (h : ρ[i]? = some (.d x)) (hk : k x) : EvP W (tVar i) ρ k := fun B σ H Q R q => by
  obtain ⟨o, e, v, rfl, a⟩ := R.sl i _ h
  exact ⟨v, e, q v x B H hk R .refl a⟩
theorem evp_c {v : V} {k : D → Prop} (hk : k (.v v)) (hv : noRef v = true := by rfl) : EvP W (tC v) ρ k := fun B σ H Q R q =>
  q v _ B H hk R .refl (.v hv)
/-- two operands -/
theorem two {ta tb : TE} {B : Hp} {σ : L2.St} {H : Hp} {k : D → D → Prop} {G : V → V → Hp → Prop} (R : Rh W ρ B σ H) (h : EvP W ta ρ fun x => EvP W tb ρ fun y => k x y)
    (q : ∀ v u x y B' H', k x y → Rh W ρ B' σ H' → Go ρ B H B' H' → At B' v x → At B' u y → G v u H') : ta σ H fun v H1 => tb σ H1 fun u H2 => G v u H2 :=
  h B σ H _ R fun v x B1 H1 k1 R1 g1 a1 => k1 B1 σ H1 _ R1 fun u y B2 H2 k2 R2 g2 a2 => q v u x y B2 H2 k2 R2 (g1.trans R1 g2) (a1.mono g2.sb) a2
theorem at_int {B : Hp} {v : V} {i : Int} (h : At B v (.int i)) : v = .int i := by
  cases h
  rfl
theorem at_v {B : Hp} {v x : V} (h : At B v (.v x)) : v = x ∧ noRef x = true := by
  cases h with
  | v h => exact ⟨rfl, h⟩
theorem at_t {B : Hp} {v : V} {ds : List D} (h : At B v (.t ds)) : ∃ a xs, v = .ref a ∧ B a = some (.tup xs) ∧ AtA B xs ds := by
  cases h with
  | t h g => exact ⟨_, _, rfl, h, g⟩
theorem at_l {B : Hp} {v : V} {ds : List D} (h : At B v (.l ds)) : ∃ a xs, v = .ref a ∧ B a = some (.lst xs) ∧ AtA B xs ds := by
  cases h with
  | l h g => exact ⟨_, _, rfl, h, g⟩
theorem evp_I0 {g : Int → Int → V} {ta tb : TE} {k : D → Prop} (h : EvP W ta ρ fun x => EvP W tb ρ fun y => ∃ i j, x = .int i ∧ y = .int j ∧ k (.v (g i j))) (hg : ∀ i j, noRef (g i j) = true := by intros; rfl) :
    EvP W (tOp (rI0 g) ta tb) ρ k := fun B σ H Q R q => two (G := fun v u H => rI0 g v u H Q) R h fun v u x y B' H' ⟨i, j, e1, e2, hk⟩ R' gg a b => by
  subst e1 e2
  rw [at_int a, at_int b]
  exact ⟨i, j, rfl, rfl, q _ _ B' H' hk R' gg (.v (hg i j))⟩
theorem evp_I {C : Int → Int → Prop} {g : Int → Int → V} {ta tb : TE} {k : D → Prop} (h : EvP W ta ρ fun x => EvP W tb ρ fun y => ∃ i j, x = .int i ∧ y = .int j ∧ C i j ∧ k (.v (g i j))) (hg : ∀ i j, noRef (g i j) = true := by intros; rfl) :
    EvP W (tOp (rI C g) ta tb) ρ k := fun B σ H Q R q => two (G := fun v u H => rI C g v u H Q) R h fun v u x y B' H' ⟨i, j, e1, e2, hc, hk⟩ R' gg a b => by
  subst e1 e2
  rw [at_int a, at_int b]
  exact ⟨i, j, rfl, rfl, hc, q _ _ B' H' hk R' gg (.v (hg i j))⟩
theorem evp_un {g : Int → V} {ta : TE} {k : D → Prop} (h : EvP W ta ρ fun x => ∃ i, x = .int i ∧ k (.v (g i))) (hg : ∀ i, noRef (g i) = true := by intros; rfl) : EvP W (tUn (rU g) ta) ρ k := fun B σ H Q R q =>
  h B σ H _ R fun v d B' H' ⟨i, e, hk⟩ R' gg a => by
    subst e
    rw [at_int a]
    exact ⟨i, rfl, q _ _ B' H' hk R' gg (.v (hg i))⟩
theorem evp_eq {ta tb : TE} {k : D → Prop} (h : EvP W ta ρ fun x => EvP W tb ρ fun y => ∃ a b, x = .v a ∧ y = .v b ∧ scal a b = true ∧ k (.bl (decide (a = b)))) : EvP W (tOp rEq ta tb) ρ k := fun B σ H Q R q =>
  two (G := fun v u H => rEq v u H Q) R h fun v u x y B' H' ⟨i, j, e1, e2, hc, hk⟩ R' gg a b => by
    subst e1 e2
    rw [(at_v a).1, (at_v b).1]
    exact ⟨hc, q _ _ B' H' hk R' gg (.v rfl)⟩
theorem evp_ne {ta tb : TE} {k : D → Prop} (h : EvP W ta ρ fun x => EvP W tb ρ fun y => ∃ a b, x = .v a ∧ y = .v b ∧ scal a b = true ∧ k (.bl (!decide (a = b)))) : EvP W (tOp rNe ta tb) ρ k := fun B σ H Q R q =>
  two (G := fun v u H => rNe v u H Q) R h fun v u x y B' H' ⟨i, j, e1, e2, hc, hk⟩ R' gg a b => by
    subst e1 e2
    rw [(at_v a).1, (at_v b).1]
    exact ⟨hc, q _ _ B' H' hk R' gg (.v rfl)⟩
theorem evp_eqI {ta tb : TE} {k : D → Prop} (h : EvP W ta ρ fun x => EvP W tb ρ fun y => ∃ i j : Int, x = .int i ∧ y = .int j ∧ k (.bl (decide (i = j)))) : EvP W (tOp rEq ta tb) ρ k :=
  evp_eq (evp_mono h fun x hx => evp_mono hx fun y ⟨i, j, e1, e2, hk⟩ => ⟨_, _, e1, e2, rfl, by
    have e : decide (V.int i = V.int j) = decide (i = j) := by rw [dec_int, Bool.beq_eq_decide_eq]
    rw [e]
    exact hk⟩)
theorem evp_neI {ta tb : TE} {k : D → Prop} (h : EvP W ta ρ fun x => EvP W tb ρ fun y => ∃ i j : Int, x = .int i ∧ y = .int j ∧ k (.bl (!decide (i = j)))) : EvP W (tOp rNe ta tb) ρ k :=
  evp_ne (evp_mono h fun x hx => evp_mono hx fun y ⟨i, j, e1, e2, hk⟩ => ⟨_, _, e1, e2, rfl, by
    have e : decide (V.int i = V.int j) = decide (i = j) := by rw [dec_int, Bool.beq_eq_decide_eq]
    rw [e]
    exact hk⟩)
theorem evp_isN {ta tb : TE} {k : D → Prop} (h : EvP W ta ρ fun x => EvP W tb ρ fun y => y = .v .non ∧ ((∃ a, x = .v a ∧ k (.bl (decide (a = .non)))) ∨ (∃ ds, x = .t ds ∧ k (.bl false)))) : EvP W (tOp (fun x y H Q => y = .non ∧ Q (.bl (decide (x = .non))) H) ta tb) ρ k := fun B σ H Q R q =>
  two (G := fun v u H => u = .non ∧ Q (.bl (decide (v = .non))) H) R h fun v u x y B' H' ⟨e2, hx⟩ R' gg a b => by
    subst e2
    refine ⟨(at_v b).1, ?_⟩
    rcases hx with ⟨c, rfl, hk⟩ | ⟨ds, rfl, hk⟩
    · rw [(at_v a).1]
      exact q _ _ B' H' hk R' gg (.v rfl)
    · obtain ⟨p, xs, rfl, _, _⟩ := at_t a
      exact q _ _ B' H' hk R' gg (.v rfl)
theorem evp_notN {ta tb : TE} {k : D → Prop} (h : EvP W ta ρ fun x => EvP W tb ρ fun y => y = .v .non ∧ ((∃ a, x = .v a ∧ k (.bl (!decide (a = .non)))) ∨ (∃ ds, x = .t ds ∧ k (.bl true)))) : EvP W (tOp (fun x y H Q => y = .non ∧ Q (.bl (!decide (x = .non))) H) ta tb) ρ k := fun B σ H Q R q =>
  two (G := fun v u H => u = .non ∧ Q (.bl (!decide (v = .non))) H) R h fun v u x y B' H' ⟨e2, hx⟩ R' gg a b => by
    subst e2
    refine ⟨(at_v b).1, ?_⟩
    rcases hx with ⟨c, rfl, hk⟩ | ⟨ds, rfl, hk⟩
    · rw [(at_v a).1]
      exact q _ _ B' H' hk R' gg (.v rfl)
    · obtain ⟨p, xs, rfl, _, _⟩ := at_t a
      exact q _ _ B' H' hk R' gg (.v rfl)
/-! ### argument lists, displays -/
theorem eva_nil {k : List D → Prop} (hk : k []) : EvA W tNil ρ k := fun B σ H Q R q => q [] [] B H hk R .refl .nil
theorem eva_cons {ta : TE} {tr : TA} {k : List D → Prop} (h : EvP W ta ρ fun d => EvA W tr ρ fun ds => k (d :: ds)) : EvA W (tCons ta tr) ρ k := fun B σ H Q R q =>
  h B σ H _ R fun v d B1 H1 k1 R1 g1 a1 => k1 B1 σ H1 _ R1 fun vs ds B2 H2 k2 R2 g2 a2 => q (v :: vs) (d :: ds) B2 H2 k2 R2 (g1.trans R1 g2) (.cons (a1.mono g2.sb) a2)
theorem evp_tup {ta : TA} {k : D → Prop} (h : EvA W ta ρ fun ds => ds.length ≤ 1000 ∧ k (.t ds)) : EvP W (tTup ta) ρ k := fun B σ H Q R q =>
  h B σ H _ R fun vs ds B1 H1 ⟨hl, hk⟩ R1 g1 a1 => ⟨by rw [a1.length]; exact Nat.le_of_lt (small1000 hl), fun p hp => by
    have hB := R1.cor.bn hp
    exact q (.ref p) (.t ds) (upd B1 p (.tup vs)) _ hk (R1.data hp) (g1.trans R1 (Gs.data hp hB).go) (.t upd_same (a1.mono (same_new hB)))⟩
theorem evn_lst {ta : TA} {k : List D → Prop} (h : EvA W ta ρ fun ds => ds.length ≤ 1000 ∧ k ds) : EvN W (tLst ta) ρ k := fun B σ H Q R q =>
  h B σ H _ R fun vs ds B1 H1 ⟨hl, hk⟩ R1 g1 a1 => ⟨by rw [a1.length]; exact Nat.le_of_lt (small1000 hl), fun p hp =>
    q p ds vs B1 _ hk (R1.fresh hp) (g1.trans R1 (Gs.fresh hp).go) (by
      cases e : H p with
      | none => rfl
      | some o =>
        by_cases hr : ∀ i : Nat, ρ[i]? ≠ some (Sl.row p)
        · rw [g1.fr p o e hr] at hp
          cases hp
        · exact absurd (fun i z => by
            obtain ⟨o', h', _, _⟩ := R1.addr_some z rfl
            rw [hp] at h'
            cases h') hr) (R1.cor.bn hp) upd_same a1⟩
theorem new_ne {B : Hp} {σ : L2.St} {H : Hp} (R : Rh W ρ B σ H) {p : Addr} (hp : H p = none) : ∀ (i : Nat) (s : Sl), ρ[i]? = some s → s.addr ≠ some p := fun i s e z => by
  obtain ⟨o, h, _, _⟩ := R.addr_some e z
  rw [hp] at h
  cases h
theorem evp_of_n {te : TE} {k : D → Prop} (h : EvN W te ρ fun xs => k (.l xs)) : EvP W te ρ k := fun B σ H Q R q =>
  h B σ H _ R fun p xs vs B' H' hk R' gg h0 hb hp a =>
    q (.ref p) (.l xs) (upd B' p (.lst vs)) H' hk (R'.freeze hp hb (R.cor.h0n h0) (new_ne R h0)) ⟨gg.sb.trans (same_new hb), gg.fr, fun a x e => by
      by_cases ha : a = p
      · subst ha
        exact .inr (.inl h0)
      · rw [upd_ne ha] at e
        exact gg.nw a x e⟩ (.l upd_same (a.mono (same_new hb)))
theorem evn_mono {te : TE} {k k' : List D → Prop} (h : EvN W te ρ k) (e : ∀ d, k d → k' d) : EvN W te ρ k' := fun B σ H Q R q =>
  h B σ H Q R fun p xs vs B' H' kd => q p xs vs B' H' (e _ kd)
/-! ### tests -/
theorem evt_test {te : TE} {k : Bool → Prop} (h : EvP W te ρ fun d => ∃ b, d = .bl b ∧ k b) : EvT W (tTest te) ρ k := fun B σ H Q R q =>
  h B σ H _ R fun v d B' H' ⟨b, e, hk⟩ R' gg a => by
    subst e
    exact ⟨b, (at_v a).1, q b B' H' hk R' gg⟩
theorem evt_B {te : TE} {k : Bool → Prop} (h : EvP W te ρ fun d => ∃ b, d = .bl b ∧ k b) : EvT W (tB te) ρ k := evt_test h
theorem evt_not {t : TT} {k : Bool → Prop} (h : EvT W t ρ fun b => k (!b)) : EvT W (tNot t) ρ k := fun B σ H Q R q => h B σ H _ R fun b B' H' hk R' gg => q (!b) B' H' hk R' gg
theorem evt_and {t u : TT} {k : Bool → Prop} (h : EvT W t ρ fun b => (b = true → EvT W u ρ k) ∧ (b = false → k false)) : EvT W (tAnd t u) ρ k := fun B σ H Q R q => h B σ H _ R fun b B1 H1 hk R1 g1 => by
  cases b with
  | true => exact hk.1 rfl B1 σ H1 Q R1 fun b B2 H2 k2 R2 g2 => q b B2 H2 k2 R2 (g1.trans R1 g2)
  | false => exact q false B1 H1 (hk.2 rfl) R1 g1
theorem evt_or {t u : TT} {k : Bool → Prop} (h : EvT W t ρ fun b => (b = false → EvT W u ρ k) ∧ (b = true → k true)) : EvT W (tOr t u) ρ k := fun B σ H Q R q => h B σ H _ R fun b B1 H1 hk R1 g1 => by
  cases b with
  | false => exact hk.1 rfl B1 σ H1 Q R1 fun b B2 H2 k2 R2 g2 => q b B2 H2 k2 R2 (g1.trans R1 g2)
  | true => exact q true B1 H1 (hk.2 rfl) R1 g1
theorem evp_andV {ta tb : TE} {k : D → Prop} (h : EvP W ta ρ fun d => ∃ b, d = .bl b ∧ (b = true → EvP W tb ρ k) ∧ (b = false → k (.bl false))) : EvP W (tAndV ta tb) ρ k := fun B σ H Q R q =>
  h B σ H _ R fun v d B1 H1 ⟨b, e, hk⟩ R1 g1 a => by
    subst e
    refine ⟨b, (at_v a).1, ?_⟩
    cases b with
    | true => exact hk.1 rfl B1 σ H1 Q R1 fun v d B2 H2 k2 R2 g2 => q v d B2 H2 k2 R2 (g1.trans R1 g2)
    | false => exact q _ _ B1 H1 (hk.2 rfl) R1 g1 (.v rfl)
theorem evp_notV {ta : TE} {k : D → Prop} (h : EvP W ta ρ fun d => ∃ b, d = .bl b ∧ k (.bl (!b))) : EvP W (tNotV ta) ρ k := fun B σ H Q R q =>
  h B σ H _ R fun v d B1 H1 ⟨b, e, hk⟩ R1 g1 a => by
    subst e
    exact ⟨b, (at_v a).1, q _ _ B1 H1 hk R1 g1 (.v rfl)⟩
theorem evp_if {t : TT} {ta tb : TE} {k : D → Prop} (h : EvT W t ρ fun b => (b = true → EvP W ta ρ k) ∧ (b = false → EvP W tb ρ k)) : EvP W (tIf t ta tb) ρ k := fun B σ H Q R q => h B σ H _ R fun b B1 H1 hk R1 g1 => by
  cases b with
  | true => exact hk.1 rfl B1 σ H1 Q R1 fun v d B2 H2 k2 R2 g2 => q v d B2 H2 k2 R2 (g1.trans R1 g2)
  | false => exact hk.2 rfl B1 σ H1 Q R1 fun v d B2 H2 k2 R2 g2 => q v d B2 H2 k2 R2 (g1.trans R1 g2)
/-! ### items -/
theorem atI_at {B : Hp} {vs : List V} {ds : List D} (g : AtA B vs ds) {i : Int} {d : D} (h : atI ds i = some d) : ∃ v, atI vs i = some v ∧ At B v d := by
  unfold atI at h ⊢
  rw [g.length]
  cases e : ixN ds.length i with
  | none =>
    rw [e] at h
    cases h
  | some j =>
    rw [e] at h
    exact g.get h
theorem evp_ixT {ta tb : TE} {k : D → Prop} (h : EvP W ta ρ fun x => EvP W tb ρ fun y => ∃ xs i d, x = .t xs ∧ y = .int i ∧ atI xs i = some d ∧ k d) : EvP W (tOp (rIxT W.K) ta tb) ρ k := fun B σ H Q R q =>
  two (G := fun v u H => rIxT W.K v u H Q) R h fun v u x y B' H' ⟨xs, i, d, e1, e2, hd, hk⟩ R' gg a b => by
    subst e1 e2
    obtain ⟨p, vs, rfl, hp, g⟩ := at_t a
    obtain ⟨w, hw, aw⟩ := atI_at g hd
    rw [at_int b]
    exact ⟨p, vs, i, w, rfl, rfl, .of (R'.cor.bh _ _ hp), hw, q w d B' H' hk R' gg aw⟩
theorem evp_ixL {ta tb : TE} {k : D → Prop} (h : EvP W ta ρ fun x => EvP W tb ρ fun y => ∃ xs i d, x = .l xs ∧ y = .int i ∧ atI xs i = some d ∧ k d) : EvP W (tOp (rIxL W.K) ta tb) ρ k := fun B σ H Q R q =>
  two (G := fun v u H => rIxL W.K v u H Q) R h fun v u x y B' H' ⟨xs, i, d, e1, e2, hd, hk⟩ R' gg a b => by
    subst e1 e2
    obtain ⟨p, vs, rfl, hp, g⟩ := at_l a
    obtain ⟨w, hw, aw⟩ := atI_at g hd
    rw [at_int b]
    exact ⟨p, vs, i, w, rfl, rfl, .of (R'.cor.bh _ _ hp), hw, q w d B' H' hk R' gg aw⟩
/-- an item of a list of our own -/
theorem evp_ixO {i : Nat} {p : Addr} {xs : List D} {tb : TE} {k : D → Prop} (h : ρ[i]? = some (.ol p xs)) (hb : EvP W tb ρ fun y => ∃ j d, y = .int j ∧ atI xs j = some d ∧ k d) : EvP W (tOp (rIxL W.K) (tVar i) tb) ρ k := fun B σ H Q R q => by
  obtain ⟨o, e, rfl, _⟩ := R.sl i _ h
  refine ⟨_, e, ?_⟩
  refine hb B σ H _ R fun u y B' H' ⟨j, d, e2, hd, hk⟩ R' gg b => ?_
  subst e2
  obtain ⟨_, _, rfl, b', _, vs, hp, g⟩ := R'.sl i _ h
  obtain ⟨w, hw, aw⟩ := atI_at g hd
  rw [at_int b]
  exact ⟨p, vs, j, w, rfl, rfl, .of hp, hw, q w d B' H' hk R' gg aw⟩
/-- the new lists out of a list of our own, out of data -/
theorem tupOf (xs : List D) : True := trivial
theorem evp_tupO {i : Nat} {p : Addr} {xs : List D} {k : D → Prop} (h : ρ[i]? = some (.ol p xs)) (hk : k (.t xs)) :
    EvP W (tCB (fun xs H Q => ∃ p ys, xs = [.ref p] ∧ ((SqL W.K H p ys ∧ ∀ l, H l = none → Q (.ref l) (upd H l (.tup ys))) ∨ (SqT W.K H p ys ∧ Q (.ref p) H))) (tCons (tVar i) tNil)) ρ k := fun B σ H Q R q => by
  obtain ⟨o, e, rfl, b', _, vs, hp, g⟩ := R.sl i _ h
  refine ⟨_, e, p, vs, rfl, .inl ⟨.of hp, fun l hl => ?_⟩⟩
  have hB := R.cor.bn hl
  exact q (.ref l) _ (upd B l (.tup vs)) _ hk (R.data hl) (Gs.data hl hB).go (.t upd_same (g.mono (same_new hB)))
theorem evp_tupL {ta : TE} {k : D → Prop} (h : EvP W ta ρ fun x => ∃ xs, x = .l xs ∧ k (.t xs)) :
    EvP W (tCB (fun xs H Q => ∃ p ys, xs = [.ref p] ∧ ((SqL W.K H p ys ∧ ∀ l, H l = none → Q (.ref l) (upd H l (.tup ys))) ∨ (SqT W.K H p ys ∧ Q (.ref p) H))) (tCons ta tNil)) ρ k := fun B σ H Q R q =>
  h B σ H _ R fun v x B1 H1 ⟨xs, e, hk⟩ R1 g1 a => by
    subst e
    obtain ⟨p, vs, rfl, hp, g⟩ := at_l a
    refine ⟨p, vs, rfl, .inl ⟨.of (R1.cor.bh _ _ hp), fun l hl => ?_⟩⟩
    have hB := R1.cor.bn hl
    exact q (.ref l) _ (upd B1 l (.tup vs)) _ hk (R1.data hl) (g1.trans R1 (Gs.data hl hB).go) (.t upd_same (g.mono (same_new hB)))
theorem evn_listT {ta : TE} {k : List D → Prop} (h : EvP W ta ρ fun x => ∃ xs, x = .t xs ∧ k xs) :
    EvN W (tCB (fun xs H Q => ∃ p ys, xs = [.ref p] ∧ (SqL W.K H p ys ∨ SqT W.K H p ys) ∧ ∀ l, H l = none → Q (.ref l) (upd H l (.lst ys))) (tCons ta tNil)) ρ k := fun B σ H Q R q =>
  h B σ H _ R fun v x B1 H1 ⟨xs, e, hk⟩ R1 g1 a => by
    subst e
    obtain ⟨p, vs, rfl, hp, g⟩ := at_t a
    exact ⟨p, vs, rfl, .inr (.of (R1.cor.bh _ _ hp)), fun l hl => q l xs vs B1 _ hk (R1.fresh hl) (g1.trans R1 (Gs.fresh hl).go) (fr_none R1 g1.fr hl) (R1.cor.bn hl) upd_same g⟩
/-- xs[::-1] -/
theorem evn_revO {i : Nat} {p : Addr} {xs : List D} {k : List D → Prop} (h : ρ[i]? = some (.ol p xs)) (hk : k xs.reverse) : EvN W (tRevL W.K (tVar i)) ρ k := fun B σ H Q R q => by
  obtain ⟨o, e, rfl, b', _, vs, hp, g⟩ := R.sl i _ h
  exact ⟨_, e, p, vs, rfl, .of hp, fun l hl => q l _ _ B _ hk (R.fresh hl) (Gs.fresh hl).go hl (R.cor.bn hl) upd_same g.reverse⟩
theorem evn_revL {ta : TE} {k : List D → Prop} (h : EvP W ta ρ fun x => ∃ xs, x = .l xs ∧ k xs.reverse) : EvN W (tRevL W.K ta) ρ k := fun B σ H Q R q =>
  h B σ H _ R fun v x B1 H1 ⟨xs, e, hk⟩ R1 g1 a => by
    subst e
    obtain ⟨p, vs, rfl, hp, g⟩ := at_l a
    exact ⟨p, vs, rfl, .of (R1.cor.bh _ _ hp), fun l hl => q l _ _ B1 _ hk (R1.fresh hl) (g1.trans R1 (Gs.fresh hl).go) (fr_none R1 g1.fr hl) (R1.cor.bn hl) upd_same g.reverse⟩
/-- a + b, a * k of lists -/
theorem evn_cat {ta tb : TE} {k : List D → Prop} (h : EvP W ta ρ fun x => EvP W tb ρ fun y => ∃ xs ys, x = .l xs ∧ y = .l ys ∧ xs.length + ys.length ≤ 1000 ∧ k (xs ++ ys)) : EvN W (tOp rCat ta tb) ρ k := fun B σ H Q R q =>
  two (G := fun v u H => rCat v u H Q) R h fun v u x y B1 H1 ⟨xs, ys, e1, e2, hl, hk⟩ R1 g1 a b => by
    subst e1 e2
    obtain ⟨p, vs, rfl, hp, g⟩ := at_l a
    obtain ⟨p2, vs2, rfl, hp2, g2⟩ := at_l b
    exact ⟨p, p2, vs, vs2, rfl, rfl, R1.cor.bh _ _ hp, R1.cor.bh _ _ hp2, by rw [g.length, g2.length]; exact Nat.le_of_lt (small1000 hl), fun l hl => q l _ _ B1 _ hk (R1.fresh hl) (g1.trans R1 (Gs.fresh hl).go) (fr_none R1 g1.fr hl) (R1.cor.bn hl) upd_same (g.append g2)⟩
end Lp

namespace Lp
open PySem PySem.Spec PyProof.Rows L2
variable {W : Wd} {ρ : List Sl}
/-! ### slots -/
theorem Rh.put {B : Hp} {σ : L2.St} {H : Hp} (R : Rh W ρ B σ H) (i : Nat) (o : Option V) (s : Sl) (h : SlOk W B H o s) (hn : ∀ p, s.addr = some p → ∀ (j : Nat) (t : Sl), j ≠ i → ρ[j]? = some t → t.addr ≠ some p) : Rh W (ρ.set i s) B (σ.set i o) H := by
  refine ⟨R.cor, by rw [List.length_set, List.length_set, R.len], fun j t e => ?_, fun j k t u p q e1 e2 a1 a2 hjk => ?_⟩
  · by_cases hj : j = i
    · subst hj
      have hl : j < ρ.length := by
        have := (List.getElem?_eq_some_iff.mp e).1
        rwa [List.length_set] at this
      rw [List.getElem?_set_self hl] at e
      cases e
      exact ⟨o, List.getElem?_set_self (by rw [R.len]; exact hl), h⟩
    · rw [List.getElem?_set_ne (Ne.symm hj)] at e
      rw [List.getElem?_set_ne (Ne.symm hj)]
      exact R.sl j t e
  · by_cases hj : j = i
    · subst hj
      have hl : j < ρ.length := by
        have := (List.getElem?_eq_some_iff.mp e1).1
        rwa [List.length_set] at this
      rw [List.getElem?_set_self hl] at e1
      cases e1
      rw [List.getElem?_set_ne hjk] at e2
      intro z
      subst z
      exact hn p a1 k u (Ne.symm hjk) e2 a2
    · rw [List.getElem?_set_ne (Ne.symm hj)] at e1
      by_cases hk : k = i
      · subst hk
        have hl : k < ρ.length := by
          have := (List.getElem?_eq_some_iff.mp e2).1
          rwa [List.length_set] at this
        rw [List.getElem?_set_self hl] at e2
        cases e2
        intro z
        subst z
        exact hn p a2 j t hjk e1 a1
      · rw [List.getElem?_set_ne (Ne.symm hk)] at e2
        exact R.ne j k t u p q e1 e2 a1 a2 hjk
theorem Rh.putd {B : Hp} {σ : L2.St} {H : Hp} (R : Rh W ρ B σ H) (i : Nat) {v : V} {x : D} (a : At B v x) : Rh W (ρ.set i (.d x)) B (σ.set i (some v)) H := R.put i _ _ ⟨v, rfl, a⟩ fun p e => by cases e
theorem Rh.putn {B : Hp} {σ : L2.St} {H : Hp} (R : Rh W ρ B σ H) (i : Nat) (o : Option V) : Rh W (ρ.set i .no) B (σ.set i o) H := R.put i _ _ trivial fun p e => by cases e
/-- less is known -/
theorem Rh.forget {B : Hp} {σ : L2.St} {H : Hp} (R : Rh W ρ B σ H) (i : Nat) : Rh W (ρ.set i .no) B σ H := by
  by_cases hi : i < ρ.length
  · have e : σ.set i (σ[i]'(by rw [R.len]; exact hi)) = σ := List.set_getElem_self _
    have := R.putn i (σ[i]'(by rw [R.len]; exact hi))
    rwa [e] at this
  · rw [List.set_eq_of_length_le (Nat.le_of_not_lt hi)]
    exact R
/-- an object of our own is changed -/
theorem Rh.mut {B : Hp} {σ : L2.St} {H : Hp} (R : Rh W ρ B σ H) {i : Nat} {s s' : Sl} {p : Addr} {o o' : HO} (e : ρ[i]? = some s) (ea : s.addr = some p) (ea' : s'.addr = some p) (h0 : W.H0 p = none) (ho : H p = some o) (hs : ∀ o1 xs, o ≠ .frz o1 (.lst xs))
    (h : ∀ w, SlOk W B H w s → SlOk W B (upd H p o') w s') : Rh W (ρ.set i s') B σ (upd H p o') := by
  obtain ⟨_, ho', hb, _⟩ := R.addr_some e ea
  have keepR : ∀ r, r ≠ p → RowOk W.K H r → RowOk W.K (upd H p o') r := fun r n q => q.keep' (fun a => a = p) n (fun a z o1 xs z2 => by
    subst z
    rw [ho] at z2
    exact hs o1 xs (Option.some.inj z2)) fun a x n z => by
      rw [upd_ne n]
      exact z
  have hi : i < ρ.length := (List.getElem?_eq_some_iff.mp e).1
  refine ⟨⟨fun a x z => ?_, R.cor.b0, fun a x m z => ?_, R.cor.nw, fun a m => ?_, R.cor.m0⟩, by rw [List.length_set]; exact R.len, fun j t z => ?_, fun j k t u p1 q1 z1 z2 a1 a2 hjk => ?_⟩
  · have n : a ≠ p := fun q => by rw [q, hb] at z; cases z
    rw [upd_ne n]
    exact R.cor.bh a x z
  · have n : a ≠ p := fun q => by rw [q, h0] at z; cases z
    rw [upd_ne n]
    exact R.cor.h0 a x m z
  · obtain ⟨b, q⟩ := R.cor.rw' a m
    refine ⟨b, keepR a (fun z => ?_) q⟩
    obtain ⟨o2, z2⟩ := R.cor.m0 a m
    rw [z, h0] at z2
    cases z2
  · by_cases hj : j = i
    · subst hj
      rw [List.getElem?_set_self hi] at z
      cases z
      obtain ⟨w, e1, q⟩ := R.sl j s e
      exact ⟨w, e1, h w q⟩
    · rw [List.getElem?_set_ne (Ne.symm hj)] at z
      obtain ⟨w, e1, q⟩ := R.sl j t z
      refine ⟨w, e1, ?_⟩
      have nq : ∀ q, t.addr = some q → q ≠ p := fun q aq => R.ne j i t s q p z e aq ea hj
      cases t with
      | no => trivial
      | d x => exact q
      | ol p1 xs => obtain ⟨e2, b, h0, vs, h, g⟩ := q; exact ⟨e2, b, h0, vs, by rw [upd_ne (nq _ rfl)]; exact h, g⟩
      | od p1 kvs => obtain ⟨e2, b, h0, vs, h, g⟩ := q; exact ⟨e2, b, h0, vs, by rw [upd_ne (nq _ rfl)]; exact h, g⟩
      | fz p1 ob ks kvs => obtain ⟨e2, b, h0, h, g⟩ := q; exact ⟨e2, b, h0, by rw [upd_ne (nq _ rfl)]; exact h, g⟩
      | row p1 => obtain ⟨e2, b, h0, q⟩ := q; exact ⟨e2, b, h0, keepR p1 (nq _ rfl) q⟩
  · have same : ∀ (j : Nat) (t : Sl) (q : Addr), (ρ.set i s')[j]? = some t → t.addr = some q → ∃ t', ρ[j]? = some t' ∧ t'.addr = some q := fun j t q z a => by
      by_cases hj : j = i
      · subst hj
        rw [List.getElem?_set_self hi] at z
        cases z
        rw [ea'] at a
        cases a
        exact ⟨s, e, ea⟩
      · rw [List.getElem?_set_ne (Ne.symm hj)] at z
        exact ⟨t, z, a⟩
    obtain ⟨t', y1, b1⟩ := same j t p1 z1 a1
    obtain ⟨u', y2, b2⟩ := same k u q1 z2 a2
    exact R.ne j k t' u' p1 q1 y1 y2 b1 b2 hjk

/-! ### targets -/
theorem bnd_name {i : Nat} {x : D} {k : List Sl → Prop} (h : k (ρ.set i (.d x))) : Bnd W (gName i) [i] x ρ k := fun B σ H v Q R a q =>
  q _ B _ H h (R.putd i a) .refl (List.length_set ..) fun j hj => List.getElem?_set_ne (fun z => hj (by rw [z]; exact List.mem_singleton.mpr rfl))
theorem bnda_nil {k : List Sl → Prop} (h : k ρ) : BndA W gNil [] [] ρ k := fun B σ H vs Q R a q => by
  cases a
  exact ⟨rfl, q ρ B σ H h R .refl rfl fun _ _ => rfl⟩
theorem bnda_cons {t : TG} {u : TGs} {ts us : List Nat} {d : D} {ds : List D} {k : List Sl → Prop} (h : Bnd W t ts d ρ fun ρ1 => BndA W u us ds ρ1 k) : BndA W (gCons t u) (ts ++ us) (d :: ds) ρ k := fun B σ H vs Q R a q => by
  cases a with
  | cons a g =>
    refine ⟨_, _, rfl, h B σ H _ _ R a fun ρ1 B1 σ1 H1 k1 R1 g1 l1 j1 => ?_⟩
    exact k1 B1 σ1 H1 _ Q R1 (g.mono g1.sb) fun ρ2 B2 σ2 H2 k2 R2 g2 l2 j2 => q ρ2 B2 σ2 H2 k2 R2 (g1.trans g2) (l2.trans l1) fun j hj =>
      (j2 j fun z => hj (List.mem_append_right _ z)).trans (j1 j fun z => hj (List.mem_append_left _ z))
theorem bnd_tup {n : Nat} {t : TGs} {ts : List Nat} {ds : List D} {k : List Sl → Prop} (hl : ds.length = n) (h : BndA W t ts ds ρ k) : Bnd W (gTup W.K n t) ts (.t ds) ρ k := fun B σ H v Q R a q => by
  obtain ⟨p, xs, rfl, hp, g⟩ := at_t a
  exact ⟨p, xs, rfl, .of (R.cor.bh _ _ hp), g.length.trans hl, h B σ H xs Q R g q⟩
theorem bnd_unl {n : Nat} {t : TGs} {ts : List Nat} {ds : List D} {k : List Sl → Prop} (hl : ds.length = n) (h : BndA W t ts ds ρ k) : Bnd W (gUnl W.K n t) ts (.l ds) ρ k := fun B σ H v Q R a q => by
  obtain ⟨p, xs, rfl, hp, g⟩ := at_l a
  exact ⟨p, xs, rfl, .of (R.cor.bh _ _ hp), g.length.trans hl, h B σ H xs Q R g q⟩
theorem bnd_mono {g : TG} {ts : List Nat} {d : D} {k k' : List Sl → Prop} (h : Bnd W g ts d ρ k) (e : ∀ ρ, k ρ → k' ρ) : Bnd W g ts d ρ k' := fun B σ H v Q R a q => h B σ H v Q R a fun ρ' B' σ' H' hk => q ρ' B' σ' H' (e _ hk)

/-! ### sources -/
theorem src_list {tl : TE} {k : List D → Prop} (h : EvP W tl ρ fun x => ∃ xs, x = .l xs ∧ k xs) : Src W (iList W.K tl) ρ k := fun B σ H R Rr q =>
  h B σ H _ Rr fun v x B1 H1 ⟨xs, e, hk⟩ R1 g1 a => by
    subst e
    obtain ⟨p, vs, rfl, hp, g⟩ := at_l a
    refine ⟨p, rfl, ⟨vs, .of (R1.cor.bh _ _ hp)⟩, q _ xs B1 H1 hk R1 g1 fun ρ' B' σ' H' i R' s' _ => ⟨fun hi => ?_, fun d hd => ?_⟩⟩
    · exact ⟨vs, .of (R'.cor.bh _ _ (s' _ _ hp)), by rw [g.length]; exact Nat.le_of_eq hi.symm⟩
    · obtain ⟨w, hw, aw⟩ := g.get hd
      refine ⟨⟨vs, w, .of (R'.cor.bh _ _ (s' _ _ hp)), hw⟩, fun v H2 ⟨e, y⟩ => ?_⟩
      subst e
      have e2 := y vs (.of (R'.cor.bh _ _ (s' _ _ hp)))
      rw [hw] at e2
      cases e2
      exact ⟨B', R', .refl, aw.mono s'⟩
theorem src_tup {tl : TE} {k : List D → Prop} (h : EvP W tl ρ fun x => ∃ xs, x = .t xs ∧ k xs) : Src W (iTup W.K tl) ρ k := fun B σ H R Rr q =>
  h B σ H _ Rr fun v x B1 H1 ⟨xs, e, hk⟩ R1 g1 a => by
    subst e
    obtain ⟨p, vs, rfl, hp, g⟩ := at_t a
    refine ⟨p, rfl, ⟨vs, .of (R1.cor.bh _ _ hp)⟩, q _ xs B1 H1 hk R1 g1 fun ρ' B' σ' H' i R' s' _ => ⟨fun hi => ?_, fun d hd => ?_⟩⟩
    · exact ⟨vs, .of (R'.cor.bh _ _ (s' _ _ hp)), by rw [g.length]; exact Nat.le_of_eq hi.symm⟩
    · obtain ⟨w, hw, aw⟩ := g.get hd
      refine ⟨⟨vs, w, .of (R'.cor.bh _ _ (s' _ _ hp)), hw⟩, fun v H2 ⟨e, y⟩ => ?_⟩
      subst e
      have e2 := y vs (.of (R'.cor.bh _ _ (s' _ _ hp)))
      rw [hw] at e2
      cases e2
      exact ⟨B', R', .refl, aw.mono s'⟩
theorem src_rng {ta : TA} {k : List D → Prop} (h : EvA W ta ρ fun ds => ∃ n : Nat, ds = [.int n] ∧ n ≤ 100000 ∧ k ((List.range n).map fun (i : Nat) => D.int (i : Int))) : Src W (iRng1 ta) ρ k := fun B σ H R Rr q =>
  h B σ H _ Rr fun vs ds B1 H1 ⟨n, e, hn, hk⟩ R1 g1 a => by
    subst e
    obtain rfl : vs = [V.int n] := by
      cases a with
      | cons a g =>
        cases g
        rw [at_int a]
    refine ⟨n, rfl, by omega, by omega, ?_⟩
    rw [Int.toNat_natCast]
    refine q _ _ B1 H1 hk R1 g1 fun ρ' B' σ' H' i R' s' _ => ⟨fun hi => ?_, fun d hd => ?_⟩
    · rw [List.length_map, List.length_range] at hi
      exact Nat.le_of_eq hi.symm
    · rw [List.getElem?_map] at hd
      have hi : i < n := by
        by_cases hi : i < n
        · exact hi
        · rw [List.getElem?_eq_none (by rw [List.length_range]; omega)] at hd
          cases hd
      rw [List.getElem?_range hi] at hd
      cases hd
      refine ⟨hi, fun v H2 ⟨e, y⟩ => ?_⟩
      subst e y
      refine ⟨B', R', .refl, ?_⟩
      rw [Int.zero_add]
      exact .v rfl

/-! ### statements -/
theorem sm_mono {ts : TS} {N N' : List Sl → Prop} {R R' : D → Prop} (h : Sm W ts ρ N R) (e : ∀ ρ, N ρ → N' ρ) (e2 : ∀ d, R d → R' d) : Sm W ts ρ N' R' := fun B σ H Dn Rr n r =>
  h B σ H Dn Rr (fun ρ' B' σ' H' hn => n ρ' B' σ' H' (e _ hn)) fun v d B' H' hd => r v d B' H' (e2 _ hd)
theorem sm_next {N : List Sl → Prop} {R : D → Prop} (h : N ρ) : Sm W tNext ρ N R := fun B σ H Dn Rr n r => n ρ B σ H h Rr (Same.refl _)
theorem sm_seq {t u : TS} {N : List Sl → Prop} {R : D → Prop} (h : Sm W t ρ (fun ρ1 => Sm W u ρ1 N R) R) : Sm W (tSeq t u) ρ N R := fun B σ H Dn Rr n r =>
  h B σ H { Dn with nx := u Dn } Rr (fun ρ1 B1 σ1 H1 h1 R1 s1 => h1 B1 σ1 H1 Dn R1 (fun ρ2 B2 σ2 H2 h2 R2 s2 => n ρ2 B2 σ2 H2 h2 R2 (s1.trans s2)) fun v d B2 H2 h2 R2 s2 => r v d B2 H2 h2 R2 (s1.trans s2)) r
theorem sm_asg {te : TE} {g : TG} {ts : List Nat} {N : List Sl → Prop} {R : D → Prop} (h : EvP W te ρ fun d => Bnd W g ts d ρ N) : Sm W (tAsg te g) ρ N R := fun B σ H Dn Rr n r =>
  h B σ H _ Rr fun v d B1 H1 hk R1 g1 a => hk B1 σ H1 v Dn.nx R1 a fun ρ2 B2 σ2 H2 h2 R2 g2 _ _ => n ρ2 B2 σ2 H2 h2 R2 (g1.sb.trans g2.sb)
theorem sm_set {te : TE} {i : Nat} {N : List Sl → Prop} {R : D → Prop} (h : EvP W te ρ fun d => N (ρ.set i (.d d))) : Sm W (tAsg te (gName i)) ρ N R := sm_asg (evp_mono h fun _ q => bnd_name q)
/-- a list of our own is named -/
theorem sm_setN {te : TE} {i : Nat} {N : List Sl → Prop} {R : D → Prop} (h : EvN W te ρ fun xs => ∀ p, N (ρ.set i (.ol p xs))) : Sm W (tAsg te (gName i)) ρ N R := fun B σ H Dn Rr n r =>
  h B σ H _ Rr fun p xs vs B1 H1 hk R1 g1 hp hb hv a => n _ B1 _ H1 (hk p) (R1.put i _ (.ol p xs) ⟨rfl, hb, Rr.cor.h0n hp, vs, hv, a⟩ fun p' e j t _ ht z => by
    cases e
    exact new_ne Rr hp j t ht z) g1.sb
theorem sm_ret {te : TE} {N : List Sl → Prop} {R : D → Prop} (h : EvP W te ρ R) : Sm W (tRet te) ρ N R := fun B σ H Dn Rr n r => h B σ H _ Rr fun v d B1 H1 hk R1 g1 a => r v d B1 H1 hk R1.cor g1.sb a
theorem sm_retN {N : List Sl → Prop} {R : D → Prop} (h : R (.v .non)) : Sm W tRetN ρ N R := fun B σ H Dn Rr n r => r .non _ B H h Rr.cor (Same.refl _) (.v rfl)
theorem sm_if {c : TT} {t u : TS} {N : List Sl → Prop} {R : D → Prop} (h : EvT W c ρ fun b => (b = true → Sm W t ρ N R) ∧ (b = false → Sm W u ρ N R)) : Sm W (tIfS c t u) ρ N R := fun B σ H Dn Rr n r =>
  h B σ H _ Rr fun b B1 H1 hk R1 g1 => by
    cases b with
    | true =>
      show t Dn σ H1
      exact hk.1 rfl B1 σ H1 Dn R1 (fun ρ2 B2 σ2 H2 h2 R2 s2 => n ρ2 B2 σ2 H2 h2 R2 (g1.sb.trans s2)) fun v d B2 H2 h2 R2 s2 => r v d B2 H2 h2 R2 (g1.sb.trans s2)
    | false =>
      show u Dn σ H1
      exact hk.2 rfl B1 σ H1 Dn R1 (fun ρ2 B2 σ2 H2 h2 R2 s2 => n ρ2 B2 σ2 H2 h2 R2 (g1.sb.trans s2)) fun v d B2 H2 h2 R2 s2 => r v d B2 H2 h2 R2 (g1.sb.trans s2)
/-- an expression for what it does -/
theorem sm_drop {te : TE} {N : List Sl → Prop} {R : D → Prop} (h : EvP W te ρ fun _ => N ρ) : Sm W (tDrop te) ρ N R := fun B σ H Dn Rr n r => h B σ H _ Rr fun v d B1 H1 hk R1 g1 a => n ρ B1 σ H1 hk R1 g1.sb
/-- a, b = x, y -/
theorem sm_par {i j : Nat} {ta : TA} {N : List Sl → Prop} {R : D → Prop} (h : EvA W ta ρ fun ds => ∃ x y, ds = [x, y] ∧ N ((ρ.set i (.d x)).set j (.d y))) : Sm W (tPar i j ta) ρ N R := fun B σ H Dn Rr n r =>
  h B σ H _ Rr fun vs ds B1 H1 ⟨x, y, e, hk⟩ R1 g1 a => by
    subst e
    cases a with
    | cons a g =>
      cases g with
      | cons b g =>
        cases g
        exact ⟨_, _, rfl, n _ B1 _ H1 hk ((R1.putd i a).putd j b) g1.sb⟩
/-- x op= e for ints -/
theorem sm_aug {i : Nat} {te : TE} {f : Int → Int → Int} {a : Int} {N : List Sl → Prop} {R : D → Prop} (hx : ρ[i]? = some (.d (.int a))) (h : EvP W te ρ fun d => ∃ b, d = .int b ∧ N (ρ.set i (.d (.int (f a b))))) : Sm W (tAug i te (ipI f)) ρ N R := fun B σ H Dn Rr n r => by
  obtain ⟨o, e, v, rfl, av⟩ := Rr.sl i _ hx
  refine ⟨v, e, h B σ H _ Rr fun w d B1 H1 ⟨b, e2, hk⟩ R1 g1 aw => ?_⟩
  subst e2
  rw [at_int av, at_int aw]
  exact ⟨a, b, rfl, rfl, n _ B1 _ H1 hk (R1.putd i (.v rfl)) g1.sb⟩
/-- xs.append(e) -/
theorem sm_app {i : Nat} {te : TE} {p : Addr} {xs : List D} {N : List Sl → Prop} {R : D → Prop} (hx : ρ[i]? = some (.ol p xs)) (h : EvP W te ρ fun d => xs.length ≤ 1000 ∧ N (ρ.set i (.ol p (xs ++ [d])))) :
    Sm W (tDrop (tBM W.K "list" rAppend (tVar i) (tCons te tNil))) ρ N R := fun B σ H Dn Rr n r => by
  obtain ⟨o, e, rfl, hb, h0, vs, hp, g⟩ := Rr.sl i _ hx
  refine ⟨_, e, .inl ⟨rfl, vs, .of hp⟩, h B σ H _ Rr fun w d B1 H1 ⟨hl, hk⟩ R1 g1 aw => ?_⟩
  obtain ⟨_, _, e', hb1, _, vs1, hp1, ga⟩ := R1.sl i _ hx
  refine ⟨p, vs1, w, rfl, rfl, hp1, by rw [ga.length]; exact small1000 hl, ?_⟩
  refine n _ B1 σ _ hk (R1.mut hx rfl rfl h0 hp1 (fun _ _ z => nomatch z) fun w' ⟨q1, q2, q3, vs2, q4, q5⟩ => ?_) g1.sb
  rw [hp1] at q4
  cases q4
  exact ⟨q1, q2, q3, _, upd_same, q5.snoc aw⟩
/-- xs[j] = e -/
theorem sm_setI {i : Nat} {te tk : TE} {p : Addr} {xs : List D} {N : List Sl → Prop} {R : D → Prop} (hx : ρ[i]? = some (.ol p xs)) (h : EvP W te ρ fun d => EvP W tk ρ fun y => ∃ j : Nat, y = .int j ∧ j < xs.length ∧ N (ρ.set i (.ol p (xs.set j d)))) :
    Sm W (tAsg te (gSub (tVar i) tk rSetL)) ρ N R := fun B σ H Dn Rr n r =>
  h B σ H _ Rr fun w d B1 H1 hk R1 g1 aw => by
    obtain ⟨o, e, rfl, hb, h0, vs, hp, g⟩ := R1.sl i _ hx
    refine ⟨_, e, hk B1 σ H1 _ R1 fun u y B2 H2 ⟨j, ey, hj, hn⟩ R2 g2 au => ?_⟩
    subst ey
    rw [at_int au]
    obtain ⟨_, _, e', hb1, _, vs1, hp1, ga⟩ := R2.sl i _ hx
    have hj1 : j < vs1.length := by
      rw [ga.length]
      exact hj
    have ej : ixN vs1.length (j : Int) = some j := by
      unfold ixN
      rw [if_pos (Int.natCast_nonneg j), if_pos (by omega), Int.toNat_natCast]
    refine ⟨p, vs1, j, j, rfl, rfl, hp1, ej, ?_⟩
    refine n _ B2 σ _ hn (R2.mut hx rfl rfl h0 hp1 (fun _ _ z => nomatch z) fun w' ⟨q1, q2, q3, vs2, q4, q5⟩ => ?_) (g1.sb.trans g2.sb)
    rw [hp1] at q4
    cases q4
    exact ⟨q1, q2, q3, _, upd_same, q5.set (aw.mono g2.sb) j⟩
/-! ### loops -/
theorem sm_forC {wi : TI} {g : TG} {tb : TS} {ts : List Nat} {C N : List Sl → Prop} {R : D → Prop} (h : SrcC W wi ρ C fun xs => ∃ I : Nat → List Sl → Prop, I 0 ρ ∧ (∀ i ρ', I i ρ' → C ρ') ∧ (∀ i d ρ', xs[i]? = some d → I i ρ' → Bnd W g ts d ρ' fun ρ2 => Sm W tb ρ2 (I (i + 1)) R) ∧ ∀ ρ', I xs.length ρ' → N ρ') :
    Sm W (tFor wi g tb) ρ N R := fun B σ H Dn Rr n r =>
  h B σ H _ Rr fun J xs B1 H1 ⟨I, i0, ic, is, ie⟩ R1 g1 y => by
    refine ⟨fun i m σ' H' => m = xs.length - i ∧ i ≤ xs.length ∧ ∃ ρ' B', Rh W ρ' B' σ' H' ∧ Same B1 B' ∧ I i ρ', ⟨xs.length, rfl, Nat.zero_le _, ρ, B1, R1, Same.refl _, i0⟩, ?_⟩
    rintro i m σ' H' ⟨rfl, hi, ρ', B', R', s', ii⟩
    obtain ⟨y1, y2⟩ := y ρ' B' σ' H' i R' s' (ic _ _ ii)
    by_cases hlt : i < xs.length
    · obtain ⟨hgo, hy⟩ := y2 _ (List.getElem?_eq_getElem hlt)
      refine .inr ⟨hgo, fun σ2 H2 => ∃ ρ2 B2, Rh W ρ2 B2 σ2 H2 ∧ Same B1 B2 ∧ I (i + 1) ρ2, fun σ2 H2 ⟨ρ2, B2, R2, s2, i2⟩ => ⟨xs.length - (i + 1), by omega, rfl, hlt, ρ2, B2, R2, s2, i2⟩, fun x H2 hx => ?_⟩
      obtain ⟨B2, R2, g2, a2⟩ := hy x H2 hx
      refine is i _ ρ' (List.getElem?_eq_getElem hlt) ii B2 σ' H2 x _ R2 a2 fun ρ3 B3 σ3 H3 k3 R3 g3 _ _ => ?_
      exact k3 B3 σ3 H3 _ R3 (fun ρ4 B4 σ4 H4 i4 R4 s4 => ⟨ρ4, B4, R4, s'.trans (g2.sb.trans (g3.sb.trans s4)), i4⟩) fun v d B4 H4 hd c4 s4 a4 => r v d B4 H4 hd c4 (g1.sb.trans (s'.trans (g2.sb.trans (g3.sb.trans s4)))) a4
    · have e : i = xs.length := by omega
      subst e
      exact .inl ⟨y1 rfl, n ρ' B' σ' H' (ie _ ii) R' (g1.sb.trans s')⟩
theorem sm_for {wi : TI} {g : TG} {tb : TS} {ts : List Nat} {N : List Sl → Prop} {R : D → Prop} (h : Src W wi ρ fun xs => ∃ I : Nat → List Sl → Prop, I 0 ρ ∧ (∀ i d ρ', xs[i]? = some d → I i ρ' → Bnd W g ts d ρ' fun ρ2 => Sm W tb ρ2 (I (i + 1)) R) ∧ ∀ ρ', I xs.length ρ' → N ρ') :
    Sm W (tFor wi g tb) ρ N R := sm_forC (C := fun _ => True) fun B σ H Rr R' q => h B σ H Rr R' fun J xs B1 H1 ⟨I, i0, is, ie⟩ => q J xs B1 H1 ⟨I, i0, fun _ _ _ => trivial, is, ie⟩
theorem sm_while {c : TT} {tb : TS} {N : List Sl → Prop} {R : D → Prop} (I : Nat → List Sl → Prop) (m0 : Nat) (h0 : I m0 ρ) (h : ∀ m ρ', I m ρ' → EvT W c ρ' fun b => (b = true → Sm W tb ρ' (fun ρ2 => ∃ m', m' < m ∧ I m' ρ2) R) ∧ (b = false → N ρ')) :
    Sm W (tWhile c tb) ρ N R := fun B σ H Dn Rr n r => by
  refine ⟨fun m σ' H' => ∃ ρ' B', Rh W ρ' B' σ' H' ∧ Same B B' ∧ I m ρ', ⟨m0, ρ, B, Rr, Same.refl _, h0⟩, ?_⟩
  rintro m σ' H' ⟨ρ', B', R', s', ii⟩
  refine h m ρ' ii B' σ' H' _ R' fun b B1 H1 hk R1 g1 => ?_
  cases b with
  | true =>
    refine ⟨fun σ2 H2 => ∃ m' ρ2 B2, m' < m ∧ Rh W ρ2 B2 σ2 H2 ∧ Same B B2 ∧ I m' ρ2, fun σ2 H2 ⟨m', ρ2, B2, hm, R2, s2, i2⟩ => ⟨m', hm, ρ2, B2, R2, s2, i2⟩, ?_⟩
    exact hk.1 rfl B1 σ' H1 _ R1 (fun ρ2 B2 σ2 H2 ⟨m', hm, i2⟩ R2 s2 => ⟨m', ρ2, B2, hm, R2, s'.trans (g1.sb.trans s2), i2⟩) fun v d B2 H2 hd c2 s2 a2 => r v d B2 H2 hd c2 (s'.trans (g1.sb.trans s2)) a2
  | false => exact n ρ' B1 σ' H1 (hk.2 rfl) R1 (s'.trans g1.sb)
end Lp

namespace Lp
open PySem PySem.Spec PyProof.Rows L2
variable {W : Wd} {ρ : List Sl}
/-! ### comprehensions -/
def noRow : Sl → Sl
  | .row _ => .no
  | s => s
def noRows : List Sl → Bool
  | [] => true
  | .row _ :: _ => false
  | _ :: r => noRows r
theorem noRows_at : ∀ {ρ : List Sl}, noRows ρ = true → ∀ (i : Nat) (p : Addr), ρ[i]? ≠ some (.row p)
  | [], _, i, p => by simp
  | s :: r, h, 0, p => by
    intro e
    cases Option.some.inj e
    cases h
  | s :: r, h, i + 1, p => by
    intro e
    have h' : noRows r = true := by
      cases s with
      | row q => cases h
      | _ => exact h
    exact noRows_at h' i p e
def wipeR (ρ : List Sl) : List Nat → List Sl
  | [] => ρ.map noRow
  | v :: vs => (wipeR ρ vs).set v .no
theorem Rh.noRow {B : Hp} {σ : L2.St} {H : Hp} (R : Rh W ρ B σ H) : Rh W (ρ.map Lp.noRow) B σ H := by
  have at_ : ∀ (i : Nat) (s : Sl), (ρ.map Lp.noRow)[i]? = some s → s = .no ∨ ρ[i]? = some s := fun i s e => by
    rw [List.getElem?_map] at e
    cases e1 : ρ[i]? with
    | none =>
      rw [e1] at e
      cases e
    | some t =>
      rw [e1] at e
      have e2 := Option.some.inj e
      subst e2
      cases t with
      | row p => exact .inl rfl
      | _ => exact .inr rfl
  refine ⟨R.cor, by rw [List.length_map]; exact R.len, fun i s e => ?_, fun i j s t p q e1 e2 a1 a2 => ?_⟩
  · rcases at_ i s e with z | z
    · subst z
      have hi : i < σ.length := by
        have := (List.getElem?_eq_some_iff.mp e).1
        rw [List.length_map] at this
        rw [R.len]
        exact this
      exact ⟨_, List.getElem?_eq_getElem hi, trivial⟩
    · exact R.sl i s z
  · rcases at_ i s e1 with z | z
    · subst z
      cases a1
    · rcases at_ j t e2 with y | y
      · subst y
        cases a2
      · exact R.ne i j s t p q z y a1 a2
theorem Rh.wipe {B : Hp} {σ : L2.St} {H : Hp} (R : Rh W ρ B σ H) : ∀ vs : List Nat, Rh W (wipeR ρ vs) B (L2.wipe σ vs) H
  | [] => R.noRow
  | v :: vs => (R.wipe vs).putn v none
theorem wipe_at {σ σ' : L2.St} {vs : List Nat} (hl : σ'.length = (wipe σ vs).length) (h : ∀ j : Nat, j ∉ vs → σ'[j]? = (wipe σ vs)[j]?) : wipe σ' vs = wipe σ vs := by
  have wo : ∀ (τ : L2.St) (us : List Nat) (j : Nat), j ∉ us → (wipe τ us)[j]? = τ[j]? := fun τ us j hj => by
    induction us with
    | nil => rfl
    | cons u us ih =>
      show ((wipe τ us).set u none)[j]? = _
      rw [List.getElem?_set_ne (fun z => hj (by rw [z]; exact List.mem_cons_self))]
      exact ih fun z => hj (List.mem_cons_of_mem _ z)
  have wi : ∀ (τ : L2.St) (us : List Nat) (j : Nat), j ∈ us → j < τ.length → (wipe τ us)[j]? = some none := fun τ us j hj hl => by
    induction us with
    | nil => cases hj
    | cons u us ih =>
      show ((wipe τ us).set u none)[j]? = _
      by_cases e : u = j
      · subst e
        exact List.getElem?_set_self (by rw [wipe_length]; exact hl)
      · rw [List.getElem?_set_ne e]
        rcases List.mem_cons.mp hj with z | z
        · exact absurd z.symm e
        · exact ih z
  apply List.ext_getElem?
  intro j
  by_cases hj : j ∈ vs
  · by_cases hl2 : j < σ'.length
    · rw [wi σ' vs j hj hl2, wi σ vs j hj (by rw [hl, wipe_length] at hl2; exact hl2)]
    · rw [List.getElem?_eq_none (by rw [wipe_length]; omega), List.getElem?_eq_none (by rw [← hl]; omega)]
  · rw [wo σ' vs j hj, h j hj]
/-- the context of a comprehension's turn comes back -/
theorem Rh.back {B B2 : Hp} {σ σ2 : L2.St} {H H2 : Hp} {ρ2 : List Sl} (R : Rh W ρ B σ H) (R2 : Rh W ρ2 B2 σ2 H2) (g : Gs B H B2 H2) : Rh W ρ B2 σ H2 := R.keepG g R2.cor.bh
theorem gs_of {ρ2 : List Sl} {B H B' H' : Hp} (g : Go ρ2 B H B' H') (h : noRows ρ2 = true) : Gs B H B' H' := ⟨g.sb, fun a o e => g.fr a o e fun i => noRows_at h i a, g.nw⟩
/-- an object that is nobody's is changed -/
theorem Rh.tmp {B : Hp} {σ : L2.St} {H : Hp} (R5 : Rh W ρ B σ H) {Dl : Addr} {o o' : HO} (hD4 : H Dl = some o) (nD4 : B Dl = none) (h0 : W.H0 Dl = none) (nsl : ∀ (i : Nat) (s : Sl), ρ[i]? = some s → s.addr ≠ some Dl) (ns : ∀ o1 xs, o ≠ .frz o1 (.lst xs)) : Rh W ρ B σ (upd H Dl o') := by
  have kr : ∀ r, r ≠ Dl → RowOk W.K H r → RowOk W.K (upd H Dl o') r := fun r n q => q.keep' (fun x => x = Dl) n (fun x z o1 us z2 => by
    rw [z, hD4] at z2
    exact ns o1 us (Option.some.inj z2)) fun x o n z => by rw [upd_ne n]; exact z
  refine ⟨⟨fun a o z => ?_, R5.cor.b0, fun a o m z => ?_, R5.cor.nw, fun a m => ?_, R5.cor.m0⟩, R5.len, fun j s z => ?_, R5.ne⟩
  · have n : a ≠ Dl := fun q => by rw [q, nD4] at z; cases z
    rw [upd_ne n]
    exact R5.cor.bh a o z
  · have n : a ≠ Dl := fun q => by rw [q, h0] at z; cases z
    rw [upd_ne n]
    exact R5.cor.h0 a o m z
  · obtain ⟨b, q⟩ := R5.cor.rw' a m
    refine ⟨b, kr a (fun z => ?_) q⟩
    obtain ⟨o2, z2⟩ := R5.cor.m0 a m
    rw [z, h0] at z2
    cases z2
  · obtain ⟨w, e1, q⟩ := R5.sl j s z
    refine ⟨w, e1, ?_⟩
    have nq : ∀ q, s.addr = some q → q ≠ Dl := fun q aq e => nsl j s z (by rw [aq, e])
    cases s with
    | no => trivial
    | d x => exact q
    | ol p1 xs => obtain ⟨e2, b, h0, vs, h, g⟩ := q; exact ⟨e2, b, h0, vs, by rw [upd_ne (nq _ rfl)]; exact h, g⟩
    | od p1 kvs => obtain ⟨e2, b, h0, vs, h, g⟩ := q; exact ⟨e2, b, h0, vs, by rw [upd_ne (nq _ rfl)]; exact h, g⟩
    | fz p1 ob ks kvs => obtain ⟨e2, b, h0, h, g⟩ := q; exact ⟨e2, b, h0, by rw [upd_ne (nq _ rfl)]; exact h, g⟩
    | row p1 => obtain ⟨e2, b, h0, q⟩ := q; exact ⟨e2, b, h0, kr p1 (nq _ rfl) q⟩
theorem evn_lc {wi : TI} {g : TG} {te : TE} {ts vs : List Nat} {k : List D → Prop}
    (h : Src W wi ρ fun xs => xs.length ≤ 1000 ∧ ∃ ys : List D, ys.length = xs.length ∧ (∀ (i : Nat) d y, xs[i]? = some d → ys[i]? = some y → Bnd W g ts d (wipeR ρ vs) fun ρ2 => noRows ρ2 = true ∧ EvP W te ρ2 fun z => z = y) ∧ k ys) (hts : ∀ j ∈ ts, j ∈ vs) :
    EvN W (tLc wi g tYes te vs) ρ k := fun B σ H Q Rr q =>
  h B σ H _ Rr fun J xs B1 H1 ⟨hl, ys, hy, hs, hk⟩ R1 g1 y Dl hD => by
    refine ⟨fun i m H' => m = xs.length - i ∧ i ≤ xs.length ∧ ∃ B' ws, Rh W ρ B' σ H' ∧ Gs B1 H1 B' H' ∧ B' Dl = none ∧ H' Dl = some (.lst ws) ∧ AtA B' ws (ys.take i), ⟨xs.length, rfl, Nat.zero_le _, B1, [], R1.fresh hD, .fresh hD, R1.cor.bn hD, upd_same, .nil⟩, ?_⟩
    rintro i m H' ⟨rfl, hi, B', ws, R', g', nD, hDl, ga⟩
    obtain ⟨y1, y2⟩ := y ρ B' σ H' i R' g'.sb trivial
    by_cases hlt : i < xs.length
    · obtain ⟨hgo, hyl⟩ := y2 _ (List.getElem?_eq_getElem hlt)
      refine .inr ⟨hgo, fun H2 => ∃ B2 ws, Rh W ρ B2 σ H2 ∧ Gs B1 H1 B2 H2 ∧ B2 Dl = none ∧ H2 Dl = some (.lst ws) ∧ AtA B2 ws (ys.take (i + 1)), fun H2 ⟨B2, ws, z⟩ => ⟨xs.length - (i + 1), by omega, rfl, hlt, B2, ws, z⟩, fun x H2 hx => ?_⟩
      obtain ⟨B2, R2, g2, a2⟩ := hyl x H2 hx
      have hyi : ys[i]? = some (ys[i]'(by omega)) := List.getElem?_eq_getElem (by omega)
      refine hs i _ _ (List.getElem?_eq_getElem hlt) hyi B2 _ H2 x _ (R2.wipe vs) a2 fun ρ3 B3 σ3 H3 ⟨nr, k3⟩ R3 g3 l3 j3 => ⟨wipe_at l3 fun j hj => j3 j fun z => hj (hts j z), ?_⟩
      show te σ3 H3 _
      refine k3 B3 σ3 H3 _ R3 fun v d B4 H4 e R4 g4 a4 => ?_
      subst e
      have gg : Gs B' H' B4 H4 := g2.trans (g3.trans (gs_of g4 nr))
      have R5 : Rh W ρ B4 σ H4 := R'.back R4 gg
      have hD4 := gg.sh _ _ hDl
      have nD4 : B4 Dl = none := by
        cases e : B4 Dl with
        | none => rfl
        | some o =>
          rcases gg.nw _ _ e with z | z | ⟨zs, z⟩
          · rw [nD] at z; cases z
          · rw [hDl] at z; cases z
          · subst z
            have z2 := R4.cor.bh _ _ e
            rw [hD4] at z2
            cases z2
      have hlen : ws.length = i := by rw [ga.length, List.length_take]; omega
      refine ⟨ws, hD4, by rw [hlen]; exact small1000 (by omega), B4, ws ++ [v], ?_, ?_, nD4, upd_same, ?_⟩
      · exact R5.tmp hD4 nD4 (R1.cor.h0n hD) (new_ne R1 hD) fun _ _ z => nomatch z
      · have g5 := g'.trans gg
        refine ⟨g5.sb, fun a o z => ?_, g5.nw⟩
        have n : a ≠ Dl := ne_of_none z hD
        rw [upd_ne n]
        exact g5.sh a o z
      · rw [List.take_add_one, hyi]
        exact (ga.mono gg.sb).snoc a4
    · have e : i = xs.length := by omega
      subst e
      refine .inl ⟨y1 rfl, q Dl ys ws B' H' hk R' (g1.trans R1 g'.go) (fr_none R1 g1.fr hD) nD hDl ?_⟩
      rw [List.take_of_length_le (by omega)] at ga
      exact ga
/-- a map -/
theorem evn_lcM {wi : TI} {g : TG} {te : TE} {ts vs : List Nat} {k : List D → Prop}
    (h : Src W wi ρ fun xs => xs.length ≤ 1000 ∧ ∃ f : D → D, (∀ d ∈ xs, Bnd W g ts d (wipeR ρ vs) fun ρ2 => noRows ρ2 = true ∧ EvP W te ρ2 fun z => z = f d) ∧ k (xs.map f)) (hts : ∀ j ∈ ts, j ∈ vs) :
    EvN W (tLc wi g tYes te vs) ρ k := evn_lc (fun B σ H R Rr q => h B σ H R Rr fun J xs B1 H1 ⟨hl, f, hf, hk⟩ => q J xs B1 H1 ⟨hl, xs.map f, List.length_map .., fun i d y e1 e2 => by
      rw [List.getElem?_map, e1] at e2
      cases e2
      exact hf d (List.mem_of_getElem? e1), hk⟩) hts
/-! ### defs -/
/-- a promise over data: pre says of the arguments and of what is wanted that it is kept -/
def spP (K : PySem.W.Frag) (pre : List D → (D → Prop) → Prop) : Sp := fun vs H Q _ => ∃ B ds k, Same B H ∧ AtA B vs ds ∧ pre ds k ∧ ∀ v d B' H', k d → Cor ⟨K, B, H, fun _ => False⟩ B' H' → At B' v d → Q v H'
/-- .. of a def whose first argument is the row -/
def spR (K : PySem.W.Frag) (pre : List D → (D → Prop) → Prop) : Sp := fun vs H Q _ => ∃ B r us ds k, vs = .ref r :: us ∧ Same B H ∧ B r = none ∧ RowOk K H r ∧ AtA B us ds ∧ pre ds k ∧ ∀ v d B' H', k d → Cor ⟨K, B, H, fun a => a = r⟩ B' H' → At B' v d → Q v H'
theorem evp_call {pre : List D → (D → Prop) → Prop} {E : XK} {t : TA} {k : D → Prop} (h : EvA W t ρ fun ds => pre ds k) : EvP W (tCall (spP W.K pre) [] E t) ρ k := fun B σ H Q R q =>
  h B σ H _ R fun vs ds B1 H1 hk R1 g1 a1 => by
    show spP W.K pre (vs ++ []) H1 Q E
    rw [List.append_nil]
    refine ⟨B1, ds, k, R1.cor.bh, a1, hk, fun v d B' H' kd c a => ?_⟩
    have gs : Gs B1 H1 B' H' := ⟨c.b0, fun a o e => c.h0 a o (fun z => z) e, c.nw⟩
    exact q v d B' H' kd (R1.keepG gs c.bh) (g1.trans R1 gs.go) a
theorem evp_callR {pre : List D → (D → Prop) → Prop} {E : XK} {t : TA} {i : Nat} {r : Addr} {k : D → Prop} (hi : ρ[i]? = some (.row r)) (h : EvA W t ρ fun ds => pre ds k) : EvP W (tCall (spR W.K pre) [] E (tCons (tVar i) t)) ρ k := fun B σ H Q R q => by
  obtain ⟨o, e, rfl, _⟩ := R.sl i _ hi
  refine ⟨_, e, h B σ H _ R fun vs ds B1 H1 hk R1 g1 a1 => ?_⟩
  show spR W.K pre (.ref r :: vs ++ []) H1 Q E
  rw [List.append_nil]
  obtain ⟨_, e1, e2, nB, hM, ok⟩ := R1.sl i _ hi
  refine ⟨B1, r, vs, ds, k, rfl, R1.cor.bh, nB, ok, a1, hk, fun v d B' H' kd c a => ?_⟩
  obtain ⟨nB', ok'⟩ := c.rw' r rfl
  have keep : ∀ a o, a ≠ r → H1 a = some o → H' a = some o := fun a o n z => c.h0 a o n z
  obtain ⟨_, _, _, _, _, _, hr1, _⟩ := id ok
  have keepR : ∀ a, RowOk W.K H1 a → RowOk W.K H' a := fun a z => by
    by_cases ha : a = r
    · rw [ha]; exact ok'
    · exact z.keep' (fun x => x = r) ha (fun x z o1 us z2 => by rw [z, hr1] at z2; cases z2) fun x o n z => keep x o n z
  have bn : ∀ p o, H1 p = some o → NoT o → B1 p = none → B' p = none := fun p o h nt b => by
    cases e : B' p with
    | none => rfl
    | some x =>
      rcases (show B1 p = some x ∨ H1 p = none ∨ ∃ xs, x = .tup xs from c.nw p x e) with z | z | ⟨xs, z⟩
      · rw [b] at z; cases z
      · rw [h] at z; cases z
      · subst z
        have z1 := c.bh _ _ e
        by_cases hp : p = r
        · rw [hp, nB'] at e
          cases e
        · rw [keep p o hp h] at z1
          cases z1
          exact nt.elim
  have R2 : Rh W ρ B' σ H' := by
    refine ⟨⟨c.bh, R1.cor.b0.trans c.b0, fun a o m z => ?_, fun a o z => ?_, fun a m => ?_, R1.cor.m0⟩, R1.len, fun j s z => ?_, R1.ne⟩
    · refine keep a o (fun ha => ?_) (R1.cor.h0 a o m z)
      subst ha
      rcases hM with hM | hM
      · rw [hM] at z; cases z
      · exact m hM
    · rcases c.nw a o z with y | y | y
      · exact R1.cor.nw a o y
      · exact .inr (.inl (R1.cor.h0n y))
      · exact .inr (.inr y)
    · obtain ⟨b, z⟩ := R1.cor.rw' a m
      obtain ⟨_, _, _, _, _, _, h1, _⟩ := id z
      exact ⟨bn _ _ h1 trivial b, keepR a z⟩
    · obtain ⟨w, e1, z2⟩ := R1.sl j s z
      refine ⟨w, e1, ?_⟩
      have nq : ∀ q, s.addr = some q → j ≠ i → q ≠ r := fun q aq n => R1.ne j i s _ q r z hi aq rfl n
      have nji : s ≠ .row r → ∀ q, s.addr = some q → q ≠ r := fun hs q aq => nq q aq fun z3 => by
        subst z3
        rw [hi] at z
        exact hs (Option.some.inj z).symm
      cases s with
      | no => trivial
      | d x => obtain ⟨v, e2, a⟩ := z2; exact ⟨v, e2, a.mono c.b0⟩
      | ol p xs => obtain ⟨e2, b, h0, vs, h, g⟩ := z2; exact ⟨e2, bn _ _ h trivial b, h0, vs, keep _ _ (nji (fun z => nomatch z) _ rfl) h, g.mono c.b0⟩
      | od p kvs => obtain ⟨e2, b, h0, vs, h, g⟩ := z2; exact ⟨e2, bn _ _ h trivial b, h0, vs, keep _ _ (nji (fun z => nomatch z) _ rfl) h, g.mono c.b0⟩
      | fz p ob ks kvs => obtain ⟨e2, b, h0, h, g⟩ := z2; exact ⟨e2, bn _ _ h trivial b, h0, keep _ _ (nji (fun z => nomatch z) _ rfl) h, g.mono c.b0⟩
      | row p =>
        obtain ⟨e2, b, h0, z2⟩ := z2
        obtain ⟨_, _, _, _, _, _, h1, _⟩ := id z2
        exact ⟨e2, bn _ _ h1 trivial b, h0, keepR p z2⟩
  refine q v d B' H' kd R2 (g1.trans R1 ⟨c.b0, fun a o z hr => keep a o (fun ha => ?_) z, c.nw⟩) a
  subst ha
  exact hr i hi
def startR (n : Nat) (ds : List D) : List Sl := ds.map Sl.d ++ List.replicate (n - ds.length) .no
theorem start_rh {K : PySem.W.Frag} {N : List Str} {B H : Hp} {vs : List V} {ds : List D} (hb : Same B H) (a : AtA B vs ds) (hl : ds.length ≤ N.length) : Rh ⟨K, B, H, fun _ => False⟩ (startR N.length ds) B (L2.start N vs) H := by
  have e1 := a.length
  refine ⟨⟨hb, Same.refl _, fun a o _ h => h, fun a o h => .inl h, fun _ z => z.elim, fun _ z => z.elim⟩, ?_, fun i s e => ?_, fun i j s t p q e _ a1 => ?_⟩
  · unfold L2.start startR
    rw [List.length_append, List.length_append, List.length_map, List.length_map, List.length_replicate, List.length_replicate, e1]
  · unfold startR at e
    unfold L2.start
    by_cases hi : i < ds.length
    · rw [List.getElem?_append_left (by rw [List.length_map]; exact hi), List.getElem?_map] at e
      cases ed : ds[i]? with
      | none =>
        rw [ed] at e
        cases e
      | some d =>
        rw [ed] at e
        cases e
        obtain ⟨v, hv, av⟩ := a.get ed
        refine ⟨some v, ?_, v, rfl, av⟩
        rw [List.getElem?_append_left (by rw [List.length_map, e1]; exact hi), List.getElem?_map, hv]
        rfl
    · rw [List.getElem?_append_right (by rw [List.length_map]; omega), List.length_map, List.getElem?_replicate] at e
      split at e
      · cases e
        rename_i h
        refine ⟨none, ?_, trivial⟩
        rw [List.getElem?_append_right (by rw [List.length_map, e1]; omega), List.length_map, List.getElem?_replicate, e1, if_pos h]
      · cases e
  · unfold startR at e
    by_cases hi : i < ds.length
    · rw [List.getElem?_append_left (by rw [List.length_map]; exact hi), List.getElem?_map] at e
      cases ed : ds[i]? with
      | none =>
        rw [ed] at e
        cases e
      | some d =>
        rw [ed] at e
        cases e
        cases a1
    · rw [List.getElem?_append_right (by rw [List.length_map]; omega), List.getElem?_replicate] at e
      split at e
      · cases e
        cases a1
      · cases e
theorem start_row {K : PySem.W.Frag} {N : List Str} {B H : Hp} {r : Addr} {vs : List V} {ds : List D} (hb : Same B H) (nb : B r = none) (ok : RowOk K H r) (a : AtA B vs ds) (hl : ds.length + 1 ≤ N.length) :
    Rh ⟨K, B, H, fun a => a = r⟩ (.row r :: startR (N.length - 1) ds) B (L2.start N (.ref r :: vs)) H := by
  obtain ⟨N0, N1, rfl⟩ : ∃ x l, N = x :: l := by
    cases N with
    | nil => simp at hl
    | cons x l => exact ⟨x, l, rfl⟩
  have hl' : ds.length ≤ N1.length := by
    rw [List.length_cons] at hl
    omega
  have R := start_rh (K := K) (N := N1) hb a hl'
  have es : L2.start (N0 :: N1) (.ref r :: vs) = some (.ref r) :: L2.start N1 vs := by
    unfold L2.start
    rw [List.map_cons, List.length_cons, List.length_cons, Nat.add_sub_add_right]
    rfl
  rw [es, List.length_cons, Nat.add_sub_cancel]
  obtain ⟨_, _, _, _, _, _, hr, _⟩ := id ok
  refine ⟨⟨hb, Same.refl _, fun a o _ h => h, fun a o h => .inl h, fun a z => by
    have z' : a = r := z
    subst z'
    exact ⟨nb, ok⟩, fun a z => by
    have z' : a = r := z
    subst z'
    exact ⟨_, hr⟩⟩, by rw [List.length_cons, List.length_cons, R.len], fun i s e => ?_, fun i j s t p q e1 e2 a1 a2 hij => ?_⟩
  · cases i with
    | zero =>
      cases Option.some.inj e
      exact ⟨_, rfl, rfl, nb, .inr rfl, ok⟩
    | succ i =>
      obtain ⟨o, h1, h2⟩ := R.sl i s e
      refine ⟨o, h1, ?_⟩
      cases s with
      | no => trivial
      | d x => exact h2
      | ol p xs => exact h2
      | od p xs => exact h2
      | fz p ob ks xs => exact h2
      | row p =>
        obtain ⟨x1, x2, x3, x4⟩ := h2
        rcases x3 with x3 | x3
        · exact ⟨x1, x2, .inl x3, x4⟩
        · exact x3.elim
  · have no : ∀ (i : Nat) (s : Sl) (p : Addr), (startR N1.length ds)[i]? = some s → s.addr ≠ some p := fun i s p e a1 => by
      unfold startR at e
      by_cases hi : i < ds.length
      · rw [List.getElem?_append_left (by rw [List.length_map]; exact hi), List.getElem?_map] at e
        cases ed : ds[i]? with
        | none =>
          rw [ed] at e
          cases e
        | some d =>
          rw [ed] at e
          cases e
          cases a1
      · rw [List.getElem?_append_right (by rw [List.length_map]; omega), List.getElem?_replicate] at e
        split at e
        · cases e
          cases a1
        · cases e
    cases i with
    | zero =>
      cases j with
      | zero => exact absurd rfl hij
      | succ j => exact absurd a2 (no j t q e2)
    | succ i => exact absurd a1 (no i s p e1)
section
variable {P : Program} {w : World} {K : PySem.W.Frag} {mg : Str → Option Value} {base : Heap}
theorem fn_P {x qual : Str} {st : Stmt} {f : Addr} {fd : FuncData} {N ps : List Str} {k : Nat} (pre : List D → (D → Prop) → Prop) (F : Fun K x qual st f fd) (S : FnScope N ps (defScope st)) (hl : ∀ ds kk, pre ds kk → ds.length = ps.length)
    (hbody : ∀ (cdv : Value) (A : Around) (outer : List Env) (s : Shared) (H : Hp) (E : XK), Room k (A.deeper (envOfC qual (defScope st) s.heap.objs.size f cdv)) →
      ∃ t, PSs (cxOf CX0 P w K mg base N qual (defScope st) f cdv A outer s H E).nox (defBody st) t ∧ ∀ (B0 H0 : Hp) ds kk, pre ds kk → Sm ⟨K, B0, H0, fun _ => False⟩ t (startR N.length ds) (fun _ => kk (.v .non)) kk) : FnOk P w K mg base CX0 (k + 1) f fd ps (spP K pre) := by
  have hpl : ps.length ≤ N.length := by have := congrArg List.length S.pre; rw [List.length_take] at this; omega
  refine F.ok S (fun vs H Q E h => ?_) (fun cdv A outer s H vs Q E hr h => ?_)
  · obtain ⟨B, ds, kk, _, a, p, _⟩ := h
    rw [a.length]
    exact hl ds kk p
  · obtain ⟨B, ds, kk, hb, a, p, q⟩ := h
    obtain ⟨t, ht, hs⟩ := hbody cdv A outer s H E hr
    refine ⟨t, ht, hs B H ds kk p B _ H _ (start_rh hb a (by rw [hl ds kk p]; exact hpl)) (fun ρ' B' σ' H' hk R' _ => q .non _ B' H' hk R'.cor (.v rfl)) fun v d B' H' hk c _ a => q v d B' H' hk c a⟩
theorem fn_R {x qual : Str} {st : Stmt} {f : Addr} {fd : FuncData} {N ps : List Str} {k : Nat} (pre : List D → (D → Prop) → Prop) (F : Fun K x qual st f fd) (S : FnScope N ps (defScope st)) (hl : ∀ ds kk, pre ds kk → ds.length + 1 = ps.length)
    (hbody : ∀ (cdv : Value) (A : Around) (outer : List Env) (s : Shared) (H : Hp) (E : XK), Room k (A.deeper (envOfC qual (defScope st) s.heap.objs.size f cdv)) →
      ∃ t, PSs (cxOf CX0 P w K mg base N qual (defScope st) f cdv A outer s H E).nox (defBody st) t ∧ ∀ (B0 H0 : Hp) r ds kk, pre ds kk → Sm ⟨K, B0, H0, fun a => a = r⟩ t (.row r :: startR (N.length - 1) ds) (fun _ => kk (.v .non)) kk) : FnOk P w K mg base CX0 (k + 1) f fd ps (spR K pre) := by
  have hpl : ps.length ≤ N.length := by have := congrArg List.length S.pre; rw [List.length_take] at this; omega
  refine F.ok S (fun vs H Q E h => ?_) (fun cdv A outer s H vs Q E hr h => ?_)
  · obtain ⟨B, r, us, ds, kk, rfl, _, _, _, a, p, _⟩ := h
    rw [List.length_cons, a.length]
    exact hl ds kk p
  · obtain ⟨B, r, us, ds, kk, rfl, hb, nb, ok, a, p, q⟩ := h
    obtain ⟨t, ht, hs⟩ := hbody cdv A outer s H E hr
    refine ⟨t, ht, hs B H r ds kk p B _ H _ (start_row hb nb ok a (by rw [hl ds kk p]; exact hpl)) (fun ρ' B' σ' H' hk R' _ => q .non _ B' H' hk R'.cor (.v rfl)) fun v d B' H' hk c _ a => q v d B' H' hk c a⟩
end
end Lp

namespace Lp
open PySem PySem.Spec PyProof.Rows L2 Lq
variable {W : Wd} {ρ : List Sl}
/-! ### built-ins -/
theorem evp_cb1 {g : Int → Int} {ta : TE} {k : D → Prop} (h : EvP W ta ρ fun x => ∃ i, x = .int i ∧ k (.int (g i))) : EvP W (tCB (fun xs H Q => ∃ i, xs = [.int i] ∧ Q (.int (g i)) H) (tCons ta tNil)) ρ k := fun B σ H Q R q =>
  h B σ H _ R fun v d B1 H1 ⟨i, e, hk⟩ R1 g1 a => by
    subst e
    rw [at_int a]
    exact ⟨i, rfl, q _ _ B1 H1 hk R1 g1 (.v rfl)⟩
theorem evp_cb2 {g : Int → Int → Int} {ta tb : TE} {k : D → Prop} (h : EvP W ta ρ fun x => EvP W tb ρ fun y => ∃ i j, x = .int i ∧ y = .int j ∧ k (.int (g i j))) :
    EvP W (tCB (fun xs H Q => ∃ i j, xs = [.int i, .int j] ∧ Q (.int (g i j)) H) (tCons ta (tCons tb tNil))) ρ k := fun B σ H Q R q =>
  two (G := fun v u H => ∃ i j, [v, u] = [.int i, .int j] ∧ Q (.int (g i j)) H) R h fun v u x y B1 H1 ⟨i, j, e1, e2, hk⟩ R1 g1 a b => by
    subst e1 e2
    rw [at_int a, at_int b]
    exact ⟨i, j, rfl, q _ _ B1 H1 hk R1 g1 (.v rfl)⟩
theorem evp_int1 {ta : TE} {k : D → Prop} (h : EvP W ta ρ fun x => ∃ i, x = .int i ∧ k (.int i)) :
    EvP W (tCB (fun xs H Q => (∃ i, xs = [.int i] ∧ Q (.int i) H) ∨ ∃ k, xs = [.bl k] ∧ Q (.int (if k then 1 else 0)) H) (tCons ta tNil)) ρ k := fun B σ H Q R q =>
  h B σ H _ R fun v d B1 H1 ⟨i, e, hk⟩ R1 g1 a => by
    subst e
    rw [at_int a]
    exact .inl ⟨i, rfl, q _ _ B1 H1 hk R1 g1 (.v rfl)⟩
/-- len -/
theorem evp_len {ta : TE} {k : D → Prop} (h : EvP W ta ρ fun x => ∃ xs, (x = .l xs ∨ x = .t xs) ∧ k (.int (xs.length : Int))) :
    EvP W (tCB (fun xs H Q => ∃ p ys, xs = [.ref p] ∧ (SqL W.K H p ys ∨ SqT W.K H p ys) ∧ Q (.int ys.length) H) (tCons ta tNil)) ρ k := fun B σ H Q R q =>
  h B σ H _ R fun v d B1 H1 ⟨xs, e, hk⟩ R1 g1 a => by
    rcases e with e | e
    · subst e
      obtain ⟨p, vs, rfl, hp, g⟩ := at_l a
      refine ⟨p, vs, rfl, .inl (.of (R1.cor.bh _ _ hp)), ?_⟩
      rw [g.length]
      exact q _ _ B1 H1 hk R1 g1 (.v rfl)
    · subst e
      obtain ⟨p, vs, rfl, hp, g⟩ := at_t a
      refine ⟨p, vs, rfl, .inr (.of (R1.cor.bh _ _ hp)), ?_⟩
      rw [g.length]
      exact q _ _ B1 H1 hk R1 g1 (.v rfl)
theorem evp_lenO {i : Nat} {p : Addr} {xs : List D} {k : D → Prop} (h : ρ[i]? = some (.ol p xs)) (hk : k (.int (xs.length : Int))) :
    EvP W (tCB (fun xs H Q => ∃ p ys, xs = [.ref p] ∧ (SqL W.K H p ys ∨ SqT W.K H p ys) ∧ Q (.int ys.length) H) (tCons (tVar i) tNil)) ρ k := fun B σ H Q R q => by
  obtain ⟨o, e, rfl, b', _, vs, hp, g⟩ := R.sl i _ h
  refine ⟨_, e, p, vs, rfl, .inl (.of hp), ?_⟩
  rw [g.length]
  exact q _ _ B H hk R .refl (.v rfl)
theorem evp_sum {ta : TE} {k : D → Prop} (h : EvP W ta ρ fun x => ∃ ns : List Int, x = .l (ns.map D.int) ∧ k (.int ns.sum)) : EvP W (tCB (rSum W.K) (tCons ta tNil)) ρ k := fun B σ H Q R q =>
  h B σ H _ R fun v d B1 H1 ⟨ns, e, hk⟩ R1 g1 a => by
    subst e
    obtain ⟨p, vs, rfl, hp, g⟩ := at_l a
    rw [g.ints] at hp
    exact ⟨p, ns, rfl, .of (R1.cor.bh _ _ hp), q _ _ B1 H1 hk R1 g1 (.v rfl)⟩
theorem evp_all {ta : TE} {k : D → Prop} (h : EvP W ta ρ fun x => ∃ bs : List Bool, x = .l (bs.map D.bl) ∧ k (.bl (bs.all id))) : EvP W (tCB (rAll W.K) (tCons ta tNil)) ρ k := fun B σ H Q R q =>
  h B σ H _ R fun v d B1 H1 ⟨bs, e, hk⟩ R1 g1 a => by
    subst e
    obtain ⟨p, vs, rfl, hp, g⟩ := at_l a
    have e2 : bs.map D.bl = (bs.map V.bl).map D.v := by rw [List.map_map] <;> rfl
    rw [e2] at g
    rw [g.vals] at hp
    exact ⟨p, bs, rfl, .of (R1.cor.bh _ _ hp), q _ _ B1 H1 hk R1 g1 (.v rfl)⟩
/-- the type of data -/
inductive TyD : D → String → Prop where
  | int (i : Int) : TyD (.int i) "int"
  | bl (b : Bool) : TyD (.bl b) "bool"
  | str (x : Str) : TyD (.str x) "str"
  | t (xs : List D) : TyD (.t xs) "tuple"
  | l (xs : List D) : TyD (.l xs) "list"
theorem TyD.tyx {K : PySem.W.Frag} {B H : Hp} {v : V} {d : D} {n : String} (h : TyD d n) (a : At B v d) (hb : Same B H) : TyX K H v (.type n) := by
  cases h with
  | int i => rw [at_int a]; exact .base (.int i)
  | bl b => rw [(at_v a).1]; exact .base (.bl b)
  | str x => rw [(at_v a).1]; exact .base (.str x)
  | t xs => obtain ⟨p, vs, rfl, hp, g⟩ := at_t a; exact .base (.tup (hb _ _ hp))
  | l xs => obtain ⟨p, vs, rfl, hp, g⟩ := at_l a; exact .base (.lst (hb _ _ hp))
theorem evp_isi {ta tc : TE} {k : D → Prop} (h : EvP W ta ρ fun x => EvP W tc ρ fun c => ∃ n m b, c = .v (.ty n) ∧ TyD x m ∧ kitB m n = some b ∧ k (.bl b)) : EvP W (tCB (rIsi W.K) (tCons ta (tCons tc tNil))) ρ k := fun B σ H Q R q =>
  two (G := fun v u H => rIsi W.K [v, u] H Q) R h fun v u x y B1 H1 ⟨n, m, b, e, ty, hb, hk⟩ R1 g1 a c => by
    subst e
    rw [(at_v c).1]
    exact ⟨v, _, _, _, b, rfl, .ty n, ty.tyx a R1.cor.bh, kit_ty hb, q _ _ B1 H1 hk R1 g1 (.v rfl)⟩
theorem evp_isi2 {ta tc : TE} {k : D → Prop} (h : EvP W ta ρ fun x => EvP W tc ρ fun c => ∃ n1 n2 m b1 b2, c = .t [.v (.ty n1), .v (.ty n2)] ∧ TyD x m ∧ kitB m n1 = some b1 ∧ kitB m n2 = some b2 ∧ k (.bl (b1 || b2))) :
    EvP W (tCB (rIsiT W.K) (tCons ta (tCons tc tNil))) ρ k := fun B σ H Q R q =>
  two (G := fun v u H => rIsiT W.K [v, u] H Q) R h fun v u x y B1 H1 ⟨n1, n2, m, b1, b2, e, ty, h1, h2, hk⟩ R1 g1 a c => by
    subst e
    obtain ⟨p, vs, rfl, hp, g⟩ := at_t c
    cases g with
    | cons c1 g =>
      cases g with
      | cons c2 g =>
        cases g
        rw [(at_v c1).1, (at_v c2).1] at hp
        refine ⟨v, p, _, _, _, (b1 || b2), rfl, R1.cor.bh _ _ hp, .cons (.ty n1) (.cons (.ty n2) .nil), ty.tyx a R1.cor.bh, ?_, q _ _ B1 H1 hk R1 g1 (.v rfl)⟩
        refine kitAny_cons (kit_ty h1) (fun e => ?_) fun e => by rw [e]; rfl
        rw [e, Bool.false_or]
        refine kitAny_cons (kit_ty h2) (fun e => ?_) fun e => e
        rw [e]
        exact kitAny_nil
/-- [0] * 3 -/
theorem evn_rep {ta tb : TE} {k : List D → Prop} (h : EvP W ta ρ fun x => EvP W tb ρ fun y => ∃ xs n, x = .l xs ∧ y = .int n ∧ 0 ≤ n ∧ n ≤ 1000 ∧ xs.length ≤ 1000 ∧ k (List.replicate n.toNat xs).flatten) : EvN W (tOp rRep ta tb) ρ k := fun B σ H Q R q =>
  two (G := fun v u H => rRep v u H Q) R h fun v u x y B1 H1 ⟨xs, n, e1, e2, h0, h1, hl, hk⟩ R1 g1 a b => by
    subst e1 e2
    obtain ⟨p, vs, rfl, hp, g⟩ := at_l a
    rw [at_int b]
    have gr : ∀ m : Nat, AtA B1 (List.replicate m vs).flatten (List.replicate m xs).flatten := fun m => by
      induction m with
      | zero => exact .nil
      | succ m ih =>
        rw [List.replicate_succ, List.replicate_succ, List.flatten_cons, List.flatten_cons]
        exact g.append ih
    have hm : vs.length * n.toNat ≤ 1000 * 1000 := Nat.mul_le_mul (by rw [g.length]; exact hl) (by omega)
    exact ⟨p, n, vs, rfl, rfl, R1.cor.bh _ _ hp, by omega, by omega, by rw [sizeLine_eq]; omega, fun l hl => q l _ _ B1 _ hk (R1.fresh hl) (g1.trans R1 (Gs.fresh hl).go) (fr_none R1 g1.fr hl) (R1.cor.bn hl) upd_same (gr _)⟩
/-- sorted(tuple of ints) -/
theorem evn_sortT {ta : TE} {k : List D → Prop} (h : EvP W ta ρ fun x => ∃ ns : List Int, x = .t (ns.map D.int) ∧ ns.length < 64 ∧ ∀ ns' : List Int, ns'.Perm ns → ns'.Pairwise (· ≤ ·) → k (ns'.map D.int)) : EvN W (tCB (rSortedT W.K) (tCons ta tNil)) ρ k := fun B σ H Q R q =>
  h B σ H _ R fun v d B1 H1 ⟨ns, e, hl, hk⟩ R1 g1 a => by
    subst e
    obtain ⟨p, vs, rfl, hp, g⟩ := at_t a
    rw [g.ints] at hp
    exact ⟨p, ns, rfl, .of (R1.cor.bh _ _ hp), hl, fun ns' l h1 h2 hl => q l _ _ B1 _ (hk ns' h1 h2) (R1.fresh hl) (g1.trans R1 (Gs.fresh hl).go) (fr_none R1 g1.fr hl) (R1.cor.bn hl) upd_same (.of_ints ns')⟩
def pairD (p : Int × Int) : D := .t [.int p.1, .int p.2]
def pairK (H : Hp) : V → Int × Int
  | .ref a => match H a with
    | some (.tup [.int i, .int j]) => (i, j)
    | _ => (0, 0)
  | _ => (0, 0)
/-- sorted(list of pairs) -/
theorem evn_sortP {ta : TE} {k : List D → Prop} (h : EvP W ta ρ fun x => ∃ ps : List (Int × Int), x = .l (ps.map pairD) ∧ ∀ qs : List (Int × Int), qs.Perm ps → qs.Pairwise (fun p q => SrtO.lexB q p = false) → k (qs.map pairD)) :
    EvN W (tCB (rSortedPO W.K) (tCons ta tNil)) ρ k := fun B σ H Q R q =>
  h B σ H _ R fun v d B1 H1 ⟨ps, e, hk⟩ R1 g1 a => by
    subst e
    obtain ⟨p, vs, rfl, hp, g⟩ := at_l a
    have each : ∀ x ∈ vs, ∃ t i j, x = V.ref t ∧ B1 t = some (.tup [.int i, .int j]) ∧ pairK H1 x = (i, j) := fun x hx => by
      obtain ⟨n, hn⟩ := List.mem_iff_getElem?.mp hx
      obtain ⟨d, hd, ad⟩ := g.get' hn
      rw [List.getElem?_map] at hd
      cases e : ps[n]? with
      | none =>
        rw [e] at hd
        cases hd
      | some pr =>
        rw [e] at hd
        cases hd
        obtain ⟨t, ws, rfl, ht, gt⟩ := at_t ad
        have ew := AtA.ints (ns := [pr.1, pr.2]) gt
        subst ew
        refine ⟨t, pr.1, pr.2, rfl, ht, ?_⟩
        show (match H1 t with | some (.tup [.int i, .int j]) => (i, j) | _ => (0, 0)) = _
        rw [R1.cor.bh _ _ ht]
        rfl
    have ev : vs.map (pairK H1) = ps := by
      apply List.ext_getElem?
      intro n
      rw [List.getElem?_map]
      cases e : ps[n]? with
      | none =>
        have : vs[n]? = none := by
          rw [List.getElem?_eq_none_iff] at e ⊢
          have := g.length
          rw [List.length_map] at this
          omega
        rw [this]
        rfl
      | some pr =>
        obtain ⟨x, hx, ad⟩ := g.get (i := n) (d := pairD pr) (by rw [List.getElem?_map, e]; rfl)
        rw [hx]
        obtain ⟨t, i, j, rfl, ht, ek⟩ := each x (List.mem_of_getElem? hx)
        obtain ⟨t', ws, e1, ht', gt⟩ := at_t ad
        cases e1
        have ew := AtA.ints (ns := [pr.1, pr.2]) gt
        subst ew
        rw [ht] at ht'
        cases ht'
        show some (pairK H1 _) = _
        rw [ek]
    refine ⟨p, vs, pairK H1, rfl, .of (R1.cor.bh _ _ hp), fun x hx => ?_, fun ys l h1 h2 hl => ?_⟩
    · obtain ⟨t, i, j, e1, ht, ek⟩ := each x hx
      rw [ek]
      exact ⟨t, e1, R1.cor.bh _ _ ht⟩
    · have hy : AtA B1 ys ((ys.map (pairK H1)).map pairD) := by
        have all : ∀ y ∈ ys, y ∈ vs := fun y hy => h2.perm.mem_iff.mp hy
        clear h1 h2
        induction ys with
        | nil => exact .nil
        | cons y r ih =>
          refine .cons ?_ (ih fun z hz => all z (List.mem_cons_of_mem _ hz))
          obtain ⟨t, i, j, rfl, ht, ek⟩ := each y (all y List.mem_cons_self)
          rw [ek]
          exact .t ht (.of_ints [i, j])
      refine q l _ ys B1 _ (hk (ys.map (pairK H1)) ?_ ?_) (R1.fresh hl) (g1.trans R1 (Gs.fresh hl).go) (fr_none R1 g1.fr hl) (R1.cor.bn hl) upd_same hy
      · rw [← ev]
        exact h2.perm.map _
      · exact List.pairwise_map.mpr h1
/-- a <= b <= c for ints -/
theorem evp_chain {p p' : Int → Int → Bool} {ta tb tc : TE} {k : D → Prop} (h : EvP W ta ρ fun x => EvP W tb ρ fun y => ∃ i j, x = .int i ∧ y = .int j ∧ (p i j = true → EvP W tc ρ fun z => ∃ l, z = .int l ∧ k (.bl (p' j l))) ∧ (p i j = false → k (.bl false))) :
    EvP W (tChain (rI0 fun i j => .bl (p i j)) (rI0 fun i j => .bl (p' i j)) ta tb tc) ρ k := fun B σ H Q R q =>
  h B σ H _ R fun v x B1 H1 k1 R1 g1 a1 => k1 B1 σ H1 _ R1 fun u y B2 H2 ⟨i, j, e1, e2, hk⟩ R2 g2 a2 => by
    subst e1 e2
    rw [at_int a1, at_int a2]
    refine ⟨i, j, rfl, rfl, p i j, rfl, ?_⟩
    cases e : p i j with
    | true =>
      rw [if_pos rfl]
      refine hk.1 e B2 σ H2 _ R2 fun w z B3 H3 ⟨l, e3, hk3⟩ R3 g3 a3 => ?_
      subst e3
      rw [at_int a3]
      exact ⟨j, l, rfl, rfl, q _ _ B3 H3 hk3 R3 ((g1.trans R1 g2).trans R2 g3) (.v rfl)⟩
    | false =>
      rw [if_neg Bool.false_ne_true]
      exact q _ _ B2 H2 (hk.2 e) R2 (g1.trans R1 g2) (.v rfl)
/-- a list of our own becomes data -/
theorem sm_freeze {ts : TS} {i : Nat} {p : Addr} {xs : List D} {N : List Sl → Prop} {R : D → Prop} (h : ρ[i]? = some (.ol p xs)) (k : Sm W ts (ρ.set i (.d (.l xs))) N R) : Sm W ts ρ N R := fun B σ H Dn Rr n r => by
  obtain ⟨o, e, rfl, hb, h0, vs, hp, g⟩ := Rr.sl i _ h
  have hi : i < ρ.length := (List.getElem?_eq_some_iff.mp h).1
  have R1 := Rr.forget i
  have R2 : Rh W (ρ.set i .no) (upd B p (.lst vs)) σ H := R1.freeze hp hb h0 fun j s z a => by
    by_cases hj : j = i
    · subst hj
      rw [List.getElem?_set_self hi] at z
      cases z
      cases a
    · rw [List.getElem?_set_ne (Ne.symm hj)] at z
      exact Rr.ne j i s _ p p z h a rfl hj rfl
  have sb : Same B (upd B p (.lst vs)) := same_new hb
  have R3 := R2.putd i (v := .ref p) (x := .l xs) (.l upd_same (g.mono sb))
  have es : σ.set i (some (V.ref p)) = σ := by
    apply List.ext_getElem?
    intro j
    by_cases hj : i = j
    · subst hj
      rw [List.getElem?_set_self (by rw [Rr.len]; exact hi), e]
    · rw [List.getElem?_set_ne hj]
  rw [List.set_set, es] at R3
  exact k _ σ H Dn R3 (fun ρ' B' σ' H' hn R' s' => n ρ' B' σ' H' hn R' (sb.trans s')) fun v d B' H' hd c s' a => r v d B' H' hd c (sb.trans s') a
end Lp

namespace Lp
open PySem PySem.Spec PyProof.Rows L2 Lq
variable {W : Wd} {ρ : List Sl}
/-! ### dicts of our own, keys tuples -/
def getA {α κ : Type} [DecidableEq κ] (kvs : List (κ × α)) (k : κ) : Option α := (kvs.find? fun kv => decide (kv.1 = k)).map (·.2)
def putA {α κ : Type} [DecidableEq κ] (kvs : List (κ × α)) (k : κ) (v : α) : List (κ × α) :=
  if (kvs.any fun kv => decide (kv.1 = k)) = true then kvs.map (fun kv => if kv.1 = k then (kv.1, v) else kv) else kvs ++ [(k, v)]
def kD : Key → D
  | .inl i => .int i
  | .inr x => .str x
def keyD (k : List Key) : D := .t (k.map kD)
theorem at_key {B : Hp} {v : V} {k : List Key} (h : At B v (keyD k)) : ∃ a, v = .ref a ∧ B a = some (.tup (k.map kV)) := by
  obtain ⟨a, xs, rfl, ha, g⟩ := at_t h
  have e : k.map kD = (k.map kV).map D.v := by
    rw [List.map_map]
    apply List.map_congr_left
    intro x _
    cases x <;> rfl
  rw [e] at g
  rw [g.vals] at ha
  exact ⟨a, rfl, ha⟩
theorem key_at {B : Hp} {a : Addr} {k : List Key} (h : B a = some (.tup (k.map kV))) : At B (.ref a) (keyD k) := by
  refine .t h ?_
  have e : k.map kD = (k.map kV).map D.v := by
    rw [List.map_map]
    apply List.map_congr_left
    intro x _
    cases x <;> rfl
  rw [e]
  refine AtA.of_vals ?_
  rw [List.all_map, List.all_eq_true]
  intro x _
  cases x <;> rfl
theorem KvA.length {B : Hp} {ks : List (List Key × V)} {kvs : List (List Key × D)} (h : KvA B ks kvs) : ks.length = kvs.length := Paired.length h
theorem KvA.get {B : Hp} (key : List Key) {ks : List (List Key × V)} {kvs : List (List Key × D)} (h : KvA B ks kvs) : (valV ks key = none ∧ getA kvs key = none) ∨ ∃ v d, valV ks key = some v ∧ getA kvs key = some d ∧ At B v d := by
  induction h with
  | nil => exact .inl ⟨rfl, rfl⟩
  | @cons p q ps qs hq t ih =>
    obtain ⟨e, a⟩ := hq
    by_cases hk : p.1 = key
    · refine .inr ⟨p.2, q.2, ?_, ?_, a⟩
      · unfold valV
        rw [List.find?_cons_of_pos (by simpa using hk)]
        rfl
      · unfold getA
        rw [List.find?_cons_of_pos (by simpa using e ▸ hk)]
        rfl
    · have e1 : valV (p :: ps) key = valV ps key := by
        unfold valV
        rw [List.find?_cons_of_neg (by simpa using hk)]
      have e2 : getA (q :: qs) key = getA qs key := by
        unfold getA
        rw [List.find?_cons_of_neg (by simpa using e ▸ hk)]
      rw [e1, e2]
      exact ih
theorem KvA.put {B : Hp} (key : List Key) {v : V} {d : D} (a : At B v d) {ks : List (List Key × V)} {kvs : List (List Key × D)} (h : KvA B ks kvs) : KvA B (putK ks key v) (putA kvs key d) := by
  have any : (ks.any fun kv => decide (kv.1 = key)) = (kvs.any fun kv => decide (kv.1 = key)) := by
    induction h with
    | nil => rfl
    | cons hq t ih => rw [List.any_cons, List.any_cons, hq.1, ih]
  have m1 : KvA B (ks.map fun kv => if kv.1 = key then (kv.1, v) else kv) (kvs.map fun kv => if kv.1 = key then (kv.1, d) else kv) := by
    clear any
    induction h with
    | nil => exact .nil
    | @cons p q ps qs hq t ih =>
      refine .cons ?_ ih
      show (if p.1 = key then (p.1, v) else p).1 = (if q.1 = key then (q.1, d) else q).1 ∧ At B (if p.1 = key then (p.1, v) else p).2 (if q.1 = key then (q.1, d) else q).2
      by_cases e : p.1 = key
      · rw [if_pos e, if_pos (hq.1 ▸ e)]
        exact ⟨hq.1, a⟩
      · rw [if_neg e, if_neg (hq.1 ▸ e)]
        exact hq
  have m2 : KvA B (ks ++ [(key, v)]) (kvs ++ [(key, d)]) := by
    clear any m1
    induction h with
    | nil => exact .cons ⟨rfl, a⟩ .nil
    | cons hq t ih => exact .cons hq ih
  unfold putK putA
  rw [any]
  split
  · exact m1
  · exact m2
/-- name = {} -/
theorem sm_newT {i : Nat} {N : List Sl → Prop} {R : D → Prop} (h : ∀ p, N (ρ.set i (.od p []))) : Sm W (tAsg tDNewT (gName i)) ρ N R := fun B σ H Dn Rr n r p hp =>
  n _ B _ _ (h p) ((Rr.fresh hp).put i _ (.od p []) ⟨rfl, Rr.cor.bn hp, Rr.cor.h0n hp, [], upd_same, .nil⟩ fun p' e j t _ ht z => by
    cases e
    exact new_ne Rr hp j t ht z) (Same.refl _)
/-- name = {k: v} -/
theorem sm_disp1 {i : Nat} {tk tv : TE} {N : List Sl → Prop} {R : D → Prop} (hi : i < ρ.length) (h : EvP W tk ρ fun x => EvP W tv ρ fun y => ∃ key, x = keyD key ∧ ∀ p, N (ρ.set i (.od p [(key, y)]))) : Sm W (tAsg (tDisp1 tk tv) (gName i)) ρ N R := fun B σ H Dn Rr n r p hp => by
  have R0 : Rh W ρ B σ (upd H p (.dT [])) := Rr.fresh hp
  refine h B σ _ _ R0 fun v x B1 H1 k1 R1 g1 a1 => k1 B1 σ H1 _ R1 fun u y B2 H2 ⟨key, e, hn⟩ R2 g2 a2 => ?_
  subst e
  obtain ⟨b, rfl, hb⟩ := at_key a1
  have g := g1.trans R1 g2
  have nr : ∀ j : Nat, ρ[j]? ≠ some (Sl.row p) := fun j z => new_ne Rr hp j _ z rfl
  have hp2 : H2 p = some (.dT []) := g.fr p _ upd_same nr
  have nB : B2 p = none := by
    cases e : B2 p with
    | none => rfl
    | some o =>
      rcases g.nw p o e with z | z | ⟨xs, z⟩
      · rw [Rr.cor.bn hp] at z; cases z
      · rw [upd_same] at z; cases z
      · subst z
        have z2 := R2.cor.bh _ _ e
        rw [hp2] at z2
        cases z2
  refine ⟨b, key, rfl, R2.cor.bh _ _ (g2.sb _ _ hb), hp2, ?_⟩
  -- the dict is named first, then filled
  have R3 := R2.put i (some (.ref p)) (.od p []) ⟨rfl, nB, Rr.cor.h0n hp, [], hp2, .nil⟩ fun p' e j t _ ht z => by
    cases e
    exact new_ne Rr hp j t ht z
  have e3 : (ρ.set i (.od p []))[i]? = some (.od p []) := List.getElem?_set_self hi
  have R4 := R3.mut (s' := .od p [(key, y)]) (o' := .dT [(key, u)]) e3 rfl rfl (Rr.cor.h0n hp) hp2 (fun _ _ z => nomatch z) fun w ⟨q1, q2, q3, ks, q4, q5⟩ => ⟨q1, q2, q3, _, upd_same, .cons ⟨rfl, a2⟩ .nil⟩
  rw [List.set_set] at R4
  exact n _ B2 _ _ (hn p) R4 g.sb
/-- d.get(k, x) -/
theorem evp_get2 {i : Nat} {p : Addr} {kvs : List (List Key × D)} {ty tx : TE} {k : D → Prop} (hx : ρ[i]? = some (.od p kvs)) (h : EvP W ty ρ fun y => EvP W tx ρ fun z => ∃ key, y = keyD key ∧ k ((getA kvs key).getD z)) : EvP W (tDGet2 (tVar i) ty tx) ρ k := fun B σ H Q R q => by
  obtain ⟨o, e, rfl, hb, h0, ks, hp, g⟩ := R.sl i _ hx
  refine ⟨_, e, p, rfl, .inr ⟨ks, .inl hp⟩, h B σ H _ R fun v y B1 H1 k1 R1 g1 a1 => k1 B1 σ H1 _ R1 fun u z B2 H2 ⟨key, e1, hk⟩ R2 g2 a2 => ?_⟩
  subst e1
  obtain ⟨b, rfl, hkb⟩ := at_key a1
  obtain ⟨_, _, _, _, _, ks2, hp2, ga⟩ := R2.sl i _ hx
  refine ⟨valV ks2 key, DGet.t hp2 (R2.cor.bh _ _ (g2.sb _ _ hkb)), ?_⟩
  rcases ga.get key with ⟨e1, e2⟩ | ⟨v, d, e1, e2, av⟩
  · rw [e1]
    rw [e2] at hk
    exact q u z B2 H2 hk R2 (g1.trans R1 g2) a2
  · rw [e1]
    rw [e2] at hk
    exact q v d B2 H2 hk R2 (g1.trans R1 g2) av
/-- d[k] of a dict that is walked -/
theorem evp_getz {i : Nat} {p : Addr} {ob : Obj} {ks : List (List Key × V)} {kvs : List (List Key × D)} {ty : TE} {k : D → Prop} (hx : ρ[i]? = some (.fz p ob ks kvs)) (h : EvP W ty ρ fun y => ∃ key d, y = keyD key ∧ getA kvs key = some d ∧ k d) : EvP W (tDGet (tVar i) ty) ρ k := fun B σ H Q R q => by
  obtain ⟨o, e, rfl, hb, h0, hp, g⟩ := R.sl i _ hx
  refine ⟨_, e, h B σ H _ R fun v y B1 H1 ⟨key, d, e1, e2, hk⟩ R1 g1 a1 => ?_⟩
  subst e1
  obtain ⟨b, rfl, hkb⟩ := at_key a1
  obtain ⟨_, _, _, _, _, hp1, ga⟩ := R1.sl i _ hx
  rcases ga.get key with ⟨e3, e4⟩ | ⟨v, d', e3, e4, av⟩
  · rw [e2] at e4
    cases e4
  · rw [e2] at e4
    cases e4
    exact ⟨p, v, rfl, .inr ⟨ks, key, b, .inr ⟨ob, hp1⟩, rfl, R1.cor.bh _ _ hkb, e3.symm⟩, q v d B1 H1 hk R1 g1 av⟩
/-- d[k] = v -/
theorem sm_dput {i : Nat} {p : Addr} {kvs : List (List Key × D)} {ty tv : TE} {N : List Sl → Prop} {R : D → Prop} (hx : ρ[i]? = some (.od p kvs)) (h : EvP W tv ρ fun z => EvP W ty ρ fun y => ∃ key, y = keyD key ∧ kvs.length ≤ 100000 ∧ N (ρ.set i (.od p (putA kvs key z)))) :
    Sm W (sDPut (tVar i) ty tv) ρ N R := fun B σ H Dn Rr n r =>
  h B σ H _ Rr fun v z B1 H1 k1 R1 g1 a1 => by
    obtain ⟨o, e, rfl, hb, h0, ks, hp, g⟩ := R1.sl i _ hx
    refine ⟨_, e, k1 B1 σ H1 _ R1 fun u y B2 H2 ⟨key, e1, hl, hn⟩ R2 g2 a2 => ?_⟩
    subst e1
    obtain ⟨b, rfl, hkb⟩ := at_key a2
    obtain ⟨_, _, _, _, _, ks2, hp2, ga⟩ := R2.sl i _ hx
    refine ⟨p, _, rfl, DPut.t hp2 (R2.cor.bh _ _ hkb) (by rw [ga.length, sizeLine_eq]; omega), ?_⟩
    refine n _ B2 σ _ hn (R2.mut hx rfl rfl h0 hp2 (fun _ _ z => nomatch z) fun w ⟨q1, q2, q3, ks3, q4, q5⟩ => ?_) (g1.sb.trans g2.sb)
    rw [hp2] at q4
    cases q4
    exact ⟨q1, q2, q3, _, upd_same, q5.put key (a1.mono g2.sb)⟩
/-- a = b, b a dict of our own that is b's no more -/
theorem sm_move {i j : Nat} {p : Addr} {kvs : List (List Key × D)} {N : List Sl → Prop} {R : D → Prop} (hx : ρ[j]? = some (.od p kvs)) (h : N ((ρ.set j .no).set i (.od p kvs))) : Sm W (tAsg (tVar j) (gName i)) ρ N R := fun B σ H Dn Rr n r => by
  obtain ⟨o, e, rfl, hb, h0, ks, hp, g⟩ := Rr.sl j _ hx
  refine ⟨_, e, n _ B _ H h ((Rr.forget j).put i _ (.od p kvs) ⟨rfl, hb, h0, ks, hp, g⟩ fun p' e j' t _ ht z => ?_) (Same.refl _)⟩
  cases e
  have hj : j < ρ.length := (List.getElem?_eq_some_iff.mp hx).1
  by_cases hjj : j' = j
  · subst hjj
    rw [List.getElem?_set_self hj] at ht
    cases ht
    cases z
  · rw [List.getElem?_set_ne (Ne.symm hjj)] at ht
    exact Rr.ne j' j t _ p p ht hx z rfl hjj rfl
/-- a dict is locked while a statement runs -/
theorem sm_lock {t : TS} {i : Nat} {p : Addr} {kvs : List (List Key × D)} {N : List Sl → Prop} {R : D → Prop} (hx : ρ[i]? = some (.od p kvs))
    (h : ∀ ob ks, ks.length = kvs.length → Sm W t (ρ.set i (.fz p ob ks kvs)) (fun ρ' => ρ'[i]? = some (.fz p ob ks kvs) ∧ N (ρ'.set i (.od p kvs))) fun _ => False) : Sm W (tLock t) ρ N R := fun B σ H Dn Rr n r => by
  obtain ⟨o, e, rfl, hb, h0, ks, hp, g⟩ := Rr.sl i _ hx
  refine ⟨p, .dT ks, hp, trivial, fun ob => ?_⟩
  have R1 := Rr.mut (s' := .fz p ob ks kvs) (o' := .frz ob (.dT ks)) hx rfl rfl h0 hp (fun _ _ z => nomatch z) fun w ⟨q1, q2, q3, ks2, q4, q5⟩ => by
    rw [hp] at q4
    cases q4
    exact ⟨q1, q2, q3, upd_same, q5⟩
  refine h ob ks g.length B σ _ _ R1 (fun ρ' B' σ' H' ⟨e1, hn⟩ R' s' => ?_) fun v d B' H' z => z.elim
  obtain ⟨o2, e2, _, hb2, _, hp2, g2⟩ := R'.sl i _ e1
  refine ⟨hp2, n _ B' σ' _ hn (R'.mut e1 rfl rfl h0 hp2 (fun _ _ z => by cases z) fun w ⟨q1, q2, q3, q4, q5⟩ => ⟨q1, q2, q3, _, upd_same, q5⟩) s'⟩
theorem src_keys {i : Nat} {p : Addr} {ob : Obj} {ks : List (List Key × V)} {kvs : List (List Key × D)} {k : List D → Prop} (hx : ρ[i]? = some (.fz p ob ks kvs)) (hk : k (kvs.map fun kv => keyD kv.1)) :
    SrcC W (iKeys (tVar i)) ρ (fun ρ' => ρ'[i]? = some (.fz p ob ks kvs)) k := fun B σ H R Rr q => by
  obtain ⟨o, e, rfl, hb, h0, hp, g⟩ := Rr.sl i _ hx
  refine ⟨_, e, p, ob, rfl, .inr ⟨ks, hp, q _ _ B H hk Rr .refl fun ρ' B' σ' H' j R' s' c => ?_⟩⟩
  obtain ⟨_, _, _, _, _, hp', g'⟩ := R'.sl i _ c
  refine ⟨fun hj => ⟨hp', ?_⟩, fun d hd => ?_⟩
  · rw [List.length_map] at hj
    rw [g'.length]
    exact Nat.le_of_eq hj.symm
  · rw [List.getElem?_map] at hd
    cases ekv : kvs[j]? with
    | none =>
      rw [ekv] at hd
      cases hd
    | some kv =>
      rw [ekv] at hd
      cases hd
      have hj : j < ks.length := by
        rw [g'.length]
        exact (List.getElem?_eq_some_iff.mp ekv).1
      refine ⟨⟨hp', hj⟩, fun v H2 ⟨eH, key, v', b, e1, ev, hb⟩ => ?_⟩
      subst eH ev
      obtain ⟨q2, e2, e3, _⟩ := paired_get g' e1
      rw [ekv] at e2
      cases e2
      obtain ⟨B2, R2, g2, hB⟩ := R'.know hb
      refine ⟨B2, R2, g2, ?_⟩
      show At B2 (.ref b) (keyD kv.1)
      rw [← e3]
      exact key_at hB
theorem src_items {i : Nat} {p : Addr} {ob : Obj} {ks : List (List Key × V)} {kvs : List (List Key × D)} {k : List D → Prop} (hx : ρ[i]? = some (.fz p ob ks kvs)) (hk : k (kvs.map fun kv => .t [keyD kv.1, kv.2])) :
    SrcC W (iItemsT (tVar i)) ρ (fun ρ' => ρ'[i]? = some (.fz p ob ks kvs)) k := fun B σ H R Rr q => by
  obtain ⟨o, e, rfl, hb, h0, hp, g⟩ := Rr.sl i _ hx
  refine ⟨_, e, p, ob, ks, rfl, hp, q _ _ B H hk Rr .refl fun ρ' B' σ' H' j R' s' c => ?_⟩
  obtain ⟨_, _, _, _, _, hp', g'⟩ := R'.sl i _ c
  refine ⟨fun hj => ⟨hp', ?_⟩, fun d hd => ?_⟩
  · rw [List.length_map] at hj
    rw [g'.length]
    exact hj.symm
  · rw [List.getElem?_map] at hd
    cases ekv : kvs[j]? with
    | none =>
      rw [ekv] at hd
      cases hd
    | some kv =>
      rw [ekv] at hd
      cases hd
      have hj : j < ks.length := by
        rw [g'.length]
        exact (List.getElem?_eq_some_iff.mp ekv).1
      refine ⟨⟨hp', hj⟩, fun v H2 ⟨T, b, key, v', e1, ev, hT, hb, eH⟩ => ?_⟩
      subst eH ev
      obtain ⟨q2, e2, e3, av⟩ := paired_get g' e1
      rw [ekv] at e2
      cases e2
      obtain ⟨B2, R2, g2, hB⟩ := R'.know hb
      have hT2 := R2.cor.bn hT
      refine ⟨upd B2 T (.tup [.ref b, v']), R2.data hT, g2.trans (.data hT hT2), .t upd_same (.cons ?_ (.cons ?_ .nil))⟩
      · show At _ _ (keyD kv.1)
        rw [← e3]
        exact (key_at hB).mono (same_new hT2)
      · exact (av.mono g2.sb).mono (same_new hT2)
/-- list(d): the keys -/
theorem know_all {B : Hp} {σ : L2.St} {H : Hp} {ks : List (List Key × V)} {bs : List Addr} (h : IsKeys H ks bs) : ∀ {B : Hp}, Rh W ρ B σ H → ∃ B', Rh W ρ B' σ H ∧ Gs B H B' H ∧ AtA B' (bs.map V.ref) (ks.map fun kv => keyD kv.1) := by
  induction h with
  | nil => exact fun R => ⟨_, R, .refl, .nil⟩
  | @cons p b ps bs hb t ih =>
    intro B R
    obtain ⟨B1, R1, g1, h1⟩ := R.know hb
    obtain ⟨B2, R2, g2, a2⟩ := ih R1
    exact ⟨B2, R2, g1.trans g2, .cons (key_at (g2.sb _ _ h1)) a2⟩
theorem evn_listD {i : Nat} {p : Addr} {kvs : List (List Key × D)} {k : List D → Prop} (hx : ρ[i]? = some (.od p kvs)) (hk : k (kvs.map fun kv => keyD kv.1)) :
    EvN W (tCB (fun xs H Q => ∃ d kvs, xs = [V.ref d] ∧ Rd H d (.dT kvs) ∧ ∀ p bs, H p = none → IsKeys H kvs bs → Q (.ref p) (upd H p (.lst (bs.map V.ref)))) (tCons (tVar i) tNil)) ρ k := fun B σ H Q R q => by
  obtain ⟨o, e, rfl, hb, h0, ks, hp, g⟩ := R.sl i _ hx
  refine ⟨_, e, p, ks, rfl, .inl hp, fun l bs hl hbs => ?_⟩
  obtain ⟨B1, R1, g1, a1⟩ := know_all (B := B) hbs R
  have ek : (ks.map fun kv => keyD kv.1) = kvs.map fun kv => keyD kv.1 := by
    clear hx hk hp a1 hbs
    induction g with
    | nil => rfl
    | cons hq t ih =>
      rw [List.map_cons, List.map_cons, hq.1]
      exact congrArg _ ih
  rw [ek] at a1
  exact q l _ _ B1 _ hk (R1.fresh hl) (g1.trans (.fresh hl)).go hl (R1.cor.bn hl) upd_same a1
/-- len({x: True for x in ..}) -/
theorem evp_lenDc {wi : TI} {i : Nat} {vs : List Nat} {k : D → Prop} (hi : i ∈ vs) (hl : i < ρ.length) (h : Src W wi ρ fun xs => ∃ ns : List Int, xs = ns.map D.int ∧ ns.Nodup ∧ ns.length ≤ 1000 ∧ k (.int (ns.length : Int))) :
    EvP W (tCB (fun xs H Q => ∃ a kvs, xs = [V.ref a] ∧ H a = some (.dK kvs) ∧ Q (.int kvs.length) H) (tCons (tDc wi (gName i) tYes (tVar i) (tC (.bl true)) vs) tNil)) ρ k := fun B σ H Q Rr q =>
  h B σ H _ Rr fun J xs B1 H1 ⟨ns, e, nd, hn, hk⟩ R1 g1 y Dl hD => by
    subst e
    have lenM : (ns.map D.int).length = ns.length := List.length_map ..
    refine ⟨fun j m H' => m = ns.length - j ∧ j ≤ ns.length ∧ ∃ B', Rh W ρ B' σ H' ∧ Gs B1 H1 B' H' ∧ B' Dl = none ∧ H' Dl = some (.dK ((ns.take j).map fun n => ((.inl n : Key), V.bl true))), ⟨ns.length, rfl, Nat.zero_le _, B1, R1.fresh hD, .fresh hD, R1.cor.bn hD, upd_same⟩, ?_⟩
    rintro j m H' ⟨rfl, hj, B', R', g', nD, hDl⟩
    obtain ⟨y1, y2⟩ := y ρ B' σ H' j R' g'.sb trivial
    by_cases hlt : j < ns.length
    · obtain ⟨hgo, hyl⟩ := y2 (.int ns[j]) (by rw [List.getElem?_map, List.getElem?_eq_getElem hlt] <;> rfl)
      refine .inr ⟨hgo, fun H2 => ∃ B2, Rh W ρ B2 σ H2 ∧ Gs B1 H1 B2 H2 ∧ B2 Dl = none ∧ H2 Dl = some (.dK ((ns.take (j + 1)).map fun n => ((.inl n : Key), V.bl true))), fun H2 ⟨B2, z⟩ => ⟨ns.length - (j + 1), by omega, rfl, hlt, B2, z⟩, fun x H2 hx => ?_⟩
      obtain ⟨B2, R2, g2, a2⟩ := hyl x H2 hx
      rw [at_int a2]
      have hl2 : i < (wipe σ vs).length := by
        rw [wipe_length, Rr.len]
        exact hl
      have hD2 := g2.sh _ _ hDl
      have nD2 : B2 Dl = none := by
        cases e : B2 Dl with
        | none => rfl
        | some o =>
          rcases g2.nw _ _ e with z | z | ⟨zs, z⟩
          · rw [nD] at z; cases z
          · rw [hDl] at z; cases z
          · subst z
            have z2 := R2.cor.bh _ _ e
            rw [hD2] at z2
            cases z2
      refine ⟨wipe_at (List.length_set ..) fun j' hj' => List.getElem?_set_ne (fun z => hj' (by rw [← z]; exact hi)), ?_⟩
      unfold tYes
      dsimp only
      rw [if_pos rfl]
      refine ⟨_, List.getElem?_set_self hl2, _, .inl ns[j], rfl, hD2, by rw [List.length_map, List.length_take, sizeLine_eq]; omega, B2, R2.tmp hD2 nD2 (R1.cor.h0n hD) (new_ne R1 hD) (fun _ _ z => nomatch z), ?_, nD2, ?_⟩
      · have g5 := g'.trans g2
        refine ⟨g5.sb, fun a o z => ?_, g5.nw⟩
        rw [upd_ne (ne_of_none z hD)]
        exact g5.sh a o z
      · rw [upd_same, putK_new]
        · rw [List.take_add_one, List.getElem?_eq_getElem hlt, List.map_append]
          rfl
        · have notin : ns[j] ∉ ns.take j := fun hm => by
            obtain ⟨a, ha, ea⟩ := List.mem_iff_getElem.mp hm
            rw [List.getElem_take] at ea
            have ha' : a < j := by
              rw [List.length_take] at ha
              omega
            exact absurd ((List.getElem_inj nd).mp ea) (Nat.ne_of_lt ha')
          generalize ns.take j = l at notin
          clear hDl hD2
          induction l with
          | nil => rfl
          | cons a l ih =>
            have h1 : ¬ ((Sum.inl a : Key) = Sum.inl ns[j]) := fun z => notin (by rw [Sum.inl.inj z]; exact List.mem_cons_self)
            show valV (((Sum.inl a : Key), V.bl true) :: l.map fun n => ((.inl n : Key), V.bl true)) _ = none
            rw [valV_neg h1]
            exact ih fun z => notin (List.mem_cons_of_mem _ z)
    · have e : j = ns.length := by omega
      subst e
      refine .inl ⟨y1 lenM.symm, Dl, _, rfl, hDl, ?_⟩
      rw [List.length_map, List.take_length]
      exact q _ _ B' H' hk R' (g1.trans R1 g'.go) (.v rfl)
end Lp

namespace Lp
open PySem PySem.Spec PyProof.Rows L2 Lq
variable {W : Wd} {ρ : List Sl}
/-! ### more sources -/
theorem src_enumT {ta : TE} {k : List D → Prop} (h : EvP W ta ρ fun x => ∃ xs, x = .t xs ∧ k (xs.zipIdx.map fun p => .t [.int (p.2 : Int), p.1])) : Src W (iEnumT W.K (tCons ta tNil)) ρ k := fun B σ H R Rr q =>
  h B σ H _ Rr fun v x B1 H1 ⟨xs, e, hk⟩ R1 g1 a => by
    subst e
    obtain ⟨p, vs, rfl, hp, g⟩ := at_t a
    refine ⟨p, vs, rfl, .of (R1.cor.bh _ _ hp), q _ _ B1 H1 hk R1 g1 fun ρ' B' σ' H' i R' s' _ => ?_⟩
    have sq : SqT W.K H' p vs := .of (R'.cor.bh _ _ (s' _ _ hp))
    refine ⟨fun hi => ⟨vs, sq, ?_⟩, fun d hd => ?_⟩
    · rw [List.length_map, List.length_zipIdx] at hi
      rw [hi, g.length]
    · rw [List.getElem?_map, List.getElem?_zipIdx] at hd
      cases e : xs[i]? with
      | none =>
        rw [e] at hd
        cases hd
      | some x =>
        rw [e] at hd
        cases hd
        obtain ⟨w, hw, aw⟩ := g.get e
        refine ⟨⟨vs, w, sq, hw⟩, fun v H2 ⟨T, y, ev, hT, eH, hy⟩ => ?_⟩
        subst eH ev
        have hT2 := R'.cor.bn hT
        have ey := hy vs sq
        rw [hw] at ey
        cases ey
        refine ⟨upd B' T (.tup [.int (i : Nat), w]), R'.data hT, .data hT hT2, .t upd_same (.cons ?_ (.cons ((aw.mono s').mono (same_new hT2)) .nil))⟩
        show At _ _ (D.int ((0 + i : Nat) : Int))
        rw [Nat.zero_add]
        exact .v rfl
theorem pair_at {xs ys : List D} {i : Nat} {d : D} (h : ((xs.zip ys).map fun p => D.t [p.1, p.2])[i]? = some d) : ∃ x y, xs[i]? = some x ∧ ys[i]? = some y ∧ d = .t [x, y] := by
  rw [List.getElem?_map] at h
  cases e : (xs.zip ys)[i]? with
  | none =>
    rw [e] at h
    cases h
  | some p =>
    rw [e] at h
    obtain ⟨h1, h2⟩ := List.getElem?_zip_eq_some.mp e
    exact ⟨p.1, p.2, h1, h2, (Option.some.inj h).symm⟩
theorem src_zip {ta tb : TE} {k : List D → Prop} (h : EvP W ta ρ fun x => EvP W tb ρ fun y => ∃ xs ys, x = .l xs ∧ y = .l ys ∧ k ((xs.zip ys).map fun p => .t [p.1, p.2])) : Src W (iZip W.K (tCons ta (tCons tb tNil))) ρ k := fun B σ H R Rr q =>
  two (G := fun v u H => ∃ a b xs ys, [v, u] = [.ref a, .ref b] ∧ SqL W.K H a xs ∧ SqL W.K H b ys ∧ R (Itz W.K a b) H) Rr h fun v u x y B1 H1 ⟨xs, ys, e1, e2, hk⟩ R1 g1 a b => by
    subst e1 e2
    obtain ⟨p, vs, rfl, hp, g⟩ := at_l a
    obtain ⟨p2, ws, rfl, hp2, g2⟩ := at_l b
    refine ⟨p, p2, vs, ws, rfl, .of (R1.cor.bh _ _ hp), .of (R1.cor.bh _ _ hp2), q _ _ B1 H1 hk R1 g1 fun ρ' B' σ' H' i R' s' _ => ?_⟩
    have sq : SqL W.K H' p vs := .of (R'.cor.bh _ _ (s' _ _ hp))
    have sq2 : SqL W.K H' p2 ws := .of (R'.cor.bh _ _ (s' _ _ hp2))
    refine ⟨fun hi => ⟨vs, ws, sq, sq2, ?_⟩, fun d hd => ?_⟩
    · rw [List.length_map, List.length_zip] at hi
      rw [g.length, g2.length]
      omega
    · obtain ⟨x, y, hx, hy, rfl⟩ := pair_at hd
      obtain ⟨w1, hw1, aw1⟩ := g.get hx
      obtain ⟨w2, hw2, aw2⟩ := g2.get hy
      refine ⟨⟨vs, ws, w1, w2, sq, sq2, hw1, hw2⟩, fun v H2 ⟨T, z1, z2, ev, hT, eH, h1, h2⟩ => ?_⟩
      subst eH ev
      have hT2 := R'.cor.bn hT
      have ey := h1 vs sq
      rw [hw1] at ey
      cases ey
      have ey2 := h2 ws sq2
      rw [hw2] at ey2
      cases ey2
      exact ⟨upd B' T (.tup [w1, w2]), R'.data hT, .data hT hT2, .t upd_same (.cons ((aw1.mono s').mono (same_new hT2)) (.cons ((aw2.mono s').mono (same_new hT2)) .nil))⟩
theorem src_zipM {ta tb : TE} {k : List D → Prop} (h : EvP W ta ρ fun x => EvP W tb ρ fun y => ∃ xs ys, x = .t xs ∧ y = .l ys ∧ k ((xs.zip ys).map fun p => .t [p.1, p.2])) : Src W (iZipM W.K (tCons ta (tCons tb tNil))) ρ k := fun B σ H R Rr q =>
  two (G := fun v u H => ∃ a b xs ys, [v, u] = [.ref a, .ref b] ∧ SqT W.K H a xs ∧ SqL W.K H b ys ∧ R (ItzM W.K a b) H) Rr h fun v u x y B1 H1 ⟨xs, ys, e1, e2, hk⟩ R1 g1 a b => by
    subst e1 e2
    obtain ⟨p, vs, rfl, hp, g⟩ := at_t a
    obtain ⟨p2, ws, rfl, hp2, g2⟩ := at_l b
    refine ⟨p, p2, vs, ws, rfl, .of (R1.cor.bh _ _ hp), .of (R1.cor.bh _ _ hp2), q _ _ B1 H1 hk R1 g1 fun ρ' B' σ' H' i R' s' _ => ?_⟩
    have sq : SqT W.K H' p vs := .of (R'.cor.bh _ _ (s' _ _ hp))
    have sq2 : SqL W.K H' p2 ws := .of (R'.cor.bh _ _ (s' _ _ hp2))
    refine ⟨fun hi => ⟨vs, ws, sq, sq2, ?_⟩, fun d hd => ?_⟩
    · rw [List.length_map, List.length_zip] at hi
      rw [g.length, g2.length]
      omega
    · obtain ⟨x, y, hx, hy, rfl⟩ := pair_at hd
      obtain ⟨w1, hw1, aw1⟩ := g.get hx
      obtain ⟨w2, hw2, aw2⟩ := g2.get hy
      refine ⟨⟨vs, ws, w1, w2, sq, sq2, hw1, hw2⟩, fun v H2 ⟨T, z1, z2, ev, hT, eH, h1, h2⟩ => ?_⟩
      subst eH ev
      have hT2 := R'.cor.bn hT
      have ey := h1 vs sq
      rw [hw1] at ey
      cases ey
      have ey2 := h2 ws sq2
      rw [hw2] at ey2
      cases ey2
      exact ⟨upd B' T (.tup [w1, w2]), R'.data hT, .data hT hT2, .t upd_same (.cons ((aw1.mono s').mono (same_new hT2)) (.cons ((aw2.mono s').mono (same_new hT2)) .nil))⟩
end Lp

namespace Lp
open PySem PySem.Spec PyProof.Rows L2 Lq
/-- the i-th statement of the text -/
def topS (i : Nat) : Stmt := PySem.Challenge.pw_leaprows_k72_whole_words_of_leaps.main.body.getD i (.Pass ⟨0, 0, 0, 0⟩)
/-- where the def x stands behind the top -/
def Df (K : PySem.W.Frag) (mg : Str → Option Value) (x : String) (st : Stmt) (ps : List Str) : Prop := ∃ f fd, Fun K x x st f fd ∧ mg x = some (.ref f) ∧ Binds K fd ps []
/-- the def x keeps its promise -/
def Cal (P : Program) (w : World) (K : PySem.W.Frag) (mg : Str → Option Value) (base : Heap) (k : Nat) (x : Str) (ps : List Str) (sp : Sp) : Prop :=
  ∃ f fd, FnOk P w K mg base CX0 k f fd ps sp ∧ mg x = some (.ref f) ∧ PySem.W.keepIn K (.ref f) = true ∧ Binds K fd ps []
section
variable {X : Cx} {k j : Nat} {x : Str} {ps : List Str} {sp : Sp} {p pos : Pos} {e : Expr} {es : List Expr} {t : TA}
theorem pcal (C : Cal X.prog X.w X.K X.mg X.base k x ps sp) (hr : Room j X.A) (hj : k ≤ j) (ha : PA X (e :: es) t) (hg : Gl X x := by rfl) (hdb : (x == ("__debug__" : Str)) = false := by decide)
    (he : starEach (e :: es) X.env = (false, eval e X.env) :: starEach es X.env := by rfl) (hpl : (backTo pos (starEach es X.env)).any (·.1) = false := by rfl) : PE X (.Call (.Name x p) (e :: es) [] pos) (tCall sp [] E0 t) := by
  obtain ⟨f, fd, F, hm, hk, hb⟩ := C
  exact pe_call F (hr.mono hj) hg hm hk hb .nil pass0 ha hdb he hpl
end
section
variable {P : Program} {w : World} {K : PySem.W.Frag} {mg : Str → Option Value} {base : Heap}
theorem cal_P {x : String} {st : Stmt} {N ps : List Str} {k : Nat} (pre : List D → (D → Prop) → Prop) (Fd : Df K mg x st ps) (S : FnScope N ps (defScope st)) (hl : ∀ ds kk, pre ds kk → ds.length = ps.length)
    (hbody : ∀ (f : Addr) (cdv : Value) (A : Around) (outer : List Env) (s : Shared) (H : Hp) (E : XK), Room k (A.deeper (envOfC x (defScope st) s.heap.objs.size f cdv)) →
      ∃ t, PSs (cxOf CX0 P w K mg base N x (defScope st) f cdv A outer s H E).nox (defBody st) t ∧ ∀ (B0 H0 : Hp) ds kk, pre ds kk → Sm ⟨K, B0, H0, fun _ => False⟩ t (startR N.length ds) (fun _ => kk (.v .non)) kk) : Cal P w K mg base (k + 1) x ps (spP K pre) := by
  obtain ⟨f, fd, F, hm, hb⟩ := Fd
  exact ⟨f, fd, fn_P pre F S hl (hbody f), hm, F.kp, hb⟩
theorem cal_R {x : String} {st : Stmt} {N ps : List Str} {k : Nat} (pre : List D → (D → Prop) → Prop) (Fd : Df K mg x st ps) (S : FnScope N ps (defScope st)) (hl : ∀ ds kk, pre ds kk → ds.length + 1 = ps.length)
    (hbody : ∀ (f : Addr) (cdv : Value) (A : Around) (outer : List Env) (s : Shared) (H : Hp) (E : XK), Room k (A.deeper (envOfC x (defScope st) s.heap.objs.size f cdv)) →
      ∃ t, PSs (cxOf CX0 P w K mg base N x (defScope st) f cdv A outer s H E).nox (defBody st) t ∧ ∀ (B0 H0 : Hp) r ds kk, pre ds kk → Sm ⟨K, B0, H0, fun a => a = r⟩ t (.row r :: startR (N.length - 1) ds) (fun _ => kk (.v .non)) kk) : Cal P w K mg base (k + 1) x ps (spR K pre) := by
  obtain ⟨f, fd, F, hm, hb⟩ := Fd
  exact ⟨f, fd, fn_R pre F S hl (hbody f), hm, F.kp, hb⟩
end
/-- a module's number -/
theorem pconst {X : Cx} {n : Int} {x : Str} {pos : Pos} (h : ∃ t, X.mg x = some (.int n t)) (hg : Gl X x := by rfl) (hd : (x == ("__debug__" : Str)) = false := by decide) : PE X (.Name x pos) (tC (.int n)) := by
  obtain ⟨t, h⟩ := h
  exact pe_glob hg h ⟨t, rfl⟩ hd
theorem b_isinstance : bootBuiltins "isinstance" = some (.builtin "isinstance") := by decide +kernel
theorem b_len : bootBuiltins "len" = some (.builtin "len") := by decide +kernel
theorem b_all : bootBuiltins "all" = some (.builtin "all") := by decide +kernel
theorem b_sorted : bootBuiltins "sorted" = some (.builtin "sorted") := by decide +kernel
theorem b_abs : bootBuiltins "abs" = some (.builtin "abs") := by decide +kernel
theorem b_sum : bootBuiltins "sum" = some (.builtin "sum") := by decide +kernel
theorem b_min : bootBuiltins "min" = some (.builtin "min") := by decide +kernel
theorem b_max : bootBuiltins "max" = some (.builtin "max") := by decide +kernel
theorem b_int : bootBuiltins "int" = some (.type "int") := by decide +kernel
theorem b_tuple : bootBuiltins "tuple" = some (.type "tuple") := by decide +kernel
theorem b_list : bootBuiltins "list" = some (.type "list") := by decide +kernel
theorem b_bool : bootBuiltins "bool" = some (.type "bool") := by decide +kernel
theorem b_str : bootBuiltins "str" = some (.type "str") := by decide +kernel
/-- names that are still the built-ins, the constants -/
structure Top (mg : Str → Option Value) : Prop where
  isinstance : mg "isinstance" = none
  int : mg "int" = none
  bool : mg "bool" = none
  tuple : mg "tuple" = none
  list : mg "list" = none
  str : mg "str" = none
  len : mg "len" = none
  all : mg "all" = none
  sorted : mg "sorted" = none
  enumerate : mg "enumerate" = none
  zip : mg "zip" = none
  range : mg "range" = none
  abs : mg "abs" = none
  sum : mg "sum" = none
  min : mg "min" = none
  max : mg "max" = none
  place : ∃ t, mg "MOST_PLACE" = some (.int 1000000000000000000 t)
  stones : ∃ t, mg "STONES" = some (.int 3 t)
  word : ∃ t, mg "MOST_WORD" = some (.int 60 t)
end Lp

/-! The mathematics of the tree of positions: words (last leap first; true is R), pairs, runs, numbers of words of leaps. -/
namespace Mt
abbrev Wo := List Bool
def pq : Wo → Nat × Nat
  | [] => (1, 1)
  | true :: w => ((pq w).1 + (pq w).2, (pq w).2)
  | false :: w => ((pq w).1, (pq w).1 + (pq w).2)
abbrev pa (w : Wo) : Nat := (pq w).1
abbrev pb (w : Wo) : Nat := (pq w).2
theorem pos : ∀ w : Wo, 1 ≤ pa w ∧ 1 ≤ pb w
  | [] => ⟨Nat.le_refl _, Nat.le_refl _⟩
  | true :: w => ⟨Nat.le_trans (pos w).1 (Nat.le_add_right _ _), (pos w).2⟩
  | false :: w => ⟨(pos w).1, Nat.le_trans (pos w).1 (Nat.le_add_right _ _)⟩
theorem cop : ∀ w : Wo, Nat.gcd (pa w) (pb w) = 1
  | [] => rfl
  | true :: w => by
    have h := cop w
    show Nat.gcd (pa w + pb w) (pb w) = 1
    rw [Nat.gcd_add_self_left]
    exact h
  | false :: w => by
    have h := cop w
    show Nat.gcd (pa w) (pa w + pb w) = 1
    rw [Nat.gcd_self_add_right]
    exact h
theorem le2 : ∀ w : Wo, pa w ≤ 2 ^ w.length ∧ pb w ≤ 2 ^ w.length
  | [] => ⟨Nat.le_refl _, Nat.le_refl _⟩
  | true :: w => by
    have h := le2 w
    show pa w + pb w ≤ 2 ^ (w.length + 1) ∧ pb w ≤ 2 ^ (w.length + 1)
    rw [Nat.pow_succ]
    omega
  | false :: w => by
    have h := le2 w
    show pa w ≤ 2 ^ (w.length + 1) ∧ pa w + pb w ≤ 2 ^ (w.length + 1)
    rw [Nat.pow_succ]
    omega
theorem le20 (w : Wo) (h : w.length ≤ 20) : pa w ≤ 1048576 ∧ pb w ≤ 1048576 := by
  have h1 := le2 w
  have h2 : 2 ^ w.length ≤ 2 ^ 20 := Nat.pow_le_pow_right (by decide) h
  have h3 : (2 : Nat) ^ 20 = 1048576 := by decide
  omega
theorem pq_inj : ∀ u w : Wo, pq u = pq w → u = w
  | [], [], _ => rfl
  | [], true :: w, h => by
    have h1 : (1, 1) = (pa w + pb w, pb w) := h
    have h2 := pos w
    rw [Prod.mk.injEq] at h1
    omega
  | [], false :: w, h => by
    have h1 : (1, 1) = (pa w, pa w + pb w) := h
    have h2 := pos w
    rw [Prod.mk.injEq] at h1
    omega
  | true :: u, [], h => by
    have h1 : (pa u + pb u, pb u) = (1, 1) := h
    have h2 := pos u
    rw [Prod.mk.injEq] at h1
    omega
  | false :: u, [], h => by
    have h1 : (pa u, pa u + pb u) = (1, 1) := h
    have h2 := pos u
    rw [Prod.mk.injEq] at h1
    omega
  | true :: u, true :: w, h => by
    have h1 : (pa u + pb u, pb u) = (pa w + pb w, pb w) := h
    rw [Prod.mk.injEq] at h1
    rw [pq_inj u w (Prod.ext (show pa u = pa w by omega) h1.2)]
  | false :: u, false :: w, h => by
    have h1 : (pa u, pa u + pb u) = (pa w, pa w + pb w) := h
    rw [Prod.mk.injEq] at h1
    rw [pq_inj u w (Prod.ext h1.1 (show pb u = pb w by omega))]
  | true :: u, false :: w, h => by
    have h1 : (pa u + pb u, pb u) = (pa w, pa w + pb w) := h
    have h2 := pos u
    have h3 := pos w
    rw [Prod.mk.injEq] at h1
    omega
  | false :: u, true :: w, h => by
    have h1 : (pa u, pa u + pb u) = (pa w + pb w, pb w) := h
    have h2 := pos u
    have h3 := pos w
    rw [Prod.mk.injEq] at h1
    omega
/-- the orders of the stones, from left to right -/
inductive O where
  | abc | acb | bac | bca | cab | cba
  deriving DecidableEq
def O.l : O → Nat
  | .abc => 0 | .acb => 0 | .bac => 1 | .bca => 1 | .cab => 2 | .cba => 2
def O.m : O → Nat
  | .abc => 1 | .acb => 2 | .bac => 0 | .bca => 2 | .cab => 0 | .cba => 1
def O.r : O → Nat
  | .abc => 2 | .acb => 1 | .bac => 2 | .bca => 0 | .cab => 1 | .cba => 0
def O.sl : O → O
  | .abc => .bac | .acb => .cab | .bac => .abc | .bca => .cba | .cab => .acb | .cba => .bca
def O.sr : O → O
  | .abc => .acb | .acb => .abc | .bac => .bca | .bca => .bac | .cab => .cba | .cba => .cab
def O.sw (c : Bool) (o : O) : O := match c with | true => o.sr | false => o.sl
theorem O.sw2 (c : Bool) (o : O) : (o.sw c).sw c = o := by cases c <;> cases o <;> rfl
/-- the places of the stones with an order and places from left to right -/
def sv : O → Int → Int → Int → List Int
  | .abc, x, y, z => [x, y, z]
  | .acb, x, y, z => [x, z, y]
  | .bac, x, y, z => [y, x, z]
  | .bca, x, y, z => [z, x, y]
  | .cab, x, y, z => [y, z, x]
  | .cba, x, y, z => [z, y, x]
theorem sv_inj {o o' : O} {x y z x' y' z' : Int} (h1 : x < y) (h2 : y < z) (h3 : x' < y') (h4 : y' < z') (h : sv o x y z = sv o' x' y' z') : o = o' ∧ x = x' ∧ y = y' ∧ z = z' := by
  cases o <;> cases o' <;> simp only [sv, List.cons.injEq, and_true, true_and, reduceCtorEq, false_and] at h ⊢ <;> omega
def ord (o : O) : Wo → O
  | [] => o
  | c :: w => (ord o w).sw c
/-- a tree -/
structure Tr where
  h : Int
  g : Nat
  o : O
structure Tr.Ok (T : Tr) : Prop where
  h1 : -20 ≤ T.h
  h2 : T.h ≤ 20
  g1 : 1 ≤ T.g
  g2 : T.g ≤ 10
def A (T : Tr) (w : Wo) : Int := (T.g : Int) * (pa w : Int)
def B (T : Tr) (w : Wo) : Int := (T.g : Int) * (pb w : Int)
theorem A_r (T : Tr) (w : Wo) : A T (true :: w) = A T w + B T w := by
  show (T.g : Int) * ((pa w + pb w : Nat) : Int) = _
  rw [Int.natCast_add, Int.mul_add]
  rfl
theorem B_r (T : Tr) (w : Wo) : B T (true :: w) = B T w := rfl
theorem A_l (T : Tr) (w : Wo) : A T (false :: w) = A T w := rfl
theorem B_l (T : Tr) (w : Wo) : B T (false :: w) = A T w + B T w := by
  show (T.g : Int) * ((pa w + pb w : Nat) : Int) = _
  rw [Int.natCast_add, Int.mul_add]
  rfl
theorem A_0 (T : Tr) : A T [] = T.g := Int.mul_one _
theorem B_0 (T : Tr) : B T [] = T.g := Int.mul_one _
theorem AB_pos {T : Tr} (k : T.Ok) (w : Wo) : 0 < A T w ∧ 0 < B T w := by
  have h := pos w
  exact ⟨Int.mul_pos (Int.natCast_pos.mpr k.g1) (Int.natCast_pos.mpr h.1), Int.mul_pos (Int.natCast_pos.mpr k.g1) (Int.natCast_pos.mpr h.2)⟩
theorem AB_le {T : Tr} (k : T.Ok) (w : Wo) (hw : w.length ≤ 20) : A T w ≤ 10485760 ∧ B T w ≤ 10485760 := by
  have h := le20 w hw
  have g2 := k.g2
  have e : ∀ n : Nat, n ≤ 1048576 → (T.g : Int) * (n : Int) ≤ 10485760 := fun n hn => by
    rw [← Int.natCast_mul]
    have : T.g * n ≤ 10 * 1048576 := Nat.mul_le_mul g2 hn
    omega
  exact ⟨e _ h.1, e _ h.2⟩
/-- the places of the position behind a word -/
def plc (T : Tr) (w : Wo) : List Int := sv (ord T.o w) (T.h - B T w) (T.h + A T w - B T w) (T.h + A T w)
theorem plc_inj {T : Tr} (k : T.Ok) {u w : Wo} (h : plc T u = plc T w) : u = w := by
  have h1 := AB_pos k u
  have h2 := AB_pos k w
  obtain ⟨_, e1, _, e2⟩ := sv_inj (by omega) (by omega) (by omega) (by omega) h
  have ea : A T u = A T w := by omega
  have eb : B T u = B T w := by omega
  have hg : (T.g : Int) ≠ 0 := by have := k.g1; omega
  have a := Int.eq_of_mul_eq_mul_left hg ea
  have b := Int.eq_of_mul_eq_mul_left hg eb
  exact pq_inj u w (Prod.ext (by exact_mod_cast a) (by exact_mod_cast b))
theorem plc_len (T : Tr) (w : Wo) : (plc T w).length = 3 := by
  unfold plc
  cases ord T.o w <;> rfl
/-! ### leaps -/
def lpt (ps : List Int) (s t : Nat) : List Int := ps.set s (2 * ps.getD t 0 - ps.getD s 0)
theorem lpt_mr (o : O) (x y z : Int) : lpt (sv o x y z) o.m o.r = sv (o.sw true) x z (2 * z - y) := by cases o <;> rfl
theorem lpt_ml (o : O) (x y z : Int) : lpt (sv o x y z) o.m o.l = sv (o.sw false) (2 * x - y) x z := by cases o <;> rfl
theorem lpt_lm (o : O) (x y z : Int) : lpt (sv o x y z) o.l o.m = sv (o.sw false) y (2 * y - x) z := by cases o <;> rfl
theorem lpt_rm (o : O) (x y z : Int) : lpt (sv o x y z) o.r o.m = sv (o.sw true) x (2 * y - z) y := by cases o <;> rfl
theorem out_r (T : Tr) (w : Wo) : lpt (plc T w) (ord T.o w).m (ord T.o w).r = plc T (true :: w) := by
  unfold plc
  rw [lpt_mr, A_r, B_r]
  show sv _ _ _ _ = sv ((ord T.o w).sw true) _ _ _
  congr 1 <;> omega
theorem out_l (T : Tr) (w : Wo) : lpt (plc T w) (ord T.o w).m (ord T.o w).l = plc T (false :: w) := by
  unfold plc
  rw [lpt_ml, A_l, B_l]
  show sv _ _ _ _ = sv ((ord T.o w).sw false) _ _ _
  congr 1 <;> omega
theorem in_l (T : Tr) (w : Wo) : lpt (plc T (false :: w)) (ord T.o (false :: w)).l (ord T.o (false :: w)).m = plc T w := by
  unfold plc
  rw [lpt_lm, A_l, B_l]
  show sv (((ord T.o w).sw false).sw false) _ _ _ = _
  rw [O.sw2]
  congr 1 <;> omega
theorem in_r (T : Tr) (w : Wo) : lpt (plc T (true :: w)) (ord T.o (true :: w)).r (ord T.o (true :: w)).m = plc T w := by
  unfold plc
  rw [lpt_rm, A_r, B_r]
  show sv (((ord T.o w).sw true).sw true) _ _ _ = _
  rw [O.sw2]
  congr 1 <;> omega
/-- the neighbors -/
def nbs : Wo → List Wo
  | [] => [[true], [false]]
  | c :: w => [true :: c :: w, false :: c :: w, w]
/-! ### runs -/
abbrev Rn := Bool × Nat
/-- runs, the last one first, to a word -/
def exw : List Rn → Wo
  | [] => []
  | (c, n) :: r => List.replicate n c ++ exw r
/-- runs in turn, none empty -/
def Can : List Rn → Prop
  | [] => True
  | (c, n) :: r => 1 ≤ n ∧ (∀ d m r', r = (d, m) :: r' → d ≠ c) ∧ Can r
def rle : Wo → List Rn
  | [] => []
  | c :: w => match rle w with
    | [] => [(c, 1)]
    | (d, n) :: r => if d = c then (c, n + 1) :: r else (c, 1) :: (d, n) :: r
theorem rle_ok : ∀ w : Wo, exw (rle w) = w ∧ Can (rle w)
  | [] => ⟨rfl, trivial⟩
  | c :: w => by
    obtain ⟨h1, h2⟩ := rle_ok w
    unfold rle
    cases e : rle w with
    | nil =>
      rw [e] at h1
      cases h1
      exact ⟨rfl, Nat.le_refl _, fun _ _ _ z => (List.cons_ne_nil _ _ z.symm).elim, trivial⟩
    | cons x r =>
      obtain ⟨d, n⟩ := x
      rw [e] at h1 h2
      show exw (if d = c then (c, n + 1) :: r else (c, 1) :: (d, n) :: r) = _ ∧ Can (if d = c then (c, n + 1) :: r else (c, 1) :: (d, n) :: r)
      obtain ⟨k1, k2, k3⟩ := h2
      split
      · next q =>
        subst q
        exact ⟨congrArg (d :: ·) h1, by omega, k2, k3⟩
      · next q =>
        refine ⟨congrArg (c :: ·) h1, Nat.le_refl _, fun d' m' r' z => ?_, k1, k2, k3⟩
        cases z
        exact q
theorem pq_rep : ∀ (n : Nat) (w : Wo), pq (List.replicate n true ++ w) = (pa w + n * pb w, pb w) ∧ pq (List.replicate n false ++ w) = (pa w, pb w + n * pa w)
  | 0, w => by
    rw [Nat.zero_mul, Nat.zero_mul]
    exact ⟨rfl, rfl⟩
  | n + 1, w => by
    obtain ⟨h1, h2⟩ := pq_rep n w
    constructor
    · show ((pq (List.replicate n true ++ w)).1 + (pq (List.replicate n true ++ w)).2, (pq (List.replicate n true ++ w)).2) = _
      rw [h1, Nat.succ_mul]
      exact Prod.ext (by dsimp only; omega) rfl
    · show ((pq (List.replicate n false ++ w)).1, (pq (List.replicate n false ++ w)).1 + (pq (List.replicate n false ++ w)).2) = _
      rw [h2, Nat.succ_mul]
      exact Prod.ext rfl (by dsimp only; omega)
/-- what a run does to a pair -/
def prs (p : Nat × Nat) (c : Bool) (n : Nat) : Nat × Nat := if c = true then (p.1 + n * p.2, p.2) else (p.1, p.2 + n * p.1)
theorem prs_ok (w : Wo) (c : Bool) (n : Nat) : prs (pq w) c n = pq (List.replicate n c ++ w) := by
  cases c
  · exact (pq_rep n w).2.symm
  · exact (pq_rep n w).1.symm
/-- what a run does to an order -/
def ors (o : O) (c : Bool) (n : Nat) : O := if n % 2 = 0 then o else o.sw c
theorem ors_ok (o : O) (w : Wo) (c : Bool) : ∀ n : Nat, ors (ord o w) c n = ord o (List.replicate n c ++ w)
  | 0 => rfl
  | n + 1 => by
    show _ = (ord o (List.replicate n c ++ w)).sw c
    rw [← ors_ok o w c n]
    unfold ors
    by_cases h : n % 2 = 0
    · rw [if_pos h, if_neg (by omega)]
    · rw [if_neg h, if_pos (by omega), O.sw2]
theorem ors2 (o : O) (c : Bool) (n : Nat) : ors (ors o c n) c n = o := by
  unfold ors
  by_cases h : n % 2 = 0
  · rw [if_pos h, if_pos h]
  · rw [if_neg h, if_neg h, O.sw2]
/-- a pair's last run -/
theorem run_r {n : Nat} {r : List Rn} (h : Can ((true, n) :: r)) : pb (exw ((true, n) :: r)) < pa (exw ((true, n) :: r)) ∧ (pa (exw ((true, n) :: r)) - 1) / pb (exw ((true, n) :: r)) = n ∧ pa (exw ((true, n) :: r)) - n * pb (exw ((true, n) :: r)) = pa (exw r) ∧ pb (exw ((true, n) :: r)) = pb (exw r) := by
  have e : pq (exw ((true, n) :: r)) = (pa (exw r) + n * pb (exw r), pb (exw r)) := (pq_rep n (exw r)).1
  have le : pa (exw r) ≤ pb (exw r) := by
    cases r with
    | nil => exact Nat.le_refl _
    | cons x r' =>
      obtain ⟨d, m⟩ := x
      have hd := h.2.1 d m r' rfl
      have e2 : pq (exw ((d, m) :: r')) = (pa (exw r'), pb (exw r') + m * pa (exw r')) := by
        cases d
        · exact (pq_rep m (exw r')).2
        · exact absurd rfl hd
      have hm := h.2.2.1
      have p := pos (exw r')
      unfold pa pb
      rw [e2]
      show pa (exw r') ≤ pb (exw r') + m * pa (exw r')
      have : 1 * pa (exw r') ≤ m * pa (exw r') := Nat.mul_le_mul_right _ hm
      omega
  have p := pos (exw r)
  have hn := h.1
  have ea : pa (exw ((true, n) :: r)) = _ := congrArg Prod.fst e
  have eb : pb (exw ((true, n) :: r)) = _ := congrArg Prod.snd e
  rw [ea, eb]
  clear ea eb e
  generalize pa (exw r) = a at *
  generalize pb (exw r) = b at *
  dsimp only
  have e1 : n * b ≥ 1 * b := Nat.mul_le_mul_right _ hn
  refine ⟨by omega, ?_, by omega, rfl⟩
  have e3 : a + n * b - 1 = (a - 1) + b * n := by rw [Nat.mul_comm n b]; omega
  rw [e3, Nat.add_mul_div_left _ _ (by omega), Nat.div_eq_of_lt (by omega)]
  omega
theorem run_l {n : Nat} {r : List Rn} (h : Can ((false, n) :: r)) : pa (exw ((false, n) :: r)) < pb (exw ((false, n) :: r)) ∧ (pb (exw ((false, n) :: r)) - 1) / pa (exw ((false, n) :: r)) = n ∧ pb (exw ((false, n) :: r)) - n * pa (exw ((false, n) :: r)) = pb (exw r) ∧ pa (exw ((false, n) :: r)) = pa (exw r) := by
  have e : pq (exw ((false, n) :: r)) = (pa (exw r), pb (exw r) + n * pa (exw r)) := (pq_rep n (exw r)).2
  have le : pb (exw r) ≤ pa (exw r) := by
    cases r with
    | nil => exact Nat.le_refl _
    | cons x r' =>
      obtain ⟨d, m⟩ := x
      have hd := h.2.1 d m r' rfl
      have e2 : pq (exw ((d, m) :: r')) = (pa (exw r') + m * pb (exw r'), pb (exw r')) := by
        cases d
        · exact absurd rfl hd
        · exact (pq_rep m (exw r')).1
      have hm := h.2.2.1
      have p := pos (exw r')
      unfold pa pb
      rw [e2]
      show pb (exw r') ≤ pa (exw r') + m * pb (exw r')
      have : 1 * pb (exw r') ≤ m * pb (exw r') := Nat.mul_le_mul_right _ hm
      omega
  have p := pos (exw r)
  have hn := h.1
  have ea : pa (exw ((false, n) :: r)) = _ := congrArg Prod.fst e
  have eb : pb (exw ((false, n) :: r)) = _ := congrArg Prod.snd e
  rw [ea, eb]
  clear ea eb e
  generalize pa (exw r) = a at *
  generalize pb (exw r) = b at *
  dsimp only
  have e1 : n * a ≥ 1 * a := Nat.mul_le_mul_right _ hn
  refine ⟨by omega, ?_, by omega, rfl⟩
  have e3 : b + n * a - 1 = (b - 1) + a * n := by rw [Nat.mul_comm n a]; omega
  rw [e3, Nat.add_mul_div_left _ _ (by omega), Nat.div_eq_of_lt (by omega)]
  omega
end Mt

namespace Mt
/-! ### shared runs -/
theorem exw_app : ∀ r s : List Rn, exw (r ++ s) = exw r ++ exw s
  | [], s => rfl
  | (c, n) :: r, s => by
    show List.replicate n c ++ exw (r ++ s) = (List.replicate n c ++ exw r) ++ exw s
    rw [exw_app r s, List.append_assoc]
theorem exw_rev : ∀ r : List Rn, exw r.reverse = (exw r).reverse
  | [] => rfl
  | (c, n) :: r => by
    show _ = (List.replicate n c ++ exw r).reverse
    rw [List.reverse_cons, exw_app, exw_rev r, List.reverse_append, List.reverse_replicate]
    show _ ++ (List.replicate n c ++ []) = _
    rw [List.append_nil]
theorem can_snoc : ∀ (r : List Rn) (c : Bool) (n : Nat), Can r → 1 ≤ n → (∀ d m, r.getLast? = some (d, m) → d ≠ c) → Can (r ++ [(c, n)])
  | [], c, n, _, h, _ => ⟨h, fun _ _ _ z => (List.cons_ne_nil _ _ z.symm).elim, trivial⟩
  | [(c', n')], c, n, k, h, q => ⟨k.1, fun d m r' z => by
      cases z
      exact fun e => q c' n' rfl e.symm, h, fun _ _ _ z => (List.cons_ne_nil _ _ z.symm).elim, trivial⟩
  | (c', n') :: (c2, n2) :: r, c, n, k, h, q => ⟨k.1, fun d m r' z => by
      cases z
      exact k.2.1 _ _ _ rfl, can_snoc ((c2, n2) :: r) c n k.2.2 h fun d m e => q d m (by rw [List.getLast?_cons_cons]; exact e)⟩
theorem can_rev : ∀ r : List Rn, Can r → Can r.reverse
  | [], _ => trivial
  | (c, n) :: r, k => by
    rw [List.reverse_cons]
    refine can_snoc _ _ _ (can_rev r k.2.2) k.1 fun d m e => ?_
    rw [List.getLast?_reverse] at e
    cases r with
    | nil => cases e
    | cons x r' =>
      cases e
      exact k.2.1 d m r' rfl
def shr : List Rn → List Rn → List Rn
  | (c, n) :: r, (d, m) :: s => if c = d then (c, min n m) :: (if n = m then shr r s else []) else []
  | _, _ => []
def tot : List Rn → Nat
  | [] => 0
  | (_, n) :: r => n + tot r
theorem tot_exw : ∀ r : List Rn, tot r = (exw r).length
  | [] => rfl
  | (c, n) :: r => by
    show n + tot r = (List.replicate n c ++ exw r).length
    rw [tot_exw r, List.length_append, List.length_replicate]
theorem tot_rev (r : List Rn) : tot r.reverse = tot r := by rw [tot_exw, tot_exw, exw_rev, List.length_reverse]
def lcp : Wo → Wo → Nat
  | a :: x, b :: y => if a = b then lcp x y + 1 else 0
  | _, _ => 0
theorem lcp_rep (c : Bool) (x y : Wo) : ∀ n : Nat, lcp (List.replicate n c ++ x) (List.replicate n c ++ y) = n + lcp x y
  | 0 => (Nat.zero_add _).symm
  | n + 1 => by
    show (if c = c then lcp (List.replicate n c ++ x) (List.replicate n c ++ y) + 1 else 0) = _
    rw [if_pos rfl, lcp_rep c x y n]
    omega
theorem lcp_comm : ∀ x y : Wo, lcp x y = lcp y x
  | [], [] => rfl
  | [], _ :: _ => rfl
  | _ :: _, [] => rfl
  | a :: x, b :: y => by
    show (if a = b then lcp x y + 1 else 0) = (if b = a then lcp y x + 1 else 0)
    rw [lcp_comm x y]
    by_cases h : a = b
    · rw [if_pos h, if_pos h.symm]
    · rw [if_neg h, if_neg (Ne.symm h)]
/-- what stands behind a run begins otherwise -/
theorem lcp_can {c : Bool} {n : Nat} {r : List Rn} (h : Can ((c, n) :: r)) (y : Wo) (k : Nat) (hk : 1 ≤ k) : lcp (exw r) (List.replicate k c ++ y) = 0 := by
  cases r with
  | nil => cases k <;> rfl
  | cons x r' =>
    obtain ⟨d, m⟩ := x
    have hd := h.2.1 d m r' rfl
    have hm := h.2.2.1
    cases m with
    | zero => omega
    | succ m =>
      cases k with
      | zero => omega
      | succ k =>
        show (if d = c then _ else 0) = 0
        rw [if_neg hd]
theorem rep_split (c : Bool) (y : Wo) {n m : Nat} (h : n ≤ m) : List.replicate m c ++ y = List.replicate n c ++ (List.replicate (m - n) c ++ y) := by
  rw [← List.append_assoc, List.replicate_append_replicate]
  congr 2
  omega
theorem shr_tot : ∀ r s : List Rn, Can r → Can s → tot (shr r s) = lcp (exw r) (exw s)
  | [], [], _, _ => rfl
  | [], _ :: _, _, _ => rfl
  | (c, n) :: r, [], _, _ => by
    show 0 = lcp _ []
    cases (exw ((c, n) :: r)) <;> rfl
  | (c, n) :: r, (d, m) :: s, k1, k2 => by
    unfold shr
    by_cases h : c = d
    · subst h
      rw [if_pos rfl]
      show _ + tot _ = lcp (List.replicate n c ++ exw r) (List.replicate m c ++ exw s)
      by_cases e : n = m
      · subst e
        rw [if_pos rfl, lcp_rep, shr_tot r s k1.2.2 k2.2.2, Nat.min_self]
      · rw [if_neg e]
        show min n m + 0 = _
        rcases Nat.lt_or_gt_of_ne e with l | l
        · rw [rep_split c (exw s) (Nat.le_of_lt l), lcp_rep, lcp_can k1 _ _ (by omega)]
          omega
        · rw [rep_split c (exw r) (Nat.le_of_lt l), lcp_rep, lcp_comm, lcp_can k2 _ _ (by omega)]
          omega
    · rw [if_neg h]
      show 0 = lcp (List.replicate n c ++ exw r) (List.replicate m d ++ exw s)
      have h1 := k1.1
      have h2 := k2.1
      cases n with
      | zero => omega
      | succ n =>
        cases m with
        | zero => omega
        | succ m =>
          show 0 = if c = d then _ else 0
          rw [if_neg h]
/-- the runs from the begin to a position -/
def runs (w : Wo) : List Rn := (rle w).reverse
/-- the word behind runs -/
def gow (w : Wo) : List Rn → Wo
  | [] => w
  | (c, n) :: r => gow (List.replicate n c ++ w) r
theorem gow_len : ∀ (r : List Rn) (w : Wo), (gow w r).length = w.length + tot r
  | [], w => rfl
  | (c, n) :: r, w => by
    show (gow (List.replicate n c ++ w) r).length = w.length + (n + tot r)
    rw [gow_len r, List.length_append, List.length_replicate]
    omega
theorem rle_len : ∀ w : Wo, (rle w).length ≤ w.length
  | [] => Nat.le_refl _
  | c :: w => by
    have h := rle_len w
    unfold rle
    cases e : rle w with
    | nil =>
      show 1 ≤ w.length + 1
      omega
    | cons x r =>
      obtain ⟨d, n⟩ := x
      rw [e] at h
      show (if d = c then (c, n + 1) :: r else (c, 1) :: (d, n) :: r).length ≤ w.length + 1
      split
      · exact Nat.le_trans h (Nat.le_succ _)
      · exact Nat.succ_le_succ h
theorem runs_len (w : Wo) : (runs w).length ≤ w.length := by
  unfold runs
  rw [List.length_reverse]
  exact rle_len w
/-- how many leaps the ways to two positions share -/
def cs (u v : Wo) : Nat := lcp u.reverse v.reverse
theorem runs_exw (w : Wo) : exw (runs w) = w.reverse := by
  unfold runs
  rw [exw_rev, (rle_ok w).1]
theorem runs_tot (w : Wo) : tot (runs w) = w.length := by rw [tot_exw, runs_exw, List.length_reverse]
theorem shr_cs (u v : Wo) : tot (shr (runs u) (runs v)) = cs u v := by
  rw [shr_tot (runs u) (runs v) (can_rev _ (rle_ok u).2) (can_rev _ (rle_ok v).2), runs_exw, runs_exw]
  rfl
theorem lcp_le : ∀ x y : Wo, lcp x y ≤ x.length ∧ lcp x y ≤ y.length
  | [], y => ⟨Nat.zero_le _, Nat.zero_le _⟩
  | _ :: _, [] => ⟨Nat.zero_le _, Nat.zero_le _⟩
  | a :: x, b :: y => by
    have h := lcp_le x y
    show (if a = b then lcp x y + 1 else 0) ≤ x.length + 1 ∧ (if a = b then lcp x y + 1 else 0) ≤ y.length + 1
    split <;> omega
theorem cs_le (u v : Wo) : cs u v ≤ u.length ∧ cs u v ≤ v.length := by
  have h := lcp_le u.reverse v.reverse
  rw [List.length_reverse, List.length_reverse] at h
  exact h
theorem cs_comm (u v : Wo) : cs u v = cs v u := lcp_comm _ _
theorem lcp_eq : ∀ x y : Wo, lcp x y = x.length → lcp x y = y.length → x = y
  | [], [], _, _ => rfl
  | [], b :: y, _, h => by cases h
  | a :: x, [], h, _ => by cases h
  | a :: x, b :: y, h1, h2 => by
    change (if a = b then lcp x y + 1 else 0) = x.length + 1 at h1
    change (if a = b then lcp x y + 1 else 0) = y.length + 1 at h2
    by_cases h : a = b
    · rw [if_pos h] at h1 h2
      rw [h, lcp_eq x y (by omega) (by omega)]
    · rw [if_neg h] at h1
      omega
theorem lcp_self : ∀ x : Wo, lcp x x = x.length
  | [] => rfl
  | a :: x => by
    show (if a = a then lcp x x + 1 else 0) = x.length + 1
    rw [if_pos rfl, lcp_self x]
theorem lcp_snoc : ∀ (x y : Wo) (c : Bool), lcp x (y ++ [c]) = if lcp x y = y.length ∧ x[y.length]? = some c then y.length + 1 else lcp x y
  | [], y, c => by
    rw [if_neg (fun z => by have := z.2; cases y.length <;> simp at this)]
    rfl
  | a :: x, [], c => by
    have e : lcp x [] = 0 := by cases x <;> rfl
    simp [lcp, e]
  | a :: x, b :: y, c => by
    show (if a = b then lcp x (y ++ [c]) + 1 else 0) = if ((if a = b then lcp x y + 1 else 0) = y.length + 1 ∧ x[y.length]? = some c) then y.length + 1 + 1 else (if a = b then lcp x y + 1 else 0)
    rw [lcp_snoc x y c]
    by_cases h : a = b
    · rw [if_pos h, if_pos h]
      by_cases k : lcp x y = y.length ∧ x[y.length]? = some c
      · rw [if_pos k, if_pos ⟨by omega, k.2⟩]
      · rw [if_neg k, if_neg fun z => k ⟨by omega, z.2⟩]
    · rw [if_neg h, if_neg h, if_neg fun z => by omega]
theorem cs_cons (u v : Wo) (c : Bool) : cs u (c :: v) = if cs u v = v.length ∧ u.reverse[v.length]? = some c then v.length + 1 else cs u v := by
  unfold cs
  rw [List.reverse_cons, lcp_snoc, List.length_reverse]
/-! ### numbers of words -/
def wt (ch : Bool) (w : Wo) : Nat := if ch = true then (if w = [] then 3 else 2) else 1
def Pw (ch : Bool) (f : Wo → Nat) (w : Wo) : Nat := wt ch w * ((nbs w).map f).sum
/-- the words of n leaps from a position, each by its weight, into f -/
def Pn (ch : Bool) : Nat → (Wo → Nat) → Wo → Nat
  | 0, f => f
  | n + 1, f => Pn ch n (Pw ch f)
theorem Pn_succ (ch : Bool) : ∀ (n : Nat) (f : Wo → Nat), Pn ch (n + 1) f = Pw ch (Pn ch n f)
  | 0, f => rfl
  | n + 1, f => Pn_succ ch n (Pw ch f)
def at1 (u v : Wo) : Nat := if v = u then 1 else 0
def sh (ch : Bool) (m : Nat × Nat) : Nat := if ch = true then (if m.1 + m.2 = 0 then 3 else 2) else 1
def tl (goal : Nat) (m : Nat × Nat) : List ((Nat × Nat) × Nat) :=
  if 0 < m.2 then [((m.1, m.2 - 1), 1), ((m.1, m.2 + 1), 2)]
  else (if 0 < m.1 then [((m.1 - 1, 0), 1)] else []) ++ (if m.1 < goal then [((m.1 + 1, 0), 1), ((m.1, 1), 1)] else [((m.1, 1), 2)])
def G (ch : Bool) (goal : Nat) : Nat → Nat × Nat → Nat
  | 0, m => if m = (goal, 0) then 1 else 0
  | n + 1, m => sh ch m * ((tl goal m).map fun t => t.2 * G ch goal n t.1).sum
theorem G_zero (ch : Bool) (goal : Nat) : ∀ (n p b : Nat), p ≤ goal → n < goal - p + b → G ch goal n (p, b) = 0
  | 0, p, b, hp, h => by
    show (if (p, b) = (goal, 0) then 1 else 0) = 0
    rw [if_neg fun z => by rw [Prod.mk.injEq] at z; omega]
  | n + 1, p, b, hp, h => by
    have e : ((tl goal (p, b)).map fun t => t.2 * G ch goal n t.1).sum = 0 := by
      have z := G_zero ch goal n
      unfold tl
      dsimp only
      split
      · rw [List.map_cons, List.map_cons, List.map_nil, z p (b - 1) hp (by omega), z p (b + 1) hp (by omega)]
        rfl
      · next hb =>
        have hpg : p < goal := by omega
        rw [if_pos hpg]
        split
        · rw [List.map_append, List.map_cons, List.map_cons, List.map_cons, List.map_nil, z (p - 1) 0 (by omega) (by omega), z (p + 1) 0 (by omega) (by omega), z p 1 (by omega) (by omega)]
          rfl
        · rw [List.nil_append, List.map_cons, List.map_cons, List.map_nil, z (p + 1) 0 (by omega) (by omega), z p 1 (by omega) (by omega)]
          rfl
    show sh ch (p, b) * _ = 0
    rw [e, Nat.mul_zero]
theorem tl_le (goal : Nat) (m : Nat × Nat) (h : m.1 ≤ goal) : ∀ t ∈ tl goal m, t.1.1 ≤ goal := by
  intro t ht
  unfold tl at ht
  split at ht
  · rcases List.mem_cons.mp ht with z | z
    · subst z; exact h
    · rcases List.mem_cons.mp z with z | z
      · subst z; exact h
      · cases z
  · rcases List.mem_append.mp ht with z | z
    · split at z
      · rcases List.mem_cons.mp z with z | z
        · subst z; show m.1 - 1 ≤ goal; omega
        · cases z
      · cases z
    · split at z
      · rcases List.mem_cons.mp z with z | z
        · subst z; show m.1 + 1 ≤ goal; omega
        · rcases List.mem_cons.mp z with z | z
          · subst z; exact h
          · cases z
      · rcases List.mem_cons.mp z with z | z
        · subst z; exact h
        · cases z
theorem two_kids {u v : Wo} (f : Nat × Nat → Nat) (h : cs u v = v.length) (hl : v.length < u.length) : f (cs u (true :: v), v.length + 1 - cs u (true :: v)) + f (cs u (false :: v), v.length + 1 - cs u (false :: v)) = f (v.length + 1, 0) + f (v.length, 1) := by
  have hl' : v.length < u.reverse.length := by rw [List.length_reverse]; exact hl
  have e := List.getElem?_eq_getElem hl'
  rw [cs_cons, cs_cons, h, e]
  cases u.reverse[v.length]
  · rw [if_neg (fun z => by cases z.2), if_pos ⟨rfl, rfl⟩, Nat.add_comm, show v.length + 1 - (v.length + 1) = 0 by omega, show v.length + 1 - v.length = 1 by omega]
  · rw [if_pos ⟨rfl, rfl⟩, if_neg (fun z => by cases z.2), show v.length + 1 - (v.length + 1) = 0 by omega, show v.length + 1 - v.length = 1 by omega]
theorem one_kid {u v : Wo} (c : Bool) (f : Nat × Nat → Nat) (h : cs u v ≠ v.length ∨ u.length ≤ v.length) : f (cs u (c :: v), v.length + 1 - cs u (c :: v)) = f (cs u v, v.length - cs u v + 1) := by
  have hle := (cs_le u v).2
  rw [cs_cons, if_neg]
  · rw [show v.length + 1 - cs u v = v.length - cs u v + 1 by omega]
  · rintro ⟨z1, z2⟩
    rcases h with h | h
    · exact h z1
    · rw [List.getElem?_eq_none (by rw [List.length_reverse]; exact h)] at z2
      cases z2
theorem walk_eq (ch : Bool) (u : Wo) : ∀ (n : Nat) (v : Wo), Pn ch n (at1 u) v = G ch u.length n (cs u v, v.length - cs u v)
  | 0, v => by
    show (if v = u then 1 else 0) = if (cs u v, v.length - cs u v) = (u.length, 0) then 1 else 0
    have hle := cs_le u v
    by_cases h : v = u
    · subst h
      have e : cs v v = v.length := by
        unfold cs
        rw [lcp_self, List.length_reverse]
      rw [if_pos rfl, if_pos (by rw [e, Nat.sub_self])]
    · rw [if_neg h, if_neg]
      intro z
      rw [Prod.mk.injEq] at z
      have e := lcp_eq u.reverse v.reverse (by rw [List.length_reverse]; exact z.1) (by rw [List.length_reverse]; show cs u v = _; omega)
      exact h (List.reverse_inj.mp e).symm
  | n + 1, v => by
    have ih := walk_eq ch u n
    have hle := cs_le u v
    rw [Pn_succ]
    show wt ch v * ((nbs v).map (Pn ch n (at1 u))).sum = sh ch (cs u v, v.length - cs u v) * ((tl u.length (cs u v, v.length - cs u v)).map fun t => t.2 * G ch u.length n t.1).sum
    have e1 : wt ch v = sh ch (cs u v, v.length - cs u v) := by
      unfold wt sh
      dsimp only
      cases v with
      | nil => rw [if_pos rfl, if_pos (show cs u [] + ([].length - cs u []) = 0 by have h2 := hle.2; simp only [List.length_nil] at h2 ⊢; omega)]
      | cons c w => rw [if_neg (List.cons_ne_nil _ _), if_neg (show ¬ (cs u (c :: w) + ((c :: w).length - cs u (c :: w)) = 0) by simp only [List.length_cons] at hle ⊢; omega)]
    rw [e1]
    congr 1
    have kids : Pn ch n (at1 u) (true :: v) + Pn ch n (at1 u) (false :: v) = ((if 0 < v.length - cs u v then [((cs u v, v.length - cs u v + 1), 2)] else if cs u v < u.length then [((cs u v + 1, 0), 1), ((cs u v, 1), 1)] else [((cs u v, 1), 2)]).map fun t => t.2 * G ch u.length n t.1).sum := by
      rw [ih, ih]
      by_cases hb : 0 < v.length - cs u v
      · rw [if_pos hb]
        show G ch u.length n (cs u (true :: v), v.length + 1 - _) + G ch u.length n (cs u (false :: v), v.length + 1 - _) = 2 * _ + 0
        rw [one_kid true (G ch u.length n) (.inl (by omega)), one_kid false (G ch u.length n) (.inl (by omega))]
        dsimp only
        omega
      · rw [if_neg hb]
        have hv : cs u v = v.length := by omega
        by_cases hg : cs u v < u.length
        · rw [if_pos hg]
          show G ch u.length n (cs u (true :: v), v.length + 1 - _) + G ch u.length n (cs u (false :: v), v.length + 1 - _) = 1 * _ + (1 * _ + 0)
          rw [two_kids (G ch u.length n) hv (by omega), hv]
          dsimp only
          omega
        · rw [if_neg hg]
          show G ch u.length n (cs u (true :: v), v.length + 1 - _) + G ch u.length n (cs u (false :: v), v.length + 1 - _) = 2 * _ + 0
          rw [one_kid true (G ch u.length n) (.inr (by omega)), one_kid false (G ch u.length n) (.inr (by omega)), show v.length - cs u v = 0 by omega, Nat.zero_add]
          dsimp only
          omega
    have split : ((tl u.length (cs u v, v.length - cs u v)).map fun t => t.2 * G ch u.length n t.1).sum = (if v = [] then 0 else Pn ch n (at1 u) v.tail) + (((if 0 < v.length - cs u v then [((cs u v, v.length - cs u v + 1), 2)] else if cs u v < u.length then [((cs u v + 1, 0), 1), ((cs u v, 1), 1)] else [((cs u v, 1), 2)]) : List ((Nat × Nat) × Nat)).map fun t => t.2 * G ch u.length n t.1).sum := by
      unfold tl
      dsimp only
      cases v with
      | nil =>
        have hz : cs u [] = 0 := by have := hle.2; simp at this; omega
        rw [hz]
        rw [if_neg (show ¬ 0 < [].length - 0 by simp), if_neg (show ¬ 0 < 0 by omega), if_neg (show ¬ 0 < [].length - 0 by simp), List.nil_append, if_pos rfl, Nat.zero_add]
        exact (Nat.zero_add _).symm
      | cons c w =>
        rw [if_neg (List.cons_ne_nil _ _)]
        show _ = Pn ch n (at1 u) w + _
        rw [ih w]
        have hc := cs_cons u w c
        have hlw := (cs_le u w).2
        have hll : (c :: w).length = w.length + 1 := rfl
        rw [hll] at hle ⊢
        by_cases hb : 0 < w.length + 1 - cs u (c :: w)
        · rw [if_pos hb, if_pos hb]
          have e2 : cs u w = cs u (c :: w) := by
            split at hc
            · omega
            · exact hc.symm
          rw [e2]
          show 1 * G ch u.length n _ + (2 * _ + 0) = G ch u.length n _ + (2 * _ + 0)
          rw [Nat.one_mul, show w.length + 1 - cs u (c :: w) - 1 = w.length - cs u (c :: w) by omega]
        · rw [if_neg hb, if_neg hb]
          have e2 : cs u (c :: w) = w.length + 1 := by omega
          have e3 : cs u w = w.length := by
            split at hc
            · next z => exact z.1
            · omega
          rw [if_pos (show 0 < cs u (c :: w) by omega), List.map_append, List.sum_append]
          congr 1
          rw [e2, e3, Nat.sub_self]
          show 1 * G ch u.length n _ + 0 = _
          rw [Nat.one_mul]
          rfl
    rw [split, ← kids]
    cases v with
    | nil =>
      show Pn ch n (at1 u) [true] + (Pn ch n (at1 u) [false] + 0) = _
      rw [if_pos rfl]
      omega
    | cons c w =>
      rw [if_neg (List.cons_ne_nil _ _)]
      show Pn ch n (at1 u) (true :: c :: w) + (Pn ch n (at1 u) (false :: c :: w) + (Pn ch n (at1 u) w + 0)) = Pn ch n (at1 u) w + _
      omega
end Mt

namespace Mt
open Lp (getA putA)
variable {κ β : Type} [DecidableEq κ]
def vl (c : β → Nat) : Option β → Nat
  | some v => c v
  | none => 0
def S (c : β → Nat) (f : κ → Nat) (M : List (κ × β)) : Nat := (M.map fun e => c e.2 * f e.1).sum
def Ks (M : List (κ × β)) : Prop := (M.map (·.1)).Nodup
theorem get_cons (e : κ × β) (M : List (κ × β)) (k : κ) : getA (e :: M) k = if e.1 = k then some e.2 else getA M k := by
  unfold getA
  rw [List.find?_cons]
  by_cases h : e.1 = k
  · rw [if_pos h, decide_eq_true h]
    rfl
  · rw [if_neg h, decide_eq_false h]
theorem get_none {M : List (κ × β)} {k : κ} (h : k ∉ M.map (·.1)) : getA M k = none := by
  induction M with
  | nil => rfl
  | cons e M ih =>
    rw [get_cons, if_neg (fun z => h (by rw [List.map_cons, z]; exact List.mem_cons_self))]
    exact ih fun z => h (List.mem_cons_of_mem _ z)
theorem any_iff (M : List (κ × β)) (k : κ) : (M.any fun kv => decide (kv.1 = k)) = true ↔ k ∈ M.map (·.1) := by
  rw [List.any_eq_true, List.mem_map]
  constructor
  · rintro ⟨x, h1, h2⟩
    exact ⟨x, h1, of_decide_eq_true h2⟩
  · rintro ⟨x, h1, h2⟩
    exact ⟨x, h1, decide_eq_true h2⟩
theorem put_keys (M : List (κ × β)) (k : κ) (v : β) : (putA M k v).map (·.1) = if k ∈ M.map (·.1) then M.map (·.1) else M.map (·.1) ++ [k] := by
  unfold putA
  by_cases h : k ∈ M.map (·.1)
  · rw [if_pos ((any_iff M k).mpr h), if_pos h, List.map_map]
    apply List.map_congr_left
    intro e _
    show (if e.1 = k then (e.1, v) else e).1 = e.1
    split <;> rfl
  · rw [if_neg (fun z => h ((any_iff M k).mp z)), if_neg h, List.map_append]
    rfl
theorem put_nd {M : List (κ × β)} (k : κ) (v : β) (h : Ks M) : Ks (putA M k v) := by
  unfold Ks at h ⊢
  rw [put_keys]
  split
  · exact h
  · next z =>
    rw [List.nodup_append]
    refine ⟨h, ?_, fun a ha b hb => ?_⟩
    · exact List.nodup_cons.mpr ⟨List.not_mem_nil, List.nodup_nil⟩
    · rw [List.mem_singleton.mp hb]
      exact fun e => z (e ▸ ha)
theorem put_len (M : List (κ × β)) (k : κ) (v : β) : (putA M k v).length ≤ M.length + 1 := by
  unfold putA
  split
  · rw [List.length_map]
    omega
  · rw [List.length_append]
    exact Nat.le_refl _
theorem put_all {p : κ → Prop} {M : List (κ × β)} {k : κ} (v : β) (h : ∀ x ∈ M.map (·.1), p x) (hk : p k) : ∀ x ∈ (putA M k v).map (·.1), p x := by
  rw [put_keys]
  split
  · exact h
  · intro x hx
    rcases List.mem_append.mp hx with z | z
    · exact h x z
    · rw [List.mem_singleton.mp z]
      exact hk
theorem S_app (c : β → Nat) (f : κ → Nat) (M N : List (κ × β)) : S c f (M ++ N) = S c f M + S c f N := by
  unfold S
  rw [List.map_append, List.sum_append]
theorem S_cons (c : β → Nat) (f : κ → Nat) (e : κ × β) (M : List (κ × β)) : S c f (e :: M) = c e.2 * f e.1 + S c f M := rfl
theorem S_put (c : β → Nat) (f : κ → Nat) {M : List (κ × β)} {k : κ} {v : β} {x : Nat} (h : Ks M) (hv : c v = vl c (getA M k) + x) : S c f (putA M k v) = S c f M + x * f k := by
  unfold putA
  by_cases hk : k ∈ M.map (·.1)
  · rw [if_pos ((any_iff M k).mpr hk)]
    induction M with
    | nil => cases hk
    | cons e M ih =>
      unfold Ks at h
      rw [List.map_cons] at h hk
      obtain ⟨h1, h2⟩ := List.nodup_cons.mp h
      rw [List.map_cons, S_cons, S_cons]
      rw [get_cons] at hv
      by_cases hek : e.1 = k
      · rw [if_pos hek] at hv
        have same : (M.map fun kv => if kv.1 = k then (kv.1, v) else kv) = M := by
          conv => rhs; rw [← List.map_id M]
          apply List.map_congr_left
          intro a ha
          rw [if_neg (fun z => h1 (by rw [hek, ← z]; exact List.mem_map_of_mem ha))]
          rfl
        rw [same, if_pos hek, hv, ← hek]
        show (c e.2 + x) * f e.1 + _ = _
        rw [Nat.add_mul]
        omega
      · rw [if_neg hek] at hv ⊢
        rcases List.mem_cons.mp hk with z | z
        · exact absurd z.symm hek
        · rw [ih h2 hv z]
          omega
  · rw [if_neg (fun z => hk ((any_iff M k).mp z)), S_app]
    rw [get_none hk] at hv
    show _ + (c v * f k + 0) = _
    rw [hv]
    show _ + ((0 + x) * f k + 0) = _
    rw [Nat.zero_add, Nat.add_zero]
theorem S_at (c : β → Nat) (u : κ) {M : List (κ × β)} (h : Ks M) : S c (fun m => if m = u then 1 else 0) M = vl c (getA M u) := by
  induction M with
  | nil => rfl
  | cons e M ih =>
    unfold Ks at h
    rw [List.map_cons] at h
    obtain ⟨h1, h2⟩ := List.nodup_cons.mp h
    rw [S_cons, get_cons, ih h2]
    by_cases hek : e.1 = u
    · rw [if_pos hek, if_pos hek, get_none (by rw [← hek]; exact h1)]
      show c e.2 * 1 + 0 = c e.2
      omega
    · rw [if_neg hek, if_neg hek]
      omega
theorem S_congr (c : β → Nat) {f g : κ → Nat} {M : List (κ × β)} (h : ∀ x ∈ M.map (·.1), f x = g x) : S c f M = S c g M := by
  unfold S
  congr 1
  apply List.map_congr_left
  intro e he
  rw [h e.1 (List.mem_map_of_mem he)]
theorem S_take_succ (c : β → Nat) (f : κ → Nat) {M : List (κ × β)} {i : Nat} {e : κ × β} (h : M[i]? = some e) : S c f (M.take (i + 1)) = S c f (M.take i) + c e.2 * f e.1 := by
  rw [List.take_add_one, h, S_app]
  rfl
section
variable {κ' β' : Type} [DecidableEq κ']
theorem get_map {f : κ → κ'} (hf : ∀ a b, f a = f b → a = b) (g : β → β') (M : List (κ × β)) (k : κ) : getA (M.map fun e => (f e.1, g e.2)) (f k) = (getA M k).map g := by
  induction M with
  | nil => rfl
  | cons e M ih =>
    rw [List.map_cons, get_cons, get_cons, ih]
    by_cases h : e.1 = k
    · rw [if_pos h, if_pos (by rw [h])]
      rfl
    · rw [if_neg h, if_neg fun z => h (hf _ _ z)]
theorem put_map {f : κ → κ'} (hf : ∀ a b, f a = f b → a = b) (g : β → β') (M : List (κ × β)) (k : κ) (v : β) : putA (M.map fun e => (f e.1, g e.2)) (f k) (g v) = (putA M k v).map fun e => (f e.1, g e.2) := by
  unfold putA
  have ha : ((M.map fun e => (f e.1, g e.2)).any fun kv => decide (kv.1 = f k)) = M.any fun kv => decide (kv.1 = k) := by
    rw [List.any_map]
    congr 1
    funext e
    show decide (f e.1 = f k) = decide (e.1 = k)
    by_cases h : e.1 = k
    · rw [decide_eq_true h, decide_eq_true (by rw [h])]
    · rw [decide_eq_false h, decide_eq_false fun z => h (hf _ _ z)]
  rw [ha]
  split
  · rw [List.map_map, List.map_map]
    apply List.map_congr_left
    intro e _
    show (if f e.1 = f k then (f e.1, g v) else (f e.1, g e.2)) = ((f (if e.1 = k then (e.1, v) else e).1), g (if e.1 = k then (e.1, v) else e).2)
    by_cases h : e.1 = k
    · rw [if_pos h, if_pos (by rw [h])]
    · rw [if_neg h, if_neg fun z => h (hf _ _ z)]
  · rw [List.map_append]
    rfl
end
end Mt

namespace Mt
/-! ### the leaps that can be made -/
def okP (ps : List Int) (p : Nat × Nat) : Bool := decide (p.1 ≠ p.2 ∧ ((ps.getD (3 - p.1 - p.2) 0 < 2 * ps.getD p.2 0 - ps.getD p.1 0 ∧ ps.getD (3 - p.1 - p.2) 0 < ps.getD p.1 0) ∨ (2 * ps.getD p.2 0 - ps.getD p.1 0 < ps.getD (3 - p.1 - p.2) 0 ∧ ps.getD p.1 0 < ps.getD (3 - p.1 - p.2) 0)))
def allP : List (Nat × Nat) := [(0, 0), (0, 1), (0, 2), (1, 0), (1, 1), (1, 2), (2, 0), (2, 1), (2, 2)]
def lps (ps : List Int) : List (Nat × Nat) := allP.filter (okP ps)
theorem ok_t {ps : List Int} {p : Nat × Nat} (h : p.1 ≠ p.2 ∧ ((ps.getD (3 - p.1 - p.2) 0 < 2 * ps.getD p.2 0 - ps.getD p.1 0 ∧ ps.getD (3 - p.1 - p.2) 0 < ps.getD p.1 0) ∨ (2 * ps.getD p.2 0 - ps.getD p.1 0 < ps.getD (3 - p.1 - p.2) 0 ∧ ps.getD p.1 0 < ps.getD (3 - p.1 - p.2) 0))) : okP ps p = true := decide_eq_true h
theorem ok_f {ps : List Int} {p : Nat × Nat} (h : ¬ (p.1 ≠ p.2 ∧ ((ps.getD (3 - p.1 - p.2) 0 < 2 * ps.getD p.2 0 - ps.getD p.1 0 ∧ ps.getD (3 - p.1 - p.2) 0 < ps.getD p.1 0) ∨ (2 * ps.getD p.2 0 - ps.getD p.1 0 < ps.getD (3 - p.1 - p.2) 0 ∧ ps.getD p.1 0 < ps.getD (3 - p.1 - p.2) 0)))) : ¬ okP ps p = true := by
  rw [show okP ps p = false from decide_eq_false h]
  decide
theorem p3 {α : Type} (a b c : α) : ∀ l : List α, l = [a, b, c] ∨ l = [a, c, b] ∨ l = [b, a, c] ∨ l = [b, c, a] ∨ l = [c, a, b] ∨ l = [c, b, a] → l.Perm [a, b, c] := by
  intro l h
  rcases h with h | h | h | h | h | h <;> subst h
  · exact .refl _
  · exact .cons _ (.swap _ _ _)
  · exact .swap _ _ _
  · exact ((List.Perm.cons _ (.swap _ _ _)).trans (.swap _ _ _)).trans (.refl _)
  · exact (List.Perm.swap _ _ _).trans (.cons _ (.swap _ _ _))
  · exact ((List.Perm.swap _ _ _).trans (.cons _ (.swap _ _ _))).trans (.swap _ _ _)
theorem lps_lt (o : O) {x y z : Int} (h1 : x < y) (h2 : y < z) (h : y - x < z - y) : (lps (sv o x y z)).Perm [(o.m, o.r), (o.m, o.l), (o.l, o.m)] := by
  refine p3 _ _ _ _ ?_
  unfold lps allP
  cases o
  all_goals
    repeat (first
      | rw [List.filter_cons_of_neg (ok_f (by simp only [sv, Nat.reduceSub, List.getD_cons_zero, List.getD_cons_succ]; omega))]
      | rw [List.filter_cons_of_pos (ok_t (by simp only [sv, Nat.reduceSub, List.getD_cons_zero, List.getD_cons_succ]; omega))])
    simp only [List.filter_nil, O.l, O.m, O.r]
    decide
theorem lps_gt (o : O) {x y z : Int} (h1 : x < y) (h2 : y < z) (h : z - y < y - x) : (lps (sv o x y z)).Perm [(o.m, o.r), (o.m, o.l), (o.r, o.m)] := by
  refine p3 _ _ _ _ ?_
  unfold lps allP
  cases o
  all_goals
    repeat (first
      | rw [List.filter_cons_of_neg (ok_f (by simp only [sv, Nat.reduceSub, List.getD_cons_zero, List.getD_cons_succ]; omega))]
      | rw [List.filter_cons_of_pos (ok_t (by simp only [sv, Nat.reduceSub, List.getD_cons_zero, List.getD_cons_succ]; omega))])
    simp only [List.filter_nil, O.l, O.m, O.r]
    decide
theorem lps_eq (o : O) {x y z : Int} (h1 : x < y) (h2 : y < z) (h : z - y = y - x) : (lps (sv o x y z)).Perm [(o.m, o.r), (o.m, o.l)] := by
  have e : lps (sv o x y z) = [(o.m, o.r), (o.m, o.l)] ∨ lps (sv o x y z) = [(o.m, o.l), (o.m, o.r)] := by
    unfold lps allP
    cases o
    all_goals
      repeat (first
        | rw [List.filter_cons_of_neg (ok_f (by simp only [sv, Nat.reduceSub, List.getD_cons_zero, List.getD_cons_succ]; omega))]
        | rw [List.filter_cons_of_pos (ok_t (by simp only [sv, Nat.reduceSub, List.getD_cons_zero, List.getD_cons_succ]; omega))])
      simp only [List.filter_nil, O.l, O.m, O.r]
      decide
  rcases e with e | e <;> rw [e]
  exact .swap _ _ _
theorem perm_map {α β : Type} (f : α → β) {l1 l2 : List β} (h : l1.Perm l2) : ∀ l : List α, l2 = l.map f → ∃ l' : List α, l'.Perm l ∧ l1 = l'.map f := by
  induction h with
  | nil => exact fun l e => ⟨l, .refl _, e⟩
  | @cons x l1 l2 _ ih =>
    intro l e
    cases l with
    | nil => cases e
    | cons a l =>
      cases e
      obtain ⟨l', p, q⟩ := ih l rfl
      exact ⟨a :: l', .cons _ p, by rw [q]; rfl⟩
  | swap x y r =>
    intro l e
    match l, e with
    | a :: b :: l, e =>
      cases e
      exact ⟨b :: a :: l, .swap _ _ _, rfl⟩
  | trans _ _ ih1 ih2 =>
    intro l e
    obtain ⟨l2, p2, q2⟩ := ih2 l e
    obtain ⟨l3, p3, q3⟩ := ih1 l2 q2
    exact ⟨l3, p3.trans p2, q3⟩
/-- the positions behind the leaps are the neighbors -/
theorem near_ok {T : Tr} (k : T.Ok) (w : Wo) : ∃ ns : List Wo, ns.Perm (nbs w) ∧ (lps (plc T w)).map (fun p => lpt (plc T w) p.1 p.2) = ns.map (plc T) := by
  have q := AB_pos k w
  have x1 : T.h - B T w < T.h + A T w - B T w := by omega
  have x2 : T.h + A T w - B T w < T.h + A T w := by omega
  refine perm_map (plc T) (l2 := (nbs w).map (plc T)) ?_ _ rfl
  cases w with
  | nil =>
    have h := (lps_eq (ord T.o []) x1 x2 (by rw [A_0, B_0]; omega)).map fun p => lpt (plc T []) p.1 p.2
    refine h.trans ?_
    show [lpt (plc T []) _ _, lpt (plc T []) _ _].Perm _
    rw [out_r, out_l]
    exact .refl _
  | cons c w =>
    have q2 := AB_pos k w
    cases c with
    | true =>
      have h := (lps_gt (ord T.o (true :: w)) x1 x2 (by rw [A_r, B_r]; omega)).map fun p => lpt (plc T (true :: w)) p.1 p.2
      refine h.trans ?_
      show [lpt (plc T (true :: w)) _ _, lpt (plc T (true :: w)) _ _, lpt (plc T (true :: w)) _ _].Perm _
      rw [out_r, out_l, in_r]
      exact .refl _
    | false =>
      have h := (lps_lt (ord T.o (false :: w)) x1 x2 (by rw [A_l, B_l]; omega)).map fun p => lpt (plc T (false :: w)) p.1 p.2
      refine h.trans ?_
      show [lpt (plc T (false :: w)) _ _, lpt (plc T (false :: w)) _ _, lpt (plc T (false :: w)) _ _].Perm _
      rw [out_r, out_l, in_l]
      exact .refl _
end Mt

namespace Lp
open PySem PySem.Spec PyProof.Rows L2 Lq
variable {W : Wd} {ρ : List Sl}
/-! ### the rules, their slots told last -/
theorem evp_var' {i : Nat} {k : D → Prop} (h : ∃ x, ρ[i]? = some (.d x) ∧ k x) : EvP W (tVar i) ρ k := h.elim fun _ h => evp_var h.1 h.2
theorem br_t {p q : Prop} (h : p) : (true = true → p) ∧ (true = false → q) := ⟨fun _ => h, fun z => Bool.noConfusion z⟩
theorem br_f {p q : Prop} (h : q) : (false = true → p) ∧ (false = false → q) := ⟨fun z => Bool.noConfusion z, fun _ => h⟩
theorem br_nt {p q : Prop} (h : q) : ((!true) = true → p) ∧ ((!true) = false → q) := br_f h
theorem br_nf {p q : Prop} (h : p) : ((!false) = true → p) ∧ ((!false) = false → q) := br_t h
theorem br_t' {p q : Prop} (h : p) : (true = false → q) ∧ (true = true → p) := ⟨fun z => Bool.noConfusion z, fun _ => h⟩
theorem br_f' {p q : Prop} (h : q) : (false = false → q) ∧ (false = true → p) := ⟨fun _ => h, fun z => Bool.noConfusion z⟩
theorem br_dt {c : Prop} [Decidable c] {p q : Prop} (hc : c) (h : p) : (decide c = true → p) ∧ (decide c = false → q) := by rw [decide_eq_true hc]; exact br_t h
theorem br_df {c : Prop} [Decidable c] {p q : Prop} (hc : ¬ c) (h : q) : (decide c = true → p) ∧ (decide c = false → q) := by rw [decide_eq_false hc]; exact br_f h
theorem br_d {c : Prop} [Decidable c] {p q : Prop} (h1 : c → p) (h2 : ¬ c → q) : (decide c = true → p) ∧ (decide c = false → q) := ⟨fun h => h1 (of_decide_eq_true h), fun h => h2 (of_decide_eq_false h)⟩
theorem br_nd {c : Prop} [Decidable c] {p q : Prop} (h1 : c → q) (h2 : ¬ c → p) : ((!decide c) = true → p) ∧ ((!decide c) = false → q) := by
  by_cases h : c
  · rw [decide_eq_true h]; exact br_nt (h1 h)
  · rw [decide_eq_false h]; exact br_nf (h2 h)
theorem evp_c' {v : V} {k : D → Prop} (h : noRef v = true ∧ k (.v v)) : EvP W (tC v) ρ k := evp_c h.2 h.1
theorem evp_I0i {g : Int → Int → Int} {ta tb : TE} {k : D → Prop} (h : EvP W ta ρ fun x => EvP W tb ρ fun y => ∃ i j, x = .int i ∧ y = .int j ∧ k (.int (g i j))) : EvP W (tOp (rI0 fun i j => .int (g i j)) ta tb) ρ k := evp_I0 h
theorem evp_I0b {g : Int → Int → Bool} {ta tb : TE} {k : D → Prop} (h : EvP W ta ρ fun x => EvP W tb ρ fun y => ∃ i j, x = .int i ∧ y = .int j ∧ k (.bl (g i j))) : EvP W (tOp (rI0 fun i j => .bl (g i j)) ta tb) ρ k := evp_I0 h
theorem evp_Ii {C : Int → Int → Prop} {g : Int → Int → Int} {ta tb : TE} {k : D → Prop} (h : EvP W ta ρ fun x => EvP W tb ρ fun y => ∃ i j, x = .int i ∧ y = .int j ∧ C i j ∧ k (.int (g i j))) : EvP W (tOp (rI C fun i j => .int (g i j)) ta tb) ρ k := evp_I h
theorem evp_uni {g : Int → Int} {ta : TE} {k : D → Prop} (h : EvP W ta ρ fun x => ∃ i, x = .int i ∧ k (.int (g i))) : EvP W (tUn (rU fun i => .int (g i)) ta) ρ k := evp_un h
theorem evp_ixO' {i : Nat} {tb : TE} {k : D → Prop} (h : ∃ p xs, ρ[i]? = some (.ol p xs) ∧ EvP W tb ρ fun y => ∃ j d, y = .int j ∧ atI xs j = some d ∧ k d) : EvP W (tOp (rIxL W.K) (tVar i) tb) ρ k := by
  obtain ⟨p, xs, h1, h2⟩ := h
  exact evp_ixO h1 h2
theorem evn_revO' {i : Nat} {k : List D → Prop} (h : ∃ p xs, ρ[i]? = some (.ol p xs) ∧ k xs.reverse) : EvN W (tRevL W.K (tVar i)) ρ k := by
  obtain ⟨p, xs, h1, h2⟩ := h
  exact evn_revO h1 h2
theorem evp_tupO' {i : Nat} {k : D → Prop} (h : ∃ p xs, ρ[i]? = some (.ol p xs) ∧ k (.t xs)) :
    EvP W (tCB (fun xs H Q => ∃ p ys, xs = [.ref p] ∧ ((SqL W.K H p ys ∧ ∀ l, H l = none → Q (.ref l) (upd H l (.tup ys))) ∨ (SqT W.K H p ys ∧ Q (.ref p) H))) (tCons (tVar i) tNil)) ρ k := by
  obtain ⟨p, xs, h1, h2⟩ := h
  exact evp_tupO h1 h2
theorem sm_aug' {i : Nat} {te : TE} {f : Int → Int → Int} {N : List Sl → Prop} {R : D → Prop} (h : ∃ a, ρ[i]? = some (.d (.int a)) ∧ EvP W te ρ fun d => ∃ b, d = .int b ∧ N (ρ.set i (.d (.int (f a b))))) : Sm W (tAug i te (ipI f)) ρ N R := h.elim fun _ h => sm_aug h.1 h.2
theorem sm_app' {i : Nat} {te : TE} {N : List Sl → Prop} {R : D → Prop} (h : ∃ p xs, ρ[i]? = some (.ol p xs) ∧ EvP W te ρ fun d => xs.length ≤ 1000 ∧ N (ρ.set i (.ol p (xs ++ [d])))) :
    Sm W (tDrop (tBM W.K "list" rAppend (tVar i) (tCons te tNil))) ρ N R := by
  obtain ⟨p, xs, h1, h2⟩ := h
  exact sm_app h1 h2
theorem sm_setI' {i : Nat} {te tk : TE} {N : List Sl → Prop} {R : D → Prop} (h : ∃ p xs, ρ[i]? = some (.ol p xs) ∧ EvP W te ρ fun d => EvP W tk ρ fun y => ∃ j : Nat, y = .int j ∧ j < xs.length ∧ N (ρ.set i (.ol p (xs.set j d)))) :
    Sm W (tAsg te (gSub (tVar i) tk rSetL)) ρ N R := by
  obtain ⟨p, xs, h1, h2⟩ := h
  exact sm_setI h1 h2
theorem evp_get2' {i : Nat} {ty tx : TE} {k : D → Prop} (h : ∃ p kvs, ρ[i]? = some (.od p kvs) ∧ EvP W ty ρ fun y => EvP W tx ρ fun z => ∃ key, y = keyD key ∧ k ((getA kvs key).getD z)) : EvP W (tDGet2 (tVar i) ty tx) ρ k := by
  obtain ⟨p, xs, h1, h2⟩ := h
  exact evp_get2 h1 h2
theorem evp_getz' {i : Nat} {ty : TE} {k : D → Prop} (h : ∃ p ob ks kvs, ρ[i]? = some (.fz p ob ks kvs) ∧ EvP W ty ρ fun y => ∃ key d, y = keyD key ∧ getA kvs key = some d ∧ k d) : EvP W (tDGet (tVar i) ty) ρ k := by
  obtain ⟨p, ob, ks, xs, h1, h2⟩ := h
  exact evp_getz h1 h2
theorem sm_dput' {i : Nat} {ty tv : TE} {N : List Sl → Prop} {R : D → Prop} (h : ∃ p kvs, ρ[i]? = some (.od p kvs) ∧ EvP W tv ρ fun z => EvP W ty ρ fun y => ∃ key, y = keyD key ∧ kvs.length ≤ 100000 ∧ N (ρ.set i (.od p (putA kvs key z)))) :
    Sm W (sDPut (tVar i) ty tv) ρ N R := by
  obtain ⟨p, xs, h1, h2⟩ := h
  exact sm_dput h1 h2
theorem sm_move' {i j : Nat} {N : List Sl → Prop} {R : D → Prop} (h : ∃ p kvs, ρ[j]? = some (.od p kvs) ∧ N ((ρ.set j .no).set i (.od p kvs))) : Sm W (tAsg (tVar j) (gName i)) ρ N R := by
  obtain ⟨p, xs, h1, h2⟩ := h
  exact sm_move h1 h2
theorem evp_callR' {pre : List D → (D → Prop) → Prop} {E : XK} {t : TA} {i : Nat} {k : D → Prop} (h : ∃ r, ρ[i]? = some (.row r) ∧ EvA W t ρ fun ds => pre ds k) : EvP W (tCall (spR W.K pre) [] E (tCons (tVar i) t)) ρ k := h.elim fun _ h => evp_callR h.1 h.2
/-- equal triples of ints -/
theorem evp_eq3 {ta tb : TE} {k : D → Prop} (h : EvP W ta ρ fun x => EvP W tb ρ fun y => ∃ a b c : Int, x = .t [.int a, .int b, .int c] ∧ y = .t [.int a, .int b, .int c] ∧ k (.bl true)) : EvP W (tOp (rEqD W.K) ta tb) ρ k := fun B σ H Q R q =>
  two (G := fun v u H => rEqD W.K v u H Q) R h fun v u x y B1 H1 ⟨a, b, c, e1, e2, hk⟩ R1 g1 av au => by
    subst e1 e2
    obtain ⟨p, vs, rfl, hp, g⟩ := at_t av
    obtain ⟨p2, ws, rfl, hp2, g2⟩ := at_t au
    have e1 : vs = [V.int a, V.int b, V.int c] := AtA.ints (ns := [a, b, c]) g
    have e2 : ws = [V.int a, V.int b, V.int c] := AtA.ints (ns := [a, b, c]) g2
    subst e1 e2
    refine ⟨.tuple [.int a, .int b, .int c], .tuple [.int a, .int b, .int c], .tup (.of (R1.cor.bh _ _ hp)) (.cons (.int _) (.cons (.int _) (.cons (.int _) .nil))), .tup (.of (R1.cor.bh _ _ hp2)) (.cons (.int _) (.cons (.int _) (.cons (.int _) .nil))), rfl, rfl, ?_⟩
    have e : PyData.eqv (.tuple [.int a, .int b, .int c]) (.tuple [.int a, .int b, .int c]) = true := by
      simp [PyData.eqv, PyData.eqvAll]
    rw [e]
    exact q _ _ B1 H1 hk R1 g1 (.v rfl)
/-- empty lists -/
theorem evp_eq0 {ta tb : TE} {k : D → Prop} (h : EvP W ta ρ fun x => EvP W tb ρ fun y => x = .l [] ∧ y = .l [] ∧ k (.bl true)) : EvP W (tOp (rEqD W.K) ta tb) ρ k := fun B σ H Q R q =>
  two (G := fun v u H => rEqD W.K v u H Q) R h fun v u x y B1 H1 ⟨e1, e2, hk⟩ R1 g1 av au => by
    subst e1 e2
    obtain ⟨p, vs, rfl, hp, g⟩ := at_l av
    obtain ⟨p2, ws, rfl, hp2, g2⟩ := at_l au
    cases g
    cases g2
    refine ⟨.list [], .list [], .lst (.of (R1.cor.bh _ _ hp)) .nil, .lst (.of (R1.cor.bh _ _ hp2)) .nil, rfl, rfl, ?_⟩
    exact q _ _ B1 H1 hk R1 g1 (.v rfl)
/-- a comprehension whose test says no to all -/
theorem evn_lcNo {wi : TI} {g : TG} {te : TE} {tt : TT} {ts vs : List Nat} {k : List D → Prop}
    (h : Src W wi ρ fun xs => xs.length ≤ 1000 ∧ (∀ d ∈ xs, Bnd W g ts d (wipeR ρ vs) fun ρ2 => noRows ρ2 = true ∧ EvT W tt ρ2 fun b => b = false) ∧ k []) (hts : ∀ j ∈ ts, j ∈ vs) :
    EvN W (tLc wi g tt te vs) ρ k := fun B σ H Q Rr q =>
  h B σ H _ Rr fun J xs B1 H1 ⟨hl, hs, hk⟩ R1 g1 y Dl hD => by
    refine ⟨fun i m H' => m = xs.length - i ∧ i ≤ xs.length ∧ ∃ B', Rh W ρ B' σ H' ∧ Gs B1 H1 B' H' ∧ B' Dl = none ∧ H' Dl = some (.lst []), ⟨xs.length, rfl, Nat.zero_le _, B1, R1.fresh hD, .fresh hD, R1.cor.bn hD, upd_same⟩, ?_⟩
    rintro i m H' ⟨rfl, hi, B', R', g', nD, hDl⟩
    obtain ⟨y1, y2⟩ := y ρ B' σ H' i R' g'.sb trivial
    by_cases hlt : i < xs.length
    · obtain ⟨hgo, hyl⟩ := y2 _ (List.getElem?_eq_getElem hlt)
      refine .inr ⟨hgo, fun H2 => ∃ B2, Rh W ρ B2 σ H2 ∧ Gs B1 H1 B2 H2 ∧ B2 Dl = none ∧ H2 Dl = some (.lst []), fun H2 ⟨B2, z⟩ => ⟨xs.length - (i + 1), by omega, rfl, hlt, B2, z⟩, fun x H2 hx => ?_⟩
      obtain ⟨B2, R2, g2, a2⟩ := hyl x H2 hx
      refine hs _ (List.getElem_mem hlt) B2 _ H2 x _ (R2.wipe vs) a2 fun ρ3 B3 σ3 H3 ⟨nr, k3⟩ R3 g3 l3 j3 => ⟨wipe_at l3 fun j hj => j3 j fun z => hj (hts j z), ?_⟩
      refine k3 B3 σ3 H3 _ R3 fun b B4 H4 e R4 g4 => ?_
      subst e
      rw [if_neg (by decide)]
      have gg : Gs B' H' B4 H4 := g2.trans (g3.trans (gs_of g4 nr))
      have R5 : Rh W ρ B4 σ H4 := R'.back R4 gg
      have hD4 := gg.sh _ _ hDl
      have nD4 : B4 Dl = none := by
        cases e : B4 Dl with
        | none => rfl
        | some o =>
          rcases gg.nw _ _ e with z | z | ⟨zs, z⟩
          · rw [nD] at z; cases z
          · rw [hDl] at z; cases z
          · subst z
            have z2 := R4.cor.bh _ _ e
            rw [hD4] at z2
            cases z2
      exact ⟨B4, R5, g'.trans gg, nD4, hD4⟩
    · have e : i = xs.length := by omega
      subst e
      exact .inl ⟨y1 rfl, q Dl [] [] B' H' hk R' (g1.trans R1 g'.go) (fr_none R1 g1.fr hD) nD hDl .nil⟩
end Lp

namespace Lp
open PySem PySem.Spec PyProof.Rows L2 Lq Mt
theorem br_nt' {p q : Prop} (h : q) : ((!true) = false → q) ∧ ((!true) = true → p) := br_f' h
theorem br_nf' {p q : Prop} (h : p) : ((!false) = false → q) ∧ ((!false) = true → p) := br_t' h
theorem br_d' {c : Prop} [Decidable c] {p q : Prop} (h1 : c → p) (h2 : ¬ c → q) : (decide c = false → q) ∧ (decide c = true → p) := ⟨fun h => h2 (of_decide_eq_false h), fun h => h1 (of_decide_eq_true h)⟩
theorem br_nd' {c : Prop} [Decidable c] {p q : Prop} (h1 : c → q) (h2 : ¬ c → p) : ((!decide c) = false → q) ∧ ((!decide c) = true → p) := ⟨(br_nd h1 h2).2, (br_nd h1 h2).1⟩
theorem br_off {p q : Prop} (h : q) : ((false || false) = true → p) ∧ ((false || false) = false → q) := br_f h
theorem br_otf {p q : Prop} (h : p) : ((true || false) = true → p) ∧ ((true || false) = false → q) := br_t h
theorem br_notf {p q : Prop} (h : q) : ((!(true || false)) = true → p) ∧ ((!(true || false)) = false → q) := br_f h
theorem br_notf' {p q : Prop} (h : q) : ((!(true || false)) = false → q) ∧ ((!(true || false)) = true → p) := br_f' h
theorem le_and {a b : Nat} {p : Prop} (h : a ≤ b) (k : p) : a ≤ b ∧ p := ⟨h, k⟩
section
variable {W : Wd} {ρ : List Sl}
theorem evp_lst {ta : TA} {k : D → Prop} (h : EvA W ta ρ fun ds => ds.length ≤ 1000 ∧ k (.l ds)) : EvP W (tLst ta) ρ k := evp_of_n (evn_lst h)
theorem evp_eq3c {sp : Sp} {vs : List V} {E : XK} {t : TA} {tb : TE} {k : D → Prop} (h : EvP W (tCall sp vs E t) ρ fun x => EvP W tb ρ fun y => ∃ a b c : Int, x = .t [.int a, .int b, .int c] ∧ y = .t [.int a, .int b, .int c] ∧ k (.bl true)) : EvP W (tOp (rEqD W.K) (tCall sp vs E t) tb) ρ k := evp_eq3 h
theorem sm_set_call {sp : Sp} {vs : List V} {E : XK} {t : TA} {i : Nat} {N : List Sl → Prop} {R : D → Prop} (h : EvP W (tCall sp vs E t) ρ fun d => N (ρ.set i (.d d))) : Sm W (tAsg (tCall sp vs E t) (gName i)) ρ N R := sm_set h
theorem sm_set_I0 {g : Int → Int → V} {ta tb : TE} {i : Nat} {N : List Sl → Prop} {R : D → Prop} (h : EvP W (tOp (rI0 g) ta tb) ρ fun d => N (ρ.set i (.d d))) : Sm W (tAsg (tOp (rI0 g) ta tb) (gName i)) ρ N R := sm_set h
theorem sm_set_I {C : Int → Int → Prop} {g : Int → Int → V} {ta tb : TE} {i : Nat} {N : List Sl → Prop} {R : D → Prop} (h : EvP W (tOp (rI C g) ta tb) ρ fun d => N (ρ.set i (.d d))) : Sm W (tAsg (tOp (rI C g) ta tb) (gName i)) ρ N R := sm_set h
theorem sm_set_if {c : TT} {ta tb : TE} {i : Nat} {N : List Sl → Prop} {R : D → Prop} (h : EvP W (tIf c ta tb) ρ fun d => N (ρ.set i (.d d))) : Sm W (tAsg (tIf c ta tb) (gName i)) ρ N R := sm_set h
theorem sm_set_c {v : V} {i : Nat} {N : List Sl → Prop} {R : D → Prop} (h : EvP W (tC v) ρ fun d => N (ρ.set i (.d d))) : Sm W (tAsg (tC v) (gName i)) ρ N R := sm_set h
theorem sm_retO {i : Nat} {N : List Sl → Prop} {R : D → Prop} (h : ∃ p xs, ρ[i]? = some (.ol p xs) ∧ R (.l xs)) : Sm W (tRet (tVar i)) ρ N R := by
  obtain ⟨p, xs, h1, h2⟩ := h
  exact sm_freeze h1 (sm_ret (evp_var (List.getElem?_set_self (List.getElem?_eq_some_iff.mp h1).1) h2))
theorem bnd_weak {g : TG} {ts us : List Nat} {d : D} {k : List Sl → Prop} (h : Bnd W g ts d ρ k) (e : ∀ j ∈ ts, j ∈ us) : Bnd W g us d ρ k := fun B σ H v Q R a q => h B σ H v Q R a fun ρ' B' σ' H' hk R' g' l j => q ρ' B' σ' H' hk R' g' l fun i hi => j i fun z => hi (e i z)
theorem bnda_weak {g : TGs} {ts us : List Nat} {d : List D} {k : List Sl → Prop} (h : BndA W g ts d ρ k) (e : ∀ j ∈ ts, j ∈ us) : BndA W g us d ρ k := fun B σ H v Q R a q => h B σ H v Q R a fun ρ' B' σ' H' hk R' g' l j => q ρ' B' σ' H' hk R' g' l fun i hi => j i fun z => hi (e i z)
theorem bs_name {i : Nat} {ts : List Nat} {x : D} {k : List Sl → Prop} (hi : i ∈ ts) (h : k (ρ.set i (.d x))) : Bnd W (gName i) ts x ρ k := bnd_weak (bnd_name h) fun j hj => by
  rw [List.mem_singleton.mp hj]
  exact hi
theorem bs_nil {ts : List Nat} {k : List Sl → Prop} (h : k ρ) : BndA W gNil ts [] ρ k := bnda_weak (bnda_nil h) fun _ z => nomatch z
theorem bs_cons {t : TG} {u : TGs} {ts : List Nat} {d : D} {ds : List D} {k : List Sl → Prop} (h : Bnd W t ts d ρ fun ρ1 => BndA W u ts ds ρ1 k) : BndA W (gCons t u) ts (d :: ds) ρ k := bnda_weak (bnda_cons h) fun j hj => (List.mem_append.mp hj).elim id id
theorem bs_tup {n : Nat} {t : TGs} {ts : List Nat} {ds : List D} {k : List Sl → Prop} (h : ds.length = n ∧ BndA W t ts ds ρ k) : Bnd W (gTup W.K n t) ts (.t ds) ρ k := bnd_tup h.1 h.2
theorem bs_unl {n : Nat} {t : TGs} {ts : List Nat} {ds : List D} {k : List Sl → Prop} (h : ds.length = n ∧ BndA W t ts ds ρ k) : Bnd W (gUnl W.K n t) ts (.l ds) ρ k := bnd_unl h.1 h.2
abbrev r20 : List Nat := [0, 1, 2, 3, 4, 5, 6, 7, 8, 9, 10, 11, 12, 13, 14, 15, 16, 17, 18, 19]
theorem sm_asg_tup {te : TE} {K : PySem.W.Frag} {n : Nat} {t : TGs} {N : List Sl → Prop} {R : D → Prop} (h : EvP W te ρ fun d => Bnd W (gTup K n t) r20 d ρ N) : Sm W (tAsg te (gTup K n t)) ρ N R := sm_asg h
theorem sm_asg_unl {te : TE} {K : PySem.W.Frag} {n : Nat} {t : TGs} {N : List Sl → Prop} {R : D → Prop} (h : EvP W te ρ fun d => Bnd W (gUnl K n t) r20 d ρ N) : Sm W (tAsg te (gUnl K n t)) ρ N R := sm_asg h
theorem sm_forS {wi : TI} {g : TG} {tb : TS} {N : List Sl → Prop} {R : D → Prop} (h : Src W wi ρ fun xs => ∃ I : Nat → List Sl → Prop, I 0 ρ ∧ (∀ i d ρ', xs[i]? = some d → I i ρ' → Bnd W g r20 d ρ' fun ρ2 => Sm W tb ρ2 (I (i + 1)) R) ∧ ∀ ρ', I xs.length ρ' → N ρ') :
    Sm W (tFor wi g tb) ρ N R := sm_for h
theorem sm_forCS {wi : TI} {g : TG} {tb : TS} {C N : List Sl → Prop} {R : D → Prop} (h : SrcC W wi ρ C fun xs => ∃ I : Nat → List Sl → Prop, I 0 ρ ∧ (∀ i ρ', I i ρ' → C ρ') ∧ (∀ i d ρ', xs[i]? = some d → I i ρ' → Bnd W g r20 d ρ' fun ρ2 => Sm W tb ρ2 (I (i + 1)) R) ∧ ∀ ρ', I xs.length ρ' → N ρ') :
    Sm W (tFor wi g tb) ρ N R := sm_forC h
/-- a comprehension that maps -/
theorem evn_lcS {wi : TI} {g : TG} {te : TE} {vs : List Nat} {k : List D → Prop}
    (h : Src W wi ρ fun xs => xs.length ≤ 1000 ∧ ∃ f : D → D, (∀ d ∈ xs, Bnd W g vs d (wipeR ρ vs) fun ρ2 => noRows ρ2 = true ∧ EvP W te ρ2 fun z => z = f d) ∧ k (xs.map f)) :
    EvN W (tLc wi g tYes te vs) ρ k := evn_lcM h fun _ z => z
end
theorem ne_and {a b : Int} {p : Prop} (h : a ≠ b) (k : p) : a ≠ b ∧ p := ⟨h, k⟩
theorem mulS {a : Int} (h1 : -1000000 ≤ a) (h2 : a ≤ 1000000) (b : Int) : CMul a b := .inl ⟨by omega, by omega⟩
theorem mulS' {a : Int} (h1 : -1000000 ≤ a) (h2 : a ≤ 1000000) (b : Int) : CMul b a := .inr ⟨by omega, by omega⟩
theorem cm_and {a b : Int} {p : Prop} (h : CMul a b) (k : p) : CMul a b ∧ p := ⟨h, k⟩
theorem cd_and {a b : Int} {p : Prop} (h : b ≠ 0 ∧ b.natAbs < 1073741824) (k : p) : CDivN a b ∧ p := ⟨h, k⟩
inductive EqR : D → D → Bool → Prop where
  | int (i j : Int) : EqR (.int i) (.int j) (decide (i = j))
  | str (i j : Str) : EqR (.str i) (.str j) (decide (i = j))
  | bl (i j : Bool) : EqR (.bl i) (.bl j) (decide (i = j))
theorem EqR.get {x y : D} {b : Bool} (h : EqR x y b) : ∃ u v, x = .v u ∧ y = .v v ∧ scal u v = true ∧ b = decide (u = v) := by
  cases h with
  | int i j => exact ⟨_, _, rfl, rfl, rfl, by rw [dec_int]; exact (Bool.beq_eq_decide_eq ..).symm⟩
  | str i j => exact ⟨_, _, rfl, rfl, rfl, decide_eq_decide.mpr ⟨fun h => by rw [h], fun h => V.str.inj h⟩⟩
  | bl i j => exact ⟨_, _, rfl, rfl, rfl, decide_eq_decide.mpr ⟨fun h => by rw [h], fun h => V.bl.inj h⟩⟩
section
variable {W : Wd} {ρ : List Sl}
theorem evp_eqG {ta tb : TE} {k : D → Prop} (h : EvP W ta ρ fun x => EvP W tb ρ fun y => ∃ b, EqR x y b ∧ k (.bl b)) : EvP W (tOp rEq ta tb) ρ k :=
  evp_eq (evp_mono h fun x h => evp_mono h fun y ⟨b, h, q⟩ => by
    obtain ⟨u, v, e1, e2, e3, e4⟩ := h.get
    exact ⟨u, v, e1, e2, e3, e4 ▸ q⟩)
theorem evp_neG {ta tb : TE} {k : D → Prop} (h : EvP W ta ρ fun x => EvP W tb ρ fun y => ∃ b, EqR x y b ∧ k (.bl (!b))) : EvP W (tOp rNe ta tb) ρ k :=
  evp_ne (evp_mono h fun x h => evp_mono h fun y ⟨b, h, q⟩ => by
    obtain ⟨u, v, e1, e2, e3, e4⟩ := h.get
    exact ⟨u, v, e1, e2, e3, e4 ▸ q⟩)
end
/-! ### three things sorted -/
theorem perm3 {α : Type} (a b c : α) : [a, b, c].Perm [a, b, c] ∧ [a, b, c].Perm [a, c, b] ∧ [a, b, c].Perm [b, a, c] ∧ [a, b, c].Perm [b, c, a] ∧ [a, b, c].Perm [c, a, b] ∧ [a, b, c].Perm [c, b, a] := by
  refine ⟨.refl _, .cons _ (.swap _ _ _), .swap _ _ _, ?_, ?_, ?_⟩
  · exact (List.Perm.swap _ _ _).trans (.cons _ (.swap _ _ _))
  · exact (List.Perm.cons _ (.swap _ _ _)).trans (.swap _ _ _)
  · exact ((List.Perm.cons _ (.swap _ _ _)).trans (.swap _ _ _)).trans (.cons _ (.swap _ _ _))
theorem sv_perm (o : O) (x y z : Int) : [x, y, z].Perm (sv o x y z) := by
  have h := perm3 x y z
  cases o
  · exact h.1
  · exact h.2.1
  · exact h.2.2.1
  · exact h.2.2.2.2.1
  · exact h.2.2.2.1
  · exact h.2.2.2.2.2
def enumP (ps : List Int) : List (Int × Int) := ps.zipIdx.map fun p => (p.1, (p.2 : Int))
theorem enum_perm (o : O) (x y z : Int) : [(x, (o.l : Int)), (y, (o.m : Int)), (z, (o.r : Int))].Perm (enumP (sv o x y z)) := by
  have h := perm3 (x, (o.l : Int)) (y, (o.m : Int)) (z, (o.r : Int))
  cases o
  · exact h.1
  · exact h.2.1
  · exact h.2.2.1
  · exact h.2.2.2.2.1
  · exact h.2.2.2.1
  · exact h.2.2.2.2.2
theorem sortI {o : O} {x y z : Int} (h1 : x < y) (h2 : y < z) {qs : List Int} (hp : qs.Perm (sv o x y z)) (hs : qs.Pairwise (· ≤ ·)) : qs = [x, y, z] := by
  refine List.Perm.eq_of_pairwise (fun a b _ _ => Int.le_antisymm) hs ?_ (hp.trans (sv_perm o x y z).symm)
  refine .cons (fun a ha => ?_) (.cons (fun a ha => ?_) (.cons (fun a ha => nomatch ha) .nil))
  · rcases List.mem_cons.mp ha with e | e
    · omega
    · rw [List.mem_singleton.mp e]; omega
  · rw [List.mem_singleton.mp ha]; omega
theorem sortP {o : O} {x y z : Int} (h1 : x < y) (h2 : y < z) {qs : List (Int × Int)} (hp : qs.Perm (enumP (sv o x y z))) (hs : qs.Pairwise (fun p q => SrtO.lexB q p = false)) : qs = [(x, (o.l : Int)), (y, (o.m : Int)), (z, (o.r : Int))] := by
  refine List.Perm.eq_of_pairwise (le := fun p q => SrtO.lexB q p = false) (fun a b _ _ e1 e2 => ?_) hs ?_ (hp.trans (enum_perm o x y z).symm)
  · rw [SrtO.lexB_no] at e1 e2
    obtain ⟨a1, a2⟩ := a
    obtain ⟨b1, b2⟩ := b
    dsimp only at e1 e2
    rw [Prod.mk.injEq]
    omega
  · refine .cons (fun a ha => ?_) (.cons (fun a ha => ?_) (.cons (fun a ha => nomatch ha) .nil))
    · rcases List.mem_cons.mp ha with e | e
      · subst e; rw [SrtO.lexB_no]; dsimp only; omega
      · rw [List.mem_singleton.mp e, SrtO.lexB_no]; dsimp only; omega
    · rw [List.mem_singleton.mp ha, SrtO.lexB_no]; dsimp only; omega
/-- the position behind a word -/
abbrev iD (ps : List Int) : List D := ps.map D.int
abbrev ndD (T : Tr) (w : Wo) : D := .t (iD (plc T w))
abbrev ordD (o : O) : D := .t [.int (o.l : Int), .int (o.m : Int), .int (o.r : Int)]
def svOf {T : Tr} (k : T.Ok) (w : Wo) : ∃ o x y z, x < y ∧ y < z ∧ plc T w = sv o x y z ∧ o = ord T.o w ∧ y - x = A T w ∧ z - y = B T w ∧ x + z - y = T.h := by
  have h := AB_pos k w
  exact ⟨_, _, _, _, by omega, by omega, rfl, rfl, by omega, by omega, by omega⟩
theorem plc_bnd {T : Tr} (k : T.Ok) (w : Wo) (hw : w.length ≤ 20) : ∀ p ∈ plc T w, -100000000 ≤ p ∧ p ≤ 100000000 := by
  have h := AB_pos k w
  have h2 := AB_le k w hw
  have k1 := k.h1
  have k2 := k.h2
  intro p hp
  have hp2 := (sv_perm (ord T.o w) (T.h - B T w) (T.h + A T w - B T w) (T.h + A T w)).mem_iff.mpr hp
  rcases List.mem_cons.mp hp2 with e | e
  · omega
  · rcases List.mem_cons.mp e with e | e
    · omega
    · rw [List.mem_singleton.mp e]; omega
theorem plc_nodup {T : Tr} (k : T.Ok) (w : Wo) : (plc T w).Nodup := by
  have h := AB_pos k w
  unfold plc
  refine (sv_perm (ord T.o w) (T.h - B T w) (T.h + A T w - B T w) (T.h + A T w)).nodup ?_
  refine List.nodup_cons.mpr ⟨fun z => ?_, List.nodup_cons.mpr ⟨fun z => ?_, List.nodup_cons.mpr ⟨List.not_mem_nil, List.nodup_nil⟩⟩⟩
  · rcases List.mem_cons.mp z with e | e
    · omega
    · have := List.mem_singleton.mp e; omega
  · have := List.mem_singleton.mp z; omega
def sg : Bool → Str
  | true => "R"
  | false => "L"
theorem sgR (c : Bool) : decide (sg c = "R") = c := by cases c <;> decide
theorem sg_inj (c d : Bool) : decide (sg c = sg d) = decide (c = d) := by cases c <;> cases d <;> decide
abbrev runD (r : Rn) : D := .t [.str (sg r.1), .int (r.2 : Int)]
abbrev runsD (r : List Rn) : D := .l (r.map runD)
theorem sv_len (o : O) (x y z : Int) : (sv o x y z).length = 3 := by cases o <;> rfl
theorem sortID {o : O} {x y z : Int} (h1 : x < y) (h2 : y < z) {qs : List Int} (hp : qs.Perm (sv o x y z)) (hs : qs.Pairwise (· ≤ ·)) : qs.map D.int = [.int x, .int y, .int z] := by
  rw [sortI h1 h2 hp hs]
  rfl
theorem sortPD {o : O} {x y z : Int} (h1 : x < y) (h2 : y < z) {qs : List (Int × Int)} (hp : qs.Perm (enumP (sv o x y z))) (hs : qs.Pairwise (fun p q => SrtO.lexB q p = false)) : qs.map pairD = [.t [.int x, .int (o.l : Int)], .t [.int y, .int (o.m : Int)], .t [.int z, .int (o.r : Int)]] := by
  rw [sortP h1 h2 hp hs]
  rfl
end Lp

namespace Lp
open PySem PySem.Spec PyProof.Rows L2 Lq Mt
local macro_rules
  | `(tactic| walk_at "e") => `(tactic| first
    | (with_reducible refine evp_var' ?_)
    | (with_reducible refine evp_c' ?_)
    | (with_reducible refine eva_nil ?_)
    | (with_reducible refine eva_cons ?_)
    | (with_reducible refine evp_I0i ?_)
    | (with_reducible refine evp_I0b ?_)
    | (with_reducible refine evp_uni ?_)
    | (with_reducible refine evp_tup ?_)
    | (with_reducible refine evp_if ?_)
    | (with_reducible refine evp_andV ?_)
    | (with_reducible refine evp_notV ?_)
    | (with_reducible refine evp_eqG ?_)
    | (with_reducible refine evp_neG ?_)
    | (with_reducible refine evp_chain ?_)
    | (with_reducible refine evp_ixT ?_)
    | (with_reducible refine evp_call ?_)
    | (with_reducible refine evp_callR' ?_)
    | (with_reducible refine evp_sum ?_)
    | (with_reducible refine evp_all ?_)
    | (with_reducible refine evp_isi ?_)
    | (with_reducible refine evp_isi2 ?_)
    | (with_reducible refine evp_cb1 ?_)
    | (with_reducible refine evp_cb2 ?_)
    | (with_reducible refine evp_Ii ?_)
    | (with_reducible refine evt_not ?_)
    | (with_reducible refine evt_test ?_)
    | (with_reducible refine evt_B ?_)
    | (with_reducible refine evt_and ?_)
    | (with_reducible refine evt_or ?_)
    | (with_reducible refine evp_get2' ?_)
    | ((with_reducible refine evp_getz' ?_); refine ⟨_, _, _, _, rfl, ?_⟩)
    | (with_reducible refine evp_notN ?_)
    | (with_reducible refine evp_isN ?_)
    | (with_reducible refine evp_lst ?_)
    | (with_reducible refine evp_len ?_)
    | (with_reducible refine evp_eq3c ?_)
    | (with_reducible refine evp_of_n (evn_sortT ?_))
    | (with_reducible refine evp_of_n (evn_sortP ?_))
    | (with_reducible refine evp_of_n (evn_lcS ?_))
    | ((with_reducible refine evp_of_n (evn_revO' ?_)); refine ⟨_, _, rfl, ?_⟩)
    | (with_reducible refine evp_of_n (evn_revL ?_))
    | ((with_reducible refine evp_tupO' ?_); refine ⟨_, _, rfl, ?_⟩)
    | (with_reducible refine evp_tupL ?_)
    | ((with_reducible refine evp_ixO' ?_); refine ⟨_, _, rfl, ?_⟩)
    | (with_reducible refine evp_ixL ?_)
    | (with_reducible refine src_tup ?_)
    | (with_reducible refine src_list ?_)
    | (with_reducible refine src_rng ?_)
    | (with_reducible refine src_enumT ?_)
    | (with_reducible refine src_zip ?_)
    | (with_reducible refine src_zipM ?_)
    | (with_reducible refine bs_tup ?_)
    | (with_reducible refine bs_unl ?_)
    | (with_reducible refine bs_cons ?_)
    | (with_reducible refine bs_nil ?_)
    | (with_reducible refine bs_name (by decide) ?_))
local macro_rules
  | `(tactic| walk_at "w") => `(tactic| first
    | (with_reducible refine sm_seq ?_)
    | ((with_reducible refine sm_retO ?_); refine ⟨_, _, rfl, ?_⟩)
    | (with_reducible refine sm_ret ?_)
    | (with_reducible refine sm_if ?_)
    | (with_reducible refine sm_par ?_)
    | (with_reducible refine sm_app' ?_)
    | (with_reducible refine sm_drop ?_)
    | (with_reducible refine sm_aug' ?_)
    | (with_reducible refine sm_setI' ?_)
    | (with_reducible refine sm_dput' ?_)
    | (with_reducible refine sm_next ?_)
    | (with_reducible refine sm_forS ?_)
    | (with_reducible refine sm_set_call ?_)
    | (with_reducible refine sm_set_I0 ?_)
    | (with_reducible refine sm_set_I ?_)
    | (with_reducible refine sm_set_if ?_)
    | (with_reducible refine sm_set_c ?_)
    | (with_reducible refine sm_asg_tup ?_)
    | (with_reducible refine sm_asg_unl ?_))
local macro_rules
  | `(tactic| walk_at "x") => `(tactic| first
    | (with_reducible refine br_t ?_)
    | (with_reducible refine br_f ?_)
    | (with_reducible refine br_nt ?_)
    | (with_reducible refine br_nf ?_)
    | (with_reducible refine br_t' ?_)
    | (with_reducible refine br_f' ?_)
    | (with_reducible refine br_nt' ?_)
    | (with_reducible refine br_off ?_)
    | (with_reducible refine br_otf ?_)
    | (with_reducible refine br_notf ?_)
    | (with_reducible refine br_notf' ?_)
    | (with_reducible refine br_nf' ?_)
    | ((with_reducible refine le_and ?_ ?_); exact Nat.le_of_ble_eq_true rfl)
    | ((with_reducible refine ne_and ?_ ?_); decide)
    | ((with_reducible refine cm_and ?_ ?_); first | exact mulS (by decide) (by decide) _ | exact mulS' (by decide) (by decide) _)
    | ((with_reducible refine cd_and ?_ ?_); decide)
    | refine ⟨_, EqR.int _ _, ?_⟩
    | refine ⟨_, EqR.str _ _, ?_⟩
    | refine ⟨_, EqR.bl _ _, ?_⟩
    | refine ⟨_, _, _, rfl, rfl, rfl, ?_⟩
    | refine ⟨_, _, rfl, rfl, ?_⟩
    | refine ⟨_, _, rfl, ?_⟩
    | refine ⟨_, rfl, ?_⟩
    | refine ⟨rfl, ?_⟩
    | refine ⟨_, .inr rfl, ?_⟩
    | refine ⟨_, .inl rfl, ?_⟩
    | refine ⟨_, _, _, false, false, rfl, .int _, by decide +kernel, by decide +kernel, ?_⟩
    | refine ⟨_, _, _, true, false, rfl, .t _, by decide +kernel, by decide +kernel, ?_⟩
    | refine ⟨_, _, true, rfl, .int _, by decide +kernel, ?_⟩
    | refine ⟨_, _, false, rfl, .int _, by decide +kernel, ?_⟩
    | refine ⟨_, _, true, rfl, .t _, by decide +kernel, ?_⟩
    | refine ⟨_, _, false, rfl, .t _, by decide +kernel, ?_⟩
)
local macro_rules
  | `(tactic| walk_at "s") => `(tactic| try dsimp only [cxOf, Cx.nox])
local macro_rules
  | `(tactic| walk_at "go") => `(tactic| repeat (first | walk_at "e" | walk_at "w" | walk_at "x"))
local macro_rules
  | `(tactic| walk_at "ge") => `(tactic| repeat (first | walk_at "e" | walk_at "x"))

variable {P : Program} {w : World} {K : PySem.W.Frag} {mg : Str → Option Value} {base : Heap}
abbrev s_is_int : Stmt := topS 8
abbrev N_is_int : List Str := ["value"]
theorem sc_is_int : FnScope N_is_int ["value"] (defScope s_is_int) := ⟨rfl, rfl, rfl, by decide +kernel, rfl, by decide +kernel, by decide +kernel⟩
abbrev p_is_int : List D → (D → Prop) → Prop := fun ds k => ∃ i : Int, ds = [.int i] ∧ k (.bl true)
theorem c_is_int (T : Top mg)  (Fd : Df K mg "is_int" s_is_int ["value"]) : Cal P w K mg base 1 "is_int" ["value"] (spP K p_is_int) :=
  cal_P _ Fd sc_is_int (fun ds kk h => by
    obtain ⟨i, rfl, hk⟩ := h
    all_goals rfl) fun f cdv A outer s H E hr => ⟨_, 
    (pss_one (ps_ret (pe_and (pe_callB call_isi (by rfl) T.isinstance b_isinstance (pa_cons (pv 0) (pa_cons (pe_bltn (v := .ty "int") (by rfl) T.int b_int rfl) pa_nil))) (pe_one (pe_not (pe_callB call_isi (by rfl) T.isinstance b_isinstance (pa_cons (pv 0) (pa_cons (pe_bltn (v := .ty "bool") (by rfl) T.bool b_bool rfl) pa_nil)))))))), fun B0 H0 ds kk h => by
    obtain ⟨i, rfl, hk⟩ := h
    walk_at "s"; show Sm _ _ [.d _] _ _
    walk_at "go"
    exact hk
    ⟩

abbrev s_is_in : Stmt := topS 9
abbrev N_is_in : List Str := ["value", "least", "most"]
theorem sc_is_in : FnScope N_is_in ["value", "least", "most"] (defScope s_is_in) := ⟨rfl, rfl, rfl, by decide +kernel, rfl, by decide +kernel, by decide +kernel⟩
abbrev p_is_in : List D → (D → Prop) → Prop := fun ds k => ∃ i l m : Int, ds = [.int i, .int l, .int m] ∧ l ≤ i ∧ i ≤ m ∧ k (.bl true)
theorem c_is_in (T : Top mg) (C_is_int : Cal P w K mg base 1 "is_int" ["value"] (spP K p_is_int)) (Fd : Df K mg "is_in" s_is_in ["value", "least", "most"]) : Cal P w K mg base 2 "is_in" ["value", "least", "most"] (spP K p_is_in) :=
  cal_P _ Fd sc_is_in (fun ds kk h => by
    obtain ⟨i, l, m, rfl, h1, h2, hk⟩ := h
    all_goals rfl) fun f cdv A outer s H E hr => ⟨_, 
    (pss_one (ps_ret (pe_and (pcal C_is_int hr (by decide) (pa_cons (pv 0) pa_nil)) (pe_one (pe_chain op_le op_le (pv 1) (pv 0) (pv 2)))))), fun B0 H0 ds kk h => by
    obtain ⟨i, l, m, rfl, h1, h2, hk⟩ := h
    walk_at "s"; show Sm _ _ [.d _, .d _, .d _] _ _
    walk_at "go"
    refine br_dt h1 ?_
    walk_at "go"
    rw [decide_eq_true h2]
    exact hk
    ⟩

abbrev s_need_number : Stmt := topS 10
abbrev N_need_number : List Str := ["value", "least", "most"]
theorem sc_need_number : FnScope N_need_number ["value", "least", "most"] (defScope s_need_number) := ⟨rfl, rfl, rfl, by decide +kernel, rfl, by decide +kernel, by decide +kernel⟩
abbrev p_need_number : List D → (D → Prop) → Prop := fun ds k => ∃ i l m : Int, ds = [.int i, .int l, .int m] ∧ l ≤ i ∧ i ≤ m ∧ k (.v .non)
theorem c_need_number (T : Top mg) (C_is_in : Cal P w K mg base 2 "is_in" ["value", "least", "most"] (spP K p_is_in)) (Fd : Df K mg "need_number" s_need_number ["value", "least", "most"]) : Cal P w K mg base 3 "need_number" ["value", "least", "most"] (spP K p_need_number) :=
  cal_P _ Fd sc_need_number (fun ds kk h => by
    obtain ⟨i, l, m, rfl, h1, h2, hk⟩ := h
    all_goals rfl) fun f cdv A outer s H E hr => ⟨_, 
    (pss_one (ps_if (pt_not (pt_val (pcal C_is_in hr (by decide) (pa_cons (pv 0) (pa_cons (pv 1) (pa_cons (pv 2) pa_nil)))))) 
      (pss_one ps_never) pss_nil)), fun B0 H0 ds kk h => by
    obtain ⟨i, l, m, rfl, h1, h2, hk⟩ := h
    walk_at "s"; show Sm _ _ [.d _, .d _, .d _] _ _
    walk_at "go"
    refine ⟨_, _, _, rfl, h1, h2, ?_⟩
    walk_at "go"
    exact hk
    ⟩

abbrev s_common : Stmt := topS 14
abbrev N_common : List Str := ["one", "other"]
theorem sc_common : FnScope N_common ["one", "other"] (defScope s_common) := ⟨rfl, rfl, rfl, by decide +kernel, rfl, by decide +kernel, by decide +kernel⟩
theorem fmod_nat (a b : Nat) : (a : Int).fmod b = ((a % b : Nat) : Int) := by
  rw [Int.fmod_eq_emod_of_nonneg _ (Int.natCast_nonneg b)]
  rfl
theorem fdiv_nat (a b : Nat) : (a : Int).fdiv b = ((a / b : Nat) : Int) := by
  rw [Int.fdiv_eq_ediv_of_nonneg _ (Int.natCast_nonneg b)]
  rfl
abbrev p_common : List D → (D → Prop) → Prop := fun ds k => ∃ i j : Nat, ds = [.int (i : Int), .int (j : Int)] ∧ k (.int (Nat.gcd i j : Nat))
theorem c_common (T : Top mg)  (Fd : Df K mg "common" s_common ["one", "other"]) : Cal P w K mg base 1 "common" ["one", "other"] (spP K p_common) :=
  cal_P _ Fd sc_common (fun ds kk h => by
    obtain ⟨i, j, rfl, hk⟩ := h
    all_goals rfl) fun f cdv A outer s H E hr => ⟨_, 
    (pss_cons (ps_while PassesOwn.never (pt_cmpR op_ne (pv 1) pe_int (nomark _)) 
      (pss_one (ps_par (i := 0) (j := 1) (by rfl) sc_common.nd rfl rfl (by decide) rfl rfl (pa_cons (pv 1) (pa_cons (pe_op op_modN (pv 0) (pv 1)) pa_nil)) (by rfl)))) 
    (pss_one (ps_ret (pe_callB call_abs (by rfl) T.abs b_abs (pa_cons (pv 0) pa_nil))))), fun B0 H0 ds kk h => by
    obtain ⟨i, j, rfl, hk⟩ := h
    walk_at "s"; show Sm _ _ [.d _, .d _] _ _
    walk_at "go"
    refine sm_while (fun m ρ => ∃ a : Nat, ρ = [.d (.int (a : Int)), .d (.int (m : Int))] ∧ Nat.gcd a m = Nat.gcd i j) j ⟨i, rfl, rfl⟩ ?_
    rintro m ρ ⟨a, rfl, e⟩
    walk_at "go"
    refine br_nd (fun hz => ?_) fun hz => ?_
    rotate_left
    · have hm : m ≠ 0 := by omega
      walk_at "go"
      refine ⟨by omega, ?_⟩
      rw [fmod_nat]
      walk_at "go"
      refine ⟨a % m, Nat.mod_lt _ (by omega), m, rfl, ?_⟩
      rw [← e, Nat.gcd_comm a m, Nat.gcd_rec m a, Nat.gcd_comm]
    · have hm : m = 0 := by omega
      subst hm
      walk_at "go"
      rw [if_neg (by omega)]
      rw [Nat.gcd_zero_right] at e
      rw [e]
      exact hk
    ⟩

abbrev s_gaps_of : Stmt := topS 15
abbrev N_gaps_of : List Str := ["state", "x", "y", "z"]
theorem sc_gaps_of : FnScope N_gaps_of ["state"] (defScope s_gaps_of) := ⟨rfl, rfl, rfl, by decide +kernel, rfl, by decide +kernel, by decide +kernel⟩
abbrev p_gaps_of : List D → (D → Prop) → Prop := fun ds k => ∃ (o : O) (x y z : Int), ds = [.t (iD (sv o x y z))] ∧ x < y ∧ y < z ∧ k (.t [.int (y - x), .int (z - y)])
theorem c_gaps_of (T : Top mg)  (Fd : Df K mg "gaps_of" s_gaps_of ["state"]) : Cal P w K mg base 1 "gaps_of" ["state"] (spP K p_gaps_of) :=
  cal_P _ Fd sc_gaps_of (fun ds kk h => by
    obtain ⟨o, x, y, z, rfl, h1, h2, hk⟩ := h
    all_goals rfl) fun f cdv A outer s H E hr => ⟨_, 
    (pss_cons (ps_asg (pe_callB cr_sortedT (by rfl) T.sorted b_sorted (pa_cons (pv 0) pa_nil)) (pg_unl rfl (pgs_cons (pg_name (i := 1) sc_gaps_of.nd rfl (.inl rfl)) (pgs_cons (pg_name (i := 2) sc_gaps_of.nd rfl (.inl rfl)) (pgs_cons (pg_name (i := 3) sc_gaps_of.nd rfl (.inl rfl)) pgs_nil))))) 
    (pss_one (ps_ret (pe_tup (pa_cons (pe_op op_sub (pv 2) (pv 1)) (pa_cons (pe_op op_sub (pv 3) (pv 2)) pa_nil)))))), fun B0 H0 ds kk h => by
    obtain ⟨o, x, y, z, rfl, h1, h2, hk⟩ := h
    walk_at "s"; show Sm _ _ [.d _, .no, .no, .no] _ _
    walk_at "go"
    refine ⟨by rw [sv_len]; decide, fun ns hp hs => ?_⟩
    rw [sortID h1 h2 hp hs]
    walk_at "go"
    exact hk
    ⟩

abbrev s_middle_of : Stmt := topS 16
abbrev N_middle_of : List Str := ["state", "x", "y", "z"]
theorem sc_middle_of : FnScope N_middle_of ["state"] (defScope s_middle_of) := ⟨rfl, rfl, rfl, by decide +kernel, rfl, by decide +kernel, by decide +kernel⟩
abbrev p_middle_of : List D → (D → Prop) → Prop := fun ds k => ∃ (o : O) (x y z : Int), ds = [.t (iD (sv o x y z))] ∧ x < y ∧ y < z ∧ k (.int (x + z - y))
theorem c_middle_of (T : Top mg)  (Fd : Df K mg "middle_of" s_middle_of ["state"]) : Cal P w K mg base 1 "middle_of" ["state"] (spP K p_middle_of) :=
  cal_P _ Fd sc_middle_of (fun ds kk h => by
    obtain ⟨o, x, y, z, rfl, h1, h2, hk⟩ := h
    all_goals rfl) fun f cdv A outer s H E hr => ⟨_, 
    (pss_cons (ps_asg (pe_callB cr_sortedT (by rfl) T.sorted b_sorted (pa_cons (pv 0) pa_nil)) (pg_unl rfl (pgs_cons (pg_name (i := 1) sc_middle_of.nd rfl (.inl rfl)) (pgs_cons (pg_name (i := 2) sc_middle_of.nd rfl (.inl rfl)) (pgs_cons (pg_name (i := 3) sc_middle_of.nd rfl (.inl rfl)) pgs_nil))))) 
    (pss_one (ps_ret (pe_op op_sub (pe_op op_add (pv 1) (pv 3)) (pv 2))))), fun B0 H0 ds kk h => by
    obtain ⟨o, x, y, z, rfl, h1, h2, hk⟩ := h
    walk_at "s"; show Sm _ _ [.d _, .no, .no, .no] _ _
    walk_at "go"
    refine ⟨by rw [sv_len]; decide, fun ns hp hs => ?_⟩
    rw [sortID h1 h2 hp hs]
    walk_at "go"
    exact hk
    ⟩

abbrev s_is_state : Stmt := topS 11
abbrev N_is_state : List Str := ["value", "place"]
theorem sc_is_state : FnScope N_is_state ["value"] (defScope s_is_state) := ⟨rfl, rfl, rfl, by decide +kernel, rfl, by decide +kernel, by decide +kernel⟩
abbrev p_is_state : List D → (D → Prop) → Prop := fun ds k => ∃ ps : List Int, ds = [.t (iD ps)] ∧ ps.length = 3 ∧ ps.Nodup ∧ (∀ p ∈ ps, -100000000 ≤ p ∧ p ≤ 100000000) ∧ k (.bl true)
theorem c_is_state (T : Top mg) (C_is_in : Cal P w K mg base 2 "is_in" ["value", "least", "most"] (spP K p_is_in)) (Fd : Df K mg "is_state" s_is_state ["value"]) : Cal P w K mg base 3 "is_state" ["value"] (spP K p_is_state) :=
  cal_P _ Fd sc_is_state (fun ds kk h => by
    obtain ⟨ps, rfl, hl, hn, hb, hk⟩ := h
    all_goals rfl) fun f cdv A outer s H E hr => ⟨_, 
    (pss_cons (ps_if (PW.pt (pw_or (pt_not (pt_val (pe_callB call_isi (by rfl) T.isinstance b_isinstance (pa_cons (pv 0) (pa_cons (pe_bltn (v := .ty "tuple") (by rfl) T.tuple b_tuple rfl) pa_nil))))) (pw_or1 (pt_cmpR op_ne (pe_callB call_len_seq (by rfl) T.len b_len (pa_cons (pv 0) pa_nil)) (pconst T.stones) (nomark _))))) 
      (pss_one (ps_ret pe_bl)) pss_nil) 
    (pss_cons (ps_if (pt_not (pt_val (pe_callB (cr_all rfl) (by rfl) T.all b_all (pa_cons (pe_lc (own := [("place", 1)]) (g := gName 1) (by rfl) sc_is_state.nd (pi_tup (pv 0)) (blkOk_by (own := [("place", 1)]) (N := N_is_state) (sc := defScope s_is_state) (by decide +kernel)) (fun _ _ _ _ _ => (pg_name (i := 1) sc_is_state.nd rfl (.inl rfl))) (fun _ _ _ _ _ => pts_nil) (fun _ _ _ _ _ => (pcal C_is_in hr (by decide) (pa_cons (pv 1) (pa_cons (pe_un un_neg (pconst T.place)) (pa_cons (pconst T.place) pa_nil)))))) pa_nil)))) 
      (pss_one (ps_ret pe_bl)) pss_nil) 
    (pss_one (ps_ret (pe_cmpR op_eq (pe_callB call_lenD (by rfl) T.len b_len (pa_cons (pe_dc (own := [("place", 1)]) (g := gName 1) (by rfl) sc_is_state.nd (pi_tup (pv 0)) (blkOk_by (own := [("place", 1)]) (N := N_is_state) (sc := defScope s_is_state) (by decide +kernel)) (fun _ _ _ _ _ => (pg_name (i := 1) sc_is_state.nd rfl (.inl rfl))) (fun _ _ _ _ _ => pts_nil) (fun _ _ _ _ _ => (pv 1)) (fun _ _ _ _ _ => pe_bl)) pa_nil)) (pconst T.stones) (nomark _)))))), fun B0 H0 ds kk h => by
    obtain ⟨ps, rfl, hl, hn, hb, hk⟩ := h
    walk_at "s"; show Sm _ _ [.d _, .no] _ _
    walk_at "go"
    rw [List.length_map, hl]
    refine br_nd (fun _ => ?_) (fun hz => absurd rfl hz)
    walk_at "go"
    refine ⟨by rw [List.length_map, hl]; decide, fun _ => .bl true, fun d hd => ?_, ps.map fun _ => true, by rw [List.map_map, List.map_map]; rfl, ?_⟩
    · obtain ⟨p, hp, rfl⟩ := List.mem_map.mp hd
      have := hb p hp
      walk_at "go"
      refine ⟨_, _, _, rfl, ?_, ?_, rfl⟩ <;> omega
    rw [show ((ps.map fun _ => true).all id) = true by rw [List.all_map]; exact List.all_eq_true.mpr fun _ _ => rfl]
    walk_at "go"
    refine evp_lenDc (by decide) (Nat.le_of_ble_eq_true rfl) ?_
    walk_at "go"
    refine ⟨hn, by rw [hl]; decide, ?_⟩
    walk_at "go"
    rw [hl]
    exact hk
    ⟩

abbrev s_need_state : Stmt := topS 12
abbrev N_need_state : List Str := ["value"]
theorem sc_need_state : FnScope N_need_state ["value"] (defScope s_need_state) := ⟨rfl, rfl, rfl, by decide +kernel, rfl, by decide +kernel, by decide +kernel⟩
abbrev p_need_state : List D → (D → Prop) → Prop := fun ds k => ∃ ps : List Int, ds = [.t (iD ps)] ∧ ps.length = 3 ∧ ps.Nodup ∧ (∀ p ∈ ps, -100000000 ≤ p ∧ p ≤ 100000000) ∧ k (.v .non)
theorem c_need_state (T : Top mg) (C_is_state : Cal P w K mg base 3 "is_state" ["value"] (spP K p_is_state)) (Fd : Df K mg "need_state" s_need_state ["value"]) : Cal P w K mg base 4 "need_state" ["value"] (spP K p_need_state) :=
  cal_P _ Fd sc_need_state (fun ds kk h => by
    obtain ⟨ps, rfl, hl, hn, hb, hk⟩ := h
    all_goals rfl) fun f cdv A outer s H E hr => ⟨_, 
    (pss_one (ps_if (pt_not (pt_val (pcal C_is_state hr (by decide) (pa_cons (pv 0) pa_nil)))) 
      (pss_one ps_never) pss_nil)), fun B0 H0 ds kk h => by
    obtain ⟨ps, rfl, hl, hn, hb, hk⟩ := h
    walk_at "s"; show Sm _ _ [.d _] _ _
    walk_at "go"
    refine ⟨hl, hn, hb, ?_⟩
    walk_at "go"
    exact hk
    ⟩

abbrev s_order_of : Stmt := topS 13
abbrev N_order_of : List Str := ["state", "place", "stone"]
theorem sc_order_of : FnScope N_order_of ["state"] (defScope s_order_of) := ⟨rfl, rfl, rfl, by decide +kernel, rfl, by decide +kernel, by decide +kernel⟩
def swp : D → D
  | .t [a, b] => .t [b, a]
  | d => d
def snd2 : D → D
  | .t [_, b] => b
  | d => d
theorem swp_enum (ps : List Int) : ((iD ps).zipIdx.map fun p => D.t [.int (p.2 : Int), p.1]).map swp = (enumP ps).map pairD := by
  unfold enumP iD
  rw [List.zipIdx_map, List.map_map, List.map_map, List.map_map]
  rfl
abbrev p_order_of : List D → (D → Prop) → Prop := fun ds k => ∃ (o : O) (x y z : Int), ds = [.t (iD (sv o x y z))] ∧ x < y ∧ y < z ∧ k (ordD o)
theorem c_order_of (T : Top mg)  (Fd : Df K mg "order_of" s_order_of ["state"]) : Cal P w K mg base 1 "order_of" ["state"] (spP K p_order_of) :=
  cal_P _ Fd sc_order_of (fun ds kk h => by
    obtain ⟨o, x, y, z, rfl, h1, h2, hk⟩ := h
    all_goals rfl) fun f cdv A outer s H E hr => ⟨_, 
    (pss_one (ps_ret (pe_callTy call_tuple_of (by rfl) T.tuple b_tuple (pa_cons (pe_lc (own := [("place", 1), ("stone", 2)]) (g := gTup K 2 (gCons (gName 1) (gCons (gName 2) (gNil)))) (by rfl) sc_order_of.nd (pi_list (pe_callB cr_sortedPO (by rfl) T.sorted b_sorted (pa_cons (pe_lc (own := [("stone", 2), ("place", 1)]) (g := gTup K 2 (gCons (gName 2) (gCons (gName 1) (gNil)))) (by rfl) sc_order_of.nd (pi_enumT (by rfl) T.enumerate (pa_cons (pv 0) pa_nil)) (blkOk_by (own := [("stone", 2), ("place", 1)]) (N := N_order_of) (sc := defScope s_order_of) (by decide +kernel)) (fun _ _ _ _ _ => (pg_tup rfl (pgs_cons (pg_name (i := 2) sc_order_of.nd rfl (.inl rfl)) (pgs_cons (pg_name (i := 1) sc_order_of.nd rfl (.inl rfl)) pgs_nil)))) (fun _ _ _ _ _ => pts_nil) (fun _ _ _ _ _ => (pe_tup (pa_cons (pv 1) (pa_cons (pv 2) pa_nil))))) pa_nil))) (blkOk_by (own := [("place", 1), ("stone", 2)]) (N := N_order_of) (sc := defScope s_order_of) (by decide +kernel)) (fun _ _ _ _ _ => (pg_tup rfl (pgs_cons (pg_name (i := 1) sc_order_of.nd rfl (.inl rfl)) (pgs_cons (pg_name (i := 2) sc_order_of.nd rfl (.inl rfl)) pgs_nil)))) (fun _ _ _ _ _ => pts_nil) (fun _ _ _ _ _ => (pv 2))) pa_nil)))), fun B0 H0 ds kk h => by
    obtain ⟨o, x, y, z, rfl, h1, h2, hk⟩ := h
    walk_at "s"; show Sm _ _ [.d _, .no, .no] _ _
    walk_at "go"
    refine ⟨by rw [List.length_map, List.length_zipIdx, List.length_map, sv_len]; decide, swp, fun d hd => ?_, _, congrArg D.l (swp_enum _), fun qs hp hs => ?_⟩
    · obtain ⟨p, _, rfl⟩ := List.mem_map.mp hd
      walk_at "go"
      rfl
    · rw [sortPD h1 h2 hp hs]
      refine ⟨_, rfl, Nat.le_of_ble_eq_true rfl, snd2, fun d hd => ?_, _, rfl, hk⟩
      rcases List.mem_cons.mp hd with e | e
      · subst e
        walk_at "go"
        rfl
      rcases List.mem_cons.mp e with e | e
      · subst e
        walk_at "go"
        rfl
      · rw [List.mem_singleton.mp e]
        walk_at "go"
        rfl
    ⟩

abbrev s_grain_of : Stmt := topS 17
abbrev N_grain_of : List Str := ["state", "one", "other"]
theorem sc_grain_of : FnScope N_grain_of ["state"] (defScope s_grain_of) := ⟨rfl, rfl, rfl, by decide +kernel, rfl, by decide +kernel, by decide +kernel⟩
theorem gaps_nd {T : Tr} (kT : T.Ok) (w : Wo) {k : D → Prop} (h : k (.t [.int (A T w), .int (B T w)])) : p_gaps_of [ndD T w] k := by
  have q := AB_pos kT w
  refine ⟨ord T.o w, T.h - B T w, T.h + A T w - B T w, T.h + A T w, rfl, by omega, by omega, ?_⟩
  rw [show T.h + A T w - B T w - (T.h - B T w) = A T w by omega, show T.h + A T w - (T.h + A T w - B T w) = B T w by omega]
  exact h
theorem middle_nd {T : Tr} (kT : T.Ok) (w : Wo) {k : D → Prop} (h : k (.int T.h)) : p_middle_of [ndD T w] k := by
  have q := AB_pos kT w
  refine ⟨ord T.o w, T.h - B T w, T.h + A T w - B T w, T.h + A T w, rfl, by omega, by omega, ?_⟩
  rw [show T.h - B T w + (T.h + A T w) - (T.h + A T w - B T w) = T.h by omega]
  exact h
theorem order_nd {T : Tr} (kT : T.Ok) (w : Wo) {k : D → Prop} (h : k (ordD (ord T.o w))) : p_order_of [ndD T w] k := by
  have q := AB_pos kT w
  exact ⟨ord T.o w, T.h - B T w, T.h + A T w - B T w, T.h + A T w, rfl, by omega, by omega, h⟩
theorem state_nd {T : Tr} (kT : T.Ok) (w : Wo) (hw : w.length ≤ 20) {k : D → Prop} (h : k (.v .non)) : p_need_state [ndD T w] k :=
  ⟨plc T w, rfl, plc_len T w, plc_nodup kT w, plc_bnd kT w hw, h⟩
theorem gcdT (T : Tr) (w : Wo) : (T.g * pa w).gcd (T.g * pb w) = T.g := by rw [Nat.gcd_mul_left, cop, Nat.mul_one]
abbrev p_grain_of : List D → (D → Prop) → Prop := fun ds k => ∃ (T : Tr) (w : Wo), ds = [ndD T w] ∧ T.Ok ∧ k (.int (T.g : Int))
theorem c_grain_of (T : Top mg) (C_gaps_of : Cal P w K mg base 1 "gaps_of" ["state"] (spP K p_gaps_of)) (C_common : Cal P w K mg base 1 "common" ["one", "other"] (spP K p_common)) (Fd : Df K mg "grain_of" s_grain_of ["state"]) : Cal P w K mg base 2 "grain_of" ["state"] (spP K p_grain_of) :=
  cal_P _ Fd sc_grain_of (fun ds kk h => by
    obtain ⟨T, w, rfl, kT, hk⟩ := h
    all_goals rfl) fun f cdv A outer s H E hr => ⟨_, 
    (pss_cons (ps_asg (pcal C_gaps_of hr (by decide) (pa_cons (pv 0) pa_nil)) (pg_tup rfl (pgs_cons (pg_name (i := 1) sc_grain_of.nd rfl (.inl rfl)) (pgs_cons (pg_name (i := 2) sc_grain_of.nd rfl (.inl rfl)) pgs_nil)))) 
    (pss_one (ps_ret (pcal C_common hr (by decide) (pa_cons (pv 1) (pa_cons (pv 2) pa_nil)))))), fun B0 H0 ds kk h => by
    obtain ⟨T, w, rfl, kT, hk⟩ := h
    walk_at "s"; show Sm _ _ [.d _, .no, .no] _ _
    walk_at "go"
    refine gaps_nd kT w ?_
    walk_at "go"
    rw [gcdT]
    exact hk
    ⟩

abbrev s_pair_of : Stmt := topS 18
abbrev N_pair_of : List Str := ["state", "one", "other", "grain"]
theorem sc_pair_of : FnScope N_pair_of ["state"] (defScope s_pair_of) := ⟨rfl, rfl, rfl, by decide +kernel, rfl, by decide +kernel, by decide +kernel⟩
theorem divA {T : Tr} (kT : T.Ok) (w : Wo) : (A T w).fdiv T.g = (pa w : Int) ∧ (B T w).fdiv T.g = (pb w : Int) := by
  have h : (T.g : Int) ≠ 0 := by have := kT.g1; omega
  exact ⟨Int.mul_fdiv_cancel_left _ h, Int.mul_fdiv_cancel_left _ h⟩
theorem divC {T : Tr} (kT : T.Ok) (a : Int) : CDivN a (T.g : Int) := by
  have h1 := kT.g1
  have h2 := kT.g2
  exact ⟨by omega, by omega⟩
abbrev p_pair_of : List D → (D → Prop) → Prop := fun ds k => ∃ (T : Tr) (w : Wo), ds = [ndD T w] ∧ T.Ok ∧ k (.t [.int (pa w : Int), .int (pb w : Int)])
theorem c_pair_of (T : Top mg) (C_gaps_of : Cal P w K mg base 1 "gaps_of" ["state"] (spP K p_gaps_of)) (C_common : Cal P w K mg base 1 "common" ["one", "other"] (spP K p_common)) (Fd : Df K mg "pair_of" s_pair_of ["state"]) : Cal P w K mg base 2 "pair_of" ["state"] (spP K p_pair_of) :=
  cal_P _ Fd sc_pair_of (fun ds kk h => by
    obtain ⟨T, w, rfl, kT, hk⟩ := h
    all_goals rfl) fun f cdv A outer s H E hr => ⟨_, 
    (pss_cons (ps_asg (pcal C_gaps_of hr (by decide) (pa_cons (pv 0) pa_nil)) (pg_tup rfl (pgs_cons (pg_name (i := 1) sc_pair_of.nd rfl (.inl rfl)) (pgs_cons (pg_name (i := 2) sc_pair_of.nd rfl (.inl rfl)) pgs_nil)))) 
    (pss_cons (ps_set (i := 3) sc_pair_of.nd rfl (.inl rfl) (pcal C_common hr (by decide) (pa_cons (pv 1) (pa_cons (pv 2) pa_nil)))) 
    (pss_one (ps_ret (pe_tup (pa_cons (pe_op op_fdivN (pv 1) (pv 3)) (pa_cons (pe_op op_fdivN (pv 2) (pv 3)) pa_nil))))))), fun B0 H0 ds kk h => by
    obtain ⟨T, w, rfl, kT, hk⟩ := h
    walk_at "s"; show Sm _ _ [.d _, .no, .no, .no] _ _
    walk_at "go"
    refine gaps_nd kT w ?_
    walk_at "go"
    rw [gcdT]
    walk_at "go"
    refine ⟨divC kT _, ?_⟩
    walk_at "go"
    refine ⟨divC kT _, ?_⟩
    walk_at "go"
    rw [(divA kT w).1, (divA kT w).2]
    exact hk
    ⟩

abbrev s_pair_behind : Stmt := topS 22
abbrev N_pair_behind : List Str := ["pair", "sign", "times", "one", "other"]
theorem sc_pair_behind : FnScope N_pair_behind ["pair", "sign", "times"] (defScope s_pair_behind) := ⟨rfl, rfl, rfl, by decide +kernel, rfl, by decide +kernel, by decide +kernel⟩
abbrev p_pair_behind : List D → (D → Prop) → Prop := fun ds k => ∃ (p q n : Nat) (c : Bool), ds = [.t [.int (p : Int), .int (q : Int)], .str (sg c), .int (n : Int)] ∧ n ≤ 1000 ∧ k (.t [.int ((prs (p, q) c n).1 : Int), .int ((prs (p, q) c n).2 : Int)])
theorem c_pair_behind (T : Top mg)  (Fd : Df K mg "pair_behind" s_pair_behind ["pair", "sign", "times"]) : Cal P w K mg base 1 "pair_behind" ["pair", "sign", "times"] (spP K p_pair_behind) :=
  cal_P _ Fd sc_pair_behind (fun ds kk h => by
    obtain ⟨p, q, n, c, rfl, hn, hk⟩ := h
    all_goals rfl) fun f cdv A outer s H E hr => ⟨_, 
    (pss_cons (ps_asg (pv 0) (pg_tup rfl (pgs_cons (pg_name (i := 3) sc_pair_behind.nd rfl (.inl rfl)) (pgs_cons (pg_name (i := 4) sc_pair_behind.nd rfl (.inl rfl)) pgs_nil)))) 
    (pss_one (ps_ret (pe_ifExp (pt_cmpR op_eq (pv 1) pe_str (nomark _)) (pe_tup (pa_cons (pe_op op_add (pv 3) (pe_op op_mul (pv 2) (pv 4))) (pa_cons (pv 4) pa_nil))) (pe_tup (pa_cons (pv 3) (pa_cons (pe_op op_add (pv 4) (pe_op op_mul (pv 2) (pv 3))) pa_nil))))))), fun B0 H0 ds kk h => by
    obtain ⟨p, q, n, c, rfl, hn, hk⟩ := h
    walk_at "s"; show Sm _ _ [.d _, .d _, .d _, .no, .no] _ _
    walk_at "go"
    have e := sgR c
    rw [show decide (sg c = "R") = c from e]
    cases c with
    | true =>
      walk_at "go"
      refine ⟨mulS (by omega) (by omega) _, ?_⟩
      walk_at "go"
      exact hk
    | false =>
      walk_at "go"
      refine ⟨mulS (by omega) (by omega) _, ?_⟩
      walk_at "go"
      exact hk
    ⟩

abbrev s_order_behind : Stmt := topS 23
abbrev N_order_behind : List Str := ["order", "sign", "times", "left", "middle", "right"]
theorem sc_order_behind : FnScope N_order_behind ["order", "sign", "times"] (defScope s_order_behind) := ⟨rfl, rfl, rfl, by decide +kernel, rfl, by decide +kernel, by decide +kernel⟩
abbrev p_order_behind : List D → (D → Prop) → Prop := fun ds k => ∃ (o : O) (n : Nat) (c : Bool), ds = [ordD o, .str (sg c), .int (n : Int)] ∧ k (ordD (ors o c n))
theorem c_order_behind (T : Top mg)  (Fd : Df K mg "order_behind" s_order_behind ["order", "sign", "times"]) : Cal P w K mg base 1 "order_behind" ["order", "sign", "times"] (spP K p_order_behind) :=
  cal_P _ Fd sc_order_behind (fun ds kk h => by
    obtain ⟨o, n, c, rfl, hk⟩ := h
    all_goals rfl) fun f cdv A outer s H E hr => ⟨_, 
    (pss_cons (ps_asg (pv 0) (pg_tup rfl (pgs_cons (pg_name (i := 3) sc_order_behind.nd rfl (.inl rfl)) (pgs_cons (pg_name (i := 4) sc_order_behind.nd rfl (.inl rfl)) (pgs_cons (pg_name (i := 5) sc_order_behind.nd rfl (.inl rfl)) pgs_nil))))) 
    (pss_cons (ps_if (pt_cmpR op_eq (pe_op op_modN (pv 2) pe_int) pe_int (nomark _)) 
      (pss_one (ps_ret (pv 0))) pss_nil) 
    (pss_one (ps_ret (pe_ifExp (pt_cmpR op_eq (pv 1) pe_str (nomark _)) (pe_tup (pa_cons (pv 3) (pa_cons (pv 5) (pa_cons (pv 4) pa_nil)))) (pe_tup (pa_cons (pv 4) (pa_cons (pv 3) (pa_cons (pv 5) pa_nil))))))))), fun B0 H0 ds kk h => by
    obtain ⟨o, n, c, rfl, hk⟩ := h
    walk_at "s"; show Sm _ _ [.d _, .d _, .d _, .no, .no, .no] _ _
    walk_at "go"
    rw [show ((n : Int).fmod 2) = ((n % 2 : Nat) : Int) from fmod_nat n 2]
    refine br_d (fun hz => ?_) fun hz => ?_
    · walk_at "go"
      have e : ors o c n = o := if_pos (by omega)
      rw [e] at hk
      exact hk
    · walk_at "go"
      rw [show decide (sg c = "R") = c from sgR c]
      have e : ors o c n = o.sw c := if_neg (by omega)
      rw [e] at hk
      cases c with
      | true =>
        walk_at "go"
        cases o <;> exact hk
      | false =>
        walk_at "go"
        cases o <;> exact hk
    ⟩

abbrev s_laid : Stmt := topS 19
abbrev N_laid : List Str := ["middle", "grain", "pair", "order", "one", "other", "places", "found", "stone", "place"]
theorem sc_laid : FnScope N_laid ["middle", "grain", "pair", "order"] (defScope s_laid) := ⟨rfl, rfl, rfl, by decide +kernel, rfl, by decide +kernel, by decide +kernel⟩
def fset (o : O) (x y z : Int) (i : Nat) : List Int := (([(o.l, x), (o.m, y), (o.r, z)] : List (Nat × Int)).take i).foldl (fun l e => l.set e.1 e.2) [0, 0, 0]
theorem fset3 (o : O) (x y z : Int) : fset o x y z 3 = sv o x y z := by cases o <;> rfl
theorem fset_len (o : O) (x y z : Int) (i : Nat) : (fset o x y z i).length = 3 := by
  have h : ∀ (es : List (Nat × Int)) (l : List Int), (es.foldl (fun l e => l.set e.1 e.2) l).length = l.length := by
    intro es
    induction es with
    | nil => intro l; rfl
    | cons e es ih => intro l; exact (ih _).trans (List.length_set ..)
  exact h _ _
theorem o_lt (o : O) : o.l < 3 ∧ o.m < 3 ∧ o.r < 3 := by cases o <;> decide
abbrev p_laid : List D → (D → Prop) → Prop := fun ds k => ∃ (o : O) (h : Int) (g p q : Nat), ds = [.int h, .int (g : Int), .t [.int (p : Int), .int (q : Int)], ordD o] ∧ g ≤ 10 ∧ k (.t (iD (sv o (h - g * q) (h + g * p - g * q) (h + g * p))))
theorem c_laid (T : Top mg)  (Fd : Df K mg "laid" s_laid ["middle", "grain", "pair", "order"]) : Cal P w K mg base 1 "laid" ["middle", "grain", "pair", "order"] (spP K p_laid) :=
  cal_P _ Fd sc_laid (fun ds kk h => by
    obtain ⟨o, m, g, p, q, rfl, hg, hk⟩ := h
    all_goals rfl) fun f cdv A outer s H E hr => ⟨_, 
    (pss_cons (ps_asg (pv 2) (pg_tup rfl (pgs_cons (pg_name (i := 4) sc_laid.nd rfl (.inl rfl)) (pgs_cons (pg_name (i := 5) sc_laid.nd rfl (.inl rfl)) pgs_nil)))) 
    (pss_cons (ps_set (i := 6) sc_laid.nd rfl (.inl rfl) (pe_lst (pa_cons (pe_op op_sub (pv 0) (pe_op op_mul (pv 1) (pv 5))) (pa_cons (pe_op op_add (pv 0) (pe_op op_mul (pv 1) (pe_op op_sub (pv 4) (pv 5)))) (pa_cons (pe_op op_add (pv 0) (pe_op op_mul (pv 1) (pv 4))) pa_nil))))) 
    (pss_cons (ps_set (i := 7) sc_laid.nd rfl (.inl rfl) (pe_op op_rep (pe_lst (pa_cons pe_int pa_nil)) (pconst T.stones))) 
    (pss_cons (ps_for PassesOwn.never rfl (pi_zipM (by rfl) T.zip (pa_cons (pv 3) (pa_cons (pv 6) pa_nil))) (pg_tup rfl (pgs_cons (pg_name (i := 8) sc_laid.nd rfl (.inl rfl)) (pgs_cons (pg_name (i := 9) sc_laid.nd rfl (.inl rfl)) pgs_nil))) 
      (pss_one (ps_asg (pv 9) (pg_sub (pv 7) (pv 8) set_list)))) 
    (pss_one (ps_ret (pe_callTy call_tuple_of (by rfl) T.tuple b_tuple (pa_cons (pv 7) pa_nil)))))))), fun B0 H0 ds kk h => by
    obtain ⟨o, m, g, p, q, rfl, hg, hk⟩ := h
    walk_at "s"; show Sm _ _ [.d _, .d _, .d _, .d _, .no, .no, .no, .no, .no, .no] _ _
    walk_at "go"
    have cg : ∀ b : Int, CMul (g : Int) b := fun b => mulS (by omega) (by omega) b
    refine sm_set (evp_lst ?_)
    walk_at "go"
    refine ⟨cg _, ?_⟩
    walk_at "go"
    refine ⟨cg _, ?_⟩
    walk_at "go"
    refine ⟨cg _, ?_⟩
    walk_at "go"
    refine sm_setN (evn_rep ?_)
    walk_at "go"
    refine ⟨by decide, by decide, Nat.le_of_ble_eq_true rfl, fun p1 => ?_⟩
    have em : m + (g : Int) * ((p : Int) - q) = m + g * p - g * q := by rw [Int.mul_sub]; omega
    rw [em]
    generalize hx : m - (g : Int) * q = x at hk ⊢
    generalize hy : m + (g : Int) * p - g * q = y at hk ⊢
    generalize hz : m + (g : Int) * p = z at hk ⊢
    walk_at "go"
    refine ⟨fun i ρ => ∃ s8 s9, ρ = [.d (.int m), .d (.int (g : Int)), .d (.t [.int (p : Int), .int (q : Int)]), .d (ordD o), .d (.int (p : Int)), .d (.int (q : Int)), .d (.l [.int x, .int y, .int z]), .ol p1 (iD (fset o x y z i)), s8, s9], ⟨_, _, rfl⟩, fun i d ρ' e h => ?_, fun ρ' h => ?_⟩
    · obtain ⟨s8, s9, rfl⟩ := h
      have hl := fset_len o x y z i
      have ho := o_lt o
      match i, e with
      | 0, e =>
        cases e
        walk_at "go"
        exact ⟨by rw [List.length_map, hl]; exact ho.1, .d (.int (o.l : Int)), .d (.int x), by cases o <;> rfl⟩
      | 1, e =>
        cases e
        walk_at "go"
        exact ⟨by rw [List.length_map, hl]; exact ho.2.1, .d (.int (o.m : Int)), .d (.int y), by cases o <;> rfl⟩
      | 2, e =>
        cases e
        walk_at "go"
        exact ⟨by rw [List.length_map, hl]; exact ho.2.2, .d (.int (o.r : Int)), .d (.int z), by cases o <;> rfl⟩
    · obtain ⟨s8, s9, rfl⟩ := h
      walk_at "go"
      rw [← fset3 o x y z] at hk
      exact hk
    ⟩

abbrev s_runs_of : Stmt := topS 21
abbrev N_runs_of : List Str := ["state", "one", "other", "found", "times"]
theorem sc_runs_of : FnScope N_runs_of ["state"] (defScope s_runs_of) := ⟨rfl, rfl, rfl, by decide +kernel, rfl, by decide +kernel, by decide +kernel⟩
theorem castSub1 {a : Nat} (h : 1 ≤ a) : (a : Int) - 1 = ((a - 1 : Nat) : Int) := by omega
theorem castSub {a b : Nat} (h : b ≤ a) : (a : Int) - b = ((a - b : Nat) : Int) := (Int.ofNat_sub h).symm
abbrev p_runs_of : List D → (D → Prop) → Prop := fun ds k => ∃ (T : Tr) (w : Wo), ds = [ndD T w] ∧ T.Ok ∧ w.length ≤ 20 ∧ k (runsD (runs w))
theorem c_runs_of (T : Top mg) (C_pair_of : Cal P w K mg base 2 "pair_of" ["state"] (spP K p_pair_of)) (Fd : Df K mg "runs_of" s_runs_of ["state"]) : Cal P w K mg base 3 "runs_of" ["state"] (spP K p_runs_of) :=
  cal_P _ Fd sc_runs_of (fun ds kk h => by
    obtain ⟨T, w, rfl, kT, hw, hk⟩ := h
    all_goals rfl) fun f cdv A outer s H E hr => ⟨_, 
    (pss_cons (ps_asg (pcal C_pair_of hr (by decide) (pa_cons (pv 0) pa_nil)) (pg_tup rfl (pgs_cons (pg_name (i := 1) sc_runs_of.nd rfl (.inl rfl)) (pgs_cons (pg_name (i := 2) sc_runs_of.nd rfl (.inl rfl)) pgs_nil)))) 
    (pss_cons (ps_set (i := 3) sc_runs_of.nd rfl (.inl rfl) (pe_lst pa_nil)) 
    (pss_cons (ps_while PassesOwn.never (pt_cmpR op_ne (pv 1) (pv 2) (nomark _)) 
      (pss_one (ps_if (pt_cmpR op_gt (pv 1) (pv 2) (nomark _)) 
        (pss_cons (ps_set (i := 4) sc_runs_of.nd rfl (.inl rfl) (pe_op op_fdivN (pe_op op_sub (pv 1) pe_int) (pv 2))) 
        (pss_cons (ps_expr (pe_bm PySem.F.plainAttrs_list PySem.F.slot_list_append PySem.F.type_list_append mt_append (pv 3) (pa_cons (pe_tup (pa_cons pe_str (pa_cons (pv 4) pa_nil))) pa_nil))) 
        (pss_one (ps_aug (i := 1) sc_runs_of.nd rfl (.inl rfl) (pe_op op_mul (pv 4) (pv 2)) ip_sub)))) 
        (pss_cons (ps_set (i := 4) sc_runs_of.nd rfl (.inl rfl) (pe_op op_fdivN (pe_op op_sub (pv 2) pe_int) (pv 1))) 
        (pss_cons (ps_expr (pe_bm PySem.F.plainAttrs_list PySem.F.slot_list_append PySem.F.type_list_append mt_append (pv 3) (pa_cons (pe_tup (pa_cons pe_str (pa_cons (pv 4) pa_nil))) pa_nil))) 
        (pss_one (ps_aug (i := 2) sc_runs_of.nd rfl (.inl rfl) (pe_op op_mul (pv 4) (pv 1)) ip_sub))))))) 
    (pss_one (ps_ret (pe_revL (pv 3))))))), fun B0 H0 ds kk h => by
    obtain ⟨T, w, rfl, kT, hw, hk⟩ := h
    walk_at "s"; show Sm _ _ [.d _, .no, .no, .no, .no] _ _
    walk_at "go"
    refine ⟨kT, ?_⟩
    walk_at "go"
    refine sm_setN (evn_lst ?_)
    walk_at "go"
    intro p
    walk_at "go"
    refine sm_while (fun m ρ => ∃ (r r' : List Rn) (s4 : Sl), r' ++ r = rle w ∧ m = r.length ∧ ρ = [.d (ndD T w), .d (.int (pa (exw r) : Int)), .d (.int (pb (exw r) : Int)), .ol p (r'.map runD), s4]) (rle w).length ⟨rle w, [], _, rfl, rfl, by rw [(rle_ok w).1]; rfl⟩ ?_
    rintro m ρ ⟨r, r', s4, he, rfl, rfl⟩
    have hc : Can r := by
      have h := (rle_ok w).2
      rw [← he] at h
      clear he hk
      induction r' with
      | nil => exact h
      | cons x r' ih => exact ih h.2.2
    have hlen : (exw r).length ≤ 20 := by
      have h := congrArg List.length (rle_ok w).1
      rw [← he, exw_app, List.length_append] at h
      omega
    have hle := le20 (exw r) hlen
    have hp := pos (exw r)
    have hr' : r'.length ≤ 1000 := by
      have h1 := congrArg List.length he
      rw [List.length_append] at h1
      have h2 := rle_len w
      omega
    walk_at "go"
    cases r with
    | nil =>
      refine br_nd (fun _ => ?_) fun hz => absurd rfl hz
      walk_at "go"
      rw [List.append_nil] at he
      subst he
      rw [← List.map_reverse]
      exact hk
    | cons x r =>
      obtain ⟨c, n⟩ := x
      have hn : n ≤ 20 := by
        have h : (exw ((c, n) :: r)).length = n + (exw r).length := by
          show (List.replicate n c ++ exw r).length = _
          rw [List.length_append, List.length_replicate]
        omega
      cases c with
      | true =>
        obtain ⟨h1, h2, h3, h4⟩ := run_r hc
        refine br_nd (fun hz => absurd hz (by omega)) fun hz => ?_
        walk_at "go"
        refine br_dt (by omega) ?_
        walk_at "go"
        refine ⟨⟨by omega, by omega⟩, ?_⟩
        rw [castSub1 hp.1, fdiv_nat, h2]
        walk_at "go"
        refine ⟨by rw [List.length_map]; exact hr', ?_⟩
        walk_at "go"
        refine ⟨mulS (by omega) (by omega) _, ?_⟩
        walk_at "go"
        refine ⟨r.length, Nat.lt_succ_self _, r, r' ++ [(true, n)], .d (.int (n : Int)), by rw [List.append_assoc]; exact he, rfl, ?_⟩
        have e1 : ((pa (exw ((true, n) :: r)) : Int) - (n : Int) * (pb (exw ((true, n) :: r)) : Int)) = (pa (exw r) : Int) := by
          rw [← h3, ← castSub]
          · rfl
          · have := pos (exw r)
            omega
        rw [e1, h4, List.map_append]
        rfl
      | false =>
        obtain ⟨h1, h2, h3, h4⟩ := run_l hc
        refine br_nd (fun hz => absurd hz (by omega)) fun hz => ?_
        walk_at "go"
        refine br_df (by omega) ?_
        walk_at "go"
        refine ⟨⟨by omega, by omega⟩, ?_⟩
        rw [castSub1 hp.2, fdiv_nat, h2]
        walk_at "go"
        refine ⟨by rw [List.length_map]; exact hr', ?_⟩
        walk_at "go"
        refine ⟨mulS (by omega) (by omega) _, ?_⟩
        walk_at "go"
        refine ⟨r.length, Nat.lt_succ_self _, r, r' ++ [(false, n)], .d (.int (n : Int)), by rw [List.append_assoc]; exact he, rfl, ?_⟩
        have e1 : ((pb (exw ((false, n) :: r)) : Int) - (n : Int) * (pa (exw ((false, n) :: r)) : Int)) = (pb (exw r) : Int) := by
          rw [← h3, ← castSub]
          · rfl
          · have := pos (exw r)
            omega
        rw [e1, h4, List.map_append]
        rfl
    ⟩

abbrev s_depth_of : Stmt := topS 26
abbrev N_depth_of : List Str := ["state", "sign", "times"]
theorem sc_depth_of : FnScope N_depth_of ["state"] (defScope s_depth_of) := ⟨rfl, rfl, rfl, by decide +kernel, rfl, by decide +kernel, by decide +kernel⟩
theorem tot_map (r : List Rn) : ((r.map fun x => (x.2 : Int))).sum = (tot r : Int) := by
  induction r with
  | nil => rfl
  | cons x r ih =>
    rw [List.map_cons, List.sum_cons, ih]
    exact (Int.natCast_add ..).symm
theorem snd_run (r : List Rn) : (r.map runD).map snd2 = (r.map fun x => (x.2 : Int)).map D.int := by
  rw [List.map_map, List.map_map]
  rfl
abbrev p_depth_of : List D → (D → Prop) → Prop := fun ds k => ∃ (T : Tr) (w : Wo), ds = [ndD T w] ∧ T.Ok ∧ w.length ≤ 20 ∧ k (.int (w.length : Int))
theorem c_depth_of (T : Top mg) (C_runs_of : Cal P w K mg base 3 "runs_of" ["state"] (spP K p_runs_of)) (Fd : Df K mg "depth_of" s_depth_of ["state"]) : Cal P w K mg base 4 "depth_of" ["state"] (spP K p_depth_of) :=
  cal_P _ Fd sc_depth_of (fun ds kk h => by
    obtain ⟨T, w, rfl, kT, hw, hk⟩ := h
    all_goals rfl) fun f cdv A outer s H E hr => ⟨_, 
    (pss_one (ps_ret (pe_callB (cr_sum rfl) (by rfl) T.sum b_sum (pa_cons (pe_lc (own := [("sign", 1), ("times", 2)]) (g := gTup K 2 (gCons (gName 1) (gCons (gName 2) (gNil)))) (by rfl) sc_depth_of.nd (pi_list (pcal C_runs_of hr (by decide) (pa_cons (pv 0) pa_nil))) (blkOk_by (own := [("sign", 1), ("times", 2)]) (N := N_depth_of) (sc := defScope s_depth_of) (by decide +kernel)) (fun _ _ _ _ _ => (pg_tup rfl (pgs_cons (pg_name (i := 1) sc_depth_of.nd rfl (.inl rfl)) (pgs_cons (pg_name (i := 2) sc_depth_of.nd rfl (.inl rfl)) pgs_nil)))) (fun _ _ _ _ _ => pts_nil) (fun _ _ _ _ _ => (pv 2))) pa_nil)))), fun B0 H0 ds kk h => by
    obtain ⟨T, w, rfl, kT, hw, hk⟩ := h
    walk_at "s"; show Sm _ _ [.d _, .no, .no] _ _
    walk_at "go"
    refine ⟨kT, hw, ?_⟩
    walk_at "go"
    refine ⟨by rw [List.length_map]; exact Nat.le_trans (Nat.le_trans (runs_len w) hw) (by decide), snd2, fun d hd => ?_, _, congrArg D.l (snd_run _), ?_⟩
    · obtain ⟨p, _, rfl⟩ := List.mem_map.mp hd
      walk_at "go"
      rfl
    · rw [tot_map, runs_tot]
      exact hk
    ⟩

abbrev s_total : Stmt := topS 32
abbrev N_total : List Str := ["runs", "sign", "times"]
theorem sc_total : FnScope N_total ["runs"] (defScope s_total) := ⟨rfl, rfl, rfl, by decide +kernel, rfl, by decide +kernel, by decide +kernel⟩
abbrev p_total : List D → (D → Prop) → Prop := fun ds k => ∃ (r : List Rn), ds = [runsD r] ∧ r.length ≤ 1000 ∧ k (.int (tot r : Int))
theorem c_total (T : Top mg)  (Fd : Df K mg "total" s_total ["runs"]) : Cal P w K mg base 1 "total" ["runs"] (spP K p_total) :=
  cal_P _ Fd sc_total (fun ds kk h => by
    obtain ⟨r, rfl, hr', hk⟩ := h
    all_goals rfl) fun f cdv A outer s H E hr => ⟨_, 
    (pss_one (ps_ret (pe_callB (cr_sum rfl) (by rfl) T.sum b_sum (pa_cons (pe_lc (own := [("sign", 1), ("times", 2)]) (g := gTup K 2 (gCons (gName 1) (gCons (gName 2) (gNil)))) (by rfl) sc_total.nd (pi_list (pv 0)) (blkOk_by (own := [("sign", 1), ("times", 2)]) (N := N_total) (sc := defScope s_total) (by decide +kernel)) (fun _ _ _ _ _ => (pg_tup rfl (pgs_cons (pg_name (i := 1) sc_total.nd rfl (.inl rfl)) (pgs_cons (pg_name (i := 2) sc_total.nd rfl (.inl rfl)) pgs_nil)))) (fun _ _ _ _ _ => pts_nil) (fun _ _ _ _ _ => (pv 2))) pa_nil)))), fun B0 H0 ds kk h => by
    obtain ⟨r, rfl, hr', hk⟩ := h
    walk_at "s"; show Sm _ _ [.d _, .no, .no] _ _
    walk_at "go"
    refine ⟨by rw [List.length_map]; exact hr', snd2, fun d hd => ?_, _, congrArg D.l (snd_run _), ?_⟩
    · obtain ⟨p, _, rfl⟩ := List.mem_map.mp hd
      walk_at "go"
      rfl
    · rw [tot_map]
      exact hk
    ⟩

abbrev s_lowered : Stmt := topS 37
abbrev N_lowered : List Str := ["above", "low", "shared"]
theorem sc_lowered : FnScope N_lowered ["above", "low"] (defScope s_lowered) := ⟨rfl, rfl, rfl, by decide +kernel, rfl, by decide +kernel, by decide +kernel⟩
theorem cdN {b : Nat} (h0 : 0 < b) (h : b < 1000000000) (a : Int) : CDivN a (b : Int) := ⟨by omega, by omega⟩
abbrev p_lowered : List D → (D → Prop) → Prop := fun ds k => ∃ (a b : Nat), ds = [.int (a : Int), .int (b : Int)] ∧ 0 < b ∧ b < 1000000000 ∧ k (.t [.int ((a / Nat.gcd a b : Nat) : Int), .int ((b / Nat.gcd a b : Nat) : Int)])
theorem c_lowered (T : Top mg) (C_common : Cal P w K mg base 1 "common" ["one", "other"] (spP K p_common)) (Fd : Df K mg "lowered" s_lowered ["above", "low"]) : Cal P w K mg base 2 "lowered" ["above", "low"] (spP K p_lowered) :=
  cal_P _ Fd sc_lowered (fun ds kk h => by
    obtain ⟨a, b, rfl, h0, hb, hk⟩ := h
    all_goals rfl) fun f cdv A outer s H E hr => ⟨_, 
    (pss_cons (ps_set (i := 2) sc_lowered.nd rfl (.inl rfl) (pcal C_common hr (by decide) (pa_cons (pv 0) (pa_cons (pv 1) pa_nil)))) 
    (pss_one (ps_ret (pe_tup (pa_cons (pe_op op_fdivN (pv 0) (pv 2)) (pa_cons (pe_op op_fdivN (pv 1) (pv 2)) pa_nil)))))), fun B0 H0 ds kk h => by
    obtain ⟨a, b, rfl, h0, hb, hk⟩ := h
    walk_at "s"; show Sm _ _ [.d _, .d _, .no] _ _
    walk_at "go"
    have g0 : 0 < Nat.gcd a b := Nat.gcd_pos_of_pos_right _ h0
    have g1 : Nat.gcd a b ≤ b := Nat.gcd_le_right _ h0
    refine ⟨cdN g0 (by omega) _, ?_⟩
    walk_at "go"
    refine ⟨cdN g0 (by omega) _, ?_⟩
    walk_at "go"
    rw [fdiv_nat, fdiv_nat]
    exact hk
    ⟩

abbrev s_power : Stmt := topS 38
abbrev N_power : List Str := ["base", "times", "found", "turn"]
theorem sc_power : FnScope N_power ["base", "times"] (defScope s_power) := ⟨rfl, rfl, rfl, by decide +kernel, rfl, by decide +kernel, by decide +kernel⟩
abbrev p_power : List D → (D → Prop) → Prop := fun ds k => ∃ (b n : Nat), ds = [.int (b : Int), .int (n : Int)] ∧ b ≤ 100 ∧ n ≤ 100 ∧ k (.int ((b ^ n : Nat) : Int))
theorem c_power (T : Top mg)  (Fd : Df K mg "power" s_power ["base", "times"]) : Cal P w K mg base 1 "power" ["base", "times"] (spP K p_power) :=
  cal_P _ Fd sc_power (fun ds kk h => by
    obtain ⟨b, n, rfl, hb, hn, hk⟩ := h
    all_goals rfl) fun f cdv A outer s H E hr => ⟨_, 
    (pss_cons (ps_set (i := 2) sc_power.nd rfl (.inl rfl) pe_int) 
    (pss_cons (ps_for PassesOwn.never rfl (pi_range1 (by rfl) T.range (pa_cons (pv 1) pa_nil)) (pg_name (i := 3) sc_power.nd rfl (.inl rfl)) 
      (pss_one (ps_set (i := 2) sc_power.nd rfl (.inl rfl) (pe_op op_mul (pv 2) (pv 0))))) 
    (pss_one (ps_ret (pv 2))))), fun B0 H0 ds kk h => by
    obtain ⟨b, n, rfl, hb, hn, hk⟩ := h
    walk_at "s"; show Sm _ _ [.d _, .d _, .no, .no] _ _
    walk_at "go"
    refine ⟨by omega, fun i ρ => ∃ s, ρ = [.d (.int (b : Int)), .d (.int (n : Int)), .d (.int ((b ^ i : Nat) : Int)), s], ⟨_, rfl⟩, fun i d ρ' e h => ?_, fun ρ' h => ?_⟩
    · obtain ⟨s, rfl⟩ := h
      walk_at "go"
      refine ⟨mulS' (by omega) (by omega) _, ?_⟩
      walk_at "go"
      rw [← Int.natCast_mul, ← Nat.pow_succ]
      exact ⟨_, rfl⟩
    · obtain ⟨s, rfl⟩ := h
      walk_at "go"
      rw [List.length_map, List.length_range]
      exact hk
    ⟩

abbrev s_begin_order : Stmt := topS 24
abbrev N_begin_order : List Str := ["state", "order", "sign", "times"]
theorem sc_begin_order : FnScope N_begin_order ["state"] (defScope s_begin_order) := ⟨rfl, rfl, rfl, by decide +kernel, rfl, by decide +kernel, by decide +kernel⟩
abbrev p_begin_order : List D → (D → Prop) → Prop := fun ds k => ∃ (T : Tr) (w : Wo), ds = [ndD T w] ∧ T.Ok ∧ w.length ≤ 20 ∧ k (ordD T.o)
theorem c_begin_order (T : Top mg) (C_order_of : Cal P w K mg base 1 "order_of" ["state"] (spP K p_order_of)) (C_runs_of : Cal P w K mg base 3 "runs_of" ["state"] (spP K p_runs_of)) (C_order_behind : Cal P w K mg base 1 "order_behind" ["order", "sign", "times"] (spP K p_order_behind)) (Fd : Df K mg "begin_order" s_begin_order ["state"]) : Cal P w K mg base 4 "begin_order" ["state"] (spP K p_begin_order) :=
  cal_P _ Fd sc_begin_order (fun ds kk h => by
    obtain ⟨T, w, rfl, kT, hw, hk⟩ := h
    all_goals rfl) fun f cdv A outer s H E hr => ⟨_, 
    (pss_cons (ps_set (i := 1) sc_begin_order.nd rfl (.inl rfl) (pcal C_order_of hr (by decide) (pa_cons (pv 0) pa_nil))) 
    (pss_cons (ps_for PassesOwn.never rfl (pi_list (pe_revL (pcal C_runs_of hr (by decide) (pa_cons (pv 0) pa_nil)))) (pg_tup rfl (pgs_cons (pg_name (i := 2) sc_begin_order.nd rfl (.inl rfl)) (pgs_cons (pg_name (i := 3) sc_begin_order.nd rfl (.inl rfl)) pgs_nil))) 
      (pss_one (ps_set (i := 1) sc_begin_order.nd rfl (.inl rfl) (pcal C_order_behind hr (by decide) (pa_cons (pv 1) (pa_cons (pv 2) (pa_cons (pv 3) pa_nil))))))) 
    (pss_one (ps_ret (pv 1))))), fun B0 H0 ds kk h => by
    obtain ⟨T, w, rfl, kT, hw, hk⟩ := h
    walk_at "s"; show Sm _ _ [.d _, .no, .no, .no] _ _
    walk_at "go"
    refine order_nd kT w ?_
    walk_at "go"
    refine ⟨kT, hw, ?_⟩
    walk_at "go"
    refine ⟨fun i ρ => ∃ (r' r : List Rn) (s2 s3 : Sl), r' ++ r = rle w ∧ r'.length = i ∧ ρ = [.d (ndD T w), .d (ordD (ord T.o (exw r))), s2, s3], ⟨[], rle w, _, _, rfl, rfl, by rw [(rle_ok w).1]; rfl⟩, fun i d ρ' e h => ?_, fun ρ' h => ?_⟩
    · obtain ⟨r', r, s2, s3, he, rfl, rfl⟩ := h
      rw [← List.map_reverse, runs, List.reverse_reverse, ← he, List.map_append, List.getElem?_append_right (by rw [List.length_map]; exact Nat.le_refl _), List.length_map, Nat.sub_self] at e
      cases r with
      | nil => cases e
      | cons x r =>
        obtain ⟨c, n⟩ := x
        cases e
        walk_at "go"
        refine ⟨_, _, _, rfl, ?_⟩
        rw [show ord T.o (exw ((c, n) :: r)) = ors (ord T.o (exw r)) c n from (ors_ok T.o (exw r) c n).symm, ors2]
        exact ⟨r' ++ [(c, n)], r, _, _, by rw [List.append_assoc]; exact he, by rw [List.length_append]; rfl, rfl⟩
    · obtain ⟨r', r, s2, s3, he, hl, rfl⟩ := h
      walk_at "go"
      rw [List.length_reverse, List.length_map, runs, List.length_reverse, ← he, List.length_append] at hl
      have : r = [] := List.length_eq_zero_iff.mp (by omega)
      subst this
      exact hk
    ⟩

abbrev s_begin_of : Stmt := topS 25
abbrev N_begin_of : List Str := ["state"]
theorem sc_begin_of : FnScope N_begin_of ["state"] (defScope s_begin_of) := ⟨rfl, rfl, rfl, by decide +kernel, rfl, by decide +kernel, by decide +kernel⟩
theorem plc_eq (T : Tr) (w : Wo) : plc T w = sv (ord T.o w) (T.h - T.g * (pb w : Nat)) (T.h + T.g * (pa w : Nat) - T.g * (pb w : Nat)) (T.h + T.g * (pa w : Nat)) := rfl
theorem laid_nd {T : Tr} (kT : T.Ok) (w : Wo) {k : D → Prop} (h : k (ndD T w)) : p_laid [.int T.h, .int (T.g : Int), .t [.int (pa w : Int), .int (pb w : Int)], ordD (ord T.o w)] k :=
  ⟨ord T.o w, T.h, T.g, pa w, pb w, rfl, kT.g2, h⟩
abbrev p_begin_of : List D → (D → Prop) → Prop := fun ds k => ∃ (T : Tr) (w : Wo), ds = [ndD T w] ∧ T.Ok ∧ w.length ≤ 20 ∧ k (ndD T [])
theorem c_begin_of (T : Top mg) (C_laid : Cal P w K mg base 1 "laid" ["middle", "grain", "pair", "order"] (spP K p_laid)) (C_begin_order : Cal P w K mg base 4 "begin_order" ["state"] (spP K p_begin_order)) (C_grain_of : Cal P w K mg base 2 "grain_of" ["state"] (spP K p_grain_of)) (C_middle_of : Cal P w K mg base 1 "middle_of" ["state"] (spP K p_middle_of)) (Fd : Df K mg "begin_of" s_begin_of ["state"]) : Cal P w K mg base 5 "begin_of" ["state"] (spP K p_begin_of) :=
  cal_P _ Fd sc_begin_of (fun ds kk h => by
    obtain ⟨T, w, rfl, kT, hw, hk⟩ := h
    all_goals rfl) fun f cdv A outer s H E hr => ⟨_, 
    (pss_one (ps_ret (pcal C_laid hr (by decide) (pa_cons (pcal C_middle_of hr (by decide) (pa_cons (pv 0) pa_nil)) (pa_cons (pcal C_grain_of hr (by decide) (pa_cons (pv 0) pa_nil)) (pa_cons (pe_tup (pa_cons pe_int (pa_cons pe_int pa_nil))) (pa_cons (pcal C_begin_order hr (by decide) (pa_cons (pv 0) pa_nil)) pa_nil))))))), fun B0 H0 ds kk h => by
    obtain ⟨T, w, rfl, kT, hw, hk⟩ := h
    walk_at "s"; show Sm _ _ [.d _] _ _
    walk_at "go"
    refine middle_nd kT w ?_
    walk_at "go"
    refine ⟨kT, ?_⟩
    walk_at "go"
    refine ⟨kT, hw, ?_⟩
    walk_at "go"
    exact laid_nd kT [] hk
    ⟩

abbrev s_behind : Stmt := topS 27
abbrev N_behind : List Str := ["state", "runs", "pair", "order", "sign", "times"]
theorem sc_behind : FnScope N_behind ["state", "runs"] (defScope s_behind) := ⟨rfl, rfl, rfl, by decide +kernel, rfl, by decide +kernel, by decide +kernel⟩
theorem gow_app : ∀ (r s : List Rn) (w : Wo), gow w (r ++ s) = gow (gow w r) s
  | [], s, w => rfl
  | (c, n) :: r, s, w => gow_app r s (List.replicate n c ++ w)
abbrev p_behind : List D → (D → Prop) → Prop := fun ds k => ∃ (T : Tr) (w : Wo) (r : List Rn), ds = [ndD T w, runsD r] ∧ T.Ok ∧ (gow w r).length ≤ 20 ∧ k (ndD T (gow w r))
theorem c_behind (T : Top mg) (C_order_of : Cal P w K mg base 1 "order_of" ["state"] (spP K p_order_of)) (C_pair_of : Cal P w K mg base 2 "pair_of" ["state"] (spP K p_pair_of)) (C_order_behind : Cal P w K mg base 1 "order_behind" ["order", "sign", "times"] (spP K p_order_behind)) (C_pair_behind : Cal P w K mg base 1 "pair_behind" ["pair", "sign", "times"] (spP K p_pair_behind)) (C_laid : Cal P w K mg base 1 "laid" ["middle", "grain", "pair", "order"] (spP K p_laid)) (C_grain_of : Cal P w K mg base 2 "grain_of" ["state"] (spP K p_grain_of)) (C_middle_of : Cal P w K mg base 1 "middle_of" ["state"] (spP K p_middle_of)) (Fd : Df K mg "behind" s_behind ["state", "runs"]) : Cal P w K mg base 3 "behind" ["state", "runs"] (spP K p_behind) :=
  cal_P _ Fd sc_behind (fun ds kk h => by
    obtain ⟨T, w, r, rfl, kT, hw, hk⟩ := h
    all_goals rfl) fun f cdv A outer s H E hr => ⟨_, 
    (pss_cons (ps_par (i := 2) (j := 3) (by rfl) sc_behind.nd rfl rfl (by decide) rfl rfl (pa_cons (pcal C_pair_of hr (by decide) (pa_cons (pv 0) pa_nil)) (pa_cons (pcal C_order_of hr (by decide) (pa_cons (pv 0) pa_nil)) pa_nil)) (by rfl)) 
    (pss_cons (ps_for PassesOwn.never rfl (pi_list (pv 1)) (pg_tup rfl (pgs_cons (pg_name (i := 4) sc_behind.nd rfl (.inl rfl)) (pgs_cons (pg_name (i := 5) sc_behind.nd rfl (.inl rfl)) pgs_nil))) 
      (pss_one (ps_par (i := 2) (j := 3) (by rfl) sc_behind.nd rfl rfl (by decide) rfl rfl (pa_cons (pcal C_pair_behind hr (by decide) (pa_cons (pv 2) (pa_cons (pv 4) (pa_cons (pv 5) pa_nil)))) (pa_cons (pcal C_order_behind hr (by decide) (pa_cons (pv 3) (pa_cons (pv 4) (pa_cons (pv 5) pa_nil)))) pa_nil)) (by rfl)))) 
    (pss_one (ps_ret (pcal C_laid hr (by decide) (pa_cons (pcal C_middle_of hr (by decide) (pa_cons (pv 0) pa_nil)) (pa_cons (pcal C_grain_of hr (by decide) (pa_cons (pv 0) pa_nil)) (pa_cons (pv 2) (pa_cons (pv 3) pa_nil))))))))), fun B0 H0 ds kk h => by
    obtain ⟨T, w, r, rfl, kT, hw, hk⟩ := h
    walk_at "s"; show Sm _ _ [.d _, .d _, .no, .no, .no, .no] _ _
    walk_at "go"
    refine ⟨kT, ?_⟩
    walk_at "go"
    refine order_nd kT w ?_
    walk_at "go"
    refine ⟨fun i ρ => ∃ (r1 r2 : List Rn) (s4 s5 : Sl), r1 ++ r2 = r ∧ r1.length = i ∧ ρ = [.d (ndD T w), .d (runsD r), .d (.t [.int (pa (gow w r1) : Int), .int (pb (gow w r1) : Int)]), .d (ordD (ord T.o (gow w r1))), s4, s5], ⟨[], r, _, _, rfl, rfl, rfl⟩, fun i d ρ' e h => ?_, fun ρ' h => ?_⟩
    · obtain ⟨r1, r2, s4, s5, he, rfl, rfl⟩ := h
      rw [← he, List.map_append, List.getElem?_append_right (by rw [List.length_map]; exact Nat.le_refl _), List.length_map, Nat.sub_self] at e
      cases r2 with
      | nil => cases e
      | cons x r2 =>
        obtain ⟨c, n⟩ := x
        cases e
        have hn : n ≤ 20 := by
          rw [← he, gow_app, gow_len] at hw
          have : tot ((c, n) :: r2) = n + tot r2 := rfl
          omega
        walk_at "go"
        refine ⟨_, _, _, _, rfl, by omega, ?_⟩
        rw [show ((pa (gow w r1), pb (gow w r1)) : Nat × Nat) = pq (gow w r1) from rfl, prs_ok]
        walk_at "go"
        refine ⟨_, _, _, rfl, ?_⟩
        rw [ors_ok]
        walk_at "go"
        have eg : gow w (r1 ++ [(c, n)]) = List.replicate n c ++ gow w r1 := gow_app r1 [(c, n)] w
        exact ⟨r1 ++ [(c, n)], r2, _, _, by rw [List.append_assoc]; exact he, by rw [List.length_append]; rfl, by rw [eg]; rfl⟩
    · obtain ⟨r1, r2, s4, s5, he, hl, rfl⟩ := h
      rw [List.length_map, ← he, List.length_append] at hl
      have : r2 = [] := List.length_eq_zero_iff.mp (by omega)
      subst this
      rw [List.append_nil] at he
      subst he
      walk_at "go"
      refine middle_nd kT w ?_
      walk_at "go"
      refine ⟨kT, ?_⟩
      walk_at "go"
      exact laid_nd kT _ hk
    ⟩

abbrev s_is_same : Stmt := topS 28
abbrev N_is_same : List Str := ["one", "other"]
theorem sc_is_same : FnScope N_is_same ["one", "other"] (defScope s_is_same) := ⟨rfl, rfl, rfl, by decide +kernel, rfl, by decide +kernel, by decide +kernel⟩
abbrev p_is_same : List D → (D → Prop) → Prop := fun ds k => ∃ (T : Tr) (u v : Wo), ds = [ndD T u, ndD T v] ∧ T.Ok ∧ u.length ≤ 20 ∧ v.length ≤ 20 ∧ k (.bl true)
theorem c_is_same (T : Top mg) (C_grain_of : Cal P w K mg base 2 "grain_of" ["state"] (spP K p_grain_of)) (C_middle_of : Cal P w K mg base 1 "middle_of" ["state"] (spP K p_middle_of)) (C_begin_order : Cal P w K mg base 4 "begin_order" ["state"] (spP K p_begin_order)) (Fd : Df K mg "is_same" s_is_same ["one", "other"]) : Cal P w K mg base 5 "is_same" ["one", "other"] (spP K p_is_same) :=
  cal_P _ Fd sc_is_same (fun ds kk h => by
    obtain ⟨T, u, v, rfl, kT, hu, hv, hk⟩ := h
    all_goals rfl) fun f cdv A outer s H E hr => ⟨_, 
    (pss_cons (ps_if (PW.pt (pw_or (pt_cmpR op_ne (pcal C_middle_of hr (by decide) (pa_cons (pv 0) pa_nil)) (pcal C_middle_of hr (by decide) (pa_cons (pv 1) pa_nil)) (nomark _)) (pw_or1 (pt_cmpR op_ne (pcal C_grain_of hr (by decide) (pa_cons (pv 0) pa_nil)) (pcal C_grain_of hr (by decide) (pa_cons (pv 1) pa_nil)) (nomark _))))) 
      (pss_one (ps_ret pe_bl)) pss_nil) 
    (pss_one (ps_ret (pe_cmpR (op_eqD hr.units) (pcal C_begin_order hr (by decide) (pa_cons (pv 0) pa_nil)) (pcal C_begin_order hr (by decide) (pa_cons (pv 1) pa_nil)) (nomark _))))), fun B0 H0 ds kk h => by
    obtain ⟨T, u, v, rfl, kT, hu, hv, hk⟩ := h
    walk_at "s"; show Sm _ _ [.d _, .d _] _ _
    walk_at "go"
    refine middle_nd kT u ?_
    walk_at "go"
    refine middle_nd kT v ?_
    walk_at "go"
    refine br_nd' (fun _ => ?_) fun hz => absurd rfl hz
    walk_at "go"
    refine ⟨kT, ?_⟩
    walk_at "go"
    refine ⟨kT, ?_⟩
    walk_at "go"
    refine br_nd (fun _ => ?_) fun hz => absurd rfl hz
    walk_at "go"
    refine ⟨kT, hu, ?_⟩
    walk_at "go"
    refine ⟨kT, hv, ?_⟩
    exact ⟨_, _, _, rfl, rfl, hk⟩
    ⟩

abbrev s_need_two : Stmt := topS 30
abbrev N_need_two : List Str := ["one", "other"]
theorem sc_need_two : FnScope N_need_two ["one", "other"] (defScope s_need_two) := ⟨rfl, rfl, rfl, by decide +kernel, rfl, by decide +kernel, by decide +kernel⟩
abbrev p_need_two : List D → (D → Prop) → Prop := fun ds k => ∃ (T : Tr) (u v : Wo), ds = [ndD T u, ndD T v] ∧ T.Ok ∧ u.length ≤ 20 ∧ v.length ≤ 20 ∧ k (.v .non)
theorem c_need_two (T : Top mg) (C_need_state : Cal P w K mg base 4 "need_state" ["value"] (spP K p_need_state)) (C_is_same : Cal P w K mg base 5 "is_same" ["one", "other"] (spP K p_is_same)) (Fd : Df K mg "need_two" s_need_two ["one", "other"]) : Cal P w K mg base 6 "need_two" ["one", "other"] (spP K p_need_two) :=
  cal_P _ Fd sc_need_two (fun ds kk h => by
    obtain ⟨T, u, v, rfl, kT, hu, hv, hk⟩ := h
    all_goals rfl) fun f cdv A outer s H E hr => ⟨_, 
    (pss_cons (ps_expr (pcal C_need_state hr (by decide) (pa_cons (pv 0) pa_nil))) 
    (pss_cons (ps_expr (pcal C_need_state hr (by decide) (pa_cons (pv 1) pa_nil))) 
    (pss_one (ps_if (pt_not (pt_val (pcal C_is_same hr (by decide) (pa_cons (pv 0) (pa_cons (pv 1) pa_nil))))) 
      (pss_one ps_never) pss_nil)))), fun B0 H0 ds kk h => by
    obtain ⟨T, u, v, rfl, kT, hu, hv, hk⟩ := h
    walk_at "s"; show Sm _ _ [.d _, .d _] _ _
    walk_at "go"
    refine ⟨plc_len T u, plc_nodup kT u, plc_bnd kT u hu, ?_⟩
    walk_at "go"
    refine ⟨plc_len T v, plc_nodup kT v, plc_bnd kT v hv, ?_⟩
    walk_at "go"
    refine ⟨T, u, v, rfl, kT, hu, hv, ?_⟩
    walk_at "go"
    exact hk
    ⟩

abbrev s_shared_runs : Stmt := topS 31
abbrev N_shared_runs : List Str := ["one", "other", "found", "first", "second"]
theorem sc_shared_runs : FnScope N_shared_runs ["one", "other"] (defScope s_shared_runs) := ⟨rfl, rfl, rfl, by decide +kernel, rfl, by decide +kernel, by decide +kernel⟩
theorem shr_len : ∀ r s : List Rn, (shr r s).length ≤ r.length
  | [], s => Nat.zero_le _
  | (c, n) :: r, [] => Nat.zero_le _
  | (c, n) :: r, (d, m) :: s => by
    unfold shr
    split
    · split
      · exact Nat.succ_le_succ (shr_len r s)
      · exact Nat.succ_le_succ (Nat.zero_le _)
    · exact Nat.zero_le _
abbrev p_shared_runs : List D → (D → Prop) → Prop := fun ds k => ∃ (r s : List Rn), ds = [runsD r, runsD s] ∧ r.length ≤ 1000 ∧ k (runsD (shr r s))
theorem c_shared_runs (T : Top mg)  (Fd : Df K mg "shared_runs" s_shared_runs ["one", "other"]) : Cal P w K mg base 1 "shared_runs" ["one", "other"] (spP K p_shared_runs) :=
  cal_P _ Fd sc_shared_runs (fun ds kk h => by
    obtain ⟨r, q, rfl, hr', hk⟩ := h
    all_goals rfl) fun f cdv A outer s H E hr => ⟨_, 
    (pss_cons (ps_set (i := 2) sc_shared_runs.nd rfl (.inl rfl) (pe_lst pa_nil)) 
    (pss_cons (ps_for PassesOwn.never rfl (pi_zip (by rfl) T.zip (pa_cons (pv 0) (pa_cons (pv 1) pa_nil))) (pg_tup rfl (pgs_cons (pg_name (i := 3) sc_shared_runs.nd rfl (.inl rfl)) (pgs_cons (pg_name (i := 4) sc_shared_runs.nd rfl (.inl rfl)) pgs_nil))) 
      (pss_cons (ps_if (pt_cmpR op_ne (pe_ix ix_tup (pv 3) pe_int (fun _ _ => rfl)) (pe_ix ix_tup (pv 4) pe_int (fun _ _ => rfl)) (nomark _)) 
        (pss_one (ps_ret (pv 2))) pss_nil) 
      (pss_cons (ps_expr (pe_bm PySem.F.plainAttrs_list PySem.F.slot_list_append PySem.F.type_list_append mt_append (pv 2) (pa_cons (pe_tup (pa_cons (pe_ix ix_tup (pv 3) pe_int (fun _ _ => rfl)) (pa_cons (pe_callB (call_min2 rfl) (by rfl) T.min b_min (pa_cons (pe_ix ix_tup (pv 3) pe_int (fun _ _ => rfl)) (pa_cons (pe_ix ix_tup (pv 4) pe_int (fun _ _ => rfl)) pa_nil))) pa_nil))) pa_nil))) 
      (pss_one (ps_if (pt_cmpR op_ne (pe_ix ix_tup (pv 3) pe_int (fun _ _ => rfl)) (pe_ix ix_tup (pv 4) pe_int (fun _ _ => rfl)) (nomark _)) 
        (pss_one (ps_ret (pv 2))) pss_nil))))) 
    (pss_one (ps_ret (pv 2))))), fun B0 H0 ds kk h => by
    obtain ⟨r, q, rfl, hr', hk⟩ := h
    walk_at "s"; show Sm _ _ [.d _, .d _, .no, .no, .no] _ _
    walk_at "go"
    refine sm_setN (evn_lst ?_)
    walk_at "go"
    intro p
    walk_at "go"
    refine ⟨fun i ρ => ∃ (f : List Rn) (s3 s4 : Sl), f.length = i ∧ f ++ shr (r.drop i) (q.drop i) = shr r q ∧ ρ = [.d (runsD r), .d (runsD q), .ol p (f.map runD), s3, s4], ⟨[], _, _, rfl, rfl, rfl⟩, fun i d ρ' e h => ?_, fun ρ' h => ?_⟩
    · obtain ⟨f, s3, s4, hf, he, rfl⟩ := h
      obtain ⟨x, y, hx, hy, rfl⟩ := pair_at e
      rw [List.getElem?_map] at hx hy
      cases hx2 : r[i]? with
      | none => rw [hx2] at hx; cases hx
      | some a =>
      cases hy2 : q[i]? with
      | none => rw [hy2] at hy; cases hy
      | some b =>
      rw [hx2] at hx
      rw [hy2] at hy
      cases hx
      cases hy
      obtain ⟨c, n⟩ := a
      obtain ⟨d, m⟩ := b
      obtain ⟨hi, hx3⟩ := List.getElem?_eq_some_iff.mp hx2
      obtain ⟨hj, hy3⟩ := List.getElem?_eq_some_iff.mp hy2
      rw [List.drop_eq_getElem_cons hi, List.drop_eq_getElem_cons hj, hx3, hy3] at he
      have hfl : f.length ≤ 1000 := by omega
      walk_at "go"
      rw [show decide (sg c = sg d) = decide (c = d) from sg_inj c d]
      refine br_nd (fun hcd => ?_) fun hcd => ?_
      · subst hcd
        walk_at "go"
        refine ⟨by rw [List.length_map]; exact hfl, ?_⟩
        walk_at "go"
        have he2 : f ++ ((c, min n m) :: (if n = m then shr (r.drop (i + 1)) (q.drop (i + 1)) else [])) = shr r q := by
          rw [← he]
          show _ = f ++ (if c = c then _ else _)
          rw [if_pos rfl]
        rw [show (if (m : Int) < (n : Int) then (m : Int) else (n : Int)) = ((min n m : Nat) : Int) by split <;> omega]
        refine br_nd (fun hnm => ?_) fun hnm => ?_
        · have hnm : n = m := by omega
          rw [if_pos hnm] at he2
          walk_at "go"
          exact ⟨f ++ [(c, min n m)], .d (runD (c, n)), .d (runD (c, m)), by rw [List.length_append, hf]; rfl, by rw [List.append_assoc]; exact he2, by rw [List.map_append]; rfl⟩
        · have hnm : ¬ n = m := fun z => hnm (by rw [z])
          rw [if_neg hnm] at he2
          walk_at "go"
          have hk2 := hk
          rw [← he2] at hk2
          rw [runsD, List.map_append] at hk2
          exact hk2
      · walk_at "go"
        have he2 : f ++ [] = shr r q := by
          rw [← he]
          show _ = f ++ (if c = d then _ else _)
          rw [if_neg hcd]
        rw [List.append_nil] at he2
        subst he2
        exact hk
    · obtain ⟨f, s3, s4, hf, he, rfl⟩ := h
      walk_at "go"
      have hf2 := hf
      rw [List.length_map, List.length_zip, List.length_map, List.length_map] at hf2
      have : shr (r.drop f.length) (q.drop f.length) = [] := by
        rcases Nat.le_total r.length q.length with z | z
        · rw [List.drop_eq_nil_of_le (by omega)]
          rfl
        · rw [List.drop_eq_nil_of_le (as := q) (by omega)]
          cases (r.drop f.length) <;> rfl
      rw [← hf, this, List.append_nil] at he
      subst he
      exact hk
    ⟩

abbrev s_gate_of : Stmt := topS 33
abbrev N_gate_of : List Str := ["one", "other"]
theorem sc_gate_of : FnScope N_gate_of ["one", "other"] (defScope s_gate_of) := ⟨rfl, rfl, rfl, by decide +kernel, rfl, by decide +kernel, by decide +kernel⟩
abbrev p_gate_of : List D → (D → Prop) → Prop := fun ds k => ∃ (T : Tr) (u v : Wo), ds = [ndD T u, ndD T v] ∧ T.Ok ∧ u.length ≤ 20 ∧ v.length ≤ 20 ∧ k (ndD T (gow [] (shr (runs u) (runs v))))
theorem c_gate_of (T : Top mg) (C_behind : Cal P w K mg base 3 "behind" ["state", "runs"] (spP K p_behind)) (C_shared_runs : Cal P w K mg base 1 "shared_runs" ["one", "other"] (spP K p_shared_runs)) (C_runs_of : Cal P w K mg base 3 "runs_of" ["state"] (spP K p_runs_of)) (C_begin_of : Cal P w K mg base 5 "begin_of" ["state"] (spP K p_begin_of)) (Fd : Df K mg "gate_of" s_gate_of ["one", "other"]) : Cal P w K mg base 6 "gate_of" ["one", "other"] (spP K p_gate_of) :=
  cal_P _ Fd sc_gate_of (fun ds kk h => by
    obtain ⟨T, u, v, rfl, kT, hu, hv, hk⟩ := h
    all_goals rfl) fun f cdv A outer s H E hr => ⟨_, 
    (pss_one (ps_ret (pcal C_behind hr (by decide) (pa_cons (pcal C_begin_of hr (by decide) (pa_cons (pv 0) pa_nil)) (pa_cons (pcal C_shared_runs hr (by decide) (pa_cons (pcal C_runs_of hr (by decide) (pa_cons (pv 0) pa_nil)) (pa_cons (pcal C_runs_of hr (by decide) (pa_cons (pv 1) pa_nil)) pa_nil))) pa_nil))))), fun B0 H0 ds kk h => by
    obtain ⟨T, u, v, rfl, kT, hu, hv, hk⟩ := h
    walk_at "s"; show Sm _ _ [.d _, .d _] _ _
    walk_at "go"
    refine ⟨kT, hu, ?_⟩
    walk_at "go"
    refine ⟨kT, hu, ?_⟩
    walk_at "go"
    refine ⟨kT, hv, ?_⟩
    walk_at "go"
    refine ⟨Nat.le_trans (Nat.le_trans (runs_len u) hu) (by decide), ?_⟩
    walk_at "go"
    refine ⟨T, [], _, rfl, kT, ?_, hk⟩
    rw [gow_len, shr_cs]
    have := (cs_le u v).1
    show 0 + _ ≤ 20
    omega
    ⟩

abbrev s_distance_of : Stmt := topS 34
abbrev N_distance_of : List Str := ["one", "other", "first", "second"]
theorem sc_distance_of : FnScope N_distance_of ["one", "other"] (defScope s_distance_of) := ⟨rfl, rfl, rfl, by decide +kernel, rfl, by decide +kernel, by decide +kernel⟩
abbrev p_distance_of : List D → (D → Prop) → Prop := fun ds k => ∃ (T : Tr) (u v : Wo), ds = [ndD T u, ndD T v] ∧ T.Ok ∧ u.length ≤ 20 ∧ v.length ≤ 20 ∧ k (.int ((u.length : Int) + v.length - 2 * (cs u v : Nat)))
theorem c_distance_of (T : Top mg) (C_runs_of : Cal P w K mg base 3 "runs_of" ["state"] (spP K p_runs_of)) (C_total : Cal P w K mg base 1 "total" ["runs"] (spP K p_total)) (C_shared_runs : Cal P w K mg base 1 "shared_runs" ["one", "other"] (spP K p_shared_runs)) (Fd : Df K mg "distance_of" s_distance_of ["one", "other"]) : Cal P w K mg base 4 "distance_of" ["one", "other"] (spP K p_distance_of) :=
  cal_P _ Fd sc_distance_of (fun ds kk h => by
    obtain ⟨T, u, v, rfl, kT, hu, hv, hk⟩ := h
    all_goals rfl) fun f cdv A outer s H E hr => ⟨_, 
    (pss_cons (ps_par (i := 2) (j := 3) (by rfl) sc_distance_of.nd rfl rfl (by decide) rfl rfl (pa_cons (pcal C_runs_of hr (by decide) (pa_cons (pv 0) pa_nil)) (pa_cons (pcal C_runs_of hr (by decide) (pa_cons (pv 1) pa_nil)) pa_nil)) (by rfl)) 
    (pss_one (ps_ret (pe_op op_sub (pe_op op_add (pcal C_total hr (by decide) (pa_cons (pv 2) pa_nil)) (pcal C_total hr (by decide) (pa_cons (pv 3) pa_nil))) (pe_op op_mul pe_int (pcal C_total hr (by decide) (pa_cons (pcal C_shared_runs hr (by decide) (pa_cons (pv 2) (pa_cons (pv 3) pa_nil))) pa_nil))))))), fun B0 H0 ds kk h => by
    obtain ⟨T, u, v, rfl, kT, hu, hv, hk⟩ := h
    walk_at "s"; show Sm _ _ [.d _, .d _, .no, .no] _ _
    walk_at "go"
    refine ⟨kT, hu, ?_⟩
    walk_at "go"
    refine ⟨kT, hv, ?_⟩
    walk_at "go"
    have lu : (runs u).length ≤ 1000 := Nat.le_trans (Nat.le_trans (runs_len u) hu) (by decide)
    have lv : (runs v).length ≤ 1000 := Nat.le_trans (Nat.le_trans (runs_len v) hv) (by decide)
    refine ⟨lu, ?_⟩
    walk_at "go"
    refine ⟨lv, ?_⟩
    walk_at "go"
    refine ⟨lu, ?_⟩
    walk_at "go"
    refine ⟨Nat.le_trans (shr_len _ _) lu, ?_⟩
    walk_at "go"
    rw [runs_tot, runs_tot, shr_cs]
    exact hk
    ⟩

abbrev s_words_table : Stmt := topS 39
abbrev N_words_table : List Str := ["one", "other", "leaps", "is_chance", "goal", "gate", "now", "turn", "later", "place", "beside", "many", "share", "told", "at", "far", "times"]
theorem sc_words_table : FnScope N_words_table ["one", "other", "leaps", "is_chance"] (defScope s_words_table) := ⟨rfl, rfl, rfl, by decide +kernel, rfl, by decide +kernel, by decide +kernel⟩
def keyP (m : Nat × Nat) : List Key := [.inl (m.1 : Int), .inl (m.2 : Int)]
theorem keyP_inj (a b : Nat × Nat) (h : keyP a = keyP b) : a = b := by
  have h1 : (Sum.inl (a.1 : Int) : Key) = Sum.inl (b.1 : Int) := (List.cons.inj h).1
  have h2 : (Sum.inl (a.2 : Int) : Key) = Sum.inl (b.2 : Int) := (List.cons.inj (List.cons.inj h).2).1
  have e1 : (a.1 : Int) = b.1 := Sum.inl.inj h1
  have e2 : (a.2 : Int) = b.2 := Sum.inl.inj h2
  exact Prod.ext (by omega) (by omega)
abbrev natD (n : Nat) : D := .int (n : Int)
abbrev kvD (M : List ((Nat × Nat) × Nat)) : List (List Key × D) := M.map fun e => (keyP e.1, natD e.2)
abbrev tD (t : (Nat × Nat) × Nat) : D := .t [.int (t.1.1 : Int), .int (t.1.2 : Int), .int (t.2 : Int)]
theorem get_kv (M : List ((Nat × Nat) × Nat)) (m : Nat × Nat) : (getA (kvD M) (keyP m)).getD (.int 0) = natD (vl id (getA M m)) := by
  rw [get_map keyP_inj natD]
  cases getA M m <;> rfl
theorem tl_two (goal : Nat) (m : Nat × Nat) : (tl goal m).length ≤ 3 ∧ ∀ t ∈ tl goal m, t.2 ≤ 2 := by
  have one : ∀ (x : Nat × Nat) (n : Nat), n ≤ 2 → ∀ t ∈ [(x, n)], t.2 ≤ 2 := fun x n h t ht => by rw [List.mem_singleton.mp ht]; exact h
  have two : ∀ (x y : Nat × Nat) (n m : Nat), n ≤ 2 → m ≤ 2 → ∀ t ∈ [(x, n), (y, m)], t.2 ≤ 2 := fun x y n m h1 h2 t ht => by
    rcases List.mem_cons.mp ht with e | e
    · rw [e]; exact h1
    · exact one y m h2 t e
  unfold tl
  split
  · exact ⟨Nat.le_of_ble_eq_true rfl, two _ _ _ _ (by decide) (by decide)⟩
  · split <;> split
    · exact ⟨Nat.le_of_ble_eq_true rfl, fun t ht => (List.mem_append.mp ht).elim (one _ _ (by decide) t) (two _ _ _ _ (by decide) (by decide) t)⟩
    · exact ⟨Nat.le_of_ble_eq_true rfl, fun t ht => (List.mem_append.mp ht).elim (one _ _ (by decide) t) (one _ _ (by decide) t)⟩
    · exact ⟨Nat.le_of_ble_eq_true rfl, two _ _ _ _ (by decide) (by decide)⟩
    · exact ⟨Nat.le_of_ble_eq_true rfl, one _ _ (by decide)⟩
theorem sum_take {α : Type} (g : α → Nat) {l : List α} {i : Nat} {a : α} (e : l[i]? = some a) : ((l.take (i + 1)).map g).sum = ((l.take i).map g).sum + g a := by
  rw [List.take_add_one, e, List.map_append, List.sum_append]
  rfl
abbrev wtS (T : Tr) (u v : Wo) (n : Nat) (ch : Bool) (x6 x7 x8 x9 x10 x11 x12 x13 x14 x15 x16 : Sl) : List Sl := [.d (ndD T v), .d (ndD T u), .d (.int (n : Int)), .d (.bl ch), .d (.int (u.length : Int)), .d (.int (cs u v : Int)), x6, x7, x8, x9, x10, x11, x12, x13, x14, x15, x16]
abbrev p_words_table : List D → (D → Prop) → Prop := fun ds k => ∃ (T : Tr) (u v : Wo) (n : Nat) (ch : Bool), ds = [ndD T v, ndD T u, .int (n : Int), .bl ch] ∧ T.Ok ∧ u.length ≤ 20 ∧ v.length ≤ 20 ∧ n ≤ 8 ∧ k (.int (G ch u.length n (cs u v, v.length - cs u v) : Nat))
theorem c_words_table (T : Top mg) (C_depth_of : Cal P w K mg base 4 "depth_of" ["state"] (spP K p_depth_of)) (C_gate_of : Cal P w K mg base 6 "gate_of" ["one", "other"] (spP K p_gate_of)) (Fd : Df K mg "words_table" s_words_table ["one", "other", "leaps", "is_chance"]) : Cal P w K mg base 7 "words_table" ["one", "other", "leaps", "is_chance"] (spP K p_words_table) :=
  cal_P _ Fd sc_words_table (fun ds kk h => by
    obtain ⟨T, u, v, n, ch, rfl, kT, hu, hv, hn, hk⟩ := h
    all_goals rfl) fun f cdv A outer s H E hr => ⟨_, 
    (pss_cons (ps_par (i := 4) (j := 5) (by rfl) sc_words_table.nd rfl rfl (by decide) rfl rfl (pa_cons (pcal C_depth_of hr (by decide) (pa_cons (pv 1) pa_nil)) (pa_cons (pcal C_depth_of hr (by decide) (pa_cons (pcal C_gate_of hr (by decide) (pa_cons (pv 0) (pa_cons (pv 1) pa_nil))) pa_nil)) pa_nil)) (by rfl)) 
    (pss_cons (ps_set (i := 6) sc_words_table.nd rfl (.inl rfl) (pe_disp1 (hu_of hr) (pe_tup (pa_cons (pv 5) (pa_cons (pe_op op_sub (pcal C_depth_of hr (by decide) (pa_cons (pv 0) pa_nil)) (pv 5)) pa_nil))) pe_int)) 
    (pss_cons (ps_for PassesOwn.never rfl (pi_range1 (by rfl) T.range (pa_cons (pv 2) pa_nil)) (pg_name (i := 7) sc_words_table.nd rfl (.inl rfl)) 
      (pss_cons (ps_set (i := 8) sc_words_table.nd rfl (.inl rfl) pe_dnewT) 
      (pss_cons (ps_lock (ps_for PassesOwn.never rfl (pi_itemsT (pv 6)) (pg_tup rfl (pgs_cons (pg_tup rfl (pgs_cons (pg_name (i := 9) sc_words_table.nd rfl (.inl rfl)) (pgs_cons (pg_name (i := 10) sc_words_table.nd rfl (.inl rfl)) pgs_nil))) (pgs_cons (pg_name (i := 11) sc_words_table.nd rfl (.inl rfl)) pgs_nil))) 
        (pss_cons (ps_set (i := 12) sc_words_table.nd rfl (.inl rfl) (pe_ifExp (pt_val (pv 3)) (pe_ifExp (pt_cmpR op_eq (pe_op op_add (pv 9) (pv 10)) pe_int (nomark _)) pe_int pe_int) pe_int)) 
        (pss_cons (ps_if (pt_cmpR op_gt (pv 10) pe_int (nomark _)) 
          (pss_one (ps_set (i := 13) sc_words_table.nd rfl (.inl rfl) (pe_lst (pa_cons (pe_tup (pa_cons (pv 9) (pa_cons (pe_op op_sub (pv 10) pe_int) (pa_cons pe_int pa_nil)))) (pa_cons (pe_tup (pa_cons (pv 9) (pa_cons (pe_op op_add (pv 10) pe_int) (pa_cons pe_int pa_nil)))) pa_nil))))) 
          (pss_cons (ps_set (i := 13) sc_words_table.nd rfl (.inl rfl) (pe_ifExp (pt_cmpR op_gt (pv 9) pe_int (nomark _)) (pe_lst (pa_cons (pe_tup (pa_cons (pe_op op_sub (pv 9) pe_int) (pa_cons pe_int (pa_cons pe_int pa_nil)))) pa_nil)) (pe_lst pa_nil))) 
          (pss_one (ps_set (i := 13) sc_words_table.nd rfl (.inl rfl) (pe_op op_cat (pv 13) (pe_ifExp (pt_cmpR op_lt (pv 9) (pv 4) (nomark _)) (pe_lst (pa_cons (pe_tup (pa_cons (pe_op op_add (pv 9) pe_int) (pa_cons pe_int (pa_cons pe_int pa_nil)))) (pa_cons (pe_tup (pa_cons (pv 9) (pa_cons pe_int (pa_cons pe_int pa_nil)))) pa_nil))) (pe_lst (pa_cons (pe_tup (pa_cons (pv 9) (pa_cons pe_int (pa_cons pe_int pa_nil)))) pa_nil)))))))) 
        (pss_one (ps_for PassesOwn.never rfl (pi_list (pv 13)) (pg_tup rfl (pgs_cons (pg_name (i := 14) sc_words_table.nd rfl (.inl rfl)) (pgs_cons (pg_name (i := 15) sc_words_table.nd rfl (.inl rfl)) (pgs_cons (pg_name (i := 16) sc_words_table.nd rfl (.inl rfl)) pgs_nil)))) 
          (pss_one (ps_if (pt_cmpR op_le (pe_op op_add (pe_op op_sub (pv 4) (pv 14)) (pv 15)) (pe_op op_sub (pe_op op_sub (pv 2) (pv 7)) pe_int) (nomark _)) 
            (pss_one (ps_dput (hu_of hr) (pv 8) (pe_tup (pa_cons (pv 14) (pa_cons (pv 15) pa_nil))) (pe_op op_add (pe_dget2 (hu_of hr) (pv 8) (pe_tup (pa_cons (pv 14) (pa_cons (pv 15) pa_nil))) pe_int ⟨rfl, rfl, rfl, rfl⟩) (pe_op op_mul (pe_op op_mul (pv 11) (pv 16)) (pv 12))) rfl)) pss_nil)))))))) 
      (pss_one (ps_set (i := 6) sc_words_table.nd rfl (.inl rfl) (pv 8)))))) 
    (pss_one (ps_ret (pe_dget2 (hu_of hr) (pv 6) (pe_tup (pa_cons (pv 4) (pa_cons pe_int pa_nil))) pe_int ⟨rfl, rfl, rfl, rfl⟩)))))), fun B0 H0 ds kk h => by
    obtain ⟨T, u, v, n, ch, rfl, kT, hu, hv, hn, hk⟩ := h
    walk_at "s"; show Sm _ _ [.d _, .d _, .d _, .d _, .no, .no, .no, .no, .no, .no, .no, .no, .no, .no, .no, .no, .no] _ _
    have hcs := cs_le u v
    have eg : (gow [] (shr (runs v) (runs u))).length = cs u v := by
      rw [gow_len, shr_cs, cs_comm]
      exact Nat.zero_add _
    walk_at "go"
    refine ⟨kT, hu, ?_⟩
    walk_at "go"
    refine ⟨T, v, u, rfl, kT, hv, hu, ?_⟩
    walk_at "go"
    refine ⟨kT, by omega, ?_⟩
    rw [eg]
    walk_at "go"
    refine sm_disp1 (Nat.le_of_ble_eq_true rfl) ?_
    walk_at "ge"
    refine ⟨kT, hv, ?_⟩
    walk_at "ge"
    refine ⟨keyP (cs u v, v.length - cs u v), by rw [castSub hcs.2]; rfl, fun p => ?_⟩
    walk_at "go"
    refine ⟨by omega, fun i ρ => ∃ (M : List ((Nat × Nat) × Nat)) (p : Addr) (s7 s9 s10 s11 s12 s13 s14 s15 s16 : Sl), ρ = wtS T u v n ch (.od p (kvD M)) s7 .no s9 s10 s11 s12 s13 s14 s15 s16 ∧ Ks M ∧ (∀ x ∈ M.map (·.1), x.1 ≤ u.length) ∧ M.length ≤ 3 ^ i ∧ S id (G ch u.length (n - i)) M = G ch u.length n (cs u v, v.length - cs u v),
      ⟨[((cs u v, v.length - cs u v), 1)], p, _, _, _, _, _, _, _, _, _, rfl, List.nodup_cons.mpr ⟨List.not_mem_nil, List.nodup_nil⟩, fun x hx => by rw [List.mem_singleton.mp hx]; exact hcs.1, Nat.le_refl _, (Nat.add_zero _).trans (Nat.one_mul _)⟩, fun i d ρ' e h => ?_, fun ρ' h => ?_⟩
    rotate_left
    · obtain ⟨M, p, s7, s9, s10, s11, s12, s13, s14, s15, s16, rfl, hK, hg, hl, hS⟩ := h
      walk_at "go"
      refine ⟨keyP (u.length, 0), rfl, ?_⟩
      rw [get_kv]
      have e0 : S id (G ch u.length 0) M = vl id (getA M (u.length, 0)) := S_at id (u.length, 0) hK
      rw [List.length_map, List.length_range, Nat.sub_self, e0] at hS
      rw [hS]
      exact hk
    obtain ⟨M, p, s7, s9, s10, s11, s12, s13, s14, s15, s16, rfl, hK, hg, hl, hS⟩ := h
    have hi : i < n := by
      have := (List.getElem?_eq_some_iff.mp e).1
      rw [List.length_map, List.length_range] at this
      exact this
    have ed : d = .int (i : Int) := by
      rw [List.getElem?_map, List.getElem?_range hi] at e
      exact (Option.some.inj e).symm
    subst ed
    have hM9 : M.length ≤ 6561 := Nat.le_trans hl (Nat.le_trans (Nat.pow_le_pow_right (by decide) (show i ≤ 8 by omega)) (by decide))
    walk_at "go"
    refine sm_newT fun p2 => ?_
    walk_at "go"
    refine sm_lock (i := 6) rfl fun ob ks hks => ?_
    refine sm_forCS (src_items (i := 6) rfl ?_)
    refine ⟨fun j ρ => ∃ (L : List ((Nat × Nat) × Nat)) (x9 x10 x11 x12 x13 x14 x15 x16 : Sl), ρ = wtS T u v n ch (.fz p ob ks (kvD M)) (.d (.int (i : Int))) (.od p2 (kvD L)) x9 x10 x11 x12 x13 x14 x15 x16 ∧ Ks L ∧ (∀ x ∈ L.map (·.1), x.1 ≤ u.length) ∧ L.length ≤ 3 * j ∧ S id (G ch u.length (n - i - 1)) L = S id (G ch u.length (n - i)) (M.take j),
      ⟨[], _, _, _, _, _, _, _, _, rfl, List.nodup_nil, fun x hx => (nomatch hx), Nat.le_refl _, rfl⟩, fun j ρ' h => ?_, fun j d ρ' e h => ?_, fun ρ' h => ?_⟩
    · obtain ⟨L, x9, x10, x11, x12, x13, x14, x15, x16, rfl, _⟩ := h
      rfl
    rotate_left
    · obtain ⟨L, x9, x10, x11, x12, x13, x14, x15, x16, rfl, hK2, hg2, hl2, hS2⟩ := h
      refine ⟨rfl, sm_move (i := 6) (j := 8) rfl ⟨L, p2, _, _, _, _, _, _, _, _, _, rfl, hK2, hg2, ?_, ?_⟩⟩
      · rw [List.length_map, List.length_map] at hl2
        rw [Nat.pow_succ]
        omega
      · rw [List.length_map, List.length_map, List.take_length, hS] at hS2
        rw [Nat.sub_add_eq]
        exact hS2
    obtain ⟨L, x9, x10, x11, x12, x13, x14, x15, x16, rfl, hK2, hg2, hl2, hS2⟩ := h
    rw [List.getElem?_map, List.getElem?_map] at e
    cases eM : M[j]? with
    | none => rw [eM] at e; cases e
    | some e1 =>
    obtain ⟨⟨pl, bs⟩, many⟩ := e1
    rw [eM] at e
    cases e
    have hj : j < M.length := (List.getElem?_eq_some_iff.mp eM).1
    have hpl : pl ≤ u.length := hg (pl, bs) (List.mem_map.mpr ⟨_, List.mem_of_getElem? eM, rfl⟩)
    have hsh : sh ch (pl, bs) ≤ 3 := by
      unfold sh
      split <;> (try split) <;> omega
    show Bnd _ _ _ (.t [.t [.int (pl : Int), .int (bs : Int)], .int (many : Int)]) _ _
    walk_at "ge"
    refine sm_seq (sm_mono (N := fun ρ1 => ρ1 = wtS T u v n ch (.fz p ob ks (kvD M)) (.d (.int (i : Int))) (.od p2 (kvD L)) (.d (.int (pl : Int))) (.d (.int (bs : Int))) (.d (.int (many : Int))) (.d (.int (sh ch (pl, bs) : Nat))) x13 x14 x15 x16) ?_ (fun ρ1 h1 => ?_) fun _ z => z)
    · refine sm_set ?_
      cases ch with
      | false =>
        walk_at "ge"
        rfl
      | true =>
        walk_at "ge"
        refine br_d (fun hz => ?_) fun hz => ?_
        · walk_at "ge"
          rw [show sh true (pl, bs) = 3 from if_pos (show pl + bs = 0 by omega)]
          rfl
        · walk_at "ge"
          rw [show sh true (pl, bs) = 2 from if_neg (show ¬ pl + bs = 0 by omega)]
          rfl
    subst h1
    refine sm_seq (sm_mono (N := fun ρ1 => ρ1 = wtS T u v n ch (.fz p ob ks (kvD M)) (.d (.int (i : Int))) (.od p2 (kvD L)) (.d (.int (pl : Int))) (.d (.int (bs : Int))) (.d (.int (many : Int))) (.d (.int (sh ch (pl, bs) : Nat))) (.d (.l ((tl u.length (pl, bs)).map tD))) x14 x15 x16) ?_ (fun ρ1 h1 => ?_) fun _ z => z)
    · unfold tl
      refine sm_if ?_
      walk_at "ge"
      refine br_d (fun hb => ?_) fun hb => ?_
      · rw [if_pos (show 0 < (pl, bs).2 by show 0 < bs; omega)]
        refine sm_set ?_
        walk_at "ge"
        rw [castSub1 (show 1 ≤ bs by omega)]
        rfl
      · rw [if_neg (show ¬ 0 < (pl, bs).2 by show ¬ 0 < bs; omega)]
        refine sm_seq (sm_set ?_)
        walk_at "ge"
        refine br_d (fun hb1 => ?_) fun hb1 => ?_
        · rw [if_pos (show 0 < (pl, bs).1 by show 0 < pl; omega)]
          walk_at "ge"
          refine sm_set (evp_of_n (evn_cat ?_))
          walk_at "ge"
          refine br_d (fun hb2 => ?_) fun hb2 => ?_
          · rw [if_pos (show (pl, bs).1 < u.length by show pl < u.length; omega)]
            walk_at "ge"
            rw [castSub1 (show 1 ≤ pl by omega)]
            rfl
          · rw [if_neg (show ¬ (pl, bs).1 < u.length by show ¬ pl < u.length; omega)]
            walk_at "ge"
            rw [castSub1 (show 1 ≤ pl by omega)]
            rfl
        · rw [if_neg (show ¬ 0 < (pl, bs).1 by show ¬ 0 < pl; omega)]
          walk_at "ge"
          refine sm_set (evp_of_n (evn_cat ?_))
          walk_at "ge"
          refine br_d (fun hb2 => ?_) fun hb2 => ?_
          · rw [if_pos (show (pl, bs).1 < u.length by show pl < u.length; omega)]
            walk_at "ge"
            rfl
          · rw [if_neg (show ¬ (pl, bs).1 < u.length by show ¬ pl < u.length; omega)]
            walk_at "ge"
            rfl
    subst h1
    walk_at "go"
    have ht := tl_two u.length (pl, bs)
    have htg := tl_le u.length (pl, bs) hpl
    refine ⟨fun k ρ => ∃ (L' : List ((Nat × Nat) × Nat)) (y14 y15 y16 : Sl), ρ = wtS T u v n ch (.fz p ob ks (kvD M)) (.d (.int (i : Int))) (.od p2 (kvD L')) (.d (.int (pl : Int))) (.d (.int (bs : Int))) (.d (.int (many : Int))) (.d (.int (sh ch (pl, bs) : Nat))) (.d (.l ((tl u.length (pl, bs)).map tD))) y14 y15 y16 ∧ Ks L' ∧ (∀ x ∈ L'.map (·.1), x.1 ≤ u.length) ∧ L'.length ≤ 3 * j + k ∧ S id (G ch u.length (n - i - 1)) L' = S id (G ch u.length (n - i - 1)) L + many * sh ch (pl, bs) * (((tl u.length (pl, bs)).take k).map fun t => t.2 * G ch u.length (n - i - 1) t.1).sum,
      ⟨L, _, _, _, rfl, hK2, hg2, hl2, rfl⟩, fun k d ρ' e h => ?_, fun ρ' h => ?_⟩
    rotate_left
    · obtain ⟨L', y14, y15, y16, rfl, hK3, hg3, hl3, hS3⟩ := h
      rw [List.length_map] at hl3 hS3
      refine ⟨L', _, _, _, _, _, _, _, _, rfl, hK3, hg3, by omega, ?_⟩
      rw [hS3, List.take_length, hS2, S_take_succ id _ eM]
      congr 1
      show many * sh ch (pl, bs) * _ = many * G ch u.length (n - i) (pl, bs)
      rw [Nat.mul_assoc, show n - i = (n - i - 1) + 1 by omega]
      rfl
    obtain ⟨L', y14, y15, y16, rfl, hK3, hg3, hl3, hS3⟩ := h
    rw [List.getElem?_map] at e
    cases eT : (tl u.length (pl, bs))[k]? with
    | none => rw [eT] at e; cases e
    | some t =>
    obtain ⟨⟨a, f⟩, t⟩ := t
    rw [eT] at e
    cases e
    have hk3 : k < 3 := Nat.lt_of_lt_of_le (List.getElem?_eq_some_iff.mp eT).1 ht.1
    have ht2 : t ≤ 2 := ht.2 _ (List.mem_of_getElem? eT)
    have hta : a ≤ u.length := htg _ (List.mem_of_getElem? eT)
    walk_at "go"
    refine br_d (fun hle => ?_) fun hle => ?_
    · walk_at "go"
      refine ⟨keyP (a, f), rfl, ?_⟩
      rw [get_kv]
      walk_at "go"
      refine ⟨mulS' (by omega) (by omega) _, ?_⟩
      walk_at "go"
      refine ⟨mulS' (by omega) (by omega) _, ?_⟩
      walk_at "go"
      rw [← Int.natCast_mul, ← Int.natCast_mul, ← Int.natCast_add]
      refine ⟨keyP (a, f), rfl, by rw [List.length_map]; omega, ?_⟩
      rw [put_map keyP_inj natD]
      refine ⟨_, _, _, _, rfl, put_nd _ _ hK3, put_all _ hg3 hta, Nat.le_trans (put_len _ _ _) (by omega), ?_⟩
      rw [S_put id (G ch u.length (n - i - 1)) hK3 rfl, hS3, sum_take _ eT, Nat.mul_add, Nat.add_assoc]
      congr 2
      ac_rfl
    · dsimp only at hle
      walk_at "go"
      refine ⟨L', _, _, _, rfl, hK3, hg3, by omega, ?_⟩
      rw [hS3, sum_take _ eT, G_zero ch u.length (n - i - 1) a f hta (by omega)]
      rfl
    ⟩

abbrev s_count_words : Stmt := topS 40
abbrev N_count_words : List Str := ["one", "other", "leaps"]
theorem sc_count_words : FnScope N_count_words ["one", "other", "leaps"] (defScope s_count_words) := ⟨rfl, rfl, rfl, by decide +kernel, rfl, by decide +kernel, by decide +kernel⟩
theorem far_zero (ch : Bool) (u v : Wo) (n : Nat) (h : ¬ ((v.length : Int) + u.length - 2 * (cs v u : Nat) ≤ n)) : Pn ch n (at1 u) v = 0 := by
  have hc := cs_le u v
  rw [walk_eq]
  rw [cs_comm v u] at h
  exact G_zero ch u.length n _ _ hc.1 (by omega)
abbrev p_count_words : List D → (D → Prop) → Prop := fun ds k => ∃ (T : Tr) (u v : Wo) (n : Nat), ds = [ndD T v, ndD T u, .int (n : Int)] ∧ T.Ok ∧ u.length ≤ 20 ∧ v.length ≤ 20 ∧ n ≤ 8 ∧ k (.int (Pn false n (at1 u) v : Nat))
theorem c_count_words (T : Top mg) (C_need_two : Cal P w K mg base 6 "need_two" ["one", "other"] (spP K p_need_two)) (C_need_number : Cal P w K mg base 3 "need_number" ["value", "least", "most"] (spP K p_need_number)) (C_distance_of : Cal P w K mg base 4 "distance_of" ["one", "other"] (spP K p_distance_of)) (C_words_table : Cal P w K mg base 7 "words_table" ["one", "other", "leaps", "is_chance"] (spP K p_words_table)) (Fd : Df K mg "count_words" s_count_words ["one", "other", "leaps"]) : Cal P w K mg base 8 "count_words" ["one", "other", "leaps"] (spP K p_count_words) :=
  cal_P _ Fd sc_count_words (fun ds kk h => by
    obtain ⟨T, u, v, n, rfl, kT, hu, hv, hn, hk⟩ := h
    all_goals rfl) fun f cdv A outer s H E hr => ⟨_, 
    (pss_cons (ps_expr (pcal C_need_two hr (by decide) (pa_cons (pv 0) (pa_cons (pv 1) pa_nil)))) 
    (pss_cons (ps_expr (pcal C_need_number hr (by decide) (pa_cons (pv 2) (pa_cons pe_int (pa_cons (pconst T.word) pa_nil))))) 
    (pss_one (ps_ret (pe_ifExp (pt_cmpR op_le (pcal C_distance_of hr (by decide) (pa_cons (pv 0) (pa_cons (pv 1) pa_nil))) (pv 2) (nomark _)) (pcal C_words_table hr (by decide) (pa_cons (pv 0) (pa_cons (pv 1) (pa_cons (pv 2) (pa_cons pe_bl pa_nil))))) pe_int))))), fun B0 H0 ds kk h => by
    obtain ⟨T, u, v, n, rfl, kT, hu, hv, hn, hk⟩ := h
    walk_at "s"; show Sm _ _ [.d _, .d _, .d _] _ _
    walk_at "go"
    refine ⟨T, v, u, rfl, kT, hv, hu, ?_⟩
    walk_at "go"
    refine ⟨_, _, _, rfl, by omega, by omega, ?_⟩
    walk_at "go"
    refine ⟨T, v, u, rfl, kT, hv, hu, ?_⟩
    walk_at "go"
    refine br_d (fun hz => ?_) fun hz => ?_
    · walk_at "go"
      refine ⟨T, u, v, n, false, rfl, kT, hu, hv, hn, ?_⟩
      rw [← walk_eq]
      exact hk
    · walk_at "go"
      rw [far_zero false u v n hz] at hk
      exact hk
    ⟩

abbrev s_chance_after : Stmt := topS 41
abbrev N_chance_after : List Str := ["one", "other", "leaps", "above"]
theorem sc_chance_after : FnScope N_chance_after ["one", "other", "leaps"] (defScope s_chance_after) := ⟨rfl, rfl, rfl, by decide +kernel, rfl, by decide +kernel, by decide +kernel⟩
abbrev p_chance_after : List D → (D → Prop) → Prop := fun ds k => ∃ (T : Tr) (u v : Wo) (n : Nat), ds = [ndD T v, ndD T u, .int (n : Int)] ∧ T.Ok ∧ u.length ≤ 20 ∧ v.length ≤ 20 ∧ n ≤ 8 ∧ k (.t [.int ((Pn true n (at1 u) v / Nat.gcd (Pn true n (at1 u) v) (6 ^ n) : Nat) : Int), .int ((6 ^ n / Nat.gcd (Pn true n (at1 u) v) (6 ^ n) : Nat) : Int)])
theorem c_chance_after (T : Top mg) (C_need_two : Cal P w K mg base 6 "need_two" ["one", "other"] (spP K p_need_two)) (C_need_number : Cal P w K mg base 3 "need_number" ["value", "least", "most"] (spP K p_need_number)) (C_distance_of : Cal P w K mg base 4 "distance_of" ["one", "other"] (spP K p_distance_of)) (C_words_table : Cal P w K mg base 7 "words_table" ["one", "other", "leaps", "is_chance"] (spP K p_words_table)) (C_lowered : Cal P w K mg base 2 "lowered" ["above", "low"] (spP K p_lowered)) (C_power : Cal P w K mg base 1 "power" ["base", "times"] (spP K p_power)) (Fd : Df K mg "chance_after" s_chance_after ["one", "other", "leaps"]) : Cal P w K mg base 8 "chance_after" ["one", "other", "leaps"] (spP K p_chance_after) :=
  cal_P _ Fd sc_chance_after (fun ds kk h => by
    obtain ⟨T, u, v, n, rfl, kT, hu, hv, hn, hk⟩ := h
    all_goals rfl) fun f cdv A outer s H E hr => ⟨_, 
    (pss_cons (ps_expr (pcal C_need_two hr (by decide) (pa_cons (pv 0) (pa_cons (pv 1) pa_nil)))) 
    (pss_cons (ps_expr (pcal C_need_number hr (by decide) (pa_cons (pv 2) (pa_cons pe_int (pa_cons (pconst T.word) pa_nil))))) 
    (pss_cons (ps_set (i := 3) sc_chance_after.nd rfl (.inl rfl) (pe_ifExp (pt_cmpR op_le (pcal C_distance_of hr (by decide) (pa_cons (pv 0) (pa_cons (pv 1) pa_nil))) (pv 2) (nomark _)) (pcal C_words_table hr (by decide) (pa_cons (pv 0) (pa_cons (pv 1) (pa_cons (pv 2) (pa_cons pe_bl pa_nil))))) pe_int)) 
    (pss_one (ps_ret (pcal C_lowered hr (by decide) (pa_cons (pv 3) (pa_cons (pcal C_power hr (by decide) (pa_cons pe_int (pa_cons (pv 2) pa_nil))) pa_nil)))))))), fun B0 H0 ds kk h => by
    obtain ⟨T, u, v, n, rfl, kT, hu, hv, hn, hk⟩ := h
    walk_at "s"; show Sm _ _ [.d _, .d _, .d _, .no] _ _
    have h6 : 0 < 6 ^ n ∧ 6 ^ n < 1000000000 := ⟨Nat.pow_pos (by decide), Nat.lt_of_le_of_lt (Nat.pow_le_pow_right (by decide) hn) (by decide)⟩
    walk_at "go"
    refine ⟨T, v, u, rfl, kT, hv, hu, ?_⟩
    walk_at "go"
    refine ⟨_, _, _, rfl, by omega, by omega, ?_⟩
    walk_at "go"
    refine ⟨T, v, u, rfl, kT, hv, hu, ?_⟩
    walk_at "go"
    refine br_d (fun hz => ?_) fun hz => ?_
    · walk_at "go"
      refine ⟨T, u, v, n, true, rfl, kT, hu, hv, hn, ?_⟩
      rw [← walk_eq]
      walk_at "go"
      refine ⟨by omega, ?_⟩
      walk_at "go"
      exact ⟨h6.1, h6.2, hk⟩
    · walk_at "go"
      refine ⟨by omega, ?_⟩
      rw [far_zero true u v n hz] at hk
      walk_at "go"
      exact ⟨h6.1, h6.2, hk⟩
    ⟩

abbrev s_law_taken : Stmt := topS 43
abbrev N_law_taken : List Str := ["_law_row", "_law_many", "_law_found", "_law_cell"]
theorem sc_law_taken : FnScope N_law_taken ["_law_row", "_law_many"] (defScope s_law_taken) := ⟨rfl, rfl, rfl, by decide +kernel, rfl, by decide +kernel, by decide +kernel⟩
def Va (te : TE) (σ : L2.St) (H : Hp) (v : V) : Prop := ∀ Q : VK, Q v H → te σ H Q
section
variable {σ : L2.St} {H : Hp} {ta tb : TE} {t u : TS} {Dn : Ends}
theorem va_c {v : V} : Va (tC v) σ H v := fun Q q => q
theorem va_var {i : Nat} {v : V} (h : σ[i]? = some (some v)) : Va (tVar i) σ H v := fun Q q => ⟨v, h, q⟩
theorem va_row {K : PySem.W.Frag} {r : Addr} {xs : List V} {k : Int} {v : V} (h0 : σ[0]? = some (some (.ref r))) (h : H r = some (.lst xs)) (e : atI xs k = some v) : Va (tOp (rIxL K) (tVar 0) (tC (.int k))) σ H v := fun Q q => ⟨_, h0, r, xs, k, v, rfl, rfl, .of h, e, q⟩
theorem va_ix {K : PySem.W.Frag} {a : Addr} {xs : List V} {k : Int} {v : V} (ha : Va ta σ H (.ref a)) (hb : Va tb σ H (.int k)) (h : SqL K H a xs) (e : atI xs k = some v) : Va (tOp (rIxL K) ta tb) σ H v := fun Q q => ha _ (hb _ ⟨a, xs, k, v, rfl, rfl, h, e, q⟩)
theorem va_I0 {g : Int → Int → V} {i j : Int} (ha : Va ta σ H (.int i)) (hb : Va tb σ H (.int j)) : Va (tOp (rI0 g) ta tb) σ H (g i j) := fun Q q => ha _ (hb _ ⟨i, j, rfl, rfl, q⟩)
theorem va_I0b {g : Int → Int → Bool} {i j : Int} (ha : Va ta σ H (.int i)) (hb : Va tb σ H (.int j)) : Va (tOp (rI0 fun i j => .bl (g i j)) ta tb) σ H (.bl (g i j)) := va_I0 ha hb
theorem va_I0i {g : Int → Int → Int} {i j : Int} (ha : Va ta σ H (.int i)) (hb : Va tb σ H (.int j)) : Va (tOp (rI0 fun i j => .int (g i j)) ta tb) σ H (.int (g i j)) := va_I0 ha hb
theorem va_I {C : Int → Int → Prop} {g : Int → Int → V} {i j : Int} (hc : C i j) (ha : Va ta σ H (.int i)) (hb : Va tb σ H (.int j)) : Va (tOp (rI C g) ta tb) σ H (g i j) := fun Q q => ha _ (hb _ ⟨i, j, rfl, rfl, hc, q⟩)
theorem va_mod {i j : Int} (hc : j ≠ 0) (ha : Va ta σ H (.int i)) (hb : Va tb σ H (.int j)) : Va (tOp (rI (fun _ j => j ≠ 0) fun i j => .int (i.fmod j)) ta tb) σ H (.int (i.fmod j)) := va_I (C := fun _ j => j ≠ 0) hc ha hb
theorem va_div {i j : Int} (hc : CDivN i j) (ha : Va ta σ H (.int i)) (hb : Va tb σ H (.int j)) : Va (tOp (rI CDivN fun i j => .int (i.fdiv j)) ta tb) σ H (.int (i.fdiv j)) := va_I hc ha hb
theorem va_mul {i j : Int} (ha : Va ta σ H (.int i)) (hb : Va tb σ H (.int j)) (hc : CMul i j) : Va (tOp (rI CMul fun i j => .int (i * j)) ta tb) σ H (.int (i * j)) := va_I hc ha hb
theorem va_int {i : Int} (ha : Va ta σ H (.int i)) : Va (tCB (fun xs H Q => (∃ i, xs = [.int i] ∧ Q (.int i) H) ∨ ∃ k, xs = [.bl k] ∧ Q (.int (if k then 1 else 0)) H) (tCons ta tNil)) σ H (.int i) := fun Q q => ha _ (.inl ⟨i, rfl, q⟩)
theorem va_len {K : PySem.W.Frag} {a : Addr} {xs : List V} (ha : Va ta σ H (.ref a)) (h : SqL K H a xs) : Va (tCB (fun xs H Q => ∃ p ys, xs = [.ref p] ∧ (SqL K H p ys ∨ SqT K H p ys) ∧ Q (.int ys.length) H) (tCons ta tNil)) σ H (.int xs.length) := fun Q q => ha _ ⟨a, xs, rfl, .inl h, q⟩
theorem raw_if {p : Bool} (h : Va ta σ H (.bl p)) (h1 : p = true → t Dn σ H) (h2 : p = false → u Dn σ H) : tIfS (tTest ta) t u Dn σ H := h _ ⟨p, rfl, by
  cases p with
  | true => exact h1 rfl
  | false => exact h2 rfl⟩
theorem raw_set {j : Nat} {v : V} (h : Va ta σ H v) (q : Dn.nx (σ.set j (some v)) H) : tAsg ta (gName j) Dn σ H := h _ q
theorem raw_row {r : Addr} {xs : List V} {k : Int} {j : Nat} {v : V} (h : Va ta σ H v) (h0 : σ[0]? = some (some (.ref r))) (hr : H r = some (.lst xs)) (hk : ixN xs.length k = some j) (q : Dn.nx σ (upd H r (.lst (xs.set j v)))) : tAsg ta (gSub (tVar 0) (tC (.int k)) rSetL) Dn σ H := h _ ⟨_, h0, r, xs, k, j, rfl, rfl, hr, hk, q⟩
theorem raw_ret {v : V} (h : Va ta σ H v) (q : Dn.rt v H) : tRet ta Dn σ H := h _ q
end
theorem scOk_sq {K : PySem.W.Frag} {H : Hp} {sc : Addr} {ns : List Int} (h : ScOk K H sc ns) : SqL K H sc (ns.map V.int) := by
  rcases h with ⟨o, h⟩ | h
  · exact .inl (.inr ⟨o, h⟩)
  · exact h H
theorem cor_row {W : Wd} {B H : Hp} {r sc : Addr} {ns : List Int} {xs : List V} {i' s' c' : Int} (cr : Cor W B H) (hM : ∀ a, W.M a ↔ a = r) (hr : H r = some (.lst xs)) (hs : ScOk W.K H sc ns) (hi : 0 ≤ i') :
    Cor W B (upd H r (.lst [.ref sc, .int i', .int s', .int c'])) ∧ ScOk W.K (upd H r (.lst [.ref sc, .int i', .int s', .int c'])) sc ns := by
  have hb : B r = none := (cr.rw' r ((hM r).mpr rfl)).1
  have sk : ScOk W.K (upd H r (.lst [.ref sc, .int i', .int s', .int c'])) sc ns := by
    rcases hs with ⟨o, h⟩ | h
    · refine .inl ⟨o, ?_⟩
      rw [upd_ne (fun z => by rw [z, hr] at h; cases h)]
      exact h
    · exact .inr h
  refine ⟨⟨fun a o z => ?_, cr.b0, fun a o m z => ?_, cr.nw, fun a m => ?_, cr.m0⟩, sk⟩
  · rw [upd_ne (fun q => by rw [q, hb] at z; cases z)]
    exact cr.bh a o z
  · rw [upd_ne (fun q => m ((hM a).mpr q))]
    exact cr.h0 a o m z
  · rw [(hM a).mp m]
    exact ⟨hb, sc, ns, i', s', c', hi, upd_same, sk⟩
abbrev p_law_taken : List D → (D → Prop) → Prop := fun ds k => ∃ m : Nat, ds = [.int (m : Int)] ∧ 0 < m ∧ m ≤ 100000 ∧ ∀ i : Nat, i < m → k (.int (i : Int))
theorem c_law_taken (T : Top mg)  (Fd : Df K mg "_law_taken" s_law_taken ["_law_row", "_law_many"]) : Cal P w K mg base 1 "_law_taken" ["_law_row", "_law_many"] (spR K p_law_taken) :=
  cal_R _ Fd sc_law_taken (fun ds kk h => by
    obtain ⟨m, rfl, h0, hm, hk⟩ := h
    all_goals rfl) fun f cdv A outer s H E hr => ⟨_, 
    (pss_cons (ps_if (pt_cmpR op_gt (pe_ix ix_list (pv 0) pe_int (fun _ _ => rfl)) pe_int (nomark _)) 
      (pss_cons (ps_set (i := 2) sc_law_taken.nd rfl (.inl rfl) (pe_op op_modN (pe_callTy call_int1 (by rfl) T.int b_int (pa_cons (pe_ix ix_list (pv 0) pe_int (fun _ _ => rfl)) pa_nil)) (pv 1))) 
      (pss_cons (ps_asg (pe_op op_fdivN (pe_ix ix_list (pv 0) pe_int (fun _ _ => rfl)) (pv 1)) (pg_sub (pv 0) pe_int set_list)) 
      (pss_one (ps_ret (pv 2))))) pss_nil) 
    (pss_cons (ps_asg (pe_op op_add (pe_ix ix_list (pv 0) pe_int (fun _ _ => rfl)) pe_int) (pg_sub (pv 0) pe_int set_list)) 
    (pss_cons (ps_if (pt_cmpR op_gt (pe_ix ix_list (pv 0) pe_int (fun _ _ => rfl)) (pe_callB call_len_seq (by rfl) T.len b_len (pa_cons (pe_ix ix_list (pv 0) pe_int (fun _ _ => rfl)) pa_nil)) (nomark _)) 
      (pss_cons (ps_asg (pe_op op_modN (pe_callTy call_int1 (by rfl) T.int b_int (pa_cons (pe_op op_add (pe_op op_mul (pe_ix ix_list (pv 0) pe_int (fun _ _ => rfl)) pe_int) pe_int) pa_nil)) pe_int) (pg_sub (pv 0) pe_int set_list)) 
      (pss_one (ps_ret (pe_op op_modN (pe_callTy call_int1 (by rfl) T.int b_int (pa_cons (pe_op op_fdivN (pe_ix ix_list (pv 0) pe_int (fun _ _ => rfl)) pe_int) pa_nil)) (pv 1))))) pss_nil) 
    (pss_cons (ps_set (i := 3) sc_law_taken.nd rfl (.inl rfl) (pe_ix ix_list (pe_ix ix_list (pv 0) pe_int (fun _ _ => rfl)) (pe_op op_sub (pe_ix ix_list (pv 0) pe_int (fun _ _ => rfl)) pe_int) (fun _ _ => rfl))) 
    (pss_cons (ps_asg (pe_op op_modN (pe_callTy call_int1 (by rfl) T.int b_int (pa_cons (pe_op op_add (pe_op op_add (pe_op op_mul (pe_ix ix_list (pv 0) pe_int (fun _ _ => rfl)) pe_int) (pv 3)) pe_int) pa_nil)) pe_int) (pg_sub (pv 0) pe_int set_list)) 
    (pss_cons (ps_if (pt_cmpR op_ge (pv 3) (pe_op op_pow pe_int pe_int) (nomark _)) 
      (pss_one (ps_asg (pe_op op_fdivN (pv 3) (pv 1)) (pg_sub (pv 0) pe_int set_list))) pss_nil) 
    (pss_one (ps_ret (pe_op op_modN (pe_callTy call_int1 (by rfl) T.int b_int (pa_cons (pv 3) pa_nil)) (pv 1)))))))))), fun B0 H0 r ds kk h => by
    obtain ⟨m, rfl, h0, hm, hk⟩ := h
    walk_at "s"; show Sm _ _ [.row _, .d _, .no, .no] _ _
    intro B σ H Dn R _ hrt
    obtain ⟨_, e0, rfl, hb, _, sc, ns, i, s, c, hi, h1, hs⟩ := R.sl 0 _ rfl
    obtain ⟨_, e1, _, rfl, av⟩ := R.sl 1 _ rfl
    rw [at_int av] at e1
    have hM : ∀ a, (⟨K, B0, H0, fun a => a = r⟩ : Wd).M a ↔ a = r := fun a => Iff.rfl
    have fin : ∀ (x : Int) (H' : Hp), Cor ⟨K, B0, H0, fun a => a = r⟩ B H' → Dn.rt (.int (x.fmod (m : Int))) H' := fun x H' cr => by
      have a1 : 0 ≤ x.fmod (m : Int) := Int.fmod_nonneg_of_pos _ (by omega)
      have a2 : x.fmod (m : Int) < m := Int.fmod_lt_of_pos _ (by omega)
      refine hrt _ (.int (x.fmod (m : Int))) B H' ?_ cr (Same.refl _) (.v rfl)
      have e : ((x.fmod (m : Int)).toNat : Int) = x.fmod (m : Int) := Int.toNat_of_nonneg a1
      rw [← e]
      exact hk _ (by omega)
    have cd : ∀ a : Int, CDivN a (m : Int) := fun a => ⟨by omega, by omega⟩
    have set0 : ∀ (j : Nat) (v : V), 2 ≤ j → (σ.set j (some v))[0]? = some (some (.ref r)) ∧ (σ.set j (some v))[1]? = some (some (.int (m : Int))) := fun j v hj => by
      rw [List.getElem?_set_ne (by omega), List.getElem?_set_ne (by omega)]
      exact ⟨e0, e1⟩
    have hlen : σ.length = 4 := R.len
    refine raw_if (va_I0b (va_row e0 h1 rfl) va_c) (fun _ => ?_) fun _ => ?_
    · refine raw_set (va_mod (by omega) (va_int (va_row e0 h1 rfl)) (va_var e1)) ?_
      obtain ⟨q0, q1⟩ := set0 2 (.int (c.fmod (m : Int))) (Nat.le_refl _)
      refine raw_row (va_div (cd _) (va_row q0 h1 rfl) (va_var q1)) q0 h1 rfl ?_
      exact raw_ret (va_var (List.getElem?_set_self (by omega))) (fin _ _ (cor_row R.cor hM h1 hs hi).1)
    refine raw_row (va_I0i (va_row e0 h1 rfl) va_c) e0 h1 rfl ?_
    obtain ⟨c1, s1⟩ := cor_row (i' := i + 1) (s' := s) (c' := c) R.cor hM h1 hs (by omega)
    have h2 : (upd H r (.lst [.ref sc, .int (i + 1), .int s, .int c])) r = some (.lst [.ref sc, .int (i + 1), .int s, .int c]) := upd_same
    refine raw_if (va_I0b (va_row e0 h2 rfl) (va_len (va_row e0 h2 rfl) (scOk_sq s1))) (fun _ => ?_) fun hz => ?_
    · refine raw_row (va_mod (by decide) (va_int (va_I0i (va_mul (va_row e0 h2 rfl) va_c (mulS' (by decide) (by decide) _)) va_c)) va_c) e0 h2 rfl ?_
      obtain ⟨c2, s2⟩ := cor_row (i' := i + 1) (s' := (s * 48271 + 11).fmod 2147483647) (c' := c) c1 hM h2 s1 (by omega)
      exact raw_ret (va_mod (by omega) (va_int (va_div (by exact ⟨by decide, by decide⟩) (va_row e0 upd_same rfl) va_c)) (va_var e1)) (fin _ _ c2)
    have hle : i < ns.length := by
      have := of_decide_eq_false hz
      rw [List.length_map] at this
      omega
    obtain ⟨x, hx⟩ : ∃ x, ns[i.toNat]? = some x := ⟨_, List.getElem?_eq_getElem (by omega)⟩
    have hat : atI (ns.map V.int) (i + 1 - 1) = some (.int x) := by
      rw [show i + 1 - 1 = i by omega]
      unfold atI ixN
      rw [List.length_map, if_pos hi, if_pos (by omega)]
      show (ns.map V.int)[i.toNat]? = _
      rw [List.getElem?_map, hx]
      rfl
    refine raw_set (va_ix (va_row e0 h2 rfl) (va_I0i (va_row e0 h2 rfl) va_c) (scOk_sq s1) hat) ?_
    obtain ⟨q0, q1⟩ := set0 3 (.int x) (by decide)
    have q3 : (σ.set 3 (some (V.int x)))[3]? = some (some (.int x)) := List.getElem?_set_self (by omega)
    refine raw_row (va_mod (by decide) (va_int (va_I0i (va_I0i (va_mul (va_row q0 h2 rfl) va_c (mulS' (by decide) (by decide) _)) (va_var q3)) va_c)) va_c) q0 h2 rfl ?_
    obtain ⟨c2, s2⟩ := cor_row (i' := i + 1) (s' := (s * 48271 + x + 11).fmod 2147483647) (c' := c) c1 hM h2 s1 (by omega)
    refine raw_if (va_I0b (va_var q3) (va_I ⟨by decide, by decide, by decide⟩ va_c va_c)) (fun _ => ?_) fun _ => ?_
    · refine raw_row (va_div (cd _) (va_var q3) (va_var q1)) q0 upd_same rfl ?_
      exact raw_ret (va_mod (by omega) (va_int (va_var q3)) (va_var q1)) (fin _ _ (cor_row (i' := i + 1) (s' := (s * 48271 + x + 11).fmod 2147483647) (c' := x.fdiv m) c2 hM upd_same s2 (by omega)).1)
    · exact raw_ret (va_mod (by omega) (va_int (va_var q3)) (va_var q1)) (fin _ _ c2)
    ⟩

abbrev s_law_pick : Stmt := topS 44
abbrev N_law_pick : List Str := ["_law_row", "_law_things"]
theorem sc_law_pick : FnScope N_law_pick ["_law_row", "_law_things"] (defScope s_law_pick) := ⟨rfl, rfl, rfl, by decide +kernel, rfl, by decide +kernel, by decide +kernel⟩
theorem at_nat {xs : List D} {i : Nat} {x : D} (h : xs[i]? = some x) : atI xs (i : Int) = some x := by
  have hi := (List.getElem?_eq_some_iff.mp h).1
  unfold atI ixN
  rw [if_pos (Int.natCast_nonneg i), if_pos (by omega), Int.toNat_natCast]
  exact h
abbrev p_law_pick : List D → (D → Prop) → Prop := fun ds k => ∃ xs : List D, ds = [.l xs] ∧ 0 < xs.length ∧ xs.length ≤ 100000 ∧ ∀ (i : Nat) x, xs[i]? = some x → k x
theorem c_law_pick (T : Top mg) (C_law_taken : Cal P w K mg base 1 "_law_taken" ["_law_row", "_law_many"] (spR K p_law_taken)) (Fd : Df K mg "_law_pick" s_law_pick ["_law_row", "_law_things"]) : Cal P w K mg base 2 "_law_pick" ["_law_row", "_law_things"] (spR K p_law_pick) :=
  cal_R _ Fd sc_law_pick (fun ds kk h => by
    obtain ⟨xs, rfl, h0, hl, hk⟩ := h
    all_goals rfl) fun f cdv A outer s H E hr => ⟨_, 
    (pss_one (ps_ret (pe_ix ix_list (pv 1) (pcal C_law_taken hr (by decide) (pa_cons (pv 0) (pa_cons (pe_callB call_len_seq (by rfl) T.len b_len (pa_cons (pv 1) pa_nil)) pa_nil))) (fun _ _ => rfl)))), fun B0 H0 r ds kk h => by
    obtain ⟨xs, rfl, h0, hl, hk⟩ := h
    walk_at "s"; show Sm _ _ [.row _, .d _] _ _
    walk_at "go"
    refine ⟨h0, hl, fun i hi => ?_⟩
    exact ⟨xs, i, _, rfl, rfl, at_nat (List.getElem?_eq_getElem hi), hk i _ (List.getElem?_eq_getElem hi)⟩
    ⟩

abbrev s_law_order : Stmt := topS 48
abbrev N_law_order : List Str := ["_law_state_here", "_law_place", "_law_stone"]
theorem sc_law_order : FnScope N_law_order ["_law_state_here"] (defScope s_law_order) := ⟨rfl, rfl, rfl, by decide +kernel, rfl, by decide +kernel, by decide +kernel⟩
def ordF (ps : List Int) : D → D
  | .v (.int s) => .t [.int (ps.getD s.toNat 0), .int s]
  | d => d
theorem at_iD {ps : List Int} (hl : ps.length = 3) (i : Nat) (hi : i < 3) : atI (iD ps) (i : Int) = some (.int (ps.getD i 0)) := at_nat (by
  rw [List.getElem?_map, List.getElem?_eq_getElem (by omega), List.getD_eq_getElem?_getD, List.getElem?_eq_getElem (by omega)]
  rfl)
abbrev p_law_order : List D → (D → Prop) → Prop := fun ds k => ∃ (o : O) (x y z : Int), ds = [.t (iD (sv o x y z))] ∧ x < y ∧ y < z ∧ k (.l [.int (o.l : Int), .int (o.m : Int), .int (o.r : Int)])
theorem c_law_order (T : Top mg)  (Fd : Df K mg "_law_order" s_law_order ["_law_state_here"]) : Cal P w K mg base 1 "_law_order" ["_law_state_here"] (spP K p_law_order) :=
  cal_P _ Fd sc_law_order (fun ds kk h => by
    obtain ⟨o, x, y, z, rfl, h1, h2, hk⟩ := h
    all_goals rfl) fun f cdv A outer s H E hr => ⟨_, 
    (pss_one (ps_ret (pe_lc (own := [("_law_place", 1), ("_law_stone", 2)]) (g := gTup K 2 (gCons (gName 1) (gCons (gName 2) (gNil)))) (by rfl) sc_law_order.nd (pi_list (pe_callB cr_sortedPO (by rfl) T.sorted b_sorted (pa_cons (pe_lc (own := [("_law_stone", 2)]) (g := gName 2) (by rfl) sc_law_order.nd (pi_list (pe_lst (pa_cons pe_int (pa_cons pe_int (pa_cons pe_int pa_nil))))) (blkOk_by (own := [("_law_stone", 2)]) (N := N_law_order) (sc := defScope s_law_order) (by decide +kernel)) (fun _ _ _ _ _ => (pg_name (i := 2) sc_law_order.nd rfl (.inl rfl))) (fun _ _ _ _ _ => pts_nil) (fun _ _ _ _ _ => (pe_tup (pa_cons (pe_ix (show IxR _ (rIxT K) from ix_tup) (pv 0) (pv 2) (fun _ _ => rfl)) (pa_cons (pv 2) pa_nil))))) pa_nil))) (blkOk_by (own := [("_law_place", 1), ("_law_stone", 2)]) (N := N_law_order) (sc := defScope s_law_order) (by decide +kernel)) (fun _ _ _ _ _ => (pg_tup rfl (pgs_cons (pg_name (i := 1) sc_law_order.nd rfl (.inl rfl)) (pgs_cons (pg_name (i := 2) sc_law_order.nd rfl (.inl rfl)) pgs_nil)))) (fun _ _ _ _ _ => pts_nil) (fun _ _ _ _ _ => (pv 2))))), fun B0 H0 ds kk h => by
    obtain ⟨o, x, y, z, rfl, h1, h2, hk⟩ := h
    walk_at "s"; show Sm _ _ [.d _, .no, .no] _ _
    have e := at_iD (sv_len o x y z)
    walk_at "go"
    refine ⟨ordF (sv o x y z), fun d hd => ?_, enumP (sv o x y z), by cases o <;> rfl, fun qs hp hs => ?_⟩
    · rcases List.mem_cons.mp hd with q | q
      · subst q
        walk_at "go"
        refine ⟨_, _, _, rfl, rfl, e 0 (by decide), ?_⟩
        walk_at "go"
        rfl
      rcases List.mem_cons.mp q with q | q
      · subst q
        walk_at "go"
        refine ⟨_, _, _, rfl, rfl, e 1 (by decide), ?_⟩
        walk_at "go"
        rfl
      · rw [List.mem_singleton.mp q]
        walk_at "go"
        refine ⟨_, _, _, rfl, rfl, e 2 (by decide), ?_⟩
        walk_at "go"
        rfl
    · rw [sortPD h1 h2 hp hs]
      refine ⟨_, rfl, Nat.le_of_ble_eq_true rfl, snd2, fun d hd => ?_, hk⟩
      rcases List.mem_cons.mp hd with e | e
      · subst e
        walk_at "go"
        rfl
      rcases List.mem_cons.mp e with e | e
      · subst e
        walk_at "go"
        rfl
      · rw [List.mem_singleton.mp e]
        walk_at "go"
        rfl
    ⟩

abbrev s_law_leapt : Stmt := topS 49
abbrev N_law_leapt : List Str := ["_law_state_here", "_law_stone", "_law_over", "_law_found"]
theorem sc_law_leapt : FnScope N_law_leapt ["_law_state_here", "_law_stone", "_law_over"] (defScope s_law_leapt) := ⟨rfl, rfl, rfl, by decide +kernel, rfl, by decide +kernel, by decide +kernel⟩
abbrev p_law_leapt : List D → (D → Prop) → Prop := fun ds k => ∃ (ps : List Int) (s t : Nat), ds = [.t (iD ps), .int (s : Int), .int (t : Int)] ∧ ps.length = 3 ∧ s < 3 ∧ t < 3 ∧ k (.t (iD (lpt ps s t)))
theorem c_law_leapt (T : Top mg)  (Fd : Df K mg "_law_leapt" s_law_leapt ["_law_state_here", "_law_stone", "_law_over"]) : Cal P w K mg base 1 "_law_leapt" ["_law_state_here", "_law_stone", "_law_over"] (spP K p_law_leapt) :=
  cal_P _ Fd sc_law_leapt (fun ds kk h => by
    obtain ⟨ps, s, t, rfl, hl, hs, ht, hk⟩ := h
    all_goals rfl) fun f cdv A outer s H E hr => ⟨_, 
    (pss_cons (ps_set (i := 3) sc_law_leapt.nd rfl (.inl rfl) (pe_callTy call_list_of (by rfl) T.list b_list (pa_cons (pv 0) pa_nil))) 
    (pss_cons (ps_asg (pe_op op_sub (pe_op op_mul pe_int (pe_ix ix_tup (pv 0) (pv 2) (fun _ _ => rfl))) (pe_ix ix_tup (pv 0) (pv 1) (fun _ _ => rfl))) (pg_sub (pv 3) (pv 1) set_list)) 
    (pss_one (ps_ret (pe_callTy call_tuple_of (by rfl) T.tuple b_tuple (pa_cons (pv 3) pa_nil)))))), fun B0 H0 ds kk h => by
    obtain ⟨ps, s, t, rfl, hl, hs, ht, hk⟩ := h
    walk_at "s"; show Sm _ _ [.d _, .d _, .d _, .no] _ _
    have e : ∀ i : Nat, i < 3 → atI (iD ps) (i : Int) = some (.int (ps.getD i 0)) := fun i hi => at_nat (by
      rw [List.getElem?_map, List.getElem?_eq_getElem (by omega), List.getD_eq_getElem?_getD, List.getElem?_eq_getElem (by omega)]
      rfl)
    walk_at "go"
    refine sm_setN (evn_listT ?_)
    walk_at "go"
    intro p
    walk_at "go"
    refine ⟨_, _, _, rfl, rfl, e t ht, ?_⟩
    walk_at "go"
    refine ⟨_, _, _, rfl, rfl, e s hs, ?_⟩
    walk_at "go"
    refine ⟨by rw [List.length_map]; omega, ?_⟩
    walk_at "go"
    rw [← List.map_set]
    exact hk
    ⟩

abbrev s_law_common : Stmt := topS 54
abbrev N_law_common : List Str := ["_law_one", "_law_other_here"]
theorem sc_law_common : FnScope N_law_common ["_law_one", "_law_other_here"] (defScope s_law_common) := ⟨rfl, rfl, rfl, by decide +kernel, rfl, by decide +kernel, by decide +kernel⟩
abbrev p_law_common : List D → (D → Prop) → Prop := fun ds k => ∃ i j : Nat, ds = [.int (i : Int), .int (j : Int)] ∧ k (.int (Nat.gcd i j : Nat))
theorem c_law_common (T : Top mg)  (Fd : Df K mg "_law_common" s_law_common ["_law_one", "_law_other_here"]) : Cal P w K mg base 1 "_law_common" ["_law_one", "_law_other_here"] (spP K p_law_common) :=
  cal_P _ Fd sc_law_common (fun ds kk h => by
    obtain ⟨i, j, rfl, hk⟩ := h
    all_goals rfl) fun f cdv A outer s H E hr => ⟨_, 
    (pss_cons (ps_par (i := 0) (j := 1) (by rfl) sc_law_common.nd rfl rfl (by decide) rfl rfl (pa_cons (pe_callB call_abs (by rfl) T.abs b_abs (pa_cons (pv 0) pa_nil)) (pa_cons (pe_callB call_abs (by rfl) T.abs b_abs (pa_cons (pv 1) pa_nil)) pa_nil)) (by rfl)) 
    (pss_cons (ps_while PassesOwn.never (pt_cmpR op_ne (pv 1) pe_int (nomark _)) 
      (pss_one (ps_par (i := 0) (j := 1) (by rfl) sc_law_common.nd rfl rfl (by decide) rfl rfl (pa_cons (pv 1) (pa_cons (pe_op op_modN (pv 0) (pv 1)) pa_nil)) (by rfl)))) 
    (pss_one (ps_ret (pv 0))))), fun B0 H0 ds kk h => by
    obtain ⟨i, j, rfl, hk⟩ := h
    walk_at "s"; show Sm _ _ [.d _, .d _] _ _
    walk_at "go"
    rw [if_neg (show ¬ (i : Int) < 0 by omega), if_neg (show ¬ (j : Int) < 0 by omega)]
    refine sm_while (fun m ρ => ∃ a : Nat, ρ = [.d (.int (a : Int)), .d (.int (m : Int))] ∧ Nat.gcd a m = Nat.gcd i j) j ⟨i, rfl, rfl⟩ ?_
    rintro m ρ ⟨a, rfl, e⟩
    walk_at "go"
    refine br_nd (fun hz => ?_) fun hz => ?_
    rotate_left
    · have hm : m ≠ 0 := by omega
      walk_at "go"
      refine ⟨by omega, ?_⟩
      rw [fmod_nat]
      walk_at "go"
      refine ⟨a % m, Nat.mod_lt _ (by omega), m, rfl, ?_⟩
      rw [← e, Nat.gcd_comm a m, Nat.gcd_rec m a, Nat.gcd_comm]
    · have hm : m = 0 := by omega
      subst hm
      walk_at "go"
      rw [Nat.gcd_zero_right] at e
      rw [e]
      exact hk
    ⟩

abbrev s_law_lowered : Stmt := topS 55
abbrev N_law_lowered : List Str := ["_law_above", "_law_low", "_law_shared"]
theorem sc_law_lowered : FnScope N_law_lowered ["_law_above", "_law_low"] (defScope s_law_lowered) := ⟨rfl, rfl, rfl, by decide +kernel, rfl, by decide +kernel, by decide +kernel⟩
abbrev p_law_lowered : List D → (D → Prop) → Prop := fun ds k => ∃ (a b : Nat), ds = [.int (a : Int), .int (b : Int)] ∧ 0 < b ∧ b < 1000000000 ∧ k (.t [.int ((a / Nat.gcd a b : Nat) : Int), .int ((b / Nat.gcd a b : Nat) : Int)])
theorem c_law_lowered (T : Top mg) (C_law_common : Cal P w K mg base 1 "_law_common" ["_law_one", "_law_other_here"] (spP K p_law_common)) (Fd : Df K mg "_law_lowered" s_law_lowered ["_law_above", "_law_low"]) : Cal P w K mg base 2 "_law_lowered" ["_law_above", "_law_low"] (spP K p_law_lowered) :=
  cal_P _ Fd sc_law_lowered (fun ds kk h => by
    obtain ⟨a, b, rfl, h0, hb, hk⟩ := h
    all_goals rfl) fun f cdv A outer s H E hr => ⟨_, 
    (pss_cons (ps_set (i := 2) sc_law_lowered.nd rfl (.inl rfl) (pcal C_law_common hr (by decide) (pa_cons (pv 0) (pa_cons (pv 1) pa_nil)))) 
    (pss_one (ps_ret (pe_tup (pa_cons (pe_op op_fdivN (pv 0) (pv 2)) (pa_cons (pe_op op_fdivN (pv 1) (pv 2)) pa_nil)))))), fun B0 H0 ds kk h => by
    obtain ⟨a, b, rfl, h0, hb, hk⟩ := h
    walk_at "s"; show Sm _ _ [.d _, .d _, .no] _ _
    walk_at "go"
    have g0 : 0 < Nat.gcd a b := Nat.gcd_pos_of_pos_right _ h0
    have g1 : Nat.gcd a b ≤ b := Nat.gcd_le_right _ h0
    refine ⟨cdN g0 (by omega) _, ?_⟩
    walk_at "go"
    refine ⟨cdN g0 (by omega) _, ?_⟩
    walk_at "go"
    rw [fdiv_nat, fdiv_nat]
    exact hk
    ⟩

abbrev s_law_inward : Stmt := topS 51
abbrev N_law_inward : List Str := ["_law_state_here", "_law_left", "_law_middle", "_law_right", "_law_one", "_law_other_here"]
theorem sc_law_inward : FnScope N_law_inward ["_law_state_here"] (defScope s_law_inward) := ⟨rfl, rfl, rfl, by decide +kernel, rfl, by decide +kernel, by decide +kernel⟩
theorem sv_at (o : O) (x y z : Int) : atI (iD (sv o x y z)) (o.l : Int) = some (.int x) ∧ atI (iD (sv o x y z)) (o.m : Int) = some (.int y) ∧ atI (iD (sv o x y z)) (o.r : Int) = some (.int z) := by
  cases o <;> exact ⟨rfl, rfl, rfl⟩
theorem sv_lt (o : O) : o.l < 3 ∧ o.m < 3 ∧ o.r < 3 := by cases o <;> decide
def inwD (T : Tr) : Wo → D
  | [] => .v .non
  | _ :: w => ndD T w
abbrev p_law_inward : List D → (D → Prop) → Prop := fun ds k => ∃ (T : Tr) (w : Wo), ds = [ndD T w] ∧ T.Ok ∧ k (inwD T w)
theorem c_law_inward (T : Top mg) (C_law_order : Cal P w K mg base 1 "_law_order" ["_law_state_here"] (spP K p_law_order)) (C_law_leapt : Cal P w K mg base 1 "_law_leapt" ["_law_state_here", "_law_stone", "_law_over"] (spP K p_law_leapt)) (Fd : Df K mg "_law_inward" s_law_inward ["_law_state_here"]) : Cal P w K mg base 2 "_law_inward" ["_law_state_here"] (spP K p_law_inward) :=
  cal_P _ Fd sc_law_inward (fun ds kk h => by
    obtain ⟨T, w, rfl, kT, hk⟩ := h
    all_goals rfl) fun f cdv A outer s H E hr => ⟨_, 
    (pss_cons (ps_asg (pcal C_law_order hr (by decide) (pa_cons (pv 0) pa_nil)) (pg_unl rfl (pgs_cons (pg_name (i := 1) sc_law_inward.nd rfl (.inl rfl)) (pgs_cons (pg_name (i := 2) sc_law_inward.nd rfl (.inl rfl)) (pgs_cons (pg_name (i := 3) sc_law_inward.nd rfl (.inl rfl)) pgs_nil))))) 
    (pss_cons (ps_par (i := 4) (j := 5) (by rfl) sc_law_inward.nd rfl rfl (by decide) rfl rfl (pa_cons (pe_op op_sub (pe_ix ix_tup (pv 0) (pv 2) (fun _ _ => rfl)) (pe_ix ix_tup (pv 0) (pv 1) (fun _ _ => rfl))) (pa_cons (pe_op op_sub (pe_ix ix_tup (pv 0) (pv 3) (fun _ _ => rfl)) (pe_ix ix_tup (pv 0) (pv 2) (fun _ _ => rfl))) pa_nil)) (by rfl)) 
    (pss_cons (ps_if (pt_cmpR op_eq (pv 4) (pv 5) (nomark _)) 
      (pss_one (ps_ret pe_non)) pss_nil) 
    (pss_one (ps_ret (pe_ifExp (pt_cmpR op_lt (pv 4) (pv 5) (nomark _)) (pcal C_law_leapt hr (by decide) (pa_cons (pv 0) (pa_cons (pv 1) (pa_cons (pv 2) pa_nil)))) (pcal C_law_leapt hr (by decide) (pa_cons (pv 0) (pa_cons (pv 3) (pa_cons (pv 2) pa_nil)))))))))), fun B0 H0 ds kk h => by
    obtain ⟨T, w, rfl, kT, hk⟩ := h
    walk_at "s"; show Sm _ _ [.d _, .no, .no, .no, .no, .no] _ _
    have q := AB_pos kT w
    have e := sv_at (ord T.o w) (T.h - B T w) (T.h + Mt.A T w - B T w) (T.h + Mt.A T w)
    have lt := sv_lt (ord T.o w)
    walk_at "go"
    refine ⟨ord T.o w, _, _, _, rfl, by omega, by omega, ?_⟩
    walk_at "go"
    refine ⟨_, _, _, rfl, rfl, e.2.1, ?_⟩
    walk_at "go"
    refine ⟨_, _, _, rfl, rfl, e.1, ?_⟩
    walk_at "go"
    refine ⟨_, _, _, rfl, rfl, e.2.2, ?_⟩
    walk_at "go"
    refine ⟨_, _, _, rfl, rfl, e.2.1, ?_⟩
    walk_at "go"
    rw [show T.h + Mt.A T w - B T w - (T.h - B T w) = Mt.A T w by omega, show T.h + Mt.A T w - (T.h + Mt.A T w - B T w) = B T w by omega]
    cases w with
    | nil =>
      refine br_dt rfl ?_
      walk_at "go"
      exact hk
    | cons c w =>
      have q2 := AB_pos kT w
      cases c with
      | true =>
        rw [A_r, B_r] at *
        refine br_df (by omega) ?_
        walk_at "go"
        refine br_df (by omega) ?_
        walk_at "go"
        refine ⟨plc T (true :: w), _, _, rfl, plc_len _ _, lt.2.2, lt.2.1, ?_⟩
        rw [in_r]
        exact hk
      | false =>
        rw [A_l, B_l] at *
        refine br_df (by omega) ?_
        walk_at "go"
        refine br_dt (by omega) ?_
        walk_at "go"
        refine ⟨plc T (false :: w), _, _, rfl, plc_len _ _, lt.1, lt.2.1, ?_⟩
        rw [in_l]
        exact hk
    ⟩

abbrev s_law_line : Stmt := topS 52
abbrev N_law_line : List Str := ["_law_state_here", "_law_found"]
theorem sc_law_line : FnScope N_law_line ["_law_state_here"] (defScope s_law_line) := ⟨rfl, rfl, rfl, by decide +kernel, rfl, by decide +kernel, by decide +kernel⟩
def tls : Wo → List Wo
  | [] => [[]]
  | c :: w => (c :: w) :: tls w
theorem tls_len : ∀ w : Wo, (tls w).length = w.length + 1
  | [] => rfl
  | c :: w => congrArg (· + 1) (tls_len w)
theorem tls_le : ∀ (w : Wo), ∀ u ∈ tls w, u.length ≤ w.length
  | [], u, h => by rw [List.mem_singleton.mp h]; exact Nat.le_refl _
  | c :: w, u, h => by
    rcases List.mem_cons.mp h with e | e
    · rw [e]; exact Nat.le_refl _
    · exact Nat.le_trans (tls_le w u e) (Nat.le_succ _)
theorem at_last (xs : List D) (d : D) : atI (xs ++ [d]) (-1) = some d := by
  unfold atI ixN
  rw [List.length_append, if_neg (by decide), if_pos (by show -((xs.length + 1 : Nat) : Int) ≤ -1; omega)]
  rw [show (-1 + ((xs.length + [d].length : Nat) : Int)).toNat = xs.length by show (-1 + ((xs.length + 1 : Nat) : Int)).toNat = _; omega]
  show (xs ++ [d])[xs.length]? = some d
  rw [List.getElem?_append_right (Nat.le_refl _), Nat.sub_self]
  rfl
abbrev p_law_line : List D → (D → Prop) → Prop := fun ds k => ∃ (T : Tr) (w : Wo), ds = [ndD T w] ∧ T.Ok ∧ w.length ≤ 20 ∧ k (.l ((tls w).map (ndD T)).reverse)
theorem c_law_line (T : Top mg) (C_law_inward : Cal P w K mg base 2 "_law_inward" ["_law_state_here"] (spP K p_law_inward)) (Fd : Df K mg "_law_line" s_law_line ["_law_state_here"]) : Cal P w K mg base 3 "_law_line" ["_law_state_here"] (spP K p_law_line) :=
  cal_P _ Fd sc_law_line (fun ds kk h => by
    obtain ⟨T, w, rfl, kT, hw, hk⟩ := h
    all_goals rfl) fun f cdv A outer s H E hr => ⟨_, 
    (pss_cons (ps_set (i := 1) sc_law_line.nd rfl (.inl rfl) (pe_lst (pa_cons (pv 0) pa_nil))) 
    (pss_cons (ps_while PassesOwn.never (pt_cmpR op_notN (pcal C_law_inward hr (by decide) (pa_cons (pe_ix ix_list (pv 1) (pe_un un_neg pe_int) (fun _ _ => rfl)) pa_nil)) pe_non (nomark _)) 
      (pss_one (ps_expr (pe_bm PySem.F.plainAttrs_list PySem.F.slot_list_append PySem.F.type_list_append mt_append (pv 1) (pa_cons (pcal C_law_inward hr (by decide) (pa_cons (pe_ix ix_list (pv 1) (pe_un un_neg pe_int) (fun _ _ => rfl)) pa_nil)) pa_nil))))) 
    (pss_one (ps_ret (pe_revL (pv 1)))))), fun B0 H0 ds kk h => by
    obtain ⟨T, w, rfl, kT, hw, hk⟩ := h
    walk_at "s"; show Sm _ _ [.d _, .no] _ _
    walk_at "go"
    refine sm_setN (evn_lst ?_)
    walk_at "go"
    intro p
    walk_at "go"
    refine sm_while (fun m ρ => ∃ (l : List Wo) (u : Wo), l ++ tls u = tls w ∧ m = u.length ∧ ρ = [.d (ndD T w), .ol p (l.map (ndD T) ++ [ndD T u])]) w.length ⟨[], w, rfl, rfl, rfl⟩ ?_
    rintro m ρ ⟨l, u, he, rfl, rfl⟩
    have hl : l.length ≤ 20 := by
      have h := congrArg List.length he
      rw [List.length_append, tls_len, tls_len] at h
      omega
    walk_at "go"
    refine ⟨_, _, rfl, at_last _ _, ?_⟩
    walk_at "go"
    refine ⟨kT, ?_⟩
    cases u with
    | nil =>
      walk_at "go"
      refine .inl ⟨_, rfl, ?_⟩
      walk_at "go"
      refine br_nd (fun _ => ?_) fun hz => absurd rfl hz
      walk_at "go"
      rw [← he, List.map_append] at hk
      exact hk
    | cons c u =>
      show EvP _ (tC V.non) _ _
      walk_at "go"
      refine .inr ⟨_, rfl, ?_⟩
      walk_at "go"
      refine ⟨_, _, rfl, at_last _ _, ?_⟩
      walk_at "go"
      refine ⟨kT, ?_⟩
      refine ⟨by rw [List.length_append, List.length_map]; show l.length + 1 ≤ 1000; omega, u.length, Nat.lt_succ_self _, l ++ [c :: u], u, ?_, rfl, ?_⟩
      · rw [List.append_assoc]
        exact he
      · rw [List.map_append]
        rfl
    ⟩

abbrev s_law_leaps : Stmt := topS 50
abbrev N_law_leaps : List Str := ["_law_state_here", "_law_found", "_law_stone", "_law_over", "_law_third", "_law_there", "_law_low", "_law_high"]
theorem sc_law_leaps : FnScope N_law_leaps ["_law_state_here"] (defScope s_law_leaps) := ⟨rfl, rfl, rfl, by decide +kernel, rfl, by decide +kernel, by decide +kernel⟩
abbrev pairN (p : Nat × Nat) : D := .t [.int (p.1 : Int), .int (p.2 : Int)]
theorem allP_at : ∀ i j : Nat, i < 3 → j < 3 → allP[3 * i + j]? = some (i, j)
  | 0, 0, _, _ => rfl
  | 0, 1, _, _ => rfl
  | 0, 2, _, _ => rfl
  | 1, 0, _, _ => rfl
  | 1, 1, _, _ => rfl
  | 1, 2, _, _ => rfl
  | 2, 0, _, _ => rfl
  | 2, 1, _, _ => rfl
  | 2, 2, _, _ => rfl
  | i + 3, _, h, _ => by omega
  | _, j + 3, _, h => by omega
theorem filt_take (ps : List Int) {i : Nat} {p : Nat × Nat} (h : allP[i]? = some p) : (allP.take (i + 1)).filter (okP ps) = (allP.take i).filter (okP ps) ++ if okP ps p = true then [p] else [] := by
  rw [List.take_add_one, h, List.filter_append]
  congr 1
  show List.filter (okP ps) [p] = _
  by_cases e : okP ps p = true
  · rw [if_pos e, List.filter_cons_of_pos e]
    rfl
  · rw [if_neg e, List.filter_cons_of_neg e]
    rfl
theorem lps_len (ps : List Int) (n : Nat) : ((allP.take n).filter (okP ps)).length ≤ 9 :=
  Nat.le_trans (List.length_filter_le _ _) (Nat.le_trans (List.length_take_le' n allP) (by decide))
abbrev p_law_leaps : List D → (D → Prop) → Prop := fun ds k => ∃ ps : List Int, ds = [.t (iD ps)] ∧ ps.length = 3 ∧ k (.l ((lps ps).map pairN))
theorem c_law_leaps (T : Top mg)  (Fd : Df K mg "_law_leaps" s_law_leaps ["_law_state_here"]) : Cal P w K mg base 1 "_law_leaps" ["_law_state_here"] (spP K p_law_leaps) :=
  cal_P _ Fd sc_law_leaps (fun ds kk h => by
    obtain ⟨ps, rfl, hl, hk⟩ := h
    all_goals rfl) fun f cdv A outer s H E hr => ⟨_, 
    (pss_cons (ps_set (i := 1) sc_law_leaps.nd rfl (.inl rfl) (pe_lst pa_nil)) 
    (pss_cons (ps_for PassesOwn.never rfl (pi_list (pe_lst (pa_cons pe_int (pa_cons pe_int (pa_cons pe_int pa_nil))))) (pg_name (i := 2) sc_law_leaps.nd rfl (.inl rfl)) 
      (pss_one (ps_for PassesOwn.never rfl (pi_list (pe_lst (pa_cons pe_int (pa_cons pe_int (pa_cons pe_int pa_nil))))) (pg_name (i := 3) sc_law_leaps.nd rfl (.inl rfl)) 
        (pss_one (ps_if (pt_cmpR op_ne (pv 3) (pv 2) (nomark _)) 
          (pss_cons (ps_par (i := 4) (j := 5) (by rfl) sc_law_leaps.nd rfl rfl (by decide) rfl rfl (pa_cons (pe_op op_sub (pe_op op_sub pe_int (pv 2)) (pv 3)) (pa_cons (pe_op op_sub (pe_op op_mul pe_int (pe_ix ix_tup (pv 0) (pv 3) (fun _ _ => rfl))) (pe_ix ix_tup (pv 0) (pv 2) (fun _ _ => rfl))) pa_nil)) (by rfl)) 
          (pss_cons (ps_par (i := 6) (j := 7) (by rfl) sc_law_leaps.nd rfl rfl (by decide) rfl rfl (pa_cons (pe_callB (call_min2 rfl) (by rfl) T.min b_min (pa_cons (pv 5) (pa_cons (pe_ix ix_tup (pv 0) (pv 2) (fun _ _ => rfl)) pa_nil))) (pa_cons (pe_callB (call_max2 rfl) (by rfl) T.max b_max (pa_cons (pv 5) (pa_cons (pe_ix ix_tup (pv 0) (pv 2) (fun _ _ => rfl)) pa_nil))) pa_nil)) (by rfl)) 
          (pss_one (ps_if (pt_not (pt_chain op_le op_le (pv 6) (pe_ix ix_tup (pv 0) (pv 4) (fun _ _ => rfl)) (pv 7))) 
            (pss_one (ps_expr (pe_bm PySem.F.plainAttrs_list PySem.F.slot_list_append PySem.F.type_list_append mt_append (pv 1) (pa_cons (pe_tup (pa_cons (pv 2) (pa_cons (pv 3) pa_nil))) pa_nil)))) pss_nil)))) pss_nil))))) 
    (pss_one (ps_ret (pv 1))))), fun B0 H0 ds kk h => by
    obtain ⟨ps, rfl, hl, hk⟩ := h
    walk_at "s"; show Sm _ _ [.d _, .no, .no, .no, .no, .no, .no, .no] _ _
    have e := at_iD hl
    walk_at "go"
    refine sm_setN (evn_lst ?_)
    walk_at "go"
    intro p
    walk_at "go"
    refine ⟨fun i ρ => ∃ s2 s3 s4 s5 s6 s7 : Sl, ρ = [.d (.t (iD ps)), .ol p (((allP.take (3 * i)).filter (okP ps)).map pairN), s2, s3, s4, s5, s6, s7], ⟨_, _, _, _, _, _, rfl⟩, fun i d ρ' e1 h => ?_, fun ρ' h => ?_⟩
    rotate_left
    · obtain ⟨s2, s3, s4, s5, s6, s7, rfl⟩ := h
      walk_at "go"
      exact hk
    obtain ⟨s2, s3, s4, s5, s6, s7, rfl⟩ := h
    have hi : i < 3 := (List.getElem?_eq_some_iff.mp e1).1
    have hd : d = .int (i : Int) := by
      match i, e1 with
      | 0, e1 => exact (Option.some.inj e1).symm
      | 1, e1 => exact (Option.some.inj e1).symm
      | 2, e1 => exact (Option.some.inj e1).symm
    subst hd
    walk_at "go"
    refine ⟨fun j ρ => ∃ s3 s4 s5 s6 s7 : Sl, ρ = [.d (.t (iD ps)), .ol p (((allP.take (3 * i + j)).filter (okP ps)).map pairN), .d (.int (i : Int)), s3, s4, s5, s6, s7], ⟨_, _, _, _, _, rfl⟩, fun j d ρ' e2 h => ?_, fun ρ' h => ?_⟩
    rotate_left
    · obtain ⟨s3, s4, s5, s6, s7, rfl⟩ := h
      exact ⟨_, _, _, _, _, _, rfl⟩
    obtain ⟨s3, s4, s5, s6, s7, rfl⟩ := h
    have hj : j < 3 := (List.getElem?_eq_some_iff.mp e2).1
    have hd : d = .int (j : Int) := by
      match j, e2 with
      | 0, e2 => exact (Option.some.inj e2).symm
      | 1, e2 => exact (Option.some.inj e2).symm
      | 2, e2 => exact (Option.some.inj e2).symm
    subst hd
    have ft := filt_take ps (allP_at i j hi hj)
    have hln := lps_len ps (3 * i + j)
    walk_at "go"
    refine br_nd (fun hz => ?_) fun hz => ?_
    · walk_at "go"
      have : okP ps (i, j) = false := decide_eq_false fun z => z.1 (by show i = j; omega)
      rw [this, if_neg (by decide), List.append_nil] at ft
      exact ⟨_, _, _, _, _, by rw [Nat.add_assoc] at ft; rw [ft]; rfl⟩
    have hne : i ≠ j := by omega
    have h3 : (3 : Int) - i - j = ((3 - i - j : Nat) : Int) := by omega
    have h3l : 3 - i - j < 3 := by omega
    walk_at "go"
    refine ⟨_, _, _, rfl, rfl, e j hj, ?_⟩
    walk_at "go"
    refine ⟨_, _, _, rfl, rfl, e i hi, ?_⟩
    walk_at "go"
    refine ⟨_, _, _, rfl, rfl, e i hi, ?_⟩
    walk_at "go"
    refine ⟨_, _, _, rfl, rfl, e i hi, ?_⟩
    walk_at "go"
    refine ⟨_, _, _, rfl, rfl, by rw [h3]; exact e _ h3l, ?_⟩
    walk_at "go"
    have okdef : okP ps (i, j) = decide (i ≠ j ∧ ((ps.getD (3 - i - j) 0 < 2 * ps.getD j 0 - ps.getD i 0 ∧ ps.getD (3 - i - j) 0 < ps.getD i 0) ∨ (2 * ps.getD j 0 - ps.getD i 0 < ps.getD (3 - i - j) 0 ∧ ps.getD i 0 < ps.getD (3 - i - j) 0))) := rfl
    generalize ps.getD (3 - i - j) 0 = q at *
    generalize ps.getD i 0 = a at *
    generalize 2 * ps.getD j 0 - a = t at *
    have l1 : (if a < t then a else t) ≤ q ↔ (a ≤ q ∨ t ≤ q) := by split <;> omega
    have l2 : q ≤ (if a > t then a else t) ↔ (q ≤ a ∨ q ≤ t) := by split <;> omega
    have yes : (¬ ((a ≤ q ∨ t ≤ q) ∧ (q ≤ a ∨ q ≤ t))) → (allP.take (3 * i + (j + 1))).filter (okP ps) = (allP.take (3 * i + j)).filter (okP ps) ++ [(i, j)] := fun z => by
      rw [Nat.add_assoc] at ft
      rw [ft, okdef, if_pos (decide_eq_true ⟨hne, by omega⟩)]
    have no : ((a ≤ q ∨ t ≤ q) ∧ (q ≤ a ∨ q ≤ t)) → (allP.take (3 * i + (j + 1))).filter (okP ps) = (allP.take (3 * i + j)).filter (okP ps) := fun z => by
      rw [Nat.add_assoc] at ft
      rw [ft, okdef, decide_eq_false (by omega), if_neg (by decide), List.append_nil]
    refine ⟨fun h1 => ?_, fun h1 => ?_⟩
    · have h1 := l1.mp (of_decide_eq_true h1)
      walk_at "go"
      refine br_nd (fun h2 => ?_) fun h2 => ?_
      · have h2 := l2.mp h2
        walk_at "go"
        exact ⟨_, _, _, _, _, by rw [no ⟨h1, h2⟩]; rfl⟩
      · have h2 := fun z => h2 (l2.mpr z)
        walk_at "go"
        refine ⟨by rw [List.length_map]; omega, ?_⟩
        walk_at "go"
        exact ⟨_, _, _, _, _, by rw [yes fun z => h2 z.2, List.map_append]; rfl⟩
    · have h1 := fun z => of_decide_eq_false h1 (l1.mpr z)
      walk_at "go"
      refine ⟨by rw [List.length_map]; omega, ?_⟩
      walk_at "go"
      exact ⟨_, _, _, _, _, by rw [yes fun z => h1 z.1, List.map_append]; rfl⟩
    ⟩

abbrev s_law_walk : Stmt := topS 47
abbrev N_law_walk : List Str := ["_law_row", "_law_state_here", "_law_most", "_law_turn", "_law_left", "_law_middle", "_law_right"]
theorem sc_law_walk : FnScope N_law_walk ["_law_row", "_law_state_here", "_law_most"] (defScope s_law_walk) := ⟨rfl, rfl, rfl, by decide +kernel, rfl, by decide +kernel, by decide +kernel⟩
abbrev p_law_walk : List D → (D → Prop) → Prop := fun ds k => ∃ (T : Tr) (w : Wo) (m : Nat), ds = [ndD T w, .int (m : Int)] ∧ T.Ok ∧ m ≤ 100 ∧ ∀ w' : Wo, w'.length ≤ w.length + m → k (ndD T w')
theorem c_law_walk (T : Top mg) (C_law_taken : Cal P w K mg base 1 "_law_taken" ["_law_row", "_law_many"] (spR K p_law_taken)) (C_law_order : Cal P w K mg base 1 "_law_order" ["_law_state_here"] (spP K p_law_order)) (C_law_leapt : Cal P w K mg base 1 "_law_leapt" ["_law_state_here", "_law_stone", "_law_over"] (spP K p_law_leapt)) (C_law_pick : Cal P w K mg base 2 "_law_pick" ["_law_row", "_law_things"] (spR K p_law_pick)) (Fd : Df K mg "_law_walk" s_law_walk ["_law_row", "_law_state_here", "_law_most"]) : Cal P w K mg base 3 "_law_walk" ["_law_row", "_law_state_here", "_law_most"] (spR K p_law_walk) :=
  cal_R _ Fd sc_law_walk (fun ds kk h => by
    obtain ⟨T, w, m, rfl, kT, hm, hk⟩ := h
    all_goals rfl) fun f cdv A outer s H E hr => ⟨_, 
    (pss_cons (ps_for PassesOwn.never rfl (pi_range1 (by rfl) T.range (pa_cons (pcal C_law_taken hr (by decide) (pa_cons (pv 0) (pa_cons (pe_op op_add (pv 2) pe_int) pa_nil))) pa_nil)) (pg_name (i := 3) sc_law_walk.nd rfl (.inl rfl)) 
      (pss_cons (ps_asg (pcal C_law_order hr (by decide) (pa_cons (pv 1) pa_nil)) (pg_unl rfl (pgs_cons (pg_name (i := 4) sc_law_walk.nd rfl (.inl rfl)) (pgs_cons (pg_name (i := 5) sc_law_walk.nd rfl (.inl rfl)) (pgs_cons (pg_name (i := 6) sc_law_walk.nd rfl (.inl rfl)) pgs_nil))))) 
      (pss_one (ps_set (i := 1) sc_law_walk.nd rfl (.inl rfl) (pcal C_law_leapt hr (by decide) (pa_cons (pv 1) (pa_cons (pv 5) (pa_cons (pcal C_law_pick hr (by decide) (pa_cons (pv 0) (pa_cons (pe_lst (pa_cons (pv 4) (pa_cons (pv 6) pa_nil))) pa_nil))) pa_nil)))))))) 
    (pss_one (ps_ret (pv 1)))), fun B0 H0 r ds kk h => by
    obtain ⟨T, w, m, rfl, kT, hm, hk⟩ := h
    walk_at "s"; show Sm _ _ [.row _, .d _, .d _, .no, .no, .no, .no] _ _
    walk_at "go"
    refine ⟨Nat.succ_pos m, Nat.le_trans (Nat.succ_le_succ hm) (by decide), fun n hn => ?_⟩
    have hn : n ≤ m := Nat.le_of_lt_succ hn
    walk_at "go"
    refine ⟨by omega, fun i ρ => ∃ (w' : Wo) (s3 s4 s5 s6 : Sl), w'.length ≤ w.length + i ∧ ρ = [.row r, .d (ndD T w'), .d (.int (m : Int)), s3, s4, s5, s6], ⟨w, _, _, _, _, by omega, rfl⟩, fun i d ρ' e h => ?_, fun ρ' h => ?_⟩
    rotate_left
    · obtain ⟨w', s3, s4, s5, s6, hw', rfl⟩ := h
      rw [List.length_map, List.length_range] at hw'
      walk_at "go"
      exact hk w' (by omega)
    obtain ⟨w', s3, s4, s5, s6, hw', rfl⟩ := h
    have q := AB_pos kT w'
    have lt := sv_lt (ord T.o w')
    walk_at "go"
    refine ⟨ord T.o w', _, _, _, rfl, by omega, by omega, ?_⟩
    walk_at "go"
    refine ⟨Nat.lt_of_sub_eq_succ rfl, Nat.le_of_ble_eq_true rfl, fun i x hx => ?_⟩
    have hx2 : x = .int ((ord T.o w').l : Int) ∨ x = .int ((ord T.o w').r : Int) := by
      rcases List.mem_cons.mp (List.mem_of_getElem? hx) with z | z
      · exact .inl z
      · exact .inr (List.mem_singleton.mp z)
    rcases hx2 with rfl | rfl
    · walk_at "go"
      refine ⟨plc T w', _, _, rfl, plc_len _ _, lt.2.1, lt.1, ?_⟩
      rw [out_l]
      exact ⟨false :: w', _, _, _, _, by show w'.length + 1 ≤ _; omega, rfl⟩
    · walk_at "go"
      refine ⟨plc T w', _, _, rfl, plc_len _ _, lt.2.1, lt.2.2, ?_⟩
      rw [out_r]
      exact ⟨true :: w', _, _, _, _, by show w'.length + 1 ≤ _; omega, rfl⟩
    ⟩

abbrev s_law_other : Stmt := topS 53
abbrev N_law_other : List Str := ["_law_row", "_law_state_here", "_law_most", "_law_line_here"]
theorem sc_law_other : FnScope N_law_other ["_law_row", "_law_state_here", "_law_most"] (defScope s_law_other) := ⟨rfl, rfl, rfl, by decide +kernel, rfl, by decide +kernel, by decide +kernel⟩
abbrev p_law_other : List D → (D → Prop) → Prop := fun ds k => ∃ (T : Tr) (w : Wo) (m : Nat), ds = [ndD T w, .int (m : Int)] ∧ T.Ok ∧ w.length ≤ 20 ∧ m ≤ 100 ∧ ∀ w' : Wo, w'.length ≤ w.length + m → k (ndD T w')
theorem c_law_other (T : Top mg) (C_law_line : Cal P w K mg base 3 "_law_line" ["_law_state_here"] (spP K p_law_line)) (C_law_walk : Cal P w K mg base 3 "_law_walk" ["_law_row", "_law_state_here", "_law_most"] (spR K p_law_walk)) (C_law_pick : Cal P w K mg base 2 "_law_pick" ["_law_row", "_law_things"] (spR K p_law_pick)) (Fd : Df K mg "_law_other" s_law_other ["_law_row", "_law_state_here", "_law_most"]) : Cal P w K mg base 4 "_law_other" ["_law_row", "_law_state_here", "_law_most"] (spR K p_law_other) :=
  cal_R _ Fd sc_law_other (fun ds kk h => by
    obtain ⟨T, w, m, rfl, kT, hw, hm, hk⟩ := h
    all_goals rfl) fun f cdv A outer s H E hr => ⟨_, 
    (pss_cons (ps_set (i := 3) sc_law_other.nd rfl (.inl rfl) (pcal C_law_line hr (by decide) (pa_cons (pv 1) pa_nil))) 
    (pss_one (ps_ret (pcal C_law_walk hr (by decide) (pa_cons (pv 0) (pa_cons (pcal C_law_pick hr (by decide) (pa_cons (pv 0) (pa_cons (pv 3) pa_nil))) (pa_cons (pv 2) pa_nil))))))), fun B0 H0 r ds kk h => by
    obtain ⟨T, w, m, rfl, kT, hw, hm, hk⟩ := h
    walk_at "s"; show Sm _ _ [.row _, .d _, .d _, .no] _ _
    walk_at "go"
    refine ⟨kT, hw, ?_⟩
    walk_at "go"
    refine ⟨by rw [List.length_reverse, List.length_map, tls_len]; omega, by rw [List.length_reverse, List.length_map, tls_len]; omega, fun i x hx => ?_⟩
    obtain ⟨u, hu, rfl⟩ := List.mem_map.mp (List.mem_reverse.mp (List.mem_of_getElem? hx))
    have hul := tls_le w u hu
    walk_at "go"
    exact ⟨T, u, m, rfl, kT, hm, fun w' h => hk w' (by omega)⟩
    ⟩

abbrev s_law_state : Stmt := topS 46
abbrev N_law_state : List Str := ["_law_row", "_law_most", "_law_still", "_law_unit", "_law_stones", "_law_state_here", "_law_at"]
theorem sc_law_state : FnScope N_law_state ["_law_row", "_law_most"] (defScope s_law_state) := ⟨rfl, rfl, rfl, by decide +kernel, rfl, by decide +kernel, by decide +kernel⟩
def fset2 (o : O) (x y z : Int) (i : Nat) : List Int := (([(o.l, x), (o.m, y), (o.r, z)] : List (Nat × Int)).take i).foldl (fun l e => l.set e.1 e.2) [0, 0, 0]
theorem fset23 (o : O) (x y z : Int) : fset2 o x y z 3 = sv o x y z := by cases o <;> rfl
theorem fset2_len (o : O) (x y z : Int) (i : Nat) : (fset2 o x y z i).length = 3 := by
  have h : ∀ (es : List (Nat × Int)) (l : List Int), (es.foldl (fun l e => l.set e.1 e.2) l).length = l.length := by
    intro es
    induction es with
    | nil => intro l; rfl
    | cons e es ih => intro l; exact (ih _).trans (List.length_set ..)
  exact h _ _
theorem plc0 (T : Tr) : plc T [] = sv T.o (T.h - T.g) T.h (T.h + T.g) := by
  unfold plc
  rw [A_0, B_0]
  show sv T.o _ _ _ = _
  congr 1
  omega
abbrev p_law_state : List D → (D → Prop) → Prop := fun ds k => ∃ (m : Nat), ds = [.int (m : Int)] ∧ m ≤ 100 ∧ ∀ (T : Tr) (w : Wo), T.Ok → w.length ≤ m → k (ndD T w)
theorem c_law_state (T : Top mg) (C_law_pick : Cal P w K mg base 2 "_law_pick" ["_law_row", "_law_things"] (spR K p_law_pick)) (C_law_taken : Cal P w K mg base 1 "_law_taken" ["_law_row", "_law_many"] (spR K p_law_taken)) (C_law_walk : Cal P w K mg base 3 "_law_walk" ["_law_row", "_law_state_here", "_law_most"] (spR K p_law_walk)) (Fd : Df K mg "_law_state" s_law_state ["_law_row", "_law_most"]) : Cal P w K mg base 4 "_law_state" ["_law_row", "_law_most"] (spR K p_law_state) :=
  cal_R _ Fd sc_law_state (fun ds kk h => by
    obtain ⟨m, rfl, hm, hk⟩ := h
    all_goals rfl) fun f cdv A outer s H E hr => ⟨_, 
    (pss_cons (ps_par (i := 2) (j := 3) (by rfl) sc_law_state.nd rfl rfl (by decide) rfl rfl (pa_cons (pe_op op_sub (pcal C_law_taken hr (by decide) (pa_cons (pv 0) (pa_cons pe_int pa_nil))) pe_int) (pa_cons (pcal C_law_pick hr (by decide) (pa_cons (pv 0) (pa_cons (pe_lst (pa_cons pe_int (pa_cons pe_int (pa_cons pe_int (pa_cons pe_int (pa_cons pe_int pa_nil)))))) pa_nil))) pa_nil)) (by rfl)) 
    (pss_cons (ps_set (i := 4) sc_law_state.nd rfl (.inl rfl) (pcal C_law_pick hr (by decide) (pa_cons (pv 0) (pa_cons (pe_lst (pa_cons (pe_tup (pa_cons pe_int (pa_cons pe_int (pa_cons pe_int pa_nil)))) (pa_cons (pe_tup (pa_cons pe_int (pa_cons pe_int (pa_cons pe_int pa_nil)))) (pa_cons (pe_tup (pa_cons pe_int (pa_cons pe_int (pa_cons pe_int pa_nil)))) (pa_cons (pe_tup (pa_cons pe_int (pa_cons pe_int (pa_cons pe_int pa_nil)))) (pa_cons (pe_tup (pa_cons pe_int (pa_cons pe_int (pa_cons pe_int pa_nil)))) (pa_cons (pe_tup (pa_cons pe_int (pa_cons pe_int (pa_cons pe_int pa_nil)))) pa_nil))))))) pa_nil)))) 
    (pss_cons (ps_set (i := 5) sc_law_state.nd rfl (.inl rfl) (pe_lst (pa_cons pe_int (pa_cons pe_int (pa_cons pe_int pa_nil))))) 
    (pss_cons (ps_for PassesOwn.never rfl (pi_range1 (by rfl) T.range (pa_cons pe_int pa_nil)) (pg_name (i := 6) sc_law_state.nd rfl (.inl rfl)) 
      (pss_one (ps_asg (pe_op op_add (pv 2) (pe_op op_mul (pe_op op_sub (pv 6) pe_int) (pv 3))) (pg_sub (pv 5) (pe_ix ix_tup (pv 4) (pv 6) (fun _ _ => rfl)) set_list)))) 
    (pss_one (ps_ret (pcal C_law_walk hr (by decide) (pa_cons (pv 0) (pa_cons (pe_callTy call_tuple_of (by rfl) T.tuple b_tuple (pa_cons (pv 5) pa_nil)) (pa_cons (pv 1) pa_nil)))))))))), fun B0 H0 r ds kk h => by
    obtain ⟨m, rfl, hm, hk⟩ := h
    walk_at "s"; show Sm _ _ [.row _, .d _, .no, .no, .no, .no, .no] _ _
    walk_at "go"
    refine ⟨by decide, by decide, fun n hn => ?_⟩
    have hn : n ≤ 40 := Nat.le_of_lt_succ hn
    walk_at "go"
    refine ⟨Nat.lt_of_sub_eq_succ rfl, Nat.le_of_ble_eq_true rfl, fun i x hx => ?_⟩
    have hx2 : ∃ g : Nat, x = .int (g : Int) ∧ 1 ≤ g ∧ g ≤ 10 := by
      have hm := List.mem_of_getElem? hx
      rcases List.mem_cons.mp hm with z | hm
      · exact ⟨1, z, by decide, by decide⟩
      rcases List.mem_cons.mp hm with z | hm
      · exact ⟨1, z, by decide, by decide⟩
      rcases List.mem_cons.mp hm with z | hm
      · exact ⟨2, z, by decide, by decide⟩
      rcases List.mem_cons.mp hm with z | hm
      · exact ⟨3, z, by decide, by decide⟩
      · exact ⟨10, List.mem_singleton.mp hm, by decide, by decide⟩
    obtain ⟨g, rfl, hg1, hg2⟩ := hx2
    clear hx
    walk_at "go"
    refine ⟨Nat.lt_of_sub_eq_succ rfl, Nat.le_of_ble_eq_true rfl, fun i x hx => ?_⟩
    have hx2 : ∃ o : O, x = ordD o := by
      have hm := List.mem_of_getElem? hx
      rcases List.mem_cons.mp hm with z | hm
      · exact ⟨.abc, z⟩
      rcases List.mem_cons.mp hm with z | hm
      · exact ⟨.acb, z⟩
      rcases List.mem_cons.mp hm with z | hm
      · exact ⟨.bac, z⟩
      rcases List.mem_cons.mp hm with z | hm
      · exact ⟨.bca, z⟩
      rcases List.mem_cons.mp hm with z | hm
      · exact ⟨.cab, z⟩
      · exact ⟨.cba, List.mem_singleton.mp hm⟩
    obtain ⟨o, rfl⟩ := hx2
    clear hx
    walk_at "go"
    refine sm_setN (evn_lst ?_)
    walk_at "go"
    intro p
    walk_at "go"
    generalize hst : (n : Int) - 20 = st at *
    have hl := fset2_len o (st - g) st (st + g)
    have ho := sv_lt o
    refine ⟨fun i ρ => ∃ s6 : Sl, ρ = [.row r, .d (.int (m : Int)), .d (.int st), .d (.int (g : Int)), .d (ordD o), .ol p (iD (fset2 o (st - g) st (st + g) i)), s6], ⟨_, rfl⟩, fun i d ρ' e h => ?_, fun ρ' h => ?_⟩
    rotate_left
    · obtain ⟨s6, rfl⟩ := h
      walk_at "go"
      refine ⟨⟨st, g, o⟩, [], m, ?_, ⟨by show -20 ≤ st; omega, by show st ≤ 20; omega, hg1, hg2⟩, hm, fun w' h => hk _ _ ⟨by show -20 ≤ st; omega, by show st ≤ 20; omega, hg1, hg2⟩ ?_⟩
      · have e : iD (fset2 o (st - g) st (st + g) 3) = iD (plc ⟨st, g, o⟩ []) := by rw [fset23, plc0]
        exact congrArg (fun l => [D.t l, D.int (m : Int)]) e
      · have e : w'.length ≤ 0 + m := h
        omega
    obtain ⟨s6, rfl⟩ := h
    match i, e with
    | 0, e =>
      cases e
      walk_at "go"
      refine ⟨by rw [List.length_map, hl]; exact ho.1, ?_⟩
      rw [show st + (((0 : Nat) : Int) - 1) * (g : Int) = st - g by omega]
      exact ⟨_, by cases o <;> rfl⟩
    | 1, e =>
      cases e
      walk_at "go"
      refine ⟨by rw [List.length_map, hl]; exact ho.2.1, ?_⟩
      rw [show st + (((1 : Nat) : Int) - 1) * (g : Int) = st by omega]
      exact ⟨_, by cases o <;> rfl⟩
    | 2, e =>
      cases e
      walk_at "go"
      refine ⟨by rw [List.length_map, hl]; exact ho.2.2, ?_⟩
      rw [show st + (((2 : Nat) : Int) - 1) * (g : Int) = st + g by omega]
      exact ⟨_, by cases o <;> rfl⟩
    ⟩

abbrev s_law_alike : Stmt := topS 45
abbrev N_law_alike : List Str := ["_law_found", "_law_due", "_law_k"]
theorem sc_law_alike : FnScope N_law_alike ["_law_found", "_law_due"] (defScope s_law_alike) := ⟨rfl, rfl, rfl, by decide +kernel, rfl, by decide +kernel, by decide +kernel⟩
abbrev p_law_alike0 : List D → (D → Prop) → Prop := fun ds k => ∃ i : Int, ds = [.int i, .int i] ∧ k (.bl true)
theorem c_law_alike0 (T : Top mg) (Fd : Df K mg "_law_alike" s_law_alike ["_law_found", "_law_due"]) : Cal P w K mg base 1 "_law_alike" ["_law_found", "_law_due"] (spP K p_law_alike0) :=
  cal_P _ Fd sc_law_alike (fun ds kk h => by
    obtain ⟨i, rfl, hk⟩ := h
    rfl) fun f cdv A outer s H E hr => ⟨_, 
    (pss_cons (ps_if (pt_val (pe_callB call_isiT (by rfl) T.isinstance b_isinstance (pa_cons (pv 1) (pa_cons (pe_tup (pa_cons (pe_bltn (v := .ty "tuple") (by rfl) T.tuple b_tuple rfl) (pa_cons (pe_bltn (v := .ty "list") (by rfl) T.list b_list rfl) pa_nil))) pa_nil)))) 
      (pss_cons ps_never 
      (pss_cons ps_never 
      (pss_one ps_never))) pss_nil) 
    (pss_cons (ps_if (PW.pt (pw_or (pt_cmpR op_isN (pv 1) pe_non (nomark _)) (pw_or1 (pt_val (pe_callB call_isi (by rfl) T.isinstance b_isinstance (pa_cons (pv 1) (pa_cons (pe_bltn (v := .ty "str") (by rfl) T.str b_str rfl) pa_nil))))))) 
      (pss_one (ps_ret (pe_and (pe_cmpR op_eq (pv 0) (pv 1) (nomark _)) (pe_one (pe_cmpR op_eq (pe_callB call_isi (by rfl) T.isinstance b_isinstance (pa_cons (pv 0) (pa_cons (pe_bltn (v := .ty "str") (by rfl) T.str b_str rfl) pa_nil))) (pe_callB call_isi (by rfl) T.isinstance b_isinstance (pa_cons (pv 1) (pa_cons (pe_bltn (v := .ty "str") (by rfl) T.str b_str rfl) pa_nil))) (nomark _)))))) pss_nil) 
    (pss_one (ps_ret (pe_and (pe_callB call_isi (by rfl) T.isinstance b_isinstance (pa_cons (pv 0) (pa_cons (pe_bltn (v := .ty "int") (by rfl) T.int b_int rfl) pa_nil))) (pe_and (pe_cmpR op_eq (pe_callB call_isi (by rfl) T.isinstance b_isinstance (pa_cons (pv 0) (pa_cons (pe_bltn (v := .ty "bool") (by rfl) T.bool b_bool rfl) pa_nil))) (pe_callB call_isi (by rfl) T.isinstance b_isinstance (pa_cons (pv 1) (pa_cons (pe_bltn (v := .ty "bool") (by rfl) T.bool b_bool rfl) pa_nil))) (nomark _)) (pe_one (pe_cmpR op_eq (pv 0) (pv 1) (nomark _))))))))), fun B0 H0 ds kk h => by
    obtain ⟨i, rfl, hk⟩ := h
    walk_at "s"; show Sm _ _ [.d _, .d _, .no] _ _
    walk_at "go"
    refine .inl ⟨_, rfl, ?_⟩
    walk_at "go"
    refine br_d' (fun hz => nomatch hz) fun _ => ?_
    walk_at "go"
    refine br_dt rfl ?_
    walk_at "go"
    rw [decide_eq_true (rfl : i = i)]
    exact hk
    ⟩

abbrev p_law_alike : List D → (D → Prop) → Prop := fun ds k => (∃ i : Int, ds = [.int i, .int i] ∧ k (.bl true)) ∨ ∃ a b : Int, ds = [.t [.int a, .int b], .t [.int a, .int b]] ∧ k (.bl true)
theorem c_law_alike (T : Top mg) (C_law_alike : Cal P w K mg base 1 "_law_alike" ["_law_found", "_law_due"] (spP K p_law_alike0)) (Fd : Df K mg "_law_alike" s_law_alike ["_law_found", "_law_due"]) : Cal P w K mg base 2 "_law_alike" ["_law_found", "_law_due"] (spP K p_law_alike) :=
  cal_P _ Fd sc_law_alike (fun ds kk h => by
    obtain ⟨i, rfl, hk⟩ | ⟨a, b, rfl, hk⟩ := h
    all_goals rfl) fun f cdv A outer s H E hr => ⟨_, 
    (pss_cons (ps_if (pt_val (pe_callB call_isiT (by rfl) T.isinstance b_isinstance (pa_cons (pv 1) (pa_cons (pe_tup (pa_cons (pe_bltn (v := .ty "tuple") (by rfl) T.tuple b_tuple rfl) (pa_cons (pe_bltn (v := .ty "list") (by rfl) T.list b_list rfl) pa_nil))) pa_nil)))) 
      (pss_cons (ps_if (PW.pt (pw_or (pt_not (pt_val (pe_callB call_isiT (by rfl) T.isinstance b_isinstance (pa_cons (pv 0) (pa_cons (pe_tup (pa_cons (pe_bltn (v := .ty "tuple") (by rfl) T.tuple b_tuple rfl) (pa_cons (pe_bltn (v := .ty "list") (by rfl) T.list b_list rfl) pa_nil))) pa_nil))))) (pw_or1 (pt_cmpR op_ne (pe_callB call_isi (by rfl) T.isinstance b_isinstance (pa_cons (pv 0) (pa_cons (pe_bltn (v := .ty "list") (by rfl) T.list b_list rfl) pa_nil))) (pe_callB call_isi (by rfl) T.isinstance b_isinstance (pa_cons (pv 1) (pa_cons (pe_bltn (v := .ty "list") (by rfl) T.list b_list rfl) pa_nil))) (nomark _))))) 
        (pss_one (ps_ret pe_bl)) pss_nil) 
      (pss_cons (ps_if (pt_cmpR op_ne (pe_callB call_len_seq (by rfl) T.len b_len (pa_cons (pv 0) pa_nil)) (pe_callB call_len_seq (by rfl) T.len b_len (pa_cons (pv 1) pa_nil)) (nomark _)) 
        (pss_one (ps_ret pe_bl)) pss_nil) 
      (pss_one (ps_ret (pe_cmpR (op_eqD hr.units) (pe_lc (own := [("_law_k", 2)]) (g := gName 2) (by rfl) sc_law_alike.nd (pi_range1 (by rfl) T.range (pa_cons (pe_callB call_len_seq (by rfl) T.len b_len (pa_cons (pv 1) pa_nil)) pa_nil)) (blkOk_by (own := [("_law_k", 2)]) (N := N_law_alike) (sc := defScope s_law_alike) (by decide +kernel)) (fun _ _ _ _ _ => (pg_name (i := 2) sc_law_alike.nd rfl (.inl rfl))) (fun _ _ _ _ _ => (pts_one (pt_not (pt_val (pcal C_law_alike hr (by decide) (pa_cons (pe_ix (show IxR _ (rIxT K) from ix_tup) (pv 0) (pv 2) (fun _ _ => rfl)) (pa_cons (pe_ix (show IxR _ (rIxT K) from ix_tup) (pv 1) (pv 2) (fun _ _ => rfl)) pa_nil))))))) (fun _ _ _ _ _ => (pv 2))) (pe_lst pa_nil) (nomark _)))))) pss_nil) 
    (pss_cons (ps_if (PW.pt (pw_or (pt_cmpR op_isN (pv 1) pe_non (nomark _)) (pw_or1 (pt_val (pe_callB call_isi (by rfl) T.isinstance b_isinstance (pa_cons (pv 1) (pa_cons (pe_bltn (v := .ty "str") (by rfl) T.str b_str rfl) pa_nil))))))) 
      (pss_one (ps_ret (pe_and (pe_cmpR op_eq (pv 0) (pv 1) (nomark _)) (pe_one (pe_cmpR op_eq (pe_callB call_isi (by rfl) T.isinstance b_isinstance (pa_cons (pv 0) (pa_cons (pe_bltn (v := .ty "str") (by rfl) T.str b_str rfl) pa_nil))) (pe_callB call_isi (by rfl) T.isinstance b_isinstance (pa_cons (pv 1) (pa_cons (pe_bltn (v := .ty "str") (by rfl) T.str b_str rfl) pa_nil))) (nomark _)))))) pss_nil) 
    (pss_one (ps_ret (pe_and (pe_callB call_isi (by rfl) T.isinstance b_isinstance (pa_cons (pv 0) (pa_cons (pe_bltn (v := .ty "int") (by rfl) T.int b_int rfl) pa_nil))) (pe_and (pe_cmpR op_eq (pe_callB call_isi (by rfl) T.isinstance b_isinstance (pa_cons (pv 0) (pa_cons (pe_bltn (v := .ty "bool") (by rfl) T.bool b_bool rfl) pa_nil))) (pe_callB call_isi (by rfl) T.isinstance b_isinstance (pa_cons (pv 1) (pa_cons (pe_bltn (v := .ty "bool") (by rfl) T.bool b_bool rfl) pa_nil))) (nomark _)) (pe_one (pe_cmpR op_eq (pv 0) (pv 1) (nomark _))))))))), fun B0 H0 ds kk h => by
    obtain ⟨i, rfl, hk⟩ | ⟨a, b, rfl, hk⟩ := h
    rotate_left
    · walk_at "s"; show Sm _ _ [.d _, .d _, .no] _ _
      walk_at "go"
      refine br_nd (fun _ => ?_) fun hz => absurd rfl hz
      walk_at "go"
      refine br_nd (fun _ => ?_) fun hz => absurd rfl hz
      walk_at "go"
      refine evp_eq0 (evp_of_n ?_)
      refine evn_lcNo (ts := [2]) ?_ (fun j hj => by rw [List.mem_singleton.mp hj]; decide)
      walk_at "go"
      refine ⟨fun d hd => ?_, ?_⟩
      · have hd2 : d = .int ((0 : Nat) : Int) ∨ d = .int ((1 : Nat) : Int) := by
          rcases List.mem_cons.mp hd with z | z
          · exact .inl z
          · exact .inr (List.mem_singleton.mp z)
        rcases hd2 with rfl | rfl
        · walk_at "go"
          rfl
        · walk_at "go"
          rfl
      · walk_at "go"
        exact hk
    · walk_at "s"; show Sm _ _ [.d _, .d _, .no] _ _
      walk_at "go"
      refine .inl ⟨_, rfl, ?_⟩
      walk_at "go"
      refine br_d' (fun hz => nomatch hz) fun _ => ?_
      walk_at "go"
      refine br_dt rfl ?_
      walk_at "go"
      rw [decide_eq_true (rfl : i = i)]
      exact hk
    ⟩

abbrev s_law : Stmt := topS 56
abbrev N_law : List Str := ["_law_script", "_law_row", "_law_one", "_law_other_here", "_law_leaps_here", "_law_now", "_law_turn", "_law_later", "_law_here", "_law_near", "_law_there", "_law_old", "_law_place", "_law_many", "_law_share", "_law_scale", "_law_stone", "_law_over"]
theorem sc_law : FnScope N_law ["_law_script"] (defScope s_law) := ⟨rfl, rfl, rfl, by decide +kernel, rfl, by decide +kernel, by decide +kernel⟩
def spLaw (K : PySem.W.Frag) : Sp := fun vs H Q _ => ∃ (a : Addr) (ns : List Int), vs = [.ref a] ∧ SqL K H a (ns.map V.int) ∧ Only H ∧ ∀ H', Q (.bl true) H'
theorem sc_ok {K : PySem.W.Frag} {H : Hp} {a : Addr} {ns : List Int} (h : SqL K H a (ns.map V.int)) (hO : Only H) : ScOk K H a ns := by
  rcases h with h | h
  · rcases h with h | ⟨o, h⟩
    · rcases hO a with z | ⟨o, xs, z⟩
      · rw [z] at h; cases h
      · rw [z] at h; cases h
    · exact .inl ⟨o, h⟩
  · exact .inr fun H' => .inr h
theorem raw_lst {ta : TA} {j : Nat} {u : TS} {Dn : Ends} {σ : L2.St} {H : Hp} (h : ta σ H fun vs H1 => vs.length ≤ sizeLine ∧ ∀ p, H1 p = none → u Dn (σ.set j (some (.ref p))) (upd H1 p (.lst vs))) : tSeq (tAsg (tLst ta) (gName j)) u Dn σ H := h
theorem sm_run {W : Wd} {ts : TS} {ρ : List Sl} {σ : L2.St} {H : Hp} {Dn : Ends} (h : Sm W ts ρ (fun _ => False) (fun d => d = .v (.bl true))) (rh : Rh W ρ (fun _ => none) σ H) (r : ∀ H', Dn.rt (.bl true) H') : ts Dn σ H :=
  h _ σ H Dn rh (fun _ _ _ _ z => z.elim) fun v d B' H' hd _ _ av => by
    subst hd
    cases av
    exact r H'
theorem rh_no {W : Wd} {B : Hp} {σ : L2.St} {H : Hp} (c : Cor W B H) (n : Nat) (hn : σ.length = n) : Rh W (List.replicate n .no) B σ H := by
  have at_ : ∀ (i : Nat) (s : Sl), (List.replicate n Sl.no)[i]? = some s → i < n ∧ s = .no := fun i s e => by
    rw [List.getElem?_replicate] at e
    split at e
    · next h => exact ⟨h, (Option.some.inj e).symm⟩
    · cases e
  refine ⟨c, by rw [List.length_replicate]; exact hn, fun i s e => ?_, fun i j s t p q e1 e2 a1 a2 => ?_⟩
  · obtain ⟨hi, rfl⟩ := at_ i s e
    exact ⟨_, List.getElem?_eq_getElem (by omega), trivial⟩
  · rw [(at_ i s e1).2] at a1
    cases a1
theorem rh_law {K : PySem.W.Frag} {H : Hp} {σ : L2.St} {p a : Addr} {ns : List Int} (hp : H p = none) (hs : ScOk K H a ns) (n : Nat) (hn : σ.length = n) (h1 : 1 < n) :
    Rh ⟨K, fun _ => none, H, fun _ => False⟩ ((List.replicate n .no).set 1 (.row p)) (fun _ => none) (σ.set 1 (some (.ref p))) (upd H p (.lst [.ref a, .int 0, .int 4872, .int 0])) := by
  have keep : ∀ b o, H b = some o → upd H p (.lst [.ref a, .int 0, .int 4872, .int 0]) b = some o := fun b o e => by
    rw [upd_ne (fun q => by rw [q, hp] at e; cases e)]
    exact e
  have c : Cor ⟨K, fun _ => none, H, fun _ => False⟩ (fun _ => none) (upd H p (.lst [.ref a, .int 0, .int 4872, .int 0])) :=
    ⟨fun b o e => (nomatch e), fun b o e => (nomatch e), fun b o _ e => keep b o e, fun b o e => (nomatch e), fun b z => z.elim, fun b z => z.elim⟩
  refine (rh_no c n hn).put 1 _ (.row p) ⟨rfl, rfl, .inl hp, a, ns, 0, 4872, 0, Int.le_refl _, upd_same, ?_⟩ fun q e j t hj ht z => ?_
  · rcases hs with ⟨o, h⟩ | h
    · exact .inl ⟨o, keep _ _ h⟩
    · exact .inr h
  · rw [List.getElem?_replicate] at ht
    split at ht
    · cases ht
      cases z
    · cases ht
/-- the law's dict -/
def keyS (T : Tr) (w : Wo) : List Key := (plc T w).map Sum.inl
theorem key_nd (T : Tr) (w : Wo) : ndD T w = keyD (keyS T w) := by
  unfold keyD keyS ndD iD
  rw [List.map_map]
  rfl
theorem keyS_inj {T : Tr} (k : T.Ok) (a b : Wo) (h : keyS T a = keyS T b) : a = b := by
  refine plc_inj k ?_
  have e := congrArg (List.map fun x : Key => match x with | .inl i => i | .inr _ => 0) h
  unfold keyS at e
  rw [List.map_map, List.map_map] at e
  have id1 : ∀ l : List Int, l.map ((fun x : Key => match x with | .inl i => i | .inr _ => 0) ∘ Sum.inl) = l := fun l => List.map_id l
  rw [id1, id1] at e
  exact e
abbrev pvD (v : Nat × Nat) : D := .t [.int (v.1 : Int), .int (v.2 : Int)]
abbrev kvL (T : Tr) (M : List (Wo × (Nat × Nat))) : List (List Key × D) := M.map fun e => (keyS T e.1, pvD e.2)
theorem get_law {T : Tr} (k : T.Ok) (M : List (Wo × (Nat × Nat))) (u : Wo) : (getA (kvL T M) (keyS T u)).getD (pvD (0, 0)) = pvD (vl Prod.fst (getA M u), vl Prod.snd (getA M u)) := by
  rw [get_map (keyS_inj k) pvD]
  cases getA M u <;> rfl
theorem get_mem {M : List (Wo × (Nat × Nat))} (hK : Ks M) {j : Nat} {e : Wo × (Nat × Nat)} (h : M[j]? = some e) : getA M e.1 = some e.2 := by
  induction M generalizing j with
  | nil => cases h
  | cons x M ih =>
    unfold Ks at hK
    rw [List.map_cons] at hK
    obtain ⟨h1, h2⟩ := List.nodup_cons.mp hK
    rw [get_cons]
    cases j with
    | zero =>
      cases h
      rw [if_pos rfl]
    | succ j =>
      have hm : e.1 ∈ M.map (·.1) := List.mem_map.mpr ⟨e, List.mem_of_getElem? h, rfl⟩
      rw [if_neg (fun z : x.1 = e.1 => h1 (by rw [z]; exact hm))]
      exact ih h2 h
def leaptF (ps : List Int) : D → D
  | .t [.v (.int s), .v (.int t)] => .t (iD (lpt ps s.toNat t.toNat))
  | d => d
theorem lps_lt3 {ps : List Int} {p : Nat × Nat} (h : p ∈ lps ps) : p.1 < 3 ∧ p.2 < 3 := by
  have h1 : ∀ p ∈ allP, p.1 < 3 ∧ p.2 < 3 := by decide
  exact h1 p (List.mem_filter.mp h).1
theorem lps_9 (ps : List Int) : (lps ps).length ≤ 9 := Nat.le_trans (List.length_filter_le _ _) (by decide)
theorem nbs_q (w : Wo) : (6 : Int).fdiv ((nbs w).length : Int) = (wt true w : Nat) ∧ (nbs w).length ≤ 3 ∧ 2 ≤ (nbs w).length ∧ wt true w ≤ 3 := by
  cases w with
  | nil => exact ⟨rfl, by decide, by decide, by decide⟩
  | cons c w =>
    have e : wt true (c :: w) = 2 := by
      unfold wt
      rw [if_pos rfl, if_neg (List.cons_ne_nil _ _)]
    rw [e]
    exact ⟨(by decide : (6 : Int).fdiv ((3 : Nat) : Int) = ((2 : Nat) : Int)), Nat.le_refl _, Nat.le_of_ble_eq_true rfl, by decide⟩
theorem nbs_le (w : Wo) : ∀ u ∈ nbs w, u.length ≤ w.length + 1 := by
  intro u hu
  cases w with
  | nil =>
    rcases List.mem_cons.mp hu with e | e
    · rw [e]; exact Nat.le_refl _
    · rw [List.mem_singleton.mp e]; exact Nat.le_refl _
  | cons c w =>
    rcases List.mem_cons.mp hu with e | e
    · rw [e]; exact Nat.le_refl _
    · rcases List.mem_cons.mp e with e | e
      · rw [e]; exact Nat.le_refl _
      · rw [List.mem_singleton.mp e]
        show w.length ≤ w.length + 1 + 1
        omega
theorem Pn_pos (ch : Bool) : ∀ (n : Nat) (f : Wo → Nat), (∀ w, 0 < f w) → ∀ w, 0 < Pn ch n f w
  | 0, f, h, w => h w
  | n + 1, f, h, w => by
    refine Pn_pos ch n (Pw ch f) (fun v => ?_) w
    unfold Pw
    refine Nat.mul_pos ?_ ?_
    · unfold wt
      split <;> (try split) <;> decide
    · cases v with
      | nil => exact Nat.lt_of_lt_of_le (h [true]) (Nat.le_add_right _ _)
      | cons c v => exact Nat.lt_of_lt_of_le (h (true :: c :: v)) (Nat.le_add_right _ _)
theorem perm_sum {l1 l2 : List Wo} (h : l1.Perm l2) (f : Wo → Nat) : (l1.map f).sum = (l2.map f).sum := by
  induction h with
  | nil => rfl
  | cons x _ ih => rw [List.map_cons, List.map_cons, List.sum_cons, List.sum_cons, ih]
  | swap x y l =>
    rw [List.map_cons, List.map_cons, List.map_cons, List.map_cons, List.sum_cons, List.sum_cons, List.sum_cons, List.sum_cons]
    omega
  | trans _ _ h1 h2 => exact h1.trans h2
abbrev lwS (p : Addr) (T : Tr) (w1 w2 : Wo) (n : Nat) (x5 x6 x7 x8 x9 x10 x11 x12 x13 x14 x15 x16 x17 : Sl) : List Sl := [.no, .row p, .d (ndD T w1), .d (ndD T w2), .d (.int (n : Int)), x5, x6, x7, x8, x9, x10, x11, x12, x13, x14, x15, x16, x17]
theorem near_map {T : Tr} {w : Wo} {ns : List Wo} (h : (lps (plc T w)).map (fun p => lpt (plc T w) p.1 p.2) = ns.map (plc T)) : ((lps (plc T w)).map pairN).map (leaptF (plc T w)) = ns.map (ndD T) := by
  have e := congrArg (List.map fun l : List Int => D.t (iD l)) h
  rw [List.map_map, List.map_map] at e
  rw [List.map_map]
  exact e
theorem nr_map : ∀ ρ : List Sl, noRows (ρ.map noRow) = true
  | [] => rfl
  | s :: r => by
    have h := nr_map r
    cases s <;> exact h
theorem nr_set {s : Sl} (hs : ∀ p, s ≠ .row p) : ∀ (ρ : List Sl) (i : Nat), noRows ρ = true → noRows (ρ.set i s) = true
  | [], i, h => rfl
  | t :: r, 0, h => by
    have h' : noRows r = true := by
      cases t with
      | row q => cases h
      | _ => exact h
    show noRows (s :: r) = true
    cases s with
    | row q => exact absurd rfl (hs q)
    | _ => exact h'
  | t :: r, i + 1, h => by
    show noRows (t :: r.set i s) = true
    cases t with
    | row q => cases h
    | _ => exact nr_set hs r i h
theorem nr_wipe (ρ : List Sl) : ∀ vs : List Nat, noRows (wipeR ρ vs) = true
  | [] => nr_map ρ
  | v :: vs => nr_set (fun p z => by cases z) _ _ (nr_wipe ρ vs)
theorem nr_setd {ρ : List Sl} (h : noRows ρ = true) (i : Nat) (x : D) : noRows (ρ.set i (.d x)) = true := nr_set (fun p z => by cases z) _ _ h
theorem ok_law (T : Top mg) (C_law_state : Cal P w K mg base 4 "_law_state" ["_law_row", "_law_most"] (spR K p_law_state)) (C_law_taken : Cal P w K mg base 1 "_law_taken" ["_law_row", "_law_many"] (spR K p_law_taken)) (C_law_other : Cal P w K mg base 4 "_law_other" ["_law_row", "_law_state_here", "_law_most"] (spR K p_law_other)) (C_law_leaps : Cal P w K mg base 1 "_law_leaps" ["_law_state_here"] (spP K p_law_leaps)) (C_law_leapt : Cal P w K mg base 1 "_law_leapt" ["_law_state_here", "_law_stone", "_law_over"] (spP K p_law_leapt)) (C_law_pick : Cal P w K mg base 2 "_law_pick" ["_law_row", "_law_things"] (spR K p_law_pick)) (C_law_alike : Cal P w K mg base 2 "_law_alike" ["_law_found", "_law_due"] (spP K p_law_alike)) (C_count_words : Cal P w K mg base 8 "count_words" ["one", "other", "leaps"] (spP K p_count_words)) (C_law_lowered : Cal P w K mg base 2 "_law_lowered" ["_law_above", "_law_low"] (spP K p_law_lowered)) (C_chance_after : Cal P w K mg base 8 "chance_after" ["one", "other", "leaps"] (spP K p_chance_after)) {f : Addr} {fd : FuncData} (F : Fun K "law" "law" s_law f fd) : FnOk P w K mg base CX0 9 f fd ["_law_script"] (spLaw K) := by
  refine F.ok sc_law (fun vs H Q E h => ?_) (fun cdv A outer s H vs Q E hr h => ?_)
  · obtain ⟨a, ns, rfl, _⟩ := h
    rfl
  · obtain ⟨a, ns, rfl, hS, hO, k⟩ := h
    refine ⟨_, 
    (pss_cons (ps_set (i := 1) sc_law.nd rfl (.inl rfl) (pe_lst (pa_cons (pv 0) (pa_cons pe_int (pa_cons pe_int (pa_cons pe_int pa_nil)))))) 
    (pss_cons (ps_set (i := 2) sc_law.nd rfl (.inl rfl) (pcal C_law_state hr (by decide) (pa_cons (pv 1) (pa_cons pe_int pa_nil)))) 
    (pss_cons (ps_par (i := 3) (j := 4) (by rfl) sc_law.nd rfl rfl (by decide) rfl rfl (pa_cons (pcal C_law_other hr (by decide) (pa_cons (pv 1) (pa_cons (pv 2) (pa_cons pe_int pa_nil)))) (pa_cons (pcal C_law_taken hr (by decide) (pa_cons (pv 1) (pa_cons pe_int pa_nil))) pa_nil)) (by rfl)) 
    (pss_cons (ps_set (i := 5) sc_law.nd rfl (.inl rfl) (pe_disp1 (hu_of hr) (pv 2) (pe_tup (pa_cons pe_int (pa_cons pe_int pa_nil))))) 
    (pss_cons (ps_for PassesOwn.never rfl (pi_range1 (by rfl) T.range (pa_cons (pv 4) pa_nil)) (pg_name (i := 6) sc_law.nd rfl (.inl rfl)) 
      (pss_cons (ps_set (i := 7) sc_law.nd rfl (.inl rfl) pe_dnewT) 
      (pss_cons (ps_lock (ps_for PassesOwn.never rfl (pi_keys (pv 5)) (pg_name (i := 8) sc_law.nd rfl (.inr rfl)) 
        (pss_cons (ps_setLc (i := 9) (own := [("_law_stone", 16), ("_law_over", 17)]) (g := gTup K 2 (gCons (gName 16) (gCons (gName 17) (gNil)))) rfl sc_law.nd rfl rfl (sw_true rfl rfl rfl (by decide +kernel)) (pi_list (pcal C_law_leaps hr (by decide) (pa_cons (pv 8) pa_nil))) (blkOk_by (own := [("_law_stone", 16), ("_law_over", 17)]) (N := N_law) (sc := defScope s_law) (by decide +kernel)) (fun _ _ _ _ _ => (pg_tup rfl (pgs_cons (pg_name (i := 16) sc_law.nd rfl (.inl rfl)) (pgs_cons (pg_name (i := 17) sc_law.nd rfl (.inl rfl)) pgs_nil)))) (fun _ _ _ _ _ => pts_nil) (fun _ _ _ _ _ => (pcal C_law_leapt hr (by decide) (pa_cons (pv 8) (pa_cons (pv 16) (pa_cons (pv 17) pa_nil)))))) 
        (pss_one (ps_for PassesOwn.never rfl (pi_list (pv 9)) (pg_name (i := 10) sc_law.nd rfl (.inl rfl)) 
          (pss_cons (ps_set (i := 11) sc_law.nd rfl (.inl rfl) (pe_dget2 (hu_of hr) (pv 7) (pv 10) (pe_tup (pa_cons pe_int (pa_cons pe_int pa_nil))) ⟨rfl, rfl, rfl, rfl⟩)) 
          (pss_one (ps_dput (hu_of hr) (pv 7) (pv 10) (pe_tup (pa_cons (pe_op op_add (pe_ix ix_tup (pv 11) pe_int (fun _ _ => rfl)) (pe_ix ix_tup (pe_dget (hu_of hr) (pv 5) (pv 8) (fun _ _ => rfl)) pe_int (fun _ _ => rfl))) (pa_cons (pe_op op_add (pe_ix ix_tup (pv 11) pe_int (fun _ _ => rfl)) (pe_op op_mul (pe_ix ix_tup (pe_dget (hu_of hr) (pv 5) (pv 8) (fun _ _ => rfl)) pe_int (fun _ _ => rfl)) (pe_op op_fdivN pe_int (pe_callB call_len_seq (by rfl) T.len b_len (pa_cons (pv 9) pa_nil))))) pa_nil))) rfl)))))))) 
      (pss_one (ps_set (i := 5) sc_law.nd rfl (.inl rfl) (pv 7)))))) 
    (pss_cons (ps_for PassesOwn.never rfl (pi_list (pe_lst (pa_cons (pv 3) (pa_cons (pcal C_law_pick hr (by decide) (pa_cons (pv 1) (pa_cons (pe_callTy (call_list_dT rfl) (by rfl) T.list b_list (pa_cons (pv 5) pa_nil)) pa_nil))) (pa_cons (pv 2) pa_nil))))) (pg_name (i := 12) sc_law.nd rfl (.inl rfl)) 
      (pss_cons (ps_asg (pe_dget2 (hu_of hr) (pv 5) (pv 12) (pe_tup (pa_cons pe_int (pa_cons pe_int pa_nil))) ⟨rfl, rfl, rfl, rfl⟩) (pg_tup rfl (pgs_cons (pg_name (i := 13) sc_law.nd rfl (.inl rfl)) (pgs_cons (pg_name (i := 14) sc_law.nd rfl (.inl rfl)) pgs_nil)))) 
      (pss_cons (ps_if (pt_not (pt_val (pcal C_law_alike hr (by decide) (pa_cons (pcal C_count_words hr (by decide) (pa_cons (pv 2) (pa_cons (pv 12) (pa_cons (pv 4) pa_nil)))) (pa_cons (pv 13) pa_nil))))) 
        (pss_one (ps_ret pe_bl)) pss_nil) 
      (pss_cons (ps_set (i := 15) sc_law.nd rfl (.inl rfl) pe_int) 
      (pss_cons (ps_for PassesOwn.never rfl (pi_range1 (by rfl) T.range (pa_cons (pv 4) pa_nil)) (pg_name (i := 6) sc_law.nd rfl (.inl rfl)) 
        (pss_one (ps_set (i := 15) sc_law.nd rfl (.inl rfl) (pe_op op_mul (pv 15) pe_int)))) 
      (pss_one (ps_if (pt_not (pt_val (pcal C_law_alike hr (by decide) (pa_cons (pcal C_chance_after hr (by decide) (pa_cons (pv 2) (pa_cons (pv 12) (pa_cons (pv 4) pa_nil)))) (pa_cons (pcal C_law_lowered hr (by decide) (pa_cons (pv 14) (pa_cons (pv 15) pa_nil))) pa_nil))))) 
        (pss_one (ps_ret pe_bl)) pss_nil))))))) 
    (pss_one (ps_ret pe_bl)))))))), ?_⟩
    walk_at "s"
    refine raw_lst ?_
    refine ⟨_, rfl, ?_⟩
    refine ⟨Nat.le_of_ble_eq_true rfl, fun p hp => ?_⟩
    refine sm_run ?_ (rh_law hp (sc_ok hS hO) 18 rfl (by decide)) (fun H' => k H')
    show Sm _ _ [.no, .row p, .no, .no, .no, .no, .no, .no, .no, .no, .no, .no, .no, .no, .no, .no, .no, .no] _ _
    walk_at "go"
    intro T' w1 kT hw1
    have hw1 : w1.length ≤ 5 := hw1
    walk_at "go"
    refine ⟨T', w1, 3, rfl, kT, by omega, by decide, fun w2 hw2 => ?_⟩
    walk_at "go"
    refine ⟨by decide, by decide, fun n hn => ?_⟩
    have hn : n ≤ 8 := Nat.le_of_lt_succ hn
    have h6 : 0 < 6 ^ n ∧ 6 ^ n < 1000000000 := ⟨Nat.pow_pos (by decide), Nat.lt_of_le_of_lt (Nat.pow_le_pow_right (by decide) hn) (by decide)⟩
    walk_at "go"
    refine sm_disp1 (Nat.le_of_ble_eq_true rfl) ?_
    walk_at "ge"
    refine ⟨keyS T' w1, key_nd T' w1, fun q => ?_⟩
    walk_at "go"
    refine ⟨by omega, fun i ρ => ∃ (M : List (Wo × (Nat × Nat))) (q : Addr) (s6 s8 s9 s10 s11 s12 s13 s14 s15 s16 s17 : Sl), ρ = lwS p T' w1 w2 n (.od q (kvL T' M)) s6 .no s8 s9 s10 s11 s12 s13 s14 s15 s16 s17 ∧ Ks M ∧ (∀ x ∈ M.map (·.1), x.length ≤ w1.length + i) ∧ M.length ≤ 3 ^ i ∧ (∀ f, S Prod.fst f M = Pn false i f w1) ∧ (∀ f, S Prod.snd f M = Pn true i f w1),
      ⟨[(w1, (1, 1))], q, _, _, _, _, _, _, _, _, _, _, _, rfl, List.nodup_cons.mpr ⟨List.not_mem_nil, List.nodup_nil⟩, fun x hx => by have e : x = w1 := List.mem_singleton.mp hx; rw [e]; exact Nat.le_refl _, Nat.le_refl _, fun f => (Nat.add_zero _).trans (Nat.one_mul _), fun f => (Nat.add_zero _).trans (Nat.one_mul _)⟩, fun i d ρ' e h => ?_, fun ρ' h => ?_⟩
    rotate_left
    · obtain ⟨M, q, s6, s8, s9, s10, s11, s12, s13, s14, s15, s16, s17, rfl, hK, hg, hl, hS1, hS2⟩ := h
      rw [List.length_map, List.length_range] at hg hl hS1 hS2
      have hM0 : 0 < M.length := by
        cases M with
        | nil =>
          have h1 := hS1 fun _ => 1
          have h2 := Pn_pos false n (fun _ => 1) (fun _ => Nat.one_pos) w1
          rw [← h1] at h2
          exact absurd h2 (by decide)
        | cons x M => exact Nat.succ_pos _
      have hM9 : M.length ≤ 6561 := Nat.le_trans hl (Nat.le_trans (Nat.pow_le_pow_right (by decide) hn) (by decide))
      walk_at "go"
      refine evp_of_n (evn_listD (i := 5) rfl ?_)
      walk_at "go"
      refine ⟨by rw [List.length_map, List.length_map]; exact hM0, by rw [List.length_map, List.length_map]; omega, fun i x hx => ?_⟩
      obtain ⟨u0, hu0, rfl⟩ : ∃ u : Wo, u.length ≤ 20 ∧ x = ndD T' u := by
        obtain ⟨kv, hkv, rfl⟩ := List.mem_map.mp (List.mem_of_getElem? hx)
        obtain ⟨e, he, rfl⟩ := List.mem_map.mp hkv
        have := hg e.1 (List.mem_map.mpr ⟨e, he, rfl⟩)
        exact ⟨e.1, by omega, (key_nd T' e.1).symm⟩
      clear hx
      walk_at "go"
      refine ⟨fun i ρ => ∃ (s6 s12 s13 s14 s15 : Sl), ρ = lwS p T' w1 w2 n (.od q (kvL T' M)) s6 .no s8 s9 s10 s11 s12 s13 s14 s15 s16 s17, ⟨_, _, _, _, _, rfl⟩, fun i d ρ' e h => ?_, fun ρ' h => ?_⟩
      rotate_left
      · obtain ⟨s6, s12, s13, s14, s15, rfl⟩ := h
        walk_at "go"
        rfl
      obtain ⟨s6, s12, s13, s14, s15, rfl⟩ := h
      obtain ⟨u, hu, rfl⟩ : ∃ u : Wo, u.length ≤ 20 ∧ d = ndD T' u := by
        rcases List.mem_cons.mp (List.mem_of_getElem? e) with z | z
        · exact ⟨w2, by omega, z⟩
        rcases List.mem_cons.mp z with z | z
        · exact ⟨u0, hu0, z⟩
        · exact ⟨w1, by omega, List.mem_singleton.mp z⟩
      have hv1 : vl Prod.fst (getA M u) = Pn false n (at1 u) w1 := (S_at Prod.fst u hK).symm.trans (hS1 (at1 u))
      have hv2 : vl Prod.snd (getA M u) = Pn true n (at1 u) w1 := (S_at Prod.snd u hK).symm.trans (hS2 (at1 u))
      walk_at "go"
      refine ⟨keyS T' u, key_nd T' u, ?_⟩
      change Bnd _ _ _ ((getA (kvL T' M) (keyS T' u)).getD (pvD (0, 0))) _ _
      rw [get_law kT, hv1, hv2]
      walk_at "go"
      refine ⟨T', u, w1, n, rfl, kT, hu, by omega, hn, ?_⟩
      walk_at "go"
      refine .inl ⟨_, rfl, ?_⟩
      walk_at "go"
      refine ⟨by omega, fun i ρ => ∃ (s6 : Sl), ρ = lwS p T' w1 w2 n (.od q (kvL T' M)) s6 .no s8 s9 s10 s11 (.d (ndD T' u)) (.d (.int (Pn false n (at1 u) w1 : Nat))) (.d (.int (Pn true n (at1 u) w1 : Nat))) (.d (.int ((6 ^ i : Nat) : Int))) s16 s17, ⟨_, rfl⟩, fun i d ρ' e h => ?_, fun ρ' h => ?_⟩
      · obtain ⟨s6, rfl⟩ := h
        walk_at "go"
        rw [show ((6 ^ i : Nat) : Int) * 6 = ((6 ^ (i + 1) : Nat) : Int) by rw [Nat.pow_succ, Int.natCast_mul]; rfl]
        exact ⟨_, rfl⟩
      obtain ⟨s6, rfl⟩ := h
      rw [List.length_map, List.length_range]
      walk_at "go"
      refine ⟨T', u, w1, n, rfl, kT, hu, by omega, hn, ?_⟩
      walk_at "go"
      refine ⟨h6.1, h6.2, ?_⟩
      walk_at "go"
      refine .inr ⟨_, _, rfl, ?_⟩
      walk_at "go"
      exact ⟨_, _, _, _, _, rfl⟩
    obtain ⟨M, q, s6, s8, s9, s10, s11, s12, s13, s14, s15, s16, s17, rfl, hK, hg, hl, hS1, hS2⟩ := h
    have hi : i < n := by
      have := (List.getElem?_eq_some_iff.mp e).1
      rw [List.length_map, List.length_range] at this
      exact this
    have hM9 : M.length ≤ 6561 := Nat.le_trans hl (Nat.le_trans (Nat.pow_le_pow_right (by decide) (show i ≤ 8 by omega)) (by decide))
    walk_at "go"
    refine sm_newT fun p2 => ?_
    walk_at "go"
    refine sm_lock (i := 5) rfl fun ob ks hks => ?_
    refine sm_forCS (src_keys (i := 5) rfl ?_)
    refine ⟨fun j ρ => ∃ (L : List (Wo × (Nat × Nat))) (s8 s9 s10 s11 s16 s17 : Sl), ρ = lwS p T' w1 w2 n (.fz q ob ks (kvL T' M)) (.d d) (.od p2 (kvL T' L)) s8 s9 s10 s11 s12 s13 s14 s15 s16 s17 ∧ Ks L ∧ (∀ x ∈ L.map (·.1), x.length ≤ w1.length + (i + 1)) ∧ L.length ≤ 3 * j ∧ (∀ f, S Prod.fst f L = S Prod.fst (Pw false f) (M.take j)) ∧ (∀ f, S Prod.snd f L = S Prod.snd (Pw true f) (M.take j)),
      ⟨[], _, _, _, _, _, _, rfl, List.nodup_nil, fun x hx => (nomatch hx), Nat.le_refl _, fun f => rfl, fun f => rfl⟩, fun j ρ' h => ?_, fun j d2 ρ' e2 h => ?_, fun ρ' h => ?_⟩
    · obtain ⟨L, s8, s9, s10, s11, s16, s17, rfl, _⟩ := h
      rfl
    rotate_left
    · obtain ⟨L, s8, s9, s10, s11, s16, s17, rfl, hK2, hg2, hl2, hT1, hT2⟩ := h
      rw [List.length_map, List.length_map] at hl2
      rw [List.length_map, List.length_map, List.take_length] at hT1 hT2
      refine ⟨rfl, sm_move (i := 5) (j := 7) rfl ⟨L, p2, _, _, _, _, _, _, _, _, _, _, _, rfl, hK2, hg2, ?_, fun f => ?_, fun f => ?_⟩⟩
      · rw [Nat.pow_succ]
        omega
      · rw [hT1, hS1]
        rfl
      · rw [hT2, hS2]
        rfl
    obtain ⟨L, s8, s9, s10, s11, s16, s17, rfl, hK2, hg2, hl2, hT1, hT2⟩ := h
    rw [List.getElem?_map, List.getElem?_map] at e2
    cases eM : M[j]? with
    | none => rw [eM] at e2; cases e2
    | some e1 =>
    obtain ⟨w, a1, b1⟩ := e1
    rw [eM] at e2
    cases e2
    have hj : j < M.length := (List.getElem?_eq_some_iff.mp eM).1
    have hwl : w.length ≤ w1.length + i := hg w (List.mem_map.mpr ⟨_, List.mem_of_getElem? eM, rfl⟩)
    obtain ⟨ns', hperm, hnear⟩ := near_ok kT w
    have hnm := near_map hnear
    have hq := nbs_q w
    have hnl : ns'.length = (nbs w).length := hperm.length_eq
    show Bnd _ _ _ (keyD (keyS T' w)) _ _
    rw [← key_nd]
    walk_at "go"
    refine sm_set (evp_of_n (evn_lcS ?_))
    walk_at "ge"
    refine ⟨plc_len _ _, ?_⟩
    walk_at "ge"
    refine ⟨by rw [List.length_map]; exact Nat.le_trans (lps_9 _) (by decide), leaptF (plc T' w), fun d hd => ?_, ?_⟩
    · obtain ⟨pr, hpr, rfl⟩ := List.mem_map.mp hd
      have h3 := lps_lt3 hpr
      walk_at "ge"
      refine ⟨nr_setd (nr_setd (nr_wipe _ _) _ _) _ _, ?_⟩
      walk_at "ge"
      exact ⟨plc T' w, pr.1, pr.2, rfl, plc_len _ _, h3.1, h3.2, rfl⟩
    rw [hnm]
    have hget : getA (kvL T' M) (keyS T' w) = some (pvD (a1, b1)) := by
      rw [get_map (keyS_inj kT) pvD, get_mem hK eM]
      rfl
    walk_at "go"
    refine ⟨fun m ρ => ∃ (L' : List (Wo × (Nat × Nat))) (s10 s11 s16 s17 : Sl), ρ = lwS p T' w1 w2 n (.fz q ob ks (kvL T' M)) (.d d) (.od p2 (kvL T' L')) (.d (ndD T' w)) (.d (.l (ns'.map (ndD T')))) s10 s11 s12 s13 s14 s15 s16 s17 ∧ Ks L' ∧ (∀ x ∈ L'.map (·.1), x.length ≤ w1.length + (i + 1)) ∧ L'.length ≤ 3 * j + m ∧ (∀ f, S Prod.fst f L' = S Prod.fst f L + a1 * ((ns'.take m).map f).sum) ∧ (∀ f, S Prod.snd f L' = S Prod.snd f L + b1 * wt true w * ((ns'.take m).map f).sum),
      ⟨L, _, _, _, _, rfl, hK2, hg2, hl2, fun f => rfl, fun f => rfl⟩, fun m d3 ρ' e3 h => ?_, fun ρ' h => ?_⟩
    rotate_left
    · obtain ⟨L', s10, s11, s16, s17, rfl, hK3, hg3, hl3, hT3, hT4⟩ := h
      rw [List.length_map] at hl3 hT3 hT4
      refine ⟨L', _, _, _, _, _, _, rfl, hK3, hg3, by omega, fun f => ?_, fun f => ?_⟩
      · rw [hT3, List.take_length, hT1, S_take_succ Prod.fst _ eM, perm_sum hperm f]
        show _ = _ + a1 * (wt false w * _)
        rw [show wt false w = 1 from if_neg (by decide), Nat.one_mul]
      · rw [hT4, List.take_length, hT2, S_take_succ Prod.snd _ eM, perm_sum hperm f, Nat.mul_assoc]
        rfl
    obtain ⟨L', s10, s11, s16, s17, rfl, hK3, hg3, hl3, hT3, hT4⟩ := h
    rw [List.getElem?_map] at e3
    cases eN : ns'[m]? with
    | none => rw [eN] at e3; cases e3
    | some v =>
    rw [eN] at e3
    cases e3
    have hm3 : m < 3 := Nat.lt_of_lt_of_le (List.getElem?_eq_some_iff.mp eN).1 (by rw [hnl]; exact hq.2.1)
    have hvl : v.length ≤ w1.length + (i + 1) := by
      have := nbs_le w v (hperm.mem_iff.mp (List.mem_of_getElem? eN))
      omega
    walk_at "go"
    refine sm_set ?_
    walk_at "ge"
    refine ⟨keyS T' v, key_nd T' v, ?_⟩
    rw [show ((getA (kvL T' L') (keyS T' v)).getD (D.t [D.v (V.int 0), D.v (V.int 0)])) = pvD (vl Prod.fst (getA L' v), vl Prod.snd (getA L' v)) from get_law kT L' v]
    walk_at "go"
    refine ⟨keyS T' w, pvD (a1, b1), key_nd T' w, hget, ?_⟩
    walk_at "go"
    refine ⟨keyS T' w, pvD (a1, b1), key_nd T' w, hget, ?_⟩
    walk_at "go"
    rw [List.length_map, hnl]
    refine ⟨⟨by omega, by omega⟩, ?_⟩
    rw [hq.1]
    walk_at "go"
    refine ⟨mulS' (by omega) (by omega) _, ?_⟩
    walk_at "go"
    dsimp only
    rw [← Int.natCast_mul, ← Int.natCast_add, ← Int.natCast_add]
    refine ⟨keyS T' v, key_nd T' v, by rw [List.length_map]; omega, ?_⟩
    have ep := put_map (keyS_inj kT) pvD L' v (vl Prod.fst (getA L' v) + a1, vl Prod.snd (getA L' v) + b1 * wt true w)
    refine ⟨putA L' v (vl Prod.fst (getA L' v) + a1, vl Prod.snd (getA L' v) + b1 * wt true w), _, _, _, _, by rw [show kvL T' (putA L' v (vl Prod.fst (getA L' v) + a1, vl Prod.snd (getA L' v) + b1 * wt true w)) = _ from ep.symm]; rfl, put_nd _ _ hK3, put_all _ hg3 hvl, Nat.le_trans (put_len _ _ _) (by omega), fun f => ?_, fun f => ?_⟩
    · rw [S_put Prod.fst f hK3 rfl, hT3, sum_take _ eN, Nat.mul_add, Nat.add_assoc]
    · rw [S_put Prod.snd f hK3 rfl, hT4, sum_take _ eN, Nat.mul_add, Nat.add_assoc]

theorem df_mk {h : Heap} (X : K.In h) (G : h.Ns mainGlobals mg) {x : String} {st : Stmt} {ps : List Str} {f : Addr} {oc : Value} {od an : Option Addr} {osl : Array (Option Value)} {kV doc pm cdv ct : Value}
    (hb : ∀ (kV doc pm : Value) (an : Option Addr) (cdv ct : Value) (us : List Value), us.length = ps.length → bindArgs (PySem.W.fnOf (x : Str) (x : Str) (defArgs st) (defBody st) (defScope st) .none kV doc pm an cdv ct) ⟨us, []⟩ = pure (ps.zip us))
    (a : PySem.W.nsIn K mainGlobals (x : Str) = some (some (.ref f))) (l : K.lookup f = some ⟨oc, od, .func (PySem.W.fnOf (x : Str) (x : Str) (defArgs st) (defBody st) (defScope st) .none kV doc pm an cdv ct), osl⟩)
    (c : PySem.W.codeIn K cdv (x : Str) = true) (k : PySem.W.keepIn K (.ref f) = true) : Df K mg x st ps := by
  have F := fun_mk (st := st) l c k
  exact ⟨f, _, F, PySem.W.mg_of X G a, F.binds hb⟩
theorem fn_law_mk {h : Heap} (X : K.In h) (G : h.Ns mainGlobals mg) {fa f : Addr} (hfa : mg "law" = some (.ref fa)) {oc : Value} {od an : Option Addr} {osl : Array (Option Value)} {kV doc pm cdv ct : Value}
    (a : PySem.W.nsIn K mainGlobals "law" = some (some (.ref f))) (l : K.lookup f = some ⟨oc, od, .func (PySem.W.fnOf "law" "law" (defArgs s_law) (defBody s_law) (defScope s_law) .none kV doc pm an cdv ct), osl⟩)
    (c : PySem.W.codeIn K cdv "law" = true) (k : PySem.W.keepIn K (.ref f) = true) : ∃ fd : FuncData, (∀ (s : Shared) (v : Value), BindsTo s fd ⟨[v], []⟩ [("_law_script", v)]) ∧ Fun K "law" "law" s_law fa fd := by
  have e := hfa.symm.trans (PySem.W.mg_of X G a)
  cases e
  exact ⟨_, fun s v => .of_eq rfl, fun_mk (st := s_law) l c k⟩
theorem law_all (T : Top mg) (D_is_int : Df K mg "is_int" s_is_int ["value"]) (D_is_in : Df K mg "is_in" s_is_in ["value", "least", "most"]) (D_need_number : Df K mg "need_number" s_need_number ["value", "least", "most"]) (D_is_state : Df K mg "is_state" s_is_state ["value"]) (D_need_state : Df K mg "need_state" s_need_state ["value"]) (D_order_of : Df K mg "order_of" s_order_of ["state"]) (D_common : Df K mg "common" s_common ["one", "other"]) (D_gaps_of : Df K mg "gaps_of" s_gaps_of ["state"]) (D_middle_of : Df K mg "middle_of" s_middle_of ["state"]) (D_grain_of : Df K mg "grain_of" s_grain_of ["state"]) (D_pair_of : Df K mg "pair_of" s_pair_of ["state"]) (D_laid : Df K mg "laid" s_laid ["middle", "grain", "pair", "order"]) (D_runs_of : Df K mg "runs_of" s_runs_of ["state"]) (D_pair_behind : Df K mg "pair_behind" s_pair_behind ["pair", "sign", "times"]) (D_order_behind : Df K mg "order_behind" s_order_behind ["order", "sign", "times"]) (D_begin_order : Df K mg "begin_order" s_begin_order ["state"]) (D_begin_of : Df K mg "begin_of" s_begin_of ["state"]) (D_depth_of : Df K mg "depth_of" s_depth_of ["state"]) (D_behind : Df K mg "behind" s_behind ["state", "runs"]) (D_is_same : Df K mg "is_same" s_is_same ["one", "other"]) (D_need_two : Df K mg "need_two" s_need_two ["one", "other"]) (D_shared_runs : Df K mg "shared_runs" s_shared_runs ["one", "other"]) (D_total : Df K mg "total" s_total ["runs"]) (D_gate_of : Df K mg "gate_of" s_gate_of ["one", "other"]) (D_distance_of : Df K mg "distance_of" s_distance_of ["one", "other"]) (D_lowered : Df K mg "lowered" s_lowered ["above", "low"]) (D_power : Df K mg "power" s_power ["base", "times"]) (D_words_table : Df K mg "words_table" s_words_table ["one", "other", "leaps", "is_chance"]) (D_count_words : Df K mg "count_words" s_count_words ["one", "other", "leaps"]) (D_chance_after : Df K mg "chance_after" s_chance_after ["one", "other", "leaps"]) (D_law_taken : Df K mg "_law_taken" s_law_taken ["_law_row", "_law_many"]) (D_law_pick : Df K mg "_law_pick" s_law_pick ["_law_row", "_law_things"]) (D_law_alike : Df K mg "_law_alike" s_law_alike ["_law_found", "_law_due"]) (D_law_order : Df K mg "_law_order" s_law_order ["_law_state_here"]) (D_law_leapt : Df K mg "_law_leapt" s_law_leapt ["_law_state_here", "_law_stone", "_law_over"]) (D_law_walk : Df K mg "_law_walk" s_law_walk ["_law_row", "_law_state_here", "_law_most"]) (D_law_state : Df K mg "_law_state" s_law_state ["_law_row", "_law_most"]) (D_law_leaps : Df K mg "_law_leaps" s_law_leaps ["_law_state_here"]) (D_law_inward : Df K mg "_law_inward" s_law_inward ["_law_state_here"]) (D_law_line : Df K mg "_law_line" s_law_line ["_law_state_here"]) (D_law_other : Df K mg "_law_other" s_law_other ["_law_row", "_law_state_here", "_law_most"]) (D_law_common : Df K mg "_law_common" s_law_common ["_law_one", "_law_other_here"]) (D_law_lowered : Df K mg "_law_lowered" s_law_lowered ["_law_above", "_law_low"]) {f : Addr} {fd : FuncData} (F : Fun K "law" "law" s_law f fd) : FnOk P w K mg base CX0 9 f fd ["_law_script"] (spLaw K) := by
  have C_is_int := c_is_int (P := P) (w := w) (base := base) T  D_is_int
  have C_is_in := c_is_in T C_is_int D_is_in
  have C_need_number := c_need_number T C_is_in D_need_number
  have C_is_state := c_is_state T C_is_in D_is_state
  have C_need_state := c_need_state T C_is_state D_need_state
  have C_order_of := c_order_of (P := P) (w := w) (base := base) T  D_order_of
  have C_common := c_common (P := P) (w := w) (base := base) T  D_common
  have C_gaps_of := c_gaps_of (P := P) (w := w) (base := base) T  D_gaps_of
  have C_middle_of := c_middle_of (P := P) (w := w) (base := base) T  D_middle_of
  have C_grain_of := c_grain_of T C_gaps_of C_common D_grain_of
  have C_pair_of := c_pair_of T C_gaps_of C_common D_pair_of
  have C_laid := c_laid (P := P) (w := w) (base := base) T  D_laid
  have C_runs_of := c_runs_of T C_pair_of D_runs_of
  have C_pair_behind := c_pair_behind (P := P) (w := w) (base := base) T  D_pair_behind
  have C_order_behind := c_order_behind (P := P) (w := w) (base := base) T  D_order_behind
  have C_begin_order := c_begin_order T C_order_of C_runs_of C_order_behind D_begin_order
  have C_begin_of := c_begin_of T C_laid C_begin_order C_grain_of C_middle_of D_begin_of
  have C_depth_of := c_depth_of T C_runs_of D_depth_of
  have C_behind := c_behind T C_order_of C_pair_of C_order_behind C_pair_behind C_laid C_grain_of C_middle_of D_behind
  have C_is_same := c_is_same T C_grain_of C_middle_of C_begin_order D_is_same
  have C_need_two := c_need_two T C_need_state C_is_same D_need_two
  have C_shared_runs := c_shared_runs (P := P) (w := w) (base := base) T  D_shared_runs
  have C_total := c_total (P := P) (w := w) (base := base) T  D_total
  have C_gate_of := c_gate_of T C_behind C_shared_runs C_runs_of C_begin_of D_gate_of
  have C_distance_of := c_distance_of T C_runs_of C_total C_shared_runs D_distance_of
  have C_lowered := c_lowered T C_common D_lowered
  have C_power := c_power (P := P) (w := w) (base := base) T  D_power
  have C_words_table := c_words_table T C_depth_of C_gate_of D_words_table
  have C_count_words := c_count_words T C_need_two C_need_number C_distance_of C_words_table D_count_words
  have C_chance_after := c_chance_after T C_need_two C_need_number C_distance_of C_words_table C_lowered C_power D_chance_after
  have C_law_taken := c_law_taken (P := P) (w := w) (base := base) T  D_law_taken
  have C_law_pick := c_law_pick T C_law_taken D_law_pick
  have C0 := c_law_alike0 (P := P) (w := w) (base := base) T D_law_alike
  have C_law_alike := c_law_alike T C0 D_law_alike
  have C_law_order := c_law_order (P := P) (w := w) (base := base) T  D_law_order
  have C_law_leapt := c_law_leapt (P := P) (w := w) (base := base) T  D_law_leapt
  have C_law_walk := c_law_walk T C_law_taken C_law_order C_law_leapt C_law_pick D_law_walk
  have C_law_state := c_law_state T C_law_pick C_law_taken C_law_walk D_law_state
  have C_law_leaps := c_law_leaps (P := P) (w := w) (base := base) T  D_law_leaps
  have C_law_inward := c_law_inward T C_law_order C_law_leapt D_law_inward
  have C_law_line := c_law_line T C_law_inward D_law_line
  have C_law_other := c_law_other T C_law_line C_law_walk C_law_pick D_law_other
  have C_law_common := c_law_common (P := P) (w := w) (base := base) T  D_law_common
  have C_law_lowered := c_law_lowered T C_law_common D_law_lowered
  exact ok_law T C_law_state C_law_taken C_law_other C_law_leaps C_law_leapt C_law_pick C_law_alike C_count_words C_law_lowered C_chance_after F
abbrev DfI {h : Heap} (_ : K.In h) (mg : Str → Option Value) (x : String) (st : Stmt) (ps : List Str) : Prop := Df K mg x st ps
abbrev LawI {h : Heap} (_ : K.In h) (fa : Addr) : Prop := ∃ fd : FuncData, (∀ (s : Shared) (v : Value), BindsTo s fd ⟨[v], []⟩ [("_law_script", v)]) ∧ Fun K "law" "law" s_law fa fd
theorem place_of {lv : List (Str × PySem.W.WData)} {h : Heap} (x : PySem.W.LooseAre lv mg h) (hm : (("MOST_PLACE" : Str), PySem.W.WData.int 1000000000000000000) ∈ lv) : ∃ t, mg "MOST_PLACE" = some (.int 1000000000000000000 t) := by
  obtain ⟨v, e, r⟩ := x.val _ hm
  cases r
  exact ⟨_, e⟩
theorem walkL {l : PySem.W.OpenLaw} {q : Program} {loose : List Str} {lv : List (Str × PySem.W.WData)} {YP : World → Heap → Prop} {d : DefRec} {K : Params → PySem.W.Frag} (hn : l.most = some 63) (hdf : d.params.defaults = []) (hm : (("MOST_PLACE" : Str), PySem.W.WData.int 1000000000000000000) ∈ lv)
    (hY : ∀ (w : World) (h : Heap), YP w h → (K w.params).In h)
    (F : ∀ (w : World) (mg : Str → Option Value) (fa : Addr) (h : Heap), (K w.params).In h → h.Ns mainGlobals mg → mg d.name = some (.ref fa) → (∃ t, mg "MOST_PLACE" = some (.int 1000000000000000000 t)) →
      ∃ fd : FuncData, (∀ (s : Shared) (u : Value), BindsTo s fd ⟨[u], []⟩ [("_law_script", u)]) ∧ ∀ base : Heap, FnOk l.prog w (K w.params) mg base CX0 9 fa fd ["_law_script"] (spLaw (K w.params))) :
    PySem.W.WalkO q loose (PySem.W.XL q lv) YP l.row.toRowW d [] (fun f vs => PySem.call f vs) := by
  refine Att.attach_call hn hdf fun w s₀ s₁ mg mb fa o pm cd doc a vs ns G Y ho hd hcd hmg hobj hints hlen hg => ?_
  have KX := hY w _ Y
  obtain ⟨fd, hb, hF⟩ := F w mg fa _ KX G.T.g hmg (place_of G.X.2 hm)
  exact law_call KX G.T.g G.T.b G.T.builtins G.T.nolimit hg hobj hints (Nat.le_trans hlen (by decide)) ⟨rfl, by decide, by decide⟩ (fun base _ _ => hF base) hb (fun H hO hS => ⟨a, ns, rfl, hS, hO, fun _ => rfl⟩) fun H e s' z => z
end Lp
open PySem PySem.W PyProof.Rows in
set_option maxRecDepth 100000 in
set_option maxHeartbeats 0 in
theorem PySem.Challenge.cw_leaprows_k72_whole_words_of_leaps_holds : PySem.Challenge.rw_leaprows_k72_whole_words_of_leaps.Holds := by
  w_on; o_law; k_head; (case hw => w_witness2)
  k_fill
  refine Lp.walkL (l := PySem.Challenge.rw_leaprows_k72_whole_words_of_leaps) rfl rfl (List.mem_singleton.mpr rfl) (fun w h Y => PySem.W.kIn_of Y) ?F
  case F =>
    intro w mg fa h KX G hmg hplace
    have t_isinstance : mg "isinstance" = none := by
      refine' PySem.W.mg_none_of KX G ?z
      (case z => k_is)
    have t_int : mg "int" = none := by
      refine' PySem.W.mg_none_of KX G ?z
      (case z => k_is)
    have t_bool : mg "bool" = none := by
      refine' PySem.W.mg_none_of KX G ?z
      (case z => k_is)
    have t_tuple : mg "tuple" = none := by
      refine' PySem.W.mg_none_of KX G ?z
      (case z => k_is)
    have t_list : mg "list" = none := by
      refine' PySem.W.mg_none_of KX G ?z
      (case z => k_is)
    have t_str : mg "str" = none := by
      refine' PySem.W.mg_none_of KX G ?z
      (case z => k_is)
    have t_len : mg "len" = none := by
      refine' PySem.W.mg_none_of KX G ?z
      (case z => k_is)
    have t_all : mg "all" = none := by
      refine' PySem.W.mg_none_of KX G ?z
      (case z => k_is)
    have t_sorted : mg "sorted" = none := by
      refine' PySem.W.mg_none_of KX G ?z
      (case z => k_is)
    have t_enumerate : mg "enumerate" = none := by
      refine' PySem.W.mg_none_of KX G ?z
      (case z => k_is)
    have t_zip : mg "zip" = none := by
      refine' PySem.W.mg_none_of KX G ?z
      (case z => k_is)
    have t_range : mg "range" = none := by
      refine' PySem.W.mg_none_of KX G ?z
      (case z => k_is)
    have t_abs : mg "abs" = none := by
      refine' PySem.W.mg_none_of KX G ?z
      (case z => k_is)
    have t_sum : mg "sum" = none := by
      refine' PySem.W.mg_none_of KX G ?z
      (case z => k_is)
    have t_min : mg "min" = none := by
      refine' PySem.W.mg_none_of KX G ?z
      (case z => k_is)
    have t_max : mg "max" = none := by
      refine' PySem.W.mg_none_of KX G ?z
      (case z => k_is)
    have t_STONES : ∃ t, mg "STONES" = some (.int 3 t) := by
      have hv : ∃ v, mg "STONES" = some v ∧ ∃ t, v = .int 3 t := by
        refine' ⟨_, PySem.W.mg_of KX G ?z, ?r⟩
        (case z => k_is)
        (case r => exact ⟨_, rfl⟩)
      obtain ⟨v, hv, t, rfl⟩ := hv
      exact ⟨t, hv⟩
    have t_MOST_WORD : ∃ t, mg "MOST_WORD" = some (.int 60 t) := by
      have hv : ∃ v, mg "MOST_WORD" = some v ∧ ∃ t, v = .int 60 t := by
        refine' ⟨_, PySem.W.mg_of KX G ?z, ?r⟩
        (case z => k_is)
        (case r => exact ⟨_, rfl⟩)
      obtain ⟨v, hv, t, rfl⟩ := hv
      exact ⟨t, hv⟩
    have T : Lp.Top mg := ⟨t_isinstance, t_int, t_bool, t_tuple, t_list, t_str, t_len, t_all, t_sorted, t_enumerate, t_zip, t_range, t_abs, t_sum, t_min, t_max, hplace, t_STONES, t_MOST_WORD⟩
    have D_is_int : Lp.DfI KX mg "is_int" Lp.s_is_int ["value"] := by
      refine' Lp.df_mk KX G (fun _ _ _ _ _ _ us hl => match us, hl with | [_], _ => rfl) ?a ?l ?c ?k
      (case a => k_is)
      (case l => k_is)
      (case c => k_is)
      (case k => k_is)
    have D_is_in : Lp.DfI KX mg "is_in" Lp.s_is_in ["value", "least", "most"] := by
      refine' Lp.df_mk KX G (fun _ _ _ _ _ _ us hl => match us, hl with | [_, _, _], _ => rfl) ?a ?l ?c ?k
      (case a => k_is)
      (case l => k_is)
      (case c => k_is)
      (case k => k_is)
    have D_need_number : Lp.DfI KX mg "need_number" Lp.s_need_number ["value", "least", "most"] := by
      refine' Lp.df_mk KX G (fun _ _ _ _ _ _ us hl => match us, hl with | [_, _, _], _ => rfl) ?a ?l ?c ?k
      (case a => k_is)
      (case l => k_is)
      (case c => k_is)
      (case k => k_is)
    have D_is_state : Lp.DfI KX mg "is_state" Lp.s_is_state ["value"] := by
      refine' Lp.df_mk KX G (fun _ _ _ _ _ _ us hl => match us, hl with | [_], _ => rfl) ?a ?l ?c ?k
      (case a => k_is)
      (case l => k_is)
      (case c => k_is)
      (case k => k_is)
    have D_need_state : Lp.DfI KX mg "need_state" Lp.s_need_state ["value"] := by
      refine' Lp.df_mk KX G (fun _ _ _ _ _ _ us hl => match us, hl with | [_], _ => rfl) ?a ?l ?c ?k
      (case a => k_is)
      (case l => k_is)
      (case c => k_is)
      (case k => k_is)
    have D_order_of : Lp.DfI KX mg "order_of" Lp.s_order_of ["state"] := by
      refine' Lp.df_mk KX G (fun _ _ _ _ _ _ us hl => match us, hl with | [_], _ => rfl) ?a ?l ?c ?k
      (case a => k_is)
      (case l => k_is)
      (case c => k_is)
      (case k => k_is)
    have D_common : Lp.DfI KX mg "common" Lp.s_common ["one", "other"] := by
      refine' Lp.df_mk KX G (fun _ _ _ _ _ _ us hl => match us, hl with | [_, _], _ => rfl) ?a ?l ?c ?k
      (case a => k_is)
      (case l => k_is)
      (case c => k_is)
      (case k => k_is)
    have D_gaps_of : Lp.DfI KX mg "gaps_of" Lp.s_gaps_of ["state"] := by
      refine' Lp.df_mk KX G (fun _ _ _ _ _ _ us hl => match us, hl with | [_], _ => rfl) ?a ?l ?c ?k
      (case a => k_is)
      (case l => k_is)
      (case c => k_is)
      (case k => k_is)
    have D_middle_of : Lp.DfI KX mg "middle_of" Lp.s_middle_of ["state"] := by
      refine' Lp.df_mk KX G (fun _ _ _ _ _ _ us hl => match us, hl with | [_], _ => rfl) ?a ?l ?c ?k
      (case a => k_is)
      (case l => k_is)
      (case c => k_is)
      (case k => k_is)
    have D_grain_of : Lp.DfI KX mg "grain_of" Lp.s_grain_of ["state"] := by
      refine' Lp.df_mk KX G (fun _ _ _ _ _ _ us hl => match us, hl with | [_], _ => rfl) ?a ?l ?c ?k
      (case a => k_is)
      (case l => k_is)
      (case c => k_is)
      (case k => k_is)
    have D_pair_of : Lp.DfI KX mg "pair_of" Lp.s_pair_of ["state"] := by
      refine' Lp.df_mk KX G (fun _ _ _ _ _ _ us hl => match us, hl with | [_], _ => rfl) ?a ?l ?c ?k
      (case a => k_is)
      (case l => k_is)
      (case c => k_is)
      (case k => k_is)
    have D_laid : Lp.DfI KX mg "laid" Lp.s_laid ["middle", "grain", "pair", "order"] := by
      refine' Lp.df_mk KX G (fun _ _ _ _ _ _ us hl => match us, hl with | [_, _, _, _], _ => rfl) ?a ?l ?c ?k
      (case a => k_is)
      (case l => k_is)
      (case c => k_is)
      (case k => k_is)
    have D_runs_of : Lp.DfI KX mg "runs_of" Lp.s_runs_of ["state"] := by
      refine' Lp.df_mk KX G (fun _ _ _ _ _ _ us hl => match us, hl with | [_], _ => rfl) ?a ?l ?c ?k
      (case a => k_is)
      (case l => k_is)
      (case c => k_is)
      (case k => k_is)
    have D_pair_behind : Lp.DfI KX mg "pair_behind" Lp.s_pair_behind ["pair", "sign", "times"] := by
      refine' Lp.df_mk KX G (fun _ _ _ _ _ _ us hl => match us, hl with | [_, _, _], _ => rfl) ?a ?l ?c ?k
      (case a => k_is)
      (case l => k_is)
      (case c => k_is)
      (case k => k_is)
    have D_order_behind : Lp.DfI KX mg "order_behind" Lp.s_order_behind ["order", "sign", "times"] := by
      refine' Lp.df_mk KX G (fun _ _ _ _ _ _ us hl => match us, hl with | [_, _, _], _ => rfl) ?a ?l ?c ?k
      (case a => k_is)
      (case l => k_is)
      (case c => k_is)
      (case k => k_is)
    have D_begin_order : Lp.DfI KX mg "begin_order" Lp.s_begin_order ["state"] := by
      refine' Lp.df_mk KX G (fun _ _ _ _ _ _ us hl => match us, hl with | [_], _ => rfl) ?a ?l ?c ?k
      (case a => k_is)
      (case l => k_is)
      (case c => k_is)
      (case k => k_is)
    have D_begin_of : Lp.DfI KX mg "begin_of" Lp.s_begin_of ["state"] := by
      refine' Lp.df_mk KX G (fun _ _ _ _ _ _ us hl => match us, hl with | [_], _ => rfl) ?a ?l ?c ?k
      (case a => k_is)
      (case l => k_is)
      (case c => k_is)
      (case k => k_is)
    have D_depth_of : Lp.DfI KX mg "depth_of" Lp.s_depth_of ["state"] := by
      refine' Lp.df_mk KX G (fun _ _ _ _ _ _ us hl => match us, hl with | [_], _ => rfl) ?a ?l ?c ?k
      (case a => k_is)
      (case l => k_is)
      (case c => k_is)
      (case k => k_is)
    have D_behind : Lp.DfI KX mg "behind" Lp.s_behind ["state", "runs"] := by
      refine' Lp.df_mk KX G (fun _ _ _ _ _ _ us hl => match us, hl with | [_, _], _ => rfl) ?a ?l ?c ?k
      (case a => k_is)
      (case l => k_is)
      (case c => k_is)
      (case k => k_is)
    have D_is_same : Lp.DfI KX mg "is_same" Lp.s_is_same ["one", "other"] := by
      refine' Lp.df_mk KX G (fun _ _ _ _ _ _ us hl => match us, hl with | [_, _], _ => rfl) ?a ?l ?c ?k
      (case a => k_is)
      (case l => k_is)
      (case c => k_is)
      (case k => k_is)
    have D_need_two : Lp.DfI KX mg "need_two" Lp.s_need_two ["one", "other"] := by
      refine' Lp.df_mk KX G (fun _ _ _ _ _ _ us hl => match us, hl with | [_, _], _ => rfl) ?a ?l ?c ?k
      (case a => k_is)
      (case l => k_is)
      (case c => k_is)
      (case k => k_is)
    have D_shared_runs : Lp.DfI KX mg "shared_runs" Lp.s_shared_runs ["one", "other"] := by
      refine' Lp.df_mk KX G (fun _ _ _ _ _ _ us hl => match us, hl with | [_, _], _ => rfl) ?a ?l ?c ?k
      (case a => k_is)
      (case l => k_is)
      (case c => k_is)
      (case k => k_is)
    have D_total : Lp.DfI KX mg "total" Lp.s_total ["runs"] := by
      refine' Lp.df_mk KX G (fun _ _ _ _ _ _ us hl => match us, hl with | [_], _ => rfl) ?a ?l ?c ?k
      (case a => k_is)
      (case l => k_is)
      (case c => k_is)
      (case k => k_is)
    have D_gate_of : Lp.DfI KX mg "gate_of" Lp.s_gate_of ["one", "other"] := by
      refine' Lp.df_mk KX G (fun _ _ _ _ _ _ us hl => match us, hl with | [_, _], _ => rfl) ?a ?l ?c ?k
      (case a => k_is)
      (case l => k_is)
      (case c => k_is)
      (case k => k_is)
    have D_distance_of : Lp.DfI KX mg "distance_of" Lp.s_distance_of ["one", "other"] := by
      refine' Lp.df_mk KX G (fun _ _ _ _ _ _ us hl => match us, hl with | [_, _], _ => rfl) ?a ?l ?c ?k
      (case a => k_is)
      (case l => k_is)
      (case c => k_is)
      (case k => k_is)
    have D_lowered : Lp.DfI KX mg "lowered" Lp.s_lowered ["above", "low"] := by
      refine' Lp.df_mk KX G (fun _ _ _ _ _ _ us hl => match us, hl with | [_, _], _ => rfl) ?a ?l ?c ?k
      (case a => k_is)
      (case l => k_is)
      (case c => k_is)
      (case k => k_is)
    have D_power : Lp.DfI KX mg "power" Lp.s_power ["base", "times"] := by
      refine' Lp.df_mk KX G (fun _ _ _ _ _ _ us hl => match us, hl with | [_, _], _ => rfl) ?a ?l ?c ?k
      (case a => k_is)
      (case l => k_is)
      (case c => k_is)
      (case k => k_is)
    have D_words_table : Lp.DfI KX mg "words_table" Lp.s_words_table ["one", "other", "leaps", "is_chance"] := by
      refine' Lp.df_mk KX G (fun _ _ _ _ _ _ us hl => match us, hl with | [_, _, _, _], _ => rfl) ?a ?l ?c ?k
      (case a => k_is)
      (case l => k_is)
      (case c => k_is)
      (case k => k_is)
    have D_count_words : Lp.DfI KX mg "count_words" Lp.s_count_words ["one", "other", "leaps"] := by
      refine' Lp.df_mk KX G (fun _ _ _ _ _ _ us hl => match us, hl with | [_, _, _], _ => rfl) ?a ?l ?c ?k
      (case a => k_is)
      (case l => k_is)
      (case c => k_is)
      (case k => k_is)
    have D_chance_after : Lp.DfI KX mg "chance_after" Lp.s_chance_after ["one", "other", "leaps"] := by
      refine' Lp.df_mk KX G (fun _ _ _ _ _ _ us hl => match us, hl with | [_, _, _], _ => rfl) ?a ?l ?c ?k
      (case a => k_is)
      (case l => k_is)
      (case c => k_is)
      (case k => k_is)
    have D_law_taken : Lp.DfI KX mg "_law_taken" Lp.s_law_taken ["_law_row", "_law_many"] := by
      refine' Lp.df_mk KX G (fun _ _ _ _ _ _ us hl => match us, hl with | [_, _], _ => rfl) ?a ?l ?c ?k
      (case a => k_is)
      (case l => k_is)
      (case c => k_is)
      (case k => k_is)
    have D_law_pick : Lp.DfI KX mg "_law_pick" Lp.s_law_pick ["_law_row", "_law_things"] := by
      refine' Lp.df_mk KX G (fun _ _ _ _ _ _ us hl => match us, hl with | [_, _], _ => rfl) ?a ?l ?c ?k
      (case a => k_is)
      (case l => k_is)
      (case c => k_is)
      (case k => k_is)
    have D_law_alike : Lp.DfI KX mg "_law_alike" Lp.s_law_alike ["_law_found", "_law_due"] := by
      refine' Lp.df_mk KX G (fun _ _ _ _ _ _ us hl => match us, hl with | [_, _], _ => rfl) ?a ?l ?c ?k
      (case a => k_is)
      (case l => k_is)
      (case c => k_is)
      (case k => k_is)
    have D_law_order : Lp.DfI KX mg "_law_order" Lp.s_law_order ["_law_state_here"] := by
      refine' Lp.df_mk KX G (fun _ _ _ _ _ _ us hl => match us, hl with | [_], _ => rfl) ?a ?l ?c ?k
      (case a => k_is)
      (case l => k_is)
      (case c => k_is)
      (case k => k_is)
    have D_law_leapt : Lp.DfI KX mg "_law_leapt" Lp.s_law_leapt ["_law_state_here", "_law_stone", "_law_over"] := by
      refine' Lp.df_mk KX G (fun _ _ _ _ _ _ us hl => match us, hl with | [_, _, _], _ => rfl) ?a ?l ?c ?k
      (case a => k_is)
      (case l => k_is)
      (case c => k_is)
      (case k => k_is)
    have D_law_walk : Lp.DfI KX mg "_law_walk" Lp.s_law_walk ["_law_row", "_law_state_here", "_law_most"] := by
      refine' Lp.df_mk KX G (fun _ _ _ _ _ _ us hl => match us, hl with | [_, _, _], _ => rfl) ?a ?l ?c ?k
      (case a => k_is)
      (case l => k_is)
      (case c => k_is)
      (case k => k_is)
    have D_law_state : Lp.DfI KX mg "_law_state" Lp.s_law_state ["_law_row", "_law_most"] := by
      refine' Lp.df_mk KX G (fun _ _ _ _ _ _ us hl => match us, hl with | [_, _], _ => rfl) ?a ?l ?c ?k
      (case a => k_is)
      (case l => k_is)
      (case c => k_is)
      (case k => k_is)
    have D_law_leaps : Lp.DfI KX mg "_law_leaps" Lp.s_law_leaps ["_law_state_here"] := by
      refine' Lp.df_mk KX G (fun _ _ _ _ _ _ us hl => match us, hl with | [_], _ => rfl) ?a ?l ?c ?k
      (case a => k_is)
      (case l => k_is)
      (case c => k_is)
      (case k => k_is)
    have D_law_inward : Lp.DfI KX mg "_law_inward" Lp.s_law_inward ["_law_state_here"] := by
      refine' Lp.df_mk KX G (fun _ _ _ _ _ _ us hl => match us, hl with | [_], _ => rfl) ?a ?l ?c ?k
      (case a => k_is)
      (case l => k_is)
      (case c => k_is)
      (case k => k_is)
    have D_law_line : Lp.DfI KX mg "_law_line" Lp.s_law_line ["_law_state_here"] := by
      refine' Lp.df_mk KX G (fun _ _ _ _ _ _ us hl => match us, hl with | [_], _ => rfl) ?a ?l ?c ?k
      (case a => k_is)
      (case l => k_is)
      (case c => k_is)
      (case k => k_is)
    have D_law_other : Lp.DfI KX mg "_law_other" Lp.s_law_other ["_law_row", "_law_state_here", "_law_most"] := by
      refine' Lp.df_mk KX G (fun _ _ _ _ _ _ us hl => match us, hl with | [_, _, _], _ => rfl) ?a ?l ?c ?k
      (case a => k_is)
      (case l => k_is)
      (case c => k_is)
      (case k => k_is)
    have D_law_common : Lp.DfI KX mg "_law_common" Lp.s_law_common ["_law_one", "_law_other_here"] := by
      refine' Lp.df_mk KX G (fun _ _ _ _ _ _ us hl => match us, hl with | [_, _], _ => rfl) ?a ?l ?c ?k
      (case a => k_is)
      (case l => k_is)
      (case c => k_is)
      (case k => k_is)
    have D_law_lowered : Lp.DfI KX mg "_law_lowered" Lp.s_law_lowered ["_law_above", "_law_low"] := by
      refine' Lp.df_mk KX G (fun _ _ _ _ _ _ us hl => match us, hl with | [_, _], _ => rfl) ?a ?l ?c ?k
      (case a => k_is)
      (case l => k_is)
      (case c => k_is)
      (case k => k_is)
    have FL : Lp.LawI KX fa := by
      refine' Lp.fn_law_mk KX G hmg ?a ?l ?c ?k
      (case a => k_is)
      (case l => k_is)
      (case c => k_is)
      (case k => k_is)
    obtain ⟨fd, hb, F⟩ := FL
    exact ⟨fd, hb, fun base => Lp.law_all T D_is_int D_is_in D_need_number D_is_state D_need_state D_order_of D_common D_gaps_of D_middle_of D_grain_of D_pair_of D_laid D_runs_of D_pair_behind D_order_behind D_begin_order D_begin_of D_depth_of D_behind D_is_same D_need_two D_shared_runs D_total D_gate_of D_distance_of D_lowered D_power D_words_table D_count_words D_chance_after D_law_taken D_law_pick D_law_alike D_law_order D_law_leapt D_law_walk D_law_state D_law_leaps D_law_inward D_law_line D_law_other D_law_common D_law_lowered F⟩
