import PyProof.Rows.All
import Wide.All
import OpenK.AllK
import Wide.FinOn
import PySem.Challenge.RW_lacuna_k70_types_in_texts
import PyProof.EqAt
import PyProof.EqKinds
import PyProof.TupleCall
import HandS.ForMost
import HandS.ForExc
import HandS.ExcInit
import HandS.ExcField
import HandS.Walk
import HandS.Style
import HandS.Conv
import HandS.IsInst
import HandS.Flow
import HandS.TupAny
import KE.GoesEnum
import KE.KDictPairs
import HandS.TupMul
import HandS.Deep
import HandS.CallSlots
import HandS.WordsExc
import HandS.Defaults
import KE.KExcSuper
import HandS.Ends
set_option Elab.async false
set_option linter.all false
set_option maxRecDepth 100000
/-! Z0: tuples of which it is known that they have no dict (so that dict(t) may be asked), by the frozen record. -/
namespace Z
open PySem L2
open PyProof.Rows hiding St

/-- a tuple, its record known to have no dict -/
def SqN (K : PySem.W.Frag) (H : Hp) (a : Addr) (xs : List V) : Prop :=
  (∃ o : Obj, H a = some (.frz o (.tup xs)) ∧ o.dict = none) ∨
    ∃ (o : Obj) (its : Array Value) (n : Nat), K.lookup a = some o ∧ o.cls = .type "tuple" ∧ o.dict = none ∧ o.data = .seq its n ∧ its.size ≤ sizeLine ∧ Vals xs its.toList
theorem SqN.t {K : PySem.W.Frag} {H : Hp} {a : Addr} {xs : List V} (h : SqN K H a xs) : SqT K H a xs := by
  rcases h with ⟨o, h, _⟩ | ⟨o, its, n, h1, h2, _, h4, h5, h6⟩
  · exact .inl (.inr ⟨o, h⟩)
  · exact .inr ⟨o, its, n, h1, h2, h4, h5, h6⟩
theorem SqN.of {K : PySem.W.Frag} {H : Hp} {a : Addr} {xs : List V} {o : Obj} (h : H a = some (.frz o (.tup xs))) (d : o.dict = none) : SqN K H a xs := .inl ⟨o, h, d⟩
theorem ok_frz {P : Program} {w : World} {H : Hp} {h : Heap} {xs : List V} {its : List Value} {n : Nat} {a : Addr} (hz : xs.length ≤ sizeLine) (r : Vals xs its) (e : h.get? a = some { cls := .type "tuple", data := .seq its.toArray n }) :
    ObjOk P w H h a (.frz { cls := .type "tuple", data := .seq its.toArray n } (.tup xs)) := by
  have x : ObjOk P w H h a (.tup xs) := ⟨hz, its, r, ⟨_, e, rfl, n, rfl⟩⟩
  exact ⟨e, x⟩

section
variable {X : Cx} {es : List Expr} {pos : Pos} {t : TA}
/-- a new tuple -/
abbrev Nw (Q : VK) (H : Hp) (xs : List V) : Prop := ∀ (p : Addr) (o : Obj), o.dict = none → H p = none → Q (.ref p) (upd H p (.frz o (.tup xs)))
def tTupN (t : TA) : TE := fun σ H Q => t σ H fun xs H1 => xs.length ≤ sizeLine ∧ Nw Q H1 xs
theorem pe_tupN {x1} (h : PA X es t) : PE X (.Tuple es x1 pos) (tTupN t) := by
  refine ⟨fun pins s σ H Q I hq => ?_⟩
  refine wpAny_Tuple_spliced (thn (h.run pos pins s σ H _ I hq) fun us s1 ⟨xs, H1, I1, r, z, q⟩ => ⟨by rw [← r.length]; exact z, ?_⟩)
  have hf : H1 s1.heap.objs.size = none := I1.hok.fresh (Nat.le_refl _)
  exact ⟨.ref s1.heap.objs.size, upd H1 s1.heap.objs.size (.frz { cls := .type "tuple", data := .seq us.toArray } (.tup xs)), I1.laid (t' := s1.toks) (fun b u e => Heap.get?_push_of_some _ e) (Nat.le_refl _) (ok_frz z r (Heap.get?_push_size _ rfl)), rfl, q _ _ rfl hf⟩
/-- t + u -/
def rCatN (K : PySem.W.Frag) : R2 := fun x y H Q => ∃ a b xs ys, x = .ref a ∧ y = .ref b ∧ SqT K H a xs ∧ SqT K H b ys ∧ xs.length + ys.length ≤ sizeLine ∧
  (xs = [] → Q (.ref b) H) ∧ (xs ≠ [] → ys = [] → Q (.ref a) H) ∧ (xs ≠ [] → ys ≠ [] → Nw Q H (xs ++ ys))
theorem op_catN : OpR X (binaryOp .Add) (rCatN X.K) := by
  intro pins s σ H x y v u Q I rx ry h
  obtain ⟨a, b, xs, ys, rfl, rfl, ha, hb, hz, q0, q1, q2⟩ := h
  by_cases hx : xs = []
  · exact op_catA pins s σ H _ _ v u Q I rx ry ⟨a, b, xs, ys, rfl, rfl, ha, hb, hz, q0, q1, fun z => absurd hx z⟩
  · cases rx
    cases ry
    obtain ⟨its, r1, p1, _⟩ := I.tuple ha
    obtain ⟨its2, r2, p2, _⟩ := I.tuple hb
    refine HT.cat_tup p1 p2 (fun z => hx (r1.nil_iff.mp z)) (fun z => ⟨.ref a, H, I, rfl, q1 hx (r2.nil_iff.mp z)⟩) (fun z => ?_) (by rw [← r1.length, ← r2.length]; exact hz)
    refine ⟨.ref s.heap.objs.size, _, I.laid (t' := s.toks) (o := .frz { cls := .type "tuple", data := .seq (its ++ its2).toArray } (.tup (xs ++ ys))) (fun b ob q => Heap.get?_push_of_some _ q) (Nat.le_refl _) ?_, rfl, q2 hx (fun w => z (r2.nil_iff.mpr w)) _ _ rfl (I.hok.fresh (Nat.le_refl _))⟩
    exact ok_frz (by rw [List.length_append]; exact hz) (r1.append r2) (Heap.get?_push_size _ rfl)
/-- t[lo:hi] -/
def rSlN (K : PySem.W.Frag) : V → Option Int → Option Int → Hp → VK → Prop := fun x lo hi H Q => ∃ a xs, x = .ref a ∧ SqT K H a xs ∧
  (HT.sIx xs.length 0 lo = 0 ∧ HT.sIx xs.length xs.length hi = xs.length → Q (.ref a) H) ∧ (¬ (HT.sIx xs.length 0 lo = 0 ∧ HT.sIx xs.length xs.length hi = xs.length) → Nw Q H (cutV xs lo hi))
theorem sl_tupN : SlR X (rSlN X.K) := by
  intro pins s σ H x v vl vu lo hi sl Q I rx hs pl pu h
  obtain ⟨a, xs, rfl, hx, q1, q2⟩ := h
  by_cases hw : HT.sIx xs.length 0 lo = 0 ∧ HT.sIx xs.length xs.length hi = xs.length
  · exact sl_tupA pins s σ H _ v vl vu lo hi sl Q I rx hs pl pu ⟨a, xs, rfl, hx, q1, fun z => absurd hw z⟩
  · cases rx
    obtain ⟨its, r, ht, hz⟩ := I.tuple hx
    have hlen : its.toArray.size = xs.length := by rw [List.size_toArray]; exact r.length.symm
    refine ⟨"tuple", _, PyProof.Rows.slot_tuple_getitem.lookup, ht.typeIs, ?_⟩
    refine HT.getItem_tuple_cut ht hs pl pu (by rw [hlen]; exact hw) ?_ (by rw [hlen]; exact hz)
    rw [hlen]
    have rr := (r.drop (HT.sIx xs.length 0 lo)).take (HT.sIx xs.length xs.length hi - HT.sIx xs.length 0 lo)
    refine ⟨.ref s.heap.objs.size, _, I.laid (t' := s.toks) (o := .frz { cls := .type "tuple", data := .seq (((its.drop (HT.sIx xs.length 0 lo)).take (HT.sIx xs.length xs.length hi - HT.sIx xs.length 0 lo))).toArray } (.tup (cutV xs lo hi))) (fun b ob q => Heap.get?_push_of_some _ q) (Nat.le_refl _) ?_, rfl, q2 hw _ _ rfl (I.hok.fresh (Nat.le_refl _))⟩
    exact ok_frz (Nat.le_trans (cutV_length xs lo hi) hz) rr (Heap.get?_push_size _ rfl)
/-- tuple(xs) -/
abbrev rTupN (K : PySem.W.Frag) : List V → Hp → VK → Prop := fun xs H Q => ∃ p ys, xs = [.ref p] ∧ ((SqL K H p ys ∧ Nw Q H ys) ∨ (SqT K H p ys ∧ Q (.ref p) H))
theorem call_tupleN : CallR X (.type "tuple") (rTupN X.K) := by
  intro pins s σ H xs us Q I r h
  obtain ⟨p, ys, rfl, h⟩ := h
  obtain ⟨u, rfl, rx⟩ := vals1 r
  cases rx
  rcases h with ⟨hq, q⟩ | ⟨hq, q⟩
  · obtain ⟨its, r', pl, hz⟩ := I.list hq
    have hlen := r'.length
    refine call_tuple_list pl.isList (fun h' kp => ?_) (by simp only [List.size_toArray] <;> omega)
    have I1 : Inv X pins σ H { s with heap := h' } := I.kept (t' := s.toks) kp
    have I2 : Inv X pins σ (upd H h'.objs.size (.frz { cls := .type "tuple", data := .seq its.toArray } (.tup ys))) { s with heap := h'.push { cls := .type "tuple", data := .seq its.toArray } } :=
      I1.laid (t' := s.toks) (fun b o e => Heap.get?_push_of_some _ e) (Nat.le_refl _) (ok_frz hz r' (Heap.get?_push_size _ rfl))
    exact ⟨.ref h'.objs.size, _, I2, rfl, q _ _ rfl (I1.hok.fresh (Nat.le_refl _))⟩
  · obtain ⟨its, r', pl, hz⟩ := I.tuple hq
    exact call_tuple_same pl ⟨.ref p, H, I, rfl, q⟩
end

/-! ### enumerate(list), enumerate(tuple) -/
/-- a new pair of the i-th number and the i-th of xs -/
def YPairN (xs : Nat → Option V) : Nat → Hp → V → Hp → Prop := fun i H v H' => ∃ T o x, v = .ref T ∧ o.dict = none ∧ H T = none ∧ H' = upd H T (.frz o (.tup [.int (i : Nat), x])) ∧ xs i = some x
def IteN (sq : Hp → List V → Prop) : It :=
  ⟨fun i H => ∃ (xs : List V) (x : V), sq H xs ∧ xs[i]? = some x, fun i H v H' => ∃ T o x, v = .ref T ∧ o.dict = none ∧ H T = none ∧ H' = upd H T (.frz o (.tup [.int (i : Nat), x])) ∧ ∀ xs, sq H xs → xs[i]? = some x, fun i H => ∃ xs : List V, sq H xs ∧ xs.length ≤ i⟩
theorem walk_enumN {sq : Hp → List V → Prop} {xs : List V} : Walk (IteN sq) xs.length (fun H => sq H xs) (YPairN fun i => xs[i]?) := by
  refine ⟨fun i _ hi q => ⟨xs, xs[i], q, by simp [hi]⟩, fun _ q => ⟨xs, q, Nat.le_refl _⟩, fun i H v H' _ q y => ?_⟩
  obtain ⟨T, o, x, h1, h2, h3, h4, h5⟩ := y
  exact ⟨T, o, x, h1, h2, h3, h4, h5 xs q⟩
theorem turn_enumL {P : Program} {w : World} {K : PySem.W.Frag} {elts : List Expr} {kk : Nat} {tpos : Pos} (a e it : Addr) :
    Turn P w K (.Tuple elts kk tpos) (IteN fun H xs => SqL K H a xs) [e, it] e (fun i h => (∃ old, IsEnum h e it ((i : Nat) : Int) old) ∧ h.IsListIter it a i ∧ e ≠ it) where
  mem := by simp
  obj := fun i h st b hb => by
    obtain ⟨⟨old, he⟩, ⟨o, ho, hc, hd⟩, _⟩ := st
    have e' : b = e ∨ b = it := by simpa using hb
    rcases e' with z | z
    · rw [z]; exact ⟨_, he, fun v q => nomatch q⟩
    · rw [z]; exact ⟨o, ho, fun v q => by rw [hd] at q; cases q⟩
  keep := fun i h h' st k => let ⟨⟨old, he⟩, hi, hne⟩ := st; ⟨⟨old, k e (by simp) _ he⟩, hi.at fun o q => k it (by simp) o q, hne⟩
  item := by
    intro X hP hw hK hc i pins s σ H E I hf st hg
    subst hP hw hK
    obtain ⟨⟨old, he⟩, hit, hne⟩ := st
    obtain ⟨xs, x, hq, hx⟩ := hg
    obtain ⟨its, rv, p, hz⟩ := I.list hq
    obtain ⟨u, hu, ru⟩ := rv.get hx
    have hel : e < s.heap.objs.size := Heap.lt_size he
    have hil : it < s.heap.objs.size := by obtain ⟨_, q, _⟩ := hit; exact Heap.lt_size q
    refine wpAny_pyNext_enum_item he hit p.isList (x := u) (by simpa using hu) hne fun h' ho hit' hT hsz hk => ?_
    refine ⟨_, rfl, wpAny_letOwnedTupleGo_enum (s := { s with heap := h', toks := s.toks + 1 }) ho fun h'' he' sb => ?_⟩
    have hT2 : h''.get? s.heap.objs.size = some { cls := .type "tuple", data := .seq #[.int i s.toks, u] } := (sb.2 _ (Nat.ne_of_gt hel)).trans hT
    have new : ObjOk X.prog X.w (upd H s.heap.objs.size (.frz { cls := .type "tuple", data := .seq #[.int i s.toks, u] } (.tup [.int (i : Nat), x]))) h'' s.heap.objs.size (.frz { cls := .type "tuple", data := .seq #[.int i s.toks, u] } (.tup [.int (i : Nat), x])) :=
      ok_frz (its := [.int i s.toks, u]) (by show 2 ≤ sizeLine; decide) (.cons ⟨_, rfl⟩ (.cons ru .nil)) hT2
    have I1 : Inv X pins σ (upd H s.heap.objs.size (.frz { cls := .type "tuple", data := .seq #[.int i s.toks, u] } (.tup [.int (i : Nat), x]))) { s with heap := h'', toks := s.toks + 1 } :=
      I.turnedNew (ch := [e, it]) (fun b ob hb q => (sb.2 b (fun z => hb (by simp [z]))).trans (hk b ob (fun z => hb (by simp [z])) (fun z => hb (by simp [z])) q)) hf (Nat.le_refl _) new
    refine ⟨.ref s.heap.objs.size, _, I1, rfl, ⟨_, _, x, rfl, rfl, I.hok.fresh (Nat.le_refl _), rfl, fun ys hy => by rw [I.list_inj hy hq]; exact hx⟩, ⟨⟨u, ?_⟩, hit'.at fun o q => (sb.2 it (Ne.symm hne)).trans q, hne⟩, fun b hb => ?_⟩
    · have e1 : ((i + 1 : Nat) : Int) = (i : Int) + 1 := by omega
      rw [e1]; exact he'
    · have hb' : b < s.heap.objs.size := by
        have e' : b = e ∨ b = it := by simpa using hb
        rcases e' with z | z
        · rw [z]; exact hel
        · rw [z]; exact hil
      rw [upd_ne (Nat.ne_of_lt hb')]
      exact (hf b hb).1
  done := by
    intro X hP hw hK hc i pins s σ H E I hf st hg
    subst hP hw hK
    obtain ⟨⟨old, he⟩, hit, hne⟩ := st
    obtain ⟨xs, hq, hx⟩ := hg
    obtain ⟨its, rv, p, hz⟩ := I.list hq
    obtain ⟨f0, f1, f2, f3, f4, f5⟩ := hf it (by simp)
    have hl := rv.length
    exact wpAny_pyNext_enum_end (I.ok.hd hc) he hit p.isList (by simp; omega) fun h' eb => ⟨rfl, I.turned (t' := s.toks) (fun b o hb q => eb b o hb q) f0 f1 f3 f4 f5⟩
  self := fun A i s Q E st h => let ⟨⟨_, he⟩, _⟩ := st; wpAny_pyIter_enum he h
theorem turn_enumT {P : Program} {w : World} {K : PySem.W.Frag} {elts : List Expr} {kk : Nat} {tpos : Pos} (a e it : Addr) :
    Turn P w K (.Tuple elts kk tpos) (IteN fun H xs => SqT K H a xs) [e, it] e (fun i h => (∃ old, IsEnum h e it ((i : Nat) : Int) old) ∧ h.IsTupleIter it a i ∧ e ≠ it) where
  mem := by simp
  obj := fun i h st b hb => by
    obtain ⟨⟨old, he⟩, ⟨o, ho, hc, hd⟩, _⟩ := st
    have e' : b = e ∨ b = it := by simpa using hb
    rcases e' with z | z
    · rw [z]; exact ⟨_, he, fun v q => nomatch q⟩
    · rw [z]; exact ⟨o, ho, fun v q => by rw [hd] at q; cases q⟩
  keep := fun i h h' st k => let ⟨⟨old, he⟩, hi, hne⟩ := st; ⟨⟨old, k e (by simp) _ he⟩, hi.at fun o q => k it (by simp) o q, hne⟩
  item := by
    intro X hP hw hK hc i pins s σ H E I hf st hg
    subst hP hw hK
    obtain ⟨⟨old, he⟩, hit, hne⟩ := st
    obtain ⟨xs, x, hq, hx⟩ := hg
    obtain ⟨its, rv, p, hz⟩ := I.tuple hq
    obtain ⟨u, hu, ru⟩ := rv.get hx
    have hel : e < s.heap.objs.size := Heap.lt_size he
    have hil : it < s.heap.objs.size := by obtain ⟨_, q, _⟩ := hit; exact Heap.lt_size q
    have hta : IsTup s.heap a its.toArray := p
    have hai : a ≠ it := fun z => by
      obtain ⟨o, h1, h2, _⟩ := hta
      obtain ⟨o', h3, h4, _⟩ := hit
      rw [z, h3] at h1; cases h1
      rw [h4] at h2
      injection h2 with h5
      exact absurd h5 (by decide)
    have hea : e ≠ a := fun z => by
      obtain ⟨o, h1, h2, _⟩ := hta
      have he2 : s.heap.get? e = _ := he
      rw [z, h1] at he2
      have he3 := Option.some.inj he2
      rw [he3] at h2
      injection h2 with h5
      exact absurd h5 (by decide)
    refine wpAny_pyNext_enum_itemD (n := its.toArray.size) (Draws.tuple (prog := X.prog) (w := X.w) (A := X.A.in1) (I.ok.hd hc) it a hai its.toArray) he ⟨hit, hta⟩ (by simpa using (List.getElem?_eq_some_iff.mp hu).1) hne (by simp [hne, hea]) fun y h' tk hP ho hst hT hsz hk => ?_
    have hy : y = u := by
      have hP' : its[i]? = some y := by simpa using hP
      rw [hu] at hP'
      exact (Option.some.inj hP').symm
    subst hy
    refine ⟨_, rfl, wpAny_letOwnedTupleGo_enum (s := { s with heap := h', toks := tk + 1 }) ho fun h'' he' sb => ?_⟩
    have hT2 : h''.get? s.heap.objs.size = some { cls := .type "tuple", data := .seq #[.int i tk, y] } := (sb.2 _ (Nat.ne_of_gt hel)).trans hT
    have new : ObjOk X.prog X.w (upd H s.heap.objs.size (.frz { cls := .type "tuple", data := .seq #[.int i tk, y] } (.tup [.int (i : Nat), x]))) h'' s.heap.objs.size (.frz { cls := .type "tuple", data := .seq #[.int i tk, y] } (.tup [.int (i : Nat), x])) :=
      ok_frz (its := [.int i tk, y]) (by show 2 ≤ sizeLine; decide) (.cons ⟨_, rfl⟩ (.cons ru .nil)) hT2
    have I1 : Inv X pins σ (upd H s.heap.objs.size (.frz { cls := .type "tuple", data := .seq #[.int i tk, y] } (.tup [.int (i : Nat), x]))) { s with heap := h'', toks := tk + 1 } :=
      I.turnedNew (ch := [e, it]) (fun b ob hb q => (sb.2 b (fun z => hb (by simp [z]))).trans (hk b ob (fun z => hb (by simp [z])) (fun z => hb (by simp [z])) q)) hf (Nat.le_refl _) new
    refine ⟨.ref s.heap.objs.size, _, I1, rfl, ⟨_, _, x, rfl, rfl, I.hok.fresh (Nat.le_refl _), rfl, fun ys hy => by rw [I.tuple_inj hy hq]; exact hx⟩, ⟨⟨y, ?_⟩, hst.1.at fun o q => (sb.2 it (Ne.symm hne)).trans q, hne⟩, fun b hb => ?_⟩
    · have e1 : ((i + 1 : Nat) : Int) = (i : Int) + 1 := by omega
      rw [e1]; exact he'
    · have hb' : b < s.heap.objs.size := by
        have e' : b = e ∨ b = it := by simpa using hb
        rcases e' with z | z
        · rw [z]; exact hel
        · rw [z]; exact hil
      rw [upd_ne (Nat.ne_of_lt hb')]
      exact (hf b hb).1
  done := by
    intro X hP hw hK hc i pins s σ H E I hf st hg
    subst hP hw hK
    obtain ⟨⟨old, he⟩, hit, hne⟩ := st
    obtain ⟨xs, hq, hx⟩ := hg
    obtain ⟨its, rv, p, hz⟩ := I.tuple hq
    obtain ⟨f0, f1, f2, f3, f4, f5⟩ := hf it (by simp)
    have hl := rv.length
    have hta : IsTup s.heap a its.toArray := p
    have hai : a ≠ it := fun z => by
      obtain ⟨o, h1, h2, _⟩ := hta
      obtain ⟨o', h3, h4, _⟩ := hit
      rw [z, h3] at h1; cases h1
      rw [h4] at h2
      injection h2 with h5
      exact absurd h5 (by decide)
    have D : Draws X.prog X.w X.A.in1 it [it, a] i (fun _ _ => True) (fun j h => j = i ∧ h.IsTupleIter it a j ∧ h.IsTuple a its.toArray) := {
      live := fun j h st => let ⟨o, ho, _⟩ := st.2.1; ⟨o, ho⟩
      frame := fun j h h' st hk => ⟨st.1, st.2.1.at fun o e => hk it (by simp) o e, st.2.2.at fun o e => hk a (by simp) o e⟩
      item := fun j s Q E hi st hQ => absurd st.1 (Nat.ne_of_lt hi)
      done := fun s Q E st hE => wpAny_nextOf_tuple_end (I.ok.hd hc) st.2.1 st.2.2 (by simp; omega) hE }
    exact wpAny_pyNext_enum_endD D he ⟨rfl, hit, hta⟩ fun h' eb => ⟨rfl, I.turned (t' := s.toks) (fun b o hb q => eb b o hb q) f0 f1 f3 f4 f5⟩
  self := fun A i s Q E st h => let ⟨⟨_, he⟩, _⟩ := st; wpAny_pyIter_enum he h

set_option maxHeartbeats 1000000 in
theorem meets_enumerate_new1 {v : Value} {o : Obj} {H : Heap → Prop} (B : Begins v o H) :
    Meets (Builtin.«enumerate.__new__» ⟨[.type "enumerate", v], []⟩) (fun _ R s => H s.heap ∧
      R (.ok (.ret (.ref (s.heap.push o).objs.size))) { s with heap := (s.heap.push o).push { cls := .type "enumerate", data := .fields #[.none, .bool false, .ref s.heap.objs.size, rawInt 0, .none, .none] } }) :=
  .of_wp fun prog w A R s h => by
    obtain ⟨hp, g, d, tk, os⟩ := s; obtain ⟨h1, h⟩ := h
    have hsub := sub_enumerate
    have q1 : ∀ {A' : Around} {E : Value → Shared → Prop} {Q : Value → Shared → Prop}, Q (.ref hp.objs.size) ⟨hp.push o, g, d, tk, os⟩ → wpAny (model prog w) A' (pyIter v) Q E ⟨hp, g, d, tk, os⟩ :=
      fun q => B.iter prog w _ _ ⟨hp, g, d, tk, os⟩ _ h1 q
    wp_walk using q1
    refine wpAny_stack_any fun st => wpAny_pure ?_
    split
    · rename_i c _ _ _ _ _
      cases (c == Value.type "enumerate")
      · wp_walk using q1
        exact ⟨_, rfl, h⟩
      · wp_walk using q1
        exact ⟨_, rfl, h⟩
    · wp_walk using q1
      exact ⟨_, rfl, h⟩
theorem enum_begins1 {prog : Program} {w : World} {A : Around} {E : Value → Shared → Prop} {s : Shared} {v : Value} {o : Obj} {H : Heap → Prop} {Q : Value → Shared → Prop} (B : Begins v o H) (h1 : H s.heap)
    (h : ∀ h', IsEnum h' (s.heap.objs.size + 1) s.heap.objs.size 0 .none → h'.get? s.heap.objs.size = some o → h'.objs.size = s.heap.objs.size + 2 →
      (∀ b o, s.heap.get? b = some o → h'.get? b = some o) → Q (.ref (s.heap.objs.size + 1)) { s with heap := h' }) :
    wpAny (model prog w) A (call (.type "enumerate") [v]) Q E s := by
  refine callType_new F.called_enumerate (by decide) (F.typeCall_enumerate_1 _) (F.newCall_enumerate_1 _) (fun obj => F.args_object_init_2 obj _) F.entry_enumerate_new
    (meets_enumerate_new1 B) ⟨h1, ?_⟩
  have hz : (s.heap.push o).objs.size = s.heap.objs.size + 1 := Heap.size_push ..
  show _ ∧ _
  rw [hz]
  have he : IsEnum ((s.heap.push o).push { cls := .type "enumerate", data := .fields #[.none, .bool false, .ref s.heap.objs.size, rawInt 0, .none, .none] }) (s.heap.objs.size + 1) s.heap.objs.size 0 .none := by
    have := Heap.get?_push_size (s.heap.push o) (o := { cls := .type "enumerate", data := .fields #[.none, .bool false, .ref s.heap.objs.size, rawInt 0, .none, .none] }) rfl
    rw [hz] at this; exact this
  refine ⟨⟨_, he, rfl⟩, h _ he (Heap.get?_push_of_some _ (Heap.get?_push_size _ B.free)) (by rw [Heap.size_push, hz]) fun b o x => Heap.get?_push_of_some _ (Heap.get?_push_of_some _ x)⟩
def iEnumL (K : PySem.W.Frag) (ta : TA) : TI := fun σ H R => ta σ H fun vs H1 => ∃ a xs, vs = [.ref a] ∧ SqL K H1 a xs ∧ R (IteN fun H xs => SqL K H a xs) H1
def iEnumT (K : PySem.W.Frag) (ta : TA) : TI := fun σ H R => ta σ H fun vs H1 => ∃ a xs, vs = [.ref a] ∧ SqT K H1 a xs ∧ R (IteN fun H xs => SqT K H a xs) H1
section
variable {X : Cx} {e : Expr} {ta : TA} {p pos tpos : Pos} {elts : List Expr} {kk : Nat}
theorem pi_enumL (hg : Gl X "enumerate") (hm : X.mg "enumerate" = none) (ha : PA X [e] ta) (hs : starEach [e] X.env = [(false, eval e X.env)] := by rfl) :
    PI X (.Tuple elts kk tpos) (.Call (.Name "enumerate" p) [e] [] pos) (iEnumL X.K ta) := by
  refine ⟨fun pins s σ H R I h => ?_⟩
  refine Call_ (ld_blt I hg hm boot_enumerate (PyProof.Rows.callWith_type1 (thn (ha.run pos pins s σ H _ I h) fun us s1 ⟨vs, H1, I1, r1, q1⟩ => ?_) hs rfl))
  obtain ⟨a, xs, ex, hq, q⟩ := q1
  subst ex
  cases r1 with
  | cons r rr =>
    cases rr
    cases r
    obtain ⟨its, rv, p', hz⟩ := I1.list hq
    refine call_enumerate_list p'.isList fun h' he hit hsz hk => wpAny_pyIter_enum he ?_
    have I2 : Inv X pins σ H1 { s1 with heap := h' } := I1.kept (t' := s1.toks) hk
    refine ⟨s1.heap.objs.size + 1, [s1.heap.objs.size + 1, s1.heap.objs.size], _, _, H1, rfl, I2, turn_enumL a (s1.heap.objs.size + 1) s1.heap.objs.size, ⟨⟨.none, he⟩, hit, Nat.succ_ne_self _⟩, fun b hb => ?_, q⟩
    have e' : b = s1.heap.objs.size + 1 ∨ b = s1.heap.objs.size := by simpa using hb
    have hle : s1.heap.objs.size ≤ b := by
      rcases e' with z | z
      · rw [z]; exact Nat.le_add_right _ _
      · rw [z]; exact Nat.le_refl _
    exact I1.fpOk hle (I1.hok.fresh hle)
theorem pi_enumT (hg : Gl X "enumerate") (hm : X.mg "enumerate" = none) (ha : PA X [e] ta) (hs : starEach [e] X.env = [(false, eval e X.env)] := by rfl) :
    PI X (.Tuple elts kk tpos) (.Call (.Name "enumerate" p) [e] [] pos) (iEnumT X.K ta) := by
  refine ⟨fun pins s σ H R I h => ?_⟩
  refine Call_ (ld_blt I hg hm boot_enumerate (PyProof.Rows.callWith_type1 (thn (ha.run pos pins s σ H _ I h) fun us s1 ⟨vs, H1, I1, r1, q1⟩ => ?_) hs rfl))
  obtain ⟨a, xs, ex, hq, q⟩ := q1
  subst ex
  cases r1 with
  | cons r rr =>
    cases rr
    cases r
    obtain ⟨its, rv, p', hz⟩ := I1.tuple hq
    refine enum_begins1 (begins_tuple a its.toArray) p' fun h' he hit hsz hk => wpAny_pyIter_enum he ?_
    have I2 : Inv X pins σ H1 { s1 with heap := h' } := I1.kept (t' := s1.toks) hk
    refine ⟨s1.heap.objs.size + 1, [s1.heap.objs.size + 1, s1.heap.objs.size], _, _, H1, rfl, I2, turn_enumT a (s1.heap.objs.size + 1) s1.heap.objs.size, ⟨⟨.none, he⟩, ⟨_, hit, rfl, rfl⟩, Nat.succ_ne_self _⟩, fun b hb => ?_, q⟩
    have e' : b = s1.heap.objs.size + 1 ∨ b = s1.heap.objs.size := by simpa using hb
    have hle : s1.heap.objs.size ≤ b := by
      rcases e' with z | z
      · rw [z]; exact Nat.le_add_right _ _
      · rw [z]; exact Nat.le_refl _
    exact I1.fpOk hle (I1.hok.fresh hle)
abbrev KE_pairs (prog : Program) (w : World) (h : Heap) (prs : List (Key × Value)) (pv : List (Value × Value)) : Prop := PySem.PairsHave (mixKind prog w) pv.length (PairRel pv) prs
theorem pv_of (h : Heap) : ∀ (ps : List Addr) (prs : List (Key × Value)), prs.length = ps.length → (∀ (j : Nat) (q : Key × Value), prs[j]? = some q → ∃ (b : Addr) (u : Value), ps[j]? = some b ∧ IsTup h b #[u, q.2] ∧ keyIs q.1 u = true) →
    ∃ pv : List (Value × Value), pv.length = prs.length ∧ ∀ (j : Nat) (k v : Value), pv[j]? = some (k, v) → ∃ (b : Addr) (q : Key × Value), ps[j]? = some b ∧ prs[j]? = some q ∧ q.2 = v ∧ IsTup h b #[k, v] ∧ keyIs q.1 k = true
  | ps, [], _, _ => ⟨[], rfl, fun j k v e => by simp at e⟩
  | [], _ :: _, hl, _ => by simp at hl
  | p :: ps, q :: prs, hl, hp => by
    obtain ⟨b, u, h1, h2, h3⟩ := hp 0 q rfl
    obtain ⟨pv, hpl, hpv⟩ := pv_of h ps prs (by simpa using hl) fun j q' e => by
      obtain ⟨b, u, e1, e2, e3⟩ := hp (j + 1) q' (by simpa using e)
      exact ⟨b, u, by simpa using e1, e2, e3⟩
    refine ⟨(u, q.2) :: pv, by simp [hpl], fun j k v e => ?_⟩
    cases j with
    | zero =>
      simp at e
      obtain ⟨e1, e2⟩ := e
      subst e1
      subst e2
      exact ⟨b, q, h1, rfl, rfl, h2, h3⟩
    | succ j =>
      obtain ⟨b', q', e1, e2, e3, e4, e5⟩ := hpv j k v (by simpa using e)
      exact ⟨b', q', by simpa using e1, by simpa using e2, e3, e4, e5⟩
/-- dict(t) of a tuple of pairs -/
theorem call_dictN (hcalm : X.calm = true) : CallR X (.type "dict") (fun xs H Q => ∃ (a : Addr) (ps : List Addr) (kvs : List (Key × V)), xs = [.ref a] ∧ SqN X.K H a (ps.map V.ref) ∧ Paired (fun p kv => SqT X.K H p [kV kv.1, kv.2]) ps kvs ∧
    ∀ p, H p = none → Q (.ref p) (upd H p (.dK (mergeK [] kvs)))) := by
  intro pins s σ H xs us Q I r q
  obtain ⟨a, ps, kvs, ex, hq, hp, q⟩ := q
  subst ex
  obtain ⟨u, eu, rx⟩ := vals1 r
  subst eu
  cases rx
  obtain ⟨its, rv, pl, hz⟩ := I.tuple hq.t
  have ei := refs_at rv
  subst ei
  rw [List.length_map] at hz
  obtain ⟨prs, rel, hl, hpr⟩ := pairs_of I hp
  have hps : PlainSeq "tuple" s.heap a (ps.map Value.ref).toArray := by
    obtain ⟨o, ho, hc, n, hd⟩ := pl
    rcases hq with ⟨o', h1, h2⟩ | ⟨o', its', n', h1, _, h2, _⟩
    · have h3 : ObjOk X.prog X.w H s.heap a (.frz o' (.tup (ps.map V.ref))) := I.hok a _ h1
      have h4 := h3.1
      rw [ho] at h4
      cases h4
      exact ⟨o, n, ho, hc, h2, hd⟩
    · have h3 := I.kIn a o' h1
      rw [ho] at h3
      cases h3
      exact ⟨o, n, ho, hc, h2, hd⟩
  obtain ⟨pv, hpl, hpv⟩ := pv_of s.heap ps prs hl hpr
  have hk : KE_pairs X.prog X.w s.heap prs pv := ⟨by rw [hpl], fun i key v e => by
    obtain ⟨b, q, _, h2, h3, _, h5⟩ := hpv i key v e
    subst h3
    exact ⟨q.1, h2, h5⟩⟩
  refine PySem.call_dict_pairs (knd := mixKind X.prog X.w) (kvs := prs) (PairArg.tuple a (ps.map Value.ref).toArray (fun j => ps.getD j 0) pv) (I.ok.hd hcalm) ⟨hps, by simp [hpl, hl], fun j k v e => ?_⟩ hk (by rw [hpl, hl]; exact hz) fun h' tk hd' k => ?_
  · obtain ⟨b, q, h1, _, _, h4, _⟩ := hpv j k v e
    have hb : ps.getD j 0 = b := by simp [List.getD, h1]
    refine ⟨by simp [h1, List.getD], .inl ?_⟩
    show s.heap.IsTuple (ps.getD j 0) #[k, v]
    rw [hb]
    exact h4
  · have hm : (s.heap.objs.size == sysModules) = false := beq_eq_false_iff_ne.mpr (Nat.ne_of_gt I.big)
    have hlen : (mergeK [] kvs).length ≤ sizeLine := by
      refine Nat.le_trans (length_mergeK kvs []) ?_
      rw [List.length_nil, Nat.zero_add, rel.length, hl]
      exact hz
    exact ⟨.ref s.heap.objs.size, upd H s.heap.objs.size (.dK (mergeK [] kvs)), I.laid (t' := tk) (fun b o e => k b o (by simp) e) (Nat.le_refl _) (show ObjOk X.prog X.w _ _ _ (.dK (mergeK [] kvs)) from ⟨hlen, hm, merged [] prs, KV.merge rel .nil, hd'⟩), rfl, q _ (I.hok.fresh (Nat.le_refl _))⟩
end
end Z
set_option Elab.async false
set_option linter.all false
set_option maxRecDepth 100000
/-! Z1: plain data over the hand layer: values by value, lists owned or frozen, a store for what is shared. -/
namespace Z
open PySem L2

/-- plain data: what a value is, with lists by value; ptr r: the shared object number r -/
inductive D where
  | non
  | bl (b : Bool)
  | int (i : Int)
  | str (x : Str)
  | tup (ds : List D)
  | lst (ds : List D)
  | dct (ks : List (Key × D))
  | scr (ns : List Int)
  | ptr (r : Nat)

/-- a slot (a local name, a field): unset, a value, a list of one's own, a dict of one's own -/
inductive Sl where
  | un
  | val (d : D)
  | own (ds : List D)
  | ownd (ks : List (Key × D))

/-- a shared object -/
inductive Ob where
  | lst (ds : List D)
  | ins (c : Nat) (fs : List (Str × Sl))

inductive Role where
  | slot (i : Nat)
  | obj (r : Nat)
  | fld (r : Nat) (f : Str)

/-- a view of the heap: F what never changes any more, P what belongs to the callers, m where the shared objects stand, q who owns an address -/
structure Wd where
  F : Hp
  P : Hp
  m : List Addr
  q : Addr → Option Role

mutual
inductive RepD (K : PySem.W.Frag) (F : Hp) (m : List Addr) : V → D → Prop
  | non : RepD K F m .non .non
  | bl (b : Bool) : RepD K F m (.bl b) (.bl b)
  | int (i : Int) : RepD K F m (.int i) (.int i)
  | str (x : Str) : RepD K F m (.str x) (.str x)
  | tup {a : Addr} {vs : List V} {ds : List D} : SqN K F a vs → RepL K F m vs ds → RepD K F m (.ref a) (.tup ds)
  | lst {a : Addr} {vs : List V} {ds : List D} : F a = some (.lst vs) → RepL K F m vs ds → RepD K F m (.ref a) (.lst ds)
  | dct {a : Addr} {vs : List (Key × V)} {ks : List (Key × D)} : F a = some (.dK vs) → RepK K F m vs ks → RepD K F m (.ref a) (.dct ks)
  | scr {a : Addr} {ns : List Int} : SqL K F a (ns.map V.int) → RepD K F m (.ref a) (.scr ns)
  | ptr {a : Addr} {r : Nat} : m[r]? = some a → RepD K F m (.ref a) (.ptr r)
inductive RepL (K : PySem.W.Frag) (F : Hp) (m : List Addr) : List V → List D → Prop
  | nil : RepL K F m [] []
  | cons {v : V} {d : D} {vs : List V} {ds : List D} : RepD K F m v d → RepL K F m vs ds → RepL K F m (v :: vs) (d :: ds)
inductive RepK (K : PySem.W.Frag) (F : Hp) (m : List Addr) : List (Key × V) → List (Key × D) → Prop
  | nil : RepK K F m [] []
  | cons {k : Key} {v : V} {d : D} {vs : List (Key × V)} {ks : List (Key × D)} : RepD K F m v d → RepK K F m vs ks → RepK K F m ((k, v) :: vs) ((k, d) :: ks)
end

def Sub (F F' : Hp) : Prop := ∀ a o, F a = some o → F' a = some o
theorem Sub.refl (F : Hp) : Sub F F := fun _ _ h => h
theorem Sub.trans {F G H : Hp} (a : Sub F G) (b : Sub G H) : Sub F H := fun c o h => b c o (a c o h)
def Pre (m m' : List Addr) : Prop := ∀ (r : Nat) (a : Addr), m[r]? = some a → m'[r]? = some a
theorem Pre.refl (m : List Addr) : Pre m m := fun _ _ h => h
theorem Pre.trans {a b c : List Addr} (x : Pre a b) (y : Pre b c) : Pre a c := fun r z h => y r z (x r z h)
theorem Pre.app (m : List Addr) (a : Addr) : Pre m (m ++ [a]) := fun r z h => by
  rw [List.getElem?_append_left (List.getElem?_eq_some_iff.mp h).1]
  exact h

theorem Sub.sqN {K : PySem.W.Frag} {F F' : Hp} (e : Sub F F') {a : Addr} {xs : List V} (h : SqN K F a xs) : SqN K F' a xs := by
  rcases h with ⟨o, h, d⟩ | h
  · exact .inl ⟨o, e _ _ h, d⟩
  · exact .inr h
theorem Sub.sqT {K : PySem.W.Frag} {F F' : Hp} (e : Sub F F') {a : Addr} {xs : List V} (h : SqN K F a xs) : SqT K F' a xs := (e.sqN h).t
theorem Sub.sqL {K : PySem.W.Frag} {F F' : Hp} (e : Sub F F') {a : Addr} {xs : List V} (h : SqL K F a xs) : SqL K F' a xs := by
  rcases h with (h | ⟨o, h⟩) | h
  · exact .inl (.inl (e _ _ h))
  · exact .inl (.inr ⟨o, e _ _ h⟩)
  · exact .inr h

mutual
theorem RepD.mono {K : PySem.W.Frag} {F F' : Hp} {m m' : List Addr} (hf : Sub F F') (hm : Pre m m') : ∀ {v : V} {d : D}, RepD K F m v d → RepD K F' m' v d
  | _, _, .non => .non
  | _, _, .bl b => .bl b
  | _, _, .int i => .int i
  | _, _, .str x => .str x
  | _, _, .tup h l => .tup (hf.sqN h) (RepL.mono hf hm l)
  | _, _, .lst h l => .lst (hf _ _ h) (RepL.mono hf hm l)
  | _, _, .dct h l => .dct (hf _ _ h) (RepK.mono hf hm l)
  | _, _, .scr h => .scr (hf.sqL h)
  | _, _, .ptr h => .ptr (hm _ _ h)
theorem RepL.mono {K : PySem.W.Frag} {F F' : Hp} {m m' : List Addr} (hf : Sub F F') (hm : Pre m m') : ∀ {vs : List V} {ds : List D}, RepL K F m vs ds → RepL K F' m' vs ds
  | _, _, .nil => .nil
  | _, _, .cons h l => .cons (RepD.mono hf hm h) (RepL.mono hf hm l)
theorem RepK.mono {K : PySem.W.Frag} {F F' : Hp} {m m' : List Addr} (hf : Sub F F') (hm : Pre m m') : ∀ {vs : List (Key × V)} {ks : List (Key × D)}, RepK K F m vs ks → RepK K F' m' vs ks
  | _, _, .nil => .nil
  | _, _, .cons h l => .cons (RepD.mono hf hm h) (RepK.mono hf hm l)
end

section
variable {K : PySem.W.Frag} {F : Hp} {m : List Addr}
theorem RepL.length : ∀ {vs : List V} {ds : List D}, RepL K F m vs ds → vs.length = ds.length
  | _, _, .nil => rfl
  | _, _, .cons _ l => congrArg (· + 1) (RepL.length l)
theorem RepL.append : ∀ {vs ws : List V} {ds es : List D}, RepL K F m vs ds → RepL K F m ws es → RepL K F m (vs ++ ws) (ds ++ es)
  | _, _, _, _, .nil, r => r
  | _, _, _, _, .cons h l, r => .cons h (RepL.append l r)
theorem RepL.get : ∀ {vs : List V} {ds : List D} {i : Nat} {d : D}, RepL K F m vs ds → ds[i]? = some d → ∃ v, vs[i]? = some v ∧ RepD K F m v d
  | _, _, _, _, .nil, e => by simp at e
  | _, _, 0, _, .cons h _, e => by simp at e; subst e; exact ⟨_, rfl, h⟩
  | _, _, i + 1, d, .cons _ l, e => by
    obtain ⟨v, h1, h2⟩ := RepL.get (i := i) (d := d) l (by simpa using e)
    exact ⟨v, by simpa using h1, h2⟩
theorem RepL.getV : ∀ {vs : List V} {ds : List D} {i : Nat} {v : V}, RepL K F m vs ds → vs[i]? = some v → ∃ d, ds[i]? = some d ∧ RepD K F m v d
  | _, _, _, _, .nil, e => by simp at e
  | _, _, 0, _, .cons h _, e => by simp at e; subst e; exact ⟨_, rfl, h⟩
  | _, _, i + 1, v, .cons _ l, e => by
    obtain ⟨d, h1, h2⟩ := RepL.getV (i := i) (v := v) l (by simpa using e)
    exact ⟨d, by simpa using h1, h2⟩
theorem RepL.take : ∀ {vs : List V} {ds : List D} (n : Nat), RepL K F m vs ds → RepL K F m (vs.take n) (ds.take n)
  | _, _, 0, _ => .nil
  | _, _, _ + 1, .nil => .nil
  | _, _, n + 1, .cons h l => .cons h (RepL.take n l)
theorem RepL.drop : ∀ {vs : List V} {ds : List D} (n : Nat), RepL K F m vs ds → RepL K F m (vs.drop n) (ds.drop n)
  | _, _, 0, r => r
  | _, _, _ + 1, .nil => .nil
  | _, _, n + 1, .cons _ l => RepL.drop n l
theorem RepL.set {v : V} {d : D} (h : RepD K F m v d) : ∀ {vs : List V} {ds : List D} (i : Nat), RepL K F m vs ds → RepL K F m (vs.set i v) (ds.set i d)
  | _, _, _, .nil => .nil
  | _, _, 0, .cons _ l => .cons h l
  | _, _, i + 1, .cons g l => .cons g (RepL.set h i l)
theorem RepL.eraseIdx : ∀ {vs : List V} {ds : List D} (i : Nat), RepL K F m vs ds → RepL K F m (vs.eraseIdx i) (ds.eraseIdx i)
  | _, _, _, .nil => .nil
  | _, _, 0, .cons _ l => l
  | _, _, i + 1, .cons g l => .cons g (RepL.eraseIdx i l)
theorem RepL.reverse : ∀ {vs : List V} {ds : List D}, RepL K F m vs ds → RepL K F m vs.reverse ds.reverse
  | _, _, .nil => .nil
  | _, _, .cons h l => by
    rw [List.reverse_cons, List.reverse_cons]
    exact (RepL.reverse l).append (.cons h .nil)
theorem RepL.rep {v : V} {d : D} (h : RepD K F m v d) : ∀ n : Nat, RepL K F m (List.replicate n v) (List.replicate n d)
  | 0 => .nil
  | n + 1 => .cons h (RepL.rep h n)
theorem RepL.repF {vs : List V} {ds : List D} (h : RepL K F m vs ds) : ∀ n : Nat, RepL K F m (List.replicate n vs).flatten (List.replicate n ds).flatten
  | 0 => .nil
  | n + 1 => by
    rw [List.replicate_succ, List.replicate_succ, List.flatten_cons, List.flatten_cons]
    exact h.append (RepL.repF h n)
end

/-! ### the state -/
/-- the classes: where they stand; what an exception of a class carries, by the name of its field; amb: what is known of the frozen part besides -/
structure Cl where
  cl : Nat → Addr
  fl : Nat → Option Str
  amb : Hp → Prop
  mono : ∀ F F', Sub F F' → amb F → amb F'

inductive RepS (K : PySem.W.Frag) (w : Wd) (H : Hp) (role : Role) : Option V → Sl → Prop
  | un {v : Option V} : RepS K w H role v .un
  | val {v : V} {d : D} : RepD K w.F w.m v d → RepS K w H role (some v) (.val d)
  | own {a : Addr} {vs : List V} {ds : List D} : w.q a = some role → H a = some (.lst vs) → RepL K w.F w.m vs ds → RepS K w H role (some (.ref a)) (.own ds)
  | ownd {a : Addr} {vs : List (Key × V)} {ks : List (Key × D)} : w.q a = some role → H a = some (.dK vs) → RepK K w.F w.m vs ks → RepS K w H role (some (.ref a)) (.ownd ks)

/-- the fields of an instance: the same names in the same order -/
def RepFs (K : PySem.W.Frag) (w : Wd) (H : Hp) (r : Nat) (fv : List (Str × V)) (fs : List (Str × Sl)) : Prop :=
  Paired (fun (p : Str × V) (q : Str × Sl) => p.1 = q.1 ∧ RepS K w H (.fld r p.1) (some p.2) q.2) fv fs

inductive RepO (K : PySem.W.Frag) (cl : Nat → Addr) (w : Wd) (H : Hp) (r : Nat) (a : Addr) : Ob → Prop
  | lst {vs : List V} {ds : List D} : H a = some (.lst vs) → RepL K w.F w.m vs ds → RepO K cl w H r a (.lst ds)
  | ins {c : Nat} {dx : Addr} {fv : List (Str × V)} {fs : List (Str × Sl)} : H a = some (.ins (cl c) dx fv) → RepFs K w H r fv fs → RepO K cl w H r a (.ins c fs)

structure Rel (K : PySem.W.Frag) (C : Cl) (w : Wd) (fr : List Sl) (S : List Ob) (σ : St) (H : Hp) : Prop where
  subF : Sub w.F H
  subP : Sub w.P H
  dis : ∀ a o, w.F a = some o → w.P a = none
  rol : ∀ a r, w.q a = some r → w.F a = none ∧ w.P a = none ∧ ∃ o, H a = some o
  len : w.m.length = S.length
  len2 : σ.length = fr.length
  slot : ∀ (i : Nat) (x : Sl) (v : Option V), fr[i]? = some x → σ[i]? = some v → RepS K w H (.slot i) v x
  obj : ∀ (r : Nat) (a : Addr) (o : Ob), w.m[r]? = some a → S[r]? = some o → w.q a = some (.obj r) ∧ RepO K C.cl w H r a o
  amb : C.amb w.F

/-- a later view: what is frozen stays, the callers' part is the same, shared objects stay where they are -/
structure Le (w w' : Wd) : Prop where
  F : Sub w.F w'.F
  P : w'.P = w.P
  m : Pre w.m w'.m
theorem Le.refl (w : Wd) : Le w w := ⟨.refl _, rfl, .refl _⟩
theorem Le.trans {a b c : Wd} (x : Le a b) (y : Le b c) : Le a c := ⟨x.F.trans y.F, y.P.trans x.P, x.m.trans y.m⟩

theorem RepD.le {K : PySem.W.Frag} {w w' : Wd} (h : Le w w') {v : V} {d : D} (r : RepD K w.F w.m v d) : RepD K w'.F w'.m v d := RepD.mono h.F h.m r
theorem RepL.le {K : PySem.W.Frag} {w w' : Wd} (h : Le w w') {v : List V} {d : List D} (r : RepL K w.F w.m v d) : RepL K w'.F w'.m v d := RepL.mono h.F h.m r
theorem RepK.le {K : PySem.W.Frag} {w w' : Wd} (h : Le w w') {v : List (Key × V)} {d : List (Key × D)} (r : RepK K w.F w.m v d) : RepK K w'.F w'.m v d := RepK.mono h.F h.m r

/-- a unique list: nobody else knows it -/
structure RepU (K : PySem.W.Frag) (w : Wd) (H : Hp) (v : V) (ds : List D) : Prop where
  ex : ∃ (a : Addr) (vs : List V), v = .ref a ∧ H a = some (.lst vs) ∧ RepL K w.F w.m vs ds ∧ w.F a = none ∧ w.P a = none ∧ w.q a = none
structure RepUD (K : PySem.W.Frag) (w : Wd) (H : Hp) (v : V) (ks : List (Key × D)) : Prop where
  ex : ∃ (a : Addr) (vs : List (Key × V)), v = .ref a ∧ H a = some (.dK vs) ∧ RepK K w.F w.m vs ks ∧ w.F a = none ∧ w.P a = none ∧ w.q a = none

section
variable {K : PySem.W.Frag} {C : Cl} {cl : Nat → Addr} {w w' : Wd} {fr fr' : List Sl} {S : List Ob} {σ : St} {H H' : Hp}

theorem RepS.le (h : Le w w') (hq : ∀ a, w.q a = some role → w'.q a = some role) (hH : ∀ a o, w.q a = some role → H a = some o → H' a = some o) {v : Option V} {x : Sl} (r : RepS K w H role v x) : RepS K w' H' role v x := by
  cases r with
  | un => exact .un
  | val r => exact .val (r.le h)
  | own a b c => exact .own (hq _ a) (hH _ _ a b) (c.le h)
  | ownd a b c => exact .ownd (hq _ a) (hH _ _ a b) (c.le h)
theorem RepFs.le (h : Le w w') {r : Nat} (hq : ∀ a f, w.q a = some (.fld r f) → w'.q a = some (.fld r f)) (hH : ∀ a o f, w.q a = some (.fld r f) → H a = some o → H' a = some o) {fv : List (Str × V)} {fs : List (Str × Sl)} (x : RepFs K w H r fv fs) : RepFs K w' H' r fv fs :=
  Paired.mapP x fun p q z => ⟨z.1, z.2.le h (fun a => hq a p.1) (fun a o => hH a o p.1)⟩
theorem RepO.le (h : Le w w') {r : Nat} {a : Addr} (hq : ∀ a f, w.q a = some (.fld r f) → w'.q a = some (.fld r f)) (hH : ∀ a o f, w.q a = some (.fld r f) → H a = some o → H' a = some o) (ha : ∀ o, H a = some o → H' a = some o) {o : Ob} (x : RepO K cl w H r a o) : RepO K cl w' H' r a o := by
  cases x with
  | lst b c => exact .lst (ha _ b) (c.le h)
  | ins b c => exact .ins (ha _ b) (c.le h hq hH)

/-- the view grows and the heap with it: all that is owned stays as it is -/
theorem Rel.grow (R : Rel K C w fr S σ H) (h : Le w w') (hm : w'.m = w.m) (hq : ∀ a r, w.q a = some r → w'.q a = some r) (hs : Sub H H')
    (subF : Sub w'.F H') (dis : ∀ a o, w'.F a = some o → w'.P a = none) (rol : ∀ a r, w'.q a = some r → w'.F a = none ∧ w'.P a = none ∧ ∃ o, H' a = some o) : Rel K C w' fr S σ H' where
  subF := subF
  subP := fun a o e => hs _ _ (R.subP a o (by rw [← h.P]; exact e))
  dis := dis
  rol := rol
  len := by rw [hm]; exact R.len
  len2 := R.len2
  slot := fun i x v e1 e2 => (R.slot i x v e1 e2).le h (fun a => hq a _) fun a o _ => hs a o
  obj := fun r a o e1 e2 => by
    rw [hm] at e1
    obtain ⟨x, y⟩ := R.obj r a o e1 e2
    exact ⟨hq _ _ x, y.le h (fun a f => hq a _) (fun a o _ _ => hs a o) fun o => hs _ _⟩
  amb := C.mono _ _ h.F R.amb
/-- the heap alone grows -/
theorem Rel.same (R : Rel K C w fr S σ H) (hs : Sub H H') : Rel K C w fr S σ H' :=
  R.grow (.refl w) rfl (fun _ _ h => h) hs (R.subF.trans hs) R.dis fun a r e => let ⟨x, y, o, z⟩ := R.rol a r e; ⟨x, y, o, hs _ _ z⟩
theorem sub_new {p : Addr} (hp : H p = none) (o : HO) : Sub H (upd H p o) := fun b u e => by rw [upd_ne (ne_of_none e hp)]; exact e
/-- a frozen thing more: o at a, which nobody owns -/
theorem Rel.freeze (R : Rel K C w fr S σ H) {a : Addr} {o : HO} (ha : H a = some o) (hP : w.P a = none) (hq : w.q a = none) (hF : w.F a = none) :
    Rel K C { w with F := upd w.F a o } fr S σ H ∧ Le w { w with F := upd w.F a o } := by
  have l : Le w { w with F := upd w.F a o } := ⟨sub_new hF o, rfl, .refl _⟩
  refine ⟨R.grow l rfl (fun _ _ h => h) (.refl _) (fun b u e => ?_) (fun b u e => ?_) fun b r e => ?_, l⟩
  · by_cases hb : b = a
    · subst hb
      have e' : upd w.F b o b = some u := e
      rw [upd_same] at e'
      cases e'
      exact ha
    · have e' : upd w.F a o b = some u := e
      rw [upd_ne hb] at e'
      exact R.subF b u e'
  · by_cases hb : b = a
    · subst hb; exact hP
    · have e' : upd w.F a o b = some u := e
      rw [upd_ne hb] at e'
      exact R.dis b u e'
  · obtain ⟨x, y, z⟩ := R.rol b r e
    refine ⟨?_, y, z⟩
    show upd w.F a o b = none
    rw [upd_ne (fun z => by rw [z, hq] at e; cases e)]
    exact x
theorem Rel.fresh (R : Rel K C w fr S σ H) {p : Addr} (hp : H p = none) : w.F p = none ∧ w.P p = none ∧ w.q p = none := by
  refine ⟨?_, ?_, ?_⟩
  · cases e : w.F p with
    | none => rfl
    | some o => rw [R.subF p o e] at hp; cases hp
  · cases e : w.P p with
    | none => rfl
    | some o => rw [R.subP p o e] at hp; cases hp
  · cases e : w.q p with
    | none => rfl
    | some r => obtain ⟨_, _, o, z⟩ := R.rol p r e; rw [z] at hp; cases hp
/-- a new thing is laid and frozen at once -/
theorem Rel.lay (R : Rel K C w fr S σ H) {p : Addr} (hp : H p = none) (o : HO) :
    Rel K C { w with F := upd w.F p o } fr S σ (upd H p o) ∧ Le w { w with F := upd w.F p o } := by
  obtain ⟨h1, h2, h3⟩ := R.fresh hp
  exact (R.same (sub_new hp o)).freeze upd_same h2 h3 h1
theorem RepU.new (R : Rel K C w fr S σ H) {p : Addr} (hp : H p = none) {vs : List V} {ds : List D} (r : RepL K w.F w.m vs ds) : RepU K w (upd H p (.lst vs)) (.ref p) ds := by
  obtain ⟨h1, h2, h3⟩ := R.fresh hp
  exact ⟨p, vs, rfl, upd_same, r, h1, h2, h3⟩
/-- a unique list is frozen -/
theorem RepU.freeze (R : Rel K C w fr S σ H) {v : V} {ds : List D} (u : RepU K w H v ds) : ∃ w', Le w w' ∧ Rel K C w' fr S σ H ∧ RepD K w'.F w'.m v (.lst ds) := by
  obtain ⟨a, vs, rfl, h, r, hF, hP, hq⟩ := u.ex
  obtain ⟨R', l⟩ := R.freeze h hP hq hF
  exact ⟨_, l, R', .lst upd_same (r.le l)⟩
end

/-! ### results, the monad -/
/-- an exception: its class by number, what it carries -/
structure Ex where
  c : Nat
  n : Int

inductive Rs (α : Type) where
  | ok (a : α) (fr : List Sl) (S : List Ob)
  | exc (x : Ex) (fr : List Sl) (S : List Ob)
  | stuck

abbrev Mo (α : Type) := List Sl → List Ob → Rs α

def Mo.pure {α : Type} (a : α) : Mo α := fun fr S => .ok a fr S
def Rs.bind {α β : Type} (r : Rs α) (k : α → Mo β) : Rs β :=
  match r with
  | .ok a fr S => k a fr S
  | .exc x fr S => .exc x fr S
  | .stuck => .stuck
def Mo.bind {α β : Type} (m : Mo α) (k : α → Mo β) : Mo β := fun fr S => Rs.bind (m fr S) k
instance : Monad Mo where
  pure := Mo.pure
  bind := Mo.bind
def Mo.stuck {α : Type} : Mo α := fun _ _ => .stuck

/-- how a function of the text ends -/
inductive RV where
  | d (x : D)
  | u (ds : List D)
inductive RF where
  | ok (v : RV) (S : List Ob)
  | exc (x : Ex) (S : List Ob)
  | stuck
abbrev Fm := List D → List Ob → RF
/-- how a statement ends -/
inductive Fl where
  | nx | bk | ct
  | rt (v : RV)

/-- an exception as it lies -/
def RepX (C : Cl) (w : Wd) (H : Hp) (c : Value) (d : Option Addr) (x : Ex) : Prop :=
  c = .ref (C.cl x.c) ∧ ∀ f, C.fl x.c = some f → ∃ (a : Addr) (fs : List (Str × V)), d = some a ∧ w.F a = some (.xd fs) ∧ fs.lookup f = some (.int x.n)

/-- what a computation's end is to give -/
def Good {α β : Type} (K : PySem.W.Frag) (C : Cl) (w : Wd) (W : WX) (Rp : Wd → Hp → β → α → Prop) (σ : St) (Q : β → Hp → Prop) : Rs α → Prop
  | .ok a fr S => ∀ w' H' v, Le w w' → Rel K C w' fr S σ H' → Rp w' H' v a → Q v H'
  | .exc x fr S => ∀ w' H' c d, Le w w' → Rel K C w' fr S σ H' → RepX C w' H' c d x → W c d σ H'
  | .stuck => False
def lift {α β : Type} (K : PySem.W.Frag) (C : Cl) (W : WX) (Rp : Wd → Hp → β → α → Prop) (m : Mo α) : St → Hp → (β → Hp → Prop) → Prop := fun σ H Q =>
  ∃ w fr S, Rel K C w fr S σ H ∧ Good K C w W Rp σ Q (m fr S)

def pD (K : PySem.W.Frag) : Wd → Hp → V → D → Prop := fun w _ v d => RepD K w.F w.m v d
def pL (K : PySem.W.Frag) : Wd → Hp → List V → List D → Prop := fun w _ v d => RepL K w.F w.m v d
def pU (K : PySem.W.Frag) : Wd → Hp → V → List D → Prop := fun w H v d => RepU K w H v d
def pUD (K : PySem.W.Frag) : Wd → Hp → V → List (Key × D) → Prop := fun w H v d => RepUD K w H v d
def pB : Wd → Hp → Bool → Bool → Prop := fun _ _ v d => v = d

section
variable {α α' β β' : Type} {K : PySem.W.Frag} {C : Cl} {w w' : Wd} {W : WX} {Rp : Wd → Hp → β → α → Prop} {Rp' : Wd → Hp → β' → α' → Prop} {σ : St} {H : Hp} {Q Q' : β → Hp → Prop}
theorem Good.le (h : Le w w') {r : Rs α} (g : Good K C w W Rp σ Q r) : Good K C w' W Rp σ Q r := by
  cases r with
  | ok a fr S => exact fun w2 H' v l => g w2 H' v (h.trans l)
  | exc x fr S => exact fun w2 H' c d l => g w2 H' c d (h.trans l)
  | stuck => exact g
theorem Good.mono {r : Rs α} (g : Good K C w W Rp σ Q r) (h : ∀ v H', Q v H' → Q' v H') : Good K C w W Rp σ Q' r := by
  cases r with
  | ok a fr S => exact fun w2 H' v l R p => h _ _ (g w2 H' v l R p)
  | exc x fr S => exact g
  | stuck => exact g
/-- one computation behind another: behind the first its result is known, and the second is good -/
theorem Good.bind {Q : β' → Hp → Prop} {m : Rs α} {k : α → Mo α'} (g : Good K C w W Rp' σ Q (Rs.bind m k)) :
    Good K C w W Rp σ (fun v H1 => ∃ w1 fr1 S1 a, Le w w1 ∧ Rel K C w1 fr1 S1 σ H1 ∧ Rp w1 H1 v a ∧ Good K C w1 W Rp' σ Q (k a fr1 S1)) m := by
  cases m with
  | ok a fr S => exact fun w2 H' v l R p => ⟨w2, fr, S, a, l, R, p, Good.le l g⟩
  | exc x fr S => exact g
  | stuck => exact g
theorem lift.of {m : Mo α} {fr : List Sl} {S : List Ob} (R : Rel K C w fr S σ H) (g : Good K C w W Rp σ Q (m fr S)) : lift K C W Rp m σ H Q := ⟨w, fr, S, R, g⟩
end
end Z
set_option Elab.async false
set_option linter.all false
set_option maxRecDepth 100000
/-! Z2: expressions lifted. -/
namespace Z
open PySem L2

/-! ### weakening -/
section
variable {X : Cx} {e : Expr}
theorem _root_.L2.PE.wk {t t' : TE} (h : PE X e t) (w : ∀ σ H Q, t' σ H Q → t σ H Q) : PE X e t' := ⟨fun pins s σ H Q I q => h.run pins s σ H Q I (w σ H Q q)⟩
theorem _root_.L2.PT.wk {t t' : TT} (h : PT X e t) (w : ∀ σ H Q, t' σ H Q → t σ H Q) : PT X e t' := ⟨fun pins s σ H Q I q => h.run pins s σ H Q I (w σ H Q q)⟩
theorem _root_.L2.PW.wk {t t' : TT} (h : PW X e t) (w : ∀ σ H Q, t' σ H Q → t σ H Q) : PW X e t' := ⟨fun wh pins s σ H Q I q => h.run wh pins s σ H Q I (w σ H Q q)⟩
theorem _root_.L2.PA.wk {es : List Expr} {t t' : TA} (h : PA X es t) (w : ∀ σ H Q, t' σ H Q → t σ H Q) : PA X es t' := ⟨fun pos pins s σ H Q I q => h.run pos pins s σ H Q I (w σ H Q q)⟩
end

section
variable {α β : Type} {K : PySem.W.Frag} {C : Cl} {w : Wd} {W : WX} {Rp : Wd → Hp → β → α → Prop} {σ : St} {H : Hp} {Q Q' : β → Hp → Prop} {fr : List Sl} {S : List Ob}
theorem lift.mono {m : Mo α} (h : lift K C W Rp m σ H Q) (q : ∀ v H', Q v H' → Q' v H') : lift K C W Rp m σ H Q' := by
  obtain ⟨w, fr, S, R, g⟩ := h
  exact ⟨w, fr, S, R, g.mono q⟩
theorem Good.ret {a : α} {v : β} (g : Good K C w W Rp σ Q (.ok a fr S)) {w' : Wd} (l : Le w w') (R : Rel K C w' fr S σ H) (p : Rp w' H v a) : Q v H := g w' H v l R p
/-- one behind another, with what is known of the first -/
theorem lift.bind {α' β' : Type} {Rp' : Wd → Hp → β' → α' → Prop} {Q : β' → Hp → Prop} {m : Mo α} {k : α → Mo α'} (h : lift K C W Rp' (m >>= k) σ H Q) :
    lift K C W Rp m σ H fun v H1 => ∃ w1 fr1 S1 a, Rel K C w1 fr1 S1 σ H1 ∧ Rp w1 H1 v a ∧ Good K C w1 W Rp' σ Q (k a fr1 S1) := by
  obtain ⟨w, fr, S, R, g⟩ := h
  refine ⟨w, fr, S, R, ?_⟩
  have g' : Good K C w W Rp' σ Q (Rs.bind (m fr S) k) := g
  exact (Good.bind (Rp := Rp) g').mono fun v H' ⟨w1, fr1, S1, a, l, R1, p, g1⟩ => ⟨w1, fr1, S1, a, R1, p, g1⟩
end

/-! ### the judgements -/
abbrev PEm (X : Cx) (C : Cl) (W : WX) (e : Expr) (m : Mo D) : Prop := PE X e (lift X.K C W (pD X.K) m)
abbrev PUm (X : Cx) (C : Cl) (W : WX) (e : Expr) (m : Mo (List D)) : Prop := PE X e (lift X.K C W (pU X.K) m)
abbrev PBm (X : Cx) (C : Cl) (W : WX) (e : Expr) (m : Mo Bool) : Prop := PT X e (lift X.K C W pB m)
abbrev PWm (X : Cx) (C : Cl) (W : WX) (e : Expr) (m : Mo Bool) : Prop := PW X e (lift X.K C W pB m)
abbrev PLm (X : Cx) (C : Cl) (W : WX) (es : List Expr) (m : Mo (List D)) : Prop := PA X es (lift X.K C W (pL X.K) m)

/-- a partial function's answer -/
def ofO {α : Type} (o : Option α) : Mo α := fun fr S => match o with
  | some a => .ok a fr S
  | none => .stuck
def bin2 (m1 m2 : Mo D) (f : D → D → Option D) : Mo D := m1 >>= fun x => m2 >>= fun y => ofO (f x y)
def un1 (m : Mo D) (f : D → Option D) : Mo D := m >>= fun x => ofO (f x)

section
variable {X : Cx} {C : Cl} {W : WX} {e a b : Expr} {m m1 m2 : Mo D} {p pos : Pos}

/-! ### names -/
def getV (i : Nat) : Mo D := fun fr S => match fr[i]? with
  | some (.val d) => .ok d fr S
  | some (.own ds) => .ok (.lst ds) (fr.set i (.val (.lst ds))) S
  | some (.ownd ks) => .ok (.dct ks) (fr.set i (.val (.dct ks))) S
  | _ => .stuck
theorem sig_at {K : PySem.W.Frag} {C : Cl} {w : Wd} {fr : List Sl} {S : List Ob} {σ : St} {H : Hp} (R : Rel K C w fr S σ H) {i : Nat} {x : Sl} (h : fr[i]? = some x) : ∃ v, σ[i]? = some v ∧ RepS K w H (.slot i) v x := by
  have hi : i < σ.length := by rw [R.len2]; exact (List.getElem?_eq_some_iff.mp h).1
  exact ⟨σ[i], by simp [hi], R.slot i x σ[i] h (by simp [hi])⟩
/-- a slot's own thing is frozen: from now on a value -/
theorem Rel.frz {K : PySem.W.Frag} {C : Cl} {w : Wd} {fr : List Sl} {S : List Ob} {σ : St} {H : Hp} (R : Rel K C w fr S σ H) {i : Nat} {a : Addr} {o : HO} {d : D}
    (hq : w.q a = some (.slot i)) (hH : H a = some o) (hs : σ[i]? = some (some (.ref a)))
    (rd : RepD K (upd w.F a o) w.m (.ref a) d) :
    Rel K C { w with F := upd w.F a o, q := fun b => if b = a then none else w.q b } (fr.set i (.val d)) S σ H ∧ Le w { w with F := upd w.F a o, q := fun b => if b = a then none else w.q b } := by
  obtain ⟨hF, hP, _⟩ := R.rol a _ hq
  have l : Le w { w with F := upd w.F a o, q := fun b => if b = a then none else w.q b } := ⟨sub_new hF o, rfl, .refl _⟩
  have qn : ∀ {b : Addr} {r : Role}, w.q b = some r → r ≠ .slot i → (if b = a then none else w.q b) = some r := fun {b r} e ne => by
    rw [if_neg (fun z => by rw [z, hq] at e; exact ne (Option.some.inj e).symm)]
    exact e
  refine ⟨⟨fun b u e => ?_, R.subP, fun b u e => ?_, fun b r e => ?_, R.len, by rw [List.length_set]; exact R.len2, fun j x v e1 e2 => ?_, fun r b ob e1 e2 => ?_, ?_⟩, l⟩
  · by_cases hb : b = a
    · subst hb
      have e' : upd w.F b o b = some u := e
      rw [upd_same] at e'
      cases e'
      exact hH
    · have e' : upd w.F a o b = some u := e
      rw [upd_ne hb] at e'
      exact R.subF b u e'
  · by_cases hb : b = a
    · subst hb; exact hP
    · have e' : upd w.F a o b = some u := e
      rw [upd_ne hb] at e'
      exact R.dis b u e'
  · have e' : (if b = a then none else w.q b) = some r := e
    by_cases hb : b = a
    · rw [if_pos hb] at e'; cases e'
    · rw [if_neg hb] at e'
      obtain ⟨x, y, z⟩ := R.rol b r e'
      exact ⟨by show upd w.F a o b = none; rw [upd_ne hb]; exact x, y, z⟩
  · by_cases hj : j = i
    · subst hj
      have hi : j < fr.length := by rw [← R.len2]; exact (List.getElem?_eq_some_iff.mp hs).1
      rw [List.getElem?_set_self hi] at e1
      cases e1
      rw [hs] at e2
      cases e2
      exact .val rd
    · rw [List.getElem?_set_ne (Ne.symm hj)] at e1
      exact (R.slot j x v e1 e2).le l (fun b z => qn z fun y => hj (by injection y)) fun _ _ _ z => z
  · obtain ⟨x, y⟩ := R.obj r b ob e1 e2
    exact ⟨qn x (fun z => by cases z), y.le l (fun c f z => qn z fun y => by cases y) (fun _ _ _ _ z => z) fun _ z => z⟩
  · exact C.mono _ _ l.F R.amb
theorem pem_var (i : Nat) {x : Str} (hN : X.N[i]? = some x := by rfl) (hv : Vis X.env.scope x := by first | exact Or.inl rfl | exact Or.inr (Or.inl rfl) | exact Or.inr (Or.inr rfl)) (hd : (x == ("__debug__" : Str)) = false := by decide)
    (hcd : (x == ("__classdict__" : Str)) = false := by decide) : PEm X C W (.Name x pos) (getV i) := by
  refine (pe_var hN hv hd hcd).wk fun σ H Q h => ?_
  obtain ⟨w, fr, S, R, g⟩ := h
  unfold getV at g
  cases e : fr[i]? with
  | none => rw [e] at g; exact g.elim
  | some x =>
    rw [e] at g
    obtain ⟨v, hv, rs⟩ := sig_at R e
    cases rs with
    | un => exact g.elim
    | val r => exact ⟨_, hv, g.ret (.refl w) R r⟩
    | own hq hH r =>
      obtain ⟨R', l⟩ := R.frz hq hH hv (.lst upd_same (r.mono (sub_new (R.rol _ _ hq).1 _) (.refl _)))
      exact ⟨_, hv, g.ret l R' (.lst upd_same (r.mono (sub_new (R.rol _ _ hq).1 _) (.refl _)))⟩
    | ownd hq hH r =>
      obtain ⟨R', l⟩ := R.frz hq hH hv (.dct upd_same (r.mono (sub_new (R.rol _ _ hq).1 _) (.refl _)))
      exact ⟨_, hv, g.ret l R' (.dct upd_same (r.mono (sub_new (R.rol _ _ hq).1 _) (.refl _)))⟩

/-! ### constants -/
theorem lift_pure {α β : Type} {K : PySem.W.Frag} {Rp : Wd → Hp → β → α → Prop} {σ : St} {H : Hp} {Q : β → Hp → Prop} {d : α} {v : β} (h : lift K C W Rp (Mo.pure d) σ H Q) (r : ∀ w, Rp w H v d) : Q v H := by
  obtain ⟨w, fr, S, R, g⟩ := h
  exact g w H v (.refl w) R (r w)
theorem pem_int {i j} : PEm X C W (.Constant (.int i) j pos) (pure (.int i)) := pe_int.wk fun σ H Q h => lift_pure h fun _ => .int i
theorem pem_bl {i j} : PEm X C W (.Constant (.bool i) j pos) (pure (.bl i)) := pe_bl.wk fun σ H Q h => lift_pure h fun _ => .bl i
theorem pem_non {j} : PEm X C W (.Constant .none j pos) (pure .non) := pe_non.wk fun σ H Q h => lift_pure h fun _ => .non
theorem pem_str {x j} : PEm X C W (.Constant (.str x) j pos) (pure (.str x)) := pe_str.wk fun σ H Q h => lift_pure h fun _ => .str x
/-- a module's constant -/
theorem pem_glob {x : Str} {v : V} {u : Value} {d : D} (hg : Gl X x) (hm : X.mg x = some u) (r : RelV v u) (rd : ∀ F m, RepD X.K F m v d) (hd : (x == ("__debug__" : Str)) = false := by decide) : PEm X C W (.Name x pos) (pure d) :=
  (pe_glob hg hm r hd).wk fun σ H Q h => lift_pure h fun w => rd _ _

/-! ### two operands -/
theorem lift_two {K : PySem.W.Frag} {α' β' : Type} {Rp' : Wd → Hp → β' → α' → Prop} {σ : St} {H : Hp} {Q : β' → Hp → Prop} {k : D → D → Mo α'} (h : lift K C W Rp' (m1 >>= fun x => m2 >>= fun y => k x y) σ H Q) :
    lift K C W (pD K) m1 σ H fun x H1 => lift K C W (pD K) m2 σ H1 fun y H2 => ∃ w fr S a b, Rel K C w fr S σ H2 ∧ RepD K w.F w.m x a ∧ RepD K w.F w.m y b ∧ Good K C w W Rp' σ Q (k a b fr S) := by
  refine (lift.bind (Rp := pD K) h).mono fun x H1 ⟨w1, fr1, S1, a, R1, p1, g1⟩ => ⟨w1, fr1, S1, R1, ?_⟩
  have g1' : Good K C w1 W Rp' σ Q (Rs.bind (m2 fr1 S1) (fun y => k a y)) := g1
  exact (Good.bind (Rp := pD K) g1').mono fun y H2 ⟨w2, fr2, S2, b, l, R2, p2, g2⟩ => ⟨w2, fr2, S2, a, b, R2, RepD.le l p1, p2, g2⟩

/-- the operators: their meaning by values agrees with a plain function -/
def OpM (X : Cx) (r : R2) (f : D → D → Option D) : Prop := ∀ (C : Cl) (w : Wd) (fr : List Sl) (S : List Ob) (σ : St) (H : Hp) (x y : V) (a b c : D) (Q : VK), Rel X.K C w fr S σ H → RepD X.K w.F w.m x a → RepD X.K w.F w.m y b → f a b = some c →
  (∀ w' H' v, Le w w' → Rel X.K C w' fr S σ H' → RepD X.K w'.F w'.m v c → Q v H') → r x y H Q
theorem tOp_of {r : R2} {f : D → D → Option D} (hm : OpM X r f) {σ : St} {H : Hp} {Q : VK} (h : lift X.K C W (pD X.K) (bin2 m1 m2 f) σ H Q) : tOp r (lift X.K C W (pD X.K) m1) (lift X.K C W (pD X.K) m2) σ H Q := by
  refine (lift_two h).mono fun x H1 hz1 => hz1.mono fun y H2 ⟨w, fr, S, a, b, R, ra, rb, g⟩ => ?_
  cases e : f a b with
  | none => rw [e] at g; exact g.elim
  | some c =>
    rw [e] at g
    exact hm C w fr S σ H2 x y a b c Q R ra rb e g
theorem pem_op {op : Operator} {r : R2} {f : D → D → Option D} (ho : OpR X (binaryOp op) r) (hm : OpM X r f) (ha : PEm X C W a m1) (hb : PEm X C W b m2) : PEm X C W (.BinOp a op b pos) (bin2 m1 m2 f) :=
  (pe_op ho ha hb).wk fun σ H Q h => tOp_of hm h
theorem pem_cmp {op : CmpOp} {r : R2} {f : D → D → Option D} (ho : OpR X (compareOp op) r) (hm : OpM X r f) (ha : PEm X C W a m1) (hb : PEm X C W b m2) (hk : behindInMarks op b = false) : PEm X C W (.Compare a [op] [b] pos) (bin2 m1 m2 f) :=
  (pe_cmpR ho ha hb hk).wk fun σ H Q h => tOp_of hm h
theorem OpM.or {r r' : R2} {f g : D → D → Option D} (h : OpM X r f) (h' : OpM X r' g) : OpM X (fun x y H Q => r x y H Q ∨ r' x y H Q) (fun a b => (f a b).orElse fun _ => g a b) := by
  intro C w fr S σ H x y a b c Q R ra rb e q
  have e' : (f a b).orElse (fun _ => g a b) = some c := e
  cases e1 : f a b with
  | some z =>
    rw [e1] at e'
    exact .inl (h C w fr S σ H x y a b c Q R ra rb (by rw [e1]; exact e') q)
  | none =>
    rw [e1] at e'
    exact .inr (h' C w fr S σ H x y a b c Q R ra rb e' q)

/-! ### a test out of a bool -/
def asB (m : Mo D) : Mo Bool := m >>= fun d => match d with
  | .bl b => pure b
  | _ => Mo.stuck
theorem tTest_of {K : PySem.W.Frag} {t : TE} {σ : St} {H : Hp} {Q : Bool → Hp → Prop} (ht : ∀ Q, lift K C W (pD K) m σ H Q → t σ H Q) (h : lift K C W pB (asB m) σ H Q) : tTest t σ H Q := by
  refine ht _ ((lift.bind (Rp := pD K) h).mono fun v H1 ⟨w1, fr1, S1, d, R1, p1, g1⟩ => ?_)
  cases p1 with
  | bl b => exact ⟨b, rfl, g1 w1 H1 b (.refl _) R1 rfl⟩
  | _ => exact g1.elim
theorem pbm_cmp {op : CmpOp} {r : R2} {f : D → D → Option D} (ho : OpR X (compareOp op) r) (hm : OpM X r f) (ha : PEm X C W a m1) (hb : PEm X C W b m2) (hk : behindInMarks op b = false) : PBm X C W (.Compare a [op] [b] pos) (asB (bin2 m1 m2 f)) :=
  (pt_cmpR ho ha hb hk).wk fun σ H Q h => tTest_of (fun Q h => tOp_of hm h) h
/-- .. and a bool out of a test's value -/
theorem bin2_asB : True := trivial

/-! ### ints -/
def iiD (g : Int → Int → D) : D → D → Option D
  | .int i, .int j => some (g i j)
  | _, _ => none
theorem om_ii {g : Int → Int → V} {g' : Int → Int → D} (hg : ∀ K F m i j, RepD K F m (g i j) (g' i j)) : OpM X (rI0 g) (iiD g') := by
  intro C w fr S σ H x y a b c Q R ra rb e q
  cases ra <;> cases rb <;> try cases e
  exact ⟨_, _, rfl, rfl, q w H _ (.refl _) R (hg _ _ _ _ _)⟩
def iiC (C : Int → Int → Bool) (g : Int → Int → Int) : D → D → Option D
  | .int i, .int j => if C i j then some (.int (g i j)) else none
  | _, _ => none
theorem om_iiC {P : Int → Int → Prop} {c : Int → Int → Bool} {g : Int → Int → Int} (hc : ∀ i j, c i j = true → P i j) : OpM X (rI P fun i j => .int (g i j)) (iiC c g) := by
  intro C w fr S σ H x y a b d Q R ra rb e q
  cases ra <;> cases rb <;> try cases e
  rename_i i j
  have e' : (if c i j = true then some (D.int (g i j)) else none) = some d := e
  by_cases h : c i j = true
  · rw [if_pos h] at e'
    cases e'
    exact ⟨i, j, rfl, rfl, hc i j h, q w H _ (.refl _) R (.int _)⟩
  · rw [if_neg h] at e'; cases e'
def subD : D → D → Option D := iiD fun i j => .int (i - j)
/-- below 2^64 (by natural numbers: the kernel is not to count) -/
def small64 (i : Int) : Bool := Nat.ble i.natAbs 18446744073709551615
theorem small64_iff {i : Int} : small64 i = true ↔ -(2 ^ 64) < i ∧ i < 2 ^ 64 := by
  unfold small64
  rw [Nat.ble_eq]
  omega
def okMul (i j : Int) : Bool := small64 i || small64 j
def okDiv (_ j : Int) : Bool := match j with
  | .ofNat (n + 1) => Nat.ble n 1073741822
  | _ => false
def okMod (_ j : Int) : Bool := match j with
  | .ofNat (_ + 1) => true
  | _ => false
def okPow (i j : Int) : Bool := match j with
  | .ofNat n => Nat.ble n 1000000 && small64 i
  | _ => false
theorem okMul_of {i j : Int} (h : okMul i j = true) : CMul i j := by
  unfold okMul at h
  rcases Bool.or_eq_true_iff.mp h with h | h
  · exact .inl (small64_iff.mp h)
  · exact .inr (small64_iff.mp h)
theorem okDiv_of {i j : Int} (h : okDiv i j = true) : CDiv i j := by
  unfold okDiv at h
  split at h
  · rename_i n
    rw [Nat.ble_eq] at h
    have e : ∀ m : Nat, m = n + 1 → n < 1073741823 → CDiv i (Int.ofNat m) := by
      intro m hm hn
      show (0 : Int) < ((m : Nat) : Int) ∧ ((m : Nat) : Int) < 1073741824
      omega
    exact e _ rfl (by omega)
  · cases h
theorem okMod_of {i j : Int} (h : okMod i j = true) : 0 < j := by
  unfold okMod at h
  split at h
  · rename_i n
    have e : ∀ m : Nat, m = n + 1 → (0 : Int) < Int.ofNat m := by
      intro m hm
      show (0 : Int) < ((m : Nat) : Int)
      omega
    exact e _ rfl
  · cases h
theorem okPow_of {i j : Int} (h : okPow i j = true) : CPow i j := by
  unfold okPow at h
  split at h
  · rename_i n
    obtain ⟨h1, h2⟩ := Bool.and_eq_true_iff.mp h
    rw [Nat.ble_eq] at h1
    have h3 := small64_iff.mp h2
    have : Int.ofNat n = ((n : Nat) : Int) := rfl
    refine ⟨by omega, by omega, ?_⟩
    show i.natAbs < 2 ^ 64
    omega
  · cases h
def mulI : D → D → Option D := iiC okMul fun i j => i * j
def divD : D → D → Option D := iiC okDiv fun i j => i / j
def modD : D → D → Option D := iiC okMod fun i j => i % j
def powD : D → D → Option D := iiC okPow fun i j => i ^ j.toNat
theorem om_sub : OpM X (rI0 fun i j => .int (i - j)) subD := om_ii fun _ _ _ _ _ => .int _
theorem om_mul : OpM X (rI CMul fun i j => .int (i * j)) mulI := om_iiC fun i j h => okMul_of h
theorem om_div : OpM X (rI CDiv fun i j => .int (i / j)) divD := om_iiC fun i j h => okDiv_of h
theorem om_mod : OpM X (rI (fun _ j => 0 < j) fun i j => .int (i % j)) modD := om_iiC fun i j h => okMod_of h
theorem om_pow : OpM X (rI CPow fun i j => .int (i ^ j.toNat)) powD := om_iiC fun i j h => okPow_of h
def ltD : D → D → Option D := iiD fun i j => .bl (decide (i < j))
def leD : D → D → Option D := iiD fun i j => .bl (decide (i ≤ j))
def gtD : D → D → Option D := iiD fun i j => .bl (decide (j < i))
def geD : D → D → Option D := iiD fun i j => .bl (decide (j ≤ i))
theorem om_lt : OpM X (rI0 fun i j => .bl (decide (i < j))) ltD := om_ii fun _ _ _ _ _ => .bl _
theorem om_le : OpM X (rI0 fun i j => .bl (decide (i ≤ j))) leD := om_ii fun _ _ _ _ _ => .bl _
theorem om_gt : OpM X (rI0 fun i j => .bl (decide (j < i))) gtD := om_ii fun _ _ _ _ _ => .bl _
theorem om_ge : OpM X (rI0 fun i j => .bl (decide (j ≤ i))) geD := om_ii fun _ _ _ _ _ => .bl _

/-! ### + of ints, texts, tuples -/
def addD : D → D → Option D
  | .int i, .int j => some (.int (i + j))
  | .str a, .str b => if a.length + b.length ≤ sizeLine then some (.str (a ++ b)) else none
  | .tup a, .tup b => if a.length + b.length ≤ sizeLine then some (.tup (a ++ b)) else none
  | _, _ => none
abbrev rAddA (K : PySem.W.Frag) : R2 := fun x y H Q => rI0 (fun i j => .int (i + j)) x y H Q ∨ (∃ i j, x = .str i ∧ y = .str j ∧ i.length + j.length ≤ sizeLine ∧ Q (.str (i ++ j)) H) ∨ rCatN K x y H Q
theorem op_addA : OpR X (binaryOp .Add) (rAddA X.K) := op_add.or (op_add_str.or op_catN)
theorem om_add : OpM X (rAddA X.K) addD := by
  intro C w fr S σ H x y a b c Q R ra rb e q
  cases ra <;> cases rb <;> try cases e
  · exact .inl ⟨_, _, rfl, rfl, q w H _ (.refl _) R (.int _)⟩
  · rename_i s t
    have e' : (if s.length + t.length ≤ sizeLine then some (D.str (s ++ t)) else none) = some c := e
    by_cases h : s.length + t.length ≤ sizeLine
    · rw [if_pos h] at e'
      cases e'
      exact .inr (.inl ⟨s, t, rfl, rfl, h, q w H _ (.refl _) R (.str _)⟩)
    · rw [if_neg h] at e'; cases e'
  · rename_i p xs ds h1 l1 p2 ys es h2 l2
    have e' : (if ds.length + es.length ≤ sizeLine then some (D.tup (ds ++ es)) else none) = some c := e
    by_cases h : ds.length + es.length ≤ sizeLine
    · rw [if_pos h] at e'
      cases e'
      have hl : xs.length + ys.length ≤ sizeLine := by rw [l1.length, l2.length]; exact h
      refine .inr (.inr ⟨p, p2, xs, ys, rfl, rfl, R.subF.sqT h1, R.subF.sqT h2, hl, fun z => ?_, fun _ z => ?_, fun _ _ t o hd ht => ?_⟩)
      · subst z
        cases l1
        exact q w H _ (.refl _) R (.tup h2 l2)
      · subst z
        cases l2
        rw [List.append_nil] at q
        exact q w H _ (.refl _) R (.tup h1 l1)
      · obtain ⟨R', l⟩ := R.lay ht (.frz o (.tup (xs ++ ys)))
        exact q _ _ _ l R' (.tup (.of upd_same hd) ((l1.append l2).le l))
    · rw [if_neg h] at e'; cases e'

/-! ### == -/
mutual
def D.py : D → Option PyData
  | .non => some .none
  | .bl b => some (.bool b)
  | .int i => some (.int i)
  | .str x => some (.str x)
  | .tup ds => (D.pys ds).map .tuple
  | .lst ds => (D.pys ds).map .list
  | _ => none
def D.pys : List D → Option (List PyData)
  | [] => some []
  | d :: r => (D.py d).bind fun x => (D.pys r).map (x :: ·)
end
mutual
theorem RepD.dp {K : PySem.W.Frag} {F H : Hp} {m : List Addr} (hs : Sub F H) : ∀ {v : V} {d : D} {p : PyData}, RepD K F m v d → d.py = some p → Dp K H v p
  | _, _, _, .non, e => by simp only [D.py] at e; cases e; exact .non
  | _, _, _, .bl b, e => by simp only [D.py] at e; cases e; exact .bl b
  | _, _, _, .int i, e => by simp only [D.py] at e; cases e; exact .int i
  | _, _, _, .str x, e => by simp only [D.py] at e; cases e; exact .str x
  | _, _, _, .tup h l, e => by
    simp only [D.py, Option.map_eq_some_iff] at e
    obtain ⟨ps, e1, e2⟩ := e
    subst e2
    exact .tup (hs.sqT h) (RepL.dp hs l e1)
  | _, _, _, .lst h l, e => by
    simp only [D.py, Option.map_eq_some_iff] at e
    obtain ⟨ps, e1, e2⟩ := e
    subst e2
    exact .lst (SqL.of (hs _ _ h)) (RepL.dp hs l e1)
  | _, _, _, .dct h l, e => by simp only [D.py] at e; cases e
  | _, _, _, .scr h, e => by simp only [D.py] at e; cases e
  | _, _, _, .ptr h, e => by simp only [D.py] at e; cases e
theorem RepL.dp {K : PySem.W.Frag} {F H : Hp} {m : List Addr} (hs : Sub F H) : ∀ {v : List V} {d : List D} {p : List PyData}, RepL K F m v d → D.pys d = some p → DpAll K H v p
  | _, _, _, .nil, e => by simp only [D.pys] at e; cases e; exact .nil
  | _, _, _, .cons h l, e => by
    simp only [D.pys, Option.bind_eq_some_iff, Option.map_eq_some_iff] at e
    obtain ⟨x, e1, xs, e2, e3⟩ := e
    subst e3
    exact .cons (RepD.dp hs h e1) (RepL.dp hs l e2)
end
/-- == where both are plain data, one of them of depth 200 at most -/
abbrev eqOk (d e : PyData) : Prop := d.canLay0 = true ∧ e.canLay0 = true ∧ min d.depth e.depth ≤ 200
def eqB (a b : D) : Option Bool := a.py.bind fun d => b.py.bind fun e => if eqOk d e then some (PyData.eqv d e) else none
def eqD (a b : D) : Option D := (eqB a b).map .bl
def neD (a b : D) : Option D := (eqB a b).map fun k => .bl (!k)
theorem eqB_some {a b : D} {k : Bool} (h : eqB a b = some k) : ∃ d e, a.py = some d ∧ b.py = some e ∧ eqOk d e ∧ k = PyData.eqv d e := by
  unfold eqB at h
  cases ha : a.py with
  | none => rw [ha] at h; cases h
  | some d =>
    cases hb : b.py with
    | none => rw [ha, hb] at h; cases h
    | some e =>
      rw [ha, hb] at h
      have h' : (if eqOk d e then some (PyData.eqv d e) else none) = some k := h
      by_cases z : eqOk d e
      · rw [if_pos z] at h'
        exact ⟨d, e, rfl, rfl, z, (Option.some.inj h').symm⟩
      · rw [if_neg z] at h'; cases h'
abbrev rEqZ (K : PySem.W.Frag) : R2 := fun x y H Q => ∃ d e, Dp K H x d ∧ Dp K H y e ∧ eqOk d e ∧ Q (.bl (PyData.eqv d e)) H
abbrev rNeZ (K : PySem.W.Frag) : R2 := fun x y H Q => ∃ d e, Dp K H x d ∧ Dp K H y e ∧ eqOk d e ∧ Q (.bl (!PyData.eqv d e)) H
theorem _root_.L2.Room.u200 {k : Nat} {A : Around} (r : Room k A) : A.units + 200 < cLine := by
  have h := r.un
  omega
theorem op_eqZ (hu : X.A.units + 200 < cLine) : OpR X (compareOp .Eq) (rEqZ X.K) := by
  intro pins s σ H x y v u Q I rx ry h
  obtain ⟨d, e, hd, he, ⟨s1, s2, s3⟩, q⟩ := h
  obtain ⟨as, r1⟩ := Dp.reads I d x v hd rx
  obtain ⟨bs, r2⟩ := Dp.reads I e y u he ry
  exact SeqAt.compareEq_reads r1 r2 s1 s2 (Nat.lt_of_le_of_lt (Nat.add_le_add_left s3 _) hu) ⟨.bl _, H, I, rfl, q⟩
theorem op_neZ (hu : X.A.units + 200 < cLine) : OpR X (compareOp .NotEq) (rNeZ X.K) := by
  intro pins s σ H x y v u Q I rx ry h
  obtain ⟨d, e, hd, he, ⟨s1, s2, s3⟩, q⟩ := h
  obtain ⟨as, r1⟩ := Dp.reads I d x v hd rx
  obtain ⟨bs, r2⟩ := Dp.reads I e y u he ry
  exact SeqAt.compareNe_reads r1 r2 s1 s2 (Nat.lt_of_le_of_lt (Nat.add_le_add_left s3 _) hu) ⟨.bl _, H, I, rfl, q⟩
theorem om_eq : OpM X (rEqZ X.K) eqD := by
  intro C w fr S σ H x y a b c Q R ra rb e q
  simp only [eqD, Option.map_eq_some_iff] at e
  obtain ⟨k, e1, e2⟩ := e
  subst e2
  obtain ⟨d, f, ha, hb, z1, rfl⟩ := eqB_some e1
  exact ⟨d, f, ra.dp R.subF ha, rb.dp R.subF hb, z1, q w H _ (.refl _) R (.bl _)⟩
theorem om_ne : OpM X (rNeZ X.K) neD := by
  intro C w fr S σ H x y a b c Q R ra rb e q
  simp only [neD, Option.map_eq_some_iff] at e
  obtain ⟨k, e1, e2⟩ := e
  subst e2
  obtain ⟨d, f, ha, hb, z1, rfl⟩ := eqB_some e1
  exact ⟨d, f, ra.dp R.subF ha, rb.dp R.subF hb, z1, q w H _ (.refl _) R (.bl _)⟩

/-! ### in: a sign in a text, a flat value in a tuple or list -/
def flatD : D → Bool
  | .non | .bl _ | .int _ | .str _ => true
  | _ => false
def flatOf : D → V
  | .bl b => .bl b
  | .int i => .int i
  | .str x => .str x
  | _ => .non
theorem RepD.flat {K : PySem.W.Frag} {F : Hp} {m : List Addr} {v : V} {d : D} (r : RepD K F m v d) (h : flatD d = true) : v = flatOf d ∧ flatV v = true := by
  cases r <;> first | exact ⟨rfl, rfl⟩ | (simp [flatD] at h)
theorem RepL.flat {K : PySem.W.Frag} {F : Hp} {m : List Addr} : ∀ {vs : List V} {ds : List D}, RepL K F m vs ds → ds.all flatD = true → vs = ds.map flatOf ∧ vs.all flatV = true
  | _, _, .nil, _ => ⟨rfl, rfl⟩
  | _, _, .cons r l, h => by
    simp only [List.all_cons, Bool.and_eq_true] at h
    obtain ⟨e1, f1⟩ := r.flat h.1
    obtain ⟨e2, f2⟩ := RepL.flat l h.2
    exact ⟨by rw [List.map_cons, ← e1, ← e2], by simp [f1, f2]⟩
def inB : D → D → Option Bool
  | .str x, .str z => match x.cps.toList with
    | [c] => some (decide (c ∈ z.cps.toList))
    | _ => none
  | x, .tup ds => if flatD x = true ∧ ds.all flatD = true then some (inV (flatOf x) (ds.map flatOf)) else none
  | x, .lst ds => if flatD x = true ∧ ds.all flatD = true then some (inV (flatOf x) (ds.map flatOf)) else none
  | _, _ => none
def inD (a b : D) : Option D := (inB a b).map .bl
def notInD (a b : D) : Option D := (inB a b).map fun k => .bl (!k)
abbrev rInA (K : PySem.W.Frag) : R2 := fun x y H Q => (∃ (c : Nat) (z : Str), x = .str ⟨#[c]⟩ ∧ y = .str z ∧ Q (.bl (decide (c ∈ z.cps.toList))) H) ∨ rIn K false x y H Q
abbrev rNotInA (K : PySem.W.Frag) : R2 := fun x y H Q => (∃ (c : Nat) (z : Str), x = .str ⟨#[c]⟩ ∧ y = .str z ∧ Q (.bl (!decide (c ∈ z.cps.toList))) H) ∨ rIn K true x y H Q
theorem op_inA : OpR X (compareOp .In) (rInA X.K) := op_in_sign.or op_in_seq
theorem op_notInA : OpR X (compareOp .NotIn) (rNotInA X.K) := op_notIn_sign.or op_notIn_seq
theorem inB_some {K : PySem.W.Frag} {C : Cl} {w : Wd} {fr : List Sl} {S : List Ob} {σ : St} {H : Hp} {x y : V} {a b : D} {k : Bool} (R : Rel K C w fr S σ H) (ra : RepD K w.F w.m x a) (rb : RepD K w.F w.m y b) (h : inB a b = some k) :
    (∃ (c : Nat) (z : Str), x = .str ⟨#[c]⟩ ∧ y = .str z ∧ k = decide (c ∈ z.cps.toList)) ∨ (∃ p xs, y = .ref p ∧ (SqL K H p xs ∨ SqT K H p xs) ∧ flatV x = true ∧ xs.all flatV = true ∧ k = inV x xs) := by
  have seq : ∀ {ds : List D} {xs : List V}, RepL K w.F w.m xs ds → (if flatD a = true ∧ ds.all flatD = true then some (inV (flatOf a) (ds.map flatOf)) else none) = some k → flatV x = true ∧ xs.all flatV = true ∧ k = inV x xs := fun {ds xs} l e => by
    by_cases z : flatD a = true ∧ ds.all flatD = true
    · rw [if_pos z] at e
      obtain ⟨e1, f1⟩ := ra.flat z.1
      obtain ⟨e2, f2⟩ := l.flat z.2
      exact ⟨f1, f2, by rw [e1, e2]; exact (Option.some.inj e).symm⟩
    · rw [if_neg z] at e; cases e
  cases rb with
  | str z =>
    cases ra <;> try (simp [inB] at h; done)
    rename_i t
    left
    simp only [inB] at h
    split at h
    · rename_i c hc
      refine ⟨c, z, ?_, rfl, (Option.some.inj h).symm⟩
      obtain ⟨l⟩ := t
      have e : l = #[c] := by
        apply Array.ext'
        exact hc
      rw [e]
    · cases h
  | tup h1 l =>
    right
    rename_i p xs ds
    have h' : (if flatD a = true ∧ ds.all flatD = true then some (inV (flatOf a) (ds.map flatOf)) else none) = some k := by
      cases a <;> exact h
    exact ⟨_, _, rfl, .inr (R.subF.sqT h1), seq l h'⟩
  | lst h1 l =>
    right
    rename_i p xs ds
    have h' : (if flatD a = true ∧ ds.all flatD = true then some (inV (flatOf a) (ds.map flatOf)) else none) = some k := by
      cases a <;> exact h
    exact ⟨_, _, rfl, .inl (SqL.of (R.subF _ _ h1)), seq l h'⟩
  | _ => cases a <;> (simp [inB] at h)
theorem om_in : OpM X (rInA X.K) inD := by
  intro C w fr S σ H x y a b c Q R ra rb e q
  simp only [inD, Option.map_eq_some_iff] at e
  obtain ⟨k, e1, rfl⟩ := e
  rcases inB_some R ra rb e1 with ⟨c, z, rfl, rfl, rfl⟩ | ⟨p, xs, rfl, h1, h2, h3, rfl⟩
  · exact .inl ⟨c, z, rfl, rfl, q w H _ (.refl _) R (.bl _)⟩
  · exact .inr ⟨p, xs, rfl, h1, h2, h3, q w H _ (.refl _) R (.bl _)⟩
theorem om_notIn : OpM X (rNotInA X.K) notInD := by
  intro C w fr S σ H x y a b c Q R ra rb e q
  simp only [notInD, Option.map_eq_some_iff] at e
  obtain ⟨k, e1, rfl⟩ := e
  rcases inB_some R ra rb e1 with ⟨c, z, rfl, rfl, rfl⟩ | ⟨p, xs, rfl, h1, h2, h3, rfl⟩
  · exact .inl ⟨c, z, rfl, rfl, q w H _ (.refl _) R (.bl _)⟩
  · exact .inr ⟨p, xs, rfl, h1, h2, h3, q w H _ (.refl _) R (.bl _)⟩

/-! ### is None -/
def isNonD : D → Bool
  | .non => true
  | _ => false
theorem pem_isN {j pos'} (ha : PEm X C W a m) : PEm X C W (.Compare a [.Is] [.Constant .none j pos'] pos) (m >>= fun d => pure (.bl (isNonD d))) := by
  refine (pe_cmp (pc_isN ha)).wk fun σ H Q h => ?_
  refine (lift.bind (Rp := pD X.K) h).mono fun v H1 ⟨w1, fr1, S1, d, R1, p1, g1⟩ => ?_
  refine g1 w1 H1 _ (.refl _) R1 ?_
  cases p1 <;> exact .bl _
theorem pem_notN {j pos'} (ha : PEm X C W a m) : PEm X C W (.Compare a [.IsNot] [.Constant .none j pos'] pos) (m >>= fun d => pure (.bl (!isNonD d))) := by
  refine (pe_cmp (pc_notN ha)).wk fun σ H Q h => ?_
  refine (lift.bind (Rp := pD X.K) h).mono fun v H1 ⟨w1, fr1, S1, d, R1, p1, g1⟩ => ?_
  refine g1 w1 H1 _ (.refl _) R1 ?_
  cases p1 <;> exact .bl _
theorem pbm_isN {j pos'} (ha : PEm X C W a m) : PBm X C W (.Compare a [.Is] [.Constant .none j pos'] pos) (m >>= fun d => pure (isNonD d)) := by
  refine (pt_cmp (pc_isN ha)).wk fun σ H Q h => ?_
  refine (lift.bind (Rp := pD X.K) h).mono fun v H1 ⟨w1, fr1, S1, d, R1, p1, g1⟩ => ⟨_, rfl, ?_⟩
  refine g1 w1 H1 _ (.refl _) R1 ?_
  cases p1 <;> rfl
theorem pbm_notN {j pos'} (ha : PEm X C W a m) : PBm X C W (.Compare a [.IsNot] [.Constant .none j pos'] pos) (m >>= fun d => pure (!isNonD d)) := by
  refine (pt_cmp (pc_notN ha)).wk fun σ H Q h => ?_
  refine (lift.bind (Rp := pD X.K) h).mono fun v H1 ⟨w1, fr1, S1, d, R1, p1, g1⟩ => ⟨_, rfl, ?_⟩
  refine g1 w1 H1 _ (.refl _) R1 ?_
  cases p1 <;> rfl

/-! ### tests: and, or, not, truth -/
variable {t1 t2 : Mo Bool} {rest : List Expr}
def andM (t1 t2 : Mo Bool) : Mo Bool := t1 >>= fun b => if b = true then t2 else pure false
def orM (t1 t2 : Mo Bool) : Mo Bool := t1 >>= fun b => if b = true then pure true else t2
def notM (t : Mo Bool) : Mo Bool := t >>= fun b => pure (!b)
theorem pwm_and1 (ha : PBm X C W a t1) : PWm X C W (.BoolOp .And [a] pos) t1 := pw_and1 ha
theorem pwm_or1 (ha : PBm X C W a t1) : PWm X C W (.BoolOp .Or [a] pos) t1 := pw_or1 ha
theorem pwm_and (ha : PBm X C W a t1) (hb : PWm X C W (.BoolOp .And (b :: rest) pos) t2) : PWm X C W (.BoolOp .And (a :: b :: rest) pos) (andM t1 t2) :=
  (pw_and ha hb).wk fun σ H Q h => (lift.bind (Rp := pB) h).mono fun k H1 ⟨w1, fr1, S1, d, R1, p1, g1⟩ => by
    have e : k = d := p1
    subst e
    cases k with
    | true => exact ⟨w1, fr1, S1, R1, g1⟩
    | false => exact g1 w1 H1 false (.refl _) R1 rfl
theorem pwm_or (ha : PBm X C W a t1) (hb : PWm X C W (.BoolOp .Or (b :: rest) pos) t2) : PWm X C W (.BoolOp .Or (a :: b :: rest) pos) (orM t1 t2) :=
  (pw_or ha hb).wk fun σ H Q h => (lift.bind (Rp := pB) h).mono fun k H1 ⟨w1, fr1, S1, d, R1, p1, g1⟩ => by
    have e : k = d := p1
    subst e
    cases k with
    | false => exact ⟨w1, fr1, S1, R1, g1⟩
    | true => exact g1 w1 H1 true (.refl _) R1 rfl
theorem pbm_not (ha : PBm X C W a t1) : PBm X C W (.UnaryOp .Not a pos) (notM t1) :=
  (pt_not ha).wk fun σ H Q h => (lift.bind (Rp := pB) h).mono fun k H1 ⟨w1, fr1, S1, d, R1, p1, g1⟩ => by
    have e : k = d := p1
    subst e
    exact g1 w1 H1 (!k) (.refl _) R1 rfl
def truD : D → Option Bool
  | .non => some false
  | .bl b => some b
  | .int i => some (i != 0)
  | .str y => if y.length ≤ sizeLine then some ((y.length : Int) != 0) else none
  | .tup ds => some (!ds.isEmpty)
  | .lst ds => some (!ds.isEmpty)
  | .dct ks => some (!ks.isEmpty)
  | _ => none
theorem RepL.isEmpty {K : PySem.W.Frag} {F : Hp} {m : List Addr} {vs : List V} {ds : List D} (r : RepL K F m vs ds) : vs.isEmpty = ds.isEmpty := by cases r <;> rfl
theorem RepK.isEmpty {K : PySem.W.Frag} {F : Hp} {m : List Addr} {vs : List (Key × V)} {ds : List (Key × D)} (r : RepK K F m vs ds) : vs.isEmpty = ds.isEmpty := by cases r <;> rfl
theorem tru_of {K : PySem.W.Frag} {F H : Hp} {m : List Addr} {v : V} {d : D} {k : Bool} (hs : Sub F H) (r : RepD K F m v d) (h : truD d = some k) : TruV K v H k := by
  cases r with
  | non => exact (Option.some.inj h).symm
  | bl b => exact (Option.some.inj h).symm
  | int i => exact (Option.some.inj h).symm
  | str y =>
    simp only [truD] at h
    by_cases z : y.length ≤ sizeLine
    · rw [if_pos z] at h; exact ⟨z, (Option.some.inj h).symm⟩
    · rw [if_neg z] at h; cases h
  | tup h1 l => exact .inr (.inl ⟨_, hs.sqT h1, by rw [l.isEmpty]; exact (Option.some.inj h).symm⟩)
  | lst h1 l => exact .inl ⟨_, SqL.of (hs _ _ h1), by rw [l.isEmpty]; exact (Option.some.inj h).symm⟩
  | dct h1 l => exact .inr (.inr ⟨_, hs _ _ h1, by rw [l.isEmpty]; exact (Option.some.inj h).symm⟩)
  | scr h1 => cases h
  | ptr h1 => cases h
def truM (m : Mo D) : Mo Bool := m >>= fun d => ofO (truD d)
theorem pbm_tru (ha : PEm X C W a m) (he : ∀ whole, isTrue a X.env whole = (do let v ← whole; standAt a.pos; holding [v] (truthy v)) := by intro _; rfl) : PBm X C W a (truM m) :=
  (pt_truth ha he).wk fun σ H Q h => (lift.bind (Rp := pD X.K) h).mono fun v H1 ⟨w1, fr1, S1, d, R1, p1, g1⟩ => by
    cases e : truD d with
    | none => rw [e] at g1; exact g1.elim
    | some k =>
      rw [e] at g1
      exact ⟨k, tru_of R1.subF p1 e, g1 w1 H1 k (.refl _) R1 rfl⟩
/-- a test as a value, where the parts' values are bools -/
def andV (m1 m2 : Mo D) : Mo D := m1 >>= fun d => match d with
  | .bl true => m2
  | .bl false => pure (.bl false)
  | _ => Mo.stuck
def orV (m1 m2 : Mo D) : Mo D := m1 >>= fun d => match d with
  | .bl true => pure (.bl true)
  | .bl false => m2
  | _ => Mo.stuck
def notV (m : Mo D) : Mo D := m >>= fun d => match d with
  | .bl b => pure (.bl (!b))
  | _ => Mo.stuck
theorem pem_one {op} (h : PEm X C W a m) : PEm X C W (.BoolOp op [a] pos) m := pe_one h
theorem pem_and (ha : PEm X C W a m1) (hb : PEm X C W (.BoolOp .And (b :: rest) pos) m2) : PEm X C W (.BoolOp .And (a :: b :: rest) pos) (andV m1 m2) :=
  (pe_and ha hb).wk fun σ H Q h => (lift.bind (Rp := pD X.K) h).mono fun v H1 ⟨w1, fr1, S1, d, R1, p1, g1⟩ => by
    cases p1 with
    | bl k =>
      refine ⟨k, rfl, ?_⟩
      cases k with
      | true => exact ⟨w1, fr1, S1, R1, g1⟩
      | false => exact g1 w1 H1 _ (.refl _) R1 (.bl false)
    | _ => exact g1.elim
theorem pem_or (ha : PEm X C W a m1) (hb : PEm X C W (.BoolOp .Or (b :: rest) pos) m2) : PEm X C W (.BoolOp .Or (a :: b :: rest) pos) (orV m1 m2) :=
  (pe_or ha hb).wk fun σ H Q h => (lift.bind (Rp := pD X.K) h).mono fun v H1 ⟨w1, fr1, S1, d, R1, p1, g1⟩ => by
    cases p1 with
    | bl k =>
      refine ⟨k, rfl, ?_⟩
      cases k with
      | false => exact ⟨w1, fr1, S1, R1, g1⟩
      | true => exact g1 w1 H1 _ (.refl _) R1 (.bl true)
    | _ => exact g1.elim
theorem pem_not (ha : PEm X C W a m) : PEm X C W (.UnaryOp .Not a pos) (notV m) :=
  (pe_not ha).wk fun σ H Q h => (lift.bind (Rp := pD X.K) h).mono fun v H1 ⟨w1, fr1, S1, d, R1, p1, g1⟩ => by
    cases p1 with
    | bl k => exact ⟨k, rfl, g1 w1 H1 _ (.refl _) R1 (.bl _)⟩
    | _ => exact g1.elim
/-- a if t else b -/
def ifM {α : Type} (t : Mo Bool) (m1 m2 : Mo α) : Mo α := t >>= fun b => if b = true then m1 else m2
theorem pem_if {c : Expr} (hc : PBm X C W c t1) (ha : PEm X C W a m1) (hb : PEm X C W b m2) : PEm X C W (.IfExp c a b pos) (ifM t1 m1 m2) :=
  (pe_ifExp hc ha hb).wk fun σ H Q h => (lift.bind (Rp := pB) h).mono fun k H1 ⟨w1, fr1, S1, d, R1, p1, g1⟩ => by
    have e : k = d := p1
    subst e
    cases k with
    | true => exact ⟨w1, fr1, S1, R1, g1⟩
    | false => exact ⟨w1, fr1, S1, R1, g1⟩
theorem pum_if {c : Expr} {u1 u2 : Mo (List D)} (hc : PBm X C W c t1) (ha : PUm X C W a u1) (hb : PUm X C W b u2) : PUm X C W (.IfExp c a b pos) (ifM t1 u1 u2) :=
  (pe_ifExp hc ha hb).wk fun σ H Q h => (lift.bind (Rp := pB) h).mono fun k H1 ⟨w1, fr1, S1, d, R1, p1, g1⟩ => by
    have e : k = d := p1
    subst e
    cases k with
    | true => exact ⟨w1, fr1, S1, R1, g1⟩
    | false => exact ⟨w1, fr1, S1, R1, g1⟩

/-! ### argument lists, displays -/
def argsM : List (Mo D) → Mo (List D)
  | [] => pure []
  | m :: r => m >>= fun d => argsM r >>= fun ds => pure (d :: ds)
theorem plm_nil : PLm X C W [] (argsM []) := pa_nil.wk fun σ H Q h => lift_pure h fun _ => .nil
theorem plm_cons {es : List Expr} {ms : List (Mo D)} (ha : PEm X C W e m) (hr : PLm X C W es (argsM ms)) (hs : starEach (e :: es) X.env = (false, eval e X.env) :: starEach es X.env := by rfl) : PLm X C W (e :: es) (argsM (m :: ms)) := by
  refine (pa_cons ha hr hs).wk fun σ H Q h => ?_
  refine (lift.bind (Rp := pD X.K) h).mono fun v H1 ⟨w1, fr1, S1, d, R1, p1, g1⟩ => ⟨w1, fr1, S1, R1, ?_⟩
  have g1' : Good X.K C w1 W (pL X.K) σ Q (Rs.bind (argsM ms fr1 S1) fun ds => pure (d :: ds)) := g1
  exact (Good.bind (Rp := pL X.K) g1').mono fun vs H2 ⟨w2, fr2, S2, ds, l, R2, p2, g2⟩ => g2 w2 H2 _ (.refl _) R2 (.cons (RepD.le l p1) p2)
theorem argsM_len : ∀ {ms : List (Mo D)} {fr : List Sl} {S : List Ob} {ds : List D} {fr' : List Sl} {S' : List Ob}, argsM ms fr S = .ok ds fr' S' → ds.length = ms.length
  | [], _, _, _, _, _, h => by
    have h' : Rs.ok ([] : List D) _ _ = .ok _ _ _ := h
    cases h'
    rfl
  | m :: r, fr, S, ds, fr', S', h => by
    have h' : Rs.bind (m fr S) (fun d => argsM r >>= fun ds => pure (d :: ds)) = .ok ds fr' S' := h
    cases e : m fr S with
    | ok d fr1 S1 =>
      rw [e] at h'
      have h2 : Rs.bind (argsM r fr1 S1) (fun ds => pure (d :: ds)) = .ok ds fr' S' := h'
      cases e2 : argsM r fr1 S1 with
      | ok es fr2 S2 =>
        rw [e2] at h2
        have h3 : Rs.ok (d :: es) fr2 S2 = .ok ds fr' S' := h2
        cases h3
        rw [List.length_cons, List.length_cons, argsM_len e2]
      | exc x _ _ => rw [e2] at h2; cases h2
      | stuck => rw [e2] at h2; cases h2
    | exc x _ _ => rw [e] at h'; cases h'
    | stuck => rw [e] at h'; cases h'
theorem small_line {n : Nat} (h : n ≤ 1000) : n ≤ sizeLine := Nat.le_of_lt (small1000 h)
def tupM (ms : List (Mo D)) : Mo D := argsM ms >>= fun ds => pure (.tup ds)
/-- what an argument list leaves, with the length told -/
theorem Good.args {K : PySem.W.Frag} {α β : Type} {Rp : Wd → Hp → β → α → Prop} {ms : List (Mo D)} {fr : List Sl} {S : List Ob} {w : Wd} {σ : St} {Q : β → Hp → Prop} {k : List D → Mo α} (g : Good K C w W Rp σ Q (Rs.bind (argsM ms fr S) k)) :
    Good K C w W (pL K) σ (fun v H1 => ∃ w1 fr1 S1 ds, Le w w1 ∧ Rel K C w1 fr1 S1 σ H1 ∧ RepL K w1.F w1.m v ds ∧ ds.length = ms.length ∧ Good K C w1 W Rp σ Q (k ds fr1 S1)) (argsM ms fr S) := by
  cases e : argsM ms fr S with
  | ok ds fr1 S1 =>
    rw [e] at g
    exact fun w2 H' v l R p => ⟨w2, fr1, S1, ds, l, R, p, argsM_len e, g.le l⟩
  | exc x _ _ => rw [e] at g; exact g
  | stuck => rw [e] at g; exact g
theorem lift_args {K : PySem.W.Frag} {α β : Type} {Rp : Wd → Hp → β → α → Prop} {ms : List (Mo D)} {σ : St} {H : Hp} {Q : β → Hp → Prop} {k : List D → Mo α} (h : lift K C W Rp (argsM ms >>= k) σ H Q) :
    lift K C W (pL K) (argsM ms) σ H fun v H1 => ∃ w1 fr1 S1 ds, Rel K C w1 fr1 S1 σ H1 ∧ RepL K w1.F w1.m v ds ∧ ds.length = ms.length ∧ Good K C w1 W Rp σ Q (k ds fr1 S1) := by
  obtain ⟨w, fr, S, R, g⟩ := h
  have g' : Good K C w W Rp σ Q (Rs.bind (argsM ms fr S) k) := g
  exact ⟨w, fr, S, R, g'.args.mono fun v H1 ⟨w1, fr1, S1, ds, _, z⟩ => ⟨w1, fr1, S1, ds, z⟩⟩
theorem pem_tup {es : List Expr} {ms : List (Mo D)} {k} (h : PLm X C W es (argsM ms)) (hl : ms.length ≤ 1000 := by exact Nat.le_of_ble_eq_true rfl) : PEm X C W (.Tuple es k pos) (tupM ms) := by
  refine (pe_tupN h).wk fun σ H Q q => ?_
  refine (lift_args q).mono fun vs H1 ⟨w1, fr1, S1, ds, R1, r, hn, g⟩ => ⟨small_line (by rw [r.length, hn]; exact hl), fun p o hd hp => ?_⟩
  obtain ⟨R', l⟩ := R1.lay hp (.frz o (.tup vs))
  exact g _ _ _ l R' (.tup (.of upd_same hd) (r.le l))
theorem pum_lst {es : List Expr} {ms : List (Mo D)} (h : PLm X C W es (argsM ms)) (hl : ms.length ≤ 1000 := by exact Nat.le_of_ble_eq_true rfl) : PUm X C W (.List es pos) (argsM ms) := by
  refine (pe_lst h).wk fun σ H Q q => ?_
  have q' : lift X.K C W (pU X.K) (argsM ms >>= fun ds => pure ds) σ H Q := by
    obtain ⟨w, fr, S, R, g⟩ := q
    refine ⟨w, fr, S, R, ?_⟩
    show Good X.K C w W (pU X.K) σ Q (Rs.bind (argsM ms fr S) fun ds => pure ds)
    cases e : argsM ms fr S with
    | ok ds fr1 S1 => rw [e] at g; exact g
    | exc x _ _ => rw [e] at g; exact g
    | stuck => rw [e] at g; exact g
  refine (lift_args q').mono fun vs H1 ⟨w1, fr1, S1, ds, R1, r, hn, g⟩ => ⟨small_line (by rw [r.length, hn]; exact hl), fun p hp => ?_⟩
  exact g w1 _ _ (.refl _) (R1.same (sub_new hp _)) (RepU.new R1 hp r)
/-- a fresh list as a value: frozen at once -/
def lstM (u : Mo (List D)) : Mo D := u >>= fun ds => pure (.lst ds)
theorem pem_u {u : Mo (List D)} (h : PUm X C W e u) : PEm X C W e (lstM u) :=
  h.wk fun σ H Q q => (lift.bind (Rp := pU X.K) q).mono fun v H1 ⟨w1, fr1, S1, ds, R1, r, g⟩ => by
    obtain ⟨w2, l, R2, rd⟩ := r.freeze R1
    exact g w2 H1 v l R2 rd
end
end Z
set_option Elab.async false
set_option linter.all false
set_option maxRecDepth 100000
/-! Z3: calls of the text's own defs, methods, classes; fields; subscripts, slices; lists; built-ins. -/
namespace Z
open PySem L2

/-! ### the promise of a def -/
def RepRV (K : PySem.W.Frag) (w : Wd) (H : Hp) (v : V) : RV → Prop
  | .d x => RepD K w.F w.m v x
  | .u ds => RepU K w H v ds
def GoodF (K : PySem.W.Frag) (C : Cl) (w : Wd) (Q : VK) (E : XK) : RF → Prop
  | .ok rv S => ∀ w' H' v, Le w w' → Rel K C w' [] S [] H' → RepRV K w' H' v rv → Q v H'
  | .exc x S => ∀ w' H' c d, Le w w' → Rel K C w' [] S [] H' → RepX C w' H' c d x → E c d H'
  | .stuck => False
/-- a def's promise: it gives what the plain function gives -/
def liftF (K : PySem.W.Frag) (C : Cl) (n : Nat) (F : Fm) : Sp := fun vs H Q E => vs.length = n ∧ ∃ w S ds, Rel K C w [] S [] H ∧ RepL K w.F w.m vs ds ∧ GoodF K C w Q E (F ds S)

/-- the callee's view: the caller's own things are not to be touched -/
def dn (w : Wd) (H : Hp) : Wd where
  F := w.F
  P := fun a => match w.q a with
    | some (.slot _) => H a
    | _ => w.P a
  m := w.m
  q := fun a => match w.q a with
    | some (.slot _) => none
    | r => r
/-- the caller's view behind the call -/
def up (w w' : Wd) : Wd where
  F := w'.F
  P := w.P
  m := w'.m
  q := fun a => match w.q a with
    | some (.slot i) => some (.slot i)
    | _ => w'.q a

section
variable {K : PySem.W.Frag} {C : Cl} {w w' : Wd} {fr : List Sl} {S S' : List Ob} {σ : St} {H H' : Hp}
theorem RepS.same {w1 w2 : Wd} (hF : w2.F = w1.F) (hm : w2.m = w1.m) (hq : w2.q = w1.q) {role : Role} {v : Option V} {x : Sl} (r : RepS K w1 H role v x) : RepS K w2 H role v x := by
  cases r with
  | un => exact .un
  | val r => exact .val (by rw [hF, hm]; exact r)
  | own a b c => exact .own (by rw [hq]; exact a) b (by rw [hF, hm]; exact c)
  | ownd a b c => exact .ownd (by rw [hq]; exact a) b (by rw [hF, hm]; exact c)
theorem RepO.same {w1 w2 : Wd} {cl : Nat → Addr} (hF : w2.F = w1.F) (hm : w2.m = w1.m) (hq : w2.q = w1.q) {r : Nat} {a : Addr} {o : Ob} (x : RepO K cl w1 H r a o) : RepO K cl w2 H r a o := by
  cases x with
  | lst p q => exact .lst p (by rw [hF, hm]; exact q)
  | ins p q => exact .ins p (Paired.mapP q fun a b z => ⟨z.1, z.2.same hF hm hq⟩)
theorem dn_slot {a : Addr} {i : Nat} (h : w.q a = some (.slot i)) : (dn w H).P a = H a ∧ (dn w H).q a = none := by
  unfold dn
  dsimp only
  rw [h]
  exact ⟨rfl, rfl⟩
theorem dn_other {a : Addr} (h : ∀ i, w.q a ≠ some (.slot i)) : (dn w H).P a = w.P a ∧ (dn w H).q a = w.q a := by
  unfold dn
  dsimp only
  cases e : w.q a with
  | none => exact ⟨rfl, rfl⟩
  | some r =>
    cases r with
    | slot i => exact absurd e (h i)
    | obj r => exact ⟨rfl, rfl⟩
    | fld r f => exact ⟨rfl, rfl⟩
theorem slot_or (w : Wd) (a : Addr) : (∃ i, w.q a = some (.slot i)) ∨ ∀ i, w.q a ≠ some (.slot i) := by
  cases e : w.q a with
  | none => exact .inr fun i z => by cases z
  | some r =>
    cases r with
    | slot i => exact .inl ⟨i, rfl⟩
    | obj r => exact .inr fun i z => by cases z
    | fld r f => exact .inr fun i z => by cases z
theorem up_slot {a : Addr} {i : Nat} (h : w.q a = some (.slot i)) : (up w w').q a = some (.slot i) := by
  unfold up
  dsimp only
  rw [h]
theorem up_other {a : Addr} (h : ∀ i, w.q a ≠ some (.slot i)) : (up w w').q a = w'.q a := by
  unfold up
  dsimp only
  cases e : w.q a with
  | none => rfl
  | some r =>
    cases r with
    | slot i => exact absurd e (h i)
    | obj r => rfl
    | fld r f => rfl
theorem Rel.down (R : Rel K C w fr S σ H) : Rel K C (dn w H) [] S [] H where
  subF := R.subF
  subP := fun a o e => by
    rcases slot_or w a with ⟨i, h⟩ | h
    · rw [(dn_slot h).1] at e; exact e
    · rw [(dn_other h).1] at e; exact R.subP a o e
  dis := fun a o e => by
    rcases slot_or w a with ⟨i, h⟩ | h
    · have z : w.F a = some o := e
      rw [(R.rol a _ h).1] at z; cases z
    · rw [(dn_other h).1]; exact R.dis a o e
  rol := fun a r e => by
    rcases slot_or w a with ⟨i, h⟩ | h
    · rw [(dn_slot h).2] at e; cases e
    · rw [(dn_other h).2] at e
      rw [(dn_other h).1]
      exact R.rol a r e
  len := R.len
  len2 := rfl
  slot := fun i x v e1 _ => by simp at e1
  obj := fun r a o e1 e2 => by
    obtain ⟨x, y⟩ := R.obj r a o e1 e2
    have l : Le w { w with q := (dn w H).q } := ⟨.refl _, rfl, .refl _⟩
    have k : ∀ {b : Addr} {z : Role}, (∀ i, z ≠ .slot i) → w.q b = some z → (dn w H).q b = some z := fun {b z} n e => by
      rw [(dn_other fun i q => n i (by rw [e] at q; exact Option.some.inj q)).2]
      exact e
    refine ⟨k (fun i z => by cases z) x, ?_⟩
    exact RepO.same (w1 := { w with q := (dn w H).q }) (w2 := dn w H) rfl rfl rfl (y.le l (fun b f z => k (fun i z => by cases z) z) (fun _ _ _ _ z => z) fun _ z => z)
  amb := R.amb
theorem Rel.upp (R : Rel K C w fr S σ H) (l : Le (dn w H) w') (R' : Rel K C w' [] S' [] H') : Rel K C (up w w') fr S' σ H' ∧ Le w (up w w') := by
  have le : Le w (up w w') := ⟨l.F, rfl, l.m⟩
  have own : ∀ {a : Addr} {i : Nat}, w.q a = some (.slot i) → ∀ o, H a = some o → w'.P a = some o := fun {a i} h o e => by
    rw [l.P, (dn_slot h).1]; exact e
  refine ⟨⟨R'.subF, fun a o e => ?_, fun a o e => ?_, fun a r e => ?_, R'.len, R.len2, fun i x v e1 e2 => ?_, fun r a o e1 e2 => ?_, R'.amb⟩, le⟩
  · have e' : w.P a = some o := e
    refine R'.subP a o ?_
    rw [l.P]
    rw [(dn_other fun i z => ?_).1]
    · exact e'
    · rw [(R.rol a _ z).2.1] at e'; cases e'
  · show w.P a = none
    have z := R'.dis a o e
    rw [l.P] at z
    rcases slot_or w a with ⟨i, h⟩ | h
    · exact (R.rol a _ h).2.1
    · rw [(dn_other h).1] at z; exact z
  · rcases slot_or w a with ⟨i, h⟩ | h
    · obtain ⟨_, z2, o, z3⟩ := R.rol a _ h
      have p := own h o z3
      refine ⟨?_, z2, o, R'.subP a o p⟩
      show w'.F a = none
      cases q : w'.F a with
      | none => rfl
      | some u => rw [R'.dis a u q] at p; cases p
    · rw [up_other h] at e
      obtain ⟨z1, z2, z3⟩ := R'.rol a r e
      refine ⟨z1, ?_, z3⟩
      rw [l.P, (dn_other h).1] at z2
      exact z2
  · have x1 := R.slot i x v e1 e2
    exact x1.le le (fun a h => up_slot h) fun a o h e => R'.subP a o (own h o e)
  · obtain ⟨x, y⟩ := R'.obj r a o e1 e2
    have k : ∀ {b : Addr} {z : Role}, (∀ i, z ≠ .slot i) → w'.q b = some z → (up w w').q b = some z := fun {b z} n e => by
      rcases slot_or w b with ⟨i, h⟩ | h
      · obtain ⟨_, _, o, z3⟩ := R.rol b _ h
        have p := own h o z3
        rw [(R'.rol b _ e).2.1] at p; cases p
      · rw [up_other h]; exact e
    have l' : Le w' { w' with q := (up w w').q } := ⟨.refl _, rfl, .refl _⟩
    refine ⟨k (fun i z => by cases z) x, ?_⟩
    exact RepO.same (w1 := { w' with q := (up w w').q }) (w2 := up w w') rfl rfl rfl (y.le l' (fun b f z => k (fun i z => by cases z) z) (fun _ _ _ _ z => z) fun _ z => z)
theorem RepU.upp (R : Rel K C w fr S σ H) (l : Le (dn w H) w') {v : V} {ds : List D} (u : RepU K w' H' v ds) : RepU K (up w w') H' v ds := by
  obtain ⟨a, vs, e, h, r, hF, hP, hq⟩ := u.ex
  have n : ∀ i, w.q a ≠ some (.slot i) := fun i z => by
    obtain ⟨_, _, o, z3⟩ := R.rol a _ z
    rw [l.P, (dn_slot z).1, z3] at hP; cases hP
  refine ⟨a, vs, e, h, r, hF, ?_, ?_⟩
  · show w.P a = none
    rw [l.P, (dn_other n).1] at hP
    exact hP
  · rw [up_other n]; exact hq
end

/-! ### calls -/
/-- the callee's answer as a value -/
def callF (F : Fm) (as : List D) : Mo D := fun fr S => match F as S with
  | .ok (.d x) S' => .ok x fr S'
  | .ok (.u l) S' => .ok (.lst l) fr S'
  | .exc x S' => .exc x fr S'
  | .stuck => .stuck
/-- .. as a fresh list -/
def callU (F : Fm) (as : List D) : Mo (List D) := fun fr S => match F as S with
  | .ok (.d _) _ => .stuck
  | .ok (.u l) S' => .ok l fr S'
  | .exc x S' => .exc x fr S'
  | .stuck => .stuck
def callM (F : Fm) (ms : List (Mo D)) (df : List D) : Mo D := argsM ms >>= fun as => callF F (as ++ df)
def callMU (F : Fm) (ms : List (Mo D)) (df : List D) : Mo (List D) := argsM ms >>= fun as => callU F (as ++ df)
section
variable {X : Cx} {C : Cl} {W : WX} {w : Wd} {fr : List Sl} {S : List Ob} {σ : St} {H : Hp} {Q : VK} {n : Nat} {F : Fm} {vs : List V} {ds : List D}
/-- what a call of a kept promise asks is there -/
theorem sp_of (R : Rel X.K C w fr S σ H) (r : RepL X.K w.F w.m vs ds) (hn : vs.length = n) (g : Good X.K C w W (pD X.K) σ Q (callF F ds fr S)) : liftF X.K C n F vs H Q (WE W σ) := by
  refine ⟨hn, dn w H, S, ds, R.down, r, ?_⟩
  have g' := g
  unfold callF at g'
  cases e : F ds S with
  | ok rv S' =>
    rw [e] at g'
    cases rv with
    | d x =>
      intro w' H' v l R' rv
      obtain ⟨R2, l2⟩ := R.upp l R'
      exact g' _ H' v l2 R2 rv
    | u ls =>
        intro w' H' v l R' rv
        obtain ⟨R2, l2⟩ := R.upp l R'
        obtain ⟨w3, l3, R3, rd⟩ := (RepU.upp R l rv).freeze R2
        exact g' w3 H' v (l2.trans l3) R3 rd
  | exc x S' =>
    rw [e] at g'
    intro w' H' c d l R' rx
    obtain ⟨R2, l2⟩ := R.upp l R'
    exact g' _ H' c d l2 R2 rx
  | stuck => rw [e] at g'; exact g'.elim
theorem sp_ofU (R : Rel X.K C w fr S σ H) (r : RepL X.K w.F w.m vs ds) (hn : vs.length = n) (g : Good X.K C w W (pU X.K) σ Q (callU F ds fr S)) : liftF X.K C n F vs H Q (WE W σ) := by
  refine ⟨hn, dn w H, S, ds, R.down, r, ?_⟩
  have g' := g
  unfold callU at g'
  cases e : F ds S with
  | ok rv S' =>
    rw [e] at g'
    cases rv with
    | d x => exact g'.elim
    | u ls =>
        intro w' H' v l R' rv
        obtain ⟨R2, l2⟩ := R.upp l R'
        exact g' _ H' v l2 R2 (RepU.upp R l rv)
  | exc x S' =>
    rw [e] at g'
    intro w' H' c d l R' rx
    obtain ⟨R2, l2⟩ := R.upp l R'
    exact g' _ H' c d l2 R2 rx
  | stuck => rw [e] at g'; exact g'.elim
end

section
variable {X : Cx} {C : Cl} {W : WX} {k n : Nat} {f : Addr} {fd : FuncData} {ps : List Str} {F : Fm} {x m : Str} {p pos apos : Pos} {e o : Expr} {es : List Expr} {ms : List (Mo D)} {mo : Mo D} {dvs : List V} {df : List D} {ds : List Value}

theorem repL_snoc {K : PySem.W.Frag} {w : Wd} {vs : List V} {as : List D} (r : RepL K w.F w.m vs as) (rd : ∀ F m, RepL K F m dvs df) : RepL K w.F w.m (vs ++ dvs) (as ++ df) := r.append (rd _ _)
theorem pem_call (G : FnOk X.prog X.w X.K X.mg X.base (L2.CX X.prog X.w) k f fd ps (liftF X.K C n F)) (hr : Room k X.A) (hg : Gl X x) (hm : X.mg x = some (.ref f)) (hk : PySem.W.keepIn X.K (.ref f) = true) (hb : Binds X.K fd ps ds) (hd : Vals dvs ds) (rd : ∀ F m, RepL X.K F m dvs df)
    (tk : Takes X W) (ha : PLm X C W (e :: es) (argsM ms)) (hn : ms.length + df.length = n := by rfl) (hdb : (x == ("__debug__" : Str)) = false := by decide) (he : starEach (e :: es) X.env = (false, eval e X.env) :: starEach es X.env := by rfl) (hpl : (backTo pos (starEach es X.env)).any (·.1) = false := by rfl) :
    PEm X C W (.Call (.Name x p) (e :: es) [] pos) (callM F ms df) := by
  refine (pe_callSD G hr hg hm hk hb hd (fun σ => passAt tk σ) ha hdb he hpl).wk fun σ H Q h => ?_
  refine (lift_args h).mono fun vs H1 ⟨w1, fr1, S1, as, R1, r, hl, g⟩ => ?_
  exact sp_of R1 (repL_snoc r rd) (by rw [List.length_append, r.length, hl, (rd (fun _ => none) []).length]; exact hn) g
theorem pum_call (G : FnOk X.prog X.w X.K X.mg X.base (L2.CX X.prog X.w) k f fd ps (liftF X.K C n F)) (hr : Room k X.A) (hg : Gl X x) (hm : X.mg x = some (.ref f)) (hk : PySem.W.keepIn X.K (.ref f) = true) (hb : Binds X.K fd ps ds) (hd : Vals dvs ds) (rd : ∀ F m, RepL X.K F m dvs df)
    (tk : Takes X W) (ha : PLm X C W (e :: es) (argsM ms)) (hn : ms.length + df.length = n := by rfl) (hdb : (x == ("__debug__" : Str)) = false := by decide) (he : starEach (e :: es) X.env = (false, eval e X.env) :: starEach es X.env := by rfl) (hpl : (backTo pos (starEach es X.env)).any (·.1) = false := by rfl) :
    PUm X C W (.Call (.Name x p) (e :: es) [] pos) (callMU F ms df) := by
  refine (pe_callSD G hr hg hm hk hb hd (fun σ => passAt tk σ) ha hdb he hpl).wk fun σ H Q h => ?_
  refine (lift_args h).mono fun vs H1 ⟨w1, fr1, S1, as, R1, r, hl, g⟩ => ?_
  exact sp_ofU R1 (repL_snoc r rd) (by rw [List.length_append, r.length, hl, (rd (fun _ => none) []).length]; exact hn) g
theorem pe_call0SD {sp : Sp} {E : St → XK} {CX : CXT} (G : FnOk X.prog X.w X.K X.mg X.base CX k f fd ps sp) (hr : Room k X.A) (hg : Gl X x) (hm : X.mg x = some (.ref f)) (hk : PySem.W.keepIn X.K (.ref f) = true) (hb : Binds X.K fd ps ds) (hd : Vals dvs ds) (hx : ∀ σ, PassesAt CX X σ (E σ))
    (hdb : (x == ("__debug__" : Str)) = false := by decide) : PE X (.Call (.Name x p) [] [] pos) (tCallSD sp dvs E tNil) := by
  refine ⟨fun pins s σ H Q I h => ?_⟩
  refine wpAny_Call_Name_kw (ld_glob I hg hm ?_ hdb)
  exact PySem.W.callWith_K0 I.kIn hk (run_fnSD (us := []) G hr hb hd (hx σ) I .nil h)
theorem pem_call0 (G : FnOk X.prog X.w X.K X.mg X.base (L2.CX X.prog X.w) k f fd ps (liftF X.K C n F)) (hr : Room k X.A) (hg : Gl X x) (hm : X.mg x = some (.ref f)) (hk : PySem.W.keepIn X.K (.ref f) = true) (hb : Binds X.K fd ps ds) (hd : Vals dvs ds) (rd : ∀ F m, RepL X.K F m dvs df)
    (tk : Takes X W) (hn : df.length = n := by rfl) (hdb : (x == ("__debug__" : Str)) = false := by decide) : PEm X C W (.Call (.Name x p) [] [] pos) (callM F [] df) := by
  refine (pe_call0SD G hr hg hm hk hb hd (fun σ => passAt tk σ) hdb).wk fun σ H Q h => ?_
  obtain ⟨w, fr, S, R, g⟩ := h
  exact sp_of R (rd _ _) (by show dvs.length = n; rw [(rd (fun _ => none) []).length]; exact hn) g

/-! #### methods -/
def chkIns (c : Nat) (nm : Str) (o : D) : Mo Unit := fun fr S => match o with
  | .ptr r => match S[r]? with
    | some (.ins c' fs) => if c' = c ∧ (fs.lookup nm).isNone = true then .ok () fr S else .stuck
    | _ => .stuck
  | _ => .stuck
theorem RepFs.none {K : PySem.W.Frag} {w : Wd} {H : Hp} {r : Nat} : ∀ {fv : List (Str × V)} {fs : List (Str × Sl)} {nm : Str}, RepFs K w H r fv fs → fs.lookup nm = none → fv.lookup nm = none
  | _, _, _, .nil, _ => rfl
  | (a, v) :: fv, (b, x) :: fs, nm, .cons h l, e => by
    have hab : a = b := h.1
    subst hab
    rw [List.lookup_cons] at e ⊢
    cases z : nm == a with
    | true => rw [z] at e; cases e
    | false => rw [z] at e; exact RepFs.none l e
theorem RepFs.some {K : PySem.W.Frag} {w : Wd} {H : Hp} {r : Nat} : ∀ {fv : List (Str × V)} {fs : List (Str × Sl)} {nm : Str} {x : Sl}, RepFs K w H r fv fs → fs.lookup nm = some x → ∃ v, fv.lookup nm = some v ∧ RepS K w H (.fld r nm) (some v) x
  | _, _, _, _, .nil, e => by cases e
  | (a, v) :: fv, (b, y) :: fs, nm, x, .cons h l, e => by
    have hab : a = b := h.1
    subst hab
    rw [List.lookup_cons] at e ⊢
    cases z : nm == a with
    | true =>
      rw [z] at e
      cases e
      have hn : nm = a := by simpa using z
      subst hn
      exact ⟨v, rfl, h.2⟩
    | false => rw [z] at e; exact RepFs.some l e
theorem Rel.ob {K : PySem.W.Frag} {w : Wd} {fr : List Sl} {S : List Ob} {σ : St} {H : Hp} (R : Rel K C w fr S σ H) {r : Nat} {a : Addr} {ob : Ob} (hm : w.m[r]? = some a) (hS : S[r]? = some ob) : w.q a = some (.obj r) ∧ RepO K C.cl w H r a ob := R.obj r a ob hm hS
theorem chk_some {K : PySem.W.Frag} {w : Wd} {fr : List Sl} {S : List Ob} {σ : St} {H : Hp} {c : Nat} {nm : Str} {d : D} {v : V} {α β : Type} {Rp : Wd → Hp → β → α → Prop} {Q : β → Hp → Prop} {k : Mo α} (R : Rel K C w fr S σ H) (rd : RepD K w.F w.m v d)
    (g : Good K C w W Rp σ Q (Rs.bind (chkIns c nm d fr S) fun _ => k)) : ∃ a dx fv, v = .ref a ∧ H a = some (.ins (C.cl c) dx fv) ∧ fv.lookup nm = none ∧ Good K C w W Rp σ Q (k fr S) := by
  cases rd with
  | ptr hm =>
    rename_i a r
    unfold chkIns at g
    dsimp only at g
    cases e : S[r]? with
    | none => rw [e] at g; exact g.elim
    | some ob =>
      rw [e] at g
      cases ob with
      | lst ds => exact g.elim
      | ins c' fs =>
        dsimp only at g
        by_cases z : c' = c ∧ (fs.lookup nm).isNone = true
        · rw [if_pos z] at g
          obtain ⟨_, ro⟩ := R.ob hm e
          cases ro with
          | ins h1 h2 =>
            have hc := z.1
            subst hc
            exact ⟨a, _, _, rfl, h1, h2.none (by simpa using z.2), g⟩
        · rw [if_neg z] at g; exact g.elim
  | _ => exact g.elim
def methM (c : Nat) (nm : Str) (F : Fm) (mo : Mo D) (ms : List (Mo D)) (df : List D) : Mo D := mo >>= fun o => chkIns c nm o >>= fun _ => argsM ms >>= fun as => callF F (o :: (as ++ df))
def methMU (c : Nat) (nm : Str) (F : Fm) (mo : Mo D) (ms : List (Mo D)) (df : List D) : Mo (List D) := mo >>= fun o => chkIns c nm o >>= fun _ => argsM ms >>= fun as => callU F (o :: (as ++ df))
def tMethSD (C : Addr) (m : Str) (sp : Sp) (dvs : List V) (E : St → XK) (ta : TE) (t : TA) : TE := fun σ H Q => ta σ H fun x H1 => ∃ a dx fs, x = .ref a ∧ H1 a = some (.ins C dx fs) ∧ fs.lookup m = none ∧
  t σ H1 fun vs H2 => sp (x :: (vs ++ dvs)) H2 Q (E σ)
theorem pe_methSD {pl : Sem Bool} {sp : Sp} {E : St → XK} {CX : CXT} {ta : TE} {t : TA} {A : Addr} (he : PE X o ta) (c : Cls X.K A) (hm : Meth X.K A m f) (G : FnOk X.prog X.w X.K X.mg X.base CX k f fd ps sp) (hr : Room k X.A) (hb : Binds X.K fd ps ds) (hd : Vals dvs ds) (hx : ∀ σ, PassesAt CX X σ (E σ)) (ha : PA X (e :: es) t)
    (hst : starEach (e :: es) X.env = (false, eval e X.env) :: starEach es X.env := by rfl) (hpl : (backTo pos (starEach es X.env)).any (·.1) = false := by rfl)
    (ht : eval (.Call (.Attribute o m apos) (e :: es) [] pos) X.env = (do
      let ov ← eval o X.env
      standAt apos.atName
      let (f, first) ← holding [ov] (getMethod ov m pl)
      callWith pos f first (backTo pos (starEach (e :: es) X.env)) (backToKw pos (keywordEach [] X.env))) := by rfl) :
    PE X (.Call (.Attribute o m apos) (e :: es) [] pos) (tMethSD A m sp dvs E ta t) := by
  refine ⟨fun pins s σ H Q I h => PySem.W.methodCall_KW (pl := pl) (thn (he.run pins s σ H _ I h) fun u s1 ⟨x, H1, I1, rx, a, dx, fs, ex, ea, l, q⟩ => ?_) ht⟩
  subst ex
  obtain rfl : u = Value.ref a := rx
  refine getmeth_ok I1 ea c hm l (PySem.W.callWith_K (first := [.ref a]) (h₀ := X.base) I.ok.mod.kin hm.kp (thn (ha.run pos pins s1 σ H1 _ I1 q) fun us s2 ⟨vs, H2, I2, r, q2⟩ => ⟨I2.kIn, ?_⟩) hst hpl)
  exact run_fnSD (us := .ref a :: us) (vs := .ref a :: vs) G hr hb hd (hx σ) I2 (.cons rfl r) q2
theorem pe_meth0SD {pl : Sem Bool} {sp : Sp} {E : St → XK} {CX : CXT} {ta : TE} {A : Addr} (he : PE X o ta) (c : Cls X.K A) (hm : Meth X.K A m f) (G : FnOk X.prog X.w X.K X.mg X.base CX k f fd ps sp) (hr : Room k X.A) (hb : Binds X.K fd ps ds) (hd : Vals dvs ds) (hx : ∀ σ, PassesAt CX X σ (E σ))
    (ht : eval (.Call (.Attribute o m apos) [] [] pos) X.env = (do
      let ov ← eval o X.env
      standAt apos.atName
      let (f, first) ← holding [ov] (getMethod ov m pl)
      callWith pos f first (backTo pos (starEach [] X.env)) (backToKw pos (keywordEach [] X.env))) := by rfl) :
    PE X (.Call (.Attribute o m apos) [] [] pos) (tMethSD A m sp dvs E ta tNil) := by
  refine ⟨fun pins s σ H Q I h => PySem.W.methodCall_KW (pl := pl) (thn (he.run pins s σ H _ I h) fun u s1 ⟨x, H1, I1, rx, a, dx, fs, ex, ea, l, q⟩ => ?_) ht⟩
  subst ex
  obtain rfl : u = Value.ref a := rx
  exact getmeth_ok I1 ea c hm l (PySem.W.callWith_K0 (first := [.ref a]) I1.kIn hm.kp (run_fnSD (us := [.ref a]) (vs := [.ref a]) G hr hb hd (hx σ) I1 (.cons rfl .nil) q))
variable {c : Nat}
theorem pem_meth {pl : Sem Bool} (hc : Cls X.K (C.cl c)) (hm : Meth X.K (C.cl c) m f) (G : FnOk X.prog X.w X.K X.mg X.base (L2.CX X.prog X.w) k f fd ps (liftF X.K C n F)) (hr : Room k X.A) (hb : Binds X.K fd ps ds) (hd : Vals dvs ds) (rd : ∀ F m, RepL X.K F m dvs df) (tk : Takes X W) (ho : PEm X C W o mo) (ha : PLm X C W (e :: es) (argsM ms))
    (hn : ms.length + df.length + 1 = n := by rfl) (hst : starEach (e :: es) X.env = (false, eval e X.env) :: starEach es X.env := by rfl) (hpl : (backTo pos (starEach es X.env)).any (·.1) = false := by rfl)
    (ht : eval (.Call (.Attribute o m apos) (e :: es) [] pos) X.env = (do
      let ov ← eval o X.env
      standAt apos.atName
      let (f, first) ← holding [ov] (getMethod ov m pl)
      callWith pos f first (backTo pos (starEach (e :: es) X.env)) (backToKw pos (keywordEach [] X.env))) := by rfl) :
    PEm X C W (.Call (.Attribute o m apos) (e :: es) [] pos) (methM c m F mo ms df) := by
  refine (pe_methSD (pl := pl) ho hc hm G hr hb hd (fun σ => passAt tk σ) ha hst hpl ht).wk fun σ H Q h => ?_
  refine (lift.bind (Rp := pD X.K) h).mono fun v H1 ⟨w1, fr1, S1, d, R1, p1, g1⟩ => ?_
  obtain ⟨a, dx, fv, rfl, h1, h2, g2⟩ := chk_some (k := argsM ms >>= fun as => callF F (d :: (as ++ df))) R1 p1 g1
  refine ⟨a, dx, fv, rfl, h1, h2, w1, fr1, S1, R1, ?_⟩
  have g2' : Good X.K C w1 W (pD X.K) σ Q (Rs.bind (argsM ms fr1 S1) fun as => callF F (d :: (as ++ df))) := g2
  refine g2'.args.mono fun vs H2 ⟨w2, fr2, S2, as, l, R2, r, hl, g3⟩ => ?_
  refine sp_of R2 (.cons (RepD.le l p1) (repL_snoc r rd)) ?_ g3
  rw [List.length_cons, List.length_append, r.length, hl, (rd (fun _ => none) []).length]; exact hn
theorem pum_meth {pl : Sem Bool} (hc : Cls X.K (C.cl c)) (hm : Meth X.K (C.cl c) m f) (G : FnOk X.prog X.w X.K X.mg X.base (L2.CX X.prog X.w) k f fd ps (liftF X.K C n F)) (hr : Room k X.A) (hb : Binds X.K fd ps ds) (hd : Vals dvs ds) (rd : ∀ F m, RepL X.K F m dvs df) (tk : Takes X W) (ho : PEm X C W o mo) (ha : PLm X C W (e :: es) (argsM ms))
    (hn : ms.length + df.length + 1 = n := by rfl) (hst : starEach (e :: es) X.env = (false, eval e X.env) :: starEach es X.env := by rfl) (hpl : (backTo pos (starEach es X.env)).any (·.1) = false := by rfl)
    (ht : eval (.Call (.Attribute o m apos) (e :: es) [] pos) X.env = (do
      let ov ← eval o X.env
      standAt apos.atName
      let (f, first) ← holding [ov] (getMethod ov m pl)
      callWith pos f first (backTo pos (starEach (e :: es) X.env)) (backToKw pos (keywordEach [] X.env))) := by rfl) :
    PUm X C W (.Call (.Attribute o m apos) (e :: es) [] pos) (methMU c m F mo ms df) := by
  refine (pe_methSD (pl := pl) ho hc hm G hr hb hd (fun σ => passAt tk σ) ha hst hpl ht).wk fun σ H Q h => ?_
  refine (lift.bind (Rp := pD X.K) h).mono fun v H1 ⟨w1, fr1, S1, d, R1, p1, g1⟩ => ?_
  obtain ⟨a, dx, fv, rfl, h1, h2, g2⟩ := chk_some (k := argsM ms >>= fun as => callU F (d :: (as ++ df))) R1 p1 g1
  refine ⟨a, dx, fv, rfl, h1, h2, w1, fr1, S1, R1, ?_⟩
  have g2' : Good X.K C w1 W (pU X.K) σ Q (Rs.bind (argsM ms fr1 S1) fun as => callU F (d :: (as ++ df))) := g2
  refine g2'.args.mono fun vs H2 ⟨w2, fr2, S2, as, l, R2, r, hl, g3⟩ => ?_
  refine sp_ofU R2 (.cons (RepD.le l p1) (repL_snoc r rd)) ?_ g3
  rw [List.length_cons, List.length_append, r.length, hl, (rd (fun _ => none) []).length]; exact hn
theorem pem_meth0 {pl : Sem Bool} (hc : Cls X.K (C.cl c)) (hm : Meth X.K (C.cl c) m f) (G : FnOk X.prog X.w X.K X.mg X.base (L2.CX X.prog X.w) k f fd ps (liftF X.K C n F)) (hr : Room k X.A) (hb : Binds X.K fd ps ds) (hd : Vals dvs ds) (rd : ∀ F m, RepL X.K F m dvs df) (tk : Takes X W) (ho : PEm X C W o mo)
    (hn : df.length + 1 = n := by rfl)
    (ht : eval (.Call (.Attribute o m apos) [] [] pos) X.env = (do
      let ov ← eval o X.env
      standAt apos.atName
      let (f, first) ← holding [ov] (getMethod ov m pl)
      callWith pos f first (backTo pos (starEach [] X.env)) (backToKw pos (keywordEach [] X.env))) := by rfl) :
    PEm X C W (.Call (.Attribute o m apos) [] [] pos) (methM c m F mo [] df) := by
  refine (pe_meth0SD (pl := pl) ho hc hm G hr hb hd (fun σ => passAt tk σ) ht).wk fun σ H Q h => ?_
  refine (lift.bind (Rp := pD X.K) h).mono fun v H1 ⟨w1, fr1, S1, d, R1, p1, g1⟩ => ?_
  obtain ⟨a, dx, fv, rfl, h1, h2, g2⟩ := chk_some (k := argsM [] >>= fun as => callF F (d :: (as ++ df))) R1 p1 g1
  refine ⟨a, dx, fv, rfl, h1, h2, ?_⟩
  refine sp_of R1 (.cons p1 (rd _ _)) ?_ g2
  show dvs.length + 1 = n
  rw [(rd (fun _ => none) []).length]; exact hn
theorem pum_meth0 {pl : Sem Bool} (hc : Cls X.K (C.cl c)) (hm : Meth X.K (C.cl c) m f) (G : FnOk X.prog X.w X.K X.mg X.base (L2.CX X.prog X.w) k f fd ps (liftF X.K C n F)) (hr : Room k X.A) (hb : Binds X.K fd ps ds) (hd : Vals dvs ds) (rd : ∀ F m, RepL X.K F m dvs df) (tk : Takes X W) (ho : PEm X C W o mo)
    (hn : df.length + 1 = n := by rfl)
    (ht : eval (.Call (.Attribute o m apos) [] [] pos) X.env = (do
      let ov ← eval o X.env
      standAt apos.atName
      let (f, first) ← holding [ov] (getMethod ov m pl)
      callWith pos f first (backTo pos (starEach [] X.env)) (backToKw pos (keywordEach [] X.env))) := by rfl) :
    PUm X C W (.Call (.Attribute o m apos) [] [] pos) (methMU c m F mo [] df) := by
  refine (pe_meth0SD (pl := pl) ho hc hm G hr hb hd (fun σ => passAt tk σ) ht).wk fun σ H Q h => ?_
  refine (lift.bind (Rp := pD X.K) h).mono fun v H1 ⟨w1, fr1, S1, d, R1, p1, g1⟩ => ?_
  obtain ⟨a, dx, fv, rfl, h1, h2, g2⟩ := chk_some (k := argsM [] >>= fun as => callU F (d :: (as ++ df))) R1 p1 g1
  refine ⟨a, dx, fv, rfl, h1, h2, ?_⟩
  refine sp_ofU R1 (.cons p1 (rd _ _)) ?_ g2
  show dvs.length + 1 = n
  rw [(rd (fun _ => none) []).length]; exact hn
end
end Z
set_option Elab.async false
set_option linter.all false
set_option maxRecDepth 100000
/-! Z4: new instances, fields, subscripts, slices, lists, built-ins. -/
namespace Z
open PySem L2

section
variable {K : PySem.W.Frag} {C : Cl} {w : Wd} {fr : List Sl} {S : List Ob} {σ : St} {H H' : Hp}
/-- a thing that nobody owns becomes a shared object -/
def bx (w : Wd) (a : Addr) (n : Nat) : Wd := { w with m := w.m ++ [a], q := fun b => if b = a then some (.obj n) else w.q b }
theorem bx_le (w : Wd) (a : Addr) (n : Nat) : Le w (bx w a n) := ⟨.refl _, rfl, .app _ _⟩
theorem Rel.box (R : Rel K C w fr S σ H) (hs : Sub H H') {a : Addr} {o : HO} {ob : Ob} (hH : H' a = some o) (hF : w.F a = none) (hP : w.P a = none) (hq : w.q a = none) (ro : RepO K C.cl (bx w a S.length) H' S.length a ob) :
    Rel K C (bx w a S.length) fr (S ++ [ob]) σ H' := by
  have R1 := R.same hs
  have l := bx_le w a S.length
  have qk : ∀ {b : Addr} {r : Role}, w.q b = some r → (bx w a S.length).q b = some r := fun {b r} e => by
    show (if b = a then some (Role.obj S.length) else w.q b) = some r
    rw [if_neg (fun z => by rw [z, hq] at e; cases e)]
    exact e
  refine ⟨R1.subF, R1.subP, R1.dis, fun b r e => ?_, ?_, R1.len2, fun i x v e1 e2 => (R1.slot i x v e1 e2).le l (fun b => qk) fun _ _ _ z => z, fun r b o' e1 e2 => ?_, R1.amb⟩
  · have e' : (if b = a then some (Role.obj S.length) else w.q b) = some r := e
    by_cases hb : b = a
    · subst hb; exact ⟨hF, hP, o, hH⟩
    · rw [if_neg hb] at e'; exact R1.rol b r e'
  · show (w.m ++ [a]).length = (S ++ [ob]).length
    rw [List.length_append, List.length_append, R.len]
    rfl
  · have e1' : (w.m ++ [a])[r]? = some b := e1
    by_cases hr : r < S.length
    · rw [List.getElem?_append_left (by rw [R.len]; exact hr)] at e1'
      rw [List.getElem?_append_left hr] at e2
      obtain ⟨x, y⟩ := R1.obj r b o' e1' e2
      exact ⟨qk x, y.le l (fun c f => qk) (fun _ _ _ _ z => z) fun _ z => z⟩
    · have hr2 : r = S.length := by
        have := (List.getElem?_eq_some_iff.mp e2).1
        rw [List.length_append] at this
        simp at this
        omega
      subst hr2
      rw [List.getElem?_append_right (by rw [R.len]; exact Nat.le_refl _), R.len, Nat.sub_self] at e1'
      rw [List.getElem?_append_right (Nat.le_refl _), Nat.sub_self] at e2
      cases e1'
      cases e2
      exact ⟨by show (if a = a then some (Role.obj S.length) else w.q a) = _; rw [if_pos rfl], ro⟩
theorem bx_at (R : Rel K C w fr S σ H) (a : Addr) : (bx w a S.length).m[S.length]? = some a := by
  show (w.m ++ [a])[S.length]? = some a
  rw [← R.len, List.getElem?_append_right (Nat.le_refl _), Nat.sub_self]
  rfl
end

/-! ### C(..): a new instance -/
def mkF (c : Nat) (F : Fm) (as : List D) : Mo D := fun fr S => match F (.ptr S.length :: as) (S ++ [.ins c []]) with
  | .ok (.d .non) S' => .ok (.ptr S.length) fr S'
  | _ => .stuck
def mkM (c : Nat) (F : Fm) (ms : List (Mo D)) (df : List D) : Mo D := argsM ms >>= fun as => mkF c F (as ++ df)
section
variable {X : Cx} {C : Cl} {W : WX} {k n c : Nat} {f : Addr} {fd : FuncData} {ps : List Str} {F : Fm} {x m : Str} {p pos apos : Pos} {e o : Expr} {es : List Expr} {ms : List (Mo D)} {mo m1 m2 : Mo D} {dvs : List V} {df : List D} {ds : List Value}
theorem mk_of {w : Wd} {fr : List Sl} {S : List Ob} {σ : St} {H : Hp} {Q : VK} {vs : List V} {as : List D} (R : Rel X.K C w fr S σ H) (r : RepL X.K w.F w.m vs as) (hn : vs.length + 1 = n) (g : Good X.K C w W (pD X.K) σ Q (mkF c F as fr S)) :
    ∀ x dx, H x = none → H dx = none → dx ≠ x → liftF X.K C n F (.ref x :: vs) (upd (upd H dx (.own x)) x (.ins (C.cl c) dx [])) (fun v H2 => v = .non ∧ Q (.ref x) H2) E0 := by
  intro x dx hx hdx ne
  obtain ⟨hF, hP, hq⟩ := R.fresh hx
  have hs : Sub H (upd (upd H dx (.own x)) x (.ins (C.cl c) dx [])) := (sub_new hdx _).trans (sub_new (by rw [upd_ne (Ne.symm ne)]; exact hx) _)
  have R1 : Rel X.K C (bx w x S.length) fr (S ++ [.ins c []]) σ (upd (upd H dx (.own x)) x (.ins (C.cl c) dx [])) := R.box hs upd_same hF hP hq (.ins upd_same .nil)
  have l1 := bx_le w x S.length
  refine ⟨hn, dn (bx w x S.length) _, _, .ptr S.length :: as, R1.down, .cons (.ptr (bx_at R x)) (RepL.le l1 r), ?_⟩
  have g' := g
  unfold mkF at g'
  cases e : F (.ptr S.length :: as) (S ++ [.ins c []]) with
  | ok rv S' =>
    rw [e] at g'
    cases rv with
    | u ls => exact g'.elim
    | d z =>
      cases z with
      | non =>
        intro w' H' v l R' rv
        obtain ⟨R2, l2⟩ := R1.upp l R'
        have rv' : RepD X.K w'.F w'.m v .non := rv
        cases rv'
        exact ⟨rfl, g' _ H' (.ref x) (l1.trans l2) R2 (.ptr (l2.m _ _ (bx_at R x)))⟩
      | _ => exact g'.elim
  | exc x S' => rw [e] at g'; exact g'.elim
  | stuck => rw [e] at g'; exact g'.elim
theorem pem_mk (M : Mk X.K (C.cl c) f) (G : FnOk X.prog X.w X.K X.mg X.base (L2.CX X.prog X.w) k f fd ps (liftF X.K C n F)) (hr : Room (k + 1) X.A) (hg : Gl X x) (hm : X.mg x = some (.ref (C.cl c))) (hb : Binds X.K fd ps ds) (hd : Vals dvs ds) (rd : ∀ F m, RepL X.K F m dvs df)
    (ha : PLm X C W (e :: es) (argsM ms)) (hn : ms.length + df.length + 1 = n := by rfl) (hdb : (x == ("__debug__" : Str)) = false := by decide) (he : starEach (e :: es) X.env = (false, eval e X.env) :: starEach es X.env := by rfl) (hpl : (backTo pos (starEach es X.env)).any (·.1) = false := by rfl) :
    PEm X C W (.Call (.Name x p) (e :: es) [] pos) (mkM c F ms df) := by
  refine (pe_make M G hr hg hm hb hd passL ha hdb he hpl).wk fun σ H Q h => ?_
  refine (lift_args h).mono fun vs H1 ⟨w1, fr1, S1, as, R1, r, hl, g⟩ => ?_
  refine mk_of R1 (repL_snoc r rd) ?_ g
  rw [List.length_append, r.length, hl, (rd (fun _ => none) []).length]; exact hn
theorem pem_mk0 (M : Mk X.K (C.cl c) f) (G : FnOk X.prog X.w X.K X.mg X.base (L2.CX X.prog X.w) k f fd ps (liftF X.K C n F)) (hr : Room (k + 1) X.A) (hg : Gl X x) (hm : X.mg x = some (.ref (C.cl c))) (hb : Binds X.K fd ps ds) (hd : Vals dvs ds) (rd : ∀ F m, RepL X.K F m dvs df)
    (hn : df.length + 1 = n := by rfl) (hdb : (x == ("__debug__" : Str)) = false := by decide) : PEm X C W (.Call (.Name x p) [] [] pos) (mkM c F [] df) := by
  refine (pe_make0 M G hr hg hm hb hd passL hdb).wk fun σ H Q h => ?_
  obtain ⟨w, fr, S, R, g⟩ := h
  refine mk_of R (rd _ _) ?_ g
  show dvs.length + 1 = n
  rw [(rd (fun _ => none) []).length]; exact hn

/-! ### fields -/
def getF (c : Nat) (f : Str) (o : D) : Mo D := fun fr S => match o with
  | .ptr r => match S[r]? with
    | some (.ins c' fs) => if c' = c then (match fs.lookup f with
      | some (.val d) => .ok d fr S
      | _ => .stuck) else .stuck
    | _ => .stuck
  | _ => .stuck
def fldM (c : Nat) (f : Str) (m : Mo D) : Mo D := m >>= fun o => getF c f o
theorem pem_fld (hc : Cls X.K (C.cl c)) (hn : NoAttr X.K (C.cl c) m) (ho : PEm X C W o mo) (hb : attributeBase o m X.env (eval o X.env) = eval o X.env := by rfl) : PEm X C W (.Attribute o m pos) (fldM c m mo) := by
  refine (pe_fld ho hb).wk fun σ H Q h => ?_
  refine (lift.bind (Rp := pD X.K) h).mono fun v H1 ⟨w1, fr1, S1, d, R1, p1, g⟩ => ?_
  cases p1 with
  | @ptr a r hm =>
    unfold getF at g
    dsimp only at g
    cases e : S1[r]? with
    | none => rw [e] at g; exact g.elim
    | some ob =>
      rw [e] at g
      cases ob with
      | lst ds => exact g.elim
      | ins c' fs =>
        dsimp only at g
        by_cases z : c' = c
        · subst z
          rw [if_pos rfl] at g
          obtain ⟨_, ro⟩ := R1.ob hm e
          cases ro with
          | ins h1 h2 =>
            cases e2 : fs.lookup m with
            | none => rw [e2] at g; exact g.elim
            | some s =>
              rw [e2] at g
              obtain ⟨u, hu, rs⟩ := h2.some e2
              cases rs with
              | val rd => exact ⟨a, _, _, _, u, rfl, h1, hc, hn, hu, g w1 H1 u (.refl _) R1 rd⟩
              | un => exact g.elim
              | own _ _ _ => exact g.elim
              | ownd _ _ _ => exact g.elim
        · rw [if_neg z] at g; exact g.elim
  | _ => exact g.elim

/-! ### x[i] -/
theorem ixN_cong {n n' : Nat} {i : Int} (h : n = n') : ixN n i = ixN n' i := by rw [h]
theorem RepL.atI {K : PySem.W.Frag} {F : Hp} {m : List Addr} {vs : List V} {ds : List D} {i : Int} {d : D} (r : RepL K F m vs ds) (h : atI ds i = some d) : ∃ v, atI vs i = some v ∧ RepD K F m v d := by
  unfold L2.atI at h ⊢
  rw [r.length]
  cases e : ixN ds.length i with
  | none => rw [e] at h; cases h
  | some j =>
    rw [e] at h
    exact r.get h
def ixS (a b : D) (S : List Ob) : Option D := match a, b with
  | .tup ds, .int i => atI ds i
  | .lst ds, .int i => atI ds i
  | .str z, .int i => if z.length ≤ sizeLine then (atI z.cps.toList i).map fun c => .str ⟨#[c]⟩ else none
  | .ptr r, .int i => match S[r]? with
    | some (.lst ds) => atI ds i
    | _ => none
  | _, _ => none
def ofS {α : Type} (g : List Ob → Option α) : Mo α := fun fr S => match g S with
  | some d => .ok d fr S
  | none => .stuck
def ixM (m1 m2 : Mo D) : Mo D := m1 >>= fun x => m2 >>= fun y => ofS (ixS x y)
theorem pem_ix {a b : Expr} (ha : PEm X C W a m1) (hb : PEm X C W b m2) (hs : PlainIx b := by exact fun _ _ => rfl) : PEm X C W (.Subscript a b pos) (ixM m1 m2) := by
  refine (pe_ix ix_seq ha hb hs).wk fun σ H Q h => ?_
  refine (lift_two h).mono fun x H1 hz1 => hz1.mono fun y H2 ⟨w, fr, S, a, b, R, ra, rb, g⟩ => ?_
  unfold ofS at g
  cases e : ixS a b S with
  | none => rw [e] at g; exact g.elim
  | some d =>
    rw [e] at g
    have fin : ∀ v, RepD X.K w.F w.m v d → Q v H2 := fun v rd => g w H2 v (.refl _) R rd
    cases rb with
    | int i =>
      cases ra with
      | @tup p vs ds h1 l =>
        obtain ⟨v, hv, rd⟩ := l.atI (show atI _ i = some d from e)
        exact .inr (.inl ⟨_, _, i, v, rfl, rfl, R.subF.sqT h1, hv, fin v rd⟩)
      | @lst p vs ds h1 l =>
        obtain ⟨v, hv, rd⟩ := l.atI (show atI _ i = some d from e)
        exact .inl ⟨_, _, i, v, rfl, rfl, SqL.of (R.subF _ _ h1), hv, fin v rd⟩
      | str z =>
        have e' : (if z.length ≤ sizeLine then (atI z.cps.toList i).map fun c => D.str ⟨#[c]⟩ else none) = some d := e
        by_cases hz : z.length ≤ sizeLine
        · rw [if_pos hz, Option.map_eq_some_iff] at e'
          obtain ⟨c, h1, h2⟩ := e'
          subst h2
          exact .inr (.inr ⟨z, i, c, rfl, rfl, hz, h1, fin _ (.str _)⟩)
        · rw [if_neg hz] at e'; cases e'
      | @ptr p r hm =>
        have e' : (match S[r]? with
          | some (.lst ds) => atI ds i
          | _ => none) = some d := e
        cases hS : S[r]? with
        | none => rw [hS] at e'; cases e'
        | some ob =>
          rw [hS] at e'
          cases ob with
          | ins c fs => cases e'
          | lst ds =>
            obtain ⟨_, ro⟩ := R.ob hm hS
            cases ro with
            | lst h1 l =>
              obtain ⟨v, hv, rd⟩ := l.atI (show atI _ i = some d from e')
              exact .inl ⟨_, _, i, v, rfl, rfl, SqL.of h1, hv, fin v rd⟩
      | _ => cases e
    | _ => cases a <;> cases e

/-! ### own slots read without being frozen -/
def ownAt (i : Nat) (fr : List Sl) : Option (List D) := match fr[i]? with
  | some (.own ds) => some ds
  | _ => none
def rdOwn (i : Nat) : Mo (List D) := fun fr S => match ownAt i fr with
  | some ds => .ok ds fr S
  | none => .stuck
theorem ownAt_some {K : PySem.W.Frag} {w : Wd} {fr : List Sl} {S : List Ob} {σ : St} {H : Hp} {i : Nat} {ds : List D} (R : Rel K C w fr S σ H) (h : ownAt i fr = some ds) : fr[i]? = some (.own ds) ∧ ∃ a vs, σ[i]? = some (some (.ref a)) ∧ w.q a = some (.slot i) ∧ H a = some (.lst vs) ∧ RepL K w.F w.m vs ds := by
  unfold ownAt at h
  cases e : fr[i]? with
  | none => rw [e] at h; cases h
  | some x =>
    rw [e] at h
    cases x with
    | own es =>
      have h' := Option.some.inj h
      subst h'
      obtain ⟨v, hv, rs⟩ := sig_at R e
      cases rs with
      | own hq hH r => exact ⟨rfl, _, _, hv, hq, hH, r⟩
    | _ => cases h
theorem Good.own {K : PySem.W.Frag} {α β : Type} {Rp : Wd → Hp → β → α → Prop} {w : Wd} {fr : List Sl} {S : List Ob} {σ : St} {Q : β → Hp → Prop} {i : Nat} {k : List D → Mo α} (g : Good K C w W Rp σ Q (Rs.bind (rdOwn i fr S) k)) : ∃ ds, ownAt i fr = some ds ∧ Good K C w W Rp σ Q (k ds fr S) := by
  unfold rdOwn at g
  cases e : ownAt i fr with
  | none => rw [e] at g; exact g.elim
  | some ds => rw [e] at g; exact ⟨ds, rfl, g⟩
/-- x[i], x a list of one's own in slot j: its items as they stand when the index is known -/
def ixOwnM (j : Nat) (m : Mo D) : Mo D := rdOwn j >>= fun _ => m >>= fun y => rdOwn j >>= fun ds => ofS (ixS (.lst ds) y)
theorem pem_ixOwn (j : Nat) {b : Expr} {x : Str} (hb : PEm X C W b m2) (hN : X.N[j]? = some x := by rfl) (hv : Vis X.env.scope x := by first | exact Or.inl rfl | exact Or.inr (Or.inl rfl) | exact Or.inr (Or.inr rfl)) (hs : PlainIx b := by exact fun _ _ => rfl) (hd : (x == ("__debug__" : Str)) = false := by decide)
    (hcd : (x == ("__classdict__" : Str)) = false := by decide) : PEm X C W (.Subscript (.Name x p) b pos) (ixOwnM j m2) := by
  refine (pe_ix ix_list (pe_var hN hv hd hcd) hb hs).wk fun σ H Q h => ?_
  obtain ⟨w, fr, S, R, g⟩ := h
  obtain ⟨ds0, h0, g0⟩ := Good.own (k := fun _ => m2 >>= fun y => rdOwn j >>= fun ds => ofS (ixS (.lst ds) y)) g
  obtain ⟨_, a, _, hσ, _⟩ := ownAt_some R h0
  refine ⟨_, hσ, w, fr, S, R, ?_⟩
  have g1 : Good X.K C w W (pD X.K) σ Q (Rs.bind (m2 fr S) fun y => rdOwn j >>= fun ds => ofS (ixS (.lst ds) y)) := g0
  refine (Good.bind (Rp := pD X.K) g1).mono fun y H2 ⟨w2, fr2, S2, d, l, R2, rb, g2⟩ => ?_
  obtain ⟨ds, h2, g3⟩ := Good.own (k := fun ds => ofS (ixS (.lst ds) d)) g2
  obtain ⟨_, a', vs, hσ', _, hH, r⟩ := ownAt_some R2 h2
  rw [hσ] at hσ'
  cases hσ'
  unfold ofS at g3
  cases e : ixS (.lst ds) d S2 with
  | none => rw [e] at g3; exact g3.elim
  | some z =>
    rw [e] at g3
    cases rb with
    | int i =>
      obtain ⟨v, hv, rd⟩ := r.atI (show atI ds i = some z from e)
      exact ⟨a, vs, i, v, rfl, rfl, SqL.of hH, hv, g3 w2 H2 v (.refl _) R2 rd⟩
    | _ => cases e

/-! ### slices -/
def cutD {α : Type} (xs : List α) (lo hi : Option Int) : List α := (xs.drop (HT.sIx xs.length 0 lo)).take (HT.sIx xs.length xs.length hi - HT.sIx xs.length 0 lo)
theorem RepL.cut {K : PySem.W.Frag} {F : Hp} {m : List Addr} {vs : List V} {ds : List D} (r : RepL K F m vs ds) (lo hi : Option Int) : RepL K F m (cutV vs lo hi) (cutD ds lo hi) := by
  unfold cutV cutD
  rw [r.length]
  exact (r.drop _).take _
def pO : Wd → Hp → Option Int → Option Int → Prop := fun _ _ v d => v = d
abbrev POm (X : Cx) (C : Cl) (W : WX) (e : Option Expr) (m : Mo (Option Int)) : Prop := PO X e (lift X.K C W pO m)
theorem _root_.L2.PO.wk {e : Option Expr} {t t' : TO} (h : PO X e t) (w : ∀ σ H Q, t' σ H Q → t σ H Q) : PO X e t' := ⟨fun pins s σ H Q I q => h.run pins s σ H Q I (w σ H Q q)⟩
theorem pom_none : POm X C W none (pure none) := po_none.wk fun σ H Q h => lift_pure h fun _ => rfl
def partM (m : Mo D) : Mo (Option Int) := m >>= fun d => match d with
  | .int i => pure (some i)
  | _ => Mo.stuck
theorem pom_some (h : PEm X C W e mo) : POm X C W (some e) (partM mo) := by
  refine (po_some h).wk fun σ H Q q => ?_
  refine (lift.bind (Rp := pD X.K) q).mono fun v H1 ⟨w1, fr1, S1, d, R1, p1, g⟩ => ?_
  cases p1 with
  | int i => exact ⟨i, rfl, g w1 H1 (some i) (.refl _) R1 rfl⟩
  | _ => exact g.elim
def slD (a : D) (lo hi : Option Int) : Option D := match a with
  | .str z => if z.length ≤ sizeLine then some (.str (cutS z lo hi)) else none
  | .tup ds => some (.tup (cutD ds lo hi))
  | _ => none
def slL (a : D) (lo hi : Option Int) (S : List Ob) : Option (List D) := match a with
  | .lst ds => some (cutD ds lo hi)
  | .ptr r => match S[r]? with
    | some (.lst ds) => some (cutD ds lo hi)
    | _ => none
  | .scr ns => some (cutD (ns.map .int) lo hi)
  | _ => none
theorem lift_three {K : PySem.W.Frag} {α' β' : Type} {Rp' : Wd → Hp → β' → α' → Prop} {σ : St} {H : Hp} {Q : β' → Hp → Prop} {ml mh : Mo (Option Int)} {k : D → Option Int → Option Int → Mo α'} (h : lift K C W Rp' (m1 >>= fun x => ml >>= fun lo => mh >>= fun hi => k x lo hi) σ H Q) :
    lift K C W (pD K) m1 σ H fun x H1 => lift K C W pO ml σ H1 fun lo H2 => lift K C W pO mh σ H2 fun hi H3 => ∃ w fr S a, Rel K C w fr S σ H3 ∧ RepD K w.F w.m x a ∧ Good K C w W Rp' σ Q (k a lo hi fr S) := by
  refine (lift.bind (Rp := pD K) h).mono fun x H1 ⟨w1, fr1, S1, a, R1, p1, g1⟩ => ⟨w1, fr1, S1, R1, ?_⟩
  have g1' : Good K C w1 W Rp' σ Q (Rs.bind (ml fr1 S1) (fun lo => mh >>= fun hi => k a lo hi)) := g1
  refine (Good.bind (Rp := pO) g1').mono fun lo H2 ⟨w2, fr2, S2, lo', l, R2, p2, g2⟩ => ⟨w2, fr2, S2, R2, ?_⟩
  have e2 : lo = lo' := p2
  subst e2
  have g2' : Good K C w2 W Rp' σ Q (Rs.bind (mh fr2 S2) (fun hi => k a lo hi)) := g2
  refine (Good.bind (Rp := pO) g2').mono fun hi H3 ⟨w3, fr3, S3, hi', l3, R3, p3, g3⟩ => ?_
  have e3 : hi = hi' := p3
  subst e3
  exact ⟨w3, fr3, S3, a, R3, RepD.le (l.trans l3) p1, g3⟩
abbrev rSlD (K : PySem.W.Frag) : V → Option Int → Option Int → Hp → VK → Prop := fun x lo hi H Q => rSlN K x lo hi H Q ∨ rSlS x lo hi H Q
def slM (m : Mo D) (ml mh : Mo (Option Int)) : Mo D := m >>= fun x => ml >>= fun lo => mh >>= fun hi => ofO (slD x lo hi)
def slMU (m : Mo D) (ml mh : Mo (Option Int)) : Mo (List D) := m >>= fun x => ml >>= fun lo => mh >>= fun hi => ofS (slL x lo hi)
variable {lo hi : Option Expr} {ml mh : Mo (Option Int)} {p2 : Pos}
theorem pem_sl (ha : PEm X C W e mo) (hl : POm X C W lo ml) (hh : POm X C W hi mh) : PEm X C W (.Subscript e (.Slice lo hi none p2) pos) (slM mo ml mh) := by
  refine (pe_slice (sl_tupN.or sl_str) ha hl hh).wk fun σ H Q h => ?_
  refine (lift_three h).mono fun x H1 hz1 => hz1.mono fun lo H2 hz2 => hz2.mono fun hi H3 ⟨w, fr, S, a, R, ra, g⟩ => ?_
  cases e : slD a lo hi with
  | none => rw [e] at g; exact g.elim
  | some d =>
    rw [e] at g
    cases ra with
    | str z =>
      have e' : (if z.length ≤ sizeLine then some (D.str (cutS z lo hi)) else none) = some d := e
      by_cases hz : z.length ≤ sizeLine
      · rw [if_pos hz] at e'
        cases e'
        exact .inr ⟨z, rfl, hz, g w H3 _ (.refl _) R (.str _)⟩
      · rw [if_neg hz] at e'; cases e'
    | @tup p vs ds h1 l =>
      have e' : some (D.tup (cutD ds lo hi)) = some d := e
      cases e'
      refine .inl ⟨p, vs, rfl, R.subF.sqT h1, fun z => ?_, fun _ t o hd ht => ?_⟩
      · refine g w H3 _ (.refl _) R ?_
        have q : cutD ds lo hi = ds := by
          unfold cutD
          rw [← l.length, z.1, z.2, List.drop_zero, Nat.sub_zero, l.length, List.take_length]
        rw [q]
        exact .tup h1 l
      · obtain ⟨R', l'⟩ := R.lay ht (.frz o (.tup (cutV vs lo hi)))
        exact g _ _ _ l' R' (.tup (.of upd_same hd) ((l.cut lo hi).le l'))
    | _ => cases e
theorem RepL.ints {K : PySem.W.Frag} {F : Hp} {m : List Addr} : ∀ ns : List Int, RepL K F m (ns.map V.int) (ns.map D.int)
  | [] => .nil
  | n :: r => .cons (.int n) (RepL.ints r)
theorem pum_sl (ha : PEm X C W e mo) (hl : POm X C W lo ml) (hh : POm X C W hi mh) : PUm X C W (.Subscript e (.Slice lo hi none p2) pos) (slMU mo ml mh) := by
  refine (pe_slice sl_list ha hl hh).wk fun σ H Q h => ?_
  refine (lift_three h).mono fun x H1 hz1 => hz1.mono fun lo H2 hz2 => hz2.mono fun hi H3 ⟨w, fr, S, a, R, ra, g⟩ => ?_
  unfold ofS at g
  cases e : slL a lo hi S with
  | none => rw [e] at g; exact g.elim
  | some ds' =>
    rw [e] at g
    have fin : ∀ {p : Addr} {vs : List V} {ds : List D}, SqL X.K H3 p vs → RepL X.K w.F w.m vs ds → cutD ds lo hi = ds' → rSlL X.K (.ref p) lo hi H3 Q := fun {p vs ds} hq l eq =>
      ⟨p, vs, rfl, hq, fun t ht => by
        subst eq
        exact g w _ _ (.refl _) (R.same (sub_new ht _)) (RepU.new R ht (l.cut lo hi))⟩
    cases ra with
    | lst h1 l => exact fin (SqL.of (R.subF _ _ h1)) l (Option.some.inj e)
    | scr h1 => exact fin (R.subF.sqL h1) (RepL.ints _) (Option.some.inj e)
    | @ptr p r hm =>
      have e' : (match S[r]? with
        | some (.lst ds) => some (cutD ds lo hi)
        | _ => none) = some ds' := e
      cases hS : S[r]? with
      | none => rw [hS] at e'; cases e'
      | some ob =>
        rw [hS] at e'
        cases ob with
        | ins c fs => cases e'
        | lst ds =>
          obtain ⟨_, ro⟩ := R.ob hm hS
          cases ro with
          | lst h1 l => exact fin (SqL.of h1) l (Option.some.inj e')
    | _ => cases e

/-! ### lists put together -/
def catM (m1 m2 : Mo D) : Mo (List D) := m1 >>= fun x => m2 >>= fun y => match x, y with
  | .lst a, .lst b => if a.length + b.length ≤ sizeLine then pure (a ++ b) else Mo.stuck
  | _, _ => Mo.stuck
theorem pum_cat {a b : Expr} (ha : PEm X C W a m1) (hb : PEm X C W b m2) : PUm X C W (.BinOp a .Add b pos) (catM m1 m2) := by
  refine (pe_op op_cat ha hb).wk fun σ H Q h => ?_
  refine (lift_two h).mono fun x H1 hz1 => hz1.mono fun y H2 ⟨w, fr, S, a, b, R, ra, rb, g⟩ => ?_
  cases ra with
  | @lst p vs ds h1 l1 =>
    cases rb with
    | @lst p' vs' ds' h2 l2 =>
      dsimp only at g
      by_cases z : ds.length + ds'.length ≤ sizeLine
      · rw [if_pos z] at g
        exact ⟨p, p', vs, vs', rfl, rfl, R.subF _ _ h1, R.subF _ _ h2, by rw [l1.length, l2.length]; exact z, fun t ht => g w _ _ (.refl _) (R.same (sub_new ht _)) (RepU.new R ht (l1.append l2))⟩
      · rw [if_neg z] at g; exact g.elim
    | _ => exact g.elim
  | _ => exact g.elim
/-- own + value -/
def catOM (j : Nat) (m : Mo D) : Mo (List D) := rdOwn j >>= fun _ => m >>= fun y => rdOwn j >>= fun a => match y with
  | .lst b => if a.length + b.length ≤ sizeLine then pure (a ++ b) else Mo.stuck
  | _ => Mo.stuck
theorem pum_catO (j : Nat) {b : Expr} {x : Str} (hb : PEm X C W b m2) (hN : X.N[j]? = some x := by rfl) (hv : Vis X.env.scope x := by first | exact Or.inl rfl | exact Or.inr (Or.inl rfl) | exact Or.inr (Or.inr rfl)) (hd : (x == ("__debug__" : Str)) = false := by decide)
    (hcd : (x == ("__classdict__" : Str)) = false := by decide) : PUm X C W (.BinOp (.Name x p) .Add b pos) (catOM j m2) := by
  refine (pe_op op_cat (pe_var hN hv hd hcd) hb).wk fun σ H Q h => ?_
  obtain ⟨w, fr, S, R, g⟩ := h
  obtain ⟨ds0, h0, g0⟩ := Good.own (k := fun _ => m2 >>= fun y => rdOwn j >>= fun a => match y with
    | .lst b => if a.length + b.length ≤ sizeLine then pure (a ++ b) else Mo.stuck
    | _ => Mo.stuck) g
  obtain ⟨_, a, _, hσ, _⟩ := ownAt_some R h0
  refine ⟨_, hσ, w, fr, S, R, ?_⟩
  have g1 : Good X.K C w W (pU X.K) σ Q (Rs.bind (m2 fr S) fun y => rdOwn j >>= fun a => match y with
    | .lst b => if a.length + b.length ≤ sizeLine then pure (a ++ b) else Mo.stuck
    | _ => Mo.stuck) := g0
  refine (Good.bind (Rp := pD X.K) g1).mono fun y H2 ⟨w2, fr2, S2, d, l, R2, rb, g2⟩ => ?_
  obtain ⟨ds, h2, g3⟩ := Good.own (k := fun a => match d with
    | .lst b => if a.length + b.length ≤ sizeLine then pure (a ++ b) else Mo.stuck
    | _ => Mo.stuck) g2
  obtain ⟨_, a', vs, hσ', _, hH, r⟩ := ownAt_some R2 h2
  rw [hσ] at hσ'
  cases hσ'
  cases rb with
  | @lst p' vs' ds' hb1 l2 =>
    dsimp only at g3
    by_cases z : ds.length + ds'.length ≤ sizeLine
    · rw [if_pos z] at g3
      exact ⟨a, p', vs, vs', rfl, rfl, hH, R2.subF _ _ hb1, by rw [r.length, l2.length]; exact z, fun t ht => g3 w2 _ _ (.refl _) (R2.same (sub_new ht _)) (RepU.new R2 ht (r.append l2))⟩
    · rw [if_neg z] at g3; exact g3.elim
  | _ => exact g3.elim
/-- value + own -/
def catVM (m : Mo D) (j : Nat) : Mo (List D) := m >>= fun x => rdOwn j >>= fun b => match x with
  | .lst a => if a.length + b.length ≤ sizeLine then pure (a ++ b) else Mo.stuck
  | _ => Mo.stuck
theorem pum_catV (j : Nat) {a : Expr} {x : Str} (ha : PEm X C W a m1) (hN : X.N[j]? = some x := by rfl) (hv : Vis X.env.scope x := by first | exact Or.inl rfl | exact Or.inr (Or.inl rfl) | exact Or.inr (Or.inr rfl)) (hd : (x == ("__debug__" : Str)) = false := by decide)
    (hcd : (x == ("__classdict__" : Str)) = false := by decide) : PUm X C W (.BinOp a .Add (.Name x p) pos) (catVM m1 j) := by
  refine (pe_op op_cat ha (pe_var hN hv hd hcd)).wk fun σ H Q h => ?_
  refine (lift.bind (Rp := pD X.K) h).mono fun v H1 ⟨w1, fr1, S1, d, R1, ra, g⟩ => ?_
  obtain ⟨ds, h2, g3⟩ := Good.own (k := fun b => match d with
    | .lst a => if a.length + b.length ≤ sizeLine then pure (a ++ b) else Mo.stuck
    | _ => Mo.stuck) g
  obtain ⟨_, a', vs, hσ', _, hH, r⟩ := ownAt_some R1 h2
  refine ⟨_, hσ', ?_⟩
  cases ra with
  | @lst p' vs' ds' hb1 l2 =>
    dsimp only at g3
    by_cases z : ds'.length + ds.length ≤ sizeLine
    · rw [if_pos z] at g3
      exact ⟨p', a', vs', vs, rfl, rfl, R1.subF _ _ hb1, hH, by rw [r.length, l2.length]; exact z, fun t ht => g3 w1 _ _ (.refl _) (R1.same (sub_new ht _)) (RepU.new R1 ht (l2.append r))⟩
    · rw [if_neg z] at g3; exact g3.elim
  | _ => exact g3.elim
/-- [a, ..] * n -/
def repM (m1 m2 : Mo D) : Mo (List D) := m1 >>= fun x => m2 >>= fun y => match x, y with
  | .lst a, .int k => if -(2 ^ 63) ≤ k ∧ k < 2 ^ 63 ∧ a.length * k.toNat ≤ sizeLine then pure (List.replicate k.toNat a).flatten else Mo.stuck
  | _, _ => Mo.stuck
theorem pum_rep {a b : Expr} (ha : PEm X C W a m1) (hb : PEm X C W b m2) : PUm X C W (.BinOp a .Mult b pos) (repM m1 m2) := by
  refine (pe_op op_rep ha hb).wk fun σ H Q h => ?_
  refine (lift_two h).mono fun x H1 hz1 => hz1.mono fun y H2 ⟨w, fr, S, a, b, R, ra, rb, g⟩ => ?_
  cases ra with
  | @lst p vs ds h1 l1 =>
    cases rb with
    | int k =>
      dsimp only at g
      by_cases z : -(2 ^ 63) ≤ k ∧ k < 2 ^ 63 ∧ ds.length * k.toNat ≤ sizeLine
      · rw [if_pos z] at g
        exact ⟨p, k, vs, rfl, rfl, R.subF _ _ h1, z.1, z.2.1, by rw [l1.length]; exact z.2.2, fun t ht => g w _ _ (.refl _) (R.same (sub_new ht _)) (RepU.new R ht (l1.repF _))⟩
      · rw [if_neg z] at g; exact g.elim
    | _ => exact g.elim
  | _ => exact g.elim

/-! ### built-ins by values -/
def CallM (X : Cx) (r : List V → Hp → VK → Prop) (f : List D → List Ob → Option D) : Prop := ∀ (C : Cl) (w : Wd) (fr : List Sl) (S : List Ob) (σ : St) (H : Hp) (vs : List V) (ds : List D) (c : D) (Q : VK), Rel X.K C w fr S σ H → RepL X.K w.F w.m vs ds → f ds S = some c →
  (∀ w' H' v, Le w w' → Rel X.K C w' fr S σ H' → RepD X.K w'.F w'.m v c → Q v H') → r vs H Q
def CallMU (X : Cx) (r : List V → Hp → VK → Prop) (f : List D → List Ob → Option (List D)) : Prop := ∀ (C : Cl) (w : Wd) (fr : List Sl) (S : List Ob) (σ : St) (H : Hp) (vs : List V) (ds : List D) (c : List D) (Q : VK), Rel X.K C w fr S σ H → RepL X.K w.F w.m vs ds → f ds S = some c →
  (∀ w' H' v, Le w w' → Rel X.K C w' fr S σ H' → RepU X.K w' H' v c → Q v H') → r vs H Q
def bltM (f : List D → List Ob → Option D) (ms : List (Mo D)) : Mo D := argsM ms >>= fun ds => ofS (f ds)
def bltMU (f : List D → List Ob → Option (List D)) (ms : List (Mo D)) : Mo (List D) := argsM ms >>= fun ds => ofS (f ds)
theorem blt_of {r : List V → Hp → VK → Prop} {g : List D → List Ob → Option D} (hm : CallM X r g) {σ : St} {H : Hp} {Q : VK} (h : lift X.K C W (pD X.K) (bltM g ms) σ H Q) : tCB r (lift X.K C W (pL X.K) (argsM ms)) σ H Q := by
  refine (lift_args h).mono fun vs H1 ⟨w1, fr1, S1, ds, R1, rl, hl, q⟩ => ?_
  unfold ofS at q
  cases e : g ds S1 with
  | none => rw [e] at q; exact q.elim
  | some c => rw [e] at q; exact hm C w1 fr1 S1 σ H1 vs ds c Q R1 rl e q
theorem blt_ofU {r : List V → Hp → VK → Prop} {g : List D → List Ob → Option (List D)} (hm : CallMU X r g) {σ : St} {H : Hp} {Q : VK} (h : lift X.K C W (pU X.K) (bltMU g ms) σ H Q) : tCB r (lift X.K C W (pL X.K) (argsM ms)) σ H Q := by
  refine (lift_args h).mono fun vs H1 ⟨w1, fr1, S1, ds, R1, rl, hl, q⟩ => ?_
  unfold ofS at q
  cases e : g ds S1 with
  | none => rw [e] at q; exact q.elim
  | some c => rw [e] at q; exact hm C w1 fr1 S1 σ H1 vs ds c Q R1 rl e q
theorem pem_blt {id : String} {r : List V → Hp → VK → Prop} {g : List D → List Ob → Option D} (hc : CallR X (.builtin id) r) (hM : CallM X r g) (hg : Gl X x) (hm : X.mg x = none) (hv : bootBuiltins x = some (.builtin id)) (ha : PLm X C W (e :: es) (argsM ms)) (hn : x ≠ "__name__" := by decide) (hdb : (x == ("__debug__" : Str)) = false := by decide)
    (he : starEach (e :: es) X.env = (false, eval e X.env) :: starEach es X.env := by rfl) (hpl : (backTo pos (starEach es X.env)).any (·.1) = false := by rfl) : PEm X C W (.Call (.Name x p) (e :: es) [] pos) (bltM g ms) :=
  (pe_callB hc hg hm hv ha hn hdb he hpl).wk fun σ H Q h => blt_of hM h
theorem pem_ty {T : String} {r : List V → Hp → VK → Prop} {g : List D → List Ob → Option D} (hc : CallR X (.type T) r) (hM : CallM X r g) (hg : Gl X x) (hm : X.mg x = none) (hv : bootBuiltins x = some (.type T)) (ha : PLm X C W (e :: es) (argsM ms)) (hn : x ≠ "__name__" := by decide) (hdb : (x == ("__debug__" : Str)) = false := by decide)
    (he : starEach (e :: es) X.env = (false, eval e X.env) :: starEach es X.env := by rfl) (hpl : (backTo pos (starEach es X.env)).any (·.1) = false := by rfl) : PEm X C W (.Call (.Name x p) (e :: es) [] pos) (bltM g ms) :=
  (pe_callTy hc hg hm hv ha hn hdb he hpl).wk fun σ H Q h => blt_of hM h
theorem pum_ty {T : String} {r : List V → Hp → VK → Prop} {g : List D → List Ob → Option (List D)} (hc : CallR X (.type T) r) (hM : CallMU X r g) (hg : Gl X x) (hm : X.mg x = none) (hv : bootBuiltins x = some (.type T)) (ha : PLm X C W (e :: es) (argsM ms)) (hn : x ≠ "__name__" := by decide) (hdb : (x == ("__debug__" : Str)) = false := by decide)
    (he : starEach (e :: es) X.env = (false, eval e X.env) :: starEach es X.env := by rfl) (hpl : (backTo pos (starEach es X.env)).any (·.1) = false := by rfl) : PUm X C W (.Call (.Name x p) (e :: es) [] pos) (bltMU g ms) :=
  (pe_callTy hc hg hm hv ha hn hdb he hpl).wk fun σ H Q h => blt_ofU hM h
end
end Z
set_option Elab.async false
set_option linter.all false
set_option maxRecDepth 100000
/-! Z5: what built-ins and methods do with lists; writing to slots. -/
namespace Z
open PySem L2

/-! ### built-ins: arguments that are read -/
/-- read as d: a value, or a list that stands there now -/
inductive RdD (K : PySem.W.Frag) (w : Wd) (H : Hp) : V → D → Prop
  | val {v : V} {d : D} : RepD K w.F w.m v d → RdD K w H v d
  | lst {a : Addr} {vs : List V} {ds : List D} : H a = some (.lst vs) → RepL K w.F w.m vs ds → RdD K w H (.ref a) (.lst ds)
section
variable {K : PySem.W.Frag} {C : Cl} {w : Wd} {fr : List Sl} {S : List Ob} {σ : St} {H : Hp}
theorem RdD.seq (R : Rel K C w fr S σ H) {v : V} {ds : List D} (r : RdD K w H v (.lst ds)) : ∃ a vs, v = .ref a ∧ H a = some (.lst vs) ∧ RepL K w.F w.m vs ds := by
  cases r with
  | val r => cases r with | lst h l => exact ⟨_, _, rfl, R.subF _ _ h, l⟩
  | lst h l => exact ⟨_, _, rfl, h, l⟩
end
/-- one argument, read -/
def Blt1 (X : Cx) (r : List V → Hp → VK → Prop) (f : D → Option D) : Prop := ∀ (C : Cl) (w : Wd) (fr : List Sl) (S : List Ob) (σ : St) (H : Hp) (v : V) (d c : D) (Q : VK), Rel X.K C w fr S σ H → RdD X.K w H v d → f d = some c →
  (∀ w' H' v, Le w w' → Rel X.K C w' fr S σ H' → RepD X.K w'.F w'.m v c → Q v H') → r [v] H Q
def Blt1U (X : Cx) (r : List V → Hp → VK → Prop) (f : D → Option (List D)) : Prop := ∀ (C : Cl) (w : Wd) (fr : List Sl) (S : List Ob) (σ : St) (H : Hp) (v : V) (d : D) (c : List D) (Q : VK), Rel X.K C w fr S σ H → RdD X.K w H v d → f d = some c →
  (∀ w' H' v, Le w w' → Rel X.K C w' fr S σ H' → RepU X.K w' H' v c → Q v H') → r [v] H Q
/-- a shared list is read as what it holds -/
def deref (d : D) (S : List Ob) : Option D := match d with
  | .ptr r => match S[r]? with
    | some (.lst ds) => some (.lst ds)
    | _ => none
  | d => some d
def blt1M (f : D → Option D) (m : Mo D) : Mo D := m >>= fun d => ofS fun S => (deref d S).bind f
def blt1MU (f : D → Option (List D)) (m : Mo D) : Mo (List D) := m >>= fun d => ofS fun S => (deref d S).bind f
def blt1O (f : D → Option D) (j : Nat) : Mo D := rdOwn j >>= fun ds => ofO (f (.lst ds))
def blt1OU (f : D → Option (List D)) (j : Nat) : Mo (List D) := rdOwn j >>= fun ds => ofO (f (.lst ds))
section
variable {X : Cx} {C : Cl} {W : WX} {e : Expr} {m : Mo D} {x y : Str} {p pos pos2 : Pos} {f : D → Option D} {fU : D → Option (List D)} {r : List V → Hp → VK → Prop} {id T : String}
theorem deref_rd {K : PySem.W.Frag} {w : Wd} {fr : List Sl} {S : List Ob} {σ : St} {H : Hp} {v : V} {d e : D} (R : Rel K C w fr S σ H) (rd : RepD K w.F w.m v d) (h : deref d S = some e) : RdD K w H v e := by
  cases rd with
  | @ptr a r hm =>
    unfold deref at h
    dsimp only at h
    cases hS : S[r]? with
    | none => rw [hS] at h; cases h
    | some ob =>
      rw [hS] at h
      cases ob with
      | ins c fs => cases h
      | lst ds =>
        cases h
        obtain ⟨_, ro⟩ := R.ob hm hS
        cases ro with
        | lst h1 l => exact .lst h1 l
  | non => cases h; exact .val .non
  | bl b => cases h; exact .val (.bl b)
  | int b => cases h; exact .val (.int b)
  | str b => cases h; exact .val (.str b)
  | tup a b => cases h; exact .val (.tup a b)
  | lst a b => cases h; exact .val (.lst a b)
  | dct a b => cases h; exact .val (.dct a b)
  | scr a => cases h; exact .val (.scr a)
theorem Good.ofS {K : PySem.W.Frag} {α β : Type} {Rp : Wd → Hp → β → α → Prop} {w : Wd} {fr : List Sl} {S : List Ob} {σ : St} {Q : β → Hp → Prop} {k : List Ob → Option α} (g : Good K C w W Rp σ Q (Z.ofS k fr S)) : ∃ c, k S = some c ∧ Good K C w W Rp σ Q (.ok c fr S) := by
  unfold Z.ofS at g
  cases e : k S with
  | none => rw [e] at g; exact g.elim
  | some ds => rw [e] at g; exact ⟨ds, rfl, g⟩
theorem tCons_one {t : TE} {σ : St} {H : Hp} {Q : List V → Hp → Prop} (h : t σ H fun v H1 => Q [v] H1) : tCons t tNil σ H Q := h
theorem t1_of (hb : Blt1 X r f) {σ : St} {H : Hp} {Q : VK} (h : lift X.K C W (pD X.K) (blt1M f m) σ H Q) : tCB r (tCons (lift X.K C W (pD X.K) m) tNil) σ H Q := by
  show lift X.K C W (pD X.K) m σ H fun v H1 => r [v] H1 Q
  refine (lift.bind (Rp := pD X.K) h).mono fun v H1 ⟨w1, fr1, S1, d, R1, p1, g⟩ => ?_
  obtain ⟨c, ec, g1⟩ := Good.ofS (k := fun S => (deref d S).bind f) g
  rw [Option.bind_eq_some_iff] at ec
  obtain ⟨d', e1, e2⟩ := ec
  exact hb C w1 fr1 S1 σ H1 v d' c Q R1 (deref_rd R1 p1 e1) e2 g1
theorem t1_ofU (hb : Blt1U X r fU) {σ : St} {H : Hp} {Q : VK} (h : lift X.K C W (pU X.K) (blt1MU fU m) σ H Q) : tCB r (tCons (lift X.K C W (pD X.K) m) tNil) σ H Q := by
  show lift X.K C W (pD X.K) m σ H fun v H1 => r [v] H1 Q
  refine (lift.bind (Rp := pD X.K) h).mono fun v H1 ⟨w1, fr1, S1, d, R1, p1, g⟩ => ?_
  obtain ⟨c, ec, g1⟩ := Good.ofS (k := fun S => (deref d S).bind fU) g
  rw [Option.bind_eq_some_iff] at ec
  obtain ⟨d', e1, e2⟩ := ec
  exact hb C w1 fr1 S1 σ H1 v d' c Q R1 (deref_rd R1 p1 e1) e2 g1
theorem t1_ofO {j : Nat} (hb : Blt1 X r f) {σ : St} {H : Hp} {Q : VK} (h : lift X.K C W (pD X.K) (blt1O f j) σ H Q) : tCB r (tCons (tVar j) tNil) σ H Q := by
  obtain ⟨w, fr, S, R, g⟩ := h
  obtain ⟨ds, h1, g1⟩ := Good.own (k := fun ds => ofO (f (.lst ds))) g
  obtain ⟨_, a, vs, hσ, _, hH, rl⟩ := ownAt_some R h1
  refine ⟨_, hσ, ?_⟩
  cases e2 : f (.lst ds) with
  | none => rw [e2] at g1; exact g1.elim
  | some c => rw [e2] at g1; exact hb C w fr S σ H _ (.lst ds) c Q R (.lst hH rl) e2 g1
theorem t1_ofOU {j : Nat} (hb : Blt1U X r fU) {σ : St} {H : Hp} {Q : VK} (h : lift X.K C W (pU X.K) (blt1OU fU j) σ H Q) : tCB r (tCons (tVar j) tNil) σ H Q := by
  obtain ⟨w, fr, S, R, g⟩ := h
  obtain ⟨ds, h1, g1⟩ := Good.own (k := fun ds => ofO (fU (.lst ds))) g
  obtain ⟨_, a, vs, hσ, _, hH, rl⟩ := ownAt_some R h1
  refine ⟨_, hσ, ?_⟩
  cases e2 : fU (.lst ds) with
  | none => rw [e2] at g1; exact g1.elim
  | some c => rw [e2] at g1; exact hb C w fr S σ H _ (.lst ds) c Q R (.lst hH rl) e2 g1
/-- f(e), f a built-in function or a type -/
inductive BK (X : Cx) (x : Str) (r : List V → Hp → VK → Prop) : Prop
  | fn {id : String} (hc : CallR X (.builtin id) r) (hv : bootBuiltins x = some (.builtin id))
  | ty {T : String} (hc : CallR X (.type T) r) (hv : bootBuiltins x = some (.type T))
theorem pe_bk {t : TA} {es : List Expr} (b : BK X x r) (hg : Gl X x) (hm : X.mg x = none) (ha : PA X (e :: es) t) (hn : x ≠ "__name__" := by decide) (hdb : (x == ("__debug__" : Str)) = false := by decide)
    (he : starEach (e :: es) X.env = (false, eval e X.env) :: starEach es X.env := by rfl) (hpl : (backTo pos (starEach es X.env)).any (·.1) = false := by rfl) : PE X (.Call (.Name x p) (e :: es) [] pos) (tCB r t) := by
  cases b with
  | fn hc hv => exact pe_callB hc hg hm hv ha hn hdb he hpl
  | ty hc hv => exact pe_callTy hc hg hm hv ha hn hdb he hpl
theorem pem_b1 (b : BK X x r) (hb : Blt1 X r f) (hg : Gl X x) (hm : X.mg x = none) (ha : PEm X C W e m) (hn : x ≠ "__name__" := by decide) (hdb : (x == ("__debug__" : Str)) = false := by decide)
    (he : starEach (e :: []) X.env = (false, eval e X.env) :: starEach [] X.env := by rfl) (hpl : (backTo pos (starEach [] X.env)).any (·.1) = false := by rfl) : PEm X C W (.Call (.Name x p) [e] [] pos) (blt1M f m) :=
  (pe_bk b hg hm (pa_cons ha pa_nil he) hn hdb he hpl).wk fun σ H Q h => t1_of hb h
theorem pum_b1 (b : BK X x r) (hb : Blt1U X r fU) (hg : Gl X x) (hm : X.mg x = none) (ha : PEm X C W e m) (hn : x ≠ "__name__" := by decide) (hdb : (x == ("__debug__" : Str)) = false := by decide)
    (he : starEach (e :: []) X.env = (false, eval e X.env) :: starEach [] X.env := by rfl) (hpl : (backTo pos (starEach [] X.env)).any (·.1) = false := by rfl) : PUm X C W (.Call (.Name x p) [e] [] pos) (blt1MU fU m) :=
  (pe_bk b hg hm (pa_cons ha pa_nil he) hn hdb he hpl).wk fun σ H Q h => t1_ofU hb h
theorem pem_b1O (j : Nat) (b : BK X x r) (hb : Blt1 X r f) (hg : Gl X x) (hm : X.mg x = none) (hN : X.N[j]? = some y := by rfl) (hv : Vis X.env.scope y := by first | exact Or.inl rfl | exact Or.inr (Or.inl rfl) | exact Or.inr (Or.inr rfl)) (hd : (y == ("__debug__" : Str)) = false := by decide)
    (hcd : (y == ("__classdict__" : Str)) = false := by decide) (hn : x ≠ "__name__" := by decide) (hdb : (x == ("__debug__" : Str)) = false := by decide)
    (he : starEach (.Name y pos2 :: []) X.env = (false, eval (.Name y pos2) X.env) :: starEach [] X.env := by rfl) (hpl : (backTo pos (starEach [] X.env)).any (·.1) = false := by rfl) : PEm X C W (.Call (.Name x p) [.Name y pos2] [] pos) (blt1O f j) :=
  (pe_bk b hg hm (pa_cons (pe_var hN hv hd hcd) pa_nil he) hn hdb he hpl).wk fun σ H Q h => t1_ofO hb h
theorem pum_b1O (j : Nat) (b : BK X x r) (hb : Blt1U X r fU) (hg : Gl X x) (hm : X.mg x = none) (hN : X.N[j]? = some y := by rfl) (hv : Vis X.env.scope y := by first | exact Or.inl rfl | exact Or.inr (Or.inl rfl) | exact Or.inr (Or.inr rfl)) (hd : (y == ("__debug__" : Str)) = false := by decide)
    (hcd : (y == ("__classdict__" : Str)) = false := by decide) (hn : x ≠ "__name__" := by decide) (hdb : (x == ("__debug__" : Str)) = false := by decide)
    (he : starEach (.Name y pos2 :: []) X.env = (false, eval (.Name y pos2) X.env) :: starEach [] X.env := by rfl) (hpl : (backTo pos (starEach [] X.env)).any (·.1) = false := by rfl) : PUm X C W (.Call (.Name x p) [.Name y pos2] [] pos) (blt1OU fU j) :=
  (pe_bk b hg hm (pa_cons (pe_var hN hv hd hcd) pa_nil he) hn hdb he hpl).wk fun σ H Q h => t1_ofOU hb h

/-! #### len, int, str, tuple, list, min, all, sum -/
abbrev rLen (K : PySem.W.Frag) : List V → Hp → VK → Prop := fun xs H Q => (∃ p ys, xs = [.ref p] ∧ (SqL K H p ys ∨ SqT K H p ys) ∧ Q (.int ys.length) H) ∨ ((∃ z, xs = [.str z] ∧ z.length ≤ sizeLine ∧ Q (.int z.length) H) ∨ ∃ a kvs, xs = [V.ref a] ∧ H a = some (.dK kvs) ∧ Q (.int kvs.length) H)
theorem bk_len : BK X "len" (rLen X.K) := .fn (call_len_seq.or (call_len_str.or call_lenD)) PySem.boot_len
def lenD : D → Option D
  | .tup ds => some (.int ds.length)
  | .lst ds => some (.int ds.length)
  | .dct ks => some (.int ks.length)
  | .str z => if z.length ≤ sizeLine then some (.int z.length) else none
  | .scr ns => some (.int ns.length)
  | _ => none
theorem RepK.length {K : PySem.W.Frag} {F : Hp} {m : List Addr} : ∀ {vs : List (Key × V)} {ks : List (Key × D)}, RepK K F m vs ks → vs.length = ks.length
  | _, _, .nil => rfl
  | _, _, .cons _ l => congrArg (· + 1) (RepK.length l)
theorem b1_len : Blt1 X (rLen X.K) lenD := by
  intro C w fr S σ H v d c Q R rd e q
  have fin : ∀ n : Int, D.int n = c → Q (.int n) H := fun n z => by subst z; exact q w H _ (.refl _) R (.int n)
  cases rd with
  | lst h l => exact .inl ⟨_, _, rfl, .inl (SqL.of h), fin _ (by rw [l.length]; exact Option.some.inj e)⟩
  | val r =>
    cases r with
    | tup h l => exact .inl ⟨_, _, rfl, .inr (R.subF.sqT h), fin _ (by rw [l.length]; exact Option.some.inj e)⟩
    | lst h l => exact .inl ⟨_, _, rfl, .inl (SqL.of (R.subF _ _ h)), fin _ (by rw [l.length]; exact Option.some.inj e)⟩
    | scr h => exact .inl ⟨_, _, rfl, .inl (R.subF.sqL h), fin _ (by rw [List.length_map]; exact Option.some.inj e)⟩
    | dct h l => exact .inr (.inr ⟨_, _, rfl, R.subF _ _ h, fin _ (by rw [l.length]; exact Option.some.inj e)⟩)
    | str z =>
      have e' : (if z.length ≤ sizeLine then some (D.int z.length) else none) = some c := e
      by_cases hz : z.length ≤ sizeLine
      · rw [if_pos hz] at e'
        exact .inr (.inl ⟨z, rfl, hz, fin _ (Option.some.inj e')⟩)
      · rw [if_neg hz] at e'; cases e'
    | _ => cases e
abbrev rInt : List V → Hp → VK → Prop := fun xs H Q => (∃ i, xs = [.int i] ∧ Q (.int i) H) ∨ ∃ k, xs = [.bl k] ∧ Q (.int (if k then 1 else 0)) H
theorem bk_int : BK X "int" rInt := .ty call_int1 PyProof.Rows.boot_int
def intD : D → Option D
  | .int i => some (.int i)
  | .bl k => some (.int (if k then 1 else 0))
  | _ => none
theorem b1_int : Blt1 X rInt intD := by
  intro C w fr S σ H v d c Q R rd e q
  cases rd with
  | lst h l => cases e
  | val r =>
    cases r with
    | int i => cases e; exact .inl ⟨i, rfl, q w H _ (.refl _) R (.int i)⟩
    | bl k => cases e; exact .inr ⟨k, rfl, q w H _ (.refl _) R (.int _)⟩
    | _ => cases e
abbrev rStrI : List V → Hp → VK → Prop := fun xs H Q => ∃ i, xs = [.int i] ∧ i.natAbs.log2 < 1920 ∧ Q (.str (toString i)) H
theorem bk_str : BK X "str" rStrI := .ty call_str_int PyProof.Rows.boot_str
def strD : D → Option D
  | .int i => if i.natAbs.log2 < 1920 then some (.str (toString i)) else none
  | _ => none
theorem b1_str : Blt1 X rStrI strD := by
  intro C w fr S σ H v d c Q R rd e q
  cases rd with
  | lst h l => cases e
  | val r =>
    cases r with
    | int i =>
      have e' : (if i.natAbs.log2 < 1920 then some (D.str (toString i)) else none) = some c := e
      by_cases z : i.natAbs.log2 < 1920
      · rw [if_pos z] at e'
        cases e'
        exact ⟨i, rfl, z, q w H _ (.refl _) R (.str _)⟩
      · rw [if_neg z] at e'; cases e'
    | _ => cases e
abbrev rTupO (K : PySem.W.Frag) : List V → Hp → VK → Prop := fun xs H Q => ∃ p ys, xs = [.ref p] ∧ ((SqL K H p ys ∧ Nw Q H ys) ∨ (SqT K H p ys ∧ Q (.ref p) H))
theorem bk_tup : BK X "tuple" (rTupO X.K) := .ty call_tupleN PyProof.Rows.boot_tuple
def tupD : D → Option D
  | .tup ds => some (.tup ds)
  | .lst ds => some (.tup ds)
  | _ => none
theorem b1_tup : Blt1 X (rTupO X.K) tupD := by
  intro C w fr S σ H v d c Q R rd e q
  have fin : ∀ {a : Addr} {vs : List V} {ds : List D}, H a = some (.lst vs) → RepL X.K w.F w.m vs ds → some (D.tup ds) = some c → rTupO X.K [.ref a] H Q := fun {a vs ds} h l e =>
    ⟨a, vs, rfl, .inl ⟨SqL.of h, fun t o hd ht => by
      cases e
      obtain ⟨R', l'⟩ := R.lay ht (.frz o (.tup vs))
      exact q _ _ _ l' R' (.tup (.of upd_same hd) (l.le l'))⟩⟩
  cases rd with
  | lst h l => exact fin h l e
  | val r =>
    cases r with
    | tup h l => cases e; exact ⟨_, _, rfl, .inr ⟨R.subF.sqT h, q w H _ (.refl _) R (.tup h l)⟩⟩
    | lst h l => exact fin (R.subF _ _ h) l e
    | _ => cases e
abbrev rLstO (K : PySem.W.Frag) : List V → Hp → VK → Prop := fun xs H Q => ∃ p ys, xs = [.ref p] ∧ (SqL K H p ys ∨ SqT K H p ys) ∧ ∀ l, H l = none → Q (.ref l) (upd H l (.lst ys))
theorem bk_lst : BK X "list" (rLstO X.K) := .ty call_list_of PyProof.Rows.boot_list
def lstD : D → Option (List D)
  | .tup ds => some ds
  | .lst ds => some ds
  | _ => none
theorem b1_lst : Blt1U X (rLstO X.K) lstD := by
  intro C w fr S σ H v d c Q R rd e q
  have fin : ∀ {a : Addr} {vs : List V} {ds : List D}, (SqL X.K H a vs ∨ SqT X.K H a vs) → RepL X.K w.F w.m vs ds → some ds = some c → rLstO X.K [.ref a] H Q := fun {a vs ds} h l e =>
    ⟨a, vs, rfl, h, fun t ht => by
      cases e
      exact q w _ _ (.refl _) (R.same (sub_new ht _)) (RepU.new R ht l)⟩
  cases rd with
  | lst h l => exact fin (.inl (SqL.of h)) l e
  | val r =>
    cases r with
    | tup h l => exact fin (.inr (R.subF.sqT h)) l e
    | lst h l => exact fin (.inl (SqL.of (R.subF _ _ h))) l e
    | _ => cases e
/-- a list of ints -/
def intsOf : List D → Option (List Int)
  | [] => some []
  | .int i :: r => (intsOf r).map (i :: ·)
  | _ => none
theorem RepL.intsOf {K : PySem.W.Frag} {F : Hp} {m : List Addr} : ∀ {vs : List V} {ds : List D} {ns : List Int}, RepL K F m vs ds → intsOf ds = some ns → vs = ns.map V.int
  | _, _, _, .nil, e => by cases e; rfl
  | _, _, _, .cons h l, e => by
    cases h with
    | int i =>
      have e' : (Z.intsOf _).map (i :: ·) = some _ := e
      rw [Option.map_eq_some_iff] at e'
      obtain ⟨ns, e1, e2⟩ := e'
      subst e2
      rw [RepL.intsOf l e1]
      rfl
    | _ => cases e
def leastI : List Int → Int
  | [] => 0
  | [a] => a
  | a :: r => min a (leastI r)
theorem leastI_spec : ∀ {ns : List Int}, 0 < ns.length → leastI ns ∈ ns ∧ ∀ y ∈ ns, leastI ns ≤ y
  | [a], _ => ⟨by simp [leastI], fun y hy => by simp at hy; subst hy; exact Int.le_refl _⟩
  | a :: b :: r, _ => by
    obtain ⟨h1, h2⟩ := leastI_spec (ns := b :: r) (by simp)
    refine ⟨?_, fun y hy => ?_⟩
    · show min a (leastI (b :: r)) ∈ _
      by_cases z : a ≤ leastI (b :: r)
      · rw [Int.min_eq_left z]; exact List.mem_cons_self
      · rw [Int.min_eq_right (by omega)]; exact List.mem_cons_of_mem _ h1
    · show min a (leastI (b :: r)) ≤ y
      rcases List.mem_cons.mp hy with rfl | hy
      · exact Int.min_le_left _ _
      · exact Int.le_trans (Int.min_le_right _ _) (h2 y hy)
theorem bk_min (hc : X.calm = true) : BK X "min" (rMin X.K) := .fn (cr_min hc) PyProof.Rows.boot_min
def minD : D → Option D
  | .lst ds => (intsOf ds).bind fun ns => if 0 < ns.length then some (.int (leastI ns)) else none
  | _ => none
theorem b1_min : Blt1 X (rMin X.K) minD := by
  intro C w fr S σ H v d c Q R rd e q
  have fin : ∀ {a : Addr} {vs : List V} {ds : List D}, H a = some (.lst vs) → RepL X.K w.F w.m vs ds → minD (.lst ds) = some c → rMin X.K [.ref a] H Q := fun {a vs ds} h l e => by
    have e' : ((intsOf ds).bind fun ns => if 0 < ns.length then some (D.int (leastI ns)) else none) = some c := e
    cases hi : intsOf ds with
    | none => rw [hi] at e'; cases e'
    | some ns =>
      rw [hi] at e'
      have e2 : (if 0 < ns.length then some (D.int (leastI ns)) else none) = some c := e'
      by_cases z : 0 < ns.length
      · rw [if_pos z] at e2
        cases e2
        have hv := l.intsOf hi
        subst hv
        refine ⟨a, ns, rfl, SqL.of h, z, fun m hm hle => ?_⟩
        obtain ⟨h1, h2⟩ := leastI_spec z
        have : m = leastI ns := by have := h2 m hm; have := hle _ h1; omega
        subst this
        exact q w H _ (.refl _) R (.int _)
      · rw [if_neg z] at e2; cases e2
  cases rd with
  | lst h l => exact fin h l e
  | val r =>
    cases r with
    | lst h l => exact fin (R.subF _ _ h) l e
    | _ => cases e
theorem bk_sum (hc : X.calm = true) : BK X "sum" (rSum X.K) := .fn (cr_sum hc) PyProof.Rows.boot_sum
def sumD : D → Option D
  | .lst ds => (intsOf ds).map fun ns => .int ns.sum
  | _ => none
theorem b1_sum : Blt1 X (rSum X.K) sumD := by
  intro C w fr S σ H v d c Q R rd e q
  have fin : ∀ {a : Addr} {vs : List V} {ds : List D}, H a = some (.lst vs) → RepL X.K w.F w.m vs ds → sumD (.lst ds) = some c → rSum X.K [.ref a] H Q := fun {a vs ds} h l e => by
    have e' : ((intsOf ds).map fun ns => D.int ns.sum) = some c := e
    rw [Option.map_eq_some_iff] at e'
    obtain ⟨ns, hi, e2⟩ := e'
    subst e2
    have hv := l.intsOf hi
    subst hv
    exact ⟨a, ns, rfl, SqL.of h, q w H _ (.refl _) R (.int _)⟩
  cases rd with
  | lst h l => exact fin h l e
  | val r =>
    cases r with
    | lst h l => exact fin (R.subF _ _ h) l e
    | _ => cases e
def blsOf : List D → Option (List Bool)
  | [] => some []
  | .bl i :: r => (blsOf r).map (i :: ·)
  | _ => none
theorem RepL.blsOf {K : PySem.W.Frag} {F : Hp} {m : List Addr} : ∀ {vs : List V} {ds : List D} {ns : List Bool}, RepL K F m vs ds → blsOf ds = some ns → vs = ns.map V.bl
  | _, _, _, .nil, e => by cases e; rfl
  | _, _, _, .cons h l, e => by
    cases h with
    | bl i =>
      have e' : (Z.blsOf _).map (i :: ·) = some _ := e
      rw [Option.map_eq_some_iff] at e'
      obtain ⟨ns, e1, e2⟩ := e'
      subst e2
      rw [RepL.blsOf l e1]
      rfl
    | _ => cases e
theorem bk_all (hc : X.calm = true) : BK X "all" (rAll X.K) := .fn (cr_all hc) PyProof.Rows.boot_all
def allD : D → Option D
  | .lst ds => (blsOf ds).map fun bs => .bl (bs.all fun b => b)
  | _ => none
theorem b1_all : Blt1 X (rAll X.K) allD := by
  intro C w fr S σ H v d c Q R rd e q
  have fin : ∀ {a : Addr} {vs : List V} {ds : List D}, H a = some (.lst vs) → RepL X.K w.F w.m vs ds → allD (.lst ds) = some c → rAll X.K [.ref a] H Q := fun {a vs ds} h l e => by
    have e' : ((blsOf ds).map fun bs => D.bl (bs.all fun b => b)) = some c := e
    rw [Option.map_eq_some_iff] at e'
    obtain ⟨ns, hi, e2⟩ := e'
    subst e2
    have hv := l.blsOf hi
    subst hv
    exact ⟨a, ns, rfl, SqL.of h, q w H _ (.refl _) R (.bl _)⟩
  cases rd with
  | lst h l => exact fin h l e
  | val r =>
    cases r with
    | lst h l => exact fin (R.subF _ _ h) l e
    | _ => cases e
/-- max(a, b) -/
def max2D (ds : List D) (_ : List Ob) : Option D := match ds with
  | [.int i, .int j] => some (.int (if j > i then j else i))
  | _ => none
theorem cm_max2 : CallM X (fun xs H Q => ∃ i j, xs = [.int i, .int j] ∧ Q (.int (if j > i then j else i)) H) max2D := by
  intro C w fr S σ H vs ds c Q R rl e q
  cases rl with
  | nil => cases e
  | cons h1 l1 =>
    cases l1 with
    | nil => cases h1 <;> cases e
    | cons h2 l2 =>
      cases l2 with
      | cons _ _ => cases h1 <;> cases h2 <;> cases e
      | nil =>
        cases h1 <;> cases h2 <;> try cases e
        exact ⟨_, _, rfl, q w H _ (.refl _) R (.int _)⟩
/-- isinstance(e, int) -/
def isIntD : D → Option D
  | .int _ => some (.bl true)
  | .bl _ => some (.bl true)
  | .non => some (.bl false)
  | .str _ => some (.bl false)
  | .lst _ => some (.bl false)
  | .tup _ => some (.bl false)
  | _ => none
theorem sqT_ty {K : PySem.W.Frag} {H : Hp} {a : Addr} {xs : List V} (h : SqT K H a xs) : TyX K H (.ref a) (.type "tuple") := by
  rcases h with (h | ⟨o, h⟩) | ⟨o, its, n, h1, h2, _⟩
  · exact .base (.tup h)
  · exact .fTuple h
  · exact .kTuple h1 h2
theorem pem_isInt {p3 : Pos} (hg : Gl X "isinstance") (hm : X.mg "isinstance" = none) (hg2 : Gl X "int") (hm2 : X.mg "int" = none) (ha : PEm X C W e m)
    (he : starEach (e :: [.Name "int" p3]) X.env = (false, eval e X.env) :: starEach [.Name "int" p3] X.env := by rfl) (he2 : starEach (.Name "int" p3 :: []) X.env = (false, eval (.Name "int" p3) X.env) :: starEach [] X.env := by rfl) (hpl : (backTo pos (starEach [.Name "int" p3] X.env)).any (·.1) = false := by rfl) :
    PEm X C W (.Call (.Name "isinstance" p) [e, .Name "int" p3] [] pos) (un1 m isIntD) := by
  refine (pe_callB call_isi hg hm PyProof.Rows.boot_isinstance (pa_cons ha (pa_cons (pe_bltn (v := .ty "int") hg2 hm2 PyProof.Rows.boot_int rfl) pa_nil he2) he) (by decide) (by decide) he hpl).wk fun σ H Q h => ?_
  show lift X.K C W (pD X.K) m σ H fun v H1 => rIsi X.K [v, .ty "int"] H1 Q
  refine (lift.bind (Rp := pD X.K) h).mono fun v H1 ⟨w1, fr1, S1, d, R1, p1, g⟩ => ?_
  have fin : ∀ b, isIntD d = some (.bl b) → Q (.bl b) H1 := fun b z => by rw [z] at g; exact g w1 H1 _ (.refl _) R1 (.bl b)
  cases p1 with
  | int i => exact ⟨_, _, _, _, true, rfl, .ty "int", .base (.int i), kit_ty (by decide +kernel), fin _ rfl⟩
  | bl i => exact ⟨_, _, _, _, true, rfl, .ty "int", .base (.bl i), kit_ty (by decide +kernel), fin _ rfl⟩
  | non => exact ⟨_, _, _, _, false, rfl, .ty "int", .base .non, kit_ty (by decide +kernel), fin _ rfl⟩
  | str i => exact ⟨_, _, _, _, false, rfl, .ty "int", .base (.str i), kit_ty (by decide +kernel), fin _ rfl⟩
  | tup h l => exact ⟨_, _, _, _, false, rfl, .ty "int", sqT_ty (R1.subF.sqT h), kit_ty (by decide +kernel), fin _ rfl⟩
  | lst h l => exact ⟨_, _, _, _, false, rfl, .ty "int", .base (.lst (R1.subF _ _ h)), kit_ty (by decide +kernel), fin _ rfl⟩
  | _ => exact g.elim

/-! ### methods of texts -/
theorem pem_isalnum {apos : Pos} (ho : PEm X C W e m) (hl : (apos.endLine == pos.line) = true := by rfl) (hb : attributeBase e "isalnum" X.env (eval e X.env) = eval e X.env := by rfl) :
    PEm X C W (.Call (.Attribute e "isalnum" apos) [] [] pos) (m >>= fun d => match d with
      | .str a => pure (.bl (Txt.isalnum a))
      | _ => Mo.stuck) := by
  refine (pe_m0 F.slot_str_isalnum F.type_str_isalnum mt_isalnum ho hb hl).wk fun σ H Q h => ?_
  refine (lift.bind (Rp := pD X.K) h).mono fun v H1 ⟨w1, fr1, S1, d, R1, p1, g⟩ => ?_
  cases p1 with
  | str a => exact ⟨⟨a, rfl⟩, a, rfl, rfl, trivial, g w1 H1 _ (.refl _) R1 (.bl _)⟩
  | _ => exact g.elim
def strsOf : List D → Option (List Str)
  | [] => some []
  | .str i :: r => (strsOf r).map (i :: ·)
  | _ => none
theorem RepL.strsOf {K : PySem.W.Frag} {F : Hp} {m : List Addr} : ∀ {vs : List V} {ds : List D} {ns : List Str}, RepL K F m vs ds → strsOf ds = some ns → vs = ns.map V.str
  | _, _, _, .nil, e => by cases e; rfl
  | _, _, _, .cons h l, e => by
    cases h with
    | str i =>
      have e' : (Z.strsOf _).map (i :: ·) = some _ := e
      rw [Option.map_eq_some_iff] at e'
      obtain ⟨ns, e1, e2⟩ := e'
      subst e2
      rw [RepL.strsOf l e1]
      rfl
    | _ => cases e
theorem Good.ofO {K : PySem.W.Frag} {α β : Type} {Rp : Wd → Hp → β → α → Prop} {w : Wd} {fr : List Sl} {S : List Ob} {σ : St} {Q : β → Hp → Prop} {k : Option α} (g : Good K C w W Rp σ Q (Z.ofO k fr S)) : ∃ c, k = some c ∧ Good K C w W Rp σ Q (.ok c fr S) := by
  unfold Z.ofO at g
  cases k with
  | none => exact g.elim
  | some ds => exact ⟨ds, rfl, g⟩
def joinS (a : Str) (b : D) : Option D := match b with
  | .lst ds => (strsOf ds).bind fun ys => if (ys.map (·.length)).sum + ys.length * a.length ≤ 16777216 then some (.str (Txt.join a ys)) else none
  | _ => none
def joinM (m m2 : Mo D) : Mo D := m >>= fun x => match x with
  | .str a => m2 >>= fun y => Z.ofO (joinS a y)
  | _ => Mo.stuck
/-- sep.join(list) -/
theorem pem_join {e2 : Expr} {m2 : Mo D} {apos : Pos} (ho : PEm X C W e m) (he : PEm X C W e2 m2) (hs : starEach [e2] X.env = [(false, eval e2 X.env)] := by rfl) (hl : (apos.endLine == pos.line) = true := by rfl) (hb : attributeBase e "join" X.env (eval e X.env) = eval e X.env := by rfl) :
    PEm X C W (.Call (.Attribute e "join" apos) [e2] [] pos) (joinM m m2) := by
  refine (pe_join ho he hs hb hl).wk fun σ H Q h => ?_
  refine (lift.bind (Rp := pD X.K) h).mono fun x H1 ⟨w1, fr1, S1, a, R1, p1, g1⟩ => ?_
  cases p1 with
  | str a =>
    have g1' : Good X.K C w1 W (pD X.K) σ Q (Rs.bind (m2 fr1 S1) fun y => Z.ofO (joinS a y)) := g1
    refine ⟨⟨a, rfl⟩, w1, fr1, S1, R1, ?_⟩
    refine (Good.bind (Rp := pD X.K) g1').mono fun y H2 ⟨w2, fr2, S2, b, l, R2, p2, g2⟩ => ?_
    obtain ⟨c, ec, g3⟩ := Good.ofO g2
    cases p2 with
    | @lst q vs ds h l =>
      have e' : ((Z.strsOf ds).bind fun ys => if (ys.map (·.length)).sum + ys.length * a.length ≤ 16777216 then some (D.str (Txt.join a ys)) else none) = some c := ec
      rw [Option.bind_eq_some_iff] at e'
      obtain ⟨ys, e1, e2⟩ := e'
      by_cases z : (ys.map (·.length)).sum + ys.length * a.length ≤ 16777216
      · rw [if_pos z] at e2
        cases e2
        have hv := RepL.strsOf l e1
        subst hv
        exact ⟨a, q, ys, rfl, rfl, .inl (SqL.of (R2.subF _ _ h)), z, g3 w2 H2 _ (.refl _) R2 (.str _)⟩
      · rw [if_neg z] at e2; cases e2
    | _ => cases ec
  | _ => exact g1.elim
end

/-! ### writing to what is owned -/
section
variable {K : PySem.W.Frag} {C : Cl} {w : Wd} {fr : List Sl} {S : List Ob} {σ : St} {H : Hp}
theorem Rel.wr (R : Rel K C w fr S σ H) {a : Addr} {o : HO} {role : Role} {fr' : List Sl} {S' : List Ob} (hq : w.q a = some role) (hl : S'.length = S.length) (hl2 : fr'.length = fr.length)
    (hs : ∀ (i : Nat) (x : Sl) (v : Option V), fr'[i]? = some x → σ[i]? = some v → RepS K w (upd H a o) (.slot i) v x) (ho : ∀ (r : Nat) (b : Addr) (ob : Ob), w.m[r]? = some b → S'[r]? = some ob → RepO K C.cl w (upd H a o) r b ob)
    (hk : ∀ (r : Nat) (b : Addr), w.m[r]? = some b → ∀ ob : Ob, S'[r]? = some ob → ∃ ob' : Ob, S[r]? = some ob') : Rel K C w fr' S' σ (upd H a o) := by
  obtain ⟨hF, hP, _⟩ := R.rol a _ hq
  refine ⟨fun b u e => ?_, fun b u e => ?_, R.dis, fun b r e => ?_, by rw [hl]; exact R.len, by rw [hl2]; exact R.len2, hs, fun r b ob e1 e2 => ?_, R.amb⟩
  · rw [upd_ne (fun z => by rw [z, hF] at e; cases e)]; exact R.subF b u e
  · rw [upd_ne (fun z => by rw [z, hP] at e; cases e)]; exact R.subP b u e
  · obtain ⟨x, y, u, z⟩ := R.rol b r e
    refine ⟨x, y, ?_⟩
    by_cases hb : b = a
    · exact ⟨o, by rw [hb]; exact upd_same⟩
    · exact ⟨u, by rw [upd_ne hb]; exact z⟩
  · obtain ⟨ob', e3⟩ := hk r b e1 ob e2
    exact ⟨(R.obj r b ob' e1 e3).1, ho r b ob e1 e2⟩
theorem ne_role {a b : Addr} {r r' : Role} (h : w.q a = some r) (h' : w.q b = some r') (n : r ≠ r') : b ≠ a := fun z => by rw [z, h] at h'; exact n (Option.some.inj h')
/-- a slot's own list gets other items -/
theorem Rel.wrOwn (R : Rel K C w fr S σ H) {i : Nat} {a : Addr} {vs : List V} {ds : List D} (hσ : σ[i]? = some (some (.ref a))) (hq : w.q a = some (.slot i)) (r : RepL K w.F w.m vs ds) : Rel K C w (fr.set i (.own ds)) S σ (upd H a (.lst vs)) := by
  refine R.wr hq rfl (List.length_set) (fun j x v e1 e2 => ?_) (fun r b ob e1 e2 => ?_) fun r b _ ob e => ⟨ob, e⟩
  · by_cases hj : j = i
    · subst hj
      have hi : j < fr.length := by rw [← R.len2]; exact (List.getElem?_eq_some_iff.mp hσ).1
      rw [List.getElem?_set_self hi] at e1
      cases e1
      rw [hσ] at e2
      cases e2
      exact .own hq upd_same r
    · rw [List.getElem?_set_ne (Ne.symm hj)] at e1
      exact (R.slot j x v e1 e2).le (.refl w) (fun _ z => z) fun b o hb z => by rw [upd_ne (ne_role hq hb fun y => hj (by injection y with y; exact y.symm))]; exact z
  · obtain ⟨x, y⟩ := R.obj r b ob e1 e2
    exact y.le (.refl w) (fun _ _ z => z) (fun b o f hb z => by rw [upd_ne (ne_role hq hb fun y => by cases y)]; exact z) fun o z => by rw [upd_ne (ne_role hq x fun y => by cases y)]; exact z
/-- a shared list gets other items -/
theorem Rel.wrPtr (R : Rel K C w fr S σ H) {r : Nat} {a : Addr} {vs : List V} {ds ds0 : List D} (hm : w.m[r]? = some a) (hS : S[r]? = some (.lst ds0)) (rl : RepL K w.F w.m vs ds) : Rel K C w fr (S.set r (.lst ds)) σ (upd H a (.lst vs)) := by
  obtain ⟨hq, _⟩ := R.obj r a _ hm hS
  refine R.wr hq (List.length_set) rfl (fun j x v e1 e2 => ?_) (fun r' b ob e1 e2 => ?_) fun r' b _ ob e => ?_
  · exact (R.slot j x v e1 e2).le (.refl w) (fun _ z => z) fun b o hb z => by rw [upd_ne (ne_role hq hb fun y => by cases y)]; exact z
  · by_cases hr : r' = r
    · subst hr
      rw [hm] at e1
      cases e1
      rw [List.getElem?_set_self (List.getElem?_eq_some_iff.mp hS).1] at e2
      cases e2
      exact .lst upd_same rl
    · rw [List.getElem?_set_ne (Ne.symm hr)] at e2
      obtain ⟨x, y⟩ := R.obj r' b ob e1 e2
      exact y.le (.refl w) (fun _ _ z => z) (fun b o f hb z => by rw [upd_ne (ne_role hq hb fun y => by cases y)]; exact z) fun o z => by rw [upd_ne (ne_role hq x fun y => hr (by injection y with y; exact y.symm))]; exact z
  · by_cases hr : r' = r
    · subst hr; exact ⟨_, hS⟩
    · rw [List.getElem?_set_ne (Ne.symm hr)] at e; exact ⟨_, e⟩
end

/-! ### methods of lists of one's own -/
section
variable {X : Cx} {C : Cl} {W : WX} {e : Expr} {m m2 : Mo D} {x : Str} {p pos apos : Pos}
def putOwn (j : Nat) (ds : List D) : Mo Unit := fun fr S => .ok () (fr.set j (.own ds)) S
theorem tyV_own {K : PySem.W.Frag} {H : Hp} {a : Addr} {vs : List V} (h : H a = some (.lst vs)) : tyV K "list" (.ref a) H := .inl ⟨rfl, _, SqL.of h⟩
def appM (j : Nat) (m : Mo D) : Mo D := rdOwn j >>= fun _ => m >>= fun d => rdOwn j >>= fun ds => if ds.length < sizeLine then (putOwn j (ds ++ [d]) >>= fun _ => pure D.non) else Mo.stuck
theorem pem_app (j : Nat) (ha : PEm X C W e m) (hN : X.N[j]? = some x := by rfl) (hv : Vis X.env.scope x := by first | exact Or.inl rfl | exact Or.inr (Or.inl rfl) | exact Or.inr (Or.inr rfl)) (hd : (x == ("__debug__" : Str)) = false := by decide) (hcd : (x == ("__classdict__" : Str)) = false := by decide)
    (hbase : attributeBase (.Name x p) "append" X.env (eval (.Name x p) X.env) = eval (.Name x p) X.env := by rfl)
    (hfew : ((backTo pos (starEach (e :: []) X.env)).all (fun x => !x.1) && (backToKw pos (keywordEach [] X.env)).all (fun x => x.1.isSome)
      && decide ((e :: []).length + ([] : List Keyword).length + (if ([] : List Keyword).isEmpty then 0 else 1) < 30)) = true := by rfl)
    (hline : (apos.endLine == pos.line) = true := by rfl) (hs : starEach (e :: []) X.env = (false, eval e X.env) :: starEach [] X.env := by rfl) (hplain : (backTo pos (starEach [] X.env)).any (·.1) = false := by rfl) :
    PEm X C W (.Call (.Attribute (.Name x p) "append" apos) [e] [] pos) (appM j m) := by
  refine (pe_bm PySem.F.plainAttrs_list PySem.F.slot_list_append PySem.F.type_list_append mt_append (pe_var hN hv hd hcd) (pa_cons ha pa_nil hs) hbase hfew hline hs hplain).wk fun σ H Q h => ?_
  obtain ⟨w, fr, S, R, g⟩ := h
  obtain ⟨ds0, h0, g0⟩ := Good.own (k := fun _ => m >>= fun d => rdOwn j >>= fun ds => if ds.length < sizeLine then (putOwn j (ds ++ [d]) >>= fun _ => pure D.non) else Mo.stuck) g
  obtain ⟨_, a, vs0, hσ, _, hH0, _⟩ := ownAt_some R h0
  refine ⟨_, hσ, tyV_own hH0, w, fr, S, R, ?_⟩
  have g1 : Good X.K C w W (pD X.K) σ Q (Rs.bind (m fr S) fun d => rdOwn j >>= fun ds => if ds.length < sizeLine then (putOwn j (ds ++ [d]) >>= fun _ => pure D.non) else Mo.stuck) := g0
  refine (Good.bind (Rp := pD X.K) g1).mono fun y H2 ⟨w2, fr2, S2, d, l, R2, rb, g2⟩ => ?_
  obtain ⟨ds, h2, g3⟩ := Good.own (k := fun ds => if ds.length < sizeLine then (putOwn j (ds ++ [d]) >>= fun _ => pure D.non) else Mo.stuck) g2
  obtain ⟨_, a', vs, hσ', hq, hH, r⟩ := ownAt_some R2 h2
  rw [hσ] at hσ'
  cases hσ'
  by_cases z : ds.length < sizeLine
  · rw [if_pos z] at g3
    exact ⟨a, vs, y, rfl, rfl, hH, by rw [r.length]; exact z, g3 w2 _ .non (.refl _) (R2.wrOwn hσ hq (r.append (.cons rb .nil))) .non⟩
  · rw [if_neg z] at g3; exact g3.elim
def extM (j : Nat) (m : Mo D) : Mo D := rdOwn j >>= fun _ => m >>= fun d => rdOwn j >>= fun ds => match d with
  | .lst es => if ds.length + es.length ≤ sizeLine then (putOwn j (ds ++ es) >>= fun _ => pure D.non) else Mo.stuck
  | _ => Mo.stuck
theorem pem_ext (j : Nat) (ha : PEm X C W e m) (hN : X.N[j]? = some x := by rfl) (hv : Vis X.env.scope x := by first | exact Or.inl rfl | exact Or.inr (Or.inl rfl) | exact Or.inr (Or.inr rfl)) (hd : (x == ("__debug__" : Str)) = false := by decide) (hcd : (x == ("__classdict__" : Str)) = false := by decide)
    (hbase : attributeBase (.Name x p) "extend" X.env (eval (.Name x p) X.env) = eval (.Name x p) X.env := by rfl)
    (hfew : ((backTo pos (starEach (e :: []) X.env)).all (fun x => !x.1) && (backToKw pos (keywordEach [] X.env)).all (fun x => x.1.isSome)
      && decide ((e :: []).length + ([] : List Keyword).length + (if ([] : List Keyword).isEmpty then 0 else 1) < 30)) = true := by rfl)
    (hline : (apos.endLine == pos.line) = true := by rfl) (hs : starEach (e :: []) X.env = (false, eval e X.env) :: starEach [] X.env := by rfl) (hplain : (backTo pos (starEach [] X.env)).any (·.1) = false := by rfl) :
    PEm X C W (.Call (.Attribute (.Name x p) "extend" apos) [e] [] pos) (extM j m) := by
  refine (pe_bm PySem.F.plainAttrs_list PySem.F.slot_list_extend PySem.F.type_list_extend mt_extend (pe_var hN hv hd hcd) (pa_cons ha pa_nil hs) hbase hfew hline hs hplain).wk fun σ H Q h => ?_
  obtain ⟨w, fr, S, R, g⟩ := h
  obtain ⟨ds0, h0, g0⟩ := Good.own (k := fun _ => m >>= fun d => rdOwn j >>= fun ds => match d with
    | .lst es => if ds.length + es.length ≤ sizeLine then (putOwn j (ds ++ es) >>= fun _ => pure D.non) else Mo.stuck
    | _ => Mo.stuck) g
  obtain ⟨_, a, vs0, hσ, _, hH0, _⟩ := ownAt_some R h0
  refine ⟨_, hσ, tyV_own hH0, w, fr, S, R, ?_⟩
  have g1 : Good X.K C w W (pD X.K) σ Q (Rs.bind (m fr S) fun d => rdOwn j >>= fun ds => match d with
    | .lst es => if ds.length + es.length ≤ sizeLine then (putOwn j (ds ++ es) >>= fun _ => pure D.non) else Mo.stuck
    | _ => Mo.stuck) := g0
  refine (Good.bind (Rp := pD X.K) g1).mono fun y H2 ⟨w2, fr2, S2, d, l, R2, rb, g2⟩ => ?_
  obtain ⟨ds, h2, g3⟩ := Good.own (k := fun ds => match d with
    | .lst es => if ds.length + es.length ≤ sizeLine then (putOwn j (ds ++ es) >>= fun _ => pure D.non) else Mo.stuck
    | _ => Mo.stuck) g2
  obtain ⟨_, a', vs, hσ', hq, hH, r⟩ := ownAt_some R2 h2
  rw [hσ] at hσ'
  cases hσ'
  cases rb with
  | @lst b zs es hb l2 =>
    dsimp only at g3
    by_cases z : ds.length + es.length ≤ sizeLine
    · rw [if_pos z] at g3
      exact ⟨a, b, vs, zs, rfl, rfl, hH, R2.subF _ _ hb, by rw [r.length, l2.length]; exact z, g3 w2 _ .non (.refl _) (R2.wrOwn hσ hq (r.append l2)) .non⟩
    · rw [if_neg z] at g3; exact g3.elim
  | _ => exact g3.elim
def popM (j : Nat) : Mo D := rdOwn j >>= fun ds => match ds[ds.length - 1]? with
  | some d => (putOwn j ds.dropLast >>= fun _ => pure d)
  | none => Mo.stuck
theorem RepL.dropLast {K : PySem.W.Frag} {F : Hp} {m : List Addr} {vs : List V} {ds : List D} (r : RepL K F m vs ds) : RepL K F m vs.dropLast ds.dropLast := by
  rw [List.dropLast_eq_take, List.dropLast_eq_take, r.length]
  exact r.take _
theorem pem_pop (j : Nat) (hN : X.N[j]? = some x := by rfl) (hv : Vis X.env.scope x := by first | exact Or.inl rfl | exact Or.inr (Or.inl rfl) | exact Or.inr (Or.inr rfl)) (hd : (x == ("__debug__" : Str)) = false := by decide) (hcd : (x == ("__classdict__" : Str)) = false := by decide)
    (hbase : attributeBase (.Name x p) "pop" X.env (eval (.Name x p) X.env) = eval (.Name x p) X.env := by rfl) (hline : (apos.endLine == pos.line) = true := by rfl) :
    PEm X C W (.Call (.Attribute (.Name x p) "pop" apos) [] [] pos) (popM j) := by
  refine (pe_bm0 PySem.F.plainAttrs_list PySem.F.slot_list_pop PySem.F.type_list_pop mt_pop (pe_var hN hv hd hcd) hbase hline).wk fun σ H Q h => ?_
  obtain ⟨w, fr, S, R, g⟩ := h
  obtain ⟨ds, h0, g0⟩ := Good.own (k := fun ds => match ds[ds.length - 1]? with
    | some d => (putOwn j ds.dropLast >>= fun _ => pure d)
    | none => Mo.stuck) g
  obtain ⟨_, a, vs, hσ, hq, hH, r⟩ := ownAt_some R h0
  refine ⟨_, hσ, tyV_own hH, ?_⟩
  cases e : ds[ds.length - 1]? with
  | none => rw [e] at g0; exact g0.elim
  | some d =>
    rw [e] at g0
    obtain ⟨v, hv', rd⟩ := r.get e
    exact ⟨a, vs, v, rfl, rfl, hH, by rw [r.length]; exact hv', g0 w _ v (.refl _) (R.wrOwn hσ hq r.dropLast) rd⟩
/-- o.append(e), o a shared list -/
def appPM (mo m : Mo D) : Mo D := mo >>= fun o => match o with
  | .ptr r => fun fr S => match S[r]? with
    | some (.lst _) => (m >>= fun d => fun fr S => match S[r]? with
      | some (.lst ds) => if ds.length < sizeLine then .ok .non fr (S.set r (.lst (ds ++ [d]))) else .stuck
      | _ => .stuck) fr S
    | _ => .stuck
  | _ => Mo.stuck
theorem pem_appP {o : Expr} {mo : Mo D} (ho : PEm X C W o mo) (ha : PEm X C W e m)
    (hbase : attributeBase o "append" X.env (eval o X.env) = eval o X.env := by rfl)
    (hfew : ((backTo pos (starEach (e :: []) X.env)).all (fun x => !x.1) && (backToKw pos (keywordEach [] X.env)).all (fun x => x.1.isSome)
      && decide ((e :: []).length + ([] : List Keyword).length + (if ([] : List Keyword).isEmpty then 0 else 1) < 30)) = true := by rfl)
    (hline : (apos.endLine == pos.line) = true := by rfl) (hs : starEach (e :: []) X.env = (false, eval e X.env) :: starEach [] X.env := by rfl) (hplain : (backTo pos (starEach [] X.env)).any (·.1) = false := by rfl) :
    PEm X C W (.Call (.Attribute o "append" apos) [e] [] pos) (appPM mo m) := by
  refine (pe_bm PySem.F.plainAttrs_list PySem.F.slot_list_append PySem.F.type_list_append mt_append ho (pa_cons ha pa_nil hs) hbase hfew hline hs hplain).wk fun σ H Q h => ?_
  refine (lift.bind (Rp := pD X.K) h).mono fun v H1 ⟨w1, fr1, S1, d0, R1, p1, g⟩ => ?_
  cases p1 with
  | @ptr a r hm =>
    dsimp only at g
    cases hS : S1[r]? with
    | none => rw [hS] at g; exact g.elim
    | some ob =>
      rw [hS] at g
      cases ob with
      | ins c fs => exact g.elim
      | lst ds0 =>
        obtain ⟨_, ro⟩ := R1.ob hm hS
        cases ro with
        | lst hH0 _ =>
          refine ⟨tyV_own hH0, w1, fr1, S1, R1, ?_⟩
          have g1 : Good X.K C w1 W (pD X.K) σ Q (Rs.bind (m fr1 S1) fun d => fun fr S => match S[r]? with
            | some (.lst ds) => if ds.length < sizeLine then .ok .non fr (S.set r (.lst (ds ++ [d]))) else .stuck
            | _ => .stuck) := g
          refine (Good.bind (Rp := pD X.K) g1).mono fun y H2 ⟨w2, fr2, S2, d, l, R2, rb, g2⟩ => ?_
          have hm2 := l.m _ _ hm
          cases hS2 : S2[r]? with
          | none => rw [hS2] at g2; exact g2.elim
          | some ob =>
            rw [hS2] at g2
            cases ob with
            | ins c fs => exact g2.elim
            | lst ds =>
              obtain ⟨_, ro⟩ := R2.ob hm2 hS2
              cases ro with
              | @lst vs _ hH rl =>
                dsimp only at g2
                by_cases z : ds.length < sizeLine
                · rw [if_pos z] at g2
                  exact ⟨a, vs, y, rfl, rfl, hH, by rw [rl.length]; exact z, g2 w2 _ .non (.refl _) (R2.wrPtr hm2 hS2 (rl.append (.cons rb .nil))) .non⟩
                · rw [if_neg z] at g2; exact g2.elim
  | _ => exact g.elim
end
end Z
set_option Elab.async false
set_option linter.all false
set_option maxRecDepth 100000
/-! Z6: statements lifted. -/
namespace Z
open PySem L2

theorem _root_.L2.PS.wk {X : Cx} {st : Stmt} {t t' : TS} (h : PS X st t) (w : ∀ D σ H, t' D σ H → t D σ H) : PS X st t' := ⟨fun pins s σ H D I q => h.run pins s σ H D I (w D σ H q)⟩
theorem _root_.L2.PSs.wk {X : Cx} {st : List Stmt} {t t' : TS} (h : PSs X st t) (w : ∀ D σ H, t' D σ H → t D σ H) : PSs X st t' := ⟨fun pins s σ H D I q => h.run pins s σ H D I (w D σ H q)⟩

/-- what a statement's end is to give -/
def GoodS (K : PySem.W.Frag) (C : Cl) (w : Wd) (W : WX) (E : Ends) : Rs Fl → Prop
  | .ok .nx fr S => ∀ w' σ' H', Le w w' → Rel K C w' fr S σ' H' → E.nx σ' H'
  | .ok .bk fr S => ∀ w' σ' H', Le w w' → Rel K C w' fr S σ' H' → E.bk σ' H'
  | .ok .ct fr S => ∀ w' σ' H', Le w w' → Rel K C w' fr S σ' H' → E.ct σ' H'
  | .ok (.rt rv) fr S => ∀ w' σ' H' v, Le w w' → Rel K C w' fr S σ' H' → RepRV K w' H' v rv → E.rt v H'
  | .exc x fr S => ∀ w' σ' H' c d, Le w w' → Rel K C w' fr S σ' H' → RepX C w' H' c d x → W c d σ' H'
  | .stuck => False
def liftS (K : PySem.W.Frag) (C : Cl) (W : WX) (m : Mo Fl) : TS := fun E σ H => ∃ w fr S, Rel K C w fr S σ H ∧ GoodS K C w W E (m fr S)
abbrev PSm (X : Cx) (C : Cl) (W : WX) (st : Stmt) (m : Mo Fl) : Prop := PS X st (liftS X.K C W m)
abbrev PSsm (X : Cx) (C : Cl) (W : WX) (sts : List Stmt) (m : Mo Fl) : Prop := PSs X sts (liftS X.K C W m)

section
variable {K : PySem.W.Frag} {C : Cl} {w w' : Wd} {W : WX} {E E' : Ends} {fr : List Sl} {S : List Ob} {σ : St} {H : Hp}
theorem GoodS.le (h : Le w w') {r : Rs Fl} (g : GoodS K C w W E r) : GoodS K C w' W E r := by
  cases r with
  | ok a fr S =>
    cases a with
    | nx => exact fun w2 σ' H' l => g w2 σ' H' (h.trans l)
    | bk => exact fun w2 σ' H' l => g w2 σ' H' (h.trans l)
    | ct => exact fun w2 σ' H' l => g w2 σ' H' (h.trans l)
    | rt rv => exact fun w2 σ' H' v l => g w2 σ' H' v (h.trans l)
  | exc x fr S => exact fun w2 σ' H' c d l => g w2 σ' H' c d (h.trans l)
  | stuck => exact g
/-- an expression ahead of a statement's rest -/
theorem GoodS.bind {α β : Type} {Rp : Wd → Hp → β → α → Prop} {m : Rs α} {k : α → Mo Fl} (g : GoodS K C w W E (Rs.bind m k)) :
    Good K C w W Rp σ (fun v H1 => ∃ w1 fr1 S1 a, Le w w1 ∧ Rel K C w1 fr1 S1 σ H1 ∧ Rp w1 H1 v a ∧ GoodS K C w1 W E (k a fr1 S1)) m := by
  cases m with
  | ok a fr S => exact fun w2 H' v l R p => ⟨w2, fr, S, a, l, R, p, GoodS.le l g⟩
  | exc x fr S => exact fun w2 H' c d l R rx => g w2 σ H' c d l R rx
  | stuck => exact g
theorem liftS.bind {α β : Type} (Rp : Wd → Hp → β → α → Prop) {m : Mo α} {k : α → Mo Fl} (h : liftS K C W (m >>= k) E σ H) :
    lift K C W Rp m σ H fun v H1 => ∃ w1 fr1 S1 a, Rel K C w1 fr1 S1 σ H1 ∧ Rp w1 H1 v a ∧ GoodS K C w1 W E (k a fr1 S1) := by
  obtain ⟨w, fr, S, R, g⟩ := h
  have g' : GoodS K C w W E (Rs.bind (m fr S) k) := g
  exact ⟨w, fr, S, R, (GoodS.bind (Rp := Rp) (σ := σ) g').mono fun v H1 ⟨w1, fr1, S1, a, _, z⟩ => ⟨w1, fr1, S1, a, z⟩⟩
/-- a statement behind another -/
def seqM (a b : Mo Fl) : Mo Fl := a >>= fun f => match f with
  | .nx => b
  | .bk => pure .bk
  | .ct => pure .ct
  | .rt v => pure (.rt v)
theorem GoodS.seq {a b : Mo Fl} (g : GoodS K C w W E (seqM a b fr S)) : GoodS K C w W { E with nx := liftS K C W b E } (a fr S) := by
  have g' : GoodS K C w W E (Rs.bind (a fr S) fun f => match f with
    | .nx => b
    | .bk => pure .bk
    | .ct => pure .ct
    | .rt v => pure (.rt v)) := g
  cases e : a fr S with
  | ok f fr1 S1 =>
    rw [e] at g'
    cases f with
    | nx => exact fun w2 σ' H' l R => ⟨w2, fr1, S1, R, GoodS.le l g'⟩
    | bk => exact g'
    | ct => exact g'
    | rt v => exact g'
  | exc x fr1 S1 => rw [e] at g'; exact g'
  | stuck => rw [e] at g'; exact g'
theorem liftS_seq {a b : Mo Fl} (h : liftS K C W (seqM a b) E σ H) : liftS K C W a { E with nx := liftS K C W b E } σ H := by
  obtain ⟨w, fr, S, R, g⟩ := h
  exact ⟨w, fr, S, R, g.seq⟩
end

section
variable {X : Cx} {C : Cl} {W : WX} {st : Stmt} {rest : List Stmt} {a b : Mo Fl} {e o : Expr} {m mo mi m1 m2 : Mo D} {u : Mo (List D)} {p p2 pos apos : Pos} {x y : Str}

theorem pssm_nil : PSsm X C W [] (pure .nx) := pss_nil.wk fun E σ H h => by
  obtain ⟨w, fr, S, R, g⟩ := h
  exact g w σ H (.refl w) R
theorem pssm_cons (h1 : PSm X C W st a) (h2 : PSsm X C W rest b) : PSsm X C W (st :: rest) (seqM a b) := (pss_cons h1 h2).wk fun E σ H h => liftS_seq h
theorem pssm_one (h1 : PSm X C W st a) : PSsm X C W [st] a := pss_one h1
theorem psm_pass : PSm X C W (.Pass pos) (pure .nx) := ps_pass.wk fun E σ H ⟨w, fr, S, R, g⟩ => g w σ H (.refl w) R
theorem psm_break : PSm X C W (.Break pos) (pure .bk) := ps_break.wk fun E σ H ⟨w, fr, S, R, g⟩ => g w σ H (.refl w) R
theorem psm_continue : PSm X C W (.Continue pos) (pure .ct) := ps_continue.wk fun E σ H ⟨w, fr, S, R, g⟩ => g w σ H (.refl w) R
theorem psm_expr (he : PEm X C W e m) (hs : swapsWith e none pos.line X.env = pure false := by rfl) : PSm X C W (.Expr e pos) (m >>= fun _ => pure .nx) :=
  (ps_expr he hs).wk fun E σ H h => (liftS.bind (pD X.K) h).mono fun v H1 ⟨w1, fr1, S1, d, R1, p1, g⟩ => g w1 σ H1 (.refl w1) R1
theorem psm_ret (he : PEm X C W e m) : PSm X C W (.Return (some e) pos) (m >>= fun d => pure (.rt (.d d))) :=
  (ps_ret he).wk fun E σ H h => (liftS.bind (pD X.K) h).mono fun v H1 ⟨w1, fr1, S1, d, R1, p1, g⟩ => g w1 σ H1 v (.refl w1) R1 p1
theorem psm_retU (he : PUm X C W e u) : PSm X C W (.Return (some e) pos) (u >>= fun ds => pure (.rt (.u ds))) :=
  (ps_ret he).wk fun E σ H h => (liftS.bind (pU X.K) h).mono fun v H1 ⟨w1, fr1, S1, d, R1, p1, g⟩ => g w1 σ H1 v (.refl w1) R1 p1
theorem psm_retN : PSm X C W (.Return none pos) (pure (.rt (.d .non))) := ps_retN.wk fun E σ H ⟨w, fr, S, R, g⟩ => g w σ H .non (.refl w) R .non
/-- return x, x a list of one's own: it goes out as it is -/
theorem psm_retO (j : Nat) (hN : X.N[j]? = some x := by rfl) (hv : Vis X.env.scope x := by first | exact Or.inl rfl | exact Or.inr (Or.inl rfl) | exact Or.inr (Or.inr rfl)) (hd : (x == ("__debug__" : Str)) = false := by decide) (hcd : (x == ("__classdict__" : Str)) = false := by decide) :
    PSm X C W (.Return (some (.Name x p)) pos) (rdOwn j >>= fun ds fr S => .ok (.rt (.u ds)) (fr.set j .un) S) := by
  refine (ps_ret (pe_var hN hv hd hcd)).wk fun E σ H h => ?_
  obtain ⟨w, fr, S, R, g⟩ := h
  have g' : GoodS X.K C w W E (Rs.bind (rdOwn j fr S) fun ds fr S => .ok (.rt (.u ds)) (fr.set j .un) S) := g
  cases e : ownAt j fr with
  | none => unfold rdOwn at g'; rw [e] at g'; exact g'.elim
  | some ds =>
    unfold rdOwn at g'
    rw [e] at g'
    obtain ⟨hj, a, vs, hσ, hq, hH, r⟩ := ownAt_some R e
    obtain ⟨hF, hP, _⟩ := R.rol a _ hq
    refine ⟨_, hσ, ?_⟩
    have l : Le w { w with q := fun b => if b = a then none else w.q b } := ⟨.refl _, rfl, .refl _⟩
    have qn : ∀ {b : Addr} {r : Role}, w.q b = some r → r ≠ .slot j → (if b = a then none else w.q b) = some r := fun {b r} e ne => by
      rw [if_neg (fun z => by rw [z, hq] at e; exact ne (Option.some.inj e).symm)]
      exact e
    have R' : Rel X.K C { w with q := fun b => if b = a then none else w.q b } (fr.set j .un) S σ H := by
      refine ⟨R.subF, R.subP, R.dis, fun b r e => ?_, R.len, by rw [List.length_set]; exact R.len2, fun i y v e1 e2 => ?_, fun r b ob e1 e2 => ?_, R.amb⟩
      · have e' : (if b = a then none else w.q b) = some r := e
        by_cases hb : b = a
        · rw [if_pos hb] at e'; cases e'
        · rw [if_neg hb] at e'; exact R.rol b r e'
      · by_cases hi : i = j
        · subst hi
          have hl : i < fr.length := (List.getElem?_eq_some_iff.mp hj).1
          rw [List.getElem?_set_self hl] at e1
          cases e1
          exact .un
        · rw [List.getElem?_set_ne (Ne.symm hi)] at e1
          exact (R.slot i y v e1 e2).le l (fun b z => qn z fun y => hi (by injection y)) fun _ _ _ z => z
      · obtain ⟨x, y⟩ := R.obj r b ob e1 e2
        exact ⟨qn x (fun z => by cases z), y.le l (fun c f z => qn z fun y => by cases y) (fun _ _ _ _ z => z) fun _ z => z⟩
    exact g' _ σ H _ l R' ⟨a, vs, rfl, hH, r, hF, hP, if_pos rfl⟩

/-! ### if, while -/
variable {t : Mo Bool} {c : Expr} {sa sb : List Stmt}
theorem psm_if (hc : PBm X C W c t) (ha : PSsm X C W sa a) (hb : PSsm X C W sb b) : PSm X C W (.If c sa sb pos) (ifM t a b) :=
  (ps_if hc ha hb).wk fun E σ H h => (liftS.bind pB h).mono fun k H1 ⟨w1, fr1, S1, d, R1, p1, g⟩ => by
    have e : k = d := p1
    subst e
    cases k with
    | true => exact ⟨w1, fr1, S1, R1, g⟩
    | false => exact ⟨w1, fr1, S1, R1, g⟩
/-- a loop's body, then what is behind -/
def turnM (b k : Mo Fl) : Mo Fl := b >>= fun f => match f with
  | .nx => k
  | .ct => k
  | .bk => pure .nx
  | .rt v => pure (.rt v)
theorem GoodS.turn {K : PySem.W.Frag} {w : Wd} {fr : List Sl} {S : List Ob} {E : Ends} {b k : Mo Fl} (g : GoodS K C w W E (turnM b k fr S)) :
    GoodS K C w W { E with nx := liftS K C W k E, ct := liftS K C W k E, bk := E.nx } (b fr S) := by
  have g' : GoodS K C w W E (Rs.bind (b fr S) fun f => match f with
    | .nx => k
    | .ct => k
    | .bk => pure .nx
    | .rt v => pure (.rt v)) := g
  cases e : b fr S with
  | ok f fr1 S1 =>
    rw [e] at g'
    cases f with
    | nx => exact fun w2 σ' H' l R => ⟨w2, fr1, S1, R, GoodS.le l g'⟩
    | ct => exact fun w2 σ' H' l R => ⟨w2, fr1, S1, R, GoodS.le l g'⟩
    | bk => exact g'
    | rt v => exact g'
  | exc x fr1 S1 => rw [e] at g'; exact g'
  | stuck => rw [e] at g'; exact g'
def whileM (t : Mo Bool) (b : Mo Fl) : Nat → Mo Fl
  | 0 => Mo.stuck
  | n + 1 => ifM t (turnM b (whileM t b n)) (pure .nx)
theorem psm_while (n : Nat) (hp : PassesOwn (model X.prog X.w) X.A X.env X.xe) (hc : PBm X C W c t) (hb : PSsm X C W sb b) : PSm X C W (.While c sb [] pos) (whileM t b n) := by
  refine (ps_while hp hc hb).wk fun E σ H h => ?_
  refine ⟨fun k σ H => liftS X.K C W (whileM t b k) E σ H, ⟨n, h⟩, fun k σ H h => ?_⟩
  cases k with
  | zero =>
    obtain ⟨_, _, _, _, g⟩ := h
    exact g.elim
  | succ k =>
    refine (liftS.bind (K := X.K) pB h).mono fun v H1 ⟨w1, fr1, S1, d, R1, p1, g⟩ => ?_
    have e : v = d := p1
    subst e
    cases v with
    | true =>
      rw [if_pos rfl]
      refine ⟨liftS X.K C W (whileM t b k) E, fun σ' H' z => ⟨k, Nat.lt_succ_self k, z⟩, w1, fr1, S1, R1, ?_⟩
      exact GoodS.turn (b := b) (k := whileM t b k) g
    | false =>
      rw [if_neg (by decide)]
      exact g w1 σ H1 (.refl w1) R1

/-! ### targets, assignments -/
/-- what an assignment to a target is to give -/
def GoodG (K : PySem.W.Frag) (C : Cl) (w : Wd) (Q : St → Hp → Prop) : Rs Unit → Prop
  | .ok () fr S => ∀ w' σ' H', Le w w' → Rel K C w' fr S σ' H' → Q σ' H'
  | _ => False
abbrev PGm (X : Cx) (C : Cl) (tg : Expr) (f : D → Mo Unit) : Prop := PG X tg fun v σ H Q => ∃ w fr S d, Rel X.K C w fr S σ H ∧ RepD X.K w.F w.m v d ∧ GoodG X.K C w Q (f d fr S)
def PGsm (X : Cx) (C : Cl) (ts : List Expr) (f : List D → Mo Unit) : Prop := PGs X ts fun vs σ H Q => ∃ w fr S ds, Rel X.K C w fr S σ H ∧ RepL X.K w.F w.m vs ds ∧ GoodG X.K C w Q (f ds fr S)
theorem _root_.L2.PG.wk {tg : Expr} {g g' : TG} (h : PG X tg g) (k : ∀ v σ H Q, g' v σ H Q → g v σ H Q) : PG X tg g' := ⟨fun pins s σ H v u Q I r q => h.run pins s σ H v u Q I r (k v σ H Q q)⟩
theorem _root_.L2.PGs.wk {tg : List Expr} {g g' : TGs} (h : PGs X tg g) (k : ∀ v σ H Q, g' v σ H Q → g v σ H Q) : PGs X tg g' := ⟨fun pins s σ H v u Q I r q => h.run pins s σ H v u Q I r (k v σ H Q q)⟩
def putV (i : Nat) (d : D) : Mo Unit := fun fr S => .ok () (fr.set i (.val d)) S
theorem Rel.setV {K : PySem.W.Frag} {w : Wd} {fr : List Sl} {S : List Ob} {σ : St} {H : Hp} (R : Rel K C w fr S σ H) (i : Nat) {v : V} {z : Sl} (r : RepS K w H (.slot i) (some v) z) : Rel K C w (fr.set i z) S (σ.set i (some v)) H :=
  ⟨R.subF, R.subP, R.dis, R.rol, R.len, by rw [List.length_set, List.length_set]; exact R.len2, fun j x u e1 e2 => by
    by_cases hj : j = i
    · subst hj
      have h1 := (List.getElem?_eq_some_iff.mp e1).1
      have h2 := (List.getElem?_eq_some_iff.mp e2).1
      rw [List.length_set] at h1 h2
      rw [List.getElem?_set_self h1] at e1
      rw [List.getElem?_set_self h2] at e2
      cases e1
      cases e2
      exact r
    · rw [List.getElem?_set_ne (Ne.symm hj)] at e1
      rw [List.getElem?_set_ne (Ne.symm hj)] at e2
      exact R.slot j x u e1 e2, R.obj, R.amb⟩
theorem pgm_name (i : Nat) (hN : X.N.Nodup) (hi : X.N[i]? = some x := by rfl) (hx : Loc X.env.scope x := by first | exact Or.inl rfl | exact Or.inr rfl) (hf : X.fn x = true ∨ X.env.scope.names.lookup x = some .local := by first | exact .inl rfl | exact .inr rfl) : PGm X C (.Name x pos) (putV i) :=
  (pg_name hN hi hx hf).wk fun v σ H Q ⟨w, fr, S, d, R, r, g⟩ => g w _ H (.refl w) (R.setV i (.val r))
def tgNil : List D → Mo Unit
  | [] => pure ()
  | _ => Mo.stuck
def tgCons (f : D → Mo Unit) (g : List D → Mo Unit) : List D → Mo Unit
  | [] => Mo.stuck
  | d :: r => f d >>= fun _ => g r
theorem pgsm_nil : PGsm X C [] tgNil := pgs_nil.wk fun vs σ H Q ⟨w, fr, S, ds, R, r, g⟩ => by
  cases r with
  | nil => exact ⟨rfl, g w σ H (.refl w) R⟩
  | cons _ _ => exact g.elim
theorem GoodG.le {K : PySem.W.Frag} {w w' : Wd} (h : Le w w') {Q : St → Hp → Prop} {r : Rs Unit} (g : GoodG K C w Q r) : GoodG K C w' Q r := by
  cases r with
  | ok a fr S => exact fun w2 σ' H' l => g w2 σ' H' (h.trans l)
  | exc x fr S => exact g
  | stuck => exact g
theorem pgsm_cons {es : List Expr} {f : D → Mo Unit} {g : List D → Mo Unit} (h1 : PGm X C e f) (h2 : PGsm X C es g) (hs : (assignEach (e :: es) X.env).map (·.2) = assign e X.env :: (assignEach es X.env).map (·.2) := by rfl) : PGsm X C (e :: es) (tgCons f g) :=
  (pgs_cons h1 h2 hs).wk fun vs σ H Q ⟨w, fr, S, ds, R, r, q⟩ => by
    cases r with
    | nil => exact q.elim
    | @cons v d vs ds rd rl =>
      have q' : GoodG X.K C w Q (Rs.bind (f d fr S) fun _ => g ds) := q
      refine ⟨v, vs, rfl, w, fr, S, d, R, rd, ?_⟩
      cases e : f d fr S with
      | ok u fr1 S1 =>
        rw [e] at q'
        exact fun w2 σ' H' l R' => ⟨w2, fr1, S1, ds, R', RepL.le l rl, GoodG.le l q'⟩
      | exc x fr1 S1 => rw [e] at q'; exact q'.elim
      | stuck => rw [e] at q'; exact q'.elim
def tgTup (n : Nat) (g : List D → Mo Unit) : D → Mo Unit
  | .tup ds => if ds.length = n then g ds else Mo.stuck
  | _ => Mo.stuck
theorem pgm_tup {es : List Expr} {k n : Nat} {g : List D → Mo Unit} (hc : X.calm = true) (h : PGsm X C es g) (hn : (assignEach es X.env).length = n := by rfl) (hst : (assignEach es X.env).findIdx? (·.1) = none := by rfl) : PGm X C (.Tuple es k pos) (tgTup n g) :=
  (pg_tup hc h hn hst).wk fun v σ H Q ⟨w, fr, S, d, R, r, q⟩ => by
    cases r with
    | @tup a vs ds h1 l =>
      dsimp only [tgTup] at q
      by_cases z : ds.length = n
      · rw [if_pos z] at q
        exact ⟨a, vs, rfl, R.subF.sqT h1, by rw [l.length]; exact z, w, fr, S, ds, R, l, q⟩
      · rw [if_neg z] at q; exact q.elim
    | _ => exact q.elim
def asgM (m : Mo D) (f : D → Mo Unit) : Mo Fl := m >>= fun d => f d >>= fun _ => pure .nx
theorem GoodG.of {K : PySem.W.Frag} {w : Wd} {E : Ends} {r : Rs Unit} (hno : ∀ x fr S, r ≠ .exc x fr S) (g : GoodS K C w W E (Rs.bind r fun _ => pure .nx)) : GoodG K C w E.nx r := by
  cases r with
  | ok u fr S => exact fun w2 σ' H' l R => g w2 σ' H' l R
  | exc x fr S => exact absurd rfl (hno x fr S)
  | stuck => exact g
/-- a target never raises -/
def NoX (f : D → Mo Unit) : Prop := ∀ d fr S x fr' S', f d fr S ≠ .exc x fr' S'
theorem nox_name (i : Nat) : NoX (putV i) := fun d fr S x fr' S' z => by cases z
theorem psm_asg {tg : Expr} {f : D → Mo Unit} (he : PEm X C W e m) (hg : PGm X C tg f) (hno : NoX f) (hs : swapsWithSole [tg] e pos.line X.env = pure false := by rfl) (hw : swappedStores [tg] e X.env = pure none := by rfl) (h1 : (assignEach [tg] X.env).map (·.2) = [assign tg X.env] := by rfl) :
    PSm X C W (.Assign [tg] e pos) (asgM m f) :=
  (ps_asg he hg hs hw h1).wk fun E σ H h => (liftS.bind (pD X.K) h).mono fun v H1 ⟨w1, fr1, S1, d, R1, p1, g⟩ => ⟨w1, fr1, S1, d, R1, p1, GoodG.of (fun x fr S => hno d fr1 S1 x fr S) g⟩
/-- x = e -/
theorem psm_set (i : Nat) (hN : X.N.Nodup) (he : PEm X C W e m) (hi : X.N[i]? = some x := by rfl) (hx : Loc X.env.scope x := by first | exact Or.inl rfl | exact Or.inr rfl) (hs : swapsWith e (some (.Name x p)) pos.line X.env = pure false := by rfl) (hf : X.fn x = true ∨ X.env.scope.names.lookup x = some .local := by first | exact .inl rfl | exact .inr rfl) :
    PSm X C W (.Assign [.Name x p] e pos) (asgM m (putV i)) :=
  (ps_set hN hi hx he hs hf).wk fun E σ H h => (liftS.bind (pD X.K) h).mono fun v H1 ⟨w1, fr1, S1, d, R1, p1, g⟩ => g w1 _ H1 (.refl w1) (R1.setV i (.val p1))
/-- x = a fresh list, x's own from now on -/
def own1 (w : Wd) (a : Addr) (r : Role) : Wd := { w with q := fun b => if b = a then some r else w.q b }
theorem own1_le (w : Wd) (a : Addr) (r : Role) : Le w (own1 w a r) := ⟨.refl _, rfl, .refl _⟩
theorem Rel.own1 {K : PySem.W.Frag} {w : Wd} {fr : List Sl} {S : List Ob} {σ : St} {H : Hp} (R : Rel K C w fr S σ H) {a : Addr} {o : HO} (hH : H a = some o) (hF : w.F a = none) (hP : w.P a = none) (hq : w.q a = none) (role : Role) : Rel K C (Z.own1 w a role) fr S σ H := by
  have l := own1_le w a role
  have qk : ∀ {b : Addr} {r : Role}, w.q b = some r → (Z.own1 w a role).q b = some r := fun {b r} e => by
    show (if b = a then some role else w.q b) = some r
    rw [if_neg (fun z => by rw [z, hq] at e; cases e)]
    exact e
  refine ⟨R.subF, R.subP, R.dis, fun b r e => ?_, R.len, R.len2, fun i x v e1 e2 => (R.slot i x v e1 e2).le l (fun b => qk) fun _ _ _ z => z, fun r b ob e1 e2 => ?_, R.amb⟩
  · have e' : (if b = a then some role else w.q b) = some r := e
    by_cases hb : b = a
    · subst hb; exact ⟨hF, hP, o, hH⟩
    · rw [if_neg hb] at e'; exact R.rol b r e'
  · obtain ⟨x, y⟩ := R.obj r b ob e1 e2
    exact ⟨qk x, y.le l (fun c f => qk) (fun _ _ _ _ z => z) fun _ z => z⟩
theorem psm_setO (i : Nat) (hN : X.N.Nodup) (he : PUm X C W e u) (hi : X.N[i]? = some x := by rfl) (hx : Loc X.env.scope x := by first | exact Or.inl rfl | exact Or.inr rfl) (hs : swapsWith e (some (.Name x p)) pos.line X.env = pure false := by rfl) (hf : X.fn x = true ∨ X.env.scope.names.lookup x = some .local := by first | exact .inl rfl | exact .inr rfl) :
    PSm X C W (.Assign [.Name x p] e pos) (u >>= fun ds => putOwn i ds >>= fun _ => pure .nx) :=
  (ps_set hN hi hx he hs hf).wk fun E σ H h => (liftS.bind (pU X.K) h).mono fun v H1 ⟨w1, fr1, S1, ds, R1, p1, g⟩ => by
    obtain ⟨a, vs, rfl, hH, r, hF, hP, hq⟩ := p1.ex
    have R2 := R1.own1 hH hF hP hq (.slot i)
    exact g _ _ H1 (own1_le w1 a _) (R2.setV i (.own (if_pos rfl) hH (r.le (own1_le w1 a _))))
/-- x = a fresh list, shared from now on -/
def putBox (i : Nat) (ds : List D) : Mo Unit := fun fr S => .ok () (fr.set i (.val (.ptr S.length))) (S ++ [.lst ds])
theorem psm_setB (i : Nat) (hN : X.N.Nodup) (he : PUm X C W e u) (hi : X.N[i]? = some x := by rfl) (hx : Loc X.env.scope x := by first | exact Or.inl rfl | exact Or.inr rfl) (hs : swapsWith e (some (.Name x p)) pos.line X.env = pure false := by rfl) (hf : X.fn x = true ∨ X.env.scope.names.lookup x = some .local := by first | exact .inl rfl | exact .inr rfl) :
    PSm X C W (.Assign [.Name x p] e pos) (u >>= fun ds => putBox i ds >>= fun _ => pure .nx) :=
  (ps_set hN hi hx he hs hf).wk fun E σ H h => (liftS.bind (pU X.K) h).mono fun v H1 ⟨w1, fr1, S1, ds, R1, p1, g⟩ => by
    obtain ⟨a, vs, rfl, hH, r, hF, hP, hq⟩ := p1.ex
    have R2 := R1.box (.refl _) hH hF hP hq (.lst hH (r.le (bx_le w1 a _)))
    exact g _ _ H1 (bx_le w1 a _) (R2.setV i (.val (.ptr (bx_at R1 a))))
/-- a, b = [], [] -/
theorem psm_nil2 (i j : Nat) (hc : X.calm = true) (hN : X.N.Nodup) {px py pt p3 p4 : Pos} {kt k2 pt2} (hi : X.N[i]? = some x := by rfl) (hj : X.N[j]? = some y := by rfl) (hij : i ≠ j := by decide) (hx : X.env.scope.names.lookup x = some .local := by rfl) (hy : X.env.scope.names.lookup y = some .local := by rfl)
    (hw : swappedStores [.Tuple [.Name x px, .Name y py] kt pt] (.Tuple [.List [] p3, .List [] p4] k2 pt2) X.env = pure (some [x, y]) := by rfl) (hs : swapsWithSole [.Tuple [.Name x px, .Name y py] kt pt] (.Tuple [.List [] p3, .List [] p4] k2 pt2) pos.line X.env = pure false := by rfl) :
    PSm X C W (.Assign [.Tuple [.Name x px, .Name y py] kt pt] (.Tuple [.List [] p3, .List [] p4] k2 pt2) pos) (putOwn i [] >>= fun _ => putOwn j [] >>= fun _ => pure .nx) :=
  (ps_par hc hN hi hj hij hx hy (pa_cons (pe_lst pa_nil) (pa_cons (pe_lst pa_nil) pa_nil)) hw hs).wk fun E σ H h => by
    obtain ⟨w, fr, S, R, g⟩ := h
    refine ⟨Nat.zero_le _, fun a ha => ⟨Nat.zero_le _, fun b hb => ⟨.ref a, .ref b, rfl, ?_⟩⟩⟩
    have hba : b ≠ a := fun z => by rw [z, upd_same] at hb; cases hb
    have hb0 : H b = none := by rw [upd_ne hba] at hb; exact hb
    obtain ⟨f1, f2, f3⟩ := R.fresh ha
    obtain ⟨f4, f5, f6⟩ := R.fresh hb0
    have R1 := (R.same (sub_new ha (.lst []))).own1 upd_same f1 f2 f3 (.slot i)
    have R2 := R1.same (sub_new hb (.lst []))
    have q6 : (Z.own1 w a (.slot i)).q b = none := by
      show (if b = a then some (Role.slot i) else w.q b) = none
      rw [if_neg hba]; exact f6
    have R3 := R2.own1 upd_same f4 f5 q6 (.slot j)
    have hA : upd (upd H a (.lst [])) b (.lst []) a = some (.lst []) := by rw [upd_ne (Ne.symm hba)]; exact upd_same
    have qa : (Z.own1 (Z.own1 w a (.slot i)) b (.slot j)).q a = some (.slot i) := by
      show (if a = b then some (Role.slot j) else if a = a then some (Role.slot i) else w.q a) = some (.slot i)
      rw [if_neg (Ne.symm hba), if_pos rfl]
    have R4 := R3.setV i (v := .ref a) (z := .own []) (.own qa hA .nil)
    have R5 := R4.setV j (v := .ref b) (z := .own []) (.own (if_pos rfl) upd_same .nil)
    exact g _ _ _ ((own1_le w a _).trans (own1_le _ b _)) R5
/-- a, b = e, f -/
def parM (i j : Nat) (m1 m2 : Mo D) : Mo Fl := m1 >>= fun x => m2 >>= fun y => putV i x >>= fun _ => putV j y >>= fun _ => pure .nx
theorem psm_par (i j : Nat) {ea eb : Expr} (hc : X.calm = true) (hN : X.N.Nodup) {px py pt : Pos} {kt k2 pt2} (ha : PEm X C W ea m1) (hb : PEm X C W eb m2) (hi : X.N[i]? = some x := by rfl) (hj : X.N[j]? = some y := by rfl) (hij : i ≠ j := by decide) (hx : X.env.scope.names.lookup x = some .local := by rfl) (hy : X.env.scope.names.lookup y = some .local := by rfl)
    (hw : swappedStores [.Tuple [.Name x px, .Name y py] kt pt] (.Tuple [ea, eb] k2 pt2) X.env = pure (some [x, y]) := by rfl) (hs : swapsWithSole [.Tuple [.Name x px, .Name y py] kt pt] (.Tuple [ea, eb] k2 pt2) pos.line X.env = pure false := by rfl)
    (hs1 : starEach (ea :: [eb]) X.env = (false, eval ea X.env) :: starEach [eb] X.env := by rfl) (hs2 : starEach (eb :: []) X.env = (false, eval eb X.env) :: starEach [] X.env := by rfl) :
    PSm X C W (.Assign [.Tuple [.Name x px, .Name y py] kt pt] (.Tuple [ea, eb] k2 pt2) pos) (parM i j m1 m2) :=
  (ps_par hc hN hi hj hij hx hy (pa_cons ha (pa_cons hb pa_nil hs2) hs1) hw hs).wk fun E σ H h => by
    refine (liftS.bind (pD X.K) h).mono fun v H1 ⟨w1, fr1, S1, d, R1, p1, g⟩ => ⟨w1, fr1, S1, R1, ?_⟩
    have g' : GoodS X.K C w1 W E (Rs.bind (m2 fr1 S1) fun y => putV i d >>= fun _ => putV j y >>= fun _ => pure .nx) := g
    refine (GoodS.bind (Rp := pD X.K) (σ := σ) g').mono fun v2 H2 ⟨w2, fr2, S2, d2, l, R2, p2, g2⟩ => ⟨v, v2, rfl, ?_⟩
    exact g2 w2 _ H2 (.refl w2) ((R2.setV i (.val (RepD.le l p1))).setV j (.val p2))

/-! ### op= -/
def augM (i : Nat) (m : Mo D) (f : D → D → Option D) : Mo Fl := getV i >>= fun x => m >>= fun y => ofO (f x y) >>= fun z => putV i z >>= fun _ => pure .nx
abbrev tipI : TIp := fun x y H Q => rI0 (fun i j => .int (i + j)) x y H Q ∨ ∃ i j, x = .str i ∧ y = .str j ∧ i.length + j.length ≤ sizeLine ∧ Q (.str (i ++ j)) H
def addIS : D → D → Option D
  | .int i, .int j => some (.int (i + j))
  | .str a, .str b => if a.length + b.length ≤ sizeLine then some (.str (a ++ b)) else none
  | _, _ => none
def subIS : D → D → Option D
  | .int i, .int j => some (.int (i - j))
  | _, _ => none
def TipM (X : Cx) (tip : TIp) (f : D → D → Option D) : Prop := ∀ (C : Cl) (w : Wd) (fr : List Sl) (S : List Ob) (σ : St) (H : Hp) (x y : V) (a b c : D) (Q : VK), Rel X.K C w fr S σ H → RepD X.K w.F w.m x a → RepD X.K w.F w.m y b → f a b = some c → (∀ v, RepD X.K w.F w.m v c → Q v H) → tip x y H Q
theorem tm_add : TipM X tipI addIS := by
  intro C w fr S σ H x y a b c Q R ra rb e q
  cases ra <;> cases rb <;> try cases e
  · exact .inl ⟨_, _, rfl, rfl, q _ (.int _)⟩
  · rename_i s t
    have e' : (if s.length + t.length ≤ sizeLine then some (D.str (s ++ t)) else none) = some c := e
    by_cases h : s.length + t.length ≤ sizeLine
    · rw [if_pos h] at e'
      cases e'
      exact .inr ⟨s, t, rfl, rfl, h, q _ (.str _)⟩
    · rw [if_neg h] at e'; cases e'
theorem ip_addA : PIp X .Add tipI := iop_add.or iop_add_str
theorem tm_sub : TipM X (rI0 fun i j => .int (i - j)) subIS := by
  intro C w fr S σ H x y a b c Q R ra rb e q
  cases ra <;> cases rb <;> try cases e
  exact ⟨_, _, rfl, rfl, q _ (.int _)⟩
theorem ip_subA : PIp X .Sub (rI0 fun i j => .int (i - j)) := iop_sub
theorem psm_aug (i : Nat) {op : Operator} {tip : TIp} {f : D → D → Option D} (hN : X.N.Nodup) (he : PEm X C W e m) (ho : PIp X op tip) (hm : TipM X tip f) (hi : X.N[i]? = some x := by rfl) (hx : Loc X.env.scope x := by first | exact Or.inl rfl | exact Or.inr rfl) (hf : X.fn x = true ∨ X.env.scope.names.lookup x = some .local := by first | exact .inl rfl | exact .inr rfl) :
    PSm X C W (.AugAssign (.Name x p) op e pos) (augM i m f) := by
  refine (ps_aug hN hi hx he ho hf).wk fun E σ H h => ?_
  obtain ⟨w, fr, S, R, g⟩ := h
  have g0 : GoodS X.K C w W E (Rs.bind (getV i fr S) fun x => m >>= fun y => ofO (f x y) >>= fun z => putV i z >>= fun _ => pure .nx) := g
  have rest : ∀ {w1 : Wd} {fr1 : List Sl} {v : V} {d : D}, Le w w1 → Rel X.K C w1 fr1 S σ H → RepD X.K w1.F w1.m v d → GoodS X.K C w W E (Rs.bind (m fr1 S) fun y => ofO (f d y) >>= fun z => putV i z >>= fun _ => pure .nx) →
      lift X.K C W (pD X.K) m σ H fun y H1 => tip v y H1 fun z H2 => E.nx (σ.set i (some z)) H2 := fun {w1 fr1 v d} l R1 rd g1 => by
    refine ⟨w1, fr1, S, R1, ?_⟩
    refine (GoodS.bind (Rp := pD X.K) (σ := σ) (GoodS.le l g1)).mono fun v2 H2 ⟨w2, fr2, S2, d2, l2, R2, p2, g2⟩ => ?_
    cases e : f d d2 with
    | none =>
      have g3 : GoodS X.K C w2 W E (Rs.bind (ofO (f d d2) fr2 S2) fun z => putV i z >>= fun _ => pure .nx) := g2
      rw [e] at g3
      exact g3.elim
    | some z =>
      have g3 : GoodS X.K C w2 W E (Rs.bind (ofO (f d d2) fr2 S2) fun z => putV i z >>= fun _ => pure .nx) := g2
      rw [e] at g3
      exact hm C w2 fr2 S2 σ H2 v v2 d d2 z _ R2 (RepD.le l2 rd) p2 e fun u ru => g3 w2 _ H2 (.refl w2) (R2.setV i (.val ru))
  unfold getV at g0
  cases e : fr[i]? with
  | none => rw [e] at g0; exact g0.elim
  | some y =>
    rw [e] at g0
    obtain ⟨v, hv, rs⟩ := sig_at R e
    cases rs with
    | un => exact g0.elim
    | val r => exact ⟨_, hv, rest (.refl w) R r g0⟩
    | own hq hH r =>
      obtain ⟨R', l⟩ := R.frz hq hH hv (.lst upd_same (r.mono (sub_new (R.rol _ _ hq).1 _) (.refl _)))
      exact ⟨_, hv, rest l R' (.lst upd_same (r.mono (sub_new (R.rol _ _ hq).1 _) (.refl _))) g0⟩
    | ownd hq hH r =>
      obtain ⟨R', l⟩ := R.frz hq hH hv (.dct upd_same (r.mono (sub_new (R.rol _ _ hq).1 _) (.refl _)))
      exact ⟨_, hv, rest l R' (.dct upd_same (r.mono (sub_new (R.rol _ _ hq).1 _) (.refl _))) g0⟩
/-- xs += e, xs a list of one's own -/
def augT (j : Nat) (d : D) (ds : List D) : Mo Fl := match d with
  | .lst es => if ds.length + es.length ≤ sizeLine then (putOwn j (ds ++ es) >>= fun _ => pure .nx) else Mo.stuck
  | _ => Mo.stuck
def augO (j : Nat) (m : Mo D) : Mo Fl := rdOwn j >>= fun _ => m >>= fun d => rdOwn j >>= fun ds => augT j d ds
theorem ip_ext : PIp X .Add rExt2 := iop_ext
theorem set_same {α : Type} : ∀ {l : List α} {i : Nat} {x : α}, l[i]? = some x → l.set i x = l
  | [], _, _, h => by simp at h
  | a :: l, 0, x, h => by simp at h; subst h; rfl
  | a :: l, i + 1, x, h => by
    have h' : l[i]? = some x := by simpa using h
    show a :: l.set i x = a :: l
    rw [set_same h']
theorem GoodS.own {K : PySem.W.Frag} {w : Wd} {fr : List Sl} {S : List Ob} {E : Ends} {i : Nat} {k : List D → Mo Fl} (g : GoodS K C w W E (Rs.bind (rdOwn i fr S) k)) : ∃ ds, ownAt i fr = some ds ∧ GoodS K C w W E (k ds fr S) := by
  unfold rdOwn at g
  cases e : ownAt i fr with
  | none => rw [e] at g; exact g.elim
  | some ds => rw [e] at g; exact ⟨ds, rfl, g⟩
theorem psm_augO (j : Nat) (hN : X.N.Nodup) (he : PEm X C W e m) (hi : X.N[j]? = some x := by rfl) (hx : Loc X.env.scope x := by first | exact Or.inl rfl | exact Or.inr rfl) (hf : X.fn x = true ∨ X.env.scope.names.lookup x = some .local := by first | exact .inl rfl | exact .inr rfl) :
    PSm X C W (.AugAssign (.Name x p) .Add e pos) (augO j m) := by
  refine (ps_aug hN hi hx he ip_ext hf).wk fun E σ H h => ?_
  obtain ⟨w, fr, S, R, g⟩ := h
  obtain ⟨ds0, e, g1⟩ := GoodS.own (k := fun _ => m >>= fun d => rdOwn j >>= fun ds => augT j d ds) g
  obtain ⟨_, a, _, hσ, _⟩ := ownAt_some R e
  refine ⟨_, hσ, w, fr, S, R, ?_⟩
  have g1' : GoodS X.K C w W E (Rs.bind (m fr S) fun d => rdOwn j >>= fun ds => augT j d ds) := g1
  refine (GoodS.bind (Rp := pD X.K) (σ := σ) g1').mono fun v2 H2 ⟨w2, fr2, S2, d2, l2, R2, p2, g2⟩ => ?_
  obtain ⟨ds, e2, g3⟩ := GoodS.own (k := fun ds => augT j d2 ds) g2
  obtain ⟨_, a', vs, hσ', hq, hH, r⟩ := ownAt_some R2 e2
  rw [hσ] at hσ'
  cases hσ'
  unfold augT at g3
  cases p2 with
  | @lst b zs es hb lz =>
    dsimp only at g3
    by_cases z : ds.length + es.length ≤ sizeLine
    · rw [if_pos z] at g3
      refine ⟨a, b, vs, zs, rfl, rfl, hH, R2.subF _ _ hb, by rw [r.length, lz.length]; exact z, ?_⟩
      have R3 := R2.wrOwn (ds := ds ++ es) hσ hq (r.append lz)
      show E.nx (σ.set j (some (.ref a))) _
      rw [set_same hσ]
      exact g3 w2 σ _ (.refl w2) R3
    · rw [if_neg z] at g3; exact g3.elim
  | _ => exact g3.elim
end
end Z
set_option Elab.async false
set_option linter.all false
set_option maxRecDepth 100000
/-! Z7: fields and subscripts written, for, comprehensions. -/
namespace Z
open PySem L2

/-! ### fields written -/
def wipeS (f : Str) : List (Str × Sl) → List (Str × Sl)
  | [] => []
  | (g, x) :: r => (g, if g = f then .un else x) :: wipeS f r
/-- the first f of them is z; what is named f behind it is forgotten -/
def putS (f : Str) (z : Sl) : List (Str × Sl) → List (Str × Sl)
  | [] => [(f, z)]
  | (g, x) :: r => if g = f then (g, z) :: wipeS f r else (g, x) :: putS f z r
section
variable {K : PySem.W.Frag} {C : Cl} {w : Wd} {fr : List Sl} {S : List Ob} {σ : St} {H H' : Hp} {r : Nat}
theorem repFs_wipe (f : Str) (hH : ∀ b o g, w.q b = some (.fld r g) → g ≠ f → H b = some o → H' b = some o) : ∀ {fv : List (Str × V)} {fs : List (Str × Sl)}, RepFs K w H r fv fs → RepFs K w H' r fv (wipeS f fs)
  | _, _, .nil => .nil
  | (a, v) :: fv, (g, x) :: fs, .cons h l => by
    refine .cons ⟨h.1, ?_⟩ (repFs_wipe f hH l)
    have hg : a = g := h.1
    subst hg
    show RepS K w H' (.fld r a) (some v) (if a = f then .un else x)
    by_cases e : a = f
    · rw [if_pos e]; exact .un
    · rw [if_neg e]; exact h.2.le (.refl w) (fun _ z => z) fun b o q z => hH b o _ q e z
theorem repFs_put {f : Str} {v : V} {z : Sl} (hz : RepS K w H' (.fld r f) (some v) z) (hH : ∀ b o g, w.q b = some (.fld r g) → g ≠ f → H b = some o → H' b = some o) : ∀ {fv : List (Str × V)} {fs : List (Str × Sl)}, RepFs K w H r fv fs → RepFs K w H' r (putF f v fv) (putS f z fs)
  | _, _, .nil => .cons ⟨rfl, hz⟩ .nil
  | (a, u) :: fv, (g, x) :: fs, .cons h l => by
    have hg : a = g := h.1
    subst hg
    show RepFs K w H' r (if a = f then (a, v) :: fv else (a, u) :: putF f v fv) (if a = f then (a, z) :: Z.wipeS f fs else (a, x) :: putS f z fs)
    by_cases e : a = f
    · rw [if_pos e, if_pos e]
      subst e
      exact .cons ⟨rfl, hz⟩ (repFs_wipe _ hH l)
    · rw [if_neg e, if_neg e]
      exact .cons ⟨rfl, h.2.le (.refl w) (fun _ z => z) fun b o q z => hH b o _ q e z⟩ (repFs_put hz hH l)
theorem repFs_length : ∀ {fv : List (Str × V)} {fs : List (Str × Sl)}, RepFs K w H r fv fs → fv.length = fs.length
  | _, _, .nil => rfl
  | _ :: _, _ :: _, .cons _ l => congrArg (· + 1) (repFs_length l)
/-- a field of a shared instance is stored -/
theorem Rel.fld (R : Rel K C w fr S σ H) {a : Addr} {c : Nat} {dx : Addr} {fv : List (Str × V)} {fs : List (Str × Sl)} {f : Str} {v : V} {z : Sl} (hm : w.m[r]? = some a) (hS : S[r]? = some (.ins c fs)) (hr : RepFs K w H r fv fs) (hz : RepS K w H (.fld r f) (some v) z) :
    Rel K C w fr (S.set r (.ins c (putS f z fs))) σ (upd H a (.ins (C.cl c) dx (putF f v fv))) := by
  obtain ⟨hq, _⟩ := R.obj r a _ hm hS
  have keep : ∀ {b : Addr} {o : HO} {role : Role}, w.q b = some role → role ≠ .obj r → H b = some o → upd H a (.ins (C.cl c) dx (putF f v fv)) b = some o := fun {b o role} hb n z => by
    rw [upd_ne (ne_role hq hb fun y => n y.symm)]; exact z
  refine R.wr hq (List.length_set) rfl (fun j x v e1 e2 => ?_) (fun r' b ob e1 e2 => ?_) fun r' b _ ob e => ?_
  · exact (R.slot j x v e1 e2).le (.refl w) (fun _ z => z) fun b o hb z => keep hb (fun y => by cases y) z
  · by_cases h : r' = r
    · subst h
      rw [hm] at e1
      cases e1
      rw [List.getElem?_set_self (List.getElem?_eq_some_iff.mp hS).1] at e2
      cases e2
      refine .ins upd_same (repFs_put (hz.le (.refl w) (fun _ z => z) fun b o q z => keep q (fun y => by cases y) z) (fun b o g q _ z => keep q (fun y => by cases y) z) hr)
    · rw [List.getElem?_set_ne (Ne.symm h)] at e2
      obtain ⟨x, y⟩ := R.obj r' b ob e1 e2
      exact y.le (.refl w) (fun _ _ z => z) (fun b o f hb z => keep hb (fun y => by cases y) z) fun o z => keep x (fun y => h (by injection y)) z
  · by_cases h : r' = r
    · subst h; exact ⟨_, hS⟩
    · rw [List.getElem?_set_ne (Ne.symm h)] at e; exact ⟨_, e⟩
/-- a field's own list gets other items -/
theorem Rel.wrFld (R : Rel K C w fr S σ H) {a b : Addr} {c : Nat} {fs : List (Str × Sl)} {f : Str} {ds0 ds : List D} {vs : List V} (hm : w.m[r]? = some a) (hS : S[r]? = some (.ins c fs)) (hl : fs.lookup f = some (.own ds0))
    (hq : w.q b = some (.fld r f)) (hb : ∀ dx fv, H a = some (.ins (C.cl c) dx fv) → fv.lookup f = some (.ref b)) (rl : RepL K w.F w.m vs ds) : Rel K C w fr (S.set r (.ins c (putS f (.own ds) fs))) σ (upd H b (.lst vs)) := by
  obtain ⟨hqa, ro⟩ := R.obj r a _ hm hS
  have keep : ∀ {x : Addr} {o : HO} {role : Role}, w.q x = some role → role ≠ .fld r f → H x = some o → upd H b (.lst vs) x = some o := fun {x o role} hx n z => by
    rw [upd_ne (ne_role hq hx fun y => n y.symm)]; exact z
  refine R.wr hq (List.length_set) rfl (fun j x v e1 e2 => ?_) (fun r' b' ob e1 e2 => ?_) fun r' b _ ob e => ?_
  · exact (R.slot j x v e1 e2).le (.refl w) (fun _ z => z) fun b o hb z => keep hb (fun y => by cases y) z
  · by_cases h : r' = r
    · subst h
      rw [hm] at e1
      cases e1
      rw [List.getElem?_set_self (List.getElem?_eq_some_iff.mp hS).1] at e2
      cases e2
      cases ro with
      | @ins _ dx fv _ h1 h2 =>
        have hfl := hb dx fv h1
        have hp : putF f (.ref b) fv = fv := by
          clear h1 h2 hb
          induction fv with
          | nil => cases hfl
          | cons p fv ih =>
            obtain ⟨g, x⟩ := p
            show (if g = f then (g, V.ref b) :: fv else (g, x) :: putF f (.ref b) fv) = _
            rw [List.lookup_cons] at hfl
            by_cases e : g = f
            · subst e
              rw [show (g == g) = true by simp] at hfl
              cases hfl
              rw [if_pos rfl]
            · rw [if_neg e]
              rw [show (f == g) = false from beq_eq_false_iff_ne.mpr (Ne.symm e)] at hfl
              rw [ih hfl]
        have h3 := repFs_put (H' := upd H b (.lst vs)) (f := f) (v := .ref b) (z := .own ds) (.own hq upd_same rl) (fun x o g q n z => keep q (fun y => n (by injection y)) z) h2
        rw [hp] at h3
        exact .ins (keep hqa (fun y => by cases y) h1) h3
    · rw [List.getElem?_set_ne (Ne.symm h)] at e2
      obtain ⟨x, y⟩ := R.obj r' b' ob e1 e2
      exact y.le (.refl w) (fun _ _ z => z) (fun b o f hb z => keep hb (fun y => h (by injection y)) z) fun o z => keep x (fun y => by cases y) z
  · by_cases h : r' = r
    · subst h; exact ⟨_, hS⟩
    · rw [List.getElem?_set_ne (Ne.symm h)] at e; exact ⟨_, e⟩
end

def putFld (c : Nat) (f : Str) (o : D) (z : Sl) : Mo Unit := fun fr S => match o with
  | .ptr r => match S[r]? with
    | some (.ins c' fs) => if c' = c ∧ fs.length < 1000 then .ok () fr (S.set r (.ins c (putS f z fs))) else .stuck
    | _ => .stuck
  | _ => .stuck
section
variable {X : Cx} {C : Cl} {W : WX} {c : Nat} {e o : Expr} {m mo mi m1 m2 : Mo D} {u : Mo (List D)} {p p2 pos apos : Pos} {x f : Str}
theorem putFld_some {w : Wd} {fr : List Sl} {S : List Ob} {σ : St} {H : Hp} {E : Ends} {k : Mo Fl} {v : V} {d : D} {z : Sl} {K : PySem.W.Frag} (R : Rel K C w fr S σ H) (rd : RepD K w.F w.m v d) (g : GoodS K C w W E (Rs.bind (putFld c f d z fr S) fun _ => k)) :
    ∃ r a dx fv fs, d = .ptr r ∧ v = .ref a ∧ w.m[r]? = some a ∧ S[r]? = some (.ins c fs) ∧ H a = some (.ins (C.cl c) dx fv) ∧ RepFs K w H r fv fs ∧ fs.length < 1000 ∧ GoodS K C w W E (k fr (S.set r (.ins c (putS f z fs)))) := by
  cases rd with
  | @ptr a r hm =>
    unfold putFld at g
    dsimp only at g
    cases e : S[r]? with
    | none => rw [e] at g; exact g.elim
    | some ob =>
      rw [e] at g
      cases ob with
      | lst ds => exact g.elim
      | ins c' fs =>
        dsimp only at g
        by_cases h : c' = c ∧ fs.length < 1000
        · rw [if_pos h] at g
          obtain ⟨h1, h2⟩ := h
          subst h1
          obtain ⟨_, ro⟩ := R.ob hm e
          cases ro with
          | ins h3 h4 => exact ⟨r, a, _, _, fs, rfl, rfl, hm, e, h3, h4, h2, g⟩
        · rw [if_neg h] at g; exact g.elim
  | _ => exact g.elim
def setFldM (c : Nat) (f : Str) (mo m : Mo D) : Mo Fl := m >>= fun d => mo >>= fun o => putFld c f o (.val d) >>= fun _ => pure .nx
theorem psm_fld (hc : Cls X.K (C.cl c)) (hn : NoAttr X.K (C.cl c) f) (ho : PEm X C W o mo) (he : PEm X C W e m) (hs : swapsWith e (some (.Attribute o f p)) pos.line X.env = pure false := by rfl) : PSm X C W (.Assign [.Attribute o f p] e pos) (setFldM c f mo m) :=
  (ps_fld ho he hs).wk fun E σ H h => (liftS.bind (pD X.K) h).mono fun v H1 ⟨w1, fr1, S1, d, R1, p1, g⟩ => ⟨w1, fr1, S1, R1, by
    have g' : GoodS X.K C w1 W E (Rs.bind (mo fr1 S1) fun o => putFld c f o (.val d) >>= fun _ => pure .nx) := g
    refine (GoodS.bind (Rp := pD X.K) (σ := σ) g').mono fun x H2 ⟨w2, fr2, S2, o, l, R2, p2, g2⟩ => ?_
    obtain ⟨r, a, dx, fv, fs, ed, ev, hm, hS, hH, hr, hl, g3⟩ := putFld_some (k := pure .nx) R2 p2 g2
    subst ev
    refine ⟨a, _, dx, fv, rfl, hH, hc, hn, by rw [repFs_length hr]; exact hl, ?_⟩
    exact g3 w2 σ _ (.refl w2) (R2.fld hm hS hr (.val (RepD.le l p1)))⟩
/-- the shared object that a name stands for -/
def slotPtr (i : Nat) (fr : List Sl) : Option Nat := match fr[i]? with
  | some (.val (.ptr r)) => some r
  | _ => none
theorem slotPtr_some {K : PySem.W.Frag} {w : Wd} {fr : List Sl} {S : List Ob} {σ : St} {H : Hp} {i r : Nat} (R : Rel K C w fr S σ H) (h : slotPtr i fr = some r) : ∃ a, σ[i]? = some (some (.ref a)) ∧ w.m[r]? = some a := by
  unfold slotPtr at h
  cases e : fr[i]? with
  | none => rw [e] at h; cases h
  | some y =>
    rw [e] at h
    cases y with
    | val d =>
      cases d with
      | ptr r' =>
        have h' := Option.some.inj h
        subst h'
        obtain ⟨v, hv, rs⟩ := sig_at R e
        cases rs with
        | val rd =>
          cases rd with
          | ptr hm => exact ⟨_, hv, hm⟩
      | _ => cases h
    | _ => cases h
def setFldO (c : Nat) (f : Str) (i : Nat) (u : Mo (List D)) : Mo Fl := u >>= fun ds fr S => match slotPtr i fr with
  | some r => (putFld c f (.ptr r) (.own ds) >>= fun _ => pure .nx) fr S
  | none => .stuck
theorem psm_fldO (i : Nat) (hc : Cls X.K (C.cl c)) (hn : NoAttr X.K (C.cl c) f) (he : PUm X C W e u) (hN : X.N[i]? = some x := by rfl) (hv : Vis X.env.scope x := by first | exact Or.inl rfl | exact Or.inr (Or.inl rfl) | exact Or.inr (Or.inr rfl)) (hd : (x == ("__debug__" : Str)) = false := by decide) (hcd : (x == ("__classdict__" : Str)) = false := by decide)
    (hs : swapsWith e (some (.Attribute (.Name x p2) f p)) pos.line X.env = pure false := by rfl) : PSm X C W (.Assign [.Attribute (.Name x p2) f p] e pos) (setFldO c f i u) :=
  (ps_fld (pe_var hN hv hd hcd) he hs).wk fun E σ H h => (liftS.bind (pU X.K) h).mono fun v H1 ⟨w1, fr1, S1, ds, R1, p1, g⟩ => by
    cases e : slotPtr i fr1 with
    | none => rw [e] at g; exact g.elim
    | some r =>
      rw [e] at g
      obtain ⟨a, hσ, hm⟩ := slotPtr_some R1 e
      obtain ⟨b, vs, rfl, hH, rl, hF, hP, hq⟩ := p1.ex
      obtain ⟨r', a', dx, fv, fs, ed, ev, hm', hS, hHa, hr, hl, g3⟩ := putFld_some (k := pure .nx) R1 (v := .ref a) (.ptr hm) g
      cases ed
      cases ev
      refine ⟨_, hσ, a, _, dx, fv, rfl, hHa, hc, hn, by rw [repFs_length hr]; exact hl, ?_⟩
      have R2 := R1.own1 hH hF hP hq (.fld r f)
      have l2 := own1_le w1 b (.fld r f)
      have qk : ∀ {b' : Addr} {z : Role}, w1.q b' = some z → (own1 w1 b (.fld r f)).q b' = some z := fun {b' z} e => by
        show (if b' = b then some (Role.fld r f) else w1.q b') = some z
        rw [if_neg (fun y => by rw [y, hq] at e; cases e)]
        exact e
      have hr2 : RepFs X.K (own1 w1 b (.fld r f)) H1 r fv fs := hr.le l2 (fun a f => qk) fun _ _ _ _ z => z
      exact g3 _ σ _ l2 (R2.fld hm hS hr2 (.own (if_pos rfl) hH (rl.le l2)))
/-- a fresh dict -/
abbrev PDm (X : Cx) (C : Cl) (W : WX) (e : Expr) (m : Mo (List (Key × D))) : Prop := PE X e (lift X.K C W (pUD X.K) m)
def setFldD (c : Nat) (f : Str) (i : Nat) (u : Mo (List (Key × D))) : Mo Fl := u >>= fun ds fr S => match slotPtr i fr with
  | some r => (putFld c f (.ptr r) (.ownd ds) >>= fun _ => pure .nx) fr S
  | none => .stuck
theorem psm_fldD {u : Mo (List (Key × D))} (i : Nat) (hc : Cls X.K (C.cl c)) (hn : NoAttr X.K (C.cl c) f) (he : PDm X C W e u) (hN : X.N[i]? = some x := by rfl) (hv : Vis X.env.scope x := by first | exact Or.inl rfl | exact Or.inr (Or.inl rfl) | exact Or.inr (Or.inr rfl)) (hd : (x == ("__debug__" : Str)) = false := by decide) (hcd : (x == ("__classdict__" : Str)) = false := by decide)
    (hs : swapsWith e (some (.Attribute (.Name x p2) f p)) pos.line X.env = pure false := by rfl) : PSm X C W (.Assign [.Attribute (.Name x p2) f p] e pos) (setFldD c f i u) :=
  (ps_fld (pe_var hN hv hd hcd) he hs).wk fun E σ H h => (liftS.bind (pUD X.K) h).mono fun v H1 ⟨w1, fr1, S1, ds, R1, p1, g⟩ => by
    cases e : slotPtr i fr1 with
    | none => rw [e] at g; exact g.elim
    | some r =>
      rw [e] at g
      obtain ⟨a, hσ, hm⟩ := slotPtr_some R1 e
      obtain ⟨b, vs, rfl, hH, rl, hF, hP, hq⟩ := p1.ex
      obtain ⟨r', a', dx, fv, fs, ed, ev, hm', hS, hHa, hr, hl, g3⟩ := putFld_some (k := pure .nx) R1 (v := .ref a) (.ptr hm) g
      cases ed
      cases ev
      refine ⟨_, hσ, a, _, dx, fv, rfl, hHa, hc, hn, by rw [repFs_length hr]; exact hl, ?_⟩
      have R2 := R1.own1 hH hF hP hq (.fld r f)
      have l2 := own1_le w1 b (.fld r f)
      have qk : ∀ {b' : Addr} {z : Role}, w1.q b' = some z → (own1 w1 b (.fld r f)).q b' = some z := fun {b' z} e => by
        show (if b' = b then some (Role.fld r f) else w1.q b') = some z
        rw [if_neg (fun y => by rw [y, hq] at e; cases e)]
        exact e
      have hr2 : RepFs X.K (own1 w1 b (.fld r f)) H1 r fv fs := hr.le l2 (fun a f => qk) fun _ _ _ _ z => z
      exact g3 _ σ _ l2 (R2.fld hm hS hr2 (.ownd (if_pos rfl) hH (rl.le l2)))
/-- o.f op= e -/
def RdM (rd : V → V → Hp → VK → Prop) (g : D → D → Option D) : Prop := ∀ (K : PySem.W.Frag) (w : Wd) (H : Hp) (x y : V) (a b z : D) (Q : VK), RepD K w.F w.m x a → RepD K w.F w.m y b → g a b = some z → (∀ v, RepD K w.F w.m v z → Q v H) → rd x y H Q
def addI : D → D → Option D
  | .int i, .int j => some (.int (i + j))
  | _, _ => none
theorem rdm_add : RdM rAdd addI := by
  intro K w H x y a b z Q ra rb e q
  cases ra <;> cases rb <;> try cases e
  exact ⟨_, _, rfl, rfl, q _ (.int _)⟩
theorem rdm_sub : RdM rSub subIS := by
  intro K w H x y a b z Q ra rb e q
  cases ra <;> cases rb <;> try cases e
  exact ⟨_, _, rfl, rfl, q _ (.int _)⟩
def augFldM (c : Nat) (f : Str) (mo m : Mo D) (g : D → D → Option D) : Mo Fl := mo >>= fun o => getF c f o >>= fun x => m >>= fun y => ofO (g x y) >>= fun z => putFld c f o (.val z) >>= fun _ => pure .nx
theorem getF_some {w : Wd} {fr : List Sl} {S : List Ob} {σ : St} {H : Hp} {E : Ends} {k : D → Mo Fl} {v : V} {d : D} {K : PySem.W.Frag} (R : Rel K C w fr S σ H) (rd : RepD K w.F w.m v d) (g : GoodS K C w W E (Rs.bind (getF c f d fr S) k)) :
    ∃ r a dx fv fs u z, d = .ptr r ∧ v = .ref a ∧ w.m[r]? = some a ∧ S[r]? = some (.ins c fs) ∧ H a = some (.ins (C.cl c) dx fv) ∧ RepFs K w H r fv fs ∧ fv.lookup f = some u ∧ RepD K w.F w.m u z ∧ GoodS K C w W E (k z fr S) := by
  cases rd with
  | @ptr a r hm =>
    unfold getF at g
    dsimp only at g
    cases e : S[r]? with
    | none => rw [e] at g; exact g.elim
    | some ob =>
      rw [e] at g
      cases ob with
      | lst ds => exact g.elim
      | ins c' fs =>
        dsimp only at g
        by_cases h : c' = c
        · subst h
          rw [if_pos rfl] at g
          obtain ⟨_, ro⟩ := R.ob hm e
          cases ro with
          | ins h1 h2 =>
            cases e2 : fs.lookup f with
            | none => rw [e2] at g; exact g.elim
            | some s =>
              rw [e2] at g
              obtain ⟨u, hu, rs⟩ := h2.some e2
              cases rs with
              | val rd => exact ⟨r, a, _, _, fs, u, _, rfl, rfl, hm, e, h1, h2, hu, rd, g⟩
              | un => exact g.elim
              | own _ _ _ => exact g.elim
              | ownd _ _ _ => exact g.elim
        · rw [if_neg h] at g; exact g.elim
  | _ => exact g.elim
theorem psm_fldaug {op : Operator} {rd : V → V → Hp → VK → Prop} {g : D → D → Option D} (hc : Cls X.K (C.cl c)) (hn : NoAttr X.K (C.cl c) f) (ho : PEm X C W o mo) (he : PEm X C W e m) (hop : InOp X op rd) (hg : RdM rd g) :
    PSm X C W (.AugAssign (.Attribute o f p) op e pos) (augFldM c f mo m g) :=
  (ps_fldaug ho he hop).wk fun E σ H h => (liftS.bind (pD X.K) h).mono fun v H1 ⟨w1, fr1, S1, d, R1, p1, gg⟩ => by
    obtain ⟨r, a, dx, fv, fs, u, z, ed, ev, hm, hS, hH, hr, hu, ru, g2⟩ := getF_some (k := fun x => m >>= fun y => ofO (g x y) >>= fun z => putFld c f d (.val z) >>= fun _ => pure .nx) R1 p1 gg
    subst ed
    subst ev
    refine ⟨a, _, dx, fv, u, rfl, hH, hc, hn, hu, w1, fr1, S1, R1, ?_⟩
    have g2' : GoodS X.K C w1 W E (Rs.bind (m fr1 S1) fun y => ofO (g z y) >>= fun z => putFld c f (.ptr r) (.val z) >>= fun _ => pure .nx) := g2
    refine (GoodS.bind (Rp := pD X.K) (σ := σ) g2').mono fun y H2 ⟨w2, fr2, S2, b, l, R2, p2, g3⟩ => ?_
    have g3' : GoodS X.K C w2 W E (Rs.bind (ofO (g z b) fr2 S2) fun z => putFld c f (.ptr r) (.val z) >>= fun _ => pure .nx) := g3
    cases e3 : g z b with
    | none => rw [e3] at g3'; exact g3'.elim
    | some t =>
      rw [e3] at g3'
      refine hg X.K w2 H2 u y z b t _ (RepD.le l ru) p2 e3 fun v' rv => ?_
      obtain ⟨r', a', dx', fv', fs', ed, ev, hm', hS', hH', hr', hl', g4⟩ := putFld_some (k := pure .nx) R2 (v := .ref a) (.ptr (l.m _ _ hm)) g3'
      cases ed
      cases ev
      exact ⟨dx', fv', hH', by rw [repFs_length hr']; exact hl', g4 w2 σ _ (.refl w2) (R2.fld hm' hS' hr' (.val rv))⟩

/-! ### a field's own thing is frozen when read -/
def getZ (c : Nat) (f : Str) (o : D) : Mo D := fun fr S => match o with
  | .ptr r => match S[r]? with
    | some (.ins c' fs) => if c' = c then (match fs.lookup f with
      | some (.val d) => .ok d fr S
      | some (.own ds) => .ok (.lst ds) fr (S.set r (.ins c (putS f (.val (.lst ds)) fs)))
      | _ => .stuck) else .stuck
    | _ => .stuck
  | _ => .stuck
theorem repFs_putV {K : PySem.W.Frag} {w w' : Wd} {H : Hp} {r : Nat} (l : Le w w') {f : Str} {z : Sl} (hq : ∀ b g, w.q b = some (.fld r g) → g ≠ f → w'.q b = some (.fld r g)) : ∀ {fv : List (Str × V)} {fs : List (Str × Sl)}, RepFs K w H r fv fs → (∀ v, fv.lookup f = some v → RepS K w' H (.fld r f) (some v) z) → (fv.lookup f).isSome = true → RepFs K w' H r fv (putS f z fs)
  | _, _, .nil, _, h => by cases h
  | (a, v) :: fv, (g, x) :: fs, .cons h t, hz, hs => by
    have hg : a = g := h.1
    subst hg
    show RepFs K w' H r ((a, v) :: fv) (if a = f then (a, z) :: Z.wipeS f fs else (a, x) :: putS f z fs)
    by_cases e : a = f
    · rw [if_pos e]
      subst e
      refine .cons ⟨rfl, hz v (by rw [List.lookup_cons]; simp)⟩ ?_
      clear hz hs
      induction t with
      | nil => exact .nil
      | @cons p q t1 t2 h1 h2 ih =>
        obtain ⟨a1, v1⟩ := p
        obtain ⟨g1, x1⟩ := q
        have hg1 : a1 = g1 := h1.1
        subst hg1
        refine .cons ⟨rfl, ?_⟩ ih
        show RepS K w' H (.fld r a1) (some v1) (if a1 = a then .un else x1)
        by_cases e1 : a1 = a
        · rw [if_pos e1]; exact .un
        · rw [if_neg e1]; exact h1.2.le l (fun b q => hq b _ q e1) fun _ _ _ z => z
    · rw [if_neg e]
      have e' : (f == a) = false := beq_eq_false_iff_ne.mpr (Ne.symm e)
      rw [List.lookup_cons, e'] at hs
      refine .cons ⟨rfl, h.2.le l (fun b q => hq b _ q e) fun _ _ _ z => z⟩ (repFs_putV l hq t (fun u hu => hz u (by rw [List.lookup_cons, e']; exact hu)) hs)
theorem Rel.frzF {K : PySem.W.Frag} {w : Wd} {fr : List Sl} {S : List Ob} {σ : St} {H : Hp} (R : Rel K C w fr S σ H) {r : Nat} {a b dx : Addr} {c : Nat} {fv : List (Str × V)} {fs : List (Str × Sl)} {vs : List V} {ds : List D} (hm : w.m[r]? = some a) (hS : S[r]? = some (.ins c fs)) (hH : H a = some (.ins (C.cl c) dx fv)) (hr : RepFs K w H r fv fs) (hl : fv.lookup f = some (.ref b))
    (hq : w.q b = some (.fld r f)) (hb : H b = some (.lst vs)) (rl : RepL K w.F w.m vs ds) :
    ∃ w', Le w w' ∧ Rel K C w' fr (S.set r (.ins c (putS f (.val (.lst ds)) fs))) σ H ∧ RepD K w'.F w'.m (.ref b) (.lst ds) := by
  obtain ⟨hF, hP, _⟩ := R.rol b _ hq
  have l : Le w { w with F := upd w.F b (.lst vs), q := fun x => if x = b then none else w.q x } := ⟨sub_new hF _, rfl, .refl _⟩
  have qn : ∀ {x : Addr} {z : Role}, w.q x = some z → z ≠ .fld r f → (if x = b then none else w.q x) = some z := fun {x z} e ne => by
    rw [if_neg (fun y => by rw [y, hq] at e; exact ne (Option.some.inj e).symm)]
    exact e
  have rd : RepD K (upd w.F b (.lst vs)) w.m (.ref b) (.lst ds) := .lst upd_same (rl.mono (sub_new hF _) (.refl _))
  refine ⟨_, l, ⟨fun x u e => ?_, R.subP, fun x u e => ?_, fun x z e => ?_, by rw [List.length_set]; exact R.len, R.len2, fun j x v e1 e2 => ?_, fun r' x ob e1 e2 => ?_, C.mono _ _ l.F R.amb⟩, rd⟩
  · by_cases hx : x = b
    · subst hx
      have e' : upd w.F x (.lst vs) x = some u := e
      rw [upd_same] at e'
      cases e'
      exact hb
    · have e' : upd w.F b (.lst vs) x = some u := e
      rw [upd_ne hx] at e'
      exact R.subF x u e'
  · by_cases hx : x = b
    · subst hx; exact hP
    · have e' : upd w.F b (.lst vs) x = some u := e
      rw [upd_ne hx] at e'
      exact R.dis x u e'
  · have e' : (if x = b then none else w.q x) = some z := e
    by_cases hx : x = b
    · rw [if_pos hx] at e'; cases e'
    · rw [if_neg hx] at e'
      obtain ⟨y1, y2, y3⟩ := R.rol x z e'
      exact ⟨by show upd w.F b (.lst vs) x = none; rw [upd_ne hx]; exact y1, y2, y3⟩
  · exact (R.slot j x v e1 e2).le l (fun b z => qn z fun y => by cases y) fun _ _ _ z => z
  · by_cases h : r' = r
    · subst h
      rw [hm] at e1
      cases e1
      rw [List.getElem?_set_self (List.getElem?_eq_some_iff.mp hS).1] at e2
      cases e2
      refine ⟨qn (R.obj r' a _ hm hS).1 (fun z => by cases z), .ins hH (repFs_putV l (fun x g q n => qn q fun y => n (by injection y)) hr (fun v hv => ?_) (by rw [hl]; rfl))⟩
      rw [hl] at hv
      cases hv
      exact .val rd
    · rw [List.getElem?_set_ne (Ne.symm h)] at e2
      obtain ⟨x1, y1⟩ := R.obj r' x ob e1 e2
      exact ⟨qn x1 (fun z => by cases z), y1.le l (fun b f z => qn z fun y => h (by injection y)) (fun _ _ _ _ z => z) fun _ z => z⟩
def fldZ (c : Nat) (f : Str) (m : Mo D) : Mo D := m >>= fun o => getZ c f o
theorem pem_fldZ (hc : Cls X.K (C.cl c)) (hn : NoAttr X.K (C.cl c) f) (ho : PEm X C W o mo) (hb : attributeBase o f X.env (eval o X.env) = eval o X.env := by rfl) : PEm X C W (.Attribute o f pos) (fldZ c f mo) := by
  refine (pe_fld ho hb).wk fun σ H Q h => ?_
  refine (lift.bind (Rp := pD X.K) h).mono fun v H1 ⟨w1, fr1, S1, d, R1, p1, g⟩ => ?_
  cases p1 with
  | @ptr a r hm =>
    unfold getZ at g
    dsimp only at g
    cases e : S1[r]? with
    | none => rw [e] at g; exact g.elim
    | some ob =>
      rw [e] at g
      cases ob with
      | lst ds => exact g.elim
      | ins c' fs =>
        dsimp only at g
        by_cases z : c' = c
        · subst z
          rw [if_pos rfl] at g
          obtain ⟨_, ro⟩ := R1.ob hm e
          cases ro with
          | ins h1 h2 =>
            cases e2 : fs.lookup f with
            | none => rw [e2] at g; exact g.elim
            | some s =>
              rw [e2] at g
              obtain ⟨u, hu, rs⟩ := h2.some e2
              cases rs with
              | val rd => exact ⟨a, _, _, _, u, rfl, h1, hc, hn, hu, g w1 H1 u (.refl _) R1 rd⟩
              | un => exact g.elim
              | own hq hb rl =>
                obtain ⟨w', l, R', rd⟩ := R1.frzF hm e h1 h2 hu hq hb rl
                exact ⟨a, _, _, _, _, rfl, h1, hc, hn, hu, g w' H1 _ l R' rd⟩
              | ownd _ _ _ => exact g.elim
        · rw [if_neg z] at g; exact g.elim
  | _ => exact g.elim

/-! ### expressions that only read -/
abbrev Pr := List Sl → List Ob → Option D
def PPm (X : Cx) (C : Cl) (e : Expr) (g : Pr) : Prop := PE X e fun σ H Q => ∃ w fr S d, Rel X.K C w fr S σ H ∧ g fr S = some d ∧ ∀ v, RepD X.K w.F w.m v d → Q v H
def prV (i : Nat) : Pr := fun fr S => match fr[i]? with
  | some (.val d) => some d
  | _ => none
def prK (d : D) : Pr := fun _ _ => some d
def prIx (g h : Pr) : Pr := fun fr S => (g fr S).bind fun a => (h fr S).bind fun b => ixS a b []
theorem ppm_var (i : Nat) (hN : X.N[i]? = some x := by rfl) (hv : Vis X.env.scope x := by first | exact Or.inl rfl | exact Or.inr (Or.inl rfl) | exact Or.inr (Or.inr rfl)) (hd : (x == ("__debug__" : Str)) = false := by decide)
    (hcd : (x == ("__classdict__" : Str)) = false := by decide) : PPm X C (.Name x pos) (prV i) := (pe_var hN hv hd hcd).wk fun σ H Q ⟨w, fr, S, d, R, g, q⟩ => by
  unfold prV at g
  cases e : fr[i]? with
  | none => rw [e] at g; cases g
  | some y =>
    rw [e] at g
    cases y with
    | val d' =>
      cases g
      obtain ⟨v, hv, rs⟩ := sig_at R e
      cases rs with
      | val rd => exact ⟨_, hv, q _ rd⟩
    | _ => cases g
theorem ppm_int {i j} : PPm X C (.Constant (.int i) j pos) (prK (.int i)) := pe_int.wk fun σ H Q ⟨w, fr, S, d, R, g, q⟩ => by
  cases g
  exact q _ (.int i)
theorem ppm_ix {a b : Expr} {g h : Pr} (ha : PPm X C a g) (hb : PPm X C b h) (hs : PlainIx b := by exact fun _ _ => rfl) : PPm X C (.Subscript a b pos) (prIx g h) :=
  (pe_ix ix_seq ha hb hs).wk fun σ H Q ⟨w, fr, S, d, R, gg, q⟩ => by
    unfold prIx at gg
    rw [Option.bind_eq_some_iff] at gg
    obtain ⟨a, ga, gg⟩ := gg
    rw [Option.bind_eq_some_iff] at gg
    obtain ⟨b, gb, e⟩ := gg
    refine ⟨w, fr, S, a, R, ga, fun va ra => ⟨w, fr, S, b, R, gb, fun vb rb => ?_⟩⟩
    cases rb with
    | int i =>
      cases ra with
      | @tup p vs ds h1 l =>
        obtain ⟨v, hv, rd⟩ := l.atI (show atI _ i = some d from e)
        exact .inr (.inl ⟨_, _, i, v, rfl, rfl, R.subF.sqT h1, hv, q v rd⟩)
      | @lst p vs ds h1 l =>
        obtain ⟨v, hv, rd⟩ := l.atI (show atI _ i = some d from e)
        exact .inl ⟨_, _, i, v, rfl, rfl, SqL.of (R.subF _ _ h1), hv, q v rd⟩
      | str z =>
        have e' : (if z.length ≤ sizeLine then (atI z.cps.toList i).map fun c => D.str ⟨#[c]⟩ else none) = some d := e
        by_cases hz : z.length ≤ sizeLine
        · rw [if_pos hz, Option.map_eq_some_iff] at e'
          obtain ⟨c, h1, h2⟩ := e'
          subst h2
          exact .inr (.inr ⟨z, i, c, rfl, rfl, hz, h1, q _ (.str _)⟩)
        · rw [if_neg hz] at e'; cases e'
      | ptr hm => cases e
      | _ => cases e
    | _ => cases a <;> cases e
/-- self.f.append(e), e only reading -/
def appFM (c : Nat) (f : Str) (i : Nat) (g : Pr) : Mo D := fun fr S => match slotPtr i fr with
  | some r => match S[r]? with
    | some (.ins c' fs) => if c' = c then (match fs.lookup f with
      | some (.own ds) => match g fr S with
        | some d => if ds.length < sizeLine then .ok .non fr (S.set r (.ins c (putS f (.own (ds ++ [d])) fs))) else .stuck
        | none => .stuck
      | _ => .stuck) else .stuck
    | _ => .stuck
  | none => .stuck
theorem pem_appF {g : Pr} {pa : Pos} (i : Nat) (hc : Cls X.K (C.cl c)) (hn : NoAttr X.K (C.cl c) f) (ha : PPm X C e g) (hN : X.N[i]? = some x := by rfl) (hv : Vis X.env.scope x := by first | exact Or.inl rfl | exact Or.inr (Or.inl rfl) | exact Or.inr (Or.inr rfl)) (hd : (x == ("__debug__" : Str)) = false := by decide) (hcd : (x == ("__classdict__" : Str)) = false := by decide)
    (hb : attributeBase (.Name x p) f X.env (eval (.Name x p) X.env) = eval (.Name x p) X.env := by rfl)
    (hbase : attributeBase (.Attribute (.Name x p) f pa) "append" X.env (eval (.Attribute (.Name x p) f pa) X.env) = eval (.Attribute (.Name x p) f pa) X.env := by rfl)
    (hfew : ((backTo pos (starEach (e :: []) X.env)).all (fun x => !x.1) && (backToKw pos (keywordEach [] X.env)).all (fun x => x.1.isSome)
      && decide ((e :: []).length + ([] : List Keyword).length + (if ([] : List Keyword).isEmpty then 0 else 1) < 30)) = true := by rfl)
    (hline : (apos.endLine == pos.line) = true := by rfl) (hs : starEach (e :: []) X.env = (false, eval e X.env) :: starEach [] X.env := by rfl) (hplain : (backTo pos (starEach [] X.env)).any (·.1) = false := by rfl) :
    PEm X C W (.Call (.Attribute (.Attribute (.Name x p) f pa) "append" apos) [e] [] pos) (appFM c f i g) := by
  refine (pe_bm PySem.F.plainAttrs_list PySem.F.slot_list_append PySem.F.type_list_append mt_append (pe_fld (pe_var hN hv hd hcd) hb) (pa_cons ha pa_nil hs) hbase hfew hline hs hplain).wk fun σ H Q h => ?_
  obtain ⟨w, fr, S, R, gg⟩ := h
  unfold appFM at gg
  cases e1 : slotPtr i fr with
  | none => rw [e1] at gg; exact gg.elim
  | some r =>
    rw [e1] at gg
    dsimp only at gg
    obtain ⟨a, hσ, hm⟩ := slotPtr_some R e1
    cases e2 : S[r]? with
    | none => rw [e2] at gg; exact gg.elim
    | some ob =>
      rw [e2] at gg
      cases ob with
      | lst ds => exact gg.elim
      | ins c' fs =>
        dsimp only at gg
        by_cases z : c' = c
        · subst z
          rw [if_pos rfl] at gg
          obtain ⟨_, ro⟩ := R.ob hm e2
          cases ro with
          | @ins _ dx fv _ h1 h2 =>
            cases e3 : fs.lookup f with
            | none => rw [e3] at gg; exact gg.elim
            | some s =>
              rw [e3] at gg
              obtain ⟨u, hu, rs⟩ := h2.some e3
              cases rs with
              | @own b vs ds hq hbb rl =>
                dsimp only at gg
                cases e4 : g fr S with
                | none => rw [e4] at gg; exact gg.elim
                | some d =>
                  rw [e4] at gg
                  dsimp only at gg
                  by_cases zz : ds.length < sizeLine
                  · rw [if_pos zz] at gg
                    refine ⟨_, hσ, a, _, dx, fv, _, rfl, h1, hc, hn, hu, tyV_own hbb, w, fr, S, d, R, e4, fun v rd => ⟨b, vs, v, rfl, rfl, hbb, by rw [rl.length]; exact zz, ?_⟩⟩
                    refine gg w _ .non (.refl _) (R.wrFld (ds := ds ++ [d]) hm e2 e3 hq (fun dx' fv' e5 => ?_) (rl.append (.cons rd .nil))) .non
                    rw [h1] at e5
                    cases e5
                    exact hu
                  · rw [if_neg zz] at gg; exact gg.elim
              | _ => exact gg.elim
        · rw [if_neg z] at gg; exact gg.elim

/-! ### o[i] = e, o a shared list -/
def putIx (o i : D) (d : D) : Mo Unit := fun fr S => match o, i with
  | .ptr r, .int k => match S[r]? with
    | some (.lst ds) => match ixN ds.length k with
      | some j => .ok () fr (S.set r (.lst (ds.set j d)))
      | none => .stuck
    | _ => .stuck
  | _, _ => .stuck
def setIxM (mo mi m : Mo D) : Mo Fl := m >>= fun d => mo >>= fun o => mi >>= fun i => putIx o i d >>= fun _ => pure .nx
theorem psm_ixset {oi : Expr} (ho : PEm X C W o mo) (hi : PEm X C W oi mi) (he : PEm X C W e m)
    (ha : ∀ v, assign (.Subscript o oi p) X.env v = (do
      let ov ← holding [v] (eval o X.env)
      let iv ← holding [v, ov] (eval oi X.env)
      standAt p
      holding [v, ov, iv] (setItem ov iv v)
      release [v, ov, iv] []) := by intro _; rfl)
    (hs : swapsWithSole [.Subscript o oi p] e pos.line X.env = pure false := by rfl) (hw : swappedStores [.Subscript o oi p] e X.env = pure none := by rfl) (h1 : (assignEach [.Subscript o oi p] X.env).map (·.2) = [assign (.Subscript o oi p) X.env] := by rfl) :
    PSm X C W (.Assign [.Subscript o oi p] e pos) (setIxM mo mi m) :=
  (ps_asg he (pg_sub ho hi set_list ha) hs hw h1).wk fun E σ H h => (liftS.bind (pD X.K) h).mono fun v H1 ⟨w1, fr1, S1, d, R1, p1, g⟩ => ⟨w1, fr1, S1, R1, by
    have g' : GoodS X.K C w1 W E (Rs.bind (mo fr1 S1) fun o => mi >>= fun i => putIx o i d >>= fun _ => pure .nx) := g
    refine (GoodS.bind (Rp := pD X.K) (σ := σ) g').mono fun x H2 ⟨w2, fr2, S2, od, l, R2, p2, g2⟩ => ⟨w2, fr2, S2, R2, ?_⟩
    have g2' : GoodS X.K C w2 W E (Rs.bind (mi fr2 S2) fun i => putIx od i d >>= fun _ => pure .nx) := g2
    refine (GoodS.bind (Rp := pD X.K) (σ := σ) g2').mono fun y H3 ⟨w3, fr3, S3, id, l3, R3, p3, g3⟩ => ?_
    have g3' : GoodS X.K C w3 W E (Rs.bind (putIx od id d fr3 S3) fun _ => pure .nx) := g3
    cases p3 with
    | int k =>
      have p2' := RepD.le l3 p2
      cases p2' with
      | @ptr a r hm =>
        unfold putIx at g3'
        dsimp only at g3'
        cases e2 : S3[r]? with
        | none => rw [e2] at g3'; exact g3'.elim
        | some ob =>
          rw [e2] at g3'
          cases ob with
          | ins c fs => exact g3'.elim
          | lst ds =>
            dsimp only at g3'
            cases e3 : ixN ds.length k with
            | none => rw [e3] at g3'; exact g3'.elim
            | some j =>
              rw [e3] at g3'
              obtain ⟨_, ro⟩ := R3.ob hm e2
              cases ro with
              | @lst vs _ hH rl =>
                exact ⟨a, vs, k, j, rfl, rfl, hH, by rw [rl.length]; exact e3, g3' w3 σ _ (.refl w3) (R3.wrPtr hm e2 (rl.set (RepD.le (l.trans l3) p1) j))⟩
      | _ => exact g3'.elim
    | _ => cases od <;> exact g3'.elim⟩
end

/-! ### what a loop goes over -/
def pI (K : PySem.W.Frag) : Wd → Hp → It → List D → Prop := fun w _ J ds => ∃ (G : Hp → Prop) (Y : Nat → Hp → V → Hp → Prop), Walk J ds.length G Y ∧
  ∀ (C : Cl) (w2 : Wd) (fr : List Sl) (S : List Ob) (σ : St) (H2 : Hp), Sub w.F w2.F → Pre w.m w2.m → Rel K C w2 fr S σ H2 → G H2 ∧ ∀ i x H3, i < ds.length → Y i H2 x H3 → ∃ w3 d, Le w2 w3 ∧ Rel K C w3 fr S σ H3 ∧ ds[i]? = some d ∧ RepD K w3.F w3.m x d
abbrev PIm (X : Cx) (C : Cl) (W : WX) (tg iter : Expr) (m : Mo (List D)) : Prop := PI X tg iter (lift X.K C W (pI X.K) m)
theorem _root_.L2.PI.wk {X : Cx} {tg iter : Expr} {t t' : TI} (h : PI X tg iter t) (w : ∀ σ H R, t' σ H R → t σ H R) : PI X tg iter t' := ⟨fun pins s σ H R I q => h.run pins s σ H R I (w σ H R q)⟩
section
variable {X : Cx} {C : Cl} {W : WX} {e tg : Expr} {m : Mo D} {p pos : Pos}
def itL : D → Option (List D)
  | .lst ds => some ds
  | .scr ns => some (ns.map .int)
  | _ => none
def itT : D → Option (List D)
  | .tup ds => some ds
  | _ => none
def itS : D → Option (List D)
  | .str z => some (z.cps.toList.map fun c => .str ⟨#[c]⟩)
  | _ => none
theorem repL_ints {K : PySem.W.Frag} {F : Hp} {mm : List Addr} : ∀ ns : List Int, RepL K F mm (ns.map V.int) (ns.map D.int)
  | [] => .nil
  | n :: ns => .cons (.int n) (repL_ints ns)
theorem pI_seqL {K : PySem.W.Frag} {w : Wd} {H : Hp} {a : Addr} {vs : List V} {ds : List D} (h : SqL K w.F a vs) (r : RepL K w.F w.m vs ds) : pI K w H (Itl K a) ds := by
  refine ⟨fun H => SqL K H a vs, YAt vs, by rw [← r.length]; exact walk_list, fun C w2 fr S σ H2 lF lm R => ⟨R.subF.sqL (lF.sqL h), fun i x H3 hi y => ?_⟩⟩
  obtain ⟨rfl, hx⟩ := y
  obtain ⟨d, hd, rd⟩ := (RepL.mono lF lm r).getV hx
  exact ⟨w2, d, .refl _, R, hd, rd⟩
theorem pI_seqT {K : PySem.W.Frag} {w : Wd} {H : Hp} {a : Addr} {vs : List V} {ds : List D} (h : SqN K w.F a vs) (r : RepL K w.F w.m vs ds) : pI K w H (Itt K a) ds := by
  refine ⟨fun H => SqT K H a vs, YAt vs, by rw [← r.length]; exact walk_tup, fun C w2 fr S σ H2 lF lm R => ⟨R.subF.sqT (lF.sqN h), fun i x H3 hi y => ?_⟩⟩
  obtain ⟨rfl, hx⟩ := y
  obtain ⟨d, hd, rd⟩ := (RepL.mono lF lm r).getV hx
  exact ⟨w2, d, .refl _, R, hd, rd⟩
theorem pim_list (he : PEm X C W e m) : PIm X C W tg e (m >>= fun d => ofO (itL d)) :=
  (pi_list he).wk fun σ H R h => (lift.bind (Rp := pD X.K) h).mono fun v H1 ⟨w1, fr1, S1, d, R1, p1, g⟩ => by
    obtain ⟨ds, ed, g2⟩ := Good.ofO g
    cases p1 with
    | lst h r =>
      cases ed
      exact ⟨_, rfl, ⟨_, SqL.of (R1.subF _ _ h)⟩, g2 w1 H1 _ (.refl _) R1 (pI_seqL (SqL.of h) r)⟩
    | scr h =>
      cases ed
      exact ⟨_, rfl, ⟨_, R1.subF.sqL h⟩, g2 w1 H1 _ (.refl _) R1 (pI_seqL h (repL_ints _))⟩
    | _ => cases ed
theorem pim_tup (he : PEm X C W e m) : PIm X C W tg e (m >>= fun d => ofO (itT d)) :=
  (pi_tup he).wk fun σ H R h => (lift.bind (Rp := pD X.K) h).mono fun v H1 ⟨w1, fr1, S1, d, R1, p1, g⟩ => by
    obtain ⟨ds, ed, g2⟩ := Good.ofO g
    cases p1 with
    | tup h r =>
      cases ed
      exact ⟨_, rfl, ⟨_, R1.subF.sqT h⟩, g2 w1 H1 _ (.refl _) R1 (pI_seqT h r)⟩
    | _ => cases ed
theorem pim_str (he : PEm X C W e m) : PIm X C W tg e (m >>= fun d => ofO (itS d)) :=
  (pi_str he).wk fun σ H R h => (lift.bind (Rp := pD X.K) h).mono fun v H1 ⟨w1, fr1, S1, d, R1, p1, g⟩ => by
    obtain ⟨ds, ed, g2⟩ := Good.ofO g
    cases p1 with
    | str z =>
      cases ed
      refine ⟨z, rfl, g2 w1 H1 _ (.refl _) R1 ⟨fun _ => True, _, by rw [List.length_map, Array.length_toList]; exact walk_str, fun C w2 fr S σ H2 lF lm R => ⟨trivial, fun i x H3 hi y => ?_⟩⟩⟩
      obtain ⟨rfl, c, hc, rfl⟩ := y
      exact ⟨w2, .str ⟨#[c]⟩, .refl _, R, by rw [List.getElem?_map]; simp [hc], .str _⟩
    | _ => cases ed
def rngD (lo : Int) (n : Nat) : List D := (List.range n).map fun (i : Nat) => D.int (lo + i)
theorem pI_rng {K : PySem.W.Frag} {w : Wd} {H : Hp} (lo : Int) (n : Nat) : pI K w H (Itr lo n) (rngD lo n) := by
  have hn : (rngD lo n).length = n := by simp [rngD]
  refine ⟨fun _ => True, _, by rw [hn]; exact walk_range, fun C w2 fr S σ H2 lF lm R => ⟨trivial, fun i x H3 hi y => ?_⟩⟩
  obtain ⟨rfl, rfl⟩ := y
  rw [hn] at hi
  exact ⟨w2, .int (lo + i), .refl _, R, by simp [rngD, hi], .int _⟩
def rOk : Int → Bool
  | .ofNat n => Nat.ble n 4611686018427387903
  | .negSucc n => Nat.ble n 4611686018427387902
theorem rOk_of {j : Int} (h : rOk j = true) : -(2 ^ 62) ≤ j ∧ j < 2 ^ 62 := by
  unfold rOk at h
  split at h
  · rename_i n
    rw [Nat.ble_eq] at h
    have : Int.ofNat n = ((n : Nat) : Int) := rfl
    omega
  · rename_i n
    rw [Nat.ble_eq] at h
    omega
def itR1 : List D → Option (List D)
  | [.int j] => if rOk j = true then some (rngD 0 j.toNat) else none
  | _ => none
def itR2 : List D → Option (List D)
  | [.int i, .int j] => if rOk i = true ∧ rOk j = true then some (rngD i (j - i).toNat) else none
  | _ => none
theorem pim_range1 {a : Expr} {ms : Mo (List D)} (hg : Gl X "range") (hm : X.mg "range" = none) (ha : PLm X C W [a] ms) (hs : starEach [a] X.env = [(false, eval a X.env)] := by rfl) : PIm X C W tg (.Call (.Name "range" p) [a] [] pos) (ms >>= fun as => ofO (itR1 as)) :=
  (pi_range1 hg hm ha hs).wk fun σ H R h => (lift.bind (Rp := pL X.K) h).mono fun vs H1 ⟨w1, fr1, S1, as, R1, p1, g⟩ => by
    obtain ⟨ds, ed, g2⟩ := Good.ofO g
    cases p1 with
    | nil => cases ed
    | cons r1 r2 =>
      cases r2 with
      | cons _ _ => cases r1 <;> cases ed
      | nil =>
        cases r1 with
        | int j =>
          have ed' : (if rOk j = true then some (rngD 0 j.toNat) else none) = some ds := ed
          by_cases z : rOk j = true
          · rw [if_pos z] at ed'
            cases ed'
            have z := rOk_of z
            exact ⟨j, rfl, z.1, z.2, g2 w1 H1 _ (.refl _) R1 (pI_rng 0 _)⟩
          · rw [if_neg z] at ed'; cases ed'
        | _ => cases ed
theorem pim_range2 {a b : Expr} {ms : Mo (List D)} (hg : Gl X "range") (hm : X.mg "range" = none) (ha : PLm X C W [a, b] ms) (hs : starEach [a, b] X.env = [(false, eval a X.env), (false, eval b X.env)] := by rfl) (hs2 : starEach [b] X.env = [(false, eval b X.env)] := by rfl) :
    PIm X C W tg (.Call (.Name "range" p) [a, b] [] pos) (ms >>= fun as => ofO (itR2 as)) :=
  (pi_range2 hg hm ha hs hs2).wk fun σ H R h => (lift.bind (Rp := pL X.K) h).mono fun vs H1 ⟨w1, fr1, S1, as, R1, p1, g⟩ => by
    obtain ⟨ds, ed, g2⟩ := Good.ofO g
    match p1 with
    | .nil => cases ed
    | .cons r1 .nil => cases r1 <;> cases ed
    | .cons r1 (.cons r2 (.cons _ _)) => cases r1 <;> cases r2 <;> cases ed
    | .cons r1 (.cons r2 .nil) =>
      cases r1 with
      | int i =>
        cases r2 with
        | int j =>
          have ed' : (if rOk i = true ∧ rOk j = true then some (rngD i (j - i).toNat) else none) = some ds := ed
          by_cases z : rOk i = true ∧ rOk j = true
          · rw [if_pos z] at ed'
            cases ed'
            have z : -(2 ^ 62) ≤ i ∧ i < 2 ^ 62 ∧ -(2 ^ 62) ≤ j ∧ j < 2 ^ 62 := ⟨(rOk_of z.1).1, (rOk_of z.1).2, (rOk_of z.2).1, (rOk_of z.2).2⟩
            exact ⟨i, j, rfl, z, g2 w1 H1 _ (.refl _) R1 (pI_rng i _)⟩
          · rw [if_neg z] at ed'; cases ed'
        | _ => cases ed
      | _ => cases r2 <;> cases ed
/-- pairs of a number and an item -/
def enumD : Nat → List D → List D
  | _, [] => []
  | n, d :: ds => .tup [.int (n : Nat), d] :: enumD (n + 1) ds
theorem enumD_length : ∀ (n : Nat) (ds : List D), (enumD n ds).length = ds.length
  | _, [] => rfl
  | n, _ :: ds => congrArg (· + 1) (enumD_length (n + 1) ds)
theorem enumD_get : ∀ (n : Nat) (ds : List D) (i : Nat), (enumD n ds)[i]? = ds[i]?.map fun d => .tup [.int ((n + i : Nat) : Int), d]
  | _, [], i => by simp [enumD]
  | n, d :: ds, 0 => by simp [enumD]
  | n, d :: ds, i + 1 => by
    have := enumD_get (n + 1) ds i
    simp only [enumD, List.getElem?_cons_succ]
    rw [this, show n + 1 + i = n + (i + 1) by omega]
theorem pI_pair {K : PySem.W.Frag} {w : Wd} {H : Hp} {J : It} {G : Hp → Prop} {vs : List V} {ds : List D} (hw : Walk J vs.length G (YPairN fun i => vs[i]?)) (hG : ∀ C w2 fr S σ H2, Sub w.F w2.F → Pre w.m w2.m → Rel K C w2 fr S σ H2 → G H2) (r : RepL K w.F w.m vs ds) : pI K w H J (enumD 0 ds) := by
  have hn : (enumD 0 ds).length = vs.length := by rw [enumD_length, r.length]
  refine ⟨G, _, by rw [hn]; exact hw, fun C w2 fr S σ H2 lF lm R => ⟨hG C w2 fr S σ H2 lF lm R, fun i x H3 hi y => ?_⟩⟩
  obtain ⟨T, o, y1, rfl, hd', hT, rfl, e2⟩ := y
  obtain ⟨d, hd, rd⟩ := (RepL.mono lF lm r).getV e2
  obtain ⟨R', l'⟩ := R.lay hT (.frz o (.tup [.int (i : Nat), y1]))
  exact ⟨_, .tup [.int (i : Nat), d], l', R', by rw [enumD_get, hd]; simp, .tup (.of upd_same hd') (.cons (.int _) (.cons (rd.le l') .nil))⟩
def itE : List D → Option (List D)
  | [.lst ds] => some (enumD 0 ds)
  | _ => none
theorem pim_enum {elts : List Expr} {kk : Nat} {tpos : Pos} {a : Expr} {ms : Mo (List D)} (hg : Gl X "enumerate") (hm : X.mg "enumerate" = none) (ha : PLm X C W [a] ms) (hs : starEach [a] X.env = [(false, eval a X.env)] := by rfl) :
    PIm X C W (.Tuple elts kk tpos) (.Call (.Name "enumerate" p) [a] [] pos) (ms >>= fun as => ofO (itE as)) :=
  (pi_enumL hg hm ha hs).wk fun σ H R h => (lift.bind (Rp := pL X.K) h).mono fun vs H1 ⟨w1, fr1, S1, as, R1, p1, g⟩ => by
    obtain ⟨ds, ed, g2⟩ := Good.ofO g
    match p1 with
    | .nil => cases ed
    | .cons r1 (.cons _ _) => cases r1 <;> cases ed
    | .cons r1 .nil =>
      cases r1 with
      | @lst a vs ds h r =>
        cases ed
        exact ⟨a, vs, rfl, SqL.of (R1.subF _ _ h), g2 w1 H1 _ (.refl _) R1 (pI_pair (walk_enumN (sq := fun H xs => SqL X.K H a xs)) (fun C w2 fr S σ H2 lF lm R => SqL.of (R.subF _ _ (lF _ _ h))) r)⟩
      | _ => cases ed
end

/-! ### for -/
def loopM (f : D → Mo Unit) (b : Mo Fl) : List D → Mo Fl
  | [] => pure .nx
  | d :: r => f d >>= fun _ => turnM b (loopM f b r)
def forM (mi : Mo (List D)) (f : D → Mo Unit) (b : Mo Fl) : Mo Fl := mi >>= fun ds => loopM f b ds
section
variable {X : Cx} {C : Cl} {W : WX} {tg iter : Expr} {body : List Stmt} {mi : Mo (List D)} {f : D → Mo Unit} {b : Mo Fl} {pos : Pos}
theorem GoodS.turnL {K : PySem.W.Frag} {w : Wd} {fr : List Sl} {S : List Ob} {E : Ends} {b k : Mo Fl} (g : GoodS K C w W E (turnM b k fr S)) :
    GoodS K C w W { E with nx := fun σ H => ∃ w' fr S, Le w w' ∧ Rel K C w' fr S σ H ∧ GoodS K C w' W E (k fr S), ct := fun σ H => ∃ w' fr S, Le w w' ∧ Rel K C w' fr S σ H ∧ GoodS K C w' W E (k fr S), bk := E.nx } (b fr S) := by
  have g' : GoodS K C w W E (Rs.bind (b fr S) fun f => match f with
    | .nx => k
    | .ct => k
    | .bk => pure .nx
    | .rt v => pure (.rt v)) := g
  cases e : b fr S with
  | ok f fr1 S1 =>
    rw [e] at g'
    cases f with
    | nx => exact fun w2 σ' H' l R => ⟨w2, fr1, S1, l, R, GoodS.le l g'⟩
    | ct => exact fun w2 σ' H' l R => ⟨w2, fr1, S1, l, R, GoodS.le l g'⟩
    | bk => exact g'
    | rt v => exact g'
  | exc x fr1 S1 => rw [e] at g'; exact g'
  | stuck => rw [e] at g'; exact g'
theorem GoodS.ends {K : PySem.W.Frag} {w : Wd} {E E' : Ends} {r : Rs Fl} (g : GoodS K C w W E r) (h1 : ∀ σ H, E.nx σ H → E'.nx σ H) (h2 : ∀ σ H, E.ct σ H → E'.ct σ H) (h3 : ∀ σ H, E.bk σ H → E'.bk σ H) (h4 : ∀ v H, E.rt v H → E'.rt v H) : GoodS K C w W E' r := by
  cases r with
  | ok a fr S =>
    cases a with
    | nx => exact fun w2 σ' H' l R => h1 _ _ (g w2 σ' H' l R)
    | bk => exact fun w2 σ' H' l R => h3 _ _ (g w2 σ' H' l R)
    | ct => exact fun w2 σ' H' l R => h2 _ _ (g w2 σ' H' l R)
    | rt rv => exact fun w2 σ' H' v l R p => h4 _ _ (g w2 σ' H' v l R p)
  | exc x fr S => exact g
  | stuck => exact g
theorem psm_for (hp : PassesOwn (model X.prog X.w) X.A X.env X.xe) (hc : X.calm = true) (hi : PIm X C W tg iter mi) (hg : PGm X C tg f) (hno : NoX f) (hb : PSsm X C W body b) (hs : ∀ x, foldedSetIterable iter X.env x = pure x := by intro _; rfl) :
    PSm X C W (.For tg iter body [] pos) (forM mi f b) := by
  refine (ps_for hp hc hi hg hb hs).wk fun E σ H h => ?_
  refine (liftS.bind (pI X.K) h).mono fun J H1 ⟨w1, fr1, S1, ds, R1, p1, g⟩ => ?_
  obtain ⟨G, Y, hw, hR⟩ := p1
  refine for_it (g := fun v σ H Q => ∃ w fr S d, Rel X.K C w fr S σ H ∧ RepD X.K w.F w.m v d ∧ GoodG X.K C w Q (f d fr S)) (tb := liftS X.K C W b) (D := E) hw (fun i σ H => ∃ w fr S, Le w1 w ∧ Rel X.K C w fr S σ H ∧ GoodS X.K C w W E (loopM f b (ds.drop i) fr S)) ⟨w1, fr1, S1, .refl _, R1, g⟩ (fun i σ H _ ⟨w, fr, S, l, R, _⟩ => (hR C w fr S σ H l.F l.m R).1) (fun i x σ H H' hi ⟨w, fr, S, l, R, gg⟩ y => ?_) fun σ H ⟨w, fr, S, l, R, gg⟩ => ?_
  · obtain ⟨w3, d, l3, R3, hd, rd⟩ := (hR C w fr S σ H l.F l.m R).2 i x H' hi y
    refine ⟨w3, fr, S, d, R3, rd, ?_⟩
    have e : ds.drop i = d :: ds.drop (i + 1) := by
      rw [List.drop_eq_getElem_cons hi]
      rw [List.getElem?_eq_getElem hi] at hd
      rw [Option.some.inj hd]
    rw [e] at gg
    have gg' : GoodS X.K C w3 W E (Rs.bind (f d fr S) fun _ => turnM b (loopM f b (ds.drop (i + 1)))) := GoodS.le l3 gg
    cases ef : f d fr S with
    | ok u fr2 S2 =>
      rw [ef] at gg'
      intro w4 σ4 H4 l4 R4
      refine ⟨w4, fr2, S2, R4, ?_⟩
      refine (GoodS.turnL (GoodS.le l4 gg')).ends (fun σ H ⟨w5, fr5, S5, l5, z⟩ => ⟨w5, fr5, S5, ((l.trans l3).trans l4).trans l5, z⟩) (fun σ H ⟨w5, fr5, S5, l5, z⟩ => ⟨w5, fr5, S5, ((l.trans l3).trans l4).trans l5, z⟩) (fun _ _ z => z) fun _ _ z => z
    | exc x fr2 S2 => exact (hno d fr S x fr2 S2 ef).elim
    | stuck => rw [ef] at gg'; exact gg'.elim
  · rw [List.drop_length] at gg
    exact gg w σ H (.refl w) R
end

/-! ### [e for tg in iter] -/
def wipeF (fr : List Sl) : List Nat → List Sl
  | [] => fr
  | v :: vs => (wipeF fr vs).set v .un
theorem wipeF_length (fr : List Sl) : ∀ vs : List Nat, (wipeF fr vs).length = fr.length
  | [] => rfl
  | v :: vs => by unfold wipeF; rw [List.length_set, wipeF_length fr vs]
theorem Rel.wipe {K : PySem.W.Frag} {C : Cl} {w : Wd} {fr : List Sl} {S : List Ob} {σ : St} {H : Hp} (R : Rel K C w fr S σ H) (vs : List Nat) : Rel K C w (wipeF fr vs) S (wipe σ vs) H := by
  refine ⟨R.subF, R.subP, R.dis, R.rol, R.len, by rw [wipeF_length, wipe_length]; exact R.len2, ?_, R.obj, R.amb⟩
  induction vs with
  | nil => exact R.slot
  | cons v vs ih =>
    intro i x u e1 e2
    unfold wipeF at e1
    unfold L2.wipe at e2
    by_cases h : v = i
    · subst h
      have h1 := (List.getElem?_eq_some_iff.mp e1).1
      rw [List.length_set] at h1
      rw [List.getElem?_set_self h1] at e1
      cases e1
      exact .un
    · rw [List.getElem?_set_ne h] at e1 e2
      exact ih i x u e1 e2
/-- what stands in the block's slots is not asked -/
theorem Rel.unwipe {K : PySem.W.Frag} {C : Cl} {w : Wd} {fr : List Sl} {S : List Ob} {σ σ2 : St} {H : Hp} {vs : List Nat} (R : Rel K C w fr S σ2 H) (h : L2.wipe σ2 vs = L2.wipe σ vs) : Rel K C w (wipeF fr vs) S σ H := by
  have hl : σ2.length = σ.length := by rw [← wipe_length σ2 vs, h, wipe_length]
  have R2 := R.wipe vs
  refine ⟨R.subF, R.subP, R.dis, R.rol, R.len, by rw [wipeF_length, ← hl]; exact R.len2, fun i x u e1 e2 => ?_, R.obj, R.amb⟩
  by_cases hi : i ∈ vs
  · have : x = .un := by
      clear R R2 h
      induction vs with
      | nil => cases hi
      | cons v vs ih =>
        unfold wipeF at e1
        by_cases hv : v = i
        · subst hv
          have h1 := (List.getElem?_eq_some_iff.mp e1).1
          rw [List.length_set] at h1
          rw [List.getElem?_set_self h1] at e1
          exact (Option.some.inj e1).symm
        · rw [List.getElem?_set_ne hv] at e1
          exact ih e1 (by rcases List.mem_cons.mp hi with z | z; exact absurd z.symm hv; exact z)
    subst this
    exact .un
  · exact R2.slot i x u e1 (by rw [h, wipe_out hi]; exact e2)
/-- an assignment that only touches the block's slots -/
def GoodGv (K : PySem.W.Frag) (C : Cl) (w : Wd) (vs : List Nat) (σ : St) (Q : St → Hp → Prop) : Rs Unit → Prop
  | .ok () fr S => ∀ w' σ' H', Le w w' → Rel K C w' fr S σ' H' → L2.wipe σ' vs = L2.wipe σ vs → Q σ' H'
  | _ => False
abbrev PGv (X : Cx) (C : Cl) (vs : List Nat) (tg : Expr) (f : D → Mo Unit) : Prop := PG X tg fun v σ H Q => ∃ w fr S d, Rel X.K C w fr S σ H ∧ RepD X.K w.F w.m v d ∧ GoodGv X.K C w vs σ Q (f d fr S)
def PGsv (X : Cx) (C : Cl) (vs : List Nat) (ts : List Expr) (f : List D → Mo Unit) : Prop := PGs X ts fun us σ H Q => ∃ w fr S ds, Rel X.K C w fr S σ H ∧ RepL X.K w.F w.m us ds ∧ GoodGv X.K C w vs σ Q (f ds fr S)
theorem wipe_set {i : Nat} : ∀ {σ : St} {vs : List Nat} {u : Option V}, i ∈ vs → L2.wipe (σ.set i u) vs = L2.wipe σ vs
  | _, [], _, h => by cases h
  | σ, v :: vs, u, h => by
    unfold L2.wipe
    by_cases hm : i ∈ vs
    · rw [wipe_set hm]
    · have hv : i = v := by rcases List.mem_cons.mp h with z | z; exact z; exact absurd z hm
      subst hv
      have : ∀ {vs : List Nat}, i ∉ vs → L2.wipe (σ.set i u) vs = (L2.wipe σ vs).set i u := by
        intro vs
        induction vs with
        | nil => intro _; rfl
        | cons a vs ih =>
          intro hn
          unfold L2.wipe
          rw [ih (fun z => hn (List.mem_cons_of_mem _ z)), List.set_comm _ _ (fun z => hn (by rw [z]; exact List.mem_cons_self))]
      rw [this hm, List.set_set]
theorem wipe_wipe {σ : St} : ∀ vs : List Nat, L2.wipe (L2.wipe σ vs) vs = L2.wipe σ vs := fun vs => by
  have : ∀ us : List Nat, (∀ i ∈ us, i ∈ vs) → ∀ σ, L2.wipe (L2.wipe σ us) vs = L2.wipe σ vs := by
    intro us
    induction us with
    | nil => intro _ σ; rfl
    | cons a us ih =>
      intro h σ
      show L2.wipe ((L2.wipe σ us).set a none) vs = _
      rw [wipe_set (h a List.mem_cons_self), ih (fun i hi => h i (List.mem_cons_of_mem _ hi))]
  exact this vs (fun _ h => h) σ
section
variable {X : Cx} {C : Cl} {W : WX} {e : Expr} {pos : Pos} {x : Str} {vs : List Nat}
theorem pgv_name (i : Nat) (hv : i ∈ vs) (hN : X.N.Nodup) (hi : X.N[i]? = some x := by rfl) (hx : Loc X.env.scope x := by first | exact Or.inl rfl | exact Or.inr rfl) (hf : X.fn x = true ∨ X.env.scope.names.lookup x = some .local := by first | exact .inl rfl | exact .inr rfl) : PGv X C vs (.Name x pos) (putV i) :=
  (pg_name hN hi hx hf).wk fun v σ H Q ⟨w, fr, S, d, R, r, g⟩ => g w _ H (.refl w) (R.setV i (.val r)) (wipe_set hv)
theorem pgsv_nil : PGsv X C vs [] tgNil := pgs_nil.wk fun us σ H Q ⟨w, fr, S, ds, R, r, g⟩ => by
  cases r with
  | nil => exact ⟨rfl, g w σ H (.refl w) R rfl⟩
  | cons _ _ => exact g.elim
theorem pgsv_cons {es : List Expr} {f : D → Mo Unit} {g : List D → Mo Unit} (h1 : PGv X C vs e f) (h2 : PGsv X C vs es g) (hs : (assignEach (e :: es) X.env).map (·.2) = assign e X.env :: (assignEach es X.env).map (·.2) := by rfl) : PGsv X C vs (e :: es) (tgCons f g) :=
  (pgs_cons h1 h2 hs).wk fun us σ H Q ⟨w, fr, S, ds, R, r, q⟩ => by
    cases r with
    | nil => exact q.elim
    | @cons v d us ds rd rl =>
      have q' : GoodGv X.K C w vs σ Q (Rs.bind (f d fr S) fun _ => g ds) := q
      refine ⟨v, us, rfl, w, fr, S, d, R, rd, ?_⟩
      cases e : f d fr S with
      | ok u fr1 S1 =>
        rw [e] at q'
        intro w2 σ' H' l R' hw
        refine ⟨w2, fr1, S1, ds, R', RepL.le l rl, ?_⟩
        have q2 : GoodGv X.K C w vs σ Q (g ds fr1 S1) := q'
        cases e2 : g ds fr1 S1 with
        | ok u fr2 S2 =>
          rw [e2] at q2
          exact fun w3 σ3 H3 l3 R3 hw3 => q2 w3 σ3 H3 (l.trans l3) R3 (hw3.trans hw)
        | exc x fr S => rw [e2] at q2; exact q2.elim
        | stuck => rw [e2] at q2; exact q2.elim
      | exc x fr1 S1 => rw [e] at q'; exact q'.elim
      | stuck => rw [e] at q'; exact q'.elim
theorem pgv_tup {es : List Expr} {k n : Nat} {g : List D → Mo Unit} (hc : X.calm = true) (h : PGsv X C vs es g) (hn : (assignEach es X.env).length = n := by rfl) (hst : (assignEach es X.env).findIdx? (·.1) = none := by rfl) : PGv X C vs (.Tuple es k pos) (tgTup n g) :=
  (pg_tup hc h hn hst).wk fun v σ H Q ⟨w, fr, S, d, R, r, q⟩ => by
    cases r with
    | @tup a us ds h1 l =>
      dsimp only [tgTup] at q
      by_cases z : ds.length = n
      · rw [if_pos z] at q
        exact ⟨a, us, rfl, R.subF.sqT h1, by rw [l.length]; exact z, w, fr, S, ds, R, l, q⟩
      · rw [if_neg z] at q; exact q.elim
    | _ => exact q.elim

def lcLoop (vs : List Nat) (f : D → Mo Unit) (me : Mo D) : List D → List D → Mo (List D)
  | [], acc => fun fr S => .ok acc (wipeF fr vs) S
  | d :: r, acc => fun fr S => match f d (wipeF fr vs) S with
    | .ok () fr1 S1 => match me fr1 S1 with
      | .ok y fr2 S2 => if acc.length < sizeLine then lcLoop vs f me r (acc ++ [y]) fr2 S2 else .stuck
      | _ => .stuck
    | _ => .stuck
def lcM (vs : List Nat) (mi : Mo (List D)) (f : D → Mo Unit) (me : Mo D) : Mo (List D) := mi >>= fun ds => lcLoop vs f me ds []
def W0 : WX := fun _ _ _ _ => False
/-- one more thing that is not to be touched -/
def keepP (w : Wd) (a : Addr) (o : HO) : Wd := { w with P := upd w.P a o }
theorem Rel.keepP {K : PySem.W.Frag} {w : Wd} {fr : List Sl} {S : List Ob} {σ : St} {H : Hp} (R : Rel K C w fr S σ H) {a : Addr} {o : HO} (hH : H a = some o) (hF : w.F a = none) (hP : w.P a = none) (hq : w.q a = none) : Rel K C (Z.keepP w a o) fr S σ H := by
  have hs : ∀ {role : Role} {v : Option V} {x : Sl}, RepS K w H role v x → RepS K (Z.keepP w a o) H role v x := fun r => RepS.same (w1 := w) (w2 := Z.keepP w a o) rfl rfl rfl r
  refine ⟨R.subF, fun b u e => ?_, fun b u e => ?_, fun b r e => ?_, R.len, R.len2, fun i x v e1 e2 => hs (R.slot i x v e1 e2), fun r b ob e1 e2 => ?_, R.amb⟩
  · by_cases hb : b = a
    · subst hb
      have e' : upd w.P b o b = some u := e
      rw [upd_same] at e'
      cases e'
      exact hH
    · have e' : upd w.P a o b = some u := e
      rw [upd_ne hb] at e'
      exact R.subP b u e'
  · have hb : b ≠ a := fun z => by
      have e' : w.F b = some u := e
      rw [z, hF] at e'; cases e'
    show upd w.P a o b = none
    rw [upd_ne hb]
    exact R.dis b u e
  · have hb : b ≠ a := fun z => by
      have e' : w.q b = some r := e
      rw [z, hq] at e'; cases e'
    obtain ⟨x, y, z⟩ := R.rol b r e
    exact ⟨x, by show upd w.P a o b = none; rw [upd_ne hb]; exact y, z⟩
  · obtain ⟨x, y⟩ := R.obj r b ob e1 e2
    exact ⟨x, RepO.same (w1 := w) (w2 := Z.keepP w a o) rfl rfl rfl y⟩
theorem Rel.unP {K : PySem.W.Frag} {w w2 : Wd} {fr : List Sl} {S : List Ob} {σ : St} {H : Hp} {a : Addr} {o : HO} (hP : w.P a = none) (l : Le (Z.keepP w a o) w2) (R : Rel K C w2 fr S σ H) :
    ∃ w3, Le w w3 ∧ w3.F = w2.F ∧ w3.m = w2.m ∧ w3.P = w.P ∧ w3.q = w2.q ∧ Rel K C w3 fr S σ H ∧ H a = some o ∧ w3.F a = none ∧ w3.P a = none ∧ w3.q a = none := by
  have hPa : w2.P a = some o := by rw [l.P]; exact upd_same
  have hPo : ∀ b, b ≠ a → w2.P b = w.P b := fun b hb => by rw [l.P]; exact upd_ne hb
  have hF : w2.F a = none := by
    cases e : w2.F a with
    | none => rfl
    | some u => rw [R.dis a u e] at hPa; cases hPa
  have hq : w2.q a = none := by
    cases e : w2.q a with
    | none => rfl
    | some u => rw [(R.rol a u e).2.1] at hPa; cases hPa
  refine ⟨{ w2 with P := w.P }, ⟨l.F, rfl, l.m⟩, rfl, rfl, rfl, rfl, ⟨R.subF, fun b u e => ?_, fun b u e => ?_, fun b r e => ?_, R.len, R.len2, fun i x v e1 e2 => RepS.same (w1 := w2) (w2 := { w2 with P := w.P }) rfl rfl rfl (R.slot i x v e1 e2), fun r b ob e1 e2 => ?_, R.amb⟩, R.subP a o hPa, hF, hP, hq⟩
  · have e' : w.P b = some u := e
    have hb : b ≠ a := fun z => by rw [z, hP] at e'; cases e'
    exact R.subP b u (by rw [hPo b hb]; exact e')
  · show w.P b = none
    by_cases hb : b = a
    · rw [hb]; exact hP
    · rw [← hPo b hb]; exact R.dis b u e
  · obtain ⟨x, y, z⟩ := R.rol b r e
    refine ⟨x, ?_, z⟩
    show w.P b = none
    by_cases hb : b = a
    · rw [hb]; exact hP
    · rw [← hPo b hb]; exact y
  · obtain ⟨x, y⟩ := R.obj r b ob e1 e2
    exact ⟨x, RepO.same (w1 := w2) (w2 := { w2 with P := w.P }) rfl rfl rfl y⟩
/-- a thing that nobody owns gets other contents -/
theorem Rel.free {K : PySem.W.Frag} {w : Wd} {fr : List Sl} {S : List Ob} {σ : St} {H : Hp} (R : Rel K C w fr S σ H) {a : Addr} {o : HO} (hF : w.F a = none) (hP : w.P a = none) (hq : w.q a = none) : Rel K C w fr S σ (upd H a o) := by
  have ne : ∀ {b : Addr} {r : Role}, w.q b = some r → b ≠ a := fun {b r} e z => by rw [z, hq] at e; cases e
  refine ⟨fun b u e => ?_, fun b u e => ?_, R.dis, fun b r e => ?_, R.len, R.len2, fun i x v e1 e2 => (R.slot i x v e1 e2).le (.refl w) (fun _ z => z) fun b o q z => by rw [upd_ne (ne q)]; exact z, fun r b ob e1 e2 => ?_, R.amb⟩
  · rw [upd_ne (fun z => by rw [z, hF] at e; cases e)]; exact R.subF b u e
  · rw [upd_ne (fun z => by rw [z, hP] at e; cases e)]; exact R.subP b u e
  · obtain ⟨x, y, u, z⟩ := R.rol b r e
    exact ⟨x, y, u, by rw [upd_ne (ne e)]; exact z⟩
  · obtain ⟨x, y⟩ := R.obj r b ob e1 e2
    exact ⟨x, y.le (.refl w) (fun _ _ z => z) (fun b o f q z => by rw [upd_ne (ne q)]; exact z) fun o z => by rw [upd_ne (ne x)]; exact z⟩
theorem pum_lc {elt tg iter : Expr} {scope : Scope} {own : List (Str × Nat)} {mi : Mo (List D)} {f : D → Mo Unit} {me : Mo D} (hc : X.calm = true) (hN : X.N.Nodup) (hi : PIm X C W tg iter mi) (ok : BlkOk X.N X.env.scope scope own)
    (hg : ∀ (s : Shared) (H : Hp) (Cd : Addr) (cl : List (Str × Addr)) (fp : List Addr), PGv (X.blk s H scope (compEnvC scope cl Cd X.env) fp) C (own.map (·.2)) tg f)
    (he : ∀ (s : Shared) (H : Hp) (Cd : Addr) (cl : List (Str × Addr)) (fp : List Addr), PEm (X.blk s H scope (compEnvC scope cl Cd X.env) fp) C W0 elt me) (hs : ∀ x, foldedSetIterable iter X.env x = pure x := by intro _; rfl) :
    PUm X C W (.ListComp elt [⟨tg, iter, [], 0⟩] scope pos) (lcM (own.map (·.2)) mi f me) := by
  refine (pe_lc (g := fun v σ H Q => ∃ w fr S d, Rel X.K C w fr S σ H ∧ RepD X.K w.F w.m v d ∧ GoodGv X.K C w (own.map (·.2)) σ Q (f d fr S)) (te := lift X.K C W0 (pD X.K) me) hc hN hi ok hg (fun _ _ _ _ _ => pts_nil) he hs).wk fun σ H Q h => ?_
  refine (lift.bind (Rp := pI X.K) h).mono fun J H1 ⟨w1, fr1, S1, ds, R1, p1, g⟩ => ?_
  obtain ⟨G, Y, hw, hR⟩ := p1
  intro L hL
  obtain ⟨f1, f2, f3⟩ := R1.fresh hL
  generalize hvs : own.map (·.2) = vs at g ⊢
  refine lc_it (g := fun v σ H Q => ∃ w fr S d, Rel X.K C w fr S σ H ∧ RepD X.K w.F w.m v d ∧ GoodGv X.K C w vs σ Q (f d fr S)) (tt := tYes) (te := lift X.K C W0 (pD X.K) me) (vs := vs) (σ := σ) (Qd := fun H => Q (.ref L) H) hw (fun i H => ∃ w fr S σ2 acc av, Le w1 w ∧ Rel X.K C w fr S σ2 H ∧ L2.wipe σ2 vs = L2.wipe σ vs ∧ H L = some (.lst av) ∧ RepL X.K w.F w.m av acc ∧ w.F L = none ∧ w.P L = none ∧ w.q L = none ∧ Good X.K C w W (pU X.K) σ Q (lcLoop vs f me (ds.drop i) acc fr S))
    ⟨w1, fr1, S1, σ, [], [], .refl _, R1.same (sub_new hL _), rfl, upd_same, .nil, f1, f2, f3, g⟩ (fun i H _ ⟨w, fr, S, σ2, acc, av, l, R, _⟩ => (hR C w fr S σ2 H l.F l.m R).1) (fun i x H H' hi ⟨w, fr, S, σ2, acc, av, l, R, hσ, hHL, ra, hF, hP, hq, gg⟩ y => ?_) fun H ⟨w, fr, S, σ2, acc, av, l, R, hσ, hHL, ra, hF, hP, hq, gg⟩ => ?_
  · -- a turn
    have RK : Rel X.K C (Z.keepP w L (.lst av)) fr S σ2 H := R.keepP hHL hF hP hq
    obtain ⟨w3, d, l3, R3, hd, rd⟩ := (hR C (Z.keepP w L (.lst av)) fr S σ2 H l.F l.m RK).2 i x H' hi y
    have R3w := R3.wipe vs
    rw [hσ] at R3w
    have e : ds.drop i = d :: ds.drop (i + 1) := by
      rw [List.drop_eq_getElem_cons hi]
      rw [List.getElem?_eq_getElem hi] at hd
      rw [Option.some.inj hd]
    rw [e] at gg
    refine ⟨w3, wipeF fr vs, S, d, R3w, rd, ?_⟩
    unfold lcLoop at gg
    cases ef : f d (wipeF fr vs) S with
    | exc x fr1 S1 => rw [ef] at gg; exact gg.elim
    | stuck => rw [ef] at gg; exact gg.elim
    | ok u fr1 S1 =>
      rw [ef] at gg
      intro w4 σ4 H4 l4 R4 hσ4
      rw [wipe_wipe] at hσ4
      refine ⟨hσ4, ?_⟩
      dsimp only [tYes]
      rw [if_pos rfl]
      refine ⟨w4, fr1, S1, R4, ?_⟩
      dsimp only at gg
      cases em : me fr1 S1 with
      | exc x fr2 S2 => rw [em] at gg; exact gg.elim
      | stuck => rw [em] at gg; exact gg.elim
      | ok yd fr2 S2 =>
        rw [em] at gg
        dsimp only at gg
        intro w5 H5 v l5 R5 rv
        by_cases hz : acc.length < sizeLine
        · rw [if_pos hz] at gg
          obtain ⟨w6, l6, e1, e2, e3, e4, R6, hH5, g1, g2, g3⟩ := R5.unP hP ((l3.trans l4).trans l5)
          have rv6 : RepD X.K w6.F w6.m v yd := by rw [e1, e2]; exact rv
          have ra6 := RepL.le l6 ra
          exact ⟨av, hH5, by rw [ra.length]; exact hz, w6, fr2, S2, σ4, acc ++ [yd], av ++ [v], l.trans l6, R6.free g1 g2 g3, hσ4, upd_same, ra6.append (.cons rv6 .nil), g1, g2, g3, Good.le l6 gg⟩
        · rw [if_neg hz] at gg; exact gg.elim
  · rw [List.drop_length] at gg
    have R' := R.unwipe hσ
    exact gg w H (.ref L) (.refl w) R' ⟨L, av, rfl, hHL, ra, hF, hP, hq⟩
end
end Z
set_option Elab.async false
set_option linter.all false
set_option maxRecDepth 100000
/-! Z8: defs, raise, try. -/
namespace Z
open PySem L2
open PyProof.Rows (envOfC)

/-! ### a def -/
def noslot (w : Wd) : Wd := { w with q := fun a => match w.q a with
  | some (.slot _) => none
  | r => r }
section
variable {K : PySem.W.Frag} {C : Cl} {w : Wd} {fr : List Sl} {S : List Ob} {σ : L2.St} {H : Hp}
theorem noslot_le (w : Wd) : Le w (noslot w) := ⟨.refl _, rfl, .refl _⟩
theorem noslot_q {a : Addr} {r : Role} (h : (noslot w).q a = some r) : w.q a = some r := by
  unfold noslot at h
  dsimp only at h
  cases e : w.q a with
  | none => rw [e] at h; cases h
  | some z =>
    rw [e] at h
    cases z with
    | slot i => cases h
    | obj r => exact h
    | fld r f => exact h
theorem noslot_k {a : Addr} {r : Role} (h : w.q a = some r) (n : ∀ i, r ≠ .slot i) : (noslot w).q a = some r := by
  unfold noslot
  dsimp only
  rw [h]
  cases r with
  | slot i => exact absurd rfl (n i)
  | obj r => rfl
  | fld r f => rfl
theorem Rel.drop (R : Rel K C w fr S σ H) : Rel K C (noslot w) [] S [] H :=
  ⟨R.subF, R.subP, R.dis, fun a r e => R.rol a r (noslot_q e), R.len, rfl, fun i x v e _ => by simp at e, fun r a o e1 e2 => by
    obtain ⟨x, y⟩ := R.obj r a o e1 e2
    exact ⟨noslot_k x (fun i z => by cases z), y.le (noslot_le w) (fun b f z => noslot_k z (fun i z => by cases z)) (fun _ _ _ _ z => z) fun _ z => z⟩, R.amb⟩
theorem RepU.drop {v : V} {ds : List D} (u : RepU K w H v ds) : RepU K (noslot w) H v ds := by
  obtain ⟨a, vs, e, h, r, hF, hP, hq⟩ := u.ex
  refine ⟨a, vs, e, h, r, hF, hP, ?_⟩
  unfold noslot
  dsimp only
  rw [hq]
end
def fin : Rs Fl → RF
  | .ok .nx _ S => .ok (.d .non) S
  | .ok (.rt v) _ S => .ok v S
  | .ok .bk _ _ => .stuck
  | .ok .ct _ _ => .stuck
  | .exc x _ S => .exc x S
  | .stuck => .stuck
def fr0 (n : Nat) (ds : List D) : List Sl := ds.map .val ++ List.replicate n .un
/-- a def's function: its arguments, then n slots -/
def funM (n : Nat) (m : Mo Fl) : Fm := fun ds S => fin (m (fr0 n ds) S)
theorem getElem_map_val {ds : List D} {i : Nat} {x : Sl} (h : (ds.map Sl.val)[i]? = some x) : ∃ d, ds[i]? = some d ∧ x = .val d := by
  rw [List.getElem?_map] at h
  cases e : ds[i]? with
  | none => rw [e] at h; cases h
  | some d => rw [e] at h; exact ⟨d, rfl, (Option.some.inj h).symm⟩
theorem Rel.start {K : PySem.W.Frag} {C : Cl} {w : Wd} {S : List Ob} {H : Hp} (R : Rel K C w [] S [] H) {vs : List V} {ds : List D} (r : RepL K w.F w.m vs ds) {N : List Str} {n : Nat} (hn : N.length = vs.length + n) : Rel K C w (fr0 n ds) S (L2.start N vs) H := by
  have e : N.length - vs.length = n := by omega
  refine ⟨R.subF, R.subP, R.dis, R.rol, R.len, by
    have e' := e
    rw [r.length] at e'
    simp [L2.start, fr0, e', r.length], fun i x v e1 e2 => ?_, R.obj, R.amb⟩
  unfold fr0 at e1
  unfold L2.start at e2
  by_cases hi : i < ds.length
  · rw [List.getElem?_append_left (by rw [List.length_map]; exact hi)] at e1
    rw [List.getElem?_append_left (by rw [List.length_map, r.length]; exact hi)] at e2
    obtain ⟨d, hd, rfl⟩ := getElem_map_val e1
    obtain ⟨u, hu, rd⟩ := r.get hd
    rw [List.getElem?_map, hu] at e2
    cases e2
    exact .val rd
  · rw [List.getElem?_append_right (by rw [List.length_map]; omega)] at e1
    rw [List.getElem?_replicate] at e1
    split at e1
    · cases e1; exact .un
    · cases e1
theorem pure_def {K : PySem.W.Frag} {C : Cl} {N : List Str} {np n : Nat} {m : Mo Fl} {vs : List V} {H : Hp} {Q : VK} {E : XK} (hn : N.length = np + n) (h : liftF K C np (funM n m) vs H Q E) :
    liftS K C (fun cls d _ H => E cls d H) m { nx := fun _ H' => Q .non H', rt := Q } (L2.start N vs) H := by
  obtain ⟨hl, w, S, ds, R, r, g⟩ := h
  refine ⟨w, fr0 n ds, S, R.start r (by rw [hl]; exact hn), ?_⟩
  unfold funM at g
  cases e : m (fr0 n ds) S with
  | ok f fr S' =>
    rw [e] at g
    cases f with
    | nx => exact fun w' σ' H' l R' => g _ H' .non (l.trans (noslot_le w')) R'.drop .non
    | bk => exact g.elim
    | ct => exact g.elim
    | rt rv =>
      intro w' σ' H' v l R' rp
      refine g _ H' v (l.trans (noslot_le w')) R'.drop ?_
      cases rv with
      | d x => exact rp
      | u ds => exact RepU.drop rp
  | exc x fr S' =>
    rw [e] at g
    exact fun w' σ' H' c d l R' rx => g _ H' c d (l.trans (noslot_le w')) R'.drop rx
  | stuck => rw [e] at g; exact g.elim
/-- a def keeps its promise -/
theorem fn_mk {P : Program} {w : World} {K : PySem.W.Frag} {mg : Str → Option Value} {base : Heap} {C : Cl} {x qual : Str} {st : Stmt} {f : Addr} {fd : FuncData} {N ps : List Str} {k n : Nat} {m : Mo Fl} (F : Fun K x qual st f fd) (S : FnScope N ps (defScope st)) (hn : N.length = ps.length + n)
    (hb : ∀ (cdv : Value) (A : Around) (outer : List Env) (s : Shared) (H : Hp) (E : XK), Room k (A.deeper (envOfC qual (defScope st) s.heap.objs.size f cdv)) →
      PSsm (cxOf (L2.CX P w) P w K mg base N qual (defScope st) f cdv A outer s H E) C (fun cls d _ H => E cls d H) (defBody st) m) : FnOk P w K mg base (L2.CX P w) (k + 1) f fd ps (liftF K C ps.length (funM n m)) :=
  F.okX S (fun vs H Q E h => h.1) fun cdv A outer s H vs Q E hr h => ⟨_, hb cdv A outer s H E hr, pure_def hn h⟩
/-- no calls left: nothing is promised -/
def noF : Fm := fun _ _ => .stuck
theorem fn_none {P : Program} {w : World} {K : PySem.W.Frag} {mg : Str → Option Value} {base : Heap} {C : Cl} {f : Addr} {fd : FuncData} {ps : List Str} {k np : Nat} : FnOk P w K mg base (L2.CX P w) k f fd ps (liftF K C np noF) := by
  have no : ∀ vs H Q E, ¬ liftF K C np noF vs H Q E := fun vs H Q E ⟨_, w, S, ds, _, _, g⟩ => g
  exact ⟨fun vs H Q E h => absurd h (no vs H Q E), fun A outer s H args us vs Q E _ _ _ _ h => absurd h (no vs H Q E)⟩

section
variable {X : Cx} {C : Cl} {W : WX} {st : Stmt} {rest : List Stmt} {a b : Mo Fl} {e o : Expr} {m mo mi m1 m2 : Mo D} {u : Mo (List D)} {p p2 pos apos : Pos} {x y : Str} {c : Nat} {f : Str}
/-- a statement that is never reached -/
theorem psm_never : PSm X C W st Mo.stuck := ⟨fun pins s σ H D I h => by
  obtain ⟨w, fr, S, R, g⟩ := h
  exact g.elim⟩
theorem pem_never : PEm X C W e Mo.stuck := ⟨fun pins s σ H D I h => by
  obtain ⟨w, fr, S, R, g⟩ := h
  exact g.elim⟩

/-! ### raise c(n) -/
/-- c(n): an exception with a dict of its own, n by the name f in it -/
def tMkV (Cc : Addr) (f : Str) (ta : TA) : L2.St → Hp → XK → Prop := fun σ H Q => ta σ H fun vs H1 => ∃ n : Int, vs = [.int n] ∧ n.natAbs.log2 < 1920 ∧ ∀ d, H1 d = none → Q (.ref Cc) (some d) (upd H1 d (.xd [(f, .int n)]))
def raiseM (c : Nat) (ms : Mo (List D)) : Mo Fl := ms >>= fun as fr S => match as with
  | [.int n] => if small64 n = true then .exc ⟨c, n⟩ fr S else .stuck
  | _ => .stuck
theorem psm_raise {es : List Expr} {ms : Mo (List D)} {cpos : Pos} (hc : X.calm = true) (tk : Takes X W) (hfl : C.fl c = some f) (hmk : ∀ ta, PA X es ta → PMk X (.Call (.Name x p) es [] cpos) (tMkV (C.cl c) f ta)) (ha : PLm X C W es ms) :
    PSm X C W (.Raise (some (.Call (.Name x p) es [] cpos)) none pos) (raiseM c ms) := by
  refine (ps_raise hc tk (hmk _ ha)).wk fun E σ H h => ?_
  refine (liftS.bind (pL X.K) h).mono fun vs H1 ⟨w1, fr1, S1, as, R1, p1, g⟩ => ?_
  match p1, g with
  | .nil, g => exact g.elim
  | .cons (.int n) .nil, g =>
    dsimp only at g
    by_cases z : small64 n = true
    case neg => rw [if_neg z] at g; exact g.elim
    rw [if_pos z] at g
    have z : n.natAbs.log2 < 1920 := by
      have h := small64_iff.mp z
      by_cases h0 : n.natAbs = 0
      · rw [h0]; decide
      · exact Nat.lt_of_lt_of_le ((Nat.log2_lt h0).mpr (by omega : n.natAbs < 2 ^ 64)) (by decide)
    refine ⟨n, rfl, z, fun d hd => ?_⟩
    obtain ⟨R', l⟩ := R1.lay hd (.xd [(f, .int n)])
    refine g _ σ _ _ _ l R' ⟨rfl, fun f' hf => ?_⟩
    have e := hfl.symm.trans hf
    cases e
    exact ⟨d, _, rfl, upd_same, by simp [List.lookup]⟩
  | .cons (.int n) (.cons _ _), g => exact g.elim
  | .cons .non _, g => exact g.elim
  | .cons (.bl _) _, g => exact g.elim
  | .cons (.str _) _, g => exact g.elim
  | .cons (.tup _ _) _, g => exact g.elim
  | .cons (.lst _ _) _, g => exact g.elim
  | .cons (.dct _ _) _, g => exact g.elim
  | .cons (.scr _) _, g => exact g.elim
  | .cons (.ptr _) _, g => exact g.elim

/-! ### try: .. except c as n: .. -/
def tryM (c i : Nat) (b : Mo Fl) (k : Int → Mo Fl) : Mo Fl := fun fr S => match b fr S with
  | .ok f fr1 S1 => .ok f fr1 S1
  | .exc x fr1 S1 => if x.c = c ∧ i < fr1.length then k x.n (fr1.set i .un) S1 else .stuck
  | .stuck => .stuck
/-- what the suite does -/
def Suite (X : Cx) (C : Cl) (W : WX) (c i : Nat) (f : Str) (b₀ : Stmt) (suite : List Stmt) (k : Int → Mo Fl) : Prop := ∃ ts : Addr → Value → Option Addr → TS,
  (∀ (a : Addr) (oe : Obj) (cls : Value) (d : Option Addr) (pn : List (Addr × Obj)), Zc cls d oe → (∃ vs, oe.data = .fields vs) → PSs (X.suite a ((a, oe) :: pn)) (b₀ :: suite) (ts a cls d)) ∧
  ∀ (a d : Addr) (fs : List (Str × V)) (n : Int) (w : Wd) (fr : List Sl) (S : List Ob) (σ : L2.St) (H : Hp) (D : Ends), i < σ.length → Rel X.K C w fr S (σ.set i none) H → w.F d = some (.xd fs) → fs.lookup f = some (.int n) →
    GoodS X.K C w W D (k n fr S) → ts a (.ref (C.cl c)) (some d) { nx := fun σ' H' => D.nx (σ'.set i none) H', rt := D.rt, bk := fun σ' H' => D.bk (σ'.set i none) H', ct := fun σ' H' => D.ct (σ'.set i none) H' } (σ.set i (some (.ref a))) H
theorem Rel.unset {K : PySem.W.Frag} {w : Wd} {fr : List Sl} {S : List Ob} {σ : L2.St} {H : Hp} (R : Rel K C w fr S σ H) (i : Nat) : Rel K C w (fr.set i .un) S (σ.set i none) H :=
  ⟨R.subF, R.subP, R.dis, R.rol, R.len, by rw [List.length_set, List.length_set]; exact R.len2, fun j x u e1 e2 => by
    by_cases hj : j = i
    · subst hj
      have h1 := (List.getElem?_eq_some_iff.mp e1).1
      rw [List.length_set] at h1
      rw [List.getElem?_set_self h1] at e1
      cases e1
      exact .un
    · rw [List.getElem?_set_ne (Ne.symm hj)] at e1
      rw [List.getElem?_set_ne (Ne.symm hj)] at e2
      exact R.slot j x u e1 e2, R.obj, R.amb⟩
theorem psm_try {n : Str} {body suite : List Stmt} {b₀ : Stmt} {np pos' : Pos} {k : Int → Mo Fl} (i : Nat) (hs : X.stack = X.env :: X.outer) (hf : X.env.frame = some X.env.locals) (hN : X.N.Nodup) (hi : X.N[i]? = some n) (hln : X.env.kindOf n = some .local) (hc : Names X x (.ref (C.cl c))) (tk : Takes X W)
    (hfl : C.fl c = some f) (hex : PySem.W.exmOne X.K (.ref (C.cl c)) (.ref (C.cl c)) = some true)
    (hb : ∀ (W : WX) (pn : List (Addr × Obj)) (xe : Value → Shared → Prop), Takes (X.tr pn xe) W → PassesOwn (model X.prog X.w) X.A X.env xe → PSsm (X.tr pn xe) C W body b) (hsu : Suite X C W c i f b₀ suite k) :
    PSm X C W (.Try body [.ExceptHandler (some (.Name x np)) (some n) (b₀ :: suite) pos'] [] [] pos) (tryM c i b k) := by
  obtain ⟨ts, h1, h2⟩ := hsu
  refine (ps_try_as (tb := fun W => liftS X.K C W b) (ts := ts) hs hf hN hi hln hc tk hb h1).wk fun E σ H h => ?_
  obtain ⟨w, fr, S, R, g⟩ := h
  refine ⟨w, fr, S, R, ?_⟩
  unfold tryM at g
  cases e : b fr S with
  | ok fl fr1 S1 =>
    rw [e] at g
    cases fl with
    | nx => exact g
    | bk => exact g
    | ct => exact g
    | rt v => exact g
  | stuck => rw [e] at g; exact g.elim
  | exc ex fr1 S1 =>
    rw [e] at g
    dsimp only at g
    by_cases z : ex.c = c ∧ i < fr1.length
    · rw [if_pos z] at g
      obtain ⟨z, hil⟩ := z
      intro w' σ' H' cv d l R' rx
      obtain ⟨ec, rf⟩ := rx
      subst ec
      rw [z] at rf ⊢
      obtain ⟨dd, fs, ed, hF, hl⟩ := rf f hfl
      subst ed
      refine ⟨true, hex, fun _ a ha => ?_, fun z => by cases z⟩
      exact h2 a dd fs ex.n w' (fr1.set i .un) S1 σ' H' E (by rw [R'.len2]; exact hil) (R'.unset i) hF hl (GoodS.le l g)
    · rw [if_neg z] at g; exact g.elim
theorem get_set {σ : L2.St} {i : Nat} {v : Option V} (h : i < σ.length) : (σ.set i v)[i]? = some v := List.getElem?_set_self h
/-- return (text, n.f) -/
theorem suite_told {n s : Str} {j p1 p2 p3 p4 p5 kk : _} (i : Nat) (T : XfC X.K (C.cl c)) (hno : PySem.W.findIn X.K (.ref (C.cl c)) f = some none) (hi : X.N[i]? = some n) (hv : Vis X.env.scope n) (hd : (n == ("__debug__" : Str)) = false) (hcd : (n == ("__classdict__" : Str)) = false)
    (hb : ∀ (a : Addr) (oe : Obj) (pn : List (Addr × Obj)), attributeBase (.Name n p1) f (X.suite a ((a, oe) :: pn)).env (eval (.Name n p1) (X.suite a ((a, oe) :: pn)).env) = eval (.Name n p1) (X.suite a ((a, oe) :: pn)).env)
    (hs1 : starEach (.Constant (.str s) j p2 :: [.Attribute (.Name n p1) f p3]) X.env = (false, eval (.Constant (.str s) j p2) X.env) :: starEach [.Attribute (.Name n p1) f p3] X.env)
    (hs2 : starEach (.Attribute (.Name n p1) f p3 :: []) X.env = (false, eval (.Attribute (.Name n p1) f p3) X.env) :: starEach [] X.env) :
    Suite X C W c i f (.Return (some (.Tuple [.Constant (.str s) j p2, .Attribute (.Name n p1) f p3] kk p4)) p5) [] fun n => pure (.rt (.d (.tup [.str s, .int n]))) := by
  refine ⟨fun a cls d => tRet (tTupN (tCons (tC (.str s)) (tCons (tXf a cls d (C.cl c) f (tVar i)) tNil))), fun a oe cls d pn hz hf => pss_one (ps_ret (pe_tupN (pa_cons pe_str (pa_cons (pe_xf T hno hz hf (pe_var hi hv hd hcd) (hb a oe pn)) pa_nil hs2) hs1))), ?_⟩
  intro a d fs n' w fr S σ H D hlt R hF hl g
  have hd' : H d = some (.xd fs) := R.subF _ _ hF
  refine ⟨_, get_set hlt, rfl, rfl, d, fs, .int n', rfl, hd', hl, (by show 2 ≤ sizeLine; decide), fun q o hd hq => ?_⟩
  obtain ⟨R', l⟩ := R.lay hq (.frz o (.tup [.str s, .int n']))
  exact g _ _ _ _ l R' (.tup (.of upd_same hd) (.cons (.str _) (.cons (.int _) .nil)))
end
end Z
set_option Elab.async false
set_option linter.all false
set_option maxRecDepth 100000
/-! Z9: the text's defs as they are called. -/
namespace Z
open PySem L2
open PyProof.Rows (envOfC)

/-- a def of the module; a method; a class's __init__: as they stand behind the top -/
structure Df (K : PySem.W.Frag) (mg : Str → Option Value) (x : Str) (st : Stmt) : Prop where
  ex : ∃ f fd, Fun K x x st f fd ∧ mg x = some (.ref f)
structure Dm (K : PySem.W.Frag) (A : Addr) (m qual : Str) (st : Stmt) : Prop where
  ex : ∃ f fd, Fun K m qual st f fd ∧ Meth K A m f
structure Di (K : PySem.W.Frag) (A : Addr) (qual : Str) (st : Stmt) : Prop where
  ex : ∃ f fd, Fun K "__init__" qual st f fd ∧ Mk K A f
structure DmD (K : PySem.W.Frag) (A : Addr) (m qual : Str) (st : Stmt) (dvs : List V) : Prop where
  ex : ∃ f fd, FunD K m qual (defArgs st) (defBody st) (defScope st) dvs [] f fd ∧ Meth K A m f

/-- a def that may be called by its name; df: the defaults behind what is given -/
structure CalZ (P : Program) (w : World) (K : PySem.W.Frag) (mg : Str → Option Value) (base : Heap) (C : Cl) (k : Nat) (x : Str) (F : Fm) (n : Nat) (df : List D) : Prop where
  ex : ∃ (f : Addr) (fd : FuncData) (ps : List Str) (ds : List Value) (dvs : List V), FnOk P w K mg base (L2.CX P w) k f fd ps (liftF K C n F) ∧ mg x = some (.ref f) ∧ PySem.W.keepIn K (.ref f) = true ∧ Binds K fd ps ds ∧ Vals dvs ds ∧ ∀ F m, RepL K F m dvs df
structure MetZ (P : Program) (w : World) (K : PySem.W.Frag) (mg : Str → Option Value) (base : Heap) (C : Cl) (k : Nat) (c : Nat) (m : Str) (F : Fm) (n : Nat) (df : List D) : Prop where
  ex : ∃ (f : Addr) (fd : FuncData) (ps : List Str) (ds : List Value) (dvs : List V), FnOk P w K mg base (L2.CX P w) k f fd ps (liftF K C n F) ∧ Meth K (C.cl c) m f ∧ Binds K fd ps ds ∧ Vals dvs ds ∧ ∀ F m, RepL K F m dvs df
structure MakZ (P : Program) (w : World) (K : PySem.W.Frag) (mg : Str → Option Value) (base : Heap) (C : Cl) (k : Nat) (c : Nat) (F : Fm) (n : Nat) (df : List D) : Prop where
  ex : ∃ (f : Addr) (fd : FuncData) (ps : List Str) (ds : List Value) (dvs : List V), FnOk P w K mg base (L2.CX P w) k f fd ps (liftF K C n F) ∧ Mk K (C.cl c) f ∧ Binds K fd ps ds ∧ Vals dvs ds ∧ ∀ F m, RepL K F m dvs df

section
variable {P : Program} {w : World} {K : PySem.W.Frag} {mg : Str → Option Value} {base : Heap} {C : Cl} {x m qual : Str} {st : Stmt} {N ps : List Str} {k n c : Nat} {b : Mo Fl} {dvs : List V} {df : List D}
/-- how a def binds all its arguments -/
abbrev BindAll (x qual : Str) (st : Stmt) (ps : List Str) : Prop := ∀ (kV doc pm : Value) (an : Option Addr) (cdv ct : Value) (us : List Value), us.length = ps.length → bindArgs (PySem.W.fnOf x qual (defArgs st) (defBody st) (defScope st) .none kV doc pm an cdv ct) ⟨us, []⟩ = pure (ps.zip us)
/-- the body of a def, in each of its contexts -/
abbrev BodyZ (P : Program) (w : World) (K : PySem.W.Frag) (mg : Str → Option Value) (base : Heap) (C : Cl) (k : Nat) (qual : Str) (st : Stmt) (N : List Str) (m : Mo Fl) : Prop :=
  ∀ (f : Addr) (cdv : Value) (A : Around) (outer : List Env) (s : Shared) (H : Hp) (E : XK), Room k (A.deeper (envOfC qual (defScope st) s.heap.objs.size f cdv)) →
    PSsm (cxOf (L2.CX P w) P w K mg base N qual (defScope st) f cdv A outer s H E) C (fun cls d _ H => E cls d H) (defBody st) m
theorem cal_mk (d : Df K mg x st) (S : FnScope N ps (defScope st)) (hn : N.length = ps.length + n) (hb : BindAll x x st ps) (h : BodyZ P w K mg base C k x st N b) : CalZ P w K mg base C (k + 1) x (funM n b) ps.length [] := by
  obtain ⟨f, fd, F, hm⟩ := d.ex
  exact ⟨f, fd, ps, [], [], fn_mk F S hn (h f), hm, F.kp, F.binds hb, .nil, fun _ _ => .nil⟩
theorem cal_none (d : Df K mg x st) (hb : BindAll x x st ps) : CalZ P w K mg base C k x noF ps.length [] := by
  obtain ⟨f, fd, F, hm⟩ := d.ex
  exact ⟨f, fd, ps, [], [], fn_none, hm, F.kp, F.binds hb, .nil, fun _ _ => .nil⟩
theorem met_mk (d : Dm K (C.cl c) m qual st) (S : FnScope N ps (defScope st)) (hn : N.length = ps.length + n) (hb : BindAll m qual st ps) (h : BodyZ P w K mg base C k qual st N b) : MetZ P w K mg base C (k + 1) c m (funM n b) ps.length [] := by
  obtain ⟨f, fd, F, hm⟩ := d.ex
  exact ⟨f, fd, ps, [], [], fn_mk F S hn (h f), hm, F.binds hb, .nil, fun _ _ => .nil⟩
theorem met_none (d : Dm K (C.cl c) m qual st) (hb : BindAll m qual st ps) : MetZ P w K mg base C k c m noF ps.length [] := by
  obtain ⟨f, fd, F, hm⟩ := d.ex
  exact ⟨f, fd, ps, [], [], fn_none, hm, F.binds hb, .nil, fun _ _ => .nil⟩
theorem mak_mk (d : Di K (C.cl c) qual st) (S : FnScope N ps (defScope st)) (hn : N.length = ps.length + n) (hb : BindAll "__init__" qual st ps) (h : BodyZ P w K mg base C k qual st N b) : MakZ P w K mg base C (k + 1) c (funM n b) ps.length [] := by
  obtain ⟨f, fd, F, hm⟩ := d.ex
  exact ⟨f, fd, ps, [], [], fn_mk F S hn (h f), hm, F.binds hb, .nil, fun _ _ => .nil⟩
/-- .. with defaults: g of the parameters are given, of the defaults the first j are not asked -/
theorem met_mkD (d : DmD K (C.cl c) m qual st dvs) (S : FnScope N ps (defScope st)) (hn : N.length = ps.length + n) (g j : Nat) (hd : dvs ≠ []) (hg : g + (dvs.length - j) = ps.length)
    (hb : ∀ (T : Addr) (kV doc pm : Value) (an : Option Addr) (cdv ct : Value) (us its : List Value), us.length = g → its.length = dvs.length →
      ∃ k, bindArgs (PySem.W.fnOf m qual (defArgs st) (defBody st) (defScope st) (.ref T) kV doc pm an cdv ct) ⟨us, []⟩ = seqItems? (.ref T) >>= k ∧ k (some its.toArray) = pure (ps.zip (us ++ its.drop j)))
    (rd : ∀ F m, RepL K F m (dvs.drop j) df) (h : BodyZ P w K mg base C k qual st N b) : MetZ P w K mg base C (k + 1) c m (funM n b) ps.length df := by
  obtain ⟨f, fd, F, hm⟩ := d.ex
  obtain ⟨ds, hv, hbs⟩ := F.binds1 g j hd hg hb
  refine ⟨f, fd, ps, ds, dvs.drop j, ?_, hm, hbs, hv, rd⟩
  exact F.ok S (fun vs H Q E h => h.1) fun cdv A outer s H vs Q E hr hh => ⟨_, h f cdv A outer s H E hr, pure_def hn hh⟩
end

section
variable {X : Cx} {C : Cl} {W : WX} {j k n c : Nat} {F : Fm} {x m : Str} {p pos apos : Pos} {e o : Expr} {es : List Expr} {ms : List (Mo D)} {mo m1 : Mo D} {df : List D}
theorem pem_c (G : CalZ X.prog X.w X.K X.mg X.base C k x F n df) (hr : Room j X.A) (hk : k ≤ j) (tk : Takes X W) (ha : PLm X C W (e :: es) (argsM ms)) (hg : Gl X x := by rfl) (hn : ms.length + df.length = n := by rfl) (hdb : (x == ("__debug__" : Str)) = false := by decide)
    (he : starEach (e :: es) X.env = (false, eval e X.env) :: starEach es X.env := by rfl) (hpl : (backTo pos (starEach es X.env)).any (·.1) = false := by rfl) : PEm X C W (.Call (.Name x p) (e :: es) [] pos) (callM F ms df) := by
  obtain ⟨f, fd, ps, ds, dvs, h1, h2, h3, h4, h5, h6⟩ := G.ex
  exact pem_call h1 (hr.mono hk) hg h2 h3 h4 h5 h6 tk ha hn hdb he hpl
theorem pum_c (G : CalZ X.prog X.w X.K X.mg X.base C k x F n df) (hr : Room j X.A) (hk : k ≤ j) (tk : Takes X W) (ha : PLm X C W (e :: es) (argsM ms)) (hg : Gl X x := by rfl) (hn : ms.length + df.length = n := by rfl) (hdb : (x == ("__debug__" : Str)) = false := by decide)
    (he : starEach (e :: es) X.env = (false, eval e X.env) :: starEach es X.env := by rfl) (hpl : (backTo pos (starEach es X.env)).any (·.1) = false := by rfl) : PUm X C W (.Call (.Name x p) (e :: es) [] pos) (callMU F ms df) := by
  obtain ⟨f, fd, ps, ds, dvs, h1, h2, h3, h4, h5, h6⟩ := G.ex
  exact pum_call h1 (hr.mono hk) hg h2 h3 h4 h5 h6 tk ha hn hdb he hpl
theorem pem_c0 (G : CalZ X.prog X.w X.K X.mg X.base C k x F n df) (hr : Room j X.A) (hk : k ≤ j) (tk : Takes X W) (hg : Gl X x := by rfl) (hn : df.length = n := by rfl) (hdb : (x == ("__debug__" : Str)) = false := by decide) : PEm X C W (.Call (.Name x p) [] [] pos) (callM F [] df) := by
  obtain ⟨f, fd, ps, ds, dvs, h1, h2, h3, h4, h5, h6⟩ := G.ex
  exact pem_call0 h1 (hr.mono hk) hg h2 h3 h4 h5 h6 tk hn hdb
theorem pem_m {pl : Sem Bool} (hc : Cls X.K (C.cl c)) (G : MetZ X.prog X.w X.K X.mg X.base C k c m F n df) (hr : Room j X.A) (hk : k ≤ j) (tk : Takes X W) (ho : PEm X C W o mo) (ha : PLm X C W (e :: es) (argsM ms))
    (hn : ms.length + df.length + 1 = n := by rfl) (hst : starEach (e :: es) X.env = (false, eval e X.env) :: starEach es X.env := by rfl) (hpl : (backTo pos (starEach es X.env)).any (·.1) = false := by rfl)
    (ht : eval (.Call (.Attribute o m apos) (e :: es) [] pos) X.env = (do
      let ov ← eval o X.env
      standAt apos.atName
      let (f, first) ← holding [ov] (getMethod ov m pl)
      callWith pos f first (backTo pos (starEach (e :: es) X.env)) (backToKw pos (keywordEach [] X.env))) := by rfl) : PEm X C W (.Call (.Attribute o m apos) (e :: es) [] pos) (methM c m F mo ms df) := by
  obtain ⟨f, fd, ps, ds, dvs, h1, h2, h4, h5, h6⟩ := G.ex
  exact pem_meth (pl := pl) hc h2 h1 (hr.mono hk) h4 h5 h6 tk ho ha hn hst hpl ht
theorem pum_m {pl : Sem Bool} (hc : Cls X.K (C.cl c)) (G : MetZ X.prog X.w X.K X.mg X.base C k c m F n df) (hr : Room j X.A) (hk : k ≤ j) (tk : Takes X W) (ho : PEm X C W o mo) (ha : PLm X C W (e :: es) (argsM ms))
    (hn : ms.length + df.length + 1 = n := by rfl) (hst : starEach (e :: es) X.env = (false, eval e X.env) :: starEach es X.env := by rfl) (hpl : (backTo pos (starEach es X.env)).any (·.1) = false := by rfl)
    (ht : eval (.Call (.Attribute o m apos) (e :: es) [] pos) X.env = (do
      let ov ← eval o X.env
      standAt apos.atName
      let (f, first) ← holding [ov] (getMethod ov m pl)
      callWith pos f first (backTo pos (starEach (e :: es) X.env)) (backToKw pos (keywordEach [] X.env))) := by rfl) : PUm X C W (.Call (.Attribute o m apos) (e :: es) [] pos) (methMU c m F mo ms df) := by
  obtain ⟨f, fd, ps, ds, dvs, h1, h2, h4, h5, h6⟩ := G.ex
  exact pum_meth (pl := pl) hc h2 h1 (hr.mono hk) h4 h5 h6 tk ho ha hn hst hpl ht
theorem pem_m0 {pl : Sem Bool} (hc : Cls X.K (C.cl c)) (G : MetZ X.prog X.w X.K X.mg X.base C k c m F n df) (hr : Room j X.A) (hk : k ≤ j) (tk : Takes X W) (ho : PEm X C W o mo) (hn : df.length + 1 = n := by rfl)
    (ht : eval (.Call (.Attribute o m apos) [] [] pos) X.env = (do
      let ov ← eval o X.env
      standAt apos.atName
      let (f, first) ← holding [ov] (getMethod ov m pl)
      callWith pos f first (backTo pos (starEach [] X.env)) (backToKw pos (keywordEach [] X.env))) := by rfl) : PEm X C W (.Call (.Attribute o m apos) [] [] pos) (methM c m F mo [] df) := by
  obtain ⟨f, fd, ps, ds, dvs, h1, h2, h4, h5, h6⟩ := G.ex
  exact pem_meth0 (pl := pl) hc h2 h1 (hr.mono hk) h4 h5 h6 tk ho hn ht
theorem pum_m0 {pl : Sem Bool} (hc : Cls X.K (C.cl c)) (G : MetZ X.prog X.w X.K X.mg X.base C k c m F n df) (hr : Room j X.A) (hk : k ≤ j) (tk : Takes X W) (ho : PEm X C W o mo) (hn : df.length + 1 = n := by rfl)
    (ht : eval (.Call (.Attribute o m apos) [] [] pos) X.env = (do
      let ov ← eval o X.env
      standAt apos.atName
      let (f, first) ← holding [ov] (getMethod ov m pl)
      callWith pos f first (backTo pos (starEach [] X.env)) (backToKw pos (keywordEach [] X.env))) := by rfl) : PUm X C W (.Call (.Attribute o m apos) [] [] pos) (methMU c m F mo [] df) := by
  obtain ⟨f, fd, ps, ds, dvs, h1, h2, h4, h5, h6⟩ := G.ex
  exact pum_meth0 (pl := pl) hc h2 h1 (hr.mono hk) h4 h5 h6 tk ho hn ht
theorem pem_k (G : MakZ X.prog X.w X.K X.mg X.base C k c F n df) (hr : Room j X.A) (hk : k + 1 ≤ j) (hm : X.mg x = some (.ref (C.cl c))) (ha : PLm X C W (e :: es) (argsM ms)) (hg : Gl X x := by rfl) (hn : ms.length + df.length + 1 = n := by rfl) (hdb : (x == ("__debug__" : Str)) = false := by decide)
    (he : starEach (e :: es) X.env = (false, eval e X.env) :: starEach es X.env := by rfl) (hpl : (backTo pos (starEach es X.env)).any (·.1) = false := by rfl) : PEm X C W (.Call (.Name x p) (e :: es) [] pos) (mkM c F ms df) := by
  obtain ⟨f, fd, ps, ds, dvs, h1, h2, h4, h5, h6⟩ := G.ex
  exact pem_mk h2 h1 (hr.mono hk) hg hm h4 h5 h6 ha hn hdb he hpl
def negD : D → Option D
  | .int i => some (.int (-i))
  | _ => none
theorem pem_neg (ha : PEm X C W e m1) : PEm X C W (.UnaryOp .USub e pos) (un1 m1 negD) :=
  (pe_un un_neg ha).wk fun σ H Q h => (lift.bind (Rp := pD X.K) h).mono fun v H1 ⟨w1, fr1, S1, d, R1, p1, g⟩ => by
    obtain ⟨c, ec, g2⟩ := Good.ofO g
    cases p1 with
    | int i =>
      cases ec
      exact ⟨i, rfl, g2 w1 H1 _ (.refl _) R1 (.int _)⟩
    | _ => cases ec
/-- {} -/
theorem pdm_new : PDm X C W (.Dict [] [] pos) (pure []) := pe_dnewK.wk fun σ H Q h => by
  obtain ⟨w, fr, S, R, g⟩ := h
  intro d hd
  obtain ⟨h1, h2, h3⟩ := R.fresh hd
  exact g w _ _ (.refl _) (R.same (sub_new hd _)) ⟨d, [], rfl, upd_same, .nil, h1, h2, h3⟩

def itET : List D → Option (List D)
  | [.tup ds] => some (enumD 0 ds)
  | _ => none
theorem pim_enumT {elts : List Expr} {kk : Nat} {tpos : Pos} {a : Expr} {ms' : Mo (List D)} (hg : Gl X "enumerate") (hm : X.mg "enumerate" = none) (ha : PLm X C W [a] ms') (hs : starEach [a] X.env = [(false, eval a X.env)] := by rfl) :
    PIm X C W (.Tuple elts kk tpos) (.Call (.Name "enumerate" p) [a] [] pos) (ms' >>= fun as => ofO (itET as)) :=
  (pi_enumT hg hm ha hs).wk fun σ H R h => (lift.bind (Rp := pL X.K) h).mono fun vs H1 ⟨w1, fr1, S1, as, R1, p1, g⟩ => by
    obtain ⟨ds, ed, g2⟩ := Good.ofO g
    match p1 with
    | .nil => cases ed
    | .cons r1 (.cons _ _) => cases r1 <;> cases ed
    | .cons r1 .nil =>
      cases r1 with
      | @tup a vs ds h r =>
        cases ed
        exact ⟨a, vs, rfl, R1.subF.sqT h, g2 w1 H1 _ (.refl _) R1 (pI_pair (walk_enumN (sq := fun H xs => SqT X.K H a xs)) (fun C w2 fr S σ H2 lF lm R => R.subF.sqT (lF.sqN h)) r)⟩
      | _ => cases ed
/-- dict(()) -/
def dict0D : D → Option (List (Key × D))
  | .tup [] => some []
  | _ => none
theorem pdm_dict0 (hc : X.calm = true) (hg : Gl X "dict") (hm : X.mg "dict" = none) (ha : PEm X C W e m1) (he : starEach (e :: []) X.env = (false, eval e X.env) :: starEach [] X.env := by rfl) (hpl : (backTo pos (starEach [] X.env)).any (·.1) = false := by rfl) :
    PDm X C W (.Call (.Name "dict" p) [e] [] pos) (m1 >>= fun d => ofO (dict0D d)) :=
  (pe_callTy (call_dictN hc) hg hm PyProof.Rows.boot_dict (pa_cons ha pa_nil he) (by decide) (by decide) he hpl).wk fun σ H Q h => (lift.bind (Rp := pD X.K) h).mono fun v H1 ⟨w1, fr1, S1, d, R1, p1, g⟩ => by
    obtain ⟨ks, ed, g2⟩ := Good.ofO g
    cases p1 with
    | @tup a vs ds h r =>
      cases r with
      | cons _ _ => cases ed
      | nil =>
        cases ed
        refine ⟨a, [], [], rfl, ?_, .nil, fun q hq => ?_⟩
        · exact R1.subF.sqN h
        · obtain ⟨h1, h2, h3⟩ := R1.fresh hq
          exact g2 w1 _ _ (.refl _) (R1.same (sub_new hq _)) ⟨q, [], rfl, upd_same, .nil, h1, h2, h3⟩
    | _ => cases ed
end
end Z
set_option Elab.async false
set_option linter.all false
set_option maxRecDepth 100000
/-! Z10: small words for the printed walks. -/
namespace Z
open PySem L2

/-- a tuple of texts among a module's constants -/
def StrsK (K : PySem.W.Frag) (a : Addr) (ss : List Str) : Prop := ∃ (o : Obj) (its : Array Value) (n : Nat), K.lookup a = some o ∧ o.cls = .type "tuple" ∧ o.dict = none ∧ o.data = .seq its n ∧ its.size ≤ sizeLine ∧ Vals (ss.map V.str) its.toList
theorem repL_strs {K : PySem.W.Frag} {F : Hp} {m : List Addr} : ∀ ss : List Str, RepL K F m (ss.map V.str) (ss.map D.str)
  | [] => .nil
  | x :: ss => .cons (.str x) (repL_strs ss)
/-- the k-th item of a display of texts -/
def isStr (s : Str) (u : Value) : Prop := ∃ t, u = .str s t
theorem vals_strs : ∀ {ss : List Str} {its : List Value}, Paired isStr ss its → Vals (ss.map V.str) its
  | [], _, .nil => .nil
  | _ :: _, _, .cons h r => .cons h (vals_strs r)
section
variable {X : Cx} {C : Cl} {W : WX} {x s : Str} {ss : List Str} {pos : Pos}
theorem pem_strG (h : ∃ t, X.mg x = some (.str s t)) (hg : Gl X x := by rfl) (hd : (x == ("__debug__" : Str)) = false := by decide) : PEm X C W (.Name x pos) (pure (.str s)) := by
  obtain ⟨t, h⟩ := h
  exact pem_glob (v := .str s) hg h ⟨t, rfl⟩ (fun _ _ => .str s) hd
theorem pem_tupG (h : ∃ a, X.mg x = some (.ref a) ∧ StrsK X.K a ss) (hg : Gl X x := by rfl) (hd : (x == ("__debug__" : Str)) = false := by decide) : PEm X C W (.Name x pos) (pure (.tup (ss.map .str))) := by
  obtain ⟨a, h, o, its, n, h1, h2, h3, h4, h5, h6⟩ := h
  exact pem_glob (v := .ref a) hg h rfl (fun F m => .tup (.inr ⟨o, its, n, h1, h2, h3, h4, h5, h6⟩) (repL_strs ss)) hd
def NoXL (f : List D → Mo Unit) : Prop := ∀ d fr S x fr' S', f d fr S ≠ .exc x fr' S'
theorem nox_nil : NoXL tgNil := fun ds fr S x fr' S' z => by
  cases ds with
  | nil => cases z
  | cons _ _ => cases z
theorem nox_cons {f : D → Mo Unit} {g : List D → Mo Unit} (h1 : NoX f) (h2 : NoXL g) : NoXL (tgCons f g) := fun ds fr S x fr' S' z => by
  cases ds with
  | nil => cases z
  | cons d r =>
    have z' : Rs.bind (f d fr S) (fun _ => g r) = .exc x fr' S' := z
    cases e : f d fr S with
    | ok u fr1 S1 => rw [e] at z'; exact h2 _ _ _ _ _ _ z'
    | exc y fr1 S1 => exact h1 _ _ _ _ _ _ e
    | stuck => rw [e] at z'; cases z'
theorem nox_tup {n : Nat} {g : List D → Mo Unit} (h : NoXL g) : NoX (tgTup n g) := fun d fr S x fr' S' z => by
  cases d with
  | tup ds =>
    dsimp only [tgTup] at z
    by_cases e : ds.length = n
    · rw [if_pos e] at z; exact h _ _ _ _ _ _ z
    · rw [if_neg e] at z; cases z
  | _ => cases z
end
end Z
set_option Elab.async false
set_option linter.all false
set_option maxRecDepth 100000
set_option maxHeartbeats 4000000
/-! Z11: an own exception two below ValueError whose __init__ says super().__init__("token " + str(at)); self.at = at. -/
namespace Z
open PySem L2
open PySem.W PySem.Calls PySem.HandSPX
open PyProof.Rows hiding St

def teA (p1 p2 : Pos) : Arguments := { posonlyargs := [], args := [{ arg := "self", annotation := none, pos := p1 }, { arg := "at", annotation := none, pos := p2 }], vararg := none, kwonlyargs := [], kw_defaults := [], kwarg := none, defaults := [] }
def teB (q1 q2 q3 q4 q5 q6 q7 q8 q9 q10 q11 q12 q13 q14 : Pos) : List Stmt :=
  [.Expr (.Call (.Attribute (.Call (.Name "super" q1) [] [] q2) "__init__" q3) [.BinOp (.Constant (.str "token ") 0 q4) .Add (.Call (.Name "str" q5) [.Name "at" q6] [] q7) q8] [] q9) q10,
   .Assign [.Attribute (.Name "self" q11) "at" q12] (.Name "at" q13) q14]
def teS : Scope := { kind := .function, names := [(PySem.Str.ofString "self", .local), (PySem.Str.ofString "at", .local), (PySem.Str.ofString "__class__", .free), (PySem.Str.ofString "super", .globalImplicit), (PySem.Str.ofString "str", .globalImplicit)], isGenerator := false, isCoroutine := false, more := [] }
def teArg (q4 q5 q6 q7 q8 : Pos) : Expr := .BinOp (.Constant (.str "token ") 0 q4) .Add (.Call (.Name "str" q5) [.Name "at" q6] [] q7) q8
/-- how the call of super's method is run: nothing of it hangs on the places of the text -/
def TeEval (q1 q2 q3 q4 q5 q6 q7 q8 q9 : Pos) : Prop := ∃ pl : Env → Sem Bool, ∀ env : Env, eval (.Call (.Attribute (.Call (.Name "super" q1) [] [] q2) "__init__" q3) [teArg q4 q5 q6 q7 q8] [] q9) env = (do
  let ov ← attributeBase (.Call (.Name "super" q1) [] [] q2) "__init__" env (eval (.Call (.Name "super" q1) [] [] q2) env)
  standAt q3.atName
  let (f, first) ← holding [ov] (getMethod ov "__init__" (pl env))
  callWith q9 f first (backTo q9 (starEach [teArg q4 q5 q6 q7 q8] env)) [])
def TeSw1 (q1 q2 q3 q4 q5 q6 q7 q8 q9 q10 : Pos) : Prop := ∀ env : Env, swapsWith (.Call (.Attribute (.Call (.Name "super" q1) [] [] q2) "__init__" q3) [teArg q4 q5 q6 q7 q8] [] q9) none q10.line env = pure false
def TeSw2 (q11 q12 q13 q14 : Pos) : Prop := ∀ env : Env, swapsWith (.Name "at" q13) (some (.Attribute (.Name "self" q11) "at" q12)) q14.line env = pure false
/-- what the written part says of the class at C -/
structure TeTxt (P : Program) (K : PySem.W.Frag) (mg : Str → Option Value) (C : Addr) : Prop where
  gC : mg "TextError" = some (.ref C)
  sup : mg "super" = none
  st : mg "str" = none
  cls : ∃ nm q N bs bm sn sub ab col dd k0 k1 k2 k3 k5, K.lookup C = some (excClassObj nm q C N bs bm true sn sub ab col dd k0 k1 k2 k3 k5 "ValueError.__new__") ∧ refsVE bm = true
  sa : findIn K (.ref C) "__setattr__" = some (some (.builtin "object.__setattr__"))
  noN : findIn K (.ref C) "at" = some none
  kC : keepIn K (.ref C) = true
  exC : subIn K (.ref C) (.type "BaseException") = some true
  veC : subIn K (.ref C) (.type "ValueError") = some true
  tyC : typeIn K (.ref C) = some (.type "type")
  selfC : mroIn K C (.ref C) = some true
  tp : nsIn K cStatics "thirdparty.any" = some none
  supC : ks_superIn K C C "__init__" = some (some (.builtin "ValueError.__init__"))
  htop : (P.main.scope.names.lookup ("super" : Str)).isSome = false
  ex : ∃ (fI cc cda : Addr) (oc : Value) (od : Option Addr) (kV doc pm : Value) (an : Option Addr) (ct : Value) (osl : Array (Option Value)) (p1 p2 q1 q2 q3 q4 q5 q6 q7 q8 q9 q10 q11 q12 q13 q14 : Pos)
      (ccl cl : Value) (cdd cld : Option Addr) (vs : Array Value) (ccs csl : Array (Option Value)) (tf : Tok) (file : Str),
    findIn K (.ref C) "__init__" = some (some (.ref fI)) ∧ typeIn K (.ref fI) = some (.type "function") ∧
    K.lookup fI = some ⟨oc, od, .func (ksFn "__init__" "TextError.__init__" (teA p1 p2) (teB q1 q2 q3 q4 q5 q6 q7 q8 q9 q10 q11 q12 q13 q14) teS .none kV doc pm an (.ref cda) ct cc), osl⟩ ∧ codeIn K (.ref cda) "TextError.__init__" = true ∧
    K.lookup cda = some ⟨ccl, cdd, .fields vs, ccs⟩ ∧ vs[2]? = some (.str file tf) ∧ ((P.main.file : Str) == file) = true ∧ K.lookup cc = some ⟨cl, cld, .cell (some (.ref C)), csl⟩ ∧ TeEval q1 q2 q3 q4 q5 q6 q7 q8 q9 ∧ TeSw1 q1 q2 q3 q4 q5 q6 q7 q8 q9 q10 ∧ TeSw2 q11 q12 q13 q14

/-- what __init__ leaves of a fresh exception at x -/
structure TeEnd (h h' : Heap) (x C dx t1 : Addr) (v : Value) : Prop where
  keep : ∀ b o, b ≠ x → h.get? b = some o → h'.get? b = some o
  obj : h'.get? x = some { cls := .ref C, dict := some dx, data := .fields #[.ref t1, .none, .none, .none, .bool false, .none] }
  dbig : h.objs.size ≤ dx
  dne : dx ≠ x
  ns : h'.Ns1 dx (fun y => if y = "at" then some v else none)
theorem ns_ne {h : Heap} {a x : Addr} {m : Str → Option Value} {C t : Addr} (hn : h.Ns a m) (hx : h.get? x = some (excO C t)) : a ≠ x := fun z => by
  obtain ⟨o, es, ep, e1, e2, _⟩ := hn
  rw [z, hx] at e1
  cases e1
  cases e2
theorem ns_keep {h h' : Heap} {a x : Addr} {m : Str → Option Value} (hn : h.Ns a m) (ne : a ≠ x) (k : ∀ b o, b ≠ x → h.get? b = some o → h'.get? b = some o) : h'.Ns a m := by
  obtain ⟨o, es, ep, e1, r⟩ := hn
  exact ⟨o, es, ep, k _ _ ne e1, r⟩
theorem kIn_but {K : PySem.W.Frag} {h h' : Heap} {x : Addr} (X : K.In h) (hx : K.lookup x = none) (k : ∀ b o, b ≠ x → h.get? b = some o → h'.get? b = some o) : K.In h' := fun a o e =>
  k a o (fun z => by rw [z, hx] at e; cases e) (X a o e)
section
variable {prog : Program} {w : World} {A : Around} {E : Value → Shared → Prop} {R : Result → Shared → Prop} {K : PySem.W.Frag} {mg : Str → Option Value} {C : Addr}
theorem te_call {h : Heap} {g : Array GenState} {d : Drawn} {t : Nat} {os : OsState} {u x t0 : Addr} {v : Value} {Q : Value → Shared → Prop} {nm q : Str} {N : Addr} {bs bm : List Value} {sn : List Str} {sub : List Value} {ab : Bool} {col : Option Bool} {dd : Option Addr} {k0 k1 k2 k3 k5 : Option Value}
    (hC : h.get? C = some (excClassObj nm q C N bs bm true sn sub ab col dd k0 k1 k2 k3 k5 "ValueError.__new__")) (he : h.get? x = some (excO C t0)) (hu : h.get? u = some (kxs_mw "ValueError.__init__" x))
    (hq : ∀ h' t1, (∀ b o, b ≠ x → h.get? b = some o → h'.get? b = some o) → h'.get? x = some (excO C t1) → Q .none ⟨h', g, d, t, os⟩) :
    wpAny (model prog w) A (call (.ref u) [v]) Q E ⟨h, g, d, t, os⟩ := by
  refine wpAny_call (codeAny_of_tree ?_)
  show wpAny _ A.in1 (callAny (.ref u) ⟨[v], []⟩) _ _ _
  simp only [callAny]
  refine wpAny_bind (wpAny_load hu ?_)
  simp only [kxs_mw, show (Value.type "method-wrapper" == Value.type "method" || Value.type "method-wrapper" == Value.type "builtin_function_or_method" || Value.type "method-wrapper" == Value.type "method-wrapper") = true by decide, if_true]
  refine KFB.if_so (by decide) ?_
  refine wpAny_bind (check_bound_init F.excBase_ValueError.toExcCallFacts hC he rfl ?_)
  refine wpAny_bind (wpAny_pure (wpAny_pure ?_))
  refine ⟨plainId_quiet F.excBase_ValueError.init.plain _, codeAny_builtin F.excBase_ValueError.initEntry ?_⟩
  refine exc_init_tree (cls := .ref C) (t0 := t0) (dv := none) (c2 := .none) (c3 := .none) (b4 := .bool false) he (by show 1 ≤ sizeLine; decide) fun h' k e1 _ => ?_
  exact hq h' h.objs.size k e1
theorem te_init (T : TeTxt prog K mg C) {fI cc cda : Addr} {oc : Value} {od : Option Addr} {kV doc pm : Value} {an : Option Addr} {ct : Value} {osl : Array (Option Value)} {p1 p2 q1 q2 q3 q4 q5 q6 q7 q8 q9 q10 q11 q12 q13 q14 : Pos}
    {ccl cl : Value} {cdd cld : Option Addr} {vs : Array Value} {ccs csl : Array (Option Value)} {tf : Tok} {file : Str}
    (ho : K.lookup fI = some ⟨oc, od, .func (ksFn "__init__" "TextError.__init__" (teA p1 p2) (teB q1 q2 q3 q4 q5 q6 q7 q8 q9 q10 q11 q12 q13 q14) teS .none kV doc pm an (.ref cda) ct cc), osl⟩) (hcd : codeIn K (.ref cda) "TextError.__init__" = true)
    (hcode : K.lookup cda = some ⟨ccl, cdd, .fields vs, ccs⟩) (hvs : vs[2]? = some (.str file tf)) (hfile : ((prog.main.file : Str) == file) = true) (hcell : K.lookup cc = some ⟨cl, cld, .cell (some (.ref C)), csl⟩) (hev : TeEval q1 q2 q3 q4 q5 q6 q7 q8 q9) (hs1 : TeSw1 q1 q2 q3 q4 q5 q6 q7 q8 q9 q10) (hs2 : TeSw2 q11 q12 q13 q14)
    {s : Shared} {x t0 : Addr} {n : Int} {t : Tok} {mb : Str → Option Value} (X : K.In s.heap) (hlim : s.heap.NoLimit) (hG : s.heap.Ns mainGlobals mg) (hB : s.heap.Ns builtinsNs mb) (hbb : ∀ x : Str, x ≠ "__name__" → mb x = bootBuiltins x)
    (hx : s.heap.get? x = some (excO C t0)) (hnx : K.lookup x = none) (hroom : A.depth < recursionLimit) (hn : n.natAbs.log2 < 1920)
    (hq : ∀ h' tk dx t1, TeEnd s.heap h' x C dx t1 (.int n t) → R (.ok (.ret .none)) { s with heap := h', toks := tk }) :
    codeAny (model prog w) A (.call (.ref fI) ⟨[.ref x, .int n t], []⟩) R s := by
  obtain ⟨nm, q, N, bs, bm, sn, sub, ab, col, dd, k0, k1, k2, k3, k5, hC, hbm⟩ := T.cls
  have hcl : clsIn K C = some { name := nm, bases := bs, mro := .ref C :: bm, ns := N, qualname := q, hasDict := true, slotNames := sn, subclasses := sub, abstract := ab, collection := col, hasDel := false } := by unfold clsIn; rw [hC] <;> rfl
  have nG := ns_ne hG hx
  have nB := ns_ne hB hx
  have hxC : x ≠ C := fun z => by rw [z, hC] at hnx; cases hnx
  refine ks_codeAny_call_defAt (fd := ksFn "__init__" "TextError.__init__" (teA p1 p2) (teB q1 q2 q3 q4 q5 q6 q7 q8 q9 q10 q11 q12 q13 q14) teS .none kV doc pm an (.ref cda) ct cc) (body := teB q1 q2 q3 q4 q5 q6 q7 q8 q9 q10 q11 q12 q13 q14) (binds := [("self", .ref x), ("at", .int n t)])
    hroom (X _ _ ho) rfl hlim (codeRec_of X hcd) rfl (BindsTo.of_eq (by first | rfl | with_unfolding_all rfl)) (fun y hy => (show ∀ y ∈ teS.names, y.2 ≠ .cell by decide) y hy) (locs rfl) (fun h₁ hns k => ?_)
  have hxL : s.heap.objs.size ≠ x := Nat.ne_of_gt (Heap.lt_size hx)
  have X₁ : K.In h₁ := X.keeps k
  have hx₁ := k _ _ hx
  -- super().__init__("token " + str(at))
  obtain ⟨pl, hev⟩ := hev
  refine ks_wpAt_execs_cons (ks_wpAt_Expr_any (ks_wpAt_MethodCall ?_ (hev _)) rfl (hs1 _))
  refine ks_wpAt_super_base (env := ksEnv "TextError.__init__" teS s.heap.objs.size fI (.ref cda) cc) rfl rfl (by decide) rfl (X₁ _ _ ho) rfl rfl rfl (X₁ _ _ hcode) rfl hvs hfile T.htop ?_
  have G₁ := hG.at fun o e => k _ _ e
  have B₁ := hB.at fun o e => k _ _ e
  refine ks_loadName_global rfl rfl (loadGlobal_builtin (env := ksEnv "TextError.__init__" teS s.heap.objs.size fI (.ref cda) cc) G₁ T.sup B₁ ((hbb _ (by decide)).trans (show bootBuiltins "super" = some (.type "super") by decide +kernel)) ⟨rfl, ?_⟩)
  refine wpAny_loadName_free rfl rfl rfl ⟨_, X₁ _ _ hcell, rfl⟩ ?_
  refine wpAny_loadName_local rfl rfl hns (v := .ref x) (by first | rfl | with_unfolding_all rfl) ?_
  refine ks_wpAny_isType_cls (X₁ _ _ hC) rfl ⟨rfl, ?_⟩
  refine ks_wpAny_call_super (X₁ _ _ hC) rfl hx₁ rfl (fun c e => by cases e) (looks_mroIn X₁ T.selfC) (fun h₂ e₂ k₂ => ?_)
  have X₂ : K.In h₂ := X₁.keeps k₂
  have hx₂ := k₂ _ _ hx₁
  have I₂ : InstAt h₂ x (excO C t0) C none := ⟨hx₂, rfl, rfl, trivial⟩
  have hsup := T.supC
  unfold ks_superIn at hsup
  rw [hcl, Option.bind_some] at hsup
  refine kxs_getMethod kxs_ValueError e₂ (looks_opaque X₂ T.tp) (l₀ := .ref C :: bm) (fun A Q E s k q => wpAny_bind ((looks_clsIn X₂ hcl) A _ E s k (wpAny_pure q))) rfl X₂ hsup (I₂.type.andThen (looks_subIn X₂ T.veC)) hxC (by decide) ?_
  generalize hu : h₂.objs.size = u
  have k₃ : ∀ b o, h₂.get? b = some o → (h₂.push (kxs_mw "ValueError.__init__" x)).get? b = some o := fun b o e => Heap.get?_push_of_some _ e
  have hu₃ : (h₂.push (kxs_mw "ValueError.__init__" x)).get? u = some (kxs_mw "ValueError.__init__" x) := by rw [← hu]; exact Heap.get?_push_size _ rfl
  have hns₃ := (hns.at fun o e => k₂ _ _ e).at fun o e => k₃ _ _ e
  have G₃ := (G₁.at fun o e => k₂ _ _ e).at fun o e => k₃ _ _ e
  have B₃ := (B₁.at fun o e => k₂ _ _ e).at fun o e => k₃ _ _ e
  have hx₃ := k₃ _ _ hx₂
  have X₃ : K.In (h₂.push (kxs_mw "ValueError.__init__" x)) := X₂.keeps k₃
  generalize (h₂.push (kxs_mw "ValueError.__init__" x)) = h₃ at *
  refine kxs_callWith (i := "ValueError.__init__") (x := x) rfl (evalArgs_plain ?_)
  refine args_cons (rest := []) (wpAny_BinOp (Constant_str (Call_ (Name_function_global rfl rfl (loadGlobal_builtin G₃ T.st B₃ ((hbb _ (by decide)).trans PyProof.Rows.boot_str) (PyProof.Rows.callWith_type1 (args_cons ?_)))))))
  refine wpAny_Name (wpAny_loadName_local (env := ksEnv "TextError.__init__" teS s.heap.objs.size fI (.ref cda) cc) rfl rfl hns₃ (v := .int n t) (by first | rfl | with_unfolding_all rfl) (args_nil ?_)) (by decide)
  refine PySem.P.str_of_int hn ?_
  refine add_str (fun t' tk => args_nil ⟨hu₃, ?_⟩) ?_
  · refine te_call (X₃ _ _ hC) hx₃ hu₃ fun h₄ t₁ k₄ hx₄ => ?_
    -- self.at = at
    have X₄ : K.In h₄ := kIn_but X₃ hnx k₄
    have hns₄ := ns_keep hns₃ hxL k₄
    show _root_.PySem.wpAt _ _ _ (execs _ _) _ _ _
    refine ks_wpAt_execs_cons (wpAt_of_wpAny ?_)
    refine plainObj_wpAny_Assign_Attribute ?_ (hs2 _)
    refine wpAny_Name (wpAny_loadName_local (env := ksEnv "TextError.__init__" teS s.heap.objs.size fI (.ref cda) cc) rfl rfl hns₄ (v := .int n t) (by first | rfl | with_unfolding_all rfl) ?_) (by decide)
    refine wpAny_Name (wpAny_loadName_local (env := ksEnv "TextError.__init__" teS s.heap.objs.size fI (.ref cda) cc) rfl rfl hns₄ (v := .ref x) (by first | rfl | with_unfolding_all rfl) ?_) (by decide)
    refine set_plain X₄ (ox := excO C t₁) (od := none) ⟨hx₄, rfl, rfl, trivial⟩ T.sa ?_
    refine exc_osa X₄ hx₄ hcl (show refsVE (.ref C :: bm) = true from hbm) rfl T.noN (fun h₅ tk₅ dx k₅ dn dne hx₅ hn₅ => ?_)
    show _root_.PySem.wpAt _ _ _ (execs _ _) _ _ _
    refine wpAt_of_wpAny (wpAny_execs_nil ?_)
    exact hq h₅ tk₅ dx t₁ ⟨fun b o hb e => k₅ b o hb (k₄ b o hb (k₃ _ _ (k₂ _ _ (k _ _ e)))), hx₅, Nat.le_of_lt (Nat.lt_of_lt_of_le hns₄.lt dn), dne, hn₅⟩
  · have h1 := int_text_len_1921 hn
    have h2 : ("token " : Str).length = 6 := by decide
    rw [h2, sizeLine_eq]
    have h3 : (toString n : Str).length ≤ 1921 := h1
    omega
/-- TextError(n) -/
structure TeMade (h h' : Heap) (e C d : Addr) (v : Value) : Prop where
  keep : ∀ b o, h.get? b = some o → h'.get? b = some o
  new : h.objs.size ≤ e
  obj : ∃ oe vs, h'.get? e = some oe ∧ oe.cls = .ref C ∧ oe.dict = some d ∧ oe.data = .fields vs ∧ vs[1]? = some .none
  dbig : h.objs.size ≤ d
  dne : d ≠ e
  ns : h'.Ns1 d (fun y => if y = "at" then some v else none)
theorem te_made (T : TeTxt prog K mg C) {s : Shared} {n : Int} {t : Tok} {mb : Str → Option Value} (X : K.In s.heap) (hlim : s.heap.NoLimit) (hG : s.heap.Ns mainGlobals mg) (hB : s.heap.Ns builtinsNs mb) (hbb : ∀ x : Str, x ≠ "__name__" → mb x = bootBuiltins x)
    (hroom : A.depth + 1 < recursionLimit) (hn : n.natAbs.log2 < 1920) (hq : ∀ h' tk e d, TeMade s.heap h' e C d (.int n t) → R (.ok (.ret (.ref e))) { s with heap := h', toks := tk }) :
    codeAny (model prog w) A (.call (.ref C) ⟨[.int n t], []⟩) R s := by
  obtain ⟨nm, q, N, bs, bm, sn, sub, ab, col, dd, k0, k1, k2, k3, k5, hC, hbm⟩ := T.cls
  obtain ⟨fI, cc, cda, oc, od, kV, doc, pm, an, ct, osl, p1, p2, q1, q2, q3, q4, q5, q6, q7, q8, q9, q10, q11, q12, q13, q14, ccl, cl, cdd, cld, vs, ccs, csl, tf, file, iC, tC, ho, hcd, hcode, hvs, hfile, hcell, hev, hs1, hs2⟩ := T.ex
  obtain ⟨hp, g, dr, tk, os⟩ := s
  have k : ∀ b o, hp.get? b = some o → ((hp.push (kdv_tup [.int n t])).push (excO C hp.objs.size)).get? b = some o := fun b o e => Heap.get?_push_of_some _ (Heap.get?_push_of_some _ e)
  have hget : ((hp.push (kdv_tup [.int n t])).push (excO C hp.objs.size)).get? (hp.objs.size + 1) = some (excO C hp.objs.size) := by heap_get
  have hnx : K.lookup (hp.objs.size + 1) = none := by
    cases e : K.lookup (hp.objs.size + 1) with
    | none => rfl
    | some o =>
      have z : hp.get? (hp.objs.size + 1) = some o := X _ _ e
      exact absurd (Nat.lt_of_succ_lt (Heap.lt_size z)) (Nat.lt_irrefl _)
  refine call_own F.excBase_ValueError (fun X => refsVE_contains X bm hbm) (X _ _ hC) (looks_findIn X iC) (fun self => bind_fn X self tC) (by show 1 ≤ sizeLine; decide) ?_
  refine te_init (s := ⟨(hp.push (kdv_tup [.int n t])).push (excO C hp.objs.size), g, dr, tk, os⟩) T ho hcd hcode hvs hfile hcell hev hs1 hs2 (X.keeps k) (hlim.keeps k) (hG.at fun o e => k _ _ e) (hB.at fun o e => k _ _ e) hbb hget hnx ?_ hn fun h' tk' dx t1 ⟨k', hx, dn, dne, hns⟩ => ?_
  · show A.depth + 1 < recursionLimit
    exact hroom
  · have old : ∀ b o, hp.get? b = some o → h'.get? b = some o := fun b o e => k' b o (Nat.ne_of_lt (Nat.lt_succ_of_lt (Heap.lt_size e))) (k b o e)
    have z : hp.objs.size + 1 + 1 ≤ dx := by
      first
        | (simpa only [Heap.size_push] using dn)
        | exact dn
        | (have q := dn; rw [Heap.size_push, Heap.size_push] at q; exact q)
    exact ⟨rfl, hq h' tk' (hp.objs.size + 1) dx ⟨old, Nat.le_succ _, ⟨_, _, hx, rfl, rfl, rfl, rfl⟩, Nat.le_trans (Nat.le_trans (Nat.le_succ _) (Nat.le_succ _)) z, dne, hns⟩⟩
end
theorem relO_te {v : V} {v' : Value} (r : RelV v v') (f : Str) : RelO (List.lookup f [(("at" : Str), v)]) (if f = "at" then some v' else none) := by
  by_cases hw : f = "at"
  · subst hw
    rw [if_pos rfl]
    have q : List.lookup ("at" : Str) [(("at" : Str), v)] = some v := by simp [List.lookup]
    rw [q]
    exact r
  · rw [if_neg hw]
    have qw : (f == ("at" : Str)) = false := by simpa using hw
    have q2 : List.lookup f [(("at" : Str), v)] = none := by simp [List.lookup, qw]
    rw [q2]
    trivial
theorem pmk_te {X : Cx} {C : Addr} {a : Expr} {ta : TA} {p pos : Pos} (T : TeTxt X.prog X.K X.mg C) (hr : Room 1 X.A) (ha : PA X [a] ta) (hg : Gl X "TextError" := by rfl)
    (he : starEach (a :: []) X.env = (false, eval a X.env) :: starEach [] X.env := by rfl) (hpl : (backTo pos (starEach [] X.env)).any (·.1) = false := by rfl) :
    PMk X (.Call (.Name "TextError" p) [a] [] pos) (tMkV C "at" ta) := by
  intro pins s σ H Q I h
  refine wpAny_Call_Name_kw (ld_glob I hg T.gC ?_)
  refine PySem.W.callWith_K (h₀ := X.base) I.ok.mod.kin T.kC (thn (ha.run pos pins s σ H _ I h) fun us s1 hh => ?_) he hpl
  obtain ⟨vs, H1, I1, r1, n, ev, hn, q1⟩ := hh
  subst ev
  refine ⟨I1.kIn, ?_⟩
  cases r1 with
  | cons rv rn =>
    rename_i v' us'
    cases rn
    obtain ⟨t, rfl⟩ := rv
    show wpAny _ _ (call (.ref C) [.int n t]) _ _ _
    have hlim := I1.nolimit
    obtain ⟨mb, b1, b2⟩ := I1.mod.blt
    have hG := I1.mod.glob.keeps I1.bk
    have hB := b1.keeps I1.bk
    obtain ⟨hp, g, dr, tk, os⟩ := s1
    refine wpAny_call (te_made T I1.kIn hlim hG hB b2 (by have := hr.dp; omega) hn fun h' tk' e d M => ?_)
    show MkP X pins σ Q (.ref e) ⟨h', g, dr, tk', os⟩
    obtain ⟨oe, fv, hoe, hc, hd, hdat, h1⟩ := M.obj
    have hns := M.ns
    obtain ⟨G', g1, g2⟩ := restrict h' fun b => decide (b ≠ e)
    have gk : ∀ b, b ≠ e → G'.get? b = h'.get? b := fun b hb => g1 b (decide_eq_true hb)
    have ge : G'.get? e = none := g2 e (by simp)
    have old : ∀ b o, hp.get? b = some o → G'.get? b = some o := fun b o q => (gk b (Nat.ne_of_lt (Nat.lt_of_lt_of_le (Heap.lt_size q) M.new))).trans (M.keep b o q)
    have ob : ObjOk X.prog X.w (upd H1 d (.xd [(("at" : Str), .int n)])) G' d (.xd [(("at" : Str), .int n)]) :=
      ⟨_, hns.at (fun o q => (gk d M.dne).trans q), fun f => relO_te (v := .int n) (v' := .int n t) ⟨t, rfl⟩ f⟩
    have J : L2.Inv X pins σ (upd H1 d (.xd [(("at" : Str), .int n)])) ⟨G', g, dr, tk', os⟩ := I1.laid (t' := tk') old M.dbig ob
    refine ⟨e, oe, fv, ⟨G', g, dr, tk', os⟩, _, .ref C, some d, rfl, J, fun b o q => ?_, ge, hoe, ⟨hc, hd⟩, hdat, h1, ?_, rfl, I1.bare, raises_own T.exC T.tyC, q1 d (I1.hok.fresh M.dbig)⟩
    · by_cases hb : b = e
      · have q' : G'.get? b = some o := q
        rw [hb, ge] at q'; cases q'
      · exact (gk b hb).symm.trans q
    · rw [upd_ne (Ne.symm M.dne)]
      exact I1.hok.fresh M.new
end Z
set_option Elab.async false
set_option linter.all false
set_option maxRecDepth 100000
/-! Z12: from the walks to the law. -/
namespace Z
open PySem L2
/-- an error of the class at S is what «except S» names -/
theorem exm_selfZ {K : PySem.W.Frag} {S : Addr} (h1 : PySem.W.subIn K (.ref S) (.type "BaseException") = some true) (h2 : PySem.W.isClsIn K S = true) (h3 : PySem.W.typeIn K (.ref S) = some (.type "type")) (h4 : PySem.W.subIn K (.ref S) (.ref S) = some true) :
    PySem.W.exmOne K (.ref S) (.ref S) = some true := by
  have e1 : (PySem.W.subIn K (.ref S) (.type "BaseException") == some true) = true := by rw [h1] <;> rfl
  have e2 : ((PySem.W.clsIn K S).isSome && PySem.W.typeIn K (.ref S) == some (.type "type")) = true := by
    have h2' : (PySem.W.clsIn K S).isSome = true := h2
    rw [h2', h3] <;> rfl
  show (if (PySem.W.subIn K (.ref S) (.type "BaseException") == some true) = true then (if ((PySem.W.clsIn K S).isSome && PySem.W.typeIn K (.ref S) == some (.type "type")) = true then PySem.W.subIn K (.ref S) (.ref S) else none) else none) = some true
  rw [if_pos e1, if_pos e2]
  exact h4
/-- what law(script) promises -/
def spLaw (K : PySem.W.Frag) : Sp := fun vs H Q _ => ∃ (a : Addr) (ns : List Int), vs = [.ref a] ∧ SqL K H a (ns.map V.int) ∧ ns.length ≤ 63 ∧ ∀ H', Q (.bl true) H'
/-- the law by its mirror -/
theorem law_ok {P : Program} {w : World} {K : PySem.W.Frag} {mg : Str → Option Value} {base : Heap} {C : Cl} {k : Nat} {f : Addr} {fd : FuncData} {ps : List Str} {F : Nat → Fm} (hamb : ∀ H, C.amb H) (G : ∀ fu, FnOk P w K mg base (L2.CX P w) k f fd ps (liftF K C 1 (F fu))) (hl : ps.length = 1)
    (pure : ∀ ns : List Int, ns.length ≤ 63 → ∃ fu S, F fu [.scr ns] [] = .ok (.d (.bl true)) S) : FnOk P w K mg base (L2.CX P w) k f fd ps (spLaw K) := by
  have to : ∀ vs H Q E, spLaw K vs H Q E → ∃ fu, liftF K C 1 (F fu) vs H Q E := fun vs H Q E ⟨a, ns, e, hS, hn, q⟩ => by
    obtain ⟨fu, S, hF⟩ := pure ns hn
    subst e
    refine ⟨fu, rfl, ⟨H, fun _ => none, [], fun _ => none⟩, [], [.scr ns], ⟨.refl _, (fun _ _ e => by cases e), (fun _ _ _ => rfl), (fun _ _ e => by cases e), rfl, rfl, (fun i x v e _ => by simp at e), (fun r a o e _ => by simp at e), hamb _⟩, .cons (.scr hS) .nil, ?_⟩
    rw [hF]
    intro w' H' v _ _ rv
    have rv' : RepD K w'.F w'.m v (.bl true) := rv
    cases rv'
    exact q H'
  refine ⟨fun vs H Q E h => ?_, fun A outer s H args us vs Q E hr e0 hb r h => ?_⟩
  · obtain ⟨fu, h'⟩ := to vs H Q E h
    exact (G fu).len vs H Q E h'
  · obtain ⟨fu, h'⟩ := to vs H Q E h
    exact (G fu).run A outer s H args us vs Q E hr e0 hb r h'
/-- the law's own def, for the walk from its head -/
theorem law_fd {P : Program} {w : World} {K : PySem.W.Frag} {mg : Str → Option Value} {C : Cl} {k n : Nat} {st : Stmt} {N : List Str} {M : Nat → Mo Fl} {fa : Addr} (d : Df K mg "law" st) (hfa : mg "law" = some (.ref fa)) (S : FnScope N ["script"] (defScope st)) (hn : N.length = 1 + n) (hb : BindAll "law" "law" st ["script"]) (hamb : ∀ H, C.amb H)
    (hB : ∀ base fu, BodyZ P w K mg base C k "law" st N (M fu)) (pure : ∀ ns : List Int, ns.length ≤ 63 → ∃ fu S, funM n (M fu) [.scr ns] [] = .ok (.d (.bl true)) S) :
    ∃ fd : FuncData, (∀ (s : Shared) (u : Value), BindsTo s fd ⟨[u], []⟩ [("script", u)]) ∧ ∀ base : Heap, K.In base → base.Ns mainGlobals mg → FnOk P w K mg base (L2.CX P w) (k + 1) fa fd ["script"] (spLaw K) := by
  obtain ⟨f, fd, F, hm⟩ := d.ex
  rw [hfa] at hm
  cases hm
  refine ⟨fd, fun s u => ?_, fun base _ _ => law_ok (F := fun fu => funM n (M fu)) hamb (fun fu => fn_mk F S hn (hB base fu _)) rfl pure⟩
  obtain ⟨oc, od, kV, doc, pm, an, cdv, ct, osl, rfl, lk, hcd⟩ := F.ex
  exact .of_eq (hb kV doc pm an cdv ct [u] rfl)
theorem cx_false (P : Program) (w : World) (H : Hp) (s : Shared) (e : Value) (s' : Shared) : L2.CX P w [] H s (fun _ _ _ => False) e s' → False := fun h => by
  unfold L2.CX at h
  obtain ⟨_, _, _, _, _, _, _, _, _, _, _, _, z⟩ := h
  exact z
end Z
set_option Elab.async false
set_option linter.all false
set_option maxRecDepth 100000
set_option maxHeartbeats 4000000
/-! printed by gen.py: the defs as plain functions -/
namespace K70
open PySem L2 Z
def top (i : Nat) : Stmt := PySem.Challenge.pw_lacuna_k70_types_in_texts.main.body.getD i (.Pass ⟨0, 0, 0, 0⟩)
abbrev s_end_of : Stmt := top 19
/-- end_of -/
def M_end_of (fu rk : Nat) : Mo Fl :=
    (seqM (asgM (getV 1) (putV 3))
    (seqM (whileM (Z.andM (asB (bin2 (getV 3) (blt1M lenD (getV 0)) ltD)) (asB (bin2 (ixM (getV 0) (getV 3)) (getV 2) inD))) (augM 3 (pure (.int 1)) addIS) fu)
    ((getV 3) >>= fun d => pure (.rt (.d d)))))
def F_end_of (fu rk : Nat) : Fm := funM 1 (M_end_of fu rk)
abbrev s_token_at : Stmt := top 20
/-- token_at -/
def M_token_at (fu rk : Nat) : Mo Fl :=
    (seqM (asgM (ixM (getV 0) (getV 1)) (putV 2))
    (seqM (ifM (asB (bin2 (getV 2) (pure (.str "abcdefghijklmnopqrstuvwxyz")) inD)) (seqM (asgM (callM (F_end_of fu rk) [(getV 0), (getV 1), (pure (.str "abcdefghijklmnopqrstuvwxyz"))] []) (putV 3))
    (seqM (asgM (slM (getV 0) (partM (getV 1)) (partM (getV 3))) (putV 4))
    ((tupM [(ifM (asB (bin2 (getV 4) (pure (.tup ((["con", "rule", "ask", "if", "true", "some", "all", "given", "same", "match", "steps", "many", "height"] : List Str).map D.str))) inD)) (getV 4) (pure (.str "word"))), (getV 3)]) >>= fun d => pure (.rt (.d d))))) (pure .nx))
    (seqM (ifM (asB (bin2 (getV 2) (pure (.str "0123456789")) inD)) (seqM (asgM (callM (F_end_of fu rk) [(getV 0), (getV 1), (pure (.str "0123456789"))] []) (putV 3))
    ((tupM [(ifM (Z.andM (asB (bin2 (getV 2) (pure (.str "0")) eqD)) (asB (bin2 (getV 3) (bin2 (getV 1) (pure (.int 1)) addD) gtD))) (pure (.str "bad")) (pure (.str "number"))), (getV 3)]) >>= fun d => pure (.rt (.d d)))) (pure .nx))
    (seqM (ifM (asB (bin2 (getV 2) (pure (.str "()[].,:;&|")) inD)) ((tupM [(getV 2), (bin2 (getV 1) (pure (.int 1)) addD)]) >>= fun d => pure (.rt (.d d))) (pure .nx))
    (seqM (ifM (asB (bin2 (slM (getV 0) (partM (getV 1)) (partM (bin2 (getV 1) (pure (.int 2)) addD))) (pure (.str "->")) eqD)) ((tupM [(pure (.str "->")), (bin2 (getV 1) (pure (.int 2)) addD)]) >>= fun d => pure (.rt (.d d))) (pure .nx))
    ((tupM [(pure (.str "")), (getV 1)]) >>= fun d => pure (.rt (.d d))))))))
def F_token_at (fu rk : Nat) : Fm := funM 3 (M_token_at fu rk)
abbrev s_tokens_of : Stmt := top 21
/-- tokens_of -/
def M_tokens_of (fu rk : Nat) : Mo Fl :=
    (seqM ((argsM []) >>= fun ds => putOwn 1 ds >>= fun _ => pure .nx)
    (seqM (asgM (pure (.int 0)) (putV 2))
    (seqM (whileM (asB (bin2 (getV 2) (blt1M lenD (getV 0)) ltD)) (seqM (ifM (Z.orM (asB (bin2 (ixM (getV 0) (getV 2)) (pure (.str " ")) eqD)) (asB (bin2 (ixM (getV 0) (getV 2)) (pure (.str "\n")) eqD))) (seqM (augM 2 (pure (.int 1)) addIS)
    (pure .ct)) (pure .nx))
    (seqM (asgM (callM (F_token_at fu rk) [(getV 0), (getV 2)] []) (tgTup 2 (tgCons (putV 3) (tgCons (putV 4) tgNil))))
    (seqM (ifM (asB (bin2 (getV 3) (pure (.str "")) eqD)) (seqM (asgM (pure (.str "bad")) (putV 3))
    (seqM (asgM (bin2 (getV 2) (pure (.int 1)) addD) (putV 4))
    (whileM (Z.andM (asB (bin2 (getV 4) (blt1M lenD (getV 0)) ltD)) (Z.andM (asB (bin2 (ixM (getV 0) (getV 4)) (pure (.str " ")) neD)) (Z.andM (asB (bin2 (ixM (getV 0) (getV 4)) (pure (.str "\n")) neD)) (asB (bin2 (ixM (callM (F_token_at fu rk) [(getV 0), (getV 4)] []) (pure (.int 0))) (pure (.str "")) eqD))))) (augM 4 (pure (.int 1)) addIS) fu))) (pure .nx))
    (seqM ((appM 1 (tupM [(getV 3), (slM (getV 0) (partM (getV 2)) (partM (getV 4)))])) >>= fun _ => pure .nx)
    (asgM (getV 4) (putV 2)))))) fu)
    (rdOwn 1 >>= fun ds fr S => .ok (.rt (.u ds)) (fr.set 1 .un) S))))
def F_tokens_of (fu rk : Nat) : Fm := funM 4 (M_tokens_of fu rk)
abbrev s_joined : Stmt := top 22
/-- joined -/
def M_joined (fu rk : Nat) : Mo Fl :=
    (seqM (asgM (pure (.str "")) (putV 1))
    (seqM (asgM (pure (.str "")) (putV 2))
    (seqM (Z.forM ((getV 0) >>= fun d => ofO (itL d)) (putV 3) (seqM (ifM (Z.andM (asB (bin2 (getV 1) (pure (.str "")) neD)) (Z.andM (asB (bin2 (getV 2) (tupM [(pure (.str "(")), (pure (.str "["))]) notInD)) (asB (bin2 (getV 3) (tupM [(pure (.str ")")), (pure (.str "]")), (pure (.str ",")), (pure (.str ";")), (pure (.str "."))]) notInD)))) (augM 1 (pure (.str " ")) addIS) (pure .nx))
    (seqM (augM 1 (getV 3) addIS)
    (asgM (getV 3) (putV 2)))))
    ((getV 1) >>= fun d => pure (.rt (.d d))))))
def F_joined (fu rk : Nat) : Fm := funM 3 (M_joined fu rk)
abbrev s_Syntax___init__ : Stmt := inClass (top 13) 0
/-- Syntax.__init__ -/
def M_Syntax___init__ (fu rk : Nat) : Mo Fl :=
    (seqM (setFldM 0 "tokens" (getV 0) (getV 1))
    (setFldM 0 "at" (getV 0) (pure (.int 0))))
def F_Syntax___init__ (fu rk : Nat) : Fm := funM 0 (M_Syntax___init__ fu rk)
abbrev s_Syntax_kind : Stmt := inClass (top 13) 1
/-- Syntax.kind -/
def M_Syntax_kind (fu rk : Nat) : Mo Fl :=
    ((ifM (asB (bin2 (bin2 (fldM 0 "at" (getV 0)) (getV 1) addD) (blt1M lenD (fldM 0 "tokens" (getV 0))) ltD)) (ixM (ixM (fldM 0 "tokens" (getV 0)) (bin2 (fldM 0 "at" (getV 0)) (getV 1) addD)) (pure (.int 0))) (pure (.str ""))) >>= fun d => pure (.rt (.d d)))
def F_Syntax_kind (fu rk : Nat) : Fm := funM 0 (M_Syntax_kind fu rk)
abbrev s_Syntax_take : Stmt := inClass (top 13) 2
/-- Syntax.take -/
def M_Syntax_take (fu rk : Nat) : Mo Fl :=
    (seqM (ifM (asB (bin2 (methM 0 "kind" (F_Syntax_kind fu rk) (getV 0) [] [.int 0]) (getV 1) neD)) (raiseM 2 (argsM [(fldM 0 "at" (getV 0))])) (pure .nx))
    (seqM (augFldM 0 "at" (getV 0) (pure (.int 1)) addI)
    ((tupM [(ixM (ixM (fldM 0 "tokens" (getV 0)) (bin2 (fldM 0 "at" (getV 0)) (pure (.int 1)) subD)) (pure (.int 1))), (bin2 (fldM 0 "at" (getV 0)) (pure (.int 1)) subD)]) >>= fun d => pure (.rt (.d d)))))
def F_Syntax_take (fu rk : Nat) : Fm := funM 0 (M_Syntax_take fu rk)
abbrev s_Syntax_finish : Stmt := inClass (top 13) 3
/-- Syntax.finish -/
def M_Syntax_finish (fu rk : Nat) : Mo Fl :=
    (ifM (asB (bin2 (fldM 0 "at" (getV 0)) (blt1M lenD (fldM 0 "tokens" (getV 0))) ltD)) (raiseM 2 (argsM [(fldM 0 "at" (getV 0))])) (pure .nx))
def F_Syntax_finish (fu rk : Nat) : Fm := funM 0 (M_Syntax_finish fu rk)
abbrev s_Syntax_sorts : Stmt := inClass (top 13) 4
/-- Syntax.sorts -/
def M_Syntax_sorts (fu rk : Nat) (r_Syntax_sorts : Fm) : Mo Fl :=
    (seqM (putOwn 1 [] >>= fun _ => putOwn 2 [] >>= fun _ => pure .nx)
    (whileM (truM (pure (.bl true))) (seqM (ifM (asB (bin2 (methM 0 "kind" (F_Syntax_kind fu rk) (getV 0) [] [.int 0]) (pure (.str "(")) eqD)) (seqM ((methM 0 "take" (F_Syntax_take fu rk) (getV 0) [(pure (.str "("))] []) >>= fun _ => pure .nx)
    (seqM (asgM (methM 0 "sorts" r_Syntax_sorts (getV 0) [] []) (tgTup 2 (tgCons (putV 4) (tgCons (putV 5) tgNil))))
    ((methM 0 "take" (F_Syntax_take fu rk) (getV 0) [(pure (.str ")"))] []) >>= fun _ => pure .nx))) (seqM (asgM (methM 0 "take" (F_Syntax_take fu rk) (getV 0) [(pure (.str "word"))] []) (putV 3))
    (parM 4 5 (tupM [(tupM []), (ixM (getV 3) (pure (.int 0)))]) (lstM (argsM [(getV 3)])))))
    (seqM ((extM 2 (getV 5)) >>= fun _ => pure .nx)
    (seqM (ifM (asB (bin2 (methM 0 "kind" (F_Syntax_kind fu rk) (getV 0) [] [.int 0]) (pure (.str "->")) neD)) ((tupM [(tupM [(bin2 (blt1O tupD 1) (ixM (getV 4) (pure (.int 0))) addD), (ixM (getV 4) (pure (.int 1)))]), (getV 2)]) >>= fun d => pure (.rt (.d d))) (pure .nx))
    (seqM ((methM 0 "take" (F_Syntax_take fu rk) (getV 0) [(pure (.str "->"))] []) >>= fun _ => pure .nx)
    ((appM 1 (getV 4)) >>= fun _ => pure .nx))))) fu))
def F_Syntax_sorts (fu rk : Nat) : Nat → Fm
  | 0 => noF
  | k + 1 => funM 5 (M_Syntax_sorts fu rk (F_Syntax_sorts fu rk k))
abbrev s_Meaning___init__ : Stmt := inClass (top 11) 0
/-- Meaning.__init__ -/
def M_Meaning___init__ (fu rk : Nat) : Mo Fl :=
    (seqM (setFldD 1 "constants" 0 ((getV 1) >>= fun d => ofO (dict0D d)))
    (seqM (setFldD 1 "holes" 0 (pure []))
    (seqM (Z.forM (argsM [(getV 2)] >>= fun as => ofO (itET as)) (tgTup 2 (tgCons (putV 3) (tgCons (putV 4) tgNil))) Mo.stuck)
    (setFldO 1 "wrong" 0 (argsM [])))))
def F_Meaning___init__ (fu rk : Nat) : Fm := funM 2 (M_Meaning___init__ fu rk)
abbrev s_Meaning_finish : Stmt := inClass (top 11) 1
/-- Meaning.finish -/
def M_Meaning_finish (fu rk : Nat) : Mo Fl :=
    (ifM (truM (fldZ 1 "wrong" (getV 0))) (raiseM 2 (argsM [(blt1M minD (fldZ 1 "wrong" (getV 0)))])) (pure .nx))
def F_Meaning_finish (fu rk : Nat) : Fm := funM 0 (M_Meaning_finish fu rk)
abbrev s_Meaning_look : Stmt := inClass (top 11) 2
/-- Meaning.look -/
def M_Meaning_look (fu rk : Nat) : Mo Fl :=
    (ifM (asB (bin2 (blt1M lenD (ixM (getV 1) (pure (.int 0)))) (pure (.int 8)) gtD)) ((appFM 1 "wrong" 0 (prIx (prV 1) (prK (.int 1)))) >>= fun _ => pure .nx) (pure .nx))
def F_Meaning_look (fu rk : Nat) : Fm := funM 0 (M_Meaning_look fu rk)
abbrev s_Meaning_kind : Stmt := inClass (top 11) 3
/-- Meaning.kind -/
def M_Meaning_kind (fu rk : Nat) : Mo Fl :=
    (seqM (asgM (getV 1) (tgTup 2 (tgCons (putV 3) (tgCons (putV 4) tgNil))))
    (seqM (Z.forM (argsM [(getV 4)] >>= fun as => ofO (itE as)) (tgTup 2 (tgCons (putV 5) (tgCons (putV 6) tgNil))) (seqM ((methM 1 "look" (F_Meaning_look fu rk) (getV 0) [(getV 6)] []) >>= fun _ => pure .nx)
    (ifM (Z.andM (asB (bin2 (ixM (getV 6) (pure (.int 0))) (pure (.str "o")) eqD)) (Z.notM (Z.andM (truM (getV 2)) (asB (bin2 (getV 5) (bin2 (blt1M lenD (getV 4)) (pure (.int 1)) subD) eqD))))) ((appFM 1 "wrong" 0 (prIx (prV 6) (prK (.int 1)))) >>= fun _ => pure .nx) (pure .nx))))
    ((getV 3) >>= fun d => pure (.rt (.d d)))))
def F_Meaning_kind (fu rk : Nat) : Fm := funM 4 (M_Meaning_kind fu rk)
abbrev s_in_brackets : Stmt := top 25
/-- in_brackets -/
def M_in_brackets (fu rk : Nat) : Mo Fl :=
    ((catM (lstM (catM (lstM (argsM [(pure (.str "("))])) (getV 0))) (lstM (argsM [(pure (.str ")"))]))) >>= fun ds => pure (.rt (.u ds)))
def F_in_brackets (fu rk : Nat) : Fm := funM 0 (M_in_brackets fu rk)
abbrev s_kind_words : Stmt := top 24
/-- kind_words -/
def M_kind_words (fu rk : Nat) (r_kind_words : Fm) : Mo Fl :=
    (seqM ((argsM []) >>= fun ds => putOwn 1 ds >>= fun _ => pure .nx)
    (seqM (Z.forM ((ixM (getV 0) (pure (.int 0))) >>= fun d => ofO (itT d)) (putV 2) (seqM (augO 1 (ifM (truM (ixM (getV 2) (pure (.int 0)))) (callM (F_in_brackets fu rk) [(callM r_kind_words [(getV 2)] [])] []) (callM r_kind_words [(getV 2)] [])))
    ((appM 1 (pure (.str "->"))) >>= fun _ => pure .nx)))
    ((catM (getV 1) (lstM (argsM [(ixM (getV 0) (pure (.int 1)))]))) >>= fun ds => pure (.rt (.u ds)))))
def F_kind_words (fu rk : Nat) : Nat → Fm
  | 0 => noF
  | k + 1 => funM 2 (M_kind_words fu rk (F_kind_words fu rk k))
abbrev s_read_type : Stmt := top 27
/-- read_type -/
def M_read_type (fu rk : Nat) : Mo Fl :=
    (seqM (asgM (mkM 0 (F_Syntax___init__ fu rk) [(callM (F_tokens_of fu rk) [(getV 0)] [])] []) (putV 1))
    (seqM (asgM (methM 0 "sorts" (F_Syntax_sorts fu rk rk) (getV 1) [] []) (putV 2))
    (seqM ((methM 0 "finish" (F_Syntax_finish fu rk) (getV 1) [] []) >>= fun _ => pure .nx)
    (seqM (asgM (mkM 1 (F_Meaning___init__ fu rk) [(tupM []), (tupM [])] []) (putV 3))
    (seqM (asgM (methM 1 "kind" (F_Meaning_kind fu rk) (getV 3) [(getV 2), (pure (.bl true))] []) (putV 4))
    (seqM ((methM 1 "finish" (F_Meaning_finish fu rk) (getV 3) [] []) >>= fun _ => pure .nx)
    ((getV 4) >>= fun d => pure (.rt (.d d)))))))))
def F_read_type (fu rk : Nat) : Fm := funM 4 (M_read_type fu rk)
abbrev s_write_type : Stmt := top 28
/-- write_type -/
def M_write_type (fu rk : Nat) : Mo Fl :=
    ((callM (F_joined fu rk) [(callM (F_kind_words fu rk rk) [(getV 0)] [])] []) >>= fun d => pure (.rt (.d d)))
def F_write_type (fu rk : Nat) : Fm := funM 0 (M_write_type fu rk)
abbrev s__law_start : Stmt := top 30
/-- _law_start -/
def M__law_start (fu rk : Nat) : Mo Fl :=
    ((argsM [(lstM (lcM [1] ((lstM (slMU (getV 0) (pure none) (partM (pure (.int 63))))) >>= fun d => ofO (itL d)) (putV 1) (blt1M intD (getV 1)))), (pure (.int 0)), (pure (.int 0)), (pure (.int 0)), (pure (.int 20))]) >>= fun ds => pure (.rt (.u ds)))
def F__law_start (fu rk : Nat) : Fm := funM 1 (M__law_start fu rk)
abbrev s__law_fill : Stmt := top 31
/-- _law_fill -/
def M__law_fill (fu rk : Nat) : Mo Fl :=
    (seqM (setIxM (getV 0) (pure (.int 3)) (bin2 (ixM (getV 0) (pure (.int 3))) (pure (.int 1)) addD))
    (seqM (asgM (bin2 (bin2 (ixM (getV 0) (pure (.int 3))) (pure (.int 69621)) mulI) (pure (.int 12345)) addD) (putV 1))
    (seqM (ifM (asB (bin2 (ixM (getV 0) (pure (.int 1))) (blt1M lenD (ixM (getV 0) (pure (.int 0)))) ltD)) (seqM (asgM (ixM (ixM (getV 0) (pure (.int 0))) (ixM (getV 0) (pure (.int 1)))) (putV 1))
    (seqM (setIxM (getV 0) (pure (.int 1)) (bin2 (ixM (getV 0) (pure (.int 1))) (pure (.int 1)) addD))
    (seqM (ifM (asB (bin2 (getV 1) (pure (.int 0)) ltD)) (asgM (bin2 (bin2 (pure (.int 0)) (pure (.int 1)) subD) (getV 1) subD) (putV 1)) (pure .nx))
    (ifM (asB (bin2 (getV 1) (bin2 (pure (.int 10)) (pure (.int 18)) powD) geD)) ((getV 1) >>= fun d => pure (.rt (.d d))) (pure .nx))))) (pure .nx))
    (seqM (ifM (Z.andM (truM (ixM (getV 0) (pure (.int 0)))) (asB (bin2 (ixM (getV 0) (pure (.int 1))) (blt1M lenD (ixM (getV 0) (pure (.int 0)))) geD))) (asgM (bin2 (getV 1) (bin2 (blt1M intD (ixM (ixM (getV 0) (pure (.int 0))) (un1 (pure (.int 1)) negD))) (pure (.int 1000003)) modD) addD) (putV 1)) (pure .nx))
    (seqM (asgM (bin2 (blt1M intD (bin2 (bin2 (getV 1) (pure (.int 48271)) mulI) (bin2 (ixM (getV 0) (pure (.int 3))) (pure (.int 69621)) mulI) addD)) (pure (.int 2147483647)) modD) (putV 1))
    ((bin2 (bin2 (blt1M intD (bin2 (bin2 (bin2 (getV 1) (getV 1) mulI) (bin2 (ixM (getV 0) (pure (.int 3))) (pure (.int 7919)) mulI) addD) (pure (.int 11)) addD)) (pure (.int 64)) divD) (pure (.int 36028797018963968)) addD) >>= fun d => pure (.rt (.d d))))))))
def F__law_fill (fu rk : Nat) : Fm := funM 1 (M__law_fill fu rk)
abbrev s__law_take : Stmt := top 32
/-- _law_take -/
def M__law_take (fu rk : Nat) : Mo Fl :=
    (seqM (ifM (asB (bin2 (ixM (getV 0) (pure (.int 2))) (getV 1) ltD)) (setIxM (getV 0) (pure (.int 2)) (callM (F__law_fill fu rk) [(getV 0)] [])) (pure .nx))
    (seqM (asgM (bin2 (blt1M intD (ixM (getV 0) (pure (.int 2)))) (getV 1) modD) (putV 2))
    (seqM (setIxM (getV 0) (pure (.int 2)) (bin2 (ixM (getV 0) (pure (.int 2))) (getV 1) divD))
    ((getV 2) >>= fun d => pure (.rt (.d d))))))
def F__law_take (fu rk : Nat) : Fm := funM 1 (M__law_take fu rk)
abbrev s__law_joined : Stmt := top 33
/-- _law_joined -/
def M__law_joined (fu rk : Nat) : Mo Fl :=
    (seqM (asgM (pure (.str "")) (putV 1))
    (seqM (Z.forM (argsM [(blt1M lenD (getV 0))] >>= fun as => ofO (itR1 as)) (putV 2) (seqM (ifM (Z.andM (asB (bin2 (getV 2) (pure (.int 0)) gtD)) (Z.andM (asB (bin2 (ixM (getV 0) (bin2 (getV 2) (pure (.int 1)) subD)) (lstM (argsM [(pure (.str "(")), (pure (.str "["))])) notInD)) (asB (bin2 (ixM (getV 0) (getV 2)) (lstM (argsM [(pure (.str ")")), (pure (.str "]")), (pure (.str ",")), (pure (.str ";")), (pure (.str "."))])) notInD)))) (asgM (bin2 (getV 1) (pure (.str " ")) addD) (putV 1)) (pure .nx))
    (asgM (bin2 (getV 1) (ixM (getV 0) (getV 2)) addD) (putV 1))))
    ((getV 1) >>= fun d => pure (.rt (.d d)))))
def F__law_joined (fu rk : Nat) : Fm := funM 2 (M__law_joined fu rk)
abbrev s__law_scattered : Stmt := top 34
/-- _law_scattered -/
def M__law_scattered (fu rk : Nat) : Mo Fl :=
    (seqM (asgM (pure (.str "")) (putV 2))
    (seqM (Z.forM (argsM [(blt1M lenD (getV 1))] >>= fun as => ofO (itR1 as)) (putV 3) (seqM (ifM (asB (bin2 (getV 3) (pure (.int 0)) gtD)) (seqM (asgM (ixM (lstM (argsM [(pure (.str "")), (pure (.str " ")), (pure (.str "  ")), (pure (.str "\n")), (pure (.str " \n "))])) (callM (F__law_take fu rk) [(getV 0), (pure (.int 5))] [])) (putV 4))
    (seqM (ifM (Z.andM (asB (bin2 (getV 4) (pure (.str "")) eqD)) (Z.andM (truM ((ixM (ixM (getV 1) (bin2 (getV 3) (pure (.int 1)) subD)) (un1 (pure (.int 1)) negD)) >>= fun d => match d with
      | .str a => pure (.bl (Txt.isalnum a))
      | _ => Mo.stuck)) (truM ((ixM (ixM (getV 1) (getV 3)) (pure (.int 0))) >>= fun d => match d with
      | .str a => pure (.bl (Txt.isalnum a))
      | _ => Mo.stuck)))) (asgM (pure (.str " ")) (putV 4)) (pure .nx))
    (asgM (bin2 (getV 2) (getV 4) addD) (putV 2)))) (pure .nx))
    (asgM (bin2 (getV 2) (ixM (getV 1) (getV 3)) addD) (putV 2))))
    ((getV 2) >>= fun d => pure (.rt (.d d)))))
def F__law_scattered (fu rk : Nat) : Fm := funM 3 (M__law_scattered fu rk)
abbrev s__law_type_tokens : Stmt := top 35
/-- _law_type_tokens -/
def M__law_type_tokens (fu rk : Nat) (r__law_type_tokens : Fm) : Mo Fl :=
    (seqM (asgM (lstM (argsM [])) (putV 1))
    (seqM (Z.forM ((ixM (getV 0) (pure (.int 0))) >>= fun d => ofO (itT d)) (putV 2) (seqM (asgM (callM r__law_type_tokens [(getV 2)] []) (putV 3))
    (seqM (ifM (truM (ixM (getV 2) (pure (.int 0)))) (asgM (lstM (catM (lstM (catM (lstM (argsM [(pure (.str "("))])) (getV 3))) (lstM (argsM [(pure (.str ")"))])))) (putV 3)) (pure .nx))
    (asgM (lstM (catM (lstM (catM (getV 1) (getV 3))) (lstM (argsM [(pure (.str "->"))])))) (putV 1)))))
    ((catM (getV 1) (lstM (argsM [(ixM (getV 0) (pure (.int 1)))]))) >>= fun ds => pure (.rt (.u ds)))))
def F__law_type_tokens (fu rk : Nat) : Nat → Fm
  | 0 => noF
  | k + 1 => funM 3 (M__law_type_tokens fu rk (F__law_type_tokens fu rk k))
abbrev s__law_reserved : Stmt := top 36
/-- _law_reserved -/
def M__law_reserved (fu rk : Nat) : Mo Fl :=
    (seqM (asgM (lstM (argsM [(pure (.str "con")), (pure (.str "rule")), (pure (.str "ask")), (pure (.str "if")), (pure (.str "true")), (pure (.str "some")), (pure (.str "all")), (pure (.str "given")), (pure (.str "same")), (pure (.str "match")), (pure (.str "steps")), (pure (.str "many")), (pure (.str "height"))])) (putV 0))
    ((getV 0) >>= fun d => pure (.rt (.d d))))
def F__law_reserved (fu rk : Nat) : Fm := funM 1 (M__law_reserved fu rk)
abbrev s__law_peek : Stmt := top 37
/-- _law_peek -/
def M__law_peek (fu rk : Nat) : Mo Fl :=
    (seqM (ifM (asB (bin2 (ixM (getV 0) (pure (.int 1))) (blt1M lenD (ixM (getV 0) (pure (.int 0)))) ltD)) ((ixM (ixM (getV 0) (pure (.int 0))) (ixM (getV 0) (pure (.int 1)))) >>= fun d => pure (.rt (.d d))) (pure .nx))
    ((pure (.str "")) >>= fun d => pure (.rt (.d d))))
def F__law_peek (fu rk : Nat) : Fm := funM 0 (M__law_peek fu rk)
abbrev s__law_is_word : Stmt := top 38
/-- _law_is_word -/
def M__law_is_word (fu rk : Nat) : Mo Fl :=
    ((andV (bin2 (getV 0) (pure (.str "")) neD) (andV (blt1M allD (lstM (lcM [1] ((getV 0) >>= fun d => ofO (itS d)) (putV 1) (bin2 (getV 1) (pure (.str "abcdefghijklmnopqrstuvwxyz")) inD)))) (bin2 (getV 0) (callM (F__law_reserved fu rk) [] []) notInD))) >>= fun d => pure (.rt (.d d)))
def F__law_is_word (fu rk : Nat) : Fm := funM 1 (M__law_is_word fu rk)
abbrev s__law_stop : Stmt := top 39
/-- _law_stop -/
def M__law_stop (fu rk : Nat) : Mo Fl :=
    (seqM (ifM (asB (bin2 (ixM (getV 0) (pure (.int 2))) (pure (.int 0)) ltD)) (setIxM (getV 0) (pure (.int 2)) (ixM (getV 0) (pure (.int 1)))) (pure .nx))
    ((pure .non) >>= fun d => pure (.rt (.d d))))
def F__law_stop (fu rk : Nat) : Fm := funM 0 (M__law_stop fu rk)
abbrev s__law_sign : Stmt := top 40
/-- _law_sign -/
def M__law_sign (fu rk : Nat) : Mo Fl :=
    (seqM (ifM (Z.orM (asB (bin2 (ixM (getV 0) (pure (.int 2))) (pure (.int 0)) geD)) (asB (bin2 (callM (F__law_peek fu rk) [(getV 0)] []) (getV 1) neD))) (seqM ((callM (F__law_stop fu rk) [(getV 0)] []) >>= fun _ => pure .nx)
    ((pure (.bl false)) >>= fun d => pure (.rt (.d d)))) (pure .nx))
    (seqM (setIxM (getV 0) (pure (.int 1)) (bin2 (ixM (getV 0) (pure (.int 1))) (pure (.int 1)) addD))
    ((pure (.bl true)) >>= fun d => pure (.rt (.d d)))))
def F__law_sign (fu rk : Nat) : Fm := funM 0 (M__law_sign fu rk)
abbrev s__law_word : Stmt := top 41
/-- _law_word -/
def M__law_word (fu rk : Nat) : Mo Fl :=
    (seqM (ifM (Z.orM (asB (bin2 (ixM (getV 0) (pure (.int 2))) (pure (.int 0)) geD)) (Z.notM (truM (callM (F__law_is_word fu rk) [(callM (F__law_peek fu rk) [(getV 0)] [])] [])))) (seqM ((callM (F__law_stop fu rk) [(getV 0)] []) >>= fun _ => pure .nx)
    ((pure (.int 0)) >>= fun d => pure (.rt (.d d)))) (pure .nx))
    (seqM (setIxM (getV 0) (pure (.int 1)) (bin2 (ixM (getV 0) (pure (.int 1))) (pure (.int 1)) addD))
    ((bin2 (ixM (getV 0) (pure (.int 1))) (pure (.int 1)) subD) >>= fun d => pure (.rt (.d d)))))
def F__law_word (fu rk : Nat) : Fm := funM 0 (M__law_word fu rk)
abbrev s__law_read_type : Stmt := top 42
/-- _law_read_type -/
def M__law_read_type (fu rk : Nat) (r__law_read_type : Fm) : Mo Fl :=
    (seqM (ifM (asB (bin2 (ixM (getV 0) (pure (.int 2))) (pure (.int 0)) geD)) ((pure .non) >>= fun d => pure (.rt (.d d))) (pure .nx))
    (seqM (ifM (asB (bin2 (callM (F__law_peek fu rk) [(getV 0)] []) (pure (.str "(")) eqD)) (seqM ((callM (F__law_sign fu rk) [(getV 0), (pure (.str "("))] []) >>= fun _ => pure .nx)
    (seqM (asgM (callM r__law_read_type [(getV 0)] []) (putV 1))
    ((callM (F__law_sign fu rk) [(getV 0), (pure (.str ")"))] []) >>= fun _ => pure .nx))) (asgM (lstM (argsM [(pure (.str "word")), (callM (F__law_word fu rk) [(getV 0)] [])])) (putV 1)))
    (seqM (ifM (asB (bin2 (ixM (getV 0) (pure (.int 2))) (pure (.int 0)) geD)) ((pure .non) >>= fun d => pure (.rt (.d d))) (pure .nx))
    (seqM (ifM (asB (bin2 (callM (F__law_peek fu rk) [(getV 0)] []) (pure (.str "->")) eqD)) (seqM ((callM (F__law_sign fu rk) [(getV 0), (pure (.str "->"))] []) >>= fun _ => pure .nx)
    (seqM (asgM (callM r__law_read_type [(getV 0)] []) (putV 2))
    ((lstM (argsM [(pure (.str "to")), (getV 1), (getV 2)])) >>= fun d => pure (.rt (.d d))))) (pure .nx))
    ((getV 1) >>= fun d => pure (.rt (.d d)))))))
def F__law_read_type (fu rk : Nat) : Nat → Fm
  | 0 => noF
  | k + 1 => funM 2 (M__law_read_type fu rk (F__law_read_type fu rk k))
abbrev s__law_wrong : Stmt := top 43
/-- _law_wrong -/
def M__law_wrong (fu rk : Nat) : Mo Fl :=
    (ifM (Z.orM (asB (bin2 (ixM (getV 0) (pure (.int 3))) (pure (.int 0)) ltD)) (asB (bin2 (getV 1) (ixM (getV 0) (pure (.int 3))) ltD))) (setIxM (getV 0) (pure (.int 3)) (getV 1)) (pure .nx))
def F__law_wrong (fu rk : Nat) : Fm := funM 0 (M__law_wrong fu rk)
abbrev s__law_long_word : Stmt := top 44
/-- _law_long_word -/
def M__law_long_word (fu rk : Nat) : Mo Fl :=
    (ifM (asB (bin2 (blt1M lenD (ixM (ixM (getV 0) (pure (.int 2))) (getV 1))) (pure (.int 8)) gtD)) ((callM (F__law_wrong fu rk) [(getV 0), (getV 1)] []) >>= fun _ => pure .nx) (pure .nx))
def F__law_long_word (fu rk : Nat) : Fm := funM 0 (M__law_long_word fu rk)
abbrev s__law_kind_of : Stmt := top 45
/-- _law_kind_of -/
def M__law_kind_of (fu rk : Nat) (r__law_kind_of : Fm) : Mo Fl :=
    (seqM (ifM (asB (bin2 (ixM (getV 1) (pure (.int 0))) (pure (.str "word")) eqD)) (seqM ((callM (F__law_long_word fu rk) [(getV 0), (ixM (getV 1) (pure (.int 1)))] []) >>= fun _ => pure .nx)
    (seqM (ifM (Z.andM (asB (bin2 (ixM (ixM (getV 0) (pure (.int 2))) (ixM (getV 1) (pure (.int 1)))) (pure (.str "o")) eqD)) (Z.notM (truM (getV 2)))) ((callM (F__law_wrong fu rk) [(getV 0), (ixM (getV 1) (pure (.int 1)))] []) >>= fun _ => pure .nx) (pure .nx))
    ((tupM [(tupM []), (ixM (ixM (getV 0) (pure (.int 2))) (ixM (getV 1) (pure (.int 1))))]) >>= fun d => pure (.rt (.d d))))) (pure .nx))
    (seqM (asgM (callM r__law_kind_of [(getV 0), (ixM (getV 1) (pure (.int 1))), (pure (.bl false))] []) (putV 3))
    (seqM (asgM (callM r__law_kind_of [(getV 0), (ixM (getV 1) (pure (.int 2))), (getV 2)] []) (putV 4))
    ((tupM [(bin2 (tupM [(getV 3)]) (ixM (getV 4) (pure (.int 0))) addD), (ixM (getV 4) (pure (.int 1)))]) >>= fun d => pure (.rt (.d d))))))
def F__law_kind_of (fu rk : Nat) : Nat → Fm
  | 0 => noF
  | k + 1 => funM 2 (M__law_kind_of fu rk (F__law_kind_of fu rk k))
abbrev s__law_spoilt_tokens : Stmt := top 46
/-- _law_spoilt_tokens -/
def M__law_spoilt_tokens (fu rk : Nat) : Mo Fl :=
    (seqM (asgM (lstM (argsM [(pure (.str "(")), (pure (.str ")")), (pure (.str "[")), (pure (.str "]")), (pure (.str ".")), (pure (.str ",")), (pure (.str ":")), (pure (.str ";")), (pure (.str "->")), (pure (.str "&")), (pure (.str "|")), (pure (.str "a")), (pure (.str "p")), (pure (.str "x")), (pure (.str "o")), (pure (.str "if")), (pure (.str "true")), (pure (.str "some")), (pure (.str "all")), (pure (.str "given")), (pure (.str "same"))])) (putV 2))
    (seqM (asgM (lstM (catM (getV 2) (lstM (argsM [(pure (.str "match")), (pure (.str "con")), (pure (.str "rule")), (pure (.str "ask")), (pure (.str "steps")), (pure (.str "12")), (pure (.str "007")), (pure (.str "#")), (pure (.str "longwords")), (pure (.str "zzzzzzzz")), (pure (.str "zc")), (pure (.str "c"))])))) (putV 2))
    (seqM (Z.forM (argsM [(bin2 (bin2 (pure (.int 1)) (blt1M intD (bin2 (callM (F__law_take fu rk) [(getV 0), (pure (.int 3))] []) (pure (.int 0)) eqD)) addD) (blt1M intD (bin2 (callM (F__law_take fu rk) [(getV 0), (pure (.int 6))] []) (pure (.int 0)) eqD)) addD)] >>= fun as => ofO (itR1 as)) (putV 3) (seqM (asgM (callM (F__law_take fu rk) [(getV 0), (bin2 (blt1M lenD (getV 1)) (pure (.int 1)) addD)] []) (putV 4))
    (seqM (asgM (ixM (getV 2) (callM (F__law_take fu rk) [(getV 0), (blt1M lenD (getV 2))] [])) (putV 5))
    (seqM (ifM (Z.andM (asB (bin2 (callM (F__law_take fu rk) [(getV 0), (pure (.int 2))] []) (pure (.int 0)) eqD)) (truM (getV 1))) (asgM (ixM (getV 1) (callM (F__law_take fu rk) [(getV 0), (blt1M lenD (getV 1))] [])) (putV 5)) (pure .nx))
    (seqM (asgM (callM (F__law_take fu rk) [(getV 0), (pure (.int 4))] []) (putV 6))
    (ifM (asB (bin2 (getV 6) (pure (.int 0)) eqD)) (asgM (lstM (catM (lstM (slMU (getV 1) (pure none) (partM (getV 4)))) (lstM (slMU (getV 1) (partM (bin2 (getV 4) (pure (.int 1)) addD)) (pure none))))) (putV 1)) (ifM (asB (bin2 (getV 6) (pure (.int 1)) eqD)) (asgM (lstM (catM (lstM (catM (lstM (slMU (getV 1) (pure none) (partM (getV 4)))) (lstM (argsM [(getV 5)])))) (lstM (slMU (getV 1) (partM (getV 4)) (pure none))))) (putV 1)) (ifM (asB (bin2 (getV 6) (pure (.int 2)) eqD)) (asgM (lstM (catM (lstM (catM (lstM (slMU (getV 1) (pure none) (partM (getV 4)))) (lstM (argsM [(getV 5)])))) (lstM (slMU (getV 1) (partM (bin2 (getV 4) (pure (.int 1)) addD)) (pure none))))) (putV 1)) (asgM (lstM (catM (lstM (catM (lstM (catM (lstM (slMU (getV 1) (pure none) (partM (bin2 (getV 4) (pure (.int 1)) addD)))) (lstM (slMU (getV 1) (partM (bin2 (getV 4) (pure (.int 2)) addD)) (partM (bin2 (getV 4) (pure (.int 3)) addD)))))) (lstM (slMU (getV 1) (partM (bin2 (getV 4) (pure (.int 1)) addD)) (partM (bin2 (getV 4) (pure (.int 2)) addD)))))) (lstM (slMU (getV 1) (partM (bin2 (getV 4) (pure (.int 3)) addD)) (pure none))))) (putV 1))))))))))
    ((getV 1) >>= fun d => pure (.rt (.d d))))))
def F__law_spoilt_tokens (fu rk : Nat) : Fm := funM 5 (M__law_spoilt_tokens fu rk)
abbrev s__law_spaced : Stmt := top 47
/-- _law_spaced -/
def M__law_spaced (fu rk : Nat) : Mo Fl :=
    ((joinM (pure (.str " ")) (getV 0)) >>= fun d => pure (.rt (.d d)))
def F__law_spaced (fu rk : Nat) : Fm := funM 0 (M__law_spaced fu rk)
abbrev s__law_loose_type : Stmt := top 48
/-- _law_loose_type -/
def M__law_loose_type (fu rk : Nat) (r__law_loose_type : Fm) : Mo Fl :=
    (seqM ((argsM []) >>= fun ds => putOwn 2 ds >>= fun _ => pure .nx)
    (seqM (asgM (blt1M lenD (ixM (getV 1) (pure (.int 0)))) (putV 3))
    (seqM ((argsM []) >>= fun ds => putOwn 4 ds >>= fun _ => pure .nx)
    (seqM (Z.forM (argsM [(getV 3)] >>= fun as => ofO (itR1 as)) (putV 5) (seqM (ifM (asB (bin2 (callM (F__law_take fu rk) [(getV 0), (pure (.int 4))] []) (pure (.int 0)) eqD)) (seqM ((appM 2 (pure (.str "("))) >>= fun _ => pure .nx)
    ((appM 4 (pure (.str ")"))) >>= fun _ => pure .nx)) (pure .nx))
    (seqM (asgM (callM r__law_loose_type [(getV 0), (ixM (ixM (getV 1) (pure (.int 0))) (getV 5))] []) (putV 7))
    (seqM (ifM (Z.orM (truM (ixM (ixM (ixM (getV 1) (pure (.int 0))) (getV 5)) (pure (.int 0)))) (asB (bin2 (callM (F__law_take fu rk) [(getV 0), (pure (.int 4))] []) (pure (.int 0)) eqD))) (asgM (lstM (catM (lstM (catM (lstM (argsM [(pure (.str "("))])) (getV 7))) (lstM (argsM [(pure (.str ")"))])))) (putV 7)) (pure .nx))
    ((catM (lstM (catM (getV 2) (getV 7))) (lstM (argsM [(pure (.str "->"))]))) >>= fun ds => putOwn 2 ds >>= fun _ => pure .nx)))))
    (seqM (asgM (lstM (argsM [(ixM (getV 1) (pure (.int 1)))])) (putV 6))
    (seqM (ifM (asB (bin2 (callM (F__law_take fu rk) [(getV 0), (pure (.int 4))] []) (pure (.int 0)) eqD)) (asgM (lstM (catM (lstM (catM (lstM (argsM [(pure (.str "("))])) (getV 6))) (lstM (argsM [(pure (.str ")"))])))) (putV 6)) (pure .nx))
    ((catM (lstM (catM (getV 2) (getV 6))) (getV 4)) >>= fun ds => pure (.rt (.u ds)))))))))
def F__law_loose_type (fu rk : Nat) : Nat → Fm
  | 0 => noF
  | k + 1 => funM 6 (M__law_loose_type fu rk (F__law_loose_type fu rk k))
abbrev s__law_any_type : Stmt := top 49
/-- _law_any_type -/
def M__law_any_type (fu rk : Nat) (r__law_any_type : Fm) : Mo Fl :=
    (seqM (asgM (ixM (lstM (argsM [(pure (.str "a")), (pure (.str "b")), (pure (.str "nat")), (pure (.str "longsort")), (pure (.str "zz")), (pure (.str "i")), (pure (.str "cons")), (pure (.str "heigh"))])) (callM (F__law_take fu rk) [(getV 0), (pure (.int 8))] [])) (putV 2))
    (seqM (ifM (asB (bin2 (getV 1) (pure (.int 2)) ltD)) ((tupM [(tupM []), (getV 2)]) >>= fun d => pure (.rt (.d d))) (pure .nx))
    ((tupM [(blt1M tupD (lstM (lcM [3] (argsM [(ixM (lstM (argsM [(pure (.int 0)), (pure (.int 1)), (pure (.int 1)), (pure (.int 2)), (pure (.int 3)), (pure (.int 5))])) (callM (F__law_take fu rk) [(getV 0), (pure (.int 6))] []))] >>= fun as => ofO (itR1 as)) (putV 3) (callM r__law_any_type [(getV 0), (bin2 (getV 1) (pure (.int 1)) subD)] [])))), (getV 2)]) >>= fun d => pure (.rt (.d d)))))
def F__law_any_type (fu rk : Nat) : Nat → Fm
  | 0 => noF
  | k + 1 => funM 2 (M__law_any_type fu rk (F__law_any_type fu rk k))
abbrev s__law_type_due : Stmt := top 50
/-- _law_type_due -/
def M__law_type_due (fu rk : Nat) : Mo Fl :=
    (seqM ((argsM [(getV 0), (pure (.int 0)), (bin2 (pure (.int 0)) (pure (.int 1)) subD)]) >>= fun ds => putBox 1 ds >>= fun _ => pure .nx)
    (seqM (asgM (callM (F__law_read_type fu rk rk) [(getV 1)] []) (putV 2))
    (seqM (ifM (Z.andM (asB (bin2 (ixM (getV 1) (pure (.int 2))) (pure (.int 0)) ltD)) (asB (bin2 (ixM (getV 1) (pure (.int 1))) (blt1M lenD (getV 0)) ltD))) ((callM (F__law_stop fu rk) [(getV 1)] []) >>= fun _ => pure .nx) (pure .nx))
    (seqM (ifM (asB (bin2 (ixM (getV 1) (pure (.int 2))) (pure (.int 0)) geD)) ((ixM (getV 1) (pure (.int 2))) >>= fun d => pure (.rt (.d d))) (pure .nx))
    (seqM ((argsM [(lstM (argsM [])), (lstM (argsM [])), (getV 0), (bin2 (pure (.int 0)) (pure (.int 1)) subD)]) >>= fun ds => putBox 3 ds >>= fun _ => pure .nx)
    (seqM (asgM (callM (F__law_kind_of fu rk rk) [(getV 3), (getV 2), (pure (.bl true))] []) (putV 4))
    (seqM (ifM (asB (bin2 (ixM (getV 3) (pure (.int 3))) (pure (.int 0)) geD)) ((ixM (getV 3) (pure (.int 3))) >>= fun d => pure (.rt (.d d))) (pure .nx))
    ((getV 4) >>= fun d => pure (.rt (.d d))))))))))
def F__law_type_due (fu rk : Nat) : Fm := funM 4 (M__law_type_due fu rk)
abbrev s__law_type_told : Stmt := top 51
/-- _law_type_told -/
def M__law_type_told (fu rk : Nat) : Mo Fl :=
    (tryM 2 1 ((tupM [(pure (.str "told")), (callM (F_read_type fu rk) [(getV 0)] [])]) >>= fun d => pure (.rt (.d d))) fun n => pure (.rt (.d (.tup [.str "raised", .int n]))))
def F__law_type_told (fu rk : Nat) : Fm := funM 1 (M__law_type_told fu rk)
abbrev s_law : Stmt := top 52
/-- law -/
def M_law (fu rk : Nat) : Mo Fl :=
    (seqM ((callMU (F__law_start fu rk) [(getV 0)] []) >>= fun ds => putBox 1 ds >>= fun _ => pure .nx)
    (seqM (asgM (callM (F__law_any_type fu rk rk) [(getV 1), (bin2 (pure (.int 1)) (callM (F__law_take fu rk) [(getV 1), (pure (.int 4))] []) addD)] []) (putV 2))
    (seqM (ifM (asB (bin2 (callM (F__law_take fu rk) [(getV 1), (pure (.int 4))] []) (pure (.int 0)) eqD)) (asgM (tupM [(ixM (getV 2) (pure (.int 0))), (pure (.str "o"))]) (putV 2)) (pure .nx))
    (seqM (asgM (callM (F__law_type_tokens fu rk rk) [(getV 2)] []) (putV 3))
    (seqM (ifM (Z.orM (asB (bin2 (callM (F_write_type fu rk) [(getV 2)] []) (callM (F__law_joined fu rk) [(getV 3)] []) neD)) (asB (bin2 (callM (F_read_type fu rk) [(callM (F__law_joined fu rk) [(getV 3)] [])] []) (getV 2) neD))) ((pure (.bl false)) >>= fun d => pure (.rt (.d d))) (pure .nx))
    (seqM (Z.forM (argsM [(pure (.int 3))] >>= fun as => ofO (itR1 as)) (putV 4) (seqM (asgM (callM (F__law_loose_type fu rk rk) [(getV 1), (getV 2)] []) (putV 5))
    (ifM (asB (bin2 (callM (F_read_type fu rk) [(callM (F__law_scattered fu rk) [(getV 1), (getV 5)] [])] []) (getV 2) neD)) ((pure (.bl false)) >>= fun d => pure (.rt (.d d))) (pure .nx))))
    (seqM (Z.forM (argsM [(pure (.int 4))] >>= fun as => ofO (itR1 as)) (putV 4) (seqM (asgM (callM (F__law_spoilt_tokens fu rk) [(getV 1), (callM (F__law_loose_type fu rk rk) [(getV 1), (getV 2)] [])] []) (putV 6))
    (seqM (asgM (callM (F__law_type_due fu rk) [(getV 6)] []) (putV 7))
    (ifM (asB (bin2 (callM (F__law_type_told fu rk) [(callM (F__law_spaced fu rk) [(getV 6)] [])] []) (ixM (lstM (argsM [(tupM [(pure (.str "told")), (getV 7)]), (tupM [(pure (.str "raised")), (getV 7)])])) (blt1M intD (un1 (getV 7) isIntD))) neD)) ((pure (.bl false)) >>= fun d => pure (.rt (.d d))) (pure .nx)))))
    ((bin2 (callM (F__law_type_told fu rk) [(pure (.str ""))] []) (tupM [(pure (.str "raised")), (pure (.int 0))]) eqD) >>= fun d => pure (.rt (.d d))))))))))
def F_law (fu rk : Nat) : Fm := funM 7 (M_law fu rk)
end K70
set_option Elab.async false
set_option linter.all false
set_option maxRecDepth 100000
set_option maxHeartbeats 4000000
/-! printed by gen.py: the walks -/
namespace K70
open PySem L2 Z
/-- what the walks ask of the text as it stands behind its top -/
structure Txt (P : Program) (K : PySem.W.Frag) (mg : Str → Option Value) (C : Cl) : Prop where
  z_all : mg "all" = none
  z_dict : mg "dict" = none
  z_enumerate : mg "enumerate" = none
  z_int : mg "int" = none
  z_isinstance : mg "isinstance" = none
  z_len : mg "len" = none
  z_min : mg "min" = none
  z_range : mg "range" = none
  z_tuple : mg "tuple" = none
  g_DIGITS : ∃ t, mg "DIGITS" = some (.str "0123456789" t)
  g_LETTERS : ∃ t, mg "LETTERS" = some (.str "abcdefghijklmnopqrstuvwxyz" t)
  g_RESERVED : ∃ a, mg "RESERVED" = some (.ref a) ∧ StrsK K a ["con", "rule", "ask", "if", "true", "some", "all", "given", "same", "match", "steps", "many", "height"]
  g_SIGNS : ∃ t, mg "SIGNS" = some (.str "()[].,:;&|" t)
  m_Meaning : mg "Meaning" = some (.ref (C.cl 1))
  m_Syntax : mg "Syntax" = some (.ref (C.cl 0))
  m_TextError : mg "TextError" = some (.ref (C.cl 2))
  k_Meaning : Cls K (C.cl 1)
  k_Syntax : Cls K (C.cl 0)
  n_Meaning_constants : NoAttr K (C.cl 1) "constants"
  n_Meaning_holes : NoAttr K (C.cl 1) "holes"
  n_Meaning_wrong : NoAttr K (C.cl 1) "wrong"
  n_Syntax_at : NoAttr K (C.cl 0) "at"
  n_Syntax_tokens : NoAttr K (C.cl 0) "tokens"
  d_end_of : Df K mg "end_of" s_end_of
  d_token_at : Df K mg "token_at" s_token_at
  d_tokens_of : Df K mg "tokens_of" s_tokens_of
  d_joined : Df K mg "joined" s_joined
  d_Syntax___init__ : Di K (C.cl 0) "Syntax.__init__" s_Syntax___init__
  d_Syntax_kind : DmD K (C.cl 0) "kind" "Syntax.kind" s_Syntax_kind [.int 0]
  d_Syntax_take : Dm K (C.cl 0) "take" "Syntax.take" s_Syntax_take
  d_Syntax_finish : Dm K (C.cl 0) "finish" "Syntax.finish" s_Syntax_finish
  d_Syntax_sorts : Dm K (C.cl 0) "sorts" "Syntax.sorts" s_Syntax_sorts
  d_Meaning___init__ : Di K (C.cl 1) "Meaning.__init__" s_Meaning___init__
  d_Meaning_finish : Dm K (C.cl 1) "finish" "Meaning.finish" s_Meaning_finish
  d_Meaning_look : Dm K (C.cl 1) "look" "Meaning.look" s_Meaning_look
  d_Meaning_kind : DmD K (C.cl 1) "kind" "Meaning.kind" s_Meaning_kind [.bl false]
  d_in_brackets : Df K mg "in_brackets" s_in_brackets
  d_kind_words : Df K mg "kind_words" s_kind_words
  d_read_type : Df K mg "read_type" s_read_type
  d_write_type : Df K mg "write_type" s_write_type
  d__law_start : Df K mg "_law_start" s__law_start
  d__law_fill : Df K mg "_law_fill" s__law_fill
  d__law_take : Df K mg "_law_take" s__law_take
  d__law_joined : Df K mg "_law_joined" s__law_joined
  d__law_scattered : Df K mg "_law_scattered" s__law_scattered
  d__law_type_tokens : Df K mg "_law_type_tokens" s__law_type_tokens
  d__law_reserved : Df K mg "_law_reserved" s__law_reserved
  d__law_peek : Df K mg "_law_peek" s__law_peek
  d__law_is_word : Df K mg "_law_is_word" s__law_is_word
  d__law_stop : Df K mg "_law_stop" s__law_stop
  d__law_sign : Df K mg "_law_sign" s__law_sign
  d__law_word : Df K mg "_law_word" s__law_word
  d__law_read_type : Df K mg "_law_read_type" s__law_read_type
  d__law_wrong : Df K mg "_law_wrong" s__law_wrong
  d__law_long_word : Df K mg "_law_long_word" s__law_long_word
  d__law_kind_of : Df K mg "_law_kind_of" s__law_kind_of
  d__law_spoilt_tokens : Df K mg "_law_spoilt_tokens" s__law_spoilt_tokens
  d__law_spaced : Df K mg "_law_spaced" s__law_spaced
  d__law_loose_type : Df K mg "_law_loose_type" s__law_loose_type
  d__law_any_type : Df K mg "_law_any_type" s__law_any_type
  d__law_type_due : Df K mg "_law_type_due" s__law_type_due
  d__law_type_told : Df K mg "_law_type_told" s__law_type_told
  d_law : Df K mg "law" s_law
  fl_TextError : C.fl 2 = some "at"
  te_TextError : TeTxt P K mg (C.cl 2)
  ex_TextError : PySem.W.exmOne K (.ref (C.cl 2)) (.ref (C.cl 2)) = some true
  xf_TextError : XfC K (C.cl 2)
  no_TextError : PySem.W.findIn K (.ref (C.cl 2)) "at" = some none
section
variable {P : Program} {w : World} {K : PySem.W.Frag} {mg : Str → Option Value} {base : Heap} {C : Cl} {fu rk : Nat}
theorem S_end_of : FnScope ["text", "start", "letters", "end"] ["text", "start", "letters"] (defScope s_end_of) := ⟨rfl, rfl, rfl, by decide +kernel, rfl, by decide +kernel, by decide +kernel⟩
theorem H_end_of (T : Txt P K mg C) : CalZ P w K mg base C (1) "end_of" (F_end_of fu rk) 3 [] :=
  cal_mk T.d_end_of S_end_of rfl (fun _ _ _ _ _ _ us hl => match us, hl with | [_, _, _], _ => rfl) (fun f cdv A outer s H E hr => by
    have S := S_end_of
    exact (pssm_cons (psm_set 3 S.nd (pem_var 1))
    (pssm_cons (psm_while fu (passes_of rfl) ((pwm_and (pbm_cmp op_lt om_lt (pem_var 3) (pem_b1 bk_len b1_len (by rfl) T.z_len (pem_var 0)) (nomark _)) (pwm_and1 (pbm_cmp op_inA om_in (pem_ix (pem_var 0) (pem_var 3)) (pem_var 2) (by rfl))))).pt (pssm_one (psm_aug 3 S.nd pem_int ip_addA tm_add)))
    (pssm_one (psm_ret (pem_var 3))))))
theorem S_token_at : FnScope ["text", "at", "char", "end", "word"] ["text", "at"] (defScope s_token_at) := ⟨rfl, rfl, rfl, by decide +kernel, rfl, by decide +kernel, by decide +kernel⟩
theorem H_token_at (T : Txt P K mg C) : CalZ P w K mg base C (2) "token_at" (F_token_at fu rk) 2 [] :=
  cal_mk T.d_token_at S_token_at rfl (fun _ _ _ _ _ _ us hl => match us, hl with | [_, _], _ => rfl) (fun f cdv A outer s H E hr => by
    have S := S_token_at
    exact (pssm_cons (psm_set 2 S.nd (pem_ix (pem_var 0) (pem_var 1)))
    (pssm_cons (psm_if (pbm_cmp op_inA om_in (pem_var 2) (pem_strG T.g_LETTERS) (by rfl)) (pssm_cons (psm_set 3 S.nd (pem_c (H_end_of T) hr (by omega) (takes_of rfl rfl rfl rfl) (plm_cons (pem_var 0) (plm_cons (pem_var 1) (plm_cons (pem_strG T.g_LETTERS) plm_nil)))))
    (pssm_cons (psm_set 4 S.nd (pem_sl (pem_var 0) (pom_some (pem_var 1)) (pom_some (pem_var 3))))
    (pssm_one (psm_ret (pem_tup (plm_cons (pem_if (pbm_cmp op_inA om_in (pem_var 4) (pem_tupG T.g_RESERVED) (by rfl)) (pem_var 4) pem_str) (plm_cons (pem_var 3) plm_nil))))))) pssm_nil)
    (pssm_cons (psm_if (pbm_cmp op_inA om_in (pem_var 2) (pem_strG T.g_DIGITS) (by rfl)) (pssm_cons (psm_set 3 S.nd (pem_c (H_end_of T) hr (by omega) (takes_of rfl rfl rfl rfl) (plm_cons (pem_var 0) (plm_cons (pem_var 1) (plm_cons (pem_strG T.g_DIGITS) plm_nil)))))
    (pssm_one (psm_ret (pem_tup (plm_cons (pem_if ((pwm_and (pbm_cmp (op_eqZ hr.u200) om_eq (pem_var 2) pem_str (nomark _)) (pwm_and1 (pbm_cmp op_gt om_gt (pem_var 3) (pem_op op_addA om_add (pem_var 1) pem_int) (nomark _))))).pt pem_str pem_str) (plm_cons (pem_var 3) plm_nil)))))) pssm_nil)
    (pssm_cons (psm_if (pbm_cmp op_inA om_in (pem_var 2) (pem_strG T.g_SIGNS) (by rfl)) (pssm_one (psm_ret (pem_tup (plm_cons (pem_var 2) (plm_cons (pem_op op_addA om_add (pem_var 1) pem_int) plm_nil))))) pssm_nil)
    (pssm_cons (psm_if (pbm_cmp (op_eqZ hr.u200) om_eq (pem_sl (pem_var 0) (pom_some (pem_var 1)) (pom_some (pem_op op_addA om_add (pem_var 1) pem_int))) pem_str (nomark _)) (pssm_one (psm_ret (pem_tup (plm_cons pem_str (plm_cons (pem_op op_addA om_add (pem_var 1) pem_int) plm_nil))))) pssm_nil)
    (pssm_one (psm_ret (pem_tup (plm_cons pem_str (plm_cons (pem_var 1) plm_nil)))))))))))
theorem S_tokens_of : FnScope ["text", "found", "at", "kind", "end"] ["text"] (defScope s_tokens_of) := ⟨rfl, rfl, rfl, by decide +kernel, rfl, by decide +kernel, by decide +kernel⟩
theorem H_tokens_of (T : Txt P K mg C) : CalZ P w K mg base C (3) "tokens_of" (F_tokens_of fu rk) 1 [] :=
  cal_mk T.d_tokens_of S_tokens_of rfl (fun _ _ _ _ _ _ us hl => match us, hl with | [_], _ => rfl) (fun f cdv A outer s H E hr => by
    have S := S_tokens_of
    exact (pssm_cons (psm_setO 1 S.nd (pum_lst plm_nil))
    (pssm_cons (psm_set 2 S.nd pem_int)
    (pssm_cons (psm_while fu (passes_of rfl) (pbm_cmp op_lt om_lt (pem_var 2) (pem_b1 bk_len b1_len (by rfl) T.z_len (pem_var 0)) (nomark _)) (pssm_cons (psm_if ((pwm_or (pbm_cmp (op_eqZ hr.u200) om_eq (pem_ix (pem_var 0) (pem_var 2)) pem_str (nomark _)) (pwm_or1 (pbm_cmp (op_eqZ hr.u200) om_eq (pem_ix (pem_var 0) (pem_var 2)) pem_str (nomark _))))).pt (pssm_cons (psm_aug 2 S.nd pem_int ip_addA tm_add)
    (pssm_one psm_continue)) pssm_nil)
    (pssm_cons (psm_asg (pem_c (H_token_at T) hr (by omega) (takes_of rfl rfl rfl rfl) (plm_cons (pem_var 0) (plm_cons (pem_var 2) plm_nil))) (pgm_tup rfl (pgsm_cons (pgm_name 3 S.nd) (pgsm_cons (pgm_name 4 S.nd) pgsm_nil))) (nox_tup (nox_cons (nox_name 3) (nox_cons (nox_name 4) nox_nil))))
    (pssm_cons (psm_if (pbm_cmp (op_eqZ hr.u200) om_eq (pem_var 3) pem_str (nomark _)) (pssm_cons (psm_set 3 S.nd pem_str)
    (pssm_cons (psm_set 4 S.nd (pem_op op_addA om_add (pem_var 2) pem_int))
    (pssm_one (psm_while fu (passes_of rfl) ((pwm_and (pbm_cmp op_lt om_lt (pem_var 4) (pem_b1 bk_len b1_len (by rfl) T.z_len (pem_var 0)) (nomark _)) (pwm_and (pbm_cmp (op_neZ hr.u200) om_ne (pem_ix (pem_var 0) (pem_var 4)) pem_str (nomark _)) (pwm_and (pbm_cmp (op_neZ hr.u200) om_ne (pem_ix (pem_var 0) (pem_var 4)) pem_str (nomark _)) (pwm_and1 (pbm_cmp (op_eqZ hr.u200) om_eq (pem_ix (pem_c (H_token_at T) hr (by omega) (takes_of rfl rfl rfl rfl) (plm_cons (pem_var 0) (plm_cons (pem_var 4) plm_nil))) pem_int) pem_str (nomark _))))))).pt (pssm_one (psm_aug 4 S.nd pem_int ip_addA tm_add)))))) pssm_nil)
    (pssm_cons (psm_expr (pem_app 1 (pem_tup (plm_cons (pem_var 3) (plm_cons (pem_sl (pem_var 0) (pom_some (pem_var 2)) (pom_some (pem_var 4))) plm_nil)))))
    (pssm_one (psm_set 2 S.nd (pem_var 4))))))))
    (pssm_one (psm_retO 1))))))
theorem S_joined : FnScope ["words", "text", "last", "word"] ["words"] (defScope s_joined) := ⟨rfl, rfl, rfl, by decide +kernel, rfl, by decide +kernel, by decide +kernel⟩
theorem H_joined (T : Txt P K mg C) : CalZ P w K mg base C (1) "joined" (F_joined fu rk) 1 [] :=
  cal_mk T.d_joined S_joined rfl (fun _ _ _ _ _ _ us hl => match us, hl with | [_], _ => rfl) (fun f cdv A outer s H E hr => by
    have S := S_joined
    exact (pssm_cons (psm_set 1 S.nd pem_str)
    (pssm_cons (psm_set 2 S.nd pem_str)
    (pssm_cons (psm_for (passes_of rfl) rfl (pim_list (pem_var 0)) (pgm_name 3 S.nd) (nox_name 3) (pssm_cons (psm_if ((pwm_and (pbm_cmp (op_neZ hr.u200) om_ne (pem_var 1) pem_str (nomark _)) (pwm_and (pbm_cmp op_notInA om_notIn (pem_var 2) (pem_tup (plm_cons pem_str (plm_cons pem_str plm_nil))) (by rfl)) (pwm_and1 (pbm_cmp op_notInA om_notIn (pem_var 3) (pem_tup (plm_cons pem_str (plm_cons pem_str (plm_cons pem_str (plm_cons pem_str (plm_cons pem_str plm_nil)))))) (by rfl)))))).pt (pssm_one (psm_aug 1 S.nd pem_str ip_addA tm_add)) pssm_nil)
    (pssm_cons (psm_aug 1 S.nd (pem_var 3) ip_addA tm_add)
    (pssm_one (psm_set 2 S.nd (pem_var 3))))))
    (pssm_one (psm_ret (pem_var 1)))))))
theorem S_Syntax___init__ : FnScope ["self", "tokens"] ["self", "tokens"] (defScope s_Syntax___init__) := ⟨rfl, rfl, rfl, by decide +kernel, rfl, by decide +kernel, by decide +kernel⟩
theorem H_Syntax___init__ (T : Txt P K mg C) : MakZ P w K mg base C (1) 0 (F_Syntax___init__ fu rk) 2 [] :=
  mak_mk T.d_Syntax___init__ S_Syntax___init__ rfl (fun _ _ _ _ _ _ us hl => match us, hl with | [_, _], _ => rfl) (fun f cdv A outer s H E hr => by
    have S := S_Syntax___init__
    exact (pssm_cons (psm_fld T.k_Syntax T.n_Syntax_tokens (pem_var 0) (pem_var 1))
    (pssm_one (psm_fld T.k_Syntax T.n_Syntax_at (pem_var 0) pem_int))))
theorem S_Syntax_kind : FnScope ["self", "ahead"] ["self", "ahead"] (defScope s_Syntax_kind) := ⟨rfl, rfl, rfl, by decide +kernel, rfl, by decide +kernel, by decide +kernel⟩
theorem B_Syntax_kind (T : Txt P K mg C) : BodyZ P w K mg base C (0) "Syntax.kind" s_Syntax_kind ["self", "ahead"] (M_Syntax_kind fu rk) :=
  fun f cdv A outer s H E hr => by
    have S := S_Syntax_kind
    exact (pssm_one (psm_ret (pem_if (pbm_cmp op_lt om_lt (pem_op op_addA om_add (pem_fld T.k_Syntax T.n_Syntax_at (pem_var 0)) (pem_var 1)) (pem_b1 bk_len b1_len (by rfl) T.z_len (pem_fld T.k_Syntax T.n_Syntax_tokens (pem_var 0))) (nomark _)) (pem_ix (pem_ix (pem_fld T.k_Syntax T.n_Syntax_tokens (pem_var 0)) (pem_op op_addA om_add (pem_fld T.k_Syntax T.n_Syntax_at (pem_var 0)) (pem_var 1))) pem_int) pem_str)))
theorem H_Syntax_kind_0 (T : Txt P K mg C) : MetZ P w K mg base C (1) 0 "kind" (F_Syntax_kind fu rk) 2 [.int 0] :=
  met_mkD (dvs := [.int 0]) T.d_Syntax_kind S_Syntax_kind rfl 1 0 (by decide) rfl (fun _ _ _ _ _ _ _ us its h1 h2 => match us, its, h1, h2 with | [_], [_], _, _ => ⟨_, rfl, rfl⟩) (fun _ _ => (.cons (.int _) .nil)) (B_Syntax_kind T)
theorem H_Syntax_kind_1 (T : Txt P K mg C) : MetZ P w K mg base C (1) 0 "kind" (F_Syntax_kind fu rk) 2 [] :=
  met_mkD (dvs := [.int 0]) T.d_Syntax_kind S_Syntax_kind rfl 2 1 (by decide) rfl (fun _ _ _ _ _ _ _ us its h1 h2 => match us, its, h1, h2 with | [_, _], [_], _, _ => ⟨_, rfl, rfl⟩) (fun _ _ => .nil) (B_Syntax_kind T)
theorem S_Syntax_take : FnScope ["self", "kind"] ["self", "kind"] (defScope s_Syntax_take) := ⟨rfl, rfl, rfl, by decide +kernel, rfl, by decide +kernel, by decide +kernel⟩
theorem H_Syntax_take (T : Txt P K mg C) : MetZ P w K mg base C (3) 0 "take" (F_Syntax_take fu rk) 2 [] :=
  met_mk T.d_Syntax_take S_Syntax_take rfl (fun _ _ _ _ _ _ us hl => match us, hl with | [_, _], _ => rfl) (fun f cdv A outer s H E hr => by
    have S := S_Syntax_take
    exact (pssm_cons (psm_if (pbm_cmp (op_neZ hr.u200) om_ne (pem_m0 T.k_Syntax (H_Syntax_kind_0 T) hr (by omega) (takes_of rfl rfl rfl rfl) (pem_var 0)) (pem_var 1) (nomark _)) (pssm_one (psm_raise rfl (takes_of rfl rfl rfl rfl) T.fl_TextError (fun ta ha => pmk_te T.te_TextError (hr.mono (by omega)) ha) (plm_cons (pem_fld T.k_Syntax T.n_Syntax_at (pem_var 0)) plm_nil))) pssm_nil)
    (pssm_cons (psm_fldaug T.k_Syntax T.n_Syntax_at (pem_var 0) pem_int in_add rdm_add)
    (pssm_one (psm_ret (pem_tup (plm_cons (pem_ix (pem_ix (pem_fld T.k_Syntax T.n_Syntax_tokens (pem_var 0)) (pem_op op_sub om_sub (pem_fld T.k_Syntax T.n_Syntax_at (pem_var 0)) pem_int)) pem_int) (plm_cons (pem_op op_sub om_sub (pem_fld T.k_Syntax T.n_Syntax_at (pem_var 0)) pem_int) plm_nil))))))))
theorem S_Syntax_finish : FnScope ["self"] ["self"] (defScope s_Syntax_finish) := ⟨rfl, rfl, rfl, by decide +kernel, rfl, by decide +kernel, by decide +kernel⟩
theorem H_Syntax_finish (T : Txt P K mg C) : MetZ P w K mg base C (3) 0 "finish" (F_Syntax_finish fu rk) 1 [] :=
  met_mk T.d_Syntax_finish S_Syntax_finish rfl (fun _ _ _ _ _ _ us hl => match us, hl with | [_], _ => rfl) (fun f cdv A outer s H E hr => by
    have S := S_Syntax_finish
    exact (pssm_one (psm_if (pbm_cmp op_lt om_lt (pem_fld T.k_Syntax T.n_Syntax_at (pem_var 0)) (pem_b1 bk_len b1_len (by rfl) T.z_len (pem_fld T.k_Syntax T.n_Syntax_tokens (pem_var 0))) (nomark _)) (pssm_one (psm_raise rfl (takes_of rfl rfl rfl rfl) T.fl_TextError (fun ta ha => pmk_te T.te_TextError (hr.mono (by omega)) ha) (plm_cons (pem_fld T.k_Syntax T.n_Syntax_at (pem_var 0)) plm_nil))) pssm_nil)))
theorem S_Syntax_sorts : FnScope ["self", "arguments", "found", "word", "value", "more"] ["self"] (defScope s_Syntax_sorts) := ⟨rfl, rfl, rfl, by decide +kernel, rfl, by decide +kernel, by decide +kernel⟩
theorem H_Syntax_sorts (T : Txt P K mg C) : ∀ k, MetZ P w K mg base C (k + 4) 0 "sorts" (F_Syntax_sorts fu rk k) 1 []
  | 0 => met_none (ps := ["self"]) T.d_Syntax_sorts (fun _ _ _ _ _ _ us hl => match us, hl with | [_], _ => rfl)
  | k + 1 => by
    have e : (k + 1) + 4 = (k + 4) + 1 := by omega
    rw [show k + 1 + 4 = (k + 4) + 1 by omega]
    exact met_mk T.d_Syntax_sorts S_Syntax_sorts rfl (fun _ _ _ _ _ _ us hl => match us, hl with | [_], _ => rfl) (fun f cdv A outer s H E hr => by
    have S := S_Syntax_sorts
    have R_Syntax_sorts := H_Syntax_sorts T k
    exact (pssm_cons (psm_nil2 1 2 rfl S.nd)
    (pssm_one (psm_while fu (passes_of rfl) (pbm_tru pem_bl) (pssm_cons (psm_if (pbm_cmp (op_eqZ hr.u200) om_eq (pem_m0 T.k_Syntax (H_Syntax_kind_0 T) hr (by omega) (takes_of rfl rfl rfl rfl) (pem_var 0)) pem_str (nomark _)) (pssm_cons (psm_expr (pem_m T.k_Syntax (H_Syntax_take T) hr (by omega) (takes_of rfl rfl rfl rfl) (pem_var 0) (plm_cons pem_str plm_nil)))
    (pssm_cons (psm_asg (pem_m0 T.k_Syntax R_Syntax_sorts hr (by omega) (takes_of rfl rfl rfl rfl) (pem_var 0)) (pgm_tup rfl (pgsm_cons (pgm_name 4 S.nd) (pgsm_cons (pgm_name 5 S.nd) pgsm_nil))) (nox_tup (nox_cons (nox_name 4) (nox_cons (nox_name 5) nox_nil))))
    (pssm_one (psm_expr (pem_m T.k_Syntax (H_Syntax_take T) hr (by omega) (takes_of rfl rfl rfl rfl) (pem_var 0) (plm_cons pem_str plm_nil)))))) (pssm_cons (psm_set 3 S.nd (pem_m T.k_Syntax (H_Syntax_take T) hr (by omega) (takes_of rfl rfl rfl rfl) (pem_var 0) (plm_cons pem_str plm_nil)))
    (pssm_one (psm_par 4 5 rfl S.nd (pem_tup (plm_cons (pem_tup plm_nil) (plm_cons (pem_ix (pem_var 3) pem_int) plm_nil))) (pem_u (pum_lst (plm_cons (pem_var 3) plm_nil)))))))
    (pssm_cons (psm_expr (pem_ext 2 (pem_var 5)))
    (pssm_cons (psm_if (pbm_cmp (op_neZ hr.u200) om_ne (pem_m0 T.k_Syntax (H_Syntax_kind_0 T) hr (by omega) (takes_of rfl rfl rfl rfl) (pem_var 0)) pem_str (nomark _)) (pssm_one (psm_ret (pem_tup (plm_cons (pem_tup (plm_cons (pem_op op_addA om_add (pem_b1O 1 bk_tup b1_tup (by rfl) T.z_tuple) (pem_ix (pem_var 4) pem_int)) (plm_cons (pem_ix (pem_var 4) pem_int) plm_nil))) (plm_cons (pem_var 2) plm_nil))))) pssm_nil)
    (pssm_cons (psm_expr (pem_m T.k_Syntax (H_Syntax_take T) hr (by omega) (takes_of rfl rfl rfl rfl) (pem_var 0) (plm_cons pem_str plm_nil)))
    (pssm_one (psm_expr (pem_app 1 (pem_var 4))))))))))))
theorem S_Meaning___init__ : FnScope ["self", "signature", "holes", "k", "pair"] ["self", "signature", "holes"] (defScope s_Meaning___init__) := ⟨rfl, rfl, rfl, by decide +kernel, rfl, by decide +kernel, by decide +kernel⟩
theorem H_Meaning___init__ (T : Txt P K mg C) : MakZ P w K mg base C (1) 1 (F_Meaning___init__ fu rk) 3 [] :=
  mak_mk T.d_Meaning___init__ S_Meaning___init__ rfl (fun _ _ _ _ _ _ us hl => match us, hl with | [_, _, _], _ => rfl) (fun f cdv A outer s H E hr => by
    have S := S_Meaning___init__
    exact (pssm_cons (psm_fldD 0 T.k_Meaning T.n_Meaning_constants (pdm_dict0 (by rfl) (by rfl) T.z_dict (pem_var 1)))
    (pssm_cons (psm_fldD 0 T.k_Meaning T.n_Meaning_holes pdm_new)
    (pssm_cons (psm_for (passes_of rfl) rfl (pim_enumT (by rfl) T.z_enumerate (plm_cons (pem_var 2) plm_nil)) (pgm_tup rfl (pgsm_cons (pgm_name 3 S.nd) (pgsm_cons (pgm_name 4 S.nd) pgsm_nil))) (nox_tup (nox_cons (nox_name 3) (nox_cons (nox_name 4) nox_nil))) (pssm_one psm_never))
    (pssm_one (psm_fldO 0 T.k_Meaning T.n_Meaning_wrong (pum_lst plm_nil)))))))
theorem S_Meaning_finish : FnScope ["self"] ["self"] (defScope s_Meaning_finish) := ⟨rfl, rfl, rfl, by decide +kernel, rfl, by decide +kernel, by decide +kernel⟩
theorem H_Meaning_finish (T : Txt P K mg C) : MetZ P w K mg base C (3) 1 "finish" (F_Meaning_finish fu rk) 1 [] :=
  met_mk T.d_Meaning_finish S_Meaning_finish rfl (fun _ _ _ _ _ _ us hl => match us, hl with | [_], _ => rfl) (fun f cdv A outer s H E hr => by
    have S := S_Meaning_finish
    exact (pssm_one (psm_if (pbm_tru (pem_fldZ T.k_Meaning T.n_Meaning_wrong (pem_var 0))) (pssm_one (psm_raise rfl (takes_of rfl rfl rfl rfl) T.fl_TextError (fun ta ha => pmk_te T.te_TextError (hr.mono (by omega)) ha) (plm_cons (pem_b1 (bk_min (by rfl)) b1_min (by rfl) T.z_min (pem_fldZ T.k_Meaning T.n_Meaning_wrong (pem_var 0))) plm_nil))) pssm_nil)))
theorem S_Meaning_look : FnScope ["self", "word"] ["self", "word"] (defScope s_Meaning_look) := ⟨rfl, rfl, rfl, by decide +kernel, rfl, by decide +kernel, by decide +kernel⟩
theorem H_Meaning_look (T : Txt P K mg C) : MetZ P w K mg base C (1) 1 "look" (F_Meaning_look fu rk) 2 [] :=
  met_mk T.d_Meaning_look S_Meaning_look rfl (fun _ _ _ _ _ _ us hl => match us, hl with | [_, _], _ => rfl) (fun f cdv A outer s H E hr => by
    have S := S_Meaning_look
    exact (pssm_one (psm_if (pbm_cmp op_gt om_gt (pem_b1 bk_len b1_len (by rfl) T.z_len (pem_ix (pem_var 1) pem_int)) pem_int (nomark _)) (pssm_one (psm_expr (pem_appF 0 T.k_Meaning T.n_Meaning_wrong (ppm_ix (ppm_var 1) ppm_int)))) pssm_nil)))
theorem S_Meaning_kind : FnScope ["self", "sorts", "is_constant", "value", "words", "k", "word"] ["self", "sorts", "is_constant"] (defScope s_Meaning_kind) := ⟨rfl, rfl, rfl, by decide +kernel, rfl, by decide +kernel, by decide +kernel⟩
theorem B_Meaning_kind (T : Txt P K mg C) : BodyZ P w K mg base C (1) "Meaning.kind" s_Meaning_kind ["self", "sorts", "is_constant", "value", "words", "k", "word"] (M_Meaning_kind fu rk) :=
  fun f cdv A outer s H E hr => by
    have S := S_Meaning_kind
    exact (pssm_cons (psm_asg (pem_var 1) (pgm_tup rfl (pgsm_cons (pgm_name 3 S.nd) (pgsm_cons (pgm_name 4 S.nd) pgsm_nil))) (nox_tup (nox_cons (nox_name 3) (nox_cons (nox_name 4) nox_nil))))
    (pssm_cons (psm_for (passes_of rfl) rfl (pim_enum (by rfl) T.z_enumerate (plm_cons (pem_var 4) plm_nil)) (pgm_tup rfl (pgsm_cons (pgm_name 5 S.nd) (pgsm_cons (pgm_name 6 S.nd) pgsm_nil))) (nox_tup (nox_cons (nox_name 5) (nox_cons (nox_name 6) nox_nil))) (pssm_cons (psm_expr (pem_m T.k_Meaning (H_Meaning_look T) hr (by omega) (takes_of rfl rfl rfl rfl) (pem_var 0) (plm_cons (pem_var 6) plm_nil)))
    (pssm_one (psm_if ((pwm_and (pbm_cmp (op_eqZ hr.u200) om_eq (pem_ix (pem_var 6) pem_int) pem_str (nomark _)) (pwm_and1 (pbm_not ((pwm_and (pbm_tru (pem_var 2)) (pwm_and1 (pbm_cmp (op_eqZ hr.u200) om_eq (pem_var 5) (pem_op op_sub om_sub (pem_b1 bk_len b1_len (by rfl) T.z_len (pem_var 4)) pem_int) (nomark _))))).pt)))).pt (pssm_one (psm_expr (pem_appF 0 T.k_Meaning T.n_Meaning_wrong (ppm_ix (ppm_var 6) ppm_int)))) pssm_nil))))
    (pssm_one (psm_ret (pem_var 3)))))
theorem H_Meaning_kind_1 (T : Txt P K mg C) : MetZ P w K mg base C (2) 1 "kind" (F_Meaning_kind fu rk) 3 [.bl false] :=
  met_mkD (dvs := [.bl false]) T.d_Meaning_kind S_Meaning_kind rfl 2 0 (by decide) rfl (fun _ _ _ _ _ _ _ us its h1 h2 => match us, its, h1, h2 with | [_, _], [_], _, _ => ⟨_, rfl, rfl⟩) (fun _ _ => (.cons (.bl _) .nil)) (B_Meaning_kind T)
theorem H_Meaning_kind_2 (T : Txt P K mg C) : MetZ P w K mg base C (2) 1 "kind" (F_Meaning_kind fu rk) 3 [] :=
  met_mkD (dvs := [.bl false]) T.d_Meaning_kind S_Meaning_kind rfl 3 1 (by decide) rfl (fun _ _ _ _ _ _ _ us its h1 h2 => match us, its, h1, h2 with | [_, _, _], [_], _, _ => ⟨_, rfl, rfl⟩) (fun _ _ => .nil) (B_Meaning_kind T)
theorem S_in_brackets : FnScope ["words"] ["words"] (defScope s_in_brackets) := ⟨rfl, rfl, rfl, by decide +kernel, rfl, by decide +kernel, by decide +kernel⟩
theorem H_in_brackets (T : Txt P K mg C) : CalZ P w K mg base C (1) "in_brackets" (F_in_brackets fu rk) 1 [] :=
  cal_mk T.d_in_brackets S_in_brackets rfl (fun _ _ _ _ _ _ us hl => match us, hl with | [_], _ => rfl) (fun f cdv A outer s H E hr => by
    have S := S_in_brackets
    exact (pssm_one (psm_retU (pum_cat (pem_u (pum_cat (pem_u (pum_lst (plm_cons pem_str plm_nil))) (pem_var 0))) (pem_u (pum_lst (plm_cons pem_str plm_nil)))))))
theorem S_kind_words : FnScope ["kind", "words", "argument"] ["kind"] (defScope s_kind_words) := ⟨rfl, rfl, rfl, by decide +kernel, rfl, by decide +kernel, by decide +kernel⟩
theorem H_kind_words (T : Txt P K mg C) : ∀ k, CalZ P w K mg base C (k + 2) "kind_words" (F_kind_words fu rk k) 1 []
  | 0 => cal_none (ps := ["kind"]) T.d_kind_words (fun _ _ _ _ _ _ us hl => match us, hl with | [_], _ => rfl)
  | k + 1 => by
    have e : (k + 1) + 2 = (k + 2) + 1 := by omega
    rw [show k + 1 + 2 = (k + 2) + 1 by omega]
    exact cal_mk T.d_kind_words S_kind_words rfl (fun _ _ _ _ _ _ us hl => match us, hl with | [_], _ => rfl) (fun f cdv A outer s H E hr => by
    have S := S_kind_words
    have R_kind_words := H_kind_words T k
    exact (pssm_cons (psm_setO 1 S.nd (pum_lst plm_nil))
    (pssm_cons (psm_for (passes_of rfl) rfl (pim_tup (pem_ix (pem_var 0) pem_int)) (pgm_name 2 S.nd) (nox_name 2) (pssm_cons (psm_augO 1 S.nd (pem_if (pbm_tru (pem_ix (pem_var 2) pem_int)) (pem_c (H_in_brackets T) hr (by omega) (takes_of rfl rfl rfl rfl) (plm_cons (pem_c R_kind_words hr (by omega) (takes_of rfl rfl rfl rfl) (plm_cons (pem_var 2) plm_nil)) plm_nil)) (pem_c R_kind_words hr (by omega) (takes_of rfl rfl rfl rfl) (plm_cons (pem_var 2) plm_nil))))
    (pssm_one (psm_expr (pem_app 1 pem_str)))))
    (pssm_one (psm_retU (pum_cat (pem_var 1) (pem_u (pum_lst (plm_cons (pem_ix (pem_var 0) pem_int) plm_nil)))))))))
theorem S_read_type : FnScope ["text", "syntax", "sorts", "meaning", "kind"] ["text"] (defScope s_read_type) := ⟨rfl, rfl, rfl, by decide +kernel, rfl, by decide +kernel, by decide +kernel⟩
theorem H_read_type (T : Txt P K mg C) : CalZ P w K mg base C (rk + 5) "read_type" (F_read_type fu rk) 1 [] :=
  cal_mk T.d_read_type S_read_type rfl (fun _ _ _ _ _ _ us hl => match us, hl with | [_], _ => rfl) (fun f cdv A outer s H E hr => by
    have S := S_read_type
    exact (pssm_cons (psm_set 1 S.nd (pem_k (H_Syntax___init__ T) hr (by omega) T.m_Syntax (plm_cons (pem_c (H_tokens_of T) hr (by omega) (takes_of rfl rfl rfl rfl) (plm_cons (pem_var 0) plm_nil)) plm_nil)))
    (pssm_cons (psm_set 2 S.nd (pem_m0 T.k_Syntax (H_Syntax_sorts T rk) hr (by omega) (takes_of rfl rfl rfl rfl) (pem_var 1)))
    (pssm_cons (psm_expr (pem_m0 T.k_Syntax (H_Syntax_finish T) hr (by omega) (takes_of rfl rfl rfl rfl) (pem_var 1)))
    (pssm_cons (psm_set 3 S.nd (pem_k (H_Meaning___init__ T) hr (by omega) T.m_Meaning (plm_cons (pem_tup plm_nil) (plm_cons (pem_tup plm_nil) plm_nil))))
    (pssm_cons (psm_set 4 S.nd (pem_m T.k_Meaning (H_Meaning_kind_2 T) hr (by omega) (takes_of rfl rfl rfl rfl) (pem_var 3) (plm_cons (pem_var 2) (plm_cons pem_bl plm_nil))))
    (pssm_cons (psm_expr (pem_m0 T.k_Meaning (H_Meaning_finish T) hr (by omega) (takes_of rfl rfl rfl rfl) (pem_var 3)))
    (pssm_one (psm_ret (pem_var 4))))))))))
theorem S_write_type : FnScope ["kind"] ["kind"] (defScope s_write_type) := ⟨rfl, rfl, rfl, by decide +kernel, rfl, by decide +kernel, by decide +kernel⟩
theorem H_write_type (T : Txt P K mg C) : CalZ P w K mg base C (rk + 3) "write_type" (F_write_type fu rk) 1 [] :=
  cal_mk T.d_write_type S_write_type rfl (fun _ _ _ _ _ _ us hl => match us, hl with | [_], _ => rfl) (fun f cdv A outer s H E hr => by
    have S := S_write_type
    exact (pssm_one (psm_ret (pem_c (H_joined T) hr (by omega) (takes_of rfl rfl rfl rfl) (plm_cons (pem_c (H_kind_words T rk) hr (by omega) (takes_of rfl rfl rfl rfl) (plm_cons (pem_var 0) plm_nil)) plm_nil)))))
theorem S__law_start : FnScope ["script", "cell"] ["script"] (defScope s__law_start) := ⟨rfl, rfl, rfl, by decide +kernel, rfl, by decide +kernel, by decide +kernel⟩
theorem H__law_start (T : Txt P K mg C) : CalZ P w K mg base C (1) "_law_start" (F__law_start fu rk) 1 [] :=
  cal_mk T.d__law_start S__law_start rfl (fun _ _ _ _ _ _ us hl => match us, hl with | [_], _ => rfl) (fun f cdv A outer s H E hr => by
    have S := S__law_start
    exact (pssm_one (psm_retU (pum_lst (plm_cons (pem_u (pum_lc (own := [("cell", 1)]) rfl S.nd (pim_list (pem_u (pum_sl (pem_var 0) pom_none (pom_some pem_int)))) (blkOk_by (N := ["script", "cell"]) (sc := defScope s__law_start) (own := [("cell", 1)]) (by decide +kernel)) (fun _ _ _ _ _ => (pgv_name 1 (by decide) S.nd)) (fun _ _ _ _ _ => (pem_b1 bk_int b1_int (by rfl) T.z_int (pem_var 1))))) (plm_cons pem_int (plm_cons pem_int (plm_cons pem_int (plm_cons pem_int plm_nil)))))))))
theorem S__law_fill : FnScope ["c", "number"] ["c"] (defScope s__law_fill) := ⟨rfl, rfl, rfl, by decide +kernel, rfl, by decide +kernel, by decide +kernel⟩
theorem H__law_fill (T : Txt P K mg C) : CalZ P w K mg base C (1) "_law_fill" (F__law_fill fu rk) 1 [] :=
  cal_mk T.d__law_fill S__law_fill rfl (fun _ _ _ _ _ _ us hl => match us, hl with | [_], _ => rfl) (fun f cdv A outer s H E hr => by
    have S := S__law_fill
    exact (pssm_cons (psm_ixset (pem_var 0) pem_int (pem_op op_addA om_add (pem_ix (pem_var 0) pem_int) pem_int))
    (pssm_cons (psm_set 1 S.nd (pem_op op_addA om_add (pem_op op_mul om_mul (pem_ix (pem_var 0) pem_int) pem_int) pem_int))
    (pssm_cons (psm_if (pbm_cmp op_lt om_lt (pem_ix (pem_var 0) pem_int) (pem_b1 bk_len b1_len (by rfl) T.z_len (pem_ix (pem_var 0) pem_int)) (nomark _)) (pssm_cons (psm_set 1 S.nd (pem_ix (pem_ix (pem_var 0) pem_int) (pem_ix (pem_var 0) pem_int)))
    (pssm_cons (psm_ixset (pem_var 0) pem_int (pem_op op_addA om_add (pem_ix (pem_var 0) pem_int) pem_int))
    (pssm_cons (psm_if (pbm_cmp op_lt om_lt (pem_var 1) pem_int (nomark _)) (pssm_one (psm_set 1 S.nd (pem_op op_sub om_sub (pem_op op_sub om_sub pem_int pem_int) (pem_var 1)))) pssm_nil)
    (pssm_one (psm_if (pbm_cmp op_ge om_ge (pem_var 1) (pem_op op_pow om_pow pem_int pem_int) (nomark _)) (pssm_one (psm_ret (pem_var 1))) pssm_nil))))) pssm_nil)
    (pssm_cons (psm_if ((pwm_and (pbm_tru (pem_ix (pem_var 0) pem_int)) (pwm_and1 (pbm_cmp op_ge om_ge (pem_ix (pem_var 0) pem_int) (pem_b1 bk_len b1_len (by rfl) T.z_len (pem_ix (pem_var 0) pem_int)) (nomark _))))).pt (pssm_one (psm_set 1 S.nd (pem_op op_addA om_add (pem_var 1) (pem_op op_mod om_mod (pem_b1 bk_int b1_int (by rfl) T.z_int (pem_ix (pem_ix (pem_var 0) pem_int) (pem_neg pem_int))) pem_int)))) pssm_nil)
    (pssm_cons (psm_set 1 S.nd (pem_op op_mod om_mod (pem_b1 bk_int b1_int (by rfl) T.z_int (pem_op op_addA om_add (pem_op op_mul om_mul (pem_var 1) pem_int) (pem_op op_mul om_mul (pem_ix (pem_var 0) pem_int) pem_int))) pem_int))
    (pssm_one (psm_ret (pem_op op_addA om_add (pem_op op_fdiv om_div (pem_b1 bk_int b1_int (by rfl) T.z_int (pem_op op_addA om_add (pem_op op_addA om_add (pem_op op_mul om_mul (pem_var 1) (pem_var 1)) (pem_op op_mul om_mul (pem_ix (pem_var 0) pem_int) pem_int)) pem_int)) pem_int) pem_int)))))))))
theorem S__law_take : FnScope ["c", "many", "digit"] ["c", "many"] (defScope s__law_take) := ⟨rfl, rfl, rfl, by decide +kernel, rfl, by decide +kernel, by decide +kernel⟩
theorem H__law_take (T : Txt P K mg C) : CalZ P w K mg base C (2) "_law_take" (F__law_take fu rk) 2 [] :=
  cal_mk T.d__law_take S__law_take rfl (fun _ _ _ _ _ _ us hl => match us, hl with | [_, _], _ => rfl) (fun f cdv A outer s H E hr => by
    have S := S__law_take
    exact (pssm_cons (psm_if (pbm_cmp op_lt om_lt (pem_ix (pem_var 0) pem_int) (pem_var 1) (nomark _)) (pssm_one (psm_ixset (pem_var 0) pem_int (pem_c (H__law_fill T) hr (by omega) (takes_of rfl rfl rfl rfl) (plm_cons (pem_var 0) plm_nil)))) pssm_nil)
    (pssm_cons (psm_set 2 S.nd (pem_op op_mod om_mod (pem_b1 bk_int b1_int (by rfl) T.z_int (pem_ix (pem_var 0) pem_int)) (pem_var 1)))
    (pssm_cons (psm_ixset (pem_var 0) pem_int (pem_op op_fdiv om_div (pem_ix (pem_var 0) pem_int) (pem_var 1)))
    (pssm_one (psm_ret (pem_var 2)))))))
theorem S__law_joined : FnScope ["tokens", "text", "k"] ["tokens"] (defScope s__law_joined) := ⟨rfl, rfl, rfl, by decide +kernel, rfl, by decide +kernel, by decide +kernel⟩
theorem H__law_joined (T : Txt P K mg C) : CalZ P w K mg base C (1) "_law_joined" (F__law_joined fu rk) 1 [] :=
  cal_mk T.d__law_joined S__law_joined rfl (fun _ _ _ _ _ _ us hl => match us, hl with | [_], _ => rfl) (fun f cdv A outer s H E hr => by
    have S := S__law_joined
    exact (pssm_cons (psm_set 1 S.nd pem_str)
    (pssm_cons (psm_for (passes_of rfl) rfl (pim_range1 (by rfl) T.z_range (plm_cons (pem_b1 bk_len b1_len (by rfl) T.z_len (pem_var 0)) plm_nil)) (pgm_name 2 S.nd) (nox_name 2) (pssm_cons (psm_if ((pwm_and (pbm_cmp op_gt om_gt (pem_var 2) pem_int (nomark _)) (pwm_and (pbm_cmp op_notInA om_notIn (pem_ix (pem_var 0) (pem_op op_sub om_sub (pem_var 2) pem_int)) (pem_u (pum_lst (plm_cons pem_str (plm_cons pem_str plm_nil)))) (by rfl)) (pwm_and1 (pbm_cmp op_notInA om_notIn (pem_ix (pem_var 0) (pem_var 2)) (pem_u (pum_lst (plm_cons pem_str (plm_cons pem_str (plm_cons pem_str (plm_cons pem_str (plm_cons pem_str plm_nil))))))) (by rfl)))))).pt (pssm_one (psm_set 1 S.nd (pem_op op_addA om_add (pem_var 1) pem_str))) pssm_nil)
    (pssm_one (psm_set 1 S.nd (pem_op op_addA om_add (pem_var 1) (pem_ix (pem_var 0) (pem_var 2)))))))
    (pssm_one (psm_ret (pem_var 1))))))
theorem S__law_scattered : FnScope ["c", "tokens", "text", "k", "gap"] ["c", "tokens"] (defScope s__law_scattered) := ⟨rfl, rfl, rfl, by decide +kernel, rfl, by decide +kernel, by decide +kernel⟩
theorem H__law_scattered (T : Txt P K mg C) : CalZ P w K mg base C (3) "_law_scattered" (F__law_scattered fu rk) 2 [] :=
  cal_mk T.d__law_scattered S__law_scattered rfl (fun _ _ _ _ _ _ us hl => match us, hl with | [_, _], _ => rfl) (fun f cdv A outer s H E hr => by
    have S := S__law_scattered
    exact (pssm_cons (psm_set 2 S.nd pem_str)
    (pssm_cons (psm_for (passes_of rfl) rfl (pim_range1 (by rfl) T.z_range (plm_cons (pem_b1 bk_len b1_len (by rfl) T.z_len (pem_var 1)) plm_nil)) (pgm_name 3 S.nd) (nox_name 3) (pssm_cons (psm_if (pbm_cmp op_gt om_gt (pem_var 3) pem_int (nomark _)) (pssm_cons (psm_set 4 S.nd (pem_ix (pem_u (pum_lst (plm_cons pem_str (plm_cons pem_str (plm_cons pem_str (plm_cons pem_str (plm_cons pem_str plm_nil))))))) (pem_c (H__law_take T) hr (by omega) (takes_of rfl rfl rfl rfl) (plm_cons (pem_var 0) (plm_cons pem_int plm_nil)))))
    (pssm_cons (psm_if ((pwm_and (pbm_cmp (op_eqZ hr.u200) om_eq (pem_var 4) pem_str (nomark _)) (pwm_and (pbm_tru (pem_isalnum (pem_ix (pem_ix (pem_var 1) (pem_op op_sub om_sub (pem_var 3) pem_int)) (pem_neg pem_int)))) (pwm_and1 (pbm_tru (pem_isalnum (pem_ix (pem_ix (pem_var 1) (pem_var 3)) pem_int))))))).pt (pssm_one (psm_set 4 S.nd pem_str)) pssm_nil)
    (pssm_one (psm_set 2 S.nd (pem_op op_addA om_add (pem_var 2) (pem_var 4)))))) pssm_nil)
    (pssm_one (psm_set 2 S.nd (pem_op op_addA om_add (pem_var 2) (pem_ix (pem_var 1) (pem_var 3)))))))
    (pssm_one (psm_ret (pem_var 2))))))
theorem S__law_type_tokens : FnScope ["kind", "found", "one", "inner"] ["kind"] (defScope s__law_type_tokens) := ⟨rfl, rfl, rfl, by decide +kernel, rfl, by decide +kernel, by decide +kernel⟩
theorem H__law_type_tokens (T : Txt P K mg C) : ∀ k, CalZ P w K mg base C (k + 1) "_law_type_tokens" (F__law_type_tokens fu rk k) 1 []
  | 0 => cal_none (ps := ["kind"]) T.d__law_type_tokens (fun _ _ _ _ _ _ us hl => match us, hl with | [_], _ => rfl)
  | k + 1 => by
    have e : (k + 1) + 1 = (k + 1) + 1 := by omega
    rw [show k + 1 + 1 = (k + 1) + 1 by omega]
    exact cal_mk T.d__law_type_tokens S__law_type_tokens rfl (fun _ _ _ _ _ _ us hl => match us, hl with | [_], _ => rfl) (fun f cdv A outer s H E hr => by
    have S := S__law_type_tokens
    have R__law_type_tokens := H__law_type_tokens T k
    exact (pssm_cons (psm_set 1 S.nd (pem_u (pum_lst plm_nil)))
    (pssm_cons (psm_for (passes_of rfl) rfl (pim_tup (pem_ix (pem_var 0) pem_int)) (pgm_name 2 S.nd) (nox_name 2) (pssm_cons (psm_set 3 S.nd (pem_c R__law_type_tokens hr (by omega) (takes_of rfl rfl rfl rfl) (plm_cons (pem_var 2) plm_nil)))
    (pssm_cons (psm_if (pbm_tru (pem_ix (pem_var 2) pem_int)) (pssm_one (psm_set 3 S.nd (pem_u (pum_cat (pem_u (pum_cat (pem_u (pum_lst (plm_cons pem_str plm_nil))) (pem_var 3))) (pem_u (pum_lst (plm_cons pem_str plm_nil))))))) pssm_nil)
    (pssm_one (psm_set 1 S.nd (pem_u (pum_cat (pem_u (pum_cat (pem_var 1) (pem_var 3))) (pem_u (pum_lst (plm_cons pem_str plm_nil))))))))))
    (pssm_one (psm_retU (pum_cat (pem_var 1) (pem_u (pum_lst (plm_cons (pem_ix (pem_var 0) pem_int) plm_nil)))))))))
theorem S__law_reserved : FnScope ["words"] [] (defScope s__law_reserved) := ⟨rfl, rfl, rfl, by decide +kernel, rfl, by decide +kernel, by decide +kernel⟩
theorem H__law_reserved (T : Txt P K mg C) : CalZ P w K mg base C (1) "_law_reserved" (F__law_reserved fu rk) 0 [] :=
  cal_mk T.d__law_reserved S__law_reserved rfl (fun _ _ _ _ _ _ us hl => match us, hl with | [], _ => rfl) (fun f cdv A outer s H E hr => by
    have S := S__law_reserved
    exact (pssm_cons (psm_set 0 S.nd (pem_u (pum_lst (plm_cons pem_str (plm_cons pem_str (plm_cons pem_str (plm_cons pem_str (plm_cons pem_str (plm_cons pem_str (plm_cons pem_str (plm_cons pem_str (plm_cons pem_str (plm_cons pem_str (plm_cons pem_str (plm_cons pem_str (plm_cons pem_str plm_nil))))))))))))))))
    (pssm_one (psm_ret (pem_var 0)))))
theorem S__law_peek : FnScope ["s"] ["s"] (defScope s__law_peek) := ⟨rfl, rfl, rfl, by decide +kernel, rfl, by decide +kernel, by decide +kernel⟩
theorem H__law_peek (T : Txt P K mg C) : CalZ P w K mg base C (1) "_law_peek" (F__law_peek fu rk) 1 [] :=
  cal_mk T.d__law_peek S__law_peek rfl (fun _ _ _ _ _ _ us hl => match us, hl with | [_], _ => rfl) (fun f cdv A outer s H E hr => by
    have S := S__law_peek
    exact (pssm_cons (psm_if (pbm_cmp op_lt om_lt (pem_ix (pem_var 0) pem_int) (pem_b1 bk_len b1_len (by rfl) T.z_len (pem_ix (pem_var 0) pem_int)) (nomark _)) (pssm_one (psm_ret (pem_ix (pem_ix (pem_var 0) pem_int) (pem_ix (pem_var 0) pem_int)))) pssm_nil)
    (pssm_one (psm_ret pem_str))))
theorem S__law_is_word : FnScope ["token", "letter"] ["token"] (defScope s__law_is_word) := ⟨rfl, rfl, rfl, by decide +kernel, rfl, by decide +kernel, by decide +kernel⟩
theorem H__law_is_word (T : Txt P K mg C) : CalZ P w K mg base C (2) "_law_is_word" (F__law_is_word fu rk) 1 [] :=
  cal_mk T.d__law_is_word S__law_is_word rfl (fun _ _ _ _ _ _ us hl => match us, hl with | [_], _ => rfl) (fun f cdv A outer s H E hr => by
    have S := S__law_is_word
    exact (pssm_one (psm_ret (pem_and (pem_cmp (op_neZ hr.u200) om_ne (pem_var 0) pem_str (nomark _)) (pem_and (pem_b1 (bk_all (by rfl)) b1_all (by rfl) T.z_all (pem_u (pum_lc (own := [("letter", 1)]) rfl S.nd (pim_str (pem_var 0)) (blkOk_by (N := ["token", "letter"]) (sc := defScope s__law_is_word) (own := [("letter", 1)]) (by decide +kernel)) (fun _ _ _ _ _ => (pgv_name 1 (by decide) S.nd)) (fun _ _ _ _ _ => (pem_cmp op_inA om_in (pem_var 1) pem_str (by rfl)))))) (pem_one (pem_cmp op_notInA om_notIn (pem_var 0) (pem_c0 (H__law_reserved T) hr (by omega) (takes_of rfl rfl rfl rfl)) (by rfl))))))))
theorem S__law_stop : FnScope ["s"] ["s"] (defScope s__law_stop) := ⟨rfl, rfl, rfl, by decide +kernel, rfl, by decide +kernel, by decide +kernel⟩
theorem H__law_stop (T : Txt P K mg C) : CalZ P w K mg base C (1) "_law_stop" (F__law_stop fu rk) 1 [] :=
  cal_mk T.d__law_stop S__law_stop rfl (fun _ _ _ _ _ _ us hl => match us, hl with | [_], _ => rfl) (fun f cdv A outer s H E hr => by
    have S := S__law_stop
    exact (pssm_cons (psm_if (pbm_cmp op_lt om_lt (pem_ix (pem_var 0) pem_int) pem_int (nomark _)) (pssm_one (psm_ixset (pem_var 0) pem_int (pem_ix (pem_var 0) pem_int))) pssm_nil)
    (pssm_one (psm_ret pem_non))))
theorem S__law_sign : FnScope ["s", "sign"] ["s", "sign"] (defScope s__law_sign) := ⟨rfl, rfl, rfl, by decide +kernel, rfl, by decide +kernel, by decide +kernel⟩
theorem H__law_sign (T : Txt P K mg C) : CalZ P w K mg base C (2) "_law_sign" (F__law_sign fu rk) 2 [] :=
  cal_mk T.d__law_sign S__law_sign rfl (fun _ _ _ _ _ _ us hl => match us, hl with | [_, _], _ => rfl) (fun f cdv A outer s H E hr => by
    have S := S__law_sign
    exact (pssm_cons (psm_if ((pwm_or (pbm_cmp op_ge om_ge (pem_ix (pem_var 0) pem_int) pem_int (nomark _)) (pwm_or1 (pbm_cmp (op_neZ hr.u200) om_ne (pem_c (H__law_peek T) hr (by omega) (takes_of rfl rfl rfl rfl) (plm_cons (pem_var 0) plm_nil)) (pem_var 1) (nomark _))))).pt (pssm_cons (psm_expr (pem_c (H__law_stop T) hr (by omega) (takes_of rfl rfl rfl rfl) (plm_cons (pem_var 0) plm_nil)))
    (pssm_one (psm_ret pem_bl))) pssm_nil)
    (pssm_cons (psm_ixset (pem_var 0) pem_int (pem_op op_addA om_add (pem_ix (pem_var 0) pem_int) pem_int))
    (pssm_one (psm_ret pem_bl)))))
theorem S__law_word : FnScope ["s"] ["s"] (defScope s__law_word) := ⟨rfl, rfl, rfl, by decide +kernel, rfl, by decide +kernel, by decide +kernel⟩
theorem H__law_word (T : Txt P K mg C) : CalZ P w K mg base C (3) "_law_word" (F__law_word fu rk) 1 [] :=
  cal_mk T.d__law_word S__law_word rfl (fun _ _ _ _ _ _ us hl => match us, hl with | [_], _ => rfl) (fun f cdv A outer s H E hr => by
    have S := S__law_word
    exact (pssm_cons (psm_if ((pwm_or (pbm_cmp op_ge om_ge (pem_ix (pem_var 0) pem_int) pem_int (nomark _)) (pwm_or1 (pbm_not (pbm_tru (pem_c (H__law_is_word T) hr (by omega) (takes_of rfl rfl rfl rfl) (plm_cons (pem_c (H__law_peek T) hr (by omega) (takes_of rfl rfl rfl rfl) (plm_cons (pem_var 0) plm_nil)) plm_nil))))))).pt (pssm_cons (psm_expr (pem_c (H__law_stop T) hr (by omega) (takes_of rfl rfl rfl rfl) (plm_cons (pem_var 0) plm_nil)))
    (pssm_one (psm_ret pem_int))) pssm_nil)
    (pssm_cons (psm_ixset (pem_var 0) pem_int (pem_op op_addA om_add (pem_ix (pem_var 0) pem_int) pem_int))
    (pssm_one (psm_ret (pem_op op_sub om_sub (pem_ix (pem_var 0) pem_int) pem_int))))))
theorem S__law_read_type : FnScope ["s", "left", "right"] ["s"] (defScope s__law_read_type) := ⟨rfl, rfl, rfl, by decide +kernel, rfl, by decide +kernel, by decide +kernel⟩
theorem H__law_read_type (T : Txt P K mg C) : ∀ k, CalZ P w K mg base C (k + 4) "_law_read_type" (F__law_read_type fu rk k) 1 []
  | 0 => cal_none (ps := ["s"]) T.d__law_read_type (fun _ _ _ _ _ _ us hl => match us, hl with | [_], _ => rfl)
  | k + 1 => by
    have e : (k + 1) + 4 = (k + 4) + 1 := by omega
    rw [show k + 1 + 4 = (k + 4) + 1 by omega]
    exact cal_mk T.d__law_read_type S__law_read_type rfl (fun _ _ _ _ _ _ us hl => match us, hl with | [_], _ => rfl) (fun f cdv A outer s H E hr => by
    have S := S__law_read_type
    have R__law_read_type := H__law_read_type T k
    exact (pssm_cons (psm_if (pbm_cmp op_ge om_ge (pem_ix (pem_var 0) pem_int) pem_int (nomark _)) (pssm_one (psm_ret pem_non)) pssm_nil)
    (pssm_cons (psm_if (pbm_cmp (op_eqZ hr.u200) om_eq (pem_c (H__law_peek T) hr (by omega) (takes_of rfl rfl rfl rfl) (plm_cons (pem_var 0) plm_nil)) pem_str (nomark _)) (pssm_cons (psm_expr (pem_c (H__law_sign T) hr (by omega) (takes_of rfl rfl rfl rfl) (plm_cons (pem_var 0) (plm_cons pem_str plm_nil))))
    (pssm_cons (psm_set 1 S.nd (pem_c R__law_read_type hr (by omega) (takes_of rfl rfl rfl rfl) (plm_cons (pem_var 0) plm_nil)))
    (pssm_one (psm_expr (pem_c (H__law_sign T) hr (by omega) (takes_of rfl rfl rfl rfl) (plm_cons (pem_var 0) (plm_cons pem_str plm_nil))))))) (pssm_one (psm_set 1 S.nd (pem_u (pum_lst (plm_cons pem_str (plm_cons (pem_c (H__law_word T) hr (by omega) (takes_of rfl rfl rfl rfl) (plm_cons (pem_var 0) plm_nil)) plm_nil)))))))
    (pssm_cons (psm_if (pbm_cmp op_ge om_ge (pem_ix (pem_var 0) pem_int) pem_int (nomark _)) (pssm_one (psm_ret pem_non)) pssm_nil)
    (pssm_cons (psm_if (pbm_cmp (op_eqZ hr.u200) om_eq (pem_c (H__law_peek T) hr (by omega) (takes_of rfl rfl rfl rfl) (plm_cons (pem_var 0) plm_nil)) pem_str (nomark _)) (pssm_cons (psm_expr (pem_c (H__law_sign T) hr (by omega) (takes_of rfl rfl rfl rfl) (plm_cons (pem_var 0) (plm_cons pem_str plm_nil))))
    (pssm_cons (psm_set 2 S.nd (pem_c R__law_read_type hr (by omega) (takes_of rfl rfl rfl rfl) (plm_cons (pem_var 0) plm_nil)))
    (pssm_one (psm_ret (pem_u (pum_lst (plm_cons pem_str (plm_cons (pem_var 1) (plm_cons (pem_var 2) plm_nil))))))))) pssm_nil)
    (pssm_one (psm_ret (pem_var 1))))))))
theorem S__law_wrong : FnScope ["e", "k"] ["e", "k"] (defScope s__law_wrong) := ⟨rfl, rfl, rfl, by decide +kernel, rfl, by decide +kernel, by decide +kernel⟩
theorem H__law_wrong (T : Txt P K mg C) : CalZ P w K mg base C (1) "_law_wrong" (F__law_wrong fu rk) 2 [] :=
  cal_mk T.d__law_wrong S__law_wrong rfl (fun _ _ _ _ _ _ us hl => match us, hl with | [_, _], _ => rfl) (fun f cdv A outer s H E hr => by
    have S := S__law_wrong
    exact (pssm_one (psm_if ((pwm_or (pbm_cmp op_lt om_lt (pem_ix (pem_var 0) pem_int) pem_int (nomark _)) (pwm_or1 (pbm_cmp op_lt om_lt (pem_var 1) (pem_ix (pem_var 0) pem_int) (nomark _))))).pt (pssm_one (psm_ixset (pem_var 0) pem_int (pem_var 1))) pssm_nil)))
theorem S__law_long_word : FnScope ["e", "k"] ["e", "k"] (defScope s__law_long_word) := ⟨rfl, rfl, rfl, by decide +kernel, rfl, by decide +kernel, by decide +kernel⟩
theorem H__law_long_word (T : Txt P K mg C) : CalZ P w K mg base C (2) "_law_long_word" (F__law_long_word fu rk) 2 [] :=
  cal_mk T.d__law_long_word S__law_long_word rfl (fun _ _ _ _ _ _ us hl => match us, hl with | [_, _], _ => rfl) (fun f cdv A outer s H E hr => by
    have S := S__law_long_word
    exact (pssm_one (psm_if (pbm_cmp op_gt om_gt (pem_b1 bk_len b1_len (by rfl) T.z_len (pem_ix (pem_ix (pem_var 0) pem_int) (pem_var 1))) pem_int (nomark _)) (pssm_one (psm_expr (pem_c (H__law_wrong T) hr (by omega) (takes_of rfl rfl rfl rfl) (plm_cons (pem_var 0) (plm_cons (pem_var 1) plm_nil))))) pssm_nil)))
theorem S__law_kind_of : FnScope ["e", "tree", "whole", "left", "right"] ["e", "tree", "whole"] (defScope s__law_kind_of) := ⟨rfl, rfl, rfl, by decide +kernel, rfl, by decide +kernel, by decide +kernel⟩
theorem H__law_kind_of (T : Txt P K mg C) : ∀ k, CalZ P w K mg base C (k + 3) "_law_kind_of" (F__law_kind_of fu rk k) 3 []
  | 0 => cal_none (ps := ["e", "tree", "whole"]) T.d__law_kind_of (fun _ _ _ _ _ _ us hl => match us, hl with | [_, _, _], _ => rfl)
  | k + 1 => by
    have e : (k + 1) + 3 = (k + 3) + 1 := by omega
    rw [show k + 1 + 3 = (k + 3) + 1 by omega]
    exact cal_mk T.d__law_kind_of S__law_kind_of rfl (fun _ _ _ _ _ _ us hl => match us, hl with | [_, _, _], _ => rfl) (fun f cdv A outer s H E hr => by
    have S := S__law_kind_of
    have R__law_kind_of := H__law_kind_of T k
    exact (pssm_cons (psm_if (pbm_cmp (op_eqZ hr.u200) om_eq (pem_ix (pem_var 1) pem_int) pem_str (nomark _)) (pssm_cons (psm_expr (pem_c (H__law_long_word T) hr (by omega) (takes_of rfl rfl rfl rfl) (plm_cons (pem_var 0) (plm_cons (pem_ix (pem_var 1) pem_int) plm_nil))))
    (pssm_cons (psm_if ((pwm_and (pbm_cmp (op_eqZ hr.u200) om_eq (pem_ix (pem_ix (pem_var 0) pem_int) (pem_ix (pem_var 1) pem_int)) pem_str (nomark _)) (pwm_and1 (pbm_not (pbm_tru (pem_var 2)))))).pt (pssm_one (psm_expr (pem_c (H__law_wrong T) hr (by omega) (takes_of rfl rfl rfl rfl) (plm_cons (pem_var 0) (plm_cons (pem_ix (pem_var 1) pem_int) plm_nil))))) pssm_nil)
    (pssm_one (psm_ret (pem_tup (plm_cons (pem_tup plm_nil) (plm_cons (pem_ix (pem_ix (pem_var 0) pem_int) (pem_ix (pem_var 1) pem_int)) plm_nil))))))) pssm_nil)
    (pssm_cons (psm_set 3 S.nd (pem_c R__law_kind_of hr (by omega) (takes_of rfl rfl rfl rfl) (plm_cons (pem_var 0) (plm_cons (pem_ix (pem_var 1) pem_int) (plm_cons pem_bl plm_nil)))))
    (pssm_cons (psm_set 4 S.nd (pem_c R__law_kind_of hr (by omega) (takes_of rfl rfl rfl rfl) (plm_cons (pem_var 0) (plm_cons (pem_ix (pem_var 1) pem_int) (plm_cons (pem_var 2) plm_nil)))))
    (pssm_one (psm_ret (pem_tup (plm_cons (pem_op op_addA om_add (pem_tup (plm_cons (pem_var 3) plm_nil)) (pem_ix (pem_var 4) pem_int)) (plm_cons (pem_ix (pem_var 4) pem_int) plm_nil)))))))))
theorem S__law_spoilt_tokens : FnScope ["c", "tokens", "menu", "turn", "k", "other", "way"] ["c", "tokens"] (defScope s__law_spoilt_tokens) := ⟨rfl, rfl, rfl, by decide +kernel, rfl, by decide +kernel, by decide +kernel⟩
theorem H__law_spoilt_tokens (T : Txt P K mg C) : CalZ P w K mg base C (3) "_law_spoilt_tokens" (F__law_spoilt_tokens fu rk) 2 [] :=
  cal_mk T.d__law_spoilt_tokens S__law_spoilt_tokens rfl (fun _ _ _ _ _ _ us hl => match us, hl with | [_, _], _ => rfl) (fun f cdv A outer s H E hr => by
    have S := S__law_spoilt_tokens
    exact (pssm_cons (psm_set 2 S.nd (pem_u (pum_lst (plm_cons pem_str (plm_cons pem_str (plm_cons pem_str (plm_cons pem_str (plm_cons pem_str (plm_cons pem_str (plm_cons pem_str (plm_cons pem_str (plm_cons pem_str (plm_cons pem_str (plm_cons pem_str (plm_cons pem_str (plm_cons pem_str (plm_cons pem_str (plm_cons pem_str (plm_cons pem_str (plm_cons pem_str (plm_cons pem_str (plm_cons pem_str (plm_cons pem_str (plm_cons pem_str plm_nil))))))))))))))))))))))))
    (pssm_cons (psm_set 2 S.nd (pem_u (pum_cat (pem_var 2) (pem_u (pum_lst (plm_cons pem_str (plm_cons pem_str (plm_cons pem_str (plm_cons pem_str (plm_cons pem_str (plm_cons pem_str (plm_cons pem_str (plm_cons pem_str (plm_cons pem_str (plm_cons pem_str (plm_cons pem_str (plm_cons pem_str plm_nil)))))))))))))))))
    (pssm_cons (psm_for (passes_of rfl) rfl (pim_range1 (by rfl) T.z_range (plm_cons (pem_op op_addA om_add (pem_op op_addA om_add pem_int (pem_b1 bk_int b1_int (by rfl) T.z_int (pem_cmp (op_eqZ hr.u200) om_eq (pem_c (H__law_take T) hr (by omega) (takes_of rfl rfl rfl rfl) (plm_cons (pem_var 0) (plm_cons pem_int plm_nil))) pem_int (nomark _)))) (pem_b1 bk_int b1_int (by rfl) T.z_int (pem_cmp (op_eqZ hr.u200) om_eq (pem_c (H__law_take T) hr (by omega) (takes_of rfl rfl rfl rfl) (plm_cons (pem_var 0) (plm_cons pem_int plm_nil))) pem_int (nomark _)))) plm_nil)) (pgm_name 3 S.nd) (nox_name 3) (pssm_cons (psm_set 4 S.nd (pem_c (H__law_take T) hr (by omega) (takes_of rfl rfl rfl rfl) (plm_cons (pem_var 0) (plm_cons (pem_op op_addA om_add (pem_b1 bk_len b1_len (by rfl) T.z_len (pem_var 1)) pem_int) plm_nil))))
    (pssm_cons (psm_set 5 S.nd (pem_ix (pem_var 2) (pem_c (H__law_take T) hr (by omega) (takes_of rfl rfl rfl rfl) (plm_cons (pem_var 0) (plm_cons (pem_b1 bk_len b1_len (by rfl) T.z_len (pem_var 2)) plm_nil)))))
    (pssm_cons (psm_if ((pwm_and (pbm_cmp (op_eqZ hr.u200) om_eq (pem_c (H__law_take T) hr (by omega) (takes_of rfl rfl rfl rfl) (plm_cons (pem_var 0) (plm_cons pem_int plm_nil))) pem_int (nomark _)) (pwm_and1 (pbm_tru (pem_var 1))))).pt (pssm_one (psm_set 5 S.nd (pem_ix (pem_var 1) (pem_c (H__law_take T) hr (by omega) (takes_of rfl rfl rfl rfl) (plm_cons (pem_var 0) (plm_cons (pem_b1 bk_len b1_len (by rfl) T.z_len (pem_var 1)) plm_nil)))))) pssm_nil)
    (pssm_cons (psm_set 6 S.nd (pem_c (H__law_take T) hr (by omega) (takes_of rfl rfl rfl rfl) (plm_cons (pem_var 0) (plm_cons pem_int plm_nil))))
    (pssm_one (psm_if (pbm_cmp (op_eqZ hr.u200) om_eq (pem_var 6) pem_int (nomark _)) (pssm_one (psm_set 1 S.nd (pem_u (pum_cat (pem_u (pum_sl (pem_var 1) pom_none (pom_some (pem_var 4)))) (pem_u (pum_sl (pem_var 1) (pom_some (pem_op op_addA om_add (pem_var 4) pem_int)) pom_none)))))) (pssm_one (psm_if (pbm_cmp (op_eqZ hr.u200) om_eq (pem_var 6) pem_int (nomark _)) (pssm_one (psm_set 1 S.nd (pem_u (pum_cat (pem_u (pum_cat (pem_u (pum_sl (pem_var 1) pom_none (pom_some (pem_var 4)))) (pem_u (pum_lst (plm_cons (pem_var 5) plm_nil))))) (pem_u (pum_sl (pem_var 1) (pom_some (pem_var 4)) pom_none)))))) (pssm_one (psm_if (pbm_cmp (op_eqZ hr.u200) om_eq (pem_var 6) pem_int (nomark _)) (pssm_one (psm_set 1 S.nd (pem_u (pum_cat (pem_u (pum_cat (pem_u (pum_sl (pem_var 1) pom_none (pom_some (pem_var 4)))) (pem_u (pum_lst (plm_cons (pem_var 5) plm_nil))))) (pem_u (pum_sl (pem_var 1) (pom_some (pem_op op_addA om_add (pem_var 4) pem_int)) pom_none)))))) (pssm_one (psm_set 1 S.nd (pem_u (pum_cat (pem_u (pum_cat (pem_u (pum_cat (pem_u (pum_sl (pem_var 1) pom_none (pom_some (pem_op op_addA om_add (pem_var 4) pem_int)))) (pem_u (pum_sl (pem_var 1) (pom_some (pem_op op_addA om_add (pem_var 4) pem_int)) (pom_some (pem_op op_addA om_add (pem_var 4) pem_int)))))) (pem_u (pum_sl (pem_var 1) (pom_some (pem_op op_addA om_add (pem_var 4) pem_int)) (pom_some (pem_op op_addA om_add (pem_var 4) pem_int)))))) (pem_u (pum_sl (pem_var 1) (pom_some (pem_op op_addA om_add (pem_var 4) pem_int)) pom_none)))))))))))))))))
    (pssm_one (psm_ret (pem_var 1)))))))
theorem S__law_spaced : FnScope ["tokens"] ["tokens"] (defScope s__law_spaced) := ⟨rfl, rfl, rfl, by decide +kernel, rfl, by decide +kernel, by decide +kernel⟩
theorem H__law_spaced (T : Txt P K mg C) : CalZ P w K mg base C (1) "_law_spaced" (F__law_spaced fu rk) 1 [] :=
  cal_mk T.d__law_spaced S__law_spaced rfl (fun _ _ _ _ _ _ us hl => match us, hl with | [_], _ => rfl) (fun f cdv A outer s H E hr => by
    have S := S__law_spaced
    exact (pssm_one (psm_ret (pem_join pem_str (pem_var 0)))))
theorem S__law_loose_type : FnScope ["c", "kind", "found", "many", "closing", "k", "last", "inner"] ["c", "kind"] (defScope s__law_loose_type) := ⟨rfl, rfl, rfl, by decide +kernel, rfl, by decide +kernel, by decide +kernel⟩
theorem H__law_loose_type (T : Txt P K mg C) : ∀ k, CalZ P w K mg base C (k + 3) "_law_loose_type" (F__law_loose_type fu rk k) 2 []
  | 0 => cal_none (ps := ["c", "kind"]) T.d__law_loose_type (fun _ _ _ _ _ _ us hl => match us, hl with | [_, _], _ => rfl)
  | k + 1 => by
    have e : (k + 1) + 3 = (k + 3) + 1 := by omega
    rw [show k + 1 + 3 = (k + 3) + 1 by omega]
    exact cal_mk T.d__law_loose_type S__law_loose_type rfl (fun _ _ _ _ _ _ us hl => match us, hl with | [_, _], _ => rfl) (fun f cdv A outer s H E hr => by
    have S := S__law_loose_type
    have R__law_loose_type := H__law_loose_type T k
    exact (pssm_cons (psm_setO 2 S.nd (pum_lst plm_nil))
    (pssm_cons (psm_set 3 S.nd (pem_b1 bk_len b1_len (by rfl) T.z_len (pem_ix (pem_var 1) pem_int)))
    (pssm_cons (psm_setO 4 S.nd (pum_lst plm_nil))
    (pssm_cons (psm_for (passes_of rfl) rfl (pim_range1 (by rfl) T.z_range (plm_cons (pem_var 3) plm_nil)) (pgm_name 5 S.nd) (nox_name 5) (pssm_cons (psm_if (pbm_cmp (op_eqZ hr.u200) om_eq (pem_c (H__law_take T) hr (by omega) (takes_of rfl rfl rfl rfl) (plm_cons (pem_var 0) (plm_cons pem_int plm_nil))) pem_int (nomark _)) (pssm_cons (psm_expr (pem_app 2 pem_str))
    (pssm_one (psm_expr (pem_app 4 pem_str)))) pssm_nil)
    (pssm_cons (psm_set 7 S.nd (pem_c R__law_loose_type hr (by omega) (takes_of rfl rfl rfl rfl) (plm_cons (pem_var 0) (plm_cons (pem_ix (pem_ix (pem_var 1) pem_int) (pem_var 5)) plm_nil))))
    (pssm_cons (psm_if ((pwm_or (pbm_tru (pem_ix (pem_ix (pem_ix (pem_var 1) pem_int) (pem_var 5)) pem_int)) (pwm_or1 (pbm_cmp (op_eqZ hr.u200) om_eq (pem_c (H__law_take T) hr (by omega) (takes_of rfl rfl rfl rfl) (plm_cons (pem_var 0) (plm_cons pem_int plm_nil))) pem_int (nomark _))))).pt (pssm_one (psm_set 7 S.nd (pem_u (pum_cat (pem_u (pum_cat (pem_u (pum_lst (plm_cons pem_str plm_nil))) (pem_var 7))) (pem_u (pum_lst (plm_cons pem_str plm_nil))))))) pssm_nil)
    (pssm_one (psm_setO 2 S.nd (pum_cat (pem_u (pum_cat (pem_var 2) (pem_var 7))) (pem_u (pum_lst (plm_cons pem_str plm_nil))))))))))
    (pssm_cons (psm_set 6 S.nd (pem_u (pum_lst (plm_cons (pem_ix (pem_var 1) pem_int) plm_nil))))
    (pssm_cons (psm_if (pbm_cmp (op_eqZ hr.u200) om_eq (pem_c (H__law_take T) hr (by omega) (takes_of rfl rfl rfl rfl) (plm_cons (pem_var 0) (plm_cons pem_int plm_nil))) pem_int (nomark _)) (pssm_one (psm_set 6 S.nd (pem_u (pum_cat (pem_u (pum_cat (pem_u (pum_lst (plm_cons pem_str plm_nil))) (pem_var 6))) (pem_u (pum_lst (plm_cons pem_str plm_nil))))))) pssm_nil)
    (pssm_one (psm_retU (pum_cat (pem_u (pum_cat (pem_var 2) (pem_var 6))) (pem_var 4)))))))))))
theorem S__law_any_type : FnScope ["c", "deep", "sort", "k"] ["c", "deep"] (defScope s__law_any_type) := ⟨rfl, rfl, rfl, by decide +kernel, rfl, by decide +kernel, by decide +kernel⟩
theorem H__law_any_type (T : Txt P K mg C) : ∀ k, CalZ P w K mg base C (k + 3) "_law_any_type" (F__law_any_type fu rk k) 2 []
  | 0 => cal_none (ps := ["c", "deep"]) T.d__law_any_type (fun _ _ _ _ _ _ us hl => match us, hl with | [_, _], _ => rfl)
  | k + 1 => by
    have e : (k + 1) + 3 = (k + 3) + 1 := by omega
    rw [show k + 1 + 3 = (k + 3) + 1 by omega]
    exact cal_mk T.d__law_any_type S__law_any_type rfl (fun _ _ _ _ _ _ us hl => match us, hl with | [_, _], _ => rfl) (fun f cdv A outer s H E hr => by
    have S := S__law_any_type
    have R__law_any_type := H__law_any_type T k
    exact (pssm_cons (psm_set 2 S.nd (pem_ix (pem_u (pum_lst (plm_cons pem_str (plm_cons pem_str (plm_cons pem_str (plm_cons pem_str (plm_cons pem_str (plm_cons pem_str (plm_cons pem_str (plm_cons pem_str plm_nil)))))))))) (pem_c (H__law_take T) hr (by omega) (takes_of rfl rfl rfl rfl) (plm_cons (pem_var 0) (plm_cons pem_int plm_nil)))))
    (pssm_cons (psm_if (pbm_cmp op_lt om_lt (pem_var 1) pem_int (nomark _)) (pssm_one (psm_ret (pem_tup (plm_cons (pem_tup plm_nil) (plm_cons (pem_var 2) plm_nil))))) pssm_nil)
    (pssm_one (psm_ret (pem_tup (plm_cons (pem_b1 bk_tup b1_tup (by rfl) T.z_tuple (pem_u (pum_lc (own := [("k", 3)]) rfl S.nd (pim_range1 (by rfl) T.z_range (plm_cons (pem_ix (pem_u (pum_lst (plm_cons pem_int (plm_cons pem_int (plm_cons pem_int (plm_cons pem_int (plm_cons pem_int (plm_cons pem_int plm_nil)))))))) (pem_c (H__law_take T) hr (by omega) (takes_of rfl rfl rfl rfl) (plm_cons (pem_var 0) (plm_cons pem_int plm_nil)))) plm_nil)) (blkOk_by (N := ["c", "deep", "sort", "k"]) (sc := defScope s__law_any_type) (own := [("k", 3)]) (by decide +kernel)) (fun _ _ _ _ _ => (pgv_name 3 (by decide) S.nd)) (fun _ _ _ _ _ => (pem_c R__law_any_type hr (by omega) takes0 (plm_cons (pem_var 0) (plm_cons (pem_op op_sub om_sub (pem_var 1) pem_int) plm_nil))))))) (plm_cons (pem_var 2) plm_nil))))))))
theorem S__law_type_due : FnScope ["tokens", "s", "tree", "e", "kind"] ["tokens"] (defScope s__law_type_due) := ⟨rfl, rfl, rfl, by decide +kernel, rfl, by decide +kernel, by decide +kernel⟩
theorem H__law_type_due (T : Txt P K mg C) : CalZ P w K mg base C (rk + 5) "_law_type_due" (F__law_type_due fu rk) 1 [] :=
  cal_mk T.d__law_type_due S__law_type_due rfl (fun _ _ _ _ _ _ us hl => match us, hl with | [_], _ => rfl) (fun f cdv A outer s H E hr => by
    have S := S__law_type_due
    exact (pssm_cons (psm_setB 1 S.nd (pum_lst (plm_cons (pem_var 0) (plm_cons pem_int (plm_cons (pem_op op_sub om_sub pem_int pem_int) plm_nil)))))
    (pssm_cons (psm_set 2 S.nd (pem_c (H__law_read_type T rk) hr (by omega) (takes_of rfl rfl rfl rfl) (plm_cons (pem_var 1) plm_nil)))
    (pssm_cons (psm_if ((pwm_and (pbm_cmp op_lt om_lt (pem_ix (pem_var 1) pem_int) pem_int (nomark _)) (pwm_and1 (pbm_cmp op_lt om_lt (pem_ix (pem_var 1) pem_int) (pem_b1 bk_len b1_len (by rfl) T.z_len (pem_var 0)) (nomark _))))).pt (pssm_one (psm_expr (pem_c (H__law_stop T) hr (by omega) (takes_of rfl rfl rfl rfl) (plm_cons (pem_var 1) plm_nil)))) pssm_nil)
    (pssm_cons (psm_if (pbm_cmp op_ge om_ge (pem_ix (pem_var 1) pem_int) pem_int (nomark _)) (pssm_one (psm_ret (pem_ix (pem_var 1) pem_int))) pssm_nil)
    (pssm_cons (psm_setB 3 S.nd (pum_lst (plm_cons (pem_u (pum_lst plm_nil)) (plm_cons (pem_u (pum_lst plm_nil)) (plm_cons (pem_var 0) (plm_cons (pem_op op_sub om_sub pem_int pem_int) plm_nil))))))
    (pssm_cons (psm_set 4 S.nd (pem_c (H__law_kind_of T rk) hr (by omega) (takes_of rfl rfl rfl rfl) (plm_cons (pem_var 3) (plm_cons (pem_var 2) (plm_cons pem_bl plm_nil)))))
    (pssm_cons (psm_if (pbm_cmp op_ge om_ge (pem_ix (pem_var 3) pem_int) pem_int (nomark _)) (pssm_one (psm_ret (pem_ix (pem_var 3) pem_int))) pssm_nil)
    (pssm_one (psm_ret (pem_var 4)))))))))))
theorem S__law_type_told : FnScope ["text", "e"] ["text"] (defScope s__law_type_told) := ⟨rfl, rfl, rfl, by decide +kernel, rfl, by decide +kernel, by decide +kernel⟩
theorem H__law_type_told (T : Txt P K mg C) : CalZ P w K mg base C (rk + 6) "_law_type_told" (F__law_type_told fu rk) 1 [] :=
  cal_mk T.d__law_type_told S__law_type_told rfl (fun _ _ _ _ _ _ us hl => match us, hl with | [_], _ => rfl) (fun f cdv A outer s H E hr => by
    have S := S__law_type_told
    exact (pssm_one (psm_try 1 rfl rfl S.nd rfl rfl ⟨by rfl, by decide, Or.inl T.m_TextError⟩ (takes_of rfl rfl rfl rfl) T.fl_TextError T.ex_TextError (fun W pn xe tk _ => (pssm_one (psm_ret (pem_tup (plm_cons pem_str (plm_cons (pem_c (H_read_type T) hr (by omega) tk (plm_cons (pem_var 0) plm_nil)) plm_nil)))))) (suite_told 1 T.xf_TextError T.no_TextError rfl (by first | exact Or.inl rfl | exact Or.inr (Or.inl rfl) | exact Or.inr (Or.inr rfl)) (by decide) (by decide) (fun _ _ _ => rfl) rfl rfl))))
theorem S_law : FnScope ["script", "c", "kind", "tokens", "turn", "loose", "spoilt", "due"] ["script"] (defScope s_law) := ⟨rfl, rfl, rfl, by decide +kernel, rfl, by decide +kernel, by decide +kernel⟩
theorem B_law (T : Txt P K mg C) : BodyZ P w K mg base C (rk + 6) "law" s_law ["script", "c", "kind", "tokens", "turn", "loose", "spoilt", "due"] (M_law fu rk) :=
  fun f cdv A outer s H E hr => by
    have S := S_law
    exact (pssm_cons (psm_setB 1 S.nd (pum_c (H__law_start T) hr (by omega) (takes_of rfl rfl rfl rfl) (plm_cons (pem_var 0) plm_nil)))
    (pssm_cons (psm_set 2 S.nd (pem_c (H__law_any_type T rk) hr (by omega) (takes_of rfl rfl rfl rfl) (plm_cons (pem_var 1) (plm_cons (pem_op op_addA om_add pem_int (pem_c (H__law_take T) hr (by omega) (takes_of rfl rfl rfl rfl) (plm_cons (pem_var 1) (plm_cons pem_int plm_nil)))) plm_nil))))
    (pssm_cons (psm_if (pbm_cmp (op_eqZ hr.u200) om_eq (pem_c (H__law_take T) hr (by omega) (takes_of rfl rfl rfl rfl) (plm_cons (pem_var 1) (plm_cons pem_int plm_nil))) pem_int (nomark _)) (pssm_one (psm_set 2 S.nd (pem_tup (plm_cons (pem_ix (pem_var 2) pem_int) (plm_cons pem_str plm_nil))))) pssm_nil)
    (pssm_cons (psm_set 3 S.nd (pem_c (H__law_type_tokens T rk) hr (by omega) (takes_of rfl rfl rfl rfl) (plm_cons (pem_var 2) plm_nil)))
    (pssm_cons (psm_if ((pwm_or (pbm_cmp (op_neZ hr.u200) om_ne (pem_c (H_write_type T) hr (by omega) (takes_of rfl rfl rfl rfl) (plm_cons (pem_var 2) plm_nil)) (pem_c (H__law_joined T) hr (by omega) (takes_of rfl rfl rfl rfl) (plm_cons (pem_var 3) plm_nil)) (nomark _)) (pwm_or1 (pbm_cmp (op_neZ hr.u200) om_ne (pem_c (H_read_type T) hr (by omega) (takes_of rfl rfl rfl rfl) (plm_cons (pem_c (H__law_joined T) hr (by omega) (takes_of rfl rfl rfl rfl) (plm_cons (pem_var 3) plm_nil)) plm_nil)) (pem_var 2) (nomark _))))).pt (pssm_one (psm_ret pem_bl)) pssm_nil)
    (pssm_cons (psm_for (passes_of rfl) rfl (pim_range1 (by rfl) T.z_range (plm_cons pem_int plm_nil)) (pgm_name 4 S.nd) (nox_name 4) (pssm_cons (psm_set 5 S.nd (pem_c (H__law_loose_type T rk) hr (by omega) (takes_of rfl rfl rfl rfl) (plm_cons (pem_var 1) (plm_cons (pem_var 2) plm_nil))))
    (pssm_one (psm_if (pbm_cmp (op_neZ hr.u200) om_ne (pem_c (H_read_type T) hr (by omega) (takes_of rfl rfl rfl rfl) (plm_cons (pem_c (H__law_scattered T) hr (by omega) (takes_of rfl rfl rfl rfl) (plm_cons (pem_var 1) (plm_cons (pem_var 5) plm_nil))) plm_nil)) (pem_var 2) (nomark _)) (pssm_one (psm_ret pem_bl)) pssm_nil))))
    (pssm_cons (psm_for (passes_of rfl) rfl (pim_range1 (by rfl) T.z_range (plm_cons pem_int plm_nil)) (pgm_name 4 S.nd) (nox_name 4) (pssm_cons (psm_set 6 S.nd (pem_c (H__law_spoilt_tokens T) hr (by omega) (takes_of rfl rfl rfl rfl) (plm_cons (pem_var 1) (plm_cons (pem_c (H__law_loose_type T rk) hr (by omega) (takes_of rfl rfl rfl rfl) (plm_cons (pem_var 1) (plm_cons (pem_var 2) plm_nil))) plm_nil))))
    (pssm_cons (psm_set 7 S.nd (pem_c (H__law_type_due T) hr (by omega) (takes_of rfl rfl rfl rfl) (plm_cons (pem_var 6) plm_nil)))
    (pssm_one (psm_if (pbm_cmp (op_neZ hr.u200) om_ne (pem_c (H__law_type_told T) hr (by omega) (takes_of rfl rfl rfl rfl) (plm_cons (pem_c (H__law_spaced T) hr (by omega) (takes_of rfl rfl rfl rfl) (plm_cons (pem_var 6) plm_nil)) plm_nil)) (pem_ix (pem_u (pum_lst (plm_cons (pem_tup (plm_cons pem_str (plm_cons (pem_var 7) plm_nil))) (plm_cons (pem_tup (plm_cons pem_str (plm_cons (pem_var 7) plm_nil))) plm_nil)))) (pem_b1 bk_int b1_int (by rfl) T.z_int (pem_isInt (by rfl) T.z_isinstance (by rfl) T.z_int (pem_var 7)))) (nomark _)) (pssm_one (psm_ret pem_bl)) pssm_nil)))))
    (pssm_one (psm_ret (pem_cmp (op_eqZ hr.u200) om_eq (pem_c (H__law_type_told T) hr (by omega) (takes_of rfl rfl rfl rfl) (plm_cons pem_str plm_nil)) (pem_tup (plm_cons pem_str (plm_cons pem_int plm_nil))) (nomark _)))))))))))
end
end K70
set_option Elab.async false
set_option linter.all false
set_option maxRecDepth 100000
set_option maxHeartbeats 4000000
/-! printed by gen.py: what the written part holds -/
namespace K70
open PySem L2 Z
/-- the classes -/
def mkC (C_Syntax C_Meaning C_TextError : Addr) : Cl where
  cl := fun n => match n with
    | 0 => C_Syntax
    | 1 => C_Meaning
    | 2 => C_TextError
    | _ => C_Syntax
  fl := fun n => match n with
    | 2 => some "at"
    | _ => none
  amb := fun _ => True
  mono := fun _ _ _ _ => trivial
abbrev s_TextError : Stmt := inClass (top 3) 0
theorem all_mk {P : Program} {K : PySem.W.Frag} {h : Heap} {mg : Str → Option Value} (X : K.In h) (G : h.Ns mainGlobals mg) {C_Syntax C_Meaning C_TextError : Addr}
    {t_DIGITS : Tok}
    {t_LETTERS : Tok}
    {r_RESERVED : Addr} {n_RESERVED : Nat} {s_RESERVED : Array (Option Value)} {t_RESERVED_0 t_RESERVED_1 t_RESERVED_2 t_RESERVED_3 t_RESERVED_4 t_RESERVED_5 t_RESERVED_6 t_RESERVED_7 t_RESERVED_8 t_RESERVED_9 t_RESERVED_10 t_RESERVED_11 t_RESERVED_12 : Tok}
    {t_SIGNS : Tok}
    {f_end_of : Addr} {od_end_of an_end_of : Option Addr} {sl_end_of : Array (Option Value)} {oc_end_of kV_end_of dc_end_of pm_end_of cd_end_of ct_end_of : Value}
    {f_token_at : Addr} {od_token_at an_token_at : Option Addr} {sl_token_at : Array (Option Value)} {oc_token_at kV_token_at dc_token_at pm_token_at cd_token_at ct_token_at : Value}
    {f_tokens_of : Addr} {od_tokens_of an_tokens_of : Option Addr} {sl_tokens_of : Array (Option Value)} {oc_tokens_of kV_tokens_of dc_tokens_of pm_tokens_of cd_tokens_of ct_tokens_of : Value}
    {f_joined : Addr} {od_joined an_joined : Option Addr} {sl_joined : Array (Option Value)} {oc_joined kV_joined dc_joined pm_joined cd_joined ct_joined : Value}
    {f_Syntax___init__ : Addr} {od_Syntax___init__ an_Syntax___init__ : Option Addr} {sl_Syntax___init__ : Array (Option Value)} {oc_Syntax___init__ kV_Syntax___init__ dc_Syntax___init__ pm_Syntax___init__ cd_Syntax___init__ ct_Syntax___init__ : Value}
    {f_Syntax_kind : Addr} {od_Syntax_kind an_Syntax_kind : Option Addr} {sl_Syntax_kind : Array (Option Value)} {oc_Syntax_kind kV_Syntax_kind dc_Syntax_kind pm_Syntax_kind cd_Syntax_kind ct_Syntax_kind : Value}
    {D_Syntax_kind : Addr} {dn_Syntax_kind : Nat} {dd_Syntax_kind : Option Addr} {dc2_Syntax_kind : Value} {ds_Syntax_kind : Array (Option Value)} {u_Syntax_kind_0 : Tok}
    {f_Syntax_take : Addr} {od_Syntax_take an_Syntax_take : Option Addr} {sl_Syntax_take : Array (Option Value)} {oc_Syntax_take kV_Syntax_take dc_Syntax_take pm_Syntax_take cd_Syntax_take ct_Syntax_take : Value}
    {f_Syntax_finish : Addr} {od_Syntax_finish an_Syntax_finish : Option Addr} {sl_Syntax_finish : Array (Option Value)} {oc_Syntax_finish kV_Syntax_finish dc_Syntax_finish pm_Syntax_finish cd_Syntax_finish ct_Syntax_finish : Value}
    {f_Syntax_sorts : Addr} {od_Syntax_sorts an_Syntax_sorts : Option Addr} {sl_Syntax_sorts : Array (Option Value)} {oc_Syntax_sorts kV_Syntax_sorts dc_Syntax_sorts pm_Syntax_sorts cd_Syntax_sorts ct_Syntax_sorts : Value}
    {f_Meaning___init__ : Addr} {od_Meaning___init__ an_Meaning___init__ : Option Addr} {sl_Meaning___init__ : Array (Option Value)} {oc_Meaning___init__ kV_Meaning___init__ dc_Meaning___init__ pm_Meaning___init__ cd_Meaning___init__ ct_Meaning___init__ : Value}
    {f_Meaning_finish : Addr} {od_Meaning_finish an_Meaning_finish : Option Addr} {sl_Meaning_finish : Array (Option Value)} {oc_Meaning_finish kV_Meaning_finish dc_Meaning_finish pm_Meaning_finish cd_Meaning_finish ct_Meaning_finish : Value}
    {f_Meaning_look : Addr} {od_Meaning_look an_Meaning_look : Option Addr} {sl_Meaning_look : Array (Option Value)} {oc_Meaning_look kV_Meaning_look dc_Meaning_look pm_Meaning_look cd_Meaning_look ct_Meaning_look : Value}
    {f_Meaning_kind : Addr} {od_Meaning_kind an_Meaning_kind : Option Addr} {sl_Meaning_kind : Array (Option Value)} {oc_Meaning_kind kV_Meaning_kind dc_Meaning_kind pm_Meaning_kind cd_Meaning_kind ct_Meaning_kind : Value}
    {D_Meaning_kind : Addr} {dn_Meaning_kind : Nat} {dd_Meaning_kind : Option Addr} {dc2_Meaning_kind : Value} {ds_Meaning_kind : Array (Option Value)} 
    {f_in_brackets : Addr} {od_in_brackets an_in_brackets : Option Addr} {sl_in_brackets : Array (Option Value)} {oc_in_brackets kV_in_brackets dc_in_brackets pm_in_brackets cd_in_brackets ct_in_brackets : Value}
    {f_kind_words : Addr} {od_kind_words an_kind_words : Option Addr} {sl_kind_words : Array (Option Value)} {oc_kind_words kV_kind_words dc_kind_words pm_kind_words cd_kind_words ct_kind_words : Value}
    {f_read_type : Addr} {od_read_type an_read_type : Option Addr} {sl_read_type : Array (Option Value)} {oc_read_type kV_read_type dc_read_type pm_read_type cd_read_type ct_read_type : Value}
    {f_write_type : Addr} {od_write_type an_write_type : Option Addr} {sl_write_type : Array (Option Value)} {oc_write_type kV_write_type dc_write_type pm_write_type cd_write_type ct_write_type : Value}
    {f__law_start : Addr} {od__law_start an__law_start : Option Addr} {sl__law_start : Array (Option Value)} {oc__law_start kV__law_start dc__law_start pm__law_start cd__law_start ct__law_start : Value}
    {f__law_fill : Addr} {od__law_fill an__law_fill : Option Addr} {sl__law_fill : Array (Option Value)} {oc__law_fill kV__law_fill dc__law_fill pm__law_fill cd__law_fill ct__law_fill : Value}
    {f__law_take : Addr} {od__law_take an__law_take : Option Addr} {sl__law_take : Array (Option Value)} {oc__law_take kV__law_take dc__law_take pm__law_take cd__law_take ct__law_take : Value}
    {f__law_joined : Addr} {od__law_joined an__law_joined : Option Addr} {sl__law_joined : Array (Option Value)} {oc__law_joined kV__law_joined dc__law_joined pm__law_joined cd__law_joined ct__law_joined : Value}
    {f__law_scattered : Addr} {od__law_scattered an__law_scattered : Option Addr} {sl__law_scattered : Array (Option Value)} {oc__law_scattered kV__law_scattered dc__law_scattered pm__law_scattered cd__law_scattered ct__law_scattered : Value}
    {f__law_type_tokens : Addr} {od__law_type_tokens an__law_type_tokens : Option Addr} {sl__law_type_tokens : Array (Option Value)} {oc__law_type_tokens kV__law_type_tokens dc__law_type_tokens pm__law_type_tokens cd__law_type_tokens ct__law_type_tokens : Value}
    {f__law_reserved : Addr} {od__law_reserved an__law_reserved : Option Addr} {sl__law_reserved : Array (Option Value)} {oc__law_reserved kV__law_reserved dc__law_reserved pm__law_reserved cd__law_reserved ct__law_reserved : Value}
    {f__law_peek : Addr} {od__law_peek an__law_peek : Option Addr} {sl__law_peek : Array (Option Value)} {oc__law_peek kV__law_peek dc__law_peek pm__law_peek cd__law_peek ct__law_peek : Value}
    {f__law_is_word : Addr} {od__law_is_word an__law_is_word : Option Addr} {sl__law_is_word : Array (Option Value)} {oc__law_is_word kV__law_is_word dc__law_is_word pm__law_is_word cd__law_is_word ct__law_is_word : Value}
    {f__law_stop : Addr} {od__law_stop an__law_stop : Option Addr} {sl__law_stop : Array (Option Value)} {oc__law_stop kV__law_stop dc__law_stop pm__law_stop cd__law_stop ct__law_stop : Value}
    {f__law_sign : Addr} {od__law_sign an__law_sign : Option Addr} {sl__law_sign : Array (Option Value)} {oc__law_sign kV__law_sign dc__law_sign pm__law_sign cd__law_sign ct__law_sign : Value}
    {f__law_word : Addr} {od__law_word an__law_word : Option Addr} {sl__law_word : Array (Option Value)} {oc__law_word kV__law_word dc__law_word pm__law_word cd__law_word ct__law_word : Value}
    {f__law_read_type : Addr} {od__law_read_type an__law_read_type : Option Addr} {sl__law_read_type : Array (Option Value)} {oc__law_read_type kV__law_read_type dc__law_read_type pm__law_read_type cd__law_read_type ct__law_read_type : Value}
    {f__law_wrong : Addr} {od__law_wrong an__law_wrong : Option Addr} {sl__law_wrong : Array (Option Value)} {oc__law_wrong kV__law_wrong dc__law_wrong pm__law_wrong cd__law_wrong ct__law_wrong : Value}
    {f__law_long_word : Addr} {od__law_long_word an__law_long_word : Option Addr} {sl__law_long_word : Array (Option Value)} {oc__law_long_word kV__law_long_word dc__law_long_word pm__law_long_word cd__law_long_word ct__law_long_word : Value}
    {f__law_kind_of : Addr} {od__law_kind_of an__law_kind_of : Option Addr} {sl__law_kind_of : Array (Option Value)} {oc__law_kind_of kV__law_kind_of dc__law_kind_of pm__law_kind_of cd__law_kind_of ct__law_kind_of : Value}
    {f__law_spoilt_tokens : Addr} {od__law_spoilt_tokens an__law_spoilt_tokens : Option Addr} {sl__law_spoilt_tokens : Array (Option Value)} {oc__law_spoilt_tokens kV__law_spoilt_tokens dc__law_spoilt_tokens pm__law_spoilt_tokens cd__law_spoilt_tokens ct__law_spoilt_tokens : Value}
    {f__law_spaced : Addr} {od__law_spaced an__law_spaced : Option Addr} {sl__law_spaced : Array (Option Value)} {oc__law_spaced kV__law_spaced dc__law_spaced pm__law_spaced cd__law_spaced ct__law_spaced : Value}
    {f__law_loose_type : Addr} {od__law_loose_type an__law_loose_type : Option Addr} {sl__law_loose_type : Array (Option Value)} {oc__law_loose_type kV__law_loose_type dc__law_loose_type pm__law_loose_type cd__law_loose_type ct__law_loose_type : Value}
    {f__law_any_type : Addr} {od__law_any_type an__law_any_type : Option Addr} {sl__law_any_type : Array (Option Value)} {oc__law_any_type kV__law_any_type dc__law_any_type pm__law_any_type cd__law_any_type ct__law_any_type : Value}
    {f__law_type_due : Addr} {od__law_type_due an__law_type_due : Option Addr} {sl__law_type_due : Array (Option Value)} {oc__law_type_due kV__law_type_due dc__law_type_due pm__law_type_due cd__law_type_due ct__law_type_due : Value}
    {f__law_type_told : Addr} {od__law_type_told an__law_type_told : Option Addr} {sl__law_type_told : Array (Option Value)} {oc__law_type_told kV__law_type_told dc__law_type_told pm__law_type_told cd__law_type_told ct__law_type_told : Value}
    {f_law : Addr} {od_law an_law : Option Addr} {sl_law : Array (Option Value)} {oc_law kV_law dc_law pm_law cd_law ct_law : Value}
    {nm_TextError q_TextError : Str} {N_TextError L_TextError : Addr} {bs_TextError : List Value} {sn_TextError : List Str} {sub_TextError : List Value} {ab_TextError : Bool} {col_TextError : Option Bool} {dd_TextError : Option Addr} {m0_TextError m1_TextError m2_TextError m3_TextError m5_TextError : Option Value}
    {f_TextError cc_TextError cda_TextError : Addr} {oc_TextError kV_TextError dc_TextError pm_TextError ct_TextError ccl_TextError cl_TextError : Value} {od_TextError an_TextError cdd_TextError cld_TextError : Option Addr} {sl_TextError ccs_TextError csl_TextError : Array (Option Value)} {vs_TextError : Array Value} {tf_TextError : Tok} {file_TextError : Str}
    (a_Syntax : PySem.W.nsIn K mainGlobals "Syntax" = some (some (.ref C_Syntax)))
    (a_Meaning : PySem.W.nsIn K mainGlobals "Meaning" = some (some (.ref C_Meaning)))
    (a_TextError : PySem.W.nsIn K mainGlobals "TextError" = some (some (.ref C_TextError)))
    (z_all : PySem.W.nsIn K mainGlobals "all" = some none)
    (z_dict : PySem.W.nsIn K mainGlobals "dict" = some none)
    (z_enumerate : PySem.W.nsIn K mainGlobals "enumerate" = some none)
    (z_int : PySem.W.nsIn K mainGlobals "int" = some none)
    (z_isinstance : PySem.W.nsIn K mainGlobals "isinstance" = some none)
    (z_len : PySem.W.nsIn K mainGlobals "len" = some none)
    (z_min : PySem.W.nsIn K mainGlobals "min" = some none)
    (z_range : PySem.W.nsIn K mainGlobals "range" = some none)
    (z_tuple : PySem.W.nsIn K mainGlobals "tuple" = some none)
    (g_DIGITS : PySem.W.nsIn K mainGlobals "DIGITS" = some (some (.str "0123456789" t_DIGITS)))
    (g_LETTERS : PySem.W.nsIn K mainGlobals "LETTERS" = some (some (.str "abcdefghijklmnopqrstuvwxyz" t_LETTERS)))
    (g_RESERVED : PySem.W.nsIn K mainGlobals "RESERVED" = some (some (.ref r_RESERVED)))
    (h_RESERVED : K.lookup r_RESERVED = some ⟨.type "tuple", none, .seq #[.str "con" t_RESERVED_0, .str "rule" t_RESERVED_1, .str "ask" t_RESERVED_2, .str "if" t_RESERVED_3, .str "true" t_RESERVED_4, .str "some" t_RESERVED_5, .str "all" t_RESERVED_6, .str "given" t_RESERVED_7, .str "same" t_RESERVED_8, .str "match" t_RESERVED_9, .str "steps" t_RESERVED_10, .str "many" t_RESERVED_11, .str "height" t_RESERVED_12] n_RESERVED, s_RESERVED⟩)
    (g_SIGNS : PySem.W.nsIn K mainGlobals "SIGNS" = some (some (.str "()[].,:;&|" t_SIGNS)))
    (pg_Meaning : PySem.W.plainGet K C_Meaning Str.empty = true)
    (hd_Meaning : PySem.W.hasDictIn K C_Meaning = true)
    (po_Meaning : PySem.W.plainOver K C_Meaning = true)
    (sa_Meaning : PySem.W.findIn K (.ref C_Meaning) "__setattr__" = some (some (.builtin "object.__setattr__")))
    (pg_Syntax : PySem.W.plainGet K C_Syntax Str.empty = true)
    (hd_Syntax : PySem.W.hasDictIn K C_Syntax = true)
    (po_Syntax : PySem.W.plainOver K C_Syntax = true)
    (sa_Syntax : PySem.W.findIn K (.ref C_Syntax) "__setattr__" = some (some (.builtin "object.__setattr__")))
    (n_Meaning_constants : PySem.W.findIn K (.ref C_Meaning) "constants" = some none)
    (n_Meaning_holes : PySem.W.findIn K (.ref C_Meaning) "holes" = some none)
    (n_Meaning_wrong : PySem.W.findIn K (.ref C_Meaning) "wrong" = some none)
    (n_Syntax_at : PySem.W.findIn K (.ref C_Syntax) "at" = some none)
    (n_Syntax_tokens : PySem.W.findIn K (.ref C_Syntax) "tokens" = some none)
    (a_end_of : PySem.W.nsIn K mainGlobals "end_of" = some (some (.ref f_end_of)))
    (l_end_of : K.lookup f_end_of = some ⟨oc_end_of, od_end_of, .func (PySem.W.fnOf "end_of" "end_of" (defArgs s_end_of) (defBody s_end_of) (defScope s_end_of) .none kV_end_of dc_end_of pm_end_of an_end_of cd_end_of ct_end_of), sl_end_of⟩)
    (c_end_of : PySem.W.codeIn K cd_end_of "end_of" = true)
    (k_end_of : PySem.W.keepIn K (.ref f_end_of) = true)
    (a_token_at : PySem.W.nsIn K mainGlobals "token_at" = some (some (.ref f_token_at)))
    (l_token_at : K.lookup f_token_at = some ⟨oc_token_at, od_token_at, .func (PySem.W.fnOf "token_at" "token_at" (defArgs s_token_at) (defBody s_token_at) (defScope s_token_at) .none kV_token_at dc_token_at pm_token_at an_token_at cd_token_at ct_token_at), sl_token_at⟩)
    (c_token_at : PySem.W.codeIn K cd_token_at "token_at" = true)
    (k_token_at : PySem.W.keepIn K (.ref f_token_at) = true)
    (a_tokens_of : PySem.W.nsIn K mainGlobals "tokens_of" = some (some (.ref f_tokens_of)))
    (l_tokens_of : K.lookup f_tokens_of = some ⟨oc_tokens_of, od_tokens_of, .func (PySem.W.fnOf "tokens_of" "tokens_of" (defArgs s_tokens_of) (defBody s_tokens_of) (defScope s_tokens_of) .none kV_tokens_of dc_tokens_of pm_tokens_of an_tokens_of cd_tokens_of ct_tokens_of), sl_tokens_of⟩)
    (c_tokens_of : PySem.W.codeIn K cd_tokens_of "tokens_of" = true)
    (k_tokens_of : PySem.W.keepIn K (.ref f_tokens_of) = true)
    (a_joined : PySem.W.nsIn K mainGlobals "joined" = some (some (.ref f_joined)))
    (l_joined : K.lookup f_joined = some ⟨oc_joined, od_joined, .func (PySem.W.fnOf "joined" "joined" (defArgs s_joined) (defBody s_joined) (defScope s_joined) .none kV_joined dc_joined pm_joined an_joined cd_joined ct_joined), sl_joined⟩)
    (c_joined : PySem.W.codeIn K cd_joined "joined" = true)
    (k_joined : PySem.W.keepIn K (.ref f_joined) = true)
    (a_Syntax___init__ : PySem.W.findIn K (.ref C_Syntax) "__init__" = some (some (.ref f_Syntax___init__)))
    (i_Syntax___init__ : PySem.W.isFn K (.ref f_Syntax___init__) = true)
    (l_Syntax___init__ : K.lookup f_Syntax___init__ = some ⟨oc_Syntax___init__, od_Syntax___init__, .func (PySem.W.fnOf "__init__" "Syntax.__init__" (defArgs s_Syntax___init__) (defBody s_Syntax___init__) (defScope s_Syntax___init__) .none kV_Syntax___init__ dc_Syntax___init__ pm_Syntax___init__ an_Syntax___init__ cd_Syntax___init__ ct_Syntax___init__), sl_Syntax___init__⟩)
    (c_Syntax___init__ : PySem.W.codeIn K cd_Syntax___init__ "Syntax.__init__" = true)
    (k_Syntax___init__ : PySem.W.keepIn K (.ref f_Syntax___init__) = true)
    (mk_Syntax : PySem.W.makesIn K C_Syntax = true)
    (kc_Syntax : PySem.W.keepIn K (.ref C_Syntax) = true)
    (a_Syntax_kind : PySem.W.findIn K (.ref C_Syntax) "kind" = some (some (.ref f_Syntax_kind)))
    (i_Syntax_kind : PySem.W.isFn K (.ref f_Syntax_kind) = true)
    (l_Syntax_kind : K.lookup f_Syntax_kind = some ⟨oc_Syntax_kind, od_Syntax_kind, .func (PySem.W.fnOf "kind" "Syntax.kind" (defArgs s_Syntax_kind) (defBody s_Syntax_kind) (defScope s_Syntax_kind) (.ref D_Syntax_kind) kV_Syntax_kind dc_Syntax_kind pm_Syntax_kind an_Syntax_kind cd_Syntax_kind ct_Syntax_kind), sl_Syntax_kind⟩)
    (c_Syntax_kind : PySem.W.codeIn K cd_Syntax_kind "Syntax.kind" = true)
    (k_Syntax_kind : PySem.W.keepIn K (.ref f_Syntax_kind) = true)
    (h_Syntax_kind : K.lookup D_Syntax_kind = some ⟨dc2_Syntax_kind, dd_Syntax_kind, .seq #[.int 0 u_Syntax_kind_0] dn_Syntax_kind, ds_Syntax_kind⟩)
    (a_Syntax_take : PySem.W.findIn K (.ref C_Syntax) "take" = some (some (.ref f_Syntax_take)))
    (i_Syntax_take : PySem.W.isFn K (.ref f_Syntax_take) = true)
    (l_Syntax_take : K.lookup f_Syntax_take = some ⟨oc_Syntax_take, od_Syntax_take, .func (PySem.W.fnOf "take" "Syntax.take" (defArgs s_Syntax_take) (defBody s_Syntax_take) (defScope s_Syntax_take) .none kV_Syntax_take dc_Syntax_take pm_Syntax_take an_Syntax_take cd_Syntax_take ct_Syntax_take), sl_Syntax_take⟩)
    (c_Syntax_take : PySem.W.codeIn K cd_Syntax_take "Syntax.take" = true)
    (k_Syntax_take : PySem.W.keepIn K (.ref f_Syntax_take) = true)
    (a_Syntax_finish : PySem.W.findIn K (.ref C_Syntax) "finish" = some (some (.ref f_Syntax_finish)))
    (i_Syntax_finish : PySem.W.isFn K (.ref f_Syntax_finish) = true)
    (l_Syntax_finish : K.lookup f_Syntax_finish = some ⟨oc_Syntax_finish, od_Syntax_finish, .func (PySem.W.fnOf "finish" "Syntax.finish" (defArgs s_Syntax_finish) (defBody s_Syntax_finish) (defScope s_Syntax_finish) .none kV_Syntax_finish dc_Syntax_finish pm_Syntax_finish an_Syntax_finish cd_Syntax_finish ct_Syntax_finish), sl_Syntax_finish⟩)
    (c_Syntax_finish : PySem.W.codeIn K cd_Syntax_finish "Syntax.finish" = true)
    (k_Syntax_finish : PySem.W.keepIn K (.ref f_Syntax_finish) = true)
    (a_Syntax_sorts : PySem.W.findIn K (.ref C_Syntax) "sorts" = some (some (.ref f_Syntax_sorts)))
    (i_Syntax_sorts : PySem.W.isFn K (.ref f_Syntax_sorts) = true)
    (l_Syntax_sorts : K.lookup f_Syntax_sorts = some ⟨oc_Syntax_sorts, od_Syntax_sorts, .func (PySem.W.fnOf "sorts" "Syntax.sorts" (defArgs s_Syntax_sorts) (defBody s_Syntax_sorts) (defScope s_Syntax_sorts) .none kV_Syntax_sorts dc_Syntax_sorts pm_Syntax_sorts an_Syntax_sorts cd_Syntax_sorts ct_Syntax_sorts), sl_Syntax_sorts⟩)
    (c_Syntax_sorts : PySem.W.codeIn K cd_Syntax_sorts "Syntax.sorts" = true)
    (k_Syntax_sorts : PySem.W.keepIn K (.ref f_Syntax_sorts) = true)
    (a_Meaning___init__ : PySem.W.findIn K (.ref C_Meaning) "__init__" = some (some (.ref f_Meaning___init__)))
    (i_Meaning___init__ : PySem.W.isFn K (.ref f_Meaning___init__) = true)
    (l_Meaning___init__ : K.lookup f_Meaning___init__ = some ⟨oc_Meaning___init__, od_Meaning___init__, .func (PySem.W.fnOf "__init__" "Meaning.__init__" (defArgs s_Meaning___init__) (defBody s_Meaning___init__) (defScope s_Meaning___init__) .none kV_Meaning___init__ dc_Meaning___init__ pm_Meaning___init__ an_Meaning___init__ cd_Meaning___init__ ct_Meaning___init__), sl_Meaning___init__⟩)
    (c_Meaning___init__ : PySem.W.codeIn K cd_Meaning___init__ "Meaning.__init__" = true)
    (k_Meaning___init__ : PySem.W.keepIn K (.ref f_Meaning___init__) = true)
    (mk_Meaning : PySem.W.makesIn K C_Meaning = true)
    (kc_Meaning : PySem.W.keepIn K (.ref C_Meaning) = true)
    (a_Meaning_finish : PySem.W.findIn K (.ref C_Meaning) "finish" = some (some (.ref f_Meaning_finish)))
    (i_Meaning_finish : PySem.W.isFn K (.ref f_Meaning_finish) = true)
    (l_Meaning_finish : K.lookup f_Meaning_finish = some ⟨oc_Meaning_finish, od_Meaning_finish, .func (PySem.W.fnOf "finish" "Meaning.finish" (defArgs s_Meaning_finish) (defBody s_Meaning_finish) (defScope s_Meaning_finish) .none kV_Meaning_finish dc_Meaning_finish pm_Meaning_finish an_Meaning_finish cd_Meaning_finish ct_Meaning_finish), sl_Meaning_finish⟩)
    (c_Meaning_finish : PySem.W.codeIn K cd_Meaning_finish "Meaning.finish" = true)
    (k_Meaning_finish : PySem.W.keepIn K (.ref f_Meaning_finish) = true)
    (a_Meaning_look : PySem.W.findIn K (.ref C_Meaning) "look" = some (some (.ref f_Meaning_look)))
    (i_Meaning_look : PySem.W.isFn K (.ref f_Meaning_look) = true)
    (l_Meaning_look : K.lookup f_Meaning_look = some ⟨oc_Meaning_look, od_Meaning_look, .func (PySem.W.fnOf "look" "Meaning.look" (defArgs s_Meaning_look) (defBody s_Meaning_look) (defScope s_Meaning_look) .none kV_Meaning_look dc_Meaning_look pm_Meaning_look an_Meaning_look cd_Meaning_look ct_Meaning_look), sl_Meaning_look⟩)
    (c_Meaning_look : PySem.W.codeIn K cd_Meaning_look "Meaning.look" = true)
    (k_Meaning_look : PySem.W.keepIn K (.ref f_Meaning_look) = true)
    (a_Meaning_kind : PySem.W.findIn K (.ref C_Meaning) "kind" = some (some (.ref f_Meaning_kind)))
    (i_Meaning_kind : PySem.W.isFn K (.ref f_Meaning_kind) = true)
    (l_Meaning_kind : K.lookup f_Meaning_kind = some ⟨oc_Meaning_kind, od_Meaning_kind, .func (PySem.W.fnOf "kind" "Meaning.kind" (defArgs s_Meaning_kind) (defBody s_Meaning_kind) (defScope s_Meaning_kind) (.ref D_Meaning_kind) kV_Meaning_kind dc_Meaning_kind pm_Meaning_kind an_Meaning_kind cd_Meaning_kind ct_Meaning_kind), sl_Meaning_kind⟩)
    (c_Meaning_kind : PySem.W.codeIn K cd_Meaning_kind "Meaning.kind" = true)
    (k_Meaning_kind : PySem.W.keepIn K (.ref f_Meaning_kind) = true)
    (h_Meaning_kind : K.lookup D_Meaning_kind = some ⟨dc2_Meaning_kind, dd_Meaning_kind, .seq #[.bool false] dn_Meaning_kind, ds_Meaning_kind⟩)
    (a_in_brackets : PySem.W.nsIn K mainGlobals "in_brackets" = some (some (.ref f_in_brackets)))
    (l_in_brackets : K.lookup f_in_brackets = some ⟨oc_in_brackets, od_in_brackets, .func (PySem.W.fnOf "in_brackets" "in_brackets" (defArgs s_in_brackets) (defBody s_in_brackets) (defScope s_in_brackets) .none kV_in_brackets dc_in_brackets pm_in_brackets an_in_brackets cd_in_brackets ct_in_brackets), sl_in_brackets⟩)
    (c_in_brackets : PySem.W.codeIn K cd_in_brackets "in_brackets" = true)
    (k_in_brackets : PySem.W.keepIn K (.ref f_in_brackets) = true)
    (a_kind_words : PySem.W.nsIn K mainGlobals "kind_words" = some (some (.ref f_kind_words)))
    (l_kind_words : K.lookup f_kind_words = some ⟨oc_kind_words, od_kind_words, .func (PySem.W.fnOf "kind_words" "kind_words" (defArgs s_kind_words) (defBody s_kind_words) (defScope s_kind_words) .none kV_kind_words dc_kind_words pm_kind_words an_kind_words cd_kind_words ct_kind_words), sl_kind_words⟩)
    (c_kind_words : PySem.W.codeIn K cd_kind_words "kind_words" = true)
    (k_kind_words : PySem.W.keepIn K (.ref f_kind_words) = true)
    (a_read_type : PySem.W.nsIn K mainGlobals "read_type" = some (some (.ref f_read_type)))
    (l_read_type : K.lookup f_read_type = some ⟨oc_read_type, od_read_type, .func (PySem.W.fnOf "read_type" "read_type" (defArgs s_read_type) (defBody s_read_type) (defScope s_read_type) .none kV_read_type dc_read_type pm_read_type an_read_type cd_read_type ct_read_type), sl_read_type⟩)
    (c_read_type : PySem.W.codeIn K cd_read_type "read_type" = true)
    (k_read_type : PySem.W.keepIn K (.ref f_read_type) = true)
    (a_write_type : PySem.W.nsIn K mainGlobals "write_type" = some (some (.ref f_write_type)))
    (l_write_type : K.lookup f_write_type = some ⟨oc_write_type, od_write_type, .func (PySem.W.fnOf "write_type" "write_type" (defArgs s_write_type) (defBody s_write_type) (defScope s_write_type) .none kV_write_type dc_write_type pm_write_type an_write_type cd_write_type ct_write_type), sl_write_type⟩)
    (c_write_type : PySem.W.codeIn K cd_write_type "write_type" = true)
    (k_write_type : PySem.W.keepIn K (.ref f_write_type) = true)
    (a__law_start : PySem.W.nsIn K mainGlobals "_law_start" = some (some (.ref f__law_start)))
    (l__law_start : K.lookup f__law_start = some ⟨oc__law_start, od__law_start, .func (PySem.W.fnOf "_law_start" "_law_start" (defArgs s__law_start) (defBody s__law_start) (defScope s__law_start) .none kV__law_start dc__law_start pm__law_start an__law_start cd__law_start ct__law_start), sl__law_start⟩)
    (c__law_start : PySem.W.codeIn K cd__law_start "_law_start" = true)
    (k__law_start : PySem.W.keepIn K (.ref f__law_start) = true)
    (a__law_fill : PySem.W.nsIn K mainGlobals "_law_fill" = some (some (.ref f__law_fill)))
    (l__law_fill : K.lookup f__law_fill = some ⟨oc__law_fill, od__law_fill, .func (PySem.W.fnOf "_law_fill" "_law_fill" (defArgs s__law_fill) (defBody s__law_fill) (defScope s__law_fill) .none kV__law_fill dc__law_fill pm__law_fill an__law_fill cd__law_fill ct__law_fill), sl__law_fill⟩)
    (c__law_fill : PySem.W.codeIn K cd__law_fill "_law_fill" = true)
    (k__law_fill : PySem.W.keepIn K (.ref f__law_fill) = true)
    (a__law_take : PySem.W.nsIn K mainGlobals "_law_take" = some (some (.ref f__law_take)))
    (l__law_take : K.lookup f__law_take = some ⟨oc__law_take, od__law_take, .func (PySem.W.fnOf "_law_take" "_law_take" (defArgs s__law_take) (defBody s__law_take) (defScope s__law_take) .none kV__law_take dc__law_take pm__law_take an__law_take cd__law_take ct__law_take), sl__law_take⟩)
    (c__law_take : PySem.W.codeIn K cd__law_take "_law_take" = true)
    (k__law_take : PySem.W.keepIn K (.ref f__law_take) = true)
    (a__law_joined : PySem.W.nsIn K mainGlobals "_law_joined" = some (some (.ref f__law_joined)))
    (l__law_joined : K.lookup f__law_joined = some ⟨oc__law_joined, od__law_joined, .func (PySem.W.fnOf "_law_joined" "_law_joined" (defArgs s__law_joined) (defBody s__law_joined) (defScope s__law_joined) .none kV__law_joined dc__law_joined pm__law_joined an__law_joined cd__law_joined ct__law_joined), sl__law_joined⟩)
    (c__law_joined : PySem.W.codeIn K cd__law_joined "_law_joined" = true)
    (k__law_joined : PySem.W.keepIn K (.ref f__law_joined) = true)
    (a__law_scattered : PySem.W.nsIn K mainGlobals "_law_scattered" = some (some (.ref f__law_scattered)))
    (l__law_scattered : K.lookup f__law_scattered = some ⟨oc__law_scattered, od__law_scattered, .func (PySem.W.fnOf "_law_scattered" "_law_scattered" (defArgs s__law_scattered) (defBody s__law_scattered) (defScope s__law_scattered) .none kV__law_scattered dc__law_scattered pm__law_scattered an__law_scattered cd__law_scattered ct__law_scattered), sl__law_scattered⟩)
    (c__law_scattered : PySem.W.codeIn K cd__law_scattered "_law_scattered" = true)
    (k__law_scattered : PySem.W.keepIn K (.ref f__law_scattered) = true)
    (a__law_type_tokens : PySem.W.nsIn K mainGlobals "_law_type_tokens" = some (some (.ref f__law_type_tokens)))
    (l__law_type_tokens : K.lookup f__law_type_tokens = some ⟨oc__law_type_tokens, od__law_type_tokens, .func (PySem.W.fnOf "_law_type_tokens" "_law_type_tokens" (defArgs s__law_type_tokens) (defBody s__law_type_tokens) (defScope s__law_type_tokens) .none kV__law_type_tokens dc__law_type_tokens pm__law_type_tokens an__law_type_tokens cd__law_type_tokens ct__law_type_tokens), sl__law_type_tokens⟩)
    (c__law_type_tokens : PySem.W.codeIn K cd__law_type_tokens "_law_type_tokens" = true)
    (k__law_type_tokens : PySem.W.keepIn K (.ref f__law_type_tokens) = true)
    (a__law_reserved : PySem.W.nsIn K mainGlobals "_law_reserved" = some (some (.ref f__law_reserved)))
    (l__law_reserved : K.lookup f__law_reserved = some ⟨oc__law_reserved, od__law_reserved, .func (PySem.W.fnOf "_law_reserved" "_law_reserved" (defArgs s__law_reserved) (defBody s__law_reserved) (defScope s__law_reserved) .none kV__law_reserved dc__law_reserved pm__law_reserved an__law_reserved cd__law_reserved ct__law_reserved), sl__law_reserved⟩)
    (c__law_reserved : PySem.W.codeIn K cd__law_reserved "_law_reserved" = true)
    (k__law_reserved : PySem.W.keepIn K (.ref f__law_reserved) = true)
    (a__law_peek : PySem.W.nsIn K mainGlobals "_law_peek" = some (some (.ref f__law_peek)))
    (l__law_peek : K.lookup f__law_peek = some ⟨oc__law_peek, od__law_peek, .func (PySem.W.fnOf "_law_peek" "_law_peek" (defArgs s__law_peek) (defBody s__law_peek) (defScope s__law_peek) .none kV__law_peek dc__law_peek pm__law_peek an__law_peek cd__law_peek ct__law_peek), sl__law_peek⟩)
    (c__law_peek : PySem.W.codeIn K cd__law_peek "_law_peek" = true)
    (k__law_peek : PySem.W.keepIn K (.ref f__law_peek) = true)
    (a__law_is_word : PySem.W.nsIn K mainGlobals "_law_is_word" = some (some (.ref f__law_is_word)))
    (l__law_is_word : K.lookup f__law_is_word = some ⟨oc__law_is_word, od__law_is_word, .func (PySem.W.fnOf "_law_is_word" "_law_is_word" (defArgs s__law_is_word) (defBody s__law_is_word) (defScope s__law_is_word) .none kV__law_is_word dc__law_is_word pm__law_is_word an__law_is_word cd__law_is_word ct__law_is_word), sl__law_is_word⟩)
    (c__law_is_word : PySem.W.codeIn K cd__law_is_word "_law_is_word" = true)
    (k__law_is_word : PySem.W.keepIn K (.ref f__law_is_word) = true)
    (a__law_stop : PySem.W.nsIn K mainGlobals "_law_stop" = some (some (.ref f__law_stop)))
    (l__law_stop : K.lookup f__law_stop = some ⟨oc__law_stop, od__law_stop, .func (PySem.W.fnOf "_law_stop" "_law_stop" (defArgs s__law_stop) (defBody s__law_stop) (defScope s__law_stop) .none kV__law_stop dc__law_stop pm__law_stop an__law_stop cd__law_stop ct__law_stop), sl__law_stop⟩)
    (c__law_stop : PySem.W.codeIn K cd__law_stop "_law_stop" = true)
    (k__law_stop : PySem.W.keepIn K (.ref f__law_stop) = true)
    (a__law_sign : PySem.W.nsIn K mainGlobals "_law_sign" = some (some (.ref f__law_sign)))
    (l__law_sign : K.lookup f__law_sign = some ⟨oc__law_sign, od__law_sign, .func (PySem.W.fnOf "_law_sign" "_law_sign" (defArgs s__law_sign) (defBody s__law_sign) (defScope s__law_sign) .none kV__law_sign dc__law_sign pm__law_sign an__law_sign cd__law_sign ct__law_sign), sl__law_sign⟩)
    (c__law_sign : PySem.W.codeIn K cd__law_sign "_law_sign" = true)
    (k__law_sign : PySem.W.keepIn K (.ref f__law_sign) = true)
    (a__law_word : PySem.W.nsIn K mainGlobals "_law_word" = some (some (.ref f__law_word)))
    (l__law_word : K.lookup f__law_word = some ⟨oc__law_word, od__law_word, .func (PySem.W.fnOf "_law_word" "_law_word" (defArgs s__law_word) (defBody s__law_word) (defScope s__law_word) .none kV__law_word dc__law_word pm__law_word an__law_word cd__law_word ct__law_word), sl__law_word⟩)
    (c__law_word : PySem.W.codeIn K cd__law_word "_law_word" = true)
    (k__law_word : PySem.W.keepIn K (.ref f__law_word) = true)
    (a__law_read_type : PySem.W.nsIn K mainGlobals "_law_read_type" = some (some (.ref f__law_read_type)))
    (l__law_read_type : K.lookup f__law_read_type = some ⟨oc__law_read_type, od__law_read_type, .func (PySem.W.fnOf "_law_read_type" "_law_read_type" (defArgs s__law_read_type) (defBody s__law_read_type) (defScope s__law_read_type) .none kV__law_read_type dc__law_read_type pm__law_read_type an__law_read_type cd__law_read_type ct__law_read_type), sl__law_read_type⟩)
    (c__law_read_type : PySem.W.codeIn K cd__law_read_type "_law_read_type" = true)
    (k__law_read_type : PySem.W.keepIn K (.ref f__law_read_type) = true)
    (a__law_wrong : PySem.W.nsIn K mainGlobals "_law_wrong" = some (some (.ref f__law_wrong)))
    (l__law_wrong : K.lookup f__law_wrong = some ⟨oc__law_wrong, od__law_wrong, .func (PySem.W.fnOf "_law_wrong" "_law_wrong" (defArgs s__law_wrong) (defBody s__law_wrong) (defScope s__law_wrong) .none kV__law_wrong dc__law_wrong pm__law_wrong an__law_wrong cd__law_wrong ct__law_wrong), sl__law_wrong⟩)
    (c__law_wrong : PySem.W.codeIn K cd__law_wrong "_law_wrong" = true)
    (k__law_wrong : PySem.W.keepIn K (.ref f__law_wrong) = true)
    (a__law_long_word : PySem.W.nsIn K mainGlobals "_law_long_word" = some (some (.ref f__law_long_word)))
    (l__law_long_word : K.lookup f__law_long_word = some ⟨oc__law_long_word, od__law_long_word, .func (PySem.W.fnOf "_law_long_word" "_law_long_word" (defArgs s__law_long_word) (defBody s__law_long_word) (defScope s__law_long_word) .none kV__law_long_word dc__law_long_word pm__law_long_word an__law_long_word cd__law_long_word ct__law_long_word), sl__law_long_word⟩)
    (c__law_long_word : PySem.W.codeIn K cd__law_long_word "_law_long_word" = true)
    (k__law_long_word : PySem.W.keepIn K (.ref f__law_long_word) = true)
    (a__law_kind_of : PySem.W.nsIn K mainGlobals "_law_kind_of" = some (some (.ref f__law_kind_of)))
    (l__law_kind_of : K.lookup f__law_kind_of = some ⟨oc__law_kind_of, od__law_kind_of, .func (PySem.W.fnOf "_law_kind_of" "_law_kind_of" (defArgs s__law_kind_of) (defBody s__law_kind_of) (defScope s__law_kind_of) .none kV__law_kind_of dc__law_kind_of pm__law_kind_of an__law_kind_of cd__law_kind_of ct__law_kind_of), sl__law_kind_of⟩)
    (c__law_kind_of : PySem.W.codeIn K cd__law_kind_of "_law_kind_of" = true)
    (k__law_kind_of : PySem.W.keepIn K (.ref f__law_kind_of) = true)
    (a__law_spoilt_tokens : PySem.W.nsIn K mainGlobals "_law_spoilt_tokens" = some (some (.ref f__law_spoilt_tokens)))
    (l__law_spoilt_tokens : K.lookup f__law_spoilt_tokens = some ⟨oc__law_spoilt_tokens, od__law_spoilt_tokens, .func (PySem.W.fnOf "_law_spoilt_tokens" "_law_spoilt_tokens" (defArgs s__law_spoilt_tokens) (defBody s__law_spoilt_tokens) (defScope s__law_spoilt_tokens) .none kV__law_spoilt_tokens dc__law_spoilt_tokens pm__law_spoilt_tokens an__law_spoilt_tokens cd__law_spoilt_tokens ct__law_spoilt_tokens), sl__law_spoilt_tokens⟩)
    (c__law_spoilt_tokens : PySem.W.codeIn K cd__law_spoilt_tokens "_law_spoilt_tokens" = true)
    (k__law_spoilt_tokens : PySem.W.keepIn K (.ref f__law_spoilt_tokens) = true)
    (a__law_spaced : PySem.W.nsIn K mainGlobals "_law_spaced" = some (some (.ref f__law_spaced)))
    (l__law_spaced : K.lookup f__law_spaced = some ⟨oc__law_spaced, od__law_spaced, .func (PySem.W.fnOf "_law_spaced" "_law_spaced" (defArgs s__law_spaced) (defBody s__law_spaced) (defScope s__law_spaced) .none kV__law_spaced dc__law_spaced pm__law_spaced an__law_spaced cd__law_spaced ct__law_spaced), sl__law_spaced⟩)
    (c__law_spaced : PySem.W.codeIn K cd__law_spaced "_law_spaced" = true)
    (k__law_spaced : PySem.W.keepIn K (.ref f__law_spaced) = true)
    (a__law_loose_type : PySem.W.nsIn K mainGlobals "_law_loose_type" = some (some (.ref f__law_loose_type)))
    (l__law_loose_type : K.lookup f__law_loose_type = some ⟨oc__law_loose_type, od__law_loose_type, .func (PySem.W.fnOf "_law_loose_type" "_law_loose_type" (defArgs s__law_loose_type) (defBody s__law_loose_type) (defScope s__law_loose_type) .none kV__law_loose_type dc__law_loose_type pm__law_loose_type an__law_loose_type cd__law_loose_type ct__law_loose_type), sl__law_loose_type⟩)
    (c__law_loose_type : PySem.W.codeIn K cd__law_loose_type "_law_loose_type" = true)
    (k__law_loose_type : PySem.W.keepIn K (.ref f__law_loose_type) = true)
    (a__law_any_type : PySem.W.nsIn K mainGlobals "_law_any_type" = some (some (.ref f__law_any_type)))
    (l__law_any_type : K.lookup f__law_any_type = some ⟨oc__law_any_type, od__law_any_type, .func (PySem.W.fnOf "_law_any_type" "_law_any_type" (defArgs s__law_any_type) (defBody s__law_any_type) (defScope s__law_any_type) .none kV__law_any_type dc__law_any_type pm__law_any_type an__law_any_type cd__law_any_type ct__law_any_type), sl__law_any_type⟩)
    (c__law_any_type : PySem.W.codeIn K cd__law_any_type "_law_any_type" = true)
    (k__law_any_type : PySem.W.keepIn K (.ref f__law_any_type) = true)
    (a__law_type_due : PySem.W.nsIn K mainGlobals "_law_type_due" = some (some (.ref f__law_type_due)))
    (l__law_type_due : K.lookup f__law_type_due = some ⟨oc__law_type_due, od__law_type_due, .func (PySem.W.fnOf "_law_type_due" "_law_type_due" (defArgs s__law_type_due) (defBody s__law_type_due) (defScope s__law_type_due) .none kV__law_type_due dc__law_type_due pm__law_type_due an__law_type_due cd__law_type_due ct__law_type_due), sl__law_type_due⟩)
    (c__law_type_due : PySem.W.codeIn K cd__law_type_due "_law_type_due" = true)
    (k__law_type_due : PySem.W.keepIn K (.ref f__law_type_due) = true)
    (a__law_type_told : PySem.W.nsIn K mainGlobals "_law_type_told" = some (some (.ref f__law_type_told)))
    (l__law_type_told : K.lookup f__law_type_told = some ⟨oc__law_type_told, od__law_type_told, .func (PySem.W.fnOf "_law_type_told" "_law_type_told" (defArgs s__law_type_told) (defBody s__law_type_told) (defScope s__law_type_told) .none kV__law_type_told dc__law_type_told pm__law_type_told an__law_type_told cd__law_type_told ct__law_type_told), sl__law_type_told⟩)
    (c__law_type_told : PySem.W.codeIn K cd__law_type_told "_law_type_told" = true)
    (k__law_type_told : PySem.W.keepIn K (.ref f__law_type_told) = true)
    (a_law : PySem.W.nsIn K mainGlobals "law" = some (some (.ref f_law)))
    (l_law : K.lookup f_law = some ⟨oc_law, od_law, .func (PySem.W.fnOf "law" "law" (defArgs s_law) (defBody s_law) (defScope s_law) .none kV_law dc_law pm_law an_law cd_law ct_law), sl_law⟩)
    (c_law : PySem.W.codeIn K cd_law "law" = true)
    (k_law : PySem.W.keepIn K (.ref f_law) = true)
    (x_TextError : K.lookup C_TextError = some (PySem.excClassObj nm_TextError q_TextError C_TextError N_TextError bs_TextError [.ref L_TextError, .type "ValueError", .type "Exception", .type "BaseException", .type "object"] true sn_TextError sub_TextError ab_TextError col_TextError dd_TextError m0_TextError m1_TextError m2_TextError m3_TextError m5_TextError "ValueError.__new__"))
    (sa_TextError : PySem.W.findIn K (.ref C_TextError) "__setattr__" = some (some (.builtin "object.__setattr__")))
    (ga_TextError : PySem.W.findIn K (.ref C_TextError) "__getattribute__" = some (some (.builtin "BaseException.__getattribute__")))
    (gg_TextError : PySem.W.findIn K (.ref C_TextError) "__getattr__" = some none)
    (nb_TextError : PySem.W.findIn K (.ref C_TextError) "at" = some none)
    (kc_TextError : PySem.W.keepIn K (.ref C_TextError) = true)
    (eb_TextError : PySem.W.subIn K (.ref C_TextError) (.type "BaseException") = some true)
    (ev_TextError : PySem.W.subIn K (.ref C_TextError) (.type "ValueError") = some true)
    (ty_TextError : PySem.W.typeIn K (.ref C_TextError) = some (.type "type"))
    (se_TextError : PySem.W.mroIn K C_TextError (.ref C_TextError) = some true)
    (ss_TextError : PySem.W.subIn K (.ref C_TextError) (.ref C_TextError) = some true)
    (hd_TextError : PySem.W.hasDictIn K C_TextError = true)
    (ic_TextError : PySem.W.isClsIn K C_TextError = true)
    (tp_TextError : PySem.W.nsIn K PySem.cStatics "thirdparty.any" = some none)
    (su_TextError : PySem.W.ks_superIn K C_TextError C_TextError "__init__" = some (some (.builtin "ValueError.__init__")))
    (zs_TextError : PySem.W.nsIn K mainGlobals "super" = some none)
    (zt_TextError : PySem.W.nsIn K mainGlobals "str" = some none)
    (ini_TextError : PySem.W.findIn K (.ref C_TextError) "__init__" = some (some (.ref f_TextError)))
    (ti_TextError : PySem.W.typeIn K (.ref f_TextError) = some (.type "function"))
    (l_TextError : K.lookup f_TextError = some ⟨oc_TextError, od_TextError, .func (PySem.W.ksFn "__init__" "TextError.__init__" (defArgs s_TextError) (defBody s_TextError) (defScope s_TextError) .none kV_TextError dc_TextError pm_TextError an_TextError (.ref cda_TextError) ct_TextError cc_TextError), sl_TextError⟩)
    (co_TextError : PySem.W.codeIn K (.ref cda_TextError) "TextError.__init__" = true)
    (lc_TextError : K.lookup cda_TextError = some ⟨ccl_TextError, cdd_TextError, .fields vs_TextError, ccs_TextError⟩)
    (vf_TextError : vs_TextError[2]? = some (.str file_TextError tf_TextError))
    (fi_TextError : ((P.main.file : Str) == file_TextError) = true)
    (ce_TextError : K.lookup cc_TextError = some ⟨cl_TextError, cld_TextError, .cell (some (.ref C_TextError)), csl_TextError⟩)
    (ht_TextError : (P.main.scope.names.lookup ("super" : Str)).isSome = false) :
    Txt P K mg (mkC C_Syntax C_Meaning C_TextError) :=
  { z_all := PySem.W.mg_none_of X G z_all,
    z_dict := PySem.W.mg_none_of X G z_dict,
    z_enumerate := PySem.W.mg_none_of X G z_enumerate,
    z_int := PySem.W.mg_none_of X G z_int,
    z_isinstance := PySem.W.mg_none_of X G z_isinstance,
    z_len := PySem.W.mg_none_of X G z_len,
    z_min := PySem.W.mg_none_of X G z_min,
    z_range := PySem.W.mg_none_of X G z_range,
    z_tuple := PySem.W.mg_none_of X G z_tuple,
    g_DIGITS := ⟨_, PySem.W.mg_of X G g_DIGITS⟩,
    g_LETTERS := ⟨_, PySem.W.mg_of X G g_LETTERS⟩,
    g_RESERVED := ⟨_, PySem.W.mg_of X G g_RESERVED, _, #[.str "con" t_RESERVED_0, .str "rule" t_RESERVED_1, .str "ask" t_RESERVED_2, .str "if" t_RESERVED_3, .str "true" t_RESERVED_4, .str "some" t_RESERVED_5, .str "all" t_RESERVED_6, .str "given" t_RESERVED_7, .str "same" t_RESERVED_8, .str "match" t_RESERVED_9, .str "steps" t_RESERVED_10, .str "many" t_RESERVED_11, .str "height" t_RESERVED_12], n_RESERVED, h_RESERVED, rfl, rfl, rfl, (by show 13 ≤ sizeLine; decide), vals_strs (its := [.str "con" t_RESERVED_0, .str "rule" t_RESERVED_1, .str "ask" t_RESERVED_2, .str "if" t_RESERVED_3, .str "true" t_RESERVED_4, .str "some" t_RESERVED_5, .str "all" t_RESERVED_6, .str "given" t_RESERVED_7, .str "same" t_RESERVED_8, .str "match" t_RESERVED_9, .str "steps" t_RESERVED_10, .str "many" t_RESERVED_11, .str "height" t_RESERVED_12]) (.cons ⟨_, rfl⟩ (.cons ⟨_, rfl⟩ (.cons ⟨_, rfl⟩ (.cons ⟨_, rfl⟩ (.cons ⟨_, rfl⟩ (.cons ⟨_, rfl⟩ (.cons ⟨_, rfl⟩ (.cons ⟨_, rfl⟩ (.cons ⟨_, rfl⟩ (.cons ⟨_, rfl⟩ (.cons ⟨_, rfl⟩ (.cons ⟨_, rfl⟩ (.cons ⟨_, rfl⟩ .nil)))))))))))))⟩,
    g_SIGNS := ⟨_, PySem.W.mg_of X G g_SIGNS⟩,
    m_Meaning := PySem.W.mg_of X G a_Meaning,
    m_Syntax := PySem.W.mg_of X G a_Syntax,
    m_TextError := PySem.W.mg_of X G a_TextError,
    k_Meaning := ⟨pg_Meaning, hd_Meaning, po_Meaning, sa_Meaning⟩,
    k_Syntax := ⟨pg_Syntax, hd_Syntax, po_Syntax, sa_Syntax⟩,
    n_Meaning_constants := n_Meaning_constants,
    n_Meaning_holes := n_Meaning_holes,
    n_Meaning_wrong := n_Meaning_wrong,
    n_Syntax_at := n_Syntax_at,
    n_Syntax_tokens := n_Syntax_tokens,
    d_end_of := ⟨_, _, fun_mk (st := s_end_of) l_end_of c_end_of k_end_of, PySem.W.mg_of X G a_end_of⟩,
    d_token_at := ⟨_, _, fun_mk (st := s_token_at) l_token_at c_token_at k_token_at, PySem.W.mg_of X G a_token_at⟩,
    d_tokens_of := ⟨_, _, fun_mk (st := s_tokens_of) l_tokens_of c_tokens_of k_tokens_of, PySem.W.mg_of X G a_tokens_of⟩,
    d_joined := ⟨_, _, fun_mk (st := s_joined) l_joined c_joined k_joined, PySem.W.mg_of X G a_joined⟩,
    d_Syntax___init__ := ⟨_, _, fun_mk (st := s_Syntax___init__) l_Syntax___init__ c_Syntax___init__ k_Syntax___init__, ⟨mk_Syntax, a_Syntax___init__, i_Syntax___init__, kc_Syntax⟩⟩,
    d_Syntax_kind := ⟨_, _, ⟨⟨_, _, _, _, _, _, _, _, _, _, rfl, l_Syntax_kind, c_Syntax_kind, .inr ⟨by simp, _, _, [.int 0 u_Syntax_kind_0], _, rfl, h_Syntax_kind, rfl, (.cons ⟨_, rfl⟩ .nil)⟩, .inl rfl⟩, k_Syntax_kind⟩, ⟨a_Syntax_kind, i_Syntax_kind, k_Syntax_kind⟩⟩,
    d_Syntax_take := ⟨_, _, fun_mk (st := s_Syntax_take) l_Syntax_take c_Syntax_take k_Syntax_take, ⟨a_Syntax_take, i_Syntax_take, k_Syntax_take⟩⟩,
    d_Syntax_finish := ⟨_, _, fun_mk (st := s_Syntax_finish) l_Syntax_finish c_Syntax_finish k_Syntax_finish, ⟨a_Syntax_finish, i_Syntax_finish, k_Syntax_finish⟩⟩,
    d_Syntax_sorts := ⟨_, _, fun_mk (st := s_Syntax_sorts) l_Syntax_sorts c_Syntax_sorts k_Syntax_sorts, ⟨a_Syntax_sorts, i_Syntax_sorts, k_Syntax_sorts⟩⟩,
    d_Meaning___init__ := ⟨_, _, fun_mk (st := s_Meaning___init__) l_Meaning___init__ c_Meaning___init__ k_Meaning___init__, ⟨mk_Meaning, a_Meaning___init__, i_Meaning___init__, kc_Meaning⟩⟩,
    d_Meaning_finish := ⟨_, _, fun_mk (st := s_Meaning_finish) l_Meaning_finish c_Meaning_finish k_Meaning_finish, ⟨a_Meaning_finish, i_Meaning_finish, k_Meaning_finish⟩⟩,
    d_Meaning_look := ⟨_, _, fun_mk (st := s_Meaning_look) l_Meaning_look c_Meaning_look k_Meaning_look, ⟨a_Meaning_look, i_Meaning_look, k_Meaning_look⟩⟩,
    d_Meaning_kind := ⟨_, _, ⟨⟨_, _, _, _, _, _, _, _, _, _, rfl, l_Meaning_kind, c_Meaning_kind, .inr ⟨by simp, _, _, [.bool false], _, rfl, h_Meaning_kind, rfl, (.cons rfl .nil)⟩, .inl rfl⟩, k_Meaning_kind⟩, ⟨a_Meaning_kind, i_Meaning_kind, k_Meaning_kind⟩⟩,
    d_in_brackets := ⟨_, _, fun_mk (st := s_in_brackets) l_in_brackets c_in_brackets k_in_brackets, PySem.W.mg_of X G a_in_brackets⟩,
    d_kind_words := ⟨_, _, fun_mk (st := s_kind_words) l_kind_words c_kind_words k_kind_words, PySem.W.mg_of X G a_kind_words⟩,
    d_read_type := ⟨_, _, fun_mk (st := s_read_type) l_read_type c_read_type k_read_type, PySem.W.mg_of X G a_read_type⟩,
    d_write_type := ⟨_, _, fun_mk (st := s_write_type) l_write_type c_write_type k_write_type, PySem.W.mg_of X G a_write_type⟩,
    d__law_start := ⟨_, _, fun_mk (st := s__law_start) l__law_start c__law_start k__law_start, PySem.W.mg_of X G a__law_start⟩,
    d__law_fill := ⟨_, _, fun_mk (st := s__law_fill) l__law_fill c__law_fill k__law_fill, PySem.W.mg_of X G a__law_fill⟩,
    d__law_take := ⟨_, _, fun_mk (st := s__law_take) l__law_take c__law_take k__law_take, PySem.W.mg_of X G a__law_take⟩,
    d__law_joined := ⟨_, _, fun_mk (st := s__law_joined) l__law_joined c__law_joined k__law_joined, PySem.W.mg_of X G a__law_joined⟩,
    d__law_scattered := ⟨_, _, fun_mk (st := s__law_scattered) l__law_scattered c__law_scattered k__law_scattered, PySem.W.mg_of X G a__law_scattered⟩,
    d__law_type_tokens := ⟨_, _, fun_mk (st := s__law_type_tokens) l__law_type_tokens c__law_type_tokens k__law_type_tokens, PySem.W.mg_of X G a__law_type_tokens⟩,
    d__law_reserved := ⟨_, _, fun_mk (st := s__law_reserved) l__law_reserved c__law_reserved k__law_reserved, PySem.W.mg_of X G a__law_reserved⟩,
    d__law_peek := ⟨_, _, fun_mk (st := s__law_peek) l__law_peek c__law_peek k__law_peek, PySem.W.mg_of X G a__law_peek⟩,
    d__law_is_word := ⟨_, _, fun_mk (st := s__law_is_word) l__law_is_word c__law_is_word k__law_is_word, PySem.W.mg_of X G a__law_is_word⟩,
    d__law_stop := ⟨_, _, fun_mk (st := s__law_stop) l__law_stop c__law_stop k__law_stop, PySem.W.mg_of X G a__law_stop⟩,
    d__law_sign := ⟨_, _, fun_mk (st := s__law_sign) l__law_sign c__law_sign k__law_sign, PySem.W.mg_of X G a__law_sign⟩,
    d__law_word := ⟨_, _, fun_mk (st := s__law_word) l__law_word c__law_word k__law_word, PySem.W.mg_of X G a__law_word⟩,
    d__law_read_type := ⟨_, _, fun_mk (st := s__law_read_type) l__law_read_type c__law_read_type k__law_read_type, PySem.W.mg_of X G a__law_read_type⟩,
    d__law_wrong := ⟨_, _, fun_mk (st := s__law_wrong) l__law_wrong c__law_wrong k__law_wrong, PySem.W.mg_of X G a__law_wrong⟩,
    d__law_long_word := ⟨_, _, fun_mk (st := s__law_long_word) l__law_long_word c__law_long_word k__law_long_word, PySem.W.mg_of X G a__law_long_word⟩,
    d__law_kind_of := ⟨_, _, fun_mk (st := s__law_kind_of) l__law_kind_of c__law_kind_of k__law_kind_of, PySem.W.mg_of X G a__law_kind_of⟩,
    d__law_spoilt_tokens := ⟨_, _, fun_mk (st := s__law_spoilt_tokens) l__law_spoilt_tokens c__law_spoilt_tokens k__law_spoilt_tokens, PySem.W.mg_of X G a__law_spoilt_tokens⟩,
    d__law_spaced := ⟨_, _, fun_mk (st := s__law_spaced) l__law_spaced c__law_spaced k__law_spaced, PySem.W.mg_of X G a__law_spaced⟩,
    d__law_loose_type := ⟨_, _, fun_mk (st := s__law_loose_type) l__law_loose_type c__law_loose_type k__law_loose_type, PySem.W.mg_of X G a__law_loose_type⟩,
    d__law_any_type := ⟨_, _, fun_mk (st := s__law_any_type) l__law_any_type c__law_any_type k__law_any_type, PySem.W.mg_of X G a__law_any_type⟩,
    d__law_type_due := ⟨_, _, fun_mk (st := s__law_type_due) l__law_type_due c__law_type_due k__law_type_due, PySem.W.mg_of X G a__law_type_due⟩,
    d__law_type_told := ⟨_, _, fun_mk (st := s__law_type_told) l__law_type_told c__law_type_told k__law_type_told, PySem.W.mg_of X G a__law_type_told⟩,
    d_law := ⟨_, _, fun_mk (st := s_law) l_law c_law k_law, PySem.W.mg_of X G a_law⟩,
    fl_TextError := rfl,
    te_TextError := { gC := PySem.W.mg_of X G a_TextError, sup := PySem.W.mg_none_of X G zs_TextError, st := PySem.W.mg_none_of X G zt_TextError, cls := ⟨nm_TextError, q_TextError, N_TextError, bs_TextError, _, sn_TextError, sub_TextError, ab_TextError, col_TextError, dd_TextError, m0_TextError, m1_TextError, m2_TextError, m3_TextError, m5_TextError, x_TextError, rfl⟩, sa := sa_TextError, noN := nb_TextError, kC := kc_TextError, exC := eb_TextError, veC := ev_TextError, tyC := ty_TextError, selfC := se_TextError, tp := tp_TextError, supC := su_TextError, htop := ht_TextError, ex := ⟨f_TextError, cc_TextError, cda_TextError, oc_TextError, od_TextError, kV_TextError, dc_TextError, pm_TextError, an_TextError, ct_TextError, sl_TextError, _, _, _, _, _, _, _, _, _, _, _, _, _, _, _, _, ccl_TextError, cl_TextError, cdd_TextError, cld_TextError, vs_TextError, ccs_TextError, csl_TextError, tf_TextError, file_TextError, ini_TextError, ti_TextError, l_TextError, co_TextError, lc_TextError, vf_TextError, fi_TextError, ce_TextError, ⟨_, fun _ => rfl⟩, fun _ => rfl, fun _ => rfl⟩ },
    ex_TextError := exm_selfZ eb_TextError ic_TextError ty_TextError ss_TextError,
    xf_TextError := ⟨ga_TextError, gg_TextError, eb_TextError, hd_TextError⟩,
    no_TextError := nb_TextError }
end K70
set_option Elab.async false
set_option maxRecDepth 100000
set_option maxHeartbeats 0
namespace K70
open PySem PySem.W PyProof.Rows
open_top head for PySem.Challenge.rw_lacuna_k70_types_in_texts
end K70
set_option Elab.async false
set_option linter.all false
set_option maxRecDepth 100000
/-! Y1: running the mirrors. -/
namespace Z
open PySem L2
section
variable {α β : Type}
theorem mo_bind (m : Mo α) (k : α → Mo β) (fr : List Sl) (S : List Ob) : (m >>= k) fr S = Rs.bind (m fr S) k := rfl
theorem mo_pure (a : α) (fr : List Sl) (S : List Ob) : (pure a : Mo α) fr S = .ok a fr S := rfl
theorem bind_ok (a : α) (fr : List Sl) (S : List Ob) (k : α → Mo β) : Rs.bind (.ok a fr S) k = k a fr S := rfl
theorem bind_exc (x : Ex) (fr : List Sl) (S : List Ob) (k : α → Mo β) : Rs.bind (.exc x fr S) k = .exc x fr S := rfl
theorem bind_stuck (k : α → Mo β) : Rs.bind (.stuck : Rs α) k = .stuck := rfl
end
theorem ixN_nat {n i : Nat} (h : i < n) : ixN n (i : Int) = some i := by
  unfold ixN
  rw [if_pos (by omega), if_pos (by omega)]
  rfl
theorem atI_natZ {α : Type} (xs : List α) (i : Nat) : atI xs (i : Int) = xs[i]? := by
  unfold atI
  by_cases h : i < xs.length
  · rw [ixN_nat h]; rfl
  · unfold ixN
    rw [if_pos (by omega), if_neg (by omega), List.getElem?_eq_none (by omega)]; rfl
theorem atI_0 {α : Type} (a : α) (l : List α) : atI (a :: l) 0 = some a := (atI_natZ (a :: l) 0)
theorem atI_1 {α : Type} (a b : α) (l : List α) : atI (a :: b :: l) 1 = some b := (atI_natZ (a :: b :: l) 1)
theorem atI_2 {α : Type} (a b c : α) (l : List α) : atI (a :: b :: c :: l) 2 = some c := (atI_natZ (a :: b :: c :: l) 2)
theorem atI_3 {α : Type} (a b c d : α) (l : List α) : atI (a :: b :: c :: d :: l) 3 = some d := (atI_natZ (a :: b :: c :: d :: l) 3)
theorem atI_4 {α : Type} (a b c d e : α) (l : List α) : atI (a :: b :: c :: d :: e :: l) 4 = some e := (atI_natZ (a :: b :: c :: d :: e :: l) 4)
theorem ixN_0 {n : Nat} : ixN (n + 1) 0 = some 0 := ixN_nat (i := 0) (by omega)
theorem ixN_1 {n : Nat} : ixN (n + 2) 1 = some 1 := ixN_nat (i := 1) (by omega)
theorem ixN_2 {n : Nat} : ixN (n + 3) 2 = some 2 := ixN_nat (i := 2) (by omega)
theorem ixN_3 {n : Nat} : ixN (n + 4) 3 = some 3 := ixN_nat (i := 3) (by omega)
theorem ixNc_0 {α : Type} (a : α) (l : List α) : ixN (a :: l).length 0 = some 0 := ixN_nat (i := 0) (by simp)
theorem ixNc_1 {α : Type} (a b : α) (l : List α) : ixN (a :: b :: l).length 1 = some 1 := ixN_nat (i := 1) (by simp)
theorem ixNc_2 {α : Type} (a b c : α) (l : List α) : ixN (a :: b :: c :: l).length 2 = some 2 := ixN_nat (i := 2) (by simp)
theorem ixNc_3 {α : Type} (a b c d : α) (l : List α) : ixN (a :: b :: c :: d :: l).length 3 = some 3 := ixN_nat (i := 3) (by simp)
end Z
namespace K70
open PySem L2 Z
/-- the reader's state at r -/
abbrev RS (ts : List Str) (p q : Int) : Ob := .lst [.lst (ts.map .str), .int p, .int q]
theorem peek_ok {fu rk r : Nat} {S : List Ob} {ts : List Str} {p : Nat} {q : Int} (h : S[r]? = some (RS ts p q)) : F__law_peek fu rk [.ptr r] S = .ok (.d (.str (ts.getD p ""))) S := by
  unfold F__law_peek M__law_peek
  by_cases hp : p < ts.length
  · have e : decide ((p : Int) < (ts.length : Int)) = true := by simpa using hp
    simp only [atI_0, atI_1, atI_2, atI_3, atI_4, atI_natZ, ixNc_0, ixNc_1, ixNc_2, ixNc_3, mo_bind, mo_pure, bind_ok, bind_exc, bind_stuck, Z.getV, Z.putV, Z.putOwn, Z.putBox, Z.rdOwn, Z.ownAt, Z.seqM, Z.asgM, Z.ifM, Z.andM, Z.orM, Z.notM, Z.asB, Z.bin2, Z.un1, Z.ofO, Z.ofS, Z.ixM, Z.blt1M, Z.blt1O, Z.deref, Z.slM, Z.slMU, Z.partM, Z.tupM, Z.lstM, Z.catM, Z.argsM, Z.callM, Z.callMU, Z.callF, Z.callU, Z.truM, Z.setIxM, Z.putIx, Z.augM, Z.fin, Z.fr0, Z.funM, Z.lenD, Z.ltD, Z.leD, Z.gtD, Z.geD, Z.iiD, Z.iiC, Z.subD, Z.intD, ixS, List.getElem?_map, List.length_map, List.getElem?_cons_zero, List.getElem?_cons_succ, List.set_cons_zero, List.set_cons_succ, List.map_cons, List.map_nil, List.cons_append, List.nil_append, List.append_nil, List.replicate_succ, List.replicate_zero, if_true, if_false, Bool.false_eq_true, Option.bind_some, Option.map_some, Option.bind_none, Option.map_none, Bool.not_true, Bool.not_false, h, e]
    have e2 : ts[p]? = some ts[p] := List.getElem?_eq_getElem hp
    simp only [atI_0, atI_1, atI_2, atI_3, atI_4, atI_natZ, ixNc_0, ixNc_1, ixNc_2, ixNc_3, mo_bind, mo_pure, bind_ok, bind_exc, bind_stuck, Z.getV, Z.putV, Z.putOwn, Z.putBox, Z.rdOwn, Z.ownAt, Z.seqM, Z.asgM, Z.ifM, Z.andM, Z.orM, Z.notM, Z.asB, Z.bin2, Z.un1, Z.ofO, Z.ofS, Z.ixM, Z.blt1M, Z.blt1O, Z.deref, Z.slM, Z.slMU, Z.partM, Z.tupM, Z.lstM, Z.catM, Z.argsM, Z.callM, Z.callMU, Z.callF, Z.callU, Z.truM, Z.setIxM, Z.putIx, Z.augM, Z.fin, Z.fr0, Z.funM, Z.lenD, Z.ltD, Z.leD, Z.gtD, Z.geD, Z.iiD, Z.iiC, Z.subD, Z.intD, ixS, List.getElem?_map, List.length_map, List.getElem?_cons_zero, List.getElem?_cons_succ, List.set_cons_zero, List.set_cons_succ, List.map_cons, List.map_nil, List.cons_append, List.nil_append, List.append_nil, List.replicate_succ, List.replicate_zero, if_true, if_false, Bool.false_eq_true, Option.bind_some, Option.map_some, Option.bind_none, Option.map_none, Bool.not_true, Bool.not_false, h, e2, List.getD, Option.getD]
  · have e : decide ((p : Int) < (ts.length : Int)) = false := by simpa using hp
    have e2 : ts[p]? = none := List.getElem?_eq_none (by omega)
    simp only [atI_0, atI_1, atI_2, atI_3, atI_4, atI_natZ, ixNc_0, ixNc_1, ixNc_2, ixNc_3, mo_bind, mo_pure, bind_ok, bind_exc, bind_stuck, Z.getV, Z.putV, Z.putOwn, Z.putBox, Z.rdOwn, Z.ownAt, Z.seqM, Z.asgM, Z.ifM, Z.andM, Z.orM, Z.notM, Z.asB, Z.bin2, Z.un1, Z.ofO, Z.ofS, Z.ixM, Z.blt1M, Z.blt1O, Z.deref, Z.slM, Z.slMU, Z.partM, Z.tupM, Z.lstM, Z.catM, Z.argsM, Z.callM, Z.callMU, Z.callF, Z.callU, Z.truM, Z.setIxM, Z.putIx, Z.augM, Z.fin, Z.fr0, Z.funM, Z.lenD, Z.ltD, Z.leD, Z.gtD, Z.geD, Z.iiD, Z.iiC, Z.subD, Z.intD, ixS, List.getElem?_map, List.length_map, List.getElem?_cons_zero, List.getElem?_cons_succ, List.set_cons_zero, List.set_cons_succ, List.map_cons, List.map_nil, List.cons_append, List.nil_append, List.append_nil, List.replicate_succ, List.replicate_zero, if_true, if_false, Bool.false_eq_true, Option.bind_some, Option.map_some, Option.bind_none, Option.map_none, Bool.not_true, Bool.not_false, h, e, List.getD, e2, Option.getD]
end K70
set_option Elab.async false
set_option linter.all false
set_option maxRecDepth 100000
set_option maxHeartbeats 4000000
/-! Y2: the law's numbers out of the script. -/
namespace K70
open PySem L2 Z
/-- the row of numbers as it stands: cells, place, number, count, .. -/
def Cob (o : Ob) : Prop := ∃ (cells : List Int) (a : Nat) (v n x : Int), o = .lst [.lst (cells.map .int), .int a, .int v, .int n, .int x]
theorem mul_r {i j : Int} (h : -(2 ^ 64) < j ∧ j < 2 ^ 64) : mulI (.int i) (.int j) = some (.int (i * j)) := by
  show (if okMul i j = true then some (D.int (i * j)) else none) = _
  rw [if_pos (by unfold okMul; rw [small64_iff.mpr h, Bool.or_true])]
theorem mod_p {i j : Int} (h : 0 < j) : modD (.int i) (.int j) = some (.int (i % j)) := by
  show (if okMod i j = true then some (D.int (i % j)) else none) = _
  rw [if_pos (by
    unfold okMod
    obtain ⟨n, rfl⟩ : ∃ n : Nat, j = Int.ofNat (n + 1) := ⟨j.toNat - 1, by have : Int.ofNat (j.toNat - 1 + 1) = ((j.toNat - 1 + 1 : Nat) : Int) := rfl; omega⟩
    rfl)]
theorem div_p {i j : Int} (h : 0 < j) (h2 : j < 1073741824) : divD (.int i) (.int j) = some (.int (i / j)) := by
  show (if okDiv i j = true then some (D.int (i / j)) else none) = _
  rw [if_pos (by
    unfold okDiv
    obtain ⟨n, rfl⟩ : ∃ n : Nat, j = Int.ofNat (n + 1) := ⟨j.toNat - 1, by have : Int.ofNat (j.toNat - 1 + 1) = ((j.toNat - 1 + 1 : Nat) : Int) := rfl; omega⟩
    have : Int.ofNat (n + 1) = ((n + 1 : Nat) : Int) := rfl
    show Nat.ble n 1073741822 = true
    rw [Nat.ble_eq]
    omega)]
theorem add_ii (i j : Int) : addD (.int i) (.int j) = some (.int (i + j)) := rfl
theorem pow_18 : powD (.int 10) (.int 18) = some (.int (10 ^ 18)) := by
  show (if okPow 10 18 = true then some (D.int (10 ^ 18)) else none) = _
  rw [if_pos (by decide)]
theorem neg_i (i : Int) : negD (.int i) = some (.int (-i)) := rfl
theorem atI_last {α : Type} (xs : List α) (h : xs ≠ []) : atI xs (-1) = xs.getLast? := by
  have hl : 0 < xs.length := List.length_pos_iff.mpr h
  unfold atI ixN
  rw [if_neg (by omega), if_pos (by omega)]
  show xs[(-1 + (xs.length : Int)).toNat]? = _
  rw [show (-1 + (xs.length : Int)).toNat = xs.length - 1 by omega, List.getLast?_eq_getElem?]
theorem tru_lst (ds : List D) : truD (.lst ds) = some (!ds.isEmpty) := rfl
theorem fill_ok {fu rk : Nat} {S : List Ob} {o : Ob} (h : S[0]? = some o) (ho : Cob o) : ∃ v o', F__law_fill fu rk [.ptr 0] S = .ok (.d (.int v)) (S.set 0 o') ∧ Cob o' := by
  obtain ⟨cells, a, v, n, x, rfl⟩ := ho
  have hl : 0 < S.length := (List.getElem?_eq_some_iff.mp h).1
  have m1 : ∀ i : Int, mulI (.int i) (.int 69621) = some (.int (i * 69621)) := fun i => mul_r (by decide)
  have m2 : ∀ i : Int, mulI (.int i) (.int 48271) = some (.int (i * 48271)) := fun i => mul_r (by decide)
  have m3 : ∀ i : Int, mulI (.int i) (.int 7919) = some (.int (i * 7919)) := fun i => mul_r (by decide)
  have m4 : ∀ i : Int, modD (.int i) (.int 1000003) = some (.int (i % 1000003)) := fun i => mod_p (by decide)
  have m5 : ∀ i : Int, modD (.int i) (.int 2147483647) = some (.int (i % 2147483647)) := fun i => mod_p (by decide)
  have m6 : ∀ i : Int, divD (.int i) (.int 64) = some (.int (i / 64)) := fun i => div_p (by decide) (by decide)
  have m7 : ∀ i : Int, mulI (.int (i % 2147483647)) (.int (i % 2147483647)) = some (.int (i % 2147483647 * (i % 2147483647))) := fun i => mul_r (by
        have a1 := Int.emod_nonneg i (b := 2147483647) (by decide)
        have a2 := Int.emod_lt_of_pos i (b := 2147483647) (by decide)
        constructor <;> omega)
  have g1 : ∀ o, (S.set 0 o)[0]? = some o := fun o => List.getElem?_set_self hl
  have hs : ∀ o o', (S.set 0 o).set 0 o' = S.set 0 o' := fun o o' => List.set_set _
  unfold F__law_fill M__law_fill
  by_cases h1 : a < cells.length
  · have e1 : (decide ((a : Int) < (cells.length : Int))) = true := by simpa using h1
    have e2 : cells[a]? = some cells[a] := List.getElem?_eq_getElem h1
    have hne : cells ≠ [] := by intro z; rw [z] at h1; simp at h1
    have e3 : (!(List.map D.int cells).isEmpty) = true := by cases cells <;> simp_all
    have e4 : ∃ l, cells.getLast? = some l := by cases cells <;> simp_all [List.getLast?_cons]
    obtain ⟨l, e4⟩ := e4
    have e5 : atI (List.map D.int cells) (-1) = some (.int l) := by rw [atI_last _ (by simpa using hne), List.getLast?_map, e4]; rfl
    by_cases h2 : cells[a] < 0
    · cases b1 : decide ((10 : Int) ^ 18 ≤ 0 - 1 - cells[a]) with
      | true =>
        simp only [atI_0, atI_1, atI_2, atI_3, atI_4, atI_natZ, ixNc_0, ixNc_1, ixNc_2, ixNc_3, mo_bind, mo_pure, bind_ok, bind_exc, bind_stuck, Z.getV, Z.putV, Z.putOwn, Z.putBox, Z.rdOwn, Z.ownAt, Z.seqM, Z.asgM, Z.ifM, Z.andM, Z.orM, Z.notM, Z.asB, Z.bin2, Z.un1, Z.ofO, Z.ofS, Z.ixM, Z.blt1M, Z.blt1O, Z.deref, Z.slM, Z.slMU, Z.partM, Z.tupM, Z.lstM, Z.catM, Z.argsM, Z.callM, Z.callMU, Z.callF, Z.callU, Z.truM, Z.setIxM, Z.putIx, Z.augM, Z.fin, Z.fr0, Z.funM, Z.lenD, Z.ltD, Z.leD, Z.gtD, Z.geD, Z.iiD, Z.iiC, Z.subD, Z.intD, ixS, List.getElem?_map, List.length_map, List.getElem?_cons_zero, List.getElem?_cons_succ, List.set_cons_zero, List.set_cons_succ, List.map_cons, List.map_nil, List.cons_append, List.nil_append, List.append_nil, List.replicate_succ, List.replicate_zero, if_true, if_false, Bool.false_eq_true, Option.bind_some, Option.map_some, Option.bind_none, Option.map_none, Bool.not_true, Bool.not_false, h, g1, hs, m1, m2, m3, m4, m5, m6, m7, add_ii, e1, e2, pow_18, neg_i, tru_lst, e3, e5, h2, decide_true, b1]
        exact ⟨_, _, rfl, cells, a + 1, v, n + 1, x, rfl⟩
      | false =>
        cases b2 : decide ((cells.length : Int) ≤ (a : Int) + 1) with
        | true =>
          simp only [atI_0, atI_1, atI_2, atI_3, atI_4, atI_natZ, ixNc_0, ixNc_1, ixNc_2, ixNc_3, mo_bind, mo_pure, bind_ok, bind_exc, bind_stuck, Z.getV, Z.putV, Z.putOwn, Z.putBox, Z.rdOwn, Z.ownAt, Z.seqM, Z.asgM, Z.ifM, Z.andM, Z.orM, Z.notM, Z.asB, Z.bin2, Z.un1, Z.ofO, Z.ofS, Z.ixM, Z.blt1M, Z.blt1O, Z.deref, Z.slM, Z.slMU, Z.partM, Z.tupM, Z.lstM, Z.catM, Z.argsM, Z.callM, Z.callMU, Z.callF, Z.callU, Z.truM, Z.setIxM, Z.putIx, Z.augM, Z.fin, Z.fr0, Z.funM, Z.lenD, Z.ltD, Z.leD, Z.gtD, Z.geD, Z.iiD, Z.iiC, Z.subD, Z.intD, ixS, List.getElem?_map, List.length_map, List.getElem?_cons_zero, List.getElem?_cons_succ, List.set_cons_zero, List.set_cons_succ, List.map_cons, List.map_nil, List.cons_append, List.nil_append, List.append_nil, List.replicate_succ, List.replicate_zero, if_true, if_false, Bool.false_eq_true, Option.bind_some, Option.map_some, Option.bind_none, Option.map_none, Bool.not_true, Bool.not_false, h, g1, hs, m1, m2, m3, m4, m5, m6, m7, add_ii, e1, e2, pow_18, neg_i, tru_lst, e3, e5, h2, decide_true, b1, b2]
          exact ⟨_, _, rfl, cells, a + 1, v, n + 1, x, rfl⟩
        | false =>
          simp only [atI_0, atI_1, atI_2, atI_3, atI_4, atI_natZ, ixNc_0, ixNc_1, ixNc_2, ixNc_3, mo_bind, mo_pure, bind_ok, bind_exc, bind_stuck, Z.getV, Z.putV, Z.putOwn, Z.putBox, Z.rdOwn, Z.ownAt, Z.seqM, Z.asgM, Z.ifM, Z.andM, Z.orM, Z.notM, Z.asB, Z.bin2, Z.un1, Z.ofO, Z.ofS, Z.ixM, Z.blt1M, Z.blt1O, Z.deref, Z.slM, Z.slMU, Z.partM, Z.tupM, Z.lstM, Z.catM, Z.argsM, Z.callM, Z.callMU, Z.callF, Z.callU, Z.truM, Z.setIxM, Z.putIx, Z.augM, Z.fin, Z.fr0, Z.funM, Z.lenD, Z.ltD, Z.leD, Z.gtD, Z.geD, Z.iiD, Z.iiC, Z.subD, Z.intD, ixS, List.getElem?_map, List.length_map, List.getElem?_cons_zero, List.getElem?_cons_succ, List.set_cons_zero, List.set_cons_succ, List.map_cons, List.map_nil, List.cons_append, List.nil_append, List.append_nil, List.replicate_succ, List.replicate_zero, if_true, if_false, Bool.false_eq_true, Option.bind_some, Option.map_some, Option.bind_none, Option.map_none, Bool.not_true, Bool.not_false, h, g1, hs, m1, m2, m3, m4, m5, m6, m7, add_ii, e1, e2, pow_18, neg_i, tru_lst, e3, e5, h2, decide_true, b1, b2]
          exact ⟨_, _, rfl, cells, a + 1, v, n + 1, x, rfl⟩
    · cases b1 : decide ((10 : Int) ^ 18 ≤ cells[a]) with
      | true =>
        simp only [atI_0, atI_1, atI_2, atI_3, atI_4, atI_natZ, ixNc_0, ixNc_1, ixNc_2, ixNc_3, mo_bind, mo_pure, bind_ok, bind_exc, bind_stuck, Z.getV, Z.putV, Z.putOwn, Z.putBox, Z.rdOwn, Z.ownAt, Z.seqM, Z.asgM, Z.ifM, Z.andM, Z.orM, Z.notM, Z.asB, Z.bin2, Z.un1, Z.ofO, Z.ofS, Z.ixM, Z.blt1M, Z.blt1O, Z.deref, Z.slM, Z.slMU, Z.partM, Z.tupM, Z.lstM, Z.catM, Z.argsM, Z.callM, Z.callMU, Z.callF, Z.callU, Z.truM, Z.setIxM, Z.putIx, Z.augM, Z.fin, Z.fr0, Z.funM, Z.lenD, Z.ltD, Z.leD, Z.gtD, Z.geD, Z.iiD, Z.iiC, Z.subD, Z.intD, ixS, List.getElem?_map, List.length_map, List.getElem?_cons_zero, List.getElem?_cons_succ, List.set_cons_zero, List.set_cons_succ, List.map_cons, List.map_nil, List.cons_append, List.nil_append, List.append_nil, List.replicate_succ, List.replicate_zero, if_true, if_false, Bool.false_eq_true, Option.bind_some, Option.map_some, Option.bind_none, Option.map_none, Bool.not_true, Bool.not_false, h, g1, hs, m1, m2, m3, m4, m5, m6, m7, add_ii, e1, e2, pow_18, neg_i, tru_lst, e3, e5, h2, decide_false, b1]
        exact ⟨_, _, rfl, cells, a + 1, v, n + 1, x, rfl⟩
      | false =>
        cases b2 : decide ((cells.length : Int) ≤ (a : Int) + 1) with
        | true =>
          simp only [atI_0, atI_1, atI_2, atI_3, atI_4, atI_natZ, ixNc_0, ixNc_1, ixNc_2, ixNc_3, mo_bind, mo_pure, bind_ok, bind_exc, bind_stuck, Z.getV, Z.putV, Z.putOwn, Z.putBox, Z.rdOwn, Z.ownAt, Z.seqM, Z.asgM, Z.ifM, Z.andM, Z.orM, Z.notM, Z.asB, Z.bin2, Z.un1, Z.ofO, Z.ofS, Z.ixM, Z.blt1M, Z.blt1O, Z.deref, Z.slM, Z.slMU, Z.partM, Z.tupM, Z.lstM, Z.catM, Z.argsM, Z.callM, Z.callMU, Z.callF, Z.callU, Z.truM, Z.setIxM, Z.putIx, Z.augM, Z.fin, Z.fr0, Z.funM, Z.lenD, Z.ltD, Z.leD, Z.gtD, Z.geD, Z.iiD, Z.iiC, Z.subD, Z.intD, ixS, List.getElem?_map, List.length_map, List.getElem?_cons_zero, List.getElem?_cons_succ, List.set_cons_zero, List.set_cons_succ, List.map_cons, List.map_nil, List.cons_append, List.nil_append, List.append_nil, List.replicate_succ, List.replicate_zero, if_true, if_false, Bool.false_eq_true, Option.bind_some, Option.map_some, Option.bind_none, Option.map_none, Bool.not_true, Bool.not_false, h, g1, hs, m1, m2, m3, m4, m5, m6, m7, add_ii, e1, e2, pow_18, neg_i, tru_lst, e3, e5, h2, decide_false, b1, b2]
          exact ⟨_, _, rfl, cells, a + 1, v, n + 1, x, rfl⟩
        | false =>
          simp only [atI_0, atI_1, atI_2, atI_3, atI_4, atI_natZ, ixNc_0, ixNc_1, ixNc_2, ixNc_3, mo_bind, mo_pure, bind_ok, bind_exc, bind_stuck, Z.getV, Z.putV, Z.putOwn, Z.putBox, Z.rdOwn, Z.ownAt, Z.seqM, Z.asgM, Z.ifM, Z.andM, Z.orM, Z.notM, Z.asB, Z.bin2, Z.un1, Z.ofO, Z.ofS, Z.ixM, Z.blt1M, Z.blt1O, Z.deref, Z.slM, Z.slMU, Z.partM, Z.tupM, Z.lstM, Z.catM, Z.argsM, Z.callM, Z.callMU, Z.callF, Z.callU, Z.truM, Z.setIxM, Z.putIx, Z.augM, Z.fin, Z.fr0, Z.funM, Z.lenD, Z.ltD, Z.leD, Z.gtD, Z.geD, Z.iiD, Z.iiC, Z.subD, Z.intD, ixS, List.getElem?_map, List.length_map, List.getElem?_cons_zero, List.getElem?_cons_succ, List.set_cons_zero, List.set_cons_succ, List.map_cons, List.map_nil, List.cons_append, List.nil_append, List.append_nil, List.replicate_succ, List.replicate_zero, if_true, if_false, Bool.false_eq_true, Option.bind_some, Option.map_some, Option.bind_none, Option.map_none, Bool.not_true, Bool.not_false, h, g1, hs, m1, m2, m3, m4, m5, m6, m7, add_ii, e1, e2, pow_18, neg_i, tru_lst, e3, e5, h2, decide_false, b1, b2]
          exact ⟨_, _, rfl, cells, a + 1, v, n + 1, x, rfl⟩
  · have e1 : (decide ((a : Int) < (cells.length : Int))) = false := by simpa using h1
    have b2 : decide ((cells.length : Int) ≤ (a : Int)) = true := by simpa using h1
    by_cases hne : cells = []
    · have e3 : (!(List.map D.int cells).isEmpty) = false := by rw [hne]; rfl
      simp only [atI_0, atI_1, atI_2, atI_3, atI_4, atI_natZ, ixNc_0, ixNc_1, ixNc_2, ixNc_3, mo_bind, mo_pure, bind_ok, bind_exc, bind_stuck, Z.getV, Z.putV, Z.putOwn, Z.putBox, Z.rdOwn, Z.ownAt, Z.seqM, Z.asgM, Z.ifM, Z.andM, Z.orM, Z.notM, Z.asB, Z.bin2, Z.un1, Z.ofO, Z.ofS, Z.ixM, Z.blt1M, Z.blt1O, Z.deref, Z.slM, Z.slMU, Z.partM, Z.tupM, Z.lstM, Z.catM, Z.argsM, Z.callM, Z.callMU, Z.callF, Z.callU, Z.truM, Z.setIxM, Z.putIx, Z.augM, Z.fin, Z.fr0, Z.funM, Z.lenD, Z.ltD, Z.leD, Z.gtD, Z.geD, Z.iiD, Z.iiC, Z.subD, Z.intD, ixS, List.getElem?_map, List.length_map, List.getElem?_cons_zero, List.getElem?_cons_succ, List.set_cons_zero, List.set_cons_succ, List.map_cons, List.map_nil, List.cons_append, List.nil_append, List.append_nil, List.replicate_succ, List.replicate_zero, if_true, if_false, Bool.false_eq_true, Option.bind_some, Option.map_some, Option.bind_none, Option.map_none, Bool.not_true, Bool.not_false, h, g1, hs, m1, m2, m3, m4, m5, m6, m7, add_ii, e1, pow_18, neg_i, tru_lst, e3, b2]
      exact ⟨_, _, rfl, cells, a, v, n + 1, x, rfl⟩
    · have e3 : (!(List.map D.int cells).isEmpty) = true := by cases cells <;> simp_all
      have e4 : ∃ l, cells.getLast? = some l := by cases cells <;> simp_all [List.getLast?_cons]
      obtain ⟨l, e4⟩ := e4
      have e5 : atI (List.map D.int cells) (-1) = some (.int l) := by rw [atI_last _ (by simpa using hne), List.getLast?_map, e4]; rfl
      simp only [atI_0, atI_1, atI_2, atI_3, atI_4, atI_natZ, ixNc_0, ixNc_1, ixNc_2, ixNc_3, mo_bind, mo_pure, bind_ok, bind_exc, bind_stuck, Z.getV, Z.putV, Z.putOwn, Z.putBox, Z.rdOwn, Z.ownAt, Z.seqM, Z.asgM, Z.ifM, Z.andM, Z.orM, Z.notM, Z.asB, Z.bin2, Z.un1, Z.ofO, Z.ofS, Z.ixM, Z.blt1M, Z.blt1O, Z.deref, Z.slM, Z.slMU, Z.partM, Z.tupM, Z.lstM, Z.catM, Z.argsM, Z.callM, Z.callMU, Z.callF, Z.callU, Z.truM, Z.setIxM, Z.putIx, Z.augM, Z.fin, Z.fr0, Z.funM, Z.lenD, Z.ltD, Z.leD, Z.gtD, Z.geD, Z.iiD, Z.iiC, Z.subD, Z.intD, ixS, List.getElem?_map, List.length_map, List.getElem?_cons_zero, List.getElem?_cons_succ, List.set_cons_zero, List.set_cons_succ, List.map_cons, List.map_nil, List.cons_append, List.nil_append, List.append_nil, List.replicate_succ, List.replicate_zero, if_true, if_false, Bool.false_eq_true, Option.bind_some, Option.map_some, Option.bind_none, Option.map_none, Bool.not_true, Bool.not_false, h, g1, hs, m1, m2, m3, m4, m5, m6, m7, add_ii, e1, pow_18, neg_i, tru_lst, e3, e5, b2]
      exact ⟨_, _, rfl, cells, a, v, n + 1, x, rfl⟩
theorem take_ok {fu rk : Nat} {S : List Ob} {o : Ob} {m : Int} (h : S[0]? = some o) (ho : Cob o) (hm : 0 < m) (hm2 : m < 1073741824) : ∃ (k : Nat) (o' : Ob), F__law_take fu rk [.ptr 0, .int m] S = .ok (.d (.int k)) (S.set 0 o') ∧ Cob o' ∧ (k : Int) < m := by
  have hl : 0 < S.length := (List.getElem?_eq_some_iff.mp h).1
  have g1 : ∀ o, (S.set 0 o)[0]? = some o := fun o => List.getElem?_set_self hl
  have hs : ∀ o o', (S.set 0 o).set 0 o' = S.set 0 o' := fun o o' => List.set_set _
  have m1 : ∀ i : Int, modD (.int i) (.int m) = some (.int (i % m)) := fun i => mod_p hm
  have m2 : ∀ i : Int, divD (.int i) (.int m) = some (.int (i / m)) := fun i => div_p hm hm2
  have nn : ∀ i : Int, ((i % m).toNat : Int) = i % m ∧ i % m < m := fun i => ⟨Int.toNat_of_nonneg (Int.emod_nonneg i (by omega)), Int.emod_lt_of_pos i hm⟩
  obtain ⟨v', o', hf, cells', a', v1, n', x', rfl⟩ := fill_ok (fu := fu) (rk := rk) h ho
  obtain ⟨cells, a, v, n, x, rfl⟩ := ho
  unfold F__law_take M__law_take
  cases b : decide (v < m) with
  | true =>
    simp only [atI_0, atI_1, atI_2, atI_3, atI_4, atI_natZ, ixNc_0, ixNc_1, ixNc_2, ixNc_3, mo_bind, mo_pure, bind_ok, bind_exc, bind_stuck, Z.getV, Z.putV, Z.putOwn, Z.putBox, Z.rdOwn, Z.ownAt, Z.seqM, Z.asgM, Z.ifM, Z.andM, Z.orM, Z.notM, Z.asB, Z.bin2, Z.un1, Z.ofO, Z.ofS, Z.ixM, Z.blt1M, Z.blt1O, Z.deref, Z.slM, Z.slMU, Z.partM, Z.tupM, Z.lstM, Z.catM, Z.argsM, Z.callM, Z.callMU, Z.callF, Z.callU, Z.truM, Z.setIxM, Z.putIx, Z.augM, Z.fin, Z.fr0, Z.funM, Z.lenD, Z.ltD, Z.leD, Z.gtD, Z.geD, Z.iiD, Z.iiC, Z.subD, Z.intD, ixS, List.getElem?_map, List.length_map, List.getElem?_cons_zero, List.getElem?_cons_succ, List.set_cons_zero, List.set_cons_succ, List.map_cons, List.map_nil, List.cons_append, List.nil_append, List.append_nil, List.replicate_succ, List.replicate_zero, if_true, if_false, Bool.false_eq_true, Option.bind_some, Option.map_some, Option.bind_none, Option.map_none, Bool.not_true, Bool.not_false, h, b, hf, g1, hs, m1, m2]
    refine ⟨(v' % m).toNat, _, ?_, ⟨cells', a', v' / m, n', x', rfl⟩, ?_⟩
    · rw [(nn v').1]
    · rw [(nn v').1]; exact (nn v').2
  | false =>
    simp only [atI_0, atI_1, atI_2, atI_3, atI_4, atI_natZ, ixNc_0, ixNc_1, ixNc_2, ixNc_3, mo_bind, mo_pure, bind_ok, bind_exc, bind_stuck, Z.getV, Z.putV, Z.putOwn, Z.putBox, Z.rdOwn, Z.ownAt, Z.seqM, Z.asgM, Z.ifM, Z.andM, Z.orM, Z.notM, Z.asB, Z.bin2, Z.un1, Z.ofO, Z.ofS, Z.ixM, Z.blt1M, Z.blt1O, Z.deref, Z.slM, Z.slMU, Z.partM, Z.tupM, Z.lstM, Z.catM, Z.argsM, Z.callM, Z.callMU, Z.callF, Z.callU, Z.truM, Z.setIxM, Z.putIx, Z.augM, Z.fin, Z.fr0, Z.funM, Z.lenD, Z.ltD, Z.leD, Z.gtD, Z.geD, Z.iiD, Z.iiC, Z.subD, Z.intD, ixS, List.getElem?_map, List.length_map, List.getElem?_cons_zero, List.getElem?_cons_succ, List.set_cons_zero, List.set_cons_succ, List.map_cons, List.map_nil, List.cons_append, List.nil_append, List.append_nil, List.replicate_succ, List.replicate_zero, if_true, if_false, Bool.false_eq_true, Option.bind_some, Option.map_some, Option.bind_none, Option.map_none, Bool.not_true, Bool.not_false, h, b, g1, hs, m1, m2]
    refine ⟨(v % m).toNat, _, ?_, ⟨cells, a, v / m, n, x, rfl⟩, ?_⟩
    · rw [(nn v).1]
    · rw [(nn v).1]; exact (nn v).2
end K70
set_option Elab.async false
set_option linter.all false
set_option maxRecDepth 100000
set_option maxHeartbeats 4000000
/-! Y3: loops; the start; a type. -/
namespace Z
open PySem L2
theorem lc_ind {vs : List Nat} {f : D → Mo Unit} {me : Mo D} {w0 : List Sl} (Inv : Nat → List D → List Ob → Prop) : ∀ (its : List D) (i : Nat) (acc : List D) (fr : List Sl) (S : List Ob),
    (∀ (j : Nat) (d : D) (acc : List D) (S : List Ob), its[j]? = some d → Inv (i + j) acc S → ∃ (fr1 fr2 : List Sl) (y : D) (S' : List Ob), f d w0 S = .ok () fr1 S ∧ me fr1 S = .ok y fr2 S' ∧ wipeF fr2 vs = w0 ∧ Inv (i + j + 1) (acc ++ [y]) S' ∧ acc.length < sizeLine) →
    wipeF fr vs = w0 → Inv i acc S → ∃ ys S', lcLoop vs f me its acc fr S = .ok ys w0 S' ∧ Inv (i + its.length) ys S'
  | [], i, acc, fr, S, _, hw, hi => ⟨acc, S, by unfold lcLoop; rw [hw], hi⟩
  | d :: r, i, acc, fr, S, h, hw, hi => by
    obtain ⟨fr1, fr2, y, S', h1, h2, h3, h4, h5⟩ := h 0 d acc S rfl hi
    obtain ⟨ys, S2, e1, e2⟩ := lc_ind Inv r (i + 1) (acc ++ [y]) fr2 S' (fun j d acc S e hh => by
      obtain ⟨a, b, c, d', q1, q2, q3, q4, q5⟩ := h (j + 1) d acc S (by simpa using e) (by rw [show i + (j + 1) = i + 1 + j by omega]; exact hh)
      exact ⟨a, b, c, d', q1, q2, q3, by rw [show i + 1 + j + 1 = i + (j + 1) + 1 by omega]; exact q4, q5⟩) h3 h4
    refine ⟨ys, S2, ?_, by rw [List.length_cons, show i + (r.length + 1) = i + 1 + r.length by omega]; exact e2⟩
    unfold lcLoop
    rw [hw, h1]
    dsimp only
    rw [h2]
    dsimp only
    rw [if_pos h5]
    exact e1
theorem loop_ind {f : D → Mo Unit} {b : Mo Fl} (Inv : Nat → List Sl → List Ob → Prop) : ∀ (its : List D) (i : Nat) (fr : List Sl) (S : List Ob),
    (∀ (j : Nat) (d : D) (fr : List Sl) (S : List Ob), its[j]? = some d → Inv (i + j) fr S → ∃ (fr1 : List Sl) (S1 : List Ob) (fr2 : List Sl) (S2 : List Ob), f d fr S = .ok () fr1 S1 ∧ b fr1 S1 = .ok .nx fr2 S2 ∧ Inv (i + j + 1) fr2 S2) → Inv i fr S → ∃ fr' S', loopM f b its fr S = .ok .nx fr' S' ∧ Inv (i + its.length) fr' S'
  | [], i, fr, S, _, hi => ⟨fr, S, rfl, hi⟩
  | d :: r, i, fr, S, h, hi => by
    obtain ⟨fr1, S1, fr2, S2, h1, h2, h3⟩ := h 0 d fr S rfl hi
    obtain ⟨fr', S', e1, e2⟩ := loop_ind Inv r (i + 1) fr2 S2 (fun j d fr S e hh => by
      obtain ⟨a, b, c, d', q1, q2, q3⟩ := h (j + 1) d fr S (by simpa using e) (by rw [show i + (j + 1) = i + 1 + j by omega]; exact hh)
      exact ⟨a, b, c, d', q1, q2, by rw [show i + 1 + j + 1 = i + (j + 1) + 1 by omega]; exact q3⟩) h3
    refine ⟨fr', S', ?_, by rw [List.length_cons, show i + (r.length + 1) = i + 1 + r.length by omega]; exact e2⟩
    show Rs.bind (f d fr S) (fun _ => turnM b (loopM f b r)) = _
    rw [h1]
    show Rs.bind (b fr1 S1) _ = _
    rw [h2]
    exact e1
theorem itR1_nat {j : Nat} (h : j ≤ 4611686018427387903) : itR1 [.int (j : Int)] = some (rngD 0 j) := by
  show (if Nat.ble j 4611686018427387903 = true then some (rngD 0 j) else none) = _
  rw [if_pos (Nat.ble_eq.mpr h)]
end Z
namespace K70
open PySem L2 Z
theorem start_ok {fu rk : Nat} {ns : List Int} {S : List Ob} (hn : ns.length ≤ 63) : ∃ ds, F__law_start fu rk [.scr ns] S = .ok (.u ds) S ∧ Cob (.lst ds) := by
  have hc : ∃ ms : List Int, cutD (ns.map D.int) none (some 63) = ms.map D.int ∧ ms.length ≤ 63 := by
    unfold cutD
    rw [← List.map_drop, ← List.map_take]
    exact ⟨_, rfl, by rw [List.length_take, List.length_drop]; omega⟩
  obtain ⟨ms, hm, hl⟩ := hc
  have hz : (63 : Nat) < sizeLine := by rw [sizeLine_eq]; decide
  obtain ⟨ys, S', h1, h2⟩ := lc_ind (vs := [1]) (f := putV 1) (me := blt1M intD (getV 1)) (w0 := [.val (.scr ns), .un]) (fun i acc S' => acc = (ms.take i).map D.int ∧ S' = S) (ms.map D.int) 0 [] [.val (.scr ns), .un] S (fun j d acc S'' e hi => by
    obtain ⟨e1, e2⟩ := hi
    subst e1
    subst e2
    rw [List.getElem?_map] at e
    cases hj : ms[j]? with
    | none => rw [hj] at e; cases e
    | some n =>
      rw [hj] at e
      cases e
      refine ⟨_, _, _, _, rfl, rfl, rfl, ⟨?_, rfl⟩, ?_⟩
      · rw [Nat.zero_add, show j + 1 = j + 1 from rfl, List.take_succ, hj]
        simp
      · rw [List.length_map, List.length_take]
        omega) rfl ⟨by simp, rfl⟩
  obtain ⟨e1, e2⟩ := h2
  subst e2
  have e3 : ys = ms.map D.int := by rw [e1]; simp
  subst e3
  refine ⟨[.lst (ms.map .int), .int 0, .int 0, .int 0, .int 20], ?_, ms, 0, 0, 0, 20, rfl⟩
  simp only [atI_0, atI_1, atI_2, atI_3, atI_4, atI_natZ, ixNc_0, ixNc_1, ixNc_2, ixNc_3, mo_bind, mo_pure, bind_ok, bind_exc, bind_stuck, Z.getV, Z.putV, Z.putOwn, Z.putBox, Z.rdOwn, Z.ownAt, Z.seqM, Z.asgM, Z.ifM, Z.andM, Z.orM, Z.notM, Z.asB, Z.bin2, Z.un1, Z.ofO, Z.ofS, Z.ixM, Z.blt1M, Z.blt1O, Z.deref, Z.slM, Z.slMU, Z.partM, Z.tupM, Z.lstM, Z.catM, Z.argsM, Z.callM, Z.callMU, Z.callF, Z.callU, Z.truM, Z.setIxM, Z.putIx, Z.augM, Z.fin, Z.fr0, Z.funM, Z.lenD, Z.ltD, Z.leD, Z.gtD, Z.geD, Z.iiD, Z.iiC, Z.subD, Z.intD, ixS, List.getElem?_map, List.length_map, List.getElem?_cons_zero, List.getElem?_cons_succ, List.set_cons_zero, List.set_cons_succ, List.map_cons, List.map_nil, List.cons_append, List.nil_append, List.append_nil, List.replicate_succ, List.replicate_zero, if_true, if_false, Bool.false_eq_true, Option.bind_some, Option.map_some, Option.bind_none, Option.map_none, Bool.not_true, Bool.not_false] at h1
  unfold F__law_start M__law_start
  simp only [atI_0, atI_1, atI_2, atI_3, atI_4, atI_natZ, ixNc_0, ixNc_1, ixNc_2, ixNc_3, mo_bind, mo_pure, bind_ok, bind_exc, bind_stuck, Z.getV, Z.putV, Z.putOwn, Z.putBox, Z.rdOwn, Z.ownAt, Z.seqM, Z.asgM, Z.ifM, Z.andM, Z.orM, Z.notM, Z.asB, Z.bin2, Z.un1, Z.ofO, Z.ofS, Z.ixM, Z.blt1M, Z.blt1O, Z.deref, Z.slM, Z.slMU, Z.partM, Z.tupM, Z.lstM, Z.catM, Z.argsM, Z.callM, Z.callMU, Z.callF, Z.callU, Z.truM, Z.setIxM, Z.putIx, Z.augM, Z.fin, Z.fr0, Z.funM, Z.lenD, Z.ltD, Z.leD, Z.gtD, Z.geD, Z.iiD, Z.iiC, Z.subD, Z.intD, ixS, List.getElem?_map, List.length_map, List.getElem?_cons_zero, List.getElem?_cons_succ, List.set_cons_zero, List.set_cons_succ, List.map_cons, List.map_nil, List.cons_append, List.nil_append, List.append_nil, List.replicate_succ, List.replicate_zero, if_true, if_false, Bool.false_eq_true, Option.bind_some, Option.map_some, Option.bind_none, Option.map_none, Bool.not_true, Bool.not_false, slL, hm, itL, lcM, h1]
/-- a type: its arguments, its sort -/
inductive Ty where
  | mk (as : List Ty) (s : Str)
mutual
def Ty.d : Ty → D
  | .mk as s => .tup [.tup (Ty.ds as), .str s]
def Ty.ds : List Ty → List D
  | [] => []
  | a :: r => a.d :: Ty.ds r
end
theorem ds_length : ∀ as : List Ty, (Ty.ds as).length = as.length
  | [] => rfl
  | _ :: r => by simp [Ty.ds, ds_length r]
theorem ds_append : ∀ as bs : List Ty, Ty.ds (as ++ bs) = Ty.ds as ++ Ty.ds bs
  | [], _ => rfl
  | _ :: r, bs => by simp [Ty.ds, ds_append r bs]
theorem ds_get : ∀ (as : List Ty) (i : Nat), (Ty.ds as)[i]? = as[i]?.map Ty.d
  | [], i => by simp [Ty.ds]
  | _ :: _, 0 => by simp [Ty.ds]
  | _ :: r, i + 1 => by simp [Ty.ds, ds_get r i]
def sorts8 : List Str := ["a", "b", "nat", "longsort", "zz", "i", "cons", "heigh"]
def Ty.hasArgs : Ty → Bool
  | .mk as _ => !as.isEmpty
/-- n deep at most -/
def Gd : Nat → Ty → Prop
  | 0, _ => False
  | n + 1, .mk as s => s ∈ sorts8 ∧ as.length ≤ 5 ∧ ∀ a ∈ as, Gd n a
theorem any_ok {fu rk : Nat} (k : Nat) : ∀ (n : Nat) (S : List Ob) (o : Ob), S[0]? = some o → Cob o → 1 ≤ n → n ≤ k → ∃ t o', F__law_any_type fu rk k [.ptr 0, .int n] S = .ok (.d (Ty.d t)) (S.set 0 o') ∧ Cob o' ∧ Gd n t := by
  induction k with
  | zero => intro n S o _ _ h1 h2; omega
  | succ k ih =>
    intro n S o h ho h1 h2
    have hl : 0 < S.length := (List.getElem?_eq_some_iff.mp h).1
    have g1 : ∀ o, (S.set 0 o)[0]? = some o := fun o => List.getElem?_set_self hl
    have hs : ∀ o o', (S.set 0 o).set 0 o' = S.set 0 o' := fun o o' => List.set_set _
    obtain ⟨q, o1, hf, ho1, hq⟩ := take_ok (fu := fu) (rk := rk) (m := 8) h ho (by decide) (by decide)
    have hq' : q < 8 := by omega
    have hsort : ∃ s, ([.str "a", .str "b", .str "nat", .str "longsort", .str "zz", .str "i", .str "cons", .str "heigh"] : List D)[q]? = some (.str s) ∧ s ∈ sorts8 := by
      have e : ([.str "a", .str "b", .str "nat", .str "longsort", .str "zz", .str "i", .str "cons", .str "heigh"] : List D) = sorts8.map D.str := rfl
      rw [e, List.getElem?_map, List.getElem?_eq_getElem (by show q < 8; exact hq')]
      exact ⟨_, rfl, List.getElem_mem _⟩
    obtain ⟨s, hs1, hs2⟩ := hsort
    unfold F__law_any_type M__law_any_type
    by_cases hn : n < 2
    · have b : decide ((n : Int) < 2) = true := by simp; omega
      simp only [atI_0, atI_1, atI_2, atI_3, atI_4, atI_natZ, ixNc_0, ixNc_1, ixNc_2, ixNc_3, mo_bind, mo_pure, bind_ok, bind_exc, bind_stuck, Z.getV, Z.putV, Z.putOwn, Z.putBox, Z.rdOwn, Z.ownAt, Z.seqM, Z.asgM, Z.ifM, Z.andM, Z.orM, Z.notM, Z.asB, Z.bin2, Z.un1, Z.ofO, Z.ofS, Z.ixM, Z.blt1M, Z.blt1O, Z.deref, Z.slM, Z.slMU, Z.partM, Z.tupM, Z.lstM, Z.catM, Z.argsM, Z.callM, Z.callMU, Z.callF, Z.callU, Z.truM, Z.setIxM, Z.putIx, Z.augM, Z.fin, Z.fr0, Z.funM, Z.lenD, Z.ltD, Z.leD, Z.gtD, Z.geD, Z.iiD, Z.iiC, Z.subD, Z.intD, ixS, List.getElem?_map, List.length_map, List.getElem?_cons_zero, List.getElem?_cons_succ, List.set_cons_zero, List.set_cons_succ, List.map_cons, List.map_nil, List.cons_append, List.nil_append, List.append_nil, List.replicate_succ, List.replicate_zero, if_true, if_false, Bool.false_eq_true, Option.bind_some, Option.map_some, Option.bind_none, Option.map_none, Bool.not_true, Bool.not_false, hf, hs1, b]
      refine ⟨.mk [] s, o1, by rw [Ty.d, Ty.ds], ho1, ?_⟩
      have e : n = 0 + 1 := by omega
      rw [e]
      exact ⟨hs2, by simp, fun a ha => by simp at ha⟩
    · have b : decide ((n : Int) < 2) = false := by simp; omega
      obtain ⟨q2, o2, hf2, ho2, hq2⟩ := take_ok (fu := fu) (rk := rk) (m := 6) (g1 o1) ho1 (by decide) (by decide)
      have hq2' : q2 < 6 := by omega
      have hnum : ∃ j : Nat, ([.int 0, .int 1, .int 1, .int 2, .int 3, .int 5] : List D)[q2]? = some (.int j) ∧ j ≤ 5 := by
        have e : ([.int 0, .int 1, .int 1, .int 2, .int 3, .int 5] : List D) = ([0, 1, 1, 2, 3, 5] : List Nat).map (fun (j : Nat) => D.int j) := rfl
        rw [e, List.getElem?_map, List.getElem?_eq_getElem (by show q2 < 6; exact hq2')]
        refine ⟨_, rfl, ?_⟩
        have : ∀ j ∈ ([0, 1, 1, 2, 3, 5] : List Nat), j ≤ 5 := by decide
        exact this _ (List.getElem_mem _)
      obtain ⟨j, hj1, hj2⟩ := hnum
      have hr : itR1 [.int (j : Int)] = some (rngD 0 j) := itR1_nat (by omega)
      have e1 : (n : Int) - 1 = ((n - 1 : Nat) : Int) := by omega
      have hz : (5 : Nat) < sizeLine := by rw [sizeLine_eq]; decide
      obtain ⟨ys, S', h3, ts, o3, e3, e4, e5, e6, e7⟩ := lc_ind (vs := [3]) (f := putV 3) (me := callM (F__law_any_type fu rk k) [getV 0, bin2 (getV 1) (pure (.int 1)) subD] []) (w0 := [.val (.ptr 0), .val (.int n), .val (.str s), .un])
        (fun i acc S' => ∃ ts o3, acc = Ty.ds ts ∧ ts.length = i ∧ S' = S.set 0 o3 ∧ Cob o3 ∧ ∀ t ∈ ts, Gd (n - 1) t) (rngD 0 j) 0 [] [.val (.ptr 0), .val (.int n), .val (.str s), .un] (S.set 0 o2) (fun i d acc S'' e hi => by
          obtain ⟨ts, o3, e3, e4, e5, e6, e7⟩ := hi
          subst e3
          subst e5
          obtain ⟨t, o4, q1, q2, q3⟩ := ih (n - 1) (S.set 0 o3) o3 (g1 o3) e6 (by omega) (by omega)
          have hi' : i < j := by
            have := (List.getElem?_eq_some_iff.mp e).1
            simpa [rngD] using this
          refine ⟨[.val (.ptr 0), .val (.int n), .val (.str s), .val d], [.val (.ptr 0), .val (.int n), .val (.str s), .val d], t.d, _, rfl, ?_, rfl, ⟨ts ++ [t], o4, ?_, by simp [e4], rfl, q2, ?_⟩, ?_⟩
          · simp only [atI_0, atI_1, atI_2, atI_3, atI_4, atI_natZ, ixNc_0, ixNc_1, ixNc_2, ixNc_3, mo_bind, mo_pure, bind_ok, bind_exc, bind_stuck, Z.getV, Z.putV, Z.putOwn, Z.putBox, Z.rdOwn, Z.ownAt, Z.seqM, Z.asgM, Z.ifM, Z.andM, Z.orM, Z.notM, Z.asB, Z.bin2, Z.un1, Z.ofO, Z.ofS, Z.ixM, Z.blt1M, Z.blt1O, Z.deref, Z.slM, Z.slMU, Z.partM, Z.tupM, Z.lstM, Z.catM, Z.argsM, Z.callM, Z.callMU, Z.callF, Z.callU, Z.truM, Z.setIxM, Z.putIx, Z.augM, Z.fin, Z.fr0, Z.funM, Z.lenD, Z.ltD, Z.leD, Z.gtD, Z.geD, Z.iiD, Z.iiC, Z.subD, Z.intD, ixS, List.getElem?_map, List.length_map, List.getElem?_cons_zero, List.getElem?_cons_succ, List.set_cons_zero, List.set_cons_succ, List.map_cons, List.map_nil, List.cons_append, List.nil_append, List.append_nil, List.replicate_succ, List.replicate_zero, if_true, if_false, Bool.false_eq_true, Option.bind_some, Option.map_some, Option.bind_none, Option.map_none, Bool.not_true, Bool.not_false, e1, q1, hs]
          · rw [ds_append]; rfl
          · intro t' ht
            rcases List.mem_append.mp ht with z | z
            · exact e7 t' z
            · simp at z; subst z; exact q3
          · rw [ds_length, e4]; omega) rfl ⟨[], o2, rfl, rfl, rfl, ho2, fun t ht => by simp at ht⟩
      subst e3
      subst e5
      simp only [atI_0, atI_1, atI_2, atI_3, atI_4, atI_natZ, ixNc_0, ixNc_1, ixNc_2, ixNc_3, mo_bind, mo_pure, bind_ok, bind_exc, bind_stuck, Z.getV, Z.putV, Z.putOwn, Z.putBox, Z.rdOwn, Z.ownAt, Z.seqM, Z.asgM, Z.ifM, Z.andM, Z.orM, Z.notM, Z.asB, Z.bin2, Z.un1, Z.ofO, Z.ofS, Z.ixM, Z.blt1M, Z.blt1O, Z.deref, Z.slM, Z.slMU, Z.partM, Z.tupM, Z.lstM, Z.catM, Z.argsM, Z.callM, Z.callMU, Z.callF, Z.callU, Z.truM, Z.setIxM, Z.putIx, Z.augM, Z.fin, Z.fr0, Z.funM, Z.lenD, Z.ltD, Z.leD, Z.gtD, Z.geD, Z.iiD, Z.iiC, Z.subD, Z.intD, ixS, List.getElem?_map, List.length_map, List.getElem?_cons_zero, List.getElem?_cons_succ, List.set_cons_zero, List.set_cons_succ, List.map_cons, List.map_nil, List.cons_append, List.nil_append, List.append_nil, List.replicate_succ, List.replicate_zero, if_true, if_false, Bool.false_eq_true, Option.bind_some, Option.map_some, Option.bind_none, Option.map_none, Bool.not_true, Bool.not_false] at h3
      simp only [atI_0, atI_1, atI_2, atI_3, atI_4, atI_natZ, ixNc_0, ixNc_1, ixNc_2, ixNc_3, mo_bind, mo_pure, bind_ok, bind_exc, bind_stuck, Z.getV, Z.putV, Z.putOwn, Z.putBox, Z.rdOwn, Z.ownAt, Z.seqM, Z.asgM, Z.ifM, Z.andM, Z.orM, Z.notM, Z.asB, Z.bin2, Z.un1, Z.ofO, Z.ofS, Z.ixM, Z.blt1M, Z.blt1O, Z.deref, Z.slM, Z.slMU, Z.partM, Z.tupM, Z.lstM, Z.catM, Z.argsM, Z.callM, Z.callMU, Z.callF, Z.callU, Z.truM, Z.setIxM, Z.putIx, Z.augM, Z.fin, Z.fr0, Z.funM, Z.lenD, Z.ltD, Z.leD, Z.gtD, Z.geD, Z.iiD, Z.iiC, Z.subD, Z.intD, ixS, List.getElem?_map, List.length_map, List.getElem?_cons_zero, List.getElem?_cons_succ, List.set_cons_zero, List.set_cons_succ, List.map_cons, List.map_nil, List.cons_append, List.nil_append, List.append_nil, List.replicate_succ, List.replicate_zero, if_true, if_false, Bool.false_eq_true, Option.bind_some, Option.map_some, Option.bind_none, Option.map_none, Bool.not_true, Bool.not_false, hf, hs1, b, hf2, hj1, hr, lcM, h3, hs, tupD]
      refine ⟨.mk ts s, o3, by rw [Ty.d], e6, ?_⟩
      have e : n = (n - 1) + 1 := by omega
      rw [e]
      refine ⟨hs2, ?_, e7⟩
      rw [e4]
      simp [rngD]
      exact hj2
end K70
set_option Elab.async false
set_option linter.all false
set_option maxRecDepth 100000
set_option maxHeartbeats 4000000
/-! Y4: texts as lists of numbers. -/
namespace Z
open PySem L2
abbrev L (s : Str) : List Nat := s.cps.toList
def mkS (l : List Nat) : Str := ⟨l.toArray⟩
theorem L_mkS (l : List Nat) : (mkS l).cps.toList = l := rfl
theorem mkS_L (s : Str) : mkS (L s) = s := rfl
theorem L_app (a b : Str) : (a ++ b).cps.toList = L a ++ L b := by
  show (a.cps ++ b.cps).toList = _
  simp
theorem mkS_app (a b : List Nat) : mkS a ++ mkS b = mkS (a ++ b) := by
  show (⟨a.toArray ++ b.toArray⟩ : Str) = ⟨(a ++ b).toArray⟩
  simp
theorem len_mkS (l : List Nat) : (mkS l).length = l.length := by
  show l.toArray.size = _
  simp
theorem len_L (s : Str) : s.length = (L s).length := by
  show s.cps.size = _
  simp
theorem mkS_inj {a b : List Nat} : mkS a = mkS b ↔ a = b := by
  constructor
  · intro h
    have := congrArg (fun s : Str => s.cps.toList) h
    simpa [mkS] using this
  · rintro rfl; rfl
theorem dec_mk (a b : List Nat) : decide (mkS a = mkS b) = decide (a = b) := decide_eq_decide.mpr mkS_inj
theorem chr_mk (c : Nat) : (⟨#[c]⟩ : Str) = mkS [c] := rfl
theorem lenD_str {s : Str} (h : s.length ≤ sizeLine) : lenD (.str s) = some (.int s.length) := by
  show (if s.length ≤ sizeLine then some (D.int (s.length : Nat)) else none) = _
  rw [if_pos h]
theorem lenD_mk {l : List Nat} (h : l.length ≤ 16777216) : lenD (.str (mkS l)) = some (.int l.length) := by
  rw [lenD_str (by rw [len_mkS, sizeLine_eq]; exact h), len_mkS]
def sk (s : Str) : Bool := (PyData.str s).canLay0
theorem sk_mk {l : List Nat} (h : ∀ c ∈ l, c < 128) : sk (mkS l) = true := by
  show PyData.strOk (mkS l) = true
  show l.toArray.all (fun x => decide (x < 0x110000)) = true
  rw [List.all_toArray', List.all_eq_true]
  · intro x hx
    have := h x hx
    simp
    omega
  · rfl
theorem eqB_str {a b : Str} (ha : sk a = true) (hb : sk b = true) : eqB (.str a) (.str b) = some (decide (a = b)) := by
  have ea : (PyData.str a).canLay0 = true := ha
  have eb : (PyData.str b).canLay0 = true := hb
  have ed : min (PyData.str a).depth (PyData.str b).depth ≤ 200 := by
    show min 0 0 ≤ 200
    decide
  show (if eqOk (.str a) (.str b) then some (PyData.eqv (.str a) (.str b)) else none) = _
  rw [if_pos ⟨ea, eb, ed⟩, PyData.eqv]
  rfl
theorem eqD_str {a b : Str} (ha : sk a = true) (hb : sk b = true) : eqD (.str a) (.str b) = some (.bl (decide (a = b))) := by
  rw [eqD, eqB_str ha hb]; rfl
theorem neD_str {a b : Str} (ha : sk a = true) (hb : sk b = true) : neD (.str a) (.str b) = some (.bl (!decide (a = b))) := by
  rw [neD, eqB_str ha hb]; rfl
theorem eqD_int (a b : Int) : eqD (.int a) (.int b) = some (.bl (decide (a = b))) := by
  have e : eqB (.int a) (.int b) = some (decide (a = b)) := by
    have ed : min (PyData.int a).depth (PyData.int b).depth ≤ 200 := by
      show min 0 0 ≤ 200
      decide
    show (if eqOk (.int a) (.int b) then some (PyData.eqv (.int a) (.int b)) else none) = _
    rw [if_pos ⟨rfl, rfl, ed⟩, PyData.eqv]
    rfl
  rw [eqD, e]; rfl
/-- the sign at a place -/
theorem ix_mk {l : List Nat} {i c : Nat} {S : List Ob} (h : l[i]? = some c) (hl : l.length ≤ 16777216) : ixS (.str (mkS l)) (.int i) S = some (.str (mkS [c])) := by
  show (if (mkS l).length ≤ sizeLine then (atI (mkS l).cps.toList i).map fun c => D.str ⟨#[c]⟩ else none) = _
  rw [if_pos (by rw [len_mkS, sizeLine_eq]; exact hl), atI_natZ, L_mkS, h]
  rfl
theorem inD_chr (c : Nat) (z : Str) : inD (.str (mkS [c])) (.str z) = some (.bl (decide (c ∈ L z))) := rfl
theorem addD_mk {a b : List Nat} (h : a.length + b.length ≤ 16777216) : addD (.str (mkS a)) (.str (mkS b)) = some (.str (mkS (a ++ b))) := by
  show (if (mkS a).length + (mkS b).length ≤ sizeLine then some (D.str (mkS a ++ mkS b)) else none) = _
  rw [if_pos (by rw [len_mkS, len_mkS, sizeLine_eq]; exact h), mkS_app]
theorem addIS_mk {a b : List Nat} (h : a.length + b.length ≤ 16777216) : addIS (.str (mkS a)) (.str (mkS b)) = some (.str (mkS (a ++ b))) := by
  show (if (mkS a).length + (mkS b).length ≤ sizeLine then some (D.str (mkS a ++ mkS b)) else none) = _
  rw [if_pos (by rw [len_mkS, len_mkS, sizeLine_eq]; exact h), mkS_app]
theorem addIS_int (i j : Int) : addIS (.int i) (.int j) = some (.int (i + j)) := rfl
theorem sIx_nat {n d : Nat} {i : Nat} (h : i ≤ n) : HT.sIx n d (some (i : Int)) = i := by
  unfold HT.sIx
  dsimp only
  rw [if_neg (by omega)]
  omega
theorem cutS_mid (a b c : List Nat) : cutS (mkS (a ++ b ++ c)) (some (a.length : Int)) (some ((a.length + b.length : Nat) : Int)) = mkS b := by
  unfold cutS
  rw [len_mkS, sIx_nat (by simp only [List.length_append]; omega), sIx_nat (by simp only [List.length_append]; omega), L_mkS]
  show mkS _ = mkS b
  congr 1
  rw [List.append_assoc, List.drop_left, show a.length + b.length - a.length = b.length by omega, List.take_left]
theorem slD_mid {a b c : List Nat} (h : (a ++ b ++ c).length ≤ 16777216) : slD (.str (mkS (a ++ b ++ c))) (some (a.length : Int)) (some ((a.length + b.length : Nat) : Int)) = some (.str (mkS b)) := by
  show (if (mkS (a ++ b ++ c)).length ≤ sizeLine then some (D.str (cutS _ _ _)) else none) = _
  rw [if_pos (by rw [len_mkS, sizeLine_eq]; exact h), cutS_mid]
/-- a flat row -/
theorem in_strs (a : Str) (l : List Str) : inB (.str a) (.tup (l.map .str)) = some (decide (a ∈ l)) ∧ inB (.str a) (.lst (l.map .str)) = some (decide (a ∈ l)) := by
  have h1 : (l.map D.str).all flatD = true := by induction l with
    | nil => rfl
    | cons x r ih => simp [flatD, ih]
  have h2 : inV (flatOf (.str a)) ((l.map D.str).map flatOf) = decide (a ∈ l) := by
    clear h1
    unfold inV
    rw [List.map_map, List.any_map]
    induction l with
    | nil => rfl
    | cons x r ih =>
      rw [List.any_cons, ih]
      show (x == a || _) = _
      by_cases h : x = a
      · subst h; simp
      · simp [h, Ne.symm h]
  constructor
  · show (if flatD (.str a) = true ∧ (l.map D.str).all flatD = true then some _ else none) = _
    rw [if_pos ⟨rfl, h1⟩, h2]
  · show (if flatD (.str a) = true ∧ (l.map D.str).all flatD = true then some _ else none) = _
    rw [if_pos ⟨rfl, h1⟩, h2]
theorem inD_tup (a : Str) (l : List Str) : inD (.str a) (.tup (l.map .str)) = some (.bl (decide (a ∈ l))) := by unfold inD; rw [(in_strs a l).1]; rfl
theorem inD_lst (a : Str) (l : List Str) : inD (.str a) (.lst (l.map .str)) = some (.bl (decide (a ∈ l))) := by unfold inD; rw [(in_strs a l).2]; rfl
theorem notInD_tup (a : Str) (l : List Str) : notInD (.str a) (.tup (l.map .str)) = some (.bl (!decide (a ∈ l))) := by unfold notInD; rw [(in_strs a l).1]; rfl
theorem notInD_lst (a : Str) (l : List Str) : notInD (.str a) (.lst (l.map .str)) = some (.bl (!decide (a ∈ l))) := by unfold notInD; rw [(in_strs a l).2]; rfl
theorem fv_cons (d : D) (ds : List D) : List.map Sl.val (d :: ds) = .val d :: List.map Sl.val ds := rfl
theorem fv_nil : List.map Sl.val [] = [] := rfl
/-- a while whose frames are known -/
theorem while_fun {t : Mo Bool} {b : Mo Fl} {S : List Ob} (fr : Nat → List Sl) (n : Nat) (h1 : ∀ j, j < n → t (fr j) S = .ok true (fr j) S) (h2 : ∀ j, j < n → b (fr j) S = .ok .nx (fr (j + 1)) S) (h3 : t (fr n) S = .ok false (fr n) S) :
    ∀ (k i fu : Nat), i + k = n → k < fu → whileM t b fu (fr i) S = .ok .nx (fr n) S
  | k, i, 0, _, h => by omega
  | 0, i, fu + 1, e, _ => by
    have : i = n := by omega
    subst this
    show Rs.bind (t (fr i) S) _ = _
    rw [h3]
    rfl
  | k + 1, i, fu + 1, e, h => by
    show Rs.bind (t (fr i) S) _ = _
    rw [h1 i (by omega)]
    show Rs.bind (b (fr i) S) _ = _
    rw [h2 i (by omega)]
    exact while_fun fr n h1 h2 h3 k (i + 1) fu (by omega) (by omega)
end Z
set_option Elab.async false
set_option linter.all false
set_option maxRecDepth 100000
set_option maxHeartbeats 4000000
/-! Y5: the tokens of a text. -/
namespace K70
open PySem L2 Z
theorem end_of_ok {fu rk : Nat} {S : List Ob} (T : List Nat) (i n : Nat) (z : Str) (hw : ∀ j, j < n → ∃ c, T[i + j]? = some c ∧ c ∈ L z) (hp : ∀ c, T[i + n]? = some c → c ∉ L z) (hi : i + n ≤ T.length) (hl : T.length ≤ 16777216) (hf : n < fu) :
    F_end_of fu rk [.str (mkS T), .int i, .str z] S = .ok (.d (.int ((i + n : Nat) : Int))) S := by
  have hw' := while_fun (t := Z.andM (asB (bin2 (getV 3) (blt1M lenD (getV 0)) ltD)) (asB (bin2 (ixM (getV 0) (getV 3)) (getV 2) inD))) (b := augM 3 (pure (.int 1)) addIS) (S := S)
    (fun j => [.val (.str (mkS T)), .val (.int i), .val (.str z), .val (.int ((i + j : Nat) : Int))]) n
    (fun j hj => by
      obtain ⟨c, e2, e3⟩ := hw j hj
      have e1 : decide (((i + j : Nat) : Int) < (T.length : Int)) = true := by
        rw [decide_eq_true_eq]; omega
      have e3' : decide (c ∈ L z) = true := by rw [decide_eq_true_eq]; exact e3
      simp only [Z.fv_cons, Z.fv_nil, atI_0, atI_1, atI_2, atI_3, atI_4, ixNc_0, ixNc_1, ixNc_2, ixNc_3, mo_bind, mo_pure, bind_ok, bind_exc, bind_stuck, Z.getV, Z.putV, Z.putOwn, Z.putBox, Z.rdOwn, Z.ownAt, Z.seqM, Z.asgM, Z.ifM, Z.andM, Z.orM, Z.notM, Z.asB, Z.bin2, Z.un1, Z.ofO, Z.ofS, Z.ixM, Z.blt1M, Z.blt1O, Z.deref, Z.slM, Z.slMU, Z.partM, Z.tupM, Z.lstM, Z.catM, Z.argsM, Z.callM, Z.callMU, Z.callF, Z.callU, Z.truM, Z.setIxM, Z.putIx, Z.augM, Z.fin, Z.fr0, Z.funM, Z.ltD, Z.leD, Z.gtD, Z.geD, Z.iiD, Z.iiC, Z.subD, Z.intD, List.getElem?_map, List.length_map, List.getElem?_cons_zero, List.getElem?_cons_succ, List.set_cons_zero, List.set_cons_succ, List.cons_append, List.nil_append, List.append_nil, List.replicate_succ, List.replicate_zero, if_true, if_false, Bool.false_eq_true, Option.bind_some, Option.map_some, Option.bind_none, Option.map_none, Bool.not_true, Bool.not_false, lenD_mk hl, e1, ix_mk e2 hl, inD_chr, e3'])
    (fun j hj => by
      simp only [Z.fv_cons, Z.fv_nil, atI_0, atI_1, atI_2, atI_3, atI_4, ixNc_0, ixNc_1, ixNc_2, ixNc_3, mo_bind, mo_pure, bind_ok, bind_exc, bind_stuck, Z.getV, Z.putV, Z.putOwn, Z.putBox, Z.rdOwn, Z.ownAt, Z.seqM, Z.asgM, Z.ifM, Z.andM, Z.orM, Z.notM, Z.asB, Z.bin2, Z.un1, Z.ofO, Z.ofS, Z.ixM, Z.blt1M, Z.blt1O, Z.deref, Z.slM, Z.slMU, Z.partM, Z.tupM, Z.lstM, Z.catM, Z.argsM, Z.callM, Z.callMU, Z.callF, Z.callU, Z.truM, Z.setIxM, Z.putIx, Z.augM, Z.fin, Z.fr0, Z.funM, Z.ltD, Z.leD, Z.gtD, Z.geD, Z.iiD, Z.iiC, Z.subD, Z.intD, List.getElem?_map, List.length_map, List.getElem?_cons_zero, List.getElem?_cons_succ, List.set_cons_zero, List.set_cons_succ, List.cons_append, List.nil_append, List.append_nil, List.replicate_succ, List.replicate_zero, if_true, if_false, Bool.false_eq_true, Option.bind_some, Option.map_some, Option.bind_none, Option.map_none, Bool.not_true, Bool.not_false, addIS_int]
      rfl)
    (by
      cases e : T[i + n]? with
      | none =>
        have e1 : decide (((i + n : Nat) : Int) < (T.length : Int)) = false := by
          have := List.getElem?_eq_none_iff.mp e
          rw [decide_eq_false_iff_not]; omega
        simp only [Z.fv_cons, Z.fv_nil, atI_0, atI_1, atI_2, atI_3, atI_4, ixNc_0, ixNc_1, ixNc_2, ixNc_3, mo_bind, mo_pure, bind_ok, bind_exc, bind_stuck, Z.getV, Z.putV, Z.putOwn, Z.putBox, Z.rdOwn, Z.ownAt, Z.seqM, Z.asgM, Z.ifM, Z.andM, Z.orM, Z.notM, Z.asB, Z.bin2, Z.un1, Z.ofO, Z.ofS, Z.ixM, Z.blt1M, Z.blt1O, Z.deref, Z.slM, Z.slMU, Z.partM, Z.tupM, Z.lstM, Z.catM, Z.argsM, Z.callM, Z.callMU, Z.callF, Z.callU, Z.truM, Z.setIxM, Z.putIx, Z.augM, Z.fin, Z.fr0, Z.funM, Z.ltD, Z.leD, Z.gtD, Z.geD, Z.iiD, Z.iiC, Z.subD, Z.intD, List.getElem?_map, List.length_map, List.getElem?_cons_zero, List.getElem?_cons_succ, List.set_cons_zero, List.set_cons_succ, List.cons_append, List.nil_append, List.append_nil, List.replicate_succ, List.replicate_zero, if_true, if_false, Bool.false_eq_true, Option.bind_some, Option.map_some, Option.bind_none, Option.map_none, Bool.not_true, Bool.not_false, lenD_mk hl, e1]
      | some c =>
        have e1 : decide (((i + n : Nat) : Int) < (T.length : Int)) = true := by
          have := (List.getElem?_eq_some_iff.mp e).1
          rw [decide_eq_true_eq]; omega
        have e3 : decide (c ∈ L z) = false := by rw [decide_eq_false_iff_not]; exact hp c e
        simp only [Z.fv_cons, Z.fv_nil, atI_0, atI_1, atI_2, atI_3, atI_4, ixNc_0, ixNc_1, ixNc_2, ixNc_3, mo_bind, mo_pure, bind_ok, bind_exc, bind_stuck, Z.getV, Z.putV, Z.putOwn, Z.putBox, Z.rdOwn, Z.ownAt, Z.seqM, Z.asgM, Z.ifM, Z.andM, Z.orM, Z.notM, Z.asB, Z.bin2, Z.un1, Z.ofO, Z.ofS, Z.ixM, Z.blt1M, Z.blt1O, Z.deref, Z.slM, Z.slMU, Z.partM, Z.tupM, Z.lstM, Z.catM, Z.argsM, Z.callM, Z.callMU, Z.callF, Z.callU, Z.truM, Z.setIxM, Z.putIx, Z.augM, Z.fin, Z.fr0, Z.funM, Z.ltD, Z.leD, Z.gtD, Z.geD, Z.iiD, Z.iiC, Z.subD, Z.intD, List.getElem?_map, List.length_map, List.getElem?_cons_zero, List.getElem?_cons_succ, List.set_cons_zero, List.set_cons_succ, List.cons_append, List.nil_append, List.append_nil, List.replicate_succ, List.replicate_zero, if_true, if_false, Bool.false_eq_true, Option.bind_some, Option.map_some, Option.bind_none, Option.map_none, Bool.not_true, Bool.not_false, lenD_mk hl, e1, ix_mk e hl, inD_chr, e3])
    n 0 fu (by omega) hf
  unfold F_end_of M_end_of
  simp only [Nat.add_zero, Z.fv_cons, Z.fv_nil, atI_0, atI_1, atI_2, atI_3, atI_4, ixNc_0, ixNc_1, ixNc_2, ixNc_3, mo_bind, mo_pure, bind_ok, bind_exc, bind_stuck, Z.getV, Z.putV, Z.putOwn, Z.putBox, Z.rdOwn, Z.ownAt, Z.seqM, Z.asgM, Z.ifM, Z.andM, Z.orM, Z.notM, Z.asB, Z.bin2, Z.un1, Z.ofO, Z.ofS, Z.ixM, Z.blt1M, Z.blt1O, Z.deref, Z.slM, Z.slMU, Z.partM, Z.tupM, Z.lstM, Z.catM, Z.argsM, Z.callM, Z.callMU, Z.callF, Z.callU, Z.truM, Z.setIxM, Z.putIx, Z.augM, Z.fin, Z.fr0, Z.funM, Z.ltD, Z.leD, Z.gtD, Z.geD, Z.iiD, Z.iiC, Z.subD, Z.intD, List.getElem?_map, List.length_map, List.getElem?_cons_zero, List.getElem?_cons_succ, List.set_cons_zero, List.set_cons_succ, List.cons_append, List.nil_append, List.append_nil, List.replicate_succ, List.replicate_zero, if_true, if_false, Bool.false_eq_true, Option.bind_some, Option.map_some, Option.bind_none, Option.map_none, Bool.not_true, Bool.not_false] at hw'
  simp only [Z.fv_cons, Z.fv_nil, atI_0, atI_1, atI_2, atI_3, atI_4, ixNc_0, ixNc_1, ixNc_2, ixNc_3, mo_bind, mo_pure, bind_ok, bind_exc, bind_stuck, Z.getV, Z.putV, Z.putOwn, Z.putBox, Z.rdOwn, Z.ownAt, Z.seqM, Z.asgM, Z.ifM, Z.andM, Z.orM, Z.notM, Z.asB, Z.bin2, Z.un1, Z.ofO, Z.ofS, Z.ixM, Z.blt1M, Z.blt1O, Z.deref, Z.slM, Z.slMU, Z.partM, Z.tupM, Z.lstM, Z.catM, Z.argsM, Z.callM, Z.callMU, Z.callF, Z.callU, Z.truM, Z.setIxM, Z.putIx, Z.augM, Z.fin, Z.fr0, Z.funM, Z.ltD, Z.leD, Z.gtD, Z.geD, Z.iiD, Z.iiC, Z.subD, Z.intD, List.getElem?_map, List.length_map, List.getElem?_cons_zero, List.getElem?_cons_succ, List.set_cons_zero, List.set_cons_succ, List.cons_append, List.nil_append, List.append_nil, List.replicate_succ, List.replicate_zero, if_true, if_false, Bool.false_eq_true, Option.bind_some, Option.map_some, Option.bind_none, Option.map_none, Bool.not_true, Bool.not_false, hw']
def lettersS : Str := "abcdefghijklmnopqrstuvwxyz"
def digitsS : Str := "0123456789"
def signsS : Str := "()[].,:;&|"
def isLt (c : Nat) : Bool := decide (97 ≤ c) && decide (c ≤ 122)
def isDg (c : Nat) : Bool := decide (48 ≤ c) && decide (c ≤ 57)
def isSg (c : Nat) : Bool := [40, 41, 91, 93, 46, 44, 58, 59, 38, 124].contains c
theorem letters_mem (c : Nat) : c ∈ L lettersS ↔ isLt c = true := by
  have e : L lettersS = [97, 98, 99, 100, 101, 102, 103, 104, 105, 106, 107, 108, 109, 110, 111, 112, 113, 114, 115, 116, 117, 118, 119, 120, 121, 122] := by decide +kernel
  rw [e]
  simp [isLt]
  omega
theorem digits_mem (c : Nat) : c ∈ L digitsS ↔ isDg c = true := by
  have e : L digitsS = [48, 49, 50, 51, 52, 53, 54, 55, 56, 57] := by decide +kernel
  rw [e]
  simp [isDg]
  omega
theorem signs_mem (c : Nat) : c ∈ L signsS ↔ isSg c = true := by
  have e : L signsS = [40, 41, 91, 93, 46, 44, 58, 59, 38, 124] := by decide +kernel
  rw [e]
  simp [isSg]
def reservedL : List Str := ["con", "rule", "ask", "if", "true", "some", "all", "given", "same", "match", "steps", "many", "height"]
/-- the kind of a word -/
def kindW (w : List Nat) : Str := if mkS w ∈ reservedL then mkS w else "word"
def kindN (w : List Nat) : Str := if w.head? = some 48 ∧ 1 < w.length then "bad" else "number"
/-- a token at the head of a text, its kind, the text behind it -/
inductive Tok : List Nat → Str → List Nat → Prop
  | word {w r} : w ≠ [] → (∀ c ∈ w, isLt c = true) → (∀ c, r.head? = some c → isLt c = false) → Tok w (kindW w) r
  | num {w r} : w ≠ [] → (∀ c ∈ w, isDg c = true) → (∀ c, r.head? = some c → isDg c = false) → Tok w (kindN w) r
  | sign {c r} : isSg c = true → Tok [c] (mkS [c]) r
  | arrow {r} : Tok [45, 62] "->" r
theorem get_mid {T a b c : List Nat} (h : T = a ++ b ++ c) (j : Nat) (hj : j < b.length) : T[a.length + j]? = some b[j] := by
  subst h
  rw [List.append_assoc, List.getElem?_append_right (by omega), show a.length + j - a.length = j by omega, List.getElem?_append_left hj, List.getElem?_eq_getElem hj]
theorem get_post {T a b c : List Nat} (h : T = a ++ b ++ c) : T[a.length + b.length]? = c.head? := by
  subst h
  rw [List.getElem?_append_right (by simp)]
  simp [List.head?_eq_getElem?]
theorem inD_chr' (c : Nat) (z : Str) (b : Bool) (h : c ∈ L z ↔ b = true) : inD (.str (mkS [c])) (.str z) = some (.bl b) := by
  rw [inD_chr]
  cases b with
  | true => rw [decide_eq_true (h.mpr rfl)]
  | false => rw [decide_eq_false (fun x => by cases h.mp x)]
theorem inD_let (c : Nat) : inD (.str (mkS [c])) (.str "abcdefghijklmnopqrstuvwxyz") = some (.bl (isLt c)) := inD_chr' c lettersS _ (letters_mem c)
theorem inD_dig (c : Nat) : inD (.str (mkS [c])) (.str "0123456789") = some (.bl (isDg c)) := inD_chr' c digitsS _ (digits_mem c)
theorem inD_sig (c : Nat) : inD (.str (mkS [c])) (.str "()[].,:;&|") = some (.bl (isSg c)) := inD_chr' c signsS _ (signs_mem c)
theorem isLt_dg {c : Nat} (h : isDg c = true) : isLt c = false := by
  simp [isLt, isDg] at *
  omega
theorem isSg_lt {c : Nat} (h : isSg c = true) : isLt c = false ∧ isDg c = false := by
  simp [isLt, isDg, isSg] at *
  omega
end K70
set_option Elab.async false
set_option linter.all false
set_option maxRecDepth 100000
set_option maxHeartbeats 4000000
/-! Y6: one token; tokens_of. -/
namespace K70
open PySem L2 Z
theorem inD_res (w : List Nat) : inD (.str (mkS w)) (.tup ((["con", "rule", "ask", "if", "true", "some", "all", "given", "same", "match", "steps", "many", "height"] : List Str).map D.str)) = some (.bl (decide (mkS w ∈ reservedL))) := inD_tup _ _
theorem gtD_nat (i j : Nat) : gtD (.int i) (.int j) = some (.bl (decide (j < i))) := by
  show some (D.bl (decide ((j : Int) < (i : Int)))) = _
  rw [show decide ((j : Int) < (i : Int)) = decide (j < i) by simp]
theorem token_at_ok {fu rk : Nat} {S : List Ob} {T pre w post : List Nat} {kind : Str} (ht : Tok w kind post) (hT : T = pre ++ w ++ post) (hl : T.length ≤ 16777216) (hf : w.length < fu) :
    F_token_at fu rk [.str (mkS T), .int pre.length] S = .ok (.d (.tup [.str kind, .int ((pre.length + w.length : Nat) : Int)])) S := by
  have hlen : T.length = pre.length + w.length + post.length := by rw [hT]; simp only [List.length_append]
  have g := get_mid hT
  have gp := get_post hT
  have sl : slD (.str (mkS T)) (some (pre.length : Int)) (some ((pre.length + w.length : Nat) : Int)) = some (.str (mkS w)) := by
    rw [hT]; exact slD_mid (by rw [← hT]; exact hl)
  unfold F_token_at M_token_at
  cases ht with
  | word h0 h1 h2 =>
    have hw : 0 < w.length := List.length_pos_iff.mpr h0
    have g0 := g 0 hw
    rw [Nat.add_zero] at g0
    have c1 : isLt w[0] = true := h1 _ (List.getElem_mem _)
    have ee := end_of_ok (fu := fu) (rk := rk) (S := S) T pre.length w.length "abcdefghijklmnopqrstuvwxyz" (fun j hj => ⟨_, g j hj, (letters_mem _).mpr (h1 _ (List.getElem_mem _))⟩)
      (fun c hc hm => by rw [gp] at hc; have := h2 c hc; rw [(letters_mem c).mp hm] at this; cases this) (by omega) hl hf
    unfold kindW
    by_cases hr : mkS w ∈ reservedL
    · have d : decide (mkS w ∈ reservedL) = true := decide_eq_true hr
      simp only [Z.fv_cons, Z.fv_nil, atI_0, atI_1, atI_2, atI_3, atI_4, ixNc_0, ixNc_1, ixNc_2, ixNc_3, mo_bind, mo_pure, bind_ok, bind_exc, bind_stuck, Z.getV, Z.putV, Z.putOwn, Z.putBox, Z.rdOwn, Z.ownAt, Z.seqM, Z.asgM, Z.ifM, Z.andM, Z.orM, Z.notM, Z.asB, Z.bin2, Z.un1, Z.ofO, Z.ofS, Z.ixM, Z.blt1M, Z.blt1O, Z.deref, Z.slM, Z.slMU, Z.partM, Z.tupM, Z.lstM, Z.catM, Z.argsM, Z.callM, Z.callMU, Z.callF, Z.callU, Z.truM, Z.setIxM, Z.putIx, Z.augM, Z.fin, Z.fr0, Z.funM, Z.ltD, Z.leD, Z.gtD, Z.geD, Z.iiD, Z.iiC, Z.subD, Z.intD, List.getElem?_map, List.length_map, List.getElem?_cons_zero, List.getElem?_cons_succ, List.set_cons_zero, List.set_cons_succ, List.cons_append, List.nil_append, List.append_nil, List.replicate_succ, List.replicate_zero, if_true, if_false, Bool.false_eq_true, Option.bind_some, Option.map_some, Option.bind_none, Option.map_none, Bool.not_true, Bool.not_false, ix_mk g0 hl, inD_let, c1, ee, sl, inD_res, d, if_pos hr]
    · have d : decide (mkS w ∈ reservedL) = false := decide_eq_false hr
      simp only [Z.fv_cons, Z.fv_nil, atI_0, atI_1, atI_2, atI_3, atI_4, ixNc_0, ixNc_1, ixNc_2, ixNc_3, mo_bind, mo_pure, bind_ok, bind_exc, bind_stuck, Z.getV, Z.putV, Z.putOwn, Z.putBox, Z.rdOwn, Z.ownAt, Z.seqM, Z.asgM, Z.ifM, Z.andM, Z.orM, Z.notM, Z.asB, Z.bin2, Z.un1, Z.ofO, Z.ofS, Z.ixM, Z.blt1M, Z.blt1O, Z.deref, Z.slM, Z.slMU, Z.partM, Z.tupM, Z.lstM, Z.catM, Z.argsM, Z.callM, Z.callMU, Z.callF, Z.callU, Z.truM, Z.setIxM, Z.putIx, Z.augM, Z.fin, Z.fr0, Z.funM, Z.ltD, Z.leD, Z.gtD, Z.geD, Z.iiD, Z.iiC, Z.subD, Z.intD, List.getElem?_map, List.length_map, List.getElem?_cons_zero, List.getElem?_cons_succ, List.set_cons_zero, List.set_cons_succ, List.cons_append, List.nil_append, List.append_nil, List.replicate_succ, List.replicate_zero, if_true, if_false, Bool.false_eq_true, Option.bind_some, Option.map_some, Option.bind_none, Option.map_none, Bool.not_true, Bool.not_false, ix_mk g0 hl, inD_let, c1, ee, sl, inD_res, d, if_neg hr]
  | num h0 h1 h2 =>
    have hw : 0 < w.length := List.length_pos_iff.mpr h0
    have g0 := g 0 hw
    rw [Nat.add_zero] at g0
    have c1 : isDg w[0] = true := h1 _ (List.getElem_mem _)
    have c2 := isLt_dg c1
    have ee := end_of_ok (fu := fu) (rk := rk) (S := S) T pre.length w.length "0123456789" (fun j hj => ⟨_, g j hj, (digits_mem _).mpr (h1 _ (List.getElem_mem _))⟩)
      (fun c hc hm => by rw [gp] at hc; have := h2 c hc; rw [(digits_mem c).mp hm] at this; cases this) (by omega) hl hf
    have e0 : eqD (.str (mkS [w[0]])) (.str "0") = some (.bl (decide (w[0] = 48))) := by
      rw [eqD_str (sk_mk (by simp; simp [isDg] at c1; omega)) (by decide +kernel), show ("0" : Str) = mkS [48] by decide +kernel]
      congr 3
      rw [mkS_inj]
      simp
    have e1 : decide ((pre.length : Int) + 1 < ((pre.length + w.length : Nat) : Int)) = decide (1 < w.length) := by rw [decide_eq_decide]; omega
    have hh : w.head? = some w[0] := by cases w <;> simp_all
    unfold kindN
    rw [hh]
    by_cases z : w[0] = 48
    · by_cases z2 : 1 < w.length
      · have d1 : decide (w[0] = 48) = true := decide_eq_true z
        have d2 : decide (1 < w.length) = true := decide_eq_true z2
        have hk : (some w[0] = some 48 ∧ 1 < w.length) := ⟨by rw [z], z2⟩
        simp only [Z.fv_cons, Z.fv_nil, atI_0, atI_1, atI_2, atI_3, atI_4, ixNc_0, ixNc_1, ixNc_2, ixNc_3, mo_bind, mo_pure, bind_ok, bind_exc, bind_stuck, Z.getV, Z.putV, Z.putOwn, Z.putBox, Z.rdOwn, Z.ownAt, Z.seqM, Z.asgM, Z.ifM, Z.andM, Z.orM, Z.notM, Z.asB, Z.bin2, Z.un1, Z.ofO, Z.ofS, Z.ixM, Z.blt1M, Z.blt1O, Z.deref, Z.slM, Z.slMU, Z.partM, Z.tupM, Z.lstM, Z.catM, Z.argsM, Z.callM, Z.callMU, Z.callF, Z.callU, Z.truM, Z.setIxM, Z.putIx, Z.augM, Z.fin, Z.fr0, Z.funM, Z.ltD, Z.leD, Z.gtD, Z.geD, Z.iiD, Z.iiC, Z.subD, Z.intD, List.getElem?_map, List.length_map, List.getElem?_cons_zero, List.getElem?_cons_succ, List.set_cons_zero, List.set_cons_succ, List.cons_append, List.nil_append, List.append_nil, List.replicate_succ, List.replicate_zero, if_true, if_false, Bool.false_eq_true, Option.bind_some, Option.map_some, Option.bind_none, Option.map_none, Bool.not_true, Bool.not_false, ix_mk g0 hl, inD_let, inD_dig, c1, c2, ee, e0, d1, d2, add_ii, e1, if_pos hk]
      · have d1 : decide (w[0] = 48) = true := decide_eq_true z
        have d2 : decide (1 < w.length) = false := decide_eq_false z2
        have hk : ¬(some w[0] = some 48 ∧ 1 < w.length) := fun h => z2 h.2
        simp only [Z.fv_cons, Z.fv_nil, atI_0, atI_1, atI_2, atI_3, atI_4, ixNc_0, ixNc_1, ixNc_2, ixNc_3, mo_bind, mo_pure, bind_ok, bind_exc, bind_stuck, Z.getV, Z.putV, Z.putOwn, Z.putBox, Z.rdOwn, Z.ownAt, Z.seqM, Z.asgM, Z.ifM, Z.andM, Z.orM, Z.notM, Z.asB, Z.bin2, Z.un1, Z.ofO, Z.ofS, Z.ixM, Z.blt1M, Z.blt1O, Z.deref, Z.slM, Z.slMU, Z.partM, Z.tupM, Z.lstM, Z.catM, Z.argsM, Z.callM, Z.callMU, Z.callF, Z.callU, Z.truM, Z.setIxM, Z.putIx, Z.augM, Z.fin, Z.fr0, Z.funM, Z.ltD, Z.leD, Z.gtD, Z.geD, Z.iiD, Z.iiC, Z.subD, Z.intD, List.getElem?_map, List.length_map, List.getElem?_cons_zero, List.getElem?_cons_succ, List.set_cons_zero, List.set_cons_succ, List.cons_append, List.nil_append, List.append_nil, List.replicate_succ, List.replicate_zero, if_true, if_false, Bool.false_eq_true, Option.bind_some, Option.map_some, Option.bind_none, Option.map_none, Bool.not_true, Bool.not_false, ix_mk g0 hl, inD_let, inD_dig, c1, c2, ee, e0, d1, d2, add_ii, e1, if_neg hk]
    · have d1 : decide (w[0] = 48) = false := decide_eq_false z
      have hk : ¬(some w[0] = some 48 ∧ 1 < w.length) := fun h => z (by injection h.1)
      simp only [Z.fv_cons, Z.fv_nil, atI_0, atI_1, atI_2, atI_3, atI_4, ixNc_0, ixNc_1, ixNc_2, ixNc_3, mo_bind, mo_pure, bind_ok, bind_exc, bind_stuck, Z.getV, Z.putV, Z.putOwn, Z.putBox, Z.rdOwn, Z.ownAt, Z.seqM, Z.asgM, Z.ifM, Z.andM, Z.orM, Z.notM, Z.asB, Z.bin2, Z.un1, Z.ofO, Z.ofS, Z.ixM, Z.blt1M, Z.blt1O, Z.deref, Z.slM, Z.slMU, Z.partM, Z.tupM, Z.lstM, Z.catM, Z.argsM, Z.callM, Z.callMU, Z.callF, Z.callU, Z.truM, Z.setIxM, Z.putIx, Z.augM, Z.fin, Z.fr0, Z.funM, Z.ltD, Z.leD, Z.gtD, Z.geD, Z.iiD, Z.iiC, Z.subD, Z.intD, List.getElem?_map, List.length_map, List.getElem?_cons_zero, List.getElem?_cons_succ, List.set_cons_zero, List.set_cons_succ, List.cons_append, List.nil_append, List.append_nil, List.replicate_succ, List.replicate_zero, if_true, if_false, Bool.false_eq_true, Option.bind_some, Option.map_some, Option.bind_none, Option.map_none, Bool.not_true, Bool.not_false, ix_mk g0 hl, inD_let, inD_dig, c1, c2, ee, e0, d1, add_ii, if_neg hk]
  | @sign c r hc =>
    have g0 := g 0 (by simp)
    rw [Nat.add_zero] at g0
    have g1 : T[pre.length]? = some c := g0
    obtain ⟨c1, c2⟩ := isSg_lt hc
    simp only [Z.fv_cons, Z.fv_nil, atI_0, atI_1, atI_2, atI_3, atI_4, ixNc_0, ixNc_1, ixNc_2, ixNc_3, mo_bind, mo_pure, bind_ok, bind_exc, bind_stuck, Z.getV, Z.putV, Z.putOwn, Z.putBox, Z.rdOwn, Z.ownAt, Z.seqM, Z.asgM, Z.ifM, Z.andM, Z.orM, Z.notM, Z.asB, Z.bin2, Z.un1, Z.ofO, Z.ofS, Z.ixM, Z.blt1M, Z.blt1O, Z.deref, Z.slM, Z.slMU, Z.partM, Z.tupM, Z.lstM, Z.catM, Z.argsM, Z.callM, Z.callMU, Z.callF, Z.callU, Z.truM, Z.setIxM, Z.putIx, Z.augM, Z.fin, Z.fr0, Z.funM, Z.ltD, Z.leD, Z.gtD, Z.geD, Z.iiD, Z.iiC, Z.subD, Z.intD, List.getElem?_map, List.length_map, List.getElem?_cons_zero, List.getElem?_cons_succ, List.set_cons_zero, List.set_cons_succ, List.cons_append, List.nil_append, List.append_nil, List.replicate_succ, List.replicate_zero, if_true, if_false, Bool.false_eq_true, Option.bind_some, Option.map_some, Option.bind_none, Option.map_none, Bool.not_true, Bool.not_false, ix_mk g1 hl, inD_let, inD_dig, inD_sig, c1, c2, hc, add_ii, List.length_singleton]
    rfl
  | arrow =>
    have g0 := g 0 (by simp)
    rw [Nat.add_zero] at g0
    have g1 : T[pre.length]? = some 45 := g0
    have c1 : isLt 45 = false := by decide
    have c2 : isDg 45 = false := by decide
    have c3 : isSg 45 = false := by decide
    have e1 : ((pre.length : Int) + 2) = ((pre.length + [45, 62].length : Nat) : Int) := rfl
    have e2 : eqD (.str (mkS [45, 62])) (.str "->") = some (.bl true) := by
      rw [eqD_str (sk_mk (by simp)) (by decide +kernel), show ("->" : Str) = mkS [45, 62] by decide +kernel]
      simp
    simp only [Z.fv_cons, Z.fv_nil, atI_0, atI_1, atI_2, atI_3, atI_4, ixNc_0, ixNc_1, ixNc_2, ixNc_3, mo_bind, mo_pure, bind_ok, bind_exc, bind_stuck, Z.getV, Z.putV, Z.putOwn, Z.putBox, Z.rdOwn, Z.ownAt, Z.seqM, Z.asgM, Z.ifM, Z.andM, Z.orM, Z.notM, Z.asB, Z.bin2, Z.un1, Z.ofO, Z.ofS, Z.ixM, Z.blt1M, Z.blt1O, Z.deref, Z.slM, Z.slMU, Z.partM, Z.tupM, Z.lstM, Z.catM, Z.argsM, Z.callM, Z.callMU, Z.callF, Z.callU, Z.truM, Z.setIxM, Z.putIx, Z.augM, Z.fin, Z.fr0, Z.funM, Z.ltD, Z.leD, Z.gtD, Z.geD, Z.iiD, Z.iiC, Z.subD, Z.intD, List.getElem?_map, List.length_map, List.getElem?_cons_zero, List.getElem?_cons_succ, List.set_cons_zero, List.set_cons_succ, List.cons_append, List.nil_append, List.append_nil, List.replicate_succ, List.replicate_zero, if_true, if_false, Bool.false_eq_true, Option.bind_some, Option.map_some, Option.bind_none, Option.map_none, Bool.not_true, Bool.not_false, ix_mk g1 hl, inD_let, inD_dig, inD_sig, c1, c2, c3, add_ii, e1, sl, e2]
end K70
set_option Elab.async false
set_option linter.all false
set_option maxRecDepth 100000
set_option maxHeartbeats 4000000
/-! Y7: tokens_of. -/
namespace K70
open PySem L2 Z
def isBl (c : Nat) : Bool := c == 32 || c == 10
/-- a sign that begins no token -/
def isBad (c : Nat) : Bool := !isLt c && !isDg c && !isSg c && !isBl c && !(c == 45) && decide (c < 128)
/-- a text, its tokens -/
inductive Items : List Nat → List (Str × List Nat) → Prop
  | nil : Items [] []
  | blank {c r o} : isBl c = true → Items r o → Items (c :: r) o
  | tok {w kind r o} : Tok w kind r → Items r o → Items (w ++ r) ((kind, w) :: o)
  | bad {c r o} : isBad c = true → (∀ d, r.head? = some d → isBl d = true) → Items r o → Items (c :: r) (("bad", [c]) :: o)
theorem bad_at {fu rk : Nat} {S : List Ob} {T : List Nat} {i c : Nat} (h : T[i]? = some c) (hb : isBad c = true) (hl : T.length ≤ 16777216) (hA : ∀ c ∈ T, c < 128) : F_token_at fu rk [.str (mkS T), .int i] S = .ok (.d (.tup [.str "", .int i])) S := by
  have hi : i < T.length := (List.getElem?_eq_some_iff.mp h).1
  simp only [isBad, Bool.and_eq_true, Bool.not_eq_true', decide_eq_true_eq] at hb
  obtain ⟨⟨⟨⟨⟨c1, c2⟩, c3⟩, c4⟩, c5⟩, c6⟩ := hb
  have sl : slD (.str (mkS T)) (some (i : Int)) (some ((i : Int) + 2)) = some (.str (mkS ((T.drop i).take (min (i + 2) T.length - i)))) := by
    show (if (mkS T).length ≤ sizeLine then some (D.str (cutS (mkS T) _ _)) else none) = _
    rw [if_pos (by rw [len_mkS, sizeLine_eq]; exact hl)]
    unfold cutS
    rw [len_mkS, sIx_nat (by omega), L_mkS]
    have : HT.sIx T.length T.length (some ((i : Int) + 2)) = min (i + 2) T.length := by
      unfold HT.sIx
      dsimp only
      rw [if_neg (by omega)]
      omega
    rw [this]
    rfl
  have e2 : decide (mkS ((T.drop i).take (min (i + 2) T.length - i)) = (("->" : Str))) = false := by
    rw [show ("->" : Str) = mkS [45, 62] by decide +kernel]
    rw [decide_eq_false_iff_not, mkS_inj]
    intro e
    have : ((T.drop i).take (min (i + 2) T.length - i))[0]? = some c := by
      rw [List.getElem?_take_of_lt (by omega), List.getElem?_drop, Nat.add_zero]
      exact h
    rw [e] at this
    simp at this
    rw [← this] at c5
    simp at c5
  have hsk : sk (mkS ((T.drop i).take (min (i + 2) T.length - i))) = true := sk_mk fun x hx => hA x (List.mem_of_mem_drop (List.mem_of_mem_take hx))
  unfold F_token_at M_token_at
  simp only [Z.fv_cons, Z.fv_nil, atI_0, atI_1, atI_2, atI_3, atI_4, ixNc_0, ixNc_1, ixNc_2, ixNc_3, mo_bind, mo_pure, bind_ok, bind_exc, bind_stuck, Z.getV, Z.putV, Z.putOwn, Z.putBox, Z.rdOwn, Z.ownAt, Z.seqM, Z.asgM, Z.ifM, Z.andM, Z.orM, Z.notM, Z.asB, Z.bin2, Z.un1, Z.ofO, Z.ofS, Z.ixM, Z.blt1M, Z.blt1O, Z.deref, Z.slM, Z.slMU, Z.partM, Z.tupM, Z.lstM, Z.catM, Z.argsM, Z.callM, Z.callMU, Z.callF, Z.callU, Z.truM, Z.setIxM, Z.putIx, Z.augM, Z.fin, Z.fr0, Z.funM, Z.ltD, Z.leD, Z.gtD, Z.geD, Z.iiD, Z.iiC, Z.subD, Z.intD, List.getElem?_map, List.length_map, List.getElem?_cons_zero, List.getElem?_cons_succ, List.set_cons_zero, List.set_cons_succ, List.cons_append, List.nil_append, List.append_nil, List.replicate_succ, List.replicate_zero, if_true, if_false, Bool.false_eq_true, Option.bind_some, Option.map_some, Option.bind_none, Option.map_none, Bool.not_true, Bool.not_false, ix_mk h hl, inD_let, inD_dig, inD_sig, c1, c2, c3, add_ii, sl, eqD_str hsk (show sk "->" = true by decide +kernel), e2]
theorem whileM_succ (t : Mo Bool) (b : Mo Fl) (n : Nat) : whileM t b (n + 1) = ifM t (turnM b (whileM t b n)) (pure .nx) := rfl
theorem chr_blank {c : Nat} (h : c < 128) : eqD (.str (mkS [c])) (.str " ") = some (.bl (c == 32)) ∧ eqD (.str (mkS [c])) (.str "\n") = some (.bl (c == 10)) ∧ neD (.str (mkS [c])) (.str " ") = some (.bl (!(c == 32))) ∧ neD (.str (mkS [c])) (.str "\n") = some (.bl (!(c == 10))) := by
  have h1 : sk (mkS [c]) = true := sk_mk (by simpa using h)
  have e1 : decide (mkS [c] = (" " : Str)) = (c == 32) := by
    rw [show (" " : Str) = mkS [32] by decide +kernel, dec_mk]
    by_cases z : c = 32 <;> simp [z]
  have e2 : decide (mkS [c] = ("\n" : Str)) = (c == 10) := by
    rw [show ("\n" : Str) = mkS [10] by decide +kernel, dec_mk]
    by_cases z : c = 10 <;> simp [z]
  rw [eqD_str h1 (by decide +kernel), eqD_str h1 (by decide +kernel), neD_str h1 (by decide +kernel), neD_str h1 (by decide +kernel), e1, e2]
  exact ⟨rfl, rfl, rfl, rfl⟩
theorem kind_ne {w r : List Nat} {kind : Str} (h : Tok w kind r) (hw : ∀ c ∈ w, c < 128) : sk kind = true ∧ decide (kind = "") = false := by
  have emp : ("" : Str) = mkS [] := by decide +kernel
  cases h with
  | word h0 h1 h2 =>
    unfold kindW
    split
    · refine ⟨sk_mk hw, ?_⟩
      rw [emp, dec_mk]
      simp [h0]
    · exact ⟨by decide +kernel, by decide +kernel⟩
  | num h0 h1 h2 =>
    unfold kindN
    split
    · exact ⟨by decide +kernel, by decide +kernel⟩
    · exact ⟨by decide +kernel, by decide +kernel⟩
  | sign h1 =>
    refine ⟨sk_mk hw, ?_⟩
    rw [emp, dec_mk]
    simp
  | arrow => exact ⟨by decide +kernel, by decide +kernel⟩
theorem tok_loop {fu rk : Nat} {S : List Ob} {T : List Nat} (hl : T.length ≤ 16777216) (hA : ∀ c ∈ T, c < 128) : ∀ {r : List Nat} {o : List (Str × List Nat)}, Items r o → ∀ (pre : List Nat) (n : Nat) (found : List D) (s3 s4 : Sl), T = pre ++ r → r.length < n → r.length < fu → found.length + o.length ≤ 16777216 →
    ∃ s3' s4', whileM (asB (bin2 (getV 2) (blt1M lenD (getV 0)) ltD)) (seqM (ifM (Z.orM (asB (bin2 (ixM (getV 0) (getV 2)) (pure (.str " ")) eqD)) (asB (bin2 (ixM (getV 0) (getV 2)) (pure (.str "\n")) eqD))) (seqM (augM 2 (pure (.int 1)) addIS)
    (pure .ct)) (pure .nx))
    (seqM (asgM (callM (F_token_at fu rk) [(getV 0), (getV 2)] []) (tgTup 2 (tgCons (putV 3) (tgCons (putV 4) tgNil))))
    (seqM (ifM (asB (bin2 (getV 3) (pure (.str "")) eqD)) (seqM (asgM (pure (.str "bad")) (putV 3))
    (seqM (asgM (bin2 (getV 2) (pure (.int 1)) addD) (putV 4))
    (whileM (Z.andM (asB (bin2 (getV 4) (blt1M lenD (getV 0)) ltD)) (Z.andM (asB (bin2 (ixM (getV 0) (getV 4)) (pure (.str " ")) neD)) (Z.andM (asB (bin2 (ixM (getV 0) (getV 4)) (pure (.str "\n")) neD)) (asB (bin2 (ixM (callM (F_token_at fu rk) [(getV 0), (getV 4)] []) (pure (.int 0))) (pure (.str "")) eqD))))) (augM 4 (pure (.int 1)) addIS) fu))) (pure .nx))
    (seqM ((appM 1 (tupM [(getV 3), (slM (getV 0) (partM (getV 2)) (partM (getV 4)))])) >>= fun _ => pure .nx)
    (asgM (getV 4) (putV 2)))))) n [.val (.str (mkS T)), .own found, .val (.int pre.length), s3, s4] S = .ok .nx [.val (.str (mkS T)), .own (found ++ o.map fun p => .tup [.str p.1, .str (mkS p.2)]), .val (.int T.length), s3', s4'] S := by
  intro r o h
  induction h with
  | nil =>
    intro pre n found s3 s4 hT hn hf ho
    obtain ⟨n, rfl⟩ : ∃ m, n = m + 1 := ⟨n - 1, by omega⟩
    rw [List.append_nil] at hT
    subst hT
    have e1 : decide ((T.length : Int) < (T.length : Int)) = false := by simp
    refine ⟨s3, s4, ?_⟩
    rw [whileM_succ]
    simp only [Z.fv_cons, Z.fv_nil, atI_0, atI_1, atI_2, atI_3, atI_4, ixNc_0, ixNc_1, ixNc_2, ixNc_3, mo_bind, mo_pure, bind_ok, bind_exc, bind_stuck, Z.getV, Z.putV, Z.putOwn, Z.putBox, Z.rdOwn, Z.ownAt, Z.seqM, Z.asgM, Z.ifM, Z.andM, Z.orM, Z.notM, Z.asB, Z.bin2, Z.un1, Z.ofO, Z.ofS, Z.ixM, Z.blt1M, Z.blt1O, Z.deref, Z.slM, Z.slMU, Z.partM, Z.tupM, Z.lstM, Z.catM, Z.argsM, Z.callM, Z.callMU, Z.callF, Z.callU, Z.truM, Z.setIxM, Z.putIx, Z.augM, Z.fin, Z.fr0, Z.funM, Z.ltD, Z.leD, Z.gtD, Z.geD, Z.iiD, Z.iiC, Z.subD, Z.intD, List.getElem?_map, List.length_map, List.getElem?_cons_zero, List.getElem?_cons_succ, List.set_cons_zero, List.set_cons_succ, List.cons_append, List.nil_append, List.append_nil, List.replicate_succ, List.replicate_zero, if_true, if_false, Bool.false_eq_true, Option.bind_some, Option.map_some, Option.bind_none, Option.map_none, Bool.not_true, Bool.not_false, Z.turnM, Z.tgTup, Z.tgCons, Z.tgNil, Z.appM, Z.extM, Z.parM, List.length_cons, List.length_nil, lenD_mk hl, e1, List.map_nil]
  | @blank c r o hc hi ih =>
    intro pre n found s3 s4 hT hn hf ho
    obtain ⟨n, rfl⟩ : ∃ m, n = m + 1 := ⟨n - 1, by omega⟩
    have hlen : T.length = pre.length + (r.length + 1) := by rw [hT]; simp only [List.length_append, List.length_cons]
    have g : T[pre.length]? = some c := by rw [hT]; simp
    have hc1 : c < 128 := hA c (List.mem_of_getElem? g)
    obtain ⟨b1, b2, b3, b4⟩ := chr_blank hc1
    have e1 : decide ((pre.length : Int) < (T.length : Int)) = true := by rw [decide_eq_true_eq]; omega
    obtain ⟨s3', s4', ih'⟩ := ih (pre ++ [c]) n found s3 s4 (by rw [hT]; simp) (by simp only [List.length_cons] at hn; omega) (by simp only [List.length_cons] at hf; omega) ho
    refine ⟨s3', s4', ?_⟩
    rw [whileM_succ]
    have ep : ((pre ++ [c]).length : Int) = (pre.length : Int) + 1 := by simp
    rw [ep] at ih'
    simp only [Z.fv_cons, Z.fv_nil, atI_0, atI_1, atI_2, atI_3, atI_4, ixNc_0, ixNc_1, ixNc_2, ixNc_3, mo_bind, mo_pure, bind_ok, bind_exc, bind_stuck, Z.getV, Z.putV, Z.putOwn, Z.putBox, Z.rdOwn, Z.ownAt, Z.seqM, Z.asgM, Z.ifM, Z.andM, Z.orM, Z.notM, Z.asB, Z.bin2, Z.un1, Z.ofO, Z.ofS, Z.ixM, Z.blt1M, Z.blt1O, Z.deref, Z.slM, Z.slMU, Z.partM, Z.tupM, Z.lstM, Z.catM, Z.argsM, Z.callM, Z.callMU, Z.callF, Z.callU, Z.truM, Z.setIxM, Z.putIx, Z.augM, Z.fin, Z.fr0, Z.funM, Z.ltD, Z.leD, Z.gtD, Z.geD, Z.iiD, Z.iiC, Z.subD, Z.intD, List.getElem?_map, List.length_map, List.getElem?_cons_zero, List.getElem?_cons_succ, List.set_cons_zero, List.set_cons_succ, List.cons_append, List.nil_append, List.append_nil, List.replicate_succ, List.replicate_zero, if_true, if_false, Bool.false_eq_true, Option.bind_some, Option.map_some, Option.bind_none, Option.map_none, Bool.not_true, Bool.not_false, Z.turnM, Z.tgTup, Z.tgCons, Z.tgNil, Z.appM, Z.extM, Z.parM, List.length_cons, List.length_nil] at ih'
    unfold isBl at hc
    rcases Bool.or_eq_true_iff.mp hc with z | z
    · simp only [Z.fv_cons, Z.fv_nil, atI_0, atI_1, atI_2, atI_3, atI_4, ixNc_0, ixNc_1, ixNc_2, ixNc_3, mo_bind, mo_pure, bind_ok, bind_exc, bind_stuck, Z.getV, Z.putV, Z.putOwn, Z.putBox, Z.rdOwn, Z.ownAt, Z.seqM, Z.asgM, Z.ifM, Z.andM, Z.orM, Z.notM, Z.asB, Z.bin2, Z.un1, Z.ofO, Z.ofS, Z.ixM, Z.blt1M, Z.blt1O, Z.deref, Z.slM, Z.slMU, Z.partM, Z.tupM, Z.lstM, Z.catM, Z.argsM, Z.callM, Z.callMU, Z.callF, Z.callU, Z.truM, Z.setIxM, Z.putIx, Z.augM, Z.fin, Z.fr0, Z.funM, Z.ltD, Z.leD, Z.gtD, Z.geD, Z.iiD, Z.iiC, Z.subD, Z.intD, List.getElem?_map, List.length_map, List.getElem?_cons_zero, List.getElem?_cons_succ, List.set_cons_zero, List.set_cons_succ, List.cons_append, List.nil_append, List.append_nil, List.replicate_succ, List.replicate_zero, if_true, if_false, Bool.false_eq_true, Option.bind_some, Option.map_some, Option.bind_none, Option.map_none, Bool.not_true, Bool.not_false, Z.turnM, Z.tgTup, Z.tgCons, Z.tgNil, Z.appM, Z.extM, Z.parM, List.length_cons, List.length_nil, lenD_mk hl, e1, ix_mk g hl, b1, z, addIS_int, ih']
    · cases z2 : c == 32 with
      | true => simp only [Z.fv_cons, Z.fv_nil, atI_0, atI_1, atI_2, atI_3, atI_4, ixNc_0, ixNc_1, ixNc_2, ixNc_3, mo_bind, mo_pure, bind_ok, bind_exc, bind_stuck, Z.getV, Z.putV, Z.putOwn, Z.putBox, Z.rdOwn, Z.ownAt, Z.seqM, Z.asgM, Z.ifM, Z.andM, Z.orM, Z.notM, Z.asB, Z.bin2, Z.un1, Z.ofO, Z.ofS, Z.ixM, Z.blt1M, Z.blt1O, Z.deref, Z.slM, Z.slMU, Z.partM, Z.tupM, Z.lstM, Z.catM, Z.argsM, Z.callM, Z.callMU, Z.callF, Z.callU, Z.truM, Z.setIxM, Z.putIx, Z.augM, Z.fin, Z.fr0, Z.funM, Z.ltD, Z.leD, Z.gtD, Z.geD, Z.iiD, Z.iiC, Z.subD, Z.intD, List.getElem?_map, List.length_map, List.getElem?_cons_zero, List.getElem?_cons_succ, List.set_cons_zero, List.set_cons_succ, List.cons_append, List.nil_append, List.append_nil, List.replicate_succ, List.replicate_zero, if_true, if_false, Bool.false_eq_true, Option.bind_some, Option.map_some, Option.bind_none, Option.map_none, Bool.not_true, Bool.not_false, Z.turnM, Z.tgTup, Z.tgCons, Z.tgNil, Z.appM, Z.extM, Z.parM, List.length_cons, List.length_nil, lenD_mk hl, e1, ix_mk g hl, b1, z2, addIS_int, ih']
      | false => simp only [Z.fv_cons, Z.fv_nil, atI_0, atI_1, atI_2, atI_3, atI_4, ixNc_0, ixNc_1, ixNc_2, ixNc_3, mo_bind, mo_pure, bind_ok, bind_exc, bind_stuck, Z.getV, Z.putV, Z.putOwn, Z.putBox, Z.rdOwn, Z.ownAt, Z.seqM, Z.asgM, Z.ifM, Z.andM, Z.orM, Z.notM, Z.asB, Z.bin2, Z.un1, Z.ofO, Z.ofS, Z.ixM, Z.blt1M, Z.blt1O, Z.deref, Z.slM, Z.slMU, Z.partM, Z.tupM, Z.lstM, Z.catM, Z.argsM, Z.callM, Z.callMU, Z.callF, Z.callU, Z.truM, Z.setIxM, Z.putIx, Z.augM, Z.fin, Z.fr0, Z.funM, Z.ltD, Z.leD, Z.gtD, Z.geD, Z.iiD, Z.iiC, Z.subD, Z.intD, List.getElem?_map, List.length_map, List.getElem?_cons_zero, List.getElem?_cons_succ, List.set_cons_zero, List.set_cons_succ, List.cons_append, List.nil_append, List.append_nil, List.replicate_succ, List.replicate_zero, if_true, if_false, Bool.false_eq_true, Option.bind_some, Option.map_some, Option.bind_none, Option.map_none, Bool.not_true, Bool.not_false, Z.turnM, Z.tgTup, Z.tgCons, Z.tgNil, Z.appM, Z.extM, Z.parM, List.length_cons, List.length_nil, lenD_mk hl, e1, ix_mk g hl, b1, b2, z, z2, addIS_int, ih']
  | @tok w kind r o ht hi ih =>
    intro pre n found s3 s4 hT hn hf ho
    obtain ⟨n, rfl⟩ : ∃ m, n = m + 1 := ⟨n - 1, by omega⟩
    have hT' : T = pre ++ w ++ r := by rw [hT, List.append_assoc]
    have hlen : T.length = pre.length + (w.length + r.length) := by rw [hT]; simp only [List.length_append]
    simp only [List.length_append] at hn hf
    simp only [List.length_cons] at ho
    have hw : 0 < w.length := by cases ht <;> first | (rename_i h0 _ _; exact List.length_pos_iff.mpr h0) | simp
    have g := get_mid hT' 0 hw
    rw [Nat.add_zero] at g
    have hw1 : ∀ c ∈ w, c < 128 := fun c hc => hA c (by rw [hT]; simp [hc])
    have hnb : (w[0] == 32) = false ∧ (w[0] == 10) = false := by
      cases ht with
      | word h0 h1 h2 => have := h1 _ (List.getElem_mem hw); simp [isLt] at this; constructor <;> simp <;> omega
      | num h0 h1 h2 => have := h1 _ (List.getElem_mem hw); simp [isDg] at this; constructor <;> simp <;> omega
      | @sign c _ h1 => simp [isSg] at h1; constructor <;> simp <;> omega
      | arrow => exact ⟨rfl, rfl⟩
    obtain ⟨b1, b2, b3, b4⟩ := chr_blank (hw1 _ (List.getElem_mem hw))
    have e1 : decide ((pre.length : Int) < (T.length : Int)) = true := by rw [decide_eq_true_eq]; omega
    have ta := token_at_ok (fu := fu) (rk := rk) (S := S) ht hT' hl (by omega)
    obtain ⟨k1, k2⟩ := kind_ne ht hw1
    have e3 : eqD (.str kind) (.str "") = some (.bl false) := by rw [eqD_str k1 (by decide +kernel), k2]
    have sl : slD (.str (mkS T)) (some (pre.length : Int)) (some ((pre.length + w.length : Nat) : Int)) = some (.str (mkS w)) := by
      rw [hT']; exact slD_mid (by rw [← hT']; exact hl)
    have ef : found.length < sizeLine := by rw [sizeLine_eq]; omega
    obtain ⟨s3', s4', ih'⟩ := ih (pre ++ w) n (found ++ [.tup [.str kind, .str (mkS w)]]) (.val (.str kind)) (.val (.int ((pre.length + w.length : Nat) : Int))) hT' (by omega) (by omega) (by rw [List.length_append]; simp; omega)
    refine ⟨s3', s4', ?_⟩
    rw [whileM_succ]
    rw [List.length_append] at ih'
    simp only [Z.fv_cons, Z.fv_nil, atI_0, atI_1, atI_2, atI_3, atI_4, ixNc_0, ixNc_1, ixNc_2, ixNc_3, mo_bind, mo_pure, bind_ok, bind_exc, bind_stuck, Z.getV, Z.putV, Z.putOwn, Z.putBox, Z.rdOwn, Z.ownAt, Z.seqM, Z.asgM, Z.ifM, Z.andM, Z.orM, Z.notM, Z.asB, Z.bin2, Z.un1, Z.ofO, Z.ofS, Z.ixM, Z.blt1M, Z.blt1O, Z.deref, Z.slM, Z.slMU, Z.partM, Z.tupM, Z.lstM, Z.catM, Z.argsM, Z.callM, Z.callMU, Z.callF, Z.callU, Z.truM, Z.setIxM, Z.putIx, Z.augM, Z.fin, Z.fr0, Z.funM, Z.ltD, Z.leD, Z.gtD, Z.geD, Z.iiD, Z.iiC, Z.subD, Z.intD, List.getElem?_map, List.length_map, List.getElem?_cons_zero, List.getElem?_cons_succ, List.set_cons_zero, List.set_cons_succ, List.cons_append, List.nil_append, List.append_nil, List.replicate_succ, List.replicate_zero, if_true, if_false, Bool.false_eq_true, Option.bind_some, Option.map_some, Option.bind_none, Option.map_none, Bool.not_true, Bool.not_false, Z.turnM, Z.tgTup, Z.tgCons, Z.tgNil, Z.appM, Z.extM, Z.parM, List.length_cons, List.length_nil, List.append_assoc] at ih'
    simp only [Z.fv_cons, Z.fv_nil, atI_0, atI_1, atI_2, atI_3, atI_4, ixNc_0, ixNc_1, ixNc_2, ixNc_3, mo_bind, mo_pure, bind_ok, bind_exc, bind_stuck, Z.getV, Z.putV, Z.putOwn, Z.putBox, Z.rdOwn, Z.ownAt, Z.seqM, Z.asgM, Z.ifM, Z.andM, Z.orM, Z.notM, Z.asB, Z.bin2, Z.un1, Z.ofO, Z.ofS, Z.ixM, Z.blt1M, Z.blt1O, Z.deref, Z.slM, Z.slMU, Z.partM, Z.tupM, Z.lstM, Z.catM, Z.argsM, Z.callM, Z.callMU, Z.callF, Z.callU, Z.truM, Z.setIxM, Z.putIx, Z.augM, Z.fin, Z.fr0, Z.funM, Z.ltD, Z.leD, Z.gtD, Z.geD, Z.iiD, Z.iiC, Z.subD, Z.intD, List.getElem?_map, List.length_map, List.getElem?_cons_zero, List.getElem?_cons_succ, List.set_cons_zero, List.set_cons_succ, List.cons_append, List.nil_append, List.append_nil, List.replicate_succ, List.replicate_zero, if_true, if_false, Bool.false_eq_true, Option.bind_some, Option.map_some, Option.bind_none, Option.map_none, Bool.not_true, Bool.not_false, Z.turnM, Z.tgTup, Z.tgCons, Z.tgNil, Z.appM, Z.extM, Z.parM, List.length_cons, List.length_nil, lenD_mk hl, e1, ix_mk g hl, b1, b2, hnb.1, hnb.2, ta, e3, sl, ef, ih', List.append_assoc, List.map_cons]
  | @bad c r o hc hd hi ih =>
    intro pre n found s3 s4 hT hn hf ho
    obtain ⟨n, rfl⟩ : ∃ m, n = m + 1 := ⟨n - 1, by omega⟩
    have hlen : T.length = pre.length + (r.length + 1) := by rw [hT]; simp only [List.length_append, List.length_cons]
    simp only [List.length_cons] at hn hf ho
    have g : T[pre.length]? = some c := by rw [hT]; simp
    have gp : T[pre.length + 1]? = r.head? := by
      rw [hT, List.getElem?_append_right (by omega), show pre.length + 1 - pre.length = 1 by omega, List.getElem?_cons_succ, List.head?_eq_getElem?]
    have hc1 : c < 128 := hA c (List.mem_of_getElem? g)
    have hnb : (c == 32) = false ∧ (c == 10) = false := by
      simp only [isBad, isBl, Bool.and_eq_true, Bool.not_eq_true', Bool.or_eq_false_iff] at hc
      exact hc.1.1.2
    obtain ⟨b1, b2, b3, b4⟩ := chr_blank hc1
    have e1 : decide ((pre.length : Int) < (T.length : Int)) = true := by rw [decide_eq_true_eq]; omega
    have ta := bad_at (fu := fu) (rk := rk) (S := S) g hc hl hA
    have e3 : eqD (.str "") (.str "") = some (.bl true) := by rw [eqD_str (by decide +kernel) (by decide +kernel)]; simp
    have sl : slD (.str (mkS T)) (some (pre.length : Int)) (some ((pre.length : Int) + 1)) = some (.str (mkS [c])) := by
      have e : T = pre ++ [c] ++ r := by rw [hT]; simp
      have := slD_mid (a := pre) (b := [c]) (c := r) (by rw [← e]; exact hl)
      rw [← e] at this
      exact this
    have ef : found.length < sizeLine := by rw [sizeLine_eq]; omega
    have hw : whileM (Z.andM (asB (bin2 (getV 4) (blt1M lenD (getV 0)) ltD)) (Z.andM (asB (bin2 (ixM (getV 0) (getV 4)) (pure (.str " ")) neD)) (Z.andM (asB (bin2 (ixM (getV 0) (getV 4)) (pure (.str "\n")) neD)) (asB (bin2 (ixM (callM (F_token_at fu rk) [(getV 0), (getV 4)] []) (pure (.int 0))) (pure (.str "")) eqD))))) (augM 4 (pure (.int 1)) addIS) fu [.val (.str (mkS T)), .own found, .val (.int pre.length), .val (.str "bad"), .val (.int ((pre.length : Int) + 1))] S = .ok .nx [.val (.str (mkS T)), .own found, .val (.int pre.length), .val (.str "bad"), .val (.int ((pre.length : Int) + 1))] S := by
      refine while_fun (fun _ => [.val (.str (mkS T)), .own found, .val (.int pre.length), .val (.str "bad"), .val (.int ((pre.length : Int) + 1))]) 0 (fun j hj => by omega) (fun j hj => by omega) ?_ 0 0 fu rfl (by omega)
      cases hr : r.head? with
      | none =>
        rw [hr] at gp
        have e4 : decide ((pre.length : Int) + 1 < (T.length : Int)) = false := by
          have := List.getElem?_eq_none_iff.mp gp
          rw [decide_eq_false_iff_not]; omega
        simp only [Z.fv_cons, Z.fv_nil, atI_0, atI_1, atI_2, atI_3, atI_4, ixNc_0, ixNc_1, ixNc_2, ixNc_3, mo_bind, mo_pure, bind_ok, bind_exc, bind_stuck, Z.getV, Z.putV, Z.putOwn, Z.putBox, Z.rdOwn, Z.ownAt, Z.seqM, Z.asgM, Z.ifM, Z.andM, Z.orM, Z.notM, Z.asB, Z.bin2, Z.un1, Z.ofO, Z.ofS, Z.ixM, Z.blt1M, Z.blt1O, Z.deref, Z.slM, Z.slMU, Z.partM, Z.tupM, Z.lstM, Z.catM, Z.argsM, Z.callM, Z.callMU, Z.callF, Z.callU, Z.truM, Z.setIxM, Z.putIx, Z.augM, Z.fin, Z.fr0, Z.funM, Z.ltD, Z.leD, Z.gtD, Z.geD, Z.iiD, Z.iiC, Z.subD, Z.intD, List.getElem?_map, List.length_map, List.getElem?_cons_zero, List.getElem?_cons_succ, List.set_cons_zero, List.set_cons_succ, List.cons_append, List.nil_append, List.append_nil, List.replicate_succ, List.replicate_zero, if_true, if_false, Bool.false_eq_true, Option.bind_some, Option.map_some, Option.bind_none, Option.map_none, Bool.not_true, Bool.not_false, Z.turnM, Z.tgTup, Z.tgCons, Z.tgNil, Z.appM, Z.extM, Z.parM, List.length_cons, List.length_nil, lenD_mk hl, e4]
      | some d =>
        rw [hr] at gp
        have e4 : decide ((pre.length : Int) + 1 < (T.length : Int)) = true := by
          have := (List.getElem?_eq_some_iff.mp gp).1
          rw [decide_eq_true_eq]; omega
        have gp' : ixS (.str (mkS T)) (.int ((pre.length : Int) + 1)) S = some (.str (mkS [d])) := ix_mk gp hl
        have hd1 : d < 128 := hA d (List.mem_of_getElem? gp)
        obtain ⟨d1, d2, d3, d4⟩ := chr_blank hd1
        have hb := hd d hr
        unfold isBl at hb
        cases z : d == 32 with
        | true => simp only [Z.fv_cons, Z.fv_nil, atI_0, atI_1, atI_2, atI_3, atI_4, ixNc_0, ixNc_1, ixNc_2, ixNc_3, mo_bind, mo_pure, bind_ok, bind_exc, bind_stuck, Z.getV, Z.putV, Z.putOwn, Z.putBox, Z.rdOwn, Z.ownAt, Z.seqM, Z.asgM, Z.ifM, Z.andM, Z.orM, Z.notM, Z.asB, Z.bin2, Z.un1, Z.ofO, Z.ofS, Z.ixM, Z.blt1M, Z.blt1O, Z.deref, Z.slM, Z.slMU, Z.partM, Z.tupM, Z.lstM, Z.catM, Z.argsM, Z.callM, Z.callMU, Z.callF, Z.callU, Z.truM, Z.setIxM, Z.putIx, Z.augM, Z.fin, Z.fr0, Z.funM, Z.ltD, Z.leD, Z.gtD, Z.geD, Z.iiD, Z.iiC, Z.subD, Z.intD, List.getElem?_map, List.length_map, List.getElem?_cons_zero, List.getElem?_cons_succ, List.set_cons_zero, List.set_cons_succ, List.cons_append, List.nil_append, List.append_nil, List.replicate_succ, List.replicate_zero, if_true, if_false, Bool.false_eq_true, Option.bind_some, Option.map_some, Option.bind_none, Option.map_none, Bool.not_true, Bool.not_false, Z.turnM, Z.tgTup, Z.tgCons, Z.tgNil, Z.appM, Z.extM, Z.parM, List.length_cons, List.length_nil, lenD_mk hl, e4, gp', d3, z]
        | false =>
          rw [z, Bool.false_or] at hb
          simp only [Z.fv_cons, Z.fv_nil, atI_0, atI_1, atI_2, atI_3, atI_4, ixNc_0, ixNc_1, ixNc_2, ixNc_3, mo_bind, mo_pure, bind_ok, bind_exc, bind_stuck, Z.getV, Z.putV, Z.putOwn, Z.putBox, Z.rdOwn, Z.ownAt, Z.seqM, Z.asgM, Z.ifM, Z.andM, Z.orM, Z.notM, Z.asB, Z.bin2, Z.un1, Z.ofO, Z.ofS, Z.ixM, Z.blt1M, Z.blt1O, Z.deref, Z.slM, Z.slMU, Z.partM, Z.tupM, Z.lstM, Z.catM, Z.argsM, Z.callM, Z.callMU, Z.callF, Z.callU, Z.truM, Z.setIxM, Z.putIx, Z.augM, Z.fin, Z.fr0, Z.funM, Z.ltD, Z.leD, Z.gtD, Z.geD, Z.iiD, Z.iiC, Z.subD, Z.intD, List.getElem?_map, List.length_map, List.getElem?_cons_zero, List.getElem?_cons_succ, List.set_cons_zero, List.set_cons_succ, List.cons_append, List.nil_append, List.append_nil, List.replicate_succ, List.replicate_zero, if_true, if_false, Bool.false_eq_true, Option.bind_some, Option.map_some, Option.bind_none, Option.map_none, Bool.not_true, Bool.not_false, Z.turnM, Z.tgTup, Z.tgCons, Z.tgNil, Z.appM, Z.extM, Z.parM, List.length_cons, List.length_nil, lenD_mk hl, e4, gp', d3, d4, z, hb]
    obtain ⟨s3', s4', ih'⟩ := ih (pre ++ [c]) n (found ++ [.tup [.str "bad", .str (mkS [c])]]) (.val (.str "bad")) (.val (.int ((pre.length : Int) + 1))) (by rw [hT]; simp) (by omega) (by omega) (by rw [List.length_append]; simp; omega)
    refine ⟨s3', s4', ?_⟩
    rw [whileM_succ]
    have ep : ((pre ++ [c]).length : Int) = (pre.length : Int) + 1 := by simp
    rw [ep] at ih'
    simp only [Z.fv_cons, Z.fv_nil, atI_0, atI_1, atI_2, atI_3, atI_4, ixNc_0, ixNc_1, ixNc_2, ixNc_3, mo_bind, mo_pure, bind_ok, bind_exc, bind_stuck, Z.getV, Z.putV, Z.putOwn, Z.putBox, Z.rdOwn, Z.ownAt, Z.seqM, Z.asgM, Z.ifM, Z.andM, Z.orM, Z.notM, Z.asB, Z.bin2, Z.un1, Z.ofO, Z.ofS, Z.ixM, Z.blt1M, Z.blt1O, Z.deref, Z.slM, Z.slMU, Z.partM, Z.tupM, Z.lstM, Z.catM, Z.argsM, Z.callM, Z.callMU, Z.callF, Z.callU, Z.truM, Z.setIxM, Z.putIx, Z.augM, Z.fin, Z.fr0, Z.funM, Z.ltD, Z.leD, Z.gtD, Z.geD, Z.iiD, Z.iiC, Z.subD, Z.intD, List.getElem?_map, List.length_map, List.getElem?_cons_zero, List.getElem?_cons_succ, List.set_cons_zero, List.set_cons_succ, List.cons_append, List.nil_append, List.append_nil, List.replicate_succ, List.replicate_zero, if_true, if_false, Bool.false_eq_true, Option.bind_some, Option.map_some, Option.bind_none, Option.map_none, Bool.not_true, Bool.not_false, Z.turnM, Z.tgTup, Z.tgCons, Z.tgNil, Z.appM, Z.extM, Z.parM, List.length_cons, List.length_nil, List.append_assoc] at ih'
    simp only [Z.fv_cons, Z.fv_nil, atI_0, atI_1, atI_2, atI_3, atI_4, ixNc_0, ixNc_1, ixNc_2, ixNc_3, mo_bind, mo_pure, bind_ok, bind_exc, bind_stuck, Z.getV, Z.putV, Z.putOwn, Z.putBox, Z.rdOwn, Z.ownAt, Z.seqM, Z.asgM, Z.ifM, Z.andM, Z.orM, Z.notM, Z.asB, Z.bin2, Z.un1, Z.ofO, Z.ofS, Z.ixM, Z.blt1M, Z.blt1O, Z.deref, Z.slM, Z.slMU, Z.partM, Z.tupM, Z.lstM, Z.catM, Z.argsM, Z.callM, Z.callMU, Z.callF, Z.callU, Z.truM, Z.setIxM, Z.putIx, Z.augM, Z.fin, Z.fr0, Z.funM, Z.ltD, Z.leD, Z.gtD, Z.geD, Z.iiD, Z.iiC, Z.subD, Z.intD, List.getElem?_map, List.length_map, List.getElem?_cons_zero, List.getElem?_cons_succ, List.set_cons_zero, List.set_cons_succ, List.cons_append, List.nil_append, List.append_nil, List.replicate_succ, List.replicate_zero, if_true, if_false, Bool.false_eq_true, Option.bind_some, Option.map_some, Option.bind_none, Option.map_none, Bool.not_true, Bool.not_false, Z.turnM, Z.tgTup, Z.tgCons, Z.tgNil, Z.appM, Z.extM, Z.parM, List.length_cons, List.length_nil] at hw
    simp only [Z.fv_cons, Z.fv_nil, atI_0, atI_1, atI_2, atI_3, atI_4, ixNc_0, ixNc_1, ixNc_2, ixNc_3, mo_bind, mo_pure, bind_ok, bind_exc, bind_stuck, Z.getV, Z.putV, Z.putOwn, Z.putBox, Z.rdOwn, Z.ownAt, Z.seqM, Z.asgM, Z.ifM, Z.andM, Z.orM, Z.notM, Z.asB, Z.bin2, Z.un1, Z.ofO, Z.ofS, Z.ixM, Z.blt1M, Z.blt1O, Z.deref, Z.slM, Z.slMU, Z.partM, Z.tupM, Z.lstM, Z.catM, Z.argsM, Z.callM, Z.callMU, Z.callF, Z.callU, Z.truM, Z.setIxM, Z.putIx, Z.augM, Z.fin, Z.fr0, Z.funM, Z.ltD, Z.leD, Z.gtD, Z.geD, Z.iiD, Z.iiC, Z.subD, Z.intD, List.getElem?_map, List.length_map, List.getElem?_cons_zero, List.getElem?_cons_succ, List.set_cons_zero, List.set_cons_succ, List.cons_append, List.nil_append, List.append_nil, List.replicate_succ, List.replicate_zero, if_true, if_false, Bool.false_eq_true, Option.bind_some, Option.map_some, Option.bind_none, Option.map_none, Bool.not_true, Bool.not_false, Z.turnM, Z.tgTup, Z.tgCons, Z.tgNil, Z.appM, Z.extM, Z.parM, List.length_cons, List.length_nil, lenD_mk hl, e1, ix_mk g hl, b1, b2, hnb.1, hnb.2, ta, e3, add_ii, hw, sl, ef, ih', List.append_assoc, List.map_cons]
theorem tokens_ok {fu rk : Nat} {S : List Ob} {T : List Nat} {o : List (Str × List Nat)} (h : Items T o) (hl : T.length ≤ 16777215) (hA : ∀ c ∈ T, c < 128) (hf : T.length < fu) :
    F_tokens_of fu rk [.str (mkS T)] S = .ok (.u (o.map fun p => .tup [.str p.1, .str (mkS p.2)])) S := by
  have ho : o.length ≤ T.length := by
    clear hl hA hf
    induction h with
    | nil => simp
    | blank _ _ ih => simp; omega
    | @tok w _ _ _ ht _ ih =>
      have : 0 < w.length := by cases ht <;> first | (rename_i h0 _ _; exact List.length_pos_iff.mpr h0) | exact Nat.succ_pos _
      simp
      omega
    | bad _ _ _ ih => simp; omega
  obtain ⟨s3, s4, e⟩ := tok_loop (rk := rk) (S := S) (by omega) hA h [] fu [] .un .un rfl hf hf (by simp; omega)
  have ez : (([] : List Nat).length : Int) = 0 := rfl
  rw [ez] at e
  simp only [Z.fv_cons, Z.fv_nil, atI_0, atI_1, atI_2, atI_3, atI_4, ixNc_0, ixNc_1, ixNc_2, ixNc_3, mo_bind, mo_pure, bind_ok, bind_exc, bind_stuck, Z.getV, Z.putV, Z.putOwn, Z.putBox, Z.rdOwn, Z.ownAt, Z.seqM, Z.asgM, Z.ifM, Z.andM, Z.orM, Z.notM, Z.asB, Z.bin2, Z.un1, Z.ofO, Z.ofS, Z.ixM, Z.blt1M, Z.blt1O, Z.deref, Z.slM, Z.slMU, Z.partM, Z.tupM, Z.lstM, Z.catM, Z.argsM, Z.callM, Z.callMU, Z.callF, Z.callU, Z.truM, Z.setIxM, Z.putIx, Z.augM, Z.fin, Z.fr0, Z.funM, Z.ltD, Z.leD, Z.gtD, Z.geD, Z.iiD, Z.iiC, Z.subD, Z.intD, List.getElem?_map, List.length_map, List.getElem?_cons_zero, List.getElem?_cons_succ, List.set_cons_zero, List.set_cons_succ, List.cons_append, List.nil_append, List.append_nil, List.replicate_succ, List.replicate_zero, if_true, if_false, Bool.false_eq_true, Option.bind_some, Option.map_some, Option.bind_none, Option.map_none, Bool.not_true, Bool.not_false, Z.turnM, Z.tgTup, Z.tgCons, Z.tgNil, Z.appM, Z.extM, Z.parM, List.length_cons, List.length_nil] at e
  unfold F_tokens_of M_tokens_of
  simp only [Z.fv_cons, Z.fv_nil, atI_0, atI_1, atI_2, atI_3, atI_4, ixNc_0, ixNc_1, ixNc_2, ixNc_3, mo_bind, mo_pure, bind_ok, bind_exc, bind_stuck, Z.getV, Z.putV, Z.putOwn, Z.putBox, Z.rdOwn, Z.ownAt, Z.seqM, Z.asgM, Z.ifM, Z.andM, Z.orM, Z.notM, Z.asB, Z.bin2, Z.un1, Z.ofO, Z.ofS, Z.ixM, Z.blt1M, Z.blt1O, Z.deref, Z.slM, Z.slMU, Z.partM, Z.tupM, Z.lstM, Z.catM, Z.argsM, Z.callM, Z.callMU, Z.callF, Z.callU, Z.truM, Z.setIxM, Z.putIx, Z.augM, Z.fin, Z.fr0, Z.funM, Z.ltD, Z.leD, Z.gtD, Z.geD, Z.iiD, Z.iiC, Z.subD, Z.intD, List.getElem?_map, List.length_map, List.getElem?_cons_zero, List.getElem?_cons_succ, List.set_cons_zero, List.set_cons_succ, List.cons_append, List.nil_append, List.append_nil, List.replicate_succ, List.replicate_zero, if_true, if_false, Bool.false_eq_true, Option.bind_some, Option.map_some, Option.bind_none, Option.map_none, Bool.not_true, Bool.not_false, Z.turnM, Z.tgTup, Z.tgCons, Z.tgNil, Z.appM, Z.extM, Z.parM, List.length_cons, List.length_nil, e]
end K70
set_option Elab.async false
set_option linter.all false
set_option maxRecDepth 100000
set_option maxHeartbeats 4000000
/-! Y8: tokens with gaps. -/
namespace K70
open PySem L2 Z
def isWd (w : List Nat) : Bool := !w.isEmpty && w.all isLt
def isNm (w : List Nat) : Bool := !w.isEmpty && w.all isDg
def isS1 (w : List Nat) : Bool := match w with
  | [c] => isSg c
  | _ => false
def isB1 (w : List Nat) : Bool := match w with
  | [c] => isBad c
  | _ => false
/-- a token by itself -/
def okT (t : Str) : Bool := isWd (L t) || isNm (L t) || isS1 (L t) || L t == [45, 62] || isB1 (L t)
/-- its kind -/
def kdL (w : List Nat) : Str := if isWd w then kindW w else if isNm w then kindN w else if isS1 w then mkS w else if w == [45, 62] then "->" else "bad"
def kd (t : Str) : Str := kdL (L t)
def al (c : Nat) : Bool := isLt c || isDg c
def endAl (t : Str) : Bool := isWd (L t) || isNm (L t)
def badT (t : Str) : Bool := isB1 (L t)
theorem blank_items {o : List (Str × List Nat)} {r : List Nat} (h : Items r o) : ∀ g : List Nat, (∀ c ∈ g, isBl c = true) → Items (g ++ r) o
  | [], _ => h
  | c :: g, hg => .blank (hg c (by simp)) (blank_items h g fun d hd => hg d (by simp [hd]))
theorem bl_al {c : Nat} (h : isBl c = true) : isLt c = false ∧ isDg c = false := by
  simp [isBl] at h
  simp [isLt, isDg]
  omega
theorem wd_of {w : List Nat} (h : isWd w = true) : w ≠ [] ∧ ∀ c ∈ w, isLt c = true := by
  unfold isWd at h
  simp at h
  exact ⟨by simpa using h.1, h.2⟩
theorem nm_of {w : List Nat} (h : isNm w = true) : w ≠ [] ∧ ∀ c ∈ w, isDg c = true := by
  unfold isNm at h
  simp at h
  exact ⟨by simpa using h.1, h.2⟩
theorem tok_item {t : Str} {r : List Nat} {o : List (Str × List Nat)} (ht : okT t = true) (hr : ∀ c, r.head? = some c → isBl c = true ∨ (badT t = false ∧ (endAl t = true → al c = false))) (h : Items r o) : Items (L t ++ r) ((kd t, L t) :: o) := by
  unfold okT at ht
  unfold badT endAl at hr
  unfold kd
  generalize L t = w at *
  unfold kdL
  by_cases h1 : isWd w = true
  · rw [if_pos h1]
    obtain ⟨e1, e2⟩ := wd_of h1
    refine .tok (.word e1 e2 fun c hc => ?_) h
    rcases hr c hc with z | z
    · exact (bl_al z).1
    · have := z.2 (by rw [h1]; rfl)
      unfold al at this
      simp at this
      exact this.1
  · rw [if_neg h1]
    by_cases h2 : isNm w = true
    · rw [if_pos h2]
      obtain ⟨e1, e2⟩ := nm_of h2
      refine .tok (.num e1 e2 fun c hc => ?_) h
      rcases hr c hc with z | z
      · exact (bl_al z).2
      · have := z.2 (by rw [h2]; simp)
        unfold al at this
        simp at this
        exact this.2
    · rw [if_neg h2]
      by_cases h3 : isS1 w = true
      · rw [if_pos h3]
        match w, h3 with
        | [c], h3 => exact .tok (.sign h3) h
      · rw [if_neg h3]
        by_cases h4 : (w == [45, 62]) = true
        · rw [if_pos h4]
          have : w = [45, 62] := by simpa using h4
          subst this
          exact .tok .arrow h
        · rw [if_neg h4]
          have h5 : isB1 w = true := by simpa [h1, h2, h3, h4] using ht
          match w, h5 with
          | [c], h5 =>
            refine .bad h5 (fun d hd => ?_) h
            rcases hr d hd with z | z
            · exact z
            · rw [h5] at z; simp at z
def gt (ps : List (List Nat × Str)) : List Nat := ps.flatMap fun p => p.1 ++ L p.2
/-- whether there must be a gap -/
def sep (t u : Str) : Bool := badT t || (endAl t && endAl u)
inductive Gaps : List (List Nat × Str) → Prop
  | nil : Gaps []
  | last {g t} : (∀ c ∈ g, isBl c = true) → okT t = true → Gaps [(g, t)]
  | cons {g t g' t' r} : (∀ c ∈ g, isBl c = true) → okT t = true → (g' ≠ [] ∨ sep t t' = false) → Gaps ((g', t') :: r) → Gaps ((g, t) :: (g', t') :: r)
theorem Gaps.head {g : List Nat} {t : Str} {r : List (List Nat × Str)} (h : Gaps ((g, t) :: r)) : (∀ c ∈ g, isBl c = true) ∧ okT t = true := by
  cases h with
  | last a b => exact ⟨a, b⟩
  | cons a b _ _ => exact ⟨a, b⟩
theorem ok_ne {t : Str} (h : okT t = true) : ∃ c r, L t = c :: r := by
  unfold okT at h
  generalize L t = w at *
  cases w with
  | nil => exact absurd h (by decide)
  | cons c r => exact ⟨c, r, rfl⟩
theorem sg_al {c : Nat} (h : isSg c = true) : al c = false := by
  obtain ⟨a, b⟩ := isSg_lt h
  simp [al, a, b]
theorem start_al {t : Str} {c : Nat} {r : List Nat} (h : okT t = true) (e : L t = c :: r) (hn : endAl t = false) : al c = false := by
  unfold okT at h
  unfold endAl at hn
  rw [e] at h hn
  rw [hn, Bool.false_or] at h
  rcases Bool.or_eq_true_iff.mp h with h | h
  · rcases Bool.or_eq_true_iff.mp h with h | h
    · match r, h with
      | [], h => exact sg_al h
    · have : c :: r = [45, 62] := by simpa using h
      have : c = 45 := by simp at this; exact this.1
      subst this
      decide
  · match r, h with
    | [], h =>
      have h' : isBad c = true := h
      simp only [isBad, Bool.and_eq_true, Bool.not_eq_true'] at h'
      unfold al
      rw [h'.1.1.1.1.1, h'.1.1.1.1.2]
      rfl
theorem items_of : ∀ {ps : List (List Nat × Str)}, Gaps ps → Items (gt ps) (ps.map fun p => (kd p.2, L p.2))
  | _, .nil => .nil
  | _, .last (g := g) (t := t) hg ht => by
    show Items ((g ++ L t) ++ []) [(kd t, L t)]
    rw [List.append_assoc]
    exact blank_items (tok_item ht (fun c hc => by cases hc) .nil) g hg
  | _, .cons (g := g) (t := t) (g' := g') (t' := t') (r := r) hg ht hs hr => by
    show Items ((g ++ L t) ++ gt ((g', t') :: r)) ((kd t, L t) :: _)
    rw [List.append_assoc]
    refine blank_items (tok_item ht (fun c hc => ?_) (items_of hr)) g hg
    obtain ⟨h1, h2⟩ := hr.head
    have e : gt ((g', t') :: r) = g' ++ (L t' ++ gt r) := by
      show (g' ++ L t') ++ gt r = _
      rw [List.append_assoc]
    rw [e] at hc
    cases g' with
    | cons d g'' =>
      simp at hc
      subst hc
      exact .inl (h1 d (by simp))
    | nil =>
      obtain ⟨d, q, e2⟩ := ok_ne h2
      rw [e2] at hc
      simp at hc
      subst hc
      rcases hs with z | z
      · exact absurd rfl z
      · unfold sep at z
        simp only [Bool.or_eq_false_iff, Bool.and_eq_false_iff] at z
        refine .inr ⟨z.1, fun he => ?_⟩
        rcases z.2 with y | y
        · rw [he] at y; cases y
        · exact start_al h2 e2 y
/-- all signs small -/
theorem ok_small {t : Str} (h : okT t = true) : ∀ c ∈ L t, c < 128 := by
  unfold okT at h
  generalize L t = w at *
  intro c hc
  simp only [Bool.or_eq_true] at h
  rcases h with (((h | h) | h) | h) | h
  · have := (wd_of h).2 c hc
    simp [isLt] at this
    omega
  · have := (nm_of h).2 c hc
    simp [isDg] at this
    omega
  · match w, h with
    | [d], h =>
      simp at hc
      subst hc
      have h' : isSg c = true := h
      simp [isSg] at h'
      omega
  · have : w = [45, 62] := by simpa using h
    subst this
    simp at hc
    omega
  · match w, h with
    | [d], h =>
      simp at hc
      subst hc
      have h' : isBad c = true := h
      simp only [isBad, Bool.and_eq_true, decide_eq_true_eq] at h'
      exact h'.2
theorem gt_small : ∀ {ps : List (List Nat × Str)}, Gaps ps → ∀ c ∈ gt ps, c < 128 := by
  have bl : ∀ {c : Nat}, isBl c = true → c < 128 := fun {c} h => by simp [isBl] at h; omega
  intro ps h
  induction h with
  | nil => intro c hc; simp [gt] at hc
  | @last g t a b =>
    intro c hc
    simp [gt] at hc
    rcases hc with z | z
    · exact bl (a c z)
    · exact ok_small b c (by simpa using z)
  | @cons g t g' t' r a b s hr ih =>
    intro c hc
    have e : gt ((g, t) :: (g', t') :: r) = (g ++ L t) ++ gt ((g', t') :: r) := rfl
    rw [e] at hc
    rcases List.mem_append.mp hc with z | z
    · rcases List.mem_append.mp z with y | y
      · exact bl (a c y)
      · exact ok_small b c y
    · exact ih c z
/-- the tokens as the program has them -/
def tokD (ts : List Str) : List D := ts.map fun t => .tup [.str (kd t), .str t]
theorem read_ok {fu rk : Nat} {S : List Ob} {ps : List (List Nat × Str)} (h : Gaps ps) (hl : (gt ps).length ≤ 16777215) (hf : (gt ps).length < fu) : F_tokens_of fu rk [.str (mkS (gt ps))] S = .ok (.u (tokD (ps.map Prod.snd))) S := by
  rw [tokens_ok (items_of h) hl (gt_small h) hf, List.map_map]
  unfold tokD
  rw [List.map_map]
  rfl
end K70
set_option Elab.async false
set_option linter.all false
set_option maxRecDepth 100000
set_option maxHeartbeats 4000000
/-! Y9: joined. -/
namespace Z
open PySem L2
theorem loopM_cons (f : D → Mo Unit) (b : Mo Fl) (d : D) (r : List D) : loopM f b (d :: r) = (f d >>= fun _ => turnM b (loopM f b r)) := rfl
theorem loopM_nil (f : D → Mo Unit) (b : Mo Fl) : loopM f b [] = pure .nx := rfl
theorem addIS_mt {a : List Nat} {t : Str} (h : a.length + (L t).length ≤ 16777216) : addIS (.str (mkS a)) (.str t) = some (.str (mkS (a ++ L t))) := addIS_mk (a := a) (b := L t) h
theorem addD_mt {a : List Nat} {t : Str} (h : a.length + (L t).length ≤ 16777216) : addD (.str (mkS a)) (.str t) = some (.str (mkS (a ++ L t))) := addD_mk (a := a) (b := L t) h
theorem notIn_2t (t a b : Str) : notInD (.str t) (.tup [.str a, .str b]) = some (.bl (!decide (t ∈ [a, b]))) := notInD_tup t [a, b]
theorem notIn_5t (t a b c d e : Str) : notInD (.str t) (.tup [.str a, .str b, .str c, .str d, .str e]) = some (.bl (!decide (t ∈ [a, b, c, d, e]))) := notInD_tup t [a, b, c, d, e]
theorem notIn_2l (t a b : Str) : notInD (.str t) (.lst [.str a, .str b]) = some (.bl (!decide (t ∈ [a, b]))) := notInD_lst t [a, b]
theorem notIn_5l (t a b c d e : Str) : notInD (.str t) (.lst [.str a, .str b, .str c, .str d, .str e]) = some (.bl (!decide (t ∈ [a, b, c, d, e]))) := notInD_lst t [a, b, c, d, e]
theorem neD_emp {a : List Nat} (h : ∀ c ∈ a, c < 128) : neD (.str (mkS a)) (.str "") = some (.bl (!a.isEmpty)) := by
  rw [neD_str (sk_mk h) (by decide +kernel), show ("" : Str) = mkS [] by decide +kernel, dec_mk]
  cases a <;> rfl
end Z
namespace K70
open PySem L2 Z
/-- tokens that may be laid out -/
structure TL (ts : List Str) : Prop where
  ok : ∀ t ∈ ts, okT t = true ∧ (L t).length ≤ 9
  len : ts.length ≤ 100000
def opens : List Str := ["(", "["]
def closes : List Str := [")", "]", ",", ";", "."]
def gapO : Option Str → Str → List Nat
  | none, _ => []
  | some p, q => if p ∈ opens ∨ q ∈ closes then [] else [32]
def wg : Option Str → List Str → List (List Nat × Str)
  | _, [] => []
  | p, t :: r => (gapO p t, t) :: wg (some t) r
/-- the text of a row of tokens -/
def jn (ts : List Str) : List Nat := gt (wg none ts)
theorem wg_snd : ∀ (ts : List Str) (p : Option Str), (wg p ts).map Prod.snd = ts
  | [], _ => rfl
  | t :: r, p => by simp [wg, wg_snd r]
theorem gapO_len (p : Option Str) (q : Str) : (gapO p q).length ≤ 1 := by
  unfold gapO
  split
  · simp
  · split <;> simp
theorem gapO_bl (p : Option Str) (q : Str) : ∀ c ∈ gapO p q, isBl c = true := by
  unfold gapO
  split
  · simp
  · split
    · simp
    · simp [isBl]
theorem gt_cons (p : List Nat × Str) (ps : List (List Nat × Str)) : gt (p :: ps) = p.1 ++ L p.2 ++ gt ps := rfl
theorem gt_app (a b : List (List Nat × Str)) : gt (a ++ b) = gt a ++ gt b := by simp [gt]
theorem wg_len : ∀ (ts : List Str) (p : Option Str), (∀ t ∈ ts, okT t = true ∧ (L t).length ≤ 9) → (gt (wg p ts)).length ≤ 10 * ts.length
  | [], _, _ => by simp [wg, gt]
  | t :: r, p, h => by
    have h1 := gapO_len p t
    have h2 := (h t (by simp)).2
    have h3 := wg_len r (some t) fun u hu => h u (by simp [hu])
    rw [wg, gt_cons]
    simp only [List.length_append, List.length_cons]
    omega
theorem sgl {t : Str} {c : Nat} (e : L t = [c]) (h : isSg c = true) : endAl t = false ∧ badT t = false := by
  obtain ⟨a, b⟩ := isSg_lt h
  unfold endAl badT
  rw [e]
  simp [isWd, isNm, isB1, isBad, a, b, h]
theorem open_al {t : Str} (h : t ∈ opens) : endAl t = false ∧ badT t = false := by
  have : ∀ t ∈ opens, endAl t = false ∧ badT t = false := by decide +kernel
  exact this t h
theorem close_al {t : Str} (h : t ∈ closes) : endAl t = false ∧ badT t = false := by
  have : ∀ t ∈ closes, endAl t = false ∧ badT t = false := by decide +kernel
  exact this t h
theorem wg_gaps : ∀ (ts : List Str) (p : Option Str), (∀ t ∈ ts, okT t = true ∧ badT t = false) → Gaps (wg p ts)
  | [], _, _ => .nil
  | [t], p, h => .last (gapO_bl p t) (h t (by simp)).1
  | t :: u :: r, p, h => by
    have := wg_gaps (u :: r) (some t) fun v hv => h v (by simp [hv])
    refine .cons (gapO_bl p t) (h t (by simp)).1 ?_ this
    show (if t ∈ opens ∨ u ∈ closes then [] else [32]) ≠ [] ∨ _
    by_cases z : t ∈ opens ∨ u ∈ closes
    · right
      unfold sep
      rw [(h t (by simp)).2, Bool.false_or]
      rcases z with z | z
      · rw [(open_al z).1]; rfl
      · rw [(close_al z).1, Bool.and_false]
    · left
      rw [if_neg z]
      simp
def lastO : Option Str → List Str → Option Str
  | p, [] => p
  | _, t :: r => lastO (some t) r
theorem joined_loop {fu rk : Nat} {S : List Ob} {w : D} : ∀ (ts : List Str) (p : Option Str) (acc : List Nat) (s3 : Sl), (∀ t ∈ ts, okT t = true ∧ (L t).length ≤ 9) → acc.length + (gt (wg p ts)).length ≤ 16777216 → (∀ c ∈ acc, c < 128) → acc.isEmpty = p.isNone →
    ∃ s3', loopM (putV 3) (seqM (ifM (Z.andM (asB (bin2 (getV 1) (pure (.str "")) neD)) (Z.andM (asB (bin2 (getV 2) (tupM [(pure (.str "(")), (pure (.str "["))]) notInD)) (asB (bin2 (getV 3) (tupM [(pure (.str ")")), (pure (.str "]")), (pure (.str ",")), (pure (.str ";")), (pure (.str "."))]) notInD)))) (augM 1 (pure (.str " ")) addIS) (pure .nx))
    (seqM (augM 1 (getV 3) addIS)
    (asgM (getV 3) (putV 2)))) (ts.map D.str) [.val w, .val (.str (mkS acc)), .val (.str (p.getD "")), s3] S = .ok .nx [.val w, .val (.str (mkS (acc ++ gt (wg p ts)))), .val (.str ((lastO p ts).getD "")), s3'] S
  | [], p, acc, s3, _, _, _, _ => ⟨s3, by rw [List.map_nil, loopM_nil]; simp only [wg, gt, List.flatMap_nil, List.append_nil, lastO, mo_pure]⟩
  | t :: r, p, acc, s3, h, hl, hA, hp => by
    have ht := h t (by simp)
    rw [wg, gt_cons] at hl
    simp only [List.length_append] at hl
    obtain ⟨s3', ih⟩ := joined_loop (fu := fu) (rk := rk) (S := S) (w := w) r (some t) (acc ++ gapO p t ++ L t) (.val (.str t)) (fun u hu => h u (by simp [hu])) (by simp only [List.length_append]; omega)
      (fun c hc => by
        rcases List.mem_append.mp hc with z | z
        · rcases List.mem_append.mp z with y | y
          · exact hA c y
          · have := gapO_bl p t c y
            simp [isBl] at this
            omega
        · exact ok_small ht.1 c z)
      (by
        obtain ⟨c, q, e⟩ := ok_ne ht.1
        rw [e]
        simp)
    refine ⟨s3', ?_⟩
    rw [List.map_cons, loopM_cons]
    rw [wg, gt_cons, lastO]
    simp only [Z.fv_cons, Z.fv_nil, atI_0, atI_1, atI_2, atI_3, atI_4, ixNc_0, ixNc_1, ixNc_2, ixNc_3, mo_bind, mo_pure, bind_ok, bind_exc, bind_stuck, Z.getV, Z.putV, Z.putOwn, Z.putBox, Z.rdOwn, Z.ownAt, Z.seqM, Z.asgM, Z.ifM, Z.andM, Z.orM, Z.notM, Z.asB, Z.bin2, Z.un1, Z.ofO, Z.ofS, Z.ixM, Z.blt1M, Z.blt1O, Z.deref, Z.slM, Z.slMU, Z.partM, Z.tupM, Z.lstM, Z.catM, Z.argsM, Z.callM, Z.callMU, Z.callF, Z.callU, Z.truM, Z.setIxM, Z.putIx, Z.augM, Z.fin, Z.fr0, Z.funM, Z.ltD, Z.leD, Z.gtD, Z.geD, Z.iiD, Z.iiC, Z.subD, Z.intD, List.getElem?_map, List.length_map, List.getElem?_cons_zero, List.getElem?_cons_succ, List.set_cons_zero, List.set_cons_succ, List.cons_append, List.nil_append, List.append_nil, List.replicate_succ, List.replicate_zero, if_true, if_false, Bool.false_eq_true, Option.bind_some, Option.map_some, Option.bind_none, Option.map_none, Bool.not_true, Bool.not_false, Z.turnM, Z.tgTup, Z.tgCons, Z.tgNil, Z.appM, Z.extM, Z.parM, List.length_cons, List.length_nil, Option.getD_some, List.append_assoc] at ih
    cases p with
    | none =>
      have ha : acc = [] := by simpa using hp
      subst ha
      have e1 : neD (.str (mkS [])) (.str "") = some (.bl false) := neD_emp (by simp)
      have e2 : addIS (.str (mkS [])) (.str t) = some (.str (mkS (L t))) := addIS_mt (by simp only [List.length_nil]; omega)
      simp only [gapO, List.nil_append] at ih
      simp only [Z.fv_cons, Z.fv_nil, atI_0, atI_1, atI_2, atI_3, atI_4, ixNc_0, ixNc_1, ixNc_2, ixNc_3, mo_bind, mo_pure, bind_ok, bind_exc, bind_stuck, Z.getV, Z.putV, Z.putOwn, Z.putBox, Z.rdOwn, Z.ownAt, Z.seqM, Z.asgM, Z.ifM, Z.andM, Z.orM, Z.notM, Z.asB, Z.bin2, Z.un1, Z.ofO, Z.ofS, Z.ixM, Z.blt1M, Z.blt1O, Z.deref, Z.slM, Z.slMU, Z.partM, Z.tupM, Z.lstM, Z.catM, Z.argsM, Z.callM, Z.callMU, Z.callF, Z.callU, Z.truM, Z.setIxM, Z.putIx, Z.augM, Z.fin, Z.fr0, Z.funM, Z.ltD, Z.leD, Z.gtD, Z.geD, Z.iiD, Z.iiC, Z.subD, Z.intD, List.getElem?_map, List.length_map, List.getElem?_cons_zero, List.getElem?_cons_succ, List.set_cons_zero, List.set_cons_succ, List.cons_append, List.nil_append, List.append_nil, List.replicate_succ, List.replicate_zero, if_true, if_false, Bool.false_eq_true, Option.bind_some, Option.map_some, Option.bind_none, Option.map_none, Bool.not_true, Bool.not_false, Z.turnM, Z.tgTup, Z.tgCons, Z.tgNil, Z.appM, Z.extM, Z.parM, List.length_cons, List.length_nil, e1, e2, gapO, List.nil_append, ih]
    | some p =>
      have e1 : neD (.str (mkS acc)) (.str "") = some (.bl true) := by
        rw [neD_emp hA, hp]; rfl
      by_cases z1 : p ∈ opens
      · have d1 : (!decide (p ∈ opens)) = false := by simp [z1]
        have d2 : notInD (.str p) (.tup [.str "(", .str "["]) = some (.bl false) := by rw [notIn_2t, ← d1]; rfl
        have e2 : addIS (.str (mkS acc)) (.str t) = some (.str (mkS (acc ++ L t))) := addIS_mt (by omega)
        have g0 : gapO (some p) t = [] := if_pos (.inl z1)
        simp only [g0, List.nil_append] at ih
        simp only [Z.fv_cons, Z.fv_nil, atI_0, atI_1, atI_2, atI_3, atI_4, ixNc_0, ixNc_1, ixNc_2, ixNc_3, mo_bind, mo_pure, bind_ok, bind_exc, bind_stuck, Z.getV, Z.putV, Z.putOwn, Z.putBox, Z.rdOwn, Z.ownAt, Z.seqM, Z.asgM, Z.ifM, Z.andM, Z.orM, Z.notM, Z.asB, Z.bin2, Z.un1, Z.ofO, Z.ofS, Z.ixM, Z.blt1M, Z.blt1O, Z.deref, Z.slM, Z.slMU, Z.partM, Z.tupM, Z.lstM, Z.catM, Z.argsM, Z.callM, Z.callMU, Z.callF, Z.callU, Z.truM, Z.setIxM, Z.putIx, Z.augM, Z.fin, Z.fr0, Z.funM, Z.ltD, Z.leD, Z.gtD, Z.geD, Z.iiD, Z.iiC, Z.subD, Z.intD, List.getElem?_map, List.length_map, List.getElem?_cons_zero, List.getElem?_cons_succ, List.set_cons_zero, List.set_cons_succ, List.cons_append, List.nil_append, List.append_nil, List.replicate_succ, List.replicate_zero, if_true, if_false, Bool.false_eq_true, Option.bind_some, Option.map_some, Option.bind_none, Option.map_none, Bool.not_true, Bool.not_false, Z.turnM, Z.tgTup, Z.tgCons, Z.tgNil, Z.appM, Z.extM, Z.parM, List.length_cons, List.length_nil, Option.getD_some, e1, d2, e2, g0, List.nil_append, ih]
      · have d1 : (!decide (p ∈ opens)) = true := by simp [z1]
        have d2 : notInD (.str p) (.tup [.str "(", .str "["]) = some (.bl true) := by rw [notIn_2t, ← d1]; rfl
        by_cases z2 : t ∈ closes
        · have d3 : (!decide (t ∈ closes)) = false := by simp [z2]
          have d4 : notInD (.str t) (.tup [.str ")", .str "]", .str ",", .str ";", .str "."]) = some (.bl false) := by rw [notIn_5t, ← d3]; rfl
          have e2 : addIS (.str (mkS acc)) (.str t) = some (.str (mkS (acc ++ L t))) := addIS_mt (by omega)
          have g0 : gapO (some p) t = [] := if_pos (.inr z2)
          simp only [g0, List.nil_append] at ih
          simp only [Z.fv_cons, Z.fv_nil, atI_0, atI_1, atI_2, atI_3, atI_4, ixNc_0, ixNc_1, ixNc_2, ixNc_3, mo_bind, mo_pure, bind_ok, bind_exc, bind_stuck, Z.getV, Z.putV, Z.putOwn, Z.putBox, Z.rdOwn, Z.ownAt, Z.seqM, Z.asgM, Z.ifM, Z.andM, Z.orM, Z.notM, Z.asB, Z.bin2, Z.un1, Z.ofO, Z.ofS, Z.ixM, Z.blt1M, Z.blt1O, Z.deref, Z.slM, Z.slMU, Z.partM, Z.tupM, Z.lstM, Z.catM, Z.argsM, Z.callM, Z.callMU, Z.callF, Z.callU, Z.truM, Z.setIxM, Z.putIx, Z.augM, Z.fin, Z.fr0, Z.funM, Z.ltD, Z.leD, Z.gtD, Z.geD, Z.iiD, Z.iiC, Z.subD, Z.intD, List.getElem?_map, List.length_map, List.getElem?_cons_zero, List.getElem?_cons_succ, List.set_cons_zero, List.set_cons_succ, List.cons_append, List.nil_append, List.append_nil, List.replicate_succ, List.replicate_zero, if_true, if_false, Bool.false_eq_true, Option.bind_some, Option.map_some, Option.bind_none, Option.map_none, Bool.not_true, Bool.not_false, Z.turnM, Z.tgTup, Z.tgCons, Z.tgNil, Z.appM, Z.extM, Z.parM, List.length_cons, List.length_nil, Option.getD_some, e1, d2, d4, e2, g0, List.nil_append, ih]
        · have d3 : (!decide (t ∈ closes)) = true := by simp [z2]
          have d4 : notInD (.str t) (.tup [.str ")", .str "]", .str ",", .str ";", .str "."]) = some (.bl true) := by rw [notIn_5t, ← d3]; rfl
          have g0 : gapO (some p) t = [32] := if_neg (by simp [z1, z2])
          rw [g0] at hl
          simp only [List.length_singleton] at hl
          have e3 : addIS (.str (mkS acc)) (.str " ") = some (.str (mkS (acc ++ [32]))) := by
            rw [show (" " : Str) = mkS [32] by decide +kernel]
            exact addIS_mk (by simp only [List.length_singleton]; omega)
          have e2 : addIS (.str (mkS (acc ++ [32]))) (.str t) = some (.str (mkS (acc ++ ([32] ++ L t)))) := by
            rw [← List.append_assoc]
            exact addIS_mt (by simp only [List.length_append, List.length_singleton]; omega)
          simp only [g0, Z.fv_cons, Z.fv_nil, atI_0, atI_1, atI_2, atI_3, atI_4, ixNc_0, ixNc_1, ixNc_2, ixNc_3, mo_bind, mo_pure, bind_ok, bind_exc, bind_stuck, Z.getV, Z.putV, Z.putOwn, Z.putBox, Z.rdOwn, Z.ownAt, Z.seqM, Z.asgM, Z.ifM, Z.andM, Z.orM, Z.notM, Z.asB, Z.bin2, Z.un1, Z.ofO, Z.ofS, Z.ixM, Z.blt1M, Z.blt1O, Z.deref, Z.slM, Z.slMU, Z.partM, Z.tupM, Z.lstM, Z.catM, Z.argsM, Z.callM, Z.callMU, Z.callF, Z.callU, Z.truM, Z.setIxM, Z.putIx, Z.augM, Z.fin, Z.fr0, Z.funM, Z.ltD, Z.leD, Z.gtD, Z.geD, Z.iiD, Z.iiC, Z.subD, Z.intD, List.getElem?_map, List.length_map, List.getElem?_cons_zero, List.getElem?_cons_succ, List.set_cons_zero, List.set_cons_succ, List.cons_append, List.nil_append, List.append_nil, List.replicate_succ, List.replicate_zero, if_true, if_false, Bool.false_eq_true, Option.bind_some, Option.map_some, Option.bind_none, Option.map_none, Bool.not_true, Bool.not_false, Z.turnM, Z.tgTup, Z.tgCons, Z.tgNil, Z.appM, Z.extM, Z.parM, List.length_cons, List.length_nil] at ih
          simp only [Z.fv_cons, Z.fv_nil, atI_0, atI_1, atI_2, atI_3, atI_4, ixNc_0, ixNc_1, ixNc_2, ixNc_3, mo_bind, mo_pure, bind_ok, bind_exc, bind_stuck, Z.getV, Z.putV, Z.putOwn, Z.putBox, Z.rdOwn, Z.ownAt, Z.seqM, Z.asgM, Z.ifM, Z.andM, Z.orM, Z.notM, Z.asB, Z.bin2, Z.un1, Z.ofO, Z.ofS, Z.ixM, Z.blt1M, Z.blt1O, Z.deref, Z.slM, Z.slMU, Z.partM, Z.tupM, Z.lstM, Z.catM, Z.argsM, Z.callM, Z.callMU, Z.callF, Z.callU, Z.truM, Z.setIxM, Z.putIx, Z.augM, Z.fin, Z.fr0, Z.funM, Z.ltD, Z.leD, Z.gtD, Z.geD, Z.iiD, Z.iiC, Z.subD, Z.intD, List.getElem?_map, List.length_map, List.getElem?_cons_zero, List.getElem?_cons_succ, List.set_cons_zero, List.set_cons_succ, List.cons_append, List.nil_append, List.append_nil, List.replicate_succ, List.replicate_zero, if_true, if_false, Bool.false_eq_true, Option.bind_some, Option.map_some, Option.bind_none, Option.map_none, Bool.not_true, Bool.not_false, Z.turnM, Z.tgTup, Z.tgCons, Z.tgNil, Z.appM, Z.extM, Z.parM, List.length_cons, List.length_nil] at e2
          simp only [Z.fv_cons, Z.fv_nil, atI_0, atI_1, atI_2, atI_3, atI_4, ixNc_0, ixNc_1, ixNc_2, ixNc_3, mo_bind, mo_pure, bind_ok, bind_exc, bind_stuck, Z.getV, Z.putV, Z.putOwn, Z.putBox, Z.rdOwn, Z.ownAt, Z.seqM, Z.asgM, Z.ifM, Z.andM, Z.orM, Z.notM, Z.asB, Z.bin2, Z.un1, Z.ofO, Z.ofS, Z.ixM, Z.blt1M, Z.blt1O, Z.deref, Z.slM, Z.slMU, Z.partM, Z.tupM, Z.lstM, Z.catM, Z.argsM, Z.callM, Z.callMU, Z.callF, Z.callU, Z.truM, Z.setIxM, Z.putIx, Z.augM, Z.fin, Z.fr0, Z.funM, Z.ltD, Z.leD, Z.gtD, Z.geD, Z.iiD, Z.iiC, Z.subD, Z.intD, List.getElem?_map, List.length_map, List.getElem?_cons_zero, List.getElem?_cons_succ, List.set_cons_zero, List.set_cons_succ, List.cons_append, List.nil_append, List.append_nil, List.replicate_succ, List.replicate_zero, if_true, if_false, Bool.false_eq_true, Option.bind_some, Option.map_some, Option.bind_none, Option.map_none, Bool.not_true, Bool.not_false, Z.turnM, Z.tgTup, Z.tgCons, Z.tgNil, Z.appM, Z.extM, Z.parM, List.length_cons, List.length_nil, Option.getD_some, e1, d2, d4, e3, e2, g0, ih, List.append_assoc]
theorem joined_ok {fu rk : Nat} {S : List Ob} {ts : List Str} (h : TL ts) : F_joined fu rk [.lst (ts.map .str)] S = .ok (.d (.str (mkS (jn ts)))) S := by
  obtain ⟨s3, e⟩ := joined_loop (fu := fu) (rk := rk) (S := S) (w := .lst (ts.map .str)) ts none [] .un h.ok (by have := wg_len ts none h.ok; have := h.len; simp only [List.length_nil]; omega) (by simp) rfl
  have e0 : mkS [] = ("" : Str) := by decide +kernel
  simp only [Z.fv_cons, Z.fv_nil, atI_0, atI_1, atI_2, atI_3, atI_4, ixNc_0, ixNc_1, ixNc_2, ixNc_3, mo_bind, mo_pure, bind_ok, bind_exc, bind_stuck, Z.getV, Z.putV, Z.putOwn, Z.putBox, Z.rdOwn, Z.ownAt, Z.seqM, Z.asgM, Z.ifM, Z.andM, Z.orM, Z.notM, Z.asB, Z.bin2, Z.un1, Z.ofO, Z.ofS, Z.ixM, Z.blt1M, Z.blt1O, Z.deref, Z.slM, Z.slMU, Z.partM, Z.tupM, Z.lstM, Z.catM, Z.argsM, Z.callM, Z.callMU, Z.callF, Z.callU, Z.truM, Z.setIxM, Z.putIx, Z.augM, Z.fin, Z.fr0, Z.funM, Z.ltD, Z.leD, Z.gtD, Z.geD, Z.iiD, Z.iiC, Z.subD, Z.intD, List.getElem?_map, List.length_map, List.getElem?_cons_zero, List.getElem?_cons_succ, List.set_cons_zero, List.set_cons_succ, List.cons_append, List.nil_append, List.append_nil, List.replicate_succ, List.replicate_zero, if_true, if_false, Bool.false_eq_true, Option.bind_some, Option.map_some, Option.bind_none, Option.map_none, Bool.not_true, Bool.not_false, Z.turnM, Z.tgTup, Z.tgCons, Z.tgNil, Z.appM, Z.extM, Z.parM, List.length_cons, List.length_nil, e0, Option.getD_none] at e
  unfold F_joined M_joined
  simp only [Z.fv_cons, Z.fv_nil, atI_0, atI_1, atI_2, atI_3, atI_4, ixNc_0, ixNc_1, ixNc_2, ixNc_3, mo_bind, mo_pure, bind_ok, bind_exc, bind_stuck, Z.getV, Z.putV, Z.putOwn, Z.putBox, Z.rdOwn, Z.ownAt, Z.seqM, Z.asgM, Z.ifM, Z.andM, Z.orM, Z.notM, Z.asB, Z.bin2, Z.un1, Z.ofO, Z.ofS, Z.ixM, Z.blt1M, Z.blt1O, Z.deref, Z.slM, Z.slMU, Z.partM, Z.tupM, Z.lstM, Z.catM, Z.argsM, Z.callM, Z.callMU, Z.callF, Z.callU, Z.truM, Z.setIxM, Z.putIx, Z.augM, Z.fin, Z.fr0, Z.funM, Z.ltD, Z.leD, Z.gtD, Z.geD, Z.iiD, Z.iiC, Z.subD, Z.intD, List.getElem?_map, List.length_map, List.getElem?_cons_zero, List.getElem?_cons_succ, List.set_cons_zero, List.set_cons_succ, List.cons_append, List.nil_append, List.append_nil, List.replicate_succ, List.replicate_zero, if_true, if_false, Bool.false_eq_true, Option.bind_some, Option.map_some, Option.bind_none, Option.map_none, Bool.not_true, Bool.not_false, Z.turnM, Z.tgTup, Z.tgCons, Z.tgNil, Z.appM, Z.extM, Z.parM, List.length_cons, List.length_nil, itL, Z.forM, e, jn]
end K70
set_option Elab.async false
set_option linter.all false
set_option maxRecDepth 100000
set_option maxHeartbeats 4000000
/-! Y10: the law's texts: joined, scattered, spaced. -/
namespace Z
open PySem L2
theorem rngD_get {n j : Nat} {d : D} (h : (rngD 0 n)[j]? = some d) : d = .int (j : Int) ∧ j < n := by
  unfold rngD at h
  rw [List.getElem?_map] at h
  by_cases hj : j < n
  · rw [List.getElem?_range hj] at h
    simp at h
    exact ⟨h.symm, hj⟩
  · rw [List.getElem?_eq_none (by simp; omega)] at h
    cases h
theorem ix_lst {ts : List Str} {j : Nat} {t : Str} {S : List Ob} (h : ts[j]? = some t) : ixS (.lst (ts.map .str)) (.int j) S = some (.str t) := by
  show atI (ts.map D.str) (j : Int) = _
  rw [atI_natZ, List.getElem?_map, h]
  rfl
theorem lenD_lst (ds : List D) (h : ds.length ≤ 16777216) : lenD (.lst ds) = some (.int ds.length) := by
  first
    | rfl
    | (show (if ds.length ≤ sizeLine then some (D.int (ds.length : Nat)) else none) = _
       rw [if_pos (by rw [sizeLine_eq]; exact h)])
end Z
namespace K70
open PySem L2 Z
theorem wg_snoc (t : Str) : ∀ (a : List Str) (p : Option Str), wg p (a ++ [t]) = wg p a ++ [(gapO (lastO p a) t, t)]
  | [], p => rfl
  | u :: r, p => by
    show (gapO p u, u) :: wg (some u) (r ++ [t]) = (gapO p u, u) :: wg (some u) r ++ _
    rw [wg_snoc t r]
    rfl
theorem lastO_snoc (t : Str) : ∀ (a : List Str) (p : Option Str), lastO p (a ++ [t]) = some t
  | [], p => rfl
  | u :: r, p => lastO_snoc t r (some u)
theorem lastO_take {ts : List Str} {i : Nat} {t : Str} (h : ts[i]? = some t) : lastO none (ts.take (i + 1)) = some t := by
  rw [List.take_succ, h]
  exact lastO_snoc t _ _
theorem gt_take {ts : List Str} {i : Nat} {t : Str} (h : ts[i]? = some t) : gt (wg none (ts.take (i + 1))) = gt (wg none (ts.take i)) ++ (gapO (lastO none (ts.take i)) t ++ L t) := by
  rw [List.take_succ, h]
  show gt (wg none (ts.take i ++ [t])) = _
  rw [wg_snoc, gt_app]
  simp [gt]
theorem law_joined_ok {fu rk : Nat} {S : List Ob} {ts : List Str} (h : TL ts) : F__law_joined fu rk [.lst (ts.map .str)] S = .ok (.d (.str (mkS (jn ts)))) S := by
  have hlen := h.len
  have hr : itR1 [.int (ts.length : Int)] = some (rngD 0 ts.length) := itR1_nat (by omega)
  have hld : lenD (.lst (ts.map .str)) = some (.int (ts.length : Int)) := by rw [lenD_lst _ (by rw [List.length_map]; omega), List.length_map]
  have e0 : mkS [] = ("" : Str) := by decide +kernel
  obtain ⟨fr', S', e1, e2, s2, e3⟩ := loop_ind (f := (putV 2)) (b := (seqM (ifM (Z.andM (asB (bin2 (getV 2) (pure (.int 0)) gtD)) (Z.andM (asB (bin2 (ixM (getV 0) (bin2 (getV 2) (pure (.int 1)) subD)) (lstM (argsM [(pure (.str "(")), (pure (.str "["))])) notInD)) (asB (bin2 (ixM (getV 0) (getV 2)) (lstM (argsM [(pure (.str ")")), (pure (.str "]")), (pure (.str ",")), (pure (.str ";")), (pure (.str "."))])) notInD)))) (asgM (bin2 (getV 1) (pure (.str " ")) addD) (putV 1)) (pure .nx))
    (asgM (bin2 (getV 1) (ixM (getV 0) (getV 2)) addD) (putV 1))))
    (fun i fr S' => S' = S ∧ ∃ s2, fr = [.val (.lst (ts.map .str)), .val (.str (mkS (gt (wg none (ts.take i))))), s2]) (rngD 0 ts.length) 0 [.val (.lst (ts.map .str)), .val (.str ""), .un] S
    (fun j d fr S' hd hi => by
      obtain ⟨rfl, hj⟩ := rngD_get hd
      obtain ⟨rfl, s2, rfl⟩ := hi
      rw [Nat.zero_add]
      have gj : ts[j]? = some ts[j] := List.getElem?_eq_getElem hj
      generalize ts[j] = t at gj
      have ht := h.ok t (List.mem_of_getElem? gj)
      have hl : (gt (wg none (ts.take j))).length ≤ 1000000 := by
        have := wg_len (ts.take j) none fun u hu => h.ok u (List.mem_of_mem_take hu)
        rw [List.length_take] at this
        omega
      have gt1 := gt_take gj
      have ij := ix_lst (S := S') gj
      cases j with
      | zero =>
        rw [List.take_zero] at gt1 ⊢
        have gt1' : gt (wg none (ts.take (0 + 1))) = L t := by
          rw [gt1]; rfl
        rw [gt1']
        have g0 : mkS (gt (wg none [])) = ("" : Str) := e0
        rw [g0]
        have b0 : decide ((0 : Int) < ((0 : Nat) : Int)) = false := by decide
        have e2 : addD (.str "") (.str t) = some (.str (mkS (L t))) := by
          rw [← e0]; exact addD_mt (by simp only [List.length_nil]; omega)
        refine ⟨_, _, [.val (.lst (ts.map .str)), .val (.str (mkS (L t))), .val (.int ((0 : Nat) : Int))], S', rfl, ?_, rfl, _, rfl⟩
        simp only [Z.fv_cons, Z.fv_nil, atI_0, atI_1, atI_2, atI_3, atI_4, ixNc_0, ixNc_1, ixNc_2, ixNc_3, mo_bind, mo_pure, bind_ok, bind_exc, bind_stuck, Z.getV, Z.putV, Z.putOwn, Z.putBox, Z.rdOwn, Z.ownAt, Z.seqM, Z.asgM, Z.ifM, Z.andM, Z.orM, Z.notM, Z.asB, Z.bin2, Z.un1, Z.ofO, Z.ofS, Z.ixM, Z.blt1M, Z.blt1O, Z.deref, Z.slM, Z.slMU, Z.partM, Z.tupM, Z.lstM, Z.catM, Z.argsM, Z.callM, Z.callMU, Z.callF, Z.callU, Z.truM, Z.setIxM, Z.putIx, Z.augM, Z.fin, Z.fr0, Z.funM, Z.ltD, Z.leD, Z.gtD, Z.geD, Z.iiD, Z.iiC, Z.subD, Z.intD, List.getElem?_map, List.length_map, List.getElem?_cons_zero, List.getElem?_cons_succ, List.set_cons_zero, List.set_cons_succ, List.cons_append, List.nil_append, List.append_nil, List.replicate_succ, List.replicate_zero, if_true, if_false, Bool.false_eq_true, Option.bind_some, Option.map_some, Option.bind_none, Option.map_none, Bool.not_true, Bool.not_false, Z.turnM, Z.tgTup, Z.tgCons, Z.tgNil, Z.appM, Z.extM, Z.parM, List.length_cons, List.length_nil, b0, ij, e2]
      | succ m =>
        have gm : ts[m]? = some ts[m] := List.getElem?_eq_getElem (by omega)
        generalize ts[m] = p at gm
        have im := ix_lst (S := S') gm
        have hlo := lastO_take gm
        rw [hlo] at gt1
        rw [gt1]
        generalize gt (wg none (ts.take (m + 1))) = acc at hl ⊢
        have b0 : decide ((0 : Int) < ((m + 1 : Nat) : Int)) = true := by rw [decide_eq_true_eq]; omega
        have b1 : (((m + 1 : Nat) : Int) - 1) = (m : Int) := by omega
        refine ⟨_, _, [.val (.lst (ts.map .str)), .val (.str (mkS (acc ++ (gapO (some p) t ++ L t)))), .val (.int ((m + 1 : Nat) : Int))], S', rfl, ?_, rfl, _, rfl⟩
        by_cases z1 : p ∈ opens
        · have d1 : (!decide (p ∈ opens)) = false := by simp [z1]
          have d2 : notInD (.str p) (.lst [.str "(", .str "["]) = some (.bl false) := by rw [notIn_2l, ← d1]; rfl
          have e2 : addD (.str (mkS acc)) (.str t) = some (.str (mkS (acc ++ L t))) := addD_mt (by omega)
          have g0 : gapO (some p) t = [] := if_pos (.inl z1)
          simp only [Z.fv_cons, Z.fv_nil, atI_0, atI_1, atI_2, atI_3, atI_4, ixNc_0, ixNc_1, ixNc_2, ixNc_3, mo_bind, mo_pure, bind_ok, bind_exc, bind_stuck, Z.getV, Z.putV, Z.putOwn, Z.putBox, Z.rdOwn, Z.ownAt, Z.seqM, Z.asgM, Z.ifM, Z.andM, Z.orM, Z.notM, Z.asB, Z.bin2, Z.un1, Z.ofO, Z.ofS, Z.ixM, Z.blt1M, Z.blt1O, Z.deref, Z.slM, Z.slMU, Z.partM, Z.tupM, Z.lstM, Z.catM, Z.argsM, Z.callM, Z.callMU, Z.callF, Z.callU, Z.truM, Z.setIxM, Z.putIx, Z.augM, Z.fin, Z.fr0, Z.funM, Z.ltD, Z.leD, Z.gtD, Z.geD, Z.iiD, Z.iiC, Z.subD, Z.intD, List.getElem?_map, List.length_map, List.getElem?_cons_zero, List.getElem?_cons_succ, List.set_cons_zero, List.set_cons_succ, List.cons_append, List.nil_append, List.append_nil, List.replicate_succ, List.replicate_zero, if_true, if_false, Bool.false_eq_true, Option.bind_some, Option.map_some, Option.bind_none, Option.map_none, Bool.not_true, Bool.not_false, Z.turnM, Z.tgTup, Z.tgCons, Z.tgNil, Z.appM, Z.extM, Z.parM, List.length_cons, List.length_nil, b0, b1, ij, im, d2, e2, g0, List.nil_append]
        · have d1 : (!decide (p ∈ opens)) = true := by simp [z1]
          have d2 : notInD (.str p) (.lst [.str "(", .str "["]) = some (.bl true) := by rw [notIn_2l, ← d1]; rfl
          by_cases z2 : t ∈ closes
          · have d3 : (!decide (t ∈ closes)) = false := by simp [z2]
            have d4 : notInD (.str t) (.lst [.str ")", .str "]", .str ",", .str ";", .str "."]) = some (.bl false) := by rw [notIn_5l, ← d3]; rfl
            have e2 : addD (.str (mkS acc)) (.str t) = some (.str (mkS (acc ++ L t))) := addD_mt (by omega)
            have g0 : gapO (some p) t = [] := if_pos (.inr z2)
            simp only [Z.fv_cons, Z.fv_nil, atI_0, atI_1, atI_2, atI_3, atI_4, ixNc_0, ixNc_1, ixNc_2, ixNc_3, mo_bind, mo_pure, bind_ok, bind_exc, bind_stuck, Z.getV, Z.putV, Z.putOwn, Z.putBox, Z.rdOwn, Z.ownAt, Z.seqM, Z.asgM, Z.ifM, Z.andM, Z.orM, Z.notM, Z.asB, Z.bin2, Z.un1, Z.ofO, Z.ofS, Z.ixM, Z.blt1M, Z.blt1O, Z.deref, Z.slM, Z.slMU, Z.partM, Z.tupM, Z.lstM, Z.catM, Z.argsM, Z.callM, Z.callMU, Z.callF, Z.callU, Z.truM, Z.setIxM, Z.putIx, Z.augM, Z.fin, Z.fr0, Z.funM, Z.ltD, Z.leD, Z.gtD, Z.geD, Z.iiD, Z.iiC, Z.subD, Z.intD, List.getElem?_map, List.length_map, List.getElem?_cons_zero, List.getElem?_cons_succ, List.set_cons_zero, List.set_cons_succ, List.cons_append, List.nil_append, List.append_nil, List.replicate_succ, List.replicate_zero, if_true, if_false, Bool.false_eq_true, Option.bind_some, Option.map_some, Option.bind_none, Option.map_none, Bool.not_true, Bool.not_false, Z.turnM, Z.tgTup, Z.tgCons, Z.tgNil, Z.appM, Z.extM, Z.parM, List.length_cons, List.length_nil, b0, b1, ij, im, d2, d4, e2, g0, List.nil_append]
          · have d3 : (!decide (t ∈ closes)) = true := by simp [z2]
            have d4 : notInD (.str t) (.lst [.str ")", .str "]", .str ",", .str ";", .str "."]) = some (.bl true) := by rw [notIn_5l, ← d3]; rfl
            have g0 : gapO (some p) t = [32] := if_neg (by simp [z1, z2])
            have e3 : addD (.str (mkS acc)) (.str " ") = some (.str (mkS (acc ++ [32]))) := by
              rw [show (" " : Str) = mkS [32] by decide +kernel]
              exact addD_mk (by simp only [List.length_singleton]; omega)
            have e2 : addD (.str (mkS (acc ++ [32]))) (.str t) = some (.str (mkS (acc ++ ([32] ++ L t)))) := by
              rw [← List.append_assoc]
              exact addD_mt (by simp only [List.length_append, List.length_singleton]; omega)
            simp only [Z.fv_cons, Z.fv_nil, atI_0, atI_1, atI_2, atI_3, atI_4, ixNc_0, ixNc_1, ixNc_2, ixNc_3, mo_bind, mo_pure, bind_ok, bind_exc, bind_stuck, Z.getV, Z.putV, Z.putOwn, Z.putBox, Z.rdOwn, Z.ownAt, Z.seqM, Z.asgM, Z.ifM, Z.andM, Z.orM, Z.notM, Z.asB, Z.bin2, Z.un1, Z.ofO, Z.ofS, Z.ixM, Z.blt1M, Z.blt1O, Z.deref, Z.slM, Z.slMU, Z.partM, Z.tupM, Z.lstM, Z.catM, Z.argsM, Z.callM, Z.callMU, Z.callF, Z.callU, Z.truM, Z.setIxM, Z.putIx, Z.augM, Z.fin, Z.fr0, Z.funM, Z.ltD, Z.leD, Z.gtD, Z.geD, Z.iiD, Z.iiC, Z.subD, Z.intD, List.getElem?_map, List.length_map, List.getElem?_cons_zero, List.getElem?_cons_succ, List.set_cons_zero, List.set_cons_succ, List.cons_append, List.nil_append, List.append_nil, List.replicate_succ, List.replicate_zero, if_true, if_false, Bool.false_eq_true, Option.bind_some, Option.map_some, Option.bind_none, Option.map_none, Bool.not_true, Bool.not_false, Z.turnM, Z.tgTup, Z.tgCons, Z.tgNil, Z.appM, Z.extM, Z.parM, List.length_cons, List.length_nil] at e2
            simp only [Z.fv_cons, Z.fv_nil, atI_0, atI_1, atI_2, atI_3, atI_4, ixNc_0, ixNc_1, ixNc_2, ixNc_3, mo_bind, mo_pure, bind_ok, bind_exc, bind_stuck, Z.getV, Z.putV, Z.putOwn, Z.putBox, Z.rdOwn, Z.ownAt, Z.seqM, Z.asgM, Z.ifM, Z.andM, Z.orM, Z.notM, Z.asB, Z.bin2, Z.un1, Z.ofO, Z.ofS, Z.ixM, Z.blt1M, Z.blt1O, Z.deref, Z.slM, Z.slMU, Z.partM, Z.tupM, Z.lstM, Z.catM, Z.argsM, Z.callM, Z.callMU, Z.callF, Z.callU, Z.truM, Z.setIxM, Z.putIx, Z.augM, Z.fin, Z.fr0, Z.funM, Z.ltD, Z.leD, Z.gtD, Z.geD, Z.iiD, Z.iiC, Z.subD, Z.intD, List.getElem?_map, List.length_map, List.getElem?_cons_zero, List.getElem?_cons_succ, List.set_cons_zero, List.set_cons_succ, List.cons_append, List.nil_append, List.append_nil, List.replicate_succ, List.replicate_zero, if_true, if_false, Bool.false_eq_true, Option.bind_some, Option.map_some, Option.bind_none, Option.map_none, Bool.not_true, Bool.not_false, Z.turnM, Z.tgTup, Z.tgCons, Z.tgNil, Z.appM, Z.extM, Z.parM, List.length_cons, List.length_nil, b0, b1, ij, im, d2, d4, e3, e2, g0, List.append_assoc]) ⟨rfl, .un, by rw [List.take_zero]; exact congrArg (fun z => [Sl.val (.lst (ts.map .str)), .val (.str z), .un]) e0.symm⟩
  subst e2
  subst e3
  have hn : (rngD 0 ts.length).length = ts.length := by simp [rngD]
  rw [Nat.zero_add, hn, List.take_length] at e1
  simp only [Z.fv_cons, Z.fv_nil, atI_0, atI_1, atI_2, atI_3, atI_4, ixNc_0, ixNc_1, ixNc_2, ixNc_3, mo_bind, mo_pure, bind_ok, bind_exc, bind_stuck, Z.getV, Z.putV, Z.putOwn, Z.putBox, Z.rdOwn, Z.ownAt, Z.seqM, Z.asgM, Z.ifM, Z.andM, Z.orM, Z.notM, Z.asB, Z.bin2, Z.un1, Z.ofO, Z.ofS, Z.ixM, Z.blt1M, Z.blt1O, Z.deref, Z.slM, Z.slMU, Z.partM, Z.tupM, Z.lstM, Z.catM, Z.argsM, Z.callM, Z.callMU, Z.callF, Z.callU, Z.truM, Z.setIxM, Z.putIx, Z.augM, Z.fin, Z.fr0, Z.funM, Z.ltD, Z.leD, Z.gtD, Z.geD, Z.iiD, Z.iiC, Z.subD, Z.intD, List.getElem?_map, List.length_map, List.getElem?_cons_zero, List.getElem?_cons_succ, List.set_cons_zero, List.set_cons_succ, List.cons_append, List.nil_append, List.append_nil, List.replicate_succ, List.replicate_zero, if_true, if_false, Bool.false_eq_true, Option.bind_some, Option.map_some, Option.bind_none, Option.map_none, Bool.not_true, Bool.not_false, Z.turnM, Z.tgTup, Z.tgCons, Z.tgNil, Z.appM, Z.extM, Z.parM, List.length_cons, List.length_nil] at e1
  unfold F__law_joined M__law_joined
  simp only [Z.fv_cons, Z.fv_nil, atI_0, atI_1, atI_2, atI_3, atI_4, ixNc_0, ixNc_1, ixNc_2, ixNc_3, mo_bind, mo_pure, bind_ok, bind_exc, bind_stuck, Z.getV, Z.putV, Z.putOwn, Z.putBox, Z.rdOwn, Z.ownAt, Z.seqM, Z.asgM, Z.ifM, Z.andM, Z.orM, Z.notM, Z.asB, Z.bin2, Z.un1, Z.ofO, Z.ofS, Z.ixM, Z.blt1M, Z.blt1O, Z.deref, Z.slM, Z.slMU, Z.partM, Z.tupM, Z.lstM, Z.catM, Z.argsM, Z.callM, Z.callMU, Z.callF, Z.callU, Z.truM, Z.setIxM, Z.putIx, Z.augM, Z.fin, Z.fr0, Z.funM, Z.ltD, Z.leD, Z.gtD, Z.geD, Z.iiD, Z.iiC, Z.subD, Z.intD, List.getElem?_map, List.length_map, List.getElem?_cons_zero, List.getElem?_cons_succ, List.set_cons_zero, List.set_cons_succ, List.cons_append, List.nil_append, List.append_nil, List.replicate_succ, List.replicate_zero, if_true, if_false, Bool.false_eq_true, Option.bind_some, Option.map_some, Option.bind_none, Option.map_none, Bool.not_true, Bool.not_false, Z.turnM, Z.tgTup, Z.tgCons, Z.tgNil, Z.appM, Z.extM, Z.parM, List.length_cons, List.length_nil, hld, hr, Z.forM, e1, jn]
end K70
set_option Elab.async false
set_option linter.all false
set_option maxRecDepth 100000
set_option maxHeartbeats 4000000
/-! Y11: the law's texts: spaced, scattered. -/
namespace K70
open PySem L2 Z
def sp : List Str → List (List Nat × Str)
  | [] => []
  | t :: r => ([], t) :: r.map fun u => ([32], u)
theorem sp_snd : ∀ ts : List Str, (sp ts).map Prod.snd = ts
  | [] => rfl
  | t :: r => by simp [sp, Function.comp_def]
theorem sp_gaps : ∀ ts : List Str, (∀ t ∈ ts, okT t = true) → Gaps (sp ts) := by
  have h1 : ∀ (r : List Str) (g : List Nat) (t : Str), (∀ c ∈ g, isBl c = true) → (∀ u ∈ t :: r, okT u = true) → Gaps ((g, t) :: r.map fun u => ([32], u)) := by
    intro r
    induction r with
    | nil => intro g t hg h; exact .last hg (h t (by simp))
    | cons u r ih =>
      intro g t hg h
      exact .cons hg (h t (by simp)) (.inl (by simp)) (ih [32] u (by simp [isBl]) fun v hv => h v (by simp [hv]))
  intro ts h
  cases ts with
  | nil => exact .nil
  | cons t r => exact h1 r [] t (by simp) h
theorem strsOf_map : ∀ ts : List Str, strsOf (ts.map .str) = some ts
  | [] => rfl
  | t :: r => by
    show (strsOf (r.map .str)).map (t :: ·) = _
    rw [strsOf_map r]
    rfl
theorem glued_fold (g : Array Nat) : ∀ (r : List Str) (a : Array Nat), (r.foldl (fun acc p => acc ++ g ++ p.cps) a).toList = a.toList ++ r.flatMap fun p => g.toList ++ L p
  | [], a => by simp
  | t :: r, a => by
    rw [List.foldl_cons, glued_fold g r]
    simp
theorem join_gt (ts : List Str) : Txt.join " " ts = mkS (gt (sp ts)) := by
  show (⟨(ts.drop 1).foldl (fun acc p => acc ++ (" " : Str).cps ++ p.cps) (ts.headD Str.empty).cps⟩ : Str) = _
  have e0 : (" " : Str).cps.toList = [32] := by decide +kernel
  have e : ∀ (a : Array Nat) (l : List Nat), a.toList = l → (⟨a⟩ : Str) = mkS l := fun a l h => by subst h; rfl
  apply e
  rw [glued_fold, e0]
  cases ts with
  | nil => rfl
  | cons t r =>
    show L t ++ r.flatMap _ = gt (([], t) :: r.map fun u => ([32], u))
    rw [gt_cons]
    unfold gt
    rw [List.flatMap_map]
    rfl
theorem sum_le : ∀ ts : List Str, (∀ t ∈ ts, okT t = true ∧ (L t).length ≤ 9) → (ts.map (·.length)).sum ≤ 9 * ts.length
  | [], _ => by simp
  | t :: r, h => by
    have h1 := (h t (by simp)).2
    have h2 := sum_le r fun u hu => h u (by simp [hu])
    rw [← len_L] at h1
    simp only [List.map_cons, List.sum_cons, List.length_cons]
    omega
theorem spaced_ok {fu rk : Nat} {S : List Ob} {ts : List Str} (h : TL ts) : F__law_spaced fu rk [.lst (ts.map .str)] S = .ok (.d (.str (mkS (gt (sp ts))))) S := by
  have e : joinS " " (.lst (ts.map .str)) = some (.str (mkS (gt (sp ts)))) := by
    show (strsOf (ts.map .str)).bind (fun ys => if (ys.map (·.length)).sum + ys.length * (" " : Str).length ≤ 16777216 then some (D.str (Txt.join " " ys)) else none) = _
    rw [strsOf_map]
    show (if (ts.map (·.length)).sum + ts.length * (" " : Str).length ≤ 16777216 then some (D.str (Txt.join " " ts)) else none) = _
    have h1 := sum_le ts h.ok
    have h2 := h.len
    have h3 : (" " : Str).length = 1 := by decide +kernel
    rw [if_pos (by rw [h3]; omega), join_gt]
  unfold F__law_spaced M__law_spaced
  simp only [Z.fv_cons, Z.fv_nil, atI_0, atI_1, atI_2, atI_3, atI_4, ixNc_0, ixNc_1, ixNc_2, ixNc_3, mo_bind, mo_pure, bind_ok, bind_exc, bind_stuck, Z.getV, Z.putV, Z.putOwn, Z.putBox, Z.rdOwn, Z.ownAt, Z.seqM, Z.asgM, Z.ifM, Z.andM, Z.orM, Z.notM, Z.asB, Z.bin2, Z.un1, Z.ofO, Z.ofS, Z.ixM, Z.blt1M, Z.blt1O, Z.deref, Z.slM, Z.slMU, Z.partM, Z.tupM, Z.lstM, Z.catM, Z.argsM, Z.callM, Z.callMU, Z.callF, Z.callU, Z.truM, Z.setIxM, Z.putIx, Z.augM, Z.fin, Z.fr0, Z.funM, Z.ltD, Z.leD, Z.gtD, Z.geD, Z.iiD, Z.iiC, Z.subD, Z.intD, List.getElem?_map, List.length_map, List.getElem?_cons_zero, List.getElem?_cons_succ, List.set_cons_zero, List.set_cons_succ, List.cons_append, List.nil_append, List.append_nil, List.replicate_succ, List.replicate_zero, if_true, if_false, Bool.false_eq_true, Option.bind_some, Option.map_some, Option.bind_none, Option.map_none, Bool.not_true, Bool.not_false, Z.turnM, Z.tgTup, Z.tgCons, Z.tgNil, Z.appM, Z.extM, Z.parM, List.length_cons, List.length_nil, joinM, e]
theorem sp_len (ts : List Str) (h : ∀ t ∈ ts, okT t = true ∧ (L t).length ≤ 9) : (gt (sp ts)).length ≤ 10 * ts.length := by
  have h1 : ∀ (r : List Str), (∀ t ∈ r, okT t = true ∧ (L t).length ≤ 9) → (gt (r.map fun u => (([32] : List Nat), u))).length ≤ 10 * r.length := by
    intro r
    induction r with
    | nil => intro _; simp [gt]
    | cons u r ih =>
      intro h
      have a := ih fun v hv => h v (by simp [hv])
      have b := (h u (by simp)).2
      rw [List.map_cons, gt_cons]
      simp only [List.length_append, List.length_singleton, List.length_cons, List.length_nil]
      omega
  cases ts with
  | nil => simp [sp, gt]
  | cons t r =>
    have a := h1 r fun v hv => h v (by simp [hv])
    have b := (h t (by simp)).2
    rw [sp, gt_cons]
    simp only [List.length_append, List.length_nil, List.length_cons]
    omega
theorem alnum_al {c : Nat} (h : al c = true) : Txt.isalnum (mkS [c]) = true := by
  have e : ∀ c ∈ (List.range 128).filter al, Txt.isalnum (mkS [c]) = true := by decide +kernel
  refine e c (List.mem_filter.mpr ⟨List.mem_range.mpr ?_, h⟩)
  simp [al, isLt, isDg] at h
  omega
theorem endAl_al {t : Str} (h : endAl t = true) : ∀ c ∈ L t, al c = true := by
  intro c hc
  unfold endAl at h
  rcases Bool.or_eq_true_iff.mp h with z | z
  · have := (wd_of z).2 c hc
    simp [al, this]
  · have := (nm_of z).2 c hc
    simp [al, this]
theorem Gaps.snoc {g : List Nat} {t : Str} (hg : ∀ c ∈ g, isBl c = true) (ht : okT t = true) : ∀ {ps : List (List Nat × Str)}, Gaps ps → (∀ p, ps.getLast? = some p → g ≠ [] ∨ sep p.2 t = false) → Gaps (ps ++ [(g, t)])
  | _, .nil, _ => .last hg ht
  | _, .last a b, h => .cons a b (h _ rfl) (.last hg ht)
  | _, .cons (g := g1) (t := t1) (g' := g2) (t' := t2) (r := r) a b s hr, h => .cons a b s (Gaps.snoc hg ht hr fun p hp => h p (by rw [List.getLast?_cons_cons]; exact hp))
def g5 : List (List Nat) := [[], [32], [32, 32], [10], [32, 10, 32]]
theorem g5_get {q : Nat} (h : q < 5) : ∃ g : List Nat, ([.str "", .str " ", .str "  ", .str "\n", .str " \n "] : List D)[q]? = some (.str (mkS g)) ∧ (∀ c ∈ g, isBl c = true) ∧ g.length ≤ 3 ∧ eqD (.str (mkS g)) (.str "") = some (.bl g.isEmpty) := by
  have e : ([.str "", .str " ", .str "  ", .str "\n", .str " \n "] : List D) = g5.map fun g => D.str (mkS g) := by
    have a0 : ("" : Str) = mkS [] := by decide +kernel
    have a1 : (" " : Str) = mkS [32] := by decide +kernel
    have a2 : ("  " : Str) = mkS [32, 32] := by decide +kernel
    have a3 : ("\n" : Str) = mkS [10] := by decide +kernel
    have a4 : (" \n " : Str) = mkS [32, 10, 32] := by decide +kernel
    rw [a0, a1, a2, a3, a4]
    rfl
  rw [e, List.getElem?_map, List.getElem?_eq_getElem (show q < g5.length from h)]
  have hall : ∀ g ∈ g5, (∀ c ∈ g, isBl c = true) ∧ g.length ≤ 3 ∧ (∀ c ∈ g, c < 128) := by decide
  obtain ⟨h1, h2, h3⟩ := hall g5[q] (List.getElem_mem _)
  refine ⟨g5[q], rfl, h1, h2, ?_⟩
  rw [eqD_str (sk_mk h3) (by decide +kernel), show ("" : Str) = mkS [] by decide +kernel, dec_mk]
  cases g5[q] <;> rfl
theorem ix_str {t : Str} {i c : Nat} {S : List Ob} (h : (L t)[i]? = some c) (hl : (L t).length ≤ 16777216) : ixS (.str t) (.int i) S = some (.str (mkS [c])) := ix_mk (l := L t) h hl
theorem ix_strL {t : Str} {c : Nat} {S : List Ob} (h : (L t).getLast? = some c) (hl : (L t).length ≤ 16777216) : ixS (.str t) (.int (-1)) S = some (.str (mkS [c])) := by
  show (if t.length ≤ sizeLine then (atI (L t) (-1)).map fun c => D.str ⟨#[c]⟩ else none) = _
  rw [if_pos (by rw [len_L, sizeLine_eq]; exact hl), atI_last _ (by intro e; rw [e] at h; cases h), h]
  rfl
theorem scattered_ok {fu rk : Nat} {S : List Ob} {o : Ob} {ts : List Str} (h : TL ts) (hb : ∀ t ∈ ts, badT t = false) (hS : S[0]? = some o) (ho : Cob o) :
    ∃ ps o', F__law_scattered fu rk [.ptr 0, .lst (ts.map .str)] S = .ok (.d (.str (mkS (gt ps)))) (S.set 0 o') ∧ Cob o' ∧ ps.map Prod.snd = ts ∧ Gaps ps ∧ (gt ps).length ≤ 12 * ts.length := by
  have hlen := h.len
  have hl : 0 < S.length := (List.getElem?_eq_some_iff.mp hS).1
  have g1 : ∀ o, (S.set 0 o)[0]? = some o := fun o => List.getElem?_set_self hl
  have hs : ∀ o o', (S.set 0 o).set 0 o' = S.set 0 o' := fun o o' => List.set_set _
  have hr : itR1 [.int (ts.length : Int)] = some (rngD 0 ts.length) := itR1_nat (by omega)
  have hld : lenD (.lst (ts.map .str)) = some (.int (ts.length : Int)) := by rw [lenD_lst _ (by rw [List.length_map]; omega), List.length_map]
  have e0 : mkS [] = ("" : Str) := by decide +kernel
  have hS0 : S.set 0 o = S := by
    apply List.ext_getElem?
    intro i
    by_cases z : i = 0
    · subst z; rw [g1, hS]
    · rw [List.getElem?_set_ne (Ne.symm z)]
  obtain ⟨fr', S', e1, ps, o', s3, s4, p1, p2, p3, p4, p5, p6⟩ := loop_ind (f := (putV 3)) (b := (seqM (ifM (asB (bin2 (getV 3) (pure (.int 0)) gtD)) (seqM (asgM (ixM (lstM (argsM [(pure (.str "")), (pure (.str " ")), (pure (.str "  ")), (pure (.str "\n")), (pure (.str " \n "))])) (callM (F__law_take fu rk) [(getV 0), (pure (.int 5))] [])) (putV 4))
    (seqM (ifM (Z.andM (asB (bin2 (getV 4) (pure (.str "")) eqD)) (Z.andM (truM ((ixM (ixM (getV 1) (bin2 (getV 3) (pure (.int 1)) subD)) (un1 (pure (.int 1)) negD)) >>= fun d => match d with
      | .str a => pure (.bl (Txt.isalnum a))
      | _ => Mo.stuck)) (truM ((ixM (ixM (getV 1) (getV 3)) (pure (.int 0))) >>= fun d => match d with
      | .str a => pure (.bl (Txt.isalnum a))
      | _ => Mo.stuck)))) (asgM (pure (.str " ")) (putV 4)) (pure .nx))
    (asgM (bin2 (getV 2) (getV 4) addD) (putV 2)))) (pure .nx))
    (asgM (bin2 (getV 2) (ixM (getV 1) (getV 3)) addD) (putV 2))))
    (fun i fr S' => ∃ ps o' s3 s4, fr = [.val (.ptr 0), .val (.lst (ts.map .str)), .val (.str (mkS (gt ps))), s3, s4] ∧ S' = S.set 0 o' ∧ Cob o' ∧ ps.map Prod.snd = ts.take i ∧ Gaps ps ∧ (gt ps).length ≤ 12 * i) (rngD 0 ts.length) 0 [.val (.ptr 0), .val (.lst (ts.map .str)), .val (.str ""), .un, .un] S
    (fun j d fr S' hd hi => by
      obtain ⟨rfl, hj⟩ := rngD_get hd
      obtain ⟨ps, o1, s3, s4, rfl, rfl, p3, p4, p5, p6⟩ := hi
      rw [Nat.zero_add] at p4 p6 ⊢
      have gj : ts[j]? = some ts[j] := List.getElem?_eq_getElem hj
      generalize ts[j] = t at gj
      have ht := h.ok t (List.mem_of_getElem? gj)
      have htk : ts.take (j + 1) = ts.take j ++ [t] := by rw [List.take_succ, gj]; rfl
      cases j with
      | zero =>
        have ep : ps = [] := by simpa using p4
        subst ep
        have ij := ix_lst (S := S.set 0 o1) gj
        have b0 : decide ((0 : Int) < ((0 : Nat) : Int)) = false := by decide
        have e2 : addD (.str (mkS (gt []))) (.str t) = some (.str (mkS (gt [([], t)]))) := by
          have : gt [([], t)] = gt [] ++ L t := by simp [gt]
          rw [this]
          exact addD_mt (by simp only [gt, List.flatMap_nil, List.length_nil]; omega)
        refine ⟨_, _, [.val (.ptr 0), .val (.lst (ts.map .str)), .val (.str (mkS (gt [([], t)]))), .val (.int ((0 : Nat) : Int)), s4], S.set 0 o1, rfl, ?_, [([], t)], o1, _, s4, rfl, rfl, p3, by rw [htk]; rfl, .last (by simp) ht.1, ?_⟩
        · simp only [Z.fv_cons, Z.fv_nil, atI_0, atI_1, atI_2, atI_3, atI_4, ixNc_0, ixNc_1, ixNc_2, ixNc_3, mo_bind, mo_pure, bind_ok, bind_exc, bind_stuck, Z.getV, Z.putV, Z.putOwn, Z.putBox, Z.rdOwn, Z.ownAt, Z.seqM, Z.asgM, Z.ifM, Z.andM, Z.orM, Z.notM, Z.asB, Z.bin2, Z.un1, Z.ofO, Z.ofS, Z.ixM, Z.blt1M, Z.blt1O, Z.deref, Z.slM, Z.slMU, Z.partM, Z.tupM, Z.lstM, Z.catM, Z.argsM, Z.callM, Z.callMU, Z.callF, Z.callU, Z.truM, Z.setIxM, Z.putIx, Z.augM, Z.fin, Z.fr0, Z.funM, Z.ltD, Z.leD, Z.gtD, Z.geD, Z.iiD, Z.iiC, Z.subD, Z.intD, List.getElem?_map, List.length_map, List.getElem?_cons_zero, List.getElem?_cons_succ, List.set_cons_zero, List.set_cons_succ, List.cons_append, List.nil_append, List.append_nil, List.replicate_succ, List.replicate_zero, if_true, if_false, Bool.false_eq_true, Option.bind_some, Option.map_some, Option.bind_none, Option.map_none, Bool.not_true, Bool.not_false, Z.turnM, Z.tgTup, Z.tgCons, Z.tgNil, Z.appM, Z.extM, Z.parM, List.length_cons, List.length_nil, b0, ij, e2]
        · rw [gt_cons]; simp only [gt, List.flatMap_nil, List.length_nil, List.length_append, List.append_nil, List.nil_append]; omega
      | succ m =>
        have gm : ts[m]? = some ts[m] := List.getElem?_eq_getElem (by omega)
        generalize ts[m] = p at gm
        have hp := h.ok p (List.mem_of_getElem? gm)
        have hbp := hb p (List.mem_of_getElem? gm)
        have hlast : ∀ q, ps.getLast? = some q → q.2 = p := by
          intro q hq
          have e : (ps.map Prod.snd).getLast? = some q.2 := by rw [List.getLast?_map, hq]; rfl
          rw [p4, List.take_succ, gm] at e
          simp at e
          exact e.symm
        obtain ⟨q, o2, hf, ho2, hq⟩ := take_ok (fu := fu) (rk := rk) (m := 5) (g1 o1) p3 (by decide) (by decide)
        have hq' : q < 5 := by omega
        obtain ⟨g, ge, gb, gl, gq⟩ := g5_get hq'
        have gei : ixS (.lst [.str "", .str " ", .str "  ", .str "\n", .str " \n "]) (.int (q : Int)) (S.set 0 o2) = some (.str (mkS g)) := by
          show atI _ _ = _
          rw [atI_natZ, ge]
        have im := ix_lst (S := S.set 0 o2) gm
        have ij := ix_lst (S := S.set 0 o2) gj
        have b0 : decide ((0 : Int) < ((m + 1 : Nat) : Int)) = true := by rw [decide_eq_true_eq]; omega
        have b1 : (((m + 1 : Nat) : Int) - 1) = (m : Int) := by omega
        obtain ⟨tc, tr, te⟩ := ok_ne ht.1
        have tix : ixS (.str t) (.int 0) (S.set 0 o2) = some (.str (mkS [tc])) := ix_str (i := 0) (by rw [te]; rfl) (by omega)
        obtain ⟨pc, pe⟩ : ∃ c, (L p).getLast? = some c := by
          obtain ⟨c, r, e⟩ := ok_ne hp.1
          rw [e]
          exact ⟨_, List.getLast?_cons⟩
        have pix : ixS (.str p) (.int (-1)) (S.set 0 o2) = some (.str (mkS [pc])) := ix_strL pe (by omega)
        have hsep : (Txt.isalnum (mkS [pc]) && Txt.isalnum (mkS [tc])) = false → sep p t = false := by
          intro hh
          unfold sep
          rw [hbp, Bool.false_or]
          cases z1 : endAl p with
          | false => rfl
          | true =>
            cases z2 : endAl t with
            | false => rfl
            | true =>
              rw [alnum_al (endAl_al z1 pc (List.mem_of_getLast? pe)), alnum_al (endAl_al z2 tc (by rw [te]; simp))] at hh
              cases hh
        have fin : ∀ g2 : List Nat, (∀ c ∈ g2, isBl c = true) → g2.length ≤ 3 → (g2 ≠ [] ∨ sep p t = false) → Gaps (ps ++ [(g2, t)]) ∧ (gt (ps ++ [(g2, t)])).length ≤ 12 * (m + 1 + 1) ∧ (ps ++ [(g2, t)]).map Prod.snd = ts.take (m + 1 + 1) ∧ addD (.str (mkS (gt ps))) (.str (mkS g2)) = some (.str (mkS (gt ps ++ g2))) ∧ addD (.str (mkS (gt ps ++ g2))) (.str t) = some (.str (mkS (gt (ps ++ [(g2, t)])))) := by
          intro g2 hg hgl hc
          have eg : gt (ps ++ [(g2, t)]) = gt ps ++ g2 ++ L t := by rw [gt_app]; simp [gt]
          refine ⟨Gaps.snoc hg ht.1 p5 fun q hq => by rw [hlast q hq]; exact hc, ?_, by rw [List.map_append, p4, htk]; rfl, addD_mk (by omega), ?_⟩
          · rw [eg]; simp only [List.length_append]; omega
          · rw [eg]; exact addD_mt (by simp only [List.length_append]; omega)
        cases z : g.isEmpty with
        | false =>
          have hne : g ≠ [] := by intro e; rw [e] at z; cases z
          obtain ⟨f1, f2, f3, f4, f5⟩ := fin g gb gl (.inl hne)
          rw [z] at gq
          refine ⟨_, _, [.val (.ptr 0), .val (.lst (ts.map .str)), .val (.str (mkS (gt (ps ++ [(g, t)])))), .val (.int ((m + 1 : Nat) : Int)), .val (.str (mkS g))], S.set 0 o2, rfl, ?_, ps ++ [(g, t)], o2, _, _, rfl, rfl, ho2, f3, f1, f2⟩
          simp only [Z.fv_cons, Z.fv_nil, atI_0, atI_1, atI_2, atI_3, atI_4, ixNc_0, ixNc_1, ixNc_2, ixNc_3, mo_bind, mo_pure, bind_ok, bind_exc, bind_stuck, Z.getV, Z.putV, Z.putOwn, Z.putBox, Z.rdOwn, Z.ownAt, Z.seqM, Z.asgM, Z.ifM, Z.andM, Z.orM, Z.notM, Z.asB, Z.bin2, Z.un1, Z.ofO, Z.ofS, Z.ixM, Z.blt1M, Z.blt1O, Z.deref, Z.slM, Z.slMU, Z.partM, Z.tupM, Z.lstM, Z.catM, Z.argsM, Z.callM, Z.callMU, Z.callF, Z.callU, Z.truM, Z.setIxM, Z.putIx, Z.augM, Z.fin, Z.fr0, Z.funM, Z.ltD, Z.leD, Z.gtD, Z.geD, Z.iiD, Z.iiC, Z.subD, Z.intD, List.getElem?_map, List.length_map, List.getElem?_cons_zero, List.getElem?_cons_succ, List.set_cons_zero, List.set_cons_succ, List.cons_append, List.nil_append, List.append_nil, List.replicate_succ, List.replicate_zero, if_true, if_false, Bool.false_eq_true, Option.bind_some, Option.map_some, Option.bind_none, Option.map_none, Bool.not_true, Bool.not_false, Z.turnM, Z.tgTup, Z.tgCons, Z.tgNil, Z.appM, Z.extM, Z.parM, List.length_cons, List.length_nil, b0, b1, hf, hs, gei, gq, f4, f5, ij]
        | true =>
          have hne : g = [] := by simpa using z
          rw [z] at gq
          subst hne
          cases z1 : Txt.isalnum (mkS [pc]) with
          | false =>
            obtain ⟨f1, f2, f3, f4, f5⟩ := fin [] gb gl (.inr (hsep (by rw [z1]; rfl)))
            refine ⟨_, _, [.val (.ptr 0), .val (.lst (ts.map .str)), .val (.str (mkS (gt (ps ++ [([], t)])))), .val (.int ((m + 1 : Nat) : Int)), .val (.str (mkS []))], S.set 0 o2, rfl, ?_, ps ++ [([], t)], o2, _, _, rfl, rfl, ho2, f3, f1, f2⟩
            simp only [List.append_nil] at f4 f5
            simp only [Z.fv_cons, Z.fv_nil, atI_0, atI_1, atI_2, atI_3, atI_4, ixNc_0, ixNc_1, ixNc_2, ixNc_3, mo_bind, mo_pure, bind_ok, bind_exc, bind_stuck, Z.getV, Z.putV, Z.putOwn, Z.putBox, Z.rdOwn, Z.ownAt, Z.seqM, Z.asgM, Z.ifM, Z.andM, Z.orM, Z.notM, Z.asB, Z.bin2, Z.un1, Z.ofO, Z.ofS, Z.ixM, Z.blt1M, Z.blt1O, Z.deref, Z.slM, Z.slMU, Z.partM, Z.tupM, Z.lstM, Z.catM, Z.argsM, Z.callM, Z.callMU, Z.callF, Z.callU, Z.truM, Z.setIxM, Z.putIx, Z.augM, Z.fin, Z.fr0, Z.funM, Z.ltD, Z.leD, Z.gtD, Z.geD, Z.iiD, Z.iiC, Z.subD, Z.intD, List.getElem?_map, List.length_map, List.getElem?_cons_zero, List.getElem?_cons_succ, List.set_cons_zero, List.set_cons_succ, List.cons_append, List.nil_append, List.append_nil, List.replicate_succ, List.replicate_zero, if_true, if_false, Bool.false_eq_true, Option.bind_some, Option.map_some, Option.bind_none, Option.map_none, Bool.not_true, Bool.not_false, Z.turnM, Z.tgTup, Z.tgCons, Z.tgNil, Z.appM, Z.extM, Z.parM, List.length_cons, List.length_nil, b0, b1, hf, hs, gei, gq, neg_i, im, pix, z1, Z.truD, f4, f5, ij]
          | true =>
            cases z2 : Txt.isalnum (mkS [tc]) with
            | false =>
              obtain ⟨f1, f2, f3, f4, f5⟩ := fin [] gb gl (.inr (hsep (by rw [z1, z2]; rfl)))
              refine ⟨_, _, [.val (.ptr 0), .val (.lst (ts.map .str)), .val (.str (mkS (gt (ps ++ [([], t)])))), .val (.int ((m + 1 : Nat) : Int)), .val (.str (mkS []))], S.set 0 o2, rfl, ?_, ps ++ [([], t)], o2, _, _, rfl, rfl, ho2, f3, f1, f2⟩
              simp only [List.append_nil] at f4 f5
              simp only [Z.fv_cons, Z.fv_nil, atI_0, atI_1, atI_2, atI_3, atI_4, ixNc_0, ixNc_1, ixNc_2, ixNc_3, mo_bind, mo_pure, bind_ok, bind_exc, bind_stuck, Z.getV, Z.putV, Z.putOwn, Z.putBox, Z.rdOwn, Z.ownAt, Z.seqM, Z.asgM, Z.ifM, Z.andM, Z.orM, Z.notM, Z.asB, Z.bin2, Z.un1, Z.ofO, Z.ofS, Z.ixM, Z.blt1M, Z.blt1O, Z.deref, Z.slM, Z.slMU, Z.partM, Z.tupM, Z.lstM, Z.catM, Z.argsM, Z.callM, Z.callMU, Z.callF, Z.callU, Z.truM, Z.setIxM, Z.putIx, Z.augM, Z.fin, Z.fr0, Z.funM, Z.ltD, Z.leD, Z.gtD, Z.geD, Z.iiD, Z.iiC, Z.subD, Z.intD, List.getElem?_map, List.length_map, List.getElem?_cons_zero, List.getElem?_cons_succ, List.set_cons_zero, List.set_cons_succ, List.cons_append, List.nil_append, List.append_nil, List.replicate_succ, List.replicate_zero, if_true, if_false, Bool.false_eq_true, Option.bind_some, Option.map_some, Option.bind_none, Option.map_none, Bool.not_true, Bool.not_false, Z.turnM, Z.tgTup, Z.tgCons, Z.tgNil, Z.appM, Z.extM, Z.parM, List.length_cons, List.length_nil, b0, b1, hf, hs, gei, gq, neg_i, im, pix, tix, z1, z2, Z.truD, f4, f5, ij]
            | true =>
              obtain ⟨f1, f2, f3, f4, f5⟩ := fin [32] (by simp [isBl]) (by simp) (.inl (by simp))
              have e32 : (" " : Str) = mkS [32] := by decide +kernel
              rw [← e32] at f4
              refine ⟨_, _, [.val (.ptr 0), .val (.lst (ts.map .str)), .val (.str (mkS (gt (ps ++ [([32], t)])))), .val (.int ((m + 1 : Nat) : Int)), .val (.str " ")], S.set 0 o2, rfl, ?_, ps ++ [([32], t)], o2, _, _, rfl, rfl, ho2, f3, f1, f2⟩
              simp only [Z.fv_cons, Z.fv_nil, atI_0, atI_1, atI_2, atI_3, atI_4, ixNc_0, ixNc_1, ixNc_2, ixNc_3, mo_bind, mo_pure, bind_ok, bind_exc, bind_stuck, Z.getV, Z.putV, Z.putOwn, Z.putBox, Z.rdOwn, Z.ownAt, Z.seqM, Z.asgM, Z.ifM, Z.andM, Z.orM, Z.notM, Z.asB, Z.bin2, Z.un1, Z.ofO, Z.ofS, Z.ixM, Z.blt1M, Z.blt1O, Z.deref, Z.slM, Z.slMU, Z.partM, Z.tupM, Z.lstM, Z.catM, Z.argsM, Z.callM, Z.callMU, Z.callF, Z.callU, Z.truM, Z.setIxM, Z.putIx, Z.augM, Z.fin, Z.fr0, Z.funM, Z.ltD, Z.leD, Z.gtD, Z.geD, Z.iiD, Z.iiC, Z.subD, Z.intD, List.getElem?_map, List.length_map, List.getElem?_cons_zero, List.getElem?_cons_succ, List.set_cons_zero, List.set_cons_succ, List.cons_append, List.nil_append, List.append_nil, List.replicate_succ, List.replicate_zero, if_true, if_false, Bool.false_eq_true, Option.bind_some, Option.map_some, Option.bind_none, Option.map_none, Bool.not_true, Bool.not_false, Z.turnM, Z.tgTup, Z.tgCons, Z.tgNil, Z.appM, Z.extM, Z.parM, List.length_cons, List.length_nil, b0, b1, hf, hs, gei, gq, neg_i, im, pix, tix, z1, z2, Z.truD, f4, f5, ij]) ⟨[], o, .un, .un, by rw [← e0]; rfl, hS0.symm, ho, by simp, .nil, by simp [gt]⟩
  subst p1
  subst p2
  have hn : (rngD 0 ts.length).length = ts.length := by simp [rngD]
  rw [Nat.zero_add, hn] at p4 p6
  rw [List.take_length] at p4
  simp only [Z.fv_cons, Z.fv_nil, atI_0, atI_1, atI_2, atI_3, atI_4, ixNc_0, ixNc_1, ixNc_2, ixNc_3, mo_bind, mo_pure, bind_ok, bind_exc, bind_stuck, Z.getV, Z.putV, Z.putOwn, Z.putBox, Z.rdOwn, Z.ownAt, Z.seqM, Z.asgM, Z.ifM, Z.andM, Z.orM, Z.notM, Z.asB, Z.bin2, Z.un1, Z.ofO, Z.ofS, Z.ixM, Z.blt1M, Z.blt1O, Z.deref, Z.slM, Z.slMU, Z.partM, Z.tupM, Z.lstM, Z.catM, Z.argsM, Z.callM, Z.callMU, Z.callF, Z.callU, Z.truM, Z.setIxM, Z.putIx, Z.augM, Z.fin, Z.fr0, Z.funM, Z.ltD, Z.leD, Z.gtD, Z.geD, Z.iiD, Z.iiC, Z.subD, Z.intD, List.getElem?_map, List.length_map, List.getElem?_cons_zero, List.getElem?_cons_succ, List.set_cons_zero, List.set_cons_succ, List.cons_append, List.nil_append, List.append_nil, List.replicate_succ, List.replicate_zero, if_true, if_false, Bool.false_eq_true, Option.bind_some, Option.map_some, Option.bind_none, Option.map_none, Bool.not_true, Bool.not_false, Z.turnM, Z.tgTup, Z.tgCons, Z.tgNil, Z.appM, Z.extM, Z.parM, List.length_cons, List.length_nil] at e1
  refine ⟨ps, o', ?_, p3, p4, p5, p6⟩
  show funM 3 ((seqM (asgM (pure (.str "")) (putV 2))
    (seqM (Z.forM (argsM [(blt1M lenD (getV 1))] >>= fun as => ofO (itR1 as)) (putV 3) (seqM (ifM (asB (bin2 (getV 3) (pure (.int 0)) gtD)) (seqM (asgM (ixM (lstM (argsM [(pure (.str "")), (pure (.str " ")), (pure (.str "  ")), (pure (.str "\n")), (pure (.str " \n "))])) (callM (F__law_take fu rk) [(getV 0), (pure (.int 5))] [])) (putV 4))
    (seqM (ifM (Z.andM (asB (bin2 (getV 4) (pure (.str "")) eqD)) (Z.andM (truM ((ixM (ixM (getV 1) (bin2 (getV 3) (pure (.int 1)) subD)) (un1 (pure (.int 1)) negD)) >>= fun d => match d with
      | .str a => pure (.bl (Txt.isalnum a))
      | _ => Mo.stuck)) (truM ((ixM (ixM (getV 1) (getV 3)) (pure (.int 0))) >>= fun d => match d with
      | .str a => pure (.bl (Txt.isalnum a))
      | _ => Mo.stuck)))) (asgM (pure (.str " ")) (putV 4)) (pure .nx))
    (asgM (bin2 (getV 2) (getV 4) addD) (putV 2)))) (pure .nx))
    (asgM (bin2 (getV 2) (ixM (getV 1) (getV 3)) addD) (putV 2))))
    ((getV 2) >>= fun d => pure (.rt (.d d)))))) _ _ = _
  simp only [Z.fv_cons, Z.fv_nil, atI_0, atI_1, atI_2, atI_3, atI_4, ixNc_0, ixNc_1, ixNc_2, ixNc_3, mo_bind, mo_pure, bind_ok, bind_exc, bind_stuck, Z.getV, Z.putV, Z.putOwn, Z.putBox, Z.rdOwn, Z.ownAt, Z.seqM, Z.asgM, Z.ifM, Z.andM, Z.orM, Z.notM, Z.asB, Z.bin2, Z.un1, Z.ofO, Z.ofS, Z.ixM, Z.blt1M, Z.blt1O, Z.deref, Z.slM, Z.slMU, Z.partM, Z.tupM, Z.lstM, Z.catM, Z.argsM, Z.callM, Z.callMU, Z.callF, Z.callU, Z.truM, Z.setIxM, Z.putIx, Z.augM, Z.fin, Z.fr0, Z.funM, Z.ltD, Z.leD, Z.gtD, Z.geD, Z.iiD, Z.iiC, Z.subD, Z.intD, List.getElem?_map, List.length_map, List.getElem?_cons_zero, List.getElem?_cons_succ, List.set_cons_zero, List.set_cons_succ, List.cons_append, List.nil_append, List.append_nil, List.replicate_succ, List.replicate_zero, if_true, if_false, Bool.false_eq_true, Option.bind_some, Option.map_some, Option.bind_none, Option.map_none, Bool.not_true, Bool.not_false, Z.turnM, Z.tgTup, Z.tgCons, Z.tgNil, Z.appM, Z.extM, Z.parM, List.length_cons, List.length_nil, hld, hr, Z.forM, e1]
end K70
set_option Elab.async false
set_option linter.all false
set_option maxRecDepth 100000
set_option maxHeartbeats 4000000
/-! Y12: the written type; loose texts of a type; heights. -/
namespace K70
open PySem L2 Z
abbrev lpS : Str := "("
abbrev rpS : Str := ")"
abbrev arS : Str := "->"
mutual
/-- the tokens of a type -/
def tw : Ty → List Str
  | .mk as s => tws as ++ [s]
def tws : List Ty → List Str
  | [] => []
  | a :: r => (if a.hasArgs then lpS :: tw a ++ [rpS] else tw a) ++ [arS] ++ tws r
end
/-- w is a loose text of a type: weights a, b of a bracket and an arrow; h: the greatest height -/
inductive Ls (a b : Nat) : Nat → Ty → List Str → Prop
  | atom {h s} : kd s = ("word" : Str) → Ls a b h (.mk [] s) [s]
  | br {h t w} : Ls a b h t w → Ls a b (h + a) t (lpS :: w ++ [rpS])
  | arrA {h s r u w} : kd s = ("word" : Str) → Ls a b h (.mk r u) w → Ls a b (h + b) (.mk (.mk [] s :: r) u) (s :: arS :: w)
  | arrB {h h1 t w1 r u w} : Ls a b h1 t w1 → h1 + a ≤ h + b → Ls a b h (.mk r u) w → Ls a b (h + b) (.mk (t :: r) u) ((lpS :: w1 ++ [rpS]) ++ arS :: w)
theorem Ls.mono {a b h k : Nat} {t : Ty} {w : List Str} (h1 : Ls a b h t w) (hk : h ≤ k) : Ls a b k t w := by
  induction h1 generalizing k with
  | atom e => exact .atom e
  | @br h t w _ ih =>
    obtain ⟨j, rfl⟩ : ∃ j, k = j + a := ⟨k - a, by omega⟩
    exact .br (ih (by omega))
  | @arrA h s r u w e _ ih =>
    obtain ⟨j, rfl⟩ : ∃ j, k = j + b := ⟨k - b, by omega⟩
    exact .arrA e (ih (by omega))
  | @arrB h h1 t w1 r u w l1 hh _ _ ih =>
    obtain ⟨j, rfl⟩ : ∃ j, k = j + b := ⟨k - b, by omega⟩
    exact .arrB l1 (by omega) (ih (by omega))
theorem hasArgs_d (t : Ty) {S : List Ob} : ∃ ds s, t.d = .tup [.tup ds, .str s] ∧ ds.isEmpty = !t.hasArgs := by
  cases t with
  | mk as s => exact ⟨Ty.ds as, s, by rw [Ty.d], by cases as <;> simp [Ty.ds, Ty.hasArgs]⟩
/-- n deep at most, at most five arguments at each place -/
def Sh : Nat → Ty → Prop
  | 0, _ => False
  | n + 1, .mk as s => as.length ≤ 5 ∧ ∀ a ∈ as, Sh n a
theorem Gd.sh : ∀ {n : Nat} {t : Ty}, Gd n t → Sh n t
  | 0, _, h => h
  | n + 1, .mk as s, h => ⟨h.2.1, fun a ha => Gd.sh (h.2.2 a ha)⟩
def lb : Nat → Nat
  | 0 => 0
  | n + 1 => 5 * (lb n + 3) + 1
theorem tws_len {N : Nat} : ∀ as : List Ty, (∀ a ∈ as, (tw a).length ≤ N) → (tws as).length ≤ as.length * (N + 3)
  | [], _ => by simp [tws]
  | a :: r, h => by
    have h1 := tws_len r fun c hc => h c (by simp [hc])
    have h2 := h a (by simp)
    rw [tws, List.length_cons, Nat.add_mul]
    split <;> simp only [List.length_append, List.length_cons, List.length_nil] <;> omega
theorem tw_len : ∀ (n : Nat) (t : Ty), Sh n t → (tw t).length ≤ lb n
  | 0, _, h => h.elim
  | n + 1, .mk as s, h => by
    obtain ⟨h2, h3⟩ := h
    have := tws_len as fun a ha => tw_len n a (h3 a ha)
    have h4 : as.length * (lb n + 3) ≤ 5 * (lb n + 3) := Nat.mul_le_mul_right _ h2
    rw [tw, lb]
    simp only [List.length_append, List.length_singleton]
    omega
theorem lb_le {n m : Nat} (h : n ≤ m) : lb n ≤ lb m := by
  induction h with
  | refl => exact Nat.le_refl _
  | step _ ih => rw [lb]; omega
theorem truD_tup (ds : List D) : truD (.tup ds) = some (!ds.isEmpty) := rfl
theorem tt_loop {fu rk : Nat} {r__law_type_tokens : Fm} {S : List Ob} {kd : D} : ∀ (as : List Ty) (found : List Str) (s2 s3 : Sl), (∀ a ∈ as, r__law_type_tokens [a.d] S = .ok (.u ((tw a).map .str)) S) → found.length + (tws as).length ≤ 1000000 →
    ∃ s2' s3', loopM (putV 2) (seqM (asgM (callM r__law_type_tokens [(getV 2)] []) (putV 3))
    (seqM (ifM (truM (ixM (getV 2) (pure (.int 0)))) (asgM (lstM (catM (lstM (catM (lstM (argsM [(pure (.str "("))])) (getV 3))) (lstM (argsM [(pure (.str ")"))])))) (putV 3)) (pure .nx))
    (asgM (lstM (catM (lstM (catM (getV 1) (getV 3))) (lstM (argsM [(pure (.str "->"))])))) (putV 1)))) (Ty.ds as) [.val kd, .val (.lst (found.map .str)), s2, s3] S = .ok .nx [.val kd, .val (.lst ((found ++ tws as).map .str)), s2', s3'] S
  | [], found, s2, s3, _, _ => ⟨s2, s3, by rw [Ty.ds, loopM_nil, tws, List.append_nil]; rfl⟩
  | a :: r, found, s2, s3, h, hl => by
    rw [tws] at hl
    obtain ⟨ds, s, e1, e2⟩ := hasArgs_d (S := S) a
    have ha := h a (by simp)
    rw [e1] at ha
    have tix : ixS (.tup [.tup ds, .str s]) (.int 0) S = some (.tup ds) := rfl
    rw [Ty.ds, loopM_cons, tws, e1]
    cases z : a.hasArgs with
    | true =>
      rw [z] at e2 hl
      simp only [if_true, List.length_append, List.length_cons, List.length_nil] at hl
      obtain ⟨s2', s3', ih⟩ := tt_loop (fu := fu) (rk := rk) (S := S) (kd := kd) r (found ++ (lpS :: tw a ++ [rpS]) ++ [arS]) (.val (.tup [.tup ds, .str s])) (.val (.lst ((lpS :: tw a ++ [rpS]).map .str))) (fun c hc => h c (by simp [hc])) (by simp only [List.length_append, List.length_cons, List.length_nil]; omega)
      refine ⟨s2', s3', ?_⟩
      have c1 : 0 + 1 + (tw a).length ≤ sizeLine := by rw [sizeLine_eq]; omega
      have c2 : (tw a).length + 1 + (0 + 1) ≤ sizeLine := by rw [sizeLine_eq]; omega
      have c3 : found.length + ((tw a).length + (0 + 1) + 1) ≤ sizeLine := by rw [sizeLine_eq]; omega
      have c4 : found.length + ((tw a).length + (0 + 1) + 1) + (0 + 1) ≤ sizeLine := by rw [sizeLine_eq]; omega
      simp only [Z.fv_cons, Z.fv_nil, atI_0, atI_1, atI_2, atI_3, atI_4, ixNc_0, ixNc_1, ixNc_2, ixNc_3, mo_bind, mo_pure, bind_ok, bind_exc, bind_stuck, Z.getV, Z.putV, Z.putOwn, Z.putBox, Z.rdOwn, Z.ownAt, Z.seqM, Z.asgM, Z.ifM, Z.andM, Z.orM, Z.notM, Z.asB, Z.bin2, Z.un1, Z.ofO, Z.ofS, Z.ixM, Z.blt1M, Z.blt1O, Z.deref, Z.slM, Z.slMU, Z.partM, Z.tupM, Z.lstM, Z.catM, Z.argsM, Z.callM, Z.callMU, Z.callF, Z.callU, Z.truM, Z.setIxM, Z.putIx, Z.augM, Z.fin, Z.fr0, Z.funM, Z.ltD, Z.leD, Z.gtD, Z.geD, Z.iiD, Z.iiC, Z.subD, Z.intD, List.getElem?_map, List.length_map, List.getElem?_cons_zero, List.getElem?_cons_succ, List.set_cons_zero, List.set_cons_succ, List.cons_append, List.nil_append, List.append_nil, List.replicate_succ, List.replicate_zero, if_true, if_false, Bool.false_eq_true, Option.bind_some, Option.map_some, Option.bind_none, Option.map_none, Bool.not_true, Bool.not_false, Z.turnM, Z.tgTup, Z.tgCons, Z.tgNil, Z.appM, Z.extM, Z.parM, List.length_cons, List.length_nil, List.map_append, List.map_cons, List.map_nil, List.append_assoc] at ih
      simp only [Z.fv_cons, Z.fv_nil, atI_0, atI_1, atI_2, atI_3, atI_4, ixNc_0, ixNc_1, ixNc_2, ixNc_3, mo_bind, mo_pure, bind_ok, bind_exc, bind_stuck, Z.getV, Z.putV, Z.putOwn, Z.putBox, Z.rdOwn, Z.ownAt, Z.seqM, Z.asgM, Z.ifM, Z.andM, Z.orM, Z.notM, Z.asB, Z.bin2, Z.un1, Z.ofO, Z.ofS, Z.ixM, Z.blt1M, Z.blt1O, Z.deref, Z.slM, Z.slMU, Z.partM, Z.tupM, Z.lstM, Z.catM, Z.argsM, Z.callM, Z.callMU, Z.callF, Z.callU, Z.truM, Z.setIxM, Z.putIx, Z.augM, Z.fin, Z.fr0, Z.funM, Z.ltD, Z.leD, Z.gtD, Z.geD, Z.iiD, Z.iiC, Z.subD, Z.intD, List.getElem?_map, List.length_map, List.getElem?_cons_zero, List.getElem?_cons_succ, List.set_cons_zero, List.set_cons_succ, List.cons_append, List.nil_append, List.append_nil, List.replicate_succ, List.replicate_zero, if_true, if_false, Bool.false_eq_true, Option.bind_some, Option.map_some, Option.bind_none, Option.map_none, Bool.not_true, Bool.not_false, Z.turnM, Z.tgTup, Z.tgCons, Z.tgNil, Z.appM, Z.extM, Z.parM, List.length_cons, List.length_nil, ha, tix, truD_tup, e2, c1, c2, c3, c4, List.length_append, List.map_append, List.map_cons, List.map_nil, List.append_assoc, ih, if_true]
    | false =>
      rw [z] at e2 hl
      simp only [Bool.false_eq_true, if_false, List.length_append, List.length_cons, List.length_nil] at hl
      obtain ⟨s2', s3', ih⟩ := tt_loop (fu := fu) (rk := rk) (S := S) (kd := kd) r (found ++ tw a ++ [arS]) (.val (.tup [.tup ds, .str s])) (.val (.lst ((tw a).map .str))) (fun c hc => h c (by simp [hc])) (by simp only [List.length_append, List.length_cons, List.length_nil]; omega)
      refine ⟨s2', s3', ?_⟩
      have c3 : found.length + (tw a).length ≤ sizeLine := by rw [sizeLine_eq]; omega
      have c4 : found.length + (tw a).length + (0 + 1) ≤ sizeLine := by rw [sizeLine_eq]; omega
      simp only [Z.fv_cons, Z.fv_nil, atI_0, atI_1, atI_2, atI_3, atI_4, ixNc_0, ixNc_1, ixNc_2, ixNc_3, mo_bind, mo_pure, bind_ok, bind_exc, bind_stuck, Z.getV, Z.putV, Z.putOwn, Z.putBox, Z.rdOwn, Z.ownAt, Z.seqM, Z.asgM, Z.ifM, Z.andM, Z.orM, Z.notM, Z.asB, Z.bin2, Z.un1, Z.ofO, Z.ofS, Z.ixM, Z.blt1M, Z.blt1O, Z.deref, Z.slM, Z.slMU, Z.partM, Z.tupM, Z.lstM, Z.catM, Z.argsM, Z.callM, Z.callMU, Z.callF, Z.callU, Z.truM, Z.setIxM, Z.putIx, Z.augM, Z.fin, Z.fr0, Z.funM, Z.ltD, Z.leD, Z.gtD, Z.geD, Z.iiD, Z.iiC, Z.subD, Z.intD, List.getElem?_map, List.length_map, List.getElem?_cons_zero, List.getElem?_cons_succ, List.set_cons_zero, List.set_cons_succ, List.cons_append, List.nil_append, List.append_nil, List.replicate_succ, List.replicate_zero, if_true, if_false, Bool.false_eq_true, Option.bind_some, Option.map_some, Option.bind_none, Option.map_none, Bool.not_true, Bool.not_false, Z.turnM, Z.tgTup, Z.tgCons, Z.tgNil, Z.appM, Z.extM, Z.parM, List.length_cons, List.length_nil, List.map_append, List.map_cons, List.map_nil, List.append_assoc] at ih
      simp only [Z.fv_cons, Z.fv_nil, atI_0, atI_1, atI_2, atI_3, atI_4, ixNc_0, ixNc_1, ixNc_2, ixNc_3, mo_bind, mo_pure, bind_ok, bind_exc, bind_stuck, Z.getV, Z.putV, Z.putOwn, Z.putBox, Z.rdOwn, Z.ownAt, Z.seqM, Z.asgM, Z.ifM, Z.andM, Z.orM, Z.notM, Z.asB, Z.bin2, Z.un1, Z.ofO, Z.ofS, Z.ixM, Z.blt1M, Z.blt1O, Z.deref, Z.slM, Z.slMU, Z.partM, Z.tupM, Z.lstM, Z.catM, Z.argsM, Z.callM, Z.callMU, Z.callF, Z.callU, Z.truM, Z.setIxM, Z.putIx, Z.augM, Z.fin, Z.fr0, Z.funM, Z.ltD, Z.leD, Z.gtD, Z.geD, Z.iiD, Z.iiC, Z.subD, Z.intD, List.getElem?_map, List.length_map, List.getElem?_cons_zero, List.getElem?_cons_succ, List.set_cons_zero, List.set_cons_succ, List.cons_append, List.nil_append, List.append_nil, List.replicate_succ, List.replicate_zero, if_true, if_false, Bool.false_eq_true, Option.bind_some, Option.map_some, Option.bind_none, Option.map_none, Bool.not_true, Bool.not_false, Z.turnM, Z.tgTup, Z.tgCons, Z.tgNil, Z.appM, Z.extM, Z.parM, List.length_cons, List.length_nil, ha, tix, truD_tup, e2, c3, c4, List.length_append, List.map_append, List.map_cons, List.map_nil, List.append_assoc, ih, Bool.false_eq_true, if_false]
theorem tt_ok {fu rk : Nat} {S : List Ob} : ∀ (n k : Nat) (t : Ty), n ≤ 4 → n ≤ k → Sh n t → F__law_type_tokens fu rk k [t.d] S = .ok (.u ((tw t).map .str)) S
  | 0, _, _, _, _, h => h.elim
  | n + 1, 0, _, _, hk, _ => by omega
  | n + 1, k + 1, .mk as s, hn, hk, h => by
    have hl := tw_len (n + 1) _ h
    have hb : lb (n + 1) ≤ lb 4 := lb_le hn
    have h4 : lb 4 = 2496 := rfl
    obtain ⟨h2, h3⟩ := h
    rw [tw] at hl
    simp only [List.length_append, List.length_singleton] at hl
    obtain ⟨s2, s3, e⟩ := tt_loop (fu := fu) (rk := rk) (r__law_type_tokens := F__law_type_tokens fu rk k) (S := S) (kd := .tup [.tup (Ty.ds as), .str s]) as [] .un .un (fun a ha => tt_ok n k a (by omega) (by omega) (h3 a ha)) (by simp only [List.length_nil]; omega)
    have tix : ixS (.tup [.tup (Ty.ds as), .str s]) (.int 0) S = some (.tup (Ty.ds as)) := rfl
    have tix1 : ixS (.tup [.tup (Ty.ds as), .str s]) (.int 1) S = some (.str s) := rfl
    have c : (tws as).length + (0 + 1) ≤ sizeLine := by rw [sizeLine_eq]; omega
    rw [List.map_nil] at e
    simp only [Z.fv_cons, Z.fv_nil, atI_0, atI_1, atI_2, atI_3, atI_4, ixNc_0, ixNc_1, ixNc_2, ixNc_3, mo_bind, mo_pure, bind_ok, bind_exc, bind_stuck, Z.getV, Z.putV, Z.putOwn, Z.putBox, Z.rdOwn, Z.ownAt, Z.seqM, Z.asgM, Z.ifM, Z.andM, Z.orM, Z.notM, Z.asB, Z.bin2, Z.un1, Z.ofO, Z.ofS, Z.ixM, Z.blt1M, Z.blt1O, Z.deref, Z.slM, Z.slMU, Z.partM, Z.tupM, Z.lstM, Z.catM, Z.argsM, Z.callM, Z.callMU, Z.callF, Z.callU, Z.truM, Z.setIxM, Z.putIx, Z.augM, Z.fin, Z.fr0, Z.funM, Z.ltD, Z.leD, Z.gtD, Z.geD, Z.iiD, Z.iiC, Z.subD, Z.intD, List.getElem?_map, List.length_map, List.getElem?_cons_zero, List.getElem?_cons_succ, List.set_cons_zero, List.set_cons_succ, List.cons_append, List.nil_append, List.append_nil, List.replicate_succ, List.replicate_zero, if_true, if_false, Bool.false_eq_true, Option.bind_some, Option.map_some, Option.bind_none, Option.map_none, Bool.not_true, Bool.not_false, Z.turnM, Z.tgTup, Z.tgCons, Z.tgNil, Z.appM, Z.extM, Z.parM, List.length_cons, List.length_nil] at e
    unfold F__law_type_tokens M__law_type_tokens
    rw [Ty.d, tw]
    simp only [Z.fv_cons, Z.fv_nil, atI_0, atI_1, atI_2, atI_3, atI_4, ixNc_0, ixNc_1, ixNc_2, ixNc_3, mo_bind, mo_pure, bind_ok, bind_exc, bind_stuck, Z.getV, Z.putV, Z.putOwn, Z.putBox, Z.rdOwn, Z.ownAt, Z.seqM, Z.asgM, Z.ifM, Z.andM, Z.orM, Z.notM, Z.asB, Z.bin2, Z.un1, Z.ofO, Z.ofS, Z.ixM, Z.blt1M, Z.blt1O, Z.deref, Z.slM, Z.slMU, Z.partM, Z.tupM, Z.lstM, Z.catM, Z.argsM, Z.callM, Z.callMU, Z.callF, Z.callU, Z.truM, Z.setIxM, Z.putIx, Z.augM, Z.fin, Z.fr0, Z.funM, Z.ltD, Z.leD, Z.gtD, Z.geD, Z.iiD, Z.iiC, Z.subD, Z.intD, List.getElem?_map, List.length_map, List.getElem?_cons_zero, List.getElem?_cons_succ, List.set_cons_zero, List.set_cons_succ, List.cons_append, List.nil_append, List.append_nil, List.replicate_succ, List.replicate_zero, if_true, if_false, Bool.false_eq_true, Option.bind_some, Option.map_some, Option.bind_none, Option.map_none, Bool.not_true, Bool.not_false, Z.turnM, Z.tgTup, Z.tgCons, Z.tgNil, Z.appM, Z.extM, Z.parM, List.length_cons, List.length_nil, tix, tix1, itT, Z.forM, e, c, List.map_append, List.map_cons, List.map_nil]
theorem kw_loop {fu rk : Nat} {r_kind_words : Fm} {S : List Ob} {kd : D} : ∀ (as : List Ty) (found : List Str) (s2 : Sl), (∀ a ∈ as, r_kind_words [a.d] S = .ok (.u ((tw a).map .str)) S) → found.length + (tws as).length ≤ 1000000 →
    ∃ s2', loopM (putV 2) (seqM (augO 1 (ifM (truM (ixM (getV 2) (pure (.int 0)))) (callM (F_in_brackets fu rk) [(callM r_kind_words [(getV 2)] [])] []) (callM r_kind_words [(getV 2)] [])))
    ((appM 1 (pure (.str "->"))) >>= fun _ => pure .nx)) (Ty.ds as) [.val kd, .own (found.map .str), s2] S = .ok .nx [.val kd, .own ((found ++ tws as).map .str), s2'] S
  | [], found, s2, _, _ => ⟨s2, by rw [Ty.ds, loopM_nil, tws, List.append_nil]; rfl⟩
  | a :: r, found, s2, h, hl => by
    rw [tws] at hl
    obtain ⟨ds, s, e1, e2⟩ := hasArgs_d (S := S) a
    have ha := h a (by simp)
    rw [e1] at ha
    have tix : ixS (.tup [.tup ds, .str s]) (.int 0) S = some (.tup ds) := rfl
    rw [Ty.ds, loopM_cons, tws, e1]
    cases z : a.hasArgs with
    | true =>
      rw [z] at e2 hl
      simp only [if_true, List.length_append, List.length_cons, List.length_nil] at hl
      obtain ⟨s2', ih⟩ := kw_loop (fu := fu) (rk := rk) (S := S) (kd := kd) r (found ++ (lpS :: tw a ++ [rpS]) ++ [arS]) (.val (.tup [.tup ds, .str s])) (fun c hc => h c (by simp [hc])) (by simp only [List.length_append, List.length_cons, List.length_nil]; omega)
      refine ⟨s2', ?_⟩
      have c1 : 0 + 1 + (tw a).length ≤ sizeLine := by rw [sizeLine_eq]; omega
      have c2 : (tw a).length + 1 + (0 + 1) ≤ sizeLine := by rw [sizeLine_eq]; omega
      have c3 : found.length + ((tw a).length + (0 + 1) + 1) ≤ sizeLine := by rw [sizeLine_eq]; omega
      have c4 : found.length + ((tw a).length + (0 + 1) + 1) < sizeLine := by rw [sizeLine_eq]; omega
      simp only [Z.fv_cons, Z.fv_nil, atI_0, atI_1, atI_2, atI_3, atI_4, ixNc_0, ixNc_1, ixNc_2, ixNc_3, mo_bind, mo_pure, bind_ok, bind_exc, bind_stuck, Z.getV, Z.putV, Z.putOwn, Z.putBox, Z.rdOwn, Z.ownAt, Z.seqM, Z.asgM, Z.ifM, Z.andM, Z.orM, Z.notM, Z.asB, Z.bin2, Z.un1, Z.ofO, Z.ofS, Z.ixM, Z.blt1M, Z.blt1O, Z.deref, Z.slM, Z.slMU, Z.partM, Z.tupM, Z.lstM, Z.catM, Z.argsM, Z.callM, Z.callMU, Z.callF, Z.callU, Z.truM, Z.setIxM, Z.putIx, Z.augM, Z.fin, Z.fr0, Z.funM, Z.ltD, Z.leD, Z.gtD, Z.geD, Z.iiD, Z.iiC, Z.subD, Z.intD, List.getElem?_map, List.length_map, List.getElem?_cons_zero, List.getElem?_cons_succ, List.set_cons_zero, List.set_cons_succ, List.cons_append, List.nil_append, List.append_nil, List.replicate_succ, List.replicate_zero, if_true, if_false, Bool.false_eq_true, Option.bind_some, Option.map_some, Option.bind_none, Option.map_none, Bool.not_true, Bool.not_false, Z.turnM, Z.tgTup, Z.tgCons, Z.tgNil, Z.appM, Z.extM, Z.parM, List.length_cons, List.length_nil, Z.augO, Z.augT, F_in_brackets, M_in_brackets, List.map_append, List.map_cons, List.map_nil, List.append_assoc] at ih
      simp only [Z.fv_cons, Z.fv_nil, atI_0, atI_1, atI_2, atI_3, atI_4, ixNc_0, ixNc_1, ixNc_2, ixNc_3, mo_bind, mo_pure, bind_ok, bind_exc, bind_stuck, Z.getV, Z.putV, Z.putOwn, Z.putBox, Z.rdOwn, Z.ownAt, Z.seqM, Z.asgM, Z.ifM, Z.andM, Z.orM, Z.notM, Z.asB, Z.bin2, Z.un1, Z.ofO, Z.ofS, Z.ixM, Z.blt1M, Z.blt1O, Z.deref, Z.slM, Z.slMU, Z.partM, Z.tupM, Z.lstM, Z.catM, Z.argsM, Z.callM, Z.callMU, Z.callF, Z.callU, Z.truM, Z.setIxM, Z.putIx, Z.augM, Z.fin, Z.fr0, Z.funM, Z.ltD, Z.leD, Z.gtD, Z.geD, Z.iiD, Z.iiC, Z.subD, Z.intD, List.getElem?_map, List.length_map, List.getElem?_cons_zero, List.getElem?_cons_succ, List.set_cons_zero, List.set_cons_succ, List.cons_append, List.nil_append, List.append_nil, List.replicate_succ, List.replicate_zero, if_true, if_false, Bool.false_eq_true, Option.bind_some, Option.map_some, Option.bind_none, Option.map_none, Bool.not_true, Bool.not_false, Z.turnM, Z.tgTup, Z.tgCons, Z.tgNil, Z.appM, Z.extM, Z.parM, List.length_cons, List.length_nil, Z.augO, Z.augT, F_in_brackets, M_in_brackets, ha, tix, truD_tup, e2, c1, c2, c3, c4, List.length_append, List.map_append, List.map_cons, List.map_nil, List.append_assoc, ih, if_true]
    | false =>
      rw [z] at e2 hl
      simp only [Bool.false_eq_true, if_false, List.length_append, List.length_cons, List.length_nil] at hl
      obtain ⟨s2', ih⟩ := kw_loop (fu := fu) (rk := rk) (S := S) (kd := kd) r (found ++ tw a ++ [arS]) (.val (.tup [.tup ds, .str s])) (fun c hc => h c (by simp [hc])) (by simp only [List.length_append, List.length_cons, List.length_nil]; omega)
      refine ⟨s2', ?_⟩
      have c3 : found.length + (tw a).length ≤ sizeLine := by rw [sizeLine_eq]; omega
      have c4 : found.length + (tw a).length < sizeLine := by rw [sizeLine_eq]; omega
      simp only [Z.fv_cons, Z.fv_nil, atI_0, atI_1, atI_2, atI_3, atI_4, ixNc_0, ixNc_1, ixNc_2, ixNc_3, mo_bind, mo_pure, bind_ok, bind_exc, bind_stuck, Z.getV, Z.putV, Z.putOwn, Z.putBox, Z.rdOwn, Z.ownAt, Z.seqM, Z.asgM, Z.ifM, Z.andM, Z.orM, Z.notM, Z.asB, Z.bin2, Z.un1, Z.ofO, Z.ofS, Z.ixM, Z.blt1M, Z.blt1O, Z.deref, Z.slM, Z.slMU, Z.partM, Z.tupM, Z.lstM, Z.catM, Z.argsM, Z.callM, Z.callMU, Z.callF, Z.callU, Z.truM, Z.setIxM, Z.putIx, Z.augM, Z.fin, Z.fr0, Z.funM, Z.ltD, Z.leD, Z.gtD, Z.geD, Z.iiD, Z.iiC, Z.subD, Z.intD, List.getElem?_map, List.length_map, List.getElem?_cons_zero, List.getElem?_cons_succ, List.set_cons_zero, List.set_cons_succ, List.cons_append, List.nil_append, List.append_nil, List.replicate_succ, List.replicate_zero, if_true, if_false, Bool.false_eq_true, Option.bind_some, Option.map_some, Option.bind_none, Option.map_none, Bool.not_true, Bool.not_false, Z.turnM, Z.tgTup, Z.tgCons, Z.tgNil, Z.appM, Z.extM, Z.parM, List.length_cons, List.length_nil, Z.augO, Z.augT, F_in_brackets, M_in_brackets, List.map_append, List.map_cons, List.map_nil, List.append_assoc] at ih
      simp only [Z.fv_cons, Z.fv_nil, atI_0, atI_1, atI_2, atI_3, atI_4, ixNc_0, ixNc_1, ixNc_2, ixNc_3, mo_bind, mo_pure, bind_ok, bind_exc, bind_stuck, Z.getV, Z.putV, Z.putOwn, Z.putBox, Z.rdOwn, Z.ownAt, Z.seqM, Z.asgM, Z.ifM, Z.andM, Z.orM, Z.notM, Z.asB, Z.bin2, Z.un1, Z.ofO, Z.ofS, Z.ixM, Z.blt1M, Z.blt1O, Z.deref, Z.slM, Z.slMU, Z.partM, Z.tupM, Z.lstM, Z.catM, Z.argsM, Z.callM, Z.callMU, Z.callF, Z.callU, Z.truM, Z.setIxM, Z.putIx, Z.augM, Z.fin, Z.fr0, Z.funM, Z.ltD, Z.leD, Z.gtD, Z.geD, Z.iiD, Z.iiC, Z.subD, Z.intD, List.getElem?_map, List.length_map, List.getElem?_cons_zero, List.getElem?_cons_succ, List.set_cons_zero, List.set_cons_succ, List.cons_append, List.nil_append, List.append_nil, List.replicate_succ, List.replicate_zero, if_true, if_false, Bool.false_eq_true, Option.bind_some, Option.map_some, Option.bind_none, Option.map_none, Bool.not_true, Bool.not_false, Z.turnM, Z.tgTup, Z.tgCons, Z.tgNil, Z.appM, Z.extM, Z.parM, List.length_cons, List.length_nil, Z.augO, Z.augT, F_in_brackets, M_in_brackets, ha, tix, truD_tup, e2, c3, c4, List.length_append, List.map_append, List.map_cons, List.map_nil, List.append_assoc, ih, Bool.false_eq_true, if_false]
theorem kw_ok {fu rk : Nat} {S : List Ob} : ∀ (n k : Nat) (t : Ty), n ≤ 4 → n ≤ k → Sh n t → F_kind_words fu rk k [t.d] S = .ok (.u ((tw t).map .str)) S
  | 0, _, _, _, _, h => h.elim
  | n + 1, 0, _, _, hk, _ => by omega
  | n + 1, k + 1, .mk as s, hn, hk, h => by
    have hl := tw_len (n + 1) _ h
    have hb : lb (n + 1) ≤ lb 4 := lb_le hn
    have h4 : lb 4 = 2496 := rfl
    obtain ⟨h2, h3⟩ := h
    rw [tw] at hl
    simp only [List.length_append, List.length_singleton] at hl
    obtain ⟨s2, e⟩ := kw_loop (fu := fu) (rk := rk) (r_kind_words := F_kind_words fu rk k) (S := S) (kd := .tup [.tup (Ty.ds as), .str s]) as [] .un (fun a ha => kw_ok n k a (by omega) (by omega) (h3 a ha)) (by simp only [List.length_nil]; omega)
    have tix : ixS (.tup [.tup (Ty.ds as), .str s]) (.int 0) S = some (.tup (Ty.ds as)) := rfl
    have tix1 : ixS (.tup [.tup (Ty.ds as), .str s]) (.int 1) S = some (.str s) := rfl
    have c : (tws as).length + (0 + 1) ≤ sizeLine := by rw [sizeLine_eq]; omega
    rw [List.map_nil] at e
    simp only [Z.fv_cons, Z.fv_nil, atI_0, atI_1, atI_2, atI_3, atI_4, ixNc_0, ixNc_1, ixNc_2, ixNc_3, mo_bind, mo_pure, bind_ok, bind_exc, bind_stuck, Z.getV, Z.putV, Z.putOwn, Z.putBox, Z.rdOwn, Z.ownAt, Z.seqM, Z.asgM, Z.ifM, Z.andM, Z.orM, Z.notM, Z.asB, Z.bin2, Z.un1, Z.ofO, Z.ofS, Z.ixM, Z.blt1M, Z.blt1O, Z.deref, Z.slM, Z.slMU, Z.partM, Z.tupM, Z.lstM, Z.catM, Z.argsM, Z.callM, Z.callMU, Z.callF, Z.callU, Z.truM, Z.setIxM, Z.putIx, Z.augM, Z.fin, Z.fr0, Z.funM, Z.ltD, Z.leD, Z.gtD, Z.geD, Z.iiD, Z.iiC, Z.subD, Z.intD, List.getElem?_map, List.length_map, List.getElem?_cons_zero, List.getElem?_cons_succ, List.set_cons_zero, List.set_cons_succ, List.cons_append, List.nil_append, List.append_nil, List.replicate_succ, List.replicate_zero, if_true, if_false, Bool.false_eq_true, Option.bind_some, Option.map_some, Option.bind_none, Option.map_none, Bool.not_true, Bool.not_false, Z.turnM, Z.tgTup, Z.tgCons, Z.tgNil, Z.appM, Z.extM, Z.parM, List.length_cons, List.length_nil, Z.augO, Z.augT, F_in_brackets, M_in_brackets] at e
    unfold F_kind_words M_kind_words
    rw [Ty.d, tw]
    simp only [Z.fv_cons, Z.fv_nil, atI_0, atI_1, atI_2, atI_3, atI_4, ixNc_0, ixNc_1, ixNc_2, ixNc_3, mo_bind, mo_pure, bind_ok, bind_exc, bind_stuck, Z.getV, Z.putV, Z.putOwn, Z.putBox, Z.rdOwn, Z.ownAt, Z.seqM, Z.asgM, Z.ifM, Z.andM, Z.orM, Z.notM, Z.asB, Z.bin2, Z.un1, Z.ofO, Z.ofS, Z.ixM, Z.blt1M, Z.blt1O, Z.deref, Z.slM, Z.slMU, Z.partM, Z.tupM, Z.lstM, Z.catM, Z.argsM, Z.callM, Z.callMU, Z.callF, Z.callU, Z.truM, Z.setIxM, Z.putIx, Z.augM, Z.fin, Z.fr0, Z.funM, Z.ltD, Z.leD, Z.gtD, Z.geD, Z.iiD, Z.iiC, Z.subD, Z.intD, List.getElem?_map, List.length_map, List.getElem?_cons_zero, List.getElem?_cons_succ, List.set_cons_zero, List.set_cons_succ, List.cons_append, List.nil_append, List.append_nil, List.replicate_succ, List.replicate_zero, if_true, if_false, Bool.false_eq_true, Option.bind_some, Option.map_some, Option.bind_none, Option.map_none, Bool.not_true, Bool.not_false, Z.turnM, Z.tgTup, Z.tgCons, Z.tgNil, Z.appM, Z.extM, Z.parM, List.length_cons, List.length_nil, Z.augO, Z.augT, F_in_brackets, M_in_brackets, tix, tix1, itT, Z.forM, e, c, List.map_append, List.map_cons, List.map_nil]
end K70
set_option Elab.async false
set_option linter.all false
set_option maxRecDepth 100000
set_option maxHeartbeats 4000000
/-! Y13: the law's loose texts of a type. -/
namespace K70
open PySem L2 Z
/-- the greatest height of a loose text of a type n deep -/
def Gh (a b : Nat) : Nat → Nat
  | 0 => 0
  | n + 1 => a + n * (6 * a + 5 * b)
def ll : Nat → Nat
  | 0 => 0
  | n + 1 => 5 * (ll n + 4) + 8
theorem Gh_step (a b n : Nat) (h : 1 ≤ n) : Gh a b n + a + 5 * (a + b) ≤ Gh a b (n + 1) := by
  obtain ⟨m, rfl⟩ : ∃ m, n = m + 1 := ⟨n - 1, by omega⟩
  simp only [Gh, Nat.add_mul]
  omega
theorem Ls.free {a b h h1 : Nat} {u v : Str} {r : List Ty} {w1 w : List Str} (l1 : Ls a b h1 (.mk [] u) w1) (hh : h1 ≤ h + b) (l : Ls a b h (.mk r v) w) : Ls a b (h + b) (.mk (.mk [] u :: r) v) (w1 ++ arS :: w) := by
  cases l1 with
  | atom e => exact .arrA e l
  | br l2 => exact .arrB l2 hh l
/-- tokens of loose texts -/
def VT (t : Str) : Prop := okT t = true ∧ (L t).length ≤ 9 ∧ badT t = false
theorem vt_lp : VT lpS := ⟨by decide +kernel, by decide +kernel, by decide +kernel⟩
theorem vt_rp : VT rpS := ⟨by decide +kernel, by decide +kernel, by decide +kernel⟩
theorem vt_ar : VT arS := ⟨by decide +kernel, by decide +kernel, by decide +kernel⟩
theorem vt_sort {s : Str} (h : s ∈ sorts8 ∨ s = "o") : VT s := by
  have h1 : ∀ s ∈ sorts8, okT s = true ∧ (L s).length ≤ 9 ∧ badT s = false := by decide +kernel
  rcases h with h | h
  · exact h1 s h
  · subst h; exact ⟨by decide +kernel, by decide +kernel, by decide +kernel⟩
theorem kd_sort {s : Str} (h : s ∈ sorts8 ∨ s = "o") : kd s = "word" := by
  have h1 : ∀ s ∈ sorts8, kd s = ("word" : Str) := by decide +kernel
  rcases h with h | h
  · exact h1 s h
  · subst h; decide +kernel
/-- n deep; the sort at the end may be o -/
def Gt (n : Nat) : Ty → Prop
  | .mk as s => (s ∈ sorts8 ∨ s = "o") ∧ as.length ≤ 5 ∧ ∀ a ∈ as, Gd n a
/-- what a loose text is -/
structure Loose (n : Nat) (t : Ty) (w : List Str) : Prop where
  ls : ∀ a b, Ls a b (Gh a b n) t w
  vt : ∀ x ∈ w, VT x
  len : w.length ≤ ll n
theorem free_of {a : Ty} (h : a.hasArgs = false) : ∃ u, a = .mk [] u := by
  cases a with
  | mk as s => cases as with
    | nil => exact ⟨s, rfl⟩
    | cons _ _ => cases h
/-- the found and the closing tokens at a place -/
structure Lp (m : Nat) (as : List Ty) (s : Str) (j : Nat) (found : List Str) (c : Nat) : Prop where
  ls : ∀ a b h w, Ls a b h (.mk (as.drop j) s) w → Gh a b m + a ≤ h → Ls a b (h + j * (a + b)) (.mk as s) (found ++ w ++ List.replicate c rpS)
  vt : ∀ x ∈ found, VT x
  c : c ≤ j
  len : found.length ≤ j * (ll m + 4)
/-- one more argument -/
theorem Lp.step {m : Nat} {as : List Ty} {s : Str} {j : Nat} {found : List Str} {c : Nat} {t : Ty} {w1 : List Str} (l : Lp m as s j found c) (ht : as[j]? = some t) (h1 : Loose m t w1) (opened bracketed : Bool) (hb : t.hasArgs = true → bracketed = true) :
    Lp m as s (j + 1) (found ++ (if opened then [lpS] else []) ++ (if bracketed then lpS :: w1 ++ [rpS] else w1) ++ [arS]) (if opened then c + 1 else c) := by
  have hd : as.drop j = t :: as.drop (j + 1) := by
    have hj := (List.getElem?_eq_some_iff.mp ht)
    rw [List.drop_eq_getElem_cons hj.1, hj.2]
  refine ⟨fun a b h w lw hh => ?_, fun x hx => ?_, ?_, ?_⟩
  · have l2 : Ls a b (h + b) (.mk (as.drop j) s) ((if bracketed then lpS :: w1 ++ [rpS] else w1) ++ arS :: w) := by
      rw [hd]
      cases z : bracketed with
      | true => exact .arrB (h1.ls a b) (by omega) lw
      | false =>
        have : t.hasArgs = false := by
          cases y : t.hasArgs with
          | false => rfl
          | true => rw [hb y] at z; cases z
        obtain ⟨u, rfl⟩ := free_of this
        exact Ls.free (h1.ls a b) (by omega) lw
    cases o : opened with
    | true =>
      have l3 := l.ls a b (h + b + a) _ (.br l2) (by omega)
      have e : found ++ (if true = true then [lpS] else []) ++ (if bracketed = true then lpS :: w1 ++ [rpS] else w1) ++ [arS] ++ w ++ List.replicate (if true = true then c + 1 else c) rpS = found ++ (lpS :: ((if bracketed = true then lpS :: w1 ++ [rpS] else w1) ++ arS :: w) ++ [rpS]) ++ List.replicate c rpS := by
        simp [List.replicate_succ]
      rw [e]
      refine l3.mono ?_
      rw [Nat.add_mul]
      omega
    | false =>
      have l3 := l.ls a b (h + b) _ l2 (by omega)
      have e : found ++ (if false = true then [lpS] else []) ++ (if bracketed = true then lpS :: w1 ++ [rpS] else w1) ++ [arS] ++ w ++ List.replicate (if false = true then c + 1 else c) rpS = found ++ ((if bracketed = true then lpS :: w1 ++ [rpS] else w1) ++ arS :: w) ++ List.replicate c rpS := by
        simp
      rw [e]
      refine l3.mono ?_
      rw [Nat.add_mul]
      omega
  · rcases List.mem_append.mp hx with z | z
    · rcases List.mem_append.mp z with z | z
      · rcases List.mem_append.mp z with z | z
        · exact l.vt x z
        · cases opened
          · simp at z
          · simp at z; subst z; exact vt_lp
      · cases bracketed
        · exact h1.vt x (by simpa using z)
        · simp at z
          rcases z with z | z | z
          · subst z; exact vt_lp
          · exact h1.vt x z
          · subst z; exact vt_rp
    · simp at z; subst z; exact vt_ar
  · have := l.c; split <;> omega
  · have h2 := l.len
    have h3 := h1.len
    rw [Nat.add_mul]
    cases opened <;> cases bracketed <;> simp <;> omega
theorem Lp.nil {m : Nat} {as : List Ty} {s : Str} : Lp m as s 0 [] 0 := ⟨fun a b h w l _ => by simpa using l, fun x hx => by simp at hx, Nat.le_refl 0, by simp⟩
theorem Lp.done {m : Nat} {as : List Ty} {s : Str} {found : List Str} {c : Nat} (l : Lp m as s as.length found c) (hs : s ∈ sorts8 ∨ s = "o") (h5 : as.length ≤ 5) (hm : as ≠ [] → 1 ≤ m) (br : Bool) :
    Loose (m + 1) (.mk as s) (found ++ (if br then lpS :: [s] ++ [rpS] else [s]) ++ List.replicate c rpS) := by
  refine ⟨fun a b => ?_, fun x hx => ?_, ?_⟩
  · have l0 : Ls a b (Gh a b m + a) (.mk (as.drop as.length) s) (if br then lpS :: [s] ++ [rpS] else [s]) := by
      rw [List.drop_length]
      cases br
      · exact .atom (kd_sort hs)
      · exact .br (.atom (kd_sort hs))
    refine (l.ls a b _ _ l0 (Nat.le_refl _)).mono ?_
    by_cases z : as = []
    · subst z
      cases m with
      | zero => simp [Gh]
      | succ m => simp only [Gh, List.length_nil, Nat.add_mul]; omega
    · have h1 := Gh_step a b m (hm z)
      have h2 : as.length * (a + b) ≤ 5 * (a + b) := Nat.mul_le_mul_right _ h5
      omega
  · rcases List.mem_append.mp hx with z | z
    · rcases List.mem_append.mp z with z | z
      · exact l.vt x z
      · cases br
        · simp at z; subst z; exact vt_sort hs
        · simp at z
          rcases z with z | z | z
          · subst z; exact vt_lp
          · subst z; exact vt_sort hs
          · subst z; exact vt_rp
    · rw [(List.mem_replicate.mp z).2]; exact vt_rp
  · have h1 := l.len
    have h2 := l.c
    have h3 : as.length * (ll m + 4) ≤ 5 * (ll m + 4) := Nat.mul_le_mul_right _ h5
    rw [ll]
    cases br <;> simp <;> omega
end K70
set_option Elab.async false
set_option linter.all false
set_option maxRecDepth 100000
set_option maxHeartbeats 4000000
/-! Y14: _law_loose_type. -/
namespace K70
open PySem L2 Z
theorem ll_le {n m : Nat} (h : n ≤ m) : ll n ≤ ll m := by
  induction h with
  | refl => exact Nat.le_refl _
  | step _ ih => rw [ll]; omega
theorem loose_step {fu rk : Nat} {r__law_loose_type : Fm} {S : List Ob} {o1 : Ob} {as : List Ty} {s : Str} {m j c : Nat} {found cl : List Str} {t : Ty} {s5 s6 s7 : Sl} (hS : 0 < S.length) (ho : Cob o1) (hm : m ≤ 3) (hj4 : j ≤ 4)
    (ht : as[j]? = some t) (l : Lp m as s j found c) (hcl : cl = List.replicate c rpS)
    (ih : ∀ o, Cob o → ∃ w o', r__law_loose_type [.ptr 0, t.d] (S.set 0 o) = .ok (.u (w.map .str)) (S.set 0 o') ∧ Cob o' ∧ Loose m t w) :
    ∃ (fr1 : List Sl) (S1 : List Ob) (fr2 : List Sl) (S2 : List Ob), (putV 5) (.int j) [.val (.ptr 0), .val (.tup [.tup (Ty.ds as), .str s]), .own (found.map .str), .val (.int as.length), .own (cl.map .str), s5, s6, s7] (S.set 0 o1) = .ok () fr1 S1 ∧
      (seqM (ifM (asB (bin2 (callM (F__law_take fu rk) [(getV 0), (pure (.int 4))] []) (pure (.int 0)) eqD)) (seqM ((appM 2 (pure (.str "("))) >>= fun _ => pure .nx)
    ((appM 4 (pure (.str ")"))) >>= fun _ => pure .nx)) (pure .nx))
    (seqM (asgM (callM r__law_loose_type [(getV 0), (ixM (ixM (getV 1) (pure (.int 0))) (getV 5))] []) (putV 7))
    (seqM (ifM (Z.orM (truM (ixM (ixM (ixM (getV 1) (pure (.int 0))) (getV 5)) (pure (.int 0)))) (asB (bin2 (callM (F__law_take fu rk) [(getV 0), (pure (.int 4))] []) (pure (.int 0)) eqD))) (asgM (lstM (catM (lstM (catM (lstM (argsM [(pure (.str "("))])) (getV 7))) (lstM (argsM [(pure (.str ")"))])))) (putV 7)) (pure .nx))
    ((catM (lstM (catM (getV 2) (getV 7))) (lstM (argsM [(pure (.str "->"))]))) >>= fun ds => putOwn 2 ds >>= fun _ => pure .nx)))) fr1 S1 = .ok .nx fr2 S2 ∧
      ∃ found' cl' c' o' s5' s6' s7', fr2 = [.val (.ptr 0), .val (.tup [.tup (Ty.ds as), .str s]), .own (found'.map .str), .val (.int as.length), .own (cl'.map .str), s5', s6', s7'] ∧ S2 = S.set 0 o' ∧ Cob o' ∧ cl' = List.replicate c' rpS ∧ Lp m as s (j + 1) found' c' := by
  have g1 : ∀ o, (S.set 0 o)[0]? = some o := fun o => List.getElem?_set_self hS
  have hs : ∀ o o', (S.set 0 o).set 0 o' = S.set 0 o' := fun o o' => List.set_set _
  obtain ⟨q, o2, hf, ho2, hq⟩ := take_ok (fu := fu) (rk := rk) (m := 4) (g1 o1) ho (by decide) (by decide)
  obtain ⟨w, o3, hr, ho3, hw⟩ := ih o2 ho2
  obtain ⟨q2, o4, hf2, ho4, hq2⟩ := take_ok (fu := fu) (rk := rk) (m := 4) (g1 o3) ho3 (by decide) (by decide)
  obtain ⟨ds, u, e1, e2⟩ := hasArgs_d (S := S) t
  rw [e1] at hr
  have hl3 : ll m ≤ ll 3 := ll_le hm
  have h3 : ll 3 = 868 := rfl
  have hfl : found.length ≤ 4 * (868 + 4) := Nat.le_trans l.len (Nat.le_trans (Nat.mul_le_mul_left j (by omega)) (Nat.mul_le_mul_right _ hj4))
  have hwl := hw.len
  have hcc := l.c
  have hcl2 : cl.length ≤ 4 := by rw [hcl, List.length_replicate]; omega
  have t0 : ∀ S : List Ob, ixS (.tup [.tup (Ty.ds as), .str s]) (.int 0) S = some (.tup (Ty.ds as)) := fun _ => rfl
  have tj : ∀ S : List Ob, ixS (.tup (Ty.ds as)) (.int (j : Int)) S = some (.tup [.tup ds, .str u]) := fun S => by
    show atI _ _ = _
    rw [atI_natZ, ds_get, ht, ← e1]
    rfl
  have tt : ∀ S : List Ob, ixS (.tup [.tup ds, .str u]) (.int 0) S = some (.tup ds) := fun _ => rfl
  have hst : ∀ (opened bracketed : Bool), (t.hasArgs = true → bracketed = true) → _ := fun a b h => l.step ht hw a b h
  have hrep : cl ++ [rpS] = List.replicate (c + 1) rpS := by rw [List.replicate_succ', hcl]
  have a0 : found.length < sizeLine := by rw [sizeLine_eq]; omega
  have a1 : cl.length < sizeLine := by rw [sizeLine_eq]; omega
  have c1 : 0 + 1 + w.length ≤ sizeLine := by rw [sizeLine_eq]; omega
  have c2 : w.length + 1 + (0 + 1) ≤ sizeLine := by rw [sizeLine_eq]; omega
  have c3 : found.length + (w.length + (0 + 1) + 1) ≤ sizeLine := by rw [sizeLine_eq]; omega
  have c4 : found.length + (w.length + (0 + 1) + 1) + (0 + 1) ≤ sizeLine := by rw [sizeLine_eq]; omega
  have c5 : found.length + (0 + 1) + (w.length + (0 + 1) + 1) ≤ sizeLine := by rw [sizeLine_eq]; omega
  have c6 : found.length + (0 + 1) + (w.length + (0 + 1) + 1) + (0 + 1) ≤ sizeLine := by rw [sizeLine_eq]; omega
  have c7 : found.length + w.length ≤ sizeLine := by rw [sizeLine_eq]; omega
  have c8 : found.length + w.length + (0 + 1) ≤ sizeLine := by rw [sizeLine_eq]; omega
  have c9 : found.length + (0 + 1) + w.length ≤ sizeLine := by rw [sizeLine_eq]; omega
  have c10 : found.length + (0 + 1) + w.length + (0 + 1) ≤ sizeLine := by rw [sizeLine_eq]; omega
  have d1 : found.length + (w.length + (0 + 1) + 1 + 1) + (0 + 1) ≤ sizeLine := by rw [sizeLine_eq]; omega
  have d2 : found.length + (w.length + 1) + (0 + 1) ≤ sizeLine := by rw [sizeLine_eq]; omega
  have d3 : found.length + (w.length + 1) ≤ sizeLine := by rw [sizeLine_eq]; omega
  have d4 : found.length + (w.length + (0 + 1) + 1 + 1) ≤ sizeLine := by rw [sizeLine_eq]; omega
  cases b1 : decide ((q : Int) = 0) with
  | true =>
    cases b2 : t.hasArgs with
    | true =>
      rw [b2] at e2
      refine ⟨_, _, [.val (.ptr 0), .val (.tup [.tup (Ty.ds as), .str s]), .own ((found ++ [lpS] ++ (lpS :: w ++ [rpS]) ++ [arS]).map .str), .val (.int as.length), .own ((cl ++ [rpS]).map .str), .val (.int j), s6, .val (.lst ((lpS :: w ++ [rpS]).map .str))], S.set 0 o3, rfl, ?_, _, _, c + 1, o3, _, _, _, rfl, rfl, ho3, hrep, hst true true (fun _ => rfl)⟩
      simp only [Z.fv_cons, Z.fv_nil, atI_0, atI_1, atI_2, atI_3, atI_4, ixNc_0, ixNc_1, ixNc_2, ixNc_3, mo_bind, mo_pure, bind_ok, bind_exc, bind_stuck, Z.getV, Z.putV, Z.putOwn, Z.putBox, Z.rdOwn, Z.ownAt, Z.seqM, Z.asgM, Z.ifM, Z.andM, Z.orM, Z.notM, Z.asB, Z.bin2, Z.un1, Z.ofO, Z.ofS, Z.ixM, Z.blt1M, Z.blt1O, Z.deref, Z.slM, Z.slMU, Z.partM, Z.tupM, Z.lstM, Z.catM, Z.argsM, Z.callM, Z.callMU, Z.callF, Z.callU, Z.truM, Z.setIxM, Z.putIx, Z.augM, Z.fin, Z.fr0, Z.funM, Z.ltD, Z.leD, Z.gtD, Z.geD, Z.iiD, Z.iiC, Z.subD, Z.intD, List.getElem?_map, List.length_map, List.getElem?_cons_zero, List.getElem?_cons_succ, List.set_cons_zero, List.set_cons_succ, List.cons_append, List.nil_append, List.append_nil, List.replicate_succ, List.replicate_zero, if_true, if_false, Bool.false_eq_true, Option.bind_some, Option.map_some, Option.bind_none, Option.map_none, Bool.not_true, Bool.not_false, Z.turnM, Z.tgTup, Z.tgCons, Z.tgNil, Z.appM, Z.extM, Z.parM, List.length_cons, List.length_nil, hf, hs, eqD_int, b1, hr, t0, tj, tt, truD_tup, e2, a0, a1, c1, c2, c3, c4, c5, c6, c7, c8, c9, c10, d1, d2, d3, d4, List.length_append, List.map_append, List.map_cons, List.map_nil, List.append_assoc]
    | false =>
      rw [b2] at e2
      cases b3 : decide ((q2 : Int) = 0) with
      | true =>
        refine ⟨_, _, [.val (.ptr 0), .val (.tup [.tup (Ty.ds as), .str s]), .own ((found ++ [lpS] ++ (lpS :: w ++ [rpS]) ++ [arS]).map .str), .val (.int as.length), .own ((cl ++ [rpS]).map .str), .val (.int j), s6, .val (.lst ((lpS :: w ++ [rpS]).map .str))], S.set 0 o4, rfl, ?_, _, _, c + 1, o4, _, _, _, rfl, rfl, ho4, hrep, hst true true (fun _ => rfl)⟩
        simp only [Z.fv_cons, Z.fv_nil, atI_0, atI_1, atI_2, atI_3, atI_4, ixNc_0, ixNc_1, ixNc_2, ixNc_3, mo_bind, mo_pure, bind_ok, bind_exc, bind_stuck, Z.getV, Z.putV, Z.putOwn, Z.putBox, Z.rdOwn, Z.ownAt, Z.seqM, Z.asgM, Z.ifM, Z.andM, Z.orM, Z.notM, Z.asB, Z.bin2, Z.un1, Z.ofO, Z.ofS, Z.ixM, Z.blt1M, Z.blt1O, Z.deref, Z.slM, Z.slMU, Z.partM, Z.tupM, Z.lstM, Z.catM, Z.argsM, Z.callM, Z.callMU, Z.callF, Z.callU, Z.truM, Z.setIxM, Z.putIx, Z.augM, Z.fin, Z.fr0, Z.funM, Z.ltD, Z.leD, Z.gtD, Z.geD, Z.iiD, Z.iiC, Z.subD, Z.intD, List.getElem?_map, List.length_map, List.getElem?_cons_zero, List.getElem?_cons_succ, List.set_cons_zero, List.set_cons_succ, List.cons_append, List.nil_append, List.append_nil, List.replicate_succ, List.replicate_zero, if_true, if_false, Bool.false_eq_true, Option.bind_some, Option.map_some, Option.bind_none, Option.map_none, Bool.not_true, Bool.not_false, Z.turnM, Z.tgTup, Z.tgCons, Z.tgNil, Z.appM, Z.extM, Z.parM, List.length_cons, List.length_nil, hf, hf2, hs, eqD_int, b1, b3, hr, t0, tj, tt, truD_tup, e2, a0, a1, c1, c2, c3, c4, c5, c6, c7, c8, c9, c10, d1, d2, d3, d4, List.length_append, List.map_append, List.map_cons, List.map_nil, List.append_assoc]
      | false =>
        refine ⟨_, _, [.val (.ptr 0), .val (.tup [.tup (Ty.ds as), .str s]), .own ((found ++ [lpS] ++ w ++ [arS]).map .str), .val (.int as.length), .own ((cl ++ [rpS]).map .str), .val (.int j), s6, .val (.lst (w.map .str))], S.set 0 o4, rfl, ?_, _, _, c + 1, o4, _, _, _, rfl, rfl, ho4, hrep, hst true false (fun h => by rw [b2] at h; cases h)⟩
        simp only [Z.fv_cons, Z.fv_nil, atI_0, atI_1, atI_2, atI_3, atI_4, ixNc_0, ixNc_1, ixNc_2, ixNc_3, mo_bind, mo_pure, bind_ok, bind_exc, bind_stuck, Z.getV, Z.putV, Z.putOwn, Z.putBox, Z.rdOwn, Z.ownAt, Z.seqM, Z.asgM, Z.ifM, Z.andM, Z.orM, Z.notM, Z.asB, Z.bin2, Z.un1, Z.ofO, Z.ofS, Z.ixM, Z.blt1M, Z.blt1O, Z.deref, Z.slM, Z.slMU, Z.partM, Z.tupM, Z.lstM, Z.catM, Z.argsM, Z.callM, Z.callMU, Z.callF, Z.callU, Z.truM, Z.setIxM, Z.putIx, Z.augM, Z.fin, Z.fr0, Z.funM, Z.ltD, Z.leD, Z.gtD, Z.geD, Z.iiD, Z.iiC, Z.subD, Z.intD, List.getElem?_map, List.length_map, List.getElem?_cons_zero, List.getElem?_cons_succ, List.set_cons_zero, List.set_cons_succ, List.cons_append, List.nil_append, List.append_nil, List.replicate_succ, List.replicate_zero, if_true, if_false, Bool.false_eq_true, Option.bind_some, Option.map_some, Option.bind_none, Option.map_none, Bool.not_true, Bool.not_false, Z.turnM, Z.tgTup, Z.tgCons, Z.tgNil, Z.appM, Z.extM, Z.parM, List.length_cons, List.length_nil, hf, hf2, hs, eqD_int, b1, b3, hr, t0, tj, tt, truD_tup, e2, a0, a1, c1, c2, c3, c4, c5, c6, c7, c8, c9, c10, d1, d2, d3, d4, List.length_append, List.map_append, List.map_cons, List.map_nil, List.append_assoc]
  | false =>
    cases b2 : t.hasArgs with
    | true =>
      rw [b2] at e2
      refine ⟨_, _, [.val (.ptr 0), .val (.tup [.tup (Ty.ds as), .str s]), .own ((found ++ [] ++ (lpS :: w ++ [rpS]) ++ [arS]).map .str), .val (.int as.length), .own (cl.map .str), .val (.int j), s6, .val (.lst ((lpS :: w ++ [rpS]).map .str))], S.set 0 o3, rfl, ?_, _, _, c, o3, _, _, _, rfl, rfl, ho3, hcl, hst false true (fun _ => rfl)⟩
      simp only [Z.fv_cons, Z.fv_nil, atI_0, atI_1, atI_2, atI_3, atI_4, ixNc_0, ixNc_1, ixNc_2, ixNc_3, mo_bind, mo_pure, bind_ok, bind_exc, bind_stuck, Z.getV, Z.putV, Z.putOwn, Z.putBox, Z.rdOwn, Z.ownAt, Z.seqM, Z.asgM, Z.ifM, Z.andM, Z.orM, Z.notM, Z.asB, Z.bin2, Z.un1, Z.ofO, Z.ofS, Z.ixM, Z.blt1M, Z.blt1O, Z.deref, Z.slM, Z.slMU, Z.partM, Z.tupM, Z.lstM, Z.catM, Z.argsM, Z.callM, Z.callMU, Z.callF, Z.callU, Z.truM, Z.setIxM, Z.putIx, Z.augM, Z.fin, Z.fr0, Z.funM, Z.ltD, Z.leD, Z.gtD, Z.geD, Z.iiD, Z.iiC, Z.subD, Z.intD, List.getElem?_map, List.length_map, List.getElem?_cons_zero, List.getElem?_cons_succ, List.set_cons_zero, List.set_cons_succ, List.cons_append, List.nil_append, List.append_nil, List.replicate_succ, List.replicate_zero, if_true, if_false, Bool.false_eq_true, Option.bind_some, Option.map_some, Option.bind_none, Option.map_none, Bool.not_true, Bool.not_false, Z.turnM, Z.tgTup, Z.tgCons, Z.tgNil, Z.appM, Z.extM, Z.parM, List.length_cons, List.length_nil, hf, hs, eqD_int, b1, hr, t0, tj, tt, truD_tup, e2, a0, a1, c1, c2, c3, c4, c5, c6, c7, c8, c9, c10, d1, d2, d3, d4, List.length_append, List.map_append, List.map_cons, List.map_nil, List.append_assoc]
    | false =>
      rw [b2] at e2
      cases b3 : decide ((q2 : Int) = 0) with
      | true =>
        refine ⟨_, _, [.val (.ptr 0), .val (.tup [.tup (Ty.ds as), .str s]), .own ((found ++ [] ++ (lpS :: w ++ [rpS]) ++ [arS]).map .str), .val (.int as.length), .own (cl.map .str), .val (.int j), s6, .val (.lst ((lpS :: w ++ [rpS]).map .str))], S.set 0 o4, rfl, ?_, _, _, c, o4, _, _, _, rfl, rfl, ho4, hcl, hst false true (fun _ => rfl)⟩
        simp only [Z.fv_cons, Z.fv_nil, atI_0, atI_1, atI_2, atI_3, atI_4, ixNc_0, ixNc_1, ixNc_2, ixNc_3, mo_bind, mo_pure, bind_ok, bind_exc, bind_stuck, Z.getV, Z.putV, Z.putOwn, Z.putBox, Z.rdOwn, Z.ownAt, Z.seqM, Z.asgM, Z.ifM, Z.andM, Z.orM, Z.notM, Z.asB, Z.bin2, Z.un1, Z.ofO, Z.ofS, Z.ixM, Z.blt1M, Z.blt1O, Z.deref, Z.slM, Z.slMU, Z.partM, Z.tupM, Z.lstM, Z.catM, Z.argsM, Z.callM, Z.callMU, Z.callF, Z.callU, Z.truM, Z.setIxM, Z.putIx, Z.augM, Z.fin, Z.fr0, Z.funM, Z.ltD, Z.leD, Z.gtD, Z.geD, Z.iiD, Z.iiC, Z.subD, Z.intD, List.getElem?_map, List.length_map, List.getElem?_cons_zero, List.getElem?_cons_succ, List.set_cons_zero, List.set_cons_succ, List.cons_append, List.nil_append, List.append_nil, List.replicate_succ, List.replicate_zero, if_true, if_false, Bool.false_eq_true, Option.bind_some, Option.map_some, Option.bind_none, Option.map_none, Bool.not_true, Bool.not_false, Z.turnM, Z.tgTup, Z.tgCons, Z.tgNil, Z.appM, Z.extM, Z.parM, List.length_cons, List.length_nil, hf, hf2, hs, eqD_int, b1, b3, hr, t0, tj, tt, truD_tup, e2, a0, a1, c1, c2, c3, c4, c5, c6, c7, c8, c9, c10, d1, d2, d3, d4, List.length_append, List.map_append, List.map_cons, List.map_nil, List.append_assoc]
      | false =>
        refine ⟨_, _, [.val (.ptr 0), .val (.tup [.tup (Ty.ds as), .str s]), .own ((found ++ [] ++ w ++ [arS]).map .str), .val (.int as.length), .own (cl.map .str), .val (.int j), s6, .val (.lst (w.map .str))], S.set 0 o4, rfl, ?_, _, _, c, o4, _, _, _, rfl, rfl, ho4, hcl, hst false false (fun h => by rw [b2] at h; cases h)⟩
        simp only [Z.fv_cons, Z.fv_nil, atI_0, atI_1, atI_2, atI_3, atI_4, ixNc_0, ixNc_1, ixNc_2, ixNc_3, mo_bind, mo_pure, bind_ok, bind_exc, bind_stuck, Z.getV, Z.putV, Z.putOwn, Z.putBox, Z.rdOwn, Z.ownAt, Z.seqM, Z.asgM, Z.ifM, Z.andM, Z.orM, Z.notM, Z.asB, Z.bin2, Z.un1, Z.ofO, Z.ofS, Z.ixM, Z.blt1M, Z.blt1O, Z.deref, Z.slM, Z.slMU, Z.partM, Z.tupM, Z.lstM, Z.catM, Z.argsM, Z.callM, Z.callMU, Z.callF, Z.callU, Z.truM, Z.setIxM, Z.putIx, Z.augM, Z.fin, Z.fr0, Z.funM, Z.ltD, Z.leD, Z.gtD, Z.geD, Z.iiD, Z.iiC, Z.subD, Z.intD, List.getElem?_map, List.length_map, List.getElem?_cons_zero, List.getElem?_cons_succ, List.set_cons_zero, List.set_cons_succ, List.cons_append, List.nil_append, List.append_nil, List.replicate_succ, List.replicate_zero, if_true, if_false, Bool.false_eq_true, Option.bind_some, Option.map_some, Option.bind_none, Option.map_none, Bool.not_true, Bool.not_false, Z.turnM, Z.tgTup, Z.tgCons, Z.tgNil, Z.appM, Z.extM, Z.parM, List.length_cons, List.length_nil, hf, hf2, hs, eqD_int, b1, b3, hr, t0, tj, tt, truD_tup, e2, a0, a1, c1, c2, c3, c4, c5, c6, c7, c8, c9, c10, d1, d2, d3, d4, List.length_append, List.map_append, List.map_cons, List.map_nil, List.append_assoc]
end K70
set_option Elab.async false
set_option linter.all false
set_option maxRecDepth 100000
set_option maxHeartbeats 4000000
/-! Y15: _law_loose_type, the whole. -/
namespace K70
open PySem L2 Z
theorem Gd.gt {m : Nat} {t : Ty} (h : Gd (m + 1) t) : Gt m t := by
  cases t with
  | mk as s => exact ⟨.inl h.1, h.2.1, h.2.2⟩
theorem loose_ok {fu rk : Nat} : ∀ (m k : Nat) (t : Ty) (S : List Ob) (o : Ob), m ≤ 3 → m < k → Gt m t → S[0]? = some o → Cob o →
    ∃ w o', F__law_loose_type fu rk k [.ptr 0, t.d] S = .ok (.u (w.map .str)) (S.set 0 o') ∧ Cob o' ∧ Loose (m + 1) t w
  | m, 0, _, _, _, _, hk, _, _, _ => by omega
  | m, k + 1, .mk as s, S, o, hm, hk, hg, hS, ho => by
    have hl : 0 < S.length := (List.getElem?_eq_some_iff.mp hS).1
    have g1 : ∀ o, (S.set 0 o)[0]? = some o := fun o => List.getElem?_set_self hl
    have hs : ∀ o o', (S.set 0 o).set 0 o' = S.set 0 o' := fun o o' => List.set_set _
    have hS0 : S = S.set 0 o := by
      apply List.ext_getElem?
      intro i
      by_cases z : i = 0
      · subst z; rw [g1, hS]
      · rw [List.getElem?_set_ne (Ne.symm z)]
    obtain ⟨hg1, hg2, hg3⟩ := hg
    have hm1 : as ≠ [] → 1 ≤ m := by
      intro h
      cases as with
      | nil => exact absurd rfl h
      | cons a r =>
        have := hg3 a (by simp)
        cases m with
        | zero => exact this.elim
        | succ m => omega
    have hr : itR1 [.int (as.length : Int)] = some (rngD 0 as.length) := itR1_nat (by omega)
    have hld : lenD (.tup (Ty.ds as)) = some (.int (as.length : Int)) := by
      have : lenD (.tup (Ty.ds as)) = some (.int ((Ty.ds as).length : Int)) := by
        first
          | rfl
          | (show (if (Ty.ds as).length ≤ sizeLine then some (D.int ((Ty.ds as).length : Nat)) else none) = _
             rw [if_pos (by rw [sizeLine_eq, ds_length]; omega)])
      rw [this, ds_length]
    obtain ⟨fr', S', e1, found, cl, c, o1, s5, s6, s7, rfl, rfl, ho1, hcl, l⟩ := loop_ind (f := (putV 5)) (b := (fun (r__law_loose_type : Fm) => (seqM (ifM (asB (bin2 (callM (F__law_take fu rk) [(getV 0), (pure (.int 4))] []) (pure (.int 0)) eqD)) (seqM ((appM 2 (pure (.str "("))) >>= fun _ => pure .nx)
    ((appM 4 (pure (.str ")"))) >>= fun _ => pure .nx)) (pure .nx))
    (seqM (asgM (callM r__law_loose_type [(getV 0), (ixM (ixM (getV 1) (pure (.int 0))) (getV 5))] []) (putV 7))
    (seqM (ifM (Z.orM (truM (ixM (ixM (ixM (getV 1) (pure (.int 0))) (getV 5)) (pure (.int 0)))) (asB (bin2 (callM (F__law_take fu rk) [(getV 0), (pure (.int 4))] []) (pure (.int 0)) eqD))) (asgM (lstM (catM (lstM (catM (lstM (argsM [(pure (.str "("))])) (getV 7))) (lstM (argsM [(pure (.str ")"))])))) (putV 7)) (pure .nx))
    ((catM (lstM (catM (getV 2) (getV 7))) (lstM (argsM [(pure (.str "->"))]))) >>= fun ds => putOwn 2 ds >>= fun _ => pure .nx))))) (F__law_loose_type fu rk k))
      (fun i fr S' => ∃ found cl c o1 s5 s6 s7, fr = [.val (.ptr 0), .val (.tup [.tup (Ty.ds as), .str s]), .own (found.map .str), .val (.int as.length), .own (cl.map .str), s5, s6, s7] ∧ S' = S.set 0 o1 ∧ Cob o1 ∧ cl = List.replicate c rpS ∧ Lp m as s i found c)
      (rngD 0 as.length) 0 [.val (.ptr 0), .val (.tup [.tup (Ty.ds as), .str s]), .own [], .val (.int as.length), .own [], .un, .un, .un] S
      (fun j d fr S' hd hi => by
        obtain ⟨rfl, hj⟩ := rngD_get hd
        obtain ⟨found, cl, c, o1, s5, s6, s7, rfl, rfl, ho1, hcl, l⟩ := hi
        rw [Nat.zero_add] at l ⊢
        have gj : as[j]? = some as[j] := List.getElem?_eq_getElem hj
        have hmem : as[j] ∈ as := List.getElem_mem hj
        generalize as[j] = t at gj hmem
        have hne : as ≠ [] := by intro e; rw [e] at hmem; simp at hmem
        obtain ⟨m', rfl⟩ : ∃ m', m = m' + 1 := ⟨m - 1, by have := hm1 hne; omega⟩
        obtain ⟨fr1, S1, fr2, S2, q1, q2, found', cl', c', o', s5', s6', s7', q3, q4, q5, q6, q7⟩ := loose_step (fu := fu) (rk := rk) (r__law_loose_type := F__law_loose_type fu rk k) (s5 := s5) (s6 := s6) (s7 := s7) hl ho1 hm (by omega) gj l hcl (fun o ho => by
          obtain ⟨w, o', r1, r2, r3⟩ := loose_ok (fu := fu) (rk := rk) m' k t (S.set 0 o) o (by omega) (by omega) (hg3 t hmem).gt (g1 o) ho
          rw [hs] at r1
          exact ⟨w, o', r1, r2, r3⟩)
        exact ⟨fr1, S1, fr2, S2, q1, q2, found', cl', c', o', s5', s6', s7', q3, q4, q5, q6, q7⟩)
      ⟨[], [], 0, o, .un, .un, .un, rfl, hS0, ho, rfl, Lp.nil⟩
    have hn : (rngD 0 as.length).length = as.length := by simp [rngD]
    rw [Nat.zero_add, hn] at l
    obtain ⟨q, o2, hf, ho2, hq⟩ := take_ok (fu := fu) (rk := rk) (m := 4) (g1 o1) ho1 (by decide) (by decide)
    have hfl : found.length ≤ 5 * (868 + 4) := by
      have a1 : ll m ≤ ll 3 := ll_le hm
      have a2 : ll 3 = 868 := rfl
      exact Nat.le_trans l.len (Nat.le_trans (Nat.mul_le_mul_left _ (by omega)) (Nat.mul_le_mul_right _ hg2))
    have hcc := l.c
    have hcl2 : cl.length ≤ 5 := by rw [hcl, List.length_replicate]; omega
    have t0 : ∀ S : List Ob, ixS (.tup [.tup (Ty.ds as), .str s]) (.int 0) S = some (.tup (Ty.ds as)) := fun _ => rfl
    have t1 : ∀ S : List Ob, ixS (.tup [.tup (Ty.ds as), .str s]) (.int 1) S = some (.str s) := fun _ => rfl
    have c1 : 0 + 1 + (0 + 1) ≤ sizeLine := by rw [sizeLine_eq]; omega
    have c2 : 0 + 1 + 1 + (0 + 1) ≤ sizeLine := by rw [sizeLine_eq]; omega
    have c3 : found.length + (0 + 1 + 1 + 1) ≤ sizeLine := by rw [sizeLine_eq]; omega
    have c4 : found.length + (0 + 1 + 1 + 1) + cl.length ≤ sizeLine := by rw [sizeLine_eq]; omega
    have c5 : found.length + (0 + 1) ≤ sizeLine := by rw [sizeLine_eq]; omega
    have c6 : found.length + (0 + 1) + cl.length ≤ sizeLine := by rw [sizeLine_eq]; omega
    simp only [Z.fv_cons, Z.fv_nil, atI_0, atI_1, atI_2, atI_3, atI_4, ixNc_0, ixNc_1, ixNc_2, ixNc_3, mo_bind, mo_pure, bind_ok, bind_exc, bind_stuck, Z.getV, Z.putV, Z.putOwn, Z.putBox, Z.rdOwn, Z.ownAt, Z.seqM, Z.asgM, Z.ifM, Z.andM, Z.orM, Z.notM, Z.asB, Z.bin2, Z.un1, Z.ofO, Z.ofS, Z.ixM, Z.blt1M, Z.blt1O, Z.deref, Z.slM, Z.slMU, Z.partM, Z.tupM, Z.lstM, Z.catM, Z.argsM, Z.callM, Z.callMU, Z.callF, Z.callU, Z.truM, Z.setIxM, Z.putIx, Z.augM, Z.fin, Z.fr0, Z.funM, Z.ltD, Z.leD, Z.gtD, Z.geD, Z.iiD, Z.iiC, Z.subD, Z.intD, List.getElem?_map, List.length_map, List.getElem?_cons_zero, List.getElem?_cons_succ, List.set_cons_zero, List.set_cons_succ, List.cons_append, List.nil_append, List.append_nil, List.replicate_succ, List.replicate_zero, if_true, if_false, Bool.false_eq_true, Option.bind_some, Option.map_some, Option.bind_none, Option.map_none, Bool.not_true, Bool.not_false, Z.turnM, Z.tgTup, Z.tgCons, Z.tgNil, Z.appM, Z.extM, Z.parM, List.length_cons, List.length_nil] at e1
    unfold F__law_loose_type M__law_loose_type
    rw [Ty.d]
    cases b1 : decide ((q : Int) = 0) with
    | true =>
      have hd := l.done hg1 hg2 hm1 true
      refine ⟨_, o2, ?_, ho2, hd⟩
      rw [← hcl]
      simp only [Z.fv_cons, Z.fv_nil, atI_0, atI_1, atI_2, atI_3, atI_4, ixNc_0, ixNc_1, ixNc_2, ixNc_3, mo_bind, mo_pure, bind_ok, bind_exc, bind_stuck, Z.getV, Z.putV, Z.putOwn, Z.putBox, Z.rdOwn, Z.ownAt, Z.seqM, Z.asgM, Z.ifM, Z.andM, Z.orM, Z.notM, Z.asB, Z.bin2, Z.un1, Z.ofO, Z.ofS, Z.ixM, Z.blt1M, Z.blt1O, Z.deref, Z.slM, Z.slMU, Z.partM, Z.tupM, Z.lstM, Z.catM, Z.argsM, Z.callM, Z.callMU, Z.callF, Z.callU, Z.truM, Z.setIxM, Z.putIx, Z.augM, Z.fin, Z.fr0, Z.funM, Z.ltD, Z.leD, Z.gtD, Z.geD, Z.iiD, Z.iiC, Z.subD, Z.intD, List.getElem?_map, List.length_map, List.getElem?_cons_zero, List.getElem?_cons_succ, List.set_cons_zero, List.set_cons_succ, List.cons_append, List.nil_append, List.append_nil, List.replicate_succ, List.replicate_zero, if_true, if_false, Bool.false_eq_true, Option.bind_some, Option.map_some, Option.bind_none, Option.map_none, Bool.not_true, Bool.not_false, Z.turnM, Z.tgTup, Z.tgCons, Z.tgNil, Z.appM, Z.extM, Z.parM, List.length_cons, List.length_nil, t0, t1, hld, hr, Z.forM, e1, hf, hs, eqD_int, b1, c1, c2, c3, c4, c5, c6, List.length_append, List.map_append, List.map_cons, List.map_nil, List.append_assoc]
    | false =>
      have hd := l.done hg1 hg2 hm1 false
      refine ⟨_, o2, ?_, ho2, hd⟩
      rw [← hcl]
      simp only [Z.fv_cons, Z.fv_nil, atI_0, atI_1, atI_2, atI_3, atI_4, ixNc_0, ixNc_1, ixNc_2, ixNc_3, mo_bind, mo_pure, bind_ok, bind_exc, bind_stuck, Z.getV, Z.putV, Z.putOwn, Z.putBox, Z.rdOwn, Z.ownAt, Z.seqM, Z.asgM, Z.ifM, Z.andM, Z.orM, Z.notM, Z.asB, Z.bin2, Z.un1, Z.ofO, Z.ofS, Z.ixM, Z.blt1M, Z.blt1O, Z.deref, Z.slM, Z.slMU, Z.partM, Z.tupM, Z.lstM, Z.catM, Z.argsM, Z.callM, Z.callMU, Z.callF, Z.callU, Z.truM, Z.setIxM, Z.putIx, Z.augM, Z.fin, Z.fr0, Z.funM, Z.ltD, Z.leD, Z.gtD, Z.geD, Z.iiD, Z.iiC, Z.subD, Z.intD, List.getElem?_map, List.length_map, List.getElem?_cons_zero, List.getElem?_cons_succ, List.set_cons_zero, List.set_cons_succ, List.cons_append, List.nil_append, List.append_nil, List.replicate_succ, List.replicate_zero, if_true, if_false, Bool.false_eq_true, Option.bind_some, Option.map_some, Option.bind_none, Option.map_none, Bool.not_true, Bool.not_false, Z.turnM, Z.tgTup, Z.tgCons, Z.tgNil, Z.appM, Z.extM, Z.parM, List.length_cons, List.length_nil, t0, t1, hld, hr, Z.forM, e1, hf, hs, eqD_int, b1, c1, c2, c3, c4, c5, c6, List.length_append, List.map_append, List.map_cons, List.map_nil, List.append_assoc]
end K70
set_option Elab.async false
set_option linter.all false
set_option maxRecDepth 100000
set_option maxHeartbeats 4000000
/-! Y16: pieces of a row of tokens. -/
namespace K70
open PySem L2 Z
/-- p pieces of w0 and q other tokens -/
inductive Pcs (w0 : List Str) : Nat → Nat → List Str → Prop
  | nil : Pcs w0 0 0 []
  | seg {p q u v} : (∃ x y, w0 = x ++ u ++ y) → Pcs w0 p q v → Pcs w0 (p + 1) q (u ++ v)
  | one {p q t v} : Pcs w0 p q v → Pcs w0 p (q + 1) (t :: v)
theorem cut_eq (x y u : List Str) (k : Nat) : x ++ u ++ y = x ++ u.take k ++ u.drop k ++ y := by
  rw [List.append_assoc x (u.take k), List.take_append_drop]
theorem cut_eq2 (x y u : List Str) (k : Nat) : x ++ u ++ y = x ++ u.take k ++ (u.drop k ++ y) := by
  rw [← List.append_assoc, ← cut_eq]
theorem Pcs.all (w0 : List Str) : Pcs w0 1 0 w0 := by
  have := Pcs.seg (w0 := w0) (u := w0) ⟨[], [], by simp⟩ .nil
  rwa [List.append_nil] at this
theorem Pcs.app {w0 : List Str} {p q p' q' : Nat} {u v : List Str} (h : Pcs w0 p q u) (h' : Pcs w0 p' q' v) : Pcs w0 (p + p') (q + q') (u ++ v) := by
  induction h with
  | nil => simpa using h'
  | seg g _ ih => rw [List.append_assoc, Nat.add_right_comm]; exact .seg g ih
  | one _ ih => rw [List.cons_append, Nat.add_right_comm]; exact .one ih
theorem Pcs.drop {w0 : List Str} {p q : Nat} {u : List Str} (h : Pcs w0 p q u) : ∀ k, ∃ p' q', Pcs w0 p' q' (u.drop k) ∧ p' ≤ p ∧ q' ≤ q := by
  induction h with
  | nil => intro k; exact ⟨0, 0, by rw [List.drop_nil]; exact .nil, Nat.le_refl _, Nat.le_refl _⟩
  | @seg p q u v g hv ih =>
    intro k
    rw [List.drop_append]
    by_cases hk : k ≤ u.length
    · obtain ⟨x, y, e⟩ := g
      rw [show k - u.length = 0 by omega, List.drop_zero]
      exact ⟨p + 1, q, .seg ⟨x ++ u.take k, y, by rw [e]; exact cut_eq x y u k⟩ hv, Nat.le_refl _, Nat.le_refl _⟩
    · obtain ⟨p', q', h1, h2, h3⟩ := ih (k - u.length)
      rw [List.drop_eq_nil_of_le (show u.length ≤ k by omega), List.nil_append]
      exact ⟨p', q', h1, by omega, h3⟩
  | @one p q t v hv ih =>
    intro k
    cases k with
    | zero => exact ⟨p, q + 1, .one hv, Nat.le_refl _, Nat.le_refl _⟩
    | succ k =>
      obtain ⟨p', q', h1, h2, h3⟩ := ih k
      exact ⟨p', q', h1, h2, by omega⟩
theorem Pcs.split {w0 : List Str} {p q : Nat} {u : List Str} (h : Pcs w0 p q u) : ∀ k, ∃ p1 q1 p2 q2, Pcs w0 p1 q1 (u.take k) ∧ Pcs w0 p2 q2 (u.drop k) ∧ p1 + p2 ≤ p + 1 ∧ q1 + q2 ≤ q := by
  induction h with
  | nil => intro k; exact ⟨0, 0, 0, 0, by rw [List.take_nil]; exact .nil, by rw [List.drop_nil]; exact .nil, by omega, by omega⟩
  | @seg p q u v g hv ih =>
    intro k
    rw [List.drop_append, List.take_append]
    by_cases hk : k ≤ u.length
    · obtain ⟨x, y, e⟩ := g
      rw [show k - u.length = 0 by omega, List.drop_zero, List.take_zero]
      refine ⟨1, 0, p + 1, q, .seg ⟨x, u.drop k ++ y, by rw [e]; exact cut_eq2 x y u k⟩ .nil, .seg ⟨x ++ u.take k, y, by rw [e]; exact cut_eq x y u k⟩ hv, by omega, by omega⟩
    · obtain ⟨p1, q1, p2, q2, h1, h2, h3, h4⟩ := ih (k - u.length)
      rw [List.drop_eq_nil_of_le (show u.length ≤ k by omega), List.nil_append, List.take_of_length_le (show u.length ≤ k by omega)]
      exact ⟨p1 + 1, q1, p2, q2, .seg g h1, h2, by omega, h4⟩
  | @one p q t v hv ih =>
    intro k
    cases k with
    | zero => exact ⟨0, 0, p, q + 1, .nil, .one hv, by omega, by omega⟩
    | succ k =>
      obtain ⟨p1, q1, p2, q2, h1, h2, h3, h4⟩ := ih k
      exact ⟨p1, q1 + 1, p2, q2, .one h1, h2, h3, by omega⟩
theorem Pcs.short {w0 l : List Str} (h : l.length ≤ 1) : ∃ q, Pcs w0 0 q l ∧ q ≤ 1 := by
  match l, h with
  | [], _ => exact ⟨0, .nil, by omega⟩
  | [t], _ => exact ⟨1, .one .nil, by omega⟩
def ST (t : Str) : Prop := okT t = true ∧ (L t).length ≤ 9
/-- i edits -/
structure Sp (w0 : List Str) (i : Nat) (u : List Str) : Prop where
  pcs : ∃ p q, Pcs w0 p q u ∧ p ≤ i + 1 ∧ q ≤ 2 * i
  st : ∀ x ∈ u, ST x
  len : u.length ≤ w0.length + i
theorem Sp.edit {w0 : List Str} {i : Nat} {u : List Str} (h : Sp w0 i u) (k d : Nat) (l1 l2 : List Str) (h1 : l1.length ≤ 1) (h2 : l2.length ≤ 1) (hs1 : ∀ x ∈ l1, ST x) (hs2 : ∀ x ∈ l2, ST x) (hl : l1.length + l2.length ≤ d + 1) (hd : k + d ≤ u.length ∨ l1.length + l2.length ≤ 1) :
    Sp w0 (i + 1) (u.take k ++ l1 ++ l2 ++ u.drop (k + d)) := by
  obtain ⟨p, q, hp, b1, b2⟩ := h.pcs
  obtain ⟨p1, q1, p2, q2, c1, c2, c3, c4⟩ := hp.split k
  obtain ⟨p3, q3, c5, c6, c7⟩ := c2.drop d
  rw [List.drop_drop] at c5
  obtain ⟨q4, c8, c9⟩ := Pcs.short (w0 := w0) h1
  obtain ⟨q5, d1, d2⟩ := Pcs.short (w0 := w0) h2
  refine ⟨⟨_, _, ((c1.app c8).app d1).app c5, by omega, by omega⟩, fun x hx => ?_, ?_⟩
  · rcases List.mem_append.mp hx with z | z
    · rcases List.mem_append.mp z with z | z
      · rcases List.mem_append.mp z with z | z
        · exact h.st x (List.mem_of_mem_take z)
        · exact hs1 x z
      · exact hs2 x z
    · exact h.st x (List.mem_of_mem_drop z)
  · have := h.len
    simp only [List.length_append, List.length_take, List.length_drop]
    omega
end K70
set_option Elab.async false
set_option linter.all false
set_option maxRecDepth 100000
set_option maxHeartbeats 4000000
/-! Y17: how high the readers' stacks go. -/
namespace K70
open PySem L2 Z
def pop : List Bool → List Bool
  | [] => []
  | true :: s => s
  | false :: s => pop s
def stp (s : List Bool) (t : Str) : List Bool := if kd t = lpS then true :: s else if kd t = arS then false :: s else if kd t = rpS then pop s else s
def wt (a b : Nat) : List Bool → Nat
  | [] => 0
  | true :: s => a + wt a b s
  | false :: s => b + wt a b s
def mh (a b : Nat) : List Bool → List Str → Nat
  | s, [] => wt a b s
  | s, t :: r => max (wt a b s) (mh a b (stp s t) r)
def rn (s : List Bool) (ts : List Str) : List Bool := ts.foldl stp s
theorem wt_app (a b : Nat) : ∀ s t : List Bool, wt a b (s ++ t) = wt a b s + wt a b t
  | [], t => by simp [wt]
  | true :: s, t => by simp [wt, wt_app a b s t, Nat.add_assoc]
  | false :: s, t => by simp [wt, wt_app a b s t, Nat.add_assoc]
theorem wt_pop (a b : Nat) : ∀ s : List Bool, wt a b (pop s) ≤ wt a b s
  | [] => Nat.le_refl _
  | true :: s => by simp [wt, pop]
  | false :: s => by have := wt_pop a b s; simp [wt, pop]; omega
theorem pop_app (a b : Nat) : ∀ s t : List Bool, ∃ t', pop (s ++ t) = pop s ++ t' ∧ wt a b t' ≤ wt a b t
  | [], t => ⟨pop t, rfl, wt_pop a b t⟩
  | true :: s, t => ⟨t, rfl, Nat.le_refl _⟩
  | false :: s, t => pop_app a b s t
theorem stp_app (a b : Nat) (s t : List Bool) (x : Str) : ∃ t', stp (s ++ t) x = stp s x ++ t' ∧ wt a b t' ≤ wt a b t := by
  unfold stp
  split
  · exact ⟨t, rfl, Nat.le_refl _⟩
  · split
    · exact ⟨t, rfl, Nat.le_refl _⟩
    · split
      · exact pop_app a b s t
      · exact ⟨t, rfl, Nat.le_refl _⟩
theorem mh_add (a b : Nat) : ∀ (v : List Str) (s t : List Bool), mh a b (s ++ t) v ≤ wt a b t + mh a b s v
  | [], s, t => by rw [mh, mh, wt_app]; omega
  | x :: v, s, t => by
    obtain ⟨t', h1, h2⟩ := stp_app a b s t x
    have := mh_add a b v (stp s x) t'
    rw [mh, mh, h1, wt_app]
    omega
theorem mh_sub (a b : Nat) : ∀ (v : List Str) (s t : List Bool), mh a b s v ≤ mh a b (s ++ t) v
  | [], s, t => by rw [mh, mh, wt_app]; omega
  | x :: v, s, t => by
    obtain ⟨t', h1, h2⟩ := stp_app a b s t x
    have := mh_sub a b v (stp s x) t'
    rw [mh, mh, h1, wt_app]
    omega
theorem mh_app (a b : Nat) : ∀ (u v : List Str) (s : List Bool), mh a b s (u ++ v) = max (mh a b s u) (mh a b (rn s u) v)
  | [], v, s => by
    show mh a b s v = max (wt a b s) (mh a b s v)
    have : wt a b s ≤ mh a b s v := by cases v <;> simp [mh] <;> omega
    omega
  | x :: u, v, s => by
    show max (wt a b s) (mh a b (stp s x) (u ++ v)) = max (max (wt a b s) (mh a b (stp s x) u)) (mh a b (rn (stp s x) u) v)
    rw [mh_app a b u v]
    omega
theorem mh_ge (a b : Nat) (s : List Bool) (v : List Str) : wt a b s ≤ mh a b s v := by cases v <;> simp [mh] <;> omega
theorem rn_le (a b : Nat) (u : List Str) (s : List Bool) : wt a b (rn s u) ≤ mh a b s u := by
  induction u generalizing s with
  | nil => exact Nat.le_refl _
  | cons x u ih =>
    have := ih (stp s x)
    show wt a b (rn (stp s x) u) ≤ max (wt a b s) (mh a b (stp s x) u)
    omega
/-- heights of pieces add up -/
theorem mh_two (a b : Nat) (u v : List Str) : mh a b [] (u ++ v) ≤ mh a b [] u + mh a b [] v := by
  rw [mh_app]
  have h1 := rn_le a b u []
  have h2 := mh_add a b v [] (rn [] u)
  rw [List.nil_append] at h2
  omega
theorem mh_part (a b : Nat) (x u y : List Str) : mh a b [] u ≤ mh a b [] (x ++ u ++ y) := by
  rw [mh_app, mh_app]
  have h := mh_sub a b u [] (rn [] x)
  rw [List.nil_append] at h
  omega
theorem mh_pcs {w0 : List Str} {p q : Nat} {u : List Str} (a b : Nat) (h : Pcs w0 p q u) : mh a b [] u ≤ p * mh a b [] w0 + q * (a + b) := by
  induction h with
  | nil => simp [mh, wt]
  | @seg p q u v g _ ih =>
    obtain ⟨x, y, e⟩ := g
    have h1 := mh_two a b u v
    have h2 := mh_part a b x u y
    rw [← e] at h2
    rw [Nat.add_mul]
    omega
  | @one p q t v _ ih =>
    have h1 := mh_two a b [t] v
    have h2 : mh a b [] [t] ≤ a + b := by
      show max (wt a b []) (wt a b (stp [] t)) ≤ _
      unfold stp
      split
      · simp [wt]
      · split
        · simp [wt]
        · split <;> simp [wt, pop]
    rw [List.singleton_append] at h1
    rw [Nat.add_mul]
    omega
end K70
set_option Elab.async false
set_option linter.all false
set_option maxRecDepth 100000
set_option maxHeartbeats 4000000
/-! Y18: heights of loose texts. -/
namespace K70
open PySem L2 Z
theorem stp_lp (s : List Bool) : stp s lpS = true :: s := if_pos (by decide +kernel)
theorem stp_ar (s : List Bool) : stp s arS = false :: s := by
  unfold stp
  rw [if_neg (by decide +kernel), if_pos (by decide +kernel)]
theorem stp_rp (s : List Bool) : stp s rpS = pop s := by
  unfold stp
  rw [if_neg (by decide +kernel), if_neg (by decide +kernel), if_pos (by decide +kernel)]
theorem stp_wd {t : Str} (h : kd t = "word") (s : List Bool) : stp s t = s := by
  unfold stp
  rw [h, if_neg (by decide +kernel), if_neg (by decide +kernel), if_neg (by decide +kernel)]
theorem rn_cons (s : List Bool) (t : Str) (r : List Str) : rn s (t :: r) = rn (stp s t) r := rfl
theorem rn_app (s : List Bool) (u v : List Str) : rn s (u ++ v) = rn (rn s u) v := List.foldl_append
theorem pop_rep (m : Nat) (s : List Bool) : pop (List.replicate m false ++ true :: s) = s := by
  induction m with
  | zero => rfl
  | succ m ih => rw [List.replicate_succ]; exact ih
theorem mh_cons (a b : Nat) (s : List Bool) (t : Str) (r : List Str) : mh a b s (t :: r) = max (wt a b s) (mh a b (stp s t) r) := rfl
/-- a text in brackets -/
theorem br_mh {a b h : Nat} {w : List Str} (h1 : ∀ s, ∃ m, rn s w = List.replicate m false ++ s) (h2 : mh a b [] w ≤ h) : (∀ s, rn s (lpS :: w ++ [rpS]) = s) ∧ mh a b [] (lpS :: w ++ [rpS]) ≤ h + a := by
  have e : ∀ s, rn s (lpS :: w ++ [rpS]) = s := by
    intro s
    obtain ⟨m, hm⟩ := h1 (true :: s)
    rw [List.cons_append, rn_cons, stp_lp, rn_app, hm, rn_cons, stp_rp, pop_rep]
    rfl
  refine ⟨e, ?_⟩
  obtain ⟨m, hm⟩ := h1 [true]
  have h3 := mh_add a b w [] [true]
  rw [List.nil_append] at h3
  have h4 := rn_le a b w [true]
  have h5 : wt a b [true] = a := rfl
  rw [List.cons_append, mh_cons, stp_lp, mh_app, mh_cons, stp_rp, hm, pop_rep]
  rw [hm] at h4
  simp only [mh, wt] at h4 ⊢
  omega
theorem ls_mh {a b h : Nat} {t : Ty} {w : List Str} (l : Ls a b h t w) : (∀ s, ∃ m, rn s w = List.replicate m false ++ s) ∧ mh a b [] w ≤ h := by
  have arr : ∀ (h : Nat) (w : List Str), ((∀ s, ∃ m, rn s w = List.replicate m false ++ s) ∧ mh a b [] w ≤ h) → (∀ s, ∃ m, rn s (arS :: w) = List.replicate m false ++ s) ∧ mh a b [] (arS :: w) ≤ h + b := by
    intro h w ⟨h1, h2⟩
    refine ⟨fun s => ?_, ?_⟩
    · obtain ⟨m, hm⟩ := h1 (false :: s)
      refine ⟨m + 1, ?_⟩
      rw [rn_cons, stp_ar, hm, List.replicate_succ', List.append_assoc]
      rfl
    · have h3 := mh_add a b w [] [false]
      rw [List.nil_append] at h3
      have h5 : wt a b [false] = b := rfl
      rw [mh_cons, stp_ar]
      simp only [wt] at h3 ⊢
      omega
  induction l with
  | @atom h s e =>
    refine ⟨fun s' => ⟨0, by rw [rn_cons, stp_wd e]; rfl⟩, ?_⟩
    rw [mh_cons, stp_wd e]
    simp [mh, wt]
  | br l ih =>
    obtain ⟨h1, h2⟩ := br_mh ih.1 ih.2
    exact ⟨fun s => ⟨0, by rw [h1]; rfl⟩, h2⟩
  | @arrA h s r u w e l ih =>
    obtain ⟨h1, h2⟩ := arr _ _ ih
    refine ⟨fun s' => by rw [rn_cons, stp_wd e]; exact h1 s', ?_⟩
    rw [mh_cons, stp_wd e]
    simp only [wt]
    omega
  | @arrB h h1 t w1 r u w l1 hh l2 ih1 ih2 =>
    obtain ⟨a1, a2⟩ := arr _ _ ih2
    obtain ⟨b1, b2⟩ := br_mh ih1.1 ih1.2
    refine ⟨fun s => by rw [rn_app, b1]; exact a1 s, ?_⟩
    rw [mh_app, b1]
    omega
end K70
set_option Elab.async false
set_option linter.all false
set_option maxRecDepth 100000
set_option maxHeartbeats 4000000
/-! Y19: a plain reader. -/
namespace K70
open PySem L2 Z
inductive Tr where
  | word (k : Nat)
  | to (l r : Tr)
inductive PR where
  | ok (t : Tr) (p : Nat)
  | stop (p : Nat)
  | deep
def kAt (ts : List Str) (p : Nat) : Str := match ts[p]? with
  | some t => kd t
  | none => ""
abbrev wdS : Str := "word"
/-- what stands left of an arrow -/
def rdL (ts : List Str) (f : Nat → PR) (p : Nat) : PR :=
  if kAt ts p = lpS then
    match f (p + 1) with
    | .ok t p' => if kAt ts p' = rpS then .ok t (p' + 1) else .stop p'
    | .stop q => .stop q
    | .deep => .deep
  else if kAt ts p = wdS then .ok (.word p) (p + 1) else .stop p
def rd (ts : List Str) : Nat → Nat → PR
  | 0, _ => .deep
  | k + 1, p => match rdL ts (rd ts k) p with
    | .ok l p' => if kAt ts p' = arS then
        match rd ts k (p' + 1) with
        | .ok r p2 => .ok (.to l r) p2
        | .stop q => .stop q
        | .deep => .deep
      else .ok l p'
    | .stop q => .stop q
    | .deep => .deep
theorem drop_k {ts : List Str} {p : Nat} {k : Str} (h : kAt ts p = k) (hk : k ≠ "") : ∃ t, ts[p]? = some t ∧ kd t = k ∧ ts.drop p = t :: ts.drop (p + 1) := by
  unfold kAt at h
  cases e : ts[p]? with
  | none => rw [e] at h; exact absurd h.symm hk
  | some t =>
    rw [e] at h
    obtain ⟨h1, h2⟩ := List.getElem?_eq_some_iff.mp e
    exact ⟨t, rfl, h, by rw [List.drop_eq_getElem_cons h1, h2]⟩
theorem stp_of {t : Str} {s : List Bool} : (kd t = lpS → stp s t = true :: s) ∧ (kd t = arS → stp s t = false :: s) ∧ (kd t = rpS → stp s t = pop s) ∧ (kd t = wdS → stp s t = s) := by
  refine ⟨fun h => ?_, fun h => ?_, fun h => ?_, fun h => stp_wd h s⟩
  · exact if_pos h
  · unfold stp; rw [h, if_neg (by decide +kernel), if_pos rfl]
  · unfold stp; rw [h, if_neg (by decide +kernel), if_neg (by decide +kernel), if_pos rfl]
theorem wt_len : ∀ s : List Bool, wt 1 1 s = s.length
  | [] => rfl
  | true :: s => by rw [wt, wt_len s, List.length_cons]; omega
  | false :: s => by rw [wt, wt_len s, List.length_cons]; omega
/-- the reader goes no deeper than the stack is high -/
theorem rd_deep (ts : List Str) : ∀ (k p : Nat) (s : List Bool), mh 1 1 s (ts.drop p) < s.length + k → rd ts k p ≠ .deep ∧ ∀ t p', rd ts k p = .ok t p' → ∃ m, mh 1 1 (List.replicate m false ++ s) (ts.drop p') ≤ mh 1 1 s (ts.drop p)
  | 0, p, s, h => by
    have := mh_ge 1 1 s (ts.drop p)
    rw [wt_len] at this
    omega
  | k + 1, p, s, h => by
    have hL : rdL ts (rd ts k) p ≠ .deep ∧ ∀ t p', rdL ts (rd ts k) p = .ok t p' → mh 1 1 s (ts.drop p') ≤ mh 1 1 s (ts.drop p) := by
      unfold rdL
      by_cases h1 : kAt ts p = lpS
      · rw [if_pos h1]
        obtain ⟨t, e1, e2, e3⟩ := drop_k h1 (by decide +kernel)
        rw [e3, mh_cons, stp_of.1 e2] at h ⊢
        obtain ⟨i1, i2⟩ := rd_deep ts k (p + 1) (true :: s) (by rw [List.length_cons]; omega)
        cases e : rd ts k (p + 1) with
        | deep => exact absurd e i1
        | stop q => exact ⟨by simp, fun t p' h => by cases h⟩
        | ok t' p1 =>
          obtain ⟨m, hm⟩ := i2 t' p1 e
          dsimp only
          by_cases h2 : kAt ts p1 = rpS
          · rw [if_pos h2]
            refine ⟨by simp, fun t p' h => ?_⟩
            cases h
            obtain ⟨t2, f1, f2, f3⟩ := drop_k h2 (by decide +kernel)
            rw [f3, mh_cons, stp_of.2.2.1 f2, pop_rep] at hm
            omega
          · rw [if_neg h2]
            exact ⟨by simp, fun t p' h => by cases h⟩
      · rw [if_neg h1]
        by_cases h2 : kAt ts p = wdS
        · rw [if_pos h2]
          refine ⟨by simp, fun t p' h => ?_⟩
          cases h
          obtain ⟨t, e1, e2, e3⟩ := drop_k h2 (by decide +kernel)
          rw [e3, mh_cons, stp_of.2.2.2 e2]
          omega
        · rw [if_neg h2]
          exact ⟨by simp, fun t p' h => by cases h⟩
    obtain ⟨l1, l2⟩ := hL
    rw [rd]
    cases e : rdL ts (rd ts k) p with
    | deep => exact absurd e l1
    | stop q => exact ⟨by simp, fun t p' h => by cases h⟩
    | ok l p1 =>
      have hm := l2 l p1 e
      dsimp only
      by_cases h2 : kAt ts p1 = arS
      · rw [if_pos h2]
        obtain ⟨t2, f1, f2, f3⟩ := drop_k h2 (by decide +kernel)
        rw [f3, mh_cons, stp_of.2.1 f2] at hm
        obtain ⟨i1, i2⟩ := rd_deep ts k (p1 + 1) (false :: s) (by rw [List.length_cons]; omega)
        cases e2 : rd ts k (p1 + 1) with
        | deep => exact absurd e2 i1
        | stop q => exact ⟨by simp, fun t p' h => by cases h⟩
        | ok r p2 =>
          refine ⟨by simp, fun t p' h => ?_⟩
          cases h
          obtain ⟨m, hm2⟩ := i2 r p2 e2
          refine ⟨m + 1, ?_⟩
          rw [List.replicate_succ', List.append_assoc]
          exact Nat.le_trans hm2 (by omega)
      · rw [if_neg h2]
        refine ⟨by simp, fun t p' h => ?_⟩
        cases h
        exact ⟨0, hm⟩
end K70
set_option Elab.async false
set_option linter.all false
set_option maxRecDepth 100000
set_option maxHeartbeats 4000000
/-! Y20: the law's reader. -/
namespace K70
open PySem L2 Z
theorem kd_sign {t k : Str} (hk : k ∉ reservedL) (h1 : k ≠ "word") (h2 : k ≠ "bad") (h3 : k ≠ "number") (h4 : ∀ w, L k = w → isWd w = false ∧ isNm w = false ∧ (isS1 w = true ∨ w = [45, 62])) : kd t = k ↔ t = k := by
  constructor
  · intro h
    unfold kd kdL at h
    split at h
    · unfold kindW at h
      split at h
      · rename_i hr
        rw [h] at hr
        exact absurd hr hk
      · exact absurd h.symm h1
    · split at h
      · unfold kindN at h
        split at h
        · exact absurd h.symm h2
        · exact absurd h.symm h3
      · split at h
        · exact h
        · split at h
          · rename_i hw
            have e : L t = [45, 62] := by simpa using hw
            rw [← h]
            show mkS (L t) = _
            rw [e]
            decide +kernel
          · exact absurd h.symm h2
  · intro h
    subst h
    obtain ⟨a, b, c⟩ := h4 (L t) rfl
    unfold kd kdL
    rw [a, b]
    rcases c with c | c
    · rw [c]; rfl
    · rw [c]
      show ("->" : Str) = mkS (L t)
      rw [c]
      decide +kernel
theorem kd_lp {t : Str} : kd t = lpS ↔ t = lpS := kd_sign (by decide +kernel) (by decide +kernel) (by decide +kernel) (by decide +kernel) (fun w h => by subst h; decide +kernel)
theorem kd_rp {t : Str} : kd t = rpS ↔ t = rpS := kd_sign (by decide +kernel) (by decide +kernel) (by decide +kernel) (by decide +kernel) (fun w h => by subst h; decide +kernel)
theorem kd_ar {t : Str} : kd t = arS ↔ t = arS := kd_sign (by decide +kernel) (by decide +kernel) (by decide +kernel) (by decide +kernel) (fun w h => by subst h; decide +kernel)
theorem kd_wd {t : Str} : kd t = wdS ↔ isWd (L t) = true ∧ t ∉ reservedL := by
  unfold kd kdL
  by_cases h : isWd (L t) = true
  · rw [if_pos h]
    unfold kindW
    by_cases h2 : mkS (L t) ∈ reservedL
    · rw [if_pos h2]
      have h3 : t ∈ reservedL := h2
      refine ⟨fun e => ?_, fun e => absurd h3 e.2⟩
      have e' : t = wdS := e
      rw [e'] at h3
      exact absurd h3 (by decide +kernel)
    · rw [if_neg h2]
      exact ⟨fun _ => ⟨h, h2⟩, fun _ => rfl⟩
  · rw [if_neg h]
    refine ⟨fun e => ?_, fun e => absurd e.1 h⟩
    exfalso
    split at e
    · unfold kindN at e
      split at e
      · exact absurd e (by decide +kernel)
      · exact absurd e (by decide +kernel)
    · split at e
      · rename_i h3
        have h4 : L t = L wdS := congrArg (fun s : Str => s.cps.toList) e
        rw [h4] at h3
        exact absurd h3 (by decide +kernel)
      · split at e
        · exact absurd e (by decide +kernel)
        · exact absurd e (by decide +kernel)
abbrev pk (ts : List Str) (p : Nat) : Str := ts.getD p ""
theorem pk_kAt (ts : List Str) (p : Nat) (k : Str) (hk : ∀ t, kd t = k ↔ t = k) (h0 : k ≠ "") : decide (pk ts p = k) = decide (kAt ts p = k) := by
  rw [decide_eq_decide]
  unfold pk kAt
  rw [List.getD_eq_getElem?_getD]
  cases ts[p]? with
  | none => exact Iff.rfl
  | some t => exact (hk t).symm
theorem pk_sk {ts : List Str} (h : ∀ t ∈ ts, ST t) (p : Nat) : sk (pk ts p) = true := by
  unfold pk
  rw [List.getD_eq_getElem?_getD]
  cases e : ts[p]? with
  | none => decide +kernel
  | some t => exact sk_mk (l := L t) (ok_small (h t (List.mem_of_getElem? e)).1)
theorem all_ok (w : List Nat) : ∃ bs, blsOf bs = some (w.map isLt) ∧ bs = w.map fun c => D.bl (isLt c) := by
  refine ⟨_, ?_, rfl⟩
  induction w with
  | nil => rfl
  | cons c w ih =>
    show (blsOf (w.map fun c => D.bl (isLt c))).map (isLt c :: ·) = _
    rw [ih]
    rfl
theorem is_word_ok {fu rk : Nat} {S : List Ob} {t : Str} (hs : sk t = true) (hl : (L t).length ≤ 1000) : F__law_is_word fu rk [.str t] S = .ok (.d (.bl (decide (kd t = wdS)))) S := by
  have ek : decide (kd t = wdS) = (isWd (L t) && !decide (t ∈ reservedL)) := by
    by_cases h1 : isWd (L t) = true <;> by_cases h2 : t ∈ reservedL <;> simp [kd_wd, h1, h2]
  rw [ek]
  have e0 : decide (t = "") = (L t).isEmpty := by
    rw [show ("" : Str) = mkS [] by decide +kernel]
    have := dec_mk (L t) []
    rw [show decide (t = mkS []) = decide (mkS (L t) = mkS []) from rfl, this]
    cases L t <;> rfl
  have en : neD (.str t) (.str "") = some (.bl (!(L t).isEmpty)) := by rw [neD_str hs (by decide +kernel), e0]
  have er : ∀ S, F__law_reserved fu rk [] S = .ok (.d (.lst (reservedL.map .str))) S := fun S => by
    unfold F__law_reserved M__law_reserved
    simp only [Z.fv_cons, Z.fv_nil, atI_0, atI_1, atI_2, atI_3, atI_4, ixNc_0, ixNc_1, ixNc_2, ixNc_3, mo_bind, mo_pure, bind_ok, bind_exc, bind_stuck, Z.getV, Z.putV, Z.putOwn, Z.putBox, Z.rdOwn, Z.ownAt, Z.seqM, Z.asgM, Z.ifM, Z.andM, Z.orM, Z.notM, Z.asB, Z.bin2, Z.un1, Z.ofO, Z.ofS, Z.ixM, Z.blt1M, Z.blt1O, Z.deref, Z.slM, Z.slMU, Z.partM, Z.tupM, Z.lstM, Z.catM, Z.argsM, Z.callM, Z.callMU, Z.callF, Z.callU, Z.truM, Z.setIxM, Z.putIx, Z.augM, Z.fin, Z.fr0, Z.funM, Z.ltD, Z.leD, Z.gtD, Z.geD, Z.iiD, Z.iiC, Z.subD, Z.intD, List.getElem?_map, List.length_map, List.getElem?_cons_zero, List.getElem?_cons_succ, List.set_cons_zero, List.set_cons_succ, List.cons_append, List.nil_append, List.append_nil, List.replicate_succ, List.replicate_zero, if_true, if_false, Bool.false_eq_true, Option.bind_some, Option.map_some, Option.bind_none, Option.map_none, Bool.not_true, Bool.not_false, Z.turnM, Z.tgTup, Z.tgCons, Z.tgNil, Z.appM, Z.extM, Z.parM, List.length_cons, List.length_nil]
    rfl
  obtain ⟨ys, S', h1, h2, h3⟩ := lc_ind (vs := [1]) (f := putV 1) (me := bin2 (getV 1) (pure (.str "abcdefghijklmnopqrstuvwxyz")) inD) (w0 := [.val (.str t), .un]) (fun i acc S' => acc = ((L t).take i).map (fun c => D.bl (isLt c)) ∧ S' = S) ((L t).map fun c => .str (mkS [c])) 0 [] [.val (.str t), .un] S
    (fun j d acc S'' e hi => by
      obtain ⟨e1, e2⟩ := hi
      subst e1
      subst e2
      rw [List.getElem?_map] at e
      cases hj : (L t)[j]? with
      | none => rw [hj] at e; cases e
      | some c =>
        rw [hj] at e
        cases e
        refine ⟨[.val (.str t), .val (.str (mkS [c]))], [.val (.str t), .val (.str (mkS [c]))], .bl (isLt c), S'', rfl, ?_, rfl, ⟨?_, rfl⟩, ?_⟩
        · simp only [Z.fv_cons, Z.fv_nil, atI_0, atI_1, atI_2, atI_3, atI_4, ixNc_0, ixNc_1, ixNc_2, ixNc_3, mo_bind, mo_pure, bind_ok, bind_exc, bind_stuck, Z.getV, Z.putV, Z.putOwn, Z.putBox, Z.rdOwn, Z.ownAt, Z.seqM, Z.asgM, Z.ifM, Z.andM, Z.orM, Z.notM, Z.asB, Z.bin2, Z.un1, Z.ofO, Z.ofS, Z.ixM, Z.blt1M, Z.blt1O, Z.deref, Z.slM, Z.slMU, Z.partM, Z.tupM, Z.lstM, Z.catM, Z.argsM, Z.callM, Z.callMU, Z.callF, Z.callU, Z.truM, Z.setIxM, Z.putIx, Z.augM, Z.fin, Z.fr0, Z.funM, Z.ltD, Z.leD, Z.gtD, Z.geD, Z.iiD, Z.iiC, Z.subD, Z.intD, List.getElem?_map, List.length_map, List.getElem?_cons_zero, List.getElem?_cons_succ, List.set_cons_zero, List.set_cons_succ, List.cons_append, List.nil_append, List.append_nil, List.replicate_succ, List.replicate_zero, if_true, if_false, Bool.false_eq_true, Option.bind_some, Option.map_some, Option.bind_none, Option.map_none, Bool.not_true, Bool.not_false, Z.turnM, Z.tgTup, Z.tgCons, Z.tgNil, Z.appM, Z.extM, Z.parM, List.length_cons, List.length_nil, inD_let]
        · rw [Nat.zero_add, List.take_succ, hj]
          simp
        · rw [List.length_map, List.length_take, sizeLine_eq]
          omega) rfl ⟨by simp, rfl⟩
  subst h2
  subst h3
  rw [List.length_map, Nat.zero_add, List.take_length] at h1
  obtain ⟨bs, b1, b2⟩ := all_ok (L t)
  have ea : allD (.lst ((L t).map fun c => D.bl (isLt c))) = some (.bl ((L t).all isLt)) := by
    show (blsOf _).map (fun bs => D.bl (bs.all fun b => b)) = _
    rw [← b2, b1]
    show some (D.bl _) = _
    rw [List.all_map]
    rfl
  have es : itS (.str t) = some ((L t).map fun c => .str (mkS [c])) := rfl
  have ni := notInD_lst t reservedL
  unfold F__law_is_word M__law_is_word
  cases z : (L t).isEmpty with
  | true =>
    rw [z] at en
    simp only [Z.fv_cons, Z.fv_nil, atI_0, atI_1, atI_2, atI_3, atI_4, ixNc_0, ixNc_1, ixNc_2, ixNc_3, mo_bind, mo_pure, bind_ok, bind_exc, bind_stuck, Z.getV, Z.putV, Z.putOwn, Z.putBox, Z.rdOwn, Z.ownAt, Z.seqM, Z.asgM, Z.ifM, Z.andM, Z.orM, Z.notM, Z.asB, Z.bin2, Z.un1, Z.ofO, Z.ofS, Z.ixM, Z.blt1M, Z.blt1O, Z.deref, Z.slM, Z.slMU, Z.partM, Z.tupM, Z.lstM, Z.catM, Z.argsM, Z.callM, Z.callMU, Z.callF, Z.callU, Z.truM, Z.setIxM, Z.putIx, Z.augM, Z.fin, Z.fr0, Z.funM, Z.ltD, Z.leD, Z.gtD, Z.geD, Z.iiD, Z.iiC, Z.subD, Z.intD, List.getElem?_map, List.length_map, List.getElem?_cons_zero, List.getElem?_cons_succ, List.set_cons_zero, List.set_cons_succ, List.cons_append, List.nil_append, List.append_nil, List.replicate_succ, List.replicate_zero, if_true, if_false, Bool.false_eq_true, Option.bind_some, Option.map_some, Option.bind_none, Option.map_none, Bool.not_true, Bool.not_false, Z.turnM, Z.tgTup, Z.tgCons, Z.tgNil, Z.appM, Z.extM, Z.parM, List.length_cons, List.length_nil, andV, en, isWd, z, Bool.false_and]
  | false =>
    rw [z] at en
    simp only [Z.fv_cons, Z.fv_nil, atI_0, atI_1, atI_2, atI_3, atI_4, ixNc_0, ixNc_1, ixNc_2, ixNc_3, mo_bind, mo_pure, bind_ok, bind_exc, bind_stuck, Z.getV, Z.putV, Z.putOwn, Z.putBox, Z.rdOwn, Z.ownAt, Z.seqM, Z.asgM, Z.ifM, Z.andM, Z.orM, Z.notM, Z.asB, Z.bin2, Z.un1, Z.ofO, Z.ofS, Z.ixM, Z.blt1M, Z.blt1O, Z.deref, Z.slM, Z.slMU, Z.partM, Z.tupM, Z.lstM, Z.catM, Z.argsM, Z.callM, Z.callMU, Z.callF, Z.callU, Z.truM, Z.setIxM, Z.putIx, Z.augM, Z.fin, Z.fr0, Z.funM, Z.ltD, Z.leD, Z.gtD, Z.geD, Z.iiD, Z.iiC, Z.subD, Z.intD, List.getElem?_map, List.length_map, List.getElem?_cons_zero, List.getElem?_cons_succ, List.set_cons_zero, List.set_cons_succ, List.cons_append, List.nil_append, List.append_nil, List.replicate_succ, List.replicate_zero, if_true, if_false, Bool.false_eq_true, Option.bind_some, Option.map_some, Option.bind_none, Option.map_none, Bool.not_true, Bool.not_false, Z.turnM, Z.tgTup, Z.tgCons, Z.tgNil, Z.appM, Z.extM, Z.parM, List.length_cons, List.length_nil] at h1
    cases z2 : (L t).all isLt with
    | true =>
      rw [z2] at ea
      simp only [Z.fv_cons, Z.fv_nil, atI_0, atI_1, atI_2, atI_3, atI_4, ixNc_0, ixNc_1, ixNc_2, ixNc_3, mo_bind, mo_pure, bind_ok, bind_exc, bind_stuck, Z.getV, Z.putV, Z.putOwn, Z.putBox, Z.rdOwn, Z.ownAt, Z.seqM, Z.asgM, Z.ifM, Z.andM, Z.orM, Z.notM, Z.asB, Z.bin2, Z.un1, Z.ofO, Z.ofS, Z.ixM, Z.blt1M, Z.blt1O, Z.deref, Z.slM, Z.slMU, Z.partM, Z.tupM, Z.lstM, Z.catM, Z.argsM, Z.callM, Z.callMU, Z.callF, Z.callU, Z.truM, Z.setIxM, Z.putIx, Z.augM, Z.fin, Z.fr0, Z.funM, Z.ltD, Z.leD, Z.gtD, Z.geD, Z.iiD, Z.iiC, Z.subD, Z.intD, List.getElem?_map, List.length_map, List.getElem?_cons_zero, List.getElem?_cons_succ, List.set_cons_zero, List.set_cons_succ, List.cons_append, List.nil_append, List.append_nil, List.replicate_succ, List.replicate_zero, if_true, if_false, Bool.false_eq_true, Option.bind_some, Option.map_some, Option.bind_none, Option.map_none, Bool.not_true, Bool.not_false, Z.turnM, Z.tgTup, Z.tgCons, Z.tgNil, Z.appM, Z.extM, Z.parM, List.length_cons, List.length_nil, andV, en, es, lcM, h1, ea, er, ni, isWd, z, z2, Bool.true_and]
    | false =>
      rw [z2] at ea
      simp only [Z.fv_cons, Z.fv_nil, atI_0, atI_1, atI_2, atI_3, atI_4, ixNc_0, ixNc_1, ixNc_2, ixNc_3, mo_bind, mo_pure, bind_ok, bind_exc, bind_stuck, Z.getV, Z.putV, Z.putOwn, Z.putBox, Z.rdOwn, Z.ownAt, Z.seqM, Z.asgM, Z.ifM, Z.andM, Z.orM, Z.notM, Z.asB, Z.bin2, Z.un1, Z.ofO, Z.ofS, Z.ixM, Z.blt1M, Z.blt1O, Z.deref, Z.slM, Z.slMU, Z.partM, Z.tupM, Z.lstM, Z.catM, Z.argsM, Z.callM, Z.callMU, Z.callF, Z.callU, Z.truM, Z.setIxM, Z.putIx, Z.augM, Z.fin, Z.fr0, Z.funM, Z.ltD, Z.leD, Z.gtD, Z.geD, Z.iiD, Z.iiC, Z.subD, Z.intD, List.getElem?_map, List.length_map, List.getElem?_cons_zero, List.getElem?_cons_succ, List.set_cons_zero, List.set_cons_succ, List.cons_append, List.nil_append, List.append_nil, List.replicate_succ, List.replicate_zero, if_true, if_false, Bool.false_eq_true, Option.bind_some, Option.map_some, Option.bind_none, Option.map_none, Bool.not_true, Bool.not_false, Z.turnM, Z.tgTup, Z.tgCons, Z.tgNil, Z.appM, Z.extM, Z.parM, List.length_cons, List.length_nil, andV, en, es, lcM, h1, ea, er, ni, isWd, z, z2, Bool.and_false, Bool.false_and]
end K70
set_option Elab.async false
set_option linter.all false
set_option maxRecDepth 100000
set_option maxHeartbeats 4000000
/-! Y21: the law's reader reads as the plain one. -/
namespace Z
open PySem L2
theorem seqM_nx {a b : Mo Fl} {fr fr' : List Sl} {S S' : List Ob} (h : a fr S = .ok .nx fr' S') : seqM a b fr S = b fr' S' := by
  show Rs.bind (a fr S) _ = _
  rw [h]
  rfl
theorem seqM_rt {a b : Mo Fl} {fr fr' : List Sl} {S S' : List Ob} {v : RV} (h : a fr S = .ok (.rt v) fr' S') : seqM a b fr S = .ok (.rt v) fr' S' := by
  show Rs.bind (a fr S) _ = _
  rw [h]
  rfl
theorem seqM_exc {a b : Mo Fl} {fr fr' : List Sl} {S S' : List Ob} {x : Ex} (h : a fr S = .exc x fr' S') : seqM a b fr S = .exc x fr' S' := by
  show Rs.bind (a fr S) _ = _
  rw [h]
  rfl
theorem ix3_1 : ixN (0 + 1 + 1 + 1) 1 = some 1 := ixN_nat (i := 1) (by omega)
theorem ix3_2 : ixN (0 + 1 + 1 + 1) 2 = some 2 := ixN_nat (i := 2) (by omega)
theorem set_get {S : List Ob} {r : Nat} {o o' : Ob} (h : S[r]? = some o) : (S.set r o')[r]? = some o' := List.getElem?_set_self (List.getElem?_eq_some_iff.mp h).1
theorem st_same {S : List Ob} {r : Nat} {o : Ob} (h : S[r]? = some o) : S.set r o = S := by
  apply List.ext_getElem?
  intro i
  by_cases z : r = i
  · subst z; rw [set_get h, h]
  · rw [List.getElem?_set_ne z]
end Z
namespace K70
open PySem L2 Z
def trD : Tr → D
  | .word k => .lst [.str "word", .int k]
  | .to l r => .lst [.str "to", trD l, trD r]
section
variable {fu rk r : Nat} {S : List Ob} {ts : List Str} {p : Nat}
theorem stop_neg (h : S[r]? = some (RS ts p (-1))) : F__law_stop fu rk [.ptr r] S = .ok (.d .non) (S.set r (RS ts p p)) := by
  have e : decide ((-1 : Int) < 0) = true := by decide
  unfold F__law_stop M__law_stop
  simp only [Z.fv_cons, Z.fv_nil, atI_0, atI_1, atI_2, atI_3, atI_4, ixNc_0, ixNc_1, ixNc_2, ixNc_3, mo_bind, mo_pure, bind_ok, bind_exc, bind_stuck, Z.getV, Z.putV, Z.putOwn, Z.putBox, Z.rdOwn, Z.ownAt, Z.seqM, Z.asgM, Z.ifM, Z.andM, Z.orM, Z.notM, Z.asB, Z.bin2, Z.un1, Z.ofO, Z.ofS, Z.ixM, Z.blt1M, Z.blt1O, Z.deref, Z.slM, Z.slMU, Z.partM, Z.tupM, Z.lstM, Z.catM, Z.argsM, Z.callM, Z.callMU, Z.callF, Z.callU, Z.truM, Z.setIxM, Z.putIx, Z.augM, Z.fin, Z.fr0, Z.funM, Z.ltD, Z.leD, Z.gtD, Z.geD, Z.iiD, Z.iiC, Z.subD, Z.intD, List.getElem?_map, List.length_map, List.getElem?_cons_zero, List.getElem?_cons_succ, List.set_cons_zero, List.set_cons_succ, List.cons_append, List.nil_append, List.append_nil, List.replicate_succ, List.replicate_zero, if_true, if_false, Bool.false_eq_true, Option.bind_some, Option.map_some, Option.bind_none, Option.map_none, Bool.not_true, Bool.not_false, Z.turnM, Z.tgTup, Z.tgCons, Z.tgNil, Z.appM, Z.extM, Z.parM, List.length_cons, List.length_nil, ix3_1, ix3_2, ixS, atI_natZ, h, e]
theorem stop_pos {q : Nat} (h : S[r]? = some (RS ts p q)) : F__law_stop fu rk [.ptr r] S = .ok (.d .non) S := by
  have e : decide ((q : Int) < 0) = false := by rw [decide_eq_false_iff_not]; omega
  unfold F__law_stop M__law_stop
  simp only [Z.fv_cons, Z.fv_nil, atI_0, atI_1, atI_2, atI_3, atI_4, ixNc_0, ixNc_1, ixNc_2, ixNc_3, mo_bind, mo_pure, bind_ok, bind_exc, bind_stuck, Z.getV, Z.putV, Z.putOwn, Z.putBox, Z.rdOwn, Z.ownAt, Z.seqM, Z.asgM, Z.ifM, Z.andM, Z.orM, Z.notM, Z.asB, Z.bin2, Z.un1, Z.ofO, Z.ofS, Z.ixM, Z.blt1M, Z.blt1O, Z.deref, Z.slM, Z.slMU, Z.partM, Z.tupM, Z.lstM, Z.catM, Z.argsM, Z.callM, Z.callMU, Z.callF, Z.callU, Z.truM, Z.setIxM, Z.putIx, Z.augM, Z.fin, Z.fr0, Z.funM, Z.ltD, Z.leD, Z.gtD, Z.geD, Z.iiD, Z.iiC, Z.subD, Z.intD, List.getElem?_map, List.length_map, List.getElem?_cons_zero, List.getElem?_cons_succ, List.set_cons_zero, List.set_cons_succ, List.cons_append, List.nil_append, List.append_nil, List.replicate_succ, List.replicate_zero, if_true, if_false, Bool.false_eq_true, Option.bind_some, Option.map_some, Option.bind_none, Option.map_none, Bool.not_true, Bool.not_false, Z.turnM, Z.tgTup, Z.tgCons, Z.tgNil, Z.appM, Z.extM, Z.parM, List.length_cons, List.length_nil, ix3_1, ix3_2, ixS, atI_natZ, h, e]
theorem sign_yes {s : Str} (h : S[r]? = some (RS ts p (-1))) (hs : sk (pk ts p) = true) (hk : sk s = true) (e : decide (pk ts p = s) = true) : F__law_sign fu rk [.ptr r, .str s] S = .ok (.d (.bl true)) (S.set r (RS ts ((p + 1 : Nat) : Int) (-1))) := by
  have e1 : decide ((0 : Int) ≤ -1) = false := by decide
  have e2 := peek_ok (fu := fu) (rk := rk) h
  have e3 : neD (.str (pk ts p)) (.str s) = some (.bl false) := by rw [neD_str hs hk, e]; rfl
  unfold F__law_sign M__law_sign
  simp only [Z.fv_cons, Z.fv_nil, atI_0, atI_1, atI_2, atI_3, atI_4, ixNc_0, ixNc_1, ixNc_2, ixNc_3, mo_bind, mo_pure, bind_ok, bind_exc, bind_stuck, Z.getV, Z.putV, Z.putOwn, Z.putBox, Z.rdOwn, Z.ownAt, Z.seqM, Z.asgM, Z.ifM, Z.andM, Z.orM, Z.notM, Z.asB, Z.bin2, Z.un1, Z.ofO, Z.ofS, Z.ixM, Z.blt1M, Z.blt1O, Z.deref, Z.slM, Z.slMU, Z.partM, Z.tupM, Z.lstM, Z.catM, Z.argsM, Z.callM, Z.callMU, Z.callF, Z.callU, Z.truM, Z.setIxM, Z.putIx, Z.augM, Z.fin, Z.fr0, Z.funM, Z.ltD, Z.leD, Z.gtD, Z.geD, Z.iiD, Z.iiC, Z.subD, Z.intD, List.getElem?_map, List.length_map, List.getElem?_cons_zero, List.getElem?_cons_succ, List.set_cons_zero, List.set_cons_succ, List.cons_append, List.nil_append, List.append_nil, List.replicate_succ, List.replicate_zero, if_true, if_false, Bool.false_eq_true, Option.bind_some, Option.map_some, Option.bind_none, Option.map_none, Bool.not_true, Bool.not_false, Z.turnM, Z.tgTup, Z.tgCons, Z.tgNil, Z.appM, Z.extM, Z.parM, List.length_cons, List.length_nil, ix3_1, ix3_2, ixS, atI_natZ, h, e1, e2, e3, add_ii]
  rfl
theorem sign_no {s : Str} (h : S[r]? = some (RS ts p (-1))) (hs : sk (pk ts p) = true) (hk : sk s = true) (e : decide (pk ts p = s) = false) : F__law_sign fu rk [.ptr r, .str s] S = .ok (.d (.bl false)) (S.set r (RS ts p p)) := by
  have e1 : decide ((0 : Int) ≤ -1) = false := by decide
  have e2 := peek_ok (fu := fu) (rk := rk) h
  have e3 : neD (.str (pk ts p)) (.str s) = some (.bl true) := by rw [neD_str hs hk, e]; rfl
  have e4 := stop_neg (fu := fu) (rk := rk) h
  unfold F__law_sign M__law_sign
  simp only [Z.fv_cons, Z.fv_nil, atI_0, atI_1, atI_2, atI_3, atI_4, ixNc_0, ixNc_1, ixNc_2, ixNc_3, mo_bind, mo_pure, bind_ok, bind_exc, bind_stuck, Z.getV, Z.putV, Z.putOwn, Z.putBox, Z.rdOwn, Z.ownAt, Z.seqM, Z.asgM, Z.ifM, Z.andM, Z.orM, Z.notM, Z.asB, Z.bin2, Z.un1, Z.ofO, Z.ofS, Z.ixM, Z.blt1M, Z.blt1O, Z.deref, Z.slM, Z.slMU, Z.partM, Z.tupM, Z.lstM, Z.catM, Z.argsM, Z.callM, Z.callMU, Z.callF, Z.callU, Z.truM, Z.setIxM, Z.putIx, Z.augM, Z.fin, Z.fr0, Z.funM, Z.ltD, Z.leD, Z.gtD, Z.geD, Z.iiD, Z.iiC, Z.subD, Z.intD, List.getElem?_map, List.length_map, List.getElem?_cons_zero, List.getElem?_cons_succ, List.set_cons_zero, List.set_cons_succ, List.cons_append, List.nil_append, List.append_nil, List.replicate_succ, List.replicate_zero, if_true, if_false, Bool.false_eq_true, Option.bind_some, Option.map_some, Option.bind_none, Option.map_none, Bool.not_true, Bool.not_false, Z.turnM, Z.tgTup, Z.tgCons, Z.tgNil, Z.appM, Z.extM, Z.parM, List.length_cons, List.length_nil, ix3_1, ix3_2, ixS, atI_natZ, h, e1, e2, e3, e4]
theorem sign_off {s : Str} {q : Nat} (h : S[r]? = some (RS ts p q)) : F__law_sign fu rk [.ptr r, .str s] S = .ok (.d (.bl false)) S := by
  have e1 : decide ((0 : Int) ≤ q) = true := by rw [decide_eq_true_eq]; omega
  have e4 := stop_pos (fu := fu) (rk := rk) h
  unfold F__law_sign M__law_sign
  simp only [Z.fv_cons, Z.fv_nil, atI_0, atI_1, atI_2, atI_3, atI_4, ixNc_0, ixNc_1, ixNc_2, ixNc_3, mo_bind, mo_pure, bind_ok, bind_exc, bind_stuck, Z.getV, Z.putV, Z.putOwn, Z.putBox, Z.rdOwn, Z.ownAt, Z.seqM, Z.asgM, Z.ifM, Z.andM, Z.orM, Z.notM, Z.asB, Z.bin2, Z.un1, Z.ofO, Z.ofS, Z.ixM, Z.blt1M, Z.blt1O, Z.deref, Z.slM, Z.slMU, Z.partM, Z.tupM, Z.lstM, Z.catM, Z.argsM, Z.callM, Z.callMU, Z.callF, Z.callU, Z.truM, Z.setIxM, Z.putIx, Z.augM, Z.fin, Z.fr0, Z.funM, Z.ltD, Z.leD, Z.gtD, Z.geD, Z.iiD, Z.iiC, Z.subD, Z.intD, List.getElem?_map, List.length_map, List.getElem?_cons_zero, List.getElem?_cons_succ, List.set_cons_zero, List.set_cons_succ, List.cons_append, List.nil_append, List.append_nil, List.replicate_succ, List.replicate_zero, if_true, if_false, Bool.false_eq_true, Option.bind_some, Option.map_some, Option.bind_none, Option.map_none, Bool.not_true, Bool.not_false, Z.turnM, Z.tgTup, Z.tgCons, Z.tgNil, Z.appM, Z.extM, Z.parM, List.length_cons, List.length_nil, ix3_1, ix3_2, ixS, atI_natZ, h, e1, e4]
theorem pk_len (hT : ∀ t ∈ ts, ST t) (p : Nat) : (L (pk ts p)).length ≤ 1000 := by
  unfold pk
  rw [List.getD_eq_getElem?_getD]
  cases e : ts[p]? with
  | none => show (L "").length ≤ 1000; decide +kernel
  | some t =>
    have := (hT t (List.mem_of_getElem? e)).2
    show (L t).length ≤ 1000
    omega
theorem pk_wd (ts : List Str) (p : Nat) : decide (kd (pk ts p) = wdS) = decide (kAt ts p = wdS) := by
  rw [decide_eq_decide]
  unfold pk kAt
  rw [List.getD_eq_getElem?_getD]
  cases ts[p]? with
  | none => exact ⟨fun h => absurd h (by decide +kernel), fun h => absurd h (by decide +kernel)⟩
  | some t => exact Iff.rfl
theorem word_yes (hT : ∀ t ∈ ts, ST t) (h : S[r]? = some (RS ts p (-1))) (e : kAt ts p = wdS) : F__law_word fu rk [.ptr r] S = .ok (.d (.int p)) (S.set r (RS ts ((p + 1 : Nat) : Int) (-1))) := by
  have e1 : decide ((0 : Int) ≤ -1) = false := by decide
  have e2 := peek_ok (fu := fu) (rk := rk) h
  have e3 := is_word_ok (fu := fu) (rk := rk) (S := S) (pk_sk hT p) (pk_len hT p)
  rw [pk_wd, decide_eq_true e] at e3
  have e5 := set_get (o' := RS ts ((p + 1 : Nat) : Int) (-1)) h
  have e6 : ((p : Int) + 1) = ((p + 1 : Nat) : Int) := rfl
  have e7 : (((p + 1 : Nat) : Int) - 1) = (p : Int) := by omega
  unfold F__law_word M__law_word
  simp only [Z.fv_cons, Z.fv_nil, atI_0, atI_1, atI_2, atI_3, atI_4, ixNc_0, ixNc_1, ixNc_2, ixNc_3, mo_bind, mo_pure, bind_ok, bind_exc, bind_stuck, Z.getV, Z.putV, Z.putOwn, Z.putBox, Z.rdOwn, Z.ownAt, Z.seqM, Z.asgM, Z.ifM, Z.andM, Z.orM, Z.notM, Z.asB, Z.bin2, Z.un1, Z.ofO, Z.ofS, Z.ixM, Z.blt1M, Z.blt1O, Z.deref, Z.slM, Z.slMU, Z.partM, Z.tupM, Z.lstM, Z.catM, Z.argsM, Z.callM, Z.callMU, Z.callF, Z.callU, Z.truM, Z.setIxM, Z.putIx, Z.augM, Z.fin, Z.fr0, Z.funM, Z.ltD, Z.leD, Z.gtD, Z.geD, Z.iiD, Z.iiC, Z.subD, Z.intD, List.getElem?_map, List.length_map, List.getElem?_cons_zero, List.getElem?_cons_succ, List.set_cons_zero, List.set_cons_succ, List.cons_append, List.nil_append, List.append_nil, List.replicate_succ, List.replicate_zero, if_true, if_false, Bool.false_eq_true, Option.bind_some, Option.map_some, Option.bind_none, Option.map_none, Bool.not_true, Bool.not_false, Z.turnM, Z.tgTup, Z.tgCons, Z.tgNil, Z.appM, Z.extM, Z.parM, List.length_cons, List.length_nil, ix3_1, ix3_2, ixS, atI_natZ, h, e1, e2, e3, add_ii, e6, e5, e7, Z.truD]
theorem word_no (hT : ∀ t ∈ ts, ST t) (h : S[r]? = some (RS ts p (-1))) (e : ¬kAt ts p = wdS) : F__law_word fu rk [.ptr r] S = .ok (.d (.int 0)) (S.set r (RS ts p p)) := by
  have e1 : decide ((0 : Int) ≤ -1) = false := by decide
  have e2 := peek_ok (fu := fu) (rk := rk) h
  have e3 := is_word_ok (fu := fu) (rk := rk) (S := S) (pk_sk hT p) (pk_len hT p)
  rw [pk_wd, decide_eq_false e] at e3
  have e4 := stop_neg (fu := fu) (rk := rk) h
  unfold F__law_word M__law_word
  simp only [Z.fv_cons, Z.fv_nil, atI_0, atI_1, atI_2, atI_3, atI_4, ixNc_0, ixNc_1, ixNc_2, ixNc_3, mo_bind, mo_pure, bind_ok, bind_exc, bind_stuck, Z.getV, Z.putV, Z.putOwn, Z.putBox, Z.rdOwn, Z.ownAt, Z.seqM, Z.asgM, Z.ifM, Z.andM, Z.orM, Z.notM, Z.asB, Z.bin2, Z.un1, Z.ofO, Z.ofS, Z.ixM, Z.blt1M, Z.blt1O, Z.deref, Z.slM, Z.slMU, Z.partM, Z.tupM, Z.lstM, Z.catM, Z.argsM, Z.callM, Z.callMU, Z.callF, Z.callU, Z.truM, Z.setIxM, Z.putIx, Z.augM, Z.fin, Z.fr0, Z.funM, Z.ltD, Z.leD, Z.gtD, Z.geD, Z.iiD, Z.iiC, Z.subD, Z.intD, List.getElem?_map, List.length_map, List.getElem?_cons_zero, List.getElem?_cons_succ, List.set_cons_zero, List.set_cons_succ, List.cons_append, List.nil_append, List.append_nil, List.replicate_succ, List.replicate_zero, if_true, if_false, Bool.false_eq_true, Option.bind_some, Option.map_some, Option.bind_none, Option.map_none, Bool.not_true, Bool.not_false, Z.turnM, Z.tgTup, Z.tgCons, Z.tgNil, Z.appM, Z.extM, Z.parM, List.length_cons, List.length_nil, ix3_1, ix3_2, ixS, atI_natZ, h, e1, e2, e3, e4, Z.truD]
end
/-- what the law's reader does where the plain one gives x -/
def LR (ts : List Str) (r : Nat) (x : PR) (S : List Ob) (y : RF) : Prop := match x with
  | .ok t p => y = .ok (.d (trD t)) (S.set r (RS ts p (-1)))
  | .stop q => ∃ d, y = .ok (.d d) (S.set r (RS ts q q))
  | .deep => True
def rdT (ts : List Str) (f : Nat → PR) (l : Tr) (p : Nat) : PR :=
  if kAt ts p = arS then
    match f (p + 1) with
    | .ok r p2 => .ok (.to l r) p2
    | .stop q => .stop q
    | .deep => .deep
  else .ok l p
theorem rd_succ (ts : List Str) (k p : Nat) : rd ts (k + 1) p = match rdL ts (rd ts k) p with
    | .ok l p' => rdT ts (rd ts k) l p'
    | .stop q => .stop q
    | .deep => .deep := rfl
section
variable {fu rk r : Nat} {ts : List Str} {f : Nat → PR} {r__law_read_type : Fm}
theorem lr_left (hT : ∀ t ∈ ts, ST t) (ih : ∀ (p : Nat) (S : List Ob), S[r]? = some (RS ts p (-1)) → LR ts r (f p) S (r__law_read_type [.ptr r] S)) (p : Nat) (S : List Ob) (h : S[r]? = some (RS ts p (-1))) :
    match rdL ts f p with
    | .ok t p' => (ifM (asB (bin2 (callM (F__law_peek fu rk) [(getV 0)] []) (pure (.str "(")) eqD)) (seqM ((callM (F__law_sign fu rk) [(getV 0), (pure (.str "("))] []) >>= fun _ => pure .nx)
    (seqM (asgM (callM r__law_read_type [(getV 0)] []) (putV 1))
    ((callM (F__law_sign fu rk) [(getV 0), (pure (.str ")"))] []) >>= fun _ => pure .nx))) (asgM (lstM (argsM [(pure (.str "word")), (callM (F__law_word fu rk) [(getV 0)] [])])) (putV 1))) [.val (.ptr r), .un, .un] S = .ok .nx [.val (.ptr r), .val (trD t), .un] (S.set r (RS ts p' (-1)))
    | .stop q => ∃ d, (ifM (asB (bin2 (callM (F__law_peek fu rk) [(getV 0)] []) (pure (.str "(")) eqD)) (seqM ((callM (F__law_sign fu rk) [(getV 0), (pure (.str "("))] []) >>= fun _ => pure .nx)
    (seqM (asgM (callM r__law_read_type [(getV 0)] []) (putV 1))
    ((callM (F__law_sign fu rk) [(getV 0), (pure (.str ")"))] []) >>= fun _ => pure .nx))) (asgM (lstM (argsM [(pure (.str "word")), (callM (F__law_word fu rk) [(getV 0)] [])])) (putV 1))) [.val (.ptr r), .un, .un] S = .ok .nx [.val (.ptr r), .val d, .un] (S.set r (RS ts q q))
    | .deep => True := by
  have e2 := peek_ok (fu := fu) (rk := rk) h
  have e3 : eqD (.str (pk ts p)) (.str "(") = some (.bl (decide (kAt ts p = lpS))) := by
    rw [eqD_str (pk_sk hT p) (by decide +kernel), pk_kAt ts p lpS (fun t => kd_lp) (by decide +kernel)]
  unfold rdL
  by_cases h1 : kAt ts p = lpS
  · rw [if_pos h1]
    rw [decide_eq_true h1] at e3
    have e4 := sign_yes (fu := fu) (rk := rk) (s := "(") h (pk_sk hT p) (by decide +kernel) (by rw [pk_kAt ts p lpS (fun t => kd_lp) (by decide +kernel)]; exact decide_eq_true h1)
    have g1 := set_get (o' := RS ts ((p + 1 : Nat) : Int) (-1)) h
    have i := ih (p + 1) _ g1
    cases e : f (p + 1) with
    | deep => trivial
    | stop q =>
      rw [e] at i
      obtain ⟨d, i⟩ := i
      rw [List.set_set] at i
      have e5 := sign_off (fu := fu) (rk := rk) (s := ")") (set_get (o' := RS ts q q) h)
      refine ⟨d, ?_⟩
      simp only [Z.fv_cons, Z.fv_nil, atI_0, atI_1, atI_2, atI_3, atI_4, ixNc_0, ixNc_1, ixNc_2, ixNc_3, mo_bind, mo_pure, bind_ok, bind_exc, bind_stuck, Z.getV, Z.putV, Z.putOwn, Z.putBox, Z.rdOwn, Z.ownAt, Z.seqM, Z.asgM, Z.ifM, Z.andM, Z.orM, Z.notM, Z.asB, Z.bin2, Z.un1, Z.ofO, Z.ofS, Z.ixM, Z.blt1M, Z.blt1O, Z.deref, Z.slM, Z.slMU, Z.partM, Z.tupM, Z.lstM, Z.catM, Z.argsM, Z.callM, Z.callMU, Z.callF, Z.callU, Z.truM, Z.setIxM, Z.putIx, Z.augM, Z.fin, Z.fr0, Z.funM, Z.ltD, Z.leD, Z.gtD, Z.geD, Z.iiD, Z.iiC, Z.subD, Z.intD, List.getElem?_map, List.length_map, List.getElem?_cons_zero, List.getElem?_cons_succ, List.set_cons_zero, List.set_cons_succ, List.cons_append, List.nil_append, List.append_nil, List.replicate_succ, List.replicate_zero, if_true, if_false, Bool.false_eq_true, Option.bind_some, Option.map_some, Option.bind_none, Option.map_none, Bool.not_true, Bool.not_false, Z.turnM, Z.tgTup, Z.tgCons, Z.tgNil, Z.appM, Z.extM, Z.parM, List.length_cons, List.length_nil, e2, e3, e4, i, e5]
    | ok t p1 =>
      rw [e] at i
      have i' : r__law_read_type [.ptr r] (S.set r (RS ts ((p + 1 : Nat) : Int) (-1))) = .ok (.d (trD t)) ((S.set r (RS ts ((p + 1 : Nat) : Int) (-1))).set r (RS ts p1 (-1))) := i
      rw [List.set_set] at i'
      have g2 := set_get (o' := RS ts p1 (-1)) h
      dsimp only
      by_cases h2 : kAt ts p1 = rpS
      · rw [if_pos h2]
        have e5 := sign_yes (fu := fu) (rk := rk) (s := ")") g2 (pk_sk hT p1) (by decide +kernel) (by rw [pk_kAt ts p1 rpS (fun t => kd_rp) (by decide +kernel)]; exact decide_eq_true h2)
        rw [List.set_set] at e5
        simp only [Z.fv_cons, Z.fv_nil, atI_0, atI_1, atI_2, atI_3, atI_4, ixNc_0, ixNc_1, ixNc_2, ixNc_3, mo_bind, mo_pure, bind_ok, bind_exc, bind_stuck, Z.getV, Z.putV, Z.putOwn, Z.putBox, Z.rdOwn, Z.ownAt, Z.seqM, Z.asgM, Z.ifM, Z.andM, Z.orM, Z.notM, Z.asB, Z.bin2, Z.un1, Z.ofO, Z.ofS, Z.ixM, Z.blt1M, Z.blt1O, Z.deref, Z.slM, Z.slMU, Z.partM, Z.tupM, Z.lstM, Z.catM, Z.argsM, Z.callM, Z.callMU, Z.callF, Z.callU, Z.truM, Z.setIxM, Z.putIx, Z.augM, Z.fin, Z.fr0, Z.funM, Z.ltD, Z.leD, Z.gtD, Z.geD, Z.iiD, Z.iiC, Z.subD, Z.intD, List.getElem?_map, List.length_map, List.getElem?_cons_zero, List.getElem?_cons_succ, List.set_cons_zero, List.set_cons_succ, List.cons_append, List.nil_append, List.append_nil, List.replicate_succ, List.replicate_zero, if_true, if_false, Bool.false_eq_true, Option.bind_some, Option.map_some, Option.bind_none, Option.map_none, Bool.not_true, Bool.not_false, Z.turnM, Z.tgTup, Z.tgCons, Z.tgNil, Z.appM, Z.extM, Z.parM, List.length_cons, List.length_nil, e2, e3, e4, i', e5]
      · rw [if_neg h2]
        have e5 := sign_no (fu := fu) (rk := rk) (s := ")") g2 (pk_sk hT p1) (by decide +kernel) (by rw [pk_kAt ts p1 rpS (fun t => kd_rp) (by decide +kernel)]; exact decide_eq_false h2)
        rw [List.set_set] at e5
        refine ⟨trD t, ?_⟩
        simp only [Z.fv_cons, Z.fv_nil, atI_0, atI_1, atI_2, atI_3, atI_4, ixNc_0, ixNc_1, ixNc_2, ixNc_3, mo_bind, mo_pure, bind_ok, bind_exc, bind_stuck, Z.getV, Z.putV, Z.putOwn, Z.putBox, Z.rdOwn, Z.ownAt, Z.seqM, Z.asgM, Z.ifM, Z.andM, Z.orM, Z.notM, Z.asB, Z.bin2, Z.un1, Z.ofO, Z.ofS, Z.ixM, Z.blt1M, Z.blt1O, Z.deref, Z.slM, Z.slMU, Z.partM, Z.tupM, Z.lstM, Z.catM, Z.argsM, Z.callM, Z.callMU, Z.callF, Z.callU, Z.truM, Z.setIxM, Z.putIx, Z.augM, Z.fin, Z.fr0, Z.funM, Z.ltD, Z.leD, Z.gtD, Z.geD, Z.iiD, Z.iiC, Z.subD, Z.intD, List.getElem?_map, List.length_map, List.getElem?_cons_zero, List.getElem?_cons_succ, List.set_cons_zero, List.set_cons_succ, List.cons_append, List.nil_append, List.append_nil, List.replicate_succ, List.replicate_zero, if_true, if_false, Bool.false_eq_true, Option.bind_some, Option.map_some, Option.bind_none, Option.map_none, Bool.not_true, Bool.not_false, Z.turnM, Z.tgTup, Z.tgCons, Z.tgNil, Z.appM, Z.extM, Z.parM, List.length_cons, List.length_nil, e2, e3, e4, i', e5]
  · rw [if_neg h1]
    rw [decide_eq_false h1] at e3
    by_cases h2 : kAt ts p = wdS
    · rw [if_pos h2]
      have e4 := word_yes (fu := fu) (rk := rk) hT h h2
      simp only [Z.fv_cons, Z.fv_nil, atI_0, atI_1, atI_2, atI_3, atI_4, ixNc_0, ixNc_1, ixNc_2, ixNc_3, mo_bind, mo_pure, bind_ok, bind_exc, bind_stuck, Z.getV, Z.putV, Z.putOwn, Z.putBox, Z.rdOwn, Z.ownAt, Z.seqM, Z.asgM, Z.ifM, Z.andM, Z.orM, Z.notM, Z.asB, Z.bin2, Z.un1, Z.ofO, Z.ofS, Z.ixM, Z.blt1M, Z.blt1O, Z.deref, Z.slM, Z.slMU, Z.partM, Z.tupM, Z.lstM, Z.catM, Z.argsM, Z.callM, Z.callMU, Z.callF, Z.callU, Z.truM, Z.setIxM, Z.putIx, Z.augM, Z.fin, Z.fr0, Z.funM, Z.ltD, Z.leD, Z.gtD, Z.geD, Z.iiD, Z.iiC, Z.subD, Z.intD, List.getElem?_map, List.length_map, List.getElem?_cons_zero, List.getElem?_cons_succ, List.set_cons_zero, List.set_cons_succ, List.cons_append, List.nil_append, List.append_nil, List.replicate_succ, List.replicate_zero, if_true, if_false, Bool.false_eq_true, Option.bind_some, Option.map_some, Option.bind_none, Option.map_none, Bool.not_true, Bool.not_false, Z.turnM, Z.tgTup, Z.tgCons, Z.tgNil, Z.appM, Z.extM, Z.parM, List.length_cons, List.length_nil, e2, e3, e4, trD]
    · rw [if_neg h2]
      have e4 := word_no (fu := fu) (rk := rk) hT h h2
      refine ⟨.lst [.str "word", .int 0], ?_⟩
      simp only [Z.fv_cons, Z.fv_nil, atI_0, atI_1, atI_2, atI_3, atI_4, ixNc_0, ixNc_1, ixNc_2, ixNc_3, mo_bind, mo_pure, bind_ok, bind_exc, bind_stuck, Z.getV, Z.putV, Z.putOwn, Z.putBox, Z.rdOwn, Z.ownAt, Z.seqM, Z.asgM, Z.ifM, Z.andM, Z.orM, Z.notM, Z.asB, Z.bin2, Z.un1, Z.ofO, Z.ofS, Z.ixM, Z.blt1M, Z.blt1O, Z.deref, Z.slM, Z.slMU, Z.partM, Z.tupM, Z.lstM, Z.catM, Z.argsM, Z.callM, Z.callMU, Z.callF, Z.callU, Z.truM, Z.setIxM, Z.putIx, Z.augM, Z.fin, Z.fr0, Z.funM, Z.ltD, Z.leD, Z.gtD, Z.geD, Z.iiD, Z.iiC, Z.subD, Z.intD, List.getElem?_map, List.length_map, List.getElem?_cons_zero, List.getElem?_cons_succ, List.set_cons_zero, List.set_cons_succ, List.cons_append, List.nil_append, List.append_nil, List.replicate_succ, List.replicate_zero, if_true, if_false, Bool.false_eq_true, Option.bind_some, Option.map_some, Option.bind_none, Option.map_none, Bool.not_true, Bool.not_false, Z.turnM, Z.tgTup, Z.tgCons, Z.tgNil, Z.appM, Z.extM, Z.parM, List.length_cons, List.length_nil, e2, e3, e4]
theorem lr_off {q : Nat} {d : D} {S : List Ob} (h : S[r]? = some (RS ts q q)) : (seqM (ifM (asB (bin2 (ixM (getV 0) (pure (.int 2))) (pure (.int 0)) geD)) ((pure .non) >>= fun d => pure (.rt (.d d))) (pure .nx))
    (seqM (ifM (asB (bin2 (callM (F__law_peek fu rk) [(getV 0)] []) (pure (.str "->")) eqD)) (seqM ((callM (F__law_sign fu rk) [(getV 0), (pure (.str "->"))] []) >>= fun _ => pure .nx)
    (seqM (asgM (callM r__law_read_type [(getV 0)] []) (putV 2))
    ((lstM (argsM [(pure (.str "to")), (getV 1), (getV 2)])) >>= fun d => pure (.rt (.d d))))) (pure .nx))
    ((getV 1) >>= fun d => pure (.rt (.d d))))) [.val (.ptr r), .val d, .un] S = .ok (.rt (.d .non)) [.val (.ptr r), .val d, .un] S := by
  have e1 : decide ((0 : Int) ≤ q) = true := by rw [decide_eq_true_eq]; omega
  simp only [Z.fv_cons, Z.fv_nil, atI_0, atI_1, atI_2, atI_3, atI_4, ixNc_0, ixNc_1, ixNc_2, ixNc_3, mo_bind, mo_pure, bind_ok, bind_exc, bind_stuck, Z.getV, Z.putV, Z.putOwn, Z.putBox, Z.rdOwn, Z.ownAt, Z.seqM, Z.asgM, Z.ifM, Z.andM, Z.orM, Z.notM, Z.asB, Z.bin2, Z.un1, Z.ofO, Z.ofS, Z.ixM, Z.blt1M, Z.blt1O, Z.deref, Z.slM, Z.slMU, Z.partM, Z.tupM, Z.lstM, Z.catM, Z.argsM, Z.callM, Z.callMU, Z.callF, Z.callU, Z.truM, Z.setIxM, Z.putIx, Z.augM, Z.fin, Z.fr0, Z.funM, Z.ltD, Z.leD, Z.gtD, Z.geD, Z.iiD, Z.iiC, Z.subD, Z.intD, List.getElem?_map, List.length_map, List.getElem?_cons_zero, List.getElem?_cons_succ, List.set_cons_zero, List.set_cons_succ, List.cons_append, List.nil_append, List.append_nil, List.replicate_succ, List.replicate_zero, if_true, if_false, Bool.false_eq_true, Option.bind_some, Option.map_some, Option.bind_none, Option.map_none, Bool.not_true, Bool.not_false, Z.turnM, Z.tgTup, Z.tgCons, Z.tgNil, Z.appM, Z.extM, Z.parM, List.length_cons, List.length_nil, ix3_1, ix3_2, ixS, atI_natZ, h, e1]
theorem lr_tail (hT : ∀ t ∈ ts, ST t) (ih : ∀ (p : Nat) (S : List Ob), S[r]? = some (RS ts p (-1)) → LR ts r (f p) S (r__law_read_type [.ptr r] S)) (l : Tr) (p : Nat) (S : List Ob) (h : S[r]? = some (RS ts p (-1))) :
    LR ts r (rdT ts f l p) S (fin ((seqM (ifM (asB (bin2 (ixM (getV 0) (pure (.int 2))) (pure (.int 0)) geD)) ((pure .non) >>= fun d => pure (.rt (.d d))) (pure .nx))
    (seqM (ifM (asB (bin2 (callM (F__law_peek fu rk) [(getV 0)] []) (pure (.str "->")) eqD)) (seqM ((callM (F__law_sign fu rk) [(getV 0), (pure (.str "->"))] []) >>= fun _ => pure .nx)
    (seqM (asgM (callM r__law_read_type [(getV 0)] []) (putV 2))
    ((lstM (argsM [(pure (.str "to")), (getV 1), (getV 2)])) >>= fun d => pure (.rt (.d d))))) (pure .nx))
    ((getV 1) >>= fun d => pure (.rt (.d d))))) [.val (.ptr r), .val (trD l), .un] S)) := by
  have e0 : decide ((0 : Int) ≤ -1) = false := by decide
  have e2 := peek_ok (fu := fu) (rk := rk) h
  have e3 : eqD (.str (pk ts p)) (.str "->") = some (.bl (decide (kAt ts p = arS))) := by
    rw [eqD_str (pk_sk hT p) (by decide +kernel), pk_kAt ts p arS (fun t => kd_ar) (by decide +kernel)]
  unfold rdT
  by_cases h1 : kAt ts p = arS
  · rw [if_pos h1]
    rw [decide_eq_true h1] at e3
    have e4 := sign_yes (fu := fu) (rk := rk) (s := "->") h (pk_sk hT p) (by decide +kernel) (by rw [pk_kAt ts p arS (fun t => kd_ar) (by decide +kernel)]; exact decide_eq_true h1)
    have g1 := set_get (o' := RS ts ((p + 1 : Nat) : Int) (-1)) h
    have i := ih (p + 1) _ g1
    cases e : f (p + 1) with
    | deep => trivial
    | stop q =>
      rw [e] at i
      obtain ⟨d, i⟩ := i
      rw [List.set_set] at i
      refine ⟨.lst [.str "to", trD l, d], ?_⟩
      simp only [Z.fv_cons, Z.fv_nil, atI_0, atI_1, atI_2, atI_3, atI_4, ixNc_0, ixNc_1, ixNc_2, ixNc_3, mo_bind, mo_pure, bind_ok, bind_exc, bind_stuck, Z.getV, Z.putV, Z.putOwn, Z.putBox, Z.rdOwn, Z.ownAt, Z.seqM, Z.asgM, Z.ifM, Z.andM, Z.orM, Z.notM, Z.asB, Z.bin2, Z.un1, Z.ofO, Z.ofS, Z.ixM, Z.blt1M, Z.blt1O, Z.deref, Z.slM, Z.slMU, Z.partM, Z.tupM, Z.lstM, Z.catM, Z.argsM, Z.callM, Z.callMU, Z.callF, Z.callU, Z.truM, Z.setIxM, Z.putIx, Z.augM, Z.fin, Z.fr0, Z.funM, Z.ltD, Z.leD, Z.gtD, Z.geD, Z.iiD, Z.iiC, Z.subD, Z.intD, List.getElem?_map, List.length_map, List.getElem?_cons_zero, List.getElem?_cons_succ, List.set_cons_zero, List.set_cons_succ, List.cons_append, List.nil_append, List.append_nil, List.replicate_succ, List.replicate_zero, if_true, if_false, Bool.false_eq_true, Option.bind_some, Option.map_some, Option.bind_none, Option.map_none, Bool.not_true, Bool.not_false, Z.turnM, Z.tgTup, Z.tgCons, Z.tgNil, Z.appM, Z.extM, Z.parM, List.length_cons, List.length_nil, ix3_1, ix3_2, ixS, atI_natZ, h, e0, e2, e3, e4, i]
    | ok t p1 =>
      rw [e] at i
      have i' : r__law_read_type [.ptr r] (S.set r (RS ts ((p + 1 : Nat) : Int) (-1))) = .ok (.d (trD t)) ((S.set r (RS ts ((p + 1 : Nat) : Int) (-1))).set r (RS ts p1 (-1))) := i
      rw [List.set_set] at i'
      show _ = _
      simp only [Z.fv_cons, Z.fv_nil, atI_0, atI_1, atI_2, atI_3, atI_4, ixNc_0, ixNc_1, ixNc_2, ixNc_3, mo_bind, mo_pure, bind_ok, bind_exc, bind_stuck, Z.getV, Z.putV, Z.putOwn, Z.putBox, Z.rdOwn, Z.ownAt, Z.seqM, Z.asgM, Z.ifM, Z.andM, Z.orM, Z.notM, Z.asB, Z.bin2, Z.un1, Z.ofO, Z.ofS, Z.ixM, Z.blt1M, Z.blt1O, Z.deref, Z.slM, Z.slMU, Z.partM, Z.tupM, Z.lstM, Z.catM, Z.argsM, Z.callM, Z.callMU, Z.callF, Z.callU, Z.truM, Z.setIxM, Z.putIx, Z.augM, Z.fin, Z.fr0, Z.funM, Z.ltD, Z.leD, Z.gtD, Z.geD, Z.iiD, Z.iiC, Z.subD, Z.intD, List.getElem?_map, List.length_map, List.getElem?_cons_zero, List.getElem?_cons_succ, List.set_cons_zero, List.set_cons_succ, List.cons_append, List.nil_append, List.append_nil, List.replicate_succ, List.replicate_zero, if_true, if_false, Bool.false_eq_true, Option.bind_some, Option.map_some, Option.bind_none, Option.map_none, Bool.not_true, Bool.not_false, Z.turnM, Z.tgTup, Z.tgCons, Z.tgNil, Z.appM, Z.extM, Z.parM, List.length_cons, List.length_nil, ix3_1, ix3_2, ixS, atI_natZ, h, e0, e2, e3, e4, i', trD]
  · rw [if_neg h1]
    rw [decide_eq_false h1] at e3
    show _ = Z.RF.ok _ (S.set r (RS ts p (-1)))
    rw [st_same h]
    simp only [Z.fv_cons, Z.fv_nil, atI_0, atI_1, atI_2, atI_3, atI_4, ixNc_0, ixNc_1, ixNc_2, ixNc_3, mo_bind, mo_pure, bind_ok, bind_exc, bind_stuck, Z.getV, Z.putV, Z.putOwn, Z.putBox, Z.rdOwn, Z.ownAt, Z.seqM, Z.asgM, Z.ifM, Z.andM, Z.orM, Z.notM, Z.asB, Z.bin2, Z.un1, Z.ofO, Z.ofS, Z.ixM, Z.blt1M, Z.blt1O, Z.deref, Z.slM, Z.slMU, Z.partM, Z.tupM, Z.lstM, Z.catM, Z.argsM, Z.callM, Z.callMU, Z.callF, Z.callU, Z.truM, Z.setIxM, Z.putIx, Z.augM, Z.fin, Z.fr0, Z.funM, Z.ltD, Z.leD, Z.gtD, Z.geD, Z.iiD, Z.iiC, Z.subD, Z.intD, List.getElem?_map, List.length_map, List.getElem?_cons_zero, List.getElem?_cons_succ, List.set_cons_zero, List.set_cons_succ, List.cons_append, List.nil_append, List.append_nil, List.replicate_succ, List.replicate_zero, if_true, if_false, Bool.false_eq_true, Option.bind_some, Option.map_some, Option.bind_none, Option.map_none, Bool.not_true, Bool.not_false, Z.turnM, Z.tgTup, Z.tgCons, Z.tgNil, Z.appM, Z.extM, Z.parM, List.length_cons, List.length_nil, ix3_1, ix3_2, ixS, atI_natZ, h, e0, e2, e3]
end
theorem lr_ok {fu rk r : Nat} {ts : List Str} (hT : ∀ t ∈ ts, ST t) : ∀ (k p : Nat) (S : List Ob), S[r]? = some (RS ts p (-1)) → LR ts r (rd ts k p) S (F__law_read_type fu rk k [.ptr r] S)
  | 0, _, _, _ => trivial
  | k + 1, p, S, h => by
    have e0 : decide ((0 : Int) ≤ -1) = false := by decide
    have ih := lr_ok (fu := fu) (rk := rk) (r := r) hT k
    have hA : (fun (r__law_read_type : Fm) => ((ifM (asB (bin2 (ixM (getV 0) (pure (.int 2))) (pure (.int 0)) geD)) ((pure .non) >>= fun d => pure (.rt (.d d))) (pure .nx)) : Mo Fl)) (F__law_read_type fu rk k) [.val (.ptr r), .un, .un] S = .ok .nx [.val (.ptr r), .un, .un] S := by
      simp only [Z.fv_cons, Z.fv_nil, atI_0, atI_1, atI_2, atI_3, atI_4, ixNc_0, ixNc_1, ixNc_2, ixNc_3, mo_bind, mo_pure, bind_ok, bind_exc, bind_stuck, Z.getV, Z.putV, Z.putOwn, Z.putBox, Z.rdOwn, Z.ownAt, Z.seqM, Z.asgM, Z.ifM, Z.andM, Z.orM, Z.notM, Z.asB, Z.bin2, Z.un1, Z.ofO, Z.ofS, Z.ixM, Z.blt1M, Z.blt1O, Z.deref, Z.slM, Z.slMU, Z.partM, Z.tupM, Z.lstM, Z.catM, Z.argsM, Z.callM, Z.callMU, Z.callF, Z.callU, Z.truM, Z.setIxM, Z.putIx, Z.augM, Z.fin, Z.fr0, Z.funM, Z.ltD, Z.leD, Z.gtD, Z.geD, Z.iiD, Z.iiC, Z.subD, Z.intD, List.getElem?_map, List.length_map, List.getElem?_cons_zero, List.getElem?_cons_succ, List.set_cons_zero, List.set_cons_succ, List.cons_append, List.nil_append, List.append_nil, List.replicate_succ, List.replicate_zero, if_true, if_false, Bool.false_eq_true, Option.bind_some, Option.map_some, Option.bind_none, Option.map_none, Bool.not_true, Bool.not_false, Z.turnM, Z.tgTup, Z.tgCons, Z.tgNil, Z.appM, Z.extM, Z.parM, List.length_cons, List.length_nil, ix3_1, ix3_2, ixS, atI_natZ, h, e0]
    have hB := lr_left (fu := fu) (rk := rk) hT ih p S h
    have hF : F__law_read_type fu rk (k + 1) [.ptr r] S = fin (M__law_read_type fu rk (F__law_read_type fu rk k) [.val (.ptr r), .un, .un] S) := rfl
    rw [hF]
    unfold M__law_read_type
    rw [seqM_nx hA, rd_succ]
    cases e : rdL ts (rd ts k) p with
    | deep => trivial
    | stop q =>
      rw [e] at hB
      obtain ⟨d, hB⟩ := hB
      rw [seqM_nx hB, lr_off (fu := fu) (rk := rk) (set_get h)]
      exact ⟨.non, rfl⟩
    | ok l p1 =>
      rw [e] at hB
      rw [seqM_nx hB]
      have t := lr_tail (fu := fu) (rk := rk) hT ih l p1 _ (set_get (o' := RS ts p1 (-1)) h)
      dsimp only
      unfold LR at t ⊢
      cases e2 : rdT ts (rd ts k) l p1 with
      | deep => trivial
      | stop q =>
        rw [e2] at t
        obtain ⟨d, t⟩ := t
        rw [List.set_set] at t
        exact ⟨d, t⟩
      | ok t' p2 =>
        rw [e2] at t
        dsimp only at t
        rw [List.set_set] at t
        exact t
end K70
set_option Elab.async false
set_option linter.all false
set_option maxRecDepth 100000
set_option maxHeartbeats 4000000
/-! Y22: the program's reader. -/
namespace K70
open PySem L2 Z
/-- the program's reader at p -/
abbrev SX (ts : List Str) (p : Int) : Ob := .ins 0 [("tokens", .val (.lst (tokD ts))), ("at", .val (.int p))]
mutual
def Ty.args : Ty → List Ty
  | .mk as _ => as
def Ty.sort : Ty → Str
  | .mk _ s => s
end
def tyOf (ts : List Str) : Tr → Ty
  | .word k => .mk [] (pk ts k)
  | .to l r => .mk (tyOf ts l :: (tyOf ts r).args) (tyOf ts r).sort
def leaves : Tr → List Nat
  | .word k => [k]
  | .to l r => leaves l ++ leaves r
def leafD (ts : List Str) (js : List Nat) : List D := js.map fun j => .tup [.str (pk ts j), .int j]
theorem args_len (ts : List Str) : ∀ t : Tr, (tyOf ts t).args.length + 1 ≤ (leaves t).length
  | .word k => by simp [tyOf, leaves, Ty.args]
  | .to l r => by
    have h1 := args_len ts l
    have h2 := args_len ts r
    show ((tyOf ts l :: (tyOf ts r).args).length) + 1 ≤ (leaves l ++ leaves r).length
    simp only [List.length_cons, List.length_append]
    omega
theorem kAt_lt {ts : List Str} {p : Nat} {k : Str} (h : kAt ts p = k) (hk : k ≠ "") : p < ts.length := by
  obtain ⟨t, e, _⟩ := drop_k h hk
  exact (List.getElem?_eq_some_iff.mp e).1
theorem pk_get {ts : List Str} {p : Nat} {t : Str} (h : ts[p]? = some t) : pk ts p = t := by
  unfold pk
  rw [List.getD_eq_getElem?_getD, h]
  rfl
/-- what the plain reader gives lies in the row -/
def BD (ts : List Str) (p : Nat) (x : PR) : Prop := match x with
  | .ok t p' => p + (leaves t).length ≤ p' ∧ p' ≤ ts.length ∧ ∀ j ∈ leaves t, kAt ts j = wdS
  | .stop q => q ≤ ts.length
  | .deep => True
theorem rdL_bd {ts : List Str} {f : Nat → PR} (ih : ∀ p, p ≤ ts.length → BD ts p (f p)) (p : Nat) (h : p ≤ ts.length) : BD ts p (rdL ts f p) := by
  unfold rdL
  by_cases h1 : kAt ts p = lpS
  · rw [if_pos h1]
    have hp := kAt_lt h1 (by decide +kernel)
    have i := ih (p + 1) (by omega)
    cases e : f (p + 1) with
    | deep => trivial
    | stop q => rw [e] at i; exact i
    | ok t p1 =>
      rw [e] at i
      obtain ⟨i1, i2, i3⟩ := i
      dsimp only
      by_cases h2 : kAt ts p1 = rpS
      · rw [if_pos h2]
        have hp1 := kAt_lt h2 (by decide +kernel)
        exact ⟨by omega, by omega, i3⟩
      · rw [if_neg h2]
        exact i2
  · rw [if_neg h1]
    by_cases h2 : kAt ts p = wdS
    · rw [if_pos h2]
      have hp := kAt_lt h2 (by decide +kernel)
      exact ⟨by simp [leaves], by omega, fun j hj => by simp [leaves] at hj; subst hj; exact h2⟩
    · rw [if_neg h2]
      exact h
theorem rdT_bd {ts : List Str} {f : Nat → PR} (ih : ∀ p, p ≤ ts.length → BD ts p (f p)) (p p' : Nat) (l : Tr) (h : BD ts p (.ok l p')) : BD ts p (rdT ts f l p') := by
  obtain ⟨h0, h1, h2⟩ := h
  unfold rdT
  by_cases h3 : kAt ts p' = arS
  · rw [if_pos h3]
    have hp := kAt_lt h3 (by decide +kernel)
    have i := ih (p' + 1) (by omega)
    cases e : f (p' + 1) with
    | deep => trivial
    | stop q => rw [e] at i; exact i
    | ok r p2 =>
      rw [e] at i
      obtain ⟨i1, i2, i3⟩ := i
      refine ⟨by simp only [leaves, List.length_append]; omega, i2, fun j hj => ?_⟩
      rcases List.mem_append.mp hj with z | z
      · exact h2 j z
      · exact i3 j z
  · rw [if_neg h3]
    exact ⟨h0, h1, h2⟩
theorem rd_bd (ts : List Str) : ∀ (k p : Nat), p ≤ ts.length → BD ts p (rd ts k p)
  | 0, _, _ => trivial
  | k + 1, p, h => by
    have ih := rd_bd ts k
    have hL := rdL_bd ih p h
    rw [rd_succ]
    cases e : rdL ts (rd ts k) p with
    | deep => trivial
    | stop q => rw [e] at hL; exact hL
    | ok l p' => rw [e] at hL; exact rdT_bd ih p p' l hL
section
variable {fu rk r : Nat} {S : List Ob} {ts : List Str} {p : Nat}
theorem get_tk {fr : List Sl} (h : S[r]? = some (SX ts p)) : getF 0 "tokens" (.ptr r) fr S = .ok (.lst (tokD ts)) fr S := by
  unfold getF
  simp only [h]
  rfl
theorem get_at {fr : List Sl} (h : S[r]? = some (SX ts p)) : getF 0 "at" (.ptr r) fr S = .ok (.int p) fr S := by
  unfold getF
  simp only [h]
  rfl
theorem put_at {fr : List Sl} {i : Int} (h : S[r]? = some (SX ts p)) : putFld 0 "at" (.ptr r) (.val (.int i)) fr S = .ok () fr (S.set r (SX ts i)) := by
  unfold putFld
  simp only [h]
  rfl
theorem chk_sx {fr : List Sl} (h : S[r]? = some (SX ts p)) (nm : Str) (hn : (nm == "tokens") = false) (hn2 : (nm == "at") = false) : chkIns 0 nm (.ptr r) fr S = .ok () fr S := by
  unfold chkIns
  simp only [h, List.lookup, hn, hn2]
  rfl
theorem tokD_len (ts : List Str) : (tokD ts).length = ts.length := by simp [tokD]
theorem lenD_tok (h : ts.length ≤ 100000) : lenD (.lst (tokD ts)) = some (.int (ts.length : Int)) := by rw [lenD_lst _ (by rw [tokD_len]; omega), tokD_len]
theorem ix_tok {t : Str} (h : ts[p]? = some t) : ixS (.lst (tokD ts)) (.int p) S = some (.tup [.str (kd t), .str t]) := by
  show atI (tokD ts) (p : Int) = _
  rw [atI_natZ]
  unfold tokD
  rw [List.getElem?_map, h]
  rfl
theorem skind_ok (h : S[r]? = some (SX ts p)) (hl : ts.length ≤ 100000) : F_Syntax_kind fu rk [.ptr r, .int 0] S = .ok (.d (.str (kAt ts p))) S := by
  have a0 : addD (.int (p : Int)) (.int 0) = some (.int (p : Int)) := by rw [add_ii, Int.add_zero]
  unfold F_Syntax_kind M_Syntax_kind
  by_cases hp : p < ts.length
  · have b : decide ((p : Int) < (ts.length : Int)) = true := by rw [decide_eq_true_eq]; omega
    have g : ts[p]? = some ts[p] := List.getElem?_eq_getElem hp
    have i1 := fun S => ix_tok (S := S) g
    have i2 : ∀ S : List Ob, ixS (.tup [.str (kd ts[p]), .str ts[p]]) (.int 0) S = some (.str (kd ts[p])) := fun _ => rfl
    have e : kAt ts p = kd ts[p] := by unfold kAt; rw [g]
    simp only [Z.fv_cons, Z.fv_nil, atI_0, atI_1, atI_2, atI_3, atI_4, ixNc_0, ixNc_1, ixNc_2, ixNc_3, mo_bind, mo_pure, bind_ok, bind_exc, bind_stuck, Z.getV, Z.putV, Z.putOwn, Z.putBox, Z.rdOwn, Z.ownAt, Z.seqM, Z.asgM, Z.ifM, Z.andM, Z.orM, Z.notM, Z.asB, Z.bin2, Z.un1, Z.ofO, Z.ofS, Z.ixM, Z.blt1M, Z.blt1O, Z.deref, Z.slM, Z.slMU, Z.partM, Z.tupM, Z.lstM, Z.catM, Z.argsM, Z.callM, Z.callMU, Z.callF, Z.callU, Z.truM, Z.setIxM, Z.putIx, Z.augM, Z.fin, Z.fr0, Z.funM, Z.ltD, Z.leD, Z.gtD, Z.geD, Z.iiD, Z.iiC, Z.subD, Z.intD, List.getElem?_map, List.length_map, List.getElem?_cons_zero, List.getElem?_cons_succ, List.set_cons_zero, List.set_cons_succ, List.cons_append, List.nil_append, List.append_nil, List.replicate_succ, List.replicate_zero, if_true, if_false, Bool.false_eq_true, Option.bind_some, Option.map_some, Option.bind_none, Option.map_none, Bool.not_true, Bool.not_false, Z.turnM, Z.tgTup, Z.tgCons, Z.tgNil, Z.appM, Z.extM, Z.parM, List.length_cons, List.length_nil, Z.fldM, get_at h, get_tk h, a0, lenD_tok hl, b, i1, i2, e]
  · have b : decide ((p : Int) < (ts.length : Int)) = false := by rw [decide_eq_false_iff_not]; omega
    have e : kAt ts p = "" := by unfold kAt; rw [List.getElem?_eq_none (by omega)]
    simp only [Z.fv_cons, Z.fv_nil, atI_0, atI_1, atI_2, atI_3, atI_4, ixNc_0, ixNc_1, ixNc_2, ixNc_3, mo_bind, mo_pure, bind_ok, bind_exc, bind_stuck, Z.getV, Z.putV, Z.putOwn, Z.putBox, Z.rdOwn, Z.ownAt, Z.seqM, Z.asgM, Z.ifM, Z.andM, Z.orM, Z.notM, Z.asB, Z.bin2, Z.un1, Z.ofO, Z.ofS, Z.ixM, Z.blt1M, Z.blt1O, Z.deref, Z.slM, Z.slMU, Z.partM, Z.tupM, Z.lstM, Z.catM, Z.argsM, Z.callM, Z.callMU, Z.callF, Z.callU, Z.truM, Z.setIxM, Z.putIx, Z.augM, Z.fin, Z.fr0, Z.funM, Z.ltD, Z.leD, Z.gtD, Z.geD, Z.iiD, Z.iiC, Z.subD, Z.intD, List.getElem?_map, List.length_map, List.getElem?_cons_zero, List.getElem?_cons_succ, List.set_cons_zero, List.set_cons_succ, List.cons_append, List.nil_append, List.append_nil, List.replicate_succ, List.replicate_zero, if_true, if_false, Bool.false_eq_true, Option.bind_some, Option.map_some, Option.bind_none, Option.map_none, Bool.not_true, Bool.not_false, Z.turnM, Z.tgTup, Z.tgCons, Z.tgNil, Z.appM, Z.extM, Z.parM, List.length_cons, List.length_nil, Z.fldM, get_at h, get_tk h, a0, lenD_tok hl, b, e]
theorem kd_sk {t : Str} (h : okT t = true) : sk (kd t) = true := by
  unfold kd kdL
  split
  · unfold kindW
    split
    · exact sk_mk (l := L t) (ok_small h)
    · decide +kernel
  · split
    · unfold kindN; split <;> decide +kernel
    · split
      · exact sk_mk (l := L t) (ok_small h)
      · split <;> decide +kernel
theorem kAt_sk (hT : ∀ t ∈ ts, ST t) (p : Nat) : sk (kAt ts p) = true := by
  unfold kAt
  cases e : ts[p]? with
  | none => show sk "" = true; decide +kernel
  | some t => exact kd_sk (hT t (List.mem_of_getElem? e)).1
theorem stake_yes {s : Str} (hT : ∀ t ∈ ts, ST t) (h : S[r]? = some (SX ts p)) (hl : ts.length ≤ 100000) (hs : sk s = true) (h0 : s ≠ "") (e : kAt ts p = s) :
    F_Syntax_take fu rk [.ptr r, .str s] S = .ok (.d (.tup [.str (pk ts p), .int p])) (S.set r (SX ts ((p + 1 : Nat) : Int))) := by
  have k := skind_ok (fu := fu) (rk := rk) h hl
  have n : neD (.str (kAt ts p)) (.str s) = some (.bl false) := by rw [neD_str (kAt_sk hT p) hs, decide_eq_true e]; rfl
  obtain ⟨t, g, _⟩ := drop_k e h0
  have g' := set_get (o' := SX ts ((p + 1 : Nat) : Int)) h
  have e6 : ((p : Int) + 1) = ((p + 1 : Nat) : Int) := rfl
  have e7 : (((p + 1 : Nat) : Int) - 1) = (p : Int) := by omega
  have i1 := fun S => ix_tok (S := S) g
  have i2 : ∀ S : List Ob, ixS (.tup [.str (kd t), .str t]) (.int 1) S = some (.str t) := fun _ => rfl
  rw [pk_get g]
  unfold F_Syntax_take M_Syntax_take
  simp only [Z.fv_cons, Z.fv_nil, atI_0, atI_1, atI_2, atI_3, atI_4, ixNc_0, ixNc_1, ixNc_2, ixNc_3, mo_bind, mo_pure, bind_ok, bind_exc, bind_stuck, Z.getV, Z.putV, Z.putOwn, Z.putBox, Z.rdOwn, Z.ownAt, Z.seqM, Z.asgM, Z.ifM, Z.andM, Z.orM, Z.notM, Z.asB, Z.bin2, Z.un1, Z.ofO, Z.ofS, Z.ixM, Z.blt1M, Z.blt1O, Z.deref, Z.slM, Z.slMU, Z.partM, Z.tupM, Z.lstM, Z.catM, Z.argsM, Z.callM, Z.callMU, Z.callF, Z.callU, Z.truM, Z.setIxM, Z.putIx, Z.augM, Z.fin, Z.fr0, Z.funM, Z.ltD, Z.leD, Z.gtD, Z.geD, Z.iiD, Z.iiC, Z.subD, Z.intD, List.getElem?_map, List.length_map, List.getElem?_cons_zero, List.getElem?_cons_succ, List.set_cons_zero, List.set_cons_succ, List.cons_append, List.nil_append, List.append_nil, List.replicate_succ, List.replicate_zero, if_true, if_false, Bool.false_eq_true, Option.bind_some, Option.map_some, Option.bind_none, Option.map_none, Bool.not_true, Bool.not_false, Z.turnM, Z.tgTup, Z.tgCons, Z.tgNil, Z.appM, Z.extM, Z.parM, List.length_cons, List.length_nil, Z.methM, chk_sx h "kind" (by decide +kernel) (by decide +kernel), k, n, Z.augFldM, Z.fldM, get_at h, addI, e6, put_at h, get_at g', get_tk g', e7, i1, i2]
theorem stake_no {s : Str} (hT : ∀ t ∈ ts, ST t) (h : S[r]? = some (SX ts p)) (hl : ts.length ≤ 100000) (hp : p ≤ ts.length) (hs : sk s = true) (e : ¬kAt ts p = s) :
    F_Syntax_take fu rk [.ptr r, .str s] S = .exc ⟨2, p⟩ S := by
  have k := skind_ok (fu := fu) (rk := rk) h hl
  have n : neD (.str (kAt ts p)) (.str s) = some (.bl true) := by rw [neD_str (kAt_sk hT p) hs, decide_eq_false e]; rfl
  have sm : small64 (p : Int) = true := by rw [small64_iff]; omega
  unfold F_Syntax_take M_Syntax_take
  simp only [Z.fv_cons, Z.fv_nil, atI_0, atI_1, atI_2, atI_3, atI_4, ixNc_0, ixNc_1, ixNc_2, ixNc_3, mo_bind, mo_pure, bind_ok, bind_exc, bind_stuck, Z.getV, Z.putV, Z.putOwn, Z.putBox, Z.rdOwn, Z.ownAt, Z.seqM, Z.asgM, Z.ifM, Z.andM, Z.orM, Z.notM, Z.asB, Z.bin2, Z.un1, Z.ofO, Z.ofS, Z.ixM, Z.blt1M, Z.blt1O, Z.deref, Z.slM, Z.slMU, Z.partM, Z.tupM, Z.lstM, Z.catM, Z.argsM, Z.callM, Z.callMU, Z.callF, Z.callU, Z.truM, Z.setIxM, Z.putIx, Z.augM, Z.fin, Z.fr0, Z.funM, Z.ltD, Z.leD, Z.gtD, Z.geD, Z.iiD, Z.iiC, Z.subD, Z.intD, List.getElem?_map, List.length_map, List.getElem?_cons_zero, List.getElem?_cons_succ, List.set_cons_zero, List.set_cons_succ, List.cons_append, List.nil_append, List.append_nil, List.replicate_succ, List.replicate_zero, if_true, if_false, Bool.false_eq_true, Option.bind_some, Option.map_some, Option.bind_none, Option.map_none, Bool.not_true, Bool.not_false, Z.turnM, Z.tgTup, Z.tgCons, Z.tgNil, Z.appM, Z.extM, Z.parM, List.length_cons, List.length_nil, Z.methM, chk_sx h "kind" (by decide +kernel) (by decide +kernel), k, n, Z.raiseM, Z.fldM, get_at h, sm]
theorem sfinish_yes (h : S[r]? = some (SX ts (ts.length : Nat))) (hl : ts.length ≤ 100000) : F_Syntax_finish fu rk [.ptr r] S = .ok (.d .non) S := by
  have b : decide ((ts.length : Int) < (ts.length : Int)) = false := by simp
  unfold F_Syntax_finish M_Syntax_finish
  simp only [Z.fv_cons, Z.fv_nil, atI_0, atI_1, atI_2, atI_3, atI_4, ixNc_0, ixNc_1, ixNc_2, ixNc_3, mo_bind, mo_pure, bind_ok, bind_exc, bind_stuck, Z.getV, Z.putV, Z.putOwn, Z.putBox, Z.rdOwn, Z.ownAt, Z.seqM, Z.asgM, Z.ifM, Z.andM, Z.orM, Z.notM, Z.asB, Z.bin2, Z.un1, Z.ofO, Z.ofS, Z.ixM, Z.blt1M, Z.blt1O, Z.deref, Z.slM, Z.slMU, Z.partM, Z.tupM, Z.lstM, Z.catM, Z.argsM, Z.callM, Z.callMU, Z.callF, Z.callU, Z.truM, Z.setIxM, Z.putIx, Z.augM, Z.fin, Z.fr0, Z.funM, Z.ltD, Z.leD, Z.gtD, Z.geD, Z.iiD, Z.iiC, Z.subD, Z.intD, List.getElem?_map, List.length_map, List.getElem?_cons_zero, List.getElem?_cons_succ, List.set_cons_zero, List.set_cons_succ, List.cons_append, List.nil_append, List.append_nil, List.replicate_succ, List.replicate_zero, if_true, if_false, Bool.false_eq_true, Option.bind_some, Option.map_some, Option.bind_none, Option.map_none, Bool.not_true, Bool.not_false, Z.turnM, Z.tgTup, Z.tgCons, Z.tgNil, Z.appM, Z.extM, Z.parM, List.length_cons, List.length_nil, Z.fldM, get_at h, get_tk h, lenD_tok hl, b]
theorem sfinish_no (h : S[r]? = some (SX ts p)) (hl : ts.length ≤ 100000) (hp : p < ts.length) : F_Syntax_finish fu rk [.ptr r] S = .exc ⟨2, p⟩ S := by
  have b : decide ((p : Int) < (ts.length : Int)) = true := by rw [decide_eq_true_eq]; omega
  have sm : small64 (p : Int) = true := by rw [small64_iff]; omega
  unfold F_Syntax_finish M_Syntax_finish
  simp only [Z.fv_cons, Z.fv_nil, atI_0, atI_1, atI_2, atI_3, atI_4, ixNc_0, ixNc_1, ixNc_2, ixNc_3, mo_bind, mo_pure, bind_ok, bind_exc, bind_stuck, Z.getV, Z.putV, Z.putOwn, Z.putBox, Z.rdOwn, Z.ownAt, Z.seqM, Z.asgM, Z.ifM, Z.andM, Z.orM, Z.notM, Z.asB, Z.bin2, Z.un1, Z.ofO, Z.ofS, Z.ixM, Z.blt1M, Z.blt1O, Z.deref, Z.slM, Z.slMU, Z.partM, Z.tupM, Z.lstM, Z.catM, Z.argsM, Z.callM, Z.callMU, Z.callF, Z.callU, Z.truM, Z.setIxM, Z.putIx, Z.augM, Z.fin, Z.fr0, Z.funM, Z.ltD, Z.leD, Z.gtD, Z.geD, Z.iiD, Z.iiC, Z.subD, Z.intD, List.getElem?_map, List.length_map, List.getElem?_cons_zero, List.getElem?_cons_succ, List.set_cons_zero, List.set_cons_succ, List.cons_append, List.nil_append, List.append_nil, List.replicate_succ, List.replicate_zero, if_true, if_false, Bool.false_eq_true, Option.bind_some, Option.map_some, Option.bind_none, Option.map_none, Bool.not_true, Bool.not_false, Z.turnM, Z.tgTup, Z.tgCons, Z.tgNil, Z.appM, Z.extM, Z.parM, List.length_cons, List.length_nil, Z.fldM, get_at h, get_tk h, lenD_tok hl, b, Z.raiseM, sm]
end
end K70
set_option Elab.async false
set_option linter.all false
set_option maxRecDepth 100000
set_option maxHeartbeats 4000000
/-! Y23: sorts. -/
namespace Z
open PySem L2
theorem turn_nx {a b : Mo Fl} {fr fr' : List Sl} {S S' : List Ob} (h : a fr S = .ok .nx fr' S') : turnM a b fr S = b fr' S' := by
  show Rs.bind (a fr S) _ = _
  rw [h]
  rfl
theorem turn_rt {a b : Mo Fl} {fr fr' : List Sl} {S S' : List Ob} {v : RV} (h : a fr S = .ok (.rt v) fr' S') : turnM a b fr S = .ok (.rt v) fr' S' := by
  show Rs.bind (a fr S) _ = _
  rw [h]
  rfl
theorem turn_exc {a b : Mo Fl} {fr fr' : List Sl} {S S' : List Ob} {x : Ex} (h : a fr S = .exc x fr' S') : turnM a b fr S = .exc x fr' S' := by
  show Rs.bind (a fr S) _ = _
  rw [h]
  rfl
end Z
namespace K70
open PySem L2 Z
theorem while_true (b : Mo Fl) (n : Nat) (fr : List Sl) (S : List Ob) : whileM (truM (pure (.bl true))) b (n + 1) fr S = turnM b (whileM (truM (pure (.bl true))) b n) fr S := rfl
theorem Ty.eta (t : Ty) : t = .mk t.args t.sort := by cases t; rfl
theorem Ty.d_eta (t : Ty) : t.d = .tup [.tup (Ty.ds t.args), .str t.sort] := by cases t; rw [Ty.d]; rfl
/-- what the program's reader does where the plain one gives x -/
def PRk (ts : List Str) (r : Nat) (x : PR) (S : List Ob) (y : RF) : Prop := match x with
  | .ok t p => y = .ok (.d (.tup [(tyOf ts t).d, .lst (leafD ts (leaves t))])) (S.set r (SX ts p))
  | .stop q => y = .exc ⟨2, q⟩ (S.set r (SX ts q))
  | .deep => True
def PLk (ts : List Str) (r : Nat) (x : PR) (S : List Ob) (as : List Ty) (fs : List Nat) (y : Rs Fl) : Prop := match x with
  | .ok t p => ∃ fr', y = .ok (.rt (.d (.tup [(Ty.mk (as ++ (tyOf ts t).args) (tyOf ts t).sort).d, .lst (leafD ts (fs ++ leaves t))]))) fr' (S.set r (SX ts p))
  | .stop q => ∃ fr', y = .exc ⟨2, q⟩ fr' (S.set r (SX ts q))
  | .deep => True
section
variable {fu rk r : Nat} {ts : List Str} {f : Nat → PR} {r_Syntax_sorts : Fm}
theorem leafD_app (ts : List Str) (a b : List Nat) : leafD ts (a ++ b) = leafD ts a ++ leafD ts b := by simp [leafD]
theorem leafD_len (ts : List Str) (a : List Nat) : (leafD ts a).length = a.length := by simp [leafD]
theorem ps_left (hT : ∀ t ∈ ts, ST t) (hl : ts.length ≤ 100000) (ih : ∀ (p : Nat) (S : List Ob), p ≤ ts.length → S[r]? = some (SX ts p) → PRk ts r (f p) S (r_Syntax_sorts [.ptr r] S)) (hbd : ∀ p, p ≤ ts.length → BD ts p (f p))
    (p : Nat) (S : List Ob) (hp : p ≤ ts.length) (h : S[r]? = some (SX ts p)) (o1 o2 : List D) (s3 s4 s5 : Sl) :
    match rdL ts f p with
    | .ok t p' => ∃ s3', (ifM (asB (bin2 (methM 0 "kind" (F_Syntax_kind fu rk) (getV 0) [] [.int 0]) (pure (.str "(")) eqD)) (seqM ((methM 0 "take" (F_Syntax_take fu rk) (getV 0) [(pure (.str "("))] []) >>= fun _ => pure .nx)
    (seqM (asgM (methM 0 "sorts" r_Syntax_sorts (getV 0) [] []) (tgTup 2 (tgCons (putV 4) (tgCons (putV 5) tgNil))))
    ((methM 0 "take" (F_Syntax_take fu rk) (getV 0) [(pure (.str ")"))] []) >>= fun _ => pure .nx))) (seqM (asgM (methM 0 "take" (F_Syntax_take fu rk) (getV 0) [(pure (.str "word"))] []) (putV 3))
    (parM 4 5 (tupM [(tupM []), (ixM (getV 3) (pure (.int 0)))]) (lstM (argsM [(getV 3)]))))) [.val (.ptr r), .own o1, .own o2, s3, s4, s5] S = .ok .nx [.val (.ptr r), .own o1, .own o2, s3', .val (tyOf ts t).d, .val (.lst (leafD ts (leaves t)))] (S.set r (SX ts p'))
    | .stop q => ∃ fr', (ifM (asB (bin2 (methM 0 "kind" (F_Syntax_kind fu rk) (getV 0) [] [.int 0]) (pure (.str "(")) eqD)) (seqM ((methM 0 "take" (F_Syntax_take fu rk) (getV 0) [(pure (.str "("))] []) >>= fun _ => pure .nx)
    (seqM (asgM (methM 0 "sorts" r_Syntax_sorts (getV 0) [] []) (tgTup 2 (tgCons (putV 4) (tgCons (putV 5) tgNil))))
    ((methM 0 "take" (F_Syntax_take fu rk) (getV 0) [(pure (.str ")"))] []) >>= fun _ => pure .nx))) (seqM (asgM (methM 0 "take" (F_Syntax_take fu rk) (getV 0) [(pure (.str "word"))] []) (putV 3))
    (parM 4 5 (tupM [(tupM []), (ixM (getV 3) (pure (.int 0)))]) (lstM (argsM [(getV 3)]))))) [.val (.ptr r), .own o1, .own o2, s3, s4, s5] S = .exc ⟨2, q⟩ fr' (S.set r (SX ts q))
    | .deep => True := by
  have k := skind_ok (fu := fu) (rk := rk) h hl
  have c1 : ∀ {fr : List Sl} {S : List Ob} {p : Nat}, S[r]? = some (SX ts p) → chkIns 0 "kind" (.ptr r) fr S = .ok () fr S := fun h => chk_sx h "kind" (by decide +kernel) (by decide +kernel)
  have c2 : ∀ {fr : List Sl} {S : List Ob} {p : Nat}, S[r]? = some (SX ts p) → chkIns 0 "take" (.ptr r) fr S = .ok () fr S := fun h => chk_sx h "take" (by decide +kernel) (by decide +kernel)
  have c3 : ∀ {fr : List Sl} {S : List Ob} {p : Nat}, S[r]? = some (SX ts p) → chkIns 0 "sorts" (.ptr r) fr S = .ok () fr S := fun h => chk_sx h "sorts" (by decide +kernel) (by decide +kernel)
  have e3 : eqD (.str (kAt ts p)) (.str "(") = some (.bl (decide (kAt ts p = lpS))) := eqD_str (kAt_sk hT p) (by decide +kernel)
  unfold rdL
  by_cases h1 : kAt ts p = lpS
  · rw [if_pos h1]
    rw [decide_eq_true h1] at e3
    have hp1 := kAt_lt h1 (by decide +kernel)
    have e4 := stake_yes (fu := fu) (rk := rk) (s := "(") hT h hl (by decide +kernel) (by decide +kernel) h1
    have g1 := set_get (o' := SX ts ((p + 1 : Nat) : Int)) h
    have i := ih (p + 1) _ (by omega) g1
    have bd := hbd (p + 1) (by omega)
    cases e : f (p + 1) with
    | deep => trivial
    | stop q =>
      rw [e] at i
      have i' : r_Syntax_sorts [.ptr r] (S.set r (SX ts ((p + 1 : Nat) : Int))) = .exc ⟨2, q⟩ ((S.set r (SX ts ((p + 1 : Nat) : Int))).set r (SX ts q)) := i
      rw [List.set_set] at i'
      refine ⟨[.val (.ptr r), .own o1, .own o2, s3, s4, s5], ?_⟩
      simp only [Z.fv_cons, Z.fv_nil, atI_0, atI_1, atI_2, atI_3, atI_4, ixNc_0, ixNc_1, ixNc_2, ixNc_3, mo_bind, mo_pure, bind_ok, bind_exc, bind_stuck, Z.getV, Z.putV, Z.putOwn, Z.putBox, Z.rdOwn, Z.ownAt, Z.seqM, Z.asgM, Z.ifM, Z.andM, Z.orM, Z.notM, Z.asB, Z.bin2, Z.un1, Z.ofO, Z.ofS, Z.ixM, Z.blt1M, Z.blt1O, Z.deref, Z.slM, Z.slMU, Z.partM, Z.tupM, Z.lstM, Z.catM, Z.argsM, Z.callM, Z.callMU, Z.callF, Z.callU, Z.truM, Z.setIxM, Z.putIx, Z.augM, Z.fin, Z.fr0, Z.funM, Z.ltD, Z.leD, Z.gtD, Z.geD, Z.iiD, Z.iiC, Z.subD, Z.intD, List.getElem?_map, List.length_map, List.getElem?_cons_zero, List.getElem?_cons_succ, List.set_cons_zero, List.set_cons_succ, List.cons_append, List.nil_append, List.append_nil, List.replicate_succ, List.replicate_zero, if_true, if_false, Bool.false_eq_true, Option.bind_some, Option.map_some, Option.bind_none, Option.map_none, Bool.not_true, Bool.not_false, Z.turnM, Z.tgTup, Z.tgCons, Z.tgNil, Z.appM, Z.extM, Z.parM, List.length_cons, List.length_nil, Z.methM, c1 h, c2 h, c3 g1, k, e3, e4, i']
    | ok t p1 =>
      rw [e] at i bd
      have i' : r_Syntax_sorts [.ptr r] (S.set r (SX ts ((p + 1 : Nat) : Int))) = .ok (.d (.tup [(tyOf ts t).d, .lst (leafD ts (leaves t))])) ((S.set r (SX ts ((p + 1 : Nat) : Int))).set r (SX ts p1)) := i
      rw [List.set_set] at i'
      have g2 := set_get (o' := SX ts (p1 : Nat)) h
      dsimp only
      by_cases h2 : kAt ts p1 = rpS
      · rw [if_pos h2]
        have e5 := stake_yes (fu := fu) (rk := rk) (s := ")") hT g2 hl (by decide +kernel) (by decide +kernel) h2
        rw [List.set_set] at e5
        refine ⟨s3, ?_⟩
        simp only [Z.fv_cons, Z.fv_nil, atI_0, atI_1, atI_2, atI_3, atI_4, ixNc_0, ixNc_1, ixNc_2, ixNc_3, mo_bind, mo_pure, bind_ok, bind_exc, bind_stuck, Z.getV, Z.putV, Z.putOwn, Z.putBox, Z.rdOwn, Z.ownAt, Z.seqM, Z.asgM, Z.ifM, Z.andM, Z.orM, Z.notM, Z.asB, Z.bin2, Z.un1, Z.ofO, Z.ofS, Z.ixM, Z.blt1M, Z.blt1O, Z.deref, Z.slM, Z.slMU, Z.partM, Z.tupM, Z.lstM, Z.catM, Z.argsM, Z.callM, Z.callMU, Z.callF, Z.callU, Z.truM, Z.setIxM, Z.putIx, Z.augM, Z.fin, Z.fr0, Z.funM, Z.ltD, Z.leD, Z.gtD, Z.geD, Z.iiD, Z.iiC, Z.subD, Z.intD, List.getElem?_map, List.length_map, List.getElem?_cons_zero, List.getElem?_cons_succ, List.set_cons_zero, List.set_cons_succ, List.cons_append, List.nil_append, List.append_nil, List.replicate_succ, List.replicate_zero, if_true, if_false, Bool.false_eq_true, Option.bind_some, Option.map_some, Option.bind_none, Option.map_none, Bool.not_true, Bool.not_false, Z.turnM, Z.tgTup, Z.tgCons, Z.tgNil, Z.appM, Z.extM, Z.parM, List.length_cons, List.length_nil, Z.methM, c1 h, c2 h, c3 g1, k, e3, e4, i', c2 g2, e5]
      · rw [if_neg h2]
        have e5 := stake_no (fu := fu) (rk := rk) (s := ")") hT g2 hl bd.2.1 (by decide +kernel) h2
        refine ⟨[.val (.ptr r), .own o1, .own o2, s3, .val (tyOf ts t).d, .val (.lst (leafD ts (leaves t)))], ?_⟩
        simp only [Z.fv_cons, Z.fv_nil, atI_0, atI_1, atI_2, atI_3, atI_4, ixNc_0, ixNc_1, ixNc_2, ixNc_3, mo_bind, mo_pure, bind_ok, bind_exc, bind_stuck, Z.getV, Z.putV, Z.putOwn, Z.putBox, Z.rdOwn, Z.ownAt, Z.seqM, Z.asgM, Z.ifM, Z.andM, Z.orM, Z.notM, Z.asB, Z.bin2, Z.un1, Z.ofO, Z.ofS, Z.ixM, Z.blt1M, Z.blt1O, Z.deref, Z.slM, Z.slMU, Z.partM, Z.tupM, Z.lstM, Z.catM, Z.argsM, Z.callM, Z.callMU, Z.callF, Z.callU, Z.truM, Z.setIxM, Z.putIx, Z.augM, Z.fin, Z.fr0, Z.funM, Z.ltD, Z.leD, Z.gtD, Z.geD, Z.iiD, Z.iiC, Z.subD, Z.intD, List.getElem?_map, List.length_map, List.getElem?_cons_zero, List.getElem?_cons_succ, List.set_cons_zero, List.set_cons_succ, List.cons_append, List.nil_append, List.append_nil, List.replicate_succ, List.replicate_zero, if_true, if_false, Bool.false_eq_true, Option.bind_some, Option.map_some, Option.bind_none, Option.map_none, Bool.not_true, Bool.not_false, Z.turnM, Z.tgTup, Z.tgCons, Z.tgNil, Z.appM, Z.extM, Z.parM, List.length_cons, List.length_nil, Z.methM, c1 h, c2 h, c3 g1, k, e3, e4, i', c2 g2, e5]
  · rw [if_neg h1]
    rw [decide_eq_false h1] at e3
    by_cases h2 : kAt ts p = wdS
    · rw [if_pos h2]
      have e4 := stake_yes (fu := fu) (rk := rk) (s := "word") hT h hl (by decide +kernel) (by decide +kernel) h2
      have ix0 : ∀ S : List Ob, ixS (.tup [.str (pk ts p), .int p]) (.int 0) S = some (.str (pk ts p)) := fun _ => rfl
      have ty : (tyOf ts (.word p)).d = .tup [.tup [], .str (pk ts p)] := by rw [tyOf, Ty.d, Ty.ds]
      refine ⟨.val (.tup [.str (pk ts p), .int p]), ?_⟩
      rw [ty]
      simp only [Z.fv_cons, Z.fv_nil, atI_0, atI_1, atI_2, atI_3, atI_4, ixNc_0, ixNc_1, ixNc_2, ixNc_3, mo_bind, mo_pure, bind_ok, bind_exc, bind_stuck, Z.getV, Z.putV, Z.putOwn, Z.putBox, Z.rdOwn, Z.ownAt, Z.seqM, Z.asgM, Z.ifM, Z.andM, Z.orM, Z.notM, Z.asB, Z.bin2, Z.un1, Z.ofO, Z.ofS, Z.ixM, Z.blt1M, Z.blt1O, Z.deref, Z.slM, Z.slMU, Z.partM, Z.tupM, Z.lstM, Z.catM, Z.argsM, Z.callM, Z.callMU, Z.callF, Z.callU, Z.truM, Z.setIxM, Z.putIx, Z.augM, Z.fin, Z.fr0, Z.funM, Z.ltD, Z.leD, Z.gtD, Z.geD, Z.iiD, Z.iiC, Z.subD, Z.intD, List.getElem?_map, List.length_map, List.getElem?_cons_zero, List.getElem?_cons_succ, List.set_cons_zero, List.set_cons_succ, List.cons_append, List.nil_append, List.append_nil, List.replicate_succ, List.replicate_zero, if_true, if_false, Bool.false_eq_true, Option.bind_some, Option.map_some, Option.bind_none, Option.map_none, Bool.not_true, Bool.not_false, Z.turnM, Z.tgTup, Z.tgCons, Z.tgNil, Z.appM, Z.extM, Z.parM, List.length_cons, List.length_nil, Z.methM, c1 h, c2 h, k, e3, e4, ix0, leaves, leafD, List.map_cons, List.map_nil]
    · rw [if_neg h2]
      have e4 := stake_no (fu := fu) (rk := rk) (s := "word") hT h hl hp (by decide +kernel) h2
      dsimp only
      rw [st_same h]
      refine ⟨[.val (.ptr r), .own o1, .own o2, s3, s4, s5], ?_⟩
      simp only [Z.fv_cons, Z.fv_nil, atI_0, atI_1, atI_2, atI_3, atI_4, ixNc_0, ixNc_1, ixNc_2, ixNc_3, mo_bind, mo_pure, bind_ok, bind_exc, bind_stuck, Z.getV, Z.putV, Z.putOwn, Z.putBox, Z.rdOwn, Z.ownAt, Z.seqM, Z.asgM, Z.ifM, Z.andM, Z.orM, Z.notM, Z.asB, Z.bin2, Z.un1, Z.ofO, Z.ofS, Z.ixM, Z.blt1M, Z.blt1O, Z.deref, Z.slM, Z.slMU, Z.partM, Z.tupM, Z.lstM, Z.catM, Z.argsM, Z.callM, Z.callMU, Z.callF, Z.callU, Z.truM, Z.setIxM, Z.putIx, Z.augM, Z.fin, Z.fr0, Z.funM, Z.ltD, Z.leD, Z.gtD, Z.geD, Z.iiD, Z.iiC, Z.subD, Z.intD, List.getElem?_map, List.length_map, List.getElem?_cons_zero, List.getElem?_cons_succ, List.set_cons_zero, List.set_cons_succ, List.cons_append, List.nil_append, List.append_nil, List.replicate_succ, List.replicate_zero, if_true, if_false, Bool.false_eq_true, Option.bind_some, Option.map_some, Option.bind_none, Option.map_none, Bool.not_true, Bool.not_false, Z.turnM, Z.tgTup, Z.tgCons, Z.tgNil, Z.appM, Z.extM, Z.parM, List.length_cons, List.length_nil, Z.methM, c1 h, c2 h, k, e3, e4]
theorem ps_rest (hT : ∀ t ∈ ts, ST t) (hl : ts.length ≤ 100000) (t : Tr) (p : Nat) (S : List Ob) (h : S[r]? = some (SX ts p)) (as : List Ty) (fs : List Nat) (s3 : Sl) (ha : as.length + (leaves t).length ≤ 200000) (hf : fs.length + (leaves t).length ≤ 200000) :
    (seqM ((extM 2 (getV 5)) >>= fun _ => pure .nx)
    (seqM (ifM (asB (bin2 (methM 0 "kind" (F_Syntax_kind fu rk) (getV 0) [] [.int 0]) (pure (.str "->")) neD)) ((tupM [(tupM [(bin2 (blt1O tupD 1) (ixM (getV 4) (pure (.int 0))) addD), (ixM (getV 4) (pure (.int 1)))]), (getV 2)]) >>= fun d => pure (.rt (.d d))) (pure .nx))
    (seqM ((methM 0 "take" (F_Syntax_take fu rk) (getV 0) [(pure (.str "->"))] []) >>= fun _ => pure .nx)
    ((appM 1 (getV 4)) >>= fun _ => pure .nx)))) [.val (.ptr r), .own (Ty.ds as), .own (leafD ts fs), s3, .val (tyOf ts t).d, .val (.lst (leafD ts (leaves t)))] S =
      if kAt ts p = arS then .ok .nx [.val (.ptr r), .own (Ty.ds (as ++ [tyOf ts t])), .own (leafD ts (fs ++ leaves t)), s3, .val (tyOf ts t).d, .val (.lst (leafD ts (leaves t)))] (S.set r (SX ts ((p + 1 : Nat) : Int)))
      else .ok (.rt (.d (.tup [(Ty.mk (as ++ (tyOf ts t).args) (tyOf ts t).sort).d, .lst (leafD ts (fs ++ leaves t))]))) [.val (.ptr r), .own (Ty.ds as), .val (.lst (leafD ts (fs ++ leaves t))), s3, .val (tyOf ts t).d, .val (.lst (leafD ts (leaves t)))] S := by
  have k := skind_ok (fu := fu) (rk := rk) h hl
  have c1 : ∀ {fr : List Sl} {S : List Ob} {p : Nat}, S[r]? = some (SX ts p) → chkIns 0 "kind" (.ptr r) fr S = .ok () fr S := fun h => chk_sx h "kind" (by decide +kernel) (by decide +kernel)
  have c2 : ∀ {fr : List Sl} {S : List Ob} {p : Nat}, S[r]? = some (SX ts p) → chkIns 0 "take" (.ptr r) fr S = .ok () fr S := fun h => chk_sx h "take" (by decide +kernel) (by decide +kernel)
  have e3 : neD (.str (kAt ts p)) (.str "->") = some (.bl (!decide (kAt ts p = arS))) := neD_str (kAt_sk hT p) (by decide +kernel)
  have q1 : (leafD ts fs).length + (leafD ts (leaves t)).length ≤ sizeLine := by rw [leafD_len, leafD_len, sizeLine_eq]; omega
  have al := args_len ts t
  have q2 : (Ty.ds as).length + (Ty.ds (tyOf ts t).args).length ≤ sizeLine := by rw [ds_length, ds_length, sizeLine_eq]; omega
  have q3 : (Ty.ds as).length < sizeLine := by rw [ds_length, sizeLine_eq]; omega
  have ix0 : ∀ S : List Ob, ixS (.tup [.tup (Ty.ds (tyOf ts t).args), .str (tyOf ts t).sort]) (.int 0) S = some (.tup (Ty.ds (tyOf ts t).args)) := fun _ => rfl
  have ix1 : ∀ S : List Ob, ixS (.tup [.tup (Ty.ds (tyOf ts t).args), .str (tyOf ts t).sort]) (.int 1) S = some (.str (tyOf ts t).sort) := fun _ => rfl
  have td : tupD (.lst (Ty.ds as)) = some (.tup (Ty.ds as)) := rfl
  have ad : addD (.tup (Ty.ds as)) (.tup (Ty.ds (tyOf ts t).args)) = some (.tup (Ty.ds as ++ Ty.ds (tyOf ts t).args)) := if_pos q2
  by_cases h1 : kAt ts p = arS
  · rw [if_pos h1]
    rw [decide_eq_true h1] at e3
    have e4 := stake_yes (fu := fu) (rk := rk) (s := "->") hT h hl (by decide +kernel) (by decide +kernel) h1
    rw [ds_append, leafD_app]
    have d1 : Ty.ds [tyOf ts t] = [(tyOf ts t).d] := by rw [Ty.ds, Ty.ds]
    rw [d1]
    simp only [Z.fv_cons, Z.fv_nil, atI_0, atI_1, atI_2, atI_3, atI_4, ixNc_0, ixNc_1, ixNc_2, ixNc_3, mo_bind, mo_pure, bind_ok, bind_exc, bind_stuck, Z.getV, Z.putV, Z.putOwn, Z.putBox, Z.rdOwn, Z.ownAt, Z.seqM, Z.asgM, Z.ifM, Z.andM, Z.orM, Z.notM, Z.asB, Z.bin2, Z.un1, Z.ofO, Z.ofS, Z.ixM, Z.blt1M, Z.blt1O, Z.deref, Z.slM, Z.slMU, Z.partM, Z.tupM, Z.lstM, Z.catM, Z.argsM, Z.callM, Z.callMU, Z.callF, Z.callU, Z.truM, Z.setIxM, Z.putIx, Z.augM, Z.fin, Z.fr0, Z.funM, Z.ltD, Z.leD, Z.gtD, Z.geD, Z.iiD, Z.iiC, Z.subD, Z.intD, List.getElem?_map, List.length_map, List.getElem?_cons_zero, List.getElem?_cons_succ, List.set_cons_zero, List.set_cons_succ, List.cons_append, List.nil_append, List.append_nil, List.replicate_succ, List.replicate_zero, if_true, if_false, Bool.false_eq_true, Option.bind_some, Option.map_some, Option.bind_none, Option.map_none, Bool.not_true, Bool.not_false, Z.turnM, Z.tgTup, Z.tgCons, Z.tgNil, Z.appM, Z.extM, Z.parM, List.length_cons, List.length_nil, Z.methM, c1 h, c2 h, k, e3, e4, q1, q3]
  · rw [if_neg h1]
    rw [decide_eq_false h1] at e3
    rw [Ty.d_eta (tyOf ts t), Ty.d_eta (Ty.mk _ _), leafD_app]
    show _ = Rs.ok (Fl.rt (.d (.tup [.tup [.tup (Ty.ds (as ++ (tyOf ts t).args)), .str (tyOf ts t).sort], _]))) _ _
    rw [ds_append]
    simp only [Z.fv_cons, Z.fv_nil, atI_0, atI_1, atI_2, atI_3, atI_4, ixNc_0, ixNc_1, ixNc_2, ixNc_3, mo_bind, mo_pure, bind_ok, bind_exc, bind_stuck, Z.getV, Z.putV, Z.putOwn, Z.putBox, Z.rdOwn, Z.ownAt, Z.seqM, Z.asgM, Z.ifM, Z.andM, Z.orM, Z.notM, Z.asB, Z.bin2, Z.un1, Z.ofO, Z.ofS, Z.ixM, Z.blt1M, Z.blt1O, Z.deref, Z.slM, Z.slMU, Z.partM, Z.tupM, Z.lstM, Z.catM, Z.argsM, Z.callM, Z.callMU, Z.callF, Z.callU, Z.truM, Z.setIxM, Z.putIx, Z.augM, Z.fin, Z.fr0, Z.funM, Z.ltD, Z.leD, Z.gtD, Z.geD, Z.iiD, Z.iiC, Z.subD, Z.intD, List.getElem?_map, List.length_map, List.getElem?_cons_zero, List.getElem?_cons_succ, List.set_cons_zero, List.set_cons_succ, List.cons_append, List.nil_append, List.append_nil, List.replicate_succ, List.replicate_zero, if_true, if_false, Bool.false_eq_true, Option.bind_some, Option.map_some, Option.bind_none, Option.map_none, Bool.not_true, Bool.not_false, Z.turnM, Z.tgTup, Z.tgCons, Z.tgNil, Z.appM, Z.extM, Z.parM, List.length_cons, List.length_nil, Z.methM, c1 h, c2 h, k, e3, q1, q3, td, ad, ix0, ix1]
theorem ps_loop (hT : ∀ t ∈ ts, ST t) (hl : ts.length ≤ 100000) (K : Nat) (ih : ∀ (j p : Nat) (S : List Ob), j ≤ K → p ≤ ts.length → S[r]? = some (SX ts p) → PRk ts r (rd ts j p) S (r_Syntax_sorts [.ptr r] S)) :
    ∀ (k p n : Nat) (S : List Ob) (as : List Ty) (fs : List Nat) (s3 s4 s5 : Sl), k ≤ K + 1 → k ≤ n → p ≤ ts.length → as.length ≤ p → fs.length ≤ p → S[r]? = some (SX ts p) →
      PLk ts r (rd ts k p) S as fs (whileM (truM (pure (.bl true))) (seqM (ifM (asB (bin2 (methM 0 "kind" (F_Syntax_kind fu rk) (getV 0) [] [.int 0]) (pure (.str "(")) eqD)) (seqM ((methM 0 "take" (F_Syntax_take fu rk) (getV 0) [(pure (.str "("))] []) >>= fun _ => pure .nx)
    (seqM (asgM (methM 0 "sorts" r_Syntax_sorts (getV 0) [] []) (tgTup 2 (tgCons (putV 4) (tgCons (putV 5) tgNil))))
    ((methM 0 "take" (F_Syntax_take fu rk) (getV 0) [(pure (.str ")"))] []) >>= fun _ => pure .nx))) (seqM (asgM (methM 0 "take" (F_Syntax_take fu rk) (getV 0) [(pure (.str "word"))] []) (putV 3))
    (parM 4 5 (tupM [(tupM []), (ixM (getV 3) (pure (.int 0)))]) (lstM (argsM [(getV 3)])))))
    (seqM ((extM 2 (getV 5)) >>= fun _ => pure .nx)
    (seqM (ifM (asB (bin2 (methM 0 "kind" (F_Syntax_kind fu rk) (getV 0) [] [.int 0]) (pure (.str "->")) neD)) ((tupM [(tupM [(bin2 (blt1O tupD 1) (ixM (getV 4) (pure (.int 0))) addD), (ixM (getV 4) (pure (.int 1)))]), (getV 2)]) >>= fun d => pure (.rt (.d d))) (pure .nx))
    (seqM ((methM 0 "take" (F_Syntax_take fu rk) (getV 0) [(pure (.str "->"))] []) >>= fun _ => pure .nx)
    ((appM 1 (getV 4)) >>= fun _ => pure .nx))))) n [.val (.ptr r), .own (Ty.ds as), .own (leafD ts fs), s3, s4, s5] S)
  | 0, _, _, _, _, _, _, _, _, _, _, _, _, _, _ => trivial
  | k + 1, p, 0, S, as, fs, s3, s4, s5, _, hn, _, _, _, _ => by omega
  | k + 1, p, n + 1, S, as, fs, s3, s4, s5, hk, hn, hp, ha, hf, h => by
    have hb := fun p hp => rd_bd ts k p hp
    have hL := ps_left (fu := fu) (rk := rk) hT hl (fun p S hp h => ih k p S (by omega) hp h) hb p S hp h (Ty.ds as) (leafD ts fs) s3 s4 s5
    have bL := rdL_bd hb p hp
    rw [while_true, rd_succ]
    cases e : rdL ts (rd ts k) p with
    | deep => trivial
    | stop q =>
      rw [e] at hL
      obtain ⟨fr', hL⟩ := hL
      exact ⟨fr', turn_exc (seqM_exc hL)⟩
    | ok t p1 =>
      rw [e] at hL bL
      obtain ⟨s3', hL⟩ := hL
      obtain ⟨b1, b2, b3⟩ := bL
      have g1 := set_get (o' := SX ts (p1 : Nat)) h
      have hR := ps_rest (fu := fu) (rk := rk) (r := r) hT hl t p1 _ g1 as fs s3' (by omega) (by omega)
      dsimp only
      unfold rdT
      by_cases h1 : kAt ts p1 = arS
      · rw [if_pos h1] at hR ⊢
        have hp1 := kAt_lt h1 (by decide +kernel)
        rw [turn_nx ((seqM_nx hL).trans hR)]
        rw [List.set_set]
        have al := args_len ts t
        have g2 := set_get (o' := SX ts ((p1 + 1 : Nat) : Int)) h
        have i := ps_loop hT hl K ih k (p1 + 1) n _ (as ++ [tyOf ts t]) (fs ++ leaves t) s3' (.val (tyOf ts t).d) (.val (.lst (leafD ts (leaves t)))) (by omega) (by omega) (by omega) (by rw [List.length_append, List.length_singleton]; omega) (by rw [List.length_append]; omega) g2
        cases e2 : rd ts k (p1 + 1) with
        | deep => trivial
        | stop q =>
          rw [e2] at i
          obtain ⟨fr', i⟩ := i
          rw [List.set_set] at i
          exact ⟨fr', i⟩
        | ok t2 p2 =>
          rw [e2] at i
          obtain ⟨fr', i⟩ := i
          rw [List.set_set] at i
          refine ⟨fr', i.trans ?_⟩
          rw [List.append_assoc, List.append_assoc]
          rfl
      · rw [if_neg h1] at hR ⊢
        exact ⟨_, turn_rt ((seqM_nx hL).trans hR)⟩
end
theorem sorts_ok {fu rk r : Nat} {ts : List Str} (hT : ∀ t ∈ ts, ST t) (hl : ts.length ≤ 100000) : ∀ (K j p : Nat) (S : List Ob), j ≤ K → K ≤ fu → p ≤ ts.length → S[r]? = some (SX ts p) → PRk ts r (rd ts j p) S (F_Syntax_sorts fu rk K [.ptr r] S)
  | 0, 0, _, _, _, _, _, _ => trivial
  | 0, j + 1, _, _, hj, _, _, _ => by omega
  | K + 1, j, p, S, hj, hK, hp, h => by
    have i := ps_loop (fu := fu) (rk := rk) (r := r) hT hl K (fun j p S hj hp h => sorts_ok (fu := fu) (rk := rk) hT hl K j p S hj (by omega) hp h) j p fu S [] [] .un .un .un hj (by omega) hp (by simp) (by simp) h
    have hF : F_Syntax_sorts fu rk (K + 1) [.ptr r] S = fin (M_Syntax_sorts fu rk (F_Syntax_sorts fu rk K) [.val (.ptr r), .un, .un, .un, .un, .un] S) := rfl
    rw [hF]
    unfold M_Syntax_sorts
    have hA : ((putOwn 1 [] >>= fun _ => putOwn 2 [] >>= fun _ => pure .nx) : Mo Fl) [.val (.ptr r), .un, .un, .un, .un, .un] S = .ok .nx [.val (.ptr r), .own [], .own [], .un, .un, .un] S := rfl
    rw [seqM_nx hA]
    cases e : rd ts j p with
    | deep => trivial
    | stop q =>
      rw [e] at i
      obtain ⟨fr', i⟩ := i
      show fin (_) = _
      have i2 := congrArg fin i
      exact i2
    | ok t p1 =>
      rw [e] at i
      obtain ⟨fr', i⟩ := i
      have i2 := congrArg fin i
      refine Eq.trans i2 ?_
      rw [List.nil_append, List.nil_append, ← Ty.eta]
      rfl
end K70
set_option Elab.async false
set_option linter.all false
set_option maxRecDepth 100000
set_option maxHeartbeats 4000000
/-! Y24: Meaning.kind, Meaning.finish. -/
namespace Z
open PySem L2
theorem loop_step {f : D → Mo Unit} {b : Mo Fl} {d : D} {r : List D} {fr fr1 fr2 : List Sl} {S S1 S2 : List Ob} (h1 : f d fr S = .ok () fr1 S1) (h2 : b fr1 S1 = .ok .nx fr2 S2) : loopM f b (d :: r) fr S = loopM f b r fr2 S2 := by
  show Rs.bind (f d fr S) (fun _ => turnM b (loopM f b r)) = _
  rw [h1]
  show turnM b (loopM f b r) fr1 S1 = _
  exact turn_nx h2
end Z
namespace K70
open PySem L2 Z
/-- what a word adds to the wrong tokens -/
def mwr (ts : List Str) (last : Bool) (j : Nat) : List Int := (if 8 < (L (pk ts j)).length then [(j : Int)] else []) ++ (if pk ts j = "o" ∧ last = false then [(j : Int)] else [])
def wl (ts : List Str) : List Nat → List Int
  | [] => []
  | j :: r => mwr ts r.isEmpty j ++ wl ts r
abbrev MX (ws : List Int) : Ob := .ins 1 [("constants", .ownd []), ("holes", .ownd []), ("wrong", .own (ws.map .int))]
abbrev MZ (ws : List Int) : Ob := .ins 1 [("constants", .ownd []), ("holes", .ownd []), ("wrong", .val (.lst (ws.map .int)))]
theorem mwr_len (ts : List Str) (b : Bool) (j : Nat) : (mwr ts b j).length ≤ 2 := by
  unfold mwr
  rw [List.length_append]
  split <;> split <;> simp
theorem gtD_len {s : Str} (h : (L s).length ≤ 1000) : lenD (.str s) = some (.int ((L s).length : Nat)) := by
  rw [lenD_str (by rw [len_L, sizeLine_eq]; omega), len_L]
section
variable {fu rk r : Nat} {S : List Ob} {ts : List Str} {ws : List Int}
theorem chk_mx {fr : List Sl} (h : S[r]? = some (MX ws)) (nm : Str) (hn : (nm == "constants") = false) (hn2 : (nm == "holes") = false) (hn3 : (nm == "wrong") = false) : chkIns 1 nm (.ptr r) fr S = .ok () fr S := by
  unfold chkIns
  simp only [h, List.lookup, hn, hn2, hn3]
  rfl
theorem app_wr {fr : List Sl} {g : Pr} {j : Int} (h : S[r]? = some (MX ws)) (hs : slotPtr 0 fr = some r) (hg : g fr S = some (.int j)) (hl : ws.length ≤ 1000000) : appFM 1 "wrong" 0 g fr S = .ok .non fr (S.set r (MX (ws ++ [j]))) := by
  have e : (([("constants", .ownd []), ("holes", .ownd []), ("wrong", .own (ws.map .int))] : List (Str × Sl)).lookup (PySem.Str.ofString "wrong")) = some (.own (ws.map .int)) := rfl
  have c : (ws.map D.int).length < sizeLine := by rw [List.length_map, sizeLine_eq]; omega
  unfold appFM
  simp only [hs, h, e, hg, if_pos c, if_true]
  have e2 : ws.map D.int ++ [D.int j] = (ws ++ [j]).map D.int := by rw [List.map_append]; rfl
  rw [e2]
  rfl
theorem look_ok {w : Str} {j : Nat} (h : S[r]? = some (MX ws)) (hw : (L w).length ≤ 1000) (hl : ws.length ≤ 1000000) :
    F_Meaning_look fu rk [.ptr r, .tup [.str w, .int j]] S = .ok (.d .non) (S.set r (MX (ws ++ if 8 < (L w).length then [(j : Int)] else []))) := by
  have i0 : ∀ S : List Ob, ixS (.tup [.str w, .int j]) (.int 0) S = some (.str w) := fun _ => rfl
  have e := gtD_len hw
  have g : gtD (.int ((L w).length : Nat)) (.int 8) = some (.bl (decide (8 < (L w).length))) := gtD_nat (L w).length 8
  have a := app_wr (fr := [.val (.ptr r), .val (.tup [.str w, .int j])]) (g := prIx (prV 1) (prK (.int 1))) (j := j) h rfl rfl hl
  unfold F_Meaning_look M_Meaning_look
  by_cases z : 8 < (L w).length
  · rw [decide_eq_true z] at g
    rw [if_pos z]
    have g' : decide ((8 : Int) < ((L w).length : Nat)) = true := by rw [decide_eq_true_eq]; omega
    simp only [Z.fv_cons, Z.fv_nil, atI_0, atI_1, atI_2, atI_3, atI_4, ixNc_0, ixNc_1, ixNc_2, ixNc_3, mo_bind, mo_pure, bind_ok, bind_exc, bind_stuck, Z.getV, Z.putV, Z.putOwn, Z.putBox, Z.rdOwn, Z.ownAt, Z.seqM, Z.asgM, Z.ifM, Z.andM, Z.orM, Z.notM, Z.asB, Z.bin2, Z.un1, Z.ofO, Z.ofS, Z.ixM, Z.blt1M, Z.blt1O, Z.deref, Z.slM, Z.slMU, Z.partM, Z.tupM, Z.lstM, Z.catM, Z.argsM, Z.callM, Z.callMU, Z.callF, Z.callU, Z.truM, Z.setIxM, Z.putIx, Z.augM, Z.fin, Z.fr0, Z.funM, Z.ltD, Z.leD, Z.gtD, Z.geD, Z.iiD, Z.iiC, Z.subD, Z.intD, List.getElem?_map, List.length_map, List.getElem?_cons_zero, List.getElem?_cons_succ, List.set_cons_zero, List.set_cons_succ, List.cons_append, List.nil_append, List.append_nil, List.replicate_succ, List.replicate_zero, if_true, if_false, Bool.false_eq_true, Option.bind_some, Option.map_some, Option.bind_none, Option.map_none, Bool.not_true, Bool.not_false, Z.turnM, Z.tgTup, Z.tgCons, Z.tgNil, Z.appM, Z.extM, Z.parM, List.length_cons, List.length_nil, i0, e, g', a]
  · rw [if_neg z, List.append_nil, st_same h]
    have g' : decide ((8 : Int) < ((L w).length : Nat)) = false := by rw [decide_eq_false_iff_not]; omega
    simp only [Z.fv_cons, Z.fv_nil, atI_0, atI_1, atI_2, atI_3, atI_4, ixNc_0, ixNc_1, ixNc_2, ixNc_3, mo_bind, mo_pure, bind_ok, bind_exc, bind_stuck, Z.getV, Z.putV, Z.putOwn, Z.putBox, Z.rdOwn, Z.ownAt, Z.seqM, Z.asgM, Z.ifM, Z.andM, Z.orM, Z.notM, Z.asB, Z.bin2, Z.un1, Z.ofO, Z.ofS, Z.ixM, Z.blt1M, Z.blt1O, Z.deref, Z.slM, Z.slMU, Z.partM, Z.tupM, Z.lstM, Z.catM, Z.argsM, Z.callM, Z.callMU, Z.callF, Z.callU, Z.truM, Z.setIxM, Z.putIx, Z.augM, Z.fin, Z.fr0, Z.funM, Z.ltD, Z.leD, Z.gtD, Z.geD, Z.iiD, Z.iiC, Z.subD, Z.intD, List.getElem?_map, List.length_map, List.getElem?_cons_zero, List.getElem?_cons_succ, List.set_cons_zero, List.set_cons_succ, List.cons_append, List.nil_append, List.append_nil, List.replicate_succ, List.replicate_zero, if_true, if_false, Bool.false_eq_true, Option.bind_some, Option.map_some, Option.bind_none, Option.map_none, Bool.not_true, Bool.not_false, Z.turnM, Z.tgTup, Z.tgCons, Z.tgNil, Z.appM, Z.extM, Z.parM, List.length_cons, List.length_nil, i0, e, g']
theorem mk_loop (hT : ∀ t ∈ ts, ST t) {n : Nat} {d1 d3 : D} {wl0 : List D} (hn : n ≤ 100000) (hw : wl0.length = n) : ∀ (js : List Nat) (i : Nat) (ws : List Int) (S : List Ob) (s5 s6 : Sl), S[r]? = some (MX ws) → i + js.length = n → ws.length ≤ 2 * i →
    ∃ s5' s6', loopM (tgTup 2 (tgCons (putV 5) (tgCons (putV 6) tgNil))) (seqM ((methM 1 "look" (F_Meaning_look fu rk) (getV 0) [(getV 6)] []) >>= fun _ => pure .nx)
    (ifM (Z.andM (asB (bin2 (ixM (getV 6) (pure (.int 0))) (pure (.str "o")) eqD)) (Z.notM (Z.andM (truM (getV 2)) (asB (bin2 (getV 5) (bin2 (blt1M lenD (getV 4)) (pure (.int 1)) subD) eqD))))) ((appFM 1 "wrong" 0 (prIx (prV 6) (prK (.int 1)))) >>= fun _ => pure .nx) (pure .nx))) (enumD i (leafD ts js)) [.val (.ptr r), .val d1, .val (.bl true), .val d3, .val (.lst wl0), s5, s6] S =
      .ok .nx [.val (.ptr r), .val d1, .val (.bl true), .val d3, .val (.lst wl0), s5', s6'] (S.set r (MX (ws ++ wl ts js)))
  | [], i, ws, S, s5, s6, h, _, _ => ⟨s5, s6, by rw [wl, List.append_nil, st_same h]; rfl⟩
  | j :: js, i, ws, S, s5, s6, h, hi, hl => by
    rw [List.length_cons] at hi
    have hpl : (L (pk ts j)).length ≤ 1000 := pk_len hT j
    have lk := look_ok (fu := fu) (rk := rk) (w := pk ts j) (j := j) h hpl (by omega)
    have hsk := pk_sk hT j
    have ck := chk_mx (fr := [.val (.ptr r), .val d1, .val (.bl true), .val d3, .val (.lst wl0), .val (.int (i : Nat)), .val (.tup [.str (pk ts j), .int j])]) h "look" (by decide +kernel) (by decide +kernel) (by decide +kernel)
    have i0 : ∀ S : List Ob, ixS (.tup [.str (pk ts j), .int j]) (.int 0) S = some (.str (pk ts j)) := fun _ => rfl
    have eo : eqD (.str (pk ts j)) (.str "o") = some (.bl (decide (pk ts j = "o"))) := eqD_str hsk (by decide +kernel)
    have el : lenD (.lst wl0) = some (.int (n : Int)) := by rw [lenD_lst _ (by omega), hw]
    have ei : eqD (.int (i : Nat)) (.int ((n : Int) - 1)) = some (.bl js.isEmpty) := by
      rw [eqD_int]
      have : decide (((i : Nat) : Int) = (n : Int) - 1) = js.isEmpty := by
        cases js with
        | nil => simp at hi; simp; omega
        | cons a b => simp at hi; simp; omega
      rw [this]
    have hfa : ∀ b : Bool, truD (.bl b) = some b := fun _ => rfl
    have enum1 : enumD i (leafD ts (j :: js)) = .tup [.int (i : Nat), .tup [.str (pk ts j), .int j]] :: enumD (i + 1) (leafD ts js) := rfl
    rw [enum1]
    have hf : ((tgTup 2 (tgCons (putV 5) (tgCons (putV 6) tgNil))) : D → Mo Unit) (.tup [.int (i : Nat), .tup [.str (pk ts j), .int j]]) [.val (.ptr r), .val d1, .val (.bl true), .val d3, .val (.lst wl0), s5, s6] S = .ok () [.val (.ptr r), .val d1, .val (.bl true), .val d3, .val (.lst wl0), .val (.int (i : Nat)), .val (.tup [.str (pk ts j), .int j])] S := rfl
    generalize hws1 : (ws ++ if 8 < (L (pk ts j)).length then [(j : Int)] else []) = ws1 at lk
    have h1 := set_get (o' := MX ws1) h
    have hl1 : ws1.length ≤ 2 * i + 1 := by
      rw [← hws1, List.length_append]
      split <;> simp <;> omega
    have a := app_wr (fr := [.val (.ptr r), .val d1, .val (.bl true), .val d3, .val (.lst wl0), .val (.int (i : Nat)), .val (.tup [.str (pk ts j), .int j])]) (g := prIx (prV 6) (prK (.int 1))) (j := j) h1 rfl rfl (by omega)
    rw [List.set_set] at a
    have wle : wl ts (j :: js) = (if 8 < (L (pk ts j)).length then [(j : Int)] else []) ++ (if pk ts j = "o" ∧ js.isEmpty = false then [(j : Int)] else []) ++ wl ts js := rfl
    rw [wle, ← List.append_assoc, ← List.append_assoc, hws1]
    by_cases z : pk ts j = "o"
    · rw [decide_eq_true z] at eo
      cases z2 : js.isEmpty with
      | true =>
        rw [z2] at ei
        rw [if_neg (by simp), List.append_nil]
        obtain ⟨s5', s6', ih⟩ := mk_loop hT hn hw js (i + 1) ws1 (S.set r (MX ws1)) (.val (.int (i : Nat))) (.val (.tup [.str (pk ts j), .int j])) h1 (by omega) (by omega)
        rw [List.set_set] at ih
        refine ⟨s5', s6', (loop_step hf ?_).trans ih⟩
        simp only [Z.fv_cons, Z.fv_nil, atI_0, atI_1, atI_2, atI_3, atI_4, ixNc_0, ixNc_1, ixNc_2, ixNc_3, mo_bind, mo_pure, bind_ok, bind_exc, bind_stuck, Z.getV, Z.putV, Z.putOwn, Z.putBox, Z.rdOwn, Z.ownAt, Z.seqM, Z.asgM, Z.ifM, Z.andM, Z.orM, Z.notM, Z.asB, Z.bin2, Z.un1, Z.ofO, Z.ofS, Z.ixM, Z.blt1M, Z.blt1O, Z.deref, Z.slM, Z.slMU, Z.partM, Z.tupM, Z.lstM, Z.catM, Z.argsM, Z.callM, Z.callMU, Z.callF, Z.callU, Z.truM, Z.setIxM, Z.putIx, Z.augM, Z.fin, Z.fr0, Z.funM, Z.ltD, Z.leD, Z.gtD, Z.geD, Z.iiD, Z.iiC, Z.subD, Z.intD, List.getElem?_map, List.length_map, List.getElem?_cons_zero, List.getElem?_cons_succ, List.set_cons_zero, List.set_cons_succ, List.cons_append, List.nil_append, List.append_nil, List.replicate_succ, List.replicate_zero, if_true, if_false, Bool.false_eq_true, Option.bind_some, Option.map_some, Option.bind_none, Option.map_none, Bool.not_true, Bool.not_false, Z.turnM, Z.tgTup, Z.tgCons, Z.tgNil, Z.appM, Z.extM, Z.parM, List.length_cons, List.length_nil, Z.methM, ck, lk, i0, eo, hfa, el, ei]
      | false =>
        rw [z2] at ei
        rw [if_pos ⟨z, rfl⟩]
        obtain ⟨s5', s6', ih⟩ := mk_loop hT hn hw js (i + 1) (ws1 ++ [(j : Int)]) (S.set r (MX (ws1 ++ [(j : Int)]))) (.val (.int (i : Nat))) (.val (.tup [.str (pk ts j), .int j])) (set_get h) (by omega) (by rw [List.length_append, List.length_singleton]; omega)
        rw [List.set_set] at ih
        refine ⟨s5', s6', (loop_step hf ?_).trans ih⟩
        simp only [Z.fv_cons, Z.fv_nil, atI_0, atI_1, atI_2, atI_3, atI_4, ixNc_0, ixNc_1, ixNc_2, ixNc_3, mo_bind, mo_pure, bind_ok, bind_exc, bind_stuck, Z.getV, Z.putV, Z.putOwn, Z.putBox, Z.rdOwn, Z.ownAt, Z.seqM, Z.asgM, Z.ifM, Z.andM, Z.orM, Z.notM, Z.asB, Z.bin2, Z.un1, Z.ofO, Z.ofS, Z.ixM, Z.blt1M, Z.blt1O, Z.deref, Z.slM, Z.slMU, Z.partM, Z.tupM, Z.lstM, Z.catM, Z.argsM, Z.callM, Z.callMU, Z.callF, Z.callU, Z.truM, Z.setIxM, Z.putIx, Z.augM, Z.fin, Z.fr0, Z.funM, Z.ltD, Z.leD, Z.gtD, Z.geD, Z.iiD, Z.iiC, Z.subD, Z.intD, List.getElem?_map, List.length_map, List.getElem?_cons_zero, List.getElem?_cons_succ, List.set_cons_zero, List.set_cons_succ, List.cons_append, List.nil_append, List.append_nil, List.replicate_succ, List.replicate_zero, if_true, if_false, Bool.false_eq_true, Option.bind_some, Option.map_some, Option.bind_none, Option.map_none, Bool.not_true, Bool.not_false, Z.turnM, Z.tgTup, Z.tgCons, Z.tgNil, Z.appM, Z.extM, Z.parM, List.length_cons, List.length_nil, Z.methM, ck, lk, i0, eo, hfa, el, ei, a]
    · rw [decide_eq_false z] at eo
      rw [if_neg (fun y => z y.1), List.append_nil]
      obtain ⟨s5', s6', ih⟩ := mk_loop hT hn hw js (i + 1) ws1 (S.set r (MX ws1)) (.val (.int (i : Nat))) (.val (.tup [.str (pk ts j), .int j])) h1 (by omega) (by omega)
      rw [List.set_set] at ih
      refine ⟨s5', s6', (loop_step hf ?_).trans ih⟩
      simp only [Z.fv_cons, Z.fv_nil, atI_0, atI_1, atI_2, atI_3, atI_4, ixNc_0, ixNc_1, ixNc_2, ixNc_3, mo_bind, mo_pure, bind_ok, bind_exc, bind_stuck, Z.getV, Z.putV, Z.putOwn, Z.putBox, Z.rdOwn, Z.ownAt, Z.seqM, Z.asgM, Z.ifM, Z.andM, Z.orM, Z.notM, Z.asB, Z.bin2, Z.un1, Z.ofO, Z.ofS, Z.ixM, Z.blt1M, Z.blt1O, Z.deref, Z.slM, Z.slMU, Z.partM, Z.tupM, Z.lstM, Z.catM, Z.argsM, Z.callM, Z.callMU, Z.callF, Z.callU, Z.truM, Z.setIxM, Z.putIx, Z.augM, Z.fin, Z.fr0, Z.funM, Z.ltD, Z.leD, Z.gtD, Z.geD, Z.iiD, Z.iiC, Z.subD, Z.intD, List.getElem?_map, List.length_map, List.getElem?_cons_zero, List.getElem?_cons_succ, List.set_cons_zero, List.set_cons_succ, List.cons_append, List.nil_append, List.append_nil, List.replicate_succ, List.replicate_zero, if_true, if_false, Bool.false_eq_true, Option.bind_some, Option.map_some, Option.bind_none, Option.map_none, Bool.not_true, Bool.not_false, Z.turnM, Z.tgTup, Z.tgCons, Z.tgNil, Z.appM, Z.extM, Z.parM, List.length_cons, List.length_nil, Z.methM, ck, lk, i0, eo]
theorem mkind_ok (hT : ∀ t ∈ ts, ST t) {js : List Nat} {ty : D} (hn : js.length ≤ 100000) (h : S[r]? = some (MX [])) :
    F_Meaning_kind fu rk [.ptr r, .tup [ty, .lst (leafD ts js)], .bl true] S = .ok (.d ty) (S.set r (MX (wl ts js))) := by
  obtain ⟨s5, s6, e⟩ := mk_loop (fu := fu) (rk := rk) (d1 := .tup [ty, .lst (leafD ts js)]) (d3 := ty) (wl0 := leafD ts js) hT hn (leafD_len ts js) js 0 [] S .un .un h (by omega) (by simp)
  have it : itE [.lst (leafD ts js)] = some (enumD 0 (leafD ts js)) := rfl
  rw [List.nil_append] at e
  simp only [Z.fv_cons, Z.fv_nil, atI_0, atI_1, atI_2, atI_3, atI_4, ixNc_0, ixNc_1, ixNc_2, ixNc_3, mo_bind, mo_pure, bind_ok, bind_exc, bind_stuck, Z.getV, Z.putV, Z.putOwn, Z.putBox, Z.rdOwn, Z.ownAt, Z.seqM, Z.asgM, Z.ifM, Z.andM, Z.orM, Z.notM, Z.asB, Z.bin2, Z.un1, Z.ofO, Z.ofS, Z.ixM, Z.blt1M, Z.blt1O, Z.deref, Z.slM, Z.slMU, Z.partM, Z.tupM, Z.lstM, Z.catM, Z.argsM, Z.callM, Z.callMU, Z.callF, Z.callU, Z.truM, Z.setIxM, Z.putIx, Z.augM, Z.fin, Z.fr0, Z.funM, Z.ltD, Z.leD, Z.gtD, Z.geD, Z.iiD, Z.iiC, Z.subD, Z.intD, List.getElem?_map, List.length_map, List.getElem?_cons_zero, List.getElem?_cons_succ, List.set_cons_zero, List.set_cons_succ, List.cons_append, List.nil_append, List.append_nil, List.replicate_succ, List.replicate_zero, if_true, if_false, Bool.false_eq_true, Option.bind_some, Option.map_some, Option.bind_none, Option.map_none, Bool.not_true, Bool.not_false, Z.turnM, Z.tgTup, Z.tgCons, Z.tgNil, Z.appM, Z.extM, Z.parM, List.length_cons, List.length_nil, Z.methM] at e
  unfold F_Meaning_kind M_Meaning_kind
  simp only [Z.fv_cons, Z.fv_nil, atI_0, atI_1, atI_2, atI_3, atI_4, ixNc_0, ixNc_1, ixNc_2, ixNc_3, mo_bind, mo_pure, bind_ok, bind_exc, bind_stuck, Z.getV, Z.putV, Z.putOwn, Z.putBox, Z.rdOwn, Z.ownAt, Z.seqM, Z.asgM, Z.ifM, Z.andM, Z.orM, Z.notM, Z.asB, Z.bin2, Z.un1, Z.ofO, Z.ofS, Z.ixM, Z.blt1M, Z.blt1O, Z.deref, Z.slM, Z.slMU, Z.partM, Z.tupM, Z.lstM, Z.catM, Z.argsM, Z.callM, Z.callMU, Z.callF, Z.callU, Z.truM, Z.setIxM, Z.putIx, Z.augM, Z.fin, Z.fr0, Z.funM, Z.ltD, Z.leD, Z.gtD, Z.geD, Z.iiD, Z.iiC, Z.subD, Z.intD, List.getElem?_map, List.length_map, List.getElem?_cons_zero, List.getElem?_cons_succ, List.set_cons_zero, List.set_cons_succ, List.cons_append, List.nil_append, List.append_nil, List.replicate_succ, List.replicate_zero, if_true, if_false, Bool.false_eq_true, Option.bind_some, Option.map_some, Option.bind_none, Option.map_none, Bool.not_true, Bool.not_false, Z.turnM, Z.tgTup, Z.tgCons, Z.tgNil, Z.appM, Z.extM, Z.parM, List.length_cons, List.length_nil, Z.methM, Z.forM, it, e]
theorem ints_map (ws : List Int) : intsOf (ws.map D.int) = some ws := by
  induction ws with
  | nil => rfl
  | cons a r ih =>
    show (intsOf (r.map D.int)).map (a :: ·) = _
    rw [ih]
    rfl
theorem get_wr {fr : List Sl} (h : S[r]? = some (MX ws)) : getZ 1 "wrong" (.ptr r) fr S = .ok (.lst (ws.map .int)) fr (S.set r (MZ ws)) := by
  unfold getZ
  simp only [h]
  rfl
theorem get_wr2 {fr : List Sl} (h : S[r]? = some (MZ ws)) : getZ 1 "wrong" (.ptr r) fr S = .ok (.lst (ws.map .int)) fr S := by
  unfold getZ
  simp only [h]
  rfl
theorem mfinish_yes (h : S[r]? = some (MX [])) : F_Meaning_finish fu rk [.ptr r] S = .ok (.d .non) (S.set r (MZ [])) := by
  have tr : truD (.lst (([] : List Int).map .int)) = some false := rfl
  unfold F_Meaning_finish M_Meaning_finish
  simp only [Z.fv_cons, Z.fv_nil, atI_0, atI_1, atI_2, atI_3, atI_4, ixNc_0, ixNc_1, ixNc_2, ixNc_3, mo_bind, mo_pure, bind_ok, bind_exc, bind_stuck, Z.getV, Z.putV, Z.putOwn, Z.putBox, Z.rdOwn, Z.ownAt, Z.seqM, Z.asgM, Z.ifM, Z.andM, Z.orM, Z.notM, Z.asB, Z.bin2, Z.un1, Z.ofO, Z.ofS, Z.ixM, Z.blt1M, Z.blt1O, Z.deref, Z.slM, Z.slMU, Z.partM, Z.tupM, Z.lstM, Z.catM, Z.argsM, Z.callM, Z.callMU, Z.callF, Z.callU, Z.truM, Z.setIxM, Z.putIx, Z.augM, Z.fin, Z.fr0, Z.funM, Z.ltD, Z.leD, Z.gtD, Z.geD, Z.iiD, Z.iiC, Z.subD, Z.intD, List.getElem?_map, List.length_map, List.getElem?_cons_zero, List.getElem?_cons_succ, List.set_cons_zero, List.set_cons_succ, List.cons_append, List.nil_append, List.append_nil, List.replicate_succ, List.replicate_zero, if_true, if_false, Bool.false_eq_true, Option.bind_some, Option.map_some, Option.bind_none, Option.map_none, Bool.not_true, Bool.not_false, Z.turnM, Z.tgTup, Z.tgCons, Z.tgNil, Z.appM, Z.extM, Z.parM, List.length_cons, List.length_nil, Z.fldZ, get_wr h, tr]
theorem mfinish_no (h : S[r]? = some (MX ws)) (hw : ws ≠ []) (hs : ∀ x ∈ ws, 0 ≤ x ∧ x ≤ 100000) : F_Meaning_finish fu rk [.ptr r] S = .exc ⟨2, leastI ws⟩ (S.set r (MZ ws)) := by
  have tr : truD (.lst (ws.map .int)) = some true := by cases ws <;> first | exact absurd rfl hw | rfl
  have h1 := set_get (o' := MZ ws) h
  have hl : 0 < ws.length := List.length_pos_iff.mpr hw
  have mn : minD (.lst (ws.map .int)) = some (.int (leastI ws)) := by
    show (intsOf (ws.map D.int)).bind (fun ns => if 0 < ns.length then some (D.int (leastI ns)) else none) = _
    rw [ints_map]
    show (if 0 < ws.length then some (D.int (leastI ws)) else none) = _
    rw [if_pos hl]
  have sm : small64 (leastI ws) = true := by
    have := hs _ (leastI_spec hl).1
    rw [small64_iff]; omega
  unfold F_Meaning_finish M_Meaning_finish
  simp only [Z.fv_cons, Z.fv_nil, atI_0, atI_1, atI_2, atI_3, atI_4, ixNc_0, ixNc_1, ixNc_2, ixNc_3, mo_bind, mo_pure, bind_ok, bind_exc, bind_stuck, Z.getV, Z.putV, Z.putOwn, Z.putBox, Z.rdOwn, Z.ownAt, Z.seqM, Z.asgM, Z.ifM, Z.andM, Z.orM, Z.notM, Z.asB, Z.bin2, Z.un1, Z.ofO, Z.ofS, Z.ixM, Z.blt1M, Z.blt1O, Z.deref, Z.slM, Z.slMU, Z.partM, Z.tupM, Z.lstM, Z.catM, Z.argsM, Z.callM, Z.callMU, Z.callF, Z.callU, Z.truM, Z.setIxM, Z.putIx, Z.augM, Z.fin, Z.fr0, Z.funM, Z.ltD, Z.leD, Z.gtD, Z.geD, Z.iiD, Z.iiC, Z.subD, Z.intD, List.getElem?_map, List.length_map, List.getElem?_cons_zero, List.getElem?_cons_succ, List.set_cons_zero, List.set_cons_succ, List.cons_append, List.nil_append, List.append_nil, List.replicate_succ, List.replicate_zero, if_true, if_false, Bool.false_eq_true, Option.bind_some, Option.map_some, Option.bind_none, Option.map_none, Bool.not_true, Bool.not_false, Z.turnM, Z.tgTup, Z.tgCons, Z.tgNil, Z.appM, Z.extM, Z.parM, List.length_cons, List.length_nil, Z.fldZ, get_wr h, tr, get_wr2 h1, Z.blt1M, Z.raiseM, mn, sm]
end
end K70
set_option Elab.async false
set_option linter.all false
set_option maxRecDepth 100000
set_option maxHeartbeats 4000000
/-! Y25: _law_kind_of. -/
namespace K70
open PySem L2 Z
/-- the law's least wrong token, and one more -/
def lw (x y : Int) : Int := if x < 0 ∨ y < x then y else x
/-- the wrong tokens of a tree -/
def wrT (ts : List Str) : Tr → Bool → List Int
  | .word j, whole => mwr ts whole j
  | .to l r, whole => wrT ts l false ++ wrT ts r whole
def ht : Tr → Nat
  | .word _ => 1
  | .to l r => 1 + max (ht l) (ht r)
theorem leaves_ne : ∀ t : Tr, leaves t ≠ []
  | .word k => by simp [leaves]
  | .to l r => by simp [leaves, leaves_ne l]
theorem wl_app (ts : List Str) (b : List Nat) (hb : b ≠ []) : ∀ a : List Nat, wl ts (a ++ b) = a.flatMap (mwr ts false) ++ wl ts b
  | [] => rfl
  | j :: a => by
    rw [List.cons_append, wl, wl_app ts b hb a, List.flatMap_cons, List.append_assoc]
    have : (a ++ b).isEmpty = false := by cases a <;> cases b <;> first | exact absurd rfl hb | rfl
    rw [this]
theorem wrT_false (ts : List Str) : ∀ t : Tr, wrT ts t false = (leaves t).flatMap (mwr ts false)
  | .word k => by simp [wrT, leaves]
  | .to l r => by rw [wrT, wrT_false ts l, wrT_false ts r, leaves, List.flatMap_append]
theorem wrT_true (ts : List Str) : ∀ t : Tr, wrT ts t true = wl ts (leaves t)
  | .word k => by simp [wrT, leaves, wl]
  | .to l r => by rw [wrT, wrT_false ts l, wrT_true ts r, leaves, wl_app ts _ (leaves_ne r)]
theorem mwr_nn (ts : List Str) (b : Bool) (j : Nat) : ∀ x ∈ mwr ts b j, x = (j : Int) := by
  intro x hx
  unfold mwr at hx
  rcases List.mem_append.mp hx with z | z
  · split at z
    · simpa using z
    · simp at z
  · split at z
    · simpa using z
    · simp at z
theorem wl_nn (ts : List Str) : ∀ js : List Nat, ∀ x ∈ wl ts js, ∃ j ∈ js, x = (j : Int)
  | [], x, hx => by simp [wl] at hx
  | j :: r, x, hx => by
    rw [wl] at hx
    rcases List.mem_append.mp hx with z | z
    · exact ⟨j, by simp, mwr_nn ts _ j x z⟩
    · obtain ⟨k, h1, h2⟩ := wl_nn ts r x z
      exact ⟨k, by simp [h1], h2⟩
theorem least_cons (a b : Int) (r : List Int) : leastI (a :: b :: r) = min a (leastI (b :: r)) := rfl
theorem lw_fold : ∀ (ws : List Int) (x : Int), 0 ≤ x → (∀ y ∈ ws, 0 ≤ y) → ws.foldl lw x = leastI (x :: ws)
  | [], x, _, _ => rfl
  | y :: r, x, hx, hw => by
    have hy := hw y (by simp)
    have e : lw x y = min x y := by
      unfold lw
      split <;> omega
    rw [List.foldl_cons, e, lw_fold r (min x y) (by omega) (fun z hz => hw z (by simp [hz])), least_cons]
    cases r with
    | nil => rfl
    | cons z r => rw [least_cons, least_cons]; omega
theorem lw_all (ws : List Int) (h : ∀ y ∈ ws, 0 ≤ y) : ws.foldl lw (-1) = if ws = [] then -1 else leastI ws := by
  cases ws with
  | nil => rfl
  | cons y r =>
    rw [if_neg (by simp), List.foldl_cons]
    have hy := h y (by simp)
    have e : lw (-1) y = y := by unfold lw; rw [if_pos (by omega)]
    rw [e, lw_fold r y hy (fun z hz => h z (by simp [hz]))]
abbrev EX (ts : List Str) (x : Int) : Ob := .lst [.lst [], .lst [], .lst (ts.map .str), .int x]
section
variable {fu rk r : Nat} {S : List Ob} {ts : List Str} {x : Int}
theorem wrong_ok {j : Int} (h : S[r]? = some (EX ts x)) : F__law_wrong fu rk [.ptr r, .int j] S = .ok (.d .non) (S.set r (EX ts (lw x j))) := by
  have ix3 : ixN (0 + 1 + 1 + 1 + 1) 3 = some 3 := ixN_nat (i := 3) (by omega)
  unfold F__law_wrong M__law_wrong
  by_cases h1 : x < 0
  · have b : decide (x < 0) = true := decide_eq_true h1
    have e : lw x j = j := if_pos (.inl h1)
    simp only [Z.fv_cons, Z.fv_nil, atI_0, atI_1, atI_2, atI_3, atI_4, ixNc_0, ixNc_1, ixNc_2, ixNc_3, mo_bind, mo_pure, bind_ok, bind_exc, bind_stuck, Z.getV, Z.putV, Z.putOwn, Z.putBox, Z.rdOwn, Z.ownAt, Z.seqM, Z.asgM, Z.ifM, Z.andM, Z.orM, Z.notM, Z.asB, Z.bin2, Z.un1, Z.ofO, Z.ofS, Z.ixM, Z.blt1M, Z.blt1O, Z.deref, Z.slM, Z.slMU, Z.partM, Z.tupM, Z.lstM, Z.catM, Z.argsM, Z.callM, Z.callMU, Z.callF, Z.callU, Z.truM, Z.setIxM, Z.putIx, Z.augM, Z.fin, Z.fr0, Z.funM, Z.ltD, Z.leD, Z.gtD, Z.geD, Z.iiD, Z.iiC, Z.subD, Z.intD, List.getElem?_map, List.length_map, List.getElem?_cons_zero, List.getElem?_cons_succ, List.set_cons_zero, List.set_cons_succ, List.cons_append, List.nil_append, List.append_nil, List.replicate_succ, List.replicate_zero, if_true, if_false, Bool.false_eq_true, Option.bind_some, Option.map_some, Option.bind_none, Option.map_none, Bool.not_true, Bool.not_false, Z.turnM, Z.tgTup, Z.tgCons, Z.tgNil, Z.appM, Z.extM, Z.parM, List.length_cons, List.length_nil, ix3, ixS, atI_natZ, h, b, e]
  · have b : decide (x < 0) = false := decide_eq_false h1
    by_cases h2 : j < x
    · have b2 : decide (j < x) = true := decide_eq_true h2
      have e : lw x j = j := if_pos (.inr h2)
      simp only [Z.fv_cons, Z.fv_nil, atI_0, atI_1, atI_2, atI_3, atI_4, ixNc_0, ixNc_1, ixNc_2, ixNc_3, mo_bind, mo_pure, bind_ok, bind_exc, bind_stuck, Z.getV, Z.putV, Z.putOwn, Z.putBox, Z.rdOwn, Z.ownAt, Z.seqM, Z.asgM, Z.ifM, Z.andM, Z.orM, Z.notM, Z.asB, Z.bin2, Z.un1, Z.ofO, Z.ofS, Z.ixM, Z.blt1M, Z.blt1O, Z.deref, Z.slM, Z.slMU, Z.partM, Z.tupM, Z.lstM, Z.catM, Z.argsM, Z.callM, Z.callMU, Z.callF, Z.callU, Z.truM, Z.setIxM, Z.putIx, Z.augM, Z.fin, Z.fr0, Z.funM, Z.ltD, Z.leD, Z.gtD, Z.geD, Z.iiD, Z.iiC, Z.subD, Z.intD, List.getElem?_map, List.length_map, List.getElem?_cons_zero, List.getElem?_cons_succ, List.set_cons_zero, List.set_cons_succ, List.cons_append, List.nil_append, List.append_nil, List.replicate_succ, List.replicate_zero, if_true, if_false, Bool.false_eq_true, Option.bind_some, Option.map_some, Option.bind_none, Option.map_none, Bool.not_true, Bool.not_false, Z.turnM, Z.tgTup, Z.tgCons, Z.tgNil, Z.appM, Z.extM, Z.parM, List.length_cons, List.length_nil, ix3, ixS, atI_natZ, h, b, b2, e]
    · have b2 : decide (j < x) = false := decide_eq_false h2
      have e : lw x j = x := if_neg (by omega)
      rw [e, st_same h]
      simp only [Z.fv_cons, Z.fv_nil, atI_0, atI_1, atI_2, atI_3, atI_4, ixNc_0, ixNc_1, ixNc_2, ixNc_3, mo_bind, mo_pure, bind_ok, bind_exc, bind_stuck, Z.getV, Z.putV, Z.putOwn, Z.putBox, Z.rdOwn, Z.ownAt, Z.seqM, Z.asgM, Z.ifM, Z.andM, Z.orM, Z.notM, Z.asB, Z.bin2, Z.un1, Z.ofO, Z.ofS, Z.ixM, Z.blt1M, Z.blt1O, Z.deref, Z.slM, Z.slMU, Z.partM, Z.tupM, Z.lstM, Z.catM, Z.argsM, Z.callM, Z.callMU, Z.callF, Z.callU, Z.truM, Z.setIxM, Z.putIx, Z.augM, Z.fin, Z.fr0, Z.funM, Z.ltD, Z.leD, Z.gtD, Z.geD, Z.iiD, Z.iiC, Z.subD, Z.intD, List.getElem?_map, List.length_map, List.getElem?_cons_zero, List.getElem?_cons_succ, List.set_cons_zero, List.set_cons_succ, List.cons_append, List.nil_append, List.append_nil, List.replicate_succ, List.replicate_zero, if_true, if_false, Bool.false_eq_true, Option.bind_some, Option.map_some, Option.bind_none, Option.map_none, Bool.not_true, Bool.not_false, Z.turnM, Z.tgTup, Z.tgCons, Z.tgNil, Z.appM, Z.extM, Z.parM, List.length_cons, List.length_nil, ix3, ixS, atI_natZ, h, b, b2]
theorem long_ok {j : Nat} {w : Str} (h : S[r]? = some (EX ts x)) (hj : ts[j]? = some w) (hw : (L w).length ≤ 1000) :
    F__law_long_word fu rk [.ptr r, .int j] S = .ok (.d .non) (S.set r (EX ts ((if 8 < (L w).length then [(j : Int)] else []).foldl lw x))) := by
  have e := gtD_len hw
  have i1 : ∀ S : List Ob, ixS (.lst (ts.map .str)) (.int j) S = some (.str w) := fun S => ix_lst hj
  have i2 : ixS (.ptr r) (.int 2) S = some (.lst (ts.map .str)) := by
    show (match S[r]? with
      | some (.lst ds) => atI ds 2
      | _ => none) = _
    rw [h]
    rfl
  have a := wrong_ok (fu := fu) (rk := rk) (j := j) h
  unfold F__law_long_word M__law_long_word
  by_cases z : 8 < (L w).length
  · rw [if_pos z]
    have g' : decide ((8 : Int) < ((L w).length : Nat)) = true := by rw [decide_eq_true_eq]; omega
    simp only [Z.fv_cons, Z.fv_nil, atI_0, atI_1, atI_2, atI_3, atI_4, ixNc_0, ixNc_1, ixNc_2, ixNc_3, mo_bind, mo_pure, bind_ok, bind_exc, bind_stuck, Z.getV, Z.putV, Z.putOwn, Z.putBox, Z.rdOwn, Z.ownAt, Z.seqM, Z.asgM, Z.ifM, Z.andM, Z.orM, Z.notM, Z.asB, Z.bin2, Z.un1, Z.ofO, Z.ofS, Z.ixM, Z.blt1M, Z.blt1O, Z.deref, Z.slM, Z.slMU, Z.partM, Z.tupM, Z.lstM, Z.catM, Z.argsM, Z.callM, Z.callMU, Z.callF, Z.callU, Z.truM, Z.setIxM, Z.putIx, Z.augM, Z.fin, Z.fr0, Z.funM, Z.ltD, Z.leD, Z.gtD, Z.geD, Z.iiD, Z.iiC, Z.subD, Z.intD, List.getElem?_map, List.length_map, List.getElem?_cons_zero, List.getElem?_cons_succ, List.set_cons_zero, List.set_cons_succ, List.cons_append, List.nil_append, List.append_nil, List.replicate_succ, List.replicate_zero, if_true, if_false, Bool.false_eq_true, Option.bind_some, Option.map_some, Option.bind_none, Option.map_none, Bool.not_true, Bool.not_false, Z.turnM, Z.tgTup, Z.tgCons, Z.tgNil, Z.appM, Z.extM, Z.parM, List.length_cons, List.length_nil, i1, i2, e, g', a, List.foldl_cons, List.foldl_nil]
  · rw [if_neg z, List.foldl_nil, st_same h]
    have g' : decide ((8 : Int) < ((L w).length : Nat)) = false := by rw [decide_eq_false_iff_not]; omega
    simp only [Z.fv_cons, Z.fv_nil, atI_0, atI_1, atI_2, atI_3, atI_4, ixNc_0, ixNc_1, ixNc_2, ixNc_3, mo_bind, mo_pure, bind_ok, bind_exc, bind_stuck, Z.getV, Z.putV, Z.putOwn, Z.putBox, Z.rdOwn, Z.ownAt, Z.seqM, Z.asgM, Z.ifM, Z.andM, Z.orM, Z.notM, Z.asB, Z.bin2, Z.un1, Z.ofO, Z.ofS, Z.ixM, Z.blt1M, Z.blt1O, Z.deref, Z.slM, Z.slMU, Z.partM, Z.tupM, Z.lstM, Z.catM, Z.argsM, Z.callM, Z.callMU, Z.callF, Z.callU, Z.truM, Z.setIxM, Z.putIx, Z.augM, Z.fin, Z.fr0, Z.funM, Z.ltD, Z.leD, Z.gtD, Z.geD, Z.iiD, Z.iiC, Z.subD, Z.intD, List.getElem?_map, List.length_map, List.getElem?_cons_zero, List.getElem?_cons_succ, List.set_cons_zero, List.set_cons_succ, List.cons_append, List.nil_append, List.append_nil, List.replicate_succ, List.replicate_zero, if_true, if_false, Bool.false_eq_true, Option.bind_some, Option.map_some, Option.bind_none, Option.map_none, Bool.not_true, Bool.not_false, Z.turnM, Z.tgTup, Z.tgCons, Z.tgNil, Z.appM, Z.extM, Z.parM, List.length_cons, List.length_nil, i1, i2, e, g']
end
theorem kind_of_ok {fu rk r : Nat} {ts : List Str} (hT : ∀ t ∈ ts, ST t) : ∀ (k : Nat) (t : Tr) (whole : Bool) (x : Int) (S : List Ob), ht t ≤ k → k ≤ 1000 → (∀ j ∈ leaves t, kAt ts j = wdS) → (leaves t).length ≤ 100000 → S[r]? = some (EX ts x) →
    F__law_kind_of fu rk k [.ptr r, trD t, .bl whole] S = .ok (.d (tyOf ts t).d) (S.set r (EX ts ((wrT ts t whole).foldl lw x)))
  | 0, .word _, _, _, _, h, _, _, _, _ => by simp [ht] at h
  | 0, .to _ _, _, _, _, h, _, _, _, _ => by simp [ht] at h
  | k + 1, .word j, whole, x, S, _, _, hw, _, h => by
    have hj := hw j (by simp [leaves])
    obtain ⟨w, g, _, _⟩ := drop_k hj (by decide +kernel)
    have hpk := pk_get g
    have hT2 := hT w (List.mem_of_getElem? g)
    have hwl : (L w).length ≤ 1000 := by have := hT2.2; omega
    have hsk : sk w = true := sk_mk (l := L w) (ok_small hT2.1)
    have lg := long_ok (fu := fu) (rk := rk) h g hwl
    have e0 : eqD (.str "word") (.str "word") = some (.bl true) := by rw [eqD_str (by decide +kernel) (by decide +kernel)]; simp
    have eo : eqD (.str w) (.str "o") = some (.bl (decide (w = "o"))) := eqD_str hsk (by decide +kernel)
    have i1 : ∀ S : List Ob, ixS (.lst (ts.map .str)) (.int j) S = some (.str w) := fun S => ix_lst g
    have i2 : ∀ (S : List Ob) (x : Int), S[r]? = some (EX ts x) → ixS (.ptr r) (.int 2) S = some (.lst (ts.map .str)) := fun S x h => by
      show (match S[r]? with
        | some (.lst ds) => atI ds 2
        | _ => none) = _
      rw [h]
      rfl
    have j0 : ∀ S : List Ob, ixS (.lst [.str "word", .int j]) (.int 0) S = some (.str "word") := fun _ => rfl
    have j1 : ∀ S : List Ob, ixS (.lst [.str "word", .int j]) (.int 1) S = some (.int j) := fun _ => rfl
    generalize hx1 : (if 8 < (L w).length then [(j : Int)] else []).foldl lw x = x1 at lg
    have h1 := set_get (o' := EX ts x1) h
    have a := wrong_ok (fu := fu) (rk := rk) (j := j) h1
    rw [List.set_set] at a
    have h2 := set_get (o' := EX ts (lw x1 j)) h
    have tb : ∀ b : Bool, truD (.bl b) = some b := fun _ => rfl
    have ty : (tyOf ts (.word j)).d = .tup [.tup [], .str w] := by rw [tyOf, Ty.d, Ty.ds, hpk]
    have wr : (wrT ts (.word j) whole).foldl lw x = (if w = "o" ∧ whole = false then [(j : Int)] else []).foldl lw x1 := by
      rw [wrT, mwr, List.foldl_append, hpk, hx1]
    rw [ty, wr]
    show fin (M__law_kind_of fu rk (F__law_kind_of fu rk k) [.val (.ptr r), .val (.lst [.str "word", .int j]), .val (.bl whole), .un, .un] S) = _
    unfold M__law_kind_of
    by_cases z : w = "o"
    · rw [decide_eq_true z] at eo
      cases whole with
      | true =>
        rw [if_neg (by simp), List.foldl_nil]
        simp only [Z.fv_cons, Z.fv_nil, atI_0, atI_1, atI_2, atI_3, atI_4, ixNc_0, ixNc_1, ixNc_2, ixNc_3, mo_bind, mo_pure, bind_ok, bind_exc, bind_stuck, Z.getV, Z.putV, Z.putOwn, Z.putBox, Z.rdOwn, Z.ownAt, Z.seqM, Z.asgM, Z.ifM, Z.andM, Z.orM, Z.notM, Z.asB, Z.bin2, Z.un1, Z.ofO, Z.ofS, Z.ixM, Z.blt1M, Z.blt1O, Z.deref, Z.slM, Z.slMU, Z.partM, Z.tupM, Z.lstM, Z.catM, Z.argsM, Z.callM, Z.callMU, Z.callF, Z.callU, Z.truM, Z.setIxM, Z.putIx, Z.augM, Z.fin, Z.fr0, Z.funM, Z.ltD, Z.leD, Z.gtD, Z.geD, Z.iiD, Z.iiC, Z.subD, Z.intD, List.getElem?_map, List.length_map, List.getElem?_cons_zero, List.getElem?_cons_succ, List.set_cons_zero, List.set_cons_succ, List.cons_append, List.nil_append, List.append_nil, List.replicate_succ, List.replicate_zero, if_true, if_false, Bool.false_eq_true, Option.bind_some, Option.map_some, Option.bind_none, Option.map_none, Bool.not_true, Bool.not_false, Z.turnM, Z.tgTup, Z.tgCons, Z.tgNil, Z.appM, Z.extM, Z.parM, List.length_cons, List.length_nil, j0, j1, e0, lg, i1, i2 _ _ h1, eo, tb]
      | false =>
        rw [if_pos ⟨z, rfl⟩, List.foldl_cons, List.foldl_nil]
        simp only [Z.fv_cons, Z.fv_nil, atI_0, atI_1, atI_2, atI_3, atI_4, ixNc_0, ixNc_1, ixNc_2, ixNc_3, mo_bind, mo_pure, bind_ok, bind_exc, bind_stuck, Z.getV, Z.putV, Z.putOwn, Z.putBox, Z.rdOwn, Z.ownAt, Z.seqM, Z.asgM, Z.ifM, Z.andM, Z.orM, Z.notM, Z.asB, Z.bin2, Z.un1, Z.ofO, Z.ofS, Z.ixM, Z.blt1M, Z.blt1O, Z.deref, Z.slM, Z.slMU, Z.partM, Z.tupM, Z.lstM, Z.catM, Z.argsM, Z.callM, Z.callMU, Z.callF, Z.callU, Z.truM, Z.setIxM, Z.putIx, Z.augM, Z.fin, Z.fr0, Z.funM, Z.ltD, Z.leD, Z.gtD, Z.geD, Z.iiD, Z.iiC, Z.subD, Z.intD, List.getElem?_map, List.length_map, List.getElem?_cons_zero, List.getElem?_cons_succ, List.set_cons_zero, List.set_cons_succ, List.cons_append, List.nil_append, List.append_nil, List.replicate_succ, List.replicate_zero, if_true, if_false, Bool.false_eq_true, Option.bind_some, Option.map_some, Option.bind_none, Option.map_none, Bool.not_true, Bool.not_false, Z.turnM, Z.tgTup, Z.tgCons, Z.tgNil, Z.appM, Z.extM, Z.parM, List.length_cons, List.length_nil, j0, j1, e0, lg, i1, i2 _ _ h1, eo, tb, a, i2 _ _ h2]
    · rw [decide_eq_false z] at eo
      rw [if_neg (fun y => z y.1), List.foldl_nil]
      simp only [Z.fv_cons, Z.fv_nil, atI_0, atI_1, atI_2, atI_3, atI_4, ixNc_0, ixNc_1, ixNc_2, ixNc_3, mo_bind, mo_pure, bind_ok, bind_exc, bind_stuck, Z.getV, Z.putV, Z.putOwn, Z.putBox, Z.rdOwn, Z.ownAt, Z.seqM, Z.asgM, Z.ifM, Z.andM, Z.orM, Z.notM, Z.asB, Z.bin2, Z.un1, Z.ofO, Z.ofS, Z.ixM, Z.blt1M, Z.blt1O, Z.deref, Z.slM, Z.slMU, Z.partM, Z.tupM, Z.lstM, Z.catM, Z.argsM, Z.callM, Z.callMU, Z.callF, Z.callU, Z.truM, Z.setIxM, Z.putIx, Z.augM, Z.fin, Z.fr0, Z.funM, Z.ltD, Z.leD, Z.gtD, Z.geD, Z.iiD, Z.iiC, Z.subD, Z.intD, List.getElem?_map, List.length_map, List.getElem?_cons_zero, List.getElem?_cons_succ, List.set_cons_zero, List.set_cons_succ, List.cons_append, List.nil_append, List.append_nil, List.replicate_succ, List.replicate_zero, if_true, if_false, Bool.false_eq_true, Option.bind_some, Option.map_some, Option.bind_none, Option.map_none, Bool.not_true, Bool.not_false, Z.turnM, Z.tgTup, Z.tgCons, Z.tgNil, Z.appM, Z.extM, Z.parM, List.length_cons, List.length_nil, j0, j1, e0, lg, i1, i2 _ _ h1, eo]
  | k + 1, .to l t, whole, x, S, hh, hk, hw, hl, h => by
    simp only [ht] at hh
    simp only [leaves, List.length_append] at hl
    have i1 := kind_of_ok (fu := fu) (rk := rk) (r := r) hT k l false x S (by omega) (by omega) (fun j hj => hw j (by simp [leaves, hj])) (by omega) h
    have h1 := set_get (o' := EX ts ((wrT ts l false).foldl lw x)) h
    have i2 := kind_of_ok (fu := fu) (rk := rk) (r := r) hT k t whole _ _ (by omega) (by omega) (fun j hj => hw j (by simp [leaves, hj])) (by omega) h1
    rw [List.set_set] at i2
    have e0 : eqD (.str "to") (.str "word") = some (.bl false) := by rw [eqD_str (by decide +kernel) (by decide +kernel), decide_eq_false (by decide +kernel)]
    have j0 : ∀ S : List Ob, ixS (.lst [.str "to", trD l, trD t]) (.int 0) S = some (.str "to") := fun _ => rfl
    have j1 : ∀ S : List Ob, ixS (.lst [.str "to", trD l, trD t]) (.int 1) S = some (trD l) := fun _ => rfl
    have j2 : ∀ S : List Ob, ixS (.lst [.str "to", trD l, trD t]) (.int 2) S = some (trD t) := fun _ => rfl
    have al := args_len ts t
    have ix0 : ∀ S : List Ob, ixS (.tup [.tup (Ty.ds (tyOf ts t).args), .str (tyOf ts t).sort]) (.int 0) S = some (.tup (Ty.ds (tyOf ts t).args)) := fun _ => rfl
    have ix1 : ∀ S : List Ob, ixS (.tup [.tup (Ty.ds (tyOf ts t).args), .str (tyOf ts t).sort]) (.int 1) S = some (.str (tyOf ts t).sort) := fun _ => rfl
    have ad : addD (.tup [(tyOf ts l).d]) (.tup (Ty.ds (tyOf ts t).args)) = some (.tup ([(tyOf ts l).d] ++ Ty.ds (tyOf ts t).args)) := if_pos (by rw [ds_length, sizeLine_eq, List.length_singleton]; omega)
    have ty : (tyOf ts (.to l t)).d = .tup [.tup ([(tyOf ts l).d] ++ Ty.ds (tyOf ts t).args), .str (tyOf ts t).sort] := by rw [tyOf, Ty.d, Ty.ds]; rfl
    have wr : (wrT ts (.to l t) whole).foldl lw x = (wrT ts t whole).foldl lw ((wrT ts l false).foldl lw x) := by rw [wrT, List.foldl_append]
    rw [ty, wr]
    rw [Ty.d_eta (tyOf ts t)] at i2
    show fin (M__law_kind_of fu rk (F__law_kind_of fu rk k) [.val (.ptr r), .val (.lst [.str "to", trD l, trD t]), .val (.bl whole), .un, .un] S) = _
    unfold M__law_kind_of
    simp only [Z.fv_cons, Z.fv_nil, atI_0, atI_1, atI_2, atI_3, atI_4, ixNc_0, ixNc_1, ixNc_2, ixNc_3, mo_bind, mo_pure, bind_ok, bind_exc, bind_stuck, Z.getV, Z.putV, Z.putOwn, Z.putBox, Z.rdOwn, Z.ownAt, Z.seqM, Z.asgM, Z.ifM, Z.andM, Z.orM, Z.notM, Z.asB, Z.bin2, Z.un1, Z.ofO, Z.ofS, Z.ixM, Z.blt1M, Z.blt1O, Z.deref, Z.slM, Z.slMU, Z.partM, Z.tupM, Z.lstM, Z.catM, Z.argsM, Z.callM, Z.callMU, Z.callF, Z.callU, Z.truM, Z.setIxM, Z.putIx, Z.augM, Z.fin, Z.fr0, Z.funM, Z.ltD, Z.leD, Z.gtD, Z.geD, Z.iiD, Z.iiC, Z.subD, Z.intD, List.getElem?_map, List.length_map, List.getElem?_cons_zero, List.getElem?_cons_succ, List.set_cons_zero, List.set_cons_succ, List.cons_append, List.nil_append, List.append_nil, List.replicate_succ, List.replicate_zero, if_true, if_false, Bool.false_eq_true, Option.bind_some, Option.map_some, Option.bind_none, Option.map_none, Bool.not_true, Bool.not_false, Z.turnM, Z.tgTup, Z.tgCons, Z.tgNil, Z.appM, Z.extM, Z.parM, List.length_cons, List.length_nil, j0, j1, j2, e0, i1, i2, ix0, ix1, ad]
/-- trees are no higher than the reader goes deep -/
theorem rdL_ht (ts : List Str) (k : Nat) (hk : ∀ p t p', rd ts k p = .ok t p' → ht t ≤ k) (p : Nat) (t : Tr) (p' : Nat) (h : rdL ts (rd ts k) p = .ok t p') : ht t ≤ max k 1 := by
  unfold rdL at h
  split at h
  · cases e : rd ts k (p + 1) with
    | deep => rw [e] at h; cases h
    | stop q => rw [e] at h; cases h
    | ok t' p1 =>
      rw [e] at h
      dsimp only at h
      split at h
      · cases h
        have := hk _ _ _ e
        omega
      · cases h
  · split at h
    · cases h; simp [ht]; omega
    · cases h
theorem rd_ht (ts : List Str) : ∀ (k p : Nat) (t : Tr) (p' : Nat), rd ts k p = .ok t p' → ht t ≤ k
  | 0, p, t, p', h => by cases h
  | k + 1, p, t, p', h => by
    have ih := rd_ht ts k
    rw [rd_succ] at h
    cases e : rdL ts (rd ts k) p with
    | deep => rw [e] at h; cases h
    | stop q => rw [e] at h; cases h
    | ok l p1 =>
      rw [e] at h
      have hl := rdL_ht ts k ih p l p1 e
      dsimp only at h
      unfold rdT at h
      split at h
      · cases e2 : rd ts k (p1 + 1) with
        | deep => rw [e2] at h; cases h
        | stop q => rw [e2] at h; cases h
        | ok r p2 =>
          rw [e2] at h
          cases h
          have h2 := ih _ _ _ e2
          have h3 : 1 ≤ ht r := by cases r <;> simp [ht] <;> omega
          simp only [ht]
          omega
      · cases h
        cases k with
        | zero => omega
        | succ k => omega
end K70
set_option Elab.async false
set_option linter.all false
set_option maxRecDepth 100000
set_option maxHeartbeats 4000000
/-! Y26: read_type, _law_type_due. -/
namespace Z
open PySem L2
theorem last_get {S : List Ob} {x : Ob} : (S ++ [x])[S.length]? = some x := by simp
theorem last_set {S : List Ob} {x y : Ob} : (S ++ [x]).set S.length y = S ++ [y] := by
  rw [List.set_append_right _ _ (Nat.le_refl _)]
  simp
end Z
namespace K70
open PySem L2 Z
/-- what reading a row of tokens gives: a type, or the wrong token -/
inductive Out where
  | ty (t : Ty)
  | at (q : Int)
def res (ts : List Str) : Out := match rd ts 224 0 with
  | .ok t p => if p < ts.length then .at p else if wl ts (leaves t) = [] then .ty (tyOf ts t) else .at (leastI (wl ts (leaves t)))
  | .stop q => .at q
  | .deep => .at 0
theorem sinit_ok {fu rk r : Nat} {S : List Ob} {ts : List Str} (h : S[r]? = some (.ins 0 [])) : F_Syntax___init__ fu rk [.ptr r, .lst (tokD ts)] S = .ok (.d .non) (S.set r (SX ts 0)) := by
  have p1 : ∀ fr : List Sl, putFld 0 "tokens" (.ptr r) (.val (.lst (tokD ts))) fr S = .ok () fr (S.set r (.ins 0 [("tokens", .val (.lst (tokD ts)))])) := fun fr => by
    unfold putFld
    simp only [h]
    rfl
  have h2 := set_get (o' := .ins 0 [("tokens", .val (.lst (tokD ts)))]) h
  have p2 : ∀ fr : List Sl, putFld 0 "at" (.ptr r) (.val (.int 0)) fr (S.set r (.ins 0 [("tokens", .val (.lst (tokD ts)))])) = .ok () fr (S.set r (SX ts 0)) := fun fr => by
    unfold putFld
    simp only [h2]
    rw [List.set_set]
    rfl
  unfold F_Syntax___init__ M_Syntax___init__
  simp only [Z.fv_cons, Z.fv_nil, atI_0, atI_1, atI_2, atI_3, atI_4, ixNc_0, ixNc_1, ixNc_2, ixNc_3, mo_bind, mo_pure, bind_ok, bind_exc, bind_stuck, Z.getV, Z.putV, Z.putOwn, Z.putBox, Z.rdOwn, Z.ownAt, Z.seqM, Z.asgM, Z.ifM, Z.andM, Z.orM, Z.notM, Z.asB, Z.bin2, Z.un1, Z.ofO, Z.ofS, Z.ixM, Z.blt1M, Z.blt1O, Z.deref, Z.slM, Z.slMU, Z.partM, Z.tupM, Z.lstM, Z.catM, Z.argsM, Z.callM, Z.callMU, Z.callF, Z.callU, Z.truM, Z.setIxM, Z.putIx, Z.augM, Z.fin, Z.fr0, Z.funM, Z.ltD, Z.leD, Z.gtD, Z.geD, Z.iiD, Z.iiC, Z.subD, Z.intD, List.getElem?_map, List.length_map, List.getElem?_cons_zero, List.getElem?_cons_succ, List.set_cons_zero, List.set_cons_succ, List.cons_append, List.nil_append, List.append_nil, List.replicate_succ, List.replicate_zero, if_true, if_false, Bool.false_eq_true, Option.bind_some, Option.map_some, Option.bind_none, Option.map_none, Bool.not_true, Bool.not_false, Z.turnM, Z.tgTup, Z.tgCons, Z.tgNil, Z.appM, Z.extM, Z.parM, List.length_cons, List.length_nil, Z.setFldM, p1, p2]
theorem minit_ok {fu rk r : Nat} {S : List Ob} (h : S[r]? = some (.ins 1 [])) : F_Meaning___init__ fu rk [.ptr r, .tup [], .tup []] S = .ok (.d .non) (S.set r (MX [])) := by
  have sp : ∀ (a b c d : Sl), slotPtr 0 [.val (.ptr r), a, b, c, d] = some r := fun _ _ _ _ => rfl
  have p1 : ∀ fr : List Sl, putFld 1 "constants" (.ptr r) (.ownd []) fr S = .ok () fr (S.set r (.ins 1 [("constants", .ownd [])])) := fun fr => by
    unfold putFld
    simp only [h]
    rfl
  have h2 := set_get (o' := .ins 1 [("constants", .ownd [])]) h
  have p2 : ∀ fr : List Sl, putFld 1 "holes" (.ptr r) (.ownd []) fr (S.set r (.ins 1 [("constants", .ownd [])])) = .ok () fr (S.set r (.ins 1 [("constants", .ownd []), ("holes", .ownd [])])) := fun fr => by
    unfold putFld
    simp only [h2]
    rw [List.set_set]
    rfl
  have h3 := set_get (o' := .ins 1 [("constants", .ownd []), ("holes", .ownd [])]) h
  have p3 : ∀ fr : List Sl, putFld 1 "wrong" (.ptr r) (.own []) fr (S.set r (.ins 1 [("constants", .ownd []), ("holes", .ownd [])])) = .ok () fr (S.set r (MX [])) := fun fr => by
    unfold putFld
    simp only [h3]
    rw [List.set_set]
    rfl
  have dz : dict0D (.tup []) = some [] := rfl
  have it : itET [.tup []] = some [] := rfl
  unfold F_Meaning___init__ M_Meaning___init__
  simp only [Z.fv_cons, Z.fv_nil, atI_0, atI_1, atI_2, atI_3, atI_4, ixNc_0, ixNc_1, ixNc_2, ixNc_3, mo_bind, mo_pure, bind_ok, bind_exc, bind_stuck, Z.getV, Z.putV, Z.putOwn, Z.putBox, Z.rdOwn, Z.ownAt, Z.seqM, Z.asgM, Z.ifM, Z.andM, Z.orM, Z.notM, Z.asB, Z.bin2, Z.un1, Z.ofO, Z.ofS, Z.ixM, Z.blt1M, Z.blt1O, Z.deref, Z.slM, Z.slMU, Z.partM, Z.tupM, Z.lstM, Z.catM, Z.argsM, Z.callM, Z.callMU, Z.callF, Z.callU, Z.truM, Z.setIxM, Z.putIx, Z.augM, Z.fin, Z.fr0, Z.funM, Z.ltD, Z.leD, Z.gtD, Z.geD, Z.iiD, Z.iiC, Z.subD, Z.intD, List.getElem?_map, List.length_map, List.getElem?_cons_zero, List.getElem?_cons_succ, List.set_cons_zero, List.set_cons_succ, List.cons_append, List.nil_append, List.append_nil, List.replicate_succ, List.replicate_zero, if_true, if_false, Bool.false_eq_true, Option.bind_some, Option.map_some, Option.bind_none, Option.map_none, Bool.not_true, Bool.not_false, Z.turnM, Z.tgTup, Z.tgCons, Z.tgNil, Z.appM, Z.extM, Z.parM, List.length_cons, List.length_nil, Z.setFldD, Z.setFldO, dz, sp, p1, p2, p3, it, Z.forM, loopM_nil]
theorem mk_syn {fu rk : Nat} {fr : List Sl} {S : List Ob} {ts : List Str} : mkF 0 (F_Syntax___init__ fu rk) [.lst (tokD ts)] fr S = .ok (.ptr S.length) fr (S ++ [SX ts 0]) := by
  unfold mkF
  have i := sinit_ok (fu := fu) (rk := rk) (r := S.length) (ts := ts) (last_get (S := S) (x := .ins 0 []))
  rw [last_set] at i
  rw [i]
theorem mk_mea {fu rk : Nat} {fr : List Sl} {S : List Ob} : mkF 1 (F_Meaning___init__ fu rk) [.tup [], .tup []] fr S = .ok (.ptr S.length) fr (S ++ [MX []]) := by
  unfold mkF
  have i := minit_ok (fu := fu) (rk := rk) (r := S.length) (last_get (S := S) (x := .ins 1 []))
  rw [last_set] at i
  rw [i]
/-- what read_type does -/
def RO (x : Out) (S : List Ob) (y : RF) : Prop := ∃ X : List Ob, y = match x with
  | .ty t => .ok (.d t.d) (S ++ X)
  | .at q => .exc ⟨2, q⟩ (S ++ X)
theorem read_type_ok {fu : Nat} {S : List Ob} {ts : List Str} {text : Str} (hT : ∀ t ∈ ts, ST t) (hl : ts.length ≤ 100000) (hfu : 224 ≤ fu) (hd : rd ts 224 0 ≠ .deep)
    (ht : ∀ S, F_tokens_of fu 224 [.str text] S = .ok (.u (tokD ts)) S) : RO (res ts) S (F_read_type fu 224 [.str text] S) := by
  have h0 : (S ++ [SX ts 0])[S.length]? = some (SX ts ((0 : Nat) : Int)) := last_get
  have so := sorts_ok (fu := fu) (rk := 224) (r := S.length) hT hl 224 224 0 (S ++ [SX ts 0]) (by omega) hfu (by omega) h0
  have bd := rd_bd ts 224 0 (by omega)
  have cs : ∀ {fr : List Sl} {S : List Ob} {r p : Nat}, S[r]? = some (SX ts p) → chkIns 0 "sorts" (.ptr r) fr S = .ok () fr S := fun h => chk_sx h "sorts" (by decide +kernel) (by decide +kernel)
  have cf : ∀ {fr : List Sl} {S : List Ob} {r p : Nat}, S[r]? = some (SX ts p) → chkIns 0 "finish" (.ptr r) fr S = .ok () fr S := fun h => chk_sx h "finish" (by decide +kernel) (by decide +kernel)
  unfold res F_read_type M_read_type
  cases e : rd ts 224 0 with
  | deep => exact absurd e hd
  | stop q =>
    rw [e] at so
    have so' : F_Syntax_sorts fu 224 224 [.ptr S.length] (S ++ [SX ts 0]) = .exc ⟨2, q⟩ ((S ++ [SX ts 0]).set S.length (SX ts q)) := so
    rw [last_set] at so'
    refine ⟨[SX ts q], ?_⟩
    simp only [Z.fv_cons, Z.fv_nil, atI_0, atI_1, atI_2, atI_3, atI_4, ixNc_0, ixNc_1, ixNc_2, ixNc_3, mo_bind, mo_pure, bind_ok, bind_exc, bind_stuck, Z.getV, Z.putV, Z.putOwn, Z.putBox, Z.rdOwn, Z.ownAt, Z.seqM, Z.asgM, Z.ifM, Z.andM, Z.orM, Z.notM, Z.asB, Z.bin2, Z.un1, Z.ofO, Z.ofS, Z.ixM, Z.blt1M, Z.blt1O, Z.deref, Z.slM, Z.slMU, Z.partM, Z.tupM, Z.lstM, Z.catM, Z.argsM, Z.callM, Z.callMU, Z.callF, Z.callU, Z.truM, Z.setIxM, Z.putIx, Z.augM, Z.fin, Z.fr0, Z.funM, Z.ltD, Z.leD, Z.gtD, Z.geD, Z.iiD, Z.iiC, Z.subD, Z.intD, List.getElem?_map, List.length_map, List.getElem?_cons_zero, List.getElem?_cons_succ, List.set_cons_zero, List.set_cons_succ, List.cons_append, List.nil_append, List.append_nil, List.replicate_succ, List.replicate_zero, if_true, if_false, Bool.false_eq_true, Option.bind_some, Option.map_some, Option.bind_none, Option.map_none, Bool.not_true, Bool.not_false, Z.turnM, Z.tgTup, Z.tgCons, Z.tgNil, Z.appM, Z.extM, Z.parM, List.length_cons, List.length_nil, Z.mkM, ht, mk_syn, Z.methM, cs h0, so']
  | ok t p =>
    rw [e] at so bd
    obtain ⟨b1, b2, b3⟩ := bd
    have so' : F_Syntax_sorts fu 224 224 [.ptr S.length] (S ++ [SX ts 0]) = .ok (.d (.tup [(tyOf ts t).d, .lst (leafD ts (leaves t))])) ((S ++ [SX ts 0]).set S.length (SX ts p)) := so
    rw [last_set] at so'
    have h1 : (S ++ [SX ts p])[S.length]? = some (SX ts (p : Nat)) := last_get
    dsimp only
    by_cases hp : p < ts.length
    · rw [if_pos hp]
      have fi := sfinish_no (fu := fu) (rk := 224) h1 hl hp
      refine ⟨[SX ts p], ?_⟩
      simp only [Z.fv_cons, Z.fv_nil, atI_0, atI_1, atI_2, atI_3, atI_4, ixNc_0, ixNc_1, ixNc_2, ixNc_3, mo_bind, mo_pure, bind_ok, bind_exc, bind_stuck, Z.getV, Z.putV, Z.putOwn, Z.putBox, Z.rdOwn, Z.ownAt, Z.seqM, Z.asgM, Z.ifM, Z.andM, Z.orM, Z.notM, Z.asB, Z.bin2, Z.un1, Z.ofO, Z.ofS, Z.ixM, Z.blt1M, Z.blt1O, Z.deref, Z.slM, Z.slMU, Z.partM, Z.tupM, Z.lstM, Z.catM, Z.argsM, Z.callM, Z.callMU, Z.callF, Z.callU, Z.truM, Z.setIxM, Z.putIx, Z.augM, Z.fin, Z.fr0, Z.funM, Z.ltD, Z.leD, Z.gtD, Z.geD, Z.iiD, Z.iiC, Z.subD, Z.intD, List.getElem?_map, List.length_map, List.getElem?_cons_zero, List.getElem?_cons_succ, List.set_cons_zero, List.set_cons_succ, List.cons_append, List.nil_append, List.append_nil, List.replicate_succ, List.replicate_zero, if_true, if_false, Bool.false_eq_true, Option.bind_some, Option.map_some, Option.bind_none, Option.map_none, Bool.not_true, Bool.not_false, Z.turnM, Z.tgTup, Z.tgCons, Z.tgNil, Z.appM, Z.extM, Z.parM, List.length_cons, List.length_nil, Z.mkM, ht, mk_syn, Z.methM, cs h0, so', cf h1, fi]
    · rw [if_neg hp]
      obtain rfl : p = ts.length := by omega
      have fi := sfinish_yes (fu := fu) (rk := 224) h1 hl
      generalize hS1 : S ++ [SX ts (ts.length : Nat)] = S1 at *
      have h2 : (S1 ++ [MX []])[S1.length]? = some (MX []) := last_get
      have mk := mkind_ok (fu := fu) (rk := 224) hT (js := leaves t) (ty := (tyOf ts t).d) (by omega) h2
      rw [last_set] at mk
      have ck1 : ∀ {fr : List Sl}, chkIns 1 "kind" (.ptr S1.length) fr (S1 ++ [MX []]) = .ok () fr (S1 ++ [MX []]) := chk_mx h2 "kind" (by decide +kernel) (by decide +kernel) (by decide +kernel)
      generalize hws : wl ts (leaves t) = ws at *
      have h3 : (S1 ++ [MX ws])[S1.length]? = some (MX ws) := last_get
      have ck2 : ∀ {fr : List Sl}, chkIns 1 "finish" (.ptr S1.length) fr (S1 ++ [MX ws]) = .ok () fr (S1 ++ [MX ws]) := chk_mx h3 "finish" (by decide +kernel) (by decide +kernel) (by decide +kernel)
      by_cases hw : ws = []
      · rw [if_pos hw]
        subst hw
        have mf := mfinish_yes (fu := fu) (rk := 224) h3
        rw [last_set] at mf
        refine ⟨[SX ts (ts.length : Nat), MZ []], ?_⟩
        have eS : S ++ [SX ts (ts.length : Nat), MZ []] = S1 ++ [MZ []] := by rw [← hS1, List.append_assoc]; rfl
        rw [eS]
        simp only [Z.fv_cons, Z.fv_nil, atI_0, atI_1, atI_2, atI_3, atI_4, ixNc_0, ixNc_1, ixNc_2, ixNc_3, mo_bind, mo_pure, bind_ok, bind_exc, bind_stuck, Z.getV, Z.putV, Z.putOwn, Z.putBox, Z.rdOwn, Z.ownAt, Z.seqM, Z.asgM, Z.ifM, Z.andM, Z.orM, Z.notM, Z.asB, Z.bin2, Z.un1, Z.ofO, Z.ofS, Z.ixM, Z.blt1M, Z.blt1O, Z.deref, Z.slM, Z.slMU, Z.partM, Z.tupM, Z.lstM, Z.catM, Z.argsM, Z.callM, Z.callMU, Z.callF, Z.callU, Z.truM, Z.setIxM, Z.putIx, Z.augM, Z.fin, Z.fr0, Z.funM, Z.ltD, Z.leD, Z.gtD, Z.geD, Z.iiD, Z.iiC, Z.subD, Z.intD, List.getElem?_map, List.length_map, List.getElem?_cons_zero, List.getElem?_cons_succ, List.set_cons_zero, List.set_cons_succ, List.cons_append, List.nil_append, List.append_nil, List.replicate_succ, List.replicate_zero, if_true, if_false, Bool.false_eq_true, Option.bind_some, Option.map_some, Option.bind_none, Option.map_none, Bool.not_true, Bool.not_false, Z.turnM, Z.tgTup, Z.tgCons, Z.tgNil, Z.appM, Z.extM, Z.parM, List.length_cons, List.length_nil, Z.mkM, ht, mk_syn, mk_mea, Z.methM, cs h0, so', cf h1, fi, ck1, mk, ck2, mf]
      · rw [if_neg hw]
        have mf := mfinish_no (fu := fu) (rk := 224) h3 hw (fun x hx => by
          rw [← hws] at hx
          obtain ⟨j, hj, rfl⟩ := wl_nn ts _ x hx
          have := kAt_lt (b3 j hj) (by decide +kernel)
          omega)
        rw [last_set] at mf
        refine ⟨[SX ts (ts.length : Nat), MZ ws], ?_⟩
        have eS : S ++ [SX ts (ts.length : Nat), MZ ws] = S1 ++ [MZ ws] := by rw [← hS1, List.append_assoc]; rfl
        rw [eS]
        simp only [Z.fv_cons, Z.fv_nil, atI_0, atI_1, atI_2, atI_3, atI_4, ixNc_0, ixNc_1, ixNc_2, ixNc_3, mo_bind, mo_pure, bind_ok, bind_exc, bind_stuck, Z.getV, Z.putV, Z.putOwn, Z.putBox, Z.rdOwn, Z.ownAt, Z.seqM, Z.asgM, Z.ifM, Z.andM, Z.orM, Z.notM, Z.asB, Z.bin2, Z.un1, Z.ofO, Z.ofS, Z.ixM, Z.blt1M, Z.blt1O, Z.deref, Z.slM, Z.slMU, Z.partM, Z.tupM, Z.lstM, Z.catM, Z.argsM, Z.callM, Z.callMU, Z.callF, Z.callU, Z.truM, Z.setIxM, Z.putIx, Z.augM, Z.fin, Z.fr0, Z.funM, Z.ltD, Z.leD, Z.gtD, Z.geD, Z.iiD, Z.iiC, Z.subD, Z.intD, List.getElem?_map, List.length_map, List.getElem?_cons_zero, List.getElem?_cons_succ, List.set_cons_zero, List.set_cons_succ, List.cons_append, List.nil_append, List.append_nil, List.replicate_succ, List.replicate_zero, if_true, if_false, Bool.false_eq_true, Option.bind_some, Option.map_some, Option.bind_none, Option.map_none, Bool.not_true, Bool.not_false, Z.turnM, Z.tgTup, Z.tgCons, Z.tgNil, Z.appM, Z.extM, Z.parM, List.length_cons, List.length_nil, Z.mkM, ht, mk_syn, mk_mea, Z.methM, cs h0, so', cf h1, fi, ck1, mk, ck2, mf]
def Out.d : Out → D
  | .ty t => t.d
  | .at q => .int q
theorem due_ok {fu : Nat} {S : List Ob} {ts : List Str} (hT : ∀ t ∈ ts, ST t) (hl : ts.length ≤ 100000) (hd : rd ts 224 0 ≠ .deep) : ∃ X, F__law_type_due fu 224 [.lst (ts.map .str)] S = .ok (.d (res ts).d) (S ++ X) := by
  have h0 : (S ++ [RS ts 0 (-1)])[S.length]? = some (RS ts ((0 : Nat) : Int) (-1)) := last_get
  have lr := lr_ok (fu := fu) (rk := 224) (r := S.length) hT 224 0 (S ++ [RS ts 0 (-1)]) h0
  have bd := rd_bd ts 224 0 (by omega)
  have neg : (0 : Int) - 1 = -1 := by decide
  have hld : lenD (.lst (ts.map .str)) = some (.int (ts.length : Int)) := by rw [lenD_lst _ (by rw [List.length_map]; omega), List.length_map]
  have n1 : decide ((-1 : Int) < 0) = true := by decide
  have n2 : decide ((0 : Int) ≤ -1) = false := by decide
  have rs2 : ∀ (p q : Int) (S : List Ob), ixS (.ptr S.length) (.int 2) (S ++ [RS ts p q]) = some (.int q) := fun p q S => by
    show (match (S ++ [RS ts p q])[S.length]? with
      | some (.lst ds) => atI ds 2
      | _ => none) = _
    rw [last_get]
    rfl
  have rs1 : ∀ (p q : Int) (S : List Ob), ixS (.ptr S.length) (.int 1) (S ++ [RS ts p q]) = some (.int p) := fun p q S => by
    show (match (S ++ [RS ts p q])[S.length]? with
      | some (.lst ds) => atI ds 1
      | _ => none) = _
    rw [last_get]
    rfl
  have ex3 : ∀ (q : Int) (S : List Ob), ixS (.ptr S.length) (.int 3) (S ++ [EX ts q]) = some (.int q) := fun q S => by
    show (match (S ++ [EX ts q])[S.length]? with
      | some (.lst ds) => atI ds 3
      | _ => none) = _
    rw [last_get]
    rfl
  have q0 : ∀ q : Nat, decide ((q : Int) < 0) = false := fun q => by rw [decide_eq_false_iff_not]; omega
  have q1 : ∀ q : Nat, decide ((0 : Int) ≤ (q : Int)) = true := fun q => by rw [decide_eq_true_eq]; omega
  unfold res F__law_type_due M__law_type_due
  cases e : rd ts 224 0 with
  | deep => exact absurd e hd
  | stop q =>
    rw [e] at lr
    obtain ⟨d, lr⟩ := lr
    rw [last_set] at lr
    refine ⟨[RS ts q q], ?_⟩
    have ed : (Out.at (q : Int)).d = .int q := rfl
    rw [ed]
    simp only [Z.fv_cons, Z.fv_nil, atI_0, atI_1, atI_2, atI_3, atI_4, ixNc_0, ixNc_1, ixNc_2, ixNc_3, mo_bind, mo_pure, bind_ok, bind_exc, bind_stuck, Z.getV, Z.putV, Z.putOwn, Z.putBox, Z.rdOwn, Z.ownAt, Z.seqM, Z.asgM, Z.ifM, Z.andM, Z.orM, Z.notM, Z.asB, Z.bin2, Z.un1, Z.ofO, Z.ofS, Z.ixM, Z.blt1M, Z.blt1O, Z.deref, Z.slM, Z.slMU, Z.partM, Z.tupM, Z.lstM, Z.catM, Z.argsM, Z.callM, Z.callMU, Z.callF, Z.callU, Z.truM, Z.setIxM, Z.putIx, Z.augM, Z.fin, Z.fr0, Z.funM, Z.ltD, Z.leD, Z.gtD, Z.geD, Z.iiD, Z.iiC, Z.subD, Z.intD, List.getElem?_map, List.length_map, List.getElem?_cons_zero, List.getElem?_cons_succ, List.set_cons_zero, List.set_cons_succ, List.cons_append, List.nil_append, List.append_nil, List.replicate_succ, List.replicate_zero, if_true, if_false, Bool.false_eq_true, Option.bind_some, Option.map_some, Option.bind_none, Option.map_none, Bool.not_true, Bool.not_false, Z.turnM, Z.tgTup, Z.tgCons, Z.tgNil, Z.appM, Z.extM, Z.parM, List.length_cons, List.length_nil, neg, lr, rs2, q0, q1]
  | ok t p =>
    rw [e] at lr bd
    have lr' : F__law_read_type fu 224 224 [.ptr S.length] (S ++ [RS ts 0 (-1)]) = .ok (.d (trD t)) ((S ++ [RS ts 0 (-1)]).set S.length (RS ts p (-1))) := lr
    rw [last_set] at lr'
    obtain ⟨b1, b2, b3⟩ := bd
    dsimp only
    by_cases hp : p < ts.length
    · rw [if_pos hp]
      have st := stop_neg (fu := fu) (rk := 224) (S := S ++ [RS ts p (-1)]) (r := S.length) (ts := ts) (p := p) last_get
      rw [last_set] at st
      refine ⟨[RS ts p p], ?_⟩
      have ed : (Out.at (p : Int)).d = .int p := rfl
      have b : decide ((p : Int) < (ts.length : Int)) = true := by rw [decide_eq_true_eq]; omega
      rw [ed]
      simp only [Z.fv_cons, Z.fv_nil, atI_0, atI_1, atI_2, atI_3, atI_4, ixNc_0, ixNc_1, ixNc_2, ixNc_3, mo_bind, mo_pure, bind_ok, bind_exc, bind_stuck, Z.getV, Z.putV, Z.putOwn, Z.putBox, Z.rdOwn, Z.ownAt, Z.seqM, Z.asgM, Z.ifM, Z.andM, Z.orM, Z.notM, Z.asB, Z.bin2, Z.un1, Z.ofO, Z.ofS, Z.ixM, Z.blt1M, Z.blt1O, Z.deref, Z.slM, Z.slMU, Z.partM, Z.tupM, Z.lstM, Z.catM, Z.argsM, Z.callM, Z.callMU, Z.callF, Z.callU, Z.truM, Z.setIxM, Z.putIx, Z.augM, Z.fin, Z.fr0, Z.funM, Z.ltD, Z.leD, Z.gtD, Z.geD, Z.iiD, Z.iiC, Z.subD, Z.intD, List.getElem?_map, List.length_map, List.getElem?_cons_zero, List.getElem?_cons_succ, List.set_cons_zero, List.set_cons_succ, List.cons_append, List.nil_append, List.append_nil, List.replicate_succ, List.replicate_zero, if_true, if_false, Bool.false_eq_true, Option.bind_some, Option.map_some, Option.bind_none, Option.map_none, Bool.not_true, Bool.not_false, Z.turnM, Z.tgTup, Z.tgCons, Z.tgNil, Z.appM, Z.extM, Z.parM, List.length_cons, List.length_nil, neg, lr', rs2, rs1, n1, hld, b, st, q1]
    · rw [if_neg hp]
      have b : decide ((p : Int) < (ts.length : Int)) = false := by rw [decide_eq_false_iff_not]; omega
      have hh := rd_ht ts 224 0 t p e
      generalize hS1 : S ++ [RS ts p (-1)] = S1 at *
      have r2 : ixS (.ptr S.length) (.int 2) S1 = some (.int (-1)) := by rw [← hS1]; exact rs2 p (-1) S
      have r1 : ixS (.ptr S.length) (.int 1) S1 = some (.int p) := by rw [← hS1]; exact rs1 p (-1) S
      have ko := kind_of_ok (fu := fu) (rk := 224) (r := S1.length) hT 224 t true (-1) (S1 ++ [EX ts (-1)]) hh (by omega) b3 (by omega) last_get
      rw [last_set, wrT_true] at ko
      have nn : ∀ y ∈ wl ts (leaves t), 0 ≤ y := fun y hy => by
        obtain ⟨j, _, rfl⟩ := wl_nn ts _ y hy
        omega
      rw [lw_all _ nn] at ko
      by_cases hw : wl ts (leaves t) = []
      · rw [if_pos hw] at ko ⊢
        refine ⟨[RS ts p (-1), EX ts (-1)], ?_⟩
        have eS : S ++ [RS ts p (-1), EX ts (-1)] = S1 ++ [EX ts (-1)] := by rw [← hS1, List.append_assoc]; rfl
        have ed : (Out.ty (tyOf ts t)).d = (tyOf ts t).d := rfl
        rw [eS, ed]
        simp only [Z.fv_cons, Z.fv_nil, atI_0, atI_1, atI_2, atI_3, atI_4, ixNc_0, ixNc_1, ixNc_2, ixNc_3, mo_bind, mo_pure, bind_ok, bind_exc, bind_stuck, Z.getV, Z.putV, Z.putOwn, Z.putBox, Z.rdOwn, Z.ownAt, Z.seqM, Z.asgM, Z.ifM, Z.andM, Z.orM, Z.notM, Z.asB, Z.bin2, Z.un1, Z.ofO, Z.ofS, Z.ixM, Z.blt1M, Z.blt1O, Z.deref, Z.slM, Z.slMU, Z.partM, Z.tupM, Z.lstM, Z.catM, Z.argsM, Z.callM, Z.callMU, Z.callF, Z.callU, Z.truM, Z.setIxM, Z.putIx, Z.augM, Z.fin, Z.fr0, Z.funM, Z.ltD, Z.leD, Z.gtD, Z.geD, Z.iiD, Z.iiC, Z.subD, Z.intD, List.getElem?_map, List.length_map, List.getElem?_cons_zero, List.getElem?_cons_succ, List.set_cons_zero, List.set_cons_succ, List.cons_append, List.nil_append, List.append_nil, List.replicate_succ, List.replicate_zero, if_true, if_false, Bool.false_eq_true, Option.bind_some, Option.map_some, Option.bind_none, Option.map_none, Bool.not_true, Bool.not_false, Z.turnM, Z.tgTup, Z.tgCons, Z.tgNil, Z.appM, Z.extM, Z.parM, List.length_cons, List.length_nil, neg, lr', r2, r1, n1, n2, hld, b, ko, ex3]
      · rw [if_neg hw] at ko ⊢
        have hm := nn _ (leastI_spec (List.length_pos_iff.mpr hw)).1
        generalize leastI (wl ts (leaves t)) = w at *
        refine ⟨[RS ts p (-1), EX ts w], ?_⟩
        have eS : S ++ [RS ts p (-1), EX ts w] = S1 ++ [EX ts w] := by rw [← hS1, List.append_assoc]; rfl
        have ed : (Out.at w).d = .int w := rfl
        have wb : decide (0 ≤ w) = true := decide_eq_true hm
        rw [eS, ed]
        simp only [Z.fv_cons, Z.fv_nil, atI_0, atI_1, atI_2, atI_3, atI_4, ixNc_0, ixNc_1, ixNc_2, ixNc_3, mo_bind, mo_pure, bind_ok, bind_exc, bind_stuck, Z.getV, Z.putV, Z.putOwn, Z.putBox, Z.rdOwn, Z.ownAt, Z.seqM, Z.asgM, Z.ifM, Z.andM, Z.orM, Z.notM, Z.asB, Z.bin2, Z.un1, Z.ofO, Z.ofS, Z.ixM, Z.blt1M, Z.blt1O, Z.deref, Z.slM, Z.slMU, Z.partM, Z.tupM, Z.lstM, Z.catM, Z.argsM, Z.callM, Z.callMU, Z.callF, Z.callU, Z.truM, Z.setIxM, Z.putIx, Z.augM, Z.fin, Z.fr0, Z.funM, Z.ltD, Z.leD, Z.gtD, Z.geD, Z.iiD, Z.iiC, Z.subD, Z.intD, List.getElem?_map, List.length_map, List.getElem?_cons_zero, List.getElem?_cons_succ, List.set_cons_zero, List.set_cons_succ, List.cons_append, List.nil_append, List.append_nil, List.replicate_succ, List.replicate_zero, if_true, if_false, Bool.false_eq_true, Option.bind_some, Option.map_some, Option.bind_none, Option.map_none, Bool.not_true, Bool.not_false, Z.turnM, Z.tgTup, Z.tgCons, Z.tgNil, Z.appM, Z.extM, Z.parM, List.length_cons, List.length_nil, neg, lr', r2, r1, n1, n2, hld, b, ko, ex3, wb]
end K70
set_option Elab.async false
set_option linter.all false
set_option maxRecDepth 100000
set_option maxHeartbeats 4000000
/-! Y27: _law_spoilt_tokens. -/
namespace Z
open PySem L2
theorem sIx_min (n d i : Nat) : HT.sIx n d (some (i : Int)) = min i n := by
  unfold HT.sIx
  dsimp only
  rw [if_neg (by omega)]
  omega
theorem cut_to {α : Type} (xs : List α) (k : Nat) : cutD xs none (some (k : Int)) = xs.take k := by
  unfold cutD
  rw [sIx_min]
  show (xs.drop 0).take (min k xs.length - 0) = _
  rw [List.drop_zero, Nat.sub_zero, List.take_eq_take_iff]
  omega
theorem cut_from {α : Type} (xs : List α) (k : Nat) : cutD xs (some (k : Int)) none = xs.drop k := by
  unfold cutD
  rw [sIx_min]
  show (xs.drop (min k xs.length)).take (xs.length - min k xs.length) = _
  rw [List.take_of_length_le (by rw [List.length_drop]; omega)]
  by_cases h : k ≤ xs.length
  · rw [Nat.min_eq_left h]
  · rw [Nat.min_eq_right (by omega), List.drop_length, List.drop_eq_nil_of_le (by omega)]
theorem cut_in {α : Type} (xs : List α) (i j : Nat) : cutD xs (some (i : Int)) (some (j : Int)) = (xs.drop i).take (j - i) := by
  unfold cutD
  rw [sIx_min, sIx_min]
  by_cases h : i ≤ xs.length
  · rw [Nat.min_eq_left h, List.take_eq_take_iff, List.length_drop]
    omega
  · have e : min i xs.length = xs.length := Nat.min_eq_right (by omega)
    rw [e, List.drop_length, List.drop_eq_nil_of_le (show xs.length ≤ i by omega), List.take_nil, List.take_nil]
theorem slL_lst (ds : List D) (lo hi : Option Int) (S : List Ob) : slL (.lst ds) lo hi S = some (cutD ds lo hi) := rfl
end Z
namespace K70
open PySem L2 Z
def menuA : List Str := ["(", ")", "[", "]", ".", ",", ":", ";", "->", "&", "|", "a", "p", "x", "o", "if", "true", "some", "all", "given", "same"]
def menuB : List Str := ["match", "con", "rule", "ask", "steps", "12", "007", "#", "longwords", "zzzzzzzz", "zc", "c"]
def menu : List Str := menuA ++ menuB
theorem menu_st : ∀ t ∈ menu, ST t := by
  have h : ∀ t ∈ menu, okT t = true ∧ (L t).length ≤ 9 := by decide +kernel
  exact h
theorem menu_len : menu.length = 33 := rfl
theorem take1 {α : Type} (l : List α) : (l.take 1).length ≤ 1 := by rw [List.length_take]; omega
section
variable {fu rk : Nat} {S : List Ob} {o : Ob} {w0 u : List Str} {i : Nat} {s3 s4 s5 s6 : Sl}
theorem spoilt_turn (hS : 0 < S.length) (ho : Cob o) (hsp : Sp w0 i u) (hu : u.length ≤ 100000) :
    ∃ u' o' s4' s5' s6', (seqM (asgM (callM (F__law_take fu rk) [(getV 0), (bin2 (blt1M lenD (getV 1)) (pure (.int 1)) addD)] []) (putV 4))
    (seqM (asgM (ixM (getV 2) (callM (F__law_take fu rk) [(getV 0), (blt1M lenD (getV 2))] [])) (putV 5))
    (seqM (ifM (Z.andM (asB (bin2 (callM (F__law_take fu rk) [(getV 0), (pure (.int 2))] []) (pure (.int 0)) eqD)) (truM (getV 1))) (asgM (ixM (getV 1) (callM (F__law_take fu rk) [(getV 0), (blt1M lenD (getV 1))] [])) (putV 5)) (pure .nx))
    (seqM (asgM (callM (F__law_take fu rk) [(getV 0), (pure (.int 4))] []) (putV 6))
    (ifM (asB (bin2 (getV 6) (pure (.int 0)) eqD)) (asgM (lstM (catM (lstM (slMU (getV 1) (pure none) (partM (getV 4)))) (lstM (slMU (getV 1) (partM (bin2 (getV 4) (pure (.int 1)) addD)) (pure none))))) (putV 1)) (ifM (asB (bin2 (getV 6) (pure (.int 1)) eqD)) (asgM (lstM (catM (lstM (catM (lstM (slMU (getV 1) (pure none) (partM (getV 4)))) (lstM (argsM [(getV 5)])))) (lstM (slMU (getV 1) (partM (getV 4)) (pure none))))) (putV 1)) (ifM (asB (bin2 (getV 6) (pure (.int 2)) eqD)) (asgM (lstM (catM (lstM (catM (lstM (slMU (getV 1) (pure none) (partM (getV 4)))) (lstM (argsM [(getV 5)])))) (lstM (slMU (getV 1) (partM (bin2 (getV 4) (pure (.int 1)) addD)) (pure none))))) (putV 1)) (asgM (lstM (catM (lstM (catM (lstM (catM (lstM (slMU (getV 1) (pure none) (partM (bin2 (getV 4) (pure (.int 1)) addD)))) (lstM (slMU (getV 1) (partM (bin2 (getV 4) (pure (.int 2)) addD)) (partM (bin2 (getV 4) (pure (.int 3)) addD)))))) (lstM (slMU (getV 1) (partM (bin2 (getV 4) (pure (.int 1)) addD)) (partM (bin2 (getV 4) (pure (.int 2)) addD)))))) (lstM (slMU (getV 1) (partM (bin2 (getV 4) (pure (.int 3)) addD)) (pure none))))) (putV 1))))))))) [.val (.ptr 0), .val (.lst (u.map .str)), .val (.lst (menu.map .str)), s3, s4, s5, s6] (S.set 0 o) = .ok .nx [.val (.ptr 0), .val (.lst (u'.map .str)), .val (.lst (menu.map .str)), s3, s4', s5', s6'] (S.set 0 o') ∧ Cob o' ∧ Sp w0 (i + 1) u' := by
  have g1 : ∀ o, (S.set 0 o)[0]? = some o := fun o => List.getElem?_set_self hS
  have hs : ∀ o o', (S.set 0 o).set 0 o' = S.set 0 o' := fun o o' => List.set_set _
  have hlu : lenD (.lst (u.map .str)) = some (.int (u.length : Int)) := by rw [lenD_lst _ (by rw [List.length_map]; omega), List.length_map]
  have hlm : lenD (.lst (menu.map .str)) = some (.int 33) := rfl
  obtain ⟨k, o1, t1, c1, k1⟩ := take_ok (fu := fu) (rk := rk) (m := (u.length : Int) + 1) (g1 o) ho (by omega) (by omega)
  rw [hs] at t1
  have h1 : ((asgM (callM (F__law_take fu rk) [(getV 0), (bin2 (blt1M lenD (getV 1)) (pure (.int 1)) addD)] []) (putV 4)) : Mo Fl) [.val (.ptr 0), .val (.lst (u.map .str)), .val (.lst (menu.map .str)), s3, s4, s5, s6] (S.set 0 o) = .ok .nx [.val (.ptr 0), .val (.lst (u.map .str)), .val (.lst (menu.map .str)), s3, .val (.int k), s5, s6] (S.set 0 o1) := by
    simp only [Z.fv_cons, Z.fv_nil, atI_0, atI_1, atI_2, atI_3, atI_4, ixNc_0, ixNc_1, ixNc_2, ixNc_3, mo_bind, mo_pure, bind_ok, bind_exc, bind_stuck, Z.getV, Z.putV, Z.putOwn, Z.putBox, Z.rdOwn, Z.ownAt, Z.seqM, Z.asgM, Z.ifM, Z.andM, Z.orM, Z.notM, Z.asB, Z.bin2, Z.un1, Z.ofO, Z.ofS, Z.ixM, Z.blt1M, Z.blt1O, Z.deref, Z.slM, Z.slMU, Z.partM, Z.tupM, Z.lstM, Z.catM, Z.argsM, Z.callM, Z.callMU, Z.callF, Z.callU, Z.truM, Z.setIxM, Z.putIx, Z.augM, Z.fin, Z.fr0, Z.funM, Z.ltD, Z.leD, Z.gtD, Z.geD, Z.iiD, Z.iiC, Z.subD, Z.intD, List.getElem?_map, List.length_map, List.getElem?_cons_zero, List.getElem?_cons_succ, List.set_cons_zero, List.set_cons_succ, List.cons_append, List.nil_append, List.append_nil, List.replicate_succ, List.replicate_zero, if_true, if_false, Bool.false_eq_true, Option.bind_some, Option.map_some, Option.bind_none, Option.map_none, Bool.not_true, Bool.not_false, Z.turnM, Z.tgTup, Z.tgCons, Z.tgNil, Z.appM, Z.extM, Z.parM, List.length_cons, List.length_nil, hlu, add_ii, t1]
  obtain ⟨q, o2, t2, c2, k2⟩ := take_ok (fu := fu) (rk := rk) (m := 33) (g1 o1) c1 (by decide) (by decide)
  rw [hs] at t2
  have hq : q < menu.length := by rw [menu_len]; omega
  have gq : menu[q]? = some menu[q] := List.getElem?_eq_getElem hq
  have st1 : ST menu[q] := menu_st _ (List.getElem_mem hq)
  generalize menu[q] = w at gq st1
  have iq := fun S => ix_lst (S := S) gq
  have h2 : ((asgM (ixM (getV 2) (callM (F__law_take fu rk) [(getV 0), (blt1M lenD (getV 2))] [])) (putV 5)) : Mo Fl) [.val (.ptr 0), .val (.lst (u.map .str)), .val (.lst (menu.map .str)), s3, .val (.int k), s5, s6] (S.set 0 o1) = .ok .nx [.val (.ptr 0), .val (.lst (u.map .str)), .val (.lst (menu.map .str)), s3, .val (.int k), .val (.str w), s6] (S.set 0 o2) := by
    simp only [Z.fv_cons, Z.fv_nil, atI_0, atI_1, atI_2, atI_3, atI_4, ixNc_0, ixNc_1, ixNc_2, ixNc_3, mo_bind, mo_pure, bind_ok, bind_exc, bind_stuck, Z.getV, Z.putV, Z.putOwn, Z.putBox, Z.rdOwn, Z.ownAt, Z.seqM, Z.asgM, Z.ifM, Z.andM, Z.orM, Z.notM, Z.asB, Z.bin2, Z.un1, Z.ofO, Z.ofS, Z.ixM, Z.blt1M, Z.blt1O, Z.deref, Z.slM, Z.slMU, Z.partM, Z.tupM, Z.lstM, Z.catM, Z.argsM, Z.callM, Z.callMU, Z.callF, Z.callU, Z.truM, Z.setIxM, Z.putIx, Z.augM, Z.fin, Z.fr0, Z.funM, Z.ltD, Z.leD, Z.gtD, Z.geD, Z.iiD, Z.iiC, Z.subD, Z.intD, List.getElem?_map, List.length_map, List.getElem?_cons_zero, List.getElem?_cons_succ, List.set_cons_zero, List.set_cons_succ, List.cons_append, List.nil_append, List.append_nil, List.replicate_succ, List.replicate_zero, if_true, if_false, Bool.false_eq_true, Option.bind_some, Option.map_some, Option.bind_none, Option.map_none, Bool.not_true, Bool.not_false, Z.turnM, Z.tgTup, Z.tgCons, Z.tgNil, Z.appM, Z.extM, Z.parM, List.length_cons, List.length_nil, hlm, t2, iq]
  have h3 : ∃ w' o3, ((ifM (Z.andM (asB (bin2 (callM (F__law_take fu rk) [(getV 0), (pure (.int 2))] []) (pure (.int 0)) eqD)) (truM (getV 1))) (asgM (ixM (getV 1) (callM (F__law_take fu rk) [(getV 0), (blt1M lenD (getV 1))] [])) (putV 5)) (pure .nx)) : Mo Fl) [.val (.ptr 0), .val (.lst (u.map .str)), .val (.lst (menu.map .str)), s3, .val (.int k), .val (.str w), s6] (S.set 0 o2) = .ok .nx [.val (.ptr 0), .val (.lst (u.map .str)), .val (.lst (menu.map .str)), s3, .val (.int k), .val (.str w'), s6] (S.set 0 o3) ∧ Cob o3 ∧ ST w' := by
    obtain ⟨q3, o3, t3, c3, k3⟩ := take_ok (fu := fu) (rk := rk) (m := 2) (g1 o2) c2 (by decide) (by decide)
    rw [hs] at t3
    cases b : decide ((q3 : Int) = 0) with
    | false =>
      refine ⟨w, o3, ?_, c3, st1⟩
      simp only [Z.fv_cons, Z.fv_nil, atI_0, atI_1, atI_2, atI_3, atI_4, ixNc_0, ixNc_1, ixNc_2, ixNc_3, mo_bind, mo_pure, bind_ok, bind_exc, bind_stuck, Z.getV, Z.putV, Z.putOwn, Z.putBox, Z.rdOwn, Z.ownAt, Z.seqM, Z.asgM, Z.ifM, Z.andM, Z.orM, Z.notM, Z.asB, Z.bin2, Z.un1, Z.ofO, Z.ofS, Z.ixM, Z.blt1M, Z.blt1O, Z.deref, Z.slM, Z.slMU, Z.partM, Z.tupM, Z.lstM, Z.catM, Z.argsM, Z.callM, Z.callMU, Z.callF, Z.callU, Z.truM, Z.setIxM, Z.putIx, Z.augM, Z.fin, Z.fr0, Z.funM, Z.ltD, Z.leD, Z.gtD, Z.geD, Z.iiD, Z.iiC, Z.subD, Z.intD, List.getElem?_map, List.length_map, List.getElem?_cons_zero, List.getElem?_cons_succ, List.set_cons_zero, List.set_cons_succ, List.cons_append, List.nil_append, List.append_nil, List.replicate_succ, List.replicate_zero, if_true, if_false, Bool.false_eq_true, Option.bind_some, Option.map_some, Option.bind_none, Option.map_none, Bool.not_true, Bool.not_false, Z.turnM, Z.tgTup, Z.tgCons, Z.tgNil, Z.appM, Z.extM, Z.parM, List.length_cons, List.length_nil, t3, eqD_int, b]
    | true =>
      by_cases hu0 : u = []
      · subst hu0
        have tr : truD (.lst (([] : List Str).map .str)) = some false := rfl
        refine ⟨w, o3, ?_, c3, st1⟩
        simp only [Z.fv_cons, Z.fv_nil, atI_0, atI_1, atI_2, atI_3, atI_4, ixNc_0, ixNc_1, ixNc_2, ixNc_3, mo_bind, mo_pure, bind_ok, bind_exc, bind_stuck, Z.getV, Z.putV, Z.putOwn, Z.putBox, Z.rdOwn, Z.ownAt, Z.seqM, Z.asgM, Z.ifM, Z.andM, Z.orM, Z.notM, Z.asB, Z.bin2, Z.un1, Z.ofO, Z.ofS, Z.ixM, Z.blt1M, Z.blt1O, Z.deref, Z.slM, Z.slMU, Z.partM, Z.tupM, Z.lstM, Z.catM, Z.argsM, Z.callM, Z.callMU, Z.callF, Z.callU, Z.truM, Z.setIxM, Z.putIx, Z.augM, Z.fin, Z.fr0, Z.funM, Z.ltD, Z.leD, Z.gtD, Z.geD, Z.iiD, Z.iiC, Z.subD, Z.intD, List.getElem?_map, List.length_map, List.getElem?_cons_zero, List.getElem?_cons_succ, List.set_cons_zero, List.set_cons_succ, List.cons_append, List.nil_append, List.append_nil, List.replicate_succ, List.replicate_zero, if_true, if_false, Bool.false_eq_true, Option.bind_some, Option.map_some, Option.bind_none, Option.map_none, Bool.not_true, Bool.not_false, Z.turnM, Z.tgTup, Z.tgCons, Z.tgNil, Z.appM, Z.extM, Z.parM, List.length_cons, List.length_nil, t3, eqD_int, b, tr]
      · have tr : truD (.lst (u.map .str)) = some true := by cases u <;> first | exact absurd rfl hu0 | rfl
        have hu1 : 0 < u.length := List.length_pos_iff.mpr hu0
        obtain ⟨q4, o4, t4, c4, k4⟩ := take_ok (fu := fu) (rk := rk) (m := (u.length : Int)) (g1 o3) c3 (by omega) (by omega)
        rw [hs] at t4
        have hq4 : q4 < u.length := by omega
        have gq4 : u[q4]? = some u[q4] := List.getElem?_eq_getElem hq4
        have i4 := fun S => ix_lst (S := S) gq4
        refine ⟨u[q4], o4, ?_, c4, hsp.st _ (List.getElem_mem hq4)⟩
        simp only [Z.fv_cons, Z.fv_nil, atI_0, atI_1, atI_2, atI_3, atI_4, ixNc_0, ixNc_1, ixNc_2, ixNc_3, mo_bind, mo_pure, bind_ok, bind_exc, bind_stuck, Z.getV, Z.putV, Z.putOwn, Z.putBox, Z.rdOwn, Z.ownAt, Z.seqM, Z.asgM, Z.ifM, Z.andM, Z.orM, Z.notM, Z.asB, Z.bin2, Z.un1, Z.ofO, Z.ofS, Z.ixM, Z.blt1M, Z.blt1O, Z.deref, Z.slM, Z.slMU, Z.partM, Z.tupM, Z.lstM, Z.catM, Z.argsM, Z.callM, Z.callMU, Z.callF, Z.callU, Z.truM, Z.setIxM, Z.putIx, Z.augM, Z.fin, Z.fr0, Z.funM, Z.ltD, Z.leD, Z.gtD, Z.geD, Z.iiD, Z.iiC, Z.subD, Z.intD, List.getElem?_map, List.length_map, List.getElem?_cons_zero, List.getElem?_cons_succ, List.set_cons_zero, List.set_cons_succ, List.cons_append, List.nil_append, List.append_nil, List.replicate_succ, List.replicate_zero, if_true, if_false, Bool.false_eq_true, Option.bind_some, Option.map_some, Option.bind_none, Option.map_none, Bool.not_true, Bool.not_false, Z.turnM, Z.tgTup, Z.tgCons, Z.tgNil, Z.appM, Z.extM, Z.parM, List.length_cons, List.length_nil, t3, eqD_int, b, tr, hlu, t4, i4]
  obtain ⟨w', o3, h3, c3, st3⟩ := h3
  obtain ⟨y, o4, t4, c4, k4⟩ := take_ok (fu := fu) (rk := rk) (m := 4) (g1 o3) c3 (by decide) (by decide)
  rw [hs] at t4
  have h4 : ((asgM (callM (F__law_take fu rk) [(getV 0), (pure (.int 4))] []) (putV 6)) : Mo Fl) [.val (.ptr 0), .val (.lst (u.map .str)), .val (.lst (menu.map .str)), s3, .val (.int k), .val (.str w'), s6] (S.set 0 o3) = .ok .nx [.val (.ptr 0), .val (.lst (u.map .str)), .val (.lst (menu.map .str)), s3, .val (.int k), .val (.str w'), .val (.int y)] (S.set 0 o4) := by
    simp only [Z.fv_cons, Z.fv_nil, atI_0, atI_1, atI_2, atI_3, atI_4, ixNc_0, ixNc_1, ixNc_2, ixNc_3, mo_bind, mo_pure, bind_ok, bind_exc, bind_stuck, Z.getV, Z.putV, Z.putOwn, Z.putBox, Z.rdOwn, Z.ownAt, Z.seqM, Z.asgM, Z.ifM, Z.andM, Z.orM, Z.notM, Z.asB, Z.bin2, Z.un1, Z.ofO, Z.ofS, Z.ixM, Z.blt1M, Z.blt1O, Z.deref, Z.slM, Z.slMU, Z.partM, Z.tupM, Z.lstM, Z.catM, Z.argsM, Z.callM, Z.callMU, Z.callF, Z.callU, Z.truM, Z.setIxM, Z.putIx, Z.augM, Z.fin, Z.fr0, Z.funM, Z.ltD, Z.leD, Z.gtD, Z.geD, Z.iiD, Z.iiC, Z.subD, Z.intD, List.getElem?_map, List.length_map, List.getElem?_cons_zero, List.getElem?_cons_succ, List.set_cons_zero, List.set_cons_succ, List.cons_append, List.nil_append, List.append_nil, List.replicate_succ, List.replicate_zero, if_true, if_false, Bool.false_eq_true, Option.bind_some, Option.map_some, Option.bind_none, Option.map_none, Bool.not_true, Bool.not_false, Z.turnM, Z.tgTup, Z.tgCons, Z.tgNil, Z.appM, Z.extM, Z.parM, List.length_cons, List.length_nil, t4]
  have sl1 : ∀ (j : Nat) (S : List Ob), slL (.lst (u.map .str)) none (some (j : Int)) S = some ((u.take j).map .str) := fun j S => by rw [slL_lst, cut_to, List.map_take]
  have sl2 : ∀ (j : Nat) (S : List Ob), slL (.lst (u.map .str)) (some (j : Int)) none S = some ((u.drop j).map .str) := fun j S => by rw [slL_lst, cut_from, List.map_drop]
  have sl3 : ∀ (i j : Nat) (S : List Ob), slL (.lst (u.map .str)) (some (i : Int)) (some (j : Int)) S = some (((u.drop i).take (j - i)).map .str) := fun i j S => by rw [slL_lst, cut_in, List.map_take, List.map_drop]
  have a1 : ((k : Int) + 1) = ((k + 1 : Nat) : Int) := rfl
  have a2 : ((k : Int) + 2) = ((k + 2 : Nat) : Int) := rfl
  have a3 : ((k : Int) + 3) = ((k + 3 : Nat) : Int) := rfl
  have d1 : k + 3 - (k + 2) = 1 := by omega
  have d2 : k + 2 - (k + 1) = 1 := by omega
  have lt : ∀ j, (u.take j).length ≤ 100000 := fun j => by rw [List.length_take]; omega
  have ld : ∀ j, (u.drop j).length ≤ 100000 := fun j => by rw [List.length_drop]; omega
  have l1 : ∀ j, ((u.drop j).take 1).length ≤ 1 := fun j => take1 _
  have h5 : ∃ u', ((ifM (asB (bin2 (getV 6) (pure (.int 0)) eqD)) (asgM (lstM (catM (lstM (slMU (getV 1) (pure none) (partM (getV 4)))) (lstM (slMU (getV 1) (partM (bin2 (getV 4) (pure (.int 1)) addD)) (pure none))))) (putV 1)) (ifM (asB (bin2 (getV 6) (pure (.int 1)) eqD)) (asgM (lstM (catM (lstM (catM (lstM (slMU (getV 1) (pure none) (partM (getV 4)))) (lstM (argsM [(getV 5)])))) (lstM (slMU (getV 1) (partM (getV 4)) (pure none))))) (putV 1)) (ifM (asB (bin2 (getV 6) (pure (.int 2)) eqD)) (asgM (lstM (catM (lstM (catM (lstM (slMU (getV 1) (pure none) (partM (getV 4)))) (lstM (argsM [(getV 5)])))) (lstM (slMU (getV 1) (partM (bin2 (getV 4) (pure (.int 1)) addD)) (pure none))))) (putV 1)) (asgM (lstM (catM (lstM (catM (lstM (catM (lstM (slMU (getV 1) (pure none) (partM (bin2 (getV 4) (pure (.int 1)) addD)))) (lstM (slMU (getV 1) (partM (bin2 (getV 4) (pure (.int 2)) addD)) (partM (bin2 (getV 4) (pure (.int 3)) addD)))))) (lstM (slMU (getV 1) (partM (bin2 (getV 4) (pure (.int 1)) addD)) (partM (bin2 (getV 4) (pure (.int 2)) addD)))))) (lstM (slMU (getV 1) (partM (bin2 (getV 4) (pure (.int 3)) addD)) (pure none))))) (putV 1))))) : Mo Fl) [.val (.ptr 0), .val (.lst (u.map .str)), .val (.lst (menu.map .str)), s3, .val (.int k), .val (.str w'), .val (.int y)] (S.set 0 o4) = .ok .nx [.val (.ptr 0), .val (.lst (u'.map .str)), .val (.lst (menu.map .str)), s3, .val (.int k), .val (.str w'), .val (.int y)] (S.set 0 o4) ∧ Sp w0 (i + 1) u' := by
    by_cases y0 : (y : Int) = 0
    · have b0 := decide_eq_true y0
      have hE := hsp.edit k 1 [] [] (by simp) (by simp) (by simp) (by simp) (by simp) (.inr (by simp))
      rw [List.append_nil, List.append_nil] at hE
      refine ⟨_, ?_, hE⟩
      have z1 : (u.take k).length + (u.drop (k + 1)).length ≤ sizeLine := by have := lt k; have := ld (k + 1); rw [sizeLine_eq]; omega
      simp only [Z.fv_cons, Z.fv_nil, atI_0, atI_1, atI_2, atI_3, atI_4, ixNc_0, ixNc_1, ixNc_2, ixNc_3, mo_bind, mo_pure, bind_ok, bind_exc, bind_stuck, Z.getV, Z.putV, Z.putOwn, Z.putBox, Z.rdOwn, Z.ownAt, Z.seqM, Z.asgM, Z.ifM, Z.andM, Z.orM, Z.notM, Z.asB, Z.bin2, Z.un1, Z.ofO, Z.ofS, Z.ixM, Z.blt1M, Z.blt1O, Z.deref, Z.slM, Z.slMU, Z.partM, Z.tupM, Z.lstM, Z.catM, Z.argsM, Z.callM, Z.callMU, Z.callF, Z.callU, Z.truM, Z.setIxM, Z.putIx, Z.augM, Z.fin, Z.fr0, Z.funM, Z.ltD, Z.leD, Z.gtD, Z.geD, Z.iiD, Z.iiC, Z.subD, Z.intD, List.getElem?_map, List.length_map, List.getElem?_cons_zero, List.getElem?_cons_succ, List.set_cons_zero, List.set_cons_succ, List.cons_append, List.nil_append, List.append_nil, List.replicate_succ, List.replicate_zero, if_true, if_false, Bool.false_eq_true, Option.bind_some, Option.map_some, Option.bind_none, Option.map_none, Bool.not_true, Bool.not_false, Z.turnM, Z.tgTup, Z.tgCons, Z.tgNil, Z.appM, Z.extM, Z.parM, List.length_cons, List.length_nil, eqD_int, b0, sl1, sl2, add_ii, a1, List.length_map, z1, List.map_append]
    · have b0 := decide_eq_false y0
      by_cases y1 : (y : Int) = 1
      · have b1 := decide_eq_true y1
        have hE : Sp w0 (i + 1) (u.take k ++ [w'] ++ u.drop k) := by
          have := hsp.edit k 0 [w'] [] (by simp) (by simp) (by simpa using st3) (by simp) (by simp) (.inr (by simp))
          rw [List.append_nil] at this
          exact this
        refine ⟨_, ?_, hE⟩
        have z1 : (u.take k).length + (0 + 1) ≤ sizeLine := by have := lt k; rw [sizeLine_eq]; omega
        have z2 : (u.take k).length + (0 + 1) + (u.drop k).length ≤ sizeLine := by have := lt k; have := ld k; rw [sizeLine_eq]; omega
        simp only [Z.fv_cons, Z.fv_nil, atI_0, atI_1, atI_2, atI_3, atI_4, ixNc_0, ixNc_1, ixNc_2, ixNc_3, mo_bind, mo_pure, bind_ok, bind_exc, bind_stuck, Z.getV, Z.putV, Z.putOwn, Z.putBox, Z.rdOwn, Z.ownAt, Z.seqM, Z.asgM, Z.ifM, Z.andM, Z.orM, Z.notM, Z.asB, Z.bin2, Z.un1, Z.ofO, Z.ofS, Z.ixM, Z.blt1M, Z.blt1O, Z.deref, Z.slM, Z.slMU, Z.partM, Z.tupM, Z.lstM, Z.catM, Z.argsM, Z.callM, Z.callMU, Z.callF, Z.callU, Z.truM, Z.setIxM, Z.putIx, Z.augM, Z.fin, Z.fr0, Z.funM, Z.ltD, Z.leD, Z.gtD, Z.geD, Z.iiD, Z.iiC, Z.subD, Z.intD, List.getElem?_map, List.length_map, List.getElem?_cons_zero, List.getElem?_cons_succ, List.set_cons_zero, List.set_cons_succ, List.cons_append, List.nil_append, List.append_nil, List.replicate_succ, List.replicate_zero, if_true, if_false, Bool.false_eq_true, Option.bind_some, Option.map_some, Option.bind_none, Option.map_none, Bool.not_true, Bool.not_false, Z.turnM, Z.tgTup, Z.tgCons, Z.tgNil, Z.appM, Z.extM, Z.parM, List.length_cons, List.length_nil, eqD_int, b0, b1, sl1, sl2, add_ii, a1, List.length_map, z1, z2, List.map_append, List.length_append, List.map_cons, List.map_nil, List.append_assoc]
      · have b1 := decide_eq_false y1
        by_cases y2 : (y : Int) = 2
        · have b2 := decide_eq_true y2
          have hE := hsp.edit k 1 [w'] [] (by simp) (by simp) (by simpa using st3) (by simp) (by simp) (.inr (by simp))
          rw [List.append_nil] at hE
          refine ⟨_, ?_, hE⟩
          have z1 : (u.take k).length + (0 + 1) ≤ sizeLine := by have := lt k; rw [sizeLine_eq]; omega
          have z2 : (u.take k).length + (0 + 1) + (u.drop (k + 1)).length ≤ sizeLine := by have := lt k; have := ld (k + 1); rw [sizeLine_eq]; omega
          simp only [Z.fv_cons, Z.fv_nil, atI_0, atI_1, atI_2, atI_3, atI_4, ixNc_0, ixNc_1, ixNc_2, ixNc_3, mo_bind, mo_pure, bind_ok, bind_exc, bind_stuck, Z.getV, Z.putV, Z.putOwn, Z.putBox, Z.rdOwn, Z.ownAt, Z.seqM, Z.asgM, Z.ifM, Z.andM, Z.orM, Z.notM, Z.asB, Z.bin2, Z.un1, Z.ofO, Z.ofS, Z.ixM, Z.blt1M, Z.blt1O, Z.deref, Z.slM, Z.slMU, Z.partM, Z.tupM, Z.lstM, Z.catM, Z.argsM, Z.callM, Z.callMU, Z.callF, Z.callU, Z.truM, Z.setIxM, Z.putIx, Z.augM, Z.fin, Z.fr0, Z.funM, Z.ltD, Z.leD, Z.gtD, Z.geD, Z.iiD, Z.iiC, Z.subD, Z.intD, List.getElem?_map, List.length_map, List.getElem?_cons_zero, List.getElem?_cons_succ, List.set_cons_zero, List.set_cons_succ, List.cons_append, List.nil_append, List.append_nil, List.replicate_succ, List.replicate_zero, if_true, if_false, Bool.false_eq_true, Option.bind_some, Option.map_some, Option.bind_none, Option.map_none, Bool.not_true, Bool.not_false, Z.turnM, Z.tgTup, Z.tgCons, Z.tgNil, Z.appM, Z.extM, Z.parM, List.length_cons, List.length_nil, eqD_int, b0, b1, b2, sl1, sl2, add_ii, a1, List.length_map, z1, z2, List.map_append, List.length_append, List.map_cons, List.map_nil, List.append_assoc]
        · have b2 := decide_eq_false y2
          have hE := hsp.edit (k + 1) 2 ((u.drop (k + 2)).take 1) ((u.drop (k + 1)).take 1) (l1 _) (l1 _) (fun x hx => hsp.st x (List.mem_of_mem_drop (List.mem_of_mem_take hx))) (fun x hx => hsp.st x (List.mem_of_mem_drop (List.mem_of_mem_take hx)))
            (by have := l1 (k + 2); have := l1 (k + 1); omega) (by
              by_cases hk : k + 1 + 2 ≤ u.length
              · exact .inl hk
              · right
                have : (u.drop (k + 2)).take 1 = [] := by rw [List.drop_eq_nil_of_le (by omega), List.take_nil]
                have h0 := l1 (k + 1)
                rw [this]
                simp only [List.length_nil]
                omega)
          rw [show k + 1 + 2 = k + 3 by omega] at hE
          refine ⟨_, ?_, hE⟩
          have m1 := lt (k + 1)
          have m2 := l1 (k + 2)
          have m3 := l1 (k + 1)
          have m4 := ld (k + 3)
          have z1 : (u.take (k + 1)).length + ((u.drop (k + 2)).take 1).length ≤ sizeLine := by rw [sizeLine_eq]; omega
          have z2 : (u.take (k + 1)).length + ((u.drop (k + 2)).take 1).length + ((u.drop (k + 1)).take 1).length ≤ sizeLine := by rw [sizeLine_eq]; omega
          have z3 : (u.take (k + 1)).length + ((u.drop (k + 2)).take 1).length + ((u.drop (k + 1)).take 1).length + (u.drop (k + 3)).length ≤ sizeLine := by rw [sizeLine_eq]; omega
          have z2' : (u.take (k + 1)).length + (((u.drop (k + 2)).take 1).length + ((u.drop (k + 1)).take 1).length) ≤ sizeLine := by rw [sizeLine_eq]; omega
          have z3' : (u.take (k + 1)).length + (((u.drop (k + 2)).take 1).length + ((u.drop (k + 1)).take 1).length) + (u.drop (k + 3)).length ≤ sizeLine := by rw [sizeLine_eq]; omega
          simp only [Z.fv_cons, Z.fv_nil, atI_0, atI_1, atI_2, atI_3, atI_4, ixNc_0, ixNc_1, ixNc_2, ixNc_3, mo_bind, mo_pure, bind_ok, bind_exc, bind_stuck, Z.getV, Z.putV, Z.putOwn, Z.putBox, Z.rdOwn, Z.ownAt, Z.seqM, Z.asgM, Z.ifM, Z.andM, Z.orM, Z.notM, Z.asB, Z.bin2, Z.un1, Z.ofO, Z.ofS, Z.ixM, Z.blt1M, Z.blt1O, Z.deref, Z.slM, Z.slMU, Z.partM, Z.tupM, Z.lstM, Z.catM, Z.argsM, Z.callM, Z.callMU, Z.callF, Z.callU, Z.truM, Z.setIxM, Z.putIx, Z.augM, Z.fin, Z.fr0, Z.funM, Z.ltD, Z.leD, Z.gtD, Z.geD, Z.iiD, Z.iiC, Z.subD, Z.intD, List.getElem?_map, List.length_map, List.getElem?_cons_zero, List.getElem?_cons_succ, List.set_cons_zero, List.set_cons_succ, List.cons_append, List.nil_append, List.append_nil, List.replicate_succ, List.replicate_zero, if_true, if_false, Bool.false_eq_true, Option.bind_some, Option.map_some, Option.bind_none, Option.map_none, Bool.not_true, Bool.not_false, Z.turnM, Z.tgTup, Z.tgCons, Z.tgNil, Z.appM, Z.extM, Z.parM, List.length_cons, List.length_nil, eqD_int, b0, b1, b2, sl1, sl2, sl3, add_ii, a1, a2, a3, d1, d2, List.length_map, z1, z2, z3, z2', z3', List.map_append, List.length_append, List.append_assoc]
  obtain ⟨u', h5, e5⟩ := h5
  exact ⟨u', o4, _, _, _, (seqM_nx h1).trans ((seqM_nx h2).trans ((seqM_nx h3).trans ((seqM_nx h4).trans h5))), c4, e5⟩
end
theorem spoilt_ok {fu rk : Nat} {S : List Ob} {o : Ob} {w0 : List Str} (h : S[0]? = some o) (ho : Cob o) (hw : ∀ x ∈ w0, ST x) (hl : w0.length ≤ 90000) :
    ∃ u o', F__law_spoilt_tokens fu rk [.ptr 0, .lst (w0.map .str)] S = .ok (.d (.lst (u.map .str))) (S.set 0 o') ∧ Cob o' ∧ Sp w0 3 u := by
  have hS : 0 < S.length := (List.getElem?_eq_some_iff.mp h).1
  have g1 : ∀ o, (S.set 0 o)[0]? = some o := fun o => List.getElem?_set_self hS
  have hs : ∀ o o', (S.set 0 o).set 0 o' = S.set 0 o' := fun o o' => List.set_set _
  obtain ⟨q1, o1, t1, c1, k1⟩ := take_ok (fu := fu) (rk := rk) (m := 3) h ho (by decide) (by decide)
  obtain ⟨q2, o2, t2, c2, k2⟩ := take_ok (fu := fu) (rk := rk) (m := 6) (g1 o1) c1 (by decide) (by decide)
  rw [hs] at t2
  have sp0 : Sp w0 0 w0 := ⟨⟨1, 0, Pcs.all w0, by omega, by omega⟩, hw, by omega⟩
  have hn : ∃ n : Nat, n ≤ 3 ∧ ∀ b1 b2 : Bool, b1 = decide ((q1 : Int) = 0) → b2 = decide ((q2 : Int) = 0) → (1 : Int) + (if b1 = true then 1 else 0) + (if b2 = true then 1 else 0) = (n : Int) := by
    by_cases z1 : (q1 : Int) = 0 <;> by_cases z2 : (q2 : Int) = 0
    · exact ⟨3, by omega, fun b1 b2 h1 h2 => by rw [h1, h2, decide_eq_true z1, decide_eq_true z2]; rfl⟩
    · exact ⟨2, by omega, fun b1 b2 h1 h2 => by rw [h1, h2, decide_eq_true z1, decide_eq_false z2]; rfl⟩
    · exact ⟨2, by omega, fun b1 b2 h1 h2 => by rw [h1, h2, decide_eq_false z1, decide_eq_true z2]; rfl⟩
    · exact ⟨1, by omega, fun b1 b2 h1 h2 => by rw [h1, h2, decide_eq_false z1, decide_eq_false z2]; rfl⟩
  obtain ⟨n, hn3, hn⟩ := hn
  have hr : itR1 [.int (n : Int)] = some (rngD 0 n) := itR1_nat (by omega)
  obtain ⟨fr', S', e1, u, o', s3, s4, s5, s6, e2, e3, e4, e5⟩ := loop_ind (f := (putV 3)) (b := (seqM (asgM (callM (F__law_take fu rk) [(getV 0), (bin2 (blt1M lenD (getV 1)) (pure (.int 1)) addD)] []) (putV 4))
    (seqM (asgM (ixM (getV 2) (callM (F__law_take fu rk) [(getV 0), (blt1M lenD (getV 2))] [])) (putV 5))
    (seqM (ifM (Z.andM (asB (bin2 (callM (F__law_take fu rk) [(getV 0), (pure (.int 2))] []) (pure (.int 0)) eqD)) (truM (getV 1))) (asgM (ixM (getV 1) (callM (F__law_take fu rk) [(getV 0), (blt1M lenD (getV 1))] [])) (putV 5)) (pure .nx))
    (seqM (asgM (callM (F__law_take fu rk) [(getV 0), (pure (.int 4))] []) (putV 6))
    (ifM (asB (bin2 (getV 6) (pure (.int 0)) eqD)) (asgM (lstM (catM (lstM (slMU (getV 1) (pure none) (partM (getV 4)))) (lstM (slMU (getV 1) (partM (bin2 (getV 4) (pure (.int 1)) addD)) (pure none))))) (putV 1)) (ifM (asB (bin2 (getV 6) (pure (.int 1)) eqD)) (asgM (lstM (catM (lstM (catM (lstM (slMU (getV 1) (pure none) (partM (getV 4)))) (lstM (argsM [(getV 5)])))) (lstM (slMU (getV 1) (partM (getV 4)) (pure none))))) (putV 1)) (ifM (asB (bin2 (getV 6) (pure (.int 2)) eqD)) (asgM (lstM (catM (lstM (catM (lstM (slMU (getV 1) (pure none) (partM (getV 4)))) (lstM (argsM [(getV 5)])))) (lstM (slMU (getV 1) (partM (bin2 (getV 4) (pure (.int 1)) addD)) (pure none))))) (putV 1)) (asgM (lstM (catM (lstM (catM (lstM (catM (lstM (slMU (getV 1) (pure none) (partM (bin2 (getV 4) (pure (.int 1)) addD)))) (lstM (slMU (getV 1) (partM (bin2 (getV 4) (pure (.int 2)) addD)) (partM (bin2 (getV 4) (pure (.int 3)) addD)))))) (lstM (slMU (getV 1) (partM (bin2 (getV 4) (pure (.int 1)) addD)) (partM (bin2 (getV 4) (pure (.int 2)) addD)))))) (lstM (slMU (getV 1) (partM (bin2 (getV 4) (pure (.int 3)) addD)) (pure none))))) (putV 1))))))))))
    (fun i fr S' => ∃ u o' s3 s4 s5 s6, fr = [.val (.ptr 0), .val (.lst (u.map .str)), .val (.lst (menu.map .str)), s3, s4, s5, s6] ∧ S' = S.set 0 o' ∧ Cob o' ∧ Sp w0 i u) (rngD 0 n) 0
    [.val (.ptr 0), .val (.lst (w0.map .str)), .val (.lst (menu.map .str)), .un, .un, .un, .un] (S.set 0 o2)
    (fun j d fr S' hd hi => by
      obtain ⟨rfl, hj⟩ := rngD_get hd
      obtain ⟨u, o', s3, s4, s5, s6, rfl, rfl, c, sp⟩ := hi
      rw [Nat.zero_add] at sp ⊢
      have hul := sp.len
      obtain ⟨u', o'', s4', s5', s6', r1, r2, r3⟩ := spoilt_turn (fu := fu) (rk := rk) (s3 := .val (.int (j : Nat))) (s4 := s4) (s5 := s5) (s6 := s6) hS c sp (by omega)
      exact ⟨_, _, _, _, rfl, r1, u', o'', _, _, _, _, rfl, rfl, r2, r3⟩)
    ⟨w0, o2, .un, .un, .un, .un, rfl, rfl, c2, sp0⟩
  subst e2
  subst e3
  have hlr : (rngD 0 n).length = n := by simp [rngD]
  rw [Nat.zero_add, hlr] at e5
  have sp3 : Sp w0 3 u := by
    obtain ⟨⟨p, q, hp, b1, b2⟩, h2, h3⟩ := e5
    exact ⟨⟨p, q, hp, by omega, by omega⟩, h2, by omega⟩
  have i1 : ∀ b : Bool, intD (.bl b) = some (.int (if b = true then 1 else 0)) := fun b => by cases b <;> rfl
  have hn' := hn _ _ rfl rfl
  have hA : ((asgM (lstM (argsM [(pure (.str "(")), (pure (.str ")")), (pure (.str "[")), (pure (.str "]")), (pure (.str ".")), (pure (.str ",")), (pure (.str ":")), (pure (.str ";")), (pure (.str "->")), (pure (.str "&")), (pure (.str "|")), (pure (.str "a")), (pure (.str "p")), (pure (.str "x")), (pure (.str "o")), (pure (.str "if")), (pure (.str "true")), (pure (.str "some")), (pure (.str "all")), (pure (.str "given")), (pure (.str "same"))])) (putV 2)) : Mo Fl) [.val (.ptr 0), .val (.lst (w0.map .str)), .un, .un, .un, .un, .un] S = .ok .nx [.val (.ptr 0), .val (.lst (w0.map .str)), .val (.lst (menuA.map .str)), .un, .un, .un, .un] S := rfl
  have hB : ((asgM (lstM (catM (getV 2) (lstM (argsM [(pure (.str "match")), (pure (.str "con")), (pure (.str "rule")), (pure (.str "ask")), (pure (.str "steps")), (pure (.str "12")), (pure (.str "007")), (pure (.str "#")), (pure (.str "longwords")), (pure (.str "zzzzzzzz")), (pure (.str "zc")), (pure (.str "c"))])))) (putV 2)) : Mo Fl) [.val (.ptr 0), .val (.lst (w0.map .str)), .val (.lst (menuA.map .str)), .un, .un, .un, .un] S = .ok .nx [.val (.ptr 0), .val (.lst (w0.map .str)), .val (.lst (menu.map .str)), .un, .un, .un, .un] S := by
    have hm2 : menuA.map D.str ++ ([.str "match", .str "con", .str "rule", .str "ask", .str "steps", .str "12", .str "007", .str "#", .str "longwords", .str "zzzzzzzz", .str "zc", .str "c"] : List D) = menu.map D.str := rfl
    have c1 : menuA.length + ([.str "match", .str "con", .str "rule", .str "ask", .str "steps", .str "12", .str "007", .str "#", .str "longwords", .str "zzzzzzzz", .str "zc", .str "c"] : List D).length ≤ sizeLine := by rw [sizeLine_eq]; decide
    simp only [Z.fv_cons, Z.fv_nil, atI_0, atI_1, atI_2, atI_3, atI_4, ixNc_0, ixNc_1, ixNc_2, ixNc_3, mo_bind, mo_pure, bind_ok, bind_exc, bind_stuck, Z.getV, Z.putV, Z.putOwn, Z.putBox, Z.rdOwn, Z.ownAt, Z.seqM, Z.asgM, Z.ifM, Z.andM, Z.orM, Z.notM, Z.asB, Z.bin2, Z.un1, Z.ofO, Z.ofS, Z.ixM, Z.blt1M, Z.blt1O, Z.deref, Z.slM, Z.slMU, Z.partM, Z.tupM, Z.lstM, Z.catM, Z.argsM, Z.callM, Z.callMU, Z.callF, Z.callU, Z.truM, Z.setIxM, Z.putIx, Z.augM, Z.fin, Z.fr0, Z.funM, Z.ltD, Z.leD, Z.gtD, Z.geD, Z.iiD, Z.iiC, Z.subD, Z.intD, List.getElem?_map, List.length_map, List.getElem?_cons_zero, List.getElem?_cons_succ, List.set_cons_zero, List.set_cons_succ, List.cons_append, List.nil_append, List.append_nil, List.replicate_succ, List.replicate_zero, if_true, if_false, Bool.false_eq_true, Option.bind_some, Option.map_some, Option.bind_none, Option.map_none, Bool.not_true, Bool.not_false, c1, hm2]
  have hC : ((Z.forM (argsM [(bin2 (bin2 (pure (.int 1)) (blt1M intD (bin2 (callM (F__law_take fu rk) [(getV 0), (pure (.int 3))] []) (pure (.int 0)) eqD)) addD) (blt1M intD (bin2 (callM (F__law_take fu rk) [(getV 0), (pure (.int 6))] []) (pure (.int 0)) eqD)) addD)] >>= fun as => ofO (itR1 as)) (putV 3) (seqM (asgM (callM (F__law_take fu rk) [(getV 0), (bin2 (blt1M lenD (getV 1)) (pure (.int 1)) addD)] []) (putV 4))
    (seqM (asgM (ixM (getV 2) (callM (F__law_take fu rk) [(getV 0), (blt1M lenD (getV 2))] [])) (putV 5))
    (seqM (ifM (Z.andM (asB (bin2 (callM (F__law_take fu rk) [(getV 0), (pure (.int 2))] []) (pure (.int 0)) eqD)) (truM (getV 1))) (asgM (ixM (getV 1) (callM (F__law_take fu rk) [(getV 0), (blt1M lenD (getV 1))] [])) (putV 5)) (pure .nx))
    (seqM (asgM (callM (F__law_take fu rk) [(getV 0), (pure (.int 4))] []) (putV 6))
    (ifM (asB (bin2 (getV 6) (pure (.int 0)) eqD)) (asgM (lstM (catM (lstM (slMU (getV 1) (pure none) (partM (getV 4)))) (lstM (slMU (getV 1) (partM (bin2 (getV 4) (pure (.int 1)) addD)) (pure none))))) (putV 1)) (ifM (asB (bin2 (getV 6) (pure (.int 1)) eqD)) (asgM (lstM (catM (lstM (catM (lstM (slMU (getV 1) (pure none) (partM (getV 4)))) (lstM (argsM [(getV 5)])))) (lstM (slMU (getV 1) (partM (getV 4)) (pure none))))) (putV 1)) (ifM (asB (bin2 (getV 6) (pure (.int 2)) eqD)) (asgM (lstM (catM (lstM (catM (lstM (slMU (getV 1) (pure none) (partM (getV 4)))) (lstM (argsM [(getV 5)])))) (lstM (slMU (getV 1) (partM (bin2 (getV 4) (pure (.int 1)) addD)) (pure none))))) (putV 1)) (asgM (lstM (catM (lstM (catM (lstM (catM (lstM (slMU (getV 1) (pure none) (partM (bin2 (getV 4) (pure (.int 1)) addD)))) (lstM (slMU (getV 1) (partM (bin2 (getV 4) (pure (.int 2)) addD)) (partM (bin2 (getV 4) (pure (.int 3)) addD)))))) (lstM (slMU (getV 1) (partM (bin2 (getV 4) (pure (.int 1)) addD)) (partM (bin2 (getV 4) (pure (.int 2)) addD)))))) (lstM (slMU (getV 1) (partM (bin2 (getV 4) (pure (.int 3)) addD)) (pure none))))) (putV 1)))))))))) : Mo Fl) [.val (.ptr 0), .val (.lst (w0.map .str)), .val (.lst (menu.map .str)), .un, .un, .un, .un] S = .ok .nx [.val (.ptr 0), .val (.lst (u.map .str)), .val (.lst (menu.map .str)), s3, s4, s5, s6] (S.set 0 o') := by
    unfold Z.forM
    show Rs.bind (((argsM [(bin2 (bin2 (pure (.int 1)) (blt1M intD (bin2 (callM (F__law_take fu rk) [(getV 0), (pure (.int 3))] []) (pure (.int 0)) eqD)) addD) (blt1M intD (bin2 (callM (F__law_take fu rk) [(getV 0), (pure (.int 6))] []) (pure (.int 0)) eqD)) addD)] >>= fun as => ofO (itR1 as)) : Mo (List D)) _ S) _ = _
    have hi : ((argsM [(bin2 (bin2 (pure (.int 1)) (blt1M intD (bin2 (callM (F__law_take fu rk) [(getV 0), (pure (.int 3))] []) (pure (.int 0)) eqD)) addD) (blt1M intD (bin2 (callM (F__law_take fu rk) [(getV 0), (pure (.int 6))] []) (pure (.int 0)) eqD)) addD)] >>= fun as => ofO (itR1 as)) : Mo (List D)) [.val (.ptr 0), .val (.lst (w0.map .str)), .val (.lst (menu.map .str)), .un, .un, .un, .un] S = .ok (rngD 0 n) [.val (.ptr 0), .val (.lst (w0.map .str)), .val (.lst (menu.map .str)), .un, .un, .un, .un] (S.set 0 o2) := by
      simp only [Z.fv_cons, Z.fv_nil, atI_0, atI_1, atI_2, atI_3, atI_4, ixNc_0, ixNc_1, ixNc_2, ixNc_3, mo_bind, mo_pure, bind_ok, bind_exc, bind_stuck, Z.getV, Z.putV, Z.putOwn, Z.putBox, Z.rdOwn, Z.ownAt, Z.seqM, Z.asgM, Z.ifM, Z.andM, Z.orM, Z.notM, Z.asB, Z.bin2, Z.un1, Z.ofO, Z.ofS, Z.ixM, Z.blt1M, Z.blt1O, Z.deref, Z.slM, Z.slMU, Z.partM, Z.tupM, Z.lstM, Z.catM, Z.argsM, Z.callM, Z.callMU, Z.callF, Z.callU, Z.truM, Z.setIxM, Z.putIx, Z.augM, Z.fin, Z.fr0, Z.funM, Z.ltD, Z.leD, Z.gtD, Z.geD, Z.iiD, Z.iiC, Z.subD, Z.intD, List.getElem?_map, List.length_map, List.getElem?_cons_zero, List.getElem?_cons_succ, List.set_cons_zero, List.set_cons_succ, List.cons_append, List.nil_append, List.append_nil, List.replicate_succ, List.replicate_zero, if_true, if_false, Bool.false_eq_true, Option.bind_some, Option.map_some, Option.bind_none, Option.map_none, Bool.not_true, Bool.not_false, Z.turnM, Z.tgTup, Z.tgCons, Z.tgNil, Z.appM, Z.extM, Z.parM, List.length_cons, List.length_nil, t1, t2, eqD_int, i1, add_ii, hn', hr]
    rw [hi]
    exact e1
  refine ⟨u, o', ?_, e4, sp3⟩
  show fin (M__law_spoilt_tokens fu rk [.val (.ptr 0), .val (.lst (w0.map .str)), .un, .un, .un, .un, .un] S) = _
  unfold M__law_spoilt_tokens
  rw [seqM_nx hA, seqM_nx hB, seqM_nx hC]
  rfl
end K70
set_option Elab.async false
set_option linter.all false
set_option maxRecDepth 100000
set_option maxHeartbeats 4000000
/-! Y28: loose texts are read as their types. -/
namespace K70
open PySem L2 Z
mutual
/-- the words of a type, in the order of its text -/
def wds : Ty → List Str
  | .mk as s => wdss as ++ [s]
def wdss : List Ty → List Str
  | [] => []
  | a :: r => wds a ++ wdss r
end
theorem kAt_mid {ts x y : List Str} {c : Str} (h : ts = x ++ c :: y) : kAt ts x.length = kd c := by
  subst h
  unfold kAt
  rw [List.getElem?_append_right (Nat.le_refl _), Nat.sub_self]
  rfl
theorem pk_mid {ts x y : List Str} {c : Str} (h : ts = x ++ c :: y) : pk ts x.length = c := by
  apply pk_get
  subst h
  rw [List.getElem?_append_right (Nat.le_refl _), Nat.sub_self]
  rfl
theorem kd_lpS : kd lpS = lpS := kd_lp.mpr rfl
theorem kd_rpS : kd rpS = rpS := kd_rp.mpr rfl
theorem kd_arS : kd arS = arS := kd_ar.mpr rfl
theorem wd_lp : (wdS : Str) ≠ lpS := by decide +kernel
theorem rp_ar : (rpS : Str) ≠ arS := by decide +kernel
theorem rdL_word {ts : List Str} {f : Nat → PR} {p : Nat} (h : kAt ts p = wdS) : rdL ts f p = .ok (.word p) (p + 1) := by
  unfold rdL
  rw [if_neg (by rw [h]; exact wd_lp), if_pos h]
theorem rdL_br {ts : List Str} {f : Nat → PR} {p p1 : Nat} {t : Tr} (h : kAt ts p = lpS) (hf : f (p + 1) = .ok t p1) (h1 : kAt ts p1 = rpS) : rdL ts f p = .ok t (p1 + 1) := by
  unfold rdL
  rw [if_pos h, hf]
  exact if_pos h1
theorem rdL_dp {ts : List Str} {f : Nat → PR} {p : Nat} (h : kAt ts p = lpS) (hf : f (p + 1) = .deep) : rdL ts f p = .deep := by
  unfold rdL
  rw [if_pos h, hf]
theorem rdT_ar {ts : List Str} {f : Nat → PR} {l r : Tr} {p p2 : Nat} (h : kAt ts p = arS) (hf : f (p + 1) = .ok r p2) : rdT ts f l p = .ok (.to l r) p2 := by
  unfold rdT
  rw [if_pos h, hf]
theorem rdT_dp {ts : List Str} {f : Nat → PR} {l : Tr} {p : Nat} (h : kAt ts p = arS) (hf : f (p + 1) = .deep) : rdT ts f l p = .deep := by
  unfold rdT
  rw [if_pos h, hf]
theorem rdT_no {ts : List Str} {f : Nat → PR} {l : Tr} {p : Nat} (h : kAt ts p ≠ arS) : rdT ts f l p = .ok l p := if_neg h
theorem rd_of {ts : List Str} {k p p' : Nat} {l : Tr} (h : rdL ts (rd ts k) p = .ok l p') : rd ts (k + 1) p = rdT ts (rd ts k) l p' := by rw [rd_succ, h]
theorem rd_dp {ts : List Str} {k p : Nat} (h : rdL ts (rd ts k) p = .deep) : rd ts (k + 1) p = .deep := by rw [rd_succ, h]
/-- it is read as t, or too deep -/
def Rd (ts : List Str) (p n : Nat) (t : Ty) : Prop := ∀ k, rd ts k p = .deep ∨ ∃ tr, rd ts k p = .ok tr (p + n) ∧ tyOf ts tr = t ∧ (leaves tr).map (pk ts) = wds t
theorem ls_rd {a b h : Nat} {t : Ty} {w : List Str} (l : Ls a b h t w) : ∀ (ts x y : List Str), ts = x ++ w ++ y → kAt ts (x.length + w.length) ≠ arS → Rd ts x.length w.length t := by
  -- the left side in brackets
  have left : ∀ {t : Ty} {w1 : List Str}, (∀ (ts x y : List Str), ts = x ++ w1 ++ y → kAt ts (x.length + w1.length) ≠ arS → Rd ts x.length w1.length t) → ∀ (ts x y : List Str) (k : Nat), ts = x ++ (lpS :: w1 ++ [rpS]) ++ y →
      rdL ts (rd ts k) x.length = .deep ∨ ∃ tr, rdL ts (rd ts k) x.length = .ok tr (x.length + (w1.length + 2)) ∧ tyOf ts tr = t ∧ (leaves tr).map (pk ts) = wds t := by
    intro t w1 ih ts x y k e
    have e1 : ts = x ++ lpS :: (w1 ++ rpS :: y) := by rw [e]; simp
    have e2 : ts = (x ++ [lpS]) ++ w1 ++ (rpS :: y) := by rw [e]; simp
    have e3 : ts = (x ++ lpS :: w1) ++ rpS :: y := by rw [e]; simp
    have k1 : kAt ts x.length = lpS := (kAt_mid e1).trans kd_lpS
    have k3 : kAt ts (x.length + 1 + w1.length) = rpS := by
      have := (kAt_mid e3).trans kd_rpS
      rw [List.length_append, List.length_cons] at this
      rw [show x.length + 1 + w1.length = x.length + (w1.length + 1) by omega]
      exact this
    have r := ih ts (x ++ [lpS]) (rpS :: y) e2 (by rw [List.length_append, List.length_singleton, k3]; exact rp_ar) k
    rw [List.length_append, List.length_singleton] at r
    rcases r with r | ⟨tr, r1, r2, r3⟩
    · exact .inl (rdL_dp k1 r)
    · refine .inr ⟨tr, ?_, r2, r3⟩
      rw [rdL_br k1 r1 k3]
      rw [show x.length + 1 + w1.length + 1 = x.length + (w1.length + 2) by omega]
  induction l with
  | @atom h s e =>
    intro ts x y et hk k
    cases k with
    | zero => exact .inl rfl
    | succ k =>
      have e1 : ts = x ++ s :: y := by rw [et]; simp
      have k1 : kAt ts x.length = wdS := (kAt_mid e1).trans e
      refine .inr ⟨.word x.length, ?_, ?_, ?_⟩
      · rw [rd_of (rdL_word k1)]
        exact rdT_no hk
      · rw [tyOf, pk_mid e1]
      · rw [leaves, List.map_cons, List.map_nil, pk_mid e1, wds, wdss]; rfl
  | @br h t w l ih =>
    intro ts x y et hk k
    cases k with
    | zero => exact .inl rfl
    | succ k =>
      have hlen : (lpS :: w ++ [rpS]).length = w.length + 2 := by simp
      rw [hlen] at hk
      rcases left ih ts x y k et with r | ⟨tr, r1, r2, r3⟩
      · exact .inl (rd_dp r)
      · refine .inr ⟨tr, ?_, r2, r3⟩
        rw [rd_of r1, hlen]
        exact rdT_no hk
  | @arrA h s r u w e l ih =>
    intro ts x y et hk k
    cases k with
    | zero => exact .inl rfl
    | succ k =>
      have e1 : ts = x ++ s :: (arS :: w ++ y) := by rw [et]; simp
      have e2 : ts = (x ++ [s]) ++ arS :: (w ++ y) := by rw [et]; simp
      have e3 : ts = (x ++ [s, arS]) ++ w ++ y := by rw [et]; simp
      have k1 : kAt ts x.length = wdS := (kAt_mid e1).trans e
      have k2 : kAt ts (x.length + 1) = arS := by
        have := (kAt_mid e2).trans kd_arS
        rwa [List.length_append, List.length_singleton] at this
      have hl3 : (x ++ [s, arS]).length = x.length + 1 + 1 := by simp
      have hlw : (s :: arS :: w).length = 1 + 1 + w.length := by simp only [List.length_cons]; omega
      rw [hlw] at hk ⊢
      have r := ih ts (x ++ [s, arS]) y e3 (by rw [hl3, show x.length + 1 + 1 + w.length = x.length + (1 + 1 + w.length) by omega]; exact hk) k
      rw [hl3] at r
      rw [rd_of (rdL_word k1)]
      rcases r with r | ⟨tr, r1, r2, r3⟩
      · exact .inl (rdT_dp k2 r)
      · refine .inr ⟨.to (.word x.length) tr, ?_, ?_, ?_⟩
        · rw [rdT_ar k2 r1, show x.length + 1 + 1 + w.length = x.length + (1 + 1 + w.length) by omega]
        · rw [tyOf, tyOf, r2, pk_mid e1]; rfl
        · rw [leaves, List.map_append, r3]
          rw [leaves, List.map_cons, List.map_nil, pk_mid e1]
          simp [wds, wdss]
  | @arrB h h1 t w1 r u w l1 hh l2 ih1 ih2 =>
    intro ts x y et hk k
    cases k with
    | zero => exact .inl rfl
    | succ k =>
      have e0 : ts = x ++ (lpS :: w1 ++ [rpS]) ++ (arS :: w ++ y) := by rw [et]; simp
      have e2 : ts = (x ++ (lpS :: w1 ++ [rpS])) ++ arS :: (w ++ y) := by rw [et]; simp
      have e3 : ts = (x ++ (lpS :: w1 ++ [rpS]) ++ [arS]) ++ w ++ y := by rw [et]; simp
      have hl2 : (x ++ (lpS :: w1 ++ [rpS])).length = x.length + (w1.length + 2) := by simp
      have hl3 : (x ++ (lpS :: w1 ++ [rpS]) ++ [arS]).length = x.length + (w1.length + 2) + 1 := by rw [List.length_append, hl2]; rfl
      have hlw : ((lpS :: w1 ++ [rpS]) ++ arS :: w).length = w1.length + 2 + 1 + w.length := by simp only [List.length_append, List.length_cons, List.length_nil]; omega
      have k2 : kAt ts (x.length + (w1.length + 2)) = arS := by
        have := (kAt_mid e2).trans kd_arS
        rwa [hl2] at this
      rw [hlw] at hk ⊢
      rcases left ih1 ts x (arS :: w ++ y) k e0 with r | ⟨tl, r1, r2, r3⟩
      · exact .inl (rd_dp r)
      · rw [rd_of r1]
        have r := ih2 ts _ y e3 (by rw [hl3, show x.length + (w1.length + 2) + 1 + w.length = x.length + (w1.length + 2 + 1 + w.length) by omega]; exact hk) k
        rw [hl3] at r
        rcases r with r | ⟨tr, q1, q2, q3⟩
        · exact .inl (rdT_dp k2 r)
        · refine .inr ⟨.to tl tr, ?_, ?_, ?_⟩
          · rw [rdT_ar k2 q1, show x.length + (w1.length + 2) + 1 + w.length = x.length + (w1.length + 2 + 1 + w.length) by omega]
          · rw [tyOf, r2, q2]; rfl
          · rw [leaves, List.map_append, r3, q3]
            simp [wds, wdss]
/-- the written text -/
theorem tws_ls {a b H : Nat} {s : Str} (hs : kd s = wdS) : ∀ as : List Ty, (∀ t ∈ as, Ls a b H t (tw t)) → Ls a b (H + a + as.length * b) (.mk as s) (tws as ++ [s])
  | [], _ => by rw [tws]; exact .atom hs
  | t :: r, h => by
    have ih := tws_ls (H := H) hs r fun u hu => h u (by simp [hu])
    have ht := h t (by simp)
    have e : H + a + (t :: r).length * b = (H + a + r.length * b) + b := by rw [List.length_cons, Nat.add_mul]; omega
    rw [e, tws]
    cases z : t.hasArgs with
    | true =>
      rw [if_pos rfl]
      have : (lpS :: tw t ++ [rpS]) ++ [arS] ++ tws r ++ [s] = (lpS :: tw t ++ [rpS]) ++ arS :: (tws r ++ [s]) := by simp
      rw [this]
      exact .arrB ht (by omega) ih
    | false =>
      rw [if_neg (by simp)]
      obtain ⟨u, rfl⟩ := free_of z
      have : tw (.mk [] u) ++ [arS] ++ tws r ++ [s] = tw (.mk [] u) ++ arS :: (tws r ++ [s]) := by simp
      rw [this]
      exact Ls.free ht (by omega) ih
theorem tw_ls (a b : Nat) : ∀ (n : Nat) (t : Ty), Sh n t → (∀ s ∈ wds t, kd s = wdS) → Ls a b (n * (a + 5 * b)) t (tw t)
  | 0, _, h, _ => h.elim
  | n + 1, .mk as s, h, hw => by
    obtain ⟨h1, h2⟩ := h
    have hs : kd s = wdS := hw s (by simp [wds])
    have sub : ∀ (as : List Ty), ∀ t ∈ as, ∀ u ∈ wds t, u ∈ wdss as := by
      intro as
      induction as with
      | nil => intro t ht; simp at ht
      | cons c r ih =>
        intro t ht u hu
        rw [wdss]
        rcases List.mem_cons.mp ht with z | z
        · subst z; simp [hu]
        · exact List.mem_append_right _ (ih t z u hu)
    have l := tws_ls (a := a) (b := b) (H := n * (a + 5 * b)) hs as fun t ht => tw_ls a b n t (h2 t ht) fun u hu => hw u (by rw [wds]; exact List.mem_append_left _ (sub as t ht u hu))
    rw [tw]
    refine l.mono ?_
    have h3 : as.length * b ≤ 5 * b := Nat.mul_le_mul_right _ h1
    rw [Nat.add_mul]
    omega
mutual
theorem gd_wds : ∀ {n : Nat} {t : Ty}, Gd n t → ∀ s ∈ wds t, s ∈ sorts8
  | 0, _, h, _, _ => h.elim
  | n + 1, .mk as s, h, u, hu => by
    rw [wds] at hu
    rcases List.mem_append.mp hu with z | z
    · exact gds_wds as h.2.2 u z
    · simp at z; subst z; exact h.1
theorem gds_wds : ∀ {n : Nat} (as : List Ty), (∀ a ∈ as, Gd n a) → ∀ s ∈ wdss as, s ∈ sorts8
  | _, [], _, _, hs => by simp [wdss] at hs
  | n, a :: r, h, u, hu => by
    rw [wdss] at hu
    rcases List.mem_append.mp hu with z | z
    · exact gd_wds (h a (by simp)) u z
    · exact gds_wds r (fun c hc => h c (by simp [hc])) u z
end
theorem gt_wds {n : Nat} {t : Ty} (h : Gt n t) : ∃ l s, wds t = l ++ [s] ∧ (∀ u ∈ l, u ∈ sorts8) ∧ (s ∈ sorts8 ∨ s = "o") := by
  cases t with
  | mk as s => exact ⟨wdss as, s, by rw [wds], gds_wds as h.2.2, h.1⟩
theorem gt_all {n : Nat} {t : Ty} (h : Gt n t) : ∀ s ∈ wds t, s ∈ sorts8 ∨ s = "o" := by
  obtain ⟨l, s, e, h1, h2⟩ := gt_wds h
  intro u hu
  rw [e] at hu
  rcases List.mem_append.mp hu with z | z
  · exact .inl (h1 u z)
  · simp at z; subst z; exact h2
theorem sort_len {s : Str} (h : s ∈ sorts8 ∨ s = "o") : (L s).length ≤ 8 := by
  have h1 : ∀ s ∈ sorts8, (L s).length ≤ 8 := by decide +kernel
  rcases h with h | h
  · exact h1 s h
  · subst h; decide +kernel
theorem sort_o {s : Str} (h : s ∈ sorts8) : s ≠ "o" := by
  have h1 : ∀ s ∈ sorts8, s ≠ ("o" : Str) := by decide +kernel
  exact h1 s h
theorem wl_nil {ts : List Str} : ∀ (js : List Nat) (l : List Str) (s : Str), js.map (pk ts) = l ++ [s] → (∀ u ∈ l, u ∈ sorts8) → (s ∈ sorts8 ∨ s = "o") → wl ts js = []
  | [], _, _, _, _, _ => rfl
  | j :: r, l, s, e, h1, h2 => by
    rw [List.map_cons] at e
    rw [wl]
    cases l with
    | nil =>
      rw [List.nil_append] at e
      injection e with e1 e2
      have hr : r = [] := by simpa using e2
      subst hr
      have : mwr ts true j = [] := by
        unfold mwr
        rw [e1, if_neg (by have := sort_len h2; omega), if_neg (by simp)]
        rfl
      rw [List.isEmpty_nil, this, wl]
      rfl
    | cons u l =>
      rw [List.cons_append] at e
      injection e with e1 e2
      have hu := h1 u (by simp)
      have ih := wl_nil r l s e2 (fun v hv => h1 v (by simp [hv])) h2
      have : ∀ b, mwr ts b j = [] := fun b => by
        unfold mwr
        rw [e1, if_neg (by have := sort_len (.inl hu); omega), if_neg (fun z => sort_o hu z.1)]
        rfl
      rw [this, ih]
      rfl
theorem kAt_end (ts : List Str) : kAt ts ts.length = "" := by unfold kAt; rw [List.getElem?_eq_none (by omega)]
/-- a loose text of a type is read as it -/
theorem res_ls {a b h n : Nat} {t : Ty} {w : List Str} (l : Ls a b h t w) (hg : Gt n t) (hd : rd w 224 0 ≠ .deep) : res w = .ty t := by
  have r := ls_rd l w [] [] (by simp) (by rw [List.length_nil, Nat.zero_add, kAt_end]; decide +kernel) 224
  rw [List.length_nil, Nat.zero_add] at r
  rcases r with r | ⟨tr, r1, r2, r3⟩
  · exact absurd r hd
  · obtain ⟨l, s, e, h1, h2⟩ := gt_wds hg
    rw [e] at r3
    have hw := wl_nil _ l s r3 h1 h2
    unfold res
    rw [r1]
    dsimp only
    rw [if_neg (by omega), if_pos hw, r2]
theorem not_deep {w : List Str} (h : mh 1 1 [] w < 224) : rd w 224 0 ≠ .deep := (rd_deep w 224 0 [] (by rw [List.drop_zero, List.length_nil]; omega)).1
theorem ls_shallow {h : Nat} {t : Ty} {w : List Str} (l : Ls 1 1 h t w) (hh : h < 224) : rd w 224 0 ≠ .deep := not_deep (Nat.lt_of_le_of_lt (ls_mh l).2 hh)
theorem tw_vt : ∀ (t : Ty), (∀ s ∈ wds t, VT s) → ∀ x ∈ tw t, VT x := by
  have h1 : ∀ n (t : Ty), sizeOf t < n → (∀ s ∈ wds t, VT s) → ∀ x ∈ tw t, VT x := by
    intro n
    induction n with
    | zero => intro t h; omega
    | succ n ih =>
      intro t hn hs x hx
      cases t with
      | mk as s =>
        rw [tw] at hx
        rw [wds] at hs
        have h2 : ∀ as : List Ty, (∀ a ∈ as, sizeOf a < n) → (∀ s ∈ wdss as, VT s) → ∀ x ∈ tws as, VT x := by
          intro as
          induction as with
          | nil => intro _ _ x hx; simp [tws] at hx
          | cons a r ihr =>
            intro ha hw x hx
            rw [wdss] at hw
            have hA := ih a (ha a (by simp)) fun s hs => hw s (List.mem_append_left _ hs)
            have hR := ihr (fun c hc => ha c (by simp [hc])) fun s hs => hw s (List.mem_append_right _ hs)
            rw [tws] at hx
            rcases List.mem_append.mp hx with z | z
            · rcases List.mem_append.mp z with z | z
              · split at z
                · simp at z
                  rcases z with z | z | z
                  · subst z; exact vt_lp
                  · exact hA x z
                  · subst z; exact vt_rp
                · exact hA x z
              · simp at z; subst z; exact vt_ar
            · exact hR x z
        rcases List.mem_append.mp hx with z | z
        · refine h2 as (fun a ha => ?_) (fun s hs' => hs s (List.mem_append_left _ hs')) x z
          have := List.sizeOf_lt_of_mem ha
          simp at hn
          omega
        · simp at z; subst z; exact hs x (by simp)
  exact fun t => h1 _ t (Nat.lt_succ_self _)
end K70
set_option Elab.async false
set_option linter.all false
set_option maxRecDepth 100000
set_option maxHeartbeats 4000000
/-! Y29: types are equal to themselves, in Python; how deep they are. -/
namespace K70
open PySem L2 Z
mutual
def dp : Ty → Nat
  | .mk as _ => 1 + dps as
def dps : List Ty → Nat
  | [] => 0
  | a :: r => max (dp a) (dps r)
end
mutual
def py : Ty → PyData
  | .mk as s => .tuple [.tuple (pys as), .str s]
def pys : List Ty → List PyData
  | [] => []
  | a :: r => py a :: pys r
end
mutual
theorem py_d : ∀ t : Ty, t.d.py = some (py t)
  | .mk as s => by
    rw [Ty.d, D.py, D.pys, D.py, pys_d as, D.pys, D.py, D.pys, py]
    rfl
theorem pys_d : ∀ as : List Ty, D.pys (Ty.ds as) = some (pys as)
  | [] => by rw [Ty.ds, D.pys, pys]
  | a :: r => by
    rw [Ty.ds, D.pys, py_d a, pys_d r, pys]
    rfl
end
mutual
theorem py_lay : ∀ t : Ty, (∀ s ∈ wds t, sk s = true) → (py t).canLay0 = true
  | .mk as s, h => by
    have h1 := pys_lay as fun u hu => h u (by rw [wds]; exact List.mem_append_left _ hu)
    have h2 : sk s = true := h s (by rw [wds]; simp)
    have h3 : (PyData.str s).canLay0 = true := h2
    rw [py, PyData.canLay0, PyData.canLayAll0, PyData.canLay0, h1, PyData.canLayAll0, h3, PyData.canLayAll0]
    rfl
theorem pys_lay : ∀ as : List Ty, (∀ s ∈ wdss as, sk s = true) → PyData.canLayAll0 (pys as) = true
  | [], _ => by rw [pys, PyData.canLayAll0]
  | a :: r, h => by
    rw [pys, PyData.canLayAll0, py_lay a fun u hu => h u (by rw [wdss]; exact List.mem_append_left _ hu), pys_lay r fun u hu => h u (by rw [wdss]; exact List.mem_append_right _ hu)]
    rfl
end
mutual
theorem py_dep : ∀ t : Ty, (py t).depth ≤ 2 * dp t
  | .mk as s => by
    have h1 := pys_dep as
    rw [py, PyData.depth, PyData.depthAll, PyData.depth, PyData.depthAll, PyData.depth, PyData.depthAll, dp]
    omega
theorem pys_dep : ∀ as : List Ty, PyData.depthAll (pys as) ≤ 2 * dps as
  | [] => by rw [pys, PyData.depthAll]; omega
  | a :: r => by
    have h1 := py_dep a
    have h2 := pys_dep r
    rw [pys, PyData.depthAll, dps]
    omega
end
mutual
theorem eqv_self : ∀ d : PyData, d.canLay0 = true → PyData.eqv d d = true
  | .none, _ => by rw [PyData.eqv]
  | .bool b, _ => by simp [PyData.eqv]
  | .int i, _ => by simp [PyData.eqv]
  | .str x, _ => by simp [PyData.eqv]
  | .list xs, h => by rw [PyData.eqv]; exact eqvs_self xs h
  | .tuple xs, h => by rw [PyData.eqv]; exact eqvs_self xs h
  | .dict _, h => nomatch h
theorem eqvs_self : ∀ xs : List PyData, PyData.canLayAll0 xs = true → PyData.eqvAll xs xs = true
  | [], _ => by rw [PyData.eqvAll]
  | x :: xs, h => by
    have h' : x.canLay0 = true ∧ PyData.canLayAll0 xs = true := by simpa [PyData.canLayAll0] using h
    rw [PyData.eqvAll, eqv_self x h'.1, eqvs_self xs h'.2]; rfl
end
theorem eqB_self {d : D} {p : PyData} (h : d.py = some p) (hl : p.canLay0 = true) (hd : p.depth ≤ 200) : eqB d d = some true := by
  unfold eqB
  rw [h]
  show (if eqOk p p then some (PyData.eqv p p) else none) = _
  rw [if_pos ⟨hl, hl, by omega⟩, eqv_self p hl]
theorem neD_self {d : D} {p : PyData} (h : d.py = some p) (hl : p.canLay0 = true) (hd : p.depth ≤ 200) : neD d d = some (.bl false) := by rw [neD, eqB_self h hl hd]; rfl
theorem eqD_self {d : D} {p : PyData} (h : d.py = some p) (hl : p.canLay0 = true) (hd : p.depth ≤ 200) : eqD d d = some (.bl true) := by rw [eqD, eqB_self h hl hd]; rfl
theorem ne_ty {t : Ty} (hw : ∀ s ∈ wds t, sk s = true) (hd : dp t ≤ 99) : neD t.d t.d = some (.bl false) :=
  neD_self (py_d t) (py_lay t hw) (by have := py_dep t; omega)
/-- ("told", t) or ("raised", q) -/
def Out.told : Out → D
  | .ty t => .tup [.str "told", t.d]
  | .at q => .tup [.str "raised", .int q]
theorem ne_told {x : Out} (h : ∀ t, x = .ty t → (∀ s ∈ wds t, sk s = true) ∧ dp t ≤ 99) : neD x.told x.told = some (.bl false) := by
  cases x with
  | ty t =>
    obtain ⟨hw, hd⟩ := h t rfl
    refine neD_self (p := .tuple [.str "told", py t]) ?_ ?_ ?_
    · rw [Out.told, D.py, D.pys, D.py, D.pys, py_d t, D.pys]; rfl
    · rw [PyData.canLay0, PyData.canLayAll0, PyData.canLayAll0, py_lay t hw, PyData.canLayAll0]; decide +kernel
    · have := py_dep t
      rw [PyData.depth, PyData.depthAll, PyData.depthAll, PyData.depth, PyData.depthAll]
      omega
  | «at» q =>
    refine neD_self (p := .tuple [.str "raised", .int q]) ?_ ?_ ?_
    · rw [Out.told, D.py, D.pys, D.py, D.pys, D.py, D.pys]; rfl
    · rw [PyData.canLay0, PyData.canLayAll0, PyData.canLayAll0, PyData.canLay0, PyData.canLayAll0]; decide +kernel
    · rw [PyData.depth, PyData.depthAll, PyData.depthAll, PyData.depth, PyData.depthAll, PyData.depth]
      omega
theorem dp_eta (t : Ty) : dp t = 1 + dps t.args := by cases t; rw [dp]; rfl
theorem dp_to (ts : List Str) (l r : Tr) : dp (tyOf ts (.to l r)) = max (1 + dp (tyOf ts l)) (dp (tyOf ts r)) := by
  rw [tyOf, dp, dps, dp_eta (tyOf ts r)]
  omega
theorem wt_rep (m : Nat) (s : List Bool) : wt 1 0 (List.replicate m false ++ s) = wt 1 0 s := by
  induction m with
  | zero => rfl
  | succ m ih => rw [List.replicate_succ, List.cons_append, wt, ih]; omega
/-- a read type is no deeper than the brackets, and two -/
theorem rd_dep (ts : List Str) : ∀ (k p : Nat) (s : List Bool) (t : Tr) (p' : Nat), rd ts k p = .ok t p' → wt 1 0 s + dp (tyOf ts t) ≤ 2 + mh 1 0 s (ts.drop p) ∧ ∃ m, mh 1 0 (List.replicate m false ++ s) (ts.drop p') ≤ mh 1 0 s (ts.drop p)
  | 0, _, _, _, _, h => by cases h
  | k + 1, p, s, t, p', h => by
    have hL : ∀ l p1, rdL ts (rd ts k) p = .ok l p1 → wt 1 0 s + 1 + dp (tyOf ts l) ≤ 2 + mh 1 0 s (ts.drop p) ∧ mh 1 0 s (ts.drop p1) ≤ mh 1 0 s (ts.drop p) := by
      intro l p1 e
      unfold rdL at e
      by_cases h1 : kAt ts p = lpS
      · rw [if_pos h1] at e
        obtain ⟨t0, e1, e2, e3⟩ := drop_k h1 (by decide +kernel)
        cases e4 : rd ts k (p + 1) with
        | deep => rw [e4] at e; cases e
        | stop q => rw [e4] at e; cases e
        | ok t1 p2 =>
          rw [e4] at e
          obtain ⟨i1, m, i2⟩ := rd_dep ts k (p + 1) (true :: s) t1 p2 e4
          dsimp only at e
          by_cases h2 : kAt ts p2 = rpS
          · rw [if_pos h2] at e
            cases e
            obtain ⟨t2, f1, f2, f3⟩ := drop_k h2 (by decide +kernel)
            rw [e3, mh_cons, stp_of.1 e2]
            rw [f3, mh_cons, stp_of.2.2.1 f2, pop_rep] at i2
            rw [wt] at i1
            omega
          · rw [if_neg h2] at e
            cases e
      · rw [if_neg h1] at e
        by_cases h2 : kAt ts p = wdS
        · rw [if_pos h2] at e
          cases e
          obtain ⟨t0, e1, e2, e3⟩ := drop_k h2 (by decide +kernel)
          have d1 : dp (tyOf ts (.word p)) = 1 := by rw [tyOf, dp, dps]
          have g := mh_ge 1 0 s (ts.drop p)
          rw [d1]
          refine ⟨by omega, ?_⟩
          rw [e3, mh_cons, stp_of.2.2.2 e2]
          omega
        · rw [if_neg h2] at e
          cases e
    rw [rd_succ] at h
    cases e : rdL ts (rd ts k) p with
    | deep => rw [e] at h; cases h
    | stop q => rw [e] at h; cases h
    | ok l p1 =>
      rw [e] at h
      obtain ⟨l1, l2⟩ := hL l p1 e
      dsimp only at h
      unfold rdT at h
      by_cases h2 : kAt ts p1 = arS
      · rw [if_pos h2] at h
        obtain ⟨t2, f1, f2, f3⟩ := drop_k h2 (by decide +kernel)
        rw [f3, mh_cons, stp_of.2.1 f2] at l2
        cases e2 : rd ts k (p1 + 1) with
        | deep => rw [e2] at h; cases h
        | stop q => rw [e2] at h; cases h
        | ok r p2 =>
          rw [e2] at h
          cases h
          obtain ⟨i1, m, i2⟩ := rd_dep ts k (p1 + 1) (false :: s) r _ e2
          have w0 : wt 1 0 (false :: s) = wt 1 0 s := by rw [wt]; omega
          rw [w0] at i1
          rw [dp_to]
          refine ⟨by omega, m + 1, ?_⟩
          rw [List.replicate_succ', List.append_assoc]
          exact Nat.le_trans i2 (by omega)
      · rw [if_neg h2] at h
        cases h
        exact ⟨by omega, 0, l2⟩
theorem tyOf_wds (ts : List Str) : ∀ t : Tr, wds (tyOf ts t) = (leaves t).map (pk ts)
  | .word k => by rw [tyOf, wds, wdss, leaves]; rfl
  | .to l r => by
    have h1 := tyOf_wds ts l
    have h2 := tyOf_wds ts r
    rw [Ty.eta (tyOf ts r), wds] at h2
    rw [tyOf, wds, wdss, h1, leaves, List.map_append, List.append_assoc, h2]
theorem res_told {ts : List Str} (hT : ∀ t ∈ ts, ST t) (hm : mh 1 0 [] ts ≤ 97) : ∀ t, res ts = .ty t → (∀ s ∈ wds t, sk s = true) ∧ dp t ≤ 99 := by
  intro t h
  unfold res at h
  cases e : rd ts 224 0 with
  | deep => rw [e] at h; cases h
  | stop q => rw [e] at h; cases h
  | ok tr p =>
    rw [e] at h
    dsimp only at h
    split at h
    · cases h
    · split at h
      · cases h
        refine ⟨fun s hs => ?_, ?_⟩
        · rw [tyOf_wds] at hs
          obtain ⟨j, _, rfl⟩ := List.mem_map.mp hs
          exact pk_sk hT j
        · have := (rd_dep ts 224 0 [] tr p e).1
          rw [List.drop_zero, wt] at this
          omega
      · cases h
mutual
theorem gd_dp : ∀ {n : Nat} {t : Ty}, Gd n t → dp t ≤ n
  | 0, _, h => h.elim
  | n + 1, .mk as s, h => by
    have := gds_dp as h.2.2
    rw [dp]
    omega
theorem gds_dp : ∀ {n : Nat} (as : List Ty), (∀ a ∈ as, Gd n a) → dps as ≤ n
  | n, [], _ => by rw [dps]; omega
  | n, a :: r, h => by
    have h1 := gd_dp (h a (by simp))
    have h2 := gds_dp r fun c hc => h c (by simp [hc])
    rw [dps]
    omega
end
theorem gt_dp {n : Nat} {t : Ty} (h : Gt n t) : dp t ≤ n + 1 := by
  cases t with
  | mk as s =>
    have := gds_dp as h.2.2
    rw [dp]
    omega
end K70
set_option Elab.async false
set_option linter.all false
set_option maxRecDepth 100000
set_option maxHeartbeats 4000000
/-! Y30: the law. -/
--RK=224
namespace Z
open PySem L2
theorem forM_ok {mi : Mo (List D)} {f : D → Mo Unit} {b : Mo Fl} {ds : List D} {fr fr1 : List Sl} {S S1 : List Ob} (h : mi fr S = .ok ds fr1 S1) : Z.forM mi f b fr S = loopM f b ds fr1 S1 := by
  show Rs.bind (mi fr S) _ = _
  rw [h]
  rfl
end Z
namespace K70
open PySem L2 Z
theorem app0 {S X : List Ob} {o : Ob} (h : S[0]? = some o) : (S ++ X)[0]? = some o := by
  rw [List.getElem?_append_left (List.getElem?_eq_some_iff.mp h).1]
  exact h
section
variable {fu : Nat} {S : List Ob} {ts : List Str} {ps : List (List Nat × Str)}
theorem rt_ok (hG : Gaps ps) (hp : ps.map Prod.snd = ts) (hT : ∀ t ∈ ts, ST t) (hl : ts.length ≤ 100000) (hlen : (gt ps).length ≤ 2000000) (hfu : 2000000 < fu) (hd : rd ts 224 0 ≠ .deep) : RO (res ts) S (F_read_type fu 224 [.str (mkS (gt ps))] S) :=
  read_type_ok hT hl (by omega) hd fun S => by
    have := read_ok (fu := fu) (rk := 224) (S := S) hG (by omega) (by omega)
    rw [hp] at this
    exact this
theorem told_ok (hG : Gaps ps) (hp : ps.map Prod.snd = ts) (hT : ∀ t ∈ ts, ST t) (hl : ts.length ≤ 100000) (hlen : (gt ps).length ≤ 2000000) (hfu : 2000000 < fu) (hd : rd ts 224 0 ≠ .deep) : ∃ X, F__law_type_told fu 224 [.str (mkS (gt ps))] S = .ok (.d (res ts).told) (S ++ X) := by
  obtain ⟨X, e⟩ := rt_ok (S := S) hG hp hT hl hlen hfu hd
  refine ⟨X, ?_⟩
  unfold F__law_type_told M__law_type_told
  cases z : res ts with
  | ty t =>
    rw [z] at e
    dsimp only at e
    simp only [Z.fv_cons, Z.fv_nil, atI_0, atI_1, atI_2, atI_3, atI_4, ixNc_0, ixNc_1, ixNc_2, ixNc_3, mo_bind, mo_pure, bind_ok, bind_exc, bind_stuck, Z.getV, Z.putV, Z.putOwn, Z.putBox, Z.rdOwn, Z.ownAt, Z.seqM, Z.asgM, Z.ifM, Z.andM, Z.orM, Z.notM, Z.asB, Z.bin2, Z.un1, Z.ofO, Z.ofS, Z.ixM, Z.blt1M, Z.blt1O, Z.deref, Z.slM, Z.slMU, Z.partM, Z.tupM, Z.lstM, Z.catM, Z.argsM, Z.callM, Z.callMU, Z.callF, Z.callU, Z.truM, Z.setIxM, Z.putIx, Z.augM, Z.fin, Z.fr0, Z.funM, Z.ltD, Z.leD, Z.gtD, Z.geD, Z.iiD, Z.iiC, Z.subD, Z.intD, List.getElem?_map, List.length_map, List.getElem?_cons_zero, List.getElem?_cons_succ, List.set_cons_zero, List.set_cons_succ, List.cons_append, List.nil_append, List.append_nil, List.replicate_succ, List.replicate_zero, if_true, if_false, Bool.false_eq_true, Option.bind_some, Option.map_some, Option.bind_none, Option.map_none, Bool.not_true, Bool.not_false, Z.turnM, Z.tgTup, Z.tgCons, Z.tgNil, Z.appM, Z.extM, Z.parM, List.length_cons, List.length_nil, Z.tryM, e]
    rfl
  | «at» q =>
    rw [z] at e
    dsimp only at e
    simp only [Z.fv_cons, Z.fv_nil, atI_0, atI_1, atI_2, atI_3, atI_4, ixNc_0, ixNc_1, ixNc_2, ixNc_3, mo_bind, mo_pure, bind_ok, bind_exc, bind_stuck, Z.getV, Z.putV, Z.putOwn, Z.putBox, Z.rdOwn, Z.ownAt, Z.seqM, Z.asgM, Z.ifM, Z.andM, Z.orM, Z.notM, Z.asB, Z.bin2, Z.un1, Z.ofO, Z.ofS, Z.ixM, Z.blt1M, Z.blt1O, Z.deref, Z.slM, Z.slMU, Z.partM, Z.tupM, Z.lstM, Z.catM, Z.argsM, Z.callM, Z.callMU, Z.callF, Z.callU, Z.truM, Z.setIxM, Z.putIx, Z.augM, Z.fin, Z.fr0, Z.funM, Z.ltD, Z.leD, Z.gtD, Z.geD, Z.iiD, Z.iiC, Z.subD, Z.intD, List.getElem?_map, List.length_map, List.getElem?_cons_zero, List.getElem?_cons_succ, List.set_cons_zero, List.set_cons_succ, List.cons_append, List.nil_append, List.append_nil, List.replicate_succ, List.replicate_zero, if_true, if_false, Bool.false_eq_true, Option.bind_some, Option.map_some, Option.bind_none, Option.map_none, Bool.not_true, Bool.not_false, Z.turnM, Z.tgTup, Z.tgCons, Z.tgNil, Z.appM, Z.extM, Z.parM, List.length_cons, List.length_nil, Z.tryM, e]
    rfl
end
theorem vt_st {t : Str} (h : VT t) : ST t := ⟨h.1, h.2.1⟩
theorem st_sk {t : Str} (h : ST t) : sk t = true := sk_mk (l := L t) (ok_small h.1)
theorem sp_small {w0 u : List Str} {n : Nat} {t : Ty} (h : Loose n t w0) (hn : n ≤ 4) (hs : Sp w0 3 u) : mh 1 1 [] u < 224 ∧ mh 1 0 [] u ≤ 97 := by
  obtain ⟨p, q, hp, b1, b2⟩ := hs.pcs
  have g : ∀ a b, Gh a b n ≤ Gh a b 4 := fun a b => by
    have h4 : n = 0 ∨ n = 1 ∨ n = 2 ∨ n = 3 ∨ n = 4 := by omega
    rcases h4 with h | h | h | h | h <;> subst h <;> simp only [Gh] <;> omega
  have m1 := (ls_mh (h.ls 1 1)).2
  have m2 := (ls_mh (h.ls 1 0)).2
  have e1 : Gh 1 1 4 = 34 := rfl
  have e2 : Gh 1 0 4 = 19 := rfl
  have g1 := g 1 1
  have g2 := g 1 0
  have k1 := mh_pcs 1 1 hp
  have k2 := mh_pcs 1 0 hp
  have l1 : p * mh 1 1 [] w0 ≤ 4 * 34 := Nat.mul_le_mul (by omega) (by omega)
  have l2 : p * mh 1 0 [] w0 ≤ 4 * 19 := Nat.mul_le_mul (by omega) (by omega)
  constructor <;> omega
theorem loose_small {w0 : List Str} {n : Nat} {t : Ty} (h : Loose n t w0) (hn : n ≤ 4) : rd w0 224 0 ≠ .deep := by
  have h4 : n = 0 ∨ n = 1 ∨ n = 2 ∨ n = 3 ∨ n = 4 := by omega
  refine ls_shallow (h.ls 1 1) ?_
  rcases h4 with h | h | h | h | h <;> subst h <;> decide
theorem isInt_out (x : Out) : ∃ b : Bool, isIntD x.d = some (.bl b) ∧ (∀ S : List Ob, ixS (.lst [.tup [.str "told", x.d], .tup [.str "raised", x.d]]) (.int (if b = true then 1 else 0)) S = some x.told) := by
  cases x with
  | ty t => exact ⟨false, by rw [Out.d, Ty.d_eta]; rfl, fun S => rfl⟩
  | «at» q => exact ⟨true, rfl, fun S => rfl⟩
section
variable {fu : Nat} {S : List Ob} {o : Ob} {t : Ty} {m : Nat} {tk d0 : D} {s4 s5 s6 s7 : Sl}
/-- one turn of the first loop -/
theorem turn_a (hfu : 2000000 < fu) (hS : S[0]? = some o) (ho : Cob o) (hg : Gt m t) (hm : m ≤ 3) :
    ∃ S' o' s5', (seqM (asgM (callM (F__law_loose_type fu 224 224) [(getV 1), (getV 2)] []) (putV 5))
    (ifM (asB (bin2 (callM (F_read_type fu 224) [(callM (F__law_scattered fu 224) [(getV 1), (getV 5)] [])] []) (getV 2) neD)) ((pure (.bl false)) >>= fun d => pure (.rt (.d d))) (pure .nx))) [.val d0, .val (.ptr 0), .val t.d, .val tk, s4, s5, s6, s7] S = .ok .nx [.val d0, .val (.ptr 0), .val t.d, .val tk, s4, s5', s6, s7] S' ∧ S'[0]? = some o' ∧ Cob o' := by
  have hl : 0 < S.length := (List.getElem?_eq_some_iff.mp hS).1
  have g1 : ∀ o, (S.set 0 o)[0]? = some o := fun o => List.getElem?_set_self hl
  have hs : ∀ o o', (S.set 0 o).set 0 o' = S.set 0 o' := fun o o' => List.set_set _
  obtain ⟨w, o1, e1, c1, l1⟩ := loose_ok (fu := fu) (rk := 224) m 224 t S o hm (by omega) hg hS ho
  have hwl : w.length ≤ 4500 := by
    have a1 := l1.len
    have a2 : ll (m + 1) ≤ ll 4 := ll_le (by omega)
    have a3 : ll 4 = 4368 := rfl
    omega
  have tl : TL w := ⟨fun x hx => ⟨(l1.vt x hx).1, (l1.vt x hx).2.1⟩, by omega⟩
  obtain ⟨ps, o2, e2, c2, p1, p2, p3⟩ := scattered_ok (fu := fu) (rk := 224) (S := S.set 0 o1) (ts := w) tl (fun x hx => (l1.vt x hx).2.2) (g1 o1) c1
  rw [hs] at e2
  have hd := loose_small l1 (by omega)
  have rt := rt_ok (fu := fu) (S := S.set 0 o2) p2 p1 (fun x hx => vt_st (l1.vt x hx)) (by omega) (by omega) hfu hd
  rw [res_ls (l1.ls 1 1) hg hd] at rt
  obtain ⟨X, rt⟩ := rt
  dsimp only at rt
  have ne : neD t.d t.d = some (.bl false) := ne_ty (fun s hs => st_sk (vt_st (vt_sort (gt_all hg s hs)))) (by have := gt_dp hg; omega)
  refine ⟨S.set 0 o2 ++ X, o2, .val (.lst (w.map .str)), ?_, app0 (g1 o2), c2⟩
  simp only [Z.fv_cons, Z.fv_nil, atI_0, atI_1, atI_2, atI_3, atI_4, ixNc_0, ixNc_1, ixNc_2, ixNc_3, mo_bind, mo_pure, bind_ok, bind_exc, bind_stuck, Z.getV, Z.putV, Z.putOwn, Z.putBox, Z.rdOwn, Z.ownAt, Z.seqM, Z.asgM, Z.ifM, Z.andM, Z.orM, Z.notM, Z.asB, Z.bin2, Z.un1, Z.ofO, Z.ofS, Z.ixM, Z.blt1M, Z.blt1O, Z.deref, Z.slM, Z.slMU, Z.partM, Z.tupM, Z.lstM, Z.catM, Z.argsM, Z.callM, Z.callMU, Z.callF, Z.callU, Z.truM, Z.setIxM, Z.putIx, Z.augM, Z.fin, Z.fr0, Z.funM, Z.ltD, Z.leD, Z.gtD, Z.geD, Z.iiD, Z.iiC, Z.subD, Z.intD, List.getElem?_map, List.length_map, List.getElem?_cons_zero, List.getElem?_cons_succ, List.set_cons_zero, List.set_cons_succ, List.cons_append, List.nil_append, List.append_nil, List.replicate_succ, List.replicate_zero, if_true, if_false, Bool.false_eq_true, Option.bind_some, Option.map_some, Option.bind_none, Option.map_none, Bool.not_true, Bool.not_false, Z.turnM, Z.tgTup, Z.tgCons, Z.tgNil, Z.appM, Z.extM, Z.parM, List.length_cons, List.length_nil, e1, e2, rt, ne]
/-- one turn of the second loop -/
theorem turn_b (hfu : 2000000 < fu) (hS : S[0]? = some o) (ho : Cob o) (hg : Gt m t) (hm : m ≤ 3) :
    ∃ S' o' s6' s7', (seqM (asgM (callM (F__law_spoilt_tokens fu 224) [(getV 1), (callM (F__law_loose_type fu 224 224) [(getV 1), (getV 2)] [])] []) (putV 6))
    (seqM (asgM (callM (F__law_type_due fu 224) [(getV 6)] []) (putV 7))
    (ifM (asB (bin2 (callM (F__law_type_told fu 224) [(callM (F__law_spaced fu 224) [(getV 6)] [])] []) (ixM (lstM (argsM [(tupM [(pure (.str "told")), (getV 7)]), (tupM [(pure (.str "raised")), (getV 7)])])) (blt1M intD (un1 (getV 7) isIntD))) neD)) ((pure (.bl false)) >>= fun d => pure (.rt (.d d))) (pure .nx)))) [.val d0, .val (.ptr 0), .val t.d, .val tk, s4, s5, s6, s7] S = .ok .nx [.val d0, .val (.ptr 0), .val t.d, .val tk, s4, s5, s6', s7'] S' ∧ S'[0]? = some o' ∧ Cob o' := by
  have hl : 0 < S.length := (List.getElem?_eq_some_iff.mp hS).1
  have g1 : ∀ o, (S.set 0 o)[0]? = some o := fun o => List.getElem?_set_self hl
  have hs : ∀ o o', (S.set 0 o).set 0 o' = S.set 0 o' := fun o o' => List.set_set _
  obtain ⟨w, o1, e1, c1, l1⟩ := loose_ok (fu := fu) (rk := 224) m 224 t S o hm (by omega) hg hS ho
  have hwl : w.length ≤ 4500 := by
    have a1 := l1.len
    have a2 : ll (m + 1) ≤ ll 4 := ll_le (by omega)
    have a3 : ll 4 = 4368 := rfl
    omega
  obtain ⟨u, o2, e2, c2, sp⟩ := spoilt_ok (fu := fu) (rk := 224) (S := S.set 0 o1) (w0 := w) (g1 o1) c1 (fun x hx => vt_st (l1.vt x hx)) (by omega)
  rw [hs] at e2
  have hul := sp.len
  have tl : TL u := ⟨sp.st, by omega⟩
  obtain ⟨m1, m2⟩ := sp_small l1 (by omega) sp
  have hd := not_deep m1
  obtain ⟨X, e3⟩ := due_ok (fu := fu) (S := S.set 0 o2) sp.st (by omega) hd
  have e4 := spaced_ok (fu := fu) (rk := 224) (S := S.set 0 o2 ++ X) tl
  have hsl := sp_len u sp.st
  obtain ⟨Y, e5⟩ := told_ok (fu := fu) (S := S.set 0 o2 ++ X) (sp_gaps u fun x hx => (sp.st x hx).1) (sp_snd u) sp.st (by omega) (by omega) hfu hd
  have ne := ne_told (res_told sp.st m2)
  obtain ⟨b, i1, i2⟩ := isInt_out (res u)
  have ib : intD (.bl b) = some (.int (if b = true then 1 else 0)) := by cases b <;> rfl
  refine ⟨S.set 0 o2 ++ X ++ Y, o2, .val (.lst (u.map .str)), .val (res u).d, ?_, app0 (app0 (g1 o2)), c2⟩
  simp only [Z.fv_cons, Z.fv_nil, atI_0, atI_1, atI_2, atI_3, atI_4, ixNc_0, ixNc_1, ixNc_2, ixNc_3, mo_bind, mo_pure, bind_ok, bind_exc, bind_stuck, Z.getV, Z.putV, Z.putOwn, Z.putBox, Z.rdOwn, Z.ownAt, Z.seqM, Z.asgM, Z.ifM, Z.andM, Z.orM, Z.notM, Z.asB, Z.bin2, Z.un1, Z.ofO, Z.ofS, Z.ixM, Z.blt1M, Z.blt1O, Z.deref, Z.slM, Z.slMU, Z.partM, Z.tupM, Z.lstM, Z.catM, Z.argsM, Z.callM, Z.callMU, Z.callF, Z.callU, Z.truM, Z.setIxM, Z.putIx, Z.augM, Z.fin, Z.fr0, Z.funM, Z.ltD, Z.leD, Z.gtD, Z.geD, Z.iiD, Z.iiC, Z.subD, Z.intD, List.getElem?_map, List.length_map, List.getElem?_cons_zero, List.getElem?_cons_succ, List.set_cons_zero, List.set_cons_succ, List.cons_append, List.nil_append, List.append_nil, List.replicate_succ, List.replicate_zero, if_true, if_false, Bool.false_eq_true, Option.bind_some, Option.map_some, Option.bind_none, Option.map_none, Bool.not_true, Bool.not_false, Z.turnM, Z.tgTup, Z.tgCons, Z.tgNil, Z.appM, Z.extM, Z.parM, List.length_cons, List.length_nil, e1, e2, e3, e4, e5, i1, i2, ib, ne]
end
theorem Gt.sh {m : Nat} {t : Ty} (h : Gt m t) : Sh (m + 1) t := by
  cases t with
  | mk as s => exact ⟨h.2.1, fun a ha => (h.2.2 a ha).sh⟩
theorem rd_nil : rd [] 224 0 = .stop 0 := by
  rw [show (224 : Nat) = 223 + 1 from rfl, rd_succ]
  unfold rdL
  rw [if_neg (by decide +kernel), if_neg (by decide +kernel)]
theorem res_nil : res [] = .at 0 := by
  unfold res
  rw [rd_nil]
  rfl
theorem law_pure {fu : Nat} (hfu : 2000000 < fu) (ns : List Int) (hn : ns.length ≤ 63) : ∃ S, funM 7 (M_law fu 224) [.scr ns] [] = .ok (.d (.bl true)) S := by
  obtain ⟨ds, e1, c1⟩ := start_ok (fu := fu) (rk := 224) (S := []) hn
  have h1 : (((callMU (F__law_start fu 224) [(getV 0)] []) >>= fun ds => putBox 1 ds >>= fun _ => pure .nx) : Mo Fl) [.val (.scr ns), .un, .un, .un, .un, .un, .un, .un] [] = .ok .nx [.val (.scr ns), .val (.ptr 0), .un, .un, .un, .un, .un, .un] [.lst ds] := by
    simp only [Z.fv_cons, Z.fv_nil, atI_0, atI_1, atI_2, atI_3, atI_4, ixNc_0, ixNc_1, ixNc_2, ixNc_3, mo_bind, mo_pure, bind_ok, bind_exc, bind_stuck, Z.getV, Z.putV, Z.putOwn, Z.putBox, Z.rdOwn, Z.ownAt, Z.seqM, Z.asgM, Z.ifM, Z.andM, Z.orM, Z.notM, Z.asB, Z.bin2, Z.un1, Z.ofO, Z.ofS, Z.ixM, Z.blt1M, Z.blt1O, Z.deref, Z.slM, Z.slMU, Z.partM, Z.tupM, Z.lstM, Z.catM, Z.argsM, Z.callM, Z.callMU, Z.callF, Z.callU, Z.truM, Z.setIxM, Z.putIx, Z.augM, Z.fin, Z.fr0, Z.funM, Z.ltD, Z.leD, Z.gtD, Z.geD, Z.iiD, Z.iiC, Z.subD, Z.intD, List.getElem?_map, List.length_map, List.getElem?_cons_zero, List.getElem?_cons_succ, List.set_cons_zero, List.set_cons_succ, List.cons_append, List.nil_append, List.append_nil, List.replicate_succ, List.replicate_zero, if_true, if_false, Bool.false_eq_true, Option.bind_some, Option.map_some, Option.bind_none, Option.map_none, Bool.not_true, Bool.not_false, Z.turnM, Z.tgTup, Z.tgCons, Z.tgNil, Z.appM, Z.extM, Z.parM, List.length_cons, List.length_nil, e1]
  have g0 : ([.lst ds] : List Ob)[0]? = some (.lst ds) := rfl
  have g1 : ∀ o o' : Ob, ([o] : List Ob)[0]? = some o := fun _ _ => rfl
  obtain ⟨q1, o1, t1, c2, k1⟩ := take_ok (fu := fu) (rk := 224) (m := 4) g0 c1 (by decide) (by decide)
  have t1' : F__law_take fu 224 [.ptr 0, .int 4] [.lst ds] = .ok (.d (.int q1)) [o1] := t1
  obtain ⟨t0, o2, a1, c3, gd⟩ := any_ok (fu := fu) (rk := 224) 224 (1 + q1) [o1] o1 rfl c2 (by omega) (by omega)
  have a1' : F__law_any_type fu 224 224 [.ptr 0, .int ((1 + q1 : Nat) : Int)] [o1] = .ok (.d t0.d) [o2] := a1
  have i1 : (1 : Int) + (q1 : Int) = ((1 + q1 : Nat) : Int) := by omega
  have h2 : ((asgM (callM (F__law_any_type fu 224 224) [(getV 1), (bin2 (pure (.int 1)) (callM (F__law_take fu 224) [(getV 1), (pure (.int 4))] []) addD)] []) (putV 2)) : Mo Fl) [.val (.scr ns), .val (.ptr 0), .un, .un, .un, .un, .un, .un] [.lst ds] = .ok .nx [.val (.scr ns), .val (.ptr 0), .val t0.d, .un, .un, .un, .un, .un] [o2] := by
    simp only [Z.fv_cons, Z.fv_nil, atI_0, atI_1, atI_2, atI_3, atI_4, ixNc_0, ixNc_1, ixNc_2, ixNc_3, mo_bind, mo_pure, bind_ok, bind_exc, bind_stuck, Z.getV, Z.putV, Z.putOwn, Z.putBox, Z.rdOwn, Z.ownAt, Z.seqM, Z.asgM, Z.ifM, Z.andM, Z.orM, Z.notM, Z.asB, Z.bin2, Z.un1, Z.ofO, Z.ofS, Z.ixM, Z.blt1M, Z.blt1O, Z.deref, Z.slM, Z.slMU, Z.partM, Z.tupM, Z.lstM, Z.catM, Z.argsM, Z.callM, Z.callMU, Z.callF, Z.callU, Z.truM, Z.setIxM, Z.putIx, Z.augM, Z.fin, Z.fr0, Z.funM, Z.ltD, Z.leD, Z.gtD, Z.geD, Z.iiD, Z.iiC, Z.subD, Z.intD, List.getElem?_map, List.length_map, List.getElem?_cons_zero, List.getElem?_cons_succ, List.set_cons_zero, List.set_cons_succ, List.cons_append, List.nil_append, List.append_nil, List.replicate_succ, List.replicate_zero, if_true, if_false, Bool.false_eq_true, Option.bind_some, Option.map_some, Option.bind_none, Option.map_none, Bool.not_true, Bool.not_false, Z.turnM, Z.tgTup, Z.tgCons, Z.tgNil, Z.appM, Z.extM, Z.parM, List.length_cons, List.length_nil, t1', add_ii, i1, a1']
  obtain ⟨q2, o3, t2, c4, k2⟩ := take_ok (fu := fu) (rk := 224) (m := 4) (S := [o2]) rfl c3 (by decide) (by decide)
  have t2' : F__law_take fu 224 [.ptr 0, .int 4] [o2] = .ok (.d (.int q2)) [o3] := t2
  have gt0 : Gt q1 t0 := by
    rw [show 1 + q1 = q1 + 1 by omega] at gd
    exact gd.gt
  have h3 : ∃ t, Gt q1 t ∧ ((ifM (asB (bin2 (callM (F__law_take fu 224) [(getV 1), (pure (.int 4))] []) (pure (.int 0)) eqD)) (asgM (tupM [(ixM (getV 2) (pure (.int 0))), (pure (.str "o"))]) (putV 2)) (pure .nx)) : Mo Fl) [.val (.scr ns), .val (.ptr 0), .val t0.d, .un, .un, .un, .un, .un] [o2] = .ok .nx [.val (.scr ns), .val (.ptr 0), .val t.d, .un, .un, .un, .un, .un] [o3] := by
    cases b : decide ((q2 : Int) = 0) with
    | false =>
      refine ⟨t0, gt0, ?_⟩
      simp only [Z.fv_cons, Z.fv_nil, atI_0, atI_1, atI_2, atI_3, atI_4, ixNc_0, ixNc_1, ixNc_2, ixNc_3, mo_bind, mo_pure, bind_ok, bind_exc, bind_stuck, Z.getV, Z.putV, Z.putOwn, Z.putBox, Z.rdOwn, Z.ownAt, Z.seqM, Z.asgM, Z.ifM, Z.andM, Z.orM, Z.notM, Z.asB, Z.bin2, Z.un1, Z.ofO, Z.ofS, Z.ixM, Z.blt1M, Z.blt1O, Z.deref, Z.slM, Z.slMU, Z.partM, Z.tupM, Z.lstM, Z.catM, Z.argsM, Z.callM, Z.callMU, Z.callF, Z.callU, Z.truM, Z.setIxM, Z.putIx, Z.augM, Z.fin, Z.fr0, Z.funM, Z.ltD, Z.leD, Z.gtD, Z.geD, Z.iiD, Z.iiC, Z.subD, Z.intD, List.getElem?_map, List.length_map, List.getElem?_cons_zero, List.getElem?_cons_succ, List.set_cons_zero, List.set_cons_succ, List.cons_append, List.nil_append, List.append_nil, List.replicate_succ, List.replicate_zero, if_true, if_false, Bool.false_eq_true, Option.bind_some, Option.map_some, Option.bind_none, Option.map_none, Bool.not_true, Bool.not_false, Z.turnM, Z.tgTup, Z.tgCons, Z.tgNil, Z.appM, Z.extM, Z.parM, List.length_cons, List.length_nil, t2', eqD_int, b]
    | true =>
      cases t0 with
      | mk as s =>
        refine ⟨.mk as "o", ⟨.inr rfl, gt0.2.1, gt0.2.2⟩, ?_⟩
        have ix0 : ∀ S : List Ob, ixS (.tup [.tup (Ty.ds as), .str s]) (.int 0) S = some (.tup (Ty.ds as)) := fun _ => rfl
        rw [Ty.d, Ty.d]
        simp only [Z.fv_cons, Z.fv_nil, atI_0, atI_1, atI_2, atI_3, atI_4, ixNc_0, ixNc_1, ixNc_2, ixNc_3, mo_bind, mo_pure, bind_ok, bind_exc, bind_stuck, Z.getV, Z.putV, Z.putOwn, Z.putBox, Z.rdOwn, Z.ownAt, Z.seqM, Z.asgM, Z.ifM, Z.andM, Z.orM, Z.notM, Z.asB, Z.bin2, Z.un1, Z.ofO, Z.ofS, Z.ixM, Z.blt1M, Z.blt1O, Z.deref, Z.slM, Z.slMU, Z.partM, Z.tupM, Z.lstM, Z.catM, Z.argsM, Z.callM, Z.callMU, Z.callF, Z.callU, Z.truM, Z.setIxM, Z.putIx, Z.augM, Z.fin, Z.fr0, Z.funM, Z.ltD, Z.leD, Z.gtD, Z.geD, Z.iiD, Z.iiC, Z.subD, Z.intD, List.getElem?_map, List.length_map, List.getElem?_cons_zero, List.getElem?_cons_succ, List.set_cons_zero, List.set_cons_succ, List.cons_append, List.nil_append, List.append_nil, List.replicate_succ, List.replicate_zero, if_true, if_false, Bool.false_eq_true, Option.bind_some, Option.map_some, Option.bind_none, Option.map_none, Bool.not_true, Bool.not_false, Z.turnM, Z.tgTup, Z.tgCons, Z.tgNil, Z.appM, Z.extM, Z.parM, List.length_cons, List.length_nil, t2', eqD_int, b, ix0]
  obtain ⟨t, hg, h3⟩ := h3
  have hm : q1 ≤ 3 := by omega
  have tt := fun S => tt_ok (fu := fu) (rk := 224) (S := S) (q1 + 1) 224 t (by omega) (by omega) hg.sh
  have kw := fun S => kw_ok (fu := fu) (rk := 224) (S := S) (q1 + 1) 224 t (by omega) (by omega) hg.sh
  have h4 : ((asgM (callM (F__law_type_tokens fu 224 224) [(getV 2)] []) (putV 3)) : Mo Fl) [.val (.scr ns), .val (.ptr 0), .val t.d, .un, .un, .un, .un, .un] [o3] = .ok .nx [.val (.scr ns), .val (.ptr 0), .val t.d, .val (.lst ((tw t).map .str)), .un, .un, .un, .un] [o3] := by
    simp only [Z.fv_cons, Z.fv_nil, atI_0, atI_1, atI_2, atI_3, atI_4, ixNc_0, ixNc_1, ixNc_2, ixNc_3, mo_bind, mo_pure, bind_ok, bind_exc, bind_stuck, Z.getV, Z.putV, Z.putOwn, Z.putBox, Z.rdOwn, Z.ownAt, Z.seqM, Z.asgM, Z.ifM, Z.andM, Z.orM, Z.notM, Z.asB, Z.bin2, Z.un1, Z.ofO, Z.ofS, Z.ixM, Z.blt1M, Z.blt1O, Z.deref, Z.slM, Z.slMU, Z.partM, Z.tupM, Z.lstM, Z.catM, Z.argsM, Z.callM, Z.callMU, Z.callF, Z.callU, Z.truM, Z.setIxM, Z.putIx, Z.augM, Z.fin, Z.fr0, Z.funM, Z.ltD, Z.leD, Z.gtD, Z.geD, Z.iiD, Z.iiC, Z.subD, Z.intD, List.getElem?_map, List.length_map, List.getElem?_cons_zero, List.getElem?_cons_succ, List.set_cons_zero, List.set_cons_succ, List.cons_append, List.nil_append, List.append_nil, List.replicate_succ, List.replicate_zero, if_true, if_false, Bool.false_eq_true, Option.bind_some, Option.map_some, Option.bind_none, Option.map_none, Bool.not_true, Bool.not_false, Z.turnM, Z.tgTup, Z.tgCons, Z.tgNil, Z.appM, Z.extM, Z.parM, List.length_cons, List.length_nil, tt]
  have wv := gt_all hg
  have vt := tw_vt t fun s hs => vt_sort (wv s hs)
  have tlen : (tw t).length ≤ 2496 := by
    have a1 := tw_len _ _ hg.sh
    have a2 : lb (q1 + 1) ≤ lb 4 := lb_le (by omega)
    have a3 : lb 4 = 2496 := rfl
    omega
  have tl : TL (tw t) := ⟨fun x hx => ⟨(vt x hx).1, (vt x hx).2.1⟩, by omega⟩
  have jo := fun S => joined_ok (fu := fu) (rk := 224) (S := S) tl
  have lj := fun S => law_joined_ok (fu := fu) (rk := 224) (S := S) tl
  have wg := wg_gaps (tw t) none fun x hx => ⟨(vt x hx).1, (vt x hx).2.2⟩
  have wgl := wg_len (tw t) none tl.ok
  have wo : F_write_type fu 224 [t.d] [o3] = .ok (.d (.str (mkS (jn (tw t))))) [o3] := by
    unfold F_write_type M_write_type
    simp only [Z.fv_cons, Z.fv_nil, atI_0, atI_1, atI_2, atI_3, atI_4, ixNc_0, ixNc_1, ixNc_2, ixNc_3, mo_bind, mo_pure, bind_ok, bind_exc, bind_stuck, Z.getV, Z.putV, Z.putOwn, Z.putBox, Z.rdOwn, Z.ownAt, Z.seqM, Z.asgM, Z.ifM, Z.andM, Z.orM, Z.notM, Z.asB, Z.bin2, Z.un1, Z.ofO, Z.ofS, Z.ixM, Z.blt1M, Z.blt1O, Z.deref, Z.slM, Z.slMU, Z.partM, Z.tupM, Z.lstM, Z.catM, Z.argsM, Z.callM, Z.callMU, Z.callF, Z.callU, Z.truM, Z.setIxM, Z.putIx, Z.augM, Z.fin, Z.fr0, Z.funM, Z.ltD, Z.leD, Z.gtD, Z.geD, Z.iiD, Z.iiC, Z.subD, Z.intD, List.getElem?_map, List.length_map, List.getElem?_cons_zero, List.getElem?_cons_succ, List.set_cons_zero, List.set_cons_succ, List.cons_append, List.nil_append, List.append_nil, List.replicate_succ, List.replicate_zero, if_true, if_false, Bool.false_eq_true, Option.bind_some, Option.map_some, Option.bind_none, Option.map_none, Bool.not_true, Bool.not_false, Z.turnM, Z.tgTup, Z.tgCons, Z.tgNil, Z.appM, Z.extM, Z.parM, List.length_cons, List.length_nil, kw, jo]
  have tls := tw_ls 1 1 (q1 + 1) t hg.sh fun s hs => kd_sort (wv s hs)
  have hd : rd (tw t) 224 0 ≠ .deep := ls_shallow tls (by omega)
  have rt := rt_ok (fu := fu) (S := [o3]) wg (wg_snd (tw t) none) (fun x hx => vt_st (vt x hx)) (by omega) (by omega) hfu hd
  rw [res_ls tls hg hd] at rt
  obtain ⟨X, rt⟩ := rt
  have rt' : F_read_type fu 224 [.str (mkS (jn (tw t)))] [o3] = .ok (.d t.d) ([o3] ++ X) := rt
  have ne : neD t.d t.d = some (.bl false) := ne_ty (fun s hs => st_sk (vt_st (vt_sort (wv s hs)))) (by have := gt_dp hg; omega)
  have sj : sk (mkS (jn (tw t))) = true := sk_mk (gt_small wg)
  have nj : neD (.str (mkS (jn (tw t)))) (.str (mkS (jn (tw t)))) = some (.bl false) := by rw [neD_str sj sj]; simp
  have h5 : ((ifM (Z.orM (asB (bin2 (callM (F_write_type fu 224) [(getV 2)] []) (callM (F__law_joined fu 224) [(getV 3)] []) neD)) (asB (bin2 (callM (F_read_type fu 224) [(callM (F__law_joined fu 224) [(getV 3)] [])] []) (getV 2) neD))) ((pure (.bl false)) >>= fun d => pure (.rt (.d d))) (pure .nx)) : Mo Fl) [.val (.scr ns), .val (.ptr 0), .val t.d, .val (.lst ((tw t).map .str)), .un, .un, .un, .un] [o3] = .ok .nx [.val (.scr ns), .val (.ptr 0), .val t.d, .val (.lst ((tw t).map .str)), .un, .un, .un, .un] ([o3] ++ X) := by
    simp only [Z.fv_cons, Z.fv_nil, atI_0, atI_1, atI_2, atI_3, atI_4, ixNc_0, ixNc_1, ixNc_2, ixNc_3, mo_bind, mo_pure, bind_ok, bind_exc, bind_stuck, Z.getV, Z.putV, Z.putOwn, Z.putBox, Z.rdOwn, Z.ownAt, Z.seqM, Z.asgM, Z.ifM, Z.andM, Z.orM, Z.notM, Z.asB, Z.bin2, Z.un1, Z.ofO, Z.ofS, Z.ixM, Z.blt1M, Z.blt1O, Z.deref, Z.slM, Z.slMU, Z.partM, Z.tupM, Z.lstM, Z.catM, Z.argsM, Z.callM, Z.callMU, Z.callF, Z.callU, Z.truM, Z.setIxM, Z.putIx, Z.augM, Z.fin, Z.fr0, Z.funM, Z.ltD, Z.leD, Z.gtD, Z.geD, Z.iiD, Z.iiC, Z.subD, Z.intD, List.getElem?_map, List.length_map, List.getElem?_cons_zero, List.getElem?_cons_succ, List.set_cons_zero, List.set_cons_succ, List.cons_append, List.nil_append, List.append_nil, List.replicate_succ, List.replicate_zero, if_true, if_false, Bool.false_eq_true, Option.bind_some, Option.map_some, Option.bind_none, Option.map_none, Bool.not_true, Bool.not_false, Z.turnM, Z.tgTup, Z.tgCons, Z.tgNil, Z.appM, Z.extM, Z.parM, List.length_cons, List.length_nil, wo, lj, nj, rt', ne]
  have r3 : itR1 [.int 3] = some (rngD 0 3) := itR1_nat (j := 3) (by omega)
  have r4 : itR1 [.int 4] = some (rngD 0 4) := itR1_nat (j := 4) (by omega)
  obtain ⟨fr', S', l1, o4, s4, s5, s6, s7, rfl, g4, c5⟩ := loop_ind (f := (putV 4)) (b := (seqM (asgM (callM (F__law_loose_type fu 224 224) [(getV 1), (getV 2)] []) (putV 5))
    (ifM (asB (bin2 (callM (F_read_type fu 224) [(callM (F__law_scattered fu 224) [(getV 1), (getV 5)] [])] []) (getV 2) neD)) ((pure (.bl false)) >>= fun d => pure (.rt (.d d))) (pure .nx))))
    (fun i fr S' => ∃ o s4 s5 s6 s7, fr = [.val (.scr ns), .val (.ptr 0), .val t.d, .val (.lst ((tw t).map .str)), s4, s5, s6, s7] ∧ S'[0]? = some o ∧ Cob o) (rngD 0 3) 0
    [.val (.scr ns), .val (.ptr 0), .val t.d, .val (.lst ((tw t).map .str)), .un, .un, .un, .un] ([o3] ++ X)
    (fun j d fr S' hd hi => by
      obtain ⟨o, s4, s5, s6, s7, rfl, g, c⟩ := hi
      obtain ⟨S2, o', s5', e, g', c'⟩ := turn_a (fu := fu) (tk := .lst ((tw t).map .str)) (d0 := .scr ns) (s4 := .val d) (s5 := s5) (s6 := s6) (s7 := s7) hfu g c hg hm
      exact ⟨_, _, _, _, rfl, e, o', _, _, _, _, rfl, g', c'⟩)
    ⟨o3, .un, .un, .un, .un, rfl, rfl, c4⟩
  have h6 : ((Z.forM (argsM [(pure (.int 3))] >>= fun as => ofO (itR1 as)) (putV 4) (seqM (asgM (callM (F__law_loose_type fu 224 224) [(getV 1), (getV 2)] []) (putV 5))
    (ifM (asB (bin2 (callM (F_read_type fu 224) [(callM (F__law_scattered fu 224) [(getV 1), (getV 5)] [])] []) (getV 2) neD)) ((pure (.bl false)) >>= fun d => pure (.rt (.d d))) (pure .nx)))) : Mo Fl) [.val (.scr ns), .val (.ptr 0), .val t.d, .val (.lst ((tw t).map .str)), .un, .un, .un, .un] ([o3] ++ X) = .ok .nx [.val (.scr ns), .val (.ptr 0), .val t.d, .val (.lst ((tw t).map .str)), s4, s5, s6, s7] S' := by
    refine Eq.trans ?_ l1
    exact forM_ok (by simp only [Z.fv_cons, Z.fv_nil, atI_0, atI_1, atI_2, atI_3, atI_4, ixNc_0, ixNc_1, ixNc_2, ixNc_3, mo_bind, mo_pure, bind_ok, bind_exc, bind_stuck, Z.getV, Z.putV, Z.putOwn, Z.putBox, Z.rdOwn, Z.ownAt, Z.seqM, Z.asgM, Z.ifM, Z.andM, Z.orM, Z.notM, Z.asB, Z.bin2, Z.un1, Z.ofO, Z.ofS, Z.ixM, Z.blt1M, Z.blt1O, Z.deref, Z.slM, Z.slMU, Z.partM, Z.tupM, Z.lstM, Z.catM, Z.argsM, Z.callM, Z.callMU, Z.callF, Z.callU, Z.truM, Z.setIxM, Z.putIx, Z.augM, Z.fin, Z.fr0, Z.funM, Z.ltD, Z.leD, Z.gtD, Z.geD, Z.iiD, Z.iiC, Z.subD, Z.intD, List.getElem?_map, List.length_map, List.getElem?_cons_zero, List.getElem?_cons_succ, List.set_cons_zero, List.set_cons_succ, List.cons_append, List.nil_append, List.append_nil, List.replicate_succ, List.replicate_zero, if_true, if_false, Bool.false_eq_true, Option.bind_some, Option.map_some, Option.bind_none, Option.map_none, Bool.not_true, Bool.not_false, Z.turnM, Z.tgTup, Z.tgCons, Z.tgNil, Z.appM, Z.extM, Z.parM, List.length_cons, List.length_nil, r3])
  obtain ⟨fr2, S2, l2, o5, s4', s5', s6', s7', rfl, g5, c6⟩ := loop_ind (f := (putV 4)) (b := (seqM (asgM (callM (F__law_spoilt_tokens fu 224) [(getV 1), (callM (F__law_loose_type fu 224 224) [(getV 1), (getV 2)] [])] []) (putV 6))
    (seqM (asgM (callM (F__law_type_due fu 224) [(getV 6)] []) (putV 7))
    (ifM (asB (bin2 (callM (F__law_type_told fu 224) [(callM (F__law_spaced fu 224) [(getV 6)] [])] []) (ixM (lstM (argsM [(tupM [(pure (.str "told")), (getV 7)]), (tupM [(pure (.str "raised")), (getV 7)])])) (blt1M intD (un1 (getV 7) isIntD))) neD)) ((pure (.bl false)) >>= fun d => pure (.rt (.d d))) (pure .nx)))))
    (fun i fr S' => ∃ o s4 s5 s6 s7, fr = [.val (.scr ns), .val (.ptr 0), .val t.d, .val (.lst ((tw t).map .str)), s4, s5, s6, s7] ∧ S'[0]? = some o ∧ Cob o) (rngD 0 4) 0
    [.val (.scr ns), .val (.ptr 0), .val t.d, .val (.lst ((tw t).map .str)), s4, s5, s6, s7] S'
    (fun j d fr S' hd hi => by
      obtain ⟨o, s4, s5, s6, s7, rfl, g, c⟩ := hi
      obtain ⟨S2, o', s6', s7', e, g', c'⟩ := turn_b (fu := fu) (tk := .lst ((tw t).map .str)) (d0 := .scr ns) (s4 := .val d) (s5 := s5) (s6 := s6) (s7 := s7) hfu g c hg hm
      exact ⟨_, _, _, _, rfl, e, o', _, _, _, _, rfl, g', c'⟩)
    ⟨o4, s4, s5, s6, s7, rfl, g4, c5⟩
  have h7 : ((Z.forM (argsM [(pure (.int 4))] >>= fun as => ofO (itR1 as)) (putV 4) (seqM (asgM (callM (F__law_spoilt_tokens fu 224) [(getV 1), (callM (F__law_loose_type fu 224 224) [(getV 1), (getV 2)] [])] []) (putV 6))
    (seqM (asgM (callM (F__law_type_due fu 224) [(getV 6)] []) (putV 7))
    (ifM (asB (bin2 (callM (F__law_type_told fu 224) [(callM (F__law_spaced fu 224) [(getV 6)] [])] []) (ixM (lstM (argsM [(tupM [(pure (.str "told")), (getV 7)]), (tupM [(pure (.str "raised")), (getV 7)])])) (blt1M intD (un1 (getV 7) isIntD))) neD)) ((pure (.bl false)) >>= fun d => pure (.rt (.d d))) (pure .nx))))) : Mo Fl) [.val (.scr ns), .val (.ptr 0), .val t.d, .val (.lst ((tw t).map .str)), s4, s5, s6, s7] S' = .ok .nx [.val (.scr ns), .val (.ptr 0), .val t.d, .val (.lst ((tw t).map .str)), s4', s5', s6', s7'] S2 := by
    refine Eq.trans ?_ l2
    exact forM_ok (by simp only [Z.fv_cons, Z.fv_nil, atI_0, atI_1, atI_2, atI_3, atI_4, ixNc_0, ixNc_1, ixNc_2, ixNc_3, mo_bind, mo_pure, bind_ok, bind_exc, bind_stuck, Z.getV, Z.putV, Z.putOwn, Z.putBox, Z.rdOwn, Z.ownAt, Z.seqM, Z.asgM, Z.ifM, Z.andM, Z.orM, Z.notM, Z.asB, Z.bin2, Z.un1, Z.ofO, Z.ofS, Z.ixM, Z.blt1M, Z.blt1O, Z.deref, Z.slM, Z.slMU, Z.partM, Z.tupM, Z.lstM, Z.catM, Z.argsM, Z.callM, Z.callMU, Z.callF, Z.callU, Z.truM, Z.setIxM, Z.putIx, Z.augM, Z.fin, Z.fr0, Z.funM, Z.ltD, Z.leD, Z.gtD, Z.geD, Z.iiD, Z.iiC, Z.subD, Z.intD, List.getElem?_map, List.length_map, List.getElem?_cons_zero, List.getElem?_cons_succ, List.set_cons_zero, List.set_cons_succ, List.cons_append, List.nil_append, List.append_nil, List.replicate_succ, List.replicate_zero, if_true, if_false, Bool.false_eq_true, Option.bind_some, Option.map_some, Option.bind_none, Option.map_none, Bool.not_true, Bool.not_false, Z.turnM, Z.tgTup, Z.tgCons, Z.tgNil, Z.appM, Z.extM, Z.parM, List.length_cons, List.length_nil, r4])
  obtain ⟨Y, e8⟩ := told_ok (fu := fu) (S := S2) (ps := []) (ts := []) .nil rfl (by simp) (by simp) (by simp [gt]) hfu (by rw [rd_nil]; simp)
  rw [res_nil] at e8
  have e8' : F__law_type_told fu 224 [.str ""] S2 = .ok (.d (.tup [.str "raised", .int 0])) (S2 ++ Y) := by
    have e0 : (mkS (gt []) : Str) = "" := by decide +kernel
    rw [e0] at e8
    exact e8
  have eq8 : eqD (.tup [.str "raised", .int 0]) (.tup [.str "raised", .int 0]) = some (.bl true) := by
    refine eqD_self (p := .tuple [.str "raised", .int 0]) ?_ ?_ ?_
    · rw [D.py, D.pys, D.py, D.pys, D.py, D.pys]; rfl
    · rw [PyData.canLay0, PyData.canLayAll0, PyData.canLayAll0, PyData.canLay0, PyData.canLayAll0]; decide +kernel
    · rw [PyData.depth, PyData.depthAll, PyData.depthAll, PyData.depth, PyData.depthAll, PyData.depth]
      omega
  have h8 : (((bin2 (callM (F__law_type_told fu 224) [(pure (.str ""))] []) (tupM [(pure (.str "raised")), (pure (.int 0))]) eqD) >>= fun d => pure (.rt (.d d))) : Mo Fl) [.val (.scr ns), .val (.ptr 0), .val t.d, .val (.lst ((tw t).map .str)), s4', s5', s6', s7'] S2 = .ok (.rt (.d (.bl true))) [.val (.scr ns), .val (.ptr 0), .val t.d, .val (.lst ((tw t).map .str)), s4', s5', s6', s7'] (S2 ++ Y) := by
    simp only [Z.fv_cons, Z.fv_nil, atI_0, atI_1, atI_2, atI_3, atI_4, ixNc_0, ixNc_1, ixNc_2, ixNc_3, mo_bind, mo_pure, bind_ok, bind_exc, bind_stuck, Z.getV, Z.putV, Z.putOwn, Z.putBox, Z.rdOwn, Z.ownAt, Z.seqM, Z.asgM, Z.ifM, Z.andM, Z.orM, Z.notM, Z.asB, Z.bin2, Z.un1, Z.ofO, Z.ofS, Z.ixM, Z.blt1M, Z.blt1O, Z.deref, Z.slM, Z.slMU, Z.partM, Z.tupM, Z.lstM, Z.catM, Z.argsM, Z.callM, Z.callMU, Z.callF, Z.callU, Z.truM, Z.setIxM, Z.putIx, Z.augM, Z.fin, Z.fr0, Z.funM, Z.ltD, Z.leD, Z.gtD, Z.geD, Z.iiD, Z.iiC, Z.subD, Z.intD, List.getElem?_map, List.length_map, List.getElem?_cons_zero, List.getElem?_cons_succ, List.set_cons_zero, List.set_cons_succ, List.cons_append, List.nil_append, List.append_nil, List.replicate_succ, List.replicate_zero, if_true, if_false, Bool.false_eq_true, Option.bind_some, Option.map_some, Option.bind_none, Option.map_none, Bool.not_true, Bool.not_false, Z.turnM, Z.tgTup, Z.tgCons, Z.tgNil, Z.appM, Z.extM, Z.parM, List.length_cons, List.length_nil, e8', eq8]
  refine ⟨S2 ++ Y, ?_⟩
  show fin (M_law fu 224 [.val (.scr ns), .un, .un, .un, .un, .un, .un, .un] []) = _
  unfold M_law
  rw [seqM_nx h1, seqM_nx h2, seqM_nx h3, seqM_nx h4, seqM_nx h5, seqM_nx h6, seqM_nx h7, h8]
  rfl
end K70
set_option Elab.async false
set_option linter.all false
set_option maxRecDepth 100000
namespace K70
open PySem L2 Z
theorem pure_law (ns : List Int) (h : ns.length ≤ 63) : ∃ fu S, funM 7 (M_law fu 224) [.scr ns] [] = .ok (.d (.bl true)) S := ⟨2000001, law_pure (by omega) ns h⟩
theorem law_binds : BindAll "law" "law" s_law ["script"] := fun _ _ _ _ _ _ us hl => match us, hl with | [_], _ => rfl
theorem got {K : PySem.W.Frag} {mg : Str → Option Value} {a b c : Addr} (T : Txt PySem.Challenge.pw_lacuna_k70_types_in_texts K mg (mkC a b c)) : ∃ C : Cl, (∀ H, C.amb H) ∧ Txt PySem.Challenge.pw_lacuna_k70_types_in_texts K mg C := ⟨_, fun _ => trivial, T⟩
theorem walk {q : Program} {loose : List Str} {XP : (Str → Option Value) → Heap → Prop} {YP : World → Heap → Prop} {d : DefRec} {K : Params → PySem.W.Frag} (hdf : d.params.defaults = []) (hdn : d.name = "law")
    (hY : ∀ (w : World) (h : Heap), YP w h → (K w.params).In h)
    (F : ∀ (w : World) (mg : Str → Option Value) (h : Heap), (K w.params).In h → h.Ns mainGlobals mg → ∃ C : Cl, (∀ H, C.amb H) ∧ Txt PySem.Challenge.pw_lacuna_k70_types_in_texts (K w.params) mg C) :
    PySem.W.WalkO q loose XP YP PySem.Challenge.rw_lacuna_k70_types_in_texts.row.toRowW d [] (fun f vs => PySem.call f vs) :=
  L2.walk_of (l := PySem.Challenge.rw_lacuna_k70_types_in_texts) (n := 63) (k := 231) (x := "script") (CX := fun w => L2.CX PySem.Challenge.pw_lacuna_k70_types_in_texts w) (sp := fun w => spLaw (K w.params)) rfl (by decide) hdf ⟨rfl, by decide, by decide⟩ hY
    (fun w mg fa h KX G hfa => by
      obtain ⟨C, hamb, T⟩ := F w mg h KX G
      rw [hdn] at hfa
      exact law_fd (k := 230) T.d_law hfa S_law rfl law_binds hamb (fun base fu => B_law (rk := 224) T) pure_law)
    (fun w H a ns hl _ hS => ⟨a, ns, rfl, hS, hl, fun _ => rfl⟩) fun w H s e s' z => cx_false _ _ _ _ _ _ z
end K70
open PySem PySem.W PyProof.Rows
set_option maxRecDepth 100000 in
set_option maxHeartbeats 0 in
theorem PySem.Challenge.cw_lacuna_k70_types_in_texts_holds : PySem.Challenge.rw_lacuna_k70_types_in_texts.Holds :=
  K70.head (by
  k_fill
  refine K70.walk rfl rfl (fun w h Y => PySem.W.km_in_of Y) ?F
  case F =>
    intro w mg h KX G
    refine' K70.got ?T
    case T =>
      refine' K70.all_mk (P := PySem.Challenge.pw_lacuna_k70_types_in_texts) KX G ?a_Syntax ?a_Meaning ?a_TextError ?z_all ?z_dict ?z_enumerate ?z_int ?z_isinstance ?z_len ?z_min ?z_range ?z_tuple ?g_DIGITS ?g_LETTERS ?g_RESERVED ?h_RESERVED ?g_SIGNS ?pg_Meaning ?hd_Meaning ?po_Meaning ?sa_Meaning ?pg_Syntax ?hd_Syntax ?po_Syntax ?sa_Syntax ?n_Meaning_constants ?n_Meaning_holes ?n_Meaning_wrong ?n_Syntax_at ?n_Syntax_tokens ?a_end_of ?l_end_of ?c_end_of ?k_end_of ?a_token_at ?l_token_at ?c_token_at ?k_token_at ?a_tokens_of ?l_tokens_of ?c_tokens_of ?k_tokens_of ?a_joined ?l_joined ?c_joined ?k_joined ?a_Syntax___init__ ?i_Syntax___init__ ?l_Syntax___init__ ?c_Syntax___init__ ?k_Syntax___init__ ?mk_Syntax ?kc_Syntax ?a_Syntax_kind ?i_Syntax_kind ?l_Syntax_kind ?c_Syntax_kind ?k_Syntax_kind ?h_Syntax_kind ?a_Syntax_take ?i_Syntax_take ?l_Syntax_take ?c_Syntax_take ?k_Syntax_take ?a_Syntax_finish ?i_Syntax_finish ?l_Syntax_finish ?c_Syntax_finish ?k_Syntax_finish ?a_Syntax_sorts ?i_Syntax_sorts ?l_Syntax_sorts ?c_Syntax_sorts ?k_Syntax_sorts ?a_Meaning___init__ ?i_Meaning___init__ ?l_Meaning___init__ ?c_Meaning___init__ ?k_Meaning___init__ ?mk_Meaning ?kc_Meaning ?a_Meaning_finish ?i_Meaning_finish ?l_Meaning_finish ?c_Meaning_finish ?k_Meaning_finish ?a_Meaning_look ?i_Meaning_look ?l_Meaning_look ?c_Meaning_look ?k_Meaning_look ?a_Meaning_kind ?i_Meaning_kind ?l_Meaning_kind ?c_Meaning_kind ?k_Meaning_kind ?h_Meaning_kind ?a_in_brackets ?l_in_brackets ?c_in_brackets ?k_in_brackets ?a_kind_words ?l_kind_words ?c_kind_words ?k_kind_words ?a_read_type ?l_read_type ?c_read_type ?k_read_type ?a_write_type ?l_write_type ?c_write_type ?k_write_type ?a__law_start ?l__law_start ?c__law_start ?k__law_start ?a__law_fill ?l__law_fill ?c__law_fill ?k__law_fill ?a__law_take ?l__law_take ?c__law_take ?k__law_take ?a__law_joined ?l__law_joined ?c__law_joined ?k__law_joined ?a__law_scattered ?l__law_scattered ?c__law_scattered ?k__law_scattered ?a__law_type_tokens ?l__law_type_tokens ?c__law_type_tokens ?k__law_type_tokens ?a__law_reserved ?l__law_reserved ?c__law_reserved ?k__law_reserved ?a__law_peek ?l__law_peek ?c__law_peek ?k__law_peek ?a__law_is_word ?l__law_is_word ?c__law_is_word ?k__law_is_word ?a__law_stop ?l__law_stop ?c__law_stop ?k__law_stop ?a__law_sign ?l__law_sign ?c__law_sign ?k__law_sign ?a__law_word ?l__law_word ?c__law_word ?k__law_word ?a__law_read_type ?l__law_read_type ?c__law_read_type ?k__law_read_type ?a__law_wrong ?l__law_wrong ?c__law_wrong ?k__law_wrong ?a__law_long_word ?l__law_long_word ?c__law_long_word ?k__law_long_word ?a__law_kind_of ?l__law_kind_of ?c__law_kind_of ?k__law_kind_of ?a__law_spoilt_tokens ?l__law_spoilt_tokens ?c__law_spoilt_tokens ?k__law_spoilt_tokens ?a__law_spaced ?l__law_spaced ?c__law_spaced ?k__law_spaced ?a__law_loose_type ?l__law_loose_type ?c__law_loose_type ?k__law_loose_type ?a__law_any_type ?l__law_any_type ?c__law_any_type ?k__law_any_type ?a__law_type_due ?l__law_type_due ?c__law_type_due ?k__law_type_due ?a__law_type_told ?l__law_type_told ?c__law_type_told ?k__law_type_told ?a_law ?l_law ?c_law ?k_law ?x_TextError ?sa_TextError ?ga_TextError ?gg_TextError ?nb_TextError ?kc_TextError ?eb_TextError ?ev_TextError ?ty_TextError ?se_TextError ?ss_TextError ?hd_TextError ?ic_TextError ?tp_TextError ?su_TextError ?zs_TextError ?zt_TextError ?ini_TextError ?ti_TextError ?l_TextError ?co_TextError ?lc_TextError ?vf_TextError ?fi_TextError ?ce_TextError ?ht_TextError
      (case a_Syntax => first | k_is | ks_is | rfl | decide)
      (case a_Meaning => first | k_is | ks_is | rfl | decide)
      (case a_TextError => first | k_is | ks_is | rfl | decide)
      (case z_all => first | k_is | ks_is | rfl | decide)
      (case z_dict => first | k_is | ks_is | rfl | decide)
      (case z_enumerate => first | k_is | ks_is | rfl | decide)
      (case z_int => first | k_is | ks_is | rfl | decide)
      (case z_isinstance => first | k_is | ks_is | rfl | decide)
      (case z_len => first | k_is | ks_is | rfl | decide)
      (case z_min => first | k_is | ks_is | rfl | decide)
      (case z_range => first | k_is | ks_is | rfl | decide)
      (case z_tuple => first | k_is | ks_is | rfl | decide)
      (case g_DIGITS => first | k_is | ks_is | rfl | decide)
      (case g_LETTERS => first | k_is | ks_is | rfl | decide)
      (case g_RESERVED => first | k_is | ks_is | rfl | decide)
      (case h_RESERVED => first | k_is | ks_is | rfl | decide)
      (case g_SIGNS => first | k_is | ks_is | rfl | decide)
      (case pg_Meaning => first | k_is | ks_is | rfl | decide)
      (case hd_Meaning => first | k_is | ks_is | rfl | decide)
      (case po_Meaning => first | k_is | ks_is | rfl | decide)
      (case sa_Meaning => first | k_is | ks_is | rfl | decide)
      (case pg_Syntax => first | k_is | ks_is | rfl | decide)
      (case hd_Syntax => first | k_is | ks_is | rfl | decide)
      (case po_Syntax => first | k_is | ks_is | rfl | decide)
      (case sa_Syntax => first | k_is | ks_is | rfl | decide)
      (case n_Meaning_constants => first | k_is | ks_is | rfl | decide)
      (case n_Meaning_holes => first | k_is | ks_is | rfl | decide)
      (case n_Meaning_wrong => first | k_is | ks_is | rfl | decide)
      (case n_Syntax_at => first | k_is | ks_is | rfl | decide)
      (case n_Syntax_tokens => first | k_is | ks_is | rfl | decide)
      (case a_end_of => first | k_is | ks_is | rfl | decide)
      (case l_end_of => first | k_is | ks_is | rfl | decide)
      (case c_end_of => first | k_is | ks_is | rfl | decide)
      (case k_end_of => first | k_is | ks_is | rfl | decide)
      (case a_token_at => first | k_is | ks_is | rfl | decide)
      (case l_token_at => first | k_is | ks_is | rfl | decide)
      (case c_token_at => first | k_is | ks_is | rfl | decide)
      (case k_token_at => first | k_is | ks_is | rfl | decide)
      (case a_tokens_of => first | k_is | ks_is | rfl | decide)
      (case l_tokens_of => first | k_is | ks_is | rfl | decide)
      (case c_tokens_of => first | k_is | ks_is | rfl | decide)
      (case k_tokens_of => first | k_is | ks_is | rfl | decide)
      (case a_joined => first | k_is | ks_is | rfl | decide)
      (case l_joined => first | k_is | ks_is | rfl | decide)
      (case c_joined => first | k_is | ks_is | rfl | decide)
      (case k_joined => first | k_is | ks_is | rfl | decide)
      (case a_Syntax___init__ => first | k_is | ks_is | rfl | decide)
      (case i_Syntax___init__ => first | k_is | ks_is | rfl | decide)
      (case l_Syntax___init__ => first | k_is | ks_is | rfl | decide)
      (case c_Syntax___init__ => first | k_is | ks_is | rfl | decide)
      (case k_Syntax___init__ => first | k_is | ks_is | rfl | decide)
      (case mk_Syntax => first | k_is | ks_is | rfl | decide)
      (case kc_Syntax => first | k_is | ks_is | rfl | decide)
      (case a_Syntax_kind => first | k_is | ks_is | rfl | decide)
      (case i_Syntax_kind => first | k_is | ks_is | rfl | decide)
      (case l_Syntax_kind => first | k_is | ks_is | rfl | decide)
      (case c_Syntax_kind => first | k_is | ks_is | rfl | decide)
      (case k_Syntax_kind => first | k_is | ks_is | rfl | decide)
      (case h_Syntax_kind => first | k_is | ks_is | rfl | decide)
      (case a_Syntax_take => first | k_is | ks_is | rfl | decide)
      (case i_Syntax_take => first | k_is | ks_is | rfl | decide)
      (case l_Syntax_take => first | k_is | ks_is | rfl | decide)
      (case c_Syntax_take => first | k_is | ks_is | rfl | decide)
      (case k_Syntax_take => first | k_is | ks_is | rfl | decide)
      (case a_Syntax_finish => first | k_is | ks_is | rfl | decide)
      (case i_Syntax_finish => first | k_is | ks_is | rfl | decide)
      (case l_Syntax_finish => first | k_is | ks_is | rfl | decide)
      (case c_Syntax_finish => first | k_is | ks_is | rfl | decide)
      (case k_Syntax_finish => first | k_is | ks_is | rfl | decide)
      (case a_Syntax_sorts => first | k_is | ks_is | rfl | decide)
      (case i_Syntax_sorts => first | k_is | ks_is | rfl | decide)
      (case l_Syntax_sorts => first | k_is | ks_is | rfl | decide)
      (case c_Syntax_sorts => first | k_is | ks_is | rfl | decide)
      (case k_Syntax_sorts => first | k_is | ks_is | rfl | decide)
      (case a_Meaning___init__ => first | k_is | ks_is | rfl | decide)
      (case i_Meaning___init__ => first | k_is | ks_is | rfl | decide)
      (case l_Meaning___init__ => first | k_is | ks_is | rfl | decide)
      (case c_Meaning___init__ => first | k_is | ks_is | rfl | decide)
      (case k_Meaning___init__ => first | k_is | ks_is | rfl | decide)
      (case mk_Meaning => first | k_is | ks_is | rfl | decide)
      (case kc_Meaning => first | k_is | ks_is | rfl | decide)
      (case a_Meaning_finish => first | k_is | ks_is | rfl | decide)
      (case i_Meaning_finish => first | k_is | ks_is | rfl | decide)
      (case l_Meaning_finish => first | k_is | ks_is | rfl | decide)
      (case c_Meaning_finish => first | k_is | ks_is | rfl | decide)
      (case k_Meaning_finish => first | k_is | ks_is | rfl | decide)
      (case a_Meaning_look => first | k_is | ks_is | rfl | decide)
      (case i_Meaning_look => first | k_is | ks_is | rfl | decide)
      (case l_Meaning_look => first | k_is | ks_is | rfl | decide)
      (case c_Meaning_look => first | k_is | ks_is | rfl | decide)
      (case k_Meaning_look => first | k_is | ks_is | rfl | decide)
      (case a_Meaning_kind => first | k_is | ks_is | rfl | decide)
      (case i_Meaning_kind => first | k_is | ks_is | rfl | decide)
      (case l_Meaning_kind => first | k_is | ks_is | rfl | decide)
      (case c_Meaning_kind => first | k_is | ks_is | rfl | decide)
      (case k_Meaning_kind => first | k_is | ks_is | rfl | decide)
      (case h_Meaning_kind => first | k_is | ks_is | rfl | decide)
      (case a_in_brackets => first | k_is | ks_is | rfl | decide)
      (case l_in_brackets => first | k_is | ks_is | rfl | decide)
      (case c_in_brackets => first | k_is | ks_is | rfl | decide)
      (case k_in_brackets => first | k_is | ks_is | rfl | decide)
      (case a_kind_words => first | k_is | ks_is | rfl | decide)
      (case l_kind_words => first | k_is | ks_is | rfl | decide)
      (case c_kind_words => first | k_is | ks_is | rfl | decide)
      (case k_kind_words => first | k_is | ks_is | rfl | decide)
      (case a_read_type => first | k_is | ks_is | rfl | decide)
      (case l_read_type => first | k_is | ks_is | rfl | decide)
      (case c_read_type => first | k_is | ks_is | rfl | decide)
      (case k_read_type => first | k_is | ks_is | rfl | decide)
      (case a_write_type => first | k_is | ks_is | rfl | decide)
      (case l_write_type => first | k_is | ks_is | rfl | decide)
      (case c_write_type => first | k_is | ks_is | rfl | decide)
      (case k_write_type => first | k_is | ks_is | rfl | decide)
      (case a__law_start => first | k_is | ks_is | rfl | decide)
      (case l__law_start => first | k_is | ks_is | rfl | decide)
      (case c__law_start => first | k_is | ks_is | rfl | decide)
      (case k__law_start => first | k_is | ks_is | rfl | decide)
      (case a__law_fill => first | k_is | ks_is | rfl | decide)
      (case l__law_fill => first | k_is | ks_is | rfl | decide)
      (case c__law_fill => first | k_is | ks_is | rfl | decide)
      (case k__law_fill => first | k_is | ks_is | rfl | decide)
      (case a__law_take => first | k_is | ks_is | rfl | decide)
      (case l__law_take => first | k_is | ks_is | rfl | decide)
      (case c__law_take => first | k_is | ks_is | rfl | decide)
      (case k__law_take => first | k_is | ks_is | rfl | decide)
      (case a__law_joined => first | k_is | ks_is | rfl | decide)
      (case l__law_joined => first | k_is | ks_is | rfl | decide)
      (case c__law_joined => first | k_is | ks_is | rfl | decide)
      (case k__law_joined => first | k_is | ks_is | rfl | decide)
      (case a__law_scattered => first | k_is | ks_is | rfl | decide)
      (case l__law_scattered => first | k_is | ks_is | rfl | decide)
      (case c__law_scattered => first | k_is | ks_is | rfl | decide)
      (case k__law_scattered => first | k_is | ks_is | rfl | decide)
      (case a__law_type_tokens => first | k_is | ks_is | rfl | decide)
      (case l__law_type_tokens => first | k_is | ks_is | rfl | decide)
      (case c__law_type_tokens => first | k_is | ks_is | rfl | decide)
      (case k__law_type_tokens => first | k_is | ks_is | rfl | decide)
      (case a__law_reserved => first | k_is | ks_is | rfl | decide)
      (case l__law_reserved => first | k_is | ks_is | rfl | decide)
      (case c__law_reserved => first | k_is | ks_is | rfl | decide)
      (case k__law_reserved => first | k_is | ks_is | rfl | decide)
      (case a__law_peek => first | k_is | ks_is | rfl | decide)
      (case l__law_peek => first | k_is | ks_is | rfl | decide)
      (case c__law_peek => first | k_is | ks_is | rfl | decide)
      (case k__law_peek => first | k_is | ks_is | rfl | decide)
      (case a__law_is_word => first | k_is | ks_is | rfl | decide)
      (case l__law_is_word => first | k_is | ks_is | rfl | decide)
      (case c__law_is_word => first | k_is | ks_is | rfl | decide)
      (case k__law_is_word => first | k_is | ks_is | rfl | decide)
      (case a__law_stop => first | k_is | ks_is | rfl | decide)
      (case l__law_stop => first | k_is | ks_is | rfl | decide)
      (case c__law_stop => first | k_is | ks_is | rfl | decide)
      (case k__law_stop => first | k_is | ks_is | rfl | decide)
      (case a__law_sign => first | k_is | ks_is | rfl | decide)
      (case l__law_sign => first | k_is | ks_is | rfl | decide)
      (case c__law_sign => first | k_is | ks_is | rfl | decide)
      (case k__law_sign => first | k_is | ks_is | rfl | decide)
      (case a__law_word => first | k_is | ks_is | rfl | decide)
      (case l__law_word => first | k_is | ks_is | rfl | decide)
      (case c__law_word => first | k_is | ks_is | rfl | decide)
      (case k__law_word => first | k_is | ks_is | rfl | decide)
      (case a__law_read_type => first | k_is | ks_is | rfl | decide)
      (case l__law_read_type => first | k_is | ks_is | rfl | decide)
      (case c__law_read_type => first | k_is | ks_is | rfl | decide)
      (case k__law_read_type => first | k_is | ks_is | rfl | decide)
      (case a__law_wrong => first | k_is | ks_is | rfl | decide)
      (case l__law_wrong => first | k_is | ks_is | rfl | decide)
      (case c__law_wrong => first | k_is | ks_is | rfl | decide)
      (case k__law_wrong => first | k_is | ks_is | rfl | decide)
      (case a__law_long_word => first | k_is | ks_is | rfl | decide)
      (case l__law_long_word => first | k_is | ks_is | rfl | decide)
      (case c__law_long_word => first | k_is | ks_is | rfl | decide)
      (case k__law_long_word => first | k_is | ks_is | rfl | decide)
      (case a__law_kind_of => first | k_is | ks_is | rfl | decide)
      (case l__law_kind_of => first | k_is | ks_is | rfl | decide)
      (case c__law_kind_of => first | k_is | ks_is | rfl | decide)
      (case k__law_kind_of => first | k_is | ks_is | rfl | decide)
      (case a__law_spoilt_tokens => first | k_is | ks_is | rfl | decide)
      (case l__law_spoilt_tokens => first | k_is | ks_is | rfl | decide)
      (case c__law_spoilt_tokens => first | k_is | ks_is | rfl | decide)
      (case k__law_spoilt_tokens => first | k_is | ks_is | rfl | decide)
      (case a__law_spaced => first | k_is | ks_is | rfl | decide)
      (case l__law_spaced => first | k_is | ks_is | rfl | decide)
      (case c__law_spaced => first | k_is | ks_is | rfl | decide)
      (case k__law_spaced => first | k_is | ks_is | rfl | decide)
      (case a__law_loose_type => first | k_is | ks_is | rfl | decide)
      (case l__law_loose_type => first | k_is | ks_is | rfl | decide)
      (case c__law_loose_type => first | k_is | ks_is | rfl | decide)
      (case k__law_loose_type => first | k_is | ks_is | rfl | decide)
      (case a__law_any_type => first | k_is | ks_is | rfl | decide)
      (case l__law_any_type => first | k_is | ks_is | rfl | decide)
      (case c__law_any_type => first | k_is | ks_is | rfl | decide)
      (case k__law_any_type => first | k_is | ks_is | rfl | decide)
      (case a__law_type_due => first | k_is | ks_is | rfl | decide)
      (case l__law_type_due => first | k_is | ks_is | rfl | decide)
      (case c__law_type_due => first | k_is | ks_is | rfl | decide)
      (case k__law_type_due => first | k_is | ks_is | rfl | decide)
      (case a__law_type_told => first | k_is | ks_is | rfl | decide)
      (case l__law_type_told => first | k_is | ks_is | rfl | decide)
      (case c__law_type_told => first | k_is | ks_is | rfl | decide)
      (case k__law_type_told => first | k_is | ks_is | rfl | decide)
      (case a_law => first | k_is | ks_is | rfl | decide)
      (case l_law => first | k_is | ks_is | rfl | decide)
      (case c_law => first | k_is | ks_is | rfl | decide)
      (case k_law => first | k_is | ks_is | rfl | decide)
      (case x_TextError => first | k_is | ks_is | rfl | decide)
      (case sa_TextError => first | k_is | ks_is | rfl | decide)
      (case ga_TextError => first | k_is | ks_is | rfl | decide)
      (case gg_TextError => first | k_is | ks_is | rfl | decide)
      (case nb_TextError => first | k_is | ks_is | rfl | decide)
      (case kc_TextError => first | k_is | ks_is | rfl | decide)
      (case eb_TextError => first | k_is | ks_is | rfl | decide)
      (case ev_TextError => first | k_is | ks_is | rfl | decide)
      (case ty_TextError => first | k_is | ks_is | rfl | decide)
      (case se_TextError => first | k_is | ks_is | rfl | decide)
      (case ss_TextError => first | k_is | ks_is | rfl | decide)
      (case hd_TextError => first | k_is | ks_is | rfl | decide)
      (case ic_TextError => first | k_is | ks_is | rfl | decide)
      (case tp_TextError => first | k_is | ks_is | rfl | decide)
      (case su_TextError => first | k_is | ks_is | rfl | decide)
      (case zs_TextError => first | k_is | ks_is | rfl | decide)
      (case zt_TextError => first | k_is | ks_is | rfl | decide)
      (case ini_TextError => first | k_is | ks_is | rfl | decide)
      (case ti_TextError => first | k_is | ks_is | rfl | decide)
      (case l_TextError => first | k_is | ks_is | rfl | decide)
      (case co_TextError => first | k_is | ks_is | rfl | decide)
      (case lc_TextError => first | k_is | ks_is | rfl | decide)
      (case vf_TextError => first | rfl | decide | k_is)
      (case fi_TextError => first | rfl | decide | k_is)
      (case ce_TextError => first | k_is | ks_is | rfl | decide)
      (case ht_TextError => first | rfl | decide | k_is))
