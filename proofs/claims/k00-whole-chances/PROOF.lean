import PyProof.Rows.All
import Wide.All
import OpenK.AllK
import Wide.FinOn
import HandS.ForMost
import HandS.TupSets
import HandS.IsInst
import HandS.Star
import HandS.Zip
import HandS.Rev
import HandS.TupMul
import HandS.TupAny
import HandS.Style
import HandS.Defaults
import HandS.Lambda
import HandS.Nested
import HandS.Conv
import HandS.Wide
import HandS.Codes
import HandS.EndTab
import HandS.Walk
import KE.GoesEnum
import PySem.Challenge.RW_everynoise_k00_whole_chances
import KE.KNestM
import HandS.EndOwn
set_option Elab.async false
set_option linter.all false
set_option maxRecDepth 100000
set_option maxHeartbeats 4000000
/-! Further rules: what the layer has no row for. -/
namespace EN
open PySem PySem.Spec PyProof.Rows L2
def topS (i : Nat) : Stmt := PySem.Challenge.pw_everynoise_k00_whole_chances.main.body.getD i (.Pass ⟨0, 0, 0, 0⟩)

section
variable {X : Cx}
/-! ### items by place, from a list or a tuple -/
theorem get_list : PGet X (rIxL X.K) := by
  intro pins s σ H o i ov iv Q I ro ri h
  obtain ⟨p, xs, k, z, rfl, rfl, hq, he, q⟩ := h
  cases ro
  obtain ⟨t, rfl⟩ := ri
  obtain ⟨its, r, pl, hz⟩ := I.list hq
  obtain ⟨j, h1, h2, h3, h4, h5⟩ := atI_get he
  obtain ⟨w, ew, rw'⟩ := r.get h2
  have hl := r.length
  have hn := line63
  have fin : EP X pins σ Q w s := ⟨z, H, I, rw', q⟩
  by_cases h0 : 0 ≤ k
  · have hj : k.toNat = j := by
      rw [seqIndex_of h0 h5] at h1
      exact Option.some.inj h1
    refine wpAny_getItem_list pl.isList h0 (by omega) (x := w) (by rw [hj]; simpa using ew) fin
  · have hj : (k + (its.toArray.size : Int)).toNat = j := by
      rw [seqIndex_neg (by omega) h4] at h1
      rw [List.size_toArray, ← hl]
      exact Option.some.inj h1
    exact wpAny_getItem_list_neg pl.isList (by omega) (by rw [List.size_toArray]; omega) (by omega) (by rw [hj]; simpa using ew) fin
abbrev ixR (K : PySem.W.Frag) : R2 := fun x y H Q => rIxL K x y H Q ∨ rIxT K x y H Q
theorem ixA : IxR X (ixR X.K) := IxR.or ix_list ix_tup
/-! ### bools and ints -/
def rSubB : R2 := fun x y H Q => ∃ a b : Bool, x = .bl a ∧ y = .bl b ∧ Q (.int (b2i a - b2i b)) H
theorem op_subB : OpR X (binaryOp .Sub) rSubB := by
  intro pins s σ H x y v u Q I rx ry h
  obtain ⟨a, b, rfl, rfl, q⟩ := h
  cases rx
  cases ry
  exact sub_bool ⟨.int (b2i a - b2i b), H, I.tok _, ⟨_, rfl⟩, q⟩
theorem ip_mul : PIp X .Mult (rI CMul fun i j => .int (i * j)) := fun pins s σ H x y v u Q I r1 r2 h => iop_mul pins s σ H x y v u Q I r1 r2 h
/-! ### a for over a list or a tuple -/
def iSeq (K : PySem.W.Frag) (tl : TE) : TI := fun σ H R => tl σ H fun x H1 => ∃ a xs, x = .ref a ∧ ((SqL K H1 a xs ∧ R (Itl K a) H1) ∨ (SqT K H1 a xs ∧ R (Itt K a) H1))
theorem pi_seq {tg l : Expr} {tl : TE} (hl : PE X l tl) : PI X tg l (iSeq X.K tl) := by
  refine ⟨fun pins s σ H R I h => ?_⟩
  refine thn (hl.run pins s σ H _ I h) fun v s1 ⟨x, H1, I1, r1, q1⟩ => ?_
  obtain ⟨a, xs, e, q⟩ := q1
  subst e
  cases r1
  rcases q with ⟨hq, q⟩ | ⟨hq, q⟩
  · obtain ⟨its, rv, p, hz⟩ := I1.list hq
    refine wpAny_pyIter_list p.isList ?_
    refine ⟨s1.heap.objs.size, [s1.heap.objs.size], _, _, H1, rfl, I1.kept (t' := s1.toks) fun b o e => Heap.get?_push_of_some _ e, turn_list a _, ⟨_, Heap.get?_push_size _ rfl, rfl, rfl⟩, fun b hb => ?_, q⟩
    have e : b = s1.heap.objs.size := by simpa using hb
    subst e
    exact I1.fpOk (Nat.le_refl _) (I1.hok.fresh (Nat.le_refl _))
  · obtain ⟨its, rv, p, hz⟩ := I1.tuple hq
    refine wpAny_pyIter_tuple (show s1.heap.IsTuple a its.toArray from p) ?_
    refine ⟨s1.heap.objs.size, [s1.heap.objs.size], _, _, H1, rfl, I1.kept (t' := s1.toks) fun b o e => Heap.get?_push_of_some _ e, turn_tuple a _, ⟨_, Heap.get?_push_size _ rfl, rfl, rfl⟩, fun b hb => ?_, q⟩
    have e : b = s1.heap.objs.size := by simpa using hb
    subst e
    exact I1.fpOk (Nat.le_refl _) (I1.hok.fresh (Nat.le_refl _))
end

/-! ### enumerate over a tuple -/
section
variable {prog : Program} {w : World} {A : Around} {E : Value → Shared → Prop} {s : Shared}
theorem next_enumT_item {e it l : Addr} {i : Nat} {c : Int} {items : Array Value} {x old : Value} {Q : Option Value → Shared → Prop} (hh : A.handled = none) (he : IsEnum s.heap e it c old) (hit : s.heap.IsTupleIter it l i) (hl : s.heap.IsTuple l items)
    (hx : items[i]? = some x) (hne : e ≠ it) (hle : l ≠ e) (hli : l ≠ it)
    (hQ : ∀ h' tk, IsEnumOut h' e it (c + 1) x s.heap.objs.size → h'.IsTupleIter it l (i + 1) → h'.get? s.heap.objs.size = some { cls := .type "tuple", data := .seq #[.int c tk, x] } → h'.objs.size = s.heap.objs.size + 1 →
      (∀ b o, b ≠ e → b ≠ it → s.heap.get? b = some o → h'.get? b = some o) → Q (some (.ref s.heap.objs.size)) { s with heap := h', toks := tk + 1 }) :
    wpAny (model prog w) A (pyNext (.ref e)) Q E s := by
  have hlt : i < items.size := (Array.getElem?_eq_some_iff.mp hx).1
  refine wpAny_pyNext_enum_itemC (Draws.tuple (A := A.in1) hh it l hli items) he ⟨hit, hl⟩ hlt hne (by simp [hne, hle.symm]) fun x' h' tk hP a1 a2 a3 a4 a5 => ?_
  have ex : x' = x := Option.some.inj ((show items[i]? = some x' from hP).symm.trans hx)
  subst ex
  exact hQ h' tk a1 a2.1 a3 a4 a5
end
def IteT (K : PySem.W.Frag) (a : Addr) : It :=
  ⟨fun i H => ∃ (xs : List V) (x : V), SqT K H a xs ∧ xs[i]? = some x, fun i H v H' => ∃ T x, v = .ref T ∧ H T = none ∧ H' = upd H T (.tup [.int (i : Nat), x]) ∧ ∀ xs, SqT K H a xs → xs[i]? = some x, fun i H => ∃ xs : List V, SqT K H a xs ∧ xs.length = i⟩
theorem turn_enumT {P : Program} {w : World} {K : PySem.W.Frag} {elts : List Expr} {kk : Nat} {tpos : Pos} (a e it : Addr) :
    Turn P w K (.Tuple elts kk tpos) (IteT K a) [e, it] e (fun i h => (∃ old, IsEnum h e it ((i : Nat) : Int) old) ∧ h.IsTupleIter it a i ∧ e ≠ it ∧ a ≠ e ∧ a ≠ it) where
  mem := by simp
  obj := fun i h st b hb => by
    obtain ⟨⟨old, he⟩, ⟨o, ho, hc, hd⟩, _⟩ := st
    have e' : b = e ∨ b = it := by simpa using hb
    rcases e' with z | z
    · rw [z]; exact ⟨_, he, fun v q => nomatch q⟩
    · rw [z]; exact ⟨o, ho, fun v q => by rw [hd] at q; cases q⟩
  keep := fun i h h' st k => let ⟨⟨old, he⟩, hi, hne⟩ := st; ⟨⟨old, k e (by simp) _ he⟩, hi.at fun o q => k it (by simp) o q, hne⟩
  item := by
    intro X hP hw hK hc i pins s σ H E I hf st hg
    subst hP hw hK
    obtain ⟨⟨old, he⟩, hit, hne, hae, hai⟩ := st
    obtain ⟨xs, x, hq, hx⟩ := hg
    obtain ⟨its, rv, p, hz⟩ := I.tuple hq
    obtain ⟨u, hu, ru⟩ := rv.get hx
    have hel : e < s.heap.objs.size := Heap.lt_size he
    have hil : it < s.heap.objs.size := by obtain ⟨_, q, _⟩ := hit; exact Heap.lt_size q
    refine next_enumT_item (I.ok.hd hc) he hit (show s.heap.IsTuple a its.toArray from p) (x := u) (by simpa using hu) hne hae hai fun h' tk ho hit' hT hsz hk => ?_
    refine ⟨_, rfl, wpAny_letOwnedTupleGo_enum (s := { s with heap := h', toks := tk + 1 }) ho fun h'' he' sb => ?_⟩
    have hT2 : h''.get? s.heap.objs.size = some { cls := .type "tuple", data := .seq #[.int i tk, u] } := (sb.2 _ (Nat.ne_of_gt hel)).trans hT
    have new : ObjOk X.prog X.w (upd H s.heap.objs.size (.tup [.int (i : Nat), x])) h'' s.heap.objs.size (.tup [.int (i : Nat), x]) :=
      ⟨by show 2 ≤ sizeLine; decide, [.int i tk, u], .cons ⟨_, rfl⟩ (.cons ru .nil), ⟨_, hT2, rfl, _, rfl⟩⟩
    have I1 : Inv X pins σ (upd H s.heap.objs.size (.tup [.int (i : Nat), x])) { s with heap := h'', toks := tk + 1 } :=
      I.turnedNew (ch := [e, it]) (fun b ob hb q => (sb.2 b (fun z => hb (by simp [z]))).trans (hk b ob (fun z => hb (by simp [z])) (fun z => hb (by simp [z])) q)) hf (Nat.le_refl _) new
    refine ⟨.ref s.heap.objs.size, _, I1, rfl, ⟨_, x, rfl, I.hok.fresh (Nat.le_refl _), rfl, fun ys hy => by rw [I.tuple_inj hy hq]; exact hx⟩, ⟨⟨u, ?_⟩, hit'.at fun o q => (sb.2 it (Ne.symm hne)).trans q, hne, hae, hai⟩, fun b hb => ?_⟩
    · have e1 : ((i + 1 : Nat) : Int) = (i : Int) + 1 := by omega
      rw [e1]; exact he'
    · have hb' : b < s.heap.objs.size := by
        have e' : b = e ∨ b = it := by simpa using hb
        rcases e' with z | z
        · rw [z]; exact hel
        · rw [z]; exact hil
      rw [upd_ne (Nat.ne_of_lt hb')]
      exact (hf b hb).1
  done := by
    intro X hP hw hK hc i pins s σ H E I hf st hg
    subst hP hw hK
    obtain ⟨⟨old, he⟩, hit, hne, hae, hai⟩ := st
    obtain ⟨xs, hq, hx⟩ := hg
    obtain ⟨its, rv, p, hz⟩ := I.tuple hq
    obtain ⟨f0, f1, f2, f3, f4, f5⟩ := hf it (by simp)
    have hl := rv.length
    have hsz : its.toArray.size = i := by rw [List.size_toArray]; omega
    refine wpAny_pyNext_enum_endD (Draws.tuple (A := X.A.in1) (I.ok.hd hc) it a hai its.toArray) he ?_ fun h' eb => ⟨rfl, I.turned (t' := s.toks) (fun b o hb q => eb b o hb q) f0 f1 f3 f4 f5⟩
    rw [hsz]
    exact ⟨hit, show s.heap.IsTuple a its.toArray from p⟩
  self := fun A i s Q E st h => let ⟨⟨_, he⟩, _⟩ := st; wpAny_pyIter_enum he h

theorem meets_enumerate_newT (l : Addr) (items : Array Value) :
    Meets (Builtin.«enumerate.__new__» ⟨[.type "enumerate", .ref l], []⟩) (fun _ R s => s.heap.IsTuple l items ∧
      R (.ok (.ret (.ref (s.heap.push { cls := .type "tuple_iterator", data := .fields #[.ref l, .int 0 0] }).objs.size)))
        { s with heap := (s.heap.push { cls := .type "tuple_iterator", data := .fields #[.ref l, .int 0 0] }).push { cls := .type "enumerate", data := .fields #[.none, .bool false, .ref s.heap.objs.size, rawInt 0, .none, .none] } }) :=
  .of_wp fun prog w A R s h => by
    obtain ⟨hp, g, d, tk, os⟩ := s; obtain ⟨hl, h⟩ := h
    have hsub := sub_enumerate
    have q1 : ∀ {A' : Around} {E : Value → Shared → Prop} {Q : Value → Shared → Prop}, Q (.ref hp.objs.size) ⟨hp.push { cls := .type "tuple_iterator", data := .fields #[.ref l, .int 0 0] }, g, d, tk, os⟩ → wpAny (model prog w) A' (pyIter (.ref l)) Q E ⟨hp, g, d, tk, os⟩ :=
      fun q => wpAny_pyIter_tuple (s := ⟨hp, g, d, tk, os⟩) hl q
    wp_walk using q1
    refine wpAny_stack_any fun st => wpAny_pure ?_
    split
    · rename_i c _ _ _ _ _
      cases (c == Value.type "enumerate")
      · wp_walk using q1
        exact ⟨_, rfl, h⟩
      · wp_walk using q1
        exact ⟨_, rfl, h⟩
    · wp_walk using q1
      exact ⟨_, rfl, h⟩
section
variable {prog : Program} {w : World} {A : Around} {E : Value → Shared → Prop} {s : Shared}
theorem call_enumerate_tup {l : Addr} {items : Array Value} {Q : Value → Shared → Prop} (hL : s.heap.IsTuple l items)
    (h : ∀ h', IsEnum h' (s.heap.objs.size + 1) s.heap.objs.size 0 .none → h'.IsTupleIter s.heap.objs.size l 0 → h'.objs.size = s.heap.objs.size + 2 →
      (∀ b o, s.heap.get? b = some o → h'.get? b = some o) → Q (.ref (s.heap.objs.size + 1)) { s with heap := h' }) :
    wpAny (model prog w) A (call (.type "enumerate") [.ref l]) Q E s := by
  refine callType_new F.called_enumerate (by decide) (F.typeCall_enumerate_1 _) (F.newCall_enumerate_1 _) (fun obj => F.args_object_init_2 obj _) F.entry_enumerate_new
    (meets_enumerate_newT l items) ⟨hL, ?_⟩
  have hz : (s.heap.push { cls := .type "tuple_iterator", data := .fields #[.ref l, .int 0 0] }).objs.size = s.heap.objs.size + 1 := Heap.size_push ..
  show _ ∧ _
  rw [hz]
  have he : IsEnum ((s.heap.push { cls := .type "tuple_iterator", data := .fields #[.ref l, .int 0 0] }).push
      { cls := .type "enumerate", data := .fields #[.none, .bool false, .ref s.heap.objs.size, rawInt 0, .none, .none] }) (s.heap.objs.size + 1) s.heap.objs.size 0 .none := by
    have := Heap.get?_push_size (s.heap.push { cls := .type "tuple_iterator", data := .fields #[.ref l, .int 0 0] })
      (o := { cls := .type "enumerate", data := .fields #[.none, .bool false, .ref s.heap.objs.size, rawInt 0, .none, .none] }) rfl
    rw [hz] at this; exact this
  refine ⟨⟨_, he, rfl⟩, h _ he ⟨_, Heap.get?_push_of_some _ (Heap.get?_push_size _ rfl), rfl, rfl⟩ (by rw [Heap.size_push, hz]) fun b o x => Heap.get?_push_of_some _ (Heap.get?_push_of_some _ x)⟩
end
def iEnumA (K : PySem.W.Frag) (ta : TA) : TI := fun σ H R => ta σ H fun vs H1 => ∃ a xs, vs = [.ref a] ∧ ((SqL K H1 a xs ∧ R (Ite K a) H1) ∨ (SqT K H1 a xs ∧ R (IteT K a) H1))
theorem pi_enumA {X : Cx} {e : Expr} {ta : TA} {p pos tpos : Pos} {elts : List Expr} {kk : Nat} (hg : Gl X "enumerate") (hm : X.mg "enumerate" = none) (ha : PA X [e] ta) (hs : starEach [e] X.env = [(false, eval e X.env)] := by rfl) :
    PI X (.Tuple elts kk tpos) (.Call (.Name "enumerate" p) [e] [] pos) (iEnumA X.K ta) := by
  refine ⟨fun pins s σ H R I h => ?_⟩
  refine Call_ (ld_blt I hg hm boot_enumerate (PyProof.Rows.callWith_type1 (thn (ha.run pos pins s σ H _ I h) fun us s1 ⟨vs, H1, I1, r1, q1⟩ => ?_) hs rfl))
  obtain ⟨a, xs, ex, q⟩ := q1
  subst ex
  cases r1 with
  | cons r rr =>
    cases rr
    cases r
    have fp2 : ∀ b, b ∈ [s1.heap.objs.size + 1, s1.heap.objs.size] → FpOk X pins H1 b := fun b hb => by
      have e' : b = s1.heap.objs.size + 1 ∨ b = s1.heap.objs.size := by simpa using hb
      have hle : s1.heap.objs.size ≤ b := by
        rcases e' with z | z
        · rw [z]; exact Nat.le_add_right _ _
        · rw [z]; exact Nat.le_refl _
      exact I1.fpOk hle (I1.hok.fresh hle)
    rcases q with ⟨hq, q⟩ | ⟨hq, q⟩
    · obtain ⟨its, rv, p', hz⟩ := I1.list hq
      refine call_enumerate_list p'.isList fun h' he hit hsz hk => wpAny_pyIter_enum he ?_
      have I2 : Inv X pins σ H1 { s1 with heap := h' } := I1.kept (t' := s1.toks) hk
      exact ⟨s1.heap.objs.size + 1, [s1.heap.objs.size + 1, s1.heap.objs.size], _, _, H1, rfl, I2, turn_enum a (s1.heap.objs.size + 1) s1.heap.objs.size, ⟨⟨.none, he⟩, hit, Nat.succ_ne_self _⟩, fp2, q⟩
    · obtain ⟨its, rv, p', hz⟩ := I1.tuple hq
      have hlt : a < s1.heap.objs.size := p'.lt
      refine call_enumerate_tup (show s1.heap.IsTuple a its.toArray from p') fun h' he hit hsz hk => wpAny_pyIter_enum he ?_
      have I2 : Inv X pins σ H1 { s1 with heap := h' } := I1.kept (t' := s1.toks) hk
      exact ⟨s1.heap.objs.size + 1, [s1.heap.objs.size + 1, s1.heap.objs.size], _, _, H1, rfl, I2, turn_enumT a (s1.heap.objs.size + 1) s1.heap.objs.size, ⟨⟨.none, he⟩, hit, Nat.succ_ne_self _, Nat.ne_of_lt (Nat.lt_succ_of_lt hlt), Nat.ne_of_lt hlt⟩, fp2, q⟩

/-! ### zip of a list and a tuple -/
def ItzM (K : PySem.W.Frag) (a b : Addr) : It :=
  ⟨fun i H => ∃ (xs ys : List V) (x y : V), SqL K H a xs ∧ SqT K H b ys ∧ xs[i]? = some x ∧ ys[i]? = some y,
    fun i H v H' => ∃ T x y, v = .ref T ∧ H T = none ∧ H' = upd H T (.tup [x, y]) ∧ (∀ xs, SqL K H a xs → xs[i]? = some x) ∧ ∀ ys, SqT K H b ys → ys[i]? = some y,
    fun i H => ∃ xs ys : List V, SqL K H a xs ∧ SqT K H b ys ∧ (xs.length = i ∧ ys.length = i)⟩
theorem turn_zipM {P : Program} {w : World} {K : PySem.W.Frag} {elts : List Expr} {kk : Nat} {tpos : Pos} {a b z TI TO i1 i2 : Addr} (S : ZipSep2 z TI TO i1 i2 [i1, a] [i2, b]) (h12 : i1 ≠ i2) :
    Turn P w K (.Tuple elts kk tpos) (ItzM K a b) [z, TI, TO, i1, i2] z (fun i h => IsZip h z TI TO .none ∧ IsTupOf2 h TI (.ref i1) (.ref i2) ∧ (∃ x y, IsTupOf2 h TO x y) ∧ h.IsListIter i1 a i ∧ h.IsTupleIter i2 b i ∧ a ≠ i1 ∧ b ≠ i2) where
  mem := by simp
  obj := fun i h st c hc => by
    obtain ⟨hz, hTI, ⟨x, y, hTO⟩, ⟨o1, e1, _, d1⟩, ⟨o2, e2, _, d2⟩, _⟩ := st
    have e' : c = z ∨ c = TI ∨ c = TO ∨ c = i1 ∨ c = i2 := by simpa using hc
    rcases e' with q | q | q | q | q
    · rw [q]; exact ⟨_, hz, fun v q => nomatch q⟩
    · rw [q]; exact ⟨_, hTI, fun v q => nomatch q⟩
    · rw [q]; exact ⟨_, hTO, fun v q => nomatch q⟩
    · rw [q]; exact ⟨o1, e1, fun v q => by rw [d1] at q; cases q⟩
    · rw [q]; exact ⟨o2, e2, fun v q => by rw [d2] at q; cases q⟩
  keep := fun i h h' st k => by
    obtain ⟨hz, hTI, ⟨x, y, hTO⟩, h1, h2, hn⟩ := st
    exact ⟨k z (by simp) _ hz, k TI (by simp) _ hTI, ⟨x, y, k TO (by simp) _ hTO⟩, h1.at fun o q => k i1 (by simp) o q, h2.at fun o q => k i2 (by simp) o q, hn⟩
  item := by
    intro X hP hw hK hc i pins s σ H E I hf st hg
    subst hP hw hK
    obtain ⟨hz, hTI, ⟨x0, y0, hTO⟩, h1, h2, hai, hbi⟩ := st
    obtain ⟨xs, ys, x, y, hqx, hqy, hx, hy⟩ := hg
    obtain ⟨its, rv, p, _⟩ := I.list hqx
    obtain ⟨its2, rv2, p2, _⟩ := I.tuple hqy
    obtain ⟨u, hu, ru⟩ := rv.get hx
    obtain ⟨u2, hu2, ru2⟩ := rv2.get hy
    have hzl : z < s.heap.objs.size := Heap.lt_size hz
    have l1 : i < its.toArray.size := by rw [List.size_toArray]; exact (List.getElem?_eq_some_iff.mp hu).1
    have l2 : i < its2.toArray.size := by rw [List.size_toArray]; exact (List.getElem?_eq_some_iff.mp hu2).1
    refine wpAny_pyNext_zipD2_item S (Draws.list (A := X.A.in1) (I.ok.hd hc) i1 a hai its.toArray) (Draws.tuple (A := X.A.in1) (I.ok.hd hc) i2 b hbi its2.toArray) hz hTI hTO ⟨h1, p.isList⟩ ⟨h2, show s.heap.IsTuple b its2.toArray from p2⟩ l1 l2 fun v1 v2 h' tk hP1 hP2 z' TO' h1' h2' hT hsz hk => ?_
    have ev1 : v1 = u := Option.some.inj ((show its.toArray[i]? = some v1 from hP1).symm.trans (by simpa using hu))
    have ev2 : v2 = u2 := Option.some.inj ((show its2.toArray[i]? = some v2 from hP2).symm.trans (by simpa using hu2))
    subst ev1 ev2
    refine ⟨_, rfl, wpAny_letOwnedTupleGo_zip (s := { s with heap := h', toks := tk }) z' fun h'' z'' sb => ?_⟩
    have hT2 : h''.get? s.heap.objs.size = some { cls := .type "tuple", data := .seq #[v1, v2] } := (sb.2 _ (Nat.ne_of_gt hzl)).trans hT
    have new : ObjOk X.prog X.w (upd H s.heap.objs.size (.tup [x, y])) h'' s.heap.objs.size (.tup [x, y]) :=
      ⟨by show 2 ≤ sizeLine; decide, [v1, v2], .cons ru (.cons ru2 .nil), ⟨_, hT2, rfl, _, rfl⟩⟩
    have I1 : Inv X pins σ (upd H s.heap.objs.size (.tup [x, y])) { s with heap := h'', toks := tk } :=
      I.turnedNew (t' := tk) (ch := [z, TI, TO, i1, i2]) (fun c o hb q => (sb.2 c (fun q' => hb (by simp [q']))).trans (hk c o (fun q' => hb (by simp [q'])) (fun q' => hb (by simp [q'])) (fun q' => hb (by simp [q'])) (fun q' => hb (by simp [q'])) q)) hf (Nat.le_refl _) new
    refine ⟨.ref s.heap.objs.size, _, I1, rfl, ⟨_, x, y, rfl, I.hok.fresh (Nat.le_refl _), rfl, fun l hl => by rw [I.list_inj hl hqx]; exact hx, fun l hl => by rw [I.tuple_inj hl hqy]; exact hy⟩, ⟨z'', ?_, ⟨v1, v2, ?_⟩, ?_, ?_, hai, hbi⟩, fun c hcm => ?_⟩
    · exact (sb.2 _ S.TIz).trans (hk _ _ S.TIz S.TITO S.TIi1 S.TIi2 hTI)
    · exact (sb.2 _ S.TOz).trans TO'
    · exact h1'.1.at fun o q => (sb.2 _ S.zi1.symm).trans q
    · exact h2'.1.at fun o q => (sb.2 _ S.zi2.symm).trans q
    · have hlt : c < s.heap.objs.size := by
        have e' : c = z ∨ c = TI ∨ c = TO ∨ c = i1 ∨ c = i2 := by simpa using hcm
        rcases e' with q | q | q | q | q
        · rw [q]; exact hzl
        · rw [q]; exact Heap.lt_size hTI
        · rw [q]; exact Heap.lt_size hTO
        · rw [q]; obtain ⟨_, e1, _⟩ := h1; exact Heap.lt_size e1
        · rw [q]; obtain ⟨_, e2, _⟩ := h2; exact Heap.lt_size e2
      rw [upd_ne (Nat.ne_of_lt hlt)]
      exact (hf c hcm).1
  done := by
    intro X hP hw hK hc i pins s σ H E I hf st hg
    subst hP hw hK
    obtain ⟨hz, hTI, ⟨x0, y0, hTO⟩, h1, h2, hai, hbi⟩ := st
    obtain ⟨xs, ys, hqx, hqy, e1, e2⟩ := hg
    obtain ⟨its, rv, p, _⟩ := I.list hqx
    obtain ⟨its2, rv2, p2, _⟩ := I.tuple hqy
    have l1 := rv.length
    have l2 := rv2.length
    exact wpAny_pyNext_zipD2_end S (Draws.list (A := X.A.in1) (I.ok.hd hc) i1 a hai its.toArray) (Draws.tuple (A := X.A.in1) (I.ok.hd hc) i2 b hbi its2.toArray) hz hTI hTO (i := i) ⟨h1, p.isList⟩ ⟨h2, show s.heap.IsTuple b its2.toArray from p2⟩
      (by rw [List.size_toArray]; omega) (by rw [List.size_toArray]; omega) (.inl (by rw [List.size_toArray]; omega)) fun h' tk hk => ⟨rfl, I.turnedL (t' := tk) (ch := [z, TI, TO, i1, i2]) (fun c o hb q =>
      hk c o (fun q' => hb (by simp [q'])) (fun q' => hb (by simp [q'])) (fun q' => hb (by simp [q'])) (fun q' => hb (by simp [q'])) q) hf⟩
  self := fun A i s Q E st h => wpAny_pyIter_zip st.1 h
def iZipM (K : PySem.W.Frag) (ta : TA) : TI := fun σ H R => ta σ H fun vs H1 => ∃ a b xs ys, vs = [.ref a, .ref b] ∧ ((SqL K H1 a xs ∧ SqL K H1 b ys ∧ R (Itz K a b) H1) ∨ (SqT K H1 a xs ∧ SqT K H1 b ys ∧ R (RZ.ItzT K a b) H1) ∨ (SqL K H1 a xs ∧ SqT K H1 b ys ∧ R (ItzM K a b) H1))
theorem pi_zipM {X : Cx} {e e2 : Expr} {ta : TA} {p pos tpos : Pos} {elts : List Expr} {kk : Nat} (hg : Gl X "zip") (hm : X.mg "zip" = none) (ha : PA X [e, e2] ta)
    (hs : starEach [e, e2] X.env = (false, eval e X.env) :: starEach [e2] X.env := by rfl) (hpl : (backTo pos (starEach [e2] X.env)).any (·.1) = false := by rfl) :
    PI X (.Tuple elts kk tpos) (.Call (.Name "zip" p) [e, e2] [] pos) (iZipM X.K ta) := by
  refine ⟨fun pins s σ H R I h => ?_⟩
  refine Call_ (ld_blt I hg hm PyProof.Rows.boot_zip (PyProof.Rows.callWith_type1 (thn (ha.run pos pins s σ H _ I h) fun us s1 ⟨vs, H1, I1, r1, q1⟩ => ?_) hs hpl))
  obtain ⟨a, b, xs, ys, ex, q1⟩ := q1
  subst ex
  cases r1 with
  | cons r rr =>
    cases rr with
    | cons r' rr =>
      cases rr
      cases r
      cases r'
      have fresh5 : ∀ c, c ∈ [s1.heap.objs.size + 4, s1.heap.objs.size + 2, s1.heap.objs.size + 3, s1.heap.objs.size, s1.heap.objs.size + 1] → FpOk X pins H1 c := fun c hcm => by
        have e' : c = s1.heap.objs.size + 4 ∨ c = s1.heap.objs.size + 2 ∨ c = s1.heap.objs.size + 3 ∨ c = s1.heap.objs.size ∨ c = s1.heap.objs.size + 1 := by simpa using hcm
        have hle : s1.heap.objs.size ≤ c := by
          rcases e' with z | z | z | z | z
          · rw [z]; exact Nat.le_add_right _ _
          · rw [z]; exact Nat.le_add_right _ _
          · rw [z]; exact Nat.le_add_right _ _
          · rw [z]; exact Nat.le_refl _
          · rw [z]; exact Nat.le_add_right _ _
        exact I1.fpOk hle (I1.hok.fresh hle)
      rcases q1 with ⟨hqx, hqy, q⟩ | ⟨hqx, hqy, q⟩ | ⟨hqx, hqy, q⟩
      · obtain ⟨its, rv, p1, _⟩ := I1.list hqx
        obtain ⟨its2, rv2, p2, _⟩ := I1.list hqy
        refine call_zip_2 p1.isList p2.isList fun h' hz hTI hTO h1 h2 hsz hk => wpAny_pyIter_zip hz ?_
        have I2 : Inv X pins σ H1 { s1 with heap := h' } := I1.kept (t' := s1.toks) hk
        exact ⟨s1.heap.objs.size + 4, [s1.heap.objs.size + 4, s1.heap.objs.size + 2, s1.heap.objs.size + 3, s1.heap.objs.size, s1.heap.objs.size + 1], _, _, H1, rfl, I2, turn_zip (PySem.W.ktu_apart s1.heap.objs.size a b p1.lt p2.lt), ⟨hz, hTI, ⟨_, _, hTO⟩, h1, h2⟩, fresh5, q⟩
      · obtain ⟨its, rv, p1, _⟩ := I1.tuple hqx
        obtain ⟨its2, rv2, p2, _⟩ := I1.tuple hqy
        obtain ⟨o1, ho1, _⟩ := id p1
        obtain ⟨o2, ho2, _⟩ := id p2
        refine RZ.call_zipT (show s1.heap.IsTuple a its.toArray from p1) (show s1.heap.IsTuple b its2.toArray from p2) fun h' hz hTI hTO h1 h2 hsz hk => wpAny_pyIter_zip hz ?_
        have I2 : Inv X pins σ H1 { s1 with heap := h' } := I1.kept (t' := s1.toks) hk
        exact ⟨s1.heap.objs.size + 4, [s1.heap.objs.size + 4, s1.heap.objs.size + 2, s1.heap.objs.size + 3, s1.heap.objs.size, s1.heap.objs.size + 1], _, _, H1, rfl, I2, RZ.turn_zipT (PySem.W.ktu_apart s1.heap.objs.size a b (Heap.lt_size ho1) (Heap.lt_size ho2)), ⟨hz, hTI, ⟨_, _, hTO⟩, h1, h2⟩, fresh5, q⟩
      · obtain ⟨its, rv, p1, _⟩ := I1.list hqx
        obtain ⟨its2, rv2, p2, _⟩ := I1.tuple hqy
        have la : a < s1.heap.objs.size := p1.lt
        have lb : b < s1.heap.objs.size := p2.lt
        refine zip_begins2 (begins_list a its.toArray) (begins_tuple b its2.toArray) p1.isList (show s1.heap.IsTuple b its2.toArray from p2) fun h' hz hTI hTO h1 h2 hsz hk => wpAny_pyIter_zip hz ?_
        have I2 : Inv X pins σ H1 { s1 with heap := h' } := I1.kept (t' := s1.toks) hk
        have sep := zip_sep2 (N := s1.heap.objs.size) (fp1 := [a]) (fp2 := [b]) (fun c hc => by rw [List.mem_singleton.mp hc]; exact la) (fun c hc => by rw [List.mem_singleton.mp hc]; exact lb)
        exact ⟨s1.heap.objs.size + 4, [s1.heap.objs.size + 4, s1.heap.objs.size + 2, s1.heap.objs.size + 3, s1.heap.objs.size, s1.heap.objs.size + 1], _, _, H1, rfl, I2, turn_zipM sep (Nat.ne_of_lt (Nat.lt_succ_self _)), ⟨hz, hTI, ⟨_, _, hTO⟩, ⟨_, h1, rfl, rfl⟩, ⟨_, h2, rfl, rfl⟩, Nat.ne_of_lt la, Nat.ne_of_lt (Nat.lt_succ_of_lt lb)⟩, fresh5, q⟩
end EN
/-! What stands for what: ints, tuples of ints, lists of tuples ..; how it is kept; comparisons of rows of ints. -/
namespace EN
open PySem PySem.Spec PyProof.Rows L2

/-! ### heaps -/
theorem same_new {H : Hp} {p : Addr} {o : HO} (h : H p = none) : Same H (upd H p o) := fun b u e => by
  rw [upd_ne (ne_of_none e h)]
  exact e
theorem same_mut {H H' : Hp} {p : Addr} {o : HO} (s : Same H H') (h : H p = none) : Same H (upd H' p o) := fun b u e => by
  rw [upd_ne (ne_of_none e h)]
  exact s _ _ e
theorem same_t {K : PySem.W.Frag} {H H' : Hp} {a : Addr} {xs : List V} (e : Same H H') (h : SqT K H a xs) : SqT K H' a xs := by
  rcases h with (h | ⟨o, h⟩) | h
  · exact .inl (.inl (e _ _ h))
  · exact .inl (.inr ⟨o, e _ _ h⟩)
  · exact .inr h
theorem same_l {K : PySem.W.Frag} {H H' : Hp} {a : Addr} {xs : List V} (e : Same H H') (h : SqL K H a xs) : SqL K H' a xs := e.seq h
theorem sqt {K : PySem.W.Frag} {H : Hp} {a : Addr} {xs : List V} (h : H a = some (.tup xs)) : SqT K H a xs := .inl (.inl h)
theorem sql {K : PySem.W.Frag} {H : Hp} {a : Addr} {xs : List V} (h : H a = some (.lst xs)) : SqL K H a xs := .inl (.inl h)
theorem ne_tl {H : Hp} {a b : Addr} {xs ys : List V} (h : H a = some (.tup xs)) (h' : H b = some (.lst ys)) : a ≠ b := ne_of h h' (by intro z; cases z)

/-! ### what stands for what -/
abbrev Rp (α : Type) := Hp → V → α → Prop
/-- kept while all that is tracked is kept -/
class Kp {α : Type} (r : Rp α) : Prop where
  kp : ∀ {H H' : Hp} {v : V} {x : α}, Same H H' → r H v x → r H' v x
/-- kept while all but one list is kept -/
class Im {α : Type} (r : Rp α) : Prop where
  im : ∀ {H H' : Hp} {R : Addr} {ys : List V} {v : V} {x : α}, H R = some (.lst ys) → (∀ b o, b ≠ R → H b = some o → H' b = some o) → r H v x → r H' v x
theorem keep {α : Type} {r : Rp α} [k : Kp r] {H H' : Hp} {v : V} {x : α} (s : Same H H') (h : r H v x) : r H' v x := k.kp s h
theorem keepM {α : Type} {r : Rp α} [k : Im r] {H H' : Hp} {R : Addr} {ys : List V} {v : V} {x : α} (hR : H R = some (.lst ys)) (s : ∀ b o, b ≠ R → H b = some o → H' b = some o) (h : r H v x) : r H' v x := k.im hR s h
theorem paired_map {α β : Type} {F G : α → β → Prop} : ∀ {l₁ : List α} {l₂ : List β}, Paired F l₁ l₂ → (∀ a b, F a b → G a b) → Paired G l₁ l₂
  | _, _, .nil, _ => .nil
  | _, _, .cons r t, f => .cons (f _ _ r) (paired_map t f)

def rI_ : Rp Int := fun _ v i => v = .int i
def Tup {α : Type} (r : Rp α) : Rp (List α) := fun H v l => ∃ (a : Addr) (xs : List V), v = .ref a ∧ H a = some (.tup xs) ∧ Paired (r H) xs l
def Lst {α : Type} (r : Rp α) : Rp (List α) := fun H v l => ∃ (a : Addr) (xs : List V), v = .ref a ∧ H a = some (.lst xs) ∧ Paired (r H) xs l
def Pr {α β : Type} (r : Rp α) (s : Rp β) : Rp (α × β) := fun H v p => ∃ (a : Addr) (x y : V), v = .ref a ∧ H a = some (.tup [x, y]) ∧ r H x p.1 ∧ s H y p.2
instance : Kp rI_ := ⟨fun _ h => h⟩
instance : Im rI_ := ⟨fun _ _ h => h⟩
instance {α : Type} {r : Rp α} [k : Kp r] : Kp (Tup r) := ⟨fun s ⟨a, xs, e, h, p⟩ => ⟨a, xs, e, s _ _ h, paired_map p fun _ _ q => k.kp s q⟩⟩
instance {α : Type} {r : Rp α} [k : Kp r] : Kp (Lst r) := ⟨fun s ⟨a, xs, e, h, p⟩ => ⟨a, xs, e, s _ _ h, paired_map p fun _ _ q => k.kp s q⟩⟩
instance {α β : Type} {r : Rp α} {t : Rp β} [k : Kp r] [k2 : Kp t] : Kp (Pr r t) := ⟨fun s ⟨a, x, y, e, h, p, q⟩ => ⟨a, x, y, e, s _ _ h, k.kp s p, k2.kp s q⟩⟩
instance {α : Type} {r : Rp α} [k : Im r] : Im (Tup r) := ⟨fun hR s ⟨a, xs, e, h, p⟩ => ⟨a, xs, e, s _ _ (ne_tl h hR) h, paired_map p fun _ _ q => k.im hR s q⟩⟩
instance {α β : Type} {r : Rp α} {t : Rp β} [k : Im r] [k2 : Im t] : Im (Pr r t) := ⟨fun hR s ⟨a, x, y, e, h, p, q⟩ => ⟨a, x, y, e, s _ _ (ne_tl h hR) h, k.im hR s p, k2.im hR s q⟩⟩

abbrev Poly : Rp (List Int) := Tup rI_
abbrev Frac : Rp (Int × Int) := Pr rI_ rI_
abbrev Row : Rp (List (List Int)) := Tup Poly
abbrev Line : Rp (Int × List (List (List Int))) := Pr rI_ (Tup Row)
abbrev Code : Rp (List (List Int × Int)) := Tup (Pr Poly rI_)
abbrev PolyBy : Rp (List Int × Int) := Pr Poly rI_

theorem pairedI : ∀ {xs : List V} {l : List Int} {H : Hp}, Paired (rI_ H) xs l → xs = l.map V.int
  | _, _, _, .nil => rfl
  | _, _, _, .cons r t => by
    rw [List.map_cons, ← pairedI t]
    rw [show _ = V.int _ from r]
theorem pairedI_of (H : Hp) : ∀ (l : List Int), Paired (rI_ H) (l.map V.int) l
  | [] => .nil
  | _ :: r => .cons rfl (pairedI_of H r)
theorem poly_at {H : Hp} {v : V} {p : List Int} (h : Poly H v p) : ∃ a, v = .ref a ∧ H a = some (.tup (p.map V.int)) := by
  obtain ⟨a, xs, e, h, q⟩ := h
  exact ⟨a, e, by rw [h, pairedI q]⟩
theorem poly_of {H : Hp} {a : Addr} {p : List Int} (h : H a = some (.tup (p.map V.int))) : Poly H (.ref a) p := ⟨a, _, rfl, h, pairedI_of H p⟩
theorem frac_at {H : Hp} {v : V} {p : Int × Int} (h : Frac H v p) : ∃ a, v = .ref a ∧ H a = some (.tup [.int p.1, .int p.2]) := by
  obtain ⟨a, x, y, e, h, q1, q2⟩ := h
  exact ⟨a, e, by rw [h, show x = V.int p.1 from q1, show y = V.int p.2 from q2]⟩
theorem frac_of {H : Hp} {a : Addr} {i j : Int} (h : H a = some (.tup [.int i, .int j])) : Frac H (.ref a) (i, j) := ⟨a, _, _, rfl, h, rfl, rfl⟩
theorem paired_get {α β : Type} {F : α → β → Prop} : ∀ {l₁ : List α} {l₂ : List β}, Paired F l₁ l₂ → ∀ {i : Nat} {b : β}, l₂[i]? = some b → ∃ a, l₁[i]? = some a ∧ F a b
  | _, _, .nil, _, _, h => by simp at h
  | _, _, .cons r t, 0, b, h => by
    have e := Option.some.inj h
    subst e
    exact ⟨_, rfl, r⟩
  | _, _, .cons r t, i + 1, b, h => paired_get t (i := i) h
theorem paired_get' {α β : Type} {F : α → β → Prop} : ∀ {l₁ : List α} {l₂ : List β}, Paired F l₁ l₂ → ∀ {i : Nat} {a : α}, l₁[i]? = some a → ∃ b, l₂[i]? = some b ∧ F a b
  | _, _, .nil, _, _, h => by simp at h
  | _, _, .cons r t, 0, b, h => by
    have e := Option.some.inj h
    subst e
    exact ⟨_, rfl, r⟩
  | _, _, .cons r t, i + 1, b, h => paired_get' t (i := i) h
theorem paired_len {α β : Type} {F : α → β → Prop} {l₁ : List α} {l₂ : List β} (h : Paired F l₁ l₂) : l₁.length = l₂.length := Paired.length h
theorem paired_app {α β : Type} {F : α → β → Prop} : ∀ {l₁ k₁ : List α} {l₂ k₂ : List β}, Paired F l₁ l₂ → Paired F k₁ k₂ → Paired F (l₁ ++ k₁) (l₂ ++ k₂)
  | _, _, _, _, .nil, h => h
  | _, _, _, _, .cons r t, h => .cons r (paired_app t h)

/-! ### ints in a row, a list or a tuple -/
def Zs (K : PySem.W.Frag) (H : Hp) (v : V) (p : List Int) : Prop := ∃ a, v = .ref a ∧ (SqL K H a (p.map V.int) ∨ SqT K H a (p.map V.int))
theorem zs_poly {K : PySem.W.Frag} {H : Hp} {v : V} {p : List Int} (h : Poly H v p) : Zs K H v p := by
  obtain ⟨a, e, h⟩ := poly_at h
  exact ⟨a, e, .inr (sqt h)⟩
theorem zs_lst {K : PySem.W.Frag} {H : Hp} {a : Addr} {p : List Int} (h : H a = some (.lst (p.map V.int))) : Zs K H (.ref a) p := ⟨a, rfl, .inl (sql h)⟩
theorem zs_keep {K : PySem.W.Frag} {H H' : Hp} {v : V} {p : List Int} (s : Same H H') (h : Zs K H v p) : Zs K H' v p := by
  obtain ⟨a, e, h⟩ := h
  exact ⟨a, e, h.elim (fun h => .inl (same_l s h)) fun h => .inr (same_t s h)⟩

theorem eqvAll_ints : ∀ (p q : List Int), PyData.eqvAll (p.map PyData.int) (q.map PyData.int) = decide (p = q)
  | [], [] => rfl
  | [], _ :: _ => rfl
  | _ :: _, [] => rfl
  | a :: p, b :: q => by
    show (PyData.eqv (.int a) (.int b) && PyData.eqvAll (p.map PyData.int) (q.map PyData.int)) = _
    rw [eqvAll_ints p q]
    show ((a == b) && decide (p = q)) = _
    by_cases h : a = b
    · subst h
      by_cases h2 : p = q
      · subst h2; simp
      · simp [h2]
    · simp [h]
theorem canLay_ints : ∀ (p : List Int), PyData.canLayAll0 (p.map PyData.int) = true
  | [] => rfl
  | a :: p => by
    rw [List.map_cons]
    simp only [PyData.canLayAll0, PyData.canLay0, canLay_ints p, Bool.and_true]
theorem depth_ints : ∀ (p : List Int), PyData.depthAll (p.map PyData.int) = 0
  | [] => rfl
  | a :: p => by
    rw [List.map_cons]
    simp only [PyData.depthAll, PyData.depth, depth_ints p]
    rfl
theorem shaped_tup (p : List Int) : SeqAt.shaped (.tuple (p.map PyData.int)) = true := by
  simp [SeqAt.shaped, PyData.canLay0, PyData.depth, canLay_ints, depth_ints]
theorem shaped_lst (p : List Int) : SeqAt.shaped (.list (p.map PyData.int)) = true := by
  simp [SeqAt.shaped, PyData.canLay0, PyData.depth, canLay_ints, depth_ints]
theorem dpAll_ints {K : PySem.W.Frag} {H : Hp} : ∀ (p : List Int), DpAll K H (p.map V.int) (p.map PyData.int)
  | [] => .nil
  | a :: p => .cons (.int a) (dpAll_ints p)
def rZ (K : PySem.W.Frag) (f : Bool → Bool) : R2 := fun x y H Q => ∃ (a b : Addr) (p q : List Int), x = .ref a ∧ y = .ref b ∧ ((SqL K H a (p.map V.int) ∧ SqL K H b (q.map V.int)) ∨ (SqT K H a (p.map V.int) ∧ SqT K H b (q.map V.int))) ∧ Q (.bl (f (decide (p = q)))) H
section
variable {X : Cx}
theorem op_eqZ (hu : X.A.units + 64 < cLine) : OpR X (compareOp .Eq) (rZ X.K id) := by
  intro pins s σ H x y v u Q I rx ry h
  obtain ⟨a, b, p, q, rfl, rfl, h, k⟩ := h
  refine op_eqD hu pins s σ H _ _ v u Q I rx ry ?_
  rcases h with ⟨h1, h2⟩ | ⟨h1, h2⟩
  · exact ⟨.list _, .list _, .lst h1 (dpAll_ints p), .lst h2 (dpAll_ints q), shaped_lst p, shaped_lst q, by rw [show PyData.eqv (.list (p.map PyData.int)) (.list (q.map PyData.int)) = decide (p = q) from eqvAll_ints p q]; exact k⟩
  · exact ⟨.tuple _, .tuple _, .tup h1 (dpAll_ints p), .tup h2 (dpAll_ints q), shaped_tup p, shaped_tup q, by rw [show PyData.eqv (.tuple (p.map PyData.int)) (.tuple (q.map PyData.int)) = decide (p = q) from eqvAll_ints p q]; exact k⟩
theorem op_neZ (hu : X.A.units + 64 < cLine) : OpR X (compareOp .NotEq) (rZ X.K not) := by
  intro pins s σ H x y v u Q I rx ry h
  obtain ⟨a, b, p, q, rfl, rfl, h, k⟩ := h
  refine op_neD hu pins s σ H _ _ v u Q I rx ry ?_
  rcases h with ⟨h1, h2⟩ | ⟨h1, h2⟩
  · exact ⟨.list _, .list _, .lst h1 (dpAll_ints p), .lst h2 (dpAll_ints q), shaped_lst p, shaped_lst q, by rw [show PyData.eqv (.list (p.map PyData.int)) (.list (q.map PyData.int)) = decide (p = q) from eqvAll_ints p q]; exact k⟩
  · exact ⟨.tuple _, .tuple _, .tup h1 (dpAll_ints p), .tup h2 (dpAll_ints q), shaped_tup p, shaped_tup q, by rw [show PyData.eqv (.tuple (p.map PyData.int)) (.tuple (q.map PyData.int)) = decide (p = q) from eqvAll_ints p q]; exact k⟩
end
/-! ### items of rows of ints -/
theorem atI_nat' {α : Type} {xs : List α} {i : Int} {v : α} (h0 : 0 ≤ i) (h : xs[i.toNat]? = some v) : atI xs i = some v := by
  obtain ⟨hl, _⟩ := List.getElem?_eq_some_iff.mp h
  unfold atI ixN
  rw [if_pos h0, if_pos (by omega)]
  exact h
theorem atI_last' {α : Type} {xs : List α} {v : α} (h : xs.getLast? = some v) : atI xs (-1) = some v := by
  have hne : xs ≠ [] := by
    intro e
    rw [e] at h
    cases h
  have hp : 0 < xs.length := List.length_pos_iff.mpr hne
  unfold atI ixN
  rw [if_neg (by decide), if_pos (by omega)]
  show xs[(-1 + (xs.length : Int)).toNat]? = some v
  rw [show (-1 + (xs.length : Int)).toNat = xs.length - 1 by omega, ← List.getLast?_eq_getElem?]
  exact h
/-! ### sizes -/
theorem line_le {n : Nat} (h : n ≤ 1000000) : n ≤ sizeLine := Nat.le_trans h (by decide)
theorem line_lt {n : Nat} (h : n ≤ 1000000) : n < sizeLine := Nat.lt_of_le_of_lt h (by decide)

/-! ### names of the module -/
/-- what the top left under the names that are used: built-ins are the built-ins, constants their values -/
structure Tx (K : PySem.W.Frag) (mg : Str → Option Value) : Prop where
  len_ : mg "len" = none
  range_ : mg "range" = none
  zip_ : mg "zip" = none
  enumerate_ : mg "enumerate" = none
  reversed_ : mg "reversed" = none
  isinstance_ : mg "isinstance" = none
  int_ : mg "int" = none
  bool_ : mg "bool" = none
  str_ : mg "str" = none
  tuple_ : mg "tuple" = none
  list_ : mg "list" = none
  max_ : mg "max" = none
  min_ : mg "min" = none
  abs_ : mg "abs" = none
  sum_ : mg "sum" = none
  all_ : mg "all" = none
  set_ : mg "set" = none
  c_MOST_SENT : ∃ u, mg "MOST_SENT" = some u ∧ RelV (.int 3) u
  c_MOST_HEARD : ∃ u, mg "MOST_HEARD" = some u ∧ RelV (.int 4) u
  c_MOST_POWERS : ∃ u, mg "MOST_POWERS" = some u ∧ RelV (.int 5) u
  c_MOST_GIVEN : ∃ u, mg "MOST_GIVEN" = some u ∧ RelV (.int 1000) u
  c_MOST_LONG : ∃ u, mg "MOST_LONG" = some u ∧ RelV (.int 4) u
  c_MOST_WORDS : ∃ u, mg "MOST_WORDS" = some u ∧ RelV (.int 4) u
  c_MOST_ROWS : ∃ u, mg "MOST_ROWS" = some u ∧ RelV (.int 81) u
  c_MOST_WEIGHT : ∃ u, mg "MOST_WEIGHT" = some u ∧ RelV (.int 100) u
end EN
/-! Loops and comprehensions in the forms that are used. -/
namespace EN
open PySem PySem.Spec PyProof.Rows L2

abbrev Fr' := PySem.W.Frag
abbrev St' := L2.St
/-- what a for asks behind its iterable: J its iterator -/
abbrev Loop (J : It) (g : TG) (tb : TS) (D : Ends) (σ : L2.St) (H : Hp) : Prop := ∃ W : Nat → Nat → L2.St → Hp → Prop, (∃ m, W 0 m σ H) ∧ ∀ i m σ H, W i m σ H →
  (J.stop i H ∧ D.nx σ H) ∨ (J.go i H ∧ ∃ N : L2.St → Hp → Prop, (∀ σ' H', N σ' H' → ∃ m', m' < m ∧ W (i + 1) m' σ' H') ∧ ∀ x H', J.yld i H x H' → g x σ H' fun σ2 H2 => tb { D with nx := N, ct := N, bk := D.nx } σ2 H2)
abbrev turnEnds (D : Ends) (N : L2.St → Hp → Prop) : Ends := { D with nx := N, ct := N, bk := D.nx }

section
variable {K : PySem.W.Frag} {a b : Addr} {xs ys : List V} {g : TG} {tb : TS} {D : Ends} {σ : L2.St} {H0 H : Hp}
theorem for_tupS (h : SqT K H0 a xs) (Pv : Nat → L2.St → Hp → Prop) (hk : ∀ i σ' H', Pv i σ' H' → Same H0 H') (h0 : Pv 0 σ H)
    (hs : ∀ i x σ' H', xs[i]? = some x → Pv i σ' H' → g x σ' H' fun σ2 H2 => tb (turnEnds D (Pv (i + 1))) σ2 H2) (hd : ∀ σ' H', Pv xs.length σ' H' → D.nx σ' H') : Loop (Itt K a) g tb D σ H :=
  for_tup (K := K) (a := a) (xs := xs) Pv h0 (fun i σ' H' _ p => same_t (hk i σ' H' p) h) hs hd
theorem for_lstS (h : SqL K H0 a xs) (Pv : Nat → L2.St → Hp → Prop) (hk : ∀ i σ' H', Pv i σ' H' → Same H0 H') (h0 : Pv 0 σ H)
    (hs : ∀ i x σ' H', xs[i]? = some x → Pv i σ' H' → g x σ' H' fun σ2 H2 => tb (turnEnds D (Pv (i + 1))) σ2 H2) (hd : ∀ σ' H', Pv xs.length σ' H' → D.nx σ' H') : Loop (Itl K a) g tb D σ H :=
  for_list (K := K) (a := a) (xs := xs) Pv h0 (fun i σ' H' _ p => same_l (hk i σ' H' p) h) hs hd
/-- for x in a list or a tuple -/
theorem for_seq (h : SqL K H0 a xs ∨ SqT K H0 a xs) (Pv : Nat → L2.St → Hp → Prop) (hk : ∀ i σ' H', Pv i σ' H' → Same H0 H') (h0 : Pv 0 σ H)
    (hs : ∀ i x σ' H', xs[i]? = some x → Pv i σ' H' → g x σ' H' fun σ2 H2 => tb (turnEnds D (Pv (i + 1))) σ2 H2) (hd : ∀ σ' H', Pv xs.length σ' H' → D.nx σ' H') :
    ∃ (a' : Addr) (xs' : List V), V.ref a = .ref a' ∧ ((SqL K H a' xs' ∧ Loop (Itl K a') g tb D σ H) ∨ (SqT K H a' xs' ∧ Loop (Itt K a') g tb D σ H)) := by
  have s0 := hk 0 σ H h0
  refine ⟨a, xs, rfl, ?_⟩
  rcases h with h | h
  · exact .inl ⟨same_l s0 h, for_lstS h Pv hk h0 hs hd⟩
  · exact .inr ⟨same_t s0 h, for_tupS h Pv hk h0 hs hd⟩
/-- for i, x in enumerate(a list or a tuple) -/
theorem for_enum {si sj : Nat} (h : SqL K H0 a xs ∨ SqT K H0 a xs) (Pv : Nat → L2.St → Hp → Prop) (hk : ∀ i σ' H', Pv i σ' H' → Same H0 H') (h0 : Pv 0 σ H)
    (hs : ∀ (i : Nat) (x : V) (T : Addr) σ' H', xs[i]? = some x → Pv i σ' H' → H' T = none → tb (turnEnds D (Pv (i + 1))) ((σ'.set si (some (.int (i : Nat)))).set sj (some x)) (upd H' T (.tup [.int (i : Nat), x])))
    (hd : ∀ σ' H', Pv xs.length σ' H' → D.nx σ' H') :
    ∃ (a' : Addr) (xs' : List V), [V.ref a] = [.ref a'] ∧ ((SqL K H a' xs' ∧ Loop (Ite K a') (gTup K 2 (gCons (gName si) (gCons (gName sj) gNil))) tb D σ H) ∨ (SqT K H a' xs' ∧ Loop (IteT K a') (gTup K 2 (gCons (gName si) (gCons (gName sj) gNil))) tb D σ H)) := by
  have s0 := hk 0 σ H h0
  refine ⟨a, xs, rfl, ?_⟩
  rcases h with h | h
  · refine .inl ⟨same_l s0 h, fun i m σ' H' => m = xs.length - i ∧ i ≤ xs.length ∧ Pv i σ' H', ⟨xs.length, rfl, Nat.zero_le _, h0⟩, ?_⟩
    rintro i m σ' H' ⟨rfl, hi, p⟩
    have q := same_l (hk i σ' H' p) h
    by_cases hlt : i < xs.length
    · have hx : xs[i]? = some xs[i] := List.getElem?_eq_getElem hlt
      refine .inr ⟨⟨xs, _, q, hx⟩, Pv (i + 1), fun σ2 H2 p2 => ⟨xs.length - (i + 1), by omega, rfl, hlt, p2⟩, fun v H2 y => ?_⟩
      obtain ⟨T, x, rfl, hT, rfl, f1⟩ := y
      exact ⟨T, _, rfl, sqt upd_same, rfl, _, _, rfl, _, _, rfl, rfl, hs i x T σ' H' (f1 xs q) p hT⟩
    · have e : i = xs.length := by omega
      subst e
      exact .inl ⟨⟨xs, q, Nat.le_refl _⟩, hd σ' H' p⟩
  · refine .inr ⟨same_t s0 h, fun i m σ' H' => m = xs.length - i ∧ i ≤ xs.length ∧ Pv i σ' H', ⟨xs.length, rfl, Nat.zero_le _, h0⟩, ?_⟩
    rintro i m σ' H' ⟨rfl, hi, p⟩
    have q := same_t (hk i σ' H' p) h
    by_cases hlt : i < xs.length
    · have hx : xs[i]? = some xs[i] := List.getElem?_eq_getElem hlt
      refine .inr ⟨⟨xs, _, q, hx⟩, Pv (i + 1), fun σ2 H2 p2 => ⟨xs.length - (i + 1), by omega, rfl, hlt, p2⟩, fun v H2 y => ?_⟩
      obtain ⟨T, x, rfl, hT, rfl, f1⟩ := y
      exact ⟨T, _, rfl, sqt upd_same, rfl, _, _, rfl, _, _, rfl, rfl, hs i x T σ' H' (f1 xs q) p hT⟩
    · have e : i = xs.length := by omega
      subst e
      exact .inl ⟨⟨xs, q, rfl⟩, hd σ' H' p⟩
/-- for x, y in zip(two lists, two tuples, or a list and a tuple), of one length -/
theorem for_zip {si sj : Nat} (hl : xs.length = ys.length) (h : (SqL K H0 a xs ∧ SqL K H0 b ys) ∨ (SqT K H0 a xs ∧ SqT K H0 b ys) ∨ (SqL K H0 a xs ∧ SqT K H0 b ys)) (Pv : Nat → L2.St → Hp → Prop) (hk : ∀ i σ' H', Pv i σ' H' → Same H0 H') (h0 : Pv 0 σ H)
    (hs : ∀ (i : Nat) (x y : V) (T : Addr) σ' H', xs[i]? = some x → ys[i]? = some y → Pv i σ' H' → H' T = none → tb (turnEnds D (Pv (i + 1))) ((σ'.set si (some x)).set sj (some y)) (upd H' T (.tup [x, y])))
    (hd : ∀ σ' H', Pv xs.length σ' H' → D.nx σ' H') :
    ∃ (a' b' : Addr) (xs' ys' : List V), [V.ref a, V.ref b] = [.ref a', .ref b'] ∧ ((SqL K H a' xs' ∧ SqL K H b' ys' ∧ Loop (Itz K a' b') (gTup K 2 (gCons (gName si) (gCons (gName sj) gNil))) tb D σ H) ∨
      (SqT K H a' xs' ∧ SqT K H b' ys' ∧ Loop (RZ.ItzT K a' b') (gTup K 2 (gCons (gName si) (gCons (gName sj) gNil))) tb D σ H) ∨ (SqL K H a' xs' ∧ SqT K H b' ys' ∧ Loop (ItzM K a' b') (gTup K 2 (gCons (gName si) (gCons (gName sj) gNil))) tb D σ H)) := by
  have s0 := hk 0 σ H h0
  refine ⟨a, b, xs, ys, rfl, ?_⟩
  rcases h with ⟨h, h'⟩ | ⟨h, h'⟩ | ⟨h, h'⟩
  · refine .inl ⟨same_l s0 h, same_l s0 h', RZ.for_zipL hl Pv h0 (fun i σ' H' p => ⟨same_l (hk _ _ _ p) h, same_l (hk _ _ _ p) h'⟩) (fun i x y T σ' H' hx hy p hT => ?_) hd⟩
    exact ⟨T, _, rfl, sqt upd_same, rfl, _, _, rfl, _, _, rfl, rfl, hs i x y T σ' H' hx hy p hT⟩
  · refine .inr (.inl ⟨same_t s0 h, same_t s0 h', RZ.for_zipT hl Pv h0 (fun i σ' H' p => ⟨same_t (hk _ _ _ p) h, same_t (hk _ _ _ p) h'⟩) (fun i x y T σ' H' hx hy p hT => ?_) hd⟩)
    exact ⟨T, _, rfl, sqt upd_same, rfl, _, _, rfl, _, _, rfl, rfl, hs i x y T σ' H' hx hy p hT⟩
  · refine .inr (.inr ⟨same_l s0 h, same_t s0 h', fun i m σ' H' => m = xs.length - i ∧ i ≤ xs.length ∧ Pv i σ' H', ⟨xs.length, rfl, Nat.zero_le _, h0⟩, ?_⟩)
    rintro i m σ' H' ⟨rfl, hi, p⟩
    have q := same_l (hk i σ' H' p) h
    have q' := same_t (hk i σ' H' p) h'
    by_cases hlt : i < xs.length
    · have hx : xs[i]? = some xs[i] := List.getElem?_eq_getElem hlt
      have hlt2 : i < ys.length := by omega
      have hy : ys[i]? = some ys[i] := List.getElem?_eq_getElem hlt2
      refine .inr ⟨⟨xs, ys, _, _, q, q', hx, hy⟩, Pv (i + 1), fun σ2 H2 p2 => ⟨xs.length - (i + 1), by omega, rfl, hlt, p2⟩, fun v H2 y => ?_⟩
      obtain ⟨T, x', y', rfl, hT, rfl, f1, f2⟩ := y
      exact ⟨T, _, rfl, sqt upd_same, rfl, _, _, rfl, _, _, rfl, rfl, hs i x' y' T σ' H' (f1 xs q) (f2 ys q') p hT⟩
    · have e : i = xs.length := by omega
      subst e
      exact .inl ⟨⟨xs, ys, q, q', rfl, hl.symm⟩, hd σ' H' p⟩
end

/-! ### comprehensions -/
abbrev LcLoop (J : It) (g : TG) (tt : TT) (te : TE) (vs : List Nat) (σ : L2.St) (H1 : Hp) (Q : Addr → Hp → Prop) : Prop := ∀ Dn, H1 Dn = none → ∃ W : Nat → Nat → Hp → Prop, (∃ m, W 0 m (upd H1 Dn (.lst []))) ∧ ∀ i m H, W i m H →
  (J.stop i H ∧ Q Dn H) ∨ (J.go i H ∧ ∃ Nx : Hp → Prop, (∀ H', Nx H' → ∃ m', m' < m ∧ W (i + 1) m' H') ∧ ∀ x H', J.yld i H x H' → g x (wipe σ vs) H' fun σ2 H2 => wipe σ2 vs = wipe σ vs ∧ tt σ2 H2 fun b H3 =>
  if b = true then te σ2 H3 fun y H4 => ∃ acc, H4 Dn = some (.lst acc) ∧ acc.length < sizeLine ∧ Nx (upd H4 Dn (.lst (acc ++ [y]))) else Nx H3)
theorem walk_enumT {K : PySem.W.Frag} {a : Addr} {xs : List V} : Walk (IteT K a) xs.length (fun H => SqT K H a xs) (YPair (fun i => some (.int (i : Nat))) (fun i => xs[i]?)) := by
  refine ⟨fun i _ hi q => ⟨xs, xs[i], q, by simp [hi]⟩, fun _ q => ⟨xs, q, rfl⟩, fun i H v H' _ q y => ?_⟩
  obtain ⟨T, x, h1, h2, h3, h4⟩ := y
  exact ⟨T, .int (i : Nat), x, h1, h2, h3, rfl, h4 xs q⟩
section
variable {J : It} {n : Nat} {G : Hp → Prop} {Y : Nat → Hp → V → Hp → Prop} {g : TG} {tt : TT} {te : TE} {vs : List Nat} {σ : L2.St} {H1 : Hp} {Q : Addr → Hp → Prop} {β : Type} {r : Rp β}
/-- a comprehension: turn i puts val i, if sel i -/
theorem lc_filtN [Kp r] [Im r] (w : Walk J n G Y) (hG : ∀ H', Same H1 H' → G H') (hn : n ≤ 1000000) (sel : Nat → Bool) (val : Nat → β)
    (hs : ∀ (i : Nat) x H' H'', i < n → Same H1 H' → Y i H' x H'' → ∀ (C : V → Hp → Prop) (B : Hp → Prop), (sel i = true → ∀ v H4, Same H' H4 → r H4 v (val i) → C v H4) → (sel i = false → ∀ H4, Same H' H4 → B H4) →
      g x (wipe σ vs) H'' fun σ2 H2 => wipe σ2 vs = wipe σ vs ∧ tt σ2 H2 fun b H3 => if b = true then te σ2 H3 C else B H3)
    (hd : ∀ v H', H1 v = none → Same H1 H' → Lst r H' (.ref v) (((List.range n).filter sel).map val) → Q v H') : LcLoop J g tt te vs σ H1 Q := by
  intro Dn nD
  have lenf : ∀ i, ((List.range i).filter sel).length ≤ i := fun i => Nat.le_trans (List.length_filter_le ..) (by rw [List.length_range]; exact Nat.le_refl _)
  refine lc_it w (fun i H' => Same H1 H' ∧ ∃ acc, H' Dn = some (.lst acc) ∧ Paired (r H') acc (((List.range i).filter sel).map val)) ⟨same_new nD, [], upd_same, .nil⟩ (fun i H' _ p => hG H' p.1) (fun i x H' H'' hi p y => ?_) (fun H' p => ?_)
  · obtain ⟨sm, acc, hD, hp⟩ := p
    have nx : (List.range (i + 1)).filter sel = (List.range i).filter sel ++ (if sel i = true then [i] else []) := by
      rw [List.range_succ, List.filter_append]
      congr 1
      by_cases hsel : sel i = true
      · simp [hsel]
      · simp [hsel]
    refine hs i x H' H'' hi sm y _ _ (fun hsel v H4 s4 h4 => ⟨acc, s4 _ _ hD, ?_, same_mut (sm.trans s4) nD, acc ++ [v], upd_same, ?_⟩) (fun hsel H4 s4 => ⟨sm.trans s4, acc, s4 _ _ hD, ?_⟩)
    · rw [paired_len hp, List.length_map]
      exact line_lt (Nat.le_trans (lenf i) (by omega))
    · rw [nx, if_pos hsel, List.map_append]
      refine paired_app (paired_map hp fun u z q => ?_) (.cons ?_ .nil)
      · exact keepM (s4 _ _ hD) (fun b o hb e => by rw [upd_ne hb]; exact e) (keep s4 q)
      · exact keepM (s4 _ _ hD) (fun b o hb e => by rw [upd_ne hb]; exact e) h4
    · rw [nx, if_neg (by rw [hsel]; exact Bool.false_ne_true), List.append_nil]
      exact paired_map hp fun u z q => keep s4 q
  · obtain ⟨sm, acc, hD, hp⟩ := p
    exact hd _ _ nD sm ⟨Dn, acc, rfl, hD, hp⟩
/-- .. the new list's freshness dropped -/
theorem lc_filt [Kp r] [Im r] (w : Walk J n G Y) (hG : ∀ H', Same H1 H' → G H') (hn : n ≤ 1000000) (sel : Nat → Bool) (val : Nat → β)
    (hs : ∀ (i : Nat) x H' H'', i < n → Same H1 H' → Y i H' x H'' → ∀ (C : V → Hp → Prop) (B : Hp → Prop), (sel i = true → ∀ v H4, Same H' H4 → r H4 v (val i) → C v H4) → (sel i = false → ∀ H4, Same H' H4 → B H4) →
      g x (wipe σ vs) H'' fun σ2 H2 => wipe σ2 vs = wipe σ vs ∧ tt σ2 H2 fun b H3 => if b = true then te σ2 H3 C else B H3)
    (hd : ∀ v H', Same H1 H' → Lst r H' (.ref v) (((List.range n).filter sel).map val) → Q v H') : LcLoop J g tt te vs σ H1 Q := lc_filtN w hG hn sel val hs fun v H' _ => hd v H'
/-- .. without a test -/
theorem lc_map [Kp r] [Im r] (w : Walk J n G Y) (hG : ∀ H', Same H1 H' → G H') (hn : n ≤ 1000000) (val : Nat → β)
    (hs : ∀ (i : Nat) x H' H'', i < n → Same H1 H' → Y i H' x H'' → ∀ (C : V → Hp → Prop), (∀ v H4, Same H' H4 → r H4 v (val i) → C v H4) →
      g x (wipe σ vs) H'' fun σ2 H2 => wipe σ2 vs = wipe σ vs ∧ te σ2 H2 C)
    (hd : ∀ v H', Same H1 H' → Lst r H' (.ref v) ((List.range n).map val) → Q v H') : LcLoop J g tYes te vs σ H1 Q :=
  lc_filt w hG hn (fun _ => true) val (fun i x H' H'' hi sm y C B hC _ => hs i x H' H'' hi sm y C (hC rfl)) (fun v H' sm h => hd v H' sm (by
    have e : (List.range n).filter (fun _ => true) = List.range n := List.filter_eq_self.mpr fun _ _ => rfl
    rw [e] at h
    exact h))
/-- .. without a test, the new list fresh -/
theorem lc_mapN [Kp r] [Im r] (w : Walk J n G Y) (hG : ∀ H', Same H1 H' → G H') (hn : n ≤ 1000000) (val : Nat → β)
    (hs : ∀ (i : Nat) x H' H'', i < n → Same H1 H' → Y i H' x H'' → ∀ (C : V → Hp → Prop), (∀ v H4, Same H' H4 → r H4 v (val i) → C v H4) →
      g x (wipe σ vs) H'' fun σ2 H2 => wipe σ2 vs = wipe σ vs ∧ te σ2 H2 C)
    (hd : ∀ v H', H1 v = none → Same H1 H' → Lst r H' (.ref v) ((List.range n).map val) → Q v H') : LcLoop J g tYes te vs σ H1 Q :=
  lc_filtN w hG hn (fun _ => true) val (fun i x H' H'' hi sm y C B hC _ => hs i x H' H'' hi sm y C (hC rfl)) (fun v H' nv sm h => hd v H' nv sm (by
    have e : (List.range n).filter (fun _ => true) = List.range n := List.filter_eq_self.mpr fun _ _ => rfl
    rw [e] at h
    exact h))
end
/-- over a list or a tuple -/
theorem lc_mapS {K : PySem.W.Frag} {a : Addr} {xs : List V} {g : TG} {te : TE} {vs : List Nat} {σ : L2.St} {H1 : Hp} {Q : Addr → Hp → Prop} {β : Type} {r : Rp β} [Kp r] [Im r] (h : SqL K H1 a xs ∨ SqT K H1 a xs) (hn : xs.length ≤ 1000000) (val : Nat → β)
    (hs : ∀ (i : Nat) x H', xs[i]? = some x → Same H1 H' → ∀ (C : V → Hp → Prop), (∀ v H4, Same H' H4 → r H4 v (val i) → C v H4) → g x (wipe σ vs) H' fun σ2 H2 => wipe σ2 vs = wipe σ vs ∧ te σ2 H2 C)
    (hd : ∀ v H', Same H1 H' → Lst r H' (.ref v) ((List.range xs.length).map val) → Q v H') :
    ∃ (a' : Addr) (xs' : List V), V.ref a = .ref a' ∧ ((SqL K H1 a' xs' ∧ LcLoop (Itl K a') g tYes te vs σ H1 Q) ∨ (SqT K H1 a' xs' ∧ LcLoop (Itt K a') g tYes te vs σ H1 Q)) := by
  refine ⟨a, xs, rfl, ?_⟩
  rcases h with h | h
  · exact .inl ⟨h, lc_map walk_list (fun H' s => same_l s h) hn val (fun i x H' H'' _ sm y => by obtain ⟨rfl, hx⟩ := y; exact hs i x H'' hx sm) hd⟩
  · exact .inr ⟨h, lc_map walk_tup (fun H' s => same_t s h) hn val (fun i x H' H'' _ sm y => by obtain ⟨rfl, hx⟩ := y; exact hs i x H'' hx sm) hd⟩
/-- over a list or a tuple, the new list fresh -/
theorem lc_mapSN {K : PySem.W.Frag} {a : Addr} {xs : List V} {g : TG} {te : TE} {vs : List Nat} {σ : L2.St} {H1 : Hp} {Q : Addr → Hp → Prop} {β : Type} {r : Rp β} [Kp r] [Im r] (h : SqL K H1 a xs ∨ SqT K H1 a xs) (hn : xs.length ≤ 1000000) (val : Nat → β)
    (hs : ∀ (i : Nat) x H', xs[i]? = some x → Same H1 H' → ∀ (C : V → Hp → Prop), (∀ v H4, Same H' H4 → r H4 v (val i) → C v H4) → g x (wipe σ vs) H' fun σ2 H2 => wipe σ2 vs = wipe σ vs ∧ te σ2 H2 C)
    (hd : ∀ v H', H1 v = none → Same H1 H' → Lst r H' (.ref v) ((List.range xs.length).map val) → Q v H') :
    ∃ (a' : Addr) (xs' : List V), V.ref a = .ref a' ∧ ((SqL K H1 a' xs' ∧ LcLoop (Itl K a') g tYes te vs σ H1 Q) ∨ (SqT K H1 a' xs' ∧ LcLoop (Itt K a') g tYes te vs σ H1 Q)) := by
  refine ⟨a, xs, rfl, ?_⟩
  rcases h with h | h
  · exact .inl ⟨h, lc_mapN walk_list (fun H' s => same_l s h) hn val (fun i x H' H'' _ sm y => by obtain ⟨rfl, hx⟩ := y; exact hs i x H'' hx sm) hd⟩
  · exact .inr ⟨h, lc_mapN walk_tup (fun H' s => same_t s h) hn val (fun i x H' H'' _ sm y => by obtain ⟨rfl, hx⟩ := y; exact hs i x H'' hx sm) hd⟩
theorem range_map_get {α β : Type} (l : List α) (d : α) (f : α → β) : (List.range l.length).map (fun i => f (l.getD i d)) = l.map f := by
  apply List.ext_getElem
  · simp
  · intro i h1 h2
    simp at h1 h2
    simp [List.getD_eq_getElem?_getD, List.getElem?_eq_getElem h1]
end EN
/-! The mathematics: rows of ints as polynomials, greatest common divisors. No program here. -/
namespace EN
/-- the greatest common divisor of some ints -/
def gcdL (l : List Int) : Nat := l.foldl (fun g x => Nat.gcd x.natAbs g) 0
theorem gcdL_take {l : List Int} {i : Nat} {x : Int} (h : l[i]? = some x) : gcdL (l.take (i + 1)) = Nat.gcd x.natAbs (gcdL (l.take i)) := by
  unfold gcdL
  rw [List.take_add_one, h, List.foldl_append]
  rfl
theorem gcdL_snoc (l : List Int) (x : Int) : gcdL (l ++ [x]) = Nat.gcd x.natAbs (gcdL l) := by
  unfold gcdL
  rw [List.foldl_append]
  rfl
/-- without the noughts at the end -/
def cutL (l : List Int) : List Int := (l.reverse.dropWhile (· == 0)).reverse
theorem cutL_nil : cutL [] = [] := rfl
theorem cutL_snoc (l : List Int) (x : Int) : cutL (l ++ [x]) = if x = 0 then cutL l else l ++ [x] := by
  unfold cutL
  rw [List.reverse_append]
  by_cases h : x = 0
  · subst h
    simp
  · simp [h]
theorem cutL_len (l : List Int) : (cutL l).length ≤ l.length := by
  unfold cutL
  rw [List.length_reverse]
  refine Nat.le_trans (List.Sublist.length_le (List.dropWhile_sublist _)) ?_
  rw [List.length_reverse]
  exact Nat.le_refl _
theorem cutL_drop {l : List Int} (h : l ≠ []) (h0 : l.getLast h = 0) : cutL l.dropLast = cutL l := by
  have e := List.dropLast_concat_getLast h
  conv => rhs; rw [← e, cutL_snoc, h0, if_pos rfl]
theorem cutL_done {l : List Int} (h : l ≠ []) (h0 : l.getLast h ≠ 0) : cutL l = l := by
  have e := List.dropLast_concat_getLast h
  rw [← e, cutL_snoc, if_neg h0]
/-- induction from the end -/
theorem snoc_ind {α : Type} {P : List α → Prop} (h0 : P []) (hs : ∀ l x, P l → P (l ++ [x])) (l : List α) : P l := by
  have key : ∀ (n : Nat) (l : List α), l.length = n → P l := by
    intro n
    induction n with
    | zero => intro l e; rw [List.eq_nil_of_length_eq_zero e]; exact h0
    | succ n ih =>
      intro l e
      have hne : l ≠ [] := by intro z; subst z; simp at e
      rw [← List.dropLast_concat_getLast hne]
      refine hs _ _ (ih _ ?_)
      rw [List.length_dropLast]
      omega
  exact key _ l rfl

/-! ### numbers by place -/
def coef (l : List Int) (k : Nat) : Int := l.getD k 0
theorem coef_nil (k : Nat) : coef [] k = 0 := rfl
theorem coef_zero (a : Int) (l : List Int) : coef (a :: l) 0 = a := rfl
theorem coef_succ (a : Int) (l : List Int) (k : Nat) : coef (a :: l) (k + 1) = coef l k := by simp [coef]
theorem coef_cons (a : Int) (l : List Int) (k : Nat) : coef (a :: l) k = if k = 0 then a else coef l (k - 1) := by
  cases k with
  | zero => rfl
  | succ k => rw [coef_succ]; simp
theorem coef_ge {l : List Int} {k : Nat} (h : l.length ≤ k) : coef l k = 0 := by simp [coef, List.getD_eq_getElem?_getD, List.getElem?_eq_none h]
theorem coef_get {l : List Int} {k : Nat} {x : Int} (h : l[k]? = some x) : coef l k = x := by simp [coef, List.getD_eq_getElem?_getD, h]
theorem get_coef {l : List Int} {k : Nat} (h : k < l.length) : l[k]? = some (coef l k) := by simp [coef, List.getD_eq_getElem?_getD, List.getElem?_eq_getElem h]
theorem coef_append (l m : List Int) (k : Nat) : coef (l ++ m) k = if k < l.length then coef l k else coef m (k - l.length) := by
  by_cases h : k < l.length
  · simp [coef, List.getD_eq_getElem?_getD, List.getElem?_append_left h, h]
  · simp [coef, List.getD_eq_getElem?_getD, List.getElem?_append_right (Nat.le_of_not_lt h), h]
theorem coef_replicate (n k : Nat) : coef (List.replicate n 0) k = 0 := by
  by_cases h : k < n
  · simp [coef, List.getD_eq_getElem?_getD, List.getElem?_replicate, h]
  · exact coef_ge (by rw [List.length_replicate]; omega)
theorem coef_set (l : List Int) (i : Nat) (v : Int) (k : Nat) (h : i < l.length) : coef (l.set i v) k = if k = i then v else coef l k := by
  by_cases e : k = i
  · subst e
    simp [coef, List.getD_eq_getElem?_getD, h]
  · simp [coef, List.getD_eq_getElem?_getD, List.getElem?_set_ne (Ne.symm e), e]
theorem coef_map (f : Int → Int) (h0 : f 0 = 0) (l : List Int) (k : Nat) : coef (l.map f) k = f (coef l k) := by
  by_cases h : k < l.length
  · simp [coef, List.getD_eq_getElem?_getD, List.getElem?_map, List.getElem?_eq_getElem h]
  · rw [coef_ge (by rw [List.length_map]; omega), coef_ge (by omega), h0]
theorem coef_cut : ∀ (l : List Int) (k : Nat), coef (cutL l) k = coef l k := fun l => by
  refine snoc_ind (P := fun l => ∀ k, coef (cutL l) k = coef l k) (fun k => rfl) (fun l x ih k => ?_) l
  rw [cutL_snoc]
  by_cases h : x = 0
  · rw [if_pos h, ih, coef_append]
    by_cases hk : k < l.length
    · rw [if_pos hk]
    · rw [if_neg hk, coef_ge (by omega), h, coef_cons]
      split
      · rfl
      · rw [coef_nil]
  · rw [if_neg h]
/-- the last one is not nought -/
def Cut (l : List Int) : Prop := l.getLast? ≠ some 0
theorem cut_cut (l : List Int) : Cut (cutL l) := by
  refine snoc_ind (P := fun l => Cut (cutL l)) (by intro h; cases h) (fun l x ih => ?_) l
  rw [cutL_snoc]
  by_cases h : x = 0
  · rw [if_pos h]; exact ih
  · rw [if_neg h]
    intro e
    rw [List.getLast?_concat] at e
    exact h (Option.some.inj e)
theorem cut_last {l : List Int} (h : Cut l) (hn : 0 < l.length) : coef l (l.length - 1) ≠ 0 := by
  intro e
  refine h ?_
  rw [List.getLast?_eq_getElem?, get_coef (by omega), e]
theorem cut_ext {a b : List Int} (ha : Cut a) (hb : Cut b) (h : ∀ k, coef a k = coef b k) : a = b := by
  have hl : a.length = b.length := by
    by_cases h1 : a.length < b.length
    · exact absurd ((h (b.length - 1)).symm.trans (coef_ge (by omega))) (cut_last hb (by omega))
    · by_cases h2 : b.length < a.length
      · exact absurd ((h (a.length - 1)).trans (coef_ge (by omega))) (cut_last ha (by omega))
      · omega
  apply List.ext_getElem?
  intro i
  by_cases hi : i < a.length
  · rw [get_coef hi, get_coef (by omega), h i]
  · rw [List.getElem?_eq_none (by omega), List.getElem?_eq_none (by omega)]
theorem cutL_ext {a b : List Int} (h : ∀ k, coef a k = coef b k) : cutL a = cutL b := cut_ext (cut_cut a) (cut_cut b) fun k => by rw [coef_cut, coef_cut, h]
theorem cutL_of {l : List Int} (h : Cut l) : cutL l = l := cut_ext (cut_cut l) h fun k => coef_cut l k

/-! ### sums and products -/
def addL : List Int → List Int → Int → List Int
  | [], q, m => q.map (m * ·)
  | p, [], _ => p
  | a :: p, b :: q, m => (a + m * b) :: addL p q m
theorem coef_addL (p q : List Int) (m : Int) (k : Nat) : coef (addL p q m) k = coef p k + m * coef q k := by
  induction p generalizing q k with
  | nil =>
    show coef (q.map (m * ·)) k = _
    rw [coef_map (m * ·) (by simp), coef_nil, Int.zero_add]
  | cons a p ih =>
    cases q with
    | nil =>
      show coef (a :: p) k = _
      rw [coef_nil, Int.mul_zero, Int.add_zero]
    | cons b q =>
      show coef ((a + m * b) :: addL p q m) k = _
      rw [coef_cons, coef_cons, coef_cons]
      split
      · rfl
      · exact ih q (k - 1)
def mulL : List Int → List Int → List Int
  | [], _ => []
  | a :: p, q => addL (q.map (a * ·)) (0 :: mulL p q) 1
theorem coef_mulL_cons (a : Int) (p q : List Int) (k : Nat) : coef (mulL (a :: p) q) k = a * coef q k + (if k = 0 then 0 else coef (mulL p q) (k - 1)) := by
  show coef (addL (q.map (a * ·)) (0 :: mulL p q) 1) k = _
  rw [coef_addL, coef_map (a * ·) (by simp), coef_cons, Int.one_mul]
theorem coef_mulL_snoc (p : List Int) (c : Int) (q : List Int) : ∀ k, coef (mulL (p ++ [c]) q) k = coef (mulL p q) k + (if p.length ≤ k then c * coef q (k - p.length) else 0) := by
  induction p with
  | nil =>
    intro k
    rw [List.nil_append, coef_mulL_cons]
    show _ + (if k = 0 then 0 else coef [] (k - 1)) = coef [] k + _
    rw [coef_nil, coef_nil]
    simp
  | cons a p ih =>
    intro k
    rw [List.cons_append, coef_mulL_cons, coef_mulL_cons]
    by_cases hk : k = 0
    · subst hk
      simp
    · rw [if_neg hk, if_neg hk, ih (k - 1), List.length_cons]
      by_cases h : p.length ≤ k - 1
      · rw [if_pos h, if_pos (by omega), Int.add_assoc, show k - 1 - p.length = k - (p.length + 1) by omega]
      · rw [if_neg h, if_neg (by omega), Int.add_zero, Int.add_zero]
theorem take_snoc {l : List Int} {i : Nat} (h : i < l.length) : l.take (i + 1) = l.take i ++ [coef l i] := by
  rw [List.take_add_one, get_coef h]
  rfl
def plusL (p q : List Int) (m : Int) : List Int := cutL (addL p q m)
def timesL (p q : List Int) : List Int := cutL (mulL p q)
theorem coef_plusL (p q : List Int) (m : Int) (k : Nat) : coef (plusL p q m) k = coef p k + m * coef q k := by rw [plusL, coef_cut, coef_addL]
theorem addL_len (p q : List Int) (m : Int) : (addL p q m).length = max p.length q.length := by
  induction p generalizing q with
  | nil => simp [addL]
  | cons a p ih =>
    cases q with
    | nil => simp [addL]
    | cons b q =>
      show (addL p q m).length + 1 = _
      rw [ih]
      simp only [List.length_cons]
      omega
theorem plusL_len (p q : List Int) (m : Int) : (plusL p q m).length ≤ max p.length q.length := by
  rw [← addL_len p q m]
  exact cutL_len _
theorem mulL_len (p q : List Int) : (mulL p q).length ≤ p.length + q.length := by
  induction p with
  | nil => simp [mulL]
  | cons a p ih =>
    show (addL (q.map (a * ·)) (0 :: mulL p q) 1).length ≤ _
    rw [addL_len]
    simp only [List.length_map, List.length_cons]
    omega
theorem timesL_len (p q : List Int) : (timesL p q).length ≤ p.length + q.length := Nat.le_trans (cutL_len _) (mulL_len p q)

/-! ### fractions, values -/
/-- top by low without a common divisor (low above 0) -/
def redF (t l : Int) : Int × Int := (t / (Int.gcd t l : Int), l / (Int.gcd t l : Int))
theorem gcdL_two (t l : Int) : gcdL [t, l] = Int.gcd t l := by
  show Nat.gcd l.natAbs (Nat.gcd t.natAbs 0) = Nat.gcd t.natAbs l.natAbs
  rw [Nat.gcd_zero_right, Nat.gcd_comm]
def hStep (t l : Int) (s : Int × Int) (c : Int) : Int × Int := (s.1 * t + c * s.2, s.2 * l)
def hNum (p : List Int) (t l : Int) : Int := (p.reverse.foldl (hStep t l) (0, 1)).1
theorem foldl_take {α β : Type} {f : β → α → β} {z : β} {l : List α} {i : Nat} {x : α} (h : l[i]? = some x) : (l.take (i + 1)).foldl f z = f ((l.take i).foldl f z) x := by
  rw [List.take_add_one, h, List.foldl_append]
  rfl
/-- less than n binary places -/
def Bt (n : Nat) (x : Int) : Prop := x.natAbs < 2 ^ n
theorem Bt.mono {n m : Nat} {x : Int} (h : Bt n x) (hm : n ≤ m) : Bt m x := Nat.lt_of_lt_of_le h (Nat.pow_le_pow_right (by decide) hm)
theorem Bt.mul {n m : Nat} {x y : Int} (h : Bt n x) (h' : Bt m y) : Bt (n + m) (x * y) := by
  unfold Bt at *
  rw [Int.natAbs_mul, Nat.pow_add]
  exact Nat.mul_lt_mul'' h h'
theorem Bt.add {n : Nat} {x y : Int} (h : Bt n x) (h' : Bt n y) : Bt (n + 1) (x + y) := by
  unfold Bt at *
  rw [Nat.pow_succ]
  have := Int.natAbs_add_le x y
  omega
theorem Bt.pow {n : Nat} {x : Int} (h : Bt n x) (k : Nat) : Bt (n * k + 1) (x ^ k) := by
  have key : (x ^ k).natAbs ≤ 2 ^ (n * k) := by
    induction k with
    | zero => simp
    | succ k ih =>
      rw [Int.pow_succ, Int.natAbs_mul, Nat.mul_succ, Nat.pow_add]
      exact Nat.mul_le_mul ih (Nat.le_of_lt h)
  unfold Bt
  rw [Nat.pow_succ]
  have : 0 < 2 ^ (n * k) := Nat.pos_of_ne_zero (by simp)
  omega
theorem Bt.small {x : Int} {m : Nat} (n : Nat) (h : x.natAbs ≤ m) (hm : m < 2 ^ n) : Bt n x := Nat.lt_of_le_of_lt h hm
theorem gcd_bt {n : Nat} {t l : Int} (hl : 0 < l) (h : Bt n l) : 0 < (Int.gcd t l : Int) ∧ Bt n (Int.gcd t l : Int) := by
  have h1 : 0 < Int.gcd t l := Nat.gcd_pos_of_pos_right _ (by omega)
  have h2 : Int.gcd t l ≤ l.natAbs := Nat.gcd_le_right _ (by omega)
  unfold Bt at *
  constructor
  · omega
  · rw [Int.natAbs_natCast]
    omega
end EN
namespace EN
open PySem PySem.Spec PyProof.Rows L2
section
variable {P : Program} {w : World} {K : PySem.W.Frag} {mg : Str → Option Value} {base : Heap} {f : Addr} {fd : FuncData}

/-! ### divisor_of -/
-- slots: 0 numbers, 1 found, 2 one, 3 a, 4 b
abbrev s_divisor_of : Stmt := topS 9
theorem sc_divisor_of : FnScope ["numbers", "found", "one", "a", "b"] ["numbers"] (C8.fnScope s_divisor_of) := C8.fnScope_by (by decide +kernel)
def sp_divisor_of (K : PySem.W.Frag) : Sp := fun vs H Q _ => ∃ v p, vs = [v] ∧ Zs K H v p ∧ Q (.int (gcdL p)) H
theorem cal_divisor_of (D : C8.Def K mg "divisor_of" s_divisor_of f fd) (df : fd.defaults = .none) (T : Tx K mg) : C8.Cal P w K mg base 1 "divisor_of" (sp_divisor_of K) [] := by
  refine C8.cal0 D (D.fn.binds df (ps := ["numbers"]) fun _ _ _ _ _ _ us hl => match us, hl with | [_], _ => rfl) .nil sc_divisor_of (fun vs H Q E h => ?_) (fun cdv A outer s H vs Q E hr h => ?_)
  · obtain ⟨v, p, rfl, _⟩ := h
    rfl
  · obtain ⟨v, p, rfl, ⟨a, rfl, hz⟩, q⟩ := h
    refine ⟨_, (pss_cons (ps_set (i := 1) sc_divisor_of.nd rfl (.inl rfl) pe_int)
      (pss_cons (ps_for PassesOwn.never rfl (pi_seq (pv 0)) (pg_name (i := 2) sc_divisor_of.nd rfl (.inl rfl))
        (pss_cons (ps_par (i := 3) (j := 4) rfl sc_divisor_of.nd rfl rfl (by decide) rfl rfl (pa_cons (pe_callB call_abs (by rfl) T.abs_ (by decide +kernel) (pa_cons (pv 2) pa_nil)) (pa_cons (pv 1) pa_nil)) (by rfl))
        (pss_cons (ps_while PassesOwn.never (pt_cmpR op_ne (pv 4) pe_int (nomark _))
          (pss_one (ps_par (i := 3) (j := 4) rfl sc_divisor_of.nd rfl rfl (by decide) rfl rfl (pa_cons (pv 4) (pa_cons (pe_op op_mod (pv 3) (pv 4)) pa_nil)) (by rfl))))
        (pss_one (ps_set (i := 1) sc_divisor_of.nd rfl (.inl rfl) (pv 3))))))
      (pss_one (ps_ret (pv 1))))), ?_⟩
    refine ⟨_, rfl, for_seq (H0 := H) hz (fun i σ' H' => H' = H ∧ ∃ x3 x4 x5, σ' = [some (.ref a), some (.int (gcdL (p.take i))), x3, x4, x5]) (fun i σ' H' h => by rw [h.1]; exact Same.refl H) ⟨rfl, none, none, none, rfl⟩ ?_ ?_⟩
    · rintro i x σ' H' hx ⟨rfl, x3, x4, x5, rfl⟩
      rw [List.getElem?_map] at hx
      obtain ⟨c, hc, rfl⟩ : ∃ c, p[i]? = some c ∧ x = .int c := by
        cases e : p[i]? with
        | none => rw [e] at hx; cases hx
        | some c => rw [e] at hx; exact ⟨c, rfl, (Option.some.inj hx).symm⟩
      refine ⟨_, rfl, c, rfl, _, rfl, _, _, rfl, ?_⟩
      refine ⟨fun m σ' H'' => H'' = H' ∧ ∃ a1 b1 : Nat, b1 = m ∧ σ' = [some (.ref a), some (.int (gcdL (p.take i))), some (.int c), some (.int a1), some (.int b1)] ∧ Nat.gcd a1 b1 = gcdL (p.take (i + 1)), ⟨_, rfl, c.natAbs, gcdL (p.take i), rfl, ?_, (gcdL_take hc).symm⟩, ?_⟩
      · show [_, _, _, some (V.int (if c < 0 then -c else c)), _] = _
        rw [show (if c < 0 then -c else c) = ((c.natAbs : Nat) : Int) by split <;> omega]
      · rintro m σ' H'' ⟨rfl, a1, b1, rfl, rfl, hg⟩
        refine ⟨_, rfl, rfl, _, rfl, ite2 (fun hb => ?_) (fun hb => ?_)⟩
        · have hb0 : b1 ≠ 0 := by
            intro e
            subst e
            simp at hb
          refine ⟨fun σ' H2 => ∃ m', m' < b1 ∧ (H2 = H'' ∧ ∃ a1 b1 : Nat, b1 = m' ∧ σ' = [some (.ref a), some (.int (gcdL (p.take i))), some (.int c), some (.int a1), some (.int b1)] ∧ Nat.gcd a1 b1 = gcdL (p.take (i + 1))), fun σ' H' h => h, ?_⟩
          refine ⟨_, rfl, _, rfl, _, rfl, _, _, rfl, rfl, (by show (0 : Int) < (b1 : Int); omega), _, _, rfl, ?_⟩
          refine ⟨a1 % b1, Nat.mod_lt _ (by omega), rfl, b1, a1 % b1, rfl, rfl, ?_⟩
          rw [← hg, Nat.gcd_comm a1 b1, Nat.gcd_rec b1 a1, Nat.gcd_comm]
        · have hb0 : b1 = 0 := by
            by_cases e : b1 = 0
            · exact e
            · exact absurd (by simp [e]) hb
          subst hb0
          rw [Nat.gcd_zero_right] at hg
          subst hg
          exact ⟨_, rfl, rfl, _, _, _, rfl⟩
    · rintro σ' H' ⟨rfl, x3, x4, x5, rfl⟩
      rw [List.length_map, List.take_length]
      exact ⟨_, rfl, q⟩

/-! ### cut -/
-- slots: 0 numbers, 1 found
abbrev s_cut : Stmt := topS 12
theorem sc_cut : FnScope ["numbers", "found"] ["numbers"] (C8.fnScope s_cut) := C8.fnScope_by (by decide +kernel)
def sp_cut (K : PySem.W.Frag) : Sp := fun vs H Q _ => ∃ v p, vs = [v] ∧ Zs K H v p ∧ ∀ r H', Same H H' → Poly H' r (cutL p) → Q r H'
theorem cal_cut (D : C8.Def K mg "cut" s_cut f fd) (df : fd.defaults = .none) (T : Tx K mg) : C8.Cal P w K mg base 1 "cut" (sp_cut K) [] := by
  refine C8.cal0 D (D.fn.binds df (ps := ["numbers"]) fun _ _ _ _ _ _ us hl => match us, hl with | [_], _ => rfl) .nil sc_cut (fun vs H Q E h => ?_) (fun cdv A outer s H vs Q E hr h => ?_)
  · obtain ⟨v, p, rfl, _⟩ := h
    rfl
  · obtain ⟨v, p, rfl, ⟨a, rfl, hz⟩, q⟩ := h
    refine ⟨_, (pss_cons (ps_set (i := 1) sc_cut.nd rfl (.inl rfl) (pe_callTy call_list_of (by rfl) T.list_ (by decide +kernel) (pa_cons (pv 0) pa_nil)))
      (pss_cons (ps_while PassesOwn.never (pw_and (pt_cmpR (op_neZ hr.units) (pv 1) (pe_lst pa_nil) (nomark _)) (pw_and1 (pt_cmpR op_eq (pe_ix ixA (pv 1) (pe_un un_neg pe_int) (fun _ _ => rfl)) pe_int (nomark _)))).pt
        (pss_one (ps_expr (pe_bm0 PySem.F.plainAttrs_list PySem.F.slot_list_pop PySem.F.type_list_pop mt_pop (pv 1)))))
      (pss_one (ps_ret (pe_callTy call_tuple_of (by rfl) T.tuple_ (by decide +kernel) (pa_cons (pv 1) pa_nil)))))), ?_⟩
    refine ⟨_, rfl, a, _, rfl, hz, fun l nl => ?_⟩
    refine ⟨fun m σ' H' => Same H H' ∧ ∃ ys : List Int, ys.length = m ∧ σ' = [some (.ref a), some (.ref l)] ∧ H' l = some (.lst (ys.map V.int)) ∧ cutL ys = cutL p, ⟨_, same_new nl, p, rfl, rfl, upd_same, rfl⟩, ?_⟩
    rintro m σ' H' ⟨sm, ys, rfl, rfl, hl, hc⟩
    -- found != []
    refine ⟨_, rfl, Nat.zero_le _, fun e0 ne0 => ?_⟩
    have nl0 : l ≠ e0 := ne_of_none hl ne0
    have hl1 : upd H' e0 (.lst []) l = some (.lst (ys.map V.int)) := by rw [upd_ne nl0]; exact hl
    refine ⟨l, e0, ys, [], rfl, rfl, .inl ⟨sql hl1, sql upd_same⟩, _, rfl, ite2 (fun hb => ?_) (fun hb => ?_)⟩
    · have hne : ys ≠ [] := by
        intro e
        subst e
        simp at hb
      refine ⟨_, rfl, _, rfl, .inl ⟨l, _, -1, .int (ys.getLast hne), rfl, rfl, sql hl1, atI_last' (by rw [List.getLast?_map, List.getLast?_eq_some_getLast hne]; rfl), rfl, _, rfl, ?_⟩⟩
      refine ite2 (fun h0 => ?_) (fun h0 => ?_)
      · have hz0 : ys.getLast hne = 0 := V.int.inj (of_decide_eq_true h0)
        refine ⟨fun σ' H2 => ∃ m', m' < ys.length ∧ (Same H H2 ∧ ∃ zs : List Int, zs.length = m' ∧ σ' = [some (.ref a), some (.ref l)] ∧ H2 l = some (.lst (zs.map V.int)) ∧ cutL zs = cutL p), fun σ' H' h => h, ?_⟩
        refine ⟨_, rfl, .inl ⟨rfl, _, sql hl1⟩, l, _, .int (ys.getLast hne), rfl, rfl, hl1, ?_, ?_⟩
        · rw [List.getElem?_map, List.length_map, ← List.getLast?_eq_getElem?, List.getLast?_eq_some_getLast hne]
          rfl
        · refine ⟨ys.dropLast.length, ?_, same_mut (sm.trans (same_new ne0)) nl, ys.dropLast, rfl, rfl, ?_, ?_⟩
          · rw [List.length_dropLast]
            have := List.length_pos_iff.mpr hne
            omega
          · rw [upd_same, List.map_dropLast]
          · rw [cutL_drop hne hz0, hc]
      · have hz0 : ys.getLast hne ≠ 0 := fun e => h0 (by rw [e]; exact decide_eq_true rfl)
        refine ⟨_, rfl, l, _, rfl, .inl ⟨sql hl1, fun t nt => ?_⟩⟩
        refine q _ _ ((sm.trans (same_new ne0)).trans (same_new nt)) ?_
        refine poly_of ?_
        rw [upd_same, ← hc, cutL_done hne hz0]
    · refine iteF ?_
      have hne : ys = [] := by
        by_cases e : ys = []
        · exact e
        · exact absurd (by simp [e]) hb
      subst hne
      refine ⟨_, rfl, l, _, rfl, .inl ⟨sql hl1, fun t nt => ?_⟩⟩
      refine q _ _ ((sm.trans (same_new ne0)).trans (same_new nt)) (poly_of ?_)
      rw [upd_same, ← hc]
      rfl
end
end EN
namespace EN
open PySem PySem.Spec PyProof.Rows L2
/-- below 2 ^ 64 -/
def Sm (x : Int) : Prop := -(2 ^ 64) < x ∧ x < 2 ^ 64
instance (x : Int) : Decidable (Sm x) := by unfold Sm; infer_instance
theorem sm_of {x : Int} {n : Nat} (h : x.natAbs ≤ n) (hn : n ≤ 1000000000000000000 := by decide) : Sm x := by
  unfold Sm
  omega
theorem rep1 (n : Nat) (v : V) : (List.replicate n [v]).flatten = List.replicate n v := by
  induction n with
  | zero => rfl
  | succ n ih => rw [List.replicate_succ, List.flatten_cons, ih]; rfl
theorem ints_get {l : List Int} {i : Nat} {x : V} (h : (l.map V.int)[i]? = some x) : ∃ c, l[i]? = some c ∧ x = .int c := by
  rw [List.getElem?_map] at h
  cases e : l[i]? with
  | none => rw [e] at h; cases h
  | some c => rw [e] at h; exact ⟨c, rfl, (Option.some.inj h).symm⟩
theorem ints_set (l : List Int) (i : Nat) (x : Int) : (l.map V.int).set i (.int x) = (l.set i x).map V.int := List.map_set.symm
theorem ixN_nat {n i : Nat} (h : i < n) : ixN n (i : Int) = some i := by
  unfold ixN
  rw [if_pos (by omega), if_pos (by omega)]
  rfl
theorem atI_n {α : Type} {xs : List α} {i : Nat} {v : α} (h : xs[i]? = some v) : atI xs (i : Int) = some v := atI_nat' (by omega) (by simpa using h)
section
variable {P : Program} {w : World} {K : PySem.W.Frag} {mg : Str → Option Value} {base : Heap} {f : Addr} {fd : FuncData}

/-! ### plus -/
-- slots: 0 one, 1 other, 2 many, 3 found, 4 at, 5 number
abbrev s_plus : Stmt := topS 13
theorem sc_plus : FnScope ["one", "other", "many", "found", "at", "number"] ["one", "other", "many"] (C8.fnScope s_plus) := C8.fnScope_by (by decide +kernel)
def sp_plus (K : PySem.W.Frag) : Sp := fun vs H Q _ => ∃ v u p q m, vs = [v, u, .int m] ∧ Zs K H v p ∧ Zs K H u q ∧ p.length ≤ 100000 ∧ q.length ≤ 100000 ∧ (Sm m ∨ ∀ c ∈ q, Sm c) ∧ ∀ r H', Same H H' → Poly H' r (plusL p q m) → Q r H'
theorem cal_plus {ds : List Value} {dvs : List V} (D : C8.Def K mg "plus" s_plus f fd) (b : Binds K fd ["one", "other", "many"] ds) (d : Vals dvs ds) (T : Tx K mg) (c_cut : C8.Cal P w K mg base 1 "cut" (sp_cut K) []) : C8.Cal P w K mg base 2 "plus" (sp_plus K) dvs := by
  refine C8.cal0 D b d sc_plus (fun vs H Q E h => ?_) (fun cdv A outer s H vs Q E hr h => ?_)
  · obtain ⟨v, u, p, q, m, rfl, _⟩ := h
    rfl
  · obtain ⟨v, u, p, q, m, rfl, ⟨a, rfl, ha⟩, ⟨b, rfl, hb⟩, lp, lq, hm, k⟩ := h
    refine ⟨_, (pss_cons (ps_set (i := 3) sc_plus.nd rfl (.inl rfl) (pe_op op_cat (pe_callTy call_list_of (by rfl) T.list_ (by decide +kernel) (pa_cons (pv 0) pa_nil)) (pe_op op_rep (pe_lst (pa_cons pe_int pa_nil)) (pe_callB (call_max2 rfl) (by rfl) T.max_ (by decide +kernel) (pa_cons pe_int (pa_cons (pe_op op_sub (pe_callB call_len_seq (by rfl) T.len_ (by decide +kernel) (pa_cons (pv 1) pa_nil)) (pe_callB call_len_seq (by rfl) T.len_ (by decide +kernel) (pa_cons (pv 0) pa_nil))) pa_nil))))))
      (pss_cons (ps_for PassesOwn.never rfl (pi_enumA (by rfl) T.enumerate_ (pa_cons (pv 1) pa_nil)) (pg_tup rfl (pgs_cons (pg_name (i := 4) sc_plus.nd rfl (.inl rfl)) (pgs_cons (pg_name (i := 5) sc_plus.nd rfl (.inl rfl)) pgs_nil)))
        (pss_one (ps_augS (pv 3) (pv 4) get_list (pe_op op_mul (pv 2) (pv 5)) ip_add set_list)))
      (pss_one (ps_ret (C8.pe_c c_cut hr (by decide) (by rfl) (pa_cons (pv 3) pa_nil)))))), ?_⟩
    -- found = list(one) + [0] * max(0, len(other) - len(one))
    refine ⟨_, rfl, a, _, rfl, ha, fun l1 n1 => ?_⟩
    have s1 : Same H (upd H l1 (.lst (p.map V.int))) := same_new n1
    refine ⟨by show 1 ≤ sizeLine; decide, fun l2 n2 => ?_⟩
    have s2 := s1.trans (same_new (o := .lst [V.int 0]) n2)
    have n12 : l1 ≠ l2 := ne_of_none (upd_same (H := H)) n2
    have hb2 := hb.elim (fun h => Or.inl (same_l s2 h)) fun h => Or.inr (same_t s2 h)
    have ha2 := ha.elim (fun h => Or.inl (same_l s2 h)) fun h => Or.inr (same_t s2 h)
    refine ⟨_, rfl, b, q.map V.int, rfl, hb2, ⟨_, rfl, a, p.map V.int, rfl, ha2, _, _, rfl, rfl, _, _, rfl, ?_⟩⟩
    rw [List.length_map, List.length_map]
    have ek : (if ((q.length : Int) - (p.length : Int)) > 0 then ((q.length : Int) - (p.length : Int)) else 0) = ((q.length - p.length : Nat) : Int) := by split <;> omega
    rw [ek]
    refine ⟨l2, _, _, rfl, rfl, upd_same, by omega, by omega, ?_, fun l3 n3 => ?_⟩
    · show 1 * _ ≤ _
      exact line_le (by omega)
    have n13 : l1 ≠ l3 := ne_of_none (by rw [upd_ne n12]; exact upd_same) n3
    refine ⟨l1, l3, p.map V.int, _, rfl, rfl, by rw [upd_ne n13, upd_ne n12]; exact upd_same, upd_same, ?_, fun l4 n4 => ?_⟩
    · rw [rep1, List.length_replicate, List.length_map]
      exact line_le (by omega)
    have n4' : H l4 = none := (s2.trans (same_new n3)).free n4
    -- the loop
    refine ⟨_, rfl, for_enum (H0 := H) hb (fun i σ' H' => Same H H' ∧ ∃ (ys : List Int) (x4 x5 : Option V), σ' = [some (.ref a), some (.ref b), some (.int m), some (.ref l4), x4, x5] ∧ H' l4 = some (.lst (ys.map V.int)) ∧ ys.length = max p.length q.length ∧ ∀ k, coef ys k = coef p k + (if k < i then m * coef q k else 0))
      (fun _ _ _ h => h.1) ⟨(s2.trans (same_new n3)).trans (same_new n4), p ++ List.replicate (q.length - p.length) 0, none, none, rfl, ?_, ?_, ?_⟩ ?_ ?_⟩
    · rw [upd_same, rep1, List.map_append, List.map_replicate]
      rfl
    · rw [List.length_append, List.length_replicate]
      omega
    · intro k
      rw [coef_append, coef_replicate]
      by_cases hk : k < p.length
      · rw [if_pos hk]; simp
      · rw [if_neg hk, coef_ge (l := p) (by omega)]; simp
    · rintro i x T' σ' H' hx ⟨sm, ys, x4, x5, rfl, hl, hlen, hc⟩ nT
      obtain ⟨c, hc0, rfl⟩ := ints_get hx
      have hi : i < q.length := (List.getElem?_eq_some_iff.mp hc0).1
      have hiy : i < ys.length := by omega
      have nlT : l4 ≠ T' := ne_of_none hl nT
      refine ⟨_, rfl, _, rfl, l4, ys.map V.int, i, .int (coef ys i), rfl, rfl, sql (by rw [upd_ne nlT]; exact hl), atI_n (by rw [List.getElem?_map, get_coef hiy]; rfl), _, rfl, _, rfl, _, _, rfl, rfl, ?_, _, _, rfl, rfl, ?_⟩
      · rcases hm with hm | hm
        · exact .inl hm
        · exact .inr (hm c (List.mem_of_getElem? hc0))
      · refine ⟨l4, ys.map V.int, i, i, rfl, rfl, by rw [upd_ne nlT]; exact hl, ixN_nat (by rw [List.length_map]; exact hiy), ?_⟩
        refine ⟨same_mut (sm.trans (same_new nT)) n4', ys.set i (coef ys i + m * c), _, _, rfl, ?_, by rw [List.length_set]; exact hlen, fun k => ?_⟩
        · rw [upd_same, ints_set]
        · rw [coef_set _ _ _ _ hiy]
          by_cases hk : k = i
          · subst hk
            rw [if_pos rfl, if_pos (by omega), hc, if_neg (by omega), coef_get hc0]
            simp
          · rw [if_neg hk, hc]
            by_cases h2 : k < i
            · rw [if_pos h2, if_pos (by omega)]
            · rw [if_neg h2, if_neg (by omega)]
    · rintro σ' H' ⟨sm, ys, x4, x5, rfl, hl, hlen, hc⟩
      rw [List.length_map] at hc
      refine ⟨_, rfl, _, ys, rfl, zs_lst hl, fun r H2 sm2 hr2 => k _ _ (sm.trans sm2) ?_⟩
      rw [show plusL p q m = cutL ys from (cutL_ext fun k => by
        rw [hc, coef_addL]
        by_cases hk : k < q.length
        · rw [if_pos hk]
        · rw [if_neg hk, coef_ge (l := q) (by omega), Int.mul_zero]).symm]
      exact hr2

/-! ### times -/
-- slots: 0 one, 1 other, 2 found, 3 at, 4 number, 5 spot, 6 more
abbrev s_times : Stmt := topS 14
theorem sc_times : FnScope ["one", "other", "found", "at", "number", "spot", "more"] ["one", "other"] (C8.fnScope s_times) := C8.fnScope_by (by decide +kernel)
def sp_times (K : PySem.W.Frag) : Sp := fun vs H Q _ => ∃ v u p q, vs = [v, u] ∧ Zs K H v p ∧ Zs K H u q ∧ p.length ≤ 100000 ∧ q.length ≤ 100000 ∧ (∀ c ∈ p, Sm c) ∧ ∀ r H', Same H H' → Poly H' r (timesL p q) → Q r H'
theorem cal_times (D : C8.Def K mg "times" s_times f fd) (df : fd.defaults = .none) (T : Tx K mg) (c_cut : C8.Cal P w K mg base 1 "cut" (sp_cut K) []) : C8.Cal P w K mg base 2 "times" (sp_times K) [] := by
  refine C8.cal0 D (D.fn.binds df (ps := ["one", "other"]) fun _ _ _ _ _ _ us hl => match us, hl with | [_, _], _ => rfl) .nil sc_times (fun vs H Q E h => ?_) (fun cdv A outer s H vs Q E hr h => ?_)
  · obtain ⟨v, u, p, q, rfl, _⟩ := h
    rfl
  · obtain ⟨v, u, p, q, rfl, ⟨a, rfl, ha⟩, ⟨b, rfl, hb⟩, lp, lq, hm, k⟩ := h
    refine ⟨_, (pss_cons (ps_set (i := 2) sc_times.nd rfl (.inl rfl) (pe_op op_rep (pe_lst (pa_cons pe_int pa_nil)) (pe_op op_add (pe_callB call_len_seq (by rfl) T.len_ (by decide +kernel) (pa_cons (pv 0) pa_nil)) (pe_callB call_len_seq (by rfl) T.len_ (by decide +kernel) (pa_cons (pv 1) pa_nil)))))
      (pss_cons (ps_for PassesOwn.never rfl (pi_enumA (by rfl) T.enumerate_ (pa_cons (pv 0) pa_nil)) (pg_tup rfl (pgs_cons (pg_name (i := 3) sc_times.nd rfl (.inl rfl)) (pgs_cons (pg_name (i := 4) sc_times.nd rfl (.inl rfl)) pgs_nil)))
        (pss_one (ps_for PassesOwn.never rfl (pi_enumA (by rfl) T.enumerate_ (pa_cons (pv 1) pa_nil)) (pg_tup rfl (pgs_cons (pg_name (i := 5) sc_times.nd rfl (.inl rfl)) (pgs_cons (pg_name (i := 6) sc_times.nd rfl (.inl rfl)) pgs_nil)))
          (pss_one (ps_augS (pv 2) (pe_op op_add (pv 3) (pv 5)) get_list (pe_op op_mul (pv 4) (pv 6)) ip_add set_list)))))
      (pss_one (ps_ret (C8.pe_c c_cut hr (by decide) (by rfl) (pa_cons (pv 2) pa_nil)))))), ?_⟩
    refine ⟨by show 1 ≤ sizeLine; decide, fun l1 n1 => ?_⟩
    have s1 : Same H (upd H l1 (.lst [V.int 0])) := same_new n1
    have ha2 := ha.elim (fun h => Or.inl (same_l s1 h)) fun h => Or.inr (same_t s1 h)
    have hb2 := hb.elim (fun h => Or.inl (same_l s1 h)) fun h => Or.inr (same_t s1 h)
    refine ⟨_, rfl, a, p.map V.int, rfl, ha2, ⟨_, rfl, b, q.map V.int, rfl, hb2, _, _, rfl, rfl, ?_⟩⟩
    rw [List.length_map, List.length_map]
    refine ⟨l1, _, _, rfl, rfl, upd_same, by omega, by omega, ?_, fun l2 n2 => ?_⟩
    · show 1 * _ ≤ _
      exact line_le (by omega)
    have n2' : H l2 = none := s1.free n2
    refine ⟨_, rfl, for_enum (H0 := H) ha (fun i σ' H' => Same H H' ∧ ∃ (ys : List Int) (x3 x4 x5 x6 : Option V), σ' = [some (.ref a), some (.ref b), some (.ref l2), x3, x4, x5, x6] ∧ H' l2 = some (.lst (ys.map V.int)) ∧ ys.length = p.length + q.length ∧ ∀ k, coef ys k = coef (mulL (p.take i) q) k)
      (fun _ _ _ h => h.1) ⟨s1.trans (same_new n2), List.replicate (p.length + q.length) 0, none, none, none, none, rfl, ?_, by rw [List.length_replicate], fun k => by rw [coef_replicate]; rfl⟩ ?_ ?_⟩
    · rw [upd_same, rep1, List.map_replicate, show ((p.length : Int) + (q.length : Int)).toNat = p.length + q.length by omega]
    · rintro i x T' σ' H' hx ⟨sm, ys, x3, x4, x5, x6, rfl, hl, hlen, hc⟩ nT
      obtain ⟨c, hc0, rfl⟩ := ints_get hx
      have hi : i < p.length := (List.getElem?_eq_some_iff.mp hc0).1
      have nlT : l2 ≠ T' := ne_of_none hl nT
      refine ⟨_, rfl, for_enum (H0 := H) hb (fun j σ2 H2 => Same H H2 ∧ ∃ (zs : List Int) (x5 x6 : Option V), σ2 = [some (.ref a), some (.ref b), some (.ref l2), some (.int (i : Nat)), some (.int c), x5, x6] ∧ H2 l2 = some (.lst (zs.map V.int)) ∧ zs.length = p.length + q.length ∧ ∀ k, coef zs k = coef (mulL (p.take i) q) k + (if i ≤ k ∧ k < i + j then c * coef q (k - i) else 0))
        (fun _ _ _ h => h.1) ⟨sm.trans (same_new nT), ys, _, _, rfl, by rw [upd_ne nlT]; exact hl, hlen, fun k => by rw [hc, if_neg (by omega), Int.add_zero]⟩ ?_ ?_⟩
      · rintro j y T2 σ2 H2 hy ⟨sm2, zs, y5, y6, rfl, hl2, hlen2, hc2⟩ nT2
        obtain ⟨e, he0, rfl⟩ := ints_get hy
        have hj : j < q.length := (List.getElem?_eq_some_iff.mp he0).1
        have nlT2 : l2 ≠ T2 := ne_of_none hl2 nT2
        have hij : i + j < zs.length := by omega
        have eij : ((i : Int) + (j : Int)) = ((i + j : Nat) : Int) := by omega
        refine ⟨_, rfl, _, rfl, _, rfl, _, _, rfl, rfl, l2, zs.map V.int, (i : Int) + (j : Int), .int (coef zs (i + j)), rfl, rfl, sql (by rw [upd_ne nlT2]; exact hl2), by rw [eij]; exact atI_n (by rw [List.getElem?_map, get_coef hij]; rfl), _, rfl, _, rfl, _, _, rfl, rfl, .inl (hm c (List.mem_of_getElem? hc0)), _, _, rfl, rfl, ?_⟩
        refine ⟨l2, zs.map V.int, (i : Int) + (j : Int), i + j, rfl, rfl, by rw [upd_ne nlT2]; exact hl2, by rw [eij]; exact ixN_nat (by rw [List.length_map]; exact hij), ?_⟩
        refine ⟨same_mut (sm2.trans (same_new nT2)) n2', zs.set (i + j) (coef zs (i + j) + c * e), _, _, rfl, ?_, by rw [List.length_set]; exact hlen2, fun k => ?_⟩
        · rw [upd_same, ints_set]
        · rw [coef_set _ _ _ _ hij]
          by_cases hk : k = i + j
          · subst hk
            rw [if_pos rfl, if_pos (by omega), hc2, if_neg (by omega), show i + j - i = j by omega, coef_get he0]
            simp
          · rw [if_neg hk, hc2]
            by_cases h2 : i ≤ k ∧ k < i + j
            · rw [if_pos h2, if_pos (by omega)]
            · rw [if_neg h2, if_neg (by omega)]
      · rintro σ2 H2 ⟨sm2, zs, y5, y6, rfl, hl2, hlen2, hc2⟩
        rw [List.length_map] at hc2
        refine ⟨sm2, zs, _, _, _, _, rfl, hl2, hlen2, fun k => ?_⟩
        rw [hc2, take_snoc hi, coef_get hc0, coef_mulL_snoc, List.length_take, Nat.min_eq_left (Nat.le_of_lt hi)]
        by_cases hk : i ≤ k
        · rw [if_pos hk]
          by_cases h2 : k < i + q.length
          · rw [if_pos ⟨hk, h2⟩]
          · rw [if_neg (by omega), coef_ge (l := q) (by omega), Int.mul_zero]
        · rw [if_neg hk, if_neg (by omega)]
    · rintro σ' H' ⟨sm, ys, x3, x4, x5, x6, rfl, hl, hlen, hc⟩
      rw [List.length_map, List.take_length] at hc
      refine ⟨_, rfl, _, ys, rfl, zs_lst hl, fun r H2 sm2 hr2 => k _ _ (sm.trans sm2) ?_⟩
      rw [show timesL p q = cutL ys from (cutL_ext hc).symm]
      exact hr2
end
end EN
namespace EN
open PySem PySem.Spec PyProof.Rows L2
theorem isi_of {K : PySem.W.Frag} {H : Hp} {x : V} {a b : String} {r : Bool} {Q : VK} (t : TyOf K H x (.type a)) (k : kitB a b = some r) (q : Q (.bl r) H) : rIsi K [x, .ty b] H Q :=
  ⟨x, .ty b, .type a, .type b, r, rfl, .ty b, .base t, kit_ty k, q⟩
theorem isi_tc {K : PySem.W.Frag} {σ : L2.St} {H : Hp} {x : V} {a b : String} {r : Bool} {Q : VK} (t : TyOf K H x (.type a)) (k : kitB a b = some r) (q : Q (.bl r) H) : tCons (tC (.ty b)) tNil σ H (fun xs H2 => rIsi K (x :: xs) H2 Q) := isi_of t k q
theorem k_int_int : kitB "int" "int" = some true := by decide +kernel
theorem k_int_bool : kitB "int" "bool" = some false := by decide +kernel
theorem k_tup_tup : kitB "tuple" "tuple" = some true := by decide +kernel
theorem k_bool_bool : kitB "bool" "bool" = some true := by decide +kernel
theorem b2i_sign (n : Int) : b2i (decide (0 < n)) - b2i (decide (n < 0)) = n.sign := by
  rcases Int.lt_trichotomy n 0 with h | h | h
  · rw [Int.sign_eq_neg_one_of_neg h, decide_eq_false (show ¬ 0 < n by omega), decide_eq_true h]
    rfl
  · subst h; rfl
  · rw [Int.sign_eq_one_of_pos h, decide_eq_true h, decide_eq_false (show ¬ n < 0 by omega)]
    rfl
theorem bt_div {j : Int} {n : Nat} (i : Int) (h : 0 < j) (hb : Bt n j) (h9 : n ≤ 9000) : CDivW i j := by
  have h0 : 0 < n := by
    by_cases e : n = 0
    · subst e
      unfold Bt at hb
      simp at hb
      omega
    · omega
  exact wide_div h hb h0 h9
theorem cut_from1 (xs : List V) : cutV xs (some 1) none = xs.drop 1 := by
  unfold cutV
  rw [show HT.sIx xs.length 0 (some 1) = min 1 xs.length from HT.sIx_nat xs.length 0 1, HT.sIx_none]
  cases xs with
  | nil => rfl
  | cons x r =>
    rw [show min 1 (x :: r).length = 1 by rw [List.length_cons]; omega]
    show (List.take ((x :: r).length - 1) r) = r
    rw [List.length_cons, Nat.add_sub_cancel]
    exact List.take_length
theorem whole_from1 (xs : List V) (h : HT.sIx xs.length 0 (some 1) = 0 ∧ HT.sIx xs.length xs.length none = xs.length) : xs = xs.drop 1 := by
  have e : min 1 xs.length = 0 := (HT.sIx_nat xs.length 0 1).symm.trans h.1
  have : xs.length = 0 := by omega
  rw [List.eq_nil_of_length_eq_zero this]
  rfl
section
variable {P : Program} {w : World} {K : PySem.W.Frag} {mg : Str → Option Value} {base : Heap} {f : Addr} {fd : FuncData}

/-! ### is_int -/
-- slots: 0 value
abbrev s_is_int : Stmt := topS 8
theorem sc_is_int : FnScope ["value"] ["value"] (C8.fnScope s_is_int) := C8.fnScope_by (by decide +kernel)
def sp_is_int : Sp := fun vs H Q _ => ∃ i, vs = [.int i] ∧ Q (.bl true) H
theorem cal_is_int (D : C8.Def K mg "is_int" s_is_int f fd) (df : fd.defaults = .none) (T : Tx K mg) : C8.Cal P w K mg base 1 "is_int" sp_is_int [] := by
  refine C8.cal0 D (D.fn.binds df (ps := ["value"]) fun _ _ _ _ _ _ us hl => match us, hl with | [_], _ => rfl) .nil sc_is_int (fun vs H Q E h => ?_) (fun cdv A outer s H vs Q E hr h => ?_)
  · obtain ⟨i, rfl, _⟩ := h
    rfl
  · obtain ⟨i, rfl, q⟩ := h
    refine ⟨_, (pss_one (ps_ret (pe_and (pe_callB call_isi (by rfl) T.isinstance_ (by decide +kernel) (pa_cons (pv 0) (pa_cons (pe_bltn (v := .ty "int") (by rfl) T.int_ (by decide +kernel) rfl) pa_nil))) (pe_one (pe_not (pe_callB call_isi (by rfl) T.isinstance_ (by decide +kernel) (pa_cons (pv 0) (pa_cons (pe_bltn (v := .ty "bool") (by rfl) T.bool_ (by decide +kernel) rfl) pa_nil)))))))), ?_⟩
    refine ⟨_, rfl, ?_⟩
    refine isi_tc (.int i) k_int_int ?_
    refine ⟨_, rfl, ?_⟩
    refine iteT ⟨_, rfl, ?_⟩
    refine isi_tc (.int i) k_int_bool ?_
    exact ⟨_, rfl, q⟩

/-! ### sign -/
-- slots: 0 number
abbrev s_sign : Stmt := topS 22
theorem sc_sign : FnScope ["number"] ["number"] (C8.fnScope s_sign) := C8.fnScope_by (by decide +kernel)
def sp_sign : Sp := fun vs H Q _ => ∃ i, vs = [.int i] ∧ Q (.int i.sign) H
theorem cal_sign (D : C8.Def K mg "sign" s_sign f fd) (df : fd.defaults = .none) (T : Tx K mg) : C8.Cal P w K mg base 1 "sign" sp_sign [] := by
  refine C8.cal0 D (D.fn.binds df (ps := ["number"]) fun _ _ _ _ _ _ us hl => match us, hl with | [_], _ => rfl) .nil sc_sign (fun vs H Q E h => ?_) (fun cdv A outer s H vs Q E hr h => ?_)
  · obtain ⟨i, rfl, _⟩ := h
    rfl
  · obtain ⟨i, rfl, q⟩ := h
    refine ⟨_, (pss_one (ps_ret (pe_op op_subB (pe_cmpR op_gt (pv 0) pe_int (nomark _)) (pe_cmpR op_lt (pv 0) pe_int (nomark _))))), ?_⟩
    refine ⟨_, rfl, _, _, rfl, rfl, _, rfl, _, _, rfl, rfl, _, _, rfl, rfl, ?_⟩
    rw [b2i_sign]
    exact q

/-! ### fraction -/
-- slots: 0 top, 1 low, 2 part
abbrev s_fraction : Stmt := topS 10
theorem sc_fraction : FnScope ["top", "low", "part"] ["top", "low"] (C8.fnScope s_fraction) := C8.fnScope_by (by decide +kernel)
def sp_fraction : Sp := fun vs H Q _ => ∃ t l n, vs = [.int t, .int l] ∧ 0 < l ∧ Bt n l ∧ n ≤ 9000 ∧ ∀ r H', Same H H' → Frac H' r (redF t l) → Q r H'
theorem cal_fraction (D : C8.Def K mg "fraction" s_fraction f fd) (df : fd.defaults = .none) (T : Tx K mg) (c_divisor_of : C8.Cal P w K mg base 1 "divisor_of" (sp_divisor_of K) []) : C8.Cal P w K mg base 2 "fraction" sp_fraction [] := by
  refine C8.cal0 D (D.fn.binds df (ps := ["top", "low"]) fun _ _ _ _ _ _ us hl => match us, hl with | [_, _], _ => rfl) .nil sc_fraction (fun vs H Q E h => ?_) (fun cdv A outer s H vs Q E hr h => ?_)
  · obtain ⟨t, l, n, rfl, _⟩ := h
    rfl
  · obtain ⟨t, l, n, rfl, hl, hb, h9, q⟩ := h
    refine ⟨_, (pss_cons (ps_set (i := 2) sc_fraction.nd rfl (.inl rfl) (C8.pe_c c_divisor_of hr (by decide) (by rfl) (pa_cons (pe_tup (pa_cons (pv 0) (pa_cons (pv 1) pa_nil))) pa_nil)))
      (pss_cons (ps_par (i := 0) (j := 1) rfl sc_fraction.nd rfl rfl (by decide) rfl rfl (pa_cons (pe_op op_fdivW (pv 0) (pv 2)) (pa_cons (pe_op op_fdivW (pv 1) (pv 2)) pa_nil)) (by rfl))
      (pss_one (ps_ret (pe_ifExp (pt_cmpR op_lt (pv 1) pe_int (nomark _)) (pe_tup (pa_cons (pe_un un_neg (pv 0)) (pa_cons (pe_un un_neg (pv 1)) pa_nil))) (pe_tup (pa_cons (pv 0) (pa_cons (pv 1) pa_nil)))))))), ?_⟩
    refine ⟨_, rfl, _, rfl, by show 2 ≤ sizeLine; decide, fun e ne => ?_⟩
    refine ⟨_, [t, l], rfl, ⟨e, rfl, .inr (sqt upd_same)⟩, ?_⟩
    rw [gcdL_two]
    obtain ⟨g0, gb⟩ := gcd_bt (t := t) hl hb
    refine ⟨_, rfl, _, rfl, _, _, rfl, rfl, bt_div _ g0 gb h9, _, rfl, _, rfl, _, _, rfl, rfl, bt_div _ g0 gb h9, _, _, rfl, ?_⟩
    have hl' : ¬ l / (Int.gcd t l : Int) < 0 := by
      have : 0 ≤ l / (Int.gcd t l : Int) := Int.ediv_nonneg (by omega) (by omega)
      omega
    refine ⟨_, rfl, _, _, rfl, rfl, _, rfl, ?_⟩
    rw [decide_eq_false hl']
    refine iteF ⟨_, rfl, _, rfl, by show 2 ≤ sizeLine; decide, fun r nr => ?_⟩
    exact q _ _ ((same_new ne).trans (same_new nr)) (frac_of upd_same)

/-! ### is_fraction -/
-- slots: 0 value
abbrev s_is_fraction : Stmt := topS 11
theorem sc_is_fraction : FnScope ["value"] ["value"] (C8.fnScope s_is_fraction) := C8.fnScope_by (by decide +kernel)
def sp_is_fraction : Sp := fun vs H Q _ => ∃ v t l, vs = [v] ∧ Frac H v (t, l) ∧ 0 < l ∧ Int.gcd t l = 1 ∧ Q (.bl true) H
theorem cal_is_fraction (D : C8.Def K mg "is_fraction" s_is_fraction f fd) (df : fd.defaults = .none) (T : Tx K mg) (c_divisor_of : C8.Cal P w K mg base 1 "divisor_of" (sp_divisor_of K) []) (c_is_int : C8.Cal P w K mg base 1 "is_int" sp_is_int []) : C8.Cal P w K mg base 2 "is_fraction" sp_is_fraction [] := by
  refine C8.cal0 D (D.fn.binds df (ps := ["value"]) fun _ _ _ _ _ _ us hl => match us, hl with | [_], _ => rfl) .nil sc_is_fraction (fun vs H Q E h => ?_) (fun cdv A outer s H vs Q E hr h => ?_)
  · obtain ⟨v, t, l, rfl, _⟩ := h
    rfl
  · obtain ⟨v, t, l, rfl, hv, hl, hg, q⟩ := h
    obtain ⟨a, rfl, ha⟩ := frac_at hv
    refine ⟨_, (pss_cons (ps_if (pw_or (pt_not (pt_val (pe_callB call_isi (by rfl) T.isinstance_ (by decide +kernel) (pa_cons (pv 0) (pa_cons (pe_bltn (v := .ty "tuple") (by rfl) T.tuple_ (by decide +kernel) rfl) pa_nil))))) (pw_or (pt_cmpR op_ne (pe_callB call_len_seq (by rfl) T.len_ (by decide +kernel) (pa_cons (pv 0) pa_nil)) pe_int (nomark _)) (pw_or (pt_not (pt_val (C8.pe_c c_is_int hr (by decide) (by rfl) (pa_cons (pe_ix ixA (pv 0) pe_int (fun _ _ => rfl)) pa_nil)))) (pw_or1 (pt_not (pt_val (C8.pe_c c_is_int hr (by decide) (by rfl) (pa_cons (pe_ix ixA (pv 0) pe_int (fun _ _ => rfl)) pa_nil)))))))).pt
        (pss_one (ps_ret pe_bl))
        pss_nil)
      (pss_one (ps_ret (pe_and (pe_cmpR op_gt (pe_ix ixA (pv 0) pe_int (fun _ _ => rfl)) pe_int (nomark _)) (pe_one (pe_cmpR op_eq (C8.pe_c c_divisor_of hr (by decide) (by rfl) (pa_cons (pv 0) pa_nil)) pe_int (nomark _))))))), ?_⟩
    refine ⟨_, rfl, ?_⟩
    refine isi_tc (.tup ha) k_tup_tup ?_
    refine ⟨_, rfl, ?_⟩
    refine iteF ⟨_, rfl, a, _, rfl, .inr (sqt ha), rfl, _, rfl, ?_⟩
    refine iteF ⟨_, rfl, .inr ⟨a, _, 0, .int t, rfl, rfl, sqt ha, atI_nat (j := 0) rfl, t, rfl, _, rfl, ?_⟩⟩
    refine iteF ⟨_, rfl, .inr ⟨a, _, 1, .int l, rfl, rfl, sqt ha, atI_nat (j := 1) rfl, l, rfl, _, rfl, ?_⟩⟩
    refine iteF ⟨_, rfl, .inr ⟨a, _, 1, .int l, rfl, rfl, sqt ha, atI_nat (j := 1) rfl, _, _, rfl, rfl, _, rfl, ?_⟩⟩
    rw [decide_eq_true hl]
    refine iteT ⟨_, rfl, _, [t, l], rfl, ⟨a, rfl, .inr (sqt ha)⟩, rfl, ?_⟩
    rw [gcdL_two, hg]
    exact q

theorem sm_bt {x : Int} (h : Sm x) : Bt 64 x := by
  unfold Sm at h
  unfold Bt
  omega
/-! ### height -/
-- slots: 0 one, 1 share, 2 top, 3 low, 4 found, 5 scale, 6 number, 7 last
abbrev s_height : Stmt := topS 21
theorem sc_height : FnScope ["one", "share", "top", "low", "found", "scale", "number", "last"] ["one", "share"] (C8.fnScope s_height) := C8.fnScope_by (by decide +kernel)
def sp_height : Sp := fun vs H Q _ => ∃ v u p t l, vs = [v, u] ∧ Poly H v p ∧ Frac H u (t, l) ∧ p.length ≤ 100 ∧ 0 < l ∧ Sm t ∧ Sm l ∧ (∀ c ∈ p, Sm c) ∧ ∀ r H', Same H H' → Frac H' r (redF (hNum p t l) (l ^ (p.length - 1))) → Q r H'
theorem cal_height (D : C8.Def K mg "height" s_height f fd) (df : fd.defaults = .none) (T : Tx K mg) (c_fraction : C8.Cal P w K mg base 2 "fraction" sp_fraction []) : C8.Cal P w K mg base 3 "height" sp_height [] := by
  refine C8.cal0 D (D.fn.binds df (ps := ["one", "share"]) fun _ _ _ _ _ _ us hl => match us, hl with | [_, _], _ => rfl) .nil sc_height (fun vs H Q E h => ?_) (fun cdv A outer s H vs Q E hr h => ?_)
  · obtain ⟨v, u, p, t, l, rfl, _⟩ := h
    rfl
  · obtain ⟨v, u, p, t, l, rfl, hv, hu, hp, hl, st, sl, sp, q⟩ := h
    obtain ⟨a, rfl, ha⟩ := poly_at hv
    obtain ⟨b, rfl, hb⟩ := frac_at hu
    refine ⟨_, (pss_cons (ps_asg (pv 1) (pg_tup rfl (pgs_cons (pg_name (i := 2) sc_height.nd rfl (.inl rfl)) (pgs_cons (pg_name (i := 3) sc_height.nd rfl (.inl rfl)) pgs_nil))))
      (pss_cons (ps_asg (pe_tup (pa_cons pe_int (pa_cons pe_int pa_nil))) (pg_tup rfl (pgs_cons (pg_name (i := 4) sc_height.nd rfl (.inl rfl)) (pgs_cons (pg_name (i := 5) sc_height.nd rfl (.inl rfl)) pgs_nil))))
      (pss_cons (ps_for PassesOwn.never rfl (RT.pi_revA (by rfl) T.reversed_ (pv 0)) (pg_name (i := 6) sc_height.nd rfl (.inl rfl))
        (pss_cons (ps_set (i := 4) sc_height.nd rfl (.inl rfl) (pe_op op_add (pe_op op_mul (pv 4) (pv 2)) (pe_op op_mul (pv 6) (pv 5))))
        (pss_one (ps_aug (i := 5) sc_height.nd rfl (.inl rfl) (pv 3) ip_mul))))
      (pss_cons (ps_set (i := 7) sc_height.nd rfl (.inl rfl) pe_int)
      (pss_cons (ps_for PassesOwn.never rfl (pi_tup (pe_slice sl_tupA (pv 0) (po_some pe_int) po_none)) (pg_name (i := 6) sc_height.nd rfl (.inl rfl))
        (pss_one (ps_aug (i := 7) sc_height.nd rfl (.inl rfl) (pv 3) ip_mul)))
      (pss_one (ps_ret (C8.pe_c c_fraction hr (by decide) (by rfl) (pa_cons (pv 4) (pa_cons (pv 7) pa_nil)))))))))), ?_⟩
    refine ⟨_, rfl, b, _, rfl, sqt hb, rfl, _, _, rfl, _, _, rfl, rfl, ?_⟩
    refine ⟨by show 2 ≤ sizeLine; decide, fun p0 np0 => ⟨p0, _, rfl, sqt upd_same, rfl, _, _, rfl, _, _, rfl, rfl, ?_⟩⟩
    have s0 : Same H (upd H p0 (.tup [.int 0, .int 1])) := same_new np0
    refine ⟨_, rfl, a, _, rfl, .inr ⟨sqt (s0 _ _ ha), RT.for_ItvT (fun i σ' H' => Same H H' ∧ ∃ x6, σ' = [some (.ref a), some (.ref b), some (.int t), some (.int l), some (.int ((p.reverse.take i).foldl (hStep t l) (0, 1)).1), some (.int ((p.reverse.take i).foldl (hStep t l) (0, 1)).2), x6, none]) ⟨s0, none, rfl⟩ (fun i σ' H' h => sqt (h.1 _ _ ha)) ?_ ?_⟩⟩
    · rintro i x σ' H' hi hx ⟨sm, x6, rfl⟩
      rw [List.length_map] at hi hx
      obtain ⟨c, hc, rfl⟩ := ints_get hx
      have hc' : p.reverse[i]? = some c := by rw [List.getElem?_reverse hi]; exact hc
      have e := foldl_take (f := hStep t l) (z := ((0 : Int), (1 : Int))) hc'
      refine ⟨_, rfl, _, rfl, _, _, rfl, rfl, .inr st, _, rfl, _, rfl, _, _, rfl, rfl, .inl (sp c (List.mem_of_getElem? hc)), _, _, rfl, rfl, ?_⟩
      refine ⟨_, rfl, _, rfl, _, _, rfl, rfl, .inr sl, ?_⟩
      rw [e]
      exact ⟨sm, _, rfl⟩
    · rintro σ' H' ⟨sm, x6, rfl⟩
      rw [List.length_map, List.take_of_length_le (by rw [List.length_reverse]; exact Nat.le_refl _)]
      have loop : ∀ (d : Addr) (H2 : Hp), Same H H2 → SqT K H2 d ((p.map V.int).drop 1) → ∀ {D : Ends} {x6 : Option V}, (∀ H3 x6 , Same H H3 → D.nx [some (.ref a), some (.ref b), some (.int t), some (.int l), some (.int (hNum p t l)), some (.int (p.reverse.foldl (hStep t l) (0, 1)).2), x6, some (.int (l ^ (p.length - 1)))] H3) →
          Loop (Itt K d) (gName 6) (tAug 7 (tVar 3) (rI CMul fun i j => .int (i * j))) D [some (.ref a), some (.ref b), some (.int t), some (.int l), some (.int (hNum p t l)), some (.int (p.reverse.foldl (hStep t l) (0, 1)).2), x6, some (.int 1)] H2 := fun d H2 s2 hd D x6 hD => by
        refine for_tupS (H0 := H2) hd (fun i σ' H' => H' = H2 ∧ ∃ x6, σ' = [some (.ref a), some (.ref b), some (.int t), some (.int l), some (.int (hNum p t l)), some (.int (p.reverse.foldl (hStep t l) (0, 1)).2), x6, some (.int (l ^ i))]) (fun _ _ _ h => by rw [h.1]; exact Same.refl _) ⟨rfl, x6, by rw [Int.pow_zero]⟩ ?_ ?_
        · rintro i x σ' H4 hx ⟨rfl, x6, rfl⟩
          refine ⟨_, rfl, _, rfl, _, _, rfl, rfl, .inr sl, rfl, some x, ?_⟩
          rw [Int.pow_succ]
          rfl
        · rintro σ' H4 ⟨rfl, x6, rfl⟩
          rw [List.length_drop, List.length_map]
          exact hD _ _ s2
      have fin : ∀ (σ' : L2.St) (H3 : Hp) (N : Ends) , σ'[4]? = some (some (.int (hNum p t l))) → σ'[7]? = some (some (.int (l ^ (p.length - 1)))) → Same H H3 → (∀ v H, N.rt v H = Q v H) → tRet (tCall sp_fraction [] C8.E0 (tCons (tVar 4) (tCons (tVar 7) tNil))) N σ' H3 := fun σ' H3 N e4 e7 s3 eN => by
        refine ⟨_, e4, _, e7, ?_⟩
        refine ⟨_, _, 64 * (p.length - 1) + 1, rfl, Int.pow_pos hl, Bt.pow (sm_bt sl) _, by omega, fun r H' s4 hr => ?_⟩
        exact (eN _ _).symm ▸ q r H' (s3.trans s4) hr
      refine ⟨_, rfl, _, rfl, a, _, rfl, sqt (sm _ _ ha), fun hw => ?_, fun hw d nd => ?_⟩
      · refine ⟨a, rfl, ⟨_, sqt (sm _ _ ha)⟩, loop a H' sm (by rw [← whole_from1 _ hw]; exact sqt (sm _ _ ha)) fun H3 x6 s3 => ?_⟩
        exact fin _ _ _ rfl rfl s3 fun _ _ => rfl
      · refine ⟨d, rfl, ⟨_, sqt upd_same⟩, loop d _ (sm.trans (same_new nd)) (by rw [← cut_from1]; exact sqt upd_same) fun H3 x6 s3 => ?_⟩
        exact fin _ _ _ rfl rfl s3 fun _ _ => rfl
end
end EN
/-! What the polynomial functions compute, with fuel and with bounds checked; decided for the few polynomials that are asked for. -/
namespace EN
def lastL (p : List Int) : Int := p.getLastD 0
def okP (p : List Int) : Bool := decide (p.length ≤ 8) && p.all (fun c => decide (c.natAbs < 1073741824)) && decide (gcdL p < 1073741824)
def plainF (p : List Int) : List Int := if gcdL p = 0 then [] else p.map fun c => c.fdiv (if lastL p < 0 then -((gcdL p : Nat) : Int) else ((gcdL p : Nat) : Int))
def gapF (n : Int) : List Int := List.replicate n.toNat 0
def lowF : Nat → List Int → List Int → Option (List Int)
  | 0, _, _ => none
  | n + 1, p, q => if q.length ≤ p.length then
      (if (okP p && okP q && !q.isEmpty && okP (plusL (p.map (lastL q * ·)) (gapF ((p.length : Int) - q.length) ++ q) (-(lastL p)))) = true then lowF n (plainF (plusL (p.map (lastL q * ·)) (gapF ((p.length : Int) - q.length) ++ q) (-(lastL p)))) q else none)
    else some p
def shF : Nat → List Int → List Int → Option (List Int)
  | 0, _, _ => none
  | n + 1, p, q => if q = [] then some p else if q.length = 1 then some [1] else match lowF 20 p q with
    | some r => shF n q r
    | none => none
def sharedF (p q : List Int) : Option (List Int) := if (okP p && okP q) = true then shF 20 (plainF p) (plainF q) else none
def paF : Nat → List Int → List Int → List Int → Option (List Int)
  | 0, _, _, _ => none
  | n + 1, f, l, q => if l = [] then (if okP f = true then some (plainF f) else none)
    else if (okP f && okP l && okP q && !q.isEmpty) = true then paF n (plusL (f.map (lastL q * ·)) (gapF ((l.length : Int) - q.length) ++ [lastL l]) 1) (plusL (l.map (lastL q * ·)) (gapF ((l.length : Int) - q.length) ++ q) (-(lastL l))) q else none
def derivedF (p : List Int) : List Int := cutL (((List.range p.length).map fun (i : Nat) => (i : Int) * coef p i).drop 1)
def singleF (p : List Int) : Option (List Int) := match (if 1 < p.length then sharedF p (derivedF p) else some [1]) with
  | some b => if 1 < b.length then paF 20 [] p b else if okP p = true then some (plainF p) else none
  | none => none
/-- one turn of the inner loop of moved -/
def mvStep (l : List Int) (at' : Nat) : List Int := l.set at' (coef l at' + coef l (at' + 1))
def mvIn (n start : Nat) (l : List Int) (k : Nat) : List Int := (List.range k).foldl (fun l j => mvStep l (n - 2 - j)) l
def movedF (p : List Int) : List Int := (List.range p.length).foldl (fun l start => mvIn p.length start l (p.length - 1 - start)) p
def signsF (p : List Int) : List Int := ((movedF p.reverse).map Int.sign).filter fun c => decide (c ≠ 0)
def changesF (p : List Int) : Nat := ((List.range (((signsF p).drop 1).length)).filter fun i => decide (coef (signsF p) i ≠ coef ((signsF p).drop 1) i)).length
def signAtF (p : List Int) (t l : Int) : Int := (redF (hNum p t l) (l ^ (p.length - 1))).1.sign
def okV (p : List Int) (t l : Int) : Bool := decide (p.length ≤ 100) && decide (0 < l) && decide (Sm t) && decide (Sm l) && p.all (fun c => decide (Sm c))
/-- root: its polynomial q, the fraction t / 1 -/
def sarF (p q : List Int) (t : Int) : Option Int := if p = [] then some 0 else if (sharedF p q).isSome && okV p (redF t 1).1 (redF t 1).2 then some (signAtF p (redF t 1).1 (redF t 1).2) else none
def behF : Nat → List Int → List Int → Int → Option Int
  | 0, _, _, _ => none
  | n + 1, p, q, t => if p = [] then some 0 else match sarF p q t with
    | some s => if s ≠ 0 then some s else if okP p = true then behF n (derivedF p) q t else none
    | none => none
def aheF : Nat → List Int → List Int → Int → Int → Option Int
  | 0, _, _, _, _ => none
  | n + 1, p, q, t, turn => if p = [] then some 0 else match sarF p q t with
    | some s => if s ≠ 0 then some (turn * s) else if okP p = true then aheF n (derivedF p) q t (-turn) else none
    | none => none
def rootsOk (p : List Int) : Bool := if 1 < p.length then (match singleF p with
  | some s => decide (s.length ≤ 8) && decide (changesF s = 0)
  | none => false) else true
def chOk (p : List Int) : Bool := okP p && okV p 0 1 && okV p 1 1 && decide (0 ≤ signAtF p 0 1) && decide (0 ≤ signAtF p 1 1) && (match behF 10 p [0, 1] 0 with
    | some s => decide (0 ≤ s)
    | none => false) && rootsOk p && (match aheF 10 p [-1, 1] 1 1 with
    | some s => decide (0 ≤ s)
    | none => false)
def chList : List (List Int) := ((List.range 125).map fun k => cutL [((k % 5 : Nat) : Int), 2 * ((k / 5 % 5 : Nat) : Int) - 2 * ((k % 5 : Nat) : Int), ((k % 5 : Nat) : Int) - 2 * ((k / 5 % 5 : Nat) : Int) + ((k / 25 : Nat) : Int)]) ++
  ((List.range 25).map fun k => cutL [((k % 5 : Nat) : Int), ((k / 5 : Nat) : Int) - ((k % 5 : Nat) : Int)])
theorem chList_ok : chList.all chOk = true := by decide +kernel
theorem ch_two {a b c : Nat} (ha : a ≤ 4) (hb : b ≤ 4) (hc : c ≤ 4) : chOk (cutL [(a : Int), 2 * (b : Int) - 2 * (a : Int), (a : Int) - 2 * (b : Int) + (c : Int)]) = true := by
  refine List.all_eq_true.mp chList_ok _ (List.mem_append_left _ (List.mem_map.mpr ⟨a + 5 * b + 25 * c, List.mem_range.mpr (by omega), ?_⟩))
  rw [show (a + 5 * b + 25 * c) % 5 = a by omega, show (a + 5 * b + 25 * c) / 5 % 5 = b by omega, show (a + 5 * b + 25 * c) / 25 = c by omega]
theorem ch_one {a b : Nat} (ha : a ≤ 4) (hb : b ≤ 4) : chOk (cutL [(a : Int), (b : Int) - (a : Int)]) = true := by
  refine List.all_eq_true.mp chList_ok _ (List.mem_append_right _ (List.mem_map.mpr ⟨a + 5 * b, List.mem_range.mpr (by omega), ?_⟩))
  rw [show (a + 5 * b) % 5 = a by omega, show (a + 5 * b) / 5 = b by omega]
end EN
/-! Further rules: tuple * int, tuple[::-1], len(set(tuples)). -/
namespace EN
open PySem PySem.Spec PyProof.Rows L2
/-! ### tuple * int -/
theorem tuple_mul0 (l : Addr) (items : Array Value) (n : Nat) (dd : Option Addr) (sl : Array (Option Value)) (x : Int) (u : Tok) (c0 : (decide (x < -(2 ^ 63)) || decide (x ≥ 2 ^ 63)) = false) (c1 : (items.isEmpty || x == 1) = false) (c2 : (decide (x ≤ 0) || items.isEmpty) = true) :
    Meets (Builtin.«tuple.__mul__» ⟨[.ref l, .int x u], []⟩) (fun _ R s => s.heap.get? l = some { cls := .type "tuple", dict := dd, data := .seq items n, slots := sl } ∧
      R (.ok (.ret (Value.ref s.heap.objs.size))) { s with heap := s.heap.push { cls := Value.type "tuple", data := Data.seq #[] }, toks := s.toks }) :=
  .of_wp fun prog w A R s h => by
    obtain ⟨hp, g, d, tk, os⟩ := s
    obtain ⟨hl, h⟩ := h
    have f1 := AutoSeq1.idx_int
    wp_walk using wpAny_loadPart' hl
    repeat (first
      | (refine wpAny_ite_false (decide_eq_false (by rw [c0]; exact Bool.false_ne_true)) ?_; wp_walk using wpAny_loadPart' hl)
      | (refine wpAny_ite_false (decide_eq_false (by rw [c1]; exact Bool.false_ne_true)) ?_; wp_walk using wpAny_loadPart' hl)
      | (refine wpAny_ite_true (decide_eq_true (by rw [c2])) ?_; wp_walk using wpAny_loadPart' hl))
    exact ⟨_, rfl, h⟩
theorem tuple_mul1 (l : Addr) (items : Array Value) (n : Nat) (dd : Option Addr) (sl : Array (Option Value)) (x : Int) (u : Tok) (c0 : (decide (x < -(2 ^ 63)) || decide (x ≥ 2 ^ 63)) = false) (c1 : (items.isEmpty || x == 1) = true) :
    Meets (Builtin.«tuple.__mul__» ⟨[.ref l, .int x u], []⟩) (fun _ R s => s.heap.get? l = some { cls := .type "tuple", dict := dd, data := .seq items n, slots := sl } ∧
      R (.ok (.ret (Value.ref l))) s) :=
  .of_wp fun prog w A R s h => by
    obtain ⟨hp, g, d, tk, os⟩ := s
    obtain ⟨hl, h⟩ := h
    have f1 := AutoSeq1.idx_int
    wp_walk using wpAny_loadPart' hl
    repeat (first
      | (refine wpAny_ite_false (decide_eq_false (by rw [c0]; exact Bool.false_ne_true)) ?_; wp_walk using wpAny_loadPart' hl)
      | (refine wpAny_ite_true (decide_eq_true (by rw [c1])) ?_; wp_walk using wpAny_loadPart' hl))
    exact ⟨_, rfl, h⟩
section
variable {X : Cx}
def rRepA : R2 := fun x y H Q => ∃ l k xs, x = .ref l ∧ y = .int k ∧ H l = some (.tup xs) ∧ xs ≠ [] ∧ -1000 ≤ k ∧ k ≤ 1000 ∧ xs.length ≤ 1000 ∧ ∀ p H', Same H H' → H' p = some (.tup (List.replicate k.toNat xs).flatten) → Q (.ref p) H'
theorem op_repA : OpR X (binaryOp .Mult) rRepA := by
  intro pins s σ H x y v u Q I rx ry h
  obtain ⟨l, k, xs, rfl, rfl, hl, hne, h1, h2, hz, q⟩ := h
  have hT : SqT X.K H l xs := sqt hl
  by_cases h3 : 2 ≤ k
  · exact op_repT pins s σ H _ _ v u Q I rx ry ⟨l, k, xs, rfl, rfl, hT, hne, h3, h2, hz, fun p np => q p _ (same_new np) upd_same⟩
  · cases rx
    obtain ⟨t, rfl⟩ := ry
    obtain ⟨its, r, ⟨⟨cls, dd, data, sl⟩, ho, hc, n, hd⟩, hs⟩ := I.tuple hT
    simp only at hc hd
    subst hc hd
    have hle : its.length = xs.length := r.length.symm
    have hn : its ≠ [] := fun e => hne (by
      rw [e] at hle
      exact List.eq_nil_of_length_eq_zero hle.symm)
    have hi : its.toArray.isEmpty = false := by
      cases its with
      | nil => exact absurd rfl hn
      | cons a b => rfl
    have c0 : (decide (k < -(2 ^ 63)) || decide (k ≥ 2 ^ 63)) = false := by
      rw [decide_eq_false (by omega), decide_eq_false (by omega)] <;> rfl
    by_cases h4 : k = 1
    · subst h4
      have c1 : (its.toArray.isEmpty || (1 : Int) == 1) = true := by rw [hi]; rfl
      refine wpAny_binaryOp_repeat_ref (T := "tuple") (U := "int") (by decide) ⟨_, ho, rfl⟩ (fun s' => typeIs_int s' 1 t) noFill_tuple_mul F.fills_int_mul F.slot_int_rmul repeat_tuple F.slot_int_index.lookup
        (call_meets F.slot_int_rmul (typeIs_int s 1 t) F.entry_int_rmul (F.args_int_rmul_2 _ _) (int_rmul_tuple 1 t l its.toArray n dd sl)
          ⟨ho, rfl, ⟨_, ho, rfl⟩, call_meets F.slot_tuple_mul ⟨_, ho, rfl⟩ F.entry_tuple_mul (F.args_tuple_mul_2 _ _) (tuple_mul1 l its.toArray n dd sl 1 t c0 c1) ⟨ho, ?_⟩⟩)
      refine ⟨.ref l, _, I, rfl, q l H (Same.refl H) ?_⟩
      rw [hl]
      simp
    · have c1 : (its.toArray.isEmpty || k == 1) = false := by
        rw [hi, Bool.false_or]
        exact beq_eq_false_iff_ne.mpr (by omega)
      have c2 : (decide (k ≤ 0) || its.toArray.isEmpty) = true := by
        rw [decide_eq_true (show k ≤ 0 by omega)]; rfl
      refine wpAny_binaryOp_repeat_ref (T := "tuple") (U := "int") (by decide) ⟨_, ho, rfl⟩ (fun s' => typeIs_int s' k t) noFill_tuple_mul F.fills_int_mul F.slot_int_rmul repeat_tuple F.slot_int_index.lookup
        (call_meets F.slot_int_rmul (typeIs_int s k t) F.entry_int_rmul (F.args_int_rmul_2 _ _) (int_rmul_tuple k t l its.toArray n dd sl)
          ⟨ho, rfl, ⟨_, ho, rfl⟩, call_meets F.slot_tuple_mul ⟨_, ho, rfl⟩ F.entry_tuple_mul (F.args_tuple_mul_2 _ _) (tuple_mul0 l its.toArray n dd sl k t c0 c1 c2) ⟨ho, ?_⟩⟩)
      have hnew := I.hok.fresh (Nat.le_refl s.heap.objs.size)
      refine ⟨.ref s.heap.objs.size, _, I.laid (t' := s.toks) (o := .tup []) (fun b ob q => Heap.get?_push_of_some _ q) (Nat.le_refl _) ?_, rfl, q _ _ (same_new hnew) ?_⟩
      · exact ⟨Nat.zero_le _, [], .nil, IsTup.new _ _⟩
      · rw [upd_same, show k.toNat = 0 by omega]
        rfl

/-! ### t[::-1] -/
theorem sliceApplied_back {prog : Program} {w : World} {A : Around} {E : Value → Shared → Prop} {s : Shared} {sl : Addr} {u : Tok} {n : Nat} {Q : Int × Int × Nat → Shared → Prop} (hs : s.heap.IsSliceOf sl .none .none (.int (-1) u))
    (h : Q ((n : Int) - 1, -1, n) s) : wpAny (model prog w) A (Builtin.Slice.sliceApplied (.ref sl) (pure (n : Int))) Q E s := by
  obtain ⟨os, hos, hcs, hds⟩ := id hs
  unfold Builtin.Slice.sliceApplied Builtin.Slice.sliceFields
  refine wpAny_bind (wpAny_bind (wpAny_field hos hds (x := .none) rfl (wpAny_bind (wpAny_field hos hds (x := .none) rfl (wpAny_bind (wpAny_field hos hds (x := .int (-1) u) rfl (wpAny_pure ?_)))))))
  refine wpAny_bind (slicePart_int ?_)
  show wpAny _ _ (if ((-1 : Int) == 0) = true then _ else _) _ _ s
  rw [if_neg (by decide)]
  refine wpAny_bind (slicePart_none (wpAny_bind (slicePart_none (wpAny_bind (wpAny_pure ?_)))))
  show wpAny _ _ (pure (((n : Int) - 1), (-1 : Int), Builtin.Slice.slicePlaces ((n : Int) - 1) (-1) (-1))) _ _ s
  rw [show Builtin.Slice.slicePlaces ((n : Int) - 1) (-1) (-1) = n by
    unfold Builtin.Slice.slicePlaces
    rw [if_neg (by decide)]
    have e : (- (-1 : Int)) = 1 := by decide
    rw [e, Int.ediv_one]
    split <;> omega]
  exact wpAny_pure h
theorem filterMap_all {α β : Type} {f : α → Option β} {g : α → β} : ∀ {l : List α}, (∀ k ∈ l, f k = some (g k)) → l.filterMap f = l.map g
  | [], _ => rfl
  | a :: l, h => by
    rw [List.filterMap_cons, h a (List.mem_cons_self ..), List.map_cons, filterMap_all fun k hk => h k (List.mem_cons_of_mem _ hk)]
theorem back_pick (xs : List Value) : ((List.range xs.length).filterMap fun (k : Nat) => xs.toArray[(((xs.length : Nat) : Int) - 1 + (k : Int) * (-1)).toNat]?) = xs.reverse := by
  rw [filterMap_all (g := fun k => xs.getD (xs.length - 1 - k) .none) fun k hk => by
    have := List.mem_range.mp hk
    rw [List.getElem?_toArray, show (((xs.length : Nat) : Int) - 1 + (k : Int) * (-1)).toNat = xs.length - 1 - k by omega, List.getD_eq_getElem?_getD, List.getElem?_eq_getElem (by omega)]
    rfl]
  apply List.ext_getElem
  · simp
  · intro i h1 h2
    rw [List.length_map, List.length_range] at h1
    rw [List.getElem_map, List.getElem_range, List.getElem_reverse, List.getD_eq_getElem?_getD, List.getElem?_eq_getElem (by omega)]
    rfl
def tRevT (K : PySem.W.Frag) (te : TE) : TE := fun σ H Q => te σ H fun x H1 => ∃ a xs, x = .ref a ∧ SqT K H1 a xs ∧ ∀ p, H1 p = none → Q (.ref p) (upd H1 p (.tup xs.reverse))
theorem getItem_tuple_back {prog : Program} {w : World} {A : Around} {E : Value → Shared → Prop} {s : Shared} {t sl : Addr} {its : List Value} {u : Tok} {Q : Value → Shared → Prop} (ht : IsTup s.heap t its.toArray) (hs : s.heap.IsSliceOf sl .none .none (.int (-1) u))
    (h : Q (.ref s.heap.objs.size) { s with heap := s.heap.push { cls := .type "tuple", data := .seq its.reverse.toArray } })
    (hsz : its.length ≤ sizeLine) : wpAny (model prog w) A (getItem (.ref t) (.ref sl)) Q E s := by
  have htake : sizeOk (.seq its.reverse.toArray) := by
    show its.reverse.toArray.size ≤ sizeLine
    rw [List.size_toArray, List.length_reverse]
    exact hsz
  obtain ⟨os, hos, hcs, hds⟩ := id hs
  have hTs : s.TypeIs (.ref sl) "slice" := ⟨os, hos, hcs⟩
  unfold getItem
  try with_reducible refine wpAny_holding ?_
  first | refine wpAny_bind (wpAny_pure ?_) | skip
  refine wpAny_bind (wpAny_sequenceKey ht.typeIs (by decide) ?_)
  refine wpAny_bind (wpAny_callSpecial?_slot (name := Str.ofString "__getitem__") ht.typeIs PyProof.Rows.slot_tuple_getitem
    (wpAny_call_entry PyProof.Rows.slot_tuple_getitem ht.typeIs entry_tuple_getitem ?_ (args_tuple_getitem _ _)))
  show wpAny _ _ (Builtin.Tuple.tupleItemsOf (.ref t) >>= _) _ _ s
  refine wpAny_bind (tupleItemsOf_ ht ?_)
  refine wpAny_bind (wpAny_typeOf hTs ?_)
  rw [if_pos (by decide)]
  refine wpAny_bind (sliceApplied_back hs ?_)
  show wpAny _ _ (if (((its.toArray.size : Nat) : Int) - 1 == 0 && (-1 : Int) == 1 && its.toArray.size == its.toArray.size) = true then _ else _) _ _ s
  rw [if_neg (by rw [show ((-1 : Int) == 1) = false from rfl, Bool.and_false, Bool.false_and]; exact Bool.false_ne_true), List.size_toArray, back_pick]
  first
    | exact wpAny_bind (m := Builtin.Tuple.tupleExact _) (wpAny_newObj_type (wpAny_pure ⟨_, rfl, wpAny_pure h⟩) htake)
    | exact wpAny_bind (m := Builtin.Tuple.tupleExact _) (wpAny_newObj_type (wpAny_bind (wpAny_pure (wpAny_pure ⟨_, rfl, wpAny_pure h⟩))) htake)
    | exact wpAny_bind (wpAny_bind (m := Builtin.Tuple.tupleExact _) (wpAny_newObj_type (wpAny_pure (wpAny_pure ⟨_, rfl, wpAny_pure h⟩)) htake))
    | exact wpAny_bind (wpAny_bind (m := Builtin.Tuple.tupleExact _) (wpAny_newObj_type (wpAny_pure ⟨_, rfl, wpAny_pure h⟩) htake))
theorem pe_revT {e : Expr} {te : TE} {k : Nat} {p1 p2 p3 pos : Pos} (he : PE X e te) : PE X (.Subscript e (.Slice none none (some (.UnaryOp .USub (.Constant (.int 1) k p1) p2)) p3) pos) (tRevT X.K te) := by
  refine ⟨fun pins s σ H Q I h => ?_⟩
  refine Subscript_ (thn (he.run pins s σ H _ I h) fun v s1 ⟨x, H1, I1, r1, q1⟩ => ?_)
  obtain ⟨a, xs, ex, hx, q⟩ := q1
  subst ex
  cases r1
  have hst : PO X (some (.UnaryOp .USub (.Constant (.int 1) k p1) p2)) (tPart (tUn (rU fun i => .int (-i)) (tC (.int 1)))) := po_some (pe_un un_neg pe_int)
  refine wpAny_Slice (thn (po_none.run pins s1 σ H1 (fun o H2 => o = none ∧ H2 = H1) I1 ⟨rfl, rfl⟩) fun vl s2 ⟨l, H2, I2, pl, el, e2⟩ => ?_)
  subst el e2
  refine thn (po_none.run pins s2 σ H2 (fun o H3 => o = none ∧ H3 = H2) I2 ⟨rfl, rfl⟩) fun vu s3 ⟨u, H3, I3, pu, eu, e3⟩ => ?_
  subst eu e3
  refine thn (hst.run pins s3 σ H3 (fun o H4 => o = some (-1) ∧ H4 = H3) I3 ⟨1, rfl, -1, rfl, rfl, rfl⟩) fun vs s4 ⟨o, H4, I4, ps, eo, e4⟩ => ?_
  subst eo e4
  cases pl
  cases pu
  cases ps with | int _ tk => ?_
  have I5 : Inv X pins σ H4 { s4 with heap := s4.heap.push { cls := .type "slice", data := .fields #[.none, .none, .int (-1) tk] } } := I4.kept (t' := s4.toks) fun b ob q => Heap.get?_push_of_some _ q
  obtain ⟨its, r, ht, hz⟩ := I5.tuple hx
  have hlen := r.length
  show wpAny (model X.prog X.w) X.A (subscriptTail e (.Slice none none (some (.UnaryOp .USub (.Constant (.int 1) k p1) p2)) p3) (.ref a) (.ref s4.heap.objs.size)) (EP X pins σ Q) X.xe { s4 with heap := s4.heap.push { cls := .type "slice", data := .fields #[.none, .none, .int (-1) tk] } }
  refine tail_any (ops := [.ref a, .ref s4.heap.objs.size]) ht.typeIs PyProof.Rows.slot_tuple_getitem.lookup ?_ (by with_unfolding_all rfl)
  refine getItem_tuple_back ht (Heap.IsSliceOf.new _ _ _ _) ?_ (by omega)
  refine ⟨.ref _, _, I5.laid (t' := s4.toks) (o := .tup xs.reverse) (fun b ob q => Heap.get?_push_of_some _ q) (Nat.le_refl _) ?_, rfl, q _ (I5.hok.fresh (Nat.le_refl _))⟩
  exact ⟨by rw [List.length_reverse]; omega, its.reverse, r.reverse, IsTup.new _ _⟩

/-! ### len(set(tuples of ints)) -/
theorem len_le_sub {α : Type} [DecidableEq α] : ∀ {l l' : List α}, l.Nodup → (∀ x ∈ l, x ∈ l') → l.length ≤ l'.length
  | [], _, _, _ => Nat.zero_le _
  | a :: l, l', h, s => by
    have ha := s a (List.mem_cons_self ..)
    obtain ⟨h1, h2⟩ := List.nodup_cons.mp h
    have := len_le_sub (l := l) (l' := l'.erase a) h2 fun x hx => (List.mem_erase_of_ne (show x ≠ a from fun e => h1 (by rw [← e]; exact hx))).mpr (s x (List.mem_cons_of_mem _ hx))
    rw [List.length_erase_of_mem ha] at this
    have := List.length_pos_of_mem ha
    rw [List.length_cons]
    omega
def tLenSetT (K : PySem.W.Frag) (ta : TE) : TE := fun σ H Q => ta σ H fun x H1 => ∃ (l : Addr) (ks : List (Addr × List Int)), x = V.ref l ∧ SqL K H1 l (ks.map fun p => V.ref p.1) ∧ (∀ p ∈ ks, SqT K H1 p.1 (p.2.map V.int)) ∧ ks.length < 64 ∧ (ks.map (·.2)).Nodup ∧ Q (.int ks.length) H1
theorem pe_lenSetT {a : Expr} {ta : TE} {p p2 q pos : Pos} (hg : Gl X "len") (hm : X.mg "len" = none) (hg2 : Gl X "set") (hm2 : X.mg "set" = none) (ha : PE X a ta) (hu : X.A.units + 64 < cLine) (hc : X.calm = true := by rfl)
    (na : starEach [a] X.env = (false, eval a X.env) :: starEach [] X.env := by rfl) : PE X (.Call (.Name "len" p) [.Call (.Name "set" p2) [a] [] q] [] pos) (tLenSetT X.K ta) := by
  refine ⟨fun pins s σ H Q I h => ?_⟩
  refine Call_ (ld_blt I hg hm PySem.boot_len ?_)
  refine PyProof.Rows.callWith_builtin1 (PyProof.Rows.args_cons ?_ rfl) rfl rfl
  refine Call_ (ld_blt I hg2 hm2 PyProof.Rows.boot_set ?_)
  refine PyProof.Rows.callWith_type1 (PyProof.Rows.args_cons (thn (ha.run pins s σ H _ I h) fun v s1 ⟨x, H1, I1, r1, q1⟩ => PyProof.Rows.args_nil ?_) na) na rfl
  obtain ⟨l, ks, rfl, hq, hk, h1, hnd, q1⟩ := q1
  cases r1
  obtain ⟨its, r, pl, hz⟩ := I1.list hq
  have hn : H1 s1.heap.objs.size = none := I1.hok.fresh (Nat.le_refl _)
  refine call_set_tups (P := X.prog) (w := X.w) ks (I1.ok.hd hc) pl.isList (by simpa using refs_of_vals r) (fun p hp => I1.isT (hk p hp)) h1 (by omega) fun h' tk L es ep t R g k => ?_
  refine PyProof.Rows.args_nil ?_
  have I2 : Inv X pins σ H1 { s1 with heap := h', toks := tk } := I1.kept k
  have eL : es.size = ks.length := by
    rw [SetTR.size (s := { s1 with heap := h', toks := tk }) R]
    have a1 : L.length ≤ ks.length := g.len
    have a2 : (ks.map (·.2)).length ≤ (L.map (·.2)).length := len_le_sub hnd fun x hx => by
      obtain ⟨p, hp, e⟩ := List.mem_map.mp hx
      have := g.all p (by rw [List.take_length]; exact hp)
      rw [← e]
      exact this
    rw [List.length_map, List.length_map] at a2
    omega
  obtain ⟨o, ho, hex, hd⟩ := R.ob
  refine call_len_set ho hex hd (SetTR.fits (s := { s1 with heap := h', toks := tk }) R) (by rw [eL] <;> omega) ⟨.int ks.length, H1, I2.tok _, ⟨_, by rw [eL]⟩, q1⟩
end
theorem ixB {X : Cx} {K : PySem.W.Frag} (h : X.K = K := by rfl) : IxR X (ixR K) := by
  subst h
  exact ixA
/-! ### inside comprehensions: K by name -/
section
variable {X : Cx} {K : PySem.W.Frag}
theorem pg_tupB {es : List Expr} {k : Nat} {t : TGs} {n : Nat} {pos : Pos} (hK : X.K = K) (hc : X.calm = true) (h : PGs X es t)
    (hn : (assignEach es X.env).length = n := by rfl) (hst : (assignEach es X.env).findIdx? (·.1) = none := by rfl) : PG X (.Tuple es k pos) (gTup K n t) := by
  subst hK
  exact pg_tup hc h hn hst
theorem call_len_seqB (hK : X.K = K := by rfl) : CallR X (.builtin "len") (fun xs H Q => ∃ p ys, xs = [.ref p] ∧ (SqL K H p ys ∨ SqT K H p ys) ∧ Q (.int ys.length) H) := by
  subst hK
  exact call_len_seq
theorem call_tuple_ofB (hK : X.K = K := by rfl) : CallR X (.type "tuple") (fun xs H Q => ∃ p ys, xs = [.ref p] ∧ ((SqL K H p ys ∧ ∀ l, H l = none → Q (.ref l) (upd H l (.tup ys))) ∨ (SqT K H p ys ∧ Q (.ref p) H))) := by
  subst hK
  exact call_tuple_of
theorem op_neZB (hu : X.A.units + 64 < cLine) (hK : X.K = K := by rfl) : OpR X (compareOp .NotEq) (rZ K not) := by
  subst hK
  exact op_neZ hu
theorem op_eqZB (hu : X.A.units + 64 < cLine) (hK : X.K = K := by rfl) : OpR X (compareOp .Eq) (rZ K id) := by
  subst hK
  exact op_eqZ hu
theorem sl_listB (hK : X.K = K := by rfl) : SlR X (rSlL K) := by
  subst hK
  exact sl_list
theorem op_catAB (hK : X.K = K := by rfl) : OpR X (binaryOp .Add) (rCatA K) := by
  subst hK
  exact op_catA
theorem pa_starB {e : Expr} {es : List Expr} {te : TE} {t : TA} {p : Pos} (hK : X.K = K) (he : PE X e te) (hr : PA X es t) (hs : starEach (.Starred e p :: es) X.env = (true, eval e X.env) :: starEach es X.env := by rfl) : PA X (.Starred e p :: es) (StX.tStar K te t) := by
  subst hK
  exact StX.pa_star he hr hs
end
end EN
/-! Lines, codes, what is computed of them. -/
namespace EN
def polyOk (p : List Int) : Bool := decide (p.length ≤ 5) && p.all (fun c => decide (-1000 ≤ c) && decide (c ≤ 1000)) && (decide (p = []) || decide (lastL p ≠ 0))
theorem polyOk_iff {p : List Int} : polyOk p = true ↔ p.length ≤ 5 ∧ (∀ c ∈ p, -1000 ≤ c ∧ c ≤ 1000) ∧ (p = [] ∨ lastL p ≠ 0) := by
  unfold polyOk
  simp only [Bool.and_eq_true, Bool.or_eq_true, decide_eq_true_eq, List.all_eq_true, and_assoc]
def wholeF (row : List (List Int)) : List Int := row.foldl (fun w p => plusL w p 1) []
structure LineOk (L : Int × List (List (List Int))) (wide : Nat) : Prop where
  low1 : 1 ≤ L.1
  low2 : L.1 ≤ 4
  many1 : 2 ≤ L.2.length
  many2 : L.2.length ≤ 3
  wide1 : 2 ≤ wide
  wide2 : wide ≤ 3
  rows : ∀ row ∈ L.2, row.length = wide ∧ (∀ p ∈ row, polyOk p = true ∧ chOk p = true) ∧ wholeF row = [L.1]
structure WordOk (many long : Nat) (wd : List Int) : Prop where
  len : wd.length = long
  let_ : ∀ x ∈ wd, 0 ≤ x ∧ x < (many : Int)
structure CodeOk (many : Nat) (code : List (List Int × Int)) (long : Nat) : Prop where
  n1 : 1 ≤ code.length
  n2 : code.length ≤ 4
  l1 : 1 ≤ long
  l2 : long ≤ 3
  words : ∀ e ∈ code, WordOk many long e.1 ∧ 1 ≤ e.2 ∧ e.2 ≤ 3
  nd : (code.map (·.1)).Nodup
/-- the rows of so many letters -/
def rowsL (wide : Nat) : Nat → List (List Int)
  | 0 => [[]]
  | k + 1 => (rowsL wide k).flatMap fun row => (List.range wide).map fun (i : Nat) => row ++ [(i : Int)]
def tabAt (tab : List (List (List Int))) (a b : Int) : List Int := (tab.getD a.toNat []).getD b.toNat []
def chF (tab : List (List (List Int))) (word row : List Int) : List Int := (word.zip row).foldl (fun f ab => timesL f (tabAt tab ab.1 ab.2)) [1]
def lowestF (p : List Int) (low : Int) : List Int × Int := (p.map (· / ((gcdL (p ++ [low]) : Nat) : Int)), low / ((gcdL (p ++ [low]) : Nat) : Int))
def sumW (code : List (List Int × Int)) : Int := (code.map (·.2)).sum
def toldF (tab : List (List (List Int))) (code : List (List Int × Int)) (wide long : Nat) : List (List (List Int)) := (rowsL wide long).map fun row => code.map fun e => timesL [e.2] (chF tab e.1 row)
def rightF (told : List (List (List Int))) (low : Int) (reader : List Int) : List Int × Int := lowestF ((told.zip reader).foldl (fun f sa => plusL f (sa.1.getD sa.2.toNat []) 1) []) low
def gaStep (t l : Int) (some : List (List Int)) (found : Nat) (i : Nat) : Nat := if 0 < signAtF (plusL (some.getD i []) (some.getD found []) (-1)) t l then i else found
def gaF (t l : Int) (some : List (List Int)) : Nat := (List.range some.length).foldl (gaStep t l some) 0
def readerF (t l : Int) (told : List (List (List Int))) : List Int := told.map fun some => ((gaF t l some : Nat) : Int)
def atF (p : List Int × Int) (t l : Int) : Int × Int := redF (redF (hNum p.1 t l) (l ^ (p.1.length - 1))).1 ((redF (hNum p.1 t l) (l ^ (p.1.length - 1))).2 * p.2)

/-! ### sizes of coefficients -/
def Cb (B : Nat) (p : List Int) : Prop := ∀ k, (coef p k).natAbs ≤ B
theorem cb_of {B : Nat} {p : List Int} (h : ∀ c ∈ p, c.natAbs ≤ B) : Cb B p := fun k => by
  by_cases hk : k < p.length
  · have := get_coef hk
    exact h _ (List.mem_of_getElem? this)
  · rw [coef_ge (by omega)]
    simp
theorem cb_mem {B : Nat} {p : List Int} (h : Cb B p) : ∀ c ∈ p, c.natAbs ≤ B := fun c hc => by
  obtain ⟨i, hi, e⟩ := List.getElem_of_mem hc
  have := h i
  rw [coef_get (by rw [List.getElem?_eq_getElem hi, e])] at this
  exact this
theorem cb_mono {A B : Nat} {p : List Int} (h : Cb A p) (hb : A ≤ B) : Cb B p := fun k => Nat.le_trans (h k) hb
theorem cb_plus {A B : Nat} {p q : List Int} {m : Int} (hp : Cb A p) (hq : Cb B q) : Cb (A + m.natAbs * B) (plusL p q m) := fun k => by
  rw [coef_plusL]
  have h1 := hp k
  have h2 := hq k
  have h3 : (m * coef q k).natAbs ≤ m.natAbs * B := by rw [Int.natAbs_mul]; exact Nat.mul_le_mul_left _ h2
  omega
theorem cb_mul {A B : Nat} {q : List Int} (hq : Cb B q) : ∀ (p : List Int), Cb A p → Cb (p.length * (A * B)) (mulL p q)
  | [], _ => fun k => by simp [mulL, coef_nil]
  | a :: p, hp => fun k => by
    have ha : a.natAbs ≤ A := hp 0
    have ih := cb_mul hq p (fun k => by have := hp (k + 1); rwa [coef_succ] at this)
    rw [coef_mulL_cons]
    have h2 := hq k
    have h3 : (a * coef q k).natAbs ≤ A * B := by rw [Int.natAbs_mul]; exact Nat.mul_le_mul ha h2
    have h4 : (if k = 0 then (0 : Int) else coef (mulL p q) (k - 1)).natAbs ≤ p.length * (A * B) := by
      by_cases hk : k = 0
      · rw [if_pos hk]; simp
      · rw [if_neg hk]; exact ih (k - 1)
    rw [List.length_cons, Nat.succ_mul]
    omega
theorem cb_times {A B n : Nat} {p q : List Int} (hp : Cb A p) (hq : Cb B q) (hn : p.length ≤ n) : Cb (n * (A * B)) (timesL p q) := fun k => by
  unfold timesL
  rw [coef_cut]
  exact Nat.le_trans (cb_mul hq p hp k) (Nat.mul_le_mul_right _ hn)
theorem cb_sm {B : Nat} {p : List Int} (h : Cb B p) (hb : B ≤ 1000000000000000000) : ∀ c ∈ p, Sm c := fun c hc => sm_of (n := B) (cb_mem h c hc) hb
theorem rowsL_len (wide k : Nat) : (rowsL wide k).length = wide ^ k := by
  induction k with
  | zero => rfl
  | succ k ih =>
    show ((rowsL wide k).flatMap fun row => (List.range wide).map fun (i : Nat) => row ++ [(i : Int)]).length = _
    rw [List.length_flatMap]
    simp only [List.length_map, List.length_range]
    rw [List.map_const', List.sum_replicate_nat, ih, Nat.pow_succ]
theorem rowsL_ok (wide k : Nat) : ∀ row ∈ rowsL wide k, WordOk wide k row := by
  induction k with
  | zero =>
    intro row h
    have e : row = [] := by simpa [rowsL] using h
    subst e
    exact ⟨rfl, fun x h => by simp at h⟩
  | succ k ih =>
    intro row h
    obtain ⟨r, hr, h2⟩ := List.mem_flatMap.mp h
    obtain ⟨i, hi, rfl⟩ := List.mem_map.mp h2
    have hi := List.mem_range.mp hi
    refine ⟨by rw [List.length_append, (ih r hr).len]; rfl, fun x hx => ?_⟩
    rcases List.mem_append.mp hx with hx | hx
    · exact (ih r hr).let_ x hx
    · have e : x = (i : Int) := by simpa using hx
      subst e
      omega
/-- chances: how long, how large -/
def chB : Nat → Nat
  | 0 => 1
  | i + 1 => (1 + 5 * i) * (chB i * 1000)
theorem chB_mono (i : Nat) : chB i ≤ chB (i + 1) := by
  show chB i ≤ (1 + 5 * i) * (chB i * 1000)
  calc chB i ≤ chB i * 1000 := by omega
    _ = 1 * (chB i * 1000) := by omega
    _ ≤ (1 + 5 * i) * (chB i * 1000) := Nat.mul_le_mul_right _ (by omega)
theorem polyOk_cb {p : List Int} (h : polyOk p = true) : Cb 1000 p := cb_of fun c hc => by
  have := (polyOk_iff.mp h).2.1 c hc
  omega
abbrev chStep (tab : List (List (List Int))) (f : List Int) (ab : Int × Int) : List Int := timesL f (tabAt tab ab.1 ab.2)
theorem ch_bound (tab : List (List (List Int))) (zs : List (Int × Int)) : (∀ ab ∈ zs, polyOk (tabAt tab ab.1 ab.2) = true) → (zs.foldl (chStep tab) [1]).length ≤ 1 + 5 * zs.length ∧ Cb (chB zs.length) (zs.foldl (chStep tab) [1]) := by
  induction zs using snoc_ind with
  | h0 => exact fun _ => ⟨by simp, cb_of fun c hc => by
      have e : c = 1 := by simpa using hc
      subst e
      decide⟩
  | hs l x ih =>
    intro h
    obtain ⟨h1, h2⟩ := ih fun ab hab => h ab (List.mem_append_left _ hab)
    have hx := h x (List.mem_append_right _ (by simp))
    rw [List.foldl_append]
    show (timesL _ _).length ≤ _ ∧ Cb _ (timesL _ _)
    rw [List.length_append, List.length_singleton]
    refine ⟨?_, cb_times h2 (polyOk_cb hx) h1⟩
    have := timesL_len (l.foldl (chStep tab) [1]) (tabAt tab x.1 x.2)
    have := (polyOk_iff.mp hx).1
    omega
theorem tab_at {L : Int × List (List (List Int))} {wide : Nat} (ok : LineOk L wide) {a b : Int} (ha : 0 ≤ a ∧ a < (L.2.length : Int)) (hb : 0 ≤ b ∧ b < (wide : Int)) : ∃ row, L.2[a.toNat]? = some row ∧ row[b.toNat]? = some (tabAt L.2 a b) ∧ row.length = wide ∧ polyOk (tabAt L.2 a b) = true := by
  have h1 : a.toNat < L.2.length := by omega
  have hm := List.getElem_mem h1
  obtain ⟨hl, hp, _⟩ := ok.rows _ hm
  have h2 : b.toNat < (L.2[a.toNat]).length := by omega
  have e : tabAt L.2 a b = (L.2[a.toNat])[b.toNat] := by
    unfold tabAt
    rw [List.getD_eq_getElem?_getD, List.getD_eq_getElem?_getD, List.getElem?_eq_getElem h1]
    show ((L.2[a.toNat])[b.toNat]?).getD [] = _
    rw [List.getElem?_eq_getElem h2]
    rfl
  refine ⟨_, List.getElem?_eq_getElem h1, ?_, hl, ?_⟩
  · rw [List.getElem?_eq_getElem h2, e]
  · rw [e]
    exact (hp _ (List.getElem_mem h2)).1
theorem zip_ok {many wide n : Nat} {word row : List Int} (hw : WordOk many n word) (hr : WordOk wide n row) : ∀ ab ∈ word.zip row, (0 ≤ ab.1 ∧ ab.1 < (many : Int)) ∧ (0 ≤ ab.2 ∧ ab.2 < (wide : Int)) := fun ab h => by
  obtain ⟨h1, h2⟩ := List.of_mem_zip (a := ab.1) (b := ab.2) h
  exact ⟨hw.let_ _ h1, hr.let_ _ h2⟩
theorem chF_bound {L : Int × List (List (List Int))} {wide n : Nat} (ok : LineOk L wide) {word row : List Int} (hw : WordOk L.2.length n word) (hr : WordOk wide n row) (hn : n ≤ 3) : (chF L.2 word row).length ≤ 16 ∧ Cb 66000000000 (chF L.2 word row) := by
  have hz : (word.zip row).length = n := by rw [List.length_zip, hw.len, hr.len, Nat.min_self]
  obtain ⟨h1, h2⟩ := ch_bound L.2 (word.zip row) fun ab hab => by
    obtain ⟨q1, q2⟩ := zip_ok hw hr ab hab
    obtain ⟨_, _, _, _, q⟩ := tab_at ok q1 q2
    exact q
  rw [hz] at h1 h2
  refine ⟨Nat.le_trans h1 (by omega), cb_mono h2 ?_⟩
  have e3 : chB 3 = 66000000000 := by decide
  rcases (show n = 0 ∨ n = 1 ∨ n = 2 ∨ n = 3 by omega) with rfl | rfl | rfl | rfl
  · decide
  · decide
  · decide
  · decide
theorem redF_pos {t l : Int} (h : 0 < l) : 0 < (redF t l).2 := Int.ediv_pos_of_pos_of_dvd h (by omega) (Int.gcd_dvd_right ..)
theorem redF_le {t l : Int} (h : 0 < l) : (redF t l).2 ≤ l := by
  have : (0 : Int) ≤ (Int.gcd t l : Int) := by omega
  exact Int.ediv_le_self _ (by omega)
end EN
namespace EN
open PySem PySem.Spec PyProof.Rows L2
theorem lst_at {H : Hp} {v : V} {p : List Int} (h : Lst rI_ H v p) : ∃ a, v = .ref a ∧ H a = some (.lst (p.map V.int)) := by
  obtain ⟨a, xs, e, h, q⟩ := h
  exact ⟨a, e, by rw [h, pairedI q]⟩
theorem zs_lst' {K : PySem.W.Frag} {H : Hp} {v : V} {p : List Int} (h : Lst rI_ H v p) : Zs K H v p := by
  obtain ⟨a, rfl, h2⟩ := lst_at h
  exact zs_lst h2
theorem lst_ref {H : Hp} {a : Addr} {p : List Int} (h : Lst rI_ H (.ref a) p) : H a = some (.lst (p.map V.int)) := by
  obtain ⟨b, e, h⟩ := lst_at h
  cases e
  exact h
theorem lc_ints {K : PySem.W.Frag} {a : Addr} {p : List Int} {g : TG} {te : TE} {vs : List Nat} {σ : L2.St} {H1 : Hp} {Q : Addr → Hp → Prop} (h : SqL K H1 a (p.map V.int) ∨ SqT K H1 a (p.map V.int)) (hn : p.length ≤ 1000000) (f : Int → Int)
    (hs : ∀ c ∈ p, ∀ H', Same H1 H' → ∀ C : V → Hp → Prop, C (.int (f c)) H' → g (.int c) (wipe σ vs) H' fun σ2 H2 => wipe σ2 vs = wipe σ vs ∧ te σ2 H2 C)
    (hd : ∀ v H', Same H1 H' → H' v = some (.lst ((p.map f).map V.int)) → Q v H') :
    ∃ (a' : Addr) (xs' : List V), V.ref a = .ref a' ∧ ((SqL K H1 a' xs' ∧ LcLoop (Itl K a') g tYes te vs σ H1 Q) ∨ (SqT K H1 a' xs' ∧ LcLoop (Itt K a') g tYes te vs σ H1 Q)) :=
  lc_mapS (r := rI_) h (by rw [List.length_map]; exact hn) (fun i => f (p.getD i 0)) (fun i x H' hx sm C hC => by
    obtain ⟨c, hc, rfl⟩ := ints_get hx
    refine hs c (List.mem_of_getElem? hc) H' sm C (hC _ H' (Same.refl _) ?_)
    rw [List.getD_eq_getElem?_getD, hc]
    rfl) fun v H' sm hv => hd v H' sm (by rw [List.length_map, range_map_get] at hv; exact lst_ref hv)
theorem getLast_lastL {p : List Int} (h : p ≠ []) : (p.map V.int).getLast? = some (.int (lastL p)) := by
  rw [List.getLast?_map, List.getLast?_eq_some_getLast h, lastL, List.getLastD_eq_getLast?, List.getLast?_eq_some_getLast h]
  rfl
theorem ix_last {K : PySem.W.Frag} {H : Hp} {a : Addr} {p : List Int} {Q : VK} (h : SqL K H a (p.map V.int) ∨ SqT K H a (p.map V.int)) (hp : p ≠ []) (q : Q (.int (lastL p)) H) : ixR K (.ref a) (.int (-1)) H Q := by
  rcases h with h | h
  · exact .inl ⟨a, _, -1, _, rfl, rfl, h, atI_last' (getLast_lastL hp), q⟩
  · exact .inr ⟨a, _, -1, _, rfl, rfl, h, atI_last' (getLast_lastL hp), q⟩
theorem okP_iff {p : List Int} : okP p = true ↔ p.length ≤ 8 ∧ (∀ c ∈ p, c.natAbs < 1073741824) ∧ gcdL p < 1073741824 := by
  unfold okP
  rw [Bool.and_eq_true, Bool.and_eq_true, decide_eq_true_eq, decide_eq_true_eq, List.all_eq_true]
  simp only [decide_eq_true_eq, and_assoc]
theorem okP_sm {p : List Int} (h : okP p = true) : ∀ c ∈ p, Sm c := fun c hc => sm_of (n := 1073741824) (Nat.le_of_lt ((okP_iff.mp h).2.1 c hc))
theorem okP_last {p : List Int} (h : okP p = true) (hp : p ≠ []) : Sm (lastL p) := okP_sm h _ (by
  rw [lastL, List.getLastD_eq_getLast?, List.getLast?_eq_some_getLast hp]
  exact List.getLast_mem hp)
section
variable {P : Program} {w : World} {K : PySem.W.Frag} {mg : Str → Option Value} {base : Heap} {f : Addr} {fd : FuncData}

/-! ### plain -/
-- slots: 0 one, 1 part*, 2 number
abbrev s_plain : Stmt := topS 15
theorem sc_plain : FnScope ["one", "part", "number"] ["one"] (C8.fnScope s_plain) := C8.fnScope_by (by decide +kernel)
def sp_plain (K : PySem.W.Frag) : Sp := fun vs H Q _ => ∃ v p, vs = [v] ∧ Zs K H v p ∧ okP p = true ∧ ∀ r H', Same H H' → Poly H' r (plainF p) → Q r H'
theorem cal_plain (D : C8.Def K mg "plain" s_plain f fd) (df : fd.defaults = .none) (T : Tx K mg) (c_divisor_of : C8.Cal P w K mg base 1 "divisor_of" (sp_divisor_of K) []) : C8.Cal P w K mg base 2 "plain" (sp_plain K) [] := by
  refine C8.cal0 D (D.fn.binds df (ps := ["one"]) fun _ _ _ _ _ _ us hl => match us, hl with | [_], _ => rfl) .nil sc_plain (fun vs H Q E h => ?_) (fun cdv A outer s H vs Q E hr h => ?_)
  · obtain ⟨v, p, rfl, _⟩ := h
    rfl
  · obtain ⟨v, p, rfl, ⟨a, rfl, hz⟩, hok, q⟩ := h
    obtain ⟨hl, hc, hg⟩ := okP_iff.mp hok
    refine ⟨_, (pss_cons (ps_set (i := 1) sc_plain.nd rfl (.inr rfl) (C8.pe_c c_divisor_of hr (by decide) (by rfl) (pa_cons (pv 0) pa_nil)))
      (pss_cons (ps_if (pt_cmpR op_eq (pv 1) pe_int (nomark _))
        (pss_one (ps_ret (pe_tup pa_nil)))
        pss_nil)
      (pss_cons (ps_set (i := 1) sc_plain.nd rfl (.inr rfl) (pe_ifExp (pt_cmpR op_lt (pe_ix ixA (pv 0) (pe_un un_neg pe_int) (fun _ _ => rfl)) pe_int (nomark _)) (pe_un un_neg (pv 1)) (pv 1)))
      (pss_one (ps_ret (pe_callTy call_tuple_of (by rfl) T.tuple_ (by decide +kernel) (pa_cons (pe_lc (own := [("number", 2)]) (by rfl) sc_plain.nd (pi_seq (pv 0)) (blkOk_by (N := ["one", "part", "number"]) (sc := C8.fnScope s_plain) (by decide +kernel)) (fun _ _ _ _ _ => (pg_name (i := 2) sc_plain.nd rfl (.inl rfl))) (fun _ _ _ _ _ => pts_nil) (fun _ _ _ _ _ => (pe_op op_fdivN (pv 2) (pv 1)))) pa_nil))))))), ?_⟩
    refine ⟨_, rfl, _, p, rfl, ⟨a, rfl, hz⟩, ?_⟩
    refine ⟨_, rfl, rfl, _, rfl, ite2 (fun h0 => ?_) (fun h0 => ?_)⟩
    · have e0 : gcdL p = 0 := by
        have := of_decide_eq_true h0
        exact Int.ofNat.inj (V.int.inj this)
      refine ⟨Nat.zero_le _, fun t nt => q _ _ (same_new nt) (poly_of ?_)⟩
      rw [upd_same, plainF, if_pos e0]
      rfl
    · have e0 : gcdL p ≠ 0 := fun e => h0 (decide_eq_true (by rw [e]; rfl))
      have hp : p ≠ [] := fun e => e0 (by rw [e]; rfl)
      have hg1 : (1 : Int) ≤ ((gcdL p : Nat) : Int) := by omega
      refine ⟨_, rfl, _, rfl, ix_last hz hp ?_⟩
      refine ⟨_, _, rfl, rfl, _, rfl, ?_⟩
      by_cases hb : lastL p < 0
      · rw [decide_eq_true hb]
        refine iteT ⟨_, rfl, _, rfl, ?_⟩
        refine ⟨_, rfl, lc_ints hz (by omega) (fun c => c.fdiv (-((gcdL p : Nat) : Int))) (fun c hc H' sm C hC => ⟨rfl, _, rfl, _, rfl, _, _, rfl, rfl, ⟨by omega, by omega⟩, hC⟩) fun l H' sm hl => ?_⟩
        refine ⟨l, _, rfl, .inl ⟨sql hl, fun t nt => q _ _ (sm.trans (same_new nt)) (poly_of ?_)⟩⟩
        rw [upd_same, plainF, if_neg e0, if_pos hb]
      · rw [decide_eq_false hb]
        refine iteF ⟨_, rfl, ?_⟩
        refine ⟨_, rfl, lc_ints hz (by omega) (fun c => c.fdiv ((gcdL p : Nat) : Int)) (fun c hc H' sm C hC => ⟨rfl, _, rfl, _, rfl, _, _, rfl, rfl, ⟨by omega, by omega⟩, hC⟩) fun l H' sm hl => ?_⟩
        refine ⟨l, _, rfl, .inl ⟨sql hl, fun t nt => q _ _ (sm.trans (same_new nt)) (poly_of ?_)⟩⟩
        rw [upd_same, plainF, if_neg e0, if_neg hb]

theorem mapmul_len (p : List Int) (m : Int) : (p.map (m * ·)).length = p.length := List.length_map _
theorem gapF_len (n : Int) : (gapF n).length = n.toNat := List.length_replicate
theorem gap_flat (n : Nat) : (List.replicate n [V.int 0]).flatten = (List.replicate n (0 : Int)).map V.int := by rw [rep1, List.map_replicate]
theorem sm_neg {x : Int} (h : Sm x) : Sm (-x) := by
  unfold Sm at *
  omega
/-! ### lowered -/
-- slots: 0 one, 1 other*, 2 gap, 3 number
abbrev s_lowered : Stmt := topS 16
theorem sc_lowered : FnScope ["one", "other", "gap", "number"] ["one", "other"] (C8.fnScope s_lowered) := C8.fnScope_by (by decide +kernel)
def sp_lowered (K : PySem.W.Frag) : Sp := fun vs H Q _ => ∃ v u p q n r, vs = [v, u] ∧ Poly H v p ∧ Poly H u q ∧ lowF n p q = some r ∧ ∀ x H', Same H H' → Poly H' x r → Q x H'
theorem cal_lowered (D : C8.Def K mg "lowered" s_lowered f fd) (df : fd.defaults = .none) (T : Tx K mg) (c_plus : C8.Cal P w K mg base 2 "plus" (sp_plus K) []) (c_plain : C8.Cal P w K mg base 2 "plain" (sp_plain K) []) : C8.Cal P w K mg base 3 "lowered" (sp_lowered K) [] := by
  refine C8.cal0 D (D.fn.binds df (ps := ["one", "other"]) fun _ _ _ _ _ _ us hl => match us, hl with | [_, _], _ => rfl) .nil sc_lowered (fun vs H Q E h => ?_) (fun cdv A outer s H vs Q E hr h => ?_)
  · obtain ⟨v, u, p, q, n, r, rfl, _⟩ := h
    rfl
  · obtain ⟨v, u, p, q, n, r, rfl, hv, hu, hlow, k⟩ := h
    obtain ⟨b, rfl, hb⟩ := poly_at hu
    refine ⟨_, (pss_cons (ps_while PassesOwn.never (pt_cmpR op_ge (pe_callB call_len_seq (by rfl) T.len_ (by decide +kernel) (pa_cons (pv 0) pa_nil)) (pe_callB call_len_seq (by rfl) T.len_ (by decide +kernel) (pa_cons (pv 1) pa_nil)) (nomark _))
        (pss_cons (ps_set (i := 2) sc_lowered.nd rfl (.inl rfl) (pe_op op_repA (pe_tup (pa_cons pe_int pa_nil)) (pe_op op_sub (pe_callB call_len_seq (by rfl) T.len_ (by decide +kernel) (pa_cons (pv 0) pa_nil)) (pe_callB call_len_seq (by rfl) T.len_ (by decide +kernel) (pa_cons (pv 1) pa_nil)))))
        (pss_one (ps_set (i := 0) sc_lowered.nd rfl (.inl rfl) (C8.pe_c c_plain hr (by decide) (by rfl) (pa_cons (C8.pe_c c_plus hr (by decide) (by rfl) (pa_cons (pe_lc (own := [("number", 3)]) (by rfl) sc_lowered.nd (pi_seq (pv 0)) (blkOk_by (N := ["one", "other", "gap", "number"]) (sc := C8.fnScope s_lowered) (by decide +kernel)) (fun _ _ _ _ _ => (pg_name (i := 3) sc_lowered.nd rfl (.inl rfl))) (fun _ _ _ _ _ => pts_nil) (fun _ _ _ _ _ => (pe_op op_mul (pe_ix (ixB (K := K)) (pv 1) (pe_un un_neg pe_int) (fun _ _ => rfl)) (pv 3)))) (pa_cons (pe_tup (StX.pa_star (pv 2) (StX.pa_star (pv 1) pa_nil))) (pa_cons (pe_un un_neg (pe_ix ixA (pv 0) (pe_un un_neg pe_int) (fun _ _ => rfl))) pa_nil)))) pa_nil))))))
      (pss_one (ps_ret (pv 0)))), ?_⟩
    refine ⟨fun m σ' H' => Same H H' ∧ ∃ a p' x2, σ' = [some (.ref a), some (.ref b), x2, none] ∧ H' a = some (.tup (p'.map V.int)) ∧ lowF m p' q = some r, ?_, ?_⟩
    · obtain ⟨a, rfl, ha⟩ := poly_at hv
      exact ⟨n, Same.refl _, a, p, none, rfl, ha, hlow⟩
    · rintro m σ' H' ⟨sm, a, p', x2, rfl, ha, hf⟩
      have hb' := sm _ _ hb
      cases m with
      | zero => cases hf
      | succ m =>
        unfold lowF at hf
        refine ⟨_, rfl, a, _, rfl, .inr (sqt ha), _, rfl, b, _, rfl, .inr (sqt hb'), ?_⟩
        rw [List.length_map, List.length_map]
        refine ⟨_, _, rfl, rfl, _, rfl, ?_⟩
        by_cases hle : q.length ≤ p'.length
        · rw [if_pos hle] at hf
          by_cases hok : (okP p' && okP q && !q.isEmpty && okP (plusL (p'.map (lastL q * ·)) (gapF ((p'.length : Int) - q.length) ++ q) (-(lastL p')))) = true
          · rw [if_pos hok] at hf
            simp only [Bool.and_eq_true] at hok
            obtain ⟨⟨⟨hp, hq⟩, hne⟩, hr'⟩ := hok
            rw [decide_eq_true (show (p'.length : Int) ≥ (q.length : Int) by omega)]
            refine iteT ⟨fun σ' H2 => ∃ m', m' < m + 1 ∧ (Same H H2 ∧ ∃ a p' x2, σ' = [some (.ref a), some (.ref b), x2, none] ∧ H2 a = some (.tup (p'.map V.int)) ∧ lowF m' p' q = some r), fun σ' H' h => h, ?_⟩
            -- gap
            refine ⟨by show 1 ≤ sizeLine; decide, fun z0 nz0 => ?_⟩
            have s0 := same_new (o := .tup [V.int 0]) nz0
            refine ⟨_, rfl, a, _, rfl, .inr (sqt (s0 _ _ ha)), _, rfl, b, _, rfl, .inr (sqt (s0 _ _ hb')), _, _, rfl, rfl, ?_⟩
            rw [List.length_map, List.length_map]
            have hpl := (okP_iff.mp hp).1
            refine ⟨z0, _, _, rfl, rfl, upd_same, by simp, by omega, by omega, by simp, fun z1 H2 s1 hz1 => ?_⟩
            rw [gap_flat] at hz1
            have sa := s0.trans s1
            -- plain(plus([..], (*gap, *other), -one[-1]))
            have pne : p' ≠ [] := fun e => by
              rw [e] at hle
              cases q with
              | nil => simp at hne
              | cons => simp at hle
            have qne : q ≠ [] := fun e => by simp [e] at hne
            refine ⟨_, rfl, lc_ints (.inr (sqt (sa _ _ ha))) (by omega) (fun c => lastL q * c) (fun c hc H' sm C hC => ⟨rfl, _, rfl, _, rfl, ix_last (.inr (sqt (sm _ _ (sa _ _ hb')))) qne ⟨_, rfl, _, _, rfl, rfl, .inl (okP_last hq qne), hC⟩⟩) fun l H3 s3 hl => ?_⟩
            have sa3 := sa.trans s3
            refine ⟨_, rfl, z1, _, rfl, .inl (sqt (s3 _ _ hz1)), _, rfl, b, _, rfl, .inl (sqt (sa3 _ _ hb')), line_le ?_, fun t nt => ?_⟩
            · simp only [List.length_append, List.length_map, List.length_replicate, List.length_nil]
              have := (okP_iff.mp hq).1
              omega
            have s4 := same_new (o := .tup ((List.map V.int (List.replicate ((p'.length : Int) - (q.length : Int)).toNat 0)) ++ (List.map V.int q ++ []))) nt
            have hgo : (List.map V.int (List.replicate ((p'.length : Int) - (q.length : Int)).toNat 0)) ++ (List.map V.int q ++ []) = (gapF ((p'.length : Int) - q.length) ++ q).map V.int := by
              rw [List.append_nil, List.map_append]
              rfl
            refine ⟨_, rfl, _, rfl, ix_last (.inr (sqt (s4 _ _ (sa3 _ _ ha)))) pne ⟨_, rfl, ?_⟩⟩
            refine ⟨_, _, p'.map (lastL q * ·), gapF ((p'.length : Int) - q.length) ++ q, _, rfl, zs_lst (s4 _ _ hl), zs_poly (poly_of ?_), ?_, ?_, .inl (sm_neg (okP_last hp pne)), fun r1 H5 s5 hr1 => ?_⟩
            · rw [upd_same, hgo]
            · rw [List.length_map]; omega
            · rw [List.length_append, gapF_len]
              have := (okP_iff.mp hq).1
              omega
            refine ⟨_, _, rfl, zs_poly hr1, hr', fun r2 H6 s6 hr2 => ?_⟩
            obtain ⟨a2, rfl, ha2⟩ := poly_at hr2
            exact ⟨m, Nat.lt_succ_self _, sm.trans (sa3.trans (s4.trans (s5.trans s6))), a2, _, _, rfl, ha2, hf⟩
          · rw [if_neg hok] at hf
            cases hf
        · rw [if_neg hle] at hf
          rw [decide_eq_false (show ¬ (p'.length : Int) ≥ (q.length : Int) by omega)]
          refine iteF ⟨_, rfl, k _ _ sm ?_⟩
          rw [← Option.some.inj hf]
          exact poly_of ha

/-! ### shared -/
-- slots: 0 one, 1 other
abbrev s_shared : Stmt := topS 17
theorem sc_shared : FnScope ["one", "other"] ["one", "other"] (C8.fnScope s_shared) := C8.fnScope_by (by decide +kernel)
def sp_shared (K : PySem.W.Frag) : Sp := fun vs H Q _ => ∃ v u p q r, vs = [v, u] ∧ Zs K H v p ∧ Zs K H u q ∧ sharedF p q = some r ∧ ∀ x H', Same H H' → Poly H' x r → Q x H'
theorem cal_shared (D : C8.Def K mg "shared" s_shared f fd) (df : fd.defaults = .none) (T : Tx K mg) (c_plain : C8.Cal P w K mg base 2 "plain" (sp_plain K) []) (c_lowered : C8.Cal P w K mg base 3 "lowered" (sp_lowered K) []) : C8.Cal P w K mg base 4 "shared" (sp_shared K) [] := by
  refine C8.cal0 D (D.fn.binds df (ps := ["one", "other"]) fun _ _ _ _ _ _ us hl => match us, hl with | [_, _], _ => rfl) .nil sc_shared (fun vs H Q E h => ?_) (fun cdv A outer s H vs Q E hr h => ?_)
  · obtain ⟨v, u, p, q, r, rfl, _⟩ := h
    rfl
  · obtain ⟨v, u, p, q, r, rfl, hv, hu, hf, k⟩ := h
    unfold sharedF at hf
    by_cases hok : (okP p && okP q) = true
    · rw [if_pos hok] at hf
      rw [Bool.and_eq_true] at hok
      refine ⟨_, (pss_cons (ps_par (i := 0) (j := 1) rfl sc_shared.nd rfl rfl (by decide) rfl rfl (pa_cons (C8.pe_c c_plain hr (by decide) (by rfl) (pa_cons (pv 0) pa_nil)) (pa_cons (C8.pe_c c_plain hr (by decide) (by rfl) (pa_cons (pv 1) pa_nil)) pa_nil)) (by rfl))
      (pss_cons (ps_while PassesOwn.never (pt_cmpR (op_neZ hr.units) (pv 1) (pe_tup pa_nil) (nomark _))
        (pss_cons (ps_if (pt_cmpR op_eq (pe_callB call_len_seq (by rfl) T.len_ (by decide +kernel) (pa_cons (pv 1) pa_nil)) pe_int (nomark _))
          (pss_one (ps_ret (pe_tup (pa_cons pe_int pa_nil))))
          pss_nil)
        (pss_one (ps_par (i := 0) (j := 1) rfl sc_shared.nd rfl rfl (by decide) rfl rfl (pa_cons (pv 1) (pa_cons (C8.pe_c c_lowered hr (by decide) (by rfl) (pa_cons (pv 0) (pa_cons (pv 1) pa_nil))) pa_nil)) (by rfl)))))
      (pss_one (ps_ret (pv 0))))), ?_⟩
      refine ⟨_, rfl, _, _, rfl, hv, hok.1, fun r1 H1 s1 hr1 => ⟨_, rfl, _, _, rfl, zs_keep s1 hu, hok.2, fun r2 H2 s2 hr2 => ?_⟩⟩
      refine ⟨_, _, rfl, fun m σ' H' => Same H H' ∧ ∃ x y p' q', σ' = [some x, some y] ∧ Poly H' x p' ∧ Poly H' y q' ∧ shF m p' q' = some r, ⟨20, s1.trans s2, _, _, _, _, rfl, keep s2 hr1, hr2, hf⟩, ?_⟩
      rintro m σ' H' ⟨sm, x, y, p', q', rfl, hx, hy, hf⟩
      cases m with
      | zero => cases hf
      | succ m =>
        unfold shF at hf
        obtain ⟨b, rfl, hb⟩ := poly_at hy
        refine ⟨_, rfl, Nat.zero_le _, fun e ne => ?_⟩
        have se := same_new (o := .tup []) ne
        refine ⟨_, _, q', [], rfl, rfl, .inr ⟨sqt (se _ _ hb), sqt upd_same⟩, _, rfl, ?_⟩
        by_cases h0 : q' = []
        · rw [if_pos h0] at hf
          rw [decide_eq_true h0]
          refine iteF ⟨_, rfl, k _ _ (sm.trans se) ?_⟩
          rw [← Option.some.inj hf]
          exact keep se hx
        · rw [if_neg h0] at hf
          rw [decide_eq_false h0]
          refine iteT ⟨fun σ' H2 => ∃ m', m' < m + 1 ∧ (Same H H2 ∧ ∃ x y p' q', σ' = [some x, some y] ∧ Poly H2 x p' ∧ Poly H2 y q' ∧ shF m' p' q' = some r), fun σ' H' h => h, ?_⟩
          refine ⟨_, rfl, b, _, rfl, .inr (sqt (se _ _ hb)), rfl, _, rfl, ?_⟩
          by_cases h1 : q'.length = 1
          · rw [if_pos h1] at hf
            rw [List.length_map, decide_eq_true (show V.int ((q'.length : Nat) : Int) = .int 1 by rw [h1]; rfl)]
            refine iteT ⟨by show 1 ≤ sizeLine; decide, fun t nt => k _ _ (sm.trans (se.trans (same_new nt))) ?_⟩
            rw [← Option.some.inj hf]
            exact poly_of upd_same
          · rw [if_neg h1] at hf
            rw [List.length_map, decide_eq_false (show ¬ V.int ((q'.length : Nat) : Int) = .int 1 from fun e => h1 (by
              have := V.int.inj e
              omega))]
            refine iteF ?_
            cases hl : lowF 20 p' q' with
            | none => rw [hl] at hf; cases hf
            | some z =>
              rw [hl] at hf
              refine ⟨_, rfl, _, rfl, _, rfl, ?_⟩
              refine ⟨_, _, p', q', 20, z, rfl, keep se hx, poly_of (se _ _ hb), hl, fun r3 H3 s3 hr3 => ?_⟩
              exact ⟨_, _, rfl, m, Nat.lt_succ_self _, sm.trans (se.trans s3), _, _, _, _, rfl, poly_of (s3 _ _ (se _ _ hb)), hr3, hf⟩
    · rw [if_neg hok] at hf
      cases hf
end
end EN
namespace EN
open PySem PySem.Spec PyProof.Rows L2
section
variable {P : Program} {w : World} {K : PySem.W.Frag} {mg : Str → Option Value} {base : Heap} {f : Addr} {fd : FuncData}

/-! ### parted -/
-- slots: 0 one, 1 other*, 2 found, 3 left, 4 gap, 5 number
abbrev s_parted : Stmt := topS 18
theorem sc_parted : FnScope ["one", "other", "found", "left", "gap", "number"] ["one", "other"] (C8.fnScope s_parted) := C8.fnScope_by (by decide +kernel)
def sp_parted (K : PySem.W.Frag) : Sp := fun vs H Q _ => ∃ v u p q n r, vs = [v, u] ∧ Poly H v p ∧ Poly H u q ∧ paF n [] p q = some r ∧ ∀ x H', Same H H' → Poly H' x r → Q x H'
theorem cal_parted (D : C8.Def K mg "parted" s_parted f fd) (df : fd.defaults = .none) (T : Tx K mg) (c_plus : C8.Cal P w K mg base 2 "plus" (sp_plus K) []) (c_plus2 : C8.Cal P w K mg base 2 "plus" (sp_plus K) [.int 1]) (c_plain : C8.Cal P w K mg base 2 "plain" (sp_plain K) []) : C8.Cal P w K mg base 3 "parted" (sp_parted K) [] := by
  refine C8.cal0 D (D.fn.binds df (ps := ["one", "other"]) fun _ _ _ _ _ _ us hl => match us, hl with | [_, _], _ => rfl) .nil sc_parted (fun vs H Q E h => ?_) (fun cdv A outer s H vs Q E hr h => ?_)
  · obtain ⟨v, u, p, q, n, r, rfl, _⟩ := h
    rfl
  · obtain ⟨v, u, p, q, n, r, rfl, hv, hu, hf, k⟩ := h
    obtain ⟨b, rfl, hb⟩ := poly_at hu
    refine ⟨_, (pss_cons (ps_par (i := 2) (j := 3) rfl sc_parted.nd rfl rfl (by decide) rfl rfl (pa_cons (pe_tup pa_nil) (pa_cons (pv 0) pa_nil)) (by rfl))
      (pss_cons (ps_while PassesOwn.never (pt_cmpR (op_neZ hr.units) (pv 3) (pe_tup pa_nil) (nomark _))
        (pss_cons (ps_set (i := 4) sc_parted.nd rfl (.inl rfl) (pe_op op_repA (pe_tup (pa_cons pe_int pa_nil)) (pe_op op_sub (pe_callB call_len_seq (by rfl) T.len_ (by decide +kernel) (pa_cons (pv 3) pa_nil)) (pe_callB call_len_seq (by rfl) T.len_ (by decide +kernel) (pa_cons (pv 1) pa_nil)))))
        (pss_cons (ps_set (i := 2) sc_parted.nd rfl (.inl rfl) (C8.pe_c c_plus2 hr (by decide) (by rfl) (pa_cons (pe_lc (own := [("number", 5)]) (by rfl) sc_parted.nd (pi_seq (pv 2)) (blkOk_by (N := ["one", "other", "found", "left", "gap", "number"]) (sc := C8.fnScope s_parted) (by decide +kernel)) (fun _ _ _ _ _ => (pg_name (i := 5) sc_parted.nd rfl (.inl rfl))) (fun _ _ _ _ _ => pts_nil) (fun _ _ _ _ _ => (pe_op op_mul (pe_ix (ixB (K := K)) (pv 1) (pe_un un_neg pe_int) (fun _ _ => rfl)) (pv 5)))) (pa_cons (pe_tup (StX.pa_star (pv 4) (pa_cons (pe_ix ixA (pv 3) (pe_un un_neg pe_int) (fun _ _ => rfl)) pa_nil))) pa_nil))))
        (pss_one (ps_set (i := 3) sc_parted.nd rfl (.inl rfl) (C8.pe_c c_plus hr (by decide) (by rfl) (pa_cons (pe_lc (own := [("number", 5)]) (by rfl) sc_parted.nd (pi_seq (pv 3)) (blkOk_by (N := ["one", "other", "found", "left", "gap", "number"]) (sc := C8.fnScope s_parted) (by decide +kernel)) (fun _ _ _ _ _ => (pg_name (i := 5) sc_parted.nd rfl (.inl rfl))) (fun _ _ _ _ _ => pts_nil) (fun _ _ _ _ _ => (pe_op op_mul (pe_ix (ixB (K := K)) (pv 1) (pe_un un_neg pe_int) (fun _ _ => rfl)) (pv 5)))) (pa_cons (pe_tup (StX.pa_star (pv 4) (StX.pa_star (pv 1) pa_nil))) (pa_cons (pe_un un_neg (pe_ix ixA (pv 3) (pe_un un_neg pe_int) (fun _ _ => rfl))) pa_nil)))))))))
      (pss_one (ps_ret (C8.pe_c c_plain hr (by decide) (by rfl) (pa_cons (pv 2) pa_nil)))))), ?_⟩
    refine ⟨Nat.zero_le _, fun t nt => ⟨_, rfl, _, _, rfl, ?_⟩⟩
    have st := same_new (o := .tup []) nt
    refine ⟨fun m σ' H' => Same H H' ∧ ∃ x0 f' l' fl lf x4, σ' = [x0, some (.ref b), some (.ref f'), some (.ref l'), x4, none] ∧ H' f' = some (.tup (fl.map V.int)) ∧ H' l' = some (.tup (lf.map V.int)) ∧ paF m fl lf q = some r, ?_, ?_⟩
    · obtain ⟨a, rfl, ha⟩ := poly_at hv
      exact ⟨n, st, _, t, a, [], p, none, rfl, upd_same, st _ _ ha, hf⟩
    rintro m σ' H' ⟨sm, x0, f', l', fl, lf, x4, rfl, hf', hl', hf⟩
    have hb' := sm _ _ hb
    cases m with
    | zero => cases hf
    | succ m =>
      unfold paF at hf
      refine ⟨_, rfl, Nat.zero_le _, fun e ne => ?_⟩
      have se := same_new (o := .tup []) ne
      refine ⟨_, _, lf, [], rfl, rfl, .inr ⟨sqt (se _ _ hl'), sqt upd_same⟩, _, rfl, ?_⟩
      by_cases h0 : lf = []
      · rw [if_pos h0] at hf
        rw [decide_eq_true h0]
        refine iteF ?_
        by_cases hok : okP fl = true
        · rw [if_pos hok] at hf
          refine ⟨_, rfl, _, _, rfl, zs_poly (poly_of (se _ _ hf')), hok, fun x H2 s2 hx => k _ _ (sm.trans (se.trans s2)) ?_⟩
          rw [← Option.some.inj hf]
          exact hx
        · rw [if_neg hok] at hf
          cases hf
      · rw [if_neg h0] at hf
        rw [decide_eq_false h0]
        by_cases hok : (okP fl && okP lf && okP q && !q.isEmpty) = true
        · rw [if_pos hok] at hf
          simp only [Bool.and_eq_true] at hok
          obtain ⟨⟨⟨hof, hol⟩, hoq⟩, hne⟩ := hok
          have qne : q ≠ [] := fun e => by simp [e] at hne
          have hll := (okP_iff.mp hol).1
          have hlf := (okP_iff.mp hof).1
          have hlq := (okP_iff.mp hoq).1
          refine iteT ⟨fun σ' H2 => ∃ m', m' < m + 1 ∧ (Same H H2 ∧ ∃ x0 f' l' fl lf x4, σ' = [x0, some (.ref b), some (.ref f'), some (.ref l'), x4, none] ∧ H2 f' = some (.tup (fl.map V.int)) ∧ H2 l' = some (.tup (lf.map V.int)) ∧ paF m' fl lf q = some r), fun σ' H' h => h, ?_⟩
          refine ⟨by show 1 ≤ sizeLine; decide, fun z0 nz0 => ?_⟩
          have s0 := se.trans (same_new (o := .tup [V.int 0]) nz0)
          refine ⟨_, rfl, l', _, rfl, .inr (sqt (s0 _ _ hl')), _, rfl, b, _, rfl, .inr (sqt (s0 _ _ hb')), _, _, rfl, rfl, ?_⟩
          rw [List.length_map, List.length_map]
          refine ⟨z0, _, _, rfl, rfl, upd_same, by simp, by omega, by omega, by simp, fun z1 H2 s1 hz1 => ?_⟩
          rw [gap_flat] at hz1
          have sa := s0.trans s1
          -- found
          refine ⟨_, rfl, lc_ints (.inr (sqt (sa _ _ hf'))) (by omega) (fun c => lastL q * c) (fun c hc H' sm C hC => ⟨rfl, _, rfl, _, rfl, ix_last (.inr (sqt (sm _ _ (sa _ _ hb')))) qne ⟨_, rfl, _, _, rfl, rfl, .inl (okP_last hoq qne), hC⟩⟩) fun l H3 s3 hl => ?_⟩
          have sa3 := sa.trans s3
          refine ⟨_, rfl, z1, _, rfl, .inl (sqt (s3 _ _ hz1)), _, rfl, _, rfl, ix_last (.inr (sqt (sa3 _ _ hl'))) h0 ⟨line_le ?_, fun t nt => ?_⟩⟩
          · simp only [List.length_append, List.length_map, List.length_replicate, List.length_cons, List.length_nil]
            omega
          have s4 := same_new (o := .tup ((List.map V.int (List.replicate ((lf.length : Int) - (q.length : Int)).toNat 0)) ++ [V.int (lastL lf)])) nt
          have hgo : (List.map V.int (List.replicate ((lf.length : Int) - (q.length : Int)).toNat 0)) ++ [V.int (lastL lf)] = (gapF ((lf.length : Int) - q.length) ++ [lastL lf]).map V.int := by
            rw [List.map_append]
            rfl
          refine ⟨_, _, fl.map (lastL q * ·), gapF ((lf.length : Int) - q.length) ++ [lastL lf], _, rfl, zs_lst (s4 _ _ hl), zs_poly (poly_of ?_), ?_, ?_, .inl (by decide), fun r1 H5 s5 hr1 => ?_⟩
          · rw [upd_same, hgo]
          · rw [List.length_map]; omega
          · rw [List.length_append, gapF_len, List.length_singleton]
            omega
          have sa5 := sa3.trans (s4.trans s5)
          have hz5 := s5 _ _ (s4 _ _ (s3 _ _ hz1))
          -- left
          refine ⟨_, rfl, lc_ints (.inr (sqt (sa5 _ _ hl'))) (by omega) (fun c => lastL q * c) (fun c hc H' sm C hC => ⟨rfl, _, rfl, _, rfl, ix_last (.inr (sqt (sm _ _ (sa5 _ _ hb')))) qne ⟨_, rfl, _, _, rfl, rfl, .inl (okP_last hoq qne), hC⟩⟩) fun l H6 s6 hl => ?_⟩
          have sa6 := sa5.trans s6
          refine ⟨_, rfl, z1, _, rfl, .inl (sqt (s6 _ _ hz5)), _, rfl, b, _, rfl, .inl (sqt (sa6 _ _ hb')), line_le ?_, fun t nt => ?_⟩
          · simp only [List.length_append, List.length_map, List.length_replicate, List.length_nil]
            omega
          have s7 := same_new (o := .tup ((List.map V.int (List.replicate ((lf.length : Int) - (q.length : Int)).toNat 0)) ++ (List.map V.int q ++ []))) nt
          have hgo2 : (List.map V.int (List.replicate ((lf.length : Int) - (q.length : Int)).toNat 0)) ++ (List.map V.int q ++ []) = (gapF ((lf.length : Int) - q.length) ++ q).map V.int := by
            rw [List.append_nil, List.map_append]
            rfl
          refine ⟨_, rfl, _, rfl, ix_last (.inr (sqt (s7 _ _ (sa6 _ _ hl')))) h0 ⟨_, rfl, ?_⟩⟩
          refine ⟨_, _, lf.map (lastL q * ·), gapF ((lf.length : Int) - q.length) ++ q, _, rfl, zs_lst (s7 _ _ hl), zs_poly (poly_of ?_), ?_, ?_, .inl (sm_neg (okP_last hol h0)), fun r2 H8 s8 hr2 => ?_⟩
          · rw [upd_same, hgo2]
          · rw [List.length_map]; omega
          · rw [List.length_append, gapF_len]
            omega
          obtain ⟨a1, rfl, ha1⟩ := poly_at hr1
          obtain ⟨a2, rfl, ha2⟩ := poly_at hr2
          exact ⟨m, Nat.lt_succ_self _, sm.trans (sa6.trans (s7.trans s8)), _, a1, a2, _, _, _, rfl, s8 _ _ (s7 _ _ (s6 _ _ ha1)), ha2, hf⟩
        · rw [if_neg hok] at hf
          cases hf

/-! ### derived -/
-- slots: 0 one, 1 at, 2 number
abbrev s_derived : Stmt := topS 19
theorem sc_derived : FnScope ["one", "at", "number"] ["one"] (C8.fnScope s_derived) := C8.fnScope_by (by decide +kernel)
def sp_derived : Sp := fun vs H Q _ => ∃ v p, vs = [v] ∧ Poly H v p ∧ okP p = true ∧ ∀ x H', Same H H' → Poly H' x (derivedF p) → Q x H'
theorem cal_derived (D : C8.Def K mg "derived" s_derived f fd) (df : fd.defaults = .none) (T : Tx K mg) (c_cut : C8.Cal P w K mg base 1 "cut" (sp_cut K) []) : C8.Cal P w K mg base 2 "derived" sp_derived [] := by
  refine C8.cal0 D (D.fn.binds df (ps := ["one"]) fun _ _ _ _ _ _ us hl => match us, hl with | [_], _ => rfl) .nil sc_derived (fun vs H Q E h => ?_) (fun cdv A outer s H vs Q E hr h => ?_)
  · obtain ⟨v, p, rfl, _⟩ := h
    rfl
  · obtain ⟨v, p, rfl, hv, hok, k⟩ := h
    obtain ⟨a, rfl, ha⟩ := poly_at hv
    have hl := (okP_iff.mp hok).1
    refine ⟨_, (pss_one (ps_ret (C8.pe_c c_cut hr (by decide) (by rfl) (pa_cons (pe_slice sl_list (pe_lc (own := [("at", 1), ("number", 2)]) (by rfl) sc_derived.nd (pi_enumA (by rfl) T.enumerate_ (pa_cons (pv 0) pa_nil)) (blkOk_by (N := ["one", "at", "number"]) (sc := C8.fnScope s_derived) (by decide +kernel)) (fun _ _ _ _ _ => (pg_tupB (n := 2) (K := K) rfl rfl (pgs_cons (pg_name (i := 1) sc_derived.nd rfl (.inl rfl)) (pgs_cons (pg_name (i := 2) sc_derived.nd rfl (.inl rfl)) pgs_nil)))) (fun _ _ _ _ _ => pts_nil) (fun _ _ _ _ _ => (pe_op op_mul (pv 1) (pv 2)))) (po_some pe_int) po_none) pa_nil)))), ?_⟩
    refine ⟨_, rfl, a, _, rfl, .inr ⟨sqt ha, lc_map (r := rI_) walk_enumT (fun H' s => sqt (s _ _ ha)) (by rw [List.length_map]; omega) (fun i => (i : Int) * coef p i) (fun i x H' H'' hi sm y C hC => ?_) fun l H' sm hv => ?_⟩⟩
    · obtain ⟨T', x1, x2, rfl, hT, rfl, e1, e2⟩ := y
      cases e1
      obtain ⟨c, hc, rfl⟩ := ints_get e2
      refine ⟨T', _, rfl, sqt upd_same, rfl, _, _, rfl, _, _, rfl, rfl, ?_⟩
      refine ⟨rfl, _, rfl, _, rfl, _, _, rfl, rfl, .inl ?_, hC _ _ (same_new hT) ?_⟩
      · rw [List.length_map] at hi
        exact sm_of (n := 8) (by omega)
      · rw [coef_get hc]
        rfl
    · have hl2 := lst_ref hv
      refine ⟨_, rfl, l, _, rfl, sql hl2, fun t nt => ?_⟩
      refine ⟨_, _, rfl, zs_lst (p := ((List.range p.length).map fun (i : Nat) => (i : Int) * coef p i).drop 1) ?_, fun x H3 s3 hx => k _ _ (sm.trans ((same_new nt).trans s3)) hx⟩
      rw [upd_same, cut_from1, List.length_map, List.map_drop]

/-! ### single -/
-- slots: 0 one, 1 both
abbrev s_single : Stmt := topS 20
theorem sc_single : FnScope ["one", "both"] ["one"] (C8.fnScope s_single) := C8.fnScope_by (by decide +kernel)
def sp_single : Sp := fun vs H Q _ => ∃ v p r, vs = [v] ∧ Poly H v p ∧ okP p = true ∧ singleF p = some r ∧ ∀ x H', Same H H' → Poly H' x r → Q x H'
theorem cal_single (D : C8.Def K mg "single" s_single f fd) (df : fd.defaults = .none) (T : Tx K mg) (c_plain : C8.Cal P w K mg base 2 "plain" (sp_plain K) []) (c_shared : C8.Cal P w K mg base 4 "shared" (sp_shared K) []) (c_derived : C8.Cal P w K mg base 2 "derived" sp_derived []) (c_parted : C8.Cal P w K mg base 3 "parted" (sp_parted K) []) : C8.Cal P w K mg base 5 "single" sp_single [] := by
  refine C8.cal0 D (D.fn.binds df (ps := ["one"]) fun _ _ _ _ _ _ us hl => match us, hl with | [_], _ => rfl) .nil sc_single (fun vs H Q E h => ?_) (fun cdv A outer s H vs Q E hr h => ?_)
  · obtain ⟨v, p, r, rfl, _⟩ := h
    rfl
  · obtain ⟨v, p, r, rfl, hv, hok, hf, k⟩ := h
    obtain ⟨a, rfl, ha⟩ := poly_at hv
    unfold singleF at hf
    refine ⟨_, (pss_cons (ps_set (i := 1) sc_single.nd rfl (.inl rfl) (pe_ifExp (pt_cmpR op_gt (pe_callB call_len_seq (by rfl) T.len_ (by decide +kernel) (pa_cons (pv 0) pa_nil)) pe_int (nomark _)) (C8.pe_c c_shared hr (by decide) (by rfl) (pa_cons (pv 0) (pa_cons (C8.pe_c c_derived hr (by decide) (by rfl) (pa_cons (pv 0) pa_nil)) pa_nil))) (pe_tup (pa_cons pe_int pa_nil))))
      (pss_one (ps_ret (pe_ifExp (pt_cmpR op_gt (pe_callB call_len_seq (by rfl) T.len_ (by decide +kernel) (pa_cons (pv 1) pa_nil)) pe_int (nomark _)) (C8.pe_c c_parted hr (by decide) (by rfl) (pa_cons (pv 0) (pa_cons (pv 1) pa_nil))) (C8.pe_c c_plain hr (by decide) (by rfl) (pa_cons (pv 0) pa_nil)))))), ?_⟩
    -- behind both
    have fin : ∀ (y : V) (q : List Int) (H2 : Hp), Same H H2 → Poly H2 y q → (if 1 < q.length then paF 20 [] p q else if okP p = true then some (plainF p) else none) = some r → ∀ {D : Ends}, (∀ v H, D.rt v H = Q v H) →
        tRet (tIf (tTest (tOp (rI0 fun i j => .bl (decide (j < i))) (tCB (fun xs H Q => ∃ p ys, xs = [.ref p] ∧ (SqL K H p ys ∨ SqT K H p ys) ∧ Q (.int ys.length) H) (tCons (tVar 1) tNil)) (tC (.int 1)))) (tCall (sp_parted K) [] C8.E0 (tCons (tVar 0) (tCons (tVar 1) tNil))) (tCall (sp_plain K) [] C8.E0 (tCons (tVar 0) tNil))) D [some (.ref a), some y] H2 := fun y q H2 s2 hy hf D hD => by
      obtain ⟨b, rfl, hb⟩ := poly_at hy
      refine ⟨_, rfl, b, _, rfl, .inr (sqt hb), ?_⟩
      rw [List.length_map]
      refine ⟨_, _, rfl, rfl, _, rfl, ?_⟩
      by_cases h1 : 1 < q.length
      · rw [if_pos h1] at hf
        rw [decide_eq_true (show (1 : Int) < (q.length : Int) by omega)]
        refine iteT ⟨_, rfl, _, rfl, ?_⟩
        refine ⟨_, _, p, q, 20, r, rfl, poly_of (s2 _ _ ha), poly_of hb, hf, fun x H3 s3 hx => ?_⟩
        exact (hD _ _).symm ▸ k x H3 (s2.trans s3) hx
      · rw [if_neg h1, if_pos hok] at hf
        rw [decide_eq_false (show ¬ (1 : Int) < (q.length : Int) by omega)]
        refine iteF ⟨_, rfl, _, p, rfl, zs_poly (poly_of (s2 _ _ ha)), hok, fun x H3 s3 hx => ?_⟩
        rw [Option.some.inj hf] at hx
        exact (hD _ _).symm ▸ k x H3 (s2.trans s3) hx
    refine ⟨_, rfl, a, _, rfl, .inr (sqt ha), ?_⟩
    rw [List.length_map]
    refine ⟨_, _, rfl, rfl, _, rfl, ?_⟩
    by_cases h1 : 1 < p.length
    · rw [if_pos h1] at hf
      rw [decide_eq_true (show (1 : Int) < (p.length : Int) by omega)]
      cases hs : sharedF p (derivedF p) with
      | none => rw [hs] at hf; cases hf
      | some q =>
        rw [hs] at hf
        refine iteT ⟨_, rfl, _, rfl, _, p, rfl, poly_of ha, hok, fun x1 H1 s1 h1 => ?_⟩
        refine ⟨_, _, p, derivedF p, q, rfl, zs_poly (poly_of (s1 _ _ ha)), zs_poly h1, hs, fun x2 H2 s2 h2 => ?_⟩
        exact fin x2 q H2 (s1.trans s2) h2 hf fun _ _ => rfl
    · rw [if_neg h1] at hf
      rw [decide_eq_false (show ¬ (1 : Int) < (p.length : Int) by omega)]
      refine iteF ⟨by show 1 ≤ sizeLine; decide, fun t nt => ?_⟩
      exact fin (.ref t) [1] _ (same_new nt) (poly_of upd_same) hf fun _ _ => rfl

/-! ### sign_at -/
-- slots: 0 one, 1 share
abbrev s_sign_at : Stmt := topS 23
theorem sc_sign_at : FnScope ["one", "share"] ["one", "share"] (C8.fnScope s_sign_at) := C8.fnScope_by (by decide +kernel)
def sp_sign_at : Sp := fun vs H Q _ => ∃ v u p t l, vs = [v, u] ∧ Poly H v p ∧ Frac H u (t, l) ∧ okV p t l = true ∧ ∀ H', Same H H' → Q (.int (signAtF p t l)) H'
theorem cal_sign_at (D : C8.Def K mg "sign_at" s_sign_at f fd) (df : fd.defaults = .none) (T : Tx K mg) (c_height : C8.Cal P w K mg base 3 "height" sp_height []) (c_sign : C8.Cal P w K mg base 1 "sign" sp_sign []) : C8.Cal P w K mg base 4 "sign_at" sp_sign_at [] := by
  refine C8.cal0 D (D.fn.binds df (ps := ["one", "share"]) fun _ _ _ _ _ _ us hl => match us, hl with | [_, _], _ => rfl) .nil sc_sign_at (fun vs H Q E h => ?_) (fun cdv A outer s H vs Q E hr h => ?_)
  · obtain ⟨v, u, p, t, l, rfl, _⟩ := h
    rfl
  · obtain ⟨v, u, p, t, l, rfl, hv, hu, hok, k⟩ := h
    refine ⟨_, (pss_one (ps_ret (C8.pe_c c_sign hr (by decide) (by rfl) (pa_cons (pe_ix ixA (C8.pe_c c_height hr (by decide) (by rfl) (pa_cons (pv 0) (pa_cons (pv 1) pa_nil))) pe_int (fun _ _ => rfl)) pa_nil)))), ?_⟩
    unfold okV at hok
    simp only [Bool.and_eq_true, decide_eq_true_eq, List.all_eq_true] at hok
    obtain ⟨⟨⟨⟨h1, h2⟩, h3⟩, h4⟩, h5⟩ := hok
    refine ⟨_, rfl, _, rfl, _, _, p, t, l, rfl, hv, hu, by omega, h2, h3, h4, h5, fun x H1 s1 hx => ?_⟩
    obtain ⟨a, rfl, ha⟩ := frac_at hx
    exact .inr ⟨a, _, 0, _, rfl, rfl, sqt ha, atI_nat (j := 0) rfl, _, rfl, k H1 s1⟩

/-! ### doubled: only by 0 -/
-- slots: 0 many, 1 found, 2 turn
abbrev s_doubled : Stmt := topS 27
theorem sc_doubled : FnScope ["many", "found", "turn"] ["many"] (C8.fnScope s_doubled) := C8.fnScope_by (by decide +kernel)
def sp_doubled : Sp := fun vs H Q _ => vs = [.int 0] ∧ Q (.int 1) H
theorem cal_doubled (D : C8.Def K mg "doubled" s_doubled f fd) (df : fd.defaults = .none) (T : Tx K mg) : C8.Cal P w K mg base 1 "doubled" sp_doubled [] := by
  refine C8.cal0 D (D.fn.binds df (ps := ["many"]) fun _ _ _ _ _ _ us hl => match us, hl with | [_], _ => rfl) .nil sc_doubled (fun vs H Q E h => ?_) (fun cdv A outer s H vs Q E hr h => ?_)
  · obtain ⟨rfl, _⟩ := h
    rfl
  · obtain ⟨rfl, k⟩ := h
    refine ⟨_, (pss_cons (ps_set (i := 1) sc_doubled.nd rfl (.inl rfl) pe_int)
      (pss_cons (ps_for PassesOwn.never rfl (pi_range1 (by rfl) T.range_ (pa_cons (pv 0) pa_nil)) (pg_name (i := 2) sc_doubled.nd rfl (.inl rfl))
        (pss_one (ps_aug (i := 1) sc_doubled.nd rfl (.inl rfl) pe_int ip_mul)))
      (pss_one (ps_ret (pv 1))))), ?_⟩
    refine ⟨_, rfl, 0, rfl, ?_, ?_, for_range (n := 0) (fun i σ' H' => H' = H ∧ ∃ x2, σ' = [some (.int 0), some (.int 1), x2]) ⟨rfl, _, rfl⟩ (fun i σ' H' hi _ => absurd hi (Nat.not_lt_zero _)) ?_⟩
    · decide
    · decide
    · rintro σ' H' ⟨rfl, x2, rfl⟩
      exact ⟨_, rfl, k⟩
end
end EN
namespace EN
open PySem PySem.Spec PyProof.Rows L2
theorem mvStep_len (l : List Int) (i : Nat) : (mvStep l i).length = l.length := by unfold mvStep; rw [List.length_set]
theorem mvIn_succ (n start : Nat) (l : List Int) (k : Nat) : mvIn n start l (k + 1) = mvStep (mvIn n start l k) (n - 2 - k) := by
  unfold mvIn
  rw [List.range_succ, List.foldl_append]
  rfl
theorem mvIn_len (n start : Nat) (l : List Int) (k : Nat) : (mvIn n start l k).length = l.length := by
  induction k with
  | zero => rfl
  | succ k ih => rw [mvIn_succ, mvStep_len, ih]
/-- moved, the first i turns -/
def mvOut (p : List Int) (i : Nat) : List Int := (List.range i).foldl (fun l start => mvIn p.length start l (p.length - 1 - start)) p
theorem mvOut_succ (p : List Int) (i : Nat) : mvOut p (i + 1) = mvIn p.length i (mvOut p i) (p.length - 1 - i) := by
  unfold mvOut
  rw [List.range_succ, List.foldl_append]
  rfl
theorem mvOut_len (p : List Int) (i : Nat) : (mvOut p i).length = p.length := by
  induction i with
  | zero => rfl
  | succ i ih => rw [mvOut_succ, mvIn_len, ih]
theorem get_intc {l : List Int} {i : Nat} (h : i < l.length) : (l.map V.int)[i]? = some (.int (coef l i)) := by rw [List.getElem?_map, get_coef h]; rfl
theorem set_coef (l : List Int) (i : Nat) : l.set i (coef l i) = l := by
  apply List.ext_getElem?
  intro k
  rw [List.getElem?_set]
  by_cases e : i = k
  · subst e
    by_cases h : i < l.length
    · rw [if_pos rfl, if_pos h, get_coef h]
    · rw [if_pos rfl, if_neg h, List.getElem?_eq_none (by omega)]
  · rw [if_neg e]
section
variable {P : Program} {w : World} {K : PySem.W.Frag} {mg : Str → Option Value} {base : Heap} {f : Addr} {fd : FuncData}

/-! ### moved -/
-- slots: 0 one, 1 found, 2 start, 3 at
abbrev s_moved : Stmt := topS 28
theorem sc_moved : FnScope ["one", "found", "start", "at"] ["one"] (C8.fnScope s_moved) := C8.fnScope_by (by decide +kernel)
def sp_moved : Sp := fun vs H Q _ => ∃ v p, vs = [v] ∧ Poly H v p ∧ p.length ≤ 1000 ∧ ∀ x H', Same H H' → Poly H' x (movedF p) → Q x H'
theorem cal_moved (D : C8.Def K mg "moved" s_moved f fd) (df : fd.defaults = .none) (T : Tx K mg) : C8.Cal P w K mg base 1 "moved" sp_moved [] := by
  refine C8.cal0 D (D.fn.binds df (ps := ["one"]) fun _ _ _ _ _ _ us hl => match us, hl with | [_], _ => rfl) .nil sc_moved (fun vs H Q E h => ?_) (fun cdv A outer s H vs Q E hr h => ?_)
  · obtain ⟨v, p, rfl, _⟩ := h
    rfl
  · obtain ⟨v, p, rfl, hv, hl, k⟩ := h
    obtain ⟨a, rfl, ha⟩ := poly_at hv
    refine ⟨_, (pss_cons (ps_set (i := 1) sc_moved.nd rfl (.inl rfl) (pe_callTy call_list_of (by rfl) T.list_ (by decide +kernel) (pa_cons (pv 0) pa_nil)))
      (pss_cons (ps_for PassesOwn.never rfl (pi_range1 (by rfl) T.range_ (pa_cons (pe_callB call_len_seq (by rfl) T.len_ (by decide +kernel) (pa_cons (pv 1) pa_nil)) pa_nil)) (pg_name (i := 2) sc_moved.nd rfl (.inl rfl))
        (pss_one (ps_for PassesOwn.never rfl (pi_range3 (by rfl) T.range_ (pa_cons (pe_op op_sub (pe_callB call_len_seq (by rfl) T.len_ (by decide +kernel) (pa_cons (pv 1) pa_nil)) pe_int) (pa_cons (pe_op op_sub (pv 2) pe_int) (pa_cons (pe_un un_neg pe_int) pa_nil)))) (pg_name (i := 3) sc_moved.nd rfl (.inl rfl))
          (pss_one (ps_augS (pv 1) (pv 3) get_list (pe_ix ixA (pv 1) (pe_op op_add (pv 3) pe_int) (fun _ _ => rfl)) ip_add set_list)))))
      (pss_one (ps_ret (pe_callTy call_tuple_of (by rfl) T.tuple_ (by decide +kernel) (pa_cons (pv 1) pa_nil)))))), ?_⟩
    refine ⟨_, rfl, a, _, rfl, .inr (sqt ha), fun l nl => ?_⟩
    refine ⟨_, rfl, l, _, rfl, .inl (sql upd_same), ?_⟩
    rw [List.length_map]
    refine ⟨_, rfl, by omega, by omega, for_range (n := p.length) (fun i σ' H' => Same H H' ∧ ∃ x2 x3, σ' = [some (.ref a), some (.ref l), x2, x3] ∧ H' l = some (.lst ((mvOut p i).map V.int))) ⟨same_new nl, none, none, rfl, upd_same⟩ ?_ ?_⟩
    · rintro i σ' H' hi ⟨sm, x2, x3, rfl, hl'⟩
      refine ⟨_, rfl, l, _, rfl, .inl (sql hl'), _, _, rfl, rfl, _, rfl, _, _, rfl, rfl, _, rfl, ?_⟩
      rw [List.length_map, mvOut_len]
      refine ⟨_, _, _, _, rfl, RgC.neg (by omega) (by omega) (by omega) (by omega), ?_⟩
      rw [show (((p.length : Nat) : Int) - 2 - ((0 : Int) + (i : Int) - 1)).toNat = p.length - 1 - i by omega]
      refine for_rangeC (fun j σ' H' => Same H H' ∧ ∃ x3, σ' = [some (.ref a), some (.ref l), some (.int (0 + (i : Int))), x3] ∧ H' l = some (.lst ((mvIn p.length i (mvOut p i) j).map V.int))) ⟨sm, x3, rfl, hl'⟩ ?_ ?_
      · rintro j σ' H2 hj ⟨sm2, x3, rfl, hl2⟩
        have hlen : (mvIn p.length i (mvOut p i) j).length = p.length := by rw [mvIn_len, mvOut_len]
        have e1 : ((p.length : Nat) : Int) - 2 + (j : Int) * (-1) = ((p.length - 2 - j : Nat) : Int) := by omega
        have e2 : ((p.length - 2 - j : Nat) : Int) + 1 = ((p.length - 2 - j + 1 : Nat) : Int) := by omega
        rw [e1]
        refine ⟨_, rfl, _, rfl, l, _, _, _, rfl, rfl, sql hl2, atI_n (get_intc (i := p.length - 2 - j) (by omega)), _, rfl, _, rfl, _, _, rfl, rfl, .inl ⟨l, _, _, .int (coef (mvIn p.length i (mvOut p i) j) (p.length - 2 - j + 1)), rfl, rfl, sql hl2, ?_, ?_⟩⟩
        · rw [e2]
          exact atI_n (get_intc (by omega))
        · refine ⟨_, _, rfl, rfl, l, _, _, p.length - 2 - j, rfl, rfl, hl2, ixN_nat (by rw [List.length_map]; omega), ?_⟩
          refine ⟨same_mut sm2 nl, _, rfl, ?_⟩
          rw [upd_same, ints_set, mvIn_succ]
          rfl
      · rintro σ' H2 ⟨sm2, x3, rfl, hl2⟩
        exact ⟨sm2, _, _, rfl, by rw [hl2, mvOut_succ]⟩
    · rintro σ' H' ⟨sm, x2, x3, rfl, hl'⟩
      exact ⟨_, rfl, l, _, rfl, .inl ⟨sql hl', fun t nt => k _ _ (sm.trans (same_new nt)) (poly_of upd_same)⟩⟩

/-! ### on_stretch: only all of it -/
-- slots: 0 one, 1 at, 2 deep, 3 turn, 4 found, 5 start, 6 spot
abbrev s_on_stretch : Stmt := topS 30
theorem sc_on_stretch : FnScope ["one", "at", "deep", "turn", "found", "start", "spot"] ["one", "at", "deep"] (C8.fnScope s_on_stretch) := C8.fnScope_by (by decide +kernel)
def sp_on_stretch : Sp := fun vs H Q _ => ∃ v p, vs = [v, .int 0, .int 0] ∧ Poly H v p ∧ p.length ≤ 1000 ∧ ∀ x H', Same H H' → Poly H' x p → Q x H'
theorem cal_on_stretch (D : C8.Def K mg "on_stretch" s_on_stretch f fd) (df : fd.defaults = .none) (T : Tx K mg) : C8.Cal P w K mg base 1 "on_stretch" sp_on_stretch [] := by
  refine C8.cal0 D (D.fn.binds df (ps := ["one", "at", "deep"]) fun _ _ _ _ _ _ us hl => match us, hl with | [_, _, _], _ => rfl) .nil sc_on_stretch (fun vs H Q E h => ?_) (fun cdv A outer s H vs Q E hr h => ?_)
  · obtain ⟨v, p, rfl, _⟩ := h
    rfl
  · obtain ⟨v, p, rfl, hv, hl, k⟩ := h
    obtain ⟨a, rfl, ha⟩ := poly_at hv
    refine ⟨_, (pss_cons (ps_for PassesOwn.never rfl (pi_range1 (by rfl) T.range_ (pa_cons (pv 2) pa_nil)) (pg_name (i := 3) sc_on_stretch.nd rfl (.inl rfl))
        pss_never)
      (pss_cons (ps_set (i := 4) sc_on_stretch.nd rfl (.inl rfl) (pe_callTy call_list_of (by rfl) T.list_ (by decide +kernel) (pa_cons (pv 0) pa_nil)))
      (pss_cons (ps_for PassesOwn.never rfl (pi_range1 (by rfl) T.range_ (pa_cons (pe_callB call_len_seq (by rfl) T.len_ (by decide +kernel) (pa_cons (pv 4) pa_nil)) pa_nil)) (pg_name (i := 5) sc_on_stretch.nd rfl (.inl rfl))
        (pss_one (ps_for PassesOwn.never rfl (pi_range3 (by rfl) T.range_ (pa_cons (pe_op op_sub (pe_callB call_len_seq (by rfl) T.len_ (by decide +kernel) (pa_cons (pv 4) pa_nil)) pe_int) (pa_cons (pe_op op_sub (pv 5) pe_int) (pa_cons (pe_un un_neg pe_int) pa_nil)))) (pg_name (i := 6) sc_on_stretch.nd rfl (.inl rfl))
          (pss_one (ps_augS (pv 4) (pv 6) get_list (pe_op op_mul (pv 1) (pe_ix ixA (pv 4) (pe_op op_add (pv 6) pe_int) (fun _ _ => rfl))) ip_add set_list)))))
      (pss_one (ps_ret (pe_callTy call_tuple_of (by rfl) T.tuple_ (by decide +kernel) (pa_cons (pv 4) pa_nil))))))), ?_⟩
    refine ⟨_, rfl, 0, rfl, by decide, by decide, for_range (n := 0) (fun i σ' H' => H' = H ∧ ∃ x3, σ' = [some (.ref a), some (.int 0), some (.int 0), x3, none, none, none]) ⟨rfl, _, rfl⟩ (fun i σ' H' hi _ => absurd hi (Nat.not_lt_zero _)) ?_⟩
    rintro σ' H' ⟨rfl, x3, rfl⟩
    refine ⟨_, rfl, a, _, rfl, .inr (sqt ha), fun l nl => ?_⟩
    refine ⟨_, rfl, l, _, rfl, .inl (sql upd_same), ?_⟩
    rw [List.length_map]
    refine ⟨_, rfl, by omega, by omega, for_range (n := p.length) (fun i σ2 H2 => Same H' H2 ∧ ∃ x5 x6, σ2 = [some (.ref a), some (.int 0), some (.int 0), x3, some (.ref l), x5, x6] ∧ H2 l = some (.lst (p.map V.int))) ⟨same_new nl, none, none, rfl, upd_same⟩ ?_ ?_⟩
    · rintro i σ2 H2 hi ⟨sm, x5, x6, rfl, hl'⟩
      refine ⟨_, rfl, l, _, rfl, .inl (sql hl'), _, _, rfl, rfl, _, rfl, _, _, rfl, rfl, _, rfl, ?_⟩
      rw [List.length_map]
      refine ⟨_, _, _, _, rfl, RgC.neg (by omega) (by omega) (by omega) (by omega), ?_⟩
      rw [show (((p.length : Nat) : Int) - 2 - ((0 : Int) + (i : Int) - 1)).toNat = p.length - 1 - i by omega]
      refine for_rangeC (fun j σ' H3 => Same H' H3 ∧ ∃ x6, σ' = [some (.ref a), some (.int 0), some (.int 0), x3, some (.ref l), some (.int (0 + (i : Int))), x6] ∧ H3 l = some (.lst (p.map V.int))) ⟨sm, x6, rfl, hl'⟩ ?_ ?_
      · rintro j σ' H3 hj ⟨sm2, x3, rfl, hl2⟩
        have e1 : ((p.length : Nat) : Int) - 2 + (j : Int) * (-1) = ((p.length - 2 - j : Nat) : Int) := by omega
        have e2 : ((p.length - 2 - j : Nat) : Int) + 1 = ((p.length - 2 - j + 1 : Nat) : Int) := by omega
        rw [e1]
        refine ⟨_, rfl, _, rfl, l, _, _, _, rfl, rfl, sql hl2, atI_n (get_intc (i := p.length - 2 - j) (by omega)), _, rfl, _, rfl, _, rfl, _, _, rfl, rfl, .inl ⟨l, _, _, .int (coef p (p.length - 2 - j + 1)), rfl, rfl, sql hl2, ?_, ?_⟩⟩
        · rw [e2]
          exact atI_n (get_intc (by omega))
        · refine ⟨_, _, rfl, rfl, .inl (by decide), _, _, rfl, rfl, l, _, _, p.length - 2 - j, rfl, rfl, hl2, ixN_nat (by rw [List.length_map]; omega), ?_⟩
          refine ⟨same_mut sm2 nl, _, rfl, ?_⟩
          rw [upd_same, ints_set, Int.zero_mul, show (fun i j : Int => i + j) (coef p (p.length - 2 - j)) 0 = coef p (p.length - 2 - j) from Int.add_zero _, set_coef]
      · rintro σ' H2 ⟨sm2, x3, rfl, hl2⟩
        exact ⟨sm2, _, _, rfl, hl2⟩
    · rintro σ' H2 ⟨sm, x5, x6, rfl, hl'⟩
      exact ⟨_, rfl, l, _, rfl, .inl ⟨sql hl', fun t nt => k _ _ (sm.trans (same_new nt)) (poly_of upd_same)⟩⟩

theorem range_filt_get {α β : Type} (l : List α) (d : α) (g : α → Bool) (f : α → β) : ((List.range l.length).filter fun i => g (l.getD i d)).map (fun i => f (l.getD i d)) = (l.filter g).map f := by
  have e : (List.range l.length).map (fun i => l.getD i d) = l := by
    have := range_map_get l d (fun x => x)
    rw [this, List.map_id']
  have e2 : l.filter g = ((List.range l.length).filter fun i => g (l.getD i d)).map (fun i => l.getD i d) := by
    conv => lhs; rw [← e]
    rw [List.filter_map]
    rfl
  rw [e2, List.map_map]
  rfl
/-! ### changes -/
-- slots: 0 one, 1 signs, 2 number, 3 a, 4 b
abbrev s_changes : Stmt := topS 31
theorem sc_changes : FnScope ["one", "signs", "number", "a", "b"] ["one"] (C8.fnScope s_changes) := C8.fnScope_by (by decide +kernel)
def sp_changes : Sp := fun vs H Q _ => ∃ v p, vs = [v] ∧ Poly H v p ∧ p.length ≤ 1000 ∧ ∀ H', Same H H' → Q (.int (changesF p)) H'
theorem cal_changes (D : C8.Def K mg "changes" s_changes f fd) (df : fd.defaults = .none) (T : Tx K mg) (c_moved : C8.Cal P w K mg base 1 "moved" sp_moved []) (c_sign : C8.Cal P w K mg base 1 "sign" sp_sign []) : C8.Cal P w K mg base 2 "changes" sp_changes [] := by
  refine C8.cal0 D (D.fn.binds df (ps := ["one"]) fun _ _ _ _ _ _ us hl => match us, hl with | [_], _ => rfl) .nil sc_changes (fun vs H Q E h => ?_) (fun cdv A outer s H vs Q E hr h => ?_)
  · obtain ⟨v, p, rfl, _⟩ := h
    rfl
  · obtain ⟨v, p, rfl, hv, hl, k⟩ := h
    obtain ⟨a, rfl, ha⟩ := poly_at hv
    refine ⟨_, (pss_cons (ps_setLc (i := 1) (own := [("number", 2)]) (by rfl) sc_changes.nd rfl rfl (sw_true rfl rfl rfl (by decide +kernel)) (pi_seq (C8.pe_c c_moved hr (by decide) (by rfl) (pa_cons (pe_revT (pv 0)) pa_nil))) (blkOk_by (N := ["one", "signs", "number", "a", "b"]) (sc := C8.fnScope s_changes) (by decide +kernel)) (fun _ _ _ _ _ => (pg_name (i := 2) sc_changes.nd rfl (.inl rfl))) (fun _ _ _ _ _ => pts_nil) (fun _ _ _ _ _ => (C8.pe_c c_sign hr (by decide) (by rfl) (pa_cons (pv 2) pa_nil))))
      (pss_cons (ps_setLc (i := 1) (own := [("number", 2)]) (by rfl) sc_changes.nd rfl rfl (sw_true rfl rfl rfl (by decide +kernel)) (pi_list (pv 1)) (blkOk_by (N := ["one", "signs", "number", "a", "b"]) (sc := C8.fnScope s_changes) (by decide +kernel)) (fun _ _ _ _ _ => (pg_name (i := 2) sc_changes.nd rfl (.inl rfl))) (fun _ _ _ _ _ => (pts_one (pt_cmpR op_ne (pv 2) pe_int (nomark _)))) (fun _ _ _ _ _ => (pv 2)))
      (pss_one (ps_ret (pe_callB call_len_seq (by rfl) T.len_ (by decide +kernel) (pa_cons (pe_lc (own := [("a", 3), ("b", 4)]) (by rfl) sc_changes.nd (pi_zipM (by rfl) T.zip_ (pa_cons (pv 1) (pa_cons (pe_slice sl_list (pv 1) (po_some pe_int) po_none) pa_nil))) (blkOk_by (N := ["one", "signs", "number", "a", "b"]) (sc := C8.fnScope s_changes) (by decide +kernel)) (fun _ _ _ _ _ => (pg_tupB (n := 2) (K := K) rfl rfl (pgs_cons (pg_name (i := 3) sc_changes.nd rfl (.inl rfl)) (pgs_cons (pg_name (i := 4) sc_changes.nd rfl (.inl rfl)) pgs_nil)))) (fun _ _ _ _ _ => (pts_one (pt_cmpR op_ne (pv 3) (pv 4) (nomark _)))) (fun _ _ _ _ _ => pe_int)) pa_nil)))))), ?_⟩
    refine ⟨_, rfl, a, _, rfl, sqt ha, fun t nt => ?_⟩
    refine ⟨_, p.reverse, rfl, poly_of (by rw [upd_same, List.map_reverse]), by rw [List.length_reverse]; exact hl, fun x H1 s1 hx => ?_⟩
    obtain ⟨b, rfl, hb⟩ := poly_at hx
    have hml : (movedF p.reverse).length ≤ 1000 := by
      have : (movedF p.reverse).length = p.reverse.length := mvOut_len _ _
      rw [this, List.length_reverse]
      exact hl
    refine lc_ints (.inr (sqt hb)) (by omega) Int.sign (fun c hc H' sm C hC => ⟨rfl, _, rfl, c, rfl, hC⟩) fun l1 H2 s2 hl1 => ?_
    have sA := (same_new (o := .tup (p.map V.int).reverse) nt).trans (s1.trans s2)
    -- those that are not 0
    refine ⟨_, rfl, l1, rfl, ⟨_, sql hl1⟩, lc_filt (r := rI_) walk_list (fun H' s => sql (s _ _ hl1)) (by simp only [List.length_map]; omega) (fun i => decide (((movedF p.reverse).map Int.sign).getD i 0 ≠ 0)) (fun i => ((movedF p.reverse).map Int.sign).getD i 0) ?_ ?_⟩
    · rintro i x H' H'' hi sm ⟨rfl, hx⟩ C B hC hB
      obtain ⟨c, hc, rfl⟩ := ints_get hx
      have hcd : ((movedF p.reverse).map Int.sign).getD i 0 = c := by rw [List.getD_eq_getElem?_getD, hc]; rfl
      refine ⟨rfl, _, rfl, rfl, _, rfl, ite2 (fun hb => ?_) (fun hb => ?_)⟩
      · exact ⟨_, rfl, hC (by rw [hcd]; exact decide_eq_true fun e => by simp [e] at hb) _ _ (Same.refl _) (by rw [hcd]; rfl)⟩
      · exact hB (by rw [hcd]; exact decide_eq_false fun e => hb (by simpa using e)) _ (Same.refl _)
    · intro l2 H3 s3 hv
      have hl2 := lst_ref hv
      rw [List.length_map, show (((List.range ((movedF p.reverse).map Int.sign).length).filter fun i => decide (((movedF p.reverse).map Int.sign).getD i 0 ≠ 0)).map fun i => ((movedF p.reverse).map Int.sign).getD i 0) = signsF p by
        rw [range_filt_get _ 0 (fun c => decide (c ≠ 0)) (fun c => c), List.map_id']
        rfl] at hl2
      have hsl : (signsF p).length ≤ 1000 := Nat.le_trans (List.length_filter_le ..) (by rw [List.length_map]; exact hml)
      -- pairs that differ
      refine ⟨_, rfl, _, rfl, _, rfl, l2, _, rfl, sql hl2, fun l3 n3 => ?_⟩
      have s4 := same_new (o := .lst (cutV ((signsF p).map V.int) (some 1) none)) n3
      refine ⟨l2, l3, _, _, rfl, .inl ⟨sql (s4 _ _ hl2), sql upd_same, lc_filt (r := rI_) (walk_zip (xs := (signsF p).map V.int) (ys := ((signsF p).drop 1).map V.int) (n := ((signsF p).drop 1).length) ?_) (fun H' s => ⟨sql (s _ _ (s4 _ _ hl2)), sql (s _ _ ?_)⟩) ?_ (fun i => decide (coef (signsF p) i ≠ coef ((signsF p).drop 1) i)) (fun i => 1) ?_ ?_⟩⟩
      · simp only [List.length_map, List.length_drop]
        omega
      · rw [upd_same, cut_from1, List.map_drop]
      · rw [List.length_drop]
        omega
      · rintro i x H' H'' hi sm ⟨T', x1, x2, rfl, hT, rfl, e1, e2⟩ C B hC hB
        obtain ⟨c, hc, rfl⟩ := ints_get e1
        obtain ⟨d, hd, rfl⟩ := ints_get e2
        refine ⟨T', _, rfl, sqt upd_same, rfl, _, _, rfl, _, _, rfl, rfl, ?_⟩
        refine ⟨rfl, _, rfl, _, rfl, rfl, _, rfl, ite2 (fun hb => ?_) (fun hb => ?_)⟩
        · exact hC (by rw [coef_get hc, coef_get hd]; exact decide_eq_true fun e => by simp [e] at hb) _ _ (same_new hT) rfl
        · exact hB (by rw [coef_get hc, coef_get hd]; exact decide_eq_false fun e => hb (by simpa using e)) _ (same_new hT)
      · intro l4 H4 s5 hv4
        have hl4 := lst_ref hv4
        refine ⟨l4, _, rfl, .inl (sql hl4), ?_⟩
        rw [List.length_map, List.length_map]
        exact k _ (sA.trans (s3.trans (s4.trans s5)))
end
end EN
namespace EN
open PySem PySem.Spec PyProof.Rows L2
/-- a root told just so: its polynomial q, its place t -/
def Root (K : PySem.W.Frag) (H : Hp) (v : V) (q : List Int) (t : Int) : Prop := ∃ a b, v = .ref a ∧ SqT K H a [.ref b, .int t, .int 0, .bl true] ∧ SqT K H b (q.map V.int)
theorem root_keep {K : PySem.W.Frag} {H H' : Hp} {v : V} {q : List Int} {t : Int} (s : Same H H') (h : Root K H v q t) : Root K H' v q t := by
  obtain ⟨a, b, e, h1, h2⟩ := h
  exact ⟨a, b, e, same_t s h1, same_t s h2⟩
/-- the module's two ends -/
structure TxR (K : PySem.W.Frag) (mg : Str → Option Value) : Prop where
  FIRST_ : ∃ v, (∃ u, mg "FIRST" = some u ∧ RelV v u) ∧ ∀ H, Root K H v [0, 1] 0
  LAST_ : ∃ v, (∃ u, mg "LAST" = some u ∧ RelV v u) ∧ ∀ H, Root K H v [-1, 1] 1
section
variable {P : Program} {w : World} {K : PySem.W.Frag} {mg : Str → Option Value} {base : Heap} {f : Addr} {fd : FuncData}

/-! ### low_end -/
-- slots: 0 root
abbrev s_low_end : Stmt := topS 34
theorem sc_low_end : FnScope ["root"] ["root"] (C8.fnScope s_low_end) := C8.fnScope_by (by decide +kernel)
def sp_low_end (K : PySem.W.Frag) : Sp := fun vs H Q _ => ∃ v q t, vs = [v] ∧ Root K H v q t ∧ ∀ x H', Same H H' → Frac H' x (redF t 1) → Q x H'
theorem cal_low_end (D : C8.Def K mg "low_end" s_low_end f fd) (df : fd.defaults = .none) (T : Tx K mg) (c_fraction : C8.Cal P w K mg base 2 "fraction" sp_fraction []) (c_doubled : C8.Cal P w K mg base 1 "doubled" sp_doubled []) : C8.Cal P w K mg base 3 "low_end" (sp_low_end K) [] := by
  refine C8.cal0 D (D.fn.binds df (ps := ["root"]) fun _ _ _ _ _ _ us hl => match us, hl with | [_], _ => rfl) .nil sc_low_end (fun vs H Q E h => ?_) (fun cdv A outer s H vs Q E hr h => ?_)
  · obtain ⟨v, q, t, rfl, _⟩ := h
    rfl
  · obtain ⟨v, q, t, rfl, ⟨a, b, rfl, ha, hb⟩, k⟩ := h
    refine ⟨_, (pss_one (ps_ret (C8.pe_c c_fraction hr (by decide) (by rfl) (pa_cons (pe_ix ixA (pv 0) pe_int (fun _ _ => rfl)) (pa_cons (C8.pe_c c_doubled hr (by decide) (by rfl) (pa_cons (pe_ix ixA (pv 0) pe_int (fun _ _ => rfl)) pa_nil)) pa_nil))))), ?_⟩
    refine ⟨_, rfl, .inr ⟨a, _, 1, _, rfl, rfl, ha, atI_nat (j := 1) rfl, ?_⟩⟩
    refine ⟨_, rfl, .inr ⟨a, _, 2, _, rfl, rfl, ha, atI_nat (j := 2) rfl, rfl, ?_⟩⟩
    exact ⟨t, 1, 1, rfl, by decide, by unfold Bt; decide, by decide, fun r H' s hr => k r H' s hr⟩

/-! ### within: only without a change -/
-- slots: 0 one, 1 at, 2 deep, 3 told, 4 many, 5 half
abbrev s_within : Stmt := topS 33
theorem sc_within : FnScope ["one", "at", "deep", "told", "many", "half"] ["one", "at", "deep"] (C8.fnScope s_within) := C8.fnScope_by (by decide +kernel)
def sp_within : Sp := fun vs H Q _ => ∃ v p, vs = [v, .int 0, .int 0] ∧ Poly H v p ∧ p.length ≤ 1000 ∧ changesF p = 0 ∧ ∀ l H', Same H H' → H' l = some (.lst []) → Q (.ref l) H'
theorem cal_within (D : C8.Def K mg "within" s_within f fd) (df : fd.defaults = .none) (T : Tx K mg) (c_on_stretch : C8.Cal P w K mg base 1 "on_stretch" sp_on_stretch []) (c_changes : C8.Cal P w K mg base 2 "changes" sp_changes []) : C8.Cal P w K mg base 3 "within" sp_within [] := by
  refine C8.cal0 D (D.fn.binds df (ps := ["one", "at", "deep"]) fun _ _ _ _ _ _ us hl => match us, hl with | [_, _, _], _ => rfl) .nil sc_within (fun vs H Q E h => ?_) (fun cdv A outer s H vs Q E hr h => ?_)
  · obtain ⟨v, p, rfl, _⟩ := h
    rfl
  · obtain ⟨v, p, rfl, hv, hl, hc, k⟩ := h
    refine ⟨_, (pss_cons (ps_set (i := 3) sc_within.nd rfl (.inl rfl) (C8.pe_c c_on_stretch hr (by decide) (by rfl) (pa_cons (pv 0) (pa_cons (pv 1) (pa_cons (pv 2) pa_nil)))))
      (pss_cons (ps_set (i := 4) sc_within.nd rfl (.inl rfl) (C8.pe_c c_changes hr (by decide) (by rfl) (pa_cons (pv 3) pa_nil)))
      (pss_cons (ps_if (pt_cmpR op_eq (pv 4) pe_int (nomark _))
        (pss_one (ps_ret (pe_lst pa_nil)))
        pss_nil)
      pss_never))), ?_⟩
    refine ⟨_, rfl, _, rfl, _, rfl, _, p, rfl, hv, hl, fun x H1 s1 hx => ?_⟩
    refine ⟨_, rfl, _, p, rfl, hx, hl, fun H2 s2 => ?_⟩
    refine ⟨_, rfl, rfl, _, rfl, ?_⟩
    rw [decide_eq_true (show V.int ((changesF p : Nat) : Int) = .int 0 by rw [hc]; rfl)]
    exact iteT ⟨Nat.zero_le _, fun l nl => k l _ (s1.trans (s2.trans (same_new nl))) upd_same⟩

/-! ### roots: only none -/
-- slots: 0 one
abbrev s_roots : Stmt := topS 32
theorem sc_roots : FnScope ["one"] ["one"] (C8.fnScope s_roots) := C8.fnScope_by (by decide +kernel)
def sp_roots : Sp := fun vs H Q _ => ∃ v p, vs = [v] ∧ Poly H v p ∧ okP p = true ∧ rootsOk p = true ∧ ∀ l H', Same H H' → H' l = some (.lst []) → Q (.ref l) H'
theorem cal_roots (D : C8.Def K mg "roots" s_roots f fd) (df : fd.defaults = .none) (T : Tx K mg) (c_single : C8.Cal P w K mg base 5 "single" sp_single []) (c_within : C8.Cal P w K mg base 3 "within" sp_within []) : C8.Cal P w K mg base 6 "roots" sp_roots [] := by
  refine C8.cal0 D (D.fn.binds df (ps := ["one"]) fun _ _ _ _ _ _ us hl => match us, hl with | [_], _ => rfl) .nil sc_roots (fun vs H Q E h => ?_) (fun cdv A outer s H vs Q E hr h => ?_)
  · obtain ⟨v, p, rfl, _⟩ := h
    rfl
  · obtain ⟨v, p, rfl, hv, hok, hro, k⟩ := h
    obtain ⟨a, rfl, ha⟩ := poly_at hv
    refine ⟨_, (pss_one (ps_ret (pe_ifExp (pt_cmpR op_gt (pe_callB call_len_seq (by rfl) T.len_ (by decide +kernel) (pa_cons (pv 0) pa_nil)) pe_int (nomark _)) (C8.pe_c c_within hr (by decide) (by rfl) (pa_cons (C8.pe_c c_single hr (by decide) (by rfl) (pa_cons (pv 0) pa_nil)) (pa_cons pe_int (pa_cons pe_int pa_nil)))) (pe_lst pa_nil)))), ?_⟩
    refine ⟨_, rfl, a, _, rfl, .inr (sqt ha), ?_⟩
    rw [List.length_map]
    refine ⟨_, _, rfl, rfl, _, rfl, ?_⟩
    unfold rootsOk at hro
    by_cases h1 : 1 < p.length
    · rw [if_pos h1] at hro
      rw [decide_eq_true (show (1 : Int) < (p.length : Int) by omega)]
      cases hs : singleF p with
      | none => rw [hs] at hro; cases hro
      | some q =>
        rw [hs] at hro
        simp only [Bool.and_eq_true, decide_eq_true_eq] at hro
        refine iteT ⟨_, rfl, _, p, q, rfl, hv, hok, hs, fun x H1 s1 hx => ?_⟩
        exact ⟨_, q, rfl, hx, by omega, hro.2, fun l H' s2 hl => k l H' (s1.trans s2) hl⟩
    · rw [decide_eq_false (show ¬ (1 : Int) < (p.length : Int) by omega)]
      exact iteF ⟨Nat.zero_le _, fun l nl => k l _ (same_new nl) upd_same⟩

/-! ### sign_at_root: only roots told just so -/
-- slots: 0 one, 1 root, 2 both
abbrev s_sign_at_root : Stmt := topS 36
theorem sc_sign_at_root : FnScope ["one", "root", "both"] ["one", "root"] (C8.fnScope s_sign_at_root) := C8.fnScope_by (by decide +kernel)
def sp_sign_at_root (K : PySem.W.Frag) : Sp := fun vs H Q _ => ∃ v u p q t r, vs = [v, u] ∧ Poly H v p ∧ Root K H u q t ∧ sarF p q t = some r ∧ ∀ H', Same H H' → Q (.int r) H'
theorem cal_sign_at_root (D : C8.Def K mg "sign_at_root" s_sign_at_root f fd) (df : fd.defaults = .none) (T : Tx K mg) (c_shared : C8.Cal P w K mg base 4 "shared" (sp_shared K) []) (c_low_end : C8.Cal P w K mg base 3 "low_end" (sp_low_end K) []) (c_sign_at : C8.Cal P w K mg base 4 "sign_at" sp_sign_at []) : C8.Cal P w K mg base 5 "sign_at_root" (sp_sign_at_root K) [] := by
  refine C8.cal0 D (D.fn.binds df (ps := ["one", "root"]) fun _ _ _ _ _ _ us hl => match us, hl with | [_, _], _ => rfl) .nil sc_sign_at_root (fun vs H Q E h => ?_) (fun cdv A outer s H vs Q E hr h => ?_)
  · obtain ⟨v, u, p, q, t, r, rfl, _⟩ := h
    rfl
  · obtain ⟨v, u, p, q, t, r, rfl, hv, ⟨a, b, rfl, ha, hb⟩, hf, k⟩ := h
    obtain ⟨c, rfl, hc⟩ := poly_at hv
    refine ⟨_, (pss_cons (ps_if (pt_cmpR (op_eqZ hr.units) (pv 0) (pe_tup pa_nil) (nomark _))
        (pss_one (ps_ret pe_int))
        pss_nil)
      (pss_cons (ps_set (i := 2) sc_sign_at_root.nd rfl (.inl rfl) (C8.pe_c c_shared hr (by decide) (by rfl) (pa_cons (pv 0) (pa_cons (pe_ix ixA (pv 1) pe_int (fun _ _ => rfl)) pa_nil))))
      (pss_cons (ps_while PassesOwn.never (pt_not (pt_val (pe_ix ixA (pv 1) pe_int (fun _ _ => rfl))))
        pss_never)
      (pss_one (ps_ret (C8.pe_c c_sign_at hr (by decide) (by rfl) (pa_cons (pv 0) (pa_cons (C8.pe_c c_low_end hr (by decide) (by rfl) (pa_cons (pv 1) pa_nil)) pa_nil)))))))), ?_⟩
    refine ⟨_, rfl, Nat.zero_le _, fun e ne => ?_⟩
    have se := same_new (o := .tup []) ne
    refine ⟨_, _, p, [], rfl, rfl, .inr ⟨sqt (se _ _ hc), sqt upd_same⟩, _, rfl, ?_⟩
    unfold sarF at hf
    by_cases h0 : p = []
    · rw [if_pos h0] at hf
      rw [decide_eq_true h0]
      exact iteT (by rw [← Option.some.inj hf] at k; exact k _ se)
    · rw [if_neg h0] at hf
      rw [decide_eq_false h0]
      refine iteF ?_
      by_cases hok : ((sharedF p q).isSome && okV p (redF t 1).1 (redF t 1).2) = true
      · rw [if_pos hok] at hf
        rw [Bool.and_eq_true] at hok
        obtain ⟨hs, hov⟩ := hok
        cases hsh : sharedF p q with
        | none => rw [hsh] at hs; cases hs
        | some z =>
          refine ⟨_, rfl, _, rfl, .inr ⟨a, _, 0, _, rfl, rfl, same_t se ha, atI_nat (j := 0) rfl, ?_⟩⟩
          refine ⟨_, _, p, q, z, rfl, zs_poly (poly_of (se _ _ hc)), ⟨b, rfl, .inr (same_t se hb)⟩, hsh, fun x H1 s1 hx => ?_⟩
          have s2 := se.trans s1
          refine ⟨fun m σ' H' => H' = H1 ∧ σ' = [some (.ref c), some (.ref a), some x], ⟨0, rfl, rfl⟩, ?_⟩
          rintro m σ' H' ⟨rfl, rfl⟩
          refine ⟨_, rfl, .inr ⟨a, _, 3, _, rfl, rfl, same_t s2 ha, atI_nat (j := 3) rfl, ?_⟩⟩
          refine ⟨_, rfl, ?_⟩
          refine iteF ⟨_, rfl, _, rfl, ?_⟩
          refine ⟨_, q, t, rfl, ⟨a, b, rfl, same_t s2 ha, same_t s2 hb⟩, fun x3 H3 s3 hx3 => ?_⟩
          refine ⟨_, _, p, (redF t 1).1, (redF t 1).2, rfl, poly_of (s3 _ _ (s2 _ _ hc)), hx3, hov, fun H4 s4 => ?_⟩
          rw [Option.some.inj hf]
          exact k _ (s2.trans (s3.trans s4))
      · rw [if_neg hok] at hf
        cases hf

/-! ### sign_behind -/
-- slots: 0 one, 1 root, 2 found
abbrev s_sign_behind : Stmt := topS 37
theorem sc_sign_behind : FnScope ["one", "root", "found"] ["one", "root"] (C8.fnScope s_sign_behind) := C8.fnScope_by (by decide +kernel)
def sp_sign_behind (K : PySem.W.Frag) : Sp := fun vs H Q _ => ∃ v u p q t n r, vs = [v, u] ∧ Poly H v p ∧ Root K H u q t ∧ behF n p q t = some r ∧ ∀ H', Same H H' → Q (.int r) H'
theorem cal_sign_behind (D : C8.Def K mg "sign_behind" s_sign_behind f fd) (df : fd.defaults = .none) (T : Tx K mg) (c_sign_at_root : C8.Cal P w K mg base 5 "sign_at_root" (sp_sign_at_root K) []) (c_derived : C8.Cal P w K mg base 2 "derived" sp_derived []) : C8.Cal P w K mg base 6 "sign_behind" (sp_sign_behind K) [] := by
  refine C8.cal0 D (D.fn.binds df (ps := ["one", "root"]) fun _ _ _ _ _ _ us hl => match us, hl with | [_, _], _ => rfl) .nil sc_sign_behind (fun vs H Q E h => ?_) (fun cdv A outer s H vs Q E hr h => ?_)
  · obtain ⟨v, u, p, q, t, n, r, rfl, _⟩ := h
    rfl
  · obtain ⟨v, u, p, q, t, n, r, rfl, hv, hu, hf, k⟩ := h
    refine ⟨_, (pss_cons (ps_while PassesOwn.never (pt_cmpR (op_neZ hr.units) (pv 0) (pe_tup pa_nil) (nomark _))
        (pss_cons (ps_set (i := 2) sc_sign_behind.nd rfl (.inl rfl) (C8.pe_c c_sign_at_root hr (by decide) (by rfl) (pa_cons (pv 0) (pa_cons (pv 1) pa_nil))))
        (pss_cons (ps_if (pt_cmpR op_ne (pv 2) pe_int (nomark _))
          (pss_one (ps_ret (pv 2)))
          pss_nil)
        (pss_one (ps_set (i := 0) sc_sign_behind.nd rfl (.inl rfl) (C8.pe_c c_derived hr (by decide) (by rfl) (pa_cons (pv 0) pa_nil)))))))
      (pss_one (ps_ret pe_int))), ?_⟩
    refine ⟨fun m σ' H' => Same H H' ∧ ∃ a p' x2, σ' = [some (.ref a), some u, x2] ∧ H' a = some (.tup (p'.map V.int)) ∧ behF m p' q t = some r, ?_, ?_⟩
    · obtain ⟨a, rfl, ha⟩ := poly_at hv
      exact ⟨n, Same.refl _, a, p, none, rfl, ha, hf⟩
    rintro m σ' H' ⟨sm, a, p', x2, rfl, ha, hf⟩
    cases m with
    | zero => cases hf
    | succ m =>
      unfold behF at hf
      refine ⟨_, rfl, Nat.zero_le _, fun e ne => ?_⟩
      have se := same_new (o := .tup []) ne
      refine ⟨_, _, p', [], rfl, rfl, .inr ⟨sqt (se _ _ ha), sqt upd_same⟩, _, rfl, ?_⟩
      by_cases h0 : p' = []
      · rw [if_pos h0] at hf
        rw [decide_eq_true h0]
        exact iteF (by rw [← Option.some.inj hf] at k; exact k _ (sm.trans se))
      · rw [if_neg h0] at hf
        rw [decide_eq_false h0]
        refine iteT ⟨fun σ' H2 => ∃ m', m' < m + 1 ∧ (Same H H2 ∧ ∃ a p' x2, σ' = [some (.ref a), some u, x2] ∧ H2 a = some (.tup (p'.map V.int)) ∧ behF m' p' q t = some r), fun σ' H' h => h, ?_⟩
        cases hs : sarF p' q t with
        | none => rw [hs] at hf; cases hf
        | some z =>
          rw [hs] at hf
          refine ⟨_, rfl, _, rfl, _, _, p', q, t, z, rfl, poly_of (se _ _ ha), root_keep (sm.trans se) hu, hs, fun H3 s3 => ?_⟩
          have s4 := sm.trans (se.trans s3)
          refine ⟨_, rfl, rfl, _, rfl, ite2 (fun hb => ?_) (fun hb => ?_)⟩
          · have hz : z ≠ 0 := fun e => by simp [e] at hb
            have hf : (if z ≠ 0 then some z else if okP p' = true then behF m (derivedF p') q t else none) = some r := hf
            rw [if_pos hz] at hf
            refine ⟨_, rfl, ?_⟩
            rw [Option.some.inj hf]
            exact k _ s4
          · have hz : ¬ z ≠ 0 := fun e => hb (by simpa using e)
            have hf : (if z ≠ 0 then some z else if okP p' = true then behF m (derivedF p') q t else none) = some r := hf
            rw [if_neg hz] at hf
            by_cases hok : okP p' = true
            · rw [if_pos hok] at hf
              refine ⟨_, rfl, _, p', rfl, poly_of (s3 _ _ (se _ _ ha)), hok, fun x H5 s5 hx => ?_⟩
              obtain ⟨a2, rfl, ha2⟩ := poly_at hx
              exact ⟨m, Nat.lt_succ_self _, s4.trans s5, a2, _, _, rfl, ha2, hf⟩
            · rw [if_neg hok] at hf
              cases hf

/-! ### sign_ahead -/
-- slots: 0 one, 1 root, 2 turn, 3 found
abbrev s_sign_ahead : Stmt := topS 38
theorem sc_sign_ahead : FnScope ["one", "root", "turn", "found"] ["one", "root"] (C8.fnScope s_sign_ahead) := C8.fnScope_by (by decide +kernel)
def sp_sign_ahead (K : PySem.W.Frag) : Sp := fun vs H Q _ => ∃ v u p q t n r, vs = [v, u] ∧ Poly H v p ∧ Root K H u q t ∧ aheF n p q t 1 = some r ∧ ∀ H', Same H H' → Q (.int r) H'
theorem cal_sign_ahead (D : C8.Def K mg "sign_ahead" s_sign_ahead f fd) (df : fd.defaults = .none) (T : Tx K mg) (c_sign_at_root : C8.Cal P w K mg base 5 "sign_at_root" (sp_sign_at_root K) []) (c_derived : C8.Cal P w K mg base 2 "derived" sp_derived []) : C8.Cal P w K mg base 6 "sign_ahead" (sp_sign_ahead K) [] := by
  refine C8.cal0 D (D.fn.binds df (ps := ["one", "root"]) fun _ _ _ _ _ _ us hl => match us, hl with | [_, _], _ => rfl) .nil sc_sign_ahead (fun vs H Q E h => ?_) (fun cdv A outer s H vs Q E hr h => ?_)
  · obtain ⟨v, u, p, q, t, n, r, rfl, _⟩ := h
    rfl
  · obtain ⟨v, u, p, q, t, n, r, rfl, hv, hu, hf, k⟩ := h
    refine ⟨_, (pss_cons (ps_set (i := 2) sc_sign_ahead.nd rfl (.inl rfl) pe_int)
      (pss_cons (ps_while PassesOwn.never (pt_cmpR (op_neZ hr.units) (pv 0) (pe_tup pa_nil) (nomark _))
        (pss_cons (ps_set (i := 3) sc_sign_ahead.nd rfl (.inl rfl) (C8.pe_c c_sign_at_root hr (by decide) (by rfl) (pa_cons (pv 0) (pa_cons (pv 1) pa_nil))))
        (pss_cons (ps_if (pt_cmpR op_ne (pv 3) pe_int (nomark _))
          (pss_one (ps_ret (pe_op op_mul (pv 2) (pv 3))))
          pss_nil)
        (pss_one (ps_par (i := 0) (j := 2) rfl sc_sign_ahead.nd rfl rfl (by decide) rfl rfl (pa_cons (C8.pe_c c_derived hr (by decide) (by rfl) (pa_cons (pv 0) pa_nil)) (pa_cons (pe_un un_neg (pv 2)) pa_nil)) (by rfl))))))
      (pss_one (ps_ret pe_int)))), ?_⟩
    refine ⟨fun m σ' H' => Same H H' ∧ ∃ a p' tn x2, σ' = [some (.ref a), some u, some (.int tn), x2] ∧ (tn = 1 ∨ tn = -1) ∧ H' a = some (.tup (p'.map V.int)) ∧ aheF m p' q t tn = some r, ?_, ?_⟩
    · obtain ⟨a, rfl, ha⟩ := poly_at hv
      exact ⟨n, Same.refl _, a, p, 1, none, rfl, .inl rfl, ha, hf⟩
    rintro m σ' H' ⟨sm, a, p', tn, x2, rfl, htn, ha, hf⟩
    cases m with
    | zero => cases hf
    | succ m =>
      unfold aheF at hf
      refine ⟨_, rfl, Nat.zero_le _, fun e ne => ?_⟩
      have se := same_new (o := .tup []) ne
      refine ⟨_, _, p', [], rfl, rfl, .inr ⟨sqt (se _ _ ha), sqt upd_same⟩, _, rfl, ?_⟩
      by_cases h0 : p' = []
      · rw [if_pos h0] at hf
        rw [decide_eq_true h0]
        exact iteF (by rw [← Option.some.inj hf] at k; exact k _ (sm.trans se))
      · rw [if_neg h0] at hf
        rw [decide_eq_false h0]
        refine iteT ⟨fun σ' H2 => ∃ m', m' < m + 1 ∧ (Same H H2 ∧ ∃ a p' tn x2, σ' = [some (.ref a), some u, some (.int tn), x2] ∧ (tn = 1 ∨ tn = -1) ∧ H2 a = some (.tup (p'.map V.int)) ∧ aheF m' p' q t tn = some r), fun σ' H' h => h, ?_⟩
        cases hs : sarF p' q t with
        | none => rw [hs] at hf; cases hf
        | some z =>
          rw [hs] at hf
          refine ⟨_, rfl, _, rfl, _, _, p', q, t, z, rfl, poly_of (se _ _ ha), root_keep (sm.trans se) hu, hs, fun H3 s3 => ?_⟩
          have s4 := sm.trans (se.trans s3)
          refine ⟨_, rfl, rfl, _, rfl, ite2 (fun hb => ?_) (fun hb => ?_)⟩
          · have hz : z ≠ 0 := fun e => by simp [e] at hb
            have hf : (if z ≠ 0 then some (tn * z) else if okP p' = true then aheF m (derivedF p') q t (-tn) else none) = some r := hf
            rw [if_pos hz] at hf
            refine ⟨_, rfl, _, rfl, _, _, rfl, rfl, .inl ?_, ?_⟩
            · rcases htn with rfl | rfl <;> decide
            have hk := Option.some.inj hf
            subst hk
            exact k _ s4
          · have hz : ¬ z ≠ 0 := fun e => hb (by simpa using e)
            have hf : (if z ≠ 0 then some (tn * z) else if okP p' = true then aheF m (derivedF p') q t (-tn) else none) = some r := hf
            rw [if_neg hz] at hf
            by_cases hok : okP p' = true
            · rw [if_pos hok] at hf
              refine ⟨_, rfl, _, p', rfl, poly_of (s3 _ _ (se _ _ ha)), hok, fun x H5 s5 hx => ?_⟩
              obtain ⟨a2, rfl, ha2⟩ := poly_at hx
              exact ⟨_, rfl, _, rfl, _, _, rfl, m, Nat.lt_succ_self _, s4.trans s5, a2, _, _, _, rfl, by omega, ha2, hf⟩
            · rw [if_neg hok] at hf
              cases hf

/-! ### is_chance -/
-- slots: 0 one*, 1 root
abbrev s_is_chance : Stmt := topS 48
theorem sc_is_chance : FnScope ["one", "root"] ["one"] (C8.fnScope s_is_chance) := C8.fnScope_by (by decide +kernel)
def sp_is_chance : Sp := fun vs H Q _ => ∃ v p, vs = [v] ∧ Poly H v p ∧ chOk p = true ∧ ∀ H', Same H H' → Q (.bl true) H'
theorem cal_is_chance (D : C8.Def K mg "is_chance" s_is_chance f fd) (df : fd.defaults = .none) (T : Tx K mg) (TR : TxR K mg) (c_sign_at : C8.Cal P w K mg base 4 "sign_at" sp_sign_at []) (c_sign_behind : C8.Cal P w K mg base 6 "sign_behind" (sp_sign_behind K) []) (c_roots : C8.Cal P w K mg base 6 "roots" sp_roots [])
    (c_sign_ahead : C8.Cal P w K mg base 6 "sign_ahead" (sp_sign_ahead K) []) : C8.Cal P w K mg base 7 "is_chance" sp_is_chance [] := by
  refine C8.cal0 D (D.fn.binds df (ps := ["one"]) fun _ _ _ _ _ _ us hl => match us, hl with | [_], _ => rfl) .nil sc_is_chance (fun vs H Q E h => ?_) (fun cdv A outer s H vs Q E hr h => ?_)
  · obtain ⟨v, p, rfl, _⟩ := h
    rfl
  · obtain ⟨v, p, rfl, hv, hok, k⟩ := h
    obtain ⟨vF, cF, hF⟩ := TR.FIRST_
    obtain ⟨vL, cL, hL⟩ := TR.LAST_
    unfold chOk at hok
    simp only [Bool.and_eq_true, decide_eq_true_eq] at hok
    obtain ⟨⟨⟨⟨⟨⟨⟨h1, h2⟩, h3⟩, h4⟩, h5⟩, h6⟩, h7⟩, h8⟩ := hok
    refine ⟨_, (pss_cons (ps_if (pw_or (pt_cmpR op_lt (C8.pe_c c_sign_at hr (by decide) (by rfl) (pa_cons (pv 0) (pa_cons (pe_tup (pa_cons pe_int (pa_cons pe_int pa_nil))) pa_nil))) pe_int (nomark _)) (pw_or (pt_cmpR op_lt (C8.pe_c c_sign_at hr (by decide) (by rfl) (pa_cons (pv 0) (pa_cons (pe_tup (pa_cons pe_int (pa_cons pe_int pa_nil))) pa_nil))) pe_int (nomark _)) (pw_or1 (pt_cmpR op_lt (C8.pe_c c_sign_behind hr (by decide) (by rfl) (pa_cons (pv 0) (pa_cons (C8.pe_gc (by rfl) cF) pa_nil))) pe_int (nomark _))))).pt
        (pss_one (ps_ret pe_bl))
        pss_nil)
      (pss_one (ps_ret (pe_and (pe_callB (cr_all rfl) (by rfl) T.all_ (by decide +kernel) (pa_cons (pe_lc (own := [("root", 1)]) (by rfl) sc_is_chance.nd (pi_seq (C8.pe_c c_roots hr (by decide) (by rfl) (pa_cons (pv 0) pa_nil))) (blkOk_by (N := ["one", "root"]) (sc := C8.fnScope s_is_chance) (by decide +kernel)) (fun _ _ _ _ _ => (pg_name (i := 1) sc_is_chance.nd rfl (.inl rfl))) (fun _ _ _ _ _ => pts_nil) (fun _ _ _ _ _ => (pe_cmpR op_ge (C8.pe_c c_sign_behind hr (by decide) (by rfl) (pa_cons (pv 0) (pa_cons (pv 1) pa_nil))) pe_int (nomark _)))) pa_nil)) (pe_one (pe_cmpR op_ge (C8.pe_c c_sign_ahead hr (by decide) (by rfl) (pa_cons (pv 0) (pa_cons (C8.pe_gc (by rfl) cL) pa_nil))) pe_int (nomark _))))))), ?_⟩
    cases hb : behF 10 p [0, 1] 0 with
    | none => rw [hb] at h6; cases h6
    | some zb =>
    cases hh : aheF 10 p [-1, 1] 1 1 with
    | none => rw [hh] at h8; cases h8
    | some zh =>
    rw [hb] at h6
    rw [hh] at h8
    have h6' : 0 ≤ zb := of_decide_eq_true h6
    have h8' : 0 ≤ zh := of_decide_eq_true h8
    refine ⟨_, rfl, by show 2 ≤ sizeLine; decide, fun t1 n1 => ?_⟩
    have s1 := same_new (o := .tup [V.int 0, V.int 1]) n1
    refine ⟨_, _, p, 0, 1, rfl, keep s1 hv, frac_of upd_same, h2, fun H1 sa => ⟨_, _, rfl, rfl, _, rfl, ?_⟩⟩
    rw [decide_eq_false (show ¬ signAtF p 0 1 < 0 by omega)]
    have s2 := s1.trans sa
    refine iteF ⟨_, rfl, by show 2 ≤ sizeLine; decide, fun t2 n2 => ?_⟩
    have s3 := s2.trans (same_new (o := .tup [V.int 1, V.int 1]) n2)
    refine ⟨_, _, p, 1, 1, rfl, keep s3 hv, frac_of upd_same, h3, fun H2 sb => ⟨_, _, rfl, rfl, _, rfl, ?_⟩⟩
    rw [decide_eq_false (show ¬ signAtF p 1 1 < 0 by omega)]
    have s4 := s3.trans sb
    refine iteF ⟨_, rfl, ?_⟩
    refine ⟨_, _, p, [0, 1], 0, 10, zb, rfl, keep s4 hv, hF _, hb, fun H3 sc => ⟨_, _, rfl, rfl, _, rfl, ?_⟩⟩
    rw [decide_eq_false (show ¬ zb < 0 by omega)]
    have s5 := s4.trans sc
    refine iteF ?_
    refine ⟨_, rfl, _, p, rfl, keep s5 hv, h1, h7, fun l H4 sd hl => ?_⟩
    have s6 := s5.trans sd
    refine ⟨l, _, rfl, .inl ⟨sql hl, lc_map (r := rI_) walk_list (fun H' s => sql (s _ _ hl)) (by decide) (fun i => 0) (fun i x H' H'' hi => absurd hi (Nat.not_lt_zero _)) fun l2 H5 se hv2 => ?_⟩⟩
    obtain ⟨a2, xs2, e2, hl2, hp2⟩ := hv2
    cases e2
    have hx2 : xs2 = [] := List.eq_nil_of_length_eq_zero (paired_len hp2)
    subst hx2
    have s7 := s6.trans se
    refine ⟨_, [], rfl, sql hl2, _, rfl, iteT ⟨_, rfl, ?_⟩⟩
    refine ⟨_, _, p, [-1, 1], 1, 10, zh, rfl, keep s7 hv, hL _, hh, fun H6 sf => ⟨_, _, rfl, rfl, ?_⟩⟩
    have e : decide ((0 : Int) ≤ zh) = true := decide_eq_true h8'
    show Q (.bl (decide ((0 : Int) ≤ zh))) H6
    rw [e]
    exact k _ (s7.trans sf)
end
end EN
namespace EN
open PySem PySem.Spec PyProof.Rows L2
theorem itT {p : Prop} [Decidable p] {A B : Prop} (h : p) (a : A) : if decide p = true then A else B := by rw [if_pos (decide_eq_true h)]; exact a
theorem itF {p : Prop} [Decidable p] {A B : Prop} (h : ¬ p) (b : B) : if decide p = true then A else B := by rw [if_neg (by simpa using h)]; exact b
theorem itNT {p : Prop} [Decidable p] {A B : Prop} (h : ¬ p) (a : A) : if (!decide p) = true then A else B := by rw [if_pos (by simpa using h)]; exact a
theorem itNF {p : Prop} [Decidable p] {A B : Prop} (h : p) (b : B) : if (!decide p) = true then A else B := by rw [if_neg (by simpa using h)]; exact b
theorem itAllNF {n : Nat} {A B : Prop} (b : B) : if (!(List.replicate n true).all id) = true then A else B := by
  rw [show (List.replicate n true).all id = true by simp]
  exact b
theorem vne {i j : Int} (h : i ≠ j) : V.int i ≠ V.int j := fun e => h (V.int.inj e)
theorem veq {i j : Int} (h : i = j) : V.int i = V.int j := congrArg _ h
theorem asT {p : Prop} [Decidable p] {F : V → Hp → Prop} {H : Hp} (h : p) (q : F (.bl true) H) : F (.bl (decide p)) H := by rw [decide_eq_true h]; exact q
theorem asNT {p : Prop} [Decidable p] {F : V → Hp → Prop} {H : Hp} (h : ¬ p) (q : F (.bl true) H) : F (.bl (!decide p)) H := by rw [decide_eq_false h]; exact q
def rTrue : Rp Unit := fun _ v _ => v = .bl true
instance : Kp rTrue := ⟨fun _ h => h⟩
instance : Im rTrue := ⟨fun _ _ h => h⟩
theorem all_paired_true : ∀ {xs : List V} {l : List Unit} {H : Hp}, Paired (rTrue H) xs l → xs = (List.replicate xs.length true).map V.bl
  | _, _, _, .nil => rfl
  | _, _, _, .cons r t => by
    rw [List.length_cons, List.replicate_succ, List.map_cons, ← all_paired_true t]
    rw [show _ = V.bl true from r]
theorem lc_true {K : PySem.W.Frag} {a : Addr} {xs : List V} {g : TG} {te : TE} {vs : List Nat} {σ : L2.St} {H1 : Hp} {Q : Addr → Hp → Prop} (h : SqL K H1 a xs ∨ SqT K H1 a xs) (hn : xs.length ≤ 1000000)
    (hs : ∀ (i : Nat) x H', xs[i]? = some x → Same H1 H' → ∀ C : V → Hp → Prop, (∀ H4, Same H' H4 → C (.bl true) H4) → g x (wipe σ vs) H' fun σ2 H2 => wipe σ2 vs = wipe σ vs ∧ te σ2 H2 C)
    (hd : ∀ v H', Same H1 H' → (∃ n, H' v = some (.lst ((List.replicate n true).map V.bl))) → Q v H') :
    ∃ (a' : Addr) (xs' : List V), V.ref a = .ref a' ∧ ((SqL K H1 a' xs' ∧ LcLoop (Itl K a') g tYes te vs σ H1 Q) ∨ (SqT K H1 a' xs' ∧ LcLoop (Itt K a') g tYes te vs σ H1 Q)) :=
  lc_mapS (r := rTrue) h hn (fun _ => ()) (fun i x H' hx sm C hC => hs i x H' hx sm C fun H4 s => hC _ H4 s rfl) fun v H' sm hv => hd v H' sm (by
    obtain ⟨b, ys, e, hb, hp⟩ := hv
    cases e
    exact ⟨_, by rw [hb, ← all_paired_true hp]⟩)
theorem rAll_t {K : PySem.W.Frag} {H : Hp} {l : Addr} {Q : VK} (h : ∃ n, H l = some (.lst ((List.replicate n true).map V.bl))) (q : Q (.bl true) H) : rAll K [.ref l] H Q := by
  obtain ⟨n, h⟩ := h
  refine ⟨l, List.replicate n true, rfl, sql h, ?_⟩
  rw [show (List.replicate n true).all id = true by simp]
  exact q
section
variable {P : Program} {w : World} {K : PySem.W.Frag} {mg : Str → Option Value} {base : Heap} {f : Addr} {fd : FuncData}

/-! ### is_poly -/
-- slots: 0 value, 1 one
abbrev s_is_poly : Stmt := topS 49
theorem sc_is_poly : FnScope ["value", "one"] ["value"] (C8.fnScope s_is_poly) := C8.fnScope_by (by decide +kernel)
def sp_is_poly : Sp := fun vs H Q _ => ∃ v p, vs = [v] ∧ Poly H v p ∧ polyOk p = true ∧ ∀ H', Same H H' → Q (.bl true) H'
theorem cal_is_poly (D : C8.Def K mg "is_poly" s_is_poly f fd) (df : fd.defaults = .none) (T : Tx K mg) (c_is_int : C8.Cal P w K mg base 1 "is_int" sp_is_int []) : C8.Cal P w K mg base 2 "is_poly" sp_is_poly [] := by
  refine C8.cal0 D (D.fn.binds df (ps := ["value"]) fun _ _ _ _ _ _ us hl => match us, hl with | [_], _ => rfl) .nil sc_is_poly (fun vs H Q E h => ?_) (fun cdv A outer s H vs Q E hr h => ?_)
  · obtain ⟨v, p, rfl, _⟩ := h
    rfl
  · obtain ⟨v, p, rfl, hv, hok, k⟩ := h
    obtain ⟨a, rfl, ha⟩ := poly_at hv
    obtain ⟨hl, hc, h0⟩ := polyOk_iff.mp hok
    refine ⟨_, (pss_cons (ps_if (pw_or (pt_not (pt_val (pe_callB call_isi (by rfl) T.isinstance_ (by decide +kernel) (pa_cons (pv 0) (pa_cons (pe_bltn (v := .ty "tuple") (by rfl) T.tuple_ (by decide +kernel) rfl) pa_nil))))) (pw_or1 (pt_cmpR op_gt (pe_callB call_len_seq (by rfl) T.len_ (by decide +kernel) (pa_cons (pv 0) pa_nil)) (C8.pe_gc (by rfl) T.c_MOST_POWERS) (nomark _)))).pt
        (pss_one (ps_ret pe_bl))
        pss_nil)
      (pss_cons (ps_if (pt_not (pt_val (pe_callB (cr_all rfl) (by rfl) T.all_ (by decide +kernel) (pa_cons (pe_lc (own := [("one", 1)]) (by rfl) sc_is_poly.nd (pi_seq (pv 0)) (blkOk_by (N := ["value", "one"]) (sc := C8.fnScope s_is_poly) (by decide +kernel)) (fun _ _ _ _ _ => (pg_name (i := 1) sc_is_poly.nd rfl (.inl rfl))) (fun _ _ _ _ _ => pts_nil) (fun _ _ _ _ _ => (pe_and (C8.pe_c c_is_int hr (by decide) (by rfl) (pa_cons (pv 1) pa_nil)) (pe_one (pe_chain op_le op_le (pe_un un_neg (C8.pe_gc (by rfl) T.c_MOST_GIVEN)) (pv 1) (C8.pe_gc (by rfl) T.c_MOST_GIVEN)))))) pa_nil))))
        (pss_one (ps_ret pe_bl))
        pss_nil)
      (pss_one (ps_ret (pe_or (pe_cmpR (op_eqZ hr.units) (pv 0) (pe_tup pa_nil) (nomark _)) (pe_one (pe_cmpR op_ne (pe_ix ixA (pv 0) (pe_un un_neg pe_int) (fun _ _ => rfl)) pe_int (nomark _)))))))), ?_⟩
    refine ⟨_, rfl, ?_⟩
    refine isi_tc (.tup ha) k_tup_tup ?_
    refine ⟨_, rfl, ?_⟩
    refine iteF ⟨_, rfl, a, _, rfl, .inr (sqt ha), _, _, rfl, rfl, _, rfl, itF (by rw [List.length_map]; omega) ?_⟩
    refine ⟨_, rfl, lc_true (.inr (sqt ha)) (by rw [List.length_map]; omega) (fun i x H' hx sm C hC => ?_) fun l H1 s1 ⟨n, hl1⟩ => ⟨l, List.replicate n true, rfl, sql hl1, _, rfl, itAllNF ?_⟩⟩
    · obtain ⟨c, hc', rfl⟩ := ints_get hx
      obtain ⟨h1, h2⟩ := hc c (List.mem_of_getElem? hc')
      refine ⟨rfl, _, rfl, c, rfl, _, rfl, iteT ?_⟩
      refine ⟨_, rfl, _, rfl, _, _, rfl, rfl, _, rfl, itT (by omega) ⟨_, _, rfl, rfl, asT (by omega) (hC _ (Same.refl _))⟩⟩
    · refine ⟨_, rfl, Nat.zero_le _, fun e ne => ?_⟩
      have s2 := s1.trans (same_new (o := .tup []) ne)
      refine ⟨_, _, p, [], rfl, rfl, .inr ⟨sqt (s2 _ _ ha), sqt upd_same⟩, _, rfl, ?_⟩
      by_cases hp : p = []
      · rw [decide_eq_true hp]
        exact iteT (k _ s2)
      · rw [decide_eq_false hp]
        refine iteF ⟨_, rfl, _, rfl, ix_last (.inr (sqt (s2 _ _ ha))) hp ⟨rfl, asNT (vne (h0.resolve_left hp)) (k _ s2)⟩⟩

/-! ### is_word -/
-- slots: 0 value, 1 many*, 2 one
abbrev s_is_word : Stmt := topS 52
theorem sc_is_word : FnScope ["value", "many", "one"] ["value", "many"] (C8.fnScope s_is_word) := C8.fnScope_by (by decide +kernel)
def sp_is_word : Sp := fun vs H Q _ => ∃ v p m, vs = [v, .int m] ∧ Poly H v p ∧ 1 ≤ p.length ∧ p.length ≤ 4 ∧ (∀ x ∈ p, 0 ≤ x ∧ x < m) ∧ ∀ H', Same H H' → Q (.bl true) H'
theorem cal_is_word (D : C8.Def K mg "is_word" s_is_word f fd) (df : fd.defaults = .none) (T : Tx K mg) (c_is_int : C8.Cal P w K mg base 1 "is_int" sp_is_int []) : C8.Cal P w K mg base 2 "is_word" sp_is_word [] := by
  refine C8.cal0 D (D.fn.binds df (ps := ["value", "many"]) fun _ _ _ _ _ _ us hl => match us, hl with | [_, _], _ => rfl) .nil sc_is_word (fun vs H Q E h => ?_) (fun cdv A outer s H vs Q E hr h => ?_)
  · obtain ⟨v, p, m, rfl, _⟩ := h
    rfl
  · obtain ⟨v, p, m, rfl, hv, hl1, hl2, hc, k⟩ := h
    obtain ⟨a, rfl, ha⟩ := poly_at hv
    refine ⟨_, (pss_cons (ps_if (pw_or (pt_not (pt_val (pe_callB call_isi (by rfl) T.isinstance_ (by decide +kernel) (pa_cons (pv 0) (pa_cons (pe_bltn (v := .ty "tuple") (by rfl) T.tuple_ (by decide +kernel) rfl) pa_nil))))) (pw_or1 (pt_not (pt_chain op_le op_le pe_int (pe_callB call_len_seq (by rfl) T.len_ (by decide +kernel) (pa_cons (pv 0) pa_nil)) (C8.pe_gc (by rfl) T.c_MOST_LONG))))).pt
        (pss_one (ps_ret pe_bl))
        pss_nil)
      (pss_one (ps_ret (pe_callB (cr_all rfl) (by rfl) T.all_ (by decide +kernel) (pa_cons (pe_lc (own := [("one", 2)]) (by rfl) sc_is_word.nd (pi_seq (pv 0)) (blkOk_by (N := ["value", "many", "one"]) (sc := C8.fnScope s_is_word) (by decide +kernel)) (fun _ _ _ _ _ => (pg_name (i := 2) sc_is_word.nd rfl (.inl rfl))) (fun _ _ _ _ _ => pts_nil) (fun _ _ _ _ _ => (pe_and (C8.pe_c c_is_int hr (by decide) (by rfl) (pa_cons (pv 2) pa_nil)) (pe_one (pe_chain op_le op_lt pe_int (pv 2) (pv 1)))))) pa_nil))))), ?_⟩
    refine ⟨_, rfl, ?_⟩
    refine isi_tc (.tup ha) k_tup_tup ?_
    refine ⟨_, rfl, ?_⟩
    refine iteF ⟨_, rfl, a, _, rfl, .inr (sqt ha), _, _, rfl, rfl, _, rfl, itT (by rw [List.length_map]; omega) ⟨_, _, rfl, rfl, _, rfl, itNF (by rw [List.length_map]; omega) ?_⟩⟩
    refine ⟨_, rfl, lc_true (.inr (sqt ha)) (by rw [List.length_map]; omega) (fun i x H' hx sm C hC => ?_) fun l H1 s1 hl1 => rAll_t hl1 (k _ s1)⟩
    obtain ⟨c, hc', rfl⟩ := ints_get hx
    obtain ⟨h1, h2⟩ := hc c (List.mem_of_getElem? hc')
    refine ⟨rfl, _, rfl, c, rfl, _, rfl, iteT ?_⟩
    refine ⟨_, rfl, _, _, rfl, rfl, _, rfl, itT (by omega) ⟨_, rfl, _, _, rfl, rfl, asT (by omega) (hC _ (Same.refl _))⟩⟩

/-! ### need_share -/
-- slots: 0 value
abbrev s_need_share : Stmt := topS 51
theorem sc_need_share : FnScope ["value"] ["value"] (C8.fnScope s_need_share) := C8.fnScope_by (by decide +kernel)
def sp_need_share : Sp := fun vs H Q _ => ∃ v t l, vs = [v] ∧ Frac H v (t, l) ∧ 0 ≤ t ∧ t ≤ l ∧ 0 < l ∧ Int.gcd t l = 1 ∧ Q .non H
theorem cal_need_share (D : C8.Def K mg "need_share" s_need_share f fd) (df : fd.defaults = .none) (T : Tx K mg) (c_is_fraction : C8.Cal P w K mg base 2 "is_fraction" sp_is_fraction []) : C8.Cal P w K mg base 3 "need_share" sp_need_share [] := by
  refine C8.cal0 D (D.fn.binds df (ps := ["value"]) fun _ _ _ _ _ _ us hl => match us, hl with | [_], _ => rfl) .nil sc_need_share (fun vs H Q E h => ?_) (fun cdv A outer s H vs Q E hr h => ?_)
  · obtain ⟨v, t, l, rfl, _⟩ := h
    rfl
  · obtain ⟨v, t, l, rfl, hv, h0, h1, hl, hg, k⟩ := h
    obtain ⟨a, rfl, ha⟩ := frac_at hv
    refine ⟨_, (pss_one (ps_if (pw_or (pt_not (pt_val (C8.pe_c c_is_fraction hr (by decide) (by rfl) (pa_cons (pv 0) pa_nil)))) (pw_or1 (pt_not (pt_chain op_le op_le pe_int (pe_ix ixA (pv 0) pe_int (fun _ _ => rfl)) (pe_ix ixA (pv 0) pe_int (fun _ _ => rfl)))))).pt
        pss_never
        pss_nil)), ?_⟩
    refine ⟨_, rfl, _, t, l, rfl, hv, hl, hg, _, rfl, iteF ?_⟩
    refine ⟨_, rfl, .inr ⟨a, _, 0, .int t, rfl, rfl, sqt ha, atI_nat (j := 0) rfl, _, _, rfl, rfl, _, rfl, itT h0 ?_⟩⟩
    exact ⟨_, rfl, .inr ⟨a, _, 1, .int l, rfl, rfl, sqt ha, atI_nat (j := 1) rfl, _, _, rfl, rfl, _, rfl, itNF h1 k⟩⟩

/-! ### count_rows, low_of -/
/-- rows of polynomials -/
theorem row_at {H : Hp} {v : V} {row : List (List Int)} (h : Row H v row) : ∃ a xs, v = .ref a ∧ H a = some (.tup xs) ∧ Paired (Poly H) xs row := h
theorem line_at {H : Hp} {v : V} {L : Int × List (List (List Int))} (h : Line H v L) : ∃ a b xs, v = .ref a ∧ H a = some (.tup [.int L.1, .ref b]) ∧ H b = some (.tup xs) ∧ Paired (Row H) xs L.2 := by
  obtain ⟨a, x, y, e, h, q1, b, xs, e2, h2, p⟩ := h
  exact ⟨a, b, xs, e, by rw [h, show x = V.int L.1 from q1, e2], h2, p⟩
theorem line_first {H : Hp} {v : V} {L : Int × List (List (List Int))} {wide : Nat} (h : Line H v L) (ok : LineOk L wide) : ∃ a b c xs ys, v = .ref a ∧ H a = some (.tup [.int L.1, .ref b]) ∧ H b = some (.tup xs) ∧ Paired (Row H) xs L.2 ∧ xs[0]? = some (.ref c) ∧ H c = some (.tup ys) ∧ ys.length = wide := by
  obtain ⟨a, b, xs, e, h1, h2, hp⟩ := line_at h
  have h0 : 0 < L.2.length := by have := ok.many1; omega
  obtain ⟨x, hx, c, ys, e2, hc, hp2⟩ := paired_get hp (List.getElem?_eq_getElem h0)
  refine ⟨a, b, c, xs, ys, e, h1, h2, hp, by rw [hx, e2], hc, ?_⟩
  rw [paired_len hp2]
  exact (ok.rows _ (List.getElem_mem h0)).1
-- slots: 0 line, 1 many, 2 found, 3 turn
abbrev s_count_rows : Stmt := topS 54
theorem sc_count_rows : FnScope ["line", "many", "found", "turn"] ["line", "many"] (C8.fnScope s_count_rows) := C8.fnScope_by (by decide +kernel)
def sp_count_rows : Sp := fun vs H Q _ => ∃ v L wide n, vs = [v, .int (n : Nat)] ∧ Line H v L ∧ LineOk L wide ∧ n ≤ 4 ∧ Q (.int ((wide ^ n : Nat) : Int)) H
theorem cal_count_rows (D : C8.Def K mg "count_rows" s_count_rows f fd) (df : fd.defaults = .none) (T : Tx K mg) : C8.Cal P w K mg base 1 "count_rows" sp_count_rows [] := by
  refine C8.cal0 D (D.fn.binds df (ps := ["line", "many"]) fun _ _ _ _ _ _ us hl => match us, hl with | [_, _], _ => rfl) .nil sc_count_rows (fun vs H Q E h => ?_) (fun cdv A outer s H vs Q E hr h => ?_)
  · obtain ⟨v, L, wide, n, rfl, _⟩ := h
    rfl
  · obtain ⟨v, L, wide, n, rfl, hv, ok, hn, k⟩ := h
    obtain ⟨a, b, c, xs, ys, rfl, ha, hb, hp, hx, hc, hl⟩ := line_first hv ok
    refine ⟨_, (pss_cons (ps_set (i := 2) sc_count_rows.nd rfl (.inl rfl) pe_int)
      (pss_cons (ps_for PassesOwn.never rfl (pi_range1 (by rfl) T.range_ (pa_cons (pv 1) pa_nil)) (pg_name (i := 3) sc_count_rows.nd rfl (.inl rfl))
        (pss_one (ps_aug (i := 2) sc_count_rows.nd rfl (.inl rfl) (pe_callB call_len_seq (by rfl) T.len_ (by decide +kernel) (pa_cons (pe_ix ixA (pe_ix ixA (pv 0) pe_int (fun _ _ => rfl)) pe_int (fun _ _ => rfl)) pa_nil)) ip_mul)))
      (pss_one (ps_ret (pv 2))))), ?_⟩
    refine ⟨_, rfl, _, rfl, by omega, by omega, for_range (n := n) (fun i σ' H' => H' = H ∧ i ≤ n ∧ ∃ x3, σ' = [some (.ref a), some (.int (n : Nat)), some (.int ((wide ^ i : Nat) : Int)), x3]) ⟨rfl, Nat.zero_le _, none, rfl⟩ ?_ ?_⟩
    · rintro i σ' H' hi ⟨rfl, _, x3, rfl⟩
      refine ⟨_, rfl, _, rfl, .inr ⟨a, _, 1, _, rfl, rfl, sqt ha, atI_nat (j := 1) rfl, .inr ⟨b, _, 0, _, rfl, rfl, sqt hb, atI_nat (j := 0) hx, c, _, rfl, .inr (sqt hc), ?_⟩⟩⟩
      rw [hl]
      refine ⟨_, _, rfl, rfl, .inr (sm_of (n := 3) (by have := ok.wide2; omega)), rfl, hi, some (.int (0 + (i : Int))), ?_⟩
      rw [Nat.pow_succ, Int.natCast_mul]
      rfl
    · rintro σ' H' ⟨rfl, _, x3, rfl⟩
      exact ⟨_, rfl, k⟩
-- slots: 0 line, 1 many, 2 found, 3 turn
abbrev s_low_of : Stmt := topS 57
theorem sc_low_of : FnScope ["line", "many", "found", "turn"] ["line", "many"] (C8.fnScope s_low_of) := C8.fnScope_by (by decide +kernel)
def sp_low_of : Sp := fun vs H Q _ => ∃ v L wide n, vs = [v, .int (n : Nat)] ∧ Line H v L ∧ LineOk L wide ∧ n ≤ 4 ∧ Q (.int (L.1 ^ n)) H
theorem cal_low_of (D : C8.Def K mg "low_of" s_low_of f fd) (df : fd.defaults = .none) (T : Tx K mg) : C8.Cal P w K mg base 1 "low_of" sp_low_of [] := by
  refine C8.cal0 D (D.fn.binds df (ps := ["line", "many"]) fun _ _ _ _ _ _ us hl => match us, hl with | [_, _], _ => rfl) .nil sc_low_of (fun vs H Q E h => ?_) (fun cdv A outer s H vs Q E hr h => ?_)
  · obtain ⟨v, L, wide, n, rfl, _⟩ := h
    rfl
  · obtain ⟨v, L, wide, n, rfl, hv, ok, hn, k⟩ := h
    obtain ⟨a, b, xs, rfl, ha, hb, hp⟩ := line_at hv
    refine ⟨_, (pss_cons (ps_set (i := 2) sc_low_of.nd rfl (.inl rfl) pe_int)
      (pss_cons (ps_for PassesOwn.never rfl (pi_range1 (by rfl) T.range_ (pa_cons (pv 1) pa_nil)) (pg_name (i := 3) sc_low_of.nd rfl (.inl rfl))
        (pss_one (ps_aug (i := 2) sc_low_of.nd rfl (.inl rfl) (pe_ix ixA (pv 0) pe_int (fun _ _ => rfl)) ip_mul)))
      (pss_one (ps_ret (pv 2))))), ?_⟩
    refine ⟨_, rfl, _, rfl, by omega, by omega, for_range (n := n) (fun i σ' H' => H' = H ∧ i ≤ n ∧ ∃ x3, σ' = [some (.ref a), some (.int (n : Nat)), some (.int (L.1 ^ i)), x3]) ⟨rfl, Nat.zero_le _, none, by rw [Int.pow_zero]; rfl⟩ ?_ ?_⟩
    · rintro i σ' H' hi ⟨rfl, _, x3, rfl⟩
      refine ⟨_, rfl, _, rfl, .inr ⟨a, _, 0, _, rfl, rfl, sqt ha, atI_nat (j := 0) rfl, ?_⟩⟩
      refine ⟨_, _, rfl, rfl, .inr (sm_of (n := 4) (by have := ok.low1; have := ok.low2; omega)), rfl, hi, some (.int (0 + (i : Int))), ?_⟩
      rw [Int.pow_succ]
      rfl
    · rintro σ' H' ⟨rfl, _, x3, rfl⟩
      exact ⟨_, rfl, k⟩

/-! ### need_line -/
-- slots: 0 value, 1 low, 2 table, 3 row, 4 one, 5 whole
abbrev s_need_line : Stmt := topS 50
theorem sc_need_line : FnScope ["value", "low", "table", "row", "one", "whole"] ["value"] (C8.fnScope s_need_line) := C8.fnScope_by (by decide +kernel)
def sp_need_line : Sp := fun vs H Q _ => ∃ v L wide, vs = [v] ∧ Line H v L ∧ LineOk L wide ∧ ∀ H', Same H H' → Q .non H'
theorem cal_need_line (D : C8.Def K mg "need_line" s_need_line f fd) (df : fd.defaults = .none) (T : Tx K mg) (c_is_int : C8.Cal P w K mg base 1 "is_int" sp_is_int []) (c_is_poly : C8.Cal P w K mg base 2 "is_poly" sp_is_poly []) (c_plus2 : C8.Cal P w K mg base 2 "plus" (sp_plus K) [.int 1]) (c_is_chance : C8.Cal P w K mg base 7 "is_chance" sp_is_chance []) : C8.Cal P w K mg base 8 "need_line" sp_need_line [] := by
  refine C8.cal0 D (D.fn.binds df (ps := ["value"]) fun _ _ _ _ _ _ us hl => match us, hl with | [_], _ => rfl) .nil sc_need_line (fun vs H Q E h => ?_) (fun cdv A outer s H vs Q E hr h => ?_)
  · obtain ⟨v, L, wide, rfl, _⟩ := h
    rfl
  · obtain ⟨v, L, wide, rfl, hv, ok, k⟩ := h
    obtain ⟨a, b, c, xs, ys, rfl, ha, hb, hp, hx0, hc, hl⟩ := line_first hv ok
    refine ⟨_, (pss_cons (ps_if (pw_or (pt_not (pt_val (pe_callB call_isi (by rfl) T.isinstance_ (by decide +kernel) (pa_cons (pv 0) (pa_cons (pe_bltn (v := .ty "tuple") (by rfl) T.tuple_ (by decide +kernel) rfl) pa_nil))))) (pw_or (pt_cmpR op_ne (pe_callB call_len_seq (by rfl) T.len_ (by decide +kernel) (pa_cons (pv 0) pa_nil)) pe_int (nomark _)) (pw_or (pt_not (pt_val (C8.pe_c c_is_int hr (by decide) (by rfl) (pa_cons (pe_ix ixA (pv 0) pe_int (fun _ _ => rfl)) pa_nil)))) (pw_or1 (pt_not (pt_chain op_le op_le pe_int (pe_ix ixA (pv 0) pe_int (fun _ _ => rfl)) (C8.pe_gc (by rfl) T.c_MOST_GIVEN))))))).pt
        pss_never
        pss_nil)
      (pss_cons (ps_asg (pv 0) (pg_tup rfl (pgs_cons (pg_name (i := 1) sc_need_line.nd rfl (.inl rfl)) (pgs_cons (pg_name (i := 2) sc_need_line.nd rfl (.inl rfl)) pgs_nil))))
      (pss_cons (ps_if (pw_or (pt_not (pt_val (pe_callB call_isi (by rfl) T.isinstance_ (by decide +kernel) (pa_cons (pv 2) (pa_cons (pe_bltn (v := .ty "tuple") (by rfl) T.tuple_ (by decide +kernel) rfl) pa_nil))))) (pw_or1 (pt_not (pt_chain op_le op_le pe_int (pe_callB call_len_seq (by rfl) T.len_ (by decide +kernel) (pa_cons (pv 2) pa_nil)) (C8.pe_gc (by rfl) T.c_MOST_SENT))))).pt
        pss_never
        pss_nil)
      (pss_one (ps_for PassesOwn.never rfl (pi_seq (pv 2)) (pg_name (i := 3) sc_need_line.nd rfl (.inl rfl))
        (pss_cons (ps_if (pw_or (pt_not (pt_val (pe_callB call_isi (by rfl) T.isinstance_ (by decide +kernel) (pa_cons (pv 3) (pa_cons (pe_bltn (v := .ty "tuple") (by rfl) T.tuple_ (by decide +kernel) rfl) pa_nil))))) (pw_or (pt_not (pt_chain op_le op_le pe_int (pe_callB call_len_seq (by rfl) T.len_ (by decide +kernel) (pa_cons (pv 3) pa_nil)) (C8.pe_gc (by rfl) T.c_MOST_HEARD))) (pw_or1 (pt_cmpR op_ne (pe_callB call_len_seq (by rfl) T.len_ (by decide +kernel) (pa_cons (pv 3) pa_nil)) (pe_callB call_len_seq (by rfl) T.len_ (by decide +kernel) (pa_cons (pe_ix ixA (pv 2) pe_int (fun _ _ => rfl)) pa_nil)) (nomark _))))).pt
          pss_never
          pss_nil)
        (pss_cons (ps_if (pt_not (pt_val (pe_callB (cr_all rfl) (by rfl) T.all_ (by decide +kernel) (pa_cons (pe_lc (own := [("one", 4)]) (by rfl) sc_need_line.nd (pi_seq (pv 3)) (blkOk_by (N := ["value", "low", "table", "row", "one", "whole"]) (sc := C8.fnScope s_need_line) (by decide +kernel)) (fun _ _ _ _ _ => (pg_name (i := 4) sc_need_line.nd rfl (.inl rfl))) (fun _ _ _ _ _ => pts_nil) (fun _ _ _ _ _ => (C8.pe_c c_is_poly hr (by decide) (by rfl) (pa_cons (pv 4) pa_nil)))) pa_nil))))
          pss_never
          pss_nil)
        (pss_cons (ps_set (i := 5) sc_need_line.nd rfl (.inl rfl) (pe_tup pa_nil))
        (pss_cons (ps_for PassesOwn.never rfl (pi_seq (pv 3)) (pg_name (i := 4) sc_need_line.nd rfl (.inl rfl))
          (pss_one (ps_set (i := 5) sc_need_line.nd rfl (.inl rfl) (C8.pe_c c_plus2 hr (by decide) (by rfl) (pa_cons (pv 5) (pa_cons (pv 4) pa_nil))))))
        (pss_one (ps_if (pw_or (pt_cmpR (op_neZ hr.units) (pv 5) (pe_tup (pa_cons (pv 1) pa_nil)) (nomark _)) (pw_or1 (pt_not (pt_val (pe_callB (cr_all rfl) (by rfl) T.all_ (by decide +kernel) (pa_cons (pe_lc (own := [("one", 4)]) (by rfl) sc_need_line.nd (pi_seq (pv 3)) (blkOk_by (N := ["value", "low", "table", "row", "one", "whole"]) (sc := C8.fnScope s_need_line) (by decide +kernel)) (fun _ _ _ _ _ => (pg_name (i := 4) sc_need_line.nd rfl (.inl rfl))) (fun _ _ _ _ _ => pts_nil) (fun _ _ _ _ _ => (C8.pe_c c_is_chance hr (by decide) (by rfl) (pa_cons (pv 4) pa_nil)))) pa_nil)))))).pt
          pss_never
          pss_nil))))))))))), ?_⟩
    refine ⟨_, rfl, ?_⟩
    refine isi_tc (.tup ha) k_tup_tup ?_
    refine ⟨_, rfl, ?_⟩
    refine iteF ⟨_, rfl, a, _, rfl, .inr (sqt ha), rfl, _, rfl, iteF ?_⟩
    refine ⟨_, rfl, .inr ⟨a, _, 0, _, rfl, rfl, sqt ha, atI_nat (j := 0) rfl, _, rfl, _, rfl, iteF ?_⟩⟩
    have l1 := ok.low1
    have l2 := ok.low2
    refine ⟨_, rfl, .inr ⟨a, _, 0, _, rfl, rfl, sqt ha, atI_nat (j := 0) rfl, _, _, rfl, rfl, _, rfl, itT (by omega) ⟨_, _, rfl, rfl, _, rfl, itNF (by omega) ?_⟩⟩⟩
    refine ⟨_, rfl, a, _, rfl, sqt ha, rfl, _, _, rfl, _, _, rfl, rfl, ?_⟩
    refine ⟨_, rfl, ?_⟩
    refine isi_tc (.tup hb) k_tup_tup ?_
    refine ⟨_, rfl, ?_⟩
    have hxl := paired_len hp
    have m1 := ok.many1
    have m2 := ok.many2
    refine iteF ⟨_, rfl, b, _, rfl, .inr (sqt hb), _, _, rfl, rfl, _, rfl, itT (by omega) ⟨_, _, rfl, rfl, _, rfl, itNF (by omega) ?_⟩⟩
    refine ⟨_, rfl, for_seq (H0 := H) (.inr (sqt hb)) (fun i σ' H' => Same H H' ∧ ∃ x3 x4 x5, σ' = [some (.ref a), some (.int L.1), some (.ref b), x3, x4, x5]) (fun _ _ _ h => h.1) ⟨Same.refl _, none, none, none, rfl⟩ ?_ ?_⟩
    · rintro i x σ' H' hx ⟨sm, x3, x4, x5, rfl⟩
      obtain ⟨rw', hr', hrow⟩ := paired_get' hp hx
      obtain ⟨hrl, hrp, hrw⟩ := ok.rows rw' (List.mem_of_getElem? hr')
      obtain ⟨d, zs, rfl, hd, hpz⟩ := hrow
      have hzl := paired_len hpz
      have w1 := ok.wide1
      have w2 := ok.wide2
      have hd' := sm _ _ hd
      refine ⟨_, rfl, ?_⟩
      refine isi_tc (.tup hd') k_tup_tup ?_
      refine ⟨_, rfl, ?_⟩
      refine iteF ⟨_, rfl, d, _, rfl, .inr (sqt hd'), _, _, rfl, rfl, _, rfl, itT (by omega) ⟨_, _, rfl, rfl, _, rfl, itNF (by omega) ?_⟩⟩
      refine ⟨_, rfl, d, _, rfl, .inr (sqt hd'), _, rfl, .inr ⟨b, _, 0, _, rfl, rfl, sqt (sm _ _ hb), atI_nat (j := 0) hx0, c, _, rfl, .inr (sqt (sm _ _ hc)), rfl, _, rfl, itNF (veq (by omega)) ?_⟩⟩
      -- all is_poly
      refine ⟨_, rfl, lc_true (.inr (sqt hd')) (by omega) (fun j y H2 hy s2 C hC => ?_) fun l H2 s2 ⟨n, hl1⟩ => ⟨l, List.replicate n true, rfl, sql hl1, _, rfl, itAllNF ?_⟩⟩
      · obtain ⟨p, hp', hpy⟩ := paired_get' hpz hy
        exact ⟨rfl, _, rfl, _, p, rfl, keep (sm.trans s2) hpy, (hrp p (List.mem_of_getElem? hp')).1, fun H3 s3 => hC _ s3⟩
      have sA := sm.trans s2
      -- the sum
      refine ⟨Nat.zero_le _, fun t nt => ?_⟩
      have sB := sA.trans (same_new (o := .tup []) nt)
      refine ⟨_, rfl, for_seq (H0 := H) (.inr (sqt hd)) (fun j σ' H' => Same H H' ∧ ∃ x4 x5, σ' = [some (.ref a), some (.int L.1), some (.ref b), some (.ref d), x4, some x5] ∧ Poly H' x5 ((rw'.take j).foldl (fun w p => plusL w p 1) []) ∧ ((rw'.take j).foldl (fun w p => plusL w p 1) []).length ≤ 5) (fun _ _ _ h => h.1) ⟨sB, x4, _, rfl, poly_of upd_same, Nat.zero_le _⟩ ?_ ?_⟩
      · rintro j y σ2 H3 hy ⟨s3, x4, x5, rfl, h5, hl5⟩
        obtain ⟨p, hp', hpy⟩ := paired_get' hpz hy
        have e := foldl_take (f := fun w p => plusL w p 1) (z := ([] : List Int)) hp'
        have pl := (polyOk_iff.mp (hrp p (List.mem_of_getElem? hp')).1).1
        refine ⟨_, rfl, _, rfl, _, _, _, p, _, rfl, zs_poly h5, zs_poly (keep s3 hpy), by omega, by omega, .inl (by decide), fun r H4 s4 hr4 => ?_⟩
        refine ⟨s3.trans s4, _, r, rfl, ?_, ?_⟩
        · rw [e]
          exact hr4
        · rw [e]
          exact Nat.le_trans (plusL_len _ _ _) (by omega)
      · rintro σ2 H3 ⟨s3, x4, x5, rfl, h5, hl5⟩
        rw [List.take_of_length_le (by omega), show rw'.foldl (fun w p => plusL w p 1) [] = [L.1] from hrw] at h5
        obtain ⟨e5, rfl, h5'⟩ := poly_at h5
        refine ⟨_, rfl, _, rfl, by show 1 ≤ sizeLine; decide, fun t2 nt2 => ?_⟩
        have s4 := same_new (o := .tup [V.int L.1]) nt2
        refine ⟨e5, t2, [L.1], [L.1], rfl, rfl, .inr ⟨sqt (s4 _ _ h5'), sqt upd_same⟩, _, rfl, itNF rfl ?_⟩
        refine ⟨_, rfl, lc_true (.inr (sqt (s4 _ _ (s3 _ _ hd)))) (by omega) (fun j y H5 hy s5 C hC => ?_) fun l H5 s5 ⟨n, hl1⟩ => ⟨l, List.replicate n true, rfl, sql hl1, _, rfl, itAllNF ?_⟩⟩
        · obtain ⟨p, hp', hpy⟩ := paired_get' hpz hy
          exact ⟨rfl, _, rfl, _, p, rfl, keep (s3.trans (s4.trans s5)) hpy, (hrp p (List.mem_of_getElem? hp')).2, fun H3 s3 => hC _ s3⟩
        exact ⟨s3.trans (s4.trans s5), _, _, _, rfl⟩
    · rintro σ' H' ⟨sm, x3, x4, x5, rfl⟩
      exact k _ sm
end
end EN
namespace EN
open PySem PySem.Spec PyProof.Rows L2
theorem code_at {H : Hp} {v : V} {c : List (List Int × Int)} (h : Code H v c) : ∃ a xs, v = .ref a ∧ H a = some (.tup xs) ∧ Paired (Pr Poly rI_ H) xs c := h
theorem pr_at {H : Hp} {v : V} {e : List Int × Int} (h : Pr Poly rI_ H v e) : ∃ a b, v = .ref a ∧ H a = some (.tup [.ref b, .int e.2]) ∧ H b = some (.tup (e.1.map V.int)) := by
  obtain ⟨a, x, y, e1, h1, q1, q2⟩ := h
  obtain ⟨b, rfl, hb⟩ := poly_at q1
  exact ⟨a, b, e1, by rw [h1, show y = V.int _ from q2], hb⟩
/-- the first word of a code -/
theorem cd_first {H : Hp} {v : V} {c : List (List Int × Int)} {many long : Nat} (h : Code H v c) (ok : CodeOk many c long) : ∃ (a : Addr) (xs : List V) (d b : Addr) (e : List Int × Int), v = .ref a ∧ H a = some (.tup xs) ∧ Paired (Pr Poly rI_ H) xs c ∧ xs[0]? = some (.ref d) ∧ H d = some (.tup [.ref b, .int e.2]) ∧ H b = some (.tup (e.1.map V.int)) ∧ e.1.length = long := by
  obtain ⟨a, xs, e1, ha, hp⟩ := code_at h
  have h0 : 0 < c.length := ok.n1
  obtain ⟨x, hx, hpx⟩ := paired_get hp (List.getElem?_eq_getElem h0)
  obtain ⟨d, b, rfl, hd, hb⟩ := pr_at hpx
  exact ⟨a, xs, d, b, _, e1, ha, hp, hx, hd, hb, (ok.words _ (List.getElem_mem h0)).1.len⟩
/-- the words' addresses -/
theorem words_at {H : Hp} : ∀ {xs : List V} {c : List (List Int × Int)}, Paired (Pr Poly rI_ H) xs c → ∃ ks : List (Addr × List Int), ks.map (·.2) = c.map (·.1) ∧ (∀ p ∈ ks, H p.1 = some (.tup (p.2.map V.int))) ∧ ∀ (i : Nat) (x : V), xs[i]? = some x → ∃ a d e, x = .ref a ∧ H a = some (.tup [.ref d, e]) ∧ ks[i]?.map (·.1) = some d
  | _, _, .nil => ⟨[], rfl, fun p h => by simp at h, fun i x h => by simp at h⟩
  | _, _, .cons r t => by
    obtain ⟨ks, h1, h2, h3⟩ := words_at t
    obtain ⟨a, b, rfl, ha, hb⟩ := pr_at r
    refine ⟨(b, _) :: ks, by rw [List.map_cons, h1]; rfl, fun p hp => ?_, fun i x hx => ?_⟩
    · rcases List.mem_cons.mp hp with rfl | hp
      · exact hb
      · exact h2 p hp
    · cases i with
      | zero =>
        have e := Option.some.inj hx
        subst e
        exact ⟨a, b, _, rfl, ha, rfl⟩
      | succ i => exact h3 i x hx
def rRef : Rp Addr := fun _ v a => v = .ref a
instance : Kp rRef := ⟨fun _ h => h⟩
instance : Im rRef := ⟨fun _ _ h => h⟩
theorem pairedR : ∀ {xs : List V} {l : List Addr} {H : Hp}, Paired (rRef H) xs l → xs = l.map V.ref
  | _, _, _, .nil => rfl
  | _, _, _, .cons r t => by
    rw [List.map_cons, ← pairedR t]
    rw [show _ = V.ref _ from r]
section
variable {P : Program} {w : World} {K : PySem.W.Frag} {mg : Str → Option Value} {base : Heap} {f : Addr} {fd : FuncData}

/-! ### need_code -/
-- slots: 0 line, 1 value, 2 one
abbrev s_need_code : Stmt := topS 53
theorem sc_need_code : FnScope ["line", "value", "one"] ["line", "value"] (C8.fnScope s_need_code) := C8.fnScope_by (by decide +kernel)
def sp_need_code : Sp := fun vs H Q _ => ∃ v u L wide c long, vs = [v, u] ∧ Line H v L ∧ LineOk L wide ∧ Code H u c ∧ CodeOk L.2.length c long ∧ ∀ H', Same H H' → Q .non H'
theorem cal_need_code (D : C8.Def K mg "need_code" s_need_code f fd) (df : fd.defaults = .none) (T : Tx K mg) (c_is_int : C8.Cal P w K mg base 1 "is_int" sp_is_int []) (c_is_word : C8.Cal P w K mg base 2 "is_word" sp_is_word []) (c_count_rows : C8.Cal P w K mg base 1 "count_rows" sp_count_rows []) : C8.Cal P w K mg base 3 "need_code" sp_need_code [] := by
  refine C8.cal0 D (D.fn.binds df (ps := ["line", "value"]) fun _ _ _ _ _ _ us hl => match us, hl with | [_, _], _ => rfl) .nil sc_need_code (fun vs H Q E h => ?_) (fun cdv A outer s H vs Q E hr h => ?_)
  · obtain ⟨v, u, L, wide, c, long, rfl, _⟩ := h
    rfl
  · obtain ⟨v, u, L, wide, c, long, rfl, hv, ok, hu, okc, k⟩ := h
    obtain ⟨a, b, xs, rfl, ha, hb, hp⟩ := line_at hv
    obtain ⟨d, ys, d0, b0, e0, rfl, hd, hpc, hx0, hd0, hb0, hl0⟩ := cd_first hu okc
    have hxl := paired_len hp
    have hyl := paired_len hpc
    have n1 := okc.n1
    have n2 := okc.n2
    have l1 := okc.l1
    have l2 := okc.l2
    refine ⟨_, (pss_cons (ps_if (pw_or (pt_not (pt_val (pe_callB call_isi (by rfl) T.isinstance_ (by decide +kernel) (pa_cons (pv 1) (pa_cons (pe_bltn (v := .ty "tuple") (by rfl) T.tuple_ (by decide +kernel) rfl) pa_nil))))) (pw_or1 (pt_not (pt_chain op_le op_le pe_int (pe_callB call_len_seq (by rfl) T.len_ (by decide +kernel) (pa_cons (pv 1) pa_nil)) (C8.pe_gc (by rfl) T.c_MOST_WORDS))))).pt
        pss_never
        pss_nil)
      (pss_cons (ps_for PassesOwn.never rfl (pi_seq (pv 1)) (pg_name (i := 2) sc_need_code.nd rfl (.inl rfl))
        (pss_cons (ps_if (pw_or (pt_not (pt_val (pe_callB call_isi (by rfl) T.isinstance_ (by decide +kernel) (pa_cons (pv 2) (pa_cons (pe_bltn (v := .ty "tuple") (by rfl) T.tuple_ (by decide +kernel) rfl) pa_nil))))) (pw_or (pt_cmpR op_ne (pe_callB call_len_seq (by rfl) T.len_ (by decide +kernel) (pa_cons (pv 2) pa_nil)) pe_int (nomark _)) (pw_or1 (pt_not (pt_val (C8.pe_c c_is_word hr (by decide) (by rfl) (pa_cons (pe_ix ixA (pv 2) pe_int (fun _ _ => rfl)) (pa_cons (pe_callB call_len_seq (by rfl) T.len_ (by decide +kernel) (pa_cons (pe_ix ixA (pv 0) pe_int (fun _ _ => rfl)) pa_nil)) pa_nil)))))))).pt
          pss_never
          pss_nil)
        (pss_one (ps_if (pw_or (pt_not (pt_val (C8.pe_c c_is_int hr (by decide) (by rfl) (pa_cons (pe_ix ixA (pv 2) pe_int (fun _ _ => rfl)) pa_nil)))) (pw_or (pt_not (pt_chain op_le op_le pe_int (pe_ix ixA (pv 2) pe_int (fun _ _ => rfl)) (C8.pe_gc (by rfl) T.c_MOST_WEIGHT))) (pw_or1 (pt_cmpR op_ne (pe_callB call_len_seq (by rfl) T.len_ (by decide +kernel) (pa_cons (pe_ix ixA (pv 2) pe_int (fun _ _ => rfl)) pa_nil)) (pe_callB call_len_seq (by rfl) T.len_ (by decide +kernel) (pa_cons (pe_ix ixA (pe_ix ixA (pv 1) pe_int (fun _ _ => rfl)) pe_int (fun _ _ => rfl)) pa_nil)) (nomark _))))).pt
          pss_never
          pss_nil))))
      (pss_one (ps_if (pw_or (pt_cmpR op_ne (pe_lenSetT (by rfl) T.len_ (by rfl) T.set_ (pe_lc (own := [("one", 2)]) (by rfl) sc_need_code.nd (pi_seq (pv 1)) (blkOk_by (N := ["line", "value", "one"]) (sc := C8.fnScope s_need_code) (by decide +kernel)) (fun _ _ _ _ _ => (pg_name (i := 2) sc_need_code.nd rfl (.inl rfl))) (fun _ _ _ _ _ => pts_nil) (fun _ _ _ _ _ => (pe_ix (ixB (K := K)) (pv 2) pe_int (fun _ _ => rfl)))) hr.units) (pe_callB call_len_seq (by rfl) T.len_ (by decide +kernel) (pa_cons (pv 1) pa_nil)) (nomark _)) (pw_or1 (pt_cmpR op_gt (C8.pe_c c_count_rows hr (by decide) (by rfl) (pa_cons (pv 0) (pa_cons (pe_callB call_len_seq (by rfl) T.len_ (by decide +kernel) (pa_cons (pe_ix ixA (pe_ix ixA (pv 1) pe_int (fun _ _ => rfl)) pe_int (fun _ _ => rfl)) pa_nil)) pa_nil))) (C8.pe_gc (by rfl) T.c_MOST_ROWS) (nomark _)))).pt
        pss_never
        pss_nil)))), ?_⟩
    refine ⟨_, rfl, ?_⟩
    refine isi_tc (.tup hd) k_tup_tup ?_
    refine ⟨_, rfl, ?_⟩
    refine iteF ⟨_, rfl, d, _, rfl, .inr (sqt hd), _, _, rfl, rfl, _, rfl, itT (by omega) ⟨_, _, rfl, rfl, _, rfl, itNF (by omega) ?_⟩⟩
    refine ⟨_, rfl, for_seq (H0 := H) (.inr (sqt hd)) (fun i σ' H' => Same H H' ∧ ∃ x2, σ' = [some (.ref a), some (.ref d), x2]) (fun _ _ _ h => h.1) ⟨Same.refl _, none, rfl⟩ ?_ ?_⟩
    · rintro i x σ' H' hx ⟨sm, x2, rfl⟩
      obtain ⟨e, he, hpe⟩ := paired_get' hpc hx
      obtain ⟨hw, hwt1, hwt2⟩ := okc.words e (List.mem_of_getElem? he)
      obtain ⟨g, q, rfl, hg, hq⟩ := pr_at hpe
      have hg' := sm _ _ hg
      have hq' := sm _ _ hq
      refine ⟨_, rfl, ?_⟩
      refine isi_tc (.tup hg') k_tup_tup ?_
      refine ⟨_, rfl, ?_⟩
      refine iteF ⟨_, rfl, g, _, rfl, .inr (sqt hg'), rfl, _, rfl, iteF ?_⟩
      refine ⟨_, rfl, .inr ⟨g, _, 0, _, rfl, rfl, sqt hg', atI_nat (j := 0) rfl, ?_⟩⟩
      refine ⟨_, rfl, .inr ⟨a, _, 1, _, rfl, rfl, sqt (sm _ _ ha), atI_nat (j := 1) rfl, b, _, rfl, .inr (sqt (sm _ _ hb)), ?_⟩⟩
      refine ⟨_, e.1, _, rfl, poly_of hq', by rw [hw.len]; exact l1, by rw [hw.len]; omega, fun y hy => by have := hw.let_ y hy; omega, fun H2 s2 => ⟨_, rfl, iteF ?_⟩⟩
      have sA := sm.trans s2
      have hgA := s2 _ _ hg'
      have hqA := s2 _ _ hq'
      refine ⟨_, rfl, .inr ⟨g, _, 1, _, rfl, rfl, sqt hgA, atI_nat (j := 1) rfl, _, rfl, _, rfl, iteF ?_⟩⟩
      refine ⟨_, rfl, .inr ⟨g, _, 1, _, rfl, rfl, sqt hgA, atI_nat (j := 1) rfl, _, _, rfl, rfl, _, rfl, itT (by omega) ⟨_, _, rfl, rfl, _, rfl, itNF (by omega) ?_⟩⟩⟩
      refine ⟨_, rfl, .inr ⟨g, _, 0, _, rfl, rfl, sqt hgA, atI_nat (j := 0) rfl, q, _, rfl, .inr (sqt hqA), ?_⟩⟩
      refine ⟨_, rfl, .inr ⟨d, _, 0, _, rfl, rfl, sqt (sA _ _ hd), atI_nat (j := 0) hx0, .inr ⟨d0, _, 0, _, rfl, rfl, sqt (sA _ _ hd0), atI_nat (j := 0) rfl, b0, _, rfl, .inr (sqt (sA _ _ hb0)), rfl, _, rfl, itNF (veq ?_) ?_⟩⟩⟩
      · rw [List.length_map, List.length_map, hl0, hw.len]
      · exact ⟨sA, _, rfl⟩
    · rintro σ' H' ⟨sm, x2, rfl⟩
      obtain ⟨ks, k1, k2, k3⟩ := words_at hpc
      have kl : ks.length = ys.length := by
        have := congrArg List.length k1
        rw [List.length_map, List.length_map] at this
        omega
      refine ⟨_, rfl, lc_mapS (r := rRef) (.inr (sqt (sm _ _ hd))) (by omega) (fun i => (ks.getD i (0, [])).1) (fun i x H2 hx s2 C hC => ?_) fun l H2 s2 hv2 => ?_⟩
      · obtain ⟨g, q, e, rfl, hg, hk⟩ := k3 i x hx
        refine ⟨rfl, _, rfl, .inr ⟨g, _, 0, _, rfl, rfl, sqt (s2 _ _ (sm _ _ hg)), atI_nat (j := 0) rfl, hC _ _ (Same.refl _) ?_⟩⟩
        rw [List.getD_eq_getElem?_getD]
        cases hki : ks[i]? with
        | none => rw [hki] at hk; cases hk
        | some z =>
          rw [hki] at hk
          exact congrArg V.ref (Option.some.inj hk).symm
      · obtain ⟨l', zs, e', hl', hpz⟩ := hv2
        cases e'
        have ez : zs = ks.map fun p => V.ref p.1 := by
          rw [pairedR hpz, ← kl, range_map_get ks (0, []) (fun p => p.1), List.map_map]
          rfl
        rw [ez] at hl'
        have sA := sm.trans s2
        refine ⟨_, ks, rfl, sql hl', fun p hp => sqt (sA _ _ (k2 p hp)), by omega, by rw [k1]; exact okc.nd, ?_⟩
        refine ⟨_, rfl, d, _, rfl, .inr (sqt (sA _ _ hd)), rfl, _, rfl, itNF (veq (by omega)) ?_⟩
        refine ⟨_, rfl, _, rfl, .inr ⟨d, _, 0, _, rfl, rfl, sqt (sA _ _ hd), atI_nat (j := 0) hx0, .inr ⟨d0, _, 0, _, rfl, rfl, sqt (sA _ _ hd0), atI_nat (j := 0) rfl, b0, _, rfl, .inr (sqt (sA _ _ hb0)), ?_⟩⟩⟩
        rw [List.length_map, hl0]
        refine ⟨_, L, wide, long, rfl, keep sA hv, ok, by omega, ?_⟩
        refine ⟨_, _, rfl, rfl, _, rfl, itF ?_ (k _ sA)⟩
        have h3 : wide ^ long ≤ 3 ^ 3 := Nat.le_trans (Nat.pow_le_pow_left ok.wide2 _) (Nat.pow_le_pow_right (by decide) l2)
        omega

/-! ### need_both -/
-- slots: 0 line, 1 code
abbrev s_need_both : Stmt := topS 62
theorem sc_need_both : FnScope ["line", "code"] ["line", "code"] (C8.fnScope s_need_both) := C8.fnScope_by (by decide +kernel)
def sp_need_both : Sp := fun vs H Q _ => ∃ v u L wide c long, vs = [v, u] ∧ Line H v L ∧ LineOk L wide ∧ Code H u c ∧ CodeOk L.2.length c long ∧ ∀ H', Same H H' → Q .non H'
theorem cal_need_both (D : C8.Def K mg "need_both" s_need_both f fd) (df : fd.defaults = .none) (T : Tx K mg) (c_need_line : C8.Cal P w K mg base 8 "need_line" sp_need_line []) (c_need_code : C8.Cal P w K mg base 3 "need_code" sp_need_code []) : C8.Cal P w K mg base 9 "need_both" sp_need_both [] := by
  refine C8.cal0 D (D.fn.binds df (ps := ["line", "code"]) fun _ _ _ _ _ _ us hl => match us, hl with | [_, _], _ => rfl) .nil sc_need_both (fun vs H Q E h => ?_) (fun cdv A outer s H vs Q E hr h => ?_)
  · obtain ⟨v, u, L, wide, c, long, rfl, _⟩ := h
    rfl
  · obtain ⟨v, u, L, wide, c, long, rfl, hv, ok, hu, okc, k⟩ := h
    refine ⟨_, (pss_cons (ps_expr (C8.pe_c c_need_line hr (by decide) (by rfl) (pa_cons (pv 0) pa_nil)))
      (pss_one (ps_expr (C8.pe_c c_need_code hr (by decide) (by rfl) (pa_cons (pv 0) (pa_cons (pv 1) pa_nil)))))), ?_⟩
    refine ⟨_, rfl, _, L, wide, rfl, hv, ok, fun H1 s1 => ?_⟩
    exact ⟨_, rfl, _, rfl, _, _, L, wide, c, long, rfl, keep s1 hv, ok, keep s1 hu, okc, fun H2 s2 => k _ (s1.trans s2)⟩

/-! ### heard_rows -/
-- slots: 0 line, 1 many, 2 found, 3 turn, 4 longer, 5 row*, 6 letter
abbrev s_heard_rows : Stmt := topS 55
theorem sc_heard_rows : FnScope ["line", "many", "found", "turn", "longer", "row", "letter"] ["line", "many"] (C8.fnScope s_heard_rows) := C8.fnScope_by (by decide +kernel)
def sp_heard_rows : Sp := fun vs H Q _ => ∃ v L wide n, vs = [v, .int (n : Nat)] ∧ Line H v L ∧ LineOk L wide ∧ n ≤ 3 ∧ ∀ r H', Same H H' → Lst Poly H' r (rowsL wide n) → Q r H'
theorem cal_heard_rows (D : C8.Def K mg "heard_rows" s_heard_rows f fd) (df : fd.defaults = .none) (T : Tx K mg) : C8.Cal P w K mg base 1 "heard_rows" sp_heard_rows [] := by
  refine C8.cal0 D (D.fn.binds df (ps := ["line", "many"]) fun _ _ _ _ _ _ us hl => match us, hl with | [_, _], _ => rfl) .nil sc_heard_rows (fun vs H Q E h => ?_) (fun cdv A outer s H vs Q E hr h => ?_)
  · obtain ⟨v, L, wide, n, rfl, _⟩ := h
    rfl
  · obtain ⟨v, L, wide, n, rfl, hv, ok, hn, k⟩ := h
    obtain ⟨a, b, c, xs, ys, rfl, ha, hb, hp, hx0, hc, hl⟩ := line_first hv ok
    have w2 := ok.wide2
    have small : ∀ i, i ≤ 3 → (rowsL wide i).length ≤ 27 := fun i hi => by
      rw [rowsL_len]
      exact Nat.le_trans (Nat.pow_le_pow_left w2 i) (Nat.le_trans (Nat.pow_le_pow_right (n := 3) (by decide) hi) (by decide))
    refine ⟨_, (pss_cons (ps_set (i := 2) sc_heard_rows.nd rfl (.inl rfl) (pe_lst (pa_cons (pe_tup pa_nil) pa_nil)))
      (pss_cons (ps_for PassesOwn.never rfl (pi_range1 (by rfl) T.range_ (pa_cons (pv 1) pa_nil)) (pg_name (i := 3) sc_heard_rows.nd rfl (.inl rfl))
        (pss_cons (ps_set (i := 4) sc_heard_rows.nd rfl (.inl rfl) (pe_lst pa_nil))
        (pss_cons (ps_for PassesOwn.never rfl (pi_seq (pv 2)) (pg_name (i := 5) sc_heard_rows.nd rfl (.inr rfl))
          (pss_one (ps_expr (pe_bm PySem.F.plainAttrs_list PySem.F.slot_list_extend PySem.F.type_list_extend mt_extend (pv 4) (pa_cons (pe_lc (own := [("letter", 6)]) (by rfl) sc_heard_rows.nd (pi_range1 (by rfl) T.range_ (pa_cons (pe_callB call_len_seq (by rfl) T.len_ (by decide +kernel) (pa_cons (pe_ix ixA (pe_ix ixA (pv 0) pe_int (fun _ _ => rfl)) pe_int (fun _ _ => rfl)) pa_nil)) pa_nil)) (blkOk_by (N := ["line", "many", "found", "turn", "longer", "row", "letter"]) (sc := C8.fnScope s_heard_rows) (by decide +kernel)) (fun _ _ _ _ _ => (pg_name (i := 6) sc_heard_rows.nd rfl (.inl rfl))) (fun _ _ _ _ _ => pts_nil) (fun _ _ _ _ _ => (pe_tup (pa_starB (K := K) rfl (pv 5) (pa_cons (pv 6) pa_nil))))) pa_nil)))))
        (pss_one (ps_set (i := 2) sc_heard_rows.nd rfl (.inl rfl) (pv 4))))))
      (pss_one (ps_ret (pv 2))))), ?_⟩
    refine ⟨Nat.zero_le _, fun t nt => ⟨by show 1 ≤ sizeLine; decide, fun l nl => ?_⟩⟩
    have s0 := (same_new (o := .tup []) nt).trans (same_new (o := .lst [.ref t]) nl)
    have hlt : upd (upd H t (.tup [])) l (.lst [.ref t]) t = some (.tup []) := by rw [upd_ne (ne_of_none upd_same nl)]; exact upd_same
    refine ⟨_, rfl, _, rfl, by omega, by omega, for_range (n := n) (fun i σ' H' => Same H H' ∧ ∃ l' x3 x4 x5, σ' = [some (.ref a), some (.int (n : Nat)), some (.ref l'), x3, x4, x5, none] ∧ Lst Poly H' (.ref l') (rowsL wide i)) ⟨s0, l, none, none, none, rfl, l, _, rfl, upd_same, .cons (poly_of (p := []) hlt) .nil⟩ ?_ ?_⟩
    · rintro i σ' H' hi ⟨sm, l', x3, x4, x5, rfl, ⟨_, zs, e, hl', hpz⟩⟩
      cases e
      have hzl := paired_len hpz
      have hsm := small i (by omega)
      refine ⟨Nat.zero_le _, fun l2 nl2 => ?_⟩
      have s2 := same_new (o := .lst []) nl2
      refine ⟨_, rfl, for_seq (H0 := H') (.inl (sql hl')) (fun j σ' H2 => Same H' H2 ∧ ∃ x5 acc, σ' = [some (.ref a), some (.int (n : Nat)), some (.ref l'), some (.int (0 + (i : Int))), some (.ref l2), x5, none] ∧ H2 l2 = some (.lst acc) ∧ Paired (Poly H2) acc (((rowsL wide i).take j).flatMap fun row => (List.range wide).map fun (m : Nat) => row ++ [(m : Int)]) ∧ acc.length = j * wide) (fun _ _ _ h => h.1) ⟨s2, x5, [], rfl, upd_same, .nil, by simp⟩ ?_ ?_⟩
      · rintro j x σ2 H2 hx ⟨sm2, x5, acc, rfl, hl2, hpa, hal⟩
        obtain ⟨row, hrow, hpx⟩ := paired_get' hpz hx
        obtain ⟨q, rfl, hq⟩ := poly_at (keep sm2 hpx)
        have sA := sm.trans sm2
        have hj : j < zs.length := (List.getElem?_eq_some_iff.mp hx).1
        have hrl : row.length = i := (rowsL_ok wide i row (List.mem_of_getElem? hrow)).len
        refine ⟨_, rfl, .inl ⟨rfl, _, sql hl2⟩, _, rfl, .inr ⟨a, _, 1, _, rfl, rfl, sqt (sA _ _ ha), atI_nat (j := 1) rfl, .inr ⟨b, _, 0, _, rfl, rfl, sqt (sA _ _ hb), atI_nat (j := 0) hx0, c, _, rfl, .inr (sqt (sA _ _ hc)), ?_⟩⟩⟩
        refine ⟨_, rfl, by omega, by omega, lc_map (r := Poly) (G := fun _ => True) walk_range (fun _ _ => trivial) (by omega) (fun m => row ++ [(m : Int)]) (fun m y H3 H3' hm s3 hy C hC => ?_) fun l3 H3 s3 hv3 => ?_⟩
        · obtain ⟨rfl, rfl⟩ := hy
          refine ⟨rfl, _, rfl, q, _, rfl, .inl (sqt (s3 _ _ hq)), _, rfl, line_le ?_, fun t2 nt2 => hC _ _ (same_new nt2) (poly_of ?_)⟩
          · simp only [List.length_append, List.length_map, List.length_cons, List.length_nil]
            omega
          · rw [upd_same, List.map_append, show (fun (i : Nat) => V.int (0 + (i : Int))) m = V.int (m : Int) from congrArg V.int (Int.zero_add _)]
            rfl
        · obtain ⟨_, us, e, hl3, hpu⟩ := hv3
          cases e
          have hul := paired_len hpu
          rw [List.length_map, List.length_range] at hul
          have hn2 : l2 ≠ l3 → True := fun _ => trivial
          refine ⟨l2, l3, acc, us, rfl, rfl, s3 _ _ hl2, hl3, line_le ?_, ?_⟩
          · have : j * wide ≤ 27 * 3 := Nat.mul_le_mul (by omega) w2
            omega
          · have km : ∀ (b : Addr) (o : HO), b ≠ l2 → H3 b = some o → upd H3 l2 (.lst (acc ++ us)) b = some o := fun b o hb e => by rw [upd_ne hb]; exact e
            refine ⟨same_mut (sm2.trans s3) nl2, _, acc ++ us, rfl, upd_same, ?_, ?_⟩
            · rw [List.take_add_one, hrow, List.flatMap_append]
              refine paired_app (paired_map hpa fun u z q => keepM (s3 _ _ hl2) km (keep s3 q)) ?_
              show Paired _ us (((row :: []) : List (List Int)).flatMap _)
              rw [List.flatMap_cons, List.flatMap_nil, List.append_nil]
              rw [show ((ys.length : Int)).toNat = wide by omega] at hpu
              exact paired_map hpu fun u z q => keepM (s3 _ _ hl2) km q
            · rw [List.length_append, hal, Nat.succ_mul]
              omega
      · rintro σ2 H2 ⟨sm2, x5, acc, rfl, hl2, hpa, hal⟩
        rw [List.take_of_length_le (by omega)] at hpa
        exact ⟨_, rfl, sm.trans sm2, l2, _, _, _, rfl, l2, acc, rfl, hl2, hpa⟩
    · rintro σ' H' ⟨sm, l', x3, x4, x5, rfl, h⟩
      exact ⟨_, rfl, k _ _ sm h⟩

/-! ### chance_of -/
-- slots: 0 line, 1 word, 2 row, 3 found, 4 letter, 5 heard
abbrev s_chance_of : Stmt := topS 56
theorem sc_chance_of : FnScope ["line", "word", "row", "found", "letter", "heard"] ["line", "word", "row"] (C8.fnScope s_chance_of) := C8.fnScope_by (by decide +kernel)
def sp_chance_of : Sp := fun vs H Q _ => ∃ v u x L wide n wd rw, vs = [v, u, x] ∧ Line H v L ∧ LineOk L wide ∧ Poly H u wd ∧ Poly H x rw ∧ WordOk L.2.length n wd ∧ WordOk wide n rw ∧ n ≤ 3 ∧ ∀ r H', Same H H' → Poly H' r (chF L.2 wd rw) → Q r H'
theorem cal_chance_of (D : C8.Def K mg "chance_of" s_chance_of f fd) (df : fd.defaults = .none) (T : Tx K mg) (c_times : C8.Cal P w K mg base 2 "times" (sp_times K) []) : C8.Cal P w K mg base 3 "chance_of" sp_chance_of [] := by
  refine C8.cal0 D (D.fn.binds df (ps := ["line", "word", "row"]) fun _ _ _ _ _ _ us hl => match us, hl with | [_, _, _], _ => rfl) .nil sc_chance_of (fun vs H Q E h => ?_) (fun cdv A outer s H vs Q E hr h => ?_)
  · obtain ⟨v, u, x, L, wide, n, wd, rw', rfl, _⟩ := h
    rfl
  · obtain ⟨v, u, x, L, wide, n, wd, rw', rfl, hv, ok, hu, hx, hw, hr', hn, k⟩ := h
    obtain ⟨a, b, xs, rfl, ha, hb, hp⟩ := line_at hv
    obtain ⟨c, rfl, hc⟩ := poly_at hu
    obtain ⟨d, rfl, hd⟩ := poly_at hx
    refine ⟨_, (pss_cons (ps_set (i := 3) sc_chance_of.nd rfl (.inl rfl) (pe_tup (pa_cons pe_int pa_nil)))
      (pss_cons (ps_for PassesOwn.never rfl (pi_zipM (by rfl) T.zip_ (pa_cons (pv 1) (pa_cons (pv 2) pa_nil))) (pg_tup rfl (pgs_cons (pg_name (i := 4) sc_chance_of.nd rfl (.inl rfl)) (pgs_cons (pg_name (i := 5) sc_chance_of.nd rfl (.inl rfl)) pgs_nil)))
        (pss_one (ps_set (i := 3) sc_chance_of.nd rfl (.inl rfl) (C8.pe_c c_times hr (by decide) (by rfl) (pa_cons (pv 3) (pa_cons (pe_ix ixA (pe_ix ixA (pe_ix ixA (pv 0) pe_int (fun _ _ => rfl)) (pv 4) (fun _ _ => rfl)) (pv 5) (fun _ _ => rfl)) pa_nil))))))
      (pss_one (ps_ret (pv 3))))), ?_⟩
    refine ⟨by show 1 ≤ sizeLine; decide, fun t nt => ?_⟩
    have s0 := same_new (o := .tup [V.int 1]) nt
    have hzl : (wd.zip rw').length = n := by rw [List.length_zip, hw.len, hr'.len, Nat.min_self]
    have hcb : chB 0 = 1 := rfl
    refine ⟨_, rfl, _, rfl, for_zip (H0 := H) (by rw [List.length_map, List.length_map, hw.len, hr'.len]) (.inr (.inl ⟨sqt hc, sqt hd⟩)) (fun i σ' H' => Same H H' ∧ ∃ x3 x4 x5, σ' = [some (.ref a), some (.ref c), some (.ref d), some x3, x4, x5] ∧ Poly H' x3 (((wd.zip rw').take i).foldl (chStep L.2) [1])) (fun _ _ _ h => h.1) ⟨s0, _, none, none, rfl, poly_of upd_same⟩ ?_ ?_⟩
    · rintro i y z T' σ' H' hy hz ⟨sm, x3, x4, x5, rfl, h3⟩ nT
      obtain ⟨e1, he1, rfl⟩ := ints_get hy
      obtain ⟨e2, he2, rfl⟩ := ints_get hz
      have hzi : (wd.zip rw')[i]? = some (e1, e2) := by rw [List.getElem?_zip_eq_some]; exact ⟨he1, he2⟩
      have hi : i < n := by rw [← hzl]; exact (List.getElem?_eq_some_iff.mp hzi).1
      obtain ⟨q1, q2⟩ := zip_ok hw hr' (e1, e2) (List.mem_of_getElem? hzi)
      obtain ⟨row, hrow, hent, hrl, hpo⟩ := tab_at ok q1 q2
      obtain ⟨xr, hxr, hR⟩ := paired_get hp hrow
      obtain ⟨g, zs, rfl, hg, hpz⟩ := hR
      obtain ⟨xp, hxp, hP⟩ := paired_get hpz hent
      have sA := sm.trans (same_new (o := .tup [V.int e1, V.int e2]) nT)
      have e := foldl_take (f := chStep L.2) (z := ([1] : List Int)) hzi
      obtain ⟨bl, bc⟩ := ch_bound L.2 ((wd.zip rw').take i) fun ab hab => by
        obtain ⟨q1, q2⟩ := zip_ok hw hr' ab (List.mem_of_mem_take hab)
        obtain ⟨_, _, _, _, q⟩ := tab_at ok q1 q2
        exact q
      have hti : ((wd.zip rw').take i).length = i := by rw [List.length_take, hzl]; omega
      rw [hti] at bl bc
      refine ⟨_, rfl, _, rfl, .inr ⟨a, _, 1, _, rfl, rfl, sqt (sA _ _ ha), atI_nat (j := 1) rfl, _, rfl, .inr ⟨b, _, _, _, rfl, rfl, sqt (sA _ _ hb), atI_nat' q1.1 hxr, _, rfl, .inr ⟨g, _, _, _, rfl, rfl, sqt (sA _ _ hg), atI_nat' q2.1 hxp, ?_⟩⟩⟩⟩
      refine ⟨_, _, _, tabAt L.2 e1 e2, rfl, zs_poly (keep (same_new nT) h3), zs_poly (keep sA hP), by omega, ?_, cb_sm bc ?_, fun r H2 s2 hr2 => ?_⟩
      · have : (tabAt L.2 e1 e2).length ≤ 5 := (polyOk_iff.mp hpo).1
        omega
      · have e3 : chB 0 = 1 ∧ chB 1 = 1000 ∧ chB 2 = 6000000 := by decide
        rcases (show i = 0 ∨ i = 1 ∨ i = 2 by omega) with rfl | rfl | rfl <;> omega
      · refine ⟨sA.trans s2, r, _, _, rfl, ?_⟩
        rw [e]
        exact hr2
    · rintro σ' H' ⟨sm, x3, x4, x5, rfl, h3⟩
      rw [List.length_map, List.take_of_length_le (by rw [hzl, hw.len]; exact Nat.le_refl _)] at h3
      exact ⟨_, rfl, k _ _ sm h3⟩
end
end EN
namespace EN
open PySem PySem.Spec PyProof.Rows L2
theorem gcd_low {p : List Int} {low : Int} (h : 0 < low) : 0 < ((gcdL (p ++ [low]) : Nat) : Int) ∧ ((gcdL (p ++ [low]) : Nat) : Int) ≤ low := by
  rw [gcdL_snoc]
  have h1 : 0 < Nat.gcd low.natAbs (gcdL p) := Nat.gcd_pos_of_pos_left _ (by omega)
  have h2 : Nat.gcd low.natAbs (gcdL p) ≤ low.natAbs := Nat.gcd_le_left _ (by omega)
  omega
theorem told_ok {L : Int × List (List (List Int))} {wide long : Nat} {c : List (List Int × Int)} (ok : LineOk L wide) (okc : CodeOk L.2.length c long) : (toldF L.2 c wide long).length = wide ^ long ∧ ∀ so ∈ toldF L.2 c wide long, so.length = c.length ∧ ∀ p ∈ so, p.length ≤ 17 ∧ Cb 200000000000 p := by
  refine ⟨by unfold toldF; rw [List.length_map, rowsL_len], fun so h => ?_⟩
  obtain ⟨row, hrow, rfl⟩ := List.mem_map.mp h
  refine ⟨List.length_map _, fun p hp => ?_⟩
  obtain ⟨e, he, rfl⟩ := List.mem_map.mp hp
  obtain ⟨hw, h1, h2⟩ := okc.words e he
  obtain ⟨b1, b2⟩ := chF_bound ok hw (rowsL_ok wide long row hrow) okc.l2
  refine ⟨?_, cb_mono (cb_times (A := 3) (B := 66000000000) (n := 1) (cb_of fun x hx => ?_) b2 (by simp)) (by decide)⟩
  · have := timesL_len [e.2] (chF L.2 e.1 row)
    simp only [List.length_singleton] at this
    omega
  · have e1 : x = e.2 := by simpa using hx
    omega
theorem lstpoly_upd {H : Hp} {l : Addr} {ys : List V} {o : HO} {v : V} {x : List (List Int)} (h : Lst Poly H v x) (hne : v ≠ .ref l) (hl : H l = some (.lst ys)) : Lst Poly (upd H l o) v x := by
  obtain ⟨b, xs, rfl, hb, hp⟩ := h
  have hbl : b ≠ l := fun e => hne (by rw [e])
  exact ⟨b, xs, rfl, by rw [upd_ne hbl]; exact hb, paired_map hp fun u z q => keepM hl (fun b o hb e => by rw [upd_ne hb]; exact e) q⟩
section
variable {P : Program} {w : World} {K : PySem.W.Frag} {mg : Str → Option Value} {base : Heap} {f : Addr} {fd : FuncData}

/-! ### lowest -/
-- slots: 0 top, 1 low, 2 part*, 3 one
abbrev s_lowest : Stmt := topS 58
theorem sc_lowest : FnScope ["top", "low", "part", "one"] ["top", "low"] (C8.fnScope s_lowest) := C8.fnScope_by (by decide +kernel)
def sp_lowest : Sp := fun vs H Q _ => ∃ v p low, vs = [v, .int low] ∧ Poly H v p ∧ 0 < low ∧ Sm low ∧ p.length ≤ 1000 ∧ ∀ r H', Same H H' → PolyBy H' r (lowestF p low) → Q r H'
theorem cal_lowest (D : C8.Def K mg "lowest" s_lowest f fd) (df : fd.defaults = .none) (T : Tx K mg) (c_divisor_of : C8.Cal P w K mg base 1 "divisor_of" (sp_divisor_of K) []) : C8.Cal P w K mg base 2 "lowest" sp_lowest [] := by
  refine C8.cal0 D (D.fn.binds df (ps := ["top", "low"]) fun _ _ _ _ _ _ us hl => match us, hl with | [_, _], _ => rfl) .nil sc_lowest (fun vs H Q E h => ?_) (fun cdv A outer s H vs Q E hr h => ?_)
  · obtain ⟨v, p, low, rfl, _⟩ := h
    rfl
  · obtain ⟨v, p, low, rfl, hv, h0, hs, hl, k⟩ := h
    obtain ⟨a, rfl, ha⟩ := poly_at hv
    obtain ⟨g0, g1⟩ := gcd_low (p := p) h0
    have gb : Bt 64 ((gcdL (p ++ [low]) : Nat) : Int) := sm_bt (by unfold Sm at hs ⊢; omega)
    refine ⟨_, (pss_cons (ps_set (i := 2) sc_lowest.nd rfl (.inr rfl) (C8.pe_c c_divisor_of hr (by decide) (by rfl) (pa_cons (pe_tup (StX.pa_star (pv 0) (pa_cons (pv 1) pa_nil))) pa_nil)))
      (pss_one (ps_ret (pe_tup (pa_cons (pe_callTy call_tuple_of (by rfl) T.tuple_ (by decide +kernel) (pa_cons (pe_lc (own := [("one", 3)]) (by rfl) sc_lowest.nd (pi_seq (pv 0)) (blkOk_by (N := ["top", "low", "part", "one"]) (sc := C8.fnScope s_lowest) (by decide +kernel)) (fun _ _ _ _ _ => (pg_name (i := 3) sc_lowest.nd rfl (.inl rfl))) (fun _ _ _ _ _ => pts_nil) (fun _ _ _ _ _ => (pe_op op_fdivW (pv 3) (pv 2)))) pa_nil)) (pa_cons (pe_op op_fdivW (pv 1) (pv 2)) pa_nil)))))), ?_⟩
    refine ⟨_, rfl, a, _, rfl, .inl (sqt ha), _, rfl, line_le ?_, fun t nt => ?_⟩
    · rw [List.length_append, List.length_map, List.length_singleton]
      omega
    have s0 := same_new (o := .tup (p.map V.int ++ [.int low])) nt
    refine ⟨_, p ++ [low], rfl, ⟨t, rfl, .inr (sqt (by rw [upd_same, List.map_append]; rfl))⟩, ?_⟩
    refine ⟨_, rfl, lc_ints (.inr (sqt (s0 _ _ ha))) (by omega) (fun c => c / ((gcdL (p ++ [low]) : Nat) : Int)) (fun c hc H' sm C hC => ⟨rfl, _, rfl, _, rfl, _, _, rfl, rfl, bt_div _ g0 gb (by decide), hC⟩) fun l H1 s1 hl1 => ?_⟩
    refine ⟨l, _, rfl, .inl ⟨sql hl1, fun t2 n2 => ?_⟩⟩
    have s2 := same_new (o := .tup ((p.map fun c => c / ((gcdL (p ++ [low]) : Nat) : Int)).map V.int)) n2
    refine ⟨_, rfl, _, rfl, _, _, rfl, rfl, bt_div _ g0 gb (by decide), by show 2 ≤ sizeLine; decide, fun t3 n3 => ?_⟩
    have s3 := same_new (o := .tup [.ref t2, .int (low / ((gcdL (p ++ [low]) : Nat) : Int))]) n3
    exact k _ _ (s0.trans (s1.trans (s2.trans s3))) ⟨t3, _, _, rfl, upd_same, poly_of (s3 _ _ upd_same), rfl⟩

/-! ### chance -/
-- slots: 0 line, 1 word, 2 row
abbrev s_chance : Stmt := topS 59
theorem sc_chance : FnScope ["line", "word", "row"] ["line", "word", "row"] (C8.fnScope s_chance) := C8.fnScope_by (by decide +kernel)
def sp_chance : Sp := fun vs H Q _ => ∃ v u x L wide n wd rw, vs = [v, u, x] ∧ Line H v L ∧ LineOk L wide ∧ Poly H u wd ∧ Poly H x rw ∧ WordOk L.2.length n wd ∧ WordOk wide n rw ∧ 1 ≤ n ∧ n ≤ 3 ∧ ∀ r H', Same H H' → PolyBy H' r (lowestF (chF L.2 wd rw) (L.1 ^ n)) → Q r H'
theorem cal_chance (D : C8.Def K mg "chance" s_chance f fd) (df : fd.defaults = .none) (T : Tx K mg) (c_need_line : C8.Cal P w K mg base 8 "need_line" sp_need_line []) (c_is_word : C8.Cal P w K mg base 2 "is_word" sp_is_word []) (c_chance_of : C8.Cal P w K mg base 3 "chance_of" sp_chance_of [])
    (c_low_of : C8.Cal P w K mg base 1 "low_of" sp_low_of []) (c_lowest : C8.Cal P w K mg base 2 "lowest" sp_lowest []) : C8.Cal P w K mg base 9 "chance" sp_chance [] := by
  refine C8.cal0 D (D.fn.binds df (ps := ["line", "word", "row"]) fun _ _ _ _ _ _ us hl => match us, hl with | [_, _, _], _ => rfl) .nil sc_chance (fun vs H Q E h => ?_) (fun cdv A outer s H vs Q E hr h => ?_)
  · obtain ⟨v, u, x, L, wide, n, wd, rw', rfl, _⟩ := h
    rfl
  · obtain ⟨v, u, x, L, wide, n, wd, rw', rfl, hv, ok, hu, hx, hw, hr', hn1, hn, k⟩ := h
    obtain ⟨a, b, c, xs, ys, rfl, ha, hb, hp, hx0, hc, hl⟩ := line_first hv ok
    obtain ⟨d, rfl, hd⟩ := poly_at hu
    obtain ⟨e, rfl, he⟩ := poly_at hx
    have hxl := paired_len hp
    have hwl := hw.len
    have hrl := hr'.len
    refine ⟨_, (pss_cons (ps_expr (C8.pe_c c_need_line hr (by decide) (by rfl) (pa_cons (pv 0) pa_nil)))
      (pss_cons (ps_if (pt_not (pt_val (C8.pe_c c_is_word hr (by decide) (by rfl) (pa_cons (pv 1) (pa_cons (pe_callB call_len_seq (by rfl) T.len_ (by decide +kernel) (pa_cons (pe_ix ixA (pv 0) pe_int (fun _ _ => rfl)) pa_nil)) pa_nil)))))
        pss_never
        pss_nil)
      (pss_cons (ps_if (pw_or (pt_not (pt_val (C8.pe_c c_is_word hr (by decide) (by rfl) (pa_cons (pv 2) (pa_cons (pe_callB call_len_seq (by rfl) T.len_ (by decide +kernel) (pa_cons (pe_ix ixA (pe_ix ixA (pv 0) pe_int (fun _ _ => rfl)) pe_int (fun _ _ => rfl)) pa_nil)) pa_nil))))) (pw_or1 (pt_cmpR op_ne (pe_callB call_len_seq (by rfl) T.len_ (by decide +kernel) (pa_cons (pv 2) pa_nil)) (pe_callB call_len_seq (by rfl) T.len_ (by decide +kernel) (pa_cons (pv 1) pa_nil)) (nomark _)))).pt
        pss_never
        pss_nil)
      (pss_one (ps_ret (C8.pe_c c_lowest hr (by decide) (by rfl) (pa_cons (C8.pe_c c_chance_of hr (by decide) (by rfl) (pa_cons (pv 0) (pa_cons (pv 1) (pa_cons (pv 2) pa_nil)))) (pa_cons (C8.pe_c c_low_of hr (by decide) (by rfl) (pa_cons (pv 0) (pa_cons (pe_callB call_len_seq (by rfl) T.len_ (by decide +kernel) (pa_cons (pv 1) pa_nil)) pa_nil))) pa_nil)))))))), ?_⟩
    refine ⟨_, rfl, _, L, wide, rfl, hv, ok, fun H1 s1 => ?_⟩
    refine ⟨_, rfl, _, rfl, .inr ⟨a, _, 1, _, rfl, rfl, sqt (s1 _ _ ha), atI_nat (j := 1) rfl, b, _, rfl, .inr (sqt (s1 _ _ hb)), ?_⟩⟩
    refine ⟨_, wd, _, rfl, poly_of (s1 _ _ hd), by omega, by omega, fun y hy => by have := hw.let_ y hy; omega, fun H2 s2 => ⟨_, rfl, iteF ?_⟩⟩
    have sA := s1.trans s2
    refine ⟨_, rfl, _, rfl, .inr ⟨a, _, 1, _, rfl, rfl, sqt (sA _ _ ha), atI_nat (j := 1) rfl, .inr ⟨b, _, 0, _, rfl, rfl, sqt (sA _ _ hb), atI_nat (j := 0) hx0, c, _, rfl, .inr (sqt (sA _ _ hc)), ?_⟩⟩⟩
    refine ⟨_, rw', _, rfl, poly_of (sA _ _ he), by omega, by omega, fun y hy => by have := hr'.let_ y hy; omega, fun H3 s3 => ⟨_, rfl, iteF ?_⟩⟩
    have sB := sA.trans s3
    refine ⟨_, rfl, e, _, rfl, .inr (sqt (sB _ _ he)), _, rfl, d, _, rfl, .inr (sqt (sB _ _ hd)), rfl, _, rfl, itNF (veq (by rw [List.length_map, List.length_map]; omega)) ?_⟩
    refine ⟨_, rfl, _, rfl, _, rfl, _, _, _, L, wide, n, wd, rw', rfl, keep sB hv, ok, poly_of (sB _ _ hd), poly_of (sB _ _ he), hw, hr', hn, fun r H4 s4 hr4 => ?_⟩
    have sC := sB.trans s4
    refine ⟨_, rfl, _, rfl, d, _, rfl, .inr (sqt (sC _ _ hd)), ?_⟩
    rw [List.length_map, hwl]
    refine ⟨_, L, wide, n, rfl, keep sC hv, ok, by omega, ?_⟩
    obtain ⟨b1, b2⟩ := chF_bound ok hw hr' hn
    have l1 := ok.low1
    have l2 := ok.low2
    have hlow : 0 < L.1 ^ n ∧ L.1 ^ n ≤ 64 := by
      refine ⟨Int.pow_pos (by omega), ?_⟩
      rcases (show n = 1 ∨ n = 2 ∨ n = 3 by omega) with rfl | rfl | rfl <;> rcases (show L.1 = 1 ∨ L.1 = 2 ∨ L.1 = 3 ∨ L.1 = 4 by omega) with e | e | e | e <;> rw [e] <;> decide
    exact ⟨_, chF L.2 wd rw', L.1 ^ n, rfl, hr4, hlow.1, sm_of (n := 64) (by omega), by omega, fun r2 H5 s5 h5 => k _ _ (sC.trans s5) h5⟩

/-! ### need_reader -/
-- slots: 0 line, 1 code*, 2 value, 3 one
abbrev s_need_reader : Stmt := topS 61
theorem sc_need_reader : FnScope ["line", "code", "value", "one"] ["line", "code", "value"] (C8.fnScope s_need_reader) := C8.fnScope_by (by decide +kernel)
def sp_need_reader : Sp := fun vs H Q _ => ∃ v u x L wide c long rd, vs = [v, u, x] ∧ Line H v L ∧ LineOk L wide ∧ Code H u c ∧ CodeOk L.2.length c long ∧ Poly H x rd ∧ rd.length = wide ^ long ∧ (∀ y ∈ rd, 0 ≤ y ∧ y < (c.length : Int)) ∧ ∀ H', Same H H' → Q .non H'
theorem cal_need_reader (D : C8.Def K mg "need_reader" s_need_reader f fd) (df : fd.defaults = .none) (T : Tx K mg) (c_is_int : C8.Cal P w K mg base 1 "is_int" sp_is_int []) (c_count_rows : C8.Cal P w K mg base 1 "count_rows" sp_count_rows []) : C8.Cal P w K mg base 2 "need_reader" sp_need_reader [] := by
  refine C8.cal0 D (D.fn.binds df (ps := ["line", "code", "value"]) fun _ _ _ _ _ _ us hl => match us, hl with | [_, _, _], _ => rfl) .nil sc_need_reader (fun vs H Q E h => ?_) (fun cdv A outer s H vs Q E hr h => ?_)
  · obtain ⟨v, u, x, L, wide, c, long, rd, rfl, _⟩ := h
    rfl
  · obtain ⟨v, u, x, L, wide, c, long, rd, rfl, hv, ok, hu, okc, hx, hrl, hrd, k⟩ := h
    obtain ⟨d, ys, d0, b0, e0, rfl, hd, hpc, hx0, hd0, hb0, hl0⟩ := cd_first hu okc
    obtain ⟨a, rfl, ha⟩ := poly_at hx
    have hyl := paired_len hpc
    have h27 : wide ^ long ≤ 3 ^ 3 := Nat.le_trans (Nat.pow_le_pow_left ok.wide2 _) (Nat.pow_le_pow_right (by decide) okc.l2)
    have l2 := okc.l2
    refine ⟨_, (pss_cons (ps_if (pw_or (pt_not (pt_val (pe_callB call_isi (by rfl) T.isinstance_ (by decide +kernel) (pa_cons (pv 2) (pa_cons (pe_bltn (v := .ty "tuple") (by rfl) T.tuple_ (by decide +kernel) rfl) pa_nil))))) (pw_or1 (pt_cmpR op_ne (pe_callB call_len_seq (by rfl) T.len_ (by decide +kernel) (pa_cons (pv 2) pa_nil)) (C8.pe_c c_count_rows hr (by decide) (by rfl) (pa_cons (pv 0) (pa_cons (pe_callB call_len_seq (by rfl) T.len_ (by decide +kernel) (pa_cons (pe_ix ixA (pe_ix ixA (pv 1) pe_int (fun _ _ => rfl)) pe_int (fun _ _ => rfl)) pa_nil)) pa_nil))) (nomark _)))).pt
        pss_never
        pss_nil)
      (pss_one (ps_if (pt_not (pt_val (pe_callB (cr_all rfl) (by rfl) T.all_ (by decide +kernel) (pa_cons (pe_lc (own := [("one", 3)]) (by rfl) sc_need_reader.nd (pi_seq (pv 2)) (blkOk_by (N := ["line", "code", "value", "one"]) (sc := C8.fnScope s_need_reader) (by decide +kernel)) (fun _ _ _ _ _ => (pg_name (i := 3) sc_need_reader.nd rfl (.inl rfl))) (fun _ _ _ _ _ => pts_nil) (fun _ _ _ _ _ => (pe_and (C8.pe_c c_is_int hr (by decide) (by rfl) (pa_cons (pv 3) pa_nil)) (pe_one (pe_chain op_le op_lt pe_int (pv 3) (pe_callB (call_len_seqB (K := K)) (by rfl) T.len_ (by decide +kernel) (pa_cons (pv 1) pa_nil))))))) pa_nil))))
        pss_never
        pss_nil))), ?_⟩
    refine ⟨_, rfl, ?_⟩
    refine isi_tc (.tup ha) k_tup_tup ?_
    refine ⟨_, rfl, ?_⟩
    refine iteF ⟨_, rfl, a, _, rfl, .inr (sqt ha), _, rfl, _, rfl, .inr ⟨d, _, 0, _, rfl, rfl, sqt hd, atI_nat (j := 0) hx0, .inr ⟨d0, _, 0, _, rfl, rfl, sqt hd0, atI_nat (j := 0) rfl, b0, _, rfl, .inr (sqt hb0), ?_⟩⟩⟩
    rw [List.length_map, List.length_map, hl0]
    refine ⟨_, L, wide, long, rfl, hv, ok, by omega, rfl, _, rfl, itNF (veq (by rw [hrl])) ?_⟩
    refine ⟨_, rfl, lc_true (.inr (sqt ha)) (by rw [List.length_map]; omega) (fun i x H' hx sm C hC => ?_) fun l H1 s1 ⟨n, hl1⟩ => ⟨l, List.replicate n true, rfl, sql hl1, _, rfl, itAllNF (k _ s1)⟩⟩
    obtain ⟨y, hy, rfl⟩ := ints_get hx
    obtain ⟨h1, h2⟩ := hrd y (List.mem_of_getElem? hy)
    refine ⟨rfl, _, rfl, y, rfl, _, rfl, iteT ?_⟩
    exact ⟨_, rfl, _, _, rfl, rfl, _, rfl, itT h1 ⟨_, rfl, d, _, rfl, .inr (sqt (sm _ _ hd)), _, _, rfl, rfl, asT (by omega) (hC _ (Same.refl _))⟩⟩

/-! ### at_share -/
-- slots: 0 told, 1 share, 2 top, 3 low
abbrev s_at_share : Stmt := topS 65
theorem sc_at_share : FnScope ["told", "share", "top", "low"] ["told", "share"] (C8.fnScope s_at_share) := C8.fnScope_by (by decide +kernel)
def sp_at_share : Sp := fun vs H Q _ => ∃ v u p d t l, vs = [v, u] ∧ PolyBy H v (p, d) ∧ Frac H u (t, l) ∧ p.length ≤ 100 ∧ 0 < l ∧ Sm t ∧ Sm l ∧ (∀ c ∈ p, Sm c) ∧ 0 < d ∧ Sm d ∧ ∀ r H', Same H H' → Frac H' r (atF (p, d) t l) → Q r H'
theorem cal_at_share (D : C8.Def K mg "at_share" s_at_share f fd) (df : fd.defaults = .none) (T : Tx K mg) (c_height : C8.Cal P w K mg base 3 "height" sp_height []) (c_fraction : C8.Cal P w K mg base 2 "fraction" sp_fraction []) : C8.Cal P w K mg base 4 "at_share" sp_at_share [] := by
  refine C8.cal0 D (D.fn.binds df (ps := ["told", "share"]) fun _ _ _ _ _ _ us hl => match us, hl with | [_, _], _ => rfl) .nil sc_at_share (fun vs H Q E h => ?_) (fun cdv A outer s H vs Q E hr h => ?_)
  · obtain ⟨v, u, p, d, t, l, rfl, _⟩ := h
    rfl
  · obtain ⟨v, u, p, d, t, l, rfl, hv, hu, hp, hl, st, sl, sp, h0, sd, k⟩ := h
    obtain ⟨a, b, rfl, ha, hb⟩ := pr_at hv
    refine ⟨_, (pss_cons (ps_asg (C8.pe_c c_height hr (by decide) (by rfl) (pa_cons (pe_ix ixA (pv 0) pe_int (fun _ _ => rfl)) (pa_cons (pv 1) pa_nil))) (pg_tup rfl (pgs_cons (pg_name (i := 2) sc_at_share.nd rfl (.inl rfl)) (pgs_cons (pg_name (i := 3) sc_at_share.nd rfl (.inl rfl)) pgs_nil))))
      (pss_one (ps_ret (C8.pe_c c_fraction hr (by decide) (by rfl) (pa_cons (pv 2) (pa_cons (pe_op op_mul (pv 3) (pe_ix ixA (pv 0) pe_int (fun _ _ => rfl))) pa_nil)))))), ?_⟩
    refine ⟨_, rfl, .inr ⟨a, _, 0, _, rfl, rfl, sqt ha, atI_nat (j := 0) rfl, _, rfl, ?_⟩⟩
    refine ⟨_, _, p, t, l, rfl, poly_of hb, hu, hp, hl, st, sl, sp, fun r H1 s1 hr1 => ?_⟩
    obtain ⟨c, rfl, hc⟩ := frac_at hr1
    refine ⟨c, _, rfl, sqt hc, rfl, _, _, rfl, _, _, rfl, rfl, ?_⟩
    have hlp : 0 < l ^ (p.length - 1) := Int.pow_pos hl
    have hr0 := redF_pos (t := hNum p t l) hlp
    have hr1 := redF_le (t := hNum p t l) hlp
    have hb1 : Bt (64 * (p.length - 1) + 1) (redF (hNum p t l) (l ^ (p.length - 1))).2 := by
      have := Bt.pow (sm_bt sl) (p.length - 1)
      unfold Bt at this ⊢
      omega
    refine ⟨_, rfl, _, rfl, _, rfl, .inr ⟨a, _, 1, _, rfl, rfl, sqt (s1 _ _ ha), atI_nat (j := 1) rfl, _, _, rfl, rfl, .inr sd, ?_⟩⟩
    exact ⟨_, _, 64 * (p.length - 1) + 1 + 64, rfl, Int.mul_pos hr0 h0, Bt.mul hb1 (sm_bt sd), by omega, fun r2 H2 s2 hr2 => k _ _ (s1.trans s2) hr2⟩

/-! ### right_of -/
-- slots: 0 told, 1 low, 2 reader, 3 found, 4 some, 5 at
abbrev s_right_of : Stmt := topS 63
theorem sc_right_of : FnScope ["told", "low", "reader", "found", "some", "at"] ["told", "low", "reader"] (C8.fnScope s_right_of) := C8.fnScope_by (by decide +kernel)
def sp_right_of : Sp := fun vs H Q _ => ∃ v x told low rd, vs = [v, .int low, x] ∧ Lst (Lst Poly) H v told ∧ Poly H x rd ∧ rd.length = told.length ∧ told.length ≤ 100 ∧ (∀ so ∈ told, ∀ p ∈ so, p.length ≤ 30) ∧ (∀ sa ∈ told.zip rd, 0 ≤ sa.2 ∧ sa.2 < (sa.1.length : Int)) ∧ 0 < low ∧ Sm low ∧
  ∀ r H', Same H H' → PolyBy H' r (rightF told low rd) → Q r H'
abbrev rtStep (f : List Int) (sa : List (List Int) × Int) : List Int := plusL f (sa.1.getD sa.2.toNat []) 1
theorem cal_right_of (D : C8.Def K mg "right_of" s_right_of f fd) (df : fd.defaults = .none) (T : Tx K mg) (c_plus2 : C8.Cal P w K mg base 2 "plus" (sp_plus K) [.int 1]) (c_lowest : C8.Cal P w K mg base 2 "lowest" sp_lowest []) : C8.Cal P w K mg base 3 "right_of" sp_right_of [] := by
  refine C8.cal0 D (D.fn.binds df (ps := ["told", "low", "reader"]) fun _ _ _ _ _ _ us hl => match us, hl with | [_, _, _], _ => rfl) .nil sc_right_of (fun vs H Q E h => ?_) (fun cdv A outer s H vs Q E hr h => ?_)
  · obtain ⟨v, x, told, low, rd, rfl, _⟩ := h
    rfl
  · obtain ⟨v, x, told, low, rd, rfl, ⟨a, xs, rfl, ha, hpa⟩, hx, hlen, h100, hp30, hix, h0, hs, k⟩ := h
    obtain ⟨b, rfl, hb⟩ := poly_at hx
    have hxl := paired_len hpa
    have hzl : (told.zip rd).length = told.length := by rw [List.length_zip, hlen, Nat.min_self]
    refine ⟨_, (pss_cons (ps_set (i := 3) sc_right_of.nd rfl (.inl rfl) (pe_tup pa_nil))
      (pss_cons (ps_for PassesOwn.never rfl (pi_zipM (by rfl) T.zip_ (pa_cons (pv 0) (pa_cons (pv 2) pa_nil))) (pg_tup rfl (pgs_cons (pg_name (i := 4) sc_right_of.nd rfl (.inl rfl)) (pgs_cons (pg_name (i := 5) sc_right_of.nd rfl (.inl rfl)) pgs_nil)))
        (pss_one (ps_set (i := 3) sc_right_of.nd rfl (.inl rfl) (C8.pe_c c_plus2 hr (by decide) (by rfl) (pa_cons (pv 3) (pa_cons (pe_ix ixA (pv 4) (pv 5) (fun _ _ => rfl)) pa_nil))))))
      (pss_one (ps_ret (C8.pe_c c_lowest hr (by decide) (by rfl) (pa_cons (pv 3) (pa_cons (pv 1) pa_nil))))))), ?_⟩
    refine ⟨Nat.zero_le _, fun t nt => ?_⟩
    have s0 := same_new (o := .tup []) nt
    refine ⟨_, rfl, _, rfl, for_zip (H0 := H) (by rw [List.length_map, hxl, hlen]) (.inr (.inr ⟨sql ha, sqt hb⟩)) (fun i σ' H' => Same H H' ∧ ∃ x3 x4 x5, σ' = [some (.ref a), some (.int low), some (.ref b), some x3, x4, x5] ∧ Poly H' x3 (((told.zip rd).take i).foldl rtStep []) ∧ (((told.zip rd).take i).foldl rtStep []).length ≤ 30) (fun _ _ _ h => h.1) ⟨s0, _, none, none, rfl, poly_of upd_same, Nat.zero_le _⟩ ?_ ?_⟩
    · rintro i y z T' σ' H' hy hz ⟨sm, x3, x4, x5, rfl, h3, h3l⟩ nT
      obtain ⟨so, hso, hsy⟩ := paired_get' hpa hy
      obtain ⟨e2, he2, rfl⟩ := ints_get hz
      have hzi : (told.zip rd)[i]? = some (so, e2) := by rw [List.getElem?_zip_eq_some]; exact ⟨hso, he2⟩
      have sA := sm.trans (same_new (o := .tup [y, V.int e2]) nT)
      obtain ⟨c, zs, rfl, hc, hpz⟩ := keep sA hsy
      obtain ⟨j1, j2⟩ := hix (so, e2) (List.mem_of_getElem? hzi)
      have hj : e2.toNat < so.length := by
        have : e2 < (so.length : Int) := j2
        have : 0 ≤ e2 := j1
        omega
      obtain ⟨xp, hxp, hP⟩ := paired_get hpz (List.getElem?_eq_getElem hj)
      have hpe : so.getD e2.toNat [] = so[e2.toNat] := by rw [List.getD_eq_getElem?_getD, List.getElem?_eq_getElem hj]; rfl
      have hpl := hp30 so (List.mem_of_getElem? hso) _ (List.getElem_mem hj)
      have e := foldl_take (f := rtStep) (z := ([] : List Int)) hzi
      refine ⟨_, rfl, _, rfl, _, rfl, .inl ⟨c, _, _, _, rfl, rfl, sql hc, atI_nat' j1 hxp, ?_⟩⟩
      refine ⟨_, _, _, so[e2.toNat], _, rfl, zs_poly (keep (same_new nT) h3), zs_poly hP, by omega, by omega, .inl (by decide), fun r H2 s2 hr2 => ?_⟩
      refine ⟨sA.trans s2, r, _, _, rfl, ?_, ?_⟩
      · rw [e]
        show Poly H2 r (plusL _ (so.getD e2.toNat []) 1)
        rw [hpe]
        exact hr2
      · rw [e]
        show (plusL _ (so.getD e2.toNat []) 1).length ≤ 30
        rw [hpe]
        exact Nat.le_trans (plusL_len _ _ _) (by omega)
    · rintro σ' H' ⟨sm, x3, x4, x5, rfl, h3, h3l⟩
      rw [List.take_of_length_le (by rw [hzl]; omega)] at h3 h3l
      exact ⟨_, rfl, _, rfl, _, _, low, rfl, h3, h0, hs, by omega, fun r H2 s2 hr2 => k _ _ (sm.trans s2) hr2⟩
end
end EN
namespace EN
open PySem PySem.Spec PyProof.Rows L2
theorem low_small {L : Int × List (List (List Int))} {wide n : Nat} (ok : LineOk L wide) (hn : n ≤ 3) : 0 < L.1 ^ n ∧ L.1 ^ n ≤ 64 := by
  have l1 := ok.low1
  have l2 := ok.low2
  refine ⟨Int.pow_pos (by omega), ?_⟩
  rcases (show n = 0 ∨ n = 1 ∨ n = 2 ∨ n = 3 by omega) with rfl | rfl | rfl | rfl <;> rcases (show L.1 = 1 ∨ L.1 = 2 ∨ L.1 = 3 ∨ L.1 = 4 by omega) with e | e | e | e <;> rw [e] <;> decide
theorem sum_small {many long : Nat} : ∀ {c : List (List Int × Int)}, (∀ e ∈ c, WordOk many long e.1 ∧ 1 ≤ e.2 ∧ e.2 ≤ 3) → (c.length : Int) ≤ sumW c ∧ sumW c ≤ 3 * (c.length : Int)
  | [], _ => by decide
  | e :: c, h => by
    obtain ⟨h1, h2⟩ := sum_small (c := c) fun e he => h e (List.mem_cons_of_mem _ he)
    obtain ⟨_, h3, h4⟩ := h e (List.mem_cons_self ..)
    have : sumW (e :: c) = e.2 + sumW c := by unfold sumW; rw [List.map_cons, List.sum_cons]
    rw [this, List.length_cons]
    omega
/-- the low number of all words -/
def lowF' (L : Int × List (List (List Int))) (c : List (List Int × Int)) (long : Nat) : Int := L.1 ^ long * sumW c
theorem low_all {L : Int × List (List (List Int))} {wide long : Nat} {c : List (List Int × Int)} (ok : LineOk L wide) (okc : CodeOk L.2.length c long) : 0 < lowF' L c long ∧ lowF' L c long ≤ 64 * 12 := by
  obtain ⟨h1, h2⟩ := low_small ok okc.l2
  obtain ⟨h3, h4⟩ := sum_small okc.words
  have n1 := okc.n1
  have n2 := okc.n2
  unfold lowF'
  exact ⟨Int.mul_pos h1 (by omega), Int.mul_le_mul h2 (by omega) (by omega) (by decide)⟩
abbrev Told : Rp (List (List (List Int)) × Int) := Pr (Lst (Lst Poly)) rI_
theorem told_zip {L : Int × List (List (List Int))} {wide long : Nat} {c : List (List Int × Int)} {rd : List Int} (ok : LineOk L wide) (okc : CodeOk L.2.length c long) (hrd : ∀ y ∈ rd, 0 ≤ y ∧ y < (c.length : Int)) : ∀ sa ∈ (toldF L.2 c wide long).zip rd, 0 ≤ sa.2 ∧ sa.2 < (sa.1.length : Int) := fun sa h => by
  obtain ⟨h1, h2⟩ := List.of_mem_zip (a := sa.1) (b := sa.2) h
  have := ((told_ok ok okc).2 _ h1).1
  have := hrd _ h2
  omega
theorem same_one {H : Hp} {a : Addr} {o : HO} (h : H a = some o) : Same (upd (fun _ => none) a o) H := fun b u e => by
  by_cases hb : b = a
  · subst hb
    rw [upd_same] at e
    rw [h, e]
  · rw [upd_ne hb] at e
    cases e
section
variable {P : Program} {w : World} {K : PySem.W.Frag} {mg : Str → Option Value} {base : Heap} {f : Addr} {fd : FuncData}

/-! ### weighed -/
-- slots: 0 line*, 1 code, 2 many, 3 found, 4 row*, 5 word, 6 weight
abbrev s_weighed : Stmt := topS 60
theorem sc_weighed : FnScope ["line", "code", "many", "found", "row", "word", "weight"] ["line", "code"] (C8.fnScope s_weighed) := C8.fnScope_by (by decide +kernel)
def sp_weighed : Sp := fun vs H Q _ => ∃ v u L wide c long, vs = [v, u] ∧ Line H v L ∧ LineOk L wide ∧ Code H u c ∧ CodeOk L.2.length c long ∧ ∀ r H', Same H H' → Told H' r (toldF L.2 c wide long, lowF' L c long) → Q r H'
theorem cal_weighed (D : C8.Def K mg "weighed" s_weighed f fd) (df : fd.defaults = .none) (T : Tx K mg) (c_heard_rows : C8.Cal P w K mg base 1 "heard_rows" sp_heard_rows []) (c_times : C8.Cal P w K mg base 2 "times" (sp_times K) []) (c_chance_of : C8.Cal P w K mg base 3 "chance_of" sp_chance_of [])
    (c_low_of : C8.Cal P w K mg base 1 "low_of" sp_low_of []) : C8.Cal P w K mg base 4 "weighed" sp_weighed [] := by
  refine C8.cal0 D (D.fn.binds df (ps := ["line", "code"]) fun _ _ _ _ _ _ us hl => match us, hl with | [_, _], _ => rfl) .nil sc_weighed (fun vs H Q E h => ?_) (fun cdv A outer s H vs Q E hr h => ?_)
  · obtain ⟨v, u, L, wide, c, long, rfl, _⟩ := h
    rfl
  · obtain ⟨v, u, L, wide, c, long, rfl, hv, ok, hu, okc, k⟩ := h
    obtain ⟨d, ys, d0, b0, e0, rfl, hd, hpc, hx0, hd0, hb0, hl0⟩ := cd_first hu okc
    have hyl := paired_len hpc
    have l2 := okc.l2
    have n2 := okc.n2
    refine ⟨_, (pss_cons (ps_set (i := 2) sc_weighed.nd rfl (.inl rfl) (pe_callB call_len_seq (by rfl) T.len_ (by decide +kernel) (pa_cons (pe_ix ixA (pe_ix ixA (pv 1) pe_int (fun _ _ => rfl)) pe_int (fun _ _ => rfl)) pa_nil)))
      (pss_cons (ps_set (i := 3) sc_weighed.nd rfl (.inl rfl) (pe_lst pa_nil))
      (pss_cons (ps_for PassesOwn.never rfl (pi_seq (C8.pe_c c_heard_rows hr (by decide) (by rfl) (pa_cons (pv 0) (pa_cons (pv 2) pa_nil)))) (pg_name (i := 4) sc_weighed.nd rfl (.inr rfl))
        (pss_one (ps_expr (pe_bm PySem.F.plainAttrs_list PySem.F.slot_list_append PySem.F.type_list_append mt_append (pv 3) (pa_cons (pe_lc (own := [("word", 5), ("weight", 6)]) (by rfl) sc_weighed.nd (pi_seq (pv 1)) (blkOk_by (N := ["line", "code", "many", "found", "row", "word", "weight"]) (sc := C8.fnScope s_weighed) (by decide +kernel)) (fun _ _ _ _ _ => (pg_tupB (n := 2) (K := K) rfl rfl (pgs_cons (pg_name (i := 5) sc_weighed.nd rfl (.inl rfl)) (pgs_cons (pg_name (i := 6) sc_weighed.nd rfl (.inl rfl)) pgs_nil)))) (fun _ _ _ _ _ => pts_nil) (fun _ _ _ _ _ => (C8.pe_c c_times hr (by decide) (by rfl) (pa_cons (pe_tup (pa_cons (pv 6) pa_nil)) (pa_cons (C8.pe_c c_chance_of hr (by decide) (by rfl) (pa_cons (pv 0) (pa_cons (pv 5) (pa_cons (pv 4) pa_nil)))) pa_nil))))) pa_nil)))))
      (pss_one (ps_ret (pe_tup (pa_cons (pv 3) (pa_cons (pe_op op_mul (C8.pe_c c_low_of hr (by decide) (by rfl) (pa_cons (pv 0) (pa_cons (pv 2) pa_nil))) (pe_callB (cr_sum rfl) (by rfl) T.sum_ (by decide +kernel) (pa_cons (pe_lc (own := [("word", 5), ("weight", 6)]) (by rfl) sc_weighed.nd (pi_seq (pv 1)) (blkOk_by (N := ["line", "code", "many", "found", "row", "word", "weight"]) (sc := C8.fnScope s_weighed) (by decide +kernel)) (fun _ _ _ _ _ => (pg_tupB (n := 2) (K := K) rfl rfl (pgs_cons (pg_name (i := 5) sc_weighed.nd rfl (.inl rfl)) (pgs_cons (pg_name (i := 6) sc_weighed.nd rfl (.inl rfl)) pgs_nil)))) (fun _ _ _ _ _ => pts_nil) (fun _ _ _ _ _ => (pv 6))) pa_nil))) pa_nil)))))))), ?_⟩
    refine ⟨_, rfl, .inr ⟨d, _, 0, _, rfl, rfl, sqt hd, atI_nat (j := 0) hx0, .inr ⟨d0, _, 0, _, rfl, rfl, sqt hd0, atI_nat (j := 0) rfl, b0, _, rfl, .inr (sqt hb0), ?_⟩⟩⟩
    rw [List.length_map, hl0]
    refine ⟨Nat.zero_le _, fun l0 nl0 => ?_⟩
    have s0 := same_new (o := .lst []) nl0
    refine ⟨_, rfl, _, rfl, _, L, wide, long, rfl, keep s0 hv, ok, l2, fun r H1 s1 hr1 => ?_⟩
    obtain ⟨l1, zs, rfl, hl1, hpz⟩ := hr1
    have hzl := paired_len hpz
    rw [rowsL_len] at hzl
    have h27 : wide ^ long ≤ 3 ^ 3 := Nat.le_trans (Nat.pow_le_pow_left ok.wide2 _) (Nat.pow_le_pow_right (by decide) l2)
    have hl01 : H1 l0 = some (.lst []) := s1 _ _ upd_same
    have w1 := ok.wide1
    have hpos : 0 < wide ^ long := Nat.pow_pos (by omega)
    have ne10 : l1 ≠ l0 := fun e => by
      rw [e, hl01] at hl1
      have := HO.lst.inj (Option.some.inj hl1)
      rw [← this] at hzl
      simp at hzl
      omega
    have hlen : (toldF L.2 c wide long).length = wide ^ long := (told_ok ok okc).1
    refine for_seq (H0 := upd (fun _ => none) l1 (.lst zs)) (.inl (sql upd_same)) (fun i σ' H' => Same H H' ∧ (∀ b o, b ≠ l0 → H1 b = some o → H' b = some o) ∧ ∃ x4 acc, σ' = [some v, some (.ref d), some (.int (long : Int)), some (.ref l0), x4, none, none] ∧ H' l0 = some (.lst acc) ∧ Paired (fun y z => Lst Poly H' y z ∧ y ≠ .ref l0) acc ((toldF L.2 c wide long).take i) ∧ acc.length = i) (fun _ _ _ h => same_one (h.2.1 _ _ ne10 hl1)) ⟨s0.trans s1, fun b o _ e => e, none, [], rfl, hl01, .nil, rfl⟩ ?_ ?_
    · rintro i x σ' H' hx ⟨sm, km, x4, acc, rfl, hl0', hpa, hal⟩
      obtain ⟨row, hrow, hpx⟩ := paired_get' hpz hx
      have hrok := rowsL_ok wide long row (List.mem_of_getElem? hrow)
      have hpx' : Poly H' x row := keepM hl01 km hpx
      have hi : i < zs.length := (List.getElem?_eq_some_iff.mp hx).1
      refine ⟨_, rfl, .inl ⟨rfl, _, sql hl0'⟩, _, rfl, lc_mapSN (r := Poly) (.inr (sqt (sm _ _ hd))) (by omega) (fun j => timesL [(c.getD j ([], 0)).2] (chF L.2 (c.getD j ([], 0)).1 row)) (fun j y H2 hy s2 C hC => ?_) fun l2 H2 nl2 s2 hv2 => ?_⟩
      · obtain ⟨e, he, hpe⟩ := paired_get' hpc hy
        obtain ⟨g, q, rfl, hg, hq⟩ := pr_at hpe
        have sA := sm.trans s2
        obtain ⟨hw, hwt1, hwt2⟩ := okc.words e (List.mem_of_getElem? he)
        have hge : c.getD j ([], 0) = e := by rw [List.getD_eq_getElem?_getD, he]; rfl
        rw [hge] at hC
        refine ⟨g, _, rfl, sqt (sA _ _ hg), rfl, _, _, rfl, _, _, rfl, rfl, ?_⟩
        refine ⟨rfl, _, rfl, by show 1 ≤ sizeLine; decide, fun t nt => ?_⟩
        have s3 := same_new (o := .tup [V.int e.2]) nt
        refine ⟨_, rfl, _, rfl, _, rfl, _, _, _, L, wide, long, e.1, row, rfl, keep (sA.trans s3) hv, ok, poly_of ((sA.trans s3) _ _ hq), keep (s2.trans s3) hpx', hw, hrok, l2, fun r H3 s4 hr3 => ?_⟩
        obtain ⟨b1, b2⟩ := chF_bound ok hw hrok l2
        refine ⟨_, _, [e.2], chF L.2 e.1 row, rfl, zs_poly (poly_of (s4 _ _ upd_same)), zs_poly hr3, by simp, by omega, fun z hz => ?_, fun r2 H4 s5 hr4 => hC _ _ (s3.trans (s4.trans s5)) hr4⟩
        have ez : z = e.2 := by simpa using hz
        exact sm_of (n := 3) (by omega)
      · have hne : V.ref l2 ≠ V.ref l0 := fun e => by
          rw [V.ref.inj e, hl0'] at nl2
          cases nl2
        have hl2' := s2 _ _ hl0'
        have hrw : (List.range ys.length).map (fun j => timesL [(c.getD j ([], 0)).2] (chF L.2 (c.getD j ([], 0)).1 row)) = c.map fun e => timesL [e.2] (chF L.2 e.1 row) := by
          rw [hyl]
          exact range_map_get c ([], 0) fun e => timesL [e.2] (chF L.2 e.1 row)
        rw [hrw] at hv2
        have hti : (toldF L.2 c wide long)[i]? = some (c.map fun e => timesL [e.2] (chF L.2 e.1 row)) := by
          unfold toldF
          rw [List.getElem?_map, hrow]
          rfl
        refine ⟨l0, acc, _, rfl, rfl, hl2', line_lt (by omega), same_mut (sm.trans s2) nl0, fun b o hb e => ?_, _, _, rfl, upd_same, ?_, by rw [List.length_append, hal]; rfl⟩
        · rw [upd_ne hb]
          exact s2 _ _ (km b o hb e)
        · rw [List.take_add_one, hti]
          exact paired_app (paired_map hpa fun u z q => ⟨lstpoly_upd (keep s2 q.1) q.2 hl2', q.2⟩) (.cons ⟨lstpoly_upd hv2 hne hl2', hne⟩ .nil)
    · rintro σ' H' ⟨sm, km, x4, acc, rfl, hl0', hpa, hal⟩
      rw [List.take_of_length_le (by omega)] at hpa
      refine ⟨_, rfl, _, rfl, _, rfl, _, L, wide, long, rfl, keep sm hv, ok, by omega, ?_⟩
      refine ⟨_, rfl, lc_mapS (r := rI_) (.inr (sqt (sm _ _ hd))) (by omega) (fun j => (c.getD j ([], 0)).2) (fun j y H2 hy s2 C hC => ?_) fun l2 H2 s2 hv2 => ?_⟩
      · obtain ⟨e, he, hpe⟩ := paired_get' hpc hy
        obtain ⟨g, q, rfl, hg, hq⟩ := pr_at hpe
        have sA := sm.trans s2
        have hge : c.getD j ([], 0) = e := by rw [List.getD_eq_getElem?_getD, he]; rfl
        rw [hge] at hC
        refine ⟨g, _, rfl, sqt (sA _ _ hg), rfl, _, _, rfl, _, _, rfl, rfl, ?_⟩
        exact ⟨rfl, _, rfl, hC _ _ (Same.refl _) rfl⟩
      · rw [hyl, range_map_get c ([], 0) (fun e => e.2)] at hv2
        have hl2 := lst_ref hv2
        obtain ⟨q1, q2⟩ := low_small ok okc.l2
        refine ⟨l2, _, rfl, sql hl2, _, _, rfl, rfl, .inl (sm_of (n := 64) (by omega)), by show 2 ≤ sizeLine; decide, fun t nt => ?_⟩
        have s3 := same_new (o := .tup [.ref l0, .int (lowF' L c long)]) nt
        refine k _ _ (sm.trans (s2.trans s3)) ⟨t, _, _, rfl, upd_same, ?_, rfl⟩
        exact keep (s2.trans s3) ⟨l0, acc, rfl, hl0', paired_map hpa fun u z q => q.1⟩

/-! ### right -/
-- slots: 0 line, 1 code, 2 reader, 3 told, 4 low
abbrev s_right : Stmt := topS 64
theorem sc_right : FnScope ["line", "code", "reader", "told", "low"] ["line", "code", "reader"] (C8.fnScope s_right) := C8.fnScope_by (by decide +kernel)
def sp_right : Sp := fun vs H Q _ => ∃ v u x L wide c long rd, vs = [v, u, x] ∧ Line H v L ∧ LineOk L wide ∧ Code H u c ∧ CodeOk L.2.length c long ∧ Poly H x rd ∧ rd.length = wide ^ long ∧ (∀ y ∈ rd, 0 ≤ y ∧ y < (c.length : Int)) ∧
  ∀ r H', Same H H' → PolyBy H' r (rightF (toldF L.2 c wide long) (lowF' L c long) rd) → Q r H'
theorem cal_right (D : C8.Def K mg "right" s_right f fd) (df : fd.defaults = .none) (T : Tx K mg) (c_need_both : C8.Cal P w K mg base 9 "need_both" sp_need_both []) (c_need_reader : C8.Cal P w K mg base 2 "need_reader" sp_need_reader []) (c_weighed : C8.Cal P w K mg base 4 "weighed" sp_weighed [])
    (c_right_of : C8.Cal P w K mg base 3 "right_of" sp_right_of []) : C8.Cal P w K mg base 10 "right" sp_right [] := by
  refine C8.cal0 D (D.fn.binds df (ps := ["line", "code", "reader"]) fun _ _ _ _ _ _ us hl => match us, hl with | [_, _, _], _ => rfl) .nil sc_right (fun vs H Q E h => ?_) (fun cdv A outer s H vs Q E hr h => ?_)
  · obtain ⟨v, u, x, L, wide, c, long, rd, rfl, _⟩ := h
    rfl
  · obtain ⟨v, u, x, L, wide, c, long, rd, rfl, hv, ok, hu, okc, hx, hrl, hrd, k⟩ := h
    refine ⟨_, (pss_cons (ps_expr (C8.pe_c c_need_both hr (by decide) (by rfl) (pa_cons (pv 0) (pa_cons (pv 1) pa_nil))))
      (pss_cons (ps_expr (C8.pe_c c_need_reader hr (by decide) (by rfl) (pa_cons (pv 0) (pa_cons (pv 1) (pa_cons (pv 2) pa_nil)))))
      (pss_cons (ps_asg (C8.pe_c c_weighed hr (by decide) (by rfl) (pa_cons (pv 0) (pa_cons (pv 1) pa_nil))) (pg_tup rfl (pgs_cons (pg_name (i := 3) sc_right.nd rfl (.inl rfl)) (pgs_cons (pg_name (i := 4) sc_right.nd rfl (.inl rfl)) pgs_nil))))
      (pss_one (ps_ret (C8.pe_c c_right_of hr (by decide) (by rfl) (pa_cons (pv 3) (pa_cons (pv 4) (pa_cons (pv 2) pa_nil))))))))), ?_⟩
    refine ⟨_, rfl, _, rfl, _, _, L, wide, c, long, rfl, hv, ok, hu, okc, fun H1 s1 => ?_⟩
    refine ⟨_, rfl, _, rfl, _, rfl, _, _, _, L, wide, c, long, rd, rfl, keep s1 hv, ok, keep s1 hu, okc, keep s1 hx, hrl, hrd, fun H2 s2 => ?_⟩
    have sA := s1.trans s2
    refine ⟨_, rfl, _, rfl, _, _, L, wide, c, long, rfl, keep sA hv, ok, keep sA hu, okc, fun r H3 s3 hr3 => ?_⟩
    obtain ⟨a, y, z, rfl, ha, hy, hz⟩ := hr3
    have ez : z = .int (lowF' L c long) := hz
    subst ez
    refine ⟨a, _, rfl, sqt ha, rfl, _, _, rfl, _, _, rfl, rfl, ?_⟩
    obtain ⟨t1, t2⟩ := told_ok ok okc
    obtain ⟨q1, q2⟩ := low_all ok okc
    have h27 : wide ^ long ≤ 3 ^ 3 := Nat.le_trans (Nat.pow_le_pow_left ok.wide2 _) (Nat.pow_le_pow_right (by decide) okc.l2)
    exact ⟨_, rfl, _, rfl, _, rfl, _, _, _, _, rd, rfl, hy, keep (sA.trans s3) hx, by rw [hrl, t1], by show (toldF L.2 c wide long).length ≤ 100; omega, fun so hso p hp => by have := ((t2 so hso).2 p hp).1; omega, told_zip ok okc hrd, q1, sm_of (n := 768) (by omega), fun r4 H4 s4 hr4 => k _ _ (sA.trans (s3.trans s4)) hr4⟩
end
end EN
/-! The function that signs_at gives: a lambda with one parameter and one captured name. -/
namespace EN
open PySem PySem.Spec PyProof.Rows L2 LamX
-- slots: 0 share*
abbrev s_signs_at : Stmt := topS 69
theorem sc_signs_at : FnScope ["share"] ["share"] (C8.fnScope s_signs_at) := C8.fnScope_by (by decide +kernel)
def lamExpr : Expr := match C8.fnBody s_signs_at with
  | [.Return (some e) _] => e
  | _ => .Constant .none 0 ⟨0, 0, 0, 0⟩
def lamA : Arguments := match lamExpr with
  | .Lambda (args := a) .. => a
  | _ => ⟨[], [], none, [], [], none, []⟩
def lamB : Expr := match lamExpr with
  | .Lambda (body := b) .. => b
  | _ => .Constant .none 0 ⟨0, 0, 0, 0⟩
def lamS : Scope := match lamExpr with
  | .Lambda (scope := s) .. => s
  | _ => ⟨.function, [], false, false, []⟩
def lamPos : Pos := match lamExpr with
  | .Lambda (pos := p) .. => p
  | _ => ⟨0, 0, 0, 0⟩
def retPos : Pos := match C8.fnBody s_signs_at with
  | [.Return _ p] => p
  | _ => ⟨0, 0, 0, 0⟩
theorem lam_eq : C8.fnBody s_signs_at = [.Return (some (.Lambda lamA lamB lamS lamPos)) retPos] := rfl
def lamQ : Str := ("signs_at" : Str) ++ ".<locals>." ++ "<lambda>"
abbrev lamObj (c' cell : Addr) (pm ctv : Value) : Obj := PySem.W.kla_obj "<lambda>" lamQ lamA lamB lamS [("share", cell)] pm c' ctv
def LamO (f c' cell : Addr) : HO := .ext fun h => ∃ pm ctv, h.get? f = some (lamObj c' cell pm ctv)
def CelO (c : Addr) (v : V) : HO := .ext fun h => ∃ u, RelV v u ∧ h.IsCell c (some u)
/-- v: the function that tells signs at t / l -/
def Tell (H : Hp) (v : V) (t l : Int) : Prop := ∃ f c' cell sv, v = .ref f ∧ H f = some (LamO f c' cell) ∧ H c' = some (CodeO c' lamQ) ∧ H cell = some (CelO cell sv) ∧ Frac H sv (t, l)
theorem tell_keep {H H' : Hp} {v : V} {t l : Int} (s : Same H H') (h : Tell H v t l) : Tell H' v t l := by
  obtain ⟨f, c', cell, sv, e, h1, h2, h3, h4⟩ := h
  exact ⟨f, c', cell, sv, e, s _ _ h1, s _ _ h2, s _ _ h3, keep s h4⟩
theorem celO_own {c a : Addr} {v : V} : CelO c v ≠ .own a := fun z => by
  unfold CelO at z
  cases z
theorem celO_tup {c : Addr} {v : V} {xs : List V} : CelO c v ≠ .tup xs := fun z => by
  unfold CelO at z
  cases z
theorem celO_frz {c : Addr} {v : V} {o : Obj} {u : HO} : CelO c v ≠ .frz o u := fun z => by
  unfold CelO at z
  cases z
theorem celO_tbl {c : Addr} {v : V} {ps : Array Value} : CelO c v ≠ .tbl ps := fun z => by
  unfold CelO at z
  cases z
theorem celO_ok {P : Program} {w : World} {H : Hp} {h : Heap} {c : Addr} {v : V} {u : Value} (r : RelV v u) (hc : h.IsCell c (some u)) : ObjOk P w H h c (CelO c v) := by
  obtain ⟨o, ho, hd⟩ := id hc
  exact ⟨⟨u, r, hc⟩, ⟨o, ho⟩, fun h1 h2 ⟨u', r', o', e1, e2⟩ k => ⟨u', r', o', k _ e1, e2⟩⟩
/-- an untracked cell is tracked from now on -/
theorem hok_cell {P : Program} {w : World} {H : Hp} {h : Heap} {c : Addr} {v : V} {u : Value} (hok : HOk P w H h) (hn : H c = none) (r : RelV v u) (hc : h.IsCell c (some u)) : HOk P w (upd H c (CelO c v)) h := fun b o e => by
  by_cases hb : b = c
  · subst hb
    rw [upd_same] at e
    cases e
    exact celO_ok r hc
  · rw [upd_ne hb] at e
    exact (hok b o e).stay (fun d v hd q => q) (fun d q => by rw [upd_ne (ne_of_none q hn)]; exact q) fun d xs q => by rw [upd_ne (ne_of_none q hn)]; exact q
/-- a tracked cell is hidden -/
def hide (H : Hp) (c : Addr) : Hp := fun b => if b = c then none else H b
theorem hide_ne {H : Hp} {c b : Addr} (h : b ≠ c) : hide H c b = H b := by unfold hide; rw [if_neg h]
theorem hide_same {H : Hp} {c : Addr} : hide H c c = none := by unfold hide; rw [if_pos rfl]
theorem hide_some {H : Hp} {c b : Addr} {o : HO} (h : hide H c b = some o) : b ≠ c ∧ H b = some o := by
  by_cases e : b = c
  · rw [e, hide_same] at h
    cases h
  · rw [hide_ne e] at h
    exact ⟨e, h⟩
theorem hok_hide {P : Program} {w : World} {H : Hp} {h : Heap} {c : Addr} {v : V} (hok : HOk P w H h) (hc : H c = some (CelO c v)) : HOk P w (hide H c) h := fun b o e => by
  obtain ⟨hb, e⟩ := hide_some e
  refine (hok b o e).stay (fun d v hd q => q) (fun d q => ?_) fun d xs q => ?_
  · rw [hide_ne (ne_of q hc fun z => celO_own z.symm)]
    exact q
  · rw [hide_ne (ne_of q hc fun z => celO_tup z.symm)]
    exact q
theorem hide_shown {H : Hp} {c : Addr} {o : HO} (h : H c = some o) : upd (hide H c) c o = H := by
  funext b
  by_cases e : b = c
  · rw [e, upd_same, h]
  · rw [upd_ne e, hide_ne e]
abbrev lamF (c' cell : Addr) : NdefX.NF := ⟨"<lambda>", lamQ, lamA, [], lamS, [("share", cell)], c'⟩
theorem lam_sc : NdefX.NScope ["one", "share"] ["one"] ["share"] lamS := NdefX.nscope_by (by decide +kernel)
section
variable {P : Program} {w : World} {K : PySem.W.Frag} {mg : Str → Option Value} {base : Heap}
theorem tell_run (c_sign_at : C8.Cal P w K mg base 4 "sign_at" sp_sign_at []) {A : Around} {outer : List Env} {s : Shared} {H : Hp} {f c' cell : Addr} {sv v : V} {t l : Int} {p : List Int} {u : Value} {Q : VK} (hr : Room 5 A) (e0 : Env0 P w K mg base A outer s H)
    (hf : H f = some (LamO f c' cell)) (hc : H c' = some (CodeO c' lamQ)) (hcell : H cell = some (CelO cell sv)) (hsv : Frac H sv (t, l)) (r : RelV v u) (hv : Poly H v p) (ok : okV p t l = true) (q : ∀ H', Same H H' → Q (.int (signAtF p t l)) H') :
    codeAny (model P w) A (.call (.ref f) ⟨[u], []⟩) (CR C8.CX0 outer P w H s Q C8.E0) s := by
  have hne : ∀ {b : Addr} {o : HO}, H b = some o → o ≠ CelO cell sv → b ≠ cell := fun e n => ne_of e hcell n
  have e1 : Env0 P w K mg base A outer s (hide H cell) := ⟨e0.frames, e0.mod, fun b o e => by
      obtain ⟨h1, h2⟩ := e0.bs b o e
      refine ⟨h1, ?_⟩
      by_cases hb : b = cell
      · rw [hb, hide_same]
      · rw [hide_ne hb]; exact h2, e0.bsz, e0.funs, fun b hb => by
      by_cases hb2 : b = cell
      · rw [hb2, hide_same]
      · rw [hide_ne hb2]; exact e0.frf b hb, hok_hide e0.hok hcell, e0.bare⟩
  have s0 : ∀ {b : Addr} {o : HO}, H b = some o → o ≠ CelO cell sv → hide H cell b = some o := fun e n => by rw [hide_ne (hne e n)]; exact e
  have hv0 : Poly (hide H cell) v p := by
    obtain ⟨a, rfl, ha⟩ := poly_at hv
    exact poly_of (s0 ha fun z => celO_tup z.symm)
  have hsv0 : Frac (hide H cell) sv (t, l) := by
    obtain ⟨a, rfl, ha⟩ := frac_at hsv
    exact frac_of (s0 ha fun z => celO_tup z.symm)
  obtain ⟨⟨pm, ctv, of1⟩, _, _⟩ := (show ObjOk P w H s.heap f (LamO f c' cell) from e0.hok f _ hf)
  obtain ⟨⟨uc, rc, hcl⟩, _, _⟩ := (show ObjOk P w H s.heap cell (CelO cell sv) from e0.hok cell _ hcell)
  have lim : s.heap.NoLimit := e0.mod.nolimit.keeps fun b o e => (e0.bs b o e).1
  refine PySem.W.kla_callFunE hr.depth of1 rfl lam_sc.co lam_sc.gen rfl (NdefX.codeO_at e0.hok hc) ?_
  have hbind : bindArgs (PySem.W.kla_fn "<lambda>" lamQ lamA lamB lamS [("share", cell)] pm (.ref c') ctv) ⟨[u], []⟩ = (pure [(("one" : Str), u)] : Sem (List (Str × Value))) := by rfl
  rw [hbind]
  refine wpAny_pure (wpAny_newFunctionEnv (fun y hy => lam_sc.nocell y hy) (fun y hy => ?_) (fun h₁ hns hsb => ⟨lim.fresh _ hsb, ?_⟩) lam_sc.kind)
  · have e : y = (("one" : Str), u) := by simpa using hy
    subst e
    exact lam_sc.par "one" (by simp)
  show codeAny _ _ (.expr lamB (NdefX.envF (lamF c' cell) f s.heap.objs.size)) _ _
  have kp : ∀ b o, s.heap.get? b = some o → h₁.get? b = some o := fun b o e => hsb.extBut b o (Nat.ne_of_lt (Heap.lt_size e)) (Heap.get?_push_of_some _ e)
  have C : NdefX.CellsAt (lamF c' cell).cl ["share"] [some sv] s.heap (hide H cell) := by
    have look : ∀ y c, (lamF c' cell).cl.lookup y = some c → y = "share" ∧ c = cell := fun y c e => by
      have e' : List.lookup y [(("share" : Str), cell)] = some c := e
      rw [List.lookup_cons] at e'
      by_cases hy : y == ("share" : Str)
      · rw [hy] at e'
        exact ⟨eq_of_beq hy, (Option.some.inj e').symm⟩
      · rw [Bool.not_eq_true] at hy
        rw [hy] at e'
        cases e'
    refine ⟨rfl, fun y c e => ?_, fun x y c e1 e2 => ?_, fun i y e => ?_⟩
    · obtain ⟨_, rfl⟩ := look y c e
      exact ⟨hide_same, _, hcl⟩
    · rw [(look x c e1).1, (look y c e2).1]
    · cases i with
      | zero =>
        have ey : y = "share" := (Option.some.inj e).symm
        subst ey
        exact ⟨cell, rfl, fun v ev => by
          have e2 : v = sv := (Option.some.inj (Option.some.inj ev)).symm
          subst e2
          exact ⟨uc, rc, hcl⟩⟩
      | succ i => simp at e
  have J : Inv (NdefX.ncx C8.CX0 P w K mg base ["one", "share"] (lamF c' cell) f A outer s (hide H cell) C8.E0) [] (NdefX.startF ["one", "share"] [v] [some sv]) (hide H cell) { s with heap := h₁, toks := s.toks + ([("one", u)] : List (Str × Value)).length } :=
    NdefX.inv_startN (us := [u]) lam_sc hr.hd e1 rfl (.cons r .nil) C hns kp
  have hrX : Room 4 (A.deeper (NdefX.envF (lamF c' cell) f s.heap.objs.size)) := hr.deeper _
  have hbody : PE (NdefX.ncx C8.CX0 P w K mg base ["one", "share"] (lamF c' cell) f A outer s (hide H cell) C8.E0) lamB (tCall sp_sign_at [] C8.E0 (tCons (tVar 0) (tCons (tVar 1) tNil))) :=
    C8.pe_c c_sign_at hrX (by decide) (by rfl) (pa_cons (pv 0) (pa_cons (pv 1) pa_nil))
  refine PySem.W.kla_codeExpr (wpAny_mono (hbody.run [] _ _ (hide H cell) (fun v' H' => Same (hide H cell) H' ∧ v' = .int (signAtF p t l)) J ⟨v, rfl, sv, rfl, v, sv, p, t, l, rfl, hv0, hsv0, ok, fun H' sH => ⟨sH, rfl⟩⟩) (fun v' s' hq => ?_) fun e s' hq => hq)
  obtain ⟨x, H', J', rv, sH, rfl⟩ := hq
  have hcl' : s'.heap.IsCell cell (some uc) := by
    obtain ⟨o, ho, hd⟩ := hcl
    refine ⟨o, J'.base.keep cell o ho hide_same (fun z => ?_) (by intro z; exact absurd (show cell ∈ ([] : List Addr) from z) (by simp)), hd⟩
    have := e0.frf cell z
    rw [hcell] at this
    cases this
  have hn' : H' cell = none := by
    obtain ⟨o, ho, hd⟩ := hcl
    exact J'.base.free cell o ho hide_same (by intro z; exact absurd (show cell ∈ ([] : List Addr) from z) (by simp))
  have sF : Same H (upd H' cell (CelO cell sv)) := fun b o e => by
    by_cases hb : b = cell
    · rw [hb, upd_same]
      rw [hb, hcell] at e
      exact e
    · rw [upd_ne hb]
      exact sH b o (by rw [hide_ne hb]; exact e)
  have B := J'.base
  refine ⟨_, upd H' cell (CelO cell sv), J'.os, J'.bare, ⟨fun b o e n h1 h2 => ?_, fun b o e n h1 h2 => ?_, fun b o e n h2 => ?_, fun b o e h2 => ?_, fun b xs e => sF _ _ e, fun b o u e => sF _ _ e, fun b ps e => ⟨#[], by rw [sF _ _ e]; simp⟩⟩, hok_cell J'.hok hn' rc hcl', rv, q _ sF⟩
  · have hb : b ≠ cell := fun z => by rw [z, hcell] at n; cases n
    exact B.keep b o e (show hide H cell b = none by rw [hide_ne hb]; exact n) h1 (by intro z; exact absurd (show b ∈ ([] : List Addr) from z) (by simp))
  · have hb : b ≠ cell := fun z => by rw [z, hcell] at n; cases n
    exact B.slot b o e (show hide H cell b = none by rw [hide_ne hb]; exact n) h1 (by intro z; exact absurd (show b ∈ ([] : List Addr) from z) (by simp))
  · have hb : b ≠ cell := fun z => by rw [z, hcell] at n; cases n
    rw [upd_ne hb]
    exact B.free b o e (show hide H cell b = none by rw [hide_ne hb]; exact n) (by intro z; exact absurd (show b ∈ ([] : List Addr) from z) (by simp))
  · exact B.there b o e (by intro z; exact absurd (show b ∈ ([] : List Addr) from z) (by simp))
/-- tell(e), tell a name that holds such a function -/
def tTell (i : Nat) (t : TA) : TE := fun σ H Q => ∃ f, σ[i]? = some (some (.ref f)) ∧ (∃ tt l, Tell H (.ref f) tt l) ∧ t σ H fun vs H1 => ∃ v tt l p, vs = [v] ∧ Tell H1 (.ref f) tt l ∧ Poly H1 v p ∧ okV p tt l = true ∧ ∀ H', Same H1 H' → Q (.int (signAtF p tt l)) H'
theorem tell_at {X : Cx} {pins : List (Addr × Obj)} {σ : L2.St} {H : Hp} {s : Shared} {f : Addr} {t l : Int} (I : Inv X pins σ H s) (h : Tell H (.ref f) t l) : PySem.W.FnAt f s.heap := by
  obtain ⟨f', c', cell, sv, e, h1, _⟩ := h
  cases e
  obtain ⟨⟨pm, ctv, of1⟩, _, _⟩ := (show ObjOk X.prog X.w H s.heap f (LamO f c' cell) from I.hok f _ h1)
  exact ⟨_, _, _, _, of1⟩
theorem pe_tell {X : Cx} {i j : Nat} {x : Str} {t : TA} {e : Expr} {p pos : Pos} (c_sign_at : C8.Cal X.prog X.w X.K X.mg X.base 4 "sign_at" sp_sign_at []) (hr : Room j X.A) (hk : 5 ≤ j) (hN : X.N[i]? = some x) (hv : Vis X.env.scope x) (ha : PA X [e] t)
    (hd : (x == ("__debug__" : Str)) = false := by decide) (hcd : (x == ("__classdict__" : Str)) = false := by decide)
    (he : starEach [e] X.env = (false, eval e X.env) :: starEach [] X.env := by rfl) (hpl : (backTo pos (starEach [] X.env)).any (·.1) = false := by rfl) :
    PE X (.Call (.Name x p) [e] [] pos) (tTell i t) := by
  refine ⟨fun pins s σ H Q I h => ?_⟩
  obtain ⟨f, hs, ⟨t0, l0, hf⟩, ht⟩ := h
  refine wpAny_Call_Name_kw (thn ((pe_var (pos := p) hN hv hd hcd).run pins s σ H (fun v H1 => v = .ref f ∧ H1 = H) I ⟨.ref f, hs, rfl, rfl⟩) fun u s1 ⟨v, H1, I1, r1, q1⟩ => ?_)
  obtain ⟨ev, eH⟩ := q1
  subst ev
  rw [eH] at I1
  obtain rfl : u = Value.ref f := r1
  refine PySem.W.callWith_F (first := []) (tell_at I1 hf) (thn (ha.run pos pins s1 σ H _ I1 ht) fun us s2 ⟨vs, H2, I2, r, v, tt, l, q, ev, hT, hP, ok, k⟩ => ⟨tell_at I2 hT, ?_⟩) he hpl
  subst ev
  show wpAny _ _ (call (.ref f) us) _ _ _
  cases r with
  | cons r0 rr =>
    cases rr
    obtain ⟨f', c', cell, sv, e', h1, h2, h3, h4⟩ := hT
    cases e'
    refine wpAny_call (codeAny_mono (tell_run c_sign_at (hr.mono hk) I2.env0 h1 h2 h3 h4 r0 hP ok k) fun r s' hq => ?_)
    cases r with
    | error e => exact (C8.pass0 (X := X) (E := C8.E0)) pins σ H2 s2 e s' I2 hq
    | ok fl =>
      cases fl with
      | ret u => exact I2.after hq
      | next => exact False.elim hq
      | brk => exact False.elim hq
      | cont => exact False.elim hq

/-! ### the lambda is made -/
theorem lamO_ok {H : Hp} {h : Heap} {f c' cell : Addr} {pm ctv : Value} (e : h.get? f = some (lamObj c' cell pm ctv)) : ObjOk P w H h f (LamO f c' cell) :=
  ⟨⟨pm, ctv, e⟩, ⟨_, e⟩, fun h1 h2 ⟨p, c, z⟩ k => ⟨p, c, k _ z⟩⟩
theorem lam_make3 {X : Cx} {pins : List (Addr × Obj)} {σ : L2.St} {H : Hp} {s : Shared} {c Pt cell : Addr} {E : Value → Shared → Prop} {Q : Value → Shared → Prop} (I : Inv X pins σ H s) (TB : TabB X.base X.mg c Pt) (hcode : X.env.code = .ref c) (hq : X.env.qual ++ "<lambda>" = lamQ)
    (hT : TabS H Pt lamQ) (hcl : cloFrom X.env.cells lamS.names [] = [(("share" : Str), cell)]) (hfree : ∀ y ∈ lamS.names, y.2 = .free → ∃ c, X.env.cells.lookup y.1 = some c)
    (h : ∀ (f c' : Addr) (H1 : Hp) (s' : Shared), Inv X pins σ H1 s' → ExtN H H1 → TabS H1 Pt lamQ → H1 f = some (LamO f c' cell) → H1 c' = some (CodeO c' lamQ) → Q (.ref f) s') :
    wpAny (model X.prog X.w) X.A (eval (.Lambda lamA lamB lamS lamPos) X.env) Q E s := by
  obtain ⟨ps, hP, ht, ha⟩ := hT
  refine PySem.W.kla_eval rfl ?_
  rw [hq]
  have bP : s.heap.BuiltinsAt X.mg Pt := TB.bm.keeps I.bk
  have hP' : s.heap.get? Pt = some { cls := .none, data := .fields ps } := I.hok Pt _ hP
  cases hc : codeAmong lamPos ps.toList with
  | none =>
    refine PySem.W.kla_makeFunction (mg := X.mg) (c := c) (P := Pt) (ps := ps) (closure_ok hfree) I.ok.glob (I.mod.glob.keeps I.bk) hcode (TB.code.keeps I.bk) hP' ht hc TB.gP bP fun c' ctv h' tk hx hge hlt hrec htb => ?_
    rw [hcl]
    obtain ⟨c2, oc, vs, t, e2, hoc, hd, hv⟩ := hrec
    cases e2
    have nC : H c' = none := I.hok.fresh hge
    have I1 := inv_table (t' := tk) (more := #[rawInt lamPos.line, rawInt lamPos.col, .ref c']) (h' := h') I hP (fun b o hb e => hx b o hb e) htb hge ⟨oc, vs, t, hoc, hd, hv⟩
    have hE : ExtN H (upd (upd H Pt (.tbl (ps ++ #[rawInt lamPos.line, rawInt lamPos.col, .ref c']))) c' (CodeO c' lamQ)) := fun b o e n => by
      rw [upd_ne (ne_of_none e nC), upd_ne (fun z => n ps (Option.some.inj (e.symm.trans (by rw [z]; exact hP))))]
      exact e
    have eL : (ps ++ #[rawInt lamPos.line, rawInt lamPos.col, .ref c']).toList = ps.toList ++ [rawInt lamPos.line, rawInt lamPos.col, .ref c'] := by simp
    have T1 : TabS (upd (upd H Pt (.tbl (ps ++ #[rawInt lamPos.line, rawInt lamPos.col, .ref c']))) c' (CodeO c' lamQ)) Pt lamQ := by
      refine ⟨_, by rw [upd_ne (ne_of_none hP nC), upd_same], by rw [eL]; exact PySem.TriplesOk_snoc _ _ _ _ ht, fun p' cv hcv => ?_⟩
      rw [eL] at hcv
      rcases among_app _ ht hcv with z | z
      · obtain ⟨c0, e1, e2⟩ := ha p' cv z
        exact ⟨c0, e1, hE _ _ e2 codeO_ne⟩
      · exact ⟨c', z, upd_same⟩
    have nF := I1.hok.fresh (Nat.le_refl _)
    have I2 := I1.laid (t' := tk) (h' := h'.push (lamObj c' cell ((X.mg "__name__").getD .none) ctv)) (a := h'.objs.size) (o := LamO h'.objs.size c' cell) (fun b u e => Heap.get?_push_of_some _ e) (Nat.le_refl _) (lamO_ok (Heap.get?_push_size _ rfl))
    refine h h'.objs.size c' _ _ I2 (fun b o e n => ?_) (T1.ext fun b o e => ?_) upd_same ?_
    · have e1 := hE b o e n
      exact (upd_ne (ne_of_none e1 nF)).trans e1
    · exact (upd_ne (ne_of_none e nF)).trans e
    · exact (upd_ne (Nat.ne_of_lt hlt)).trans upd_same
  | some cv =>
    obtain ⟨c', e, hco⟩ := ha lamPos cv hc
    subst e
    refine PySem.W.kla_makeFunctionHit (mg := X.mg) (c := c) (P := Pt) (ps := ps) (closure_ok hfree) I.ok.glob (I.mod.glob.keeps I.bk) hcode (TB.code.keeps I.bk) hP' ht hc bP fun ctv h' tk hx hsz => ?_
    rw [hcl]
    have I1 : Inv X pins σ H { s with heap := h', toks := tk } := I.kept hx
    have nF : H h'.objs.size = none := I1.hok.fresh (Nat.le_refl _)
    have I2 := I1.laid (t' := tk) (h' := h'.push (lamObj c' cell ((X.mg "__name__").getD .none) ctv)) (a := h'.objs.size) (o := LamO h'.objs.size c' cell) (fun b u e => Heap.get?_push_of_some _ e) (Nat.le_refl _) (lamO_ok (Heap.get?_push_size _ rfl))
    refine h h'.objs.size c' _ _ I2 (fun b o e n => ?_) (TabS.ext ⟨ps, hP, ht, ha⟩ fun b o e => ?_) upd_same ?_
    · exact (upd_ne (ne_of_none e nF)).trans e
    · exact (upd_ne (ne_of_none e nF)).trans e
    · exact (upd_ne (ne_of_none hco nF)).trans hco

/-! ### signs_at -/
def sp_signs_at (Pt : Addr) : Sp := fun vs H Q _ => ∃ v t l, vs = [v] ∧ Frac H v (t, l) ∧ TabS H Pt lamQ ∧ ∀ r H', ExtN H H' → TabS H' Pt lamQ → Tell H' r t l → Q r H'
theorem cal_signs_at {f : Addr} {fd : FuncData} {c Pt : Addr} (D : C8.Def K mg "signs_at" s_signs_at f fd) (df : fd.defaults = .none) (hcode : fd.code = .ref c) (TB : TabB base mg c Pt) : C8.Cal P w K mg base 1 "signs_at" (sp_signs_at Pt) [] := by
  refine ⟨f, fd, ["share"], [], ?_, D.mgf, D.kp, (D.fn.binds df (ps := ["share"]) fun _ _ _ _ _ _ us hl => match us, hl with | [_], _ => rfl), .nil⟩
  obtain ⟨oc, od, dV, kV, doc, pm, an, cdv, ct, osl, rfl, lk, hcd⟩ := D.fn.ex
  have ecd : cdv = .ref c := hcode
  subst ecd
  have S := sc_signs_at
  have len : ∀ vs H Q E, sp_signs_at Pt vs H Q E → vs.length = (["share"] : List Str).length := fun vs H Q E h => by
    obtain ⟨v, t, l, rfl, _⟩ := h
    rfl
  refine ⟨len, fun A outer s H args us vs Q E hr e0 hb r hsp => ?_⟩
  have hl := len _ _ _ _ hsp
  obtain ⟨v, t, l, rfl, hv, hT, k⟩ := hsp
  have KX : K.In s.heap := e0.mod.kin.keeps fun b o e => (e0.bs b o e).1
  have lim : s.heap.NoLimit := e0.mod.nolimit.keeps fun b o e => (e0.bs b o e).1
  have hkind : ∀ y ∈ (["share"] : List Str).zip us, (C8.fnScope s_signs_at).names.lookup y.1 = some .local ∨ ((C8.fnScope s_signs_at).names.lookup y.1 = some .cell ∧ ((cellsFrom (s.heap.objs.size + 1) (C8.fnScope s_signs_at).names []).lookup y.1).isSome = true) := fun ⟨n, v⟩ hy => by
    rcases S.par n (List.of_mem_zip hy).1 with q | q
    · exact .inl q
    · exact .inr ⟨q, PySem.W.cellsFrom_some _ _ _ (.inl q)⟩
  refine codeAny_call_function hr.depth (KX _ _ lk) rfl S.co S.gen rfl (PySem.W.codeRec_of KX hcd) (hb _ _ _ _ ?_)
  refine wpAny_newFunctionEnv_cells S.kind hkind fun env he s1 x => ?_
  subst he
  refine ⟨lim.keeps x.toInCall.keep, codeAny_func ?_⟩
  have I : Inv (cxOf C8.CX0 P w K mg base ["share"] "signs_at" (C8.fnScope s_signs_at) f (.ref c) A outer s H E) [] (start ["share"] [v]) H s1 := inv_start S hr.hd e0 hl r x
  rw [lam_eq]
  refine wpAny_execs_cons (wpAny_Return_some (lam_make3 (Pt := Pt) (cell := s.heap.objs.size + 1) I TB rfl rfl hT rfl (fun y hy e => ?_) fun f' c' H1 s' I1 hE hT1 hf hc => ?_))
  · exact ⟨s.heap.objs.size + 1, by
      have : y = (("share" : Str), NameKind.free) := by
        have h0 : ∀ y ∈ lamS.names, y.2 = .free → y = (("share" : Str), NameKind.free) := by decide +kernel
        exact h0 y hy e
      rw [this]
      rfl⟩
  · obtain ⟨m, hn, hl'⟩ := I1.loc
    obtain ⟨uv, ruv, look⟩ := hl' 0 "share" v rfl rfl (.inr (.inl (show (C8.fnScope s_signs_at).names.lookup ("share" : Str) = some .cell by decide +kernel)))
    have hcell : s'.heap.IsCell (s.heap.objs.size + 1) (some uv) := by
      rcases look with ⟨k', _⟩ | ⟨_, c3, e3, z⟩
      · exact absurd (show (C8.fnScope s_signs_at).names.lookup ("share" : Str) = some .local from k') (by decide +kernel)
      · have e4 : some (s.heap.objs.size + 1) = some c3 := e3
        cases e4
        exact z
    have hn' : H1 (s.heap.objs.size + 1) = none := I1.freeC "share" _ rfl
    have old : ∀ {b : Addr} {o : Obj}, s.heap.get? b = some o → b ≠ s.heap.objs.size + 1 := fun e z => by
      rw [z] at e
      exact Nat.lt_irrefl _ (Nat.lt_trans (Nat.lt_succ_self _) (Heap.lt_size e))
    have oldT : ∀ {b : Addr} {o : HO}, H b = some o → b ≠ s.heap.objs.size + 1 := fun {b o} e z => by
      have := (e0.hok b o e).lt
      rw [z] at this
      exact Nat.lt_irrefl _ (Nat.lt_trans (Nat.lt_succ_self _) this)
    have s1' : ∀ b o, H1 b = some o → upd H1 (s.heap.objs.size + 1) (CelO (s.heap.objs.size + 1) v) b = some o := fun b o e => by
      rw [upd_ne (ne_of_none e hn')]
      exact e
    have B := I1.base
    have nx : ∀ b : Addr, b ∉ (cxOf C8.CX0 P w K mg base ["share"] "signs_at" (C8.fnScope s_signs_at) f (.ref c) A outer s H E).ex := fun b z => absurd (show b ∈ ([] : List Addr) from z) (by simp)
    refine ⟨.ref f', upd H1 (s.heap.objs.size + 1) (CelO (s.heap.objs.size + 1) v), I1.os, I1.bare, ⟨fun b o e n h1 h2 => B.keep b o e n h1 (nx b), fun b o e n h1 h2 => B.slot b o e n h1 (nx b), fun b o e n h2 => ?_, fun b o e h2 => B.there b o e (nx b), fun b xs e => s1' _ _ (B.tups b xs e), fun b o u e => s1' _ _ (B.frzs b o u e), fun b ps e => ?_⟩,
      hok_cell I1.hok hn' ruv hcell, rfl, k _ _ (fun b o e n => s1' _ _ (hE b o e n)) (hT1.ext s1') ⟨f', c', _, v, rfl, s1' _ _ hf, s1' _ _ hc, upd_same, ?_⟩⟩
    · rw [upd_ne (old e)]
      exact B.free b o e n (nx b)
    · obtain ⟨more, e2⟩ := B.tbls b ps e
      exact ⟨more, s1' _ _ e2⟩
    · obtain ⟨a, rfl, ha⟩ := frac_at hv
      exact frac_of (s1' _ _ (hE _ _ ha fun ps z => by cases z))
end
end EN
namespace EN
theorem rt_bound {B n : Nat} (zs : List (List (List Int) × Int)) : (∀ sa ∈ zs, (sa.1.getD sa.2.toNat []).length ≤ n ∧ Cb B (sa.1.getD sa.2.toNat [])) → (zs.foldl rtStep []).length ≤ n ∧ Cb (zs.length * B) (zs.foldl rtStep []) := by
  induction zs using snoc_ind with
  | h0 => exact fun _ => ⟨Nat.zero_le _, fun k => by rw [show (([] : List (List (List Int) × Int)).foldl rtStep []) = ([] : List Int) from rfl, coef_nil]; simp⟩
  | hs l x ih =>
    intro h
    obtain ⟨h1, h2⟩ := ih fun sa hsa => h sa (List.mem_append_left _ hsa)
    obtain ⟨h3, h4⟩ := h x (List.mem_append_right _ (by simp))
    rw [List.foldl_append]
    show (plusL _ _ 1).length ≤ n ∧ Cb _ (plusL _ _ 1)
    refine ⟨Nat.le_trans (plusL_len _ _ _) (by omega), cb_mono (cb_plus (m := 1) h2 h4) ?_⟩
    rw [List.length_append, List.length_singleton, Nat.add_mul]
    simp
theorem lowest_facts {p : List Int} {low : Int} {B : Nat} (h0 : 0 < low) (hb : Cb B p) : (lowestF p low).1.length = p.length ∧ Cb B (lowestF p low).1 ∧ 0 < (lowestF p low).2 ∧ (lowestF p low).2 ≤ low := by
  obtain ⟨g0, g1⟩ := gcd_low (p := p) h0
  refine ⟨List.length_map _, fun k => ?_, ?_, Int.ediv_le_self _ (by omega)⟩
  · show (coef (p.map fun c => c / ((gcdL (p ++ [low]) : Nat) : Int)) k).natAbs ≤ B
    rw [coef_map (fun c => c / ((gcdL (p ++ [low]) : Nat) : Int)) (Int.zero_ediv _)]
    exact Nat.le_trans (Int.natAbs_ediv_le_natAbs _ _) (hb k)
  · refine Int.ediv_pos_of_pos_of_dvd h0 (by omega) ?_
    rw [gcdL_snoc]
    have : ((Nat.gcd low.natAbs (gcdL p) : Nat) : Int) ∣ ((low.natAbs : Nat) : Int) := Int.natCast_dvd_natCast.mpr (Nat.gcd_dvd_left _ _)
    rw [show ((low.natAbs : Nat) : Int) = low by omega] at this
    exact this
theorem ga_take (t l : Int) (so : List (List Int)) (i : Nat) : i ≤ so.length → 0 < so.length → (List.range i).foldl (gaStep t l so) 0 < so.length := by
  induction i with
  | zero => exact fun _ h => h
  | succ i ih =>
    intro h h0
    rw [List.range_succ, List.foldl_append]
    show gaStep t l so _ i < _
    unfold gaStep
    split
    · omega
    · exact ih (by omega) h0
theorem ga_lt (t l : Int) {so : List (List Int)} (h : 0 < so.length) : gaF t l so < so.length := ga_take t l so _ (Nat.le_refl _) h
theorem reader_zip (t l : Int) (told : List (List (List Int))) (h : ∀ so ∈ told, 0 < so.length) : ∀ sa ∈ told.zip (readerF t l told), 0 ≤ sa.2 ∧ sa.2 < (sa.1.length : Int) := fun sa hsa => by
  have : told.zip (readerF t l told) = told.map fun so => (so, ((gaF t l so : Nat) : Int)) := by
    unfold readerF
    clear h hsa
    induction told with
    | nil => rfl
    | cons a l ih => rw [List.map_cons, List.zip_cons_cons, ih]; rfl
  rw [this] at hsa
  obtain ⟨so, hso, rfl⟩ := List.mem_map.mp hsa
  have := ga_lt t l (h so hso)
  exact ⟨by show (0 : Int) ≤ ((gaF t l so : Nat) : Int); omega, by show ((gaF t l so : Nat) : Int) < (so.length : Int); omega⟩
theorem right_facts {L : Int × List (List (List Int))} {wide long : Nat} {c : List (List Int × Int)} {rd : List Int} (ok : LineOk L wide) (okc : CodeOk L.2.length c long) (hz : ∀ sa ∈ (toldF L.2 c wide long).zip rd, 0 ≤ sa.2 ∧ sa.2 < (sa.1.length : Int)) :
    (rightF (toldF L.2 c wide long) (lowF' L c long) rd).1.length ≤ 17 ∧ Cb 6000000000000 (rightF (toldF L.2 c wide long) (lowF' L c long) rd).1 ∧ 0 < (rightF (toldF L.2 c wide long) (lowF' L c long) rd).2 ∧ (rightF (toldF L.2 c wide long) (lowF' L c long) rd).2 ≤ 768 := by
  obtain ⟨t1, t2⟩ := told_ok ok okc
  obtain ⟨q1, q2⟩ := low_all ok okc
  have h27 : wide ^ long ≤ 3 ^ 3 := Nat.le_trans (Nat.pow_le_pow_left ok.wide2 _) (Nat.pow_le_pow_right (by decide) okc.l2)
  obtain ⟨b1, b2⟩ := rt_bound (B := 200000000000) (n := 17) ((toldF L.2 c wide long).zip rd) fun sa hsa => by
    obtain ⟨h1, h2⟩ := hz sa hsa
    have hm := (List.of_mem_zip (a := sa.1) (b := sa.2) hsa).1
    have hj : sa.2.toNat < sa.1.length := by omega
    have e : sa.1.getD sa.2.toNat [] = sa.1[sa.2.toNat] := by rw [List.getD_eq_getElem?_getD, List.getElem?_eq_getElem hj]; rfl
    rw [e]
    exact (t2 _ hm).2 _ (List.getElem_mem hj)
  have hl : ((toldF L.2 c wide long).zip rd).length ≤ 27 := by
    rw [List.length_zip]
    omega
  obtain ⟨c1, c2, c3, c4⟩ := lowest_facts (p := ((toldF L.2 c wide long).zip rd).foldl rtStep []) q1 b2
  refine ⟨?_, cb_mono c2 ?_, c3, ?_⟩
  · show (lowestF _ _).1.length ≤ 17
    rw [c1]
    exact b1
  · exact Nat.le_trans (Nat.mul_le_mul_right _ hl) (by decide)
  · exact Int.le_trans c4 (by omega)
end EN
namespace EN
open PySem PySem.Spec PyProof.Rows L2 LamX
/-- kept where tables may grow -/
class Kn {α : Type} (r : Rp α) : Prop where
  kn : ∀ {H H' : Hp} {v : V} {x : α}, ExtN H H' → r H v x → r H' v x
theorem keepN {α : Type} {r : Rp α} [k : Kn r] {H H' : Hp} {v : V} {x : α} (s : ExtN H H') (h : r H v x) : r H' v x := k.kn s h
instance : Kn rI_ := ⟨fun _ h => h⟩
instance {α : Type} {r : Rp α} [k : Kn r] : Kn (Tup r) := ⟨fun s ⟨a, xs, e, h, p⟩ => ⟨a, xs, e, s _ _ h (fun ps z => by cases z), paired_map p fun _ _ q => k.kn s q⟩⟩
instance {α : Type} {r : Rp α} [k : Kn r] : Kn (Lst r) := ⟨fun s ⟨a, xs, e, h, p⟩ => ⟨a, xs, e, s _ _ h (fun ps z => by cases z), paired_map p fun _ _ q => k.kn s q⟩⟩
instance {α β : Type} {r : Rp α} {t : Rp β} [k : Kn r] [k2 : Kn t] : Kn (Pr r t) := ⟨fun s ⟨a, x, y, e, h, p, q⟩ => ⟨a, x, y, e, s _ _ h (fun ps z => by cases z), k.kn s p, k2.kn s q⟩⟩
theorem same_ext {H H' : Hp} (s : Same H H') : ExtN H H' := .of s
theorem okV_of {p : List Int} {t l : Int} {B : Nat} (h1 : p.length ≤ 100) (h2 : 0 < l) (h3 : Sm t) (h4 : Sm l) (h5 : Cb B p) (hB : B ≤ 1000000000000000000) : okV p t l = true := by
  unfold okV
  simp only [Bool.and_eq_true, decide_eq_true_eq, List.all_eq_true]
  exact ⟨⟨⟨⟨h1, h2⟩, h3⟩, h4⟩, cb_sm h5 hB⟩
section
variable {P : Program} {w : World} {K : PySem.W.Frag} {mg : Str → Option Value} {base : Heap} {f : Addr} {fd : FuncData}

/-! ### greatest_at -/
-- slots: 0 some, 1 tell, 2 found, 3 at, 4 one
abbrev s_greatest_at : Stmt := topS 67
theorem sc_greatest_at : FnScope ["some", "tell", "found", "at", "one"] ["some", "tell"] (C8.fnScope s_greatest_at) := C8.fnScope_by (by decide +kernel)
def sp_greatest_at : Sp := fun vs H Q _ => ∃ v u so t l, vs = [v, u] ∧ Lst Poly H v so ∧ Tell H u t l ∧ so.length ≤ 1000 ∧ 0 < so.length ∧ (∀ p ∈ so, p.length ≤ 30 ∧ Cb 200000000000 p) ∧ 0 < l ∧ Sm t ∧ Sm l ∧ ∀ H', Same H H' → Q (.int ((gaF t l so : Nat) : Int)) H'
theorem cal_greatest_at (D : C8.Def K mg "greatest_at" s_greatest_at f fd) (df : fd.defaults = .none) (T : Tx K mg) (c_plus : C8.Cal P w K mg base 2 "plus" (sp_plus K) []) (c_sign_at : C8.Cal P w K mg base 4 "sign_at" sp_sign_at []) : C8.Cal P w K mg base 6 "greatest_at" sp_greatest_at [] := by
  refine C8.cal0 D (D.fn.binds df (ps := ["some", "tell"]) fun _ _ _ _ _ _ us hl => match us, hl with | [_, _], _ => rfl) .nil sc_greatest_at (fun vs H Q E h => ?_) (fun cdv A outer s H vs Q E hr h => ?_)
  · obtain ⟨v, u, so, t, l, rfl, _⟩ := h
    rfl
  · obtain ⟨v, u, so, t, l, rfl, ⟨a, xs, rfl, ha, hpa⟩, hT, hlen, hpos, hso, hl, st, sl, k⟩ := h
    obtain ⟨ff, eu⟩ : ∃ ff, u = .ref ff := by
      obtain ⟨ff, _, _, _, e, _⟩ := hT
      exact ⟨ff, e⟩
    subst eu
    have hxl := paired_len hpa
    refine ⟨_, (pss_cons (ps_set (i := 2) sc_greatest_at.nd rfl (.inl rfl) pe_int)
      (pss_cons (ps_for PassesOwn.never rfl (pi_enumA (by rfl) T.enumerate_ (pa_cons (pv 0) pa_nil)) (pg_tup rfl (pgs_cons (pg_name (i := 3) sc_greatest_at.nd rfl (.inl rfl)) (pgs_cons (pg_name (i := 4) sc_greatest_at.nd rfl (.inl rfl)) pgs_nil)))
        (pss_one (ps_if (pt_cmpR op_gt (pe_tell (i := 1) c_sign_at hr (by decide) (by rfl) (.inl rfl) (pa_cons (C8.pe_c c_plus hr (by decide) (by rfl) (pa_cons (pv 4) (pa_cons (pe_ix ixA (pv 0) (pv 2) (fun _ _ => rfl)) (pa_cons (pe_un un_neg pe_int) pa_nil)))) pa_nil)) pe_int (nomark _))
          (pss_one (ps_set (i := 2) sc_greatest_at.nd rfl (.inl rfl) (pv 3)))
          pss_nil)))
      (pss_one (ps_ret (pv 2))))), ?_⟩
    refine ⟨_, rfl, for_enum (H0 := H) (.inl (sql ha)) (fun i σ' H' => Same H H' ∧ i ≤ so.length ∧ ∃ x3 x4, σ' = [some (.ref a), some (.ref ff), some (.int (((List.range i).foldl (gaStep t l so) 0 : Nat) : Int)), x3, x4]) (fun _ _ _ h => h.1) ⟨Same.refl _, Nat.zero_le _, none, none, rfl⟩ ?_ ?_⟩
    · rintro i x T' σ' H' hx ⟨sm, _, x3, x4, rfl⟩ nT
      obtain ⟨p, hp, hpx⟩ := paired_get' hpa hx
      have hi : i < so.length := (List.getElem?_eq_some_iff.mp hp).1
      have sA := sm.trans (same_new (o := .tup [V.int (i : Nat), x]) nT)
      have hg := ga_take t l so i (by omega) hpos
      obtain ⟨xq, hxq, hQ⟩ := paired_get hpa (List.getElem?_eq_getElem hg)
      obtain ⟨p1, p2⟩ := hso p (List.mem_of_getElem? hp)
      obtain ⟨q1, q2⟩ := hso _ (List.getElem_mem hg)
      have e1 : so.getD i [] = p := by rw [List.getD_eq_getElem?_getD, hp]; rfl
      have e2 : so.getD ((List.range i).foldl (gaStep t l so) 0) [] = so[(List.range i).foldl (gaStep t l so) 0] := by rw [List.getD_eq_getElem?_getD, List.getElem?_eq_getElem hg]; rfl
      refine ⟨ff, rfl, ⟨t, l, tell_keep sA hT⟩, ?_⟩
      refine ⟨_, rfl, _, rfl, _, rfl, .inl ⟨a, _, _, _, rfl, rfl, sql (sA _ _ ha), atI_n hxq, _, rfl, ?_⟩⟩
      refine ⟨_, _, p, _, _, rfl, zs_poly (keep sA hpx), zs_poly (keep sA hQ), by omega, by omega, .inl (by decide), fun r H2 s2 hr2 => ?_⟩
      refine ⟨_, t, l, _, rfl, tell_keep (sA.trans s2) hT, hr2, okV_of (B := 400000000000) (Nat.le_trans (plusL_len _ _ _) (by omega)) hl st sl (cb_mono (cb_plus p2 q2) (by decide)) (by decide), fun H3 s3 => ?_⟩
      have sB := sA.trans (s2.trans s3)
      refine ⟨_, _, rfl, rfl, _, rfl, ?_⟩
      have es : (List.range (i + 1)).foldl (gaStep t l so) 0 = gaStep t l so ((List.range i).foldl (gaStep t l so) 0) i := by
        rw [List.range_succ, List.foldl_append]
        rfl
      by_cases h0 : 0 < signAtF (plusL p so[(List.range i).foldl (gaStep t l so) 0] (-1)) t l
      · refine itT h0 ⟨_, rfl, sB, hi, some (.int (i : Nat)), some x, ?_⟩
        rw [es, gaStep, e1, e2, if_pos h0]
        rfl
      · refine itF h0 ⟨sB, hi, some (.int (i : Nat)), some x, ?_⟩
        rw [es, gaStep, e1, e2, if_neg h0]
        rfl
    · rintro σ' H' ⟨sm, _, x3, x4, rfl⟩
      rw [hxl]
      exact ⟨_, rfl, k _ sm⟩

/-! ### reader_by -/
-- slots: 0 told, 1 tell*, 2 some
abbrev s_reader_by : Stmt := topS 68
theorem sc_reader_by : FnScope ["told", "tell", "some"] ["told", "tell"] (C8.fnScope s_reader_by) := C8.fnScope_by (by decide +kernel)
def sp_reader_by : Sp := fun vs H Q _ => ∃ v u told t l, vs = [v, u] ∧ Lst (Lst Poly) H v told ∧ Tell H u t l ∧ told.length ≤ 1000 ∧ (∀ so ∈ told, so.length ≤ 1000 ∧ 0 < so.length ∧ ∀ p ∈ so, p.length ≤ 30 ∧ Cb 200000000000 p) ∧ 0 < l ∧ Sm t ∧ Sm l ∧ ∀ r H', Same H H' → Poly H' r (readerF t l told) → Q r H'
theorem cal_reader_by (D : C8.Def K mg "reader_by" s_reader_by f fd) (df : fd.defaults = .none) (T : Tx K mg) (c_greatest_at : C8.Cal P w K mg base 6 "greatest_at" sp_greatest_at []) : C8.Cal P w K mg base 7 "reader_by" sp_reader_by [] := by
  refine C8.cal0 D (D.fn.binds df (ps := ["told", "tell"]) fun _ _ _ _ _ _ us hl => match us, hl with | [_, _], _ => rfl) .nil sc_reader_by (fun vs H Q E h => ?_) (fun cdv A outer s H vs Q E hr h => ?_)
  · obtain ⟨v, u, told, t, l, rfl, _⟩ := h
    rfl
  · obtain ⟨v, u, told, t, l, rfl, ⟨a, xs, rfl, ha, hpa⟩, hT, hlen, hso, hl, st, sl, k⟩ := h
    have hxl := paired_len hpa
    refine ⟨_, (pss_one (ps_ret (pe_callTy call_tuple_of (by rfl) T.tuple_ (by decide +kernel) (pa_cons (pe_lc (own := [("some", 2)]) (by rfl) sc_reader_by.nd (pi_seq (pv 0)) (blkOk_by (N := ["told", "tell", "some"]) (sc := C8.fnScope s_reader_by) (by decide +kernel)) (fun _ _ _ _ _ => (pg_name (i := 2) sc_reader_by.nd rfl (.inl rfl))) (fun _ _ _ _ _ => pts_nil) (fun _ _ _ _ _ => (C8.pe_c c_greatest_at hr (by decide) (by rfl) (pa_cons (pv 2) (pa_cons (pv 1) pa_nil))))) pa_nil)))), ?_⟩
    refine ⟨_, rfl, lc_mapS (r := rI_) (.inl (sql ha)) (by omega) (fun i => ((gaF t l (told.getD i []) : Nat) : Int)) (fun i x H' hx sm C hC => ?_) fun lx H1 s1 hv1 => ?_⟩
    · obtain ⟨so, hs, hsx⟩ := paired_get' hpa hx
      obtain ⟨q1, q2, q3⟩ := hso so (List.mem_of_getElem? hs)
      have e : told.getD i [] = so := by rw [List.getD_eq_getElem?_getD, hs]; rfl
      rw [e] at hC
      exact ⟨rfl, _, rfl, _, rfl, _, _, so, t, l, rfl, keep sm hsx, tell_keep sm hT, q1, q2, q3, hl, st, sl, fun H2 s2 => hC _ _ s2 rfl⟩
    · rw [hxl, range_map_get told [] (fun so => ((gaF t l so : Nat) : Int))] at hv1
      have h1 := lst_ref hv1
      exact ⟨lx, _, rfl, .inl ⟨sql h1, fun tt nt => k _ _ (s1.trans (same_new nt)) (poly_of upd_same)⟩⟩

/-! ### best_reader -/
-- slots: 0 line, 1 code, 2 share
abbrev s_best_reader : Stmt := topS 70
theorem sc_best_reader : FnScope ["line", "code", "share"] ["line", "code", "share"] (C8.fnScope s_best_reader) := C8.fnScope_by (by decide +kernel)
def ShareOk (t l : Int) : Prop := 0 ≤ t ∧ t ≤ l ∧ 0 < l ∧ l ≤ 1000 ∧ Int.gcd t l = 1
def sp_best_reader (Pt : Addr) : Sp := fun vs H Q _ => ∃ v u x L wide c long t l, vs = [v, u, x] ∧ Line H v L ∧ LineOk L wide ∧ Code H u c ∧ CodeOk L.2.length c long ∧ Frac H x (t, l) ∧ ShareOk t l ∧ TabS H Pt lamQ ∧
  ∀ r H', ExtN H H' → TabS H' Pt lamQ → Poly H' r (readerF t l (toldF L.2 c wide long)) → Q r H'
theorem told_rd {L : Int × List (List (List Int))} {wide long : Nat} {c : List (List Int × Int)} (ok : LineOk L wide) (okc : CodeOk L.2.length c long) : (toldF L.2 c wide long).length ≤ 27 ∧ ∀ so ∈ toldF L.2 c wide long, so.length ≤ 1000 ∧ 0 < so.length ∧ ∀ p ∈ so, p.length ≤ 30 ∧ Cb 200000000000 p := by
  obtain ⟨t1, t2⟩ := told_ok ok okc
  have h27 : wide ^ long ≤ 3 ^ 3 := Nat.le_trans (Nat.pow_le_pow_left ok.wide2 _) (Nat.pow_le_pow_right (by decide) okc.l2)
  have n1 := okc.n1
  have n2 := okc.n2
  refine ⟨by omega, fun so hso => ?_⟩
  obtain ⟨h1, h2⟩ := t2 so hso
  exact ⟨by omega, by omega, fun p hp => ⟨by have := (h2 p hp).1; omega, (h2 p hp).2⟩⟩
theorem cal_best_reader (D : C8.Def K mg "best_reader" s_best_reader f fd) (df : fd.defaults = .none) (T : Tx K mg) {Pt : Addr} (c_need_both : C8.Cal P w K mg base 9 "need_both" sp_need_both []) (c_need_share : C8.Cal P w K mg base 3 "need_share" sp_need_share []) (c_weighed : C8.Cal P w K mg base 4 "weighed" sp_weighed [])
    (c_reader_by : C8.Cal P w K mg base 7 "reader_by" sp_reader_by []) (c_signs_at : C8.Cal P w K mg base 1 "signs_at" (sp_signs_at Pt) []) : C8.Cal P w K mg base 10 "best_reader" (sp_best_reader Pt) [] := by
  refine C8.cal0 D (D.fn.binds df (ps := ["line", "code", "share"]) fun _ _ _ _ _ _ us hl => match us, hl with | [_, _, _], _ => rfl) .nil sc_best_reader (fun vs H Q E h => ?_) (fun cdv A outer s H vs Q E hr h => ?_)
  · obtain ⟨v, u, x, L, wide, c, long, t, l, rfl, _⟩ := h
    rfl
  · obtain ⟨v, u, x, L, wide, c, long, t, l, rfl, hv, ok, hu, okc, hx, ⟨sh1, sh2, sh3, sh4, sh5⟩, hT, k⟩ := h
    obtain ⟨d1, d2⟩ := told_rd ok okc
    refine ⟨_, (pss_cons (ps_expr (C8.pe_c c_need_both hr (by decide) (by rfl) (pa_cons (pv 0) (pa_cons (pv 1) pa_nil))))
      (pss_cons (ps_expr (C8.pe_c c_need_share hr (by decide) (by rfl) (pa_cons (pv 2) pa_nil)))
      (pss_one (ps_ret (C8.pe_c c_reader_by hr (by decide) (by rfl) (pa_cons (pe_ix ixA (C8.pe_c c_weighed hr (by decide) (by rfl) (pa_cons (pv 0) (pa_cons (pv 1) pa_nil))) pe_int (fun _ _ => rfl)) (pa_cons (C8.pe_c c_signs_at hr (by decide) (by rfl) (pa_cons (pv 2) pa_nil)) pa_nil))))))), ?_⟩
    refine ⟨_, rfl, _, rfl, _, _, L, wide, c, long, rfl, hv, ok, hu, okc, fun H1 s1 => ?_⟩
    refine ⟨_, rfl, _, t, l, rfl, keep s1 hx, sh1, sh2, sh3, sh5, ?_⟩
    refine ⟨_, rfl, _, rfl, _, _, L, wide, c, long, rfl, keep s1 hv, ok, keep s1 hu, okc, fun r H2 s2 hr2 => ?_⟩
    obtain ⟨a, y, z, rfl, ha, hy, hz⟩ := hr2
    have sA := s1.trans s2
    refine .inr ⟨a, _, 0, _, rfl, rfl, sqt ha, atI_nat (j := 0) rfl, ?_⟩
    refine ⟨_, rfl, _, t, l, rfl, keep sA hx, hT.ext sA, fun r3 H3 e3 hT3 hr3 => ?_⟩
    refine ⟨_, _, _, t, l, rfl, keepN e3 hy, hr3, by show (toldF L.2 c wide long).length ≤ 1000; omega, d2, sh3, sm_of (n := 1000) (by omega), sm_of (n := 1000) (by omega), fun r4 H4 s4 hr4 => ?_⟩
    exact k _ _ ((same_ext sA).trans (e3.trans (same_ext s4))) (hT3.ext s4) hr4

/-! ### best_right -/
-- slots: 0 line, 1 code, 2 share, 3 told, 4 low
abbrev s_best_right : Stmt := topS 71
theorem sc_best_right : FnScope ["line", "code", "share", "told", "low"] ["line", "code", "share"] (C8.fnScope s_best_right) := C8.fnScope_by (by decide +kernel)
def bestF (L : Int × List (List (List Int))) (c : List (List Int × Int)) (wide long : Nat) (t l : Int) : Int × Int := atF (rightF (toldF L.2 c wide long) (lowF' L c long) (readerF t l (toldF L.2 c wide long))) t l
def sp_best_right (Pt : Addr) : Sp := fun vs H Q _ => ∃ v u x L wide c long t l, vs = [v, u, x] ∧ Line H v L ∧ LineOk L wide ∧ Code H u c ∧ CodeOk L.2.length c long ∧ Frac H x (t, l) ∧ ShareOk t l ∧ TabS H Pt lamQ ∧
  ∀ r H', ExtN H H' → TabS H' Pt lamQ → Frac H' r (bestF L c wide long t l) → Q r H'
theorem cal_best_right (D : C8.Def K mg "best_right" s_best_right f fd) (df : fd.defaults = .none) (T : Tx K mg) {Pt : Addr} (c_need_both : C8.Cal P w K mg base 9 "need_both" sp_need_both []) (c_need_share : C8.Cal P w K mg base 3 "need_share" sp_need_share []) (c_weighed : C8.Cal P w K mg base 4 "weighed" sp_weighed [])
    (c_reader_by : C8.Cal P w K mg base 7 "reader_by" sp_reader_by []) (c_signs_at : C8.Cal P w K mg base 1 "signs_at" (sp_signs_at Pt) []) (c_right_of : C8.Cal P w K mg base 3 "right_of" sp_right_of []) (c_at_share : C8.Cal P w K mg base 4 "at_share" sp_at_share []) : C8.Cal P w K mg base 10 "best_right" (sp_best_right Pt) [] := by
  refine C8.cal0 D (D.fn.binds df (ps := ["line", "code", "share"]) fun _ _ _ _ _ _ us hl => match us, hl with | [_, _, _], _ => rfl) .nil sc_best_right (fun vs H Q E h => ?_) (fun cdv A outer s H vs Q E hr h => ?_)
  · obtain ⟨v, u, x, L, wide, c, long, t, l, rfl, _⟩ := h
    rfl
  · obtain ⟨v, u, x, L, wide, c, long, t, l, rfl, hv, ok, hu, okc, hx, ⟨sh1, sh2, sh3, sh4, sh5⟩, hT, k⟩ := h
    obtain ⟨d1, d2⟩ := told_rd ok okc
    obtain ⟨q1, q2⟩ := low_all ok okc
    have hz := reader_zip t l (toldF L.2 c wide long) fun so hso => (d2 so hso).2.1
    obtain ⟨f1, f2, f3, f4⟩ := right_facts ok okc hz
    refine ⟨_, (pss_cons (ps_expr (C8.pe_c c_need_both hr (by decide) (by rfl) (pa_cons (pv 0) (pa_cons (pv 1) pa_nil))))
      (pss_cons (ps_expr (C8.pe_c c_need_share hr (by decide) (by rfl) (pa_cons (pv 2) pa_nil)))
      (pss_cons (ps_asg (C8.pe_c c_weighed hr (by decide) (by rfl) (pa_cons (pv 0) (pa_cons (pv 1) pa_nil))) (pg_tup rfl (pgs_cons (pg_name (i := 3) sc_best_right.nd rfl (.inl rfl)) (pgs_cons (pg_name (i := 4) sc_best_right.nd rfl (.inl rfl)) pgs_nil))))
      (pss_one (ps_ret (C8.pe_c c_at_share hr (by decide) (by rfl) (pa_cons (C8.pe_c c_right_of hr (by decide) (by rfl) (pa_cons (pv 3) (pa_cons (pv 4) (pa_cons (C8.pe_c c_reader_by hr (by decide) (by rfl) (pa_cons (pv 3) (pa_cons (C8.pe_c c_signs_at hr (by decide) (by rfl) (pa_cons (pv 2) pa_nil)) pa_nil))) pa_nil)))) (pa_cons (pv 2) pa_nil)))))))), ?_⟩
    refine ⟨_, rfl, _, rfl, _, _, L, wide, c, long, rfl, hv, ok, hu, okc, fun H1 s1 => ?_⟩
    refine ⟨_, rfl, _, t, l, rfl, keep s1 hx, sh1, sh2, sh3, sh5, ?_⟩
    refine ⟨_, rfl, _, rfl, _, _, L, wide, c, long, rfl, keep s1 hv, ok, keep s1 hu, okc, fun r H2 s2 hr2 => ?_⟩
    obtain ⟨a, y, z, rfl, ha, hy, hz2⟩ := hr2
    have ez : z = .int (lowF' L c long) := hz2
    subst ez
    have sA := s1.trans s2
    refine ⟨a, _, rfl, sqt ha, rfl, _, _, rfl, _, _, rfl, rfl, ?_⟩
    refine ⟨_, rfl, _, rfl, _, rfl, _, rfl, _, t, l, rfl, keep sA hx, hT.ext sA, fun r3 H3 e3 hT3 hr3 => ?_⟩
    refine ⟨_, _, _, t, l, rfl, keepN e3 hy, hr3, by show (toldF L.2 c wide long).length ≤ 1000; omega, d2, sh3, sm_of (n := 1000) (by omega), sm_of (n := 1000) (by omega), fun r4 H4 s4 hr4 => ?_⟩
    have eB := (same_ext sA).trans (e3.trans (same_ext s4))
    refine ⟨_, _, _, _, _, rfl, keep s4 (keepN e3 hy), hr4, by show (readerF t l (toldF L.2 c wide long)).length = (toldF L.2 c wide long).length; exact List.length_map _, by show (toldF L.2 c wide long).length ≤ 100; omega, fun so hso p hp => ((d2 so hso).2.2 p hp).1, hz, q1, sm_of (n := 768) (by omega), fun r5 H5 s5 hr5 => ?_⟩
    refine ⟨_, rfl, _, _, _, _, t, l, rfl, hr5, keep s5 (keepN eB hx), by show (rightF (toldF L.2 c wide long) (lowF' L c long) (readerF t l (toldF L.2 c wide long))).1.length ≤ 100; omega, sh3, sm_of (n := 1000) (by omega), sm_of (n := 1000) (by omega), cb_sm f2 (by decide), f3, sm_of (n := 768) (by show ((rightF (toldF L.2 c wide long) (lowF' L c long) (readerF t l (toldF L.2 c wide long))).2).natAbs ≤ 768; omega), fun r6 H6 s6 hr6 => ?_⟩
    exact k _ _ (eB.trans (same_ext (s5.trans s6))) (hT3.ext (s4.trans (s5.trans s6))) hr6
end
end EN
/-! Drawn lines: their rows are in order. -/
namespace EN
structure SpOk (wide low : Nat) (a : List Int) : Prop where
  len : a.length = wide
  ent : ∀ x ∈ a, ∃ n : Nat, x = (n : Int) ∧ n ≤ low
  sum : a.sum = (low : Int)
structure RowOk (low wide : Nat) (row : List (List Int)) : Prop where
  len : row.length = wide
  ent : ∀ p ∈ row, polyOk p = true ∧ chOk p = true
  sum : wholeF row = [(low : Int)]
theorem cut_mem {l : List Int} {c : Int} (h : c ∈ cutL l) : c ∈ l := by
  unfold cutL at h
  have := List.mem_reverse.mp h
  have := (List.dropWhile_sublist _).mem this
  exact List.mem_reverse.mp this
theorem cut_lastL {l : List Int} : cutL l = [] ∨ lastL (cutL l) ≠ 0 := by
  by_cases h : cutL l = []
  · exact .inl h
  · right
    have := cut_cut l
    intro e
    apply this
    rw [lastL, List.getLastD_eq_getLast?, List.getLast?_eq_some_getLast h] at e
    rw [List.getLast?_eq_some_getLast h]
    exact congrArg some e
theorem polyOk_cut {l : List Int} (h1 : l.length ≤ 5) (h2 : ∀ c ∈ l, -1000 ≤ c ∧ c ≤ 1000) : polyOk (cutL l) = true :=
  polyOk_iff.mpr ⟨Nat.le_trans (cutL_len l) h1, fun c hc => h2 c (cut_mem hc), cut_lastL⟩
theorem two_ok {low x y z : Nat} (hl : low ≤ 4) (hx : x ≤ low) (hy : y ≤ low) (hz : z ≤ low) : polyOk (cutL [(x : Int), 2 * (y : Int) - 2 * (x : Int), (x : Int) - 2 * (y : Int) + (z : Int)]) = true ∧ chOk (cutL [(x : Int), 2 * (y : Int) - 2 * (x : Int), (x : Int) - 2 * (y : Int) + (z : Int)]) = true := by
  refine ⟨polyOk_cut (by simp) fun c hc => ?_, ch_two (by omega) (by omega) (by omega)⟩
  simp only [List.mem_cons, List.not_mem_nil, or_false] at hc
  omega
theorem one_ok {low x y : Nat} (hl : low ≤ 4) (hx : x ≤ low) (hy : y ≤ low) : polyOk (cutL [(x : Int), (y : Int) - (x : Int)]) = true ∧ chOk (cutL [(x : Int), (y : Int) - (x : Int)]) = true := by
  refine ⟨polyOk_cut (by simp) fun c hc => ?_, ch_one (by omega) (by omega)⟩
  simp only [List.mem_cons, List.not_mem_nil, or_false] at hc
  omega
theorem whole_coef (row : List (List Int)) (k : Nat) : coef (wholeF row) k = (row.map fun p => coef p k).sum := by
  unfold wholeF
  induction row using snoc_ind with
  | h0 => rfl
  | hs l x ih =>
    rw [List.foldl_append, List.map_append, List.sum_append, ← ih]
    show coef (plusL _ x 1) k = _
    rw [coef_plusL]
    simp
theorem whole_cut (row : List (List Int)) : Cut (wholeF row) := by
  unfold wholeF
  induction row using snoc_ind with
  | h0 => intro h; simp at h
  | hs l x ih =>
    rw [List.foldl_append]
    exact cut_cut _
theorem whole_is {row : List (List Int)} {low : Nat} (h1 : 1 ≤ low) (h : ∀ k, (row.map fun p => coef p k).sum = coef [(low : Int)] k) : wholeF row = [(low : Int)] :=
  cut_ext (whole_cut row) (by intro e; simp at e; omega) fun k => by rw [whole_coef, h]
theorem len_cases {a : List Int} {wide : Nat} (h : a.length = wide) (hw : wide = 2 ∨ wide = 3) : (wide = 2 ∧ ∃ x y, a = [x, y]) ∨ (wide = 3 ∧ ∃ x y z, a = [x, y, z]) := by
  rcases hw with rfl | rfl
  · match a, h with
    | [x, y], _ => exact .inl ⟨rfl, x, y, rfl⟩
  · match a, h with
    | [x, y, z], _ => exact .inr ⟨rfl, x, y, z, rfl⟩
theorem coef3 (x y z : Int) (k : Nat) : coef (cutL [x, y, z]) k = if k = 0 then x else if k = 1 then y else if k = 2 then z else 0 := by
  rw [coef_cut]
  match k with
  | 0 => rfl
  | 1 => rfl
  | 2 => rfl
  | k + 3 => simp [coef]
theorem coef2 (x y : Int) (k : Nat) : coef (cutL [x, y]) k = if k = 0 then x else if k = 1 then y else 0 := by
  rw [coef_cut]
  match k with
  | 0 => rfl
  | 1 => rfl
  | k + 2 => simp [coef]
theorem coef1 (x : Int) (k : Nat) : coef [x] k = if k = 0 then x else 0 := by
  match k with
  | 0 => rfl
  | k + 1 => simp [coef]
def rowTwo (a b c : List Int) (wide : Nat) : List (List Int) := (List.range wide).map fun k => cutL [coef a k, 2 * coef b k - 2 * coef a k, coef a k - 2 * coef b k + coef c k]
def rowOne (a b : List Int) (wide : Nat) : List (List Int) := (List.range wide).map fun k => cutL [coef a k, coef b k - coef a k]
theorem row_two {wide low : Nat} {a b c : List Int} (hw : wide = 2 ∨ wide = 3) (h1 : 1 ≤ low) (h4 : low ≤ 4) (ha : SpOk wide low a) (hb : SpOk wide low b) (hc : SpOk wide low c) : RowOk low wide (rowTwo a b c wide) := by
  have ent : ∀ {l : List Int}, SpOk wide low l → ∀ k, k < wide → ∃ n : Nat, coef l k = (n : Int) ∧ n ≤ low := fun {l} h k hk => by
    have := get_coef (l := l) (k := k) (by rw [h.len]; exact hk)
    exact h.ent _ (List.mem_of_getElem? this)
  refine ⟨by unfold rowTwo; rw [List.length_map, List.length_range], fun p hp => ?_, whole_is h1 fun k => ?_⟩
  · obtain ⟨k, hk, rfl⟩ := List.mem_map.mp hp
    have hk := List.mem_range.mp hk
    obtain ⟨x, e1, hx⟩ := ent ha k hk
    obtain ⟨y, e2, hy⟩ := ent hb k hk
    obtain ⟨z, e3, hz⟩ := ent hc k hk
    rw [e1, e2, e3]
    exact two_ok h4 hx hy hz
  · have sa := ha.sum
    have sb := hb.sum
    have sc := hc.sum
    rcases len_cases ha.len hw with ⟨e, a0, a1, rfl⟩ | ⟨e, a0, a1, a2, rfl⟩ <;> rcases len_cases hb.len hw with ⟨e', b0, b1, rfl⟩ | ⟨e', b0, b1, b2, rfl⟩ <;> rcases len_cases hc.len hw with ⟨e'', c0, c1, rfl⟩ | ⟨e'', c0, c1, c2, rfl⟩ <;> subst e <;> try omega
    · have hr : List.range 2 = [0, 1] := rfl
      unfold rowTwo
      rw [hr]
      simp only [List.map_cons, List.map_nil, coef3, coef1, List.sum_cons, List.sum_nil, coef_zero, coef_succ] at *
      split <;> (try split) <;> (try split) <;> omega
    · have hr : List.range 3 = [0, 1, 2] := rfl
      unfold rowTwo
      rw [hr]
      have e2 : ∀ (x y z : Int), coef [x, y, z] 2 = z := fun _ _ _ => rfl
      have e1 : ∀ (x y z : Int), coef [x, y, z] 1 = y := fun _ _ _ => rfl
      simp only [List.map_cons, List.map_nil, coef3, coef1, List.sum_cons, List.sum_nil, coef_zero, e1, e2] at *
      split <;> (try split) <;> (try split) <;> omega
theorem row_one {wide low : Nat} {a b : List Int} (hw : wide = 2 ∨ wide = 3) (h1 : 1 ≤ low) (h4 : low ≤ 4) (ha : SpOk wide low a) (hb : SpOk wide low b) : RowOk low wide (rowOne a b wide) := by
  have ent : ∀ {l : List Int}, SpOk wide low l → ∀ k, k < wide → ∃ n : Nat, coef l k = (n : Int) ∧ n ≤ low := fun {l} h k hk => by
    have := get_coef (l := l) (k := k) (by rw [h.len]; exact hk)
    exact h.ent _ (List.mem_of_getElem? this)
  refine ⟨by unfold rowOne; rw [List.length_map, List.length_range], fun p hp => ?_, whole_is h1 fun k => ?_⟩
  · obtain ⟨k, hk, rfl⟩ := List.mem_map.mp hp
    have hk := List.mem_range.mp hk
    obtain ⟨x, e1, hx⟩ := ent ha k hk
    obtain ⟨y, e2, hy⟩ := ent hb k hk
    rw [e1, e2]
    exact one_ok h4 hx hy
  · have sa := ha.sum
    have sb := hb.sum
    rcases len_cases ha.len hw with ⟨e, a0, a1, rfl⟩ | ⟨e, a0, a1, a2, rfl⟩ <;> rcases len_cases hb.len hw with ⟨e', b0, b1, rfl⟩ | ⟨e', b0, b1, b2, rfl⟩ <;> subst e <;> try omega
    · have hr : List.range 2 = [0, 1] := rfl
      unfold rowOne
      rw [hr]
      simp only [List.map_cons, List.map_nil, coef2, coef1, List.sum_cons, List.sum_nil, coef_zero, coef_succ] at *
      split <;> (try split) <;> omega
    · have hr : List.range 3 = [0, 1, 2] := rfl
      unfold rowOne
      rw [hr]
      have e2 : ∀ (x y z : Int), coef [x, y, z] 2 = z := fun _ _ _ => rfl
      have e1 : ∀ (x y z : Int), coef [x, y, z] 1 = y := fun _ _ _ => rfl
      simp only [List.map_cons, List.map_nil, coef2, coef1, List.sum_cons, List.sum_nil, coef_zero, e1, e2] at *
      split <;> (try split) <;> omega
def line0 : Int × List (List (List Int)) := (1, [[[1, -1], [0, 1]], [[0, 1], [1, -1]]])
def line1 : Int × List (List (List Int)) := (2, [[[2, -1], [], [0, 1]], [[], [2, -1], [0, 1]]])
def rowB (low : Int) (wide : Nat) (row : List (List Int)) : Bool := decide (row.length = wide) && row.all (fun p => polyOk p && chOk p) && decide (wholeF row = [low])
theorem rowB_ok {L : Int × List (List (List Int))} {wide : Nat} (h : L.2.all (rowB L.1 wide) = true) : ∀ row ∈ L.2, row.length = wide ∧ (∀ p ∈ row, polyOk p = true ∧ chOk p = true) ∧ wholeF row = [L.1] := fun row hr => by
  have := List.all_eq_true.mp h row hr
  unfold rowB at this
  simp only [Bool.and_eq_true, decide_eq_true_eq, List.all_eq_true] at this
  exact ⟨this.1.1, this.1.2, this.2⟩
theorem line0_ok : LineOk line0 2 := ⟨by decide, by decide, by decide, by decide, by decide, by decide, rowB_ok (by decide +kernel)⟩
theorem line1_ok : LineOk line1 3 := ⟨by decide, by decide, by decide, by decide, by decide, by decide, rowB_ok (by decide +kernel)⟩
theorem rowsL_nd {wide k : Nat} (hw : wide = 2 ∨ wide = 3) (hk : k = 1 ∨ k = 2 ∨ k = 3) : (rowsL wide k).Nodup := by
  rcases hw with rfl | rfl <;> rcases hk with rfl | rfl | rfl <;> decide +kernel
end EN
namespace EN
open PySem PySem.Spec PyProof.Rows L2
/-- all but the list at R is kept -/
def MR (R : Addr) (H H' : Hp) : Prop := ∀ b o, b ≠ R → H b = some o → H' b = some o
theorem MR.refl {R : Addr} {H : Hp} : MR R H H := fun _ _ _ e => e
theorem MR.trans {R : Addr} {H H1 H2 : Hp} (a : MR R H H1) (b : MR R H1 H2) : MR R H H2 := fun c o n e => b c o n (a c o n e)
theorem mr_same {R : Addr} {H H' : Hp} (s : Same H H') : MR R H H' := fun b o _ e => s b o e
theorem mr_upd {R : Addr} {H : Hp} {o : HO} : MR R H (upd H R o) := fun b u n e => by rw [upd_ne n]; exact e
/-- the script, apart from the row -/
def SqR (K : PySem.W.Frag) (H : Hp) (R sc : Addr) (xs : List V) : Prop := (sc ≠ R ∧ Rd H sc (.lst xs)) ∨
  ∃ (o : Obj) (its : Array Value) (n : Nat), K.lookup sc = some o ∧ o.cls = .type "list" ∧ o.dict = none ∧ o.data = .seq its n ∧ its.size ≤ sizeLine ∧ Vals xs its.toList
theorem sqR_sql {K : PySem.W.Frag} {H : Hp} {R sc : Addr} {xs : List V} (h : SqR K H R sc xs) : SqL K H sc xs := h.elim (fun h => .inl h.2) .inr
theorem sqR_mr {K : PySem.W.Frag} {H H' : Hp} {R sc : Addr} {xs : List V} (s : MR R H H') (h : SqR K H R sc xs) : SqR K H' R sc xs := by
  rcases h with ⟨n, h | ⟨o, h⟩⟩ | h
  · exact .inl ⟨n, .inl (s _ _ n h)⟩
  · exact .inl ⟨n, .inr ⟨o, s _ _ n h⟩⟩
  · exact .inr h
/-- the row of the law: the script, how many cells are read, the seed, the rest -/
def Rw (K : PySem.W.Frag) (H : Hp) (R sc : Addr) : Prop := ∃ (ns : List Int) (i s r : Int), 0 ≤ i ∧ H R = some (.lst [.ref sc, .int i, .int s, .int r]) ∧ SqR K H R sc (ns.map V.int)
theorem rw_lst {K : PySem.W.Frag} {H : Hp} {R sc : Addr} (h : Rw K H R sc) : ∃ ys, H R = some (.lst ys) := by
  obtain ⟨ns, i, s, r, _, h, _⟩ := h
  exact ⟨_, h⟩
theorem sql_mr {K : PySem.W.Frag} {H H' : Hp} {R a : Addr} {xs : List V} (s : MR R H H') (n : a ≠ R) (h : SqL K H a xs) : SqL K H' a xs := by
  rcases h with (h | ⟨o, h⟩) | h
  · exact .inl (.inl (s _ _ n h))
  · exact .inl (.inr ⟨o, s _ _ n h⟩)
  · exact .inr h
theorem rw_same {K : PySem.W.Frag} {H H' : Hp} {R sc : Addr} (s : Same H H') (h : Rw K H R sc) : Rw K H' R sc := by
  obtain ⟨ns, i, sd, r, h0, h1, h2⟩ := h
  exact ⟨ns, i, sd, r, h0, s _ _ h1, sqR_mr (mr_same s) h2⟩
/-- another list is written -/
theorem rw_upd {K : PySem.W.Frag} {H : Hp} {R sc l : Addr} {o : HO} (n1 : l ≠ R) (n2 : l ≠ sc) (h : Rw K H R sc) : Rw K (upd H l o) R sc := by
  obtain ⟨ns, i, sd, r, h0, h1, h2⟩ := h
  refine ⟨ns, i, sd, r, h0, by rw [upd_ne n1.symm]; exact h1, ?_⟩
  rcases h2 with ⟨n, h | ⟨ob, h⟩⟩ | h
  · exact .inl ⟨n, .inl (by rw [upd_ne n2.symm]; exact h)⟩
  · exact .inl ⟨n, .inr ⟨ob, by rw [upd_ne n2.symm]; exact h⟩⟩
  · exact .inr h
/-- what is new is not the row; where it is the script, that lies in the written part -/
theorem rw_ne {K : PySem.W.Frag} {H : Hp} {R sc l : Addr} (h : Rw K H R sc) (n : H l = none) : l ≠ R := by
  obtain ⟨ys, hR⟩ := rw_lst h
  exact fun e => by rw [e, hR] at n; cases n
/-- .. a list is written that was new at the row's start -/
theorem rw_updN {K : PySem.W.Frag} {H H' : Hp} {R sc l : Addr} {o : HO} (h0 : Rw K H R sc) (n : H l = none) (h : Rw K H' R sc) : Rw K (upd H' l o) R sc := by
  have n1 := rw_ne h0 n
  obtain ⟨ns0, _, _, _, _, _, h02⟩ := h0
  rcases h02 with ⟨_, e | ⟨ob, e⟩⟩ | e
  · exact rw_upd n1 (ne_of_none e n).symm h
  · exact rw_upd n1 (ne_of_none e n).symm h
  · obtain ⟨ns, i, sd, r, g0, h1, h2⟩ := h
    exact ⟨ns0, i, sd, r, g0, by rw [upd_ne n1.symm]; exact h1, .inr e⟩
theorem keepR {K : PySem.W.Frag} {α : Type} {r : Rp α} [k : Im r] {H H' : Hp} {R sc : Addr} {v : V} {x : α} (hR : Rw K H R sc) (s : MR R H H') (h : r H v x) : r H' v x := by
  obtain ⟨ys, hR⟩ := rw_lst hR
  exact keepM hR s h
theorem asI {x y : Int} {F : V → Hp → Prop} {H : Hp} (e : x = y) (q : F (.int y) H) : F (.int x) H := by rw [e]; exact q
theorem divw_small (i : Int) {j : Int} (h : 0 < j) (hj : j ≤ 1000000) : CDivW i j := bt_div (n := 64) i h (by unfold Bt; omega) (by decide)
theorem mod_nat {a m : Int} (h : 0 < m) : ∃ j : Nat, a % m = (j : Int) ∧ (j : Int) < m := ⟨(a % m).toNat, by have := Int.emod_nonneg a (Int.ne_of_gt h); omega, by have := Int.emod_nonneg a (Int.ne_of_gt h); have := Int.emod_lt_of_pos a h; omega⟩
section
variable {P : Program} {w : World} {K : PySem.W.Frag} {mg : Str → Option Value} {base : Heap} {f : Addr} {fd : FuncData}

/-! ### _law_taken -/
-- slots: 0 _law_row, 1 _law_many, 2 _law_found, 3 _law_cell
abbrev s_law_taken : Stmt := topS 73
theorem sc_law_taken : FnScope ["_law_row", "_law_many", "_law_found", "_law_cell"] ["_law_row", "_law_many"] (C8.fnScope s_law_taken) := C8.fnScope_by (by decide +kernel)
def sp_law_taken (K : PySem.W.Frag) : Sp := fun vs H Q _ => ∃ R sc m, vs = [.ref R, .int m] ∧ 0 < m ∧ m ≤ 1000000 ∧ Rw K H R sc ∧ ∀ (j : Nat) H', (j : Int) < m → MR R H H' → Rw K H' R sc → Q (.int (j : Int)) H'
theorem cal_law_taken (D : C8.Def K mg "_law_taken" s_law_taken f fd) (df : fd.defaults = .none) (T : Tx K mg) : C8.Cal P w K mg base 1 "_law_taken" (sp_law_taken K) [] := by
  refine C8.cal0 D (D.fn.binds df (ps := ["_law_row", "_law_many"]) fun _ _ _ _ _ _ us hl => match us, hl with | [_, _], _ => rfl) .nil sc_law_taken (fun vs H Q E h => ?_) (fun cdv A outer s H vs Q E hr h => ?_)
  · obtain ⟨R, sc, m, rfl, _⟩ := h
    rfl
  · obtain ⟨R, sc, m, rfl, hm, hm2, ⟨ns, i, sd, r, h0, hR, hS⟩, k⟩ := h
    refine ⟨_, (pss_cons (ps_if (pt_cmpR op_gt (pe_ix ixA (pv 0) pe_int (fun _ _ => rfl)) pe_int (nomark _))
        (pss_cons (ps_set (i := 2) sc_law_taken.nd rfl (.inl rfl) (pe_op op_mod (pe_callTy call_int1 (by rfl) T.int_ (by decide +kernel) (pa_cons (pe_ix ixA (pv 0) pe_int (fun _ _ => rfl)) pa_nil)) (pv 1)))
        (pss_cons (ps_asg (pe_op op_fdivW (pe_ix ixA (pv 0) pe_int (fun _ _ => rfl)) (pv 1)) (pg_sub (pv 0) pe_int set_list))
        (pss_one (ps_ret (pv 2)))))
        pss_nil)
      (pss_cons (ps_asg (pe_op op_add (pe_ix ixA (pv 0) pe_int (fun _ _ => rfl)) pe_int) (pg_sub (pv 0) pe_int set_list))
      (pss_cons (ps_if (pt_cmpR op_gt (pe_ix ixA (pv 0) pe_int (fun _ _ => rfl)) (pe_callB call_len_seq (by rfl) T.len_ (by decide +kernel) (pa_cons (pe_ix ixA (pv 0) pe_int (fun _ _ => rfl)) pa_nil)) (nomark _))
        (pss_cons (ps_asg (pe_op op_mod (pe_callTy call_int1 (by rfl) T.int_ (by decide +kernel) (pa_cons (pe_op op_add (pe_op op_mul (pe_ix ixA (pv 0) pe_int (fun _ _ => rfl)) pe_int) pe_int) pa_nil)) pe_int) (pg_sub (pv 0) pe_int set_list))
        (pss_one (ps_ret (pe_op op_mod (pe_callTy call_int1 (by rfl) T.int_ (by decide +kernel) (pa_cons (pe_op op_fdivW (pe_ix ixA (pv 0) pe_int (fun _ _ => rfl)) pe_int) pa_nil)) (pv 1)))))
        pss_nil)
      (pss_cons (ps_set (i := 3) sc_law_taken.nd rfl (.inl rfl) (pe_ix ixA (pe_ix ixA (pv 0) pe_int (fun _ _ => rfl)) (pe_op op_sub (pe_ix ixA (pv 0) pe_int (fun _ _ => rfl)) pe_int) (fun _ _ => rfl)))
      (pss_cons (ps_asg (pe_op op_mod (pe_callTy call_int1 (by rfl) T.int_ (by decide +kernel) (pa_cons (pe_op op_add (pe_op op_add (pe_op op_mul (pe_ix ixA (pv 0) pe_int (fun _ _ => rfl)) pe_int) (pv 3)) pe_int) pa_nil)) pe_int) (pg_sub (pv 0) pe_int set_list))
      (pss_cons (ps_if (pt_cmpR op_ge (pv 3) (pe_op op_pow pe_int pe_int) (nomark _))
        (pss_one (ps_asg (pe_op op_fdivW (pv 3) (pv 1)) (pg_sub (pv 0) pe_int set_list)))
        pss_nil)
      (pss_one (ps_ret (pe_op op_mod (pe_callTy call_int1 (by rfl) T.int_ (by decide +kernel) (pa_cons (pv 3) pa_nil)) (pv 1)))))))))), ?_⟩
    refine ⟨_, rfl, .inl ⟨R, _, 3, _, rfl, rfl, sql hR, atI_nat (j := 3) rfl, _, _, rfl, rfl, _, rfl, ?_⟩⟩
    by_cases hr0 : 0 < r
    · refine itT hr0 ?_
      obtain ⟨j, ej, jm⟩ := mod_nat (a := r) hm
      refine ⟨_, rfl, .inl ⟨R, _, 3, _, rfl, rfl, sql hR, atI_nat (j := 3) rfl, .inl ⟨_, rfl, _, rfl, _, _, rfl, rfl, hm, ?_⟩⟩⟩
      refine ⟨_, rfl, .inl ⟨R, _, 3, _, rfl, rfl, sql hR, atI_nat (j := 3) rfl, _, rfl, _, _, rfl, rfl, divw_small _ hm hm2, ?_⟩⟩
      refine ⟨_, rfl, R, _, 3, 3, rfl, rfl, hR, rfl, ?_⟩
      refine ⟨_, rfl, asI ej <| k j _ jm mr_upd ⟨ns, i, sd, _, h0, upd_same, sqR_mr mr_upd hS⟩⟩
    · refine itF hr0 ?_
      refine ⟨_, rfl, .inl ⟨R, _, 1, _, rfl, rfl, sql hR, atI_nat (j := 1) rfl, _, _, rfl, rfl, ?_⟩⟩
      refine ⟨_, rfl, R, _, 1, 1, rfl, rfl, hR, rfl, ?_⟩
      have hR1 : upd H R (.lst [.ref sc, .int (i + 1), .int sd, .int r]) R = some (.lst [.ref sc, .int (i + 1), .int sd, .int r]) := upd_same
      have m1 : MR R H (upd H R (.lst [.ref sc, .int (i + 1), .int sd, .int r])) := mr_upd
      have hS1 := sqR_mr m1 hS
      refine ⟨_, rfl, .inl ⟨R, _, 1, _, rfl, rfl, sql hR1, atI_nat (j := 1) rfl, _, rfl, .inl ⟨R, _, 0, _, rfl, rfl, sql hR1, atI_nat (j := 0) rfl, sc, _, rfl, .inl (sqR_sql hS1), _, _, rfl, rfl, _, rfl, ?_⟩⟩⟩
      rw [List.length_map]
      by_cases hc : ((ns.length : Nat) : Int) < i + 1
      · refine itT hc ?_
        refine ⟨_, rfl, .inl ⟨R, _, 2, _, rfl, rfl, sql hR1, atI_nat (j := 2) rfl, _, _, rfl, rfl, .inr (by decide), _, _, rfl, rfl, .inl ⟨_, rfl, _, _, rfl, rfl, (by decide : (0 : Int) < 2147483647), ?_⟩⟩⟩
        refine ⟨_, rfl, R, _, 2, 2, rfl, rfl, hR1, rfl, ?_⟩
        rw [upd_upd]
        refine ⟨_, rfl, .inl ⟨R, _, 2, _, rfl, rfl, sql upd_same, atI_nat (j := 2) rfl, _, _, rfl, rfl, divw_small _ (by decide) (by decide), .inl ⟨_, rfl, _, rfl, _, _, rfl, rfl, hm, ?_⟩⟩⟩
        obtain ⟨j, ej, jm⟩ := mod_nat (a := (sd * 48271 + 11) % 2147483647 / 7) hm
        exact asI ej <| k j _ jm mr_upd ⟨ns, i + 1, _, r, by omega, upd_same, sqR_mr mr_upd hS⟩
      · refine itF hc ?_
        have hlt : i.toNat < ns.length := by omega
        have ei : i + 1 - 1 = i := by omega
        refine ⟨_, rfl, .inl ⟨R, _, 0, _, rfl, rfl, sql hR1, atI_nat (j := 0) rfl, _, rfl, .inl ⟨R, _, 1, _, rfl, rfl, sql hR1, atI_nat (j := 1) rfl, _, _, rfl, rfl, .inl ⟨sc, _, _, .int (ns[i.toNat]'hlt), rfl, rfl, sqR_sql hS1, ?_, ?_⟩⟩⟩⟩
        · rw [ei]
          exact atI_nat' h0 (by rw [List.getElem?_map, List.getElem?_eq_getElem hlt]; rfl)
        refine ⟨_, rfl, .inl ⟨R, _, 2, _, rfl, rfl, sql hR1, atI_nat (j := 2) rfl, _, _, rfl, rfl, .inr (by decide), _, rfl, _, _, rfl, rfl, _, _, rfl, rfl, .inl ⟨_, rfl, _, _, rfl, rfl, (by decide : (0 : Int) < 2147483647), ?_⟩⟩⟩
        refine ⟨_, rfl, R, _, 2, 2, rfl, rfl, hR1, rfl, ?_⟩
        rw [upd_upd]
        obtain ⟨j, ej, jm⟩ := mod_nat (a := ns[i.toNat]) hm
        refine ⟨_, rfl, _, _, rfl, rfl, ⟨by decide, by decide, by decide⟩, _, _, rfl, rfl, _, rfl, ite2 (fun hb => ?_) (fun hb => ?_)⟩
        · refine ⟨_, rfl, _, rfl, _, _, rfl, rfl, divw_small _ hm hm2, _, rfl, R, _, 3, 3, rfl, rfl, upd_same, rfl, ?_⟩
          rw [upd_upd]
          refine ⟨_, rfl, .inl ⟨_, rfl, _, rfl, _, _, rfl, rfl, hm, ?_⟩⟩
          exact asI ej <| k j _ jm mr_upd ⟨ns, i + 1, _, _, by omega, upd_same, sqR_mr mr_upd hS⟩
        · refine ⟨_, rfl, .inl ⟨_, rfl, _, rfl, _, _, rfl, rfl, hm, ?_⟩⟩
          exact asI ej <| k j _ jm mr_upd ⟨ns, i + 1, _, r, by omega, upd_same, sqR_mr mr_upd hS⟩

/-! ### _law_pick: from a list or a tuple -/
-- slots: 0 _law_row, 1 _law_things
abbrev s_law_pick : Stmt := topS 74
theorem sc_law_pick : FnScope ["_law_row", "_law_things"] ["_law_row", "_law_things"] (C8.fnScope s_law_pick) := C8.fnScope_by (by decide +kernel)
def sp_law_pick (K : PySem.W.Frag) : Sp := fun vs H Q _ => ∃ R sc a xs, vs = [.ref R, .ref a] ∧ (SqL K H a xs ∨ SqT K H a xs) ∧ a ≠ R ∧ 0 < xs.length ∧ xs.length ≤ 1000 ∧ (∀ H', MR R H H' → SqL K H a xs ∨ SqT K H a xs → SqL K H' a xs ∨ SqT K H' a xs) ∧ Rw K H R sc ∧ ∀ (j : Nat) x H', xs[j]? = some x → MR R H H' → Rw K H' R sc → Q x H'
theorem cal_law_pick (D : C8.Def K mg "_law_pick" s_law_pick f fd) (df : fd.defaults = .none) (T : Tx K mg) (c_law_taken : C8.Cal P w K mg base 1 "_law_taken" (sp_law_taken K) []) : C8.Cal P w K mg base 2 "_law_pick" (sp_law_pick K) [] := by
  refine C8.cal0 D (D.fn.binds df (ps := ["_law_row", "_law_things"]) fun _ _ _ _ _ _ us hl => match us, hl with | [_, _], _ => rfl) .nil sc_law_pick (fun vs H Q E h => ?_) (fun cdv A outer s H vs Q E hr h => ?_)
  · obtain ⟨R, sc, a, xs, rfl, _⟩ := h
    rfl
  · obtain ⟨R, sc, a, xs, rfl, hs, hne, h0, h1, hk, hR, k⟩ := h
    refine ⟨_, (pss_one (ps_ret (pe_ix ixA (pv 1) (C8.pe_c c_law_taken hr (by decide) (by rfl) (pa_cons (pv 0) (pa_cons (pe_callB call_len_seq (by rfl) T.len_ (by decide +kernel) (pa_cons (pv 1) pa_nil)) pa_nil))) (fun _ _ => rfl)))), ?_⟩
    refine ⟨_, rfl, _, rfl, _, rfl, a, _, rfl, hs, ?_⟩
    refine ⟨R, sc, (xs.length : Int), rfl, by omega, by omega, hR, fun j H1 hj m1 hR1 => ?_⟩
    have hlt : j < xs.length := by omega
    rcases hk H1 m1 hs with h | h
    · exact .inl ⟨a, _, _, xs[j], rfl, rfl, h, atI_n (List.getElem?_eq_getElem hlt), k j _ _ (List.getElem?_eq_getElem hlt) m1 hR1⟩
    · exact .inr ⟨a, _, _, xs[j], rfl, rfl, h, atI_n (List.getElem?_eq_getElem hlt), k j _ _ (List.getElem?_eq_getElem hlt) m1 hR1⟩

/-! ### _law_fr -/
def Ab (x : Int) : Int := if 0 - x > x then 0 - x else x
theorem ab_nat (x : Int) : Ab x = ((x.natAbs : Nat) : Int) := by unfold Ab; split <;> omega
-- slots: 0 _law_top, 1 _law_low_here, 2 _law_a, 3 _law_b
abbrev s_law_fr : Stmt := topS 76
theorem sc_law_fr : FnScope ["_law_top", "_law_low_here", "_law_a", "_law_b"] ["_law_top", "_law_low_here"] (C8.fnScope s_law_fr) := C8.fnScope_by (by decide +kernel)
def sp_law_fr : Sp := fun vs H Q _ => ∃ t l n, vs = [.int t, .int l] ∧ 0 < l ∧ Bt n l ∧ n ≤ 9000 ∧ ∀ r H', Same H H' → Frac H' r (redF t l) → Q r H'
theorem cal_law_fr (D : C8.Def K mg "_law_fr" s_law_fr f fd) (df : fd.defaults = .none) (T : Tx K mg) : C8.Cal P w K mg base 1 "_law_fr" sp_law_fr [] := by
  refine C8.cal0 D (D.fn.binds df (ps := ["_law_top", "_law_low_here"]) fun _ _ _ _ _ _ us hl => match us, hl with | [_, _], _ => rfl) .nil sc_law_fr (fun vs H Q E h => ?_) (fun cdv A outer s H vs Q E hr h => ?_)
  · obtain ⟨t, l, n, rfl, _⟩ := h
    rfl
  · obtain ⟨t, l, n, rfl, hl, hb, h9, k⟩ := h
    obtain ⟨g0, gb⟩ := gcd_bt (t := t) hl hb
    refine ⟨_, (pss_cons (ps_par (i := 2) (j := 3) rfl sc_law_fr.nd rfl rfl (by decide) rfl rfl (pa_cons (pe_callB (call_max2 rfl) (by rfl) T.max_ (by decide +kernel) (pa_cons (pv 0) (pa_cons (pe_op op_sub pe_int (pv 0)) pa_nil))) (pa_cons (pe_callB (call_max2 rfl) (by rfl) T.max_ (by decide +kernel) (pa_cons (pv 1) (pa_cons (pe_op op_sub pe_int (pv 1)) pa_nil))) pa_nil)) (by rfl))
      (pss_cons (ps_while PassesOwn.never (pt_cmpR op_ne (pv 3) pe_int (nomark _))
        (pss_one (ps_par (i := 2) (j := 3) rfl sc_law_fr.nd rfl rfl (by decide) rfl rfl (pa_cons (pv 3) (pa_cons (pe_op op_mod (pv 2) (pv 3)) pa_nil)) (by rfl))))
      (pss_cons (ps_set (i := 2) sc_law_fr.nd rfl (.inl rfl) (pe_ifExp (pt_cmpR op_gt (pv 1) pe_int (nomark _)) (pv 2) (pe_op op_sub pe_int (pv 2))))
      (pss_one (ps_ret (pe_tup (pa_cons (pe_op op_fdivW (pv 0) (pv 2)) (pa_cons (pe_op op_fdivW (pv 1) (pv 2)) pa_nil)))))))), ?_⟩
    refine ⟨_, rfl, _, rfl, _, _, rfl, rfl, _, _, rfl, _, rfl, _, rfl, _, _, rfl, rfl, _, _, rfl, _, _, rfl, ?_⟩
    refine ⟨fun m σ' H' => H' = H ∧ ∃ a1 b1 : Nat, b1 = m ∧ σ' = [some (.int t), some (.int l), some (.int a1), some (.int b1)] ∧ Nat.gcd a1 b1 = Int.gcd t l, ⟨_, rfl, t.natAbs, l.natAbs, rfl, ?_, rfl⟩, ?_⟩
    · show [_, _, some (V.int (Ab t)), some (V.int (Ab l))] = _
      rw [ab_nat, ab_nat]
    · rintro m σ' H' ⟨rfl, a1, b1, rfl, rfl, hg⟩
      refine ⟨_, rfl, rfl, _, rfl, ite2 (fun hb => ?_) (fun hb => ?_)⟩
      · have hb0 : b1 ≠ 0 := by
          intro e
          subst e
          simp at hb
        refine ⟨fun σ' H2 => ∃ m', m' < b1 ∧ (H2 = H' ∧ ∃ a1 b1 : Nat, b1 = m' ∧ σ' = [some (.int t), some (.int l), some (.int a1), some (.int b1)] ∧ Nat.gcd a1 b1 = Int.gcd t l), fun σ' H' h => h, ?_⟩
        refine ⟨_, rfl, _, rfl, _, rfl, _, _, rfl, rfl, (by show (0 : Int) < (b1 : Int); omega), _, _, rfl, ?_⟩
        refine ⟨a1 % b1, Nat.mod_lt _ (by omega), rfl, b1, a1 % b1, rfl, rfl, ?_⟩
        rw [← hg, Nat.gcd_comm a1 b1, Nat.gcd_rec b1 a1, Nat.gcd_comm]
      · have hb0 : b1 = 0 := by
          by_cases e : b1 = 0
          · exact e
          · exact absurd (by simp [e]) hb
        subst hb0
        rw [Nat.gcd_zero_right] at hg
        subst hg
        refine ⟨_, rfl, _, _, rfl, rfl, _, rfl, itT hl ⟨_, rfl, ?_⟩⟩
        refine ⟨_, rfl, _, rfl, _, _, rfl, rfl, bt_div _ g0 gb h9, _, rfl, _, rfl, _, _, rfl, rfl, bt_div _ g0 gb h9, by show 2 ≤ sizeLine; decide, fun r nr => ?_⟩
        exact k _ _ (same_new nr) (frac_of upd_same)

/-! ### sizes of fractions -/
theorem bt_log {n : Nat} {x : Int} (h : Bt n x) : x.natAbs.log2 ≤ n := by
  by_cases h0 : x.natAbs = 0
  · rw [h0]
    exact Nat.zero_le _
  · exact Nat.le_of_lt ((Nat.log2_lt h0).mpr h)
theorem mulw_of {n m : Nat} {i j : Int} (h : Bt n i) (h' : Bt m j) (hn : n + m ≤ 900000) : CMulW i j := by
  have := bt_log h
  have := bt_log h'
  unfold CMulW
  omega
/-- a fraction whose numbers have not too many binary places -/
def FB (n m : Nat) (f : Int × Int) : Prop := 0 < f.2 ∧ Bt n f.1 ∧ Bt m f.2
theorem redF_fb {n m : Nat} {t l : Int} (h0 : 0 < l) (h1 : Bt n t) (h2 : Bt m l) : FB n m (redF t l) := by
  refine ⟨redF_pos h0, ?_, ?_⟩
  · have : (redF t l).1.natAbs ≤ t.natAbs := Int.natAbs_ediv_le_natAbs _ _
    unfold Bt at *
    omega
  · have := redF_le (t := t) h0
    have := redF_pos (t := t) h0
    unfold Bt at *
    omega
theorem FB.mono {n m n' m' : Nat} {f : Int × Int} (h : FB n m f) (hn : n ≤ n') (hm : m ≤ m') : FB n' m' f := ⟨h.1, h.2.1.mono hn, h.2.2.mono hm⟩
def plusF (a b : Int × Int) : Int × Int := redF (a.1 * b.2 + b.1 * a.2) (a.2 * b.2)
def timesF (a b : Int × Int) : Int × Int := redF (a.1 * b.1) (a.2 * b.2)
def belowF (a b : Int × Int) : Bool := decide (a.1 * b.2 < b.1 * a.2)
theorem plusF_fb {n m n' m' : Nat} {a b : Int × Int} (h : FB n m a) (h' : FB n' m' b) : FB (n + n' + m + m' + 1) (m + m') (plusF a b) :=
  redF_fb (Int.mul_pos h.1 h'.1) (Bt.add ((h.2.1.mul h'.2.2).mono (by omega)) ((h'.2.1.mul h.2.2).mono (by omega))) (h.2.2.mul h'.2.2)
theorem timesF_fb {n m n' m' : Nat} {a b : Int × Int} (h : FB n m a) (h' : FB n' m' b) : FB (n + n') (m + m') (timesF a b) :=
  redF_fb (Int.mul_pos h.1 h'.1) (h.2.1.mul h'.2.1) (h.2.2.mul h'.2.2)

/-! ### _law_plus, _law_times, _law_below -/
-- slots: 0 _law_one, 1 _law_other
abbrev s_law_plus : Stmt := topS 77
theorem sc_law_plus : FnScope ["_law_one", "_law_other"] ["_law_one", "_law_other"] (C8.fnScope s_law_plus) := C8.fnScope_by (by decide +kernel)
def sp_law_plus : Sp := fun vs H Q _ => ∃ v u a b n m n' m', vs = [v, u] ∧ Frac H v a ∧ Frac H u b ∧ FB n m a ∧ FB n' m' b ∧ n + n' + m + m' ≤ 400000 ∧ m + m' ≤ 9000 ∧ ∀ r H', Same H H' → Frac H' r (plusF a b) → Q r H'
theorem cal_law_plus (D : C8.Def K mg "_law_plus" s_law_plus f fd) (df : fd.defaults = .none) (T : Tx K mg) (c_law_fr : C8.Cal P w K mg base 1 "_law_fr" sp_law_fr []) : C8.Cal P w K mg base 2 "_law_plus" sp_law_plus [] := by
  refine C8.cal0 D (D.fn.binds df (ps := ["_law_one", "_law_other"]) fun _ _ _ _ _ _ us hl => match us, hl with | [_, _], _ => rfl) .nil sc_law_plus (fun vs H Q E h => ?_) (fun cdv A outer s H vs Q E hr h => ?_)
  · obtain ⟨v, u, a, b, n, m, n', m', rfl, _⟩ := h
    rfl
  · obtain ⟨v, u, a, b, n, m, n', m', rfl, hv, hu, fa, fb, h1, h2, k⟩ := h
    obtain ⟨p, rfl, hp⟩ := frac_at hv
    obtain ⟨q, rfl, hq⟩ := frac_at hu
    refine ⟨_, (pss_one (ps_ret (C8.pe_c c_law_fr hr (by decide) (by rfl) (pa_cons (pe_op op_add (pe_op op_mulW (pe_ix ixA (pv 0) pe_int (fun _ _ => rfl)) (pe_ix ixA (pv 1) pe_int (fun _ _ => rfl))) (pe_op op_mulW (pe_ix ixA (pv 1) pe_int (fun _ _ => rfl)) (pe_ix ixA (pv 0) pe_int (fun _ _ => rfl)))) (pa_cons (pe_op op_mulW (pe_ix ixA (pv 0) pe_int (fun _ _ => rfl)) (pe_ix ixA (pv 1) pe_int (fun _ _ => rfl))) pa_nil))))), ?_⟩
    refine ⟨_, rfl, .inr ⟨p, _, 0, _, rfl, rfl, sqt hp, atI_nat (j := 0) rfl, _, rfl, .inr ⟨q, _, 1, _, rfl, rfl, sqt hq, atI_nat (j := 1) rfl, _, _, rfl, rfl, mulw_of fa.2.1 fb.2.2 (by omega), ?_⟩⟩⟩
    refine ⟨_, rfl, .inr ⟨q, _, 0, _, rfl, rfl, sqt hq, atI_nat (j := 0) rfl, _, rfl, .inr ⟨p, _, 1, _, rfl, rfl, sqt hp, atI_nat (j := 1) rfl, _, _, rfl, rfl, mulw_of fb.2.1 fa.2.2 (by omega), _, _, rfl, rfl, ?_⟩⟩⟩
    refine ⟨_, rfl, .inr ⟨p, _, 1, _, rfl, rfl, sqt hp, atI_nat (j := 1) rfl, _, rfl, .inr ⟨q, _, 1, _, rfl, rfl, sqt hq, atI_nat (j := 1) rfl, _, _, rfl, rfl, mulw_of fa.2.2 fb.2.2 (by omega), ?_⟩⟩⟩
    exact ⟨_, _, m + m', rfl, Int.mul_pos fa.1 fb.1, fa.2.2.mul fb.2.2, h2, fun r H' s hr => k r H' s hr⟩
-- slots: 0 _law_one, 1 _law_other
abbrev s_law_times : Stmt := topS 78
theorem sc_law_times : FnScope ["_law_one", "_law_other"] ["_law_one", "_law_other"] (C8.fnScope s_law_times) := C8.fnScope_by (by decide +kernel)
def sp_law_times : Sp := fun vs H Q _ => ∃ v u a b n m n' m', vs = [v, u] ∧ Frac H v a ∧ Frac H u b ∧ FB n m a ∧ FB n' m' b ∧ n + n' + m + m' ≤ 400000 ∧ m + m' ≤ 9000 ∧ ∀ r H', Same H H' → Frac H' r (timesF a b) → Q r H'
theorem cal_law_times (D : C8.Def K mg "_law_times" s_law_times f fd) (df : fd.defaults = .none) (T : Tx K mg) (c_law_fr : C8.Cal P w K mg base 1 "_law_fr" sp_law_fr []) : C8.Cal P w K mg base 2 "_law_times" sp_law_times [] := by
  refine C8.cal0 D (D.fn.binds df (ps := ["_law_one", "_law_other"]) fun _ _ _ _ _ _ us hl => match us, hl with | [_, _], _ => rfl) .nil sc_law_times (fun vs H Q E h => ?_) (fun cdv A outer s H vs Q E hr h => ?_)
  · obtain ⟨v, u, a, b, n, m, n', m', rfl, _⟩ := h
    rfl
  · obtain ⟨v, u, a, b, n, m, n', m', rfl, hv, hu, fa, fb, h1, h2, k⟩ := h
    obtain ⟨p, rfl, hp⟩ := frac_at hv
    obtain ⟨q, rfl, hq⟩ := frac_at hu
    refine ⟨_, (pss_one (ps_ret (C8.pe_c c_law_fr hr (by decide) (by rfl) (pa_cons (pe_op op_mulW (pe_ix ixA (pv 0) pe_int (fun _ _ => rfl)) (pe_ix ixA (pv 1) pe_int (fun _ _ => rfl))) (pa_cons (pe_op op_mulW (pe_ix ixA (pv 0) pe_int (fun _ _ => rfl)) (pe_ix ixA (pv 1) pe_int (fun _ _ => rfl))) pa_nil))))), ?_⟩
    refine ⟨_, rfl, .inr ⟨p, _, 0, _, rfl, rfl, sqt hp, atI_nat (j := 0) rfl, _, rfl, .inr ⟨q, _, 0, _, rfl, rfl, sqt hq, atI_nat (j := 0) rfl, _, _, rfl, rfl, mulw_of fa.2.1 fb.2.1 (by omega), ?_⟩⟩⟩
    refine ⟨_, rfl, .inr ⟨p, _, 1, _, rfl, rfl, sqt hp, atI_nat (j := 1) rfl, _, rfl, .inr ⟨q, _, 1, _, rfl, rfl, sqt hq, atI_nat (j := 1) rfl, _, _, rfl, rfl, mulw_of fa.2.2 fb.2.2 (by omega), ?_⟩⟩⟩
    exact ⟨_, _, m + m', rfl, Int.mul_pos fa.1 fb.1, fa.2.2.mul fb.2.2, h2, fun r H' s hr => k r H' s hr⟩
-- slots: 0 _law_one, 1 _law_other
abbrev s_law_below : Stmt := topS 79
theorem sc_law_below : FnScope ["_law_one", "_law_other"] ["_law_one", "_law_other"] (C8.fnScope s_law_below) := C8.fnScope_by (by decide +kernel)
def sp_law_below : Sp := fun vs H Q _ => ∃ v u a b n m n' m', vs = [v, u] ∧ Frac H v a ∧ Frac H u b ∧ FB n m a ∧ FB n' m' b ∧ n + n' + m + m' ≤ 400000 ∧ Q (.bl (belowF a b)) H
theorem cal_law_below (D : C8.Def K mg "_law_below" s_law_below f fd) (df : fd.defaults = .none) (T : Tx K mg) : C8.Cal P w K mg base 1 "_law_below" sp_law_below [] := by
  refine C8.cal0 D (D.fn.binds df (ps := ["_law_one", "_law_other"]) fun _ _ _ _ _ _ us hl => match us, hl with | [_, _], _ => rfl) .nil sc_law_below (fun vs H Q E h => ?_) (fun cdv A outer s H vs Q E hr h => ?_)
  · obtain ⟨v, u, a, b, n, m, n', m', rfl, _⟩ := h
    rfl
  · obtain ⟨v, u, a, b, n, m, n', m', rfl, hv, hu, fa, fb, h1, k⟩ := h
    obtain ⟨p, rfl, hp⟩ := frac_at hv
    obtain ⟨q, rfl, hq⟩ := frac_at hu
    refine ⟨_, (pss_one (ps_ret (pe_cmpR op_lt (pe_op op_mulW (pe_ix ixA (pv 0) pe_int (fun _ _ => rfl)) (pe_ix ixA (pv 1) pe_int (fun _ _ => rfl))) (pe_op op_mulW (pe_ix ixA (pv 1) pe_int (fun _ _ => rfl)) (pe_ix ixA (pv 0) pe_int (fun _ _ => rfl))) (nomark _)))), ?_⟩
    refine ⟨_, rfl, .inr ⟨p, _, 0, _, rfl, rfl, sqt hp, atI_nat (j := 0) rfl, _, rfl, .inr ⟨q, _, 1, _, rfl, rfl, sqt hq, atI_nat (j := 1) rfl, _, _, rfl, rfl, mulw_of fa.2.1 fb.2.2 (by omega), ?_⟩⟩⟩
    exact ⟨_, rfl, .inr ⟨q, _, 0, _, rfl, rfl, sqt hq, atI_nat (j := 0) rfl, _, rfl, .inr ⟨p, _, 1, _, rfl, rfl, sqt hp, atI_nat (j := 1) rfl, _, _, rfl, rfl, mulw_of fb.2.1 fa.2.2 (by omega), _, _, rfl, rfl, k⟩⟩⟩

/-! ### _law_power -/
-- slots: 0 _law_one, 1 _law_many, 2 _law_found, 3 _law_turn
abbrev s_law_power : Stmt := topS 80
theorem sc_law_power : FnScope ["_law_one", "_law_many", "_law_found", "_law_turn"] ["_law_one", "_law_many"] (C8.fnScope s_law_power) := C8.fnScope_by (by decide +kernel)
def sp_law_power : Sp := fun vs H Q _ => ∃ (i : Int) (n : Nat), vs = [.int i, .int (n : Int)] ∧ Sm i ∧ n ≤ 1000 ∧ Q (.int (i ^ n)) H
theorem cal_law_power (D : C8.Def K mg "_law_power" s_law_power f fd) (df : fd.defaults = .none) (T : Tx K mg) : C8.Cal P w K mg base 1 "_law_power" sp_law_power [] := by
  refine C8.cal0 D (D.fn.binds df (ps := ["_law_one", "_law_many"]) fun _ _ _ _ _ _ us hl => match us, hl with | [_, _], _ => rfl) .nil sc_law_power (fun vs H Q E h => ?_) (fun cdv A outer s H vs Q E hr h => ?_)
  · obtain ⟨i, n, rfl, _⟩ := h
    rfl
  · obtain ⟨i, n, rfl, hs, hn, k⟩ := h
    refine ⟨_, (pss_cons (ps_set (i := 2) sc_law_power.nd rfl (.inl rfl) pe_int)
      (pss_cons (ps_for PassesOwn.never rfl (pi_range1 (by rfl) T.range_ (pa_cons (pv 1) pa_nil)) (pg_name (i := 3) sc_law_power.nd rfl (.inl rfl))
        (pss_one (ps_set (i := 2) sc_law_power.nd rfl (.inl rfl) (pe_op op_mul (pv 2) (pv 0)))))
      (pss_one (ps_ret (pv 2))))), ?_⟩
    refine ⟨_, rfl, _, rfl, by omega, by omega, for_range (n := n) (fun j σ' H' => H' = H ∧ ∃ x3, σ' = [some (.int i), some (.int (n : Int)), some (.int (i ^ j)), x3]) ⟨rfl, none, by rw [Int.pow_zero]; rfl⟩ ?_ ?_⟩
    · rintro j σ' H' hj ⟨rfl, x3, rfl⟩
      refine ⟨_, rfl, _, rfl, _, _, rfl, rfl, .inr hs, rfl, some (.int (0 + (j : Int))), ?_⟩
      rw [Int.pow_succ]
      rfl
    · rintro σ' H' ⟨rfl, x3, rfl⟩
      exact ⟨_, rfl, k⟩

/-! ### _law_whole -/
-- slots: 0 _law_numbers, 1 _law_found, 2 _law_one, 3 _law_a, 4 _law_b
abbrev s_law_whole : Stmt := topS 94
theorem sc_law_whole : FnScope ["_law_numbers", "_law_found", "_law_one", "_law_a", "_law_b"] ["_law_numbers"] (C8.fnScope s_law_whole) := C8.fnScope_by (by decide +kernel)
def sp_law_whole (K : PySem.W.Frag) : Sp := fun vs H Q _ => ∃ v p, vs = [v] ∧ Zs K H v p ∧ Q (.int (gcdL p)) H
theorem cal_law_whole (D : C8.Def K mg "_law_whole" s_law_whole f fd) (df : fd.defaults = .none) (T : Tx K mg) : C8.Cal P w K mg base 1 "_law_whole" (sp_law_whole K) [] := by
  refine C8.cal0 D (D.fn.binds df (ps := ["_law_numbers"]) fun _ _ _ _ _ _ us hl => match us, hl with | [_], _ => rfl) .nil sc_law_whole (fun vs H Q E h => ?_) (fun cdv A outer s H vs Q E hr h => ?_)
  · obtain ⟨v, p, rfl, _⟩ := h
    rfl
  · obtain ⟨v, p, rfl, ⟨a, rfl, hz⟩, q⟩ := h
    refine ⟨_, (pss_cons (ps_set (i := 1) sc_law_whole.nd rfl (.inl rfl) pe_int)
      (pss_cons (ps_for PassesOwn.never rfl (pi_seq (pv 0)) (pg_name (i := 2) sc_law_whole.nd rfl (.inl rfl))
        (pss_cons (ps_par (i := 3) (j := 4) rfl sc_law_whole.nd rfl rfl (by decide) rfl rfl (pa_cons (pe_callB (call_max2 rfl) (by rfl) T.max_ (by decide +kernel) (pa_cons (pv 2) (pa_cons (pe_op op_sub pe_int (pv 2)) pa_nil))) (pa_cons (pv 1) pa_nil)) (by rfl))
        (pss_cons (ps_while PassesOwn.never (pt_cmpR op_ne (pv 4) pe_int (nomark _))
          (pss_one (ps_par (i := 3) (j := 4) rfl sc_law_whole.nd rfl rfl (by decide) rfl rfl (pa_cons (pv 4) (pa_cons (pe_op op_mod (pv 3) (pv 4)) pa_nil)) (by rfl))))
        (pss_one (ps_set (i := 1) sc_law_whole.nd rfl (.inl rfl) (pv 3))))))
      (pss_one (ps_ret (pv 1))))), ?_⟩
    refine ⟨_, rfl, for_seq (H0 := H) hz (fun i σ' H' => H' = H ∧ ∃ x3 x4 x5, σ' = [some (.ref a), some (.int (gcdL (p.take i))), x3, x4, x5]) (fun i σ' H' h => by rw [h.1]; exact Same.refl H) ⟨rfl, none, none, none, rfl⟩ ?_ ?_⟩
    · rintro i x σ' H' hx ⟨rfl, x3, x4, x5, rfl⟩
      obtain ⟨c, hc, rfl⟩ := ints_get hx
      refine ⟨_, rfl, _, rfl, _, _, rfl, rfl, _, _, rfl, _, rfl, _, _, rfl, ?_⟩
      refine ⟨fun m σ' H'' => H'' = H' ∧ ∃ a1 b1 : Nat, b1 = m ∧ σ' = [some (.ref a), some (.int (gcdL (p.take i))), some (.int c), some (.int a1), some (.int b1)] ∧ Nat.gcd a1 b1 = gcdL (p.take (i + 1)), ⟨_, rfl, c.natAbs, gcdL (p.take i), rfl, ?_, (gcdL_take hc).symm⟩, ?_⟩
      · show [_, _, _, some (V.int (Ab c)), _] = _
        rw [ab_nat]
      · rintro m σ' H'' ⟨rfl, a1, b1, rfl, rfl, hg⟩
        refine ⟨_, rfl, rfl, _, rfl, ite2 (fun hb => ?_) (fun hb => ?_)⟩
        · have hb0 : b1 ≠ 0 := by
            intro e
            subst e
            simp at hb
          refine ⟨fun σ' H2 => ∃ m', m' < b1 ∧ (H2 = H'' ∧ ∃ a1 b1 : Nat, b1 = m' ∧ σ' = [some (.ref a), some (.int (gcdL (p.take i))), some (.int c), some (.int a1), some (.int b1)] ∧ Nat.gcd a1 b1 = gcdL (p.take (i + 1))), fun σ' H' h => h, ?_⟩
          refine ⟨_, rfl, _, rfl, _, rfl, _, _, rfl, rfl, (by show (0 : Int) < (b1 : Int); omega), _, _, rfl, ?_⟩
          refine ⟨a1 % b1, Nat.mod_lt _ (by omega), rfl, b1, a1 % b1, rfl, rfl, ?_⟩
          rw [← hg, Nat.gcd_comm a1 b1, Nat.gcd_rec b1 a1, Nat.gcd_comm]
        · have hb0 : b1 = 0 := by
            by_cases e : b1 = 0
            · exact e
            · exact absurd (by simp [e]) hb
          subst hb0
          rw [Nat.gcd_zero_right] at hg
          subst hg
          exact ⟨_, rfl, rfl, _, _, _, rfl⟩
    · rintro σ' H' ⟨rfl, x3, x4, x5, rfl⟩
      rw [List.length_map, List.take_length]
      exact ⟨_, rfl, q⟩
end
end EN
namespace EN
open PySem PySem.Spec PyProof.Rows L2
theorem k_int_tup : kitB "int" "tuple" = some false := by decide +kernel
theorem k_int_lst : kitB "int" "list" = some false := by decide +kernel
theorem k_int_str : kitB "int" "str" = some false := by decide +kernel
theorem k_tup_lst : kitB "tuple" "list" = some false := by decide +kernel
theorem any_int {K : PySem.W.Frag} : PySem.W.kitAny K (.type "int") [.type "tuple", .type "list"] = some false :=
  kitAny_cons (kit_ty k_int_tup) (fun _ => kitAny_cons (kit_ty k_int_lst) (fun _ => rfl) (fun z => by cases z)) (fun z => by cases z)
theorem any_tup {K : PySem.W.Frag} : PySem.W.kitAny K (.type "tuple") [.type "tuple", .type "list"] = some true :=
  kitAny_cons (b := true) (kit_ty k_tup_tup) (fun z => by cases z) (fun _ => rfl)
theorem cls_tl : Paired ClsV [.ty "tuple", .ty "list"] [.type "tuple", .type "list"] := .cons (.ty _) (.cons (.ty _) .nil)
theorem cut_last1 (xs : List V) : cutV xs none (some (-1)) = xs.dropLast := by
  unfold cutV
  rw [HT.sIx_none, show HT.sIx xs.length xs.length (some (-1)) = xs.length - 1 by
    show (if (-1 : Int) < 0 then ((-1 : Int) + (xs.length : Int)).toNat else min (-1 : Int).toNat xs.length) = xs.length - 1
    rw [if_pos (by decide)]
    omega, Nat.sub_zero, List.drop_zero, List.dropLast_eq_take]
theorem catA_of {K : PySem.W.Frag} {H : Hp} {a b : Addr} {xs ys : List V} {Q : VK} (ha : SqT K H a xs) (hb : SqT K H b ys) (hs : xs.length + ys.length ≤ 1000000) (q : ∀ c H', Same H H' → SqT K H' c (xs ++ ys) → Q (.ref c) H') : rCatA K (.ref a) (.ref b) H Q :=
  ⟨a, b, xs, ys, rfl, rfl, ha, hb, line_le hs, fun e => q b H (Same.refl H) (by rw [e, List.nil_append]; exact hb), fun _ e => q a H (Same.refl H) (by rw [e, List.append_nil]; exact ha), fun _ _ p np => q p _ (same_new np) (sqt upd_same)⟩
section
variable {P : Program} {w : World} {K : PySem.W.Frag} {mg : Str → Option Value} {base : Heap} {f : Addr} {fd : FuncData}

/-! ### _law_alike: ints, then tuples of ints -/
-- slots: 0 _law_found*, 1 _law_due*, 2 _law_k
abbrev s_law_alike : Stmt := topS 75
theorem sc_law_alike : FnScope ["_law_found", "_law_due", "_law_k"] ["_law_found", "_law_due"] (C8.fnScope s_law_alike) := C8.fnScope_by (by decide +kernel)
def sp_law_alike1 : Sp := fun vs H Q _ => ∃ i, vs = [.int i, .int i] ∧ ∀ H', Same H H' → Q (.bl true) H'
theorem cal_law_alike1 (D : C8.Def K mg "_law_alike" s_law_alike f fd) (df : fd.defaults = .none) (T : Tx K mg) : C8.Cal P w K mg base 1 "_law_alike" sp_law_alike1 [] := by
  refine C8.cal0 D (D.fn.binds df (ps := ["_law_found", "_law_due"]) fun _ _ _ _ _ _ us hl => match us, hl with | [_, _], _ => rfl) .nil sc_law_alike (fun vs H Q E h => ?_) (fun cdv A outer s H vs Q E hr h => ?_)
  · obtain ⟨i, rfl, _⟩ := h
    rfl
  · obtain ⟨i, rfl, k⟩ := h
    refine ⟨_, (pss_cons (ps_if (pt_val (pe_callB call_isiT (by rfl) T.isinstance_ (by decide +kernel) (pa_cons (pv 1) (pa_cons (pe_tup (pa_cons (pe_bltn (v := .ty "tuple") (by rfl) T.tuple_ (by decide +kernel) rfl) (pa_cons (pe_bltn (v := .ty "list") (by rfl) T.list_ (by decide +kernel) rfl) pa_nil))) pa_nil))))
        pss_never
        pss_nil)
      (pss_cons (ps_if (pw_or (pt_cmpR op_isN (pv 1) pe_non (nomark _)) (pw_or1 (pt_val (pe_callB call_isi (by rfl) T.isinstance_ (by decide +kernel) (pa_cons (pv 1) (pa_cons (pe_bltn (v := .ty "str") (by rfl) T.str_ (by decide +kernel) rfl) pa_nil)))))).pt
        (pss_one (ps_ret (pe_and (pe_cmpR op_eq (pv 0) (pv 1) (nomark _)) (pe_one (pe_cmpR op_eq (pe_callB call_isi (by rfl) T.isinstance_ (by decide +kernel) (pa_cons (pv 0) (pa_cons (pe_bltn (v := .ty "str") (by rfl) T.str_ (by decide +kernel) rfl) pa_nil))) (pe_callB call_isi (by rfl) T.isinstance_ (by decide +kernel) (pa_cons (pv 1) (pa_cons (pe_bltn (v := .ty "str") (by rfl) T.str_ (by decide +kernel) rfl) pa_nil))) (nomark _))))))
        pss_nil)
      (pss_one (ps_ret (pe_and (pe_callB call_isi (by rfl) T.isinstance_ (by decide +kernel) (pa_cons (pv 0) (pa_cons (pe_bltn (v := .ty "int") (by rfl) T.int_ (by decide +kernel) rfl) pa_nil))) (pe_and (pe_cmpR op_eq (pe_callB call_isi (by rfl) T.isinstance_ (by decide +kernel) (pa_cons (pv 0) (pa_cons (pe_bltn (v := .ty "bool") (by rfl) T.bool_ (by decide +kernel) rfl) pa_nil))) (pe_callB call_isi (by rfl) T.isinstance_ (by decide +kernel) (pa_cons (pv 1) (pa_cons (pe_bltn (v := .ty "bool") (by rfl) T.bool_ (by decide +kernel) rfl) pa_nil))) (nomark _)) (pe_one (pe_cmpR op_eq (pv 0) (pv 1) (nomark _))))))))), ?_⟩
    refine ⟨_, rfl, by show 2 ≤ sizeLine; decide, fun tp ntp => ⟨.int i, tp, _, _, _, false, rfl, upd_same, cls_tl, .base (.int i), any_int, _, rfl, iteF ?_⟩⟩
    refine ⟨_, rfl, rfl, _, rfl, itF (by intro z; cases z) ?_⟩
    refine ⟨_, rfl, ?_⟩
    refine isi_tc (.int i) k_int_str ?_
    refine ⟨_, rfl, iteF ?_⟩
    refine ⟨_, rfl, ?_⟩
    refine isi_tc (.int i) k_int_int ?_
    refine ⟨_, rfl, iteT ?_⟩
    refine ⟨_, rfl, ?_⟩
    refine isi_tc (.int i) k_int_bool ?_
    refine ⟨_, rfl, ?_⟩
    refine isi_tc (.int i) k_int_bool ?_
    refine ⟨rfl, _, rfl, itT rfl ⟨_, rfl, _, rfl, rfl, asT rfl (k _ (same_new ntp))⟩⟩
def sp_law_alike2 : Sp := fun vs H Q _ => ∃ v u p, vs = [v, u] ∧ Poly H v p ∧ Poly H u p ∧ p.length ≤ 1000 ∧ ∀ H', Same H H' → Q (.bl true) H'
theorem cal_law_alike2 (D : C8.Def K mg "_law_alike" s_law_alike f fd) (df : fd.defaults = .none) (T : Tx K mg) (c_law_alike : C8.Cal P w K mg base 1 "_law_alike" sp_law_alike1 []) : C8.Cal P w K mg base 2 "_law_alike" sp_law_alike2 [] := by
  refine C8.cal0 D (D.fn.binds df (ps := ["_law_found", "_law_due"]) fun _ _ _ _ _ _ us hl => match us, hl with | [_, _], _ => rfl) .nil sc_law_alike (fun vs H Q E h => ?_) (fun cdv A outer s H vs Q E hr h => ?_)
  · obtain ⟨v, u, p, rfl, _⟩ := h
    rfl
  · obtain ⟨v, u, p, rfl, hv, hu, hl, k⟩ := h
    obtain ⟨a, rfl, ha⟩ := poly_at hv
    obtain ⟨b, rfl, hb⟩ := poly_at hu
    refine ⟨_, (pss_cons (ps_if (pt_val (pe_callB call_isiT (by rfl) T.isinstance_ (by decide +kernel) (pa_cons (pv 1) (pa_cons (pe_tup (pa_cons (pe_bltn (v := .ty "tuple") (by rfl) T.tuple_ (by decide +kernel) rfl) (pa_cons (pe_bltn (v := .ty "list") (by rfl) T.list_ (by decide +kernel) rfl) pa_nil))) pa_nil))))
        (pss_cons (ps_if (pw_or (pt_not (pt_val (pe_callB call_isiT (by rfl) T.isinstance_ (by decide +kernel) (pa_cons (pv 0) (pa_cons (pe_tup (pa_cons (pe_bltn (v := .ty "tuple") (by rfl) T.tuple_ (by decide +kernel) rfl) (pa_cons (pe_bltn (v := .ty "list") (by rfl) T.list_ (by decide +kernel) rfl) pa_nil))) pa_nil))))) (pw_or1 (pt_cmpR op_ne (pe_callB call_isi (by rfl) T.isinstance_ (by decide +kernel) (pa_cons (pv 0) (pa_cons (pe_bltn (v := .ty "list") (by rfl) T.list_ (by decide +kernel) rfl) pa_nil))) (pe_callB call_isi (by rfl) T.isinstance_ (by decide +kernel) (pa_cons (pv 1) (pa_cons (pe_bltn (v := .ty "list") (by rfl) T.list_ (by decide +kernel) rfl) pa_nil))) (nomark _)))).pt
          (pss_one (ps_ret pe_bl))
          pss_nil)
        (pss_cons (ps_if (pt_cmpR op_ne (pe_callB call_len_seq (by rfl) T.len_ (by decide +kernel) (pa_cons (pv 0) pa_nil)) (pe_callB call_len_seq (by rfl) T.len_ (by decide +kernel) (pa_cons (pv 1) pa_nil)) (nomark _))
          (pss_one (ps_ret pe_bl))
          pss_nil)
        (pss_one (ps_ret (pe_cmpR (op_eqZ hr.units) (pe_lc (own := [("_law_k", 2)]) (by rfl) sc_law_alike.nd (pi_range1 (by rfl) T.range_ (pa_cons (pe_callB call_len_seq (by rfl) T.len_ (by decide +kernel) (pa_cons (pv 1) pa_nil)) pa_nil)) (blkOk_by (N := ["_law_found", "_law_due", "_law_k"]) (sc := C8.fnScope s_law_alike) (by decide +kernel)) (fun _ _ _ _ _ => (pg_name (i := 2) sc_law_alike.nd rfl (.inl rfl))) (fun _ _ _ _ _ => (pts_one (pt_not (pt_val (C8.pe_c c_law_alike hr (by decide) (by rfl) (pa_cons (pe_ix (ixB (K := K)) (pv 0) (pv 2) (fun _ _ => rfl)) (pa_cons (pe_ix (ixB (K := K)) (pv 1) (pv 2) (fun _ _ => rfl)) pa_nil))))))) (fun _ _ _ _ _ => (pv 2))) (pe_lst pa_nil) (nomark _))))))
        pss_nil)
      pss_never), ?_⟩
    refine ⟨_, rfl, by show 2 ≤ sizeLine; decide, fun tp ntp => ?_⟩
    have s1 := same_new (o := .tup [.ty "tuple", .ty "list"]) ntp
    refine ⟨.ref b, tp, _, _, _, true, rfl, upd_same, cls_tl, .base (.tup (s1 _ _ hb)), any_tup, _, rfl, iteT ?_⟩
    refine ⟨_, rfl, by show 2 ≤ sizeLine; decide, fun tq ntq => ?_⟩
    have s2 := s1.trans (same_new (o := .tup [.ty "tuple", .ty "list"]) ntq)
    refine ⟨.ref a, tq, _, _, _, true, rfl, upd_same, cls_tl, .base (.tup (s2 _ _ ha)), any_tup, _, rfl, iteF ?_⟩
    refine ⟨_, rfl, ?_⟩
    refine isi_tc (.tup (s2 _ _ ha)) k_tup_lst ?_
    refine ⟨_, rfl, ?_⟩
    refine isi_tc (.tup (s2 _ _ hb)) k_tup_lst ?_
    refine ⟨rfl, _, rfl, itNF rfl ?_⟩
    refine ⟨_, rfl, a, _, rfl, .inr (sqt (s2 _ _ ha)), _, rfl, b, _, rfl, .inr (sqt (s2 _ _ hb)), rfl, _, rfl, itNF rfl ?_⟩
    refine ⟨_, rfl, b, _, rfl, .inr (sqt (s2 _ _ hb)), ?_⟩
    rw [List.length_map]
    refine ⟨_, rfl, by omega, by omega, lc_filt (r := rI_) (G := fun _ => True) walk_range (fun _ _ => trivial) (by omega) (fun _ => false) (fun i => 0) (fun m y H3 H3' hm s3 hy C B hC hB => ?_) fun l3 H3 s3 hv3 => ?_⟩
    · obtain ⟨rfl, rfl⟩ := hy
      have hm' : m < p.length := by omega
      have e0 : (fun i : Nat => V.int (0 + (i : Int))) m = .int (m : Int) := congrArg V.int (Int.zero_add _)
      rw [e0]
      refine ⟨rfl, _, rfl, _, rfl, .inr ⟨a, _, _, .int (coef p m), rfl, rfl, sqt (s3 _ _ (s2 _ _ ha)), atI_n (get_intc hm'), ?_⟩⟩
      refine ⟨_, rfl, _, rfl, .inr ⟨b, _, _, .int (coef p m), rfl, rfl, sqt (s3 _ _ (s2 _ _ hb)), atI_n (get_intc hm'), ?_⟩⟩
      exact ⟨_, rfl, fun H4 s4 => ⟨_, rfl, iteF (hB rfl _ s4)⟩⟩
    · have h3 := lst_ref hv3
      rw [show ((List.range (p.length : Int).toNat).filter fun _ => false) = [] from List.filter_eq_nil_iff.mpr fun _ _ => by simp] at h3
      refine ⟨Nat.zero_le _, fun l4 nl4 => ?_⟩
      have s4 := same_new (o := .lst []) nl4
      exact ⟨l3, l4, [], [], rfl, rfl, .inl ⟨sql (s4 _ _ h3), sql upd_same⟩, asT rfl (k _ (s2.trans (s3.trans s4)))⟩

/-! ### _law_p_plus -/
-- slots: 0 _law_one, 1 _law_other, 2 _law_many, 3 _law_found, 4 _law_at_here, 5 _law_turn
abbrev s_law_p_plus : Stmt := topS 81
theorem sc_law_p_plus : FnScope ["_law_one", "_law_other", "_law_many", "_law_found", "_law_at_here", "_law_turn"] ["_law_one", "_law_other", "_law_many"] (C8.fnScope s_law_p_plus) := C8.fnScope_by (by decide +kernel)
def sp_law_p_plus (K : PySem.W.Frag) : Sp := fun vs H Q _ => ∃ v u p q m, vs = [v, u, .int m] ∧ Zs K H v p ∧ Zs K H u q ∧ p.length ≤ 100000 ∧ q.length ≤ 100000 ∧ (Sm m ∨ ∀ c ∈ q, Sm c) ∧ ∀ r H', Same H H' → Poly H' r (plusL p q m) → Q r H'
theorem cal_law_p_plus (D : C8.Def K mg "_law_p_plus" s_law_p_plus f fd) (df : fd.defaults = .none) (T : Tx K mg) : C8.Cal P w K mg base 1 "_law_p_plus" (sp_law_p_plus K) [] := by
  refine C8.cal0 D (D.fn.binds df (ps := ["_law_one", "_law_other", "_law_many"]) fun _ _ _ _ _ _ us hl => match us, hl with | [_, _, _], _ => rfl) .nil sc_law_p_plus (fun vs H Q E h => ?_) (fun cdv A outer s H vs Q E hr h => ?_)
  · obtain ⟨v, u, p, q, m, rfl, _⟩ := h
    rfl
  · obtain ⟨v, u, p, q, m, rfl, ⟨a, rfl, ha⟩, ⟨b, rfl, hb⟩, lp, lq, hm, k⟩ := h
    refine ⟨_, (pss_cons (ps_set (i := 3) sc_law_p_plus.nd rfl (.inl rfl) (pe_op op_cat (pe_callTy call_list_of (by rfl) T.list_ (by decide +kernel) (pa_cons (pv 0) pa_nil)) (pe_op op_rep (pe_lst (pa_cons pe_int pa_nil)) (pe_callB (call_max2 rfl) (by rfl) T.max_ (by decide +kernel) (pa_cons pe_int (pa_cons (pe_op op_sub (pe_callB call_len_seq (by rfl) T.len_ (by decide +kernel) (pa_cons (pv 1) pa_nil)) (pe_callB call_len_seq (by rfl) T.len_ (by decide +kernel) (pa_cons (pv 0) pa_nil))) pa_nil))))))
      (pss_cons (ps_for PassesOwn.never rfl (pi_range1 (by rfl) T.range_ (pa_cons (pe_callB call_len_seq (by rfl) T.len_ (by decide +kernel) (pa_cons (pv 1) pa_nil)) pa_nil)) (pg_name (i := 4) sc_law_p_plus.nd rfl (.inl rfl))
        (pss_one (ps_asg (pe_op op_add (pe_ix ixA (pv 3) (pv 4) (fun _ _ => rfl)) (pe_op op_mul (pv 2) (pe_ix ixA (pv 1) (pv 4) (fun _ _ => rfl)))) (pg_sub (pv 3) (pv 4) set_list))))
      (pss_cons (ps_for PassesOwn.never rfl (pi_list (pe_callTy call_list_of (by rfl) T.list_ (by decide +kernel) (pa_cons (pv 3) pa_nil))) (pg_name (i := 5) sc_law_p_plus.nd rfl (.inl rfl))
        (pss_one (ps_if (pw_and (pt_cmpR (op_neZ hr.units) (pv 3) (pe_lst pa_nil) (nomark _)) (pw_and1 (pt_cmpR op_eq (pe_ix ixA (pv 3) (pe_un un_neg pe_int) (fun _ _ => rfl)) pe_int (nomark _)))).pt
          (pss_one (ps_set (i := 3) sc_law_p_plus.nd rfl (.inl rfl) (pe_slice sl_list (pv 3) po_none (po_some (pe_un un_neg pe_int)))))
          pss_nil)))
      (pss_one (ps_ret (pe_callTy call_tuple_of (by rfl) T.tuple_ (by decide +kernel) (pa_cons (pv 3) pa_nil))))))), ?_⟩
    refine ⟨_, rfl, a, _, rfl, ha, fun l1 n1 => ?_⟩
    have s1 : Same H (upd H l1 (.lst (p.map V.int))) := same_new n1
    refine ⟨by show 1 ≤ sizeLine; decide, fun l2 n2 => ?_⟩
    have s2 := s1.trans (same_new (o := .lst [V.int 0]) n2)
    have n12 : l1 ≠ l2 := ne_of_none (upd_same (H := H)) n2
    have hb2 := hb.elim (fun h => Or.inl (same_l s2 h)) fun h => Or.inr (same_t s2 h)
    have ha2 := ha.elim (fun h => Or.inl (same_l s2 h)) fun h => Or.inr (same_t s2 h)
    refine ⟨_, rfl, b, q.map V.int, rfl, hb2, ⟨_, rfl, a, p.map V.int, rfl, ha2, _, _, rfl, rfl, _, _, rfl, ?_⟩⟩
    rw [List.length_map, List.length_map]
    have ek : (if ((q.length : Int) - (p.length : Int)) > 0 then ((q.length : Int) - (p.length : Int)) else 0) = ((q.length - p.length : Nat) : Int) := by split <;> omega
    rw [ek]
    refine ⟨l2, _, _, rfl, rfl, upd_same, by omega, by omega, ?_, fun l3 n3 => ?_⟩
    · show 1 * _ ≤ _
      exact line_le (by omega)
    have n13 : l1 ≠ l3 := ne_of_none (by rw [upd_ne n12]; exact upd_same) n3
    refine ⟨l1, l3, p.map V.int, _, rfl, rfl, by rw [upd_ne n13, upd_ne n12]; exact upd_same, upd_same, ?_, fun l4 n4 => ?_⟩
    · rw [rep1, List.length_replicate, List.length_map]
      exact line_le (by omega)
    have n4' : H l4 = none := (s2.trans (same_new n3)).free n4
    have s4 := (s2.trans (same_new n3)).trans (same_new (o := .lst (p.map V.int ++ (List.replicate ((q.length - p.length : Nat) : Int).toNat [V.int 0]).flatten)) n4)
    have hb4 := hb.elim (fun h => Or.inl (same_l s4 h)) fun h => Or.inr (same_t s4 h)
    -- the additions
    refine ⟨_, rfl, b, q.map V.int, rfl, hb4, ?_⟩
    rw [List.length_map]
    refine ⟨_, rfl, by omega, by omega, for_range (n := q.length) (fun i σ' H' => Same H H' ∧ ∃ (ys : List Int) (x4 : Option V), σ' = [some (.ref a), some (.ref b), some (.int m), some (.ref l4), x4, none] ∧ H' l4 = some (.lst (ys.map V.int)) ∧ ys.length = max p.length q.length ∧ ∀ k, coef ys k = coef p k + (if k < i then m * coef q k else 0))
      ⟨s4, p ++ List.replicate (q.length - p.length) 0, none, rfl, ?_, ?_, ?_⟩ ?_ ?_⟩
    · rw [upd_same, rep1, List.map_append, List.map_replicate]
      rfl
    · rw [List.length_append, List.length_replicate]
      omega
    · intro k
      rw [coef_append, coef_replicate]
      by_cases hk : k < p.length
      · rw [if_pos hk]; simp
      · rw [if_neg hk, coef_ge (l := p) (by omega)]; simp
    · rintro i σ' H' hi ⟨sm, ys, x4, rfl, hl, hlen, hc⟩
      have hiy : i < ys.length := by omega
      have hb' := hb.elim (fun h => Or.inl (same_l sm h)) fun h => Or.inr (same_t sm h)
      have e0 : V.int (0 + (i : Int)) = .int (i : Int) := congrArg V.int (Int.zero_add _)
      rw [e0]
      refine ⟨_, rfl, _, rfl, .inl ⟨l4, _, _, .int (coef ys i), rfl, rfl, sql hl, atI_n (get_intc hiy), _, rfl, _, rfl, _, rfl, ?_⟩⟩
      have goal : ∀ {F : VK}, (∀ y, y = V.int (coef q i) → F y H') → ixR K (.ref b) (.int (i : Int)) H' F := fun {F} hF => by
        rcases hb' with h | h
        · exact .inl ⟨b, _, _, _, rfl, rfl, h, atI_n (get_intc hi), hF _ rfl⟩
        · exact .inr ⟨b, _, _, _, rfl, rfl, h, atI_n (get_intc hi), hF _ rfl⟩
      refine goal fun y ey => ?_
      subst ey
      refine ⟨_, _, rfl, rfl, ?_, _, _, rfl, rfl, ?_⟩
      · rcases hm with hm | hm
        · exact .inl hm
        · exact .inr (hm _ (List.mem_of_getElem? (get_coef hi)))
      · refine ⟨_, rfl, _, rfl, l4, ys.map V.int, i, i, rfl, rfl, hl, ixN_nat (by rw [List.length_map]; exact hiy), ?_⟩
        refine ⟨same_mut sm n4', ys.set i (coef ys i + m * coef q i), _, rfl, ?_, by rw [List.length_set]; exact hlen, fun k => ?_⟩
        · rw [upd_same, ints_set]
        · rw [coef_set _ _ _ _ hiy]
          by_cases hk : k = i
          · subst hk
            rw [if_pos rfl, if_pos (by omega), hc, if_neg (by omega)]
            simp
          · rw [if_neg hk, hc]
            by_cases h2 : k < i
            · rw [if_pos h2, if_pos (by omega)]
            · rw [if_neg h2, if_neg (by omega)]
    · rintro σ' H' ⟨sm, zs, x4, rfl, hl, hlen, hc⟩
      have ecut : plusL p q m = cutL zs := (cutL_ext fun k => by
        rw [hc, coef_addL]
        by_cases hk : k < q.length
        · rw [if_pos hk]
        · rw [if_neg hk, coef_ge (l := q) (by omega), Int.mul_zero]).symm
      -- the cut
      refine ⟨_, rfl, l4, _, rfl, .inl (sql hl), fun l5 n5 => ?_⟩
      have s5 := same_new (o := .lst (zs.map V.int)) n5
      refine ⟨l5, rfl, ⟨_, sql upd_same⟩, ?_⟩
      refine for_lstS (H0 := upd H' l5 (.lst (zs.map V.int))) (sql upd_same) (fun i σ' H2 => Same (upd H' l5 (.lst (zs.map V.int))) H2 ∧ ∃ l ys x5, σ' = [some (.ref a), some (.ref b), some (.int m), some (.ref l), x4, x5] ∧ H2 l = some (.lst (List.map V.int ys)) ∧ cutL ys = cutL zs ∧ (ys = cutL zs ∨ ys.length + i = zs.length)) (fun _ _ _ h => h.1) ⟨Same.refl _, l4, zs, none, rfl, s5 _ _ hl, rfl, .inr rfl⟩ ?_ ?_
      · rintro i x σ2 H2 hx ⟨sm2, l, ys, x5, rfl, hly, hcy, hdone⟩
        have hi : i < zs.length := by
          have := (List.getElem?_eq_some_iff.mp hx).1
          rw [List.length_map] at this
          exact this
        refine ⟨_, rfl, Nat.zero_le _, fun e0 ne0 => ?_⟩
        have se := same_new (o := .lst []) ne0
        refine ⟨l, e0, ys, [], rfl, rfl, .inl ⟨sql (se _ _ hly), sql upd_same⟩, _, rfl, ?_⟩
        by_cases hne : ys = []
        · refine itNF hne ?_
          refine ⟨sm2.trans se, l, ys, _, rfl, se _ _ hly, hcy, .inl ?_⟩
          rw [← hcy, hne]
          rfl
        · refine itNT hne ?_
          refine ⟨_, rfl, _, rfl, ix_last (.inl (sql (se _ _ hly))) hne ⟨rfl, _, rfl, ?_⟩⟩
          have elast : lastL ys = ys.getLast hne := by rw [lastL, List.getLastD_eq_getLast?, List.getLast?_eq_some_getLast hne]; rfl
          by_cases h0 : lastL ys = 0
          · refine itT (veq h0) ?_
            refine ⟨_, rfl, _, rfl, _, rfl, l, _, rfl, sql (se _ _ hly), fun p6 n6 => ?_⟩
            refine ⟨(sm2.trans se).trans (same_new n6), p6, ys.dropLast, _, rfl, ?_, ?_, ?_⟩
            · rw [upd_same, cut_last1, List.map_dropLast]
            · rw [cutL_drop hne (by rw [← elast]; exact h0), hcy]
            · rcases hdone with h | h
              · exfalso
                have := cut_cut zs
                rw [← h] at this
                exact this (by rw [List.getLast?_eq_some_getLast hne, ← elast, h0])
              · right
                have := List.length_pos_iff.mpr hne
                rw [List.length_dropLast]
                omega
          · refine itF (vne h0) ?_
            refine ⟨sm2.trans se, l, ys, _, rfl, se _ _ hly, hcy, .inl ?_⟩
            rw [← hcy]
            exact (cutL_done hne (by rw [← elast]; exact h0)).symm
      · rintro σ2 H2 ⟨sm2, l, ys, x5, rfl, hly, hcy, hdone⟩
        have hfin : ys = cutL zs := by
          rcases hdone with h | h
          · exact h
          · rw [List.length_map] at h
            have : ys = [] := List.eq_nil_of_length_eq_zero (by omega)
            rw [this] at hcy
            rw [this, ← hcy]
            rfl
        refine ⟨_, rfl, l, _, rfl, .inl ⟨sql hly, fun t nt => k _ _ ((sm.trans (s5.trans sm2)).trans (same_new nt)) (poly_of ?_)⟩⟩
        rw [upd_same, ecut, hfin]

/-! ### _law_poly -/
-- slots: 0 _law_numbers, 1 _law_found, 2 _law_turn
abbrev s_law_poly : Stmt := topS 85
theorem sc_law_poly : FnScope ["_law_numbers", "_law_found", "_law_turn"] ["_law_numbers"] (C8.fnScope s_law_poly) := C8.fnScope_by (by decide +kernel)
def sp_law_poly (K : PySem.W.Frag) : Sp := fun vs H Q _ => ∃ v p, vs = [v] ∧ Zs K H v p ∧ p.length ≤ 1000 ∧ ∀ r H', Same H H' → Poly H' r (cutL p) → Q r H'
theorem cal_law_poly (D : C8.Def K mg "_law_poly" s_law_poly f fd) (df : fd.defaults = .none) (T : Tx K mg) : C8.Cal P w K mg base 1 "_law_poly" (sp_law_poly K) [] := by
  refine C8.cal0 D (D.fn.binds df (ps := ["_law_numbers"]) fun _ _ _ _ _ _ us hl => match us, hl with | [_], _ => rfl) .nil sc_law_poly (fun vs H Q E h => ?_) (fun cdv A outer s H vs Q E hr h => ?_)
  · obtain ⟨v, p, rfl, _⟩ := h
    rfl
  · obtain ⟨v, zs, rfl, ⟨a, rfl, ha⟩, lp, k⟩ := h
    refine ⟨_, (pss_cons (ps_set (i := 1) sc_law_poly.nd rfl (.inl rfl) (pe_callTy call_list_of (by rfl) T.list_ (by decide +kernel) (pa_cons (pv 0) pa_nil)))
      (pss_cons (ps_for PassesOwn.never rfl (pi_seq (pv 0)) (pg_name (i := 2) sc_law_poly.nd rfl (.inl rfl))
        (pss_one (ps_if (pw_and (pt_cmpR (op_neZ hr.units) (pv 1) (pe_lst pa_nil) (nomark _)) (pw_and1 (pt_cmpR op_eq (pe_ix ixA (pv 1) (pe_un un_neg pe_int) (fun _ _ => rfl)) pe_int (nomark _)))).pt
          (pss_one (ps_set (i := 1) sc_law_poly.nd rfl (.inl rfl) (pe_slice sl_list (pv 1) po_none (po_some (pe_un un_neg pe_int)))))
          pss_nil)))
      (pss_one (ps_ret (pe_callTy call_tuple_of (by rfl) T.tuple_ (by decide +kernel) (pa_cons (pv 1) pa_nil)))))), ?_⟩
    refine ⟨_, rfl, a, _, rfl, ha, fun l1 n1 => ?_⟩
    refine ⟨_, rfl, for_seq (H0 := H) ha (fun i σ' H2 => Same H H2 ∧ ∃ l ys x2, σ' = [some (.ref a), some (.ref l), x2] ∧ H2 l = some (.lst (List.map V.int ys)) ∧ cutL ys = cutL zs ∧ (ys = cutL zs ∨ ys.length + i = zs.length)) (fun _ _ _ h => h.1) ⟨same_new n1, l1, zs, none, rfl, upd_same, rfl, .inr rfl⟩ ?_ ?_⟩
    · rintro i x σ2 H2 hx ⟨sm2, l, ys, x5, rfl, hly, hcy, hdone⟩
      have hi : i < zs.length := by
        have := (List.getElem?_eq_some_iff.mp hx).1
        rw [List.length_map] at this
        exact this
      refine ⟨_, rfl, Nat.zero_le _, fun e0 ne0 => ?_⟩
      have se := same_new (o := .lst []) ne0
      refine ⟨l, e0, ys, [], rfl, rfl, .inl ⟨sql (se _ _ hly), sql upd_same⟩, _, rfl, ?_⟩
      by_cases hne : ys = []
      · refine itNF hne ?_
        refine ⟨sm2.trans se, l, ys, _, rfl, se _ _ hly, hcy, .inl ?_⟩
        rw [← hcy, hne]
        rfl
      · refine itNT hne ?_
        refine ⟨_, rfl, _, rfl, ix_last (.inl (sql (se _ _ hly))) hne ⟨rfl, _, rfl, ?_⟩⟩
        have elast : lastL ys = ys.getLast hne := by rw [lastL, List.getLastD_eq_getLast?, List.getLast?_eq_some_getLast hne]; rfl
        by_cases h0 : lastL ys = 0
        · refine itT (veq h0) ?_
          refine ⟨_, rfl, _, rfl, _, rfl, l, _, rfl, sql (se _ _ hly), fun p6 n6 => ?_⟩
          refine ⟨(sm2.trans se).trans (same_new n6), p6, ys.dropLast, _, rfl, ?_, ?_, ?_⟩
          · rw [upd_same, cut_last1, List.map_dropLast]
          · rw [cutL_drop hne (by rw [← elast]; exact h0), hcy]
          · rcases hdone with h | h
            · exfalso
              have := cut_cut zs
              rw [← h] at this
              exact this (by rw [List.getLast?_eq_some_getLast hne, ← elast, h0])
            · right
              have := List.length_pos_iff.mpr hne
              rw [List.length_dropLast]
              omega
        · refine itF (vne h0) ?_
          refine ⟨sm2.trans se, l, ys, _, rfl, se _ _ hly, hcy, .inl ?_⟩
          rw [← hcy]
          exact (cutL_done hne (by rw [← elast]; exact h0)).symm
    · rintro σ2 H2 ⟨sm2, l, ys, x5, rfl, hly, hcy, hdone⟩
      have hfin : ys = cutL zs := by
        rcases hdone with h | h
        · exact h
        · rw [List.length_map] at h
          have : ys = [] := List.eq_nil_of_length_eq_zero (by omega)
          rw [this] at hcy
          rw [this, ← hcy]
          rfl
      refine ⟨_, rfl, l, _, rfl, .inl ⟨sql hly, fun t nt => k _ _ (sm2.trans (same_new nt)) (poly_of ?_)⟩⟩
      rw [upd_same, hfin]
end
end EN
namespace EN
open PySem PySem.Spec PyProof.Rows L2
theorem times_step (p q : List Int) (i : Nat) (h : i < p.length) : plusL (cutL (mulL (p.take i) q)) (List.replicate i 0 ++ q) (coef p i) = cutL (mulL (p.take (i + 1)) q) := by
  refine cut_ext (cut_cut _) (cut_cut _) fun k => ?_
  rw [coef_plusL, coef_cut, coef_cut, take_snoc h, coef_mulL_snoc, List.length_take, Nat.min_eq_left (Nat.le_of_lt h), coef_append, List.length_replicate, coef_replicate]
  by_cases hk : k < i
  · rw [if_pos hk, if_neg (by omega)]; simp
  · rw [if_neg hk, if_pos (by omega)]
theorem bt_of {x : Int} {m : Nat} (n : Nat) (h : x.natAbs ≤ m) (hm : m < 2 ^ n) : Bt n x := Bt.small n h hm
def lawAt (p : List Int) (s : Int × Int) : Int × Int := p.reverse.foldl (fun f c => plusF (timesF f s) (c, 1)) (0, 1)
theorem lawAt_fb {p : List Int} {s : Int × Int} (hs : FB 4 4 s) (hp : ∀ c ∈ p, Sm c) (hl : p.length ≤ 20) : ∀ i, i ≤ p.length → FB (1 + 200 * i) (1 + 5 * i) ((p.reverse.take i).foldl (fun f c => plusF (timesF f s) (c, 1)) (0, 1)) := fun i => by
  induction i with
  | zero => exact fun _ => ⟨by show (0 : Int) < 1; decide, by show Bt _ (0 : Int); unfold Bt; decide, by show Bt _ (1 : Int); unfold Bt; decide⟩
  | succ i ih =>
    intro h
    have hi : i < p.reverse.length := by rw [List.length_reverse]; omega
    rw [foldl_take (List.getElem?_eq_getElem hi)]
    have hc : Sm p.reverse[i] := hp _ (List.mem_reverse.mp (List.getElem_mem hi))
    have h1 := plusF_fb (timesF_fb (ih (by omega)) hs) (show FB 64 1 (p.reverse[i], 1) from ⟨by show (0 : Int) < 1; decide, sm_bt hc, by show Bt _ (1 : Int); unfold Bt; decide⟩)
    exact h1.mono (by omega) (by omega)
section
variable {P : Program} {w : World} {K : PySem.W.Frag} {mg : Str → Option Value} {base : Heap} {f : Addr} {fd : FuncData}

/-! ### _law_p_times -/
-- slots: 0 _law_one, 1 _law_other, 2 _law_found, 3 _law_at_here
abbrev s_law_p_times : Stmt := topS 82
theorem sc_law_p_times : FnScope ["_law_one", "_law_other", "_law_found", "_law_at_here"] ["_law_one", "_law_other"] (C8.fnScope s_law_p_times) := C8.fnScope_by (by decide +kernel)
def sp_law_p_times : Sp := fun vs H Q _ => ∃ v u p q, vs = [v, u] ∧ Poly H v p ∧ Poly H u q ∧ p.length ≤ 500 ∧ q.length ≤ 1000 ∧ (∀ c ∈ p, Sm c) ∧ ∀ r H', Same H H' → Poly H' r (timesL p q) → Q r H'
theorem cal_law_p_times (D : C8.Def K mg "_law_p_times" s_law_p_times f fd) (df : fd.defaults = .none) (T : Tx K mg) (c_law_p_plus : C8.Cal P w K mg base 1 "_law_p_plus" (sp_law_p_plus K) []) : C8.Cal P w K mg base 2 "_law_p_times" sp_law_p_times [] := by
  refine C8.cal0 D (D.fn.binds df (ps := ["_law_one", "_law_other"]) fun _ _ _ _ _ _ us hl => match us, hl with | [_, _], _ => rfl) .nil sc_law_p_times (fun vs H Q E h => ?_) (fun cdv A outer s H vs Q E hr h => ?_)
  · obtain ⟨v, u, p, q, rfl, _⟩ := h
    rfl
  · obtain ⟨v, u, p, q, rfl, hv, hu, lp, lq, hs, k⟩ := h
    obtain ⟨a, rfl, ha⟩ := poly_at hv
    obtain ⟨b, rfl, hb⟩ := poly_at hu
    refine ⟨_, (pss_cons (ps_set (i := 2) sc_law_p_times.nd rfl (.inl rfl) (pe_tup pa_nil))
      (pss_cons (ps_for PassesOwn.never rfl (pi_range1 (by rfl) T.range_ (pa_cons (pe_callB call_len_seq (by rfl) T.len_ (by decide +kernel) (pa_cons (pv 0) pa_nil)) pa_nil)) (pg_name (i := 3) sc_law_p_times.nd rfl (.inl rfl))
        (pss_one (ps_set (i := 2) sc_law_p_times.nd rfl (.inl rfl) (C8.pe_c c_law_p_plus hr (by decide) (by rfl) (pa_cons (pv 2) (pa_cons (pe_op op_catA (pe_op op_repA (pe_tup (pa_cons pe_int pa_nil)) (pv 3)) (pe_callTy call_tuple_of (by rfl) T.tuple_ (by decide +kernel) (pa_cons (pv 1) pa_nil))) (pa_cons (pe_ix ixA (pv 0) (pv 3) (fun _ _ => rfl)) pa_nil)))))))
      (pss_one (ps_ret (pv 2))))), ?_⟩
    refine ⟨Nat.zero_le _, fun t nt => ?_⟩
    have s0 := same_new (o := .tup []) nt
    refine ⟨_, rfl, a, _, rfl, .inr (sqt (s0 _ _ ha)), ?_⟩
    rw [List.length_map]
    refine ⟨_, rfl, by omega, by omega, for_range (n := p.length) (fun i σ' H' => Same H H' ∧ ∃ x2 x3, σ' = [some (.ref a), some (.ref b), some x2, x3] ∧ Poly H' x2 (cutL (mulL (p.take i) q))) ⟨s0, _, none, rfl, poly_of upd_same⟩ ?_ ?_⟩
    · rintro i σ' H' hi ⟨sm, x2, x3, rfl, h2⟩
      have e0 : V.int (0 + (i : Int)) = .int (i : Int) := congrArg V.int (Int.zero_add _)
      rw [e0]
      refine ⟨_, rfl, by show 1 ≤ sizeLine; decide, fun z nz => ?_⟩
      have s1 := sm.trans (same_new (o := .tup [V.int 0]) nz)
      refine ⟨_, rfl, z, _, _, rfl, rfl, upd_same, by simp, by omega, by omega, by simp, fun z1 H2 s2 hz1 => ?_⟩
      rw [gap_flat] at hz1
      have sA := s1.trans s2
      refine ⟨_, rfl, b, _, rfl, .inr ⟨sqt (sA _ _ hb), catA_of (sqt hz1) (sqt (sA _ _ hb)) ?_ fun c H3 s3 hc => ?_⟩⟩
      · simp only [List.length_map, List.length_replicate]
        omega
      have sB := sA.trans s3
      refine ⟨_, rfl, _, rfl, .inr ⟨a, _, _, .int (coef p i), rfl, rfl, sqt (sB _ _ ha), atI_n (get_intc hi), ?_⟩⟩
      refine ⟨_, _, cutL (mulL (p.take i) q), List.replicate i 0 ++ q, coef p i, rfl, zs_poly (keep ((same_new nz).trans (s2.trans s3)) h2), ⟨c, rfl, .inr ?_⟩, ?_, ?_, .inl (hs _ (List.mem_of_getElem? (get_coef hi))), fun r H4 s4 hr4 => ?_⟩
      · rw [List.map_append]
        rw [show ((i : Int)).toNat = i by omega] at hc
        exact hc
      · have := cutL_len (mulL (p.take i) q)
        have := mulL_len (p.take i) q
        rw [List.length_take] at this
        omega
      · rw [List.length_append, List.length_replicate]
        omega
      · exact ⟨sB.trans s4, r, _, rfl, by rw [← times_step p q i hi]; exact hr4⟩
    · rintro σ' H' ⟨sm, x2, x3, rfl, h2⟩
      rw [List.take_length] at h2
      exact ⟨_, rfl, k _ _ sm h2⟩

/-! ### _law_at, _law_of -/
-- slots: 0 _law_one, 1 _law_share_here, 2 _law_found, 3 _law_number
abbrev s_law_at : Stmt := topS 83
theorem sc_law_at : FnScope ["_law_one", "_law_share_here", "_law_found", "_law_number"] ["_law_one", "_law_share_here"] (C8.fnScope s_law_at) := C8.fnScope_by (by decide +kernel)
def sp_law_at : Sp := fun vs H Q _ => ∃ v u p s, vs = [v, u] ∧ Poly H v p ∧ Frac H u s ∧ FB 4 4 s ∧ p.length ≤ 20 ∧ (∀ c ∈ p, Sm c) ∧ ∀ r H', Same H H' → Frac H' r (lawAt p s) → Q r H'
theorem cal_law_at (D : C8.Def K mg "_law_at" s_law_at f fd) (df : fd.defaults = .none) (T : Tx K mg) (c_law_plus : C8.Cal P w K mg base 2 "_law_plus" sp_law_plus []) (c_law_times : C8.Cal P w K mg base 2 "_law_times" sp_law_times []) : C8.Cal P w K mg base 3 "_law_at" sp_law_at [] := by
  refine C8.cal0 D (D.fn.binds df (ps := ["_law_one", "_law_share_here"]) fun _ _ _ _ _ _ us hl => match us, hl with | [_, _], _ => rfl) .nil sc_law_at (fun vs H Q E h => ?_) (fun cdv A outer s H vs Q E hr h => ?_)
  · obtain ⟨v, u, p, s, rfl, _⟩ := h
    rfl
  · obtain ⟨v, u, p, sh, rfl, hv, hu, hs, hl, hp, k⟩ := h
    obtain ⟨a, rfl, ha⟩ := poly_at hv
    refine ⟨_, (pss_cons (ps_set (i := 2) sc_law_at.nd rfl (.inl rfl) (pe_tup (pa_cons pe_int (pa_cons pe_int pa_nil))))
      (pss_cons (ps_for PassesOwn.never rfl (pi_seq (pe_revT (pv 0))) (pg_name (i := 3) sc_law_at.nd rfl (.inl rfl))
        (pss_one (ps_set (i := 2) sc_law_at.nd rfl (.inl rfl) (C8.pe_c c_law_plus hr (by decide) (by rfl) (pa_cons (C8.pe_c c_law_times hr (by decide) (by rfl) (pa_cons (pv 2) (pa_cons (pv 1) pa_nil))) (pa_cons (pe_tup (pa_cons (pv 3) (pa_cons pe_int pa_nil))) pa_nil))))))
      (pss_one (ps_ret (pv 2))))), ?_⟩
    refine ⟨by show 2 ≤ sizeLine; decide, fun t nt => ?_⟩
    have s0 := same_new (o := .tup [V.int 0, V.int 1]) nt
    refine ⟨_, rfl, a, _, rfl, sqt (s0 _ _ ha), fun t2 nt2 => ?_⟩
    have s1 := s0.trans (same_new (o := .tup (p.map V.int).reverse) nt2)
    refine for_seq (H0 := upd (upd H t (.tup [V.int 0, V.int 1])) t2 (.tup (p.map V.int).reverse)) (.inr (sqt upd_same)) (fun i σ' H' => Same (upd (upd H t (.tup [V.int 0, V.int 1])) t2 (.tup (p.map V.int).reverse)) H' ∧ ∃ x2 x3, σ' = [some (.ref a), some u, some x2, x3] ∧ Frac H' x2 ((p.reverse.take i).foldl (fun f c => plusF (timesF f sh) (c, 1)) (0, 1))) (fun _ _ _ h => h.1) ⟨Same.refl _, _, none, rfl, keep (same_new nt2) (frac_of upd_same)⟩ ?_ ?_
    · rintro i x σ' H' hx ⟨sm, x2, x3, rfl, h2⟩
      rw [← List.map_reverse] at hx
      obtain ⟨c, hc, rfl⟩ := ints_get hx
      have hi : i < p.length := by
        have := (List.getElem?_eq_some_iff.mp hc).1
        rw [List.length_reverse] at this
        exact this
      have hsc : Sm c := hp c (List.mem_reverse.mp (List.mem_of_getElem? hc))
      have fb := lawAt_fb hs hp hl i (by omega)
      have sA := s1.trans sm
      refine ⟨_, rfl, _, rfl, _, _, _, sh, _, _, _, _, rfl, h2, keep sA hu, fb, hs, by omega, by omega, fun r H2 s2 hr2 => ?_⟩
      refine ⟨_, rfl, by show 2 ≤ sizeLine; decide, fun t3 nt3 => ?_⟩
      have s3 := same_new (o := .tup [V.int c, V.int 1]) nt3
      have fb2 := timesF_fb fb hs
      refine ⟨_, _, _, (c, 1), _, _, 64, 1, rfl, keep s3 hr2, frac_of upd_same, fb2, ⟨by show (0 : Int) < 1; decide, sm_bt hsc, by show Bt _ (1 : Int); unfold Bt; decide⟩, by omega, by omega, fun r4 H4 s4 hr4 => ?_⟩
      refine ⟨sm.trans (s2.trans (s3.trans s4)), r4, _, rfl, ?_⟩
      rw [foldl_take hc]
      exact hr4
    · rintro σ' H' ⟨sm, x2, x3, rfl, h2⟩
      rw [List.length_reverse, List.length_map, List.take_of_length_le (by rw [List.length_reverse]; exact Nat.le_refl _)] at h2
      exact ⟨_, rfl, k _ _ (s1.trans sm) h2⟩
-- slots: 0 _law_told, 1 _law_share_here
abbrev s_law_of : Stmt := topS 84
theorem sc_law_of : FnScope ["_law_told", "_law_share_here"] ["_law_told", "_law_share_here"] (C8.fnScope s_law_of) := C8.fnScope_by (by decide +kernel)
def sp_law_of : Sp := fun vs H Q _ => ∃ v u p d s, vs = [v, u] ∧ PolyBy H v (p, d) ∧ Frac H u s ∧ FB 4 4 s ∧ p.length ≤ 20 ∧ (∀ c ∈ p, Sm c) ∧ 0 < d ∧ Sm d ∧ ∀ r H', Same H H' → Frac H' r (timesF (lawAt p s) (1, d)) → Q r H'
theorem lawAt_fb' {p : List Int} {s : Int × Int} (hs : FB 4 4 s) (hp : ∀ c ∈ p, Sm c) (hl : p.length ≤ 20) : FB 4001 101 (lawAt p s) := by
  have := lawAt_fb hs hp hl p.length (Nat.le_refl _)
  rw [List.take_of_length_le (by rw [List.length_reverse]; exact Nat.le_refl _)] at this
  exact this.mono (by omega) (by omega)
theorem cal_law_of (D : C8.Def K mg "_law_of" s_law_of f fd) (df : fd.defaults = .none) (T : Tx K mg) (c_law_at : C8.Cal P w K mg base 3 "_law_at" sp_law_at []) (c_law_times : C8.Cal P w K mg base 2 "_law_times" sp_law_times []) : C8.Cal P w K mg base 4 "_law_of" sp_law_of [] := by
  refine C8.cal0 D (D.fn.binds df (ps := ["_law_told", "_law_share_here"]) fun _ _ _ _ _ _ us hl => match us, hl with | [_, _], _ => rfl) .nil sc_law_of (fun vs H Q E h => ?_) (fun cdv A outer s H vs Q E hr h => ?_)
  · obtain ⟨v, u, p, d, s, rfl, _⟩ := h
    rfl
  · obtain ⟨v, u, p, d, sh, rfl, hv, hu, hs, hl, hp, h0, hd, k⟩ := h
    obtain ⟨a, b, rfl, ha, hb⟩ := pr_at hv
    refine ⟨_, (pss_one (ps_ret (C8.pe_c c_law_times hr (by decide) (by rfl) (pa_cons (C8.pe_c c_law_at hr (by decide) (by rfl) (pa_cons (pe_ix ixA (pv 0) pe_int (fun _ _ => rfl)) (pa_cons (pv 1) pa_nil))) (pa_cons (pe_tup (pa_cons pe_int (pa_cons (pe_ix ixA (pv 0) pe_int (fun _ _ => rfl)) pa_nil))) pa_nil))))), ?_⟩
    refine ⟨_, rfl, .inr ⟨a, _, 0, _, rfl, rfl, sqt ha, atI_nat (j := 0) rfl, _, rfl, _, _, p, sh, rfl, poly_of hb, hu, hs, hl, hp, fun r H1 s1 hr1 => ?_⟩⟩
    refine ⟨_, rfl, .inr ⟨a, _, 1, _, rfl, rfl, sqt (s1 _ _ ha), atI_nat (j := 1) rfl, by show 2 ≤ sizeLine; decide, fun t nt => ?_⟩⟩
    have s2 := same_new (o := .tup [V.int 1, V.int d]) nt
    exact ⟨_, _, _, (1, d), _, _, 1, 64, rfl, keep s2 hr1, frac_of upd_same, lawAt_fb' hs hp hl, ⟨h0, by show Bt _ (1 : Int); unfold Bt; decide, sm_bt hd⟩, by omega, by omega, fun r3 H3 s3 hr3 => k _ _ (s1.trans (s2.trans s3)) hr3⟩

/-! ### _law_rows -/
-- slots: 0 _law_wide, 1 _law_many, 2 _law_found, 3 _law_turn, 4 _law_longer, 5 _law_one*, 6 _law_letter
abbrev s_law_rows : Stmt := topS 87
theorem sc_law_rows : FnScope ["_law_wide", "_law_many", "_law_found", "_law_turn", "_law_longer", "_law_one", "_law_letter"] ["_law_wide", "_law_many"] (C8.fnScope s_law_rows) := C8.fnScope_by (by decide +kernel)
def sp_law_rows : Sp := fun vs H Q _ => ∃ wide n : Nat, vs = [.int (wide : Int), .int (n : Int)] ∧ wide ≤ 3 ∧ n ≤ 3 ∧ ∀ r H', Same H H' → H r = none → Lst Poly H' (.ref r) (rowsL wide n) → Q (.ref r) H'
theorem cal_law_rows (D : C8.Def K mg "_law_rows" s_law_rows f fd) (df : fd.defaults = .none) (T : Tx K mg) : C8.Cal P w K mg base 1 "_law_rows" sp_law_rows [] := by
  refine C8.cal0 D (D.fn.binds df (ps := ["_law_wide", "_law_many"]) fun _ _ _ _ _ _ us hl => match us, hl with | [_, _], _ => rfl) .nil sc_law_rows (fun vs H Q E h => ?_) (fun cdv A outer s H vs Q E hr h => ?_)
  · obtain ⟨wide, n, rfl, _⟩ := h
    rfl
  · obtain ⟨wide, n, rfl, w2, hn, k⟩ := h
    have small : ∀ i, i ≤ 3 → (rowsL wide i).length ≤ 27 := fun i hi => by
      rw [rowsL_len]
      exact Nat.le_trans (Nat.pow_le_pow_left w2 i) (Nat.le_trans (Nat.pow_le_pow_right (n := 3) (by decide) hi) (by decide))
    refine ⟨_, (pss_cons (ps_set (i := 2) sc_law_rows.nd rfl (.inl rfl) (pe_lst (pa_cons (pe_tup pa_nil) pa_nil)))
      (pss_cons (ps_for PassesOwn.never rfl (pi_range1 (by rfl) T.range_ (pa_cons (pv 1) pa_nil)) (pg_name (i := 3) sc_law_rows.nd rfl (.inl rfl))
        (pss_cons (ps_set (i := 4) sc_law_rows.nd rfl (.inl rfl) (pe_lst pa_nil))
        (pss_cons (ps_for PassesOwn.never rfl (pi_seq (pv 2)) (pg_name (i := 5) sc_law_rows.nd rfl (.inr rfl))
          (pss_one (ps_set (i := 4) sc_law_rows.nd rfl (.inl rfl) (pe_op op_cat (pv 4) (pe_lc (own := [("_law_letter", 6)]) (by rfl) sc_law_rows.nd (pi_range1 (by rfl) T.range_ (pa_cons (pv 0) pa_nil)) (blkOk_by (N := ["_law_wide", "_law_many", "_law_found", "_law_turn", "_law_longer", "_law_one", "_law_letter"]) (sc := C8.fnScope s_law_rows) (by decide +kernel)) (fun _ _ _ _ _ => (pg_name (i := 6) sc_law_rows.nd rfl (.inl rfl))) (fun _ _ _ _ _ => pts_nil) (fun _ _ _ _ _ => (pe_op (op_catAB (K := K)) (pv 5) (pe_tup (pa_cons (pv 6) pa_nil)))))))))
        (pss_one (ps_set (i := 2) sc_law_rows.nd rfl (.inl rfl) (pv 4))))))
      (pss_one (ps_ret (pv 2))))), ?_⟩
    refine ⟨Nat.zero_le _, fun t nt => ⟨by show 1 ≤ sizeLine; decide, fun l nl => ?_⟩⟩
    have s00 := same_new (o := .tup []) nt
    have s0 := s00.trans (same_new (o := .lst [.ref t]) nl)
    have hlt : upd (upd H t (.tup [])) l (.lst [.ref t]) t = some (.tup []) := by rw [upd_ne (ne_of_none upd_same nl)]; exact upd_same
    refine ⟨_, rfl, _, rfl, by omega, by omega, for_range (n := n) (fun i σ' H' => Same H H' ∧ ∃ l' x3 x4 x5, σ' = [some (.int (wide : Int)), some (.int (n : Int)), some (.ref l'), x3, x4, x5, none] ∧ H l' = none ∧ Lst Poly H' (.ref l') (rowsL wide i)) ⟨s0, l, none, none, none, rfl, s00.free nl, l, _, rfl, upd_same, .cons (poly_of (p := []) hlt) .nil⟩ ?_ ?_⟩
    · rintro i σ' H' hi ⟨sm, l', x3, x4, x5, rfl, hfr, ⟨_, zs, e, hl', hpz⟩⟩
      cases e
      have hzl := paired_len hpz
      have hsm := small i (by omega)
      refine ⟨Nat.zero_le _, fun l2 nl2 => ?_⟩
      have s2 := same_new (o := .lst []) nl2
      refine ⟨_, rfl, for_seq (H0 := H') (.inl (sql hl')) (fun j σ' H2 => Same H' H2 ∧ ∃ x5 l2 acc, σ' = [some (.int (wide : Int)), some (.int (n : Int)), some (.ref l'), some (.int (0 + (i : Int))), some (.ref l2), x5, none] ∧ H l2 = none ∧ H2 l2 = some (.lst acc) ∧ Paired (Poly H2) acc (((rowsL wide i).take j).flatMap fun row => (List.range wide).map fun (m : Nat) => row ++ [(m : Int)]) ∧ acc.length = j * wide) (fun _ _ _ h => h.1) ⟨s2, x5, l2, [], rfl, sm.free nl2, upd_same, .nil, by simp⟩ ?_ ?_⟩
      · rintro j x σ2 H2 hx ⟨sm2, x5, l2, acc, rfl, hf2, hl2, hpa, hal⟩
        obtain ⟨row, hrow, hpx⟩ := paired_get' hpz hx
        obtain ⟨q, rfl, hq⟩ := poly_at (keep sm2 hpx)
        have hj : j < zs.length := (List.getElem?_eq_some_iff.mp hx).1
        have hrl : row.length = i := (rowsL_ok wide i row (List.mem_of_getElem? hrow)).len
        refine ⟨_, rfl, _, rfl, _, rfl, by omega, by omega, lc_map (r := Poly) (G := fun _ => True) walk_range (fun _ _ => trivial) (by omega) (fun m => row ++ [(m : Int)]) (fun m y H3 H3' hm s3 hy C hC => ?_) fun l3 H3 s3 hv3 => ?_⟩
        · obtain ⟨rfl, rfl⟩ := hy
          refine ⟨rfl, _, rfl, _, rfl, by show 1 ≤ sizeLine; decide, fun t1 nt1 => ?_⟩
          have s4 := same_new (o := .tup [V.int (0 + (m : Int))]) nt1
          refine ⟨q, t1, _, _, rfl, rfl, sqt (s4 _ _ (s3 _ _ hq)), sqt upd_same, line_le ?_, fun e => ?_, fun e1 e2 => absurd e2 (by simp), fun e1 e2 p np => hC _ _ (s4.trans (same_new np)) (poly_of ?_)⟩
          · simp only [List.length_map, List.length_cons, List.length_nil]
            omega
          · have er : row = [] := by simpa using e
            exact hC _ _ s4 (poly_of (by rw [upd_same, er, show (fun (i : Nat) => V.int (0 + (i : Int))) m = V.int (m : Int) from congrArg V.int (Int.zero_add _)]; rfl))
          · rw [upd_same, List.map_append, show (fun (i : Nat) => V.int (0 + (i : Int))) m = V.int (m : Int) from congrArg V.int (Int.zero_add _)]
            rfl
        · obtain ⟨_, us, e, hl3, hpu⟩ := hv3
          cases e
          have hul := paired_len hpu
          rw [List.length_map, List.length_range] at hul
          rw [show ((wide : Int)).toNat = wide by omega] at hul hpu
          refine ⟨l2, l3, acc, us, rfl, rfl, s3 _ _ hl2, hl3, line_le ?_, fun l4 n4 => ?_⟩
          · have : j * wide ≤ 27 * 3 := Nat.mul_le_mul (by omega) w2
            omega
          · have s5 := same_new (o := .lst (acc ++ us)) n4
            refine ⟨(sm2.trans s3).trans s5, _, l4, acc ++ us, rfl, (sm.trans (sm2.trans s3)).free n4, upd_same, ?_, ?_⟩
            · rw [List.take_add_one, hrow, List.flatMap_append]
              refine paired_app (paired_map hpa fun u z q => keep (s3.trans s5) q) ?_
              show Paired _ us (((row :: []) : List (List Int)).flatMap _)
              rw [List.flatMap_cons, List.flatMap_nil, List.append_nil]
              exact paired_map hpu fun u z q => keep s5 q
            · rw [List.length_append, hal, Nat.succ_mul]
              omega
      · rintro σ2 H2 ⟨sm2, x5, l2, acc, rfl, hf2, hl2, hpa, hal⟩
        rw [List.take_of_length_le (by omega)] at hpa
        exact ⟨_, rfl, sm.trans sm2, l2, _, _, _, rfl, hf2, l2, acc, rfl, hl2, hpa⟩
    · rintro σ' H' ⟨sm, l', x3, x4, x5, rfl, hfr, h⟩
      exact ⟨_, rfl, k _ _ sm hfr h⟩

/-! ### _law_chance -/
-- slots: 0 _law_line_here, 1 _law_word, 2 _law_heard, 3 _law_found, 4 _law_at_here
abbrev s_law_chance : Stmt := topS 89
theorem sc_law_chance : FnScope ["_law_line_here", "_law_word", "_law_heard", "_law_found", "_law_at_here"] ["_law_line_here", "_law_word", "_law_heard"] (C8.fnScope s_law_chance) := C8.fnScope_by (by decide +kernel)
def sp_law_chance : Sp := fun vs H Q _ => ∃ v u x L wide n wd rw, vs = [v, u, x] ∧ Line H v L ∧ LineOk L wide ∧ Poly H u wd ∧ Poly H x rw ∧ WordOk L.2.length n wd ∧ WordOk wide n rw ∧ n ≤ 3 ∧ ∀ r H', Same H H' → Poly H' r (chF L.2 wd rw) → Q r H'
theorem cal_law_chance (D : C8.Def K mg "_law_chance" s_law_chance f fd) (df : fd.defaults = .none) (T : Tx K mg) (c_law_p_times : C8.Cal P w K mg base 2 "_law_p_times" sp_law_p_times []) : C8.Cal P w K mg base 3 "_law_chance" sp_law_chance [] := by
  refine C8.cal0 D (D.fn.binds df (ps := ["_law_line_here", "_law_word", "_law_heard"]) fun _ _ _ _ _ _ us hl => match us, hl with | [_, _, _], _ => rfl) .nil sc_law_chance (fun vs H Q E h => ?_) (fun cdv A outer s H vs Q E hr h => ?_)
  · obtain ⟨v, u, x, L, wide, n, wd, rw', rfl, _⟩ := h
    rfl
  · obtain ⟨v, u, x, L, wide, n, wd, rw', rfl, hv, ok, hu, hx, hw, hr', hn, k⟩ := h
    obtain ⟨a, b, xs, rfl, ha, hb, hp⟩ := line_at hv
    obtain ⟨c, rfl, hc⟩ := poly_at hu
    obtain ⟨d, rfl, hd⟩ := poly_at hx
    have hwl := hw.len
    have hrl := hr'.len
    have hzl : (wd.zip rw').length = n := by rw [List.length_zip, hwl, hrl, Nat.min_self]
    refine ⟨_, (pss_cons (ps_set (i := 3) sc_law_chance.nd rfl (.inl rfl) (pe_tup (pa_cons pe_int pa_nil)))
      (pss_cons (ps_for PassesOwn.never rfl (pi_range1 (by rfl) T.range_ (pa_cons (pe_callB call_len_seq (by rfl) T.len_ (by decide +kernel) (pa_cons (pv 1) pa_nil)) pa_nil)) (pg_name (i := 4) sc_law_chance.nd rfl (.inl rfl))
        (pss_one (ps_set (i := 3) sc_law_chance.nd rfl (.inl rfl) (C8.pe_c c_law_p_times hr (by decide) (by rfl) (pa_cons (pv 3) (pa_cons (pe_ix ixA (pe_ix ixA (pe_ix ixA (pv 0) pe_int (fun _ _ => rfl)) (pe_ix ixA (pv 1) (pv 4) (fun _ _ => rfl)) (fun _ _ => rfl)) (pe_ix ixA (pv 2) (pv 4) (fun _ _ => rfl)) (fun _ _ => rfl)) pa_nil))))))
      (pss_one (ps_ret (pv 3))))), ?_⟩
    refine ⟨by show 1 ≤ sizeLine; decide, fun t nt => ?_⟩
    have s0 := same_new (o := .tup [V.int 1]) nt
    refine ⟨_, rfl, c, _, rfl, .inr (sqt (s0 _ _ hc)), ?_⟩
    rw [List.length_map, hwl]
    refine ⟨_, rfl, by omega, by omega, for_range (n := n) (fun i σ' H' => Same H H' ∧ ∃ x3 x4, σ' = [some (.ref a), some (.ref c), some (.ref d), some x3, x4] ∧ Poly H' x3 (((wd.zip rw').take i).foldl (chStep L.2) [1])) ⟨s0, _, none, rfl, poly_of upd_same⟩ ?_ ?_⟩
    · rintro i σ' H' hi ⟨sm, x3, x4, rfl, h3⟩
      have e0 : V.int (0 + (i : Int)) = .int (i : Int) := congrArg V.int (Int.zero_add _)
      rw [e0]
      have hi1 : i < wd.length := by omega
      have hi2 : i < rw'.length := by omega
      have hzi : (wd.zip rw')[i]? = some (coef wd i, coef rw' i) := by rw [List.getElem?_zip_eq_some]; exact ⟨get_coef hi1, get_coef hi2⟩
      obtain ⟨q1, q2⟩ := zip_ok hw hr' _ (List.mem_of_getElem? hzi)
      obtain ⟨row, hrow, hent, hrl, hpo⟩ := tab_at ok q1 q2
      obtain ⟨xr, hxr, hR⟩ := paired_get hp hrow
      obtain ⟨g, zs, rfl, hg, hpz⟩ := hR
      obtain ⟨xp, hxp, hP⟩ := paired_get hpz hent
      have e := foldl_take (f := chStep L.2) (z := ([1] : List Int)) hzi
      obtain ⟨bl, bc⟩ := ch_bound L.2 ((wd.zip rw').take i) fun ab hab => by
        obtain ⟨q1, q2⟩ := zip_ok hw hr' ab (List.mem_of_mem_take hab)
        obtain ⟨_, _, _, _, q⟩ := tab_at ok q1 q2
        exact q
      have hti : ((wd.zip rw').take i).length = i := by rw [List.length_take, hzl]; omega
      rw [hti] at bl bc
      refine ⟨_, rfl, _, rfl, .inr ⟨a, _, 1, _, rfl, rfl, sqt (sm _ _ ha), atI_nat (j := 1) rfl, _, rfl, _, rfl, .inr ⟨c, _, _, .int (coef wd i), rfl, rfl, sqt (sm _ _ hc), atI_n (get_intc hi1), .inr ⟨b, _, _, _, rfl, rfl, sqt (sm _ _ hb), atI_nat' q1.1 hxr, ?_⟩⟩⟩⟩
      refine ⟨_, rfl, _, rfl, .inr ⟨d, _, _, .int (coef rw' i), rfl, rfl, sqt (sm _ _ hd), atI_n (get_intc hi2), .inr ⟨g, _, _, _, rfl, rfl, sqt (sm _ _ hg), atI_nat' q2.1 hxp, ?_⟩⟩⟩
      refine ⟨_, _, _, tabAt L.2 (coef wd i) (coef rw' i), rfl, h3, keep sm hP, by omega, ?_, cb_sm bc ?_, fun r H2 s2 hr2 => ?_⟩
      · have : (tabAt L.2 (coef wd i) (coef rw' i)).length ≤ 5 := (polyOk_iff.mp hpo).1
        omega
      · have e3 : chB 0 = 1 ∧ chB 1 = 1000 ∧ chB 2 = 6000000 := by decide
        rcases (show i = 0 ∨ i = 1 ∨ i = 2 by omega) with rfl | rfl | rfl <;> omega
      · refine ⟨sm.trans s2, r, _, rfl, ?_⟩
        rw [e]
        exact hr2
    · rintro σ' H' ⟨sm, x3, x4, rfl, h3⟩
      rw [List.take_of_length_le (by omega)] at h3
      exact ⟨_, rfl, k _ _ sm h3⟩

/-! ### _law_low -/
-- slots: 0 _law_line_here, 1 _law_code_here, 2 _law_word, 3 _law_weight
abbrev s_law_low : Stmt := topS 90
theorem sc_law_low : FnScope ["_law_line_here", "_law_code_here", "_law_word", "_law_weight"] ["_law_line_here", "_law_code_here"] (C8.fnScope s_law_low) := C8.fnScope_by (by decide +kernel)
def sp_law_low : Sp := fun vs H Q _ => ∃ v u L wide c long, vs = [v, u] ∧ Line H v L ∧ LineOk L wide ∧ Code H u c ∧ CodeOk L.2.length c long ∧ ∀ H', Same H H' → Q (.int (lowF' L c long)) H'
theorem cal_law_low (D : C8.Def K mg "_law_low" s_law_low f fd) (df : fd.defaults = .none) (T : Tx K mg) (c_law_power : C8.Cal P w K mg base 1 "_law_power" sp_law_power []) : C8.Cal P w K mg base 2 "_law_low" sp_law_low [] := by
  refine C8.cal0 D (D.fn.binds df (ps := ["_law_line_here", "_law_code_here"]) fun _ _ _ _ _ _ us hl => match us, hl with | [_, _], _ => rfl) .nil sc_law_low (fun vs H Q E h => ?_) (fun cdv A outer s H vs Q E hr h => ?_)
  · obtain ⟨v, u, L, wide, c, long, rfl, _⟩ := h
    rfl
  · obtain ⟨v, u, L, wide, c, long, rfl, hv, ok, hu, okc, k⟩ := h
    obtain ⟨d, ys, d0, b0, e0, rfl, hd, hpc, hx0, hd0, hb0, hl0⟩ := cd_first hu okc
    obtain ⟨a, b, xs, rfl, ha, hb, hp⟩ := line_at hv
    have hyl := paired_len hpc
    have l2 := okc.l2
    have n2 := okc.n2
    obtain ⟨q1, q2⟩ := low_small ok l2
    have lo1 := ok.low1
    have lo2 := ok.low2
    refine ⟨_, (pss_one (ps_ret (pe_op op_mul (C8.pe_c c_law_power hr (by decide) (by rfl) (pa_cons (pe_ix ixA (pv 0) pe_int (fun _ _ => rfl)) (pa_cons (pe_callB call_len_seq (by rfl) T.len_ (by decide +kernel) (pa_cons (pe_ix ixA (pe_ix ixA (pv 1) pe_int (fun _ _ => rfl)) pe_int (fun _ _ => rfl)) pa_nil)) pa_nil))) (pe_callB (cr_sum rfl) (by rfl) T.sum_ (by decide +kernel) (pa_cons (pe_lc (own := [("_law_word", 2), ("_law_weight", 3)]) (by rfl) sc_law_low.nd (pi_seq (pv 1)) (blkOk_by (N := ["_law_line_here", "_law_code_here", "_law_word", "_law_weight"]) (sc := C8.fnScope s_law_low) (by decide +kernel)) (fun _ _ _ _ _ => (pg_tupB (n := 2) (K := K) rfl rfl (pgs_cons (pg_name (i := 2) sc_law_low.nd rfl (.inl rfl)) (pgs_cons (pg_name (i := 3) sc_law_low.nd rfl (.inl rfl)) pgs_nil)))) (fun _ _ _ _ _ => pts_nil) (fun _ _ _ _ _ => (pv 3))) pa_nil))))), ?_⟩
    refine ⟨_, rfl, .inr ⟨a, _, 0, _, rfl, rfl, sqt ha, atI_nat (j := 0) rfl, ?_⟩⟩
    refine ⟨_, rfl, .inr ⟨d, _, 0, _, rfl, rfl, sqt hd, atI_nat (j := 0) hx0, .inr ⟨d0, _, 0, _, rfl, rfl, sqt hd0, atI_nat (j := 0) rfl, b0, _, rfl, .inr (sqt hb0), ?_⟩⟩⟩
    rw [List.length_map, hl0]
    refine ⟨L.1, long, rfl, sm_of (n := 4) (by omega), by omega, ?_⟩
    refine ⟨_, rfl, lc_mapS (r := rI_) (.inr (sqt hd)) (by omega) (fun j => (c.getD j ([], 0)).2) (fun j y H2 hy s2 C hC => ?_) fun lx H2 s2 hv2 => ?_⟩
    · obtain ⟨e, he, hpe⟩ := paired_get' hpc hy
      obtain ⟨g, q, rfl, hg, hq⟩ := pr_at hpe
      have hge : c.getD j ([], 0) = e := by rw [List.getD_eq_getElem?_getD, he]; rfl
      rw [hge] at hC
      refine ⟨g, _, rfl, sqt (s2 _ _ hg), rfl, _, _, rfl, _, _, rfl, rfl, ?_⟩
      exact ⟨rfl, _, rfl, hC _ _ (Same.refl _) rfl⟩
    · rw [hyl, range_map_get c ([], 0) (fun e => e.2)] at hv2
      have hl2 := lst_ref hv2
      exact ⟨lx, _, rfl, sql hl2, _, _, rfl, rfl, .inl (sm_of (n := 64) (by omega)), k _ s2⟩
end
end EN
namespace EN
open PySem PySem.Spec PyProof.Rows L2
theorem sum_set1 : ∀ (l : List Int) (i : Nat), i < l.length → (l.set i (coef l i + 1)).sum = l.sum + 1
  | [], _, h => by simp at h
  | a :: l, 0, _ => by
    show (coef (a :: l) 0 + 1) + l.sum = a + l.sum + 1
    rw [coef_zero]
    omega
  | a :: l, i + 1, h => by
    have := sum_set1 l i (by simpa using h)
    show a + (l.set i (coef (a :: l) (i + 1) + 1)).sum = a + l.sum + 1
    rw [coef_succ, this]
    omega
theorem sum_rep0 : ∀ n : Nat, (List.replicate n (0 : Int)).sum = 0
  | 0 => rfl
  | n + 1 => by rw [List.replicate_succ, List.sum_cons, sum_rep0 n]; rfl
theorem erase_one {α : Type} : ∀ (l : List α) (k : Nat) (h : k < l.length), (l[k] :: l.eraseIdx k).Perm l
  | [], _, h => by simp at h
  | a :: l, 0, _ => List.Perm.refl _
  | a :: l, k + 1, h => ((List.Perm.swap _ _ _).trans ((erase_one l k (by simpa using h)).cons a))
theorem lst_mr {K : PySem.W.Frag} {H H' : Hp} {R sc : Addr} {v : V} {x : List (List Int)} (hR : Rw K H R sc) (s : MR R H H') (hne : v ≠ .ref R) (h : Lst Poly H v x) : Lst Poly H' v x := by
  obtain ⟨b, xs, rfl, hb, hp⟩ := h
  exact ⟨b, xs, rfl, s _ _ (fun e => hne (by rw [e])) hb, paired_map hp fun u z q => keepR hR s q⟩
theorem rw_neV {K : PySem.W.Frag} {H : Hp} {R sc l : Addr} (h : Rw K H R sc) (n : H l = none) : V.ref l ≠ .ref R := fun e => rw_ne h n (V.ref.inj e)
section
variable {P : Program} {w : World} {K : PySem.W.Frag} {mg : Str → Option Value} {base : Heap} {f : Addr} {fd : FuncData}

/-! ### _law_spread -/
-- slots: 0 _law_row, 1 _law_wide, 2 _law_low_here, 3 _law_found, 4 _law_step, 5 _law_spot
abbrev s_law_spread : Stmt := topS 93
theorem sc_law_spread : FnScope ["_law_row", "_law_wide", "_law_low_here", "_law_found", "_law_step", "_law_spot"] ["_law_row", "_law_wide", "_law_low_here"] (C8.fnScope s_law_spread) := C8.fnScope_by (by decide +kernel)
def sp_law_spread (K : PySem.W.Frag) : Sp := fun vs H Q _ => ∃ (R sc : Addr) (wide low : Nat), vs = [.ref R, .int (wide : Int), .int (low : Int)] ∧ 1 ≤ wide ∧ wide ≤ 3 ∧ low ≤ 4 ∧ Rw K H R sc ∧ ∀ l xs H', H l = none → MR R H H' → Rw K H' R sc → H' l = some (.lst (xs.map V.int)) → SpOk wide low xs → Q (.ref l) H'
theorem cal_law_spread (D : C8.Def K mg "_law_spread" s_law_spread f fd) (df : fd.defaults = .none) (T : Tx K mg) (c_law_taken : C8.Cal P w K mg base 1 "_law_taken" (sp_law_taken K) []) : C8.Cal P w K mg base 2 "_law_spread" (sp_law_spread K) [] := by
  refine C8.cal0 D (D.fn.binds df (ps := ["_law_row", "_law_wide", "_law_low_here"]) fun _ _ _ _ _ _ us hl => match us, hl with | [_, _, _], _ => rfl) .nil sc_law_spread (fun vs H Q E h => ?_) (fun cdv A outer s H vs Q E hr h => ?_)
  · obtain ⟨R, sc, wide, low, rfl, _⟩ := h
    rfl
  · obtain ⟨R, sc, wide, low, rfl, w1, w2, hlow, hR, k⟩ := h
    refine ⟨_, (pss_cons (ps_set (i := 3) sc_law_spread.nd rfl (.inl rfl) (pe_op op_rep (pe_lst (pa_cons pe_int pa_nil)) (pv 1)))
      (pss_cons (ps_for PassesOwn.never rfl (pi_range1 (by rfl) T.range_ (pa_cons (pv 2) pa_nil)) (pg_name (i := 4) sc_law_spread.nd rfl (.inl rfl))
        (pss_cons (ps_set (i := 5) sc_law_spread.nd rfl (.inl rfl) (C8.pe_c c_law_taken hr (by decide) (by rfl) (pa_cons (pv 0) (pa_cons (pv 1) pa_nil))))
        (pss_one (ps_asg (pe_op op_add (pe_ix ixA (pv 3) (pv 5) (fun _ _ => rfl)) pe_int) (pg_sub (pv 3) (pv 5) set_list)))))
      (pss_one (ps_ret (pv 3))))), ?_⟩
    refine ⟨by show 1 ≤ sizeLine; decide, fun l0 nl0 => ?_⟩
    have s0 := same_new (o := .lst [V.int 0]) nl0
    refine ⟨_, rfl, l0, _, _, rfl, rfl, upd_same, by omega, by omega, ?_, fun l nl => ?_⟩
    · show 1 * _ ≤ _
      exact line_le (by omega)
    have nlH : H l = none := s0.free nl
    have s1 := s0.trans (same_new (o := .lst ((List.replicate (wide : Int).toNat [V.int 0]).flatten)) nl)
    have nlR := rw_ne hR nlH
    refine ⟨_, rfl, _, rfl, by omega, by omega, for_range (n := low) (fun i σ' H' => MR R H H' ∧ Rw K H' R sc ∧ ∃ xs x4 x5, σ' = [some (.ref R), some (.int (wide : Int)), some (.int (low : Int)), some (.ref l), x4, x5] ∧ H' l = some (.lst (List.map V.int xs)) ∧ SpOk wide i xs) ⟨mr_same s1, rw_same s1 hR, List.replicate wide 0, none, none, rfl, ?_, ?_⟩ ?_ ?_⟩
    · rw [upd_same, rep1, List.map_replicate]
      rfl
    · refine ⟨List.length_replicate, fun x hx => ⟨0, List.eq_of_mem_replicate hx, Nat.le_refl _⟩, ?_⟩
      rw [sum_rep0]
      rfl
    · rintro i σ' H' hi ⟨m1, hR1, xs, x4, x5, rfl, hl, hsp⟩
      refine ⟨_, rfl, _, rfl, R, sc, (wide : Int), rfl, by omega, by omega, hR1, fun j H2 hj m2 hR2 => ?_⟩
      have hj' : j < xs.length := by rw [hsp.len]; omega
      have hl2 : H2 l = some (.lst (xs.map V.int)) := m2 _ _ nlR hl
      refine ⟨_, rfl, _, rfl, .inl ⟨l, _, _, .int (coef xs j), rfl, rfl, sql hl2, atI_n (get_intc hj'), _, _, rfl, rfl, ?_⟩⟩
      refine ⟨_, rfl, _, rfl, l, _, _, j, rfl, rfl, hl2, ixN_nat (by rw [List.length_map]; exact hj'), ?_⟩
      refine ⟨?_, rw_updN hR nlH hR2, xs.set j (coef xs j + 1), _, _, rfl, ?_, ?_⟩
      · exact fun b o hb e => by
          rw [upd_ne (ne_of_none e nlH)]
          exact m2 _ _ hb (m1 _ _ hb e)
      · rw [upd_same, ints_set]
      · refine ⟨by rw [List.length_set]; exact hsp.len, fun x hx => ?_, by rw [sum_set1 _ _ hj', hsp.sum]; rfl⟩
        rcases List.mem_or_eq_of_mem_set hx with h | h
        · obtain ⟨n, e, hn⟩ := hsp.ent x h
          exact ⟨n, e, by omega⟩
        · obtain ⟨n, e, hn⟩ := hsp.ent _ (List.mem_of_getElem? (get_coef hj'))
          exact ⟨n + 1, by rw [h, e]; rfl, by omega⟩
    · rintro σ' H' ⟨m1, hR1, xs, x4, x5, rfl, hl, hsp⟩
      exact ⟨_, rfl, k l xs _ nlH m1 hR1 hl hsp⟩

/-! ### _law_share -/
theorem redF_eq {t l : Int} (h : 0 < l) : (redF t l).1 * (Int.gcd t l : Int) = t ∧ (redF t l).2 * (Int.gcd t l : Int) = l :=
  ⟨Int.ediv_mul_cancel (Int.gcd_dvd_left ..), Int.ediv_mul_cancel (Int.gcd_dvd_right ..)⟩
theorem redF_gcd {t l : Int} (h : 0 < l) : Int.gcd (redF t l).1 (redF t l).2 = 1 := by
  have hg : 0 < Int.gcd t l := Nat.gcd_pos_of_pos_right _ (by omega)
  exact Int.gcd_ediv_gcd_ediv_gcd hg
theorem share_ok {t l : Int} (h0 : 0 ≤ t) (h1 : t ≤ l) (h2 : 0 < l) (h3 : l ≤ 1000) : ShareOk (redF t l).1 (redF t l).2 := by
  have hg : (0 : Int) < (Int.gcd t l : Int) := by have : 0 < Int.gcd t l := Nat.gcd_pos_of_pos_right _ (by omega); omega
  refine ⟨Int.ediv_nonneg h0 (by omega), Int.ediv_le_ediv hg h1, redF_pos h2, Int.le_trans (redF_le h2) h3, redF_gcd h2⟩
-- slots: 0 _law_row, 1 _law_low_here, 2 _law_many
abbrev s_law_share : Stmt := topS 92
theorem sc_law_share : FnScope ["_law_row", "_law_low_here", "_law_many"] ["_law_row", "_law_low_here"] (C8.fnScope s_law_share) := C8.fnScope_by (by decide +kernel)
def sp_law_share (K : PySem.W.Frag) : Sp := fun vs H Q _ => ∃ (R sc : Addr), vs = [.ref R, .int 8] ∧ Rw K H R sc ∧ ∀ r t l H', MR R H H' → Rw K H' R sc → Frac H' r (t, l) → ShareOk t l → l ≤ 8 → Q r H'
theorem cal_law_share (D : C8.Def K mg "_law_share" s_law_share f fd) (df : fd.defaults = .none) (T : Tx K mg) (c_law_taken : C8.Cal P w K mg base 1 "_law_taken" (sp_law_taken K) []) (c_law_fr : C8.Cal P w K mg base 1 "_law_fr" sp_law_fr []) : C8.Cal P w K mg base 2 "_law_share" (sp_law_share K) [] := by
  refine C8.cal0 D (D.fn.binds df (ps := ["_law_row", "_law_low_here"]) fun _ _ _ _ _ _ us hl => match us, hl with | [_, _], _ => rfl) .nil sc_law_share (fun vs H Q E h => ?_) (fun cdv A outer s H vs Q E hr h => ?_)
  · obtain ⟨R, sc, rfl, _⟩ := h
    rfl
  · obtain ⟨R, sc, rfl, hR, k⟩ := h
    refine ⟨_, (pss_cons (ps_set (i := 2) sc_law_share.nd rfl (.inl rfl) (pe_op op_add pe_int (C8.pe_c c_law_taken hr (by decide) (by rfl) (pa_cons (pv 0) (pa_cons (pv 1) pa_nil)))))
      (pss_one (ps_ret (C8.pe_c c_law_fr hr (by decide) (by rfl) (pa_cons (C8.pe_c c_law_taken hr (by decide) (by rfl) (pa_cons (pv 0) (pa_cons (pe_op op_add (pv 2) pe_int) pa_nil))) (pa_cons (pv 2) pa_nil)))))), ?_⟩
    refine ⟨_, rfl, _, rfl, R, sc, 8, rfl, by decide, by decide, hR, fun j H1 hj m1 hR1 => ?_⟩
    refine ⟨_, _, rfl, rfl, ?_⟩
    refine ⟨_, rfl, _, rfl, _, _, rfl, rfl, R, sc, _, rfl, by omega, by omega, hR1, fun i H2 hi m2 hR2 => ?_⟩
    refine ⟨_, rfl, (i : Int), 1 + (j : Int), 64, rfl, by omega, by unfold Bt; omega, by decide, fun r H3 s3 hr3 => ?_⟩
    exact k r _ _ H3 (m1.trans (m2.trans (mr_same s3))) (rw_same s3 hR2) hr3 (share_ok (by omega) (by omega) (by omega) (by omega)) (Int.le_trans (redF_le (by omega)) (by omega))

/-! ### _law_code -/
-- slots: 0 _law_row, 1 _law_line_here, 2 _law_words, 3 _law_long, 4 _law_size, 5 _law_some, 6 _law_found, 7 _law_turn
abbrev s_law_code : Stmt := topS 88
theorem sc_law_code : FnScope ["_law_row", "_law_line_here", "_law_words", "_law_long", "_law_size", "_law_some", "_law_found", "_law_turn"] ["_law_row", "_law_line_here", "_law_words", "_law_long"] (C8.fnScope s_law_code) := C8.fnScope_by (by decide +kernel)
def sp_law_code (K : PySem.W.Frag) : Sp := fun vs H Q _ => ∃ (R sc : Addr) (v : V) (L : Int × List (List (List Int))) (wide : Nat), vs = [.ref R, v, .int 4, .int 3] ∧ Line H v L ∧ LineOk L wide ∧ Rw K H R sc ∧ ∀ r c long H', MR R H H' → Rw K H' R sc → Code H' r c → CodeOk L.2.length c long → Q r H'
theorem seqIndex_nat {n p : Nat} (h : p < n) : seqIndex? (p : Int) n = some p := by
  rw [seqIndex_of (by omega) (by omega)]
  rfl
theorem paired_erase {α β : Type} {F : α → β → Prop} : ∀ {l₁ : List α} {l₂ : List β}, Paired F l₁ l₂ → ∀ k, Paired F (l₁.eraseIdx k) (l₂.eraseIdx k)
  | _, _, .nil, _ => .nil
  | _, _, .cons r t, 0 => t
  | _, _, .cons r t, k + 1 => .cons r (paired_erase t k)
theorem erase_perm {α : Type} (l : List α) (k : Nat) (h : k < l.length) (m : List α) : (l.eraseIdx k ++ (m ++ [l[k]])).Perm (l ++ m) := by
  have h1 : (l[k] :: l.eraseIdx k).Perm l := erase_one l k h
  have h2 : (l.eraseIdx k ++ (m ++ [l[k]])).Perm (l[k] :: (l.eraseIdx k ++ m)) := by
    rw [← List.append_assoc]
    exact List.perm_append_singleton _ _
  exact h2.trans (h1.append_right m)
theorem cal_law_code (D : C8.Def K mg "_law_code" s_law_code f fd) (df : fd.defaults = .none) (T : Tx K mg) (c_law_taken : C8.Cal P w K mg base 1 "_law_taken" (sp_law_taken K) []) (c_law_rows : C8.Cal P w K mg base 1 "_law_rows" sp_law_rows []) : C8.Cal P w K mg base 2 "_law_code" (sp_law_code K) [] := by
  refine C8.cal0 D (D.fn.binds df (ps := ["_law_row", "_law_line_here", "_law_words", "_law_long"]) fun _ _ _ _ _ _ us hl => match us, hl with | [_, _, _, _], _ => rfl) .nil sc_law_code (fun vs H Q E h => ?_) (fun cdv A outer s H vs Q E hr h => ?_)
  · obtain ⟨R, sc, v, L, wide, rfl, _⟩ := h
    rfl
  · obtain ⟨R, sc, v, L, wide, rfl, hv, ok, hR, k⟩ := h
    obtain ⟨a, b, xs, rfl, ha, hb, hp⟩ := line_at hv
    have hxl := paired_len hp
    have m1 := ok.many1
    have m2 := ok.many2
    refine ⟨_, (pss_cons (ps_set (i := 4) sc_law_code.nd rfl (.inl rfl) (pe_op op_add pe_int (C8.pe_c c_law_taken hr (by decide) (by rfl) (pa_cons (pv 0) (pa_cons (pv 3) pa_nil)))))
      (pss_cons (ps_set (i := 5) sc_law_code.nd rfl (.inl rfl) (C8.pe_c c_law_rows hr (by decide) (by rfl) (pa_cons (pe_callB call_len_seq (by rfl) T.len_ (by decide +kernel) (pa_cons (pe_ix ixA (pv 1) pe_int (fun _ _ => rfl)) pa_nil)) (pa_cons (pv 4) pa_nil))))
      (pss_cons (ps_set (i := 6) sc_law_code.nd rfl (.inl rfl) (pe_lst pa_nil))
      (pss_cons (ps_for PassesOwn.never rfl (pi_range1 (by rfl) T.range_ (pa_cons (pe_op op_add pe_int (C8.pe_c c_law_taken hr (by decide) (by rfl) (pa_cons (pv 0) (pa_cons (pe_callB (call_min2 rfl) (by rfl) T.min_ (by decide +kernel) (pa_cons (pv 2) (pa_cons (pe_callB call_len_seq (by rfl) T.len_ (by decide +kernel) (pa_cons (pv 5) pa_nil)) pa_nil))) pa_nil)))) pa_nil)) (pg_name (i := 7) sc_law_code.nd rfl (.inl rfl))
        (pss_one (ps_expr (pe_bm PySem.F.plainAttrs_list PySem.F.slot_list_append PySem.F.type_list_append mt_append (pv 6) (pa_cons (pe_tup (pa_cons (pe_bm PySem.F.plainAttrs_list PySem.F.slot_list_pop PySem.F.type_list_pop mt_popAt (pv 5) (pa_cons (C8.pe_c c_law_taken hr (by decide) (by rfl) (pa_cons (pv 0) (pa_cons (pe_callB call_len_seq (by rfl) T.len_ (by decide +kernel) (pa_cons (pv 5) pa_nil)) pa_nil))) pa_nil)) (pa_cons (pe_op op_add pe_int (C8.pe_c c_law_taken hr (by decide) (by rfl) (pa_cons (pv 0) (pa_cons pe_int pa_nil)))) pa_nil))) pa_nil)))))
      (pss_one (ps_ret (pe_callTy call_tuple_of (by rfl) T.tuple_ (by decide +kernel) (pa_cons (pv 6) pa_nil)))))))), ?_⟩
    refine ⟨_, rfl, _, rfl, R, sc, 3, rfl, by decide, by decide, hR, fun j H1 hj mr1 hR1 => ?_⟩
    refine ⟨_, _, rfl, rfl, ?_⟩
    have hv1 := keepR hR mr1 hv
    obtain ⟨a', b', xs', ea, ha1, hb1, hp1⟩ := line_at hv1
    cases ea
    have hxl1 := paired_len hp1
    refine ⟨_, rfl, .inr ⟨a, _, 1, _, rfl, rfl, sqt ha1, atI_nat (j := 1) rfl, b', _, rfl, .inr (sqt hb1), _, rfl, ?_⟩⟩
    have hsz : (1 : Int) + (j : Int) = ((1 + j : Nat) : Int) := by omega
    refine ⟨xs'.length, 1 + j, by show [V.int (xs'.length : Int), V.int (1 + (j : Int))] = _; rw [hsz], by omega, by omega, fun r H2 s2 hrn hr2 => ?_⟩
    rw [hxl1] at hr2
    have nrR := rw_ne hR1 hrn
    refine ⟨Nat.zero_le _, fun fl nfl => ?_⟩
    have s3 := same_new (o := .lst []) nfl
    have nflR := rw_ne (rw_same s2 hR1) nfl
    have hR3 := rw_same (s2.trans s3) hR1
    obtain ⟨r', zs, er, hzs2, hpz2⟩ := hr2
    cases er
    have hrf : r ≠ fl := ne_of_none hzs2 nfl
    have hzs := s3 _ _ hzs2
    have hpz := paired_map hpz2 fun u z q => keep (r := Poly) s3 q
    have hzl := paired_len hpz
    rw [rowsL_len] at hzl
    have hnf : H fl = none := by
      cases e : H fl with
      | none => rfl
      | some o =>
        exfalso
        by_cases hfr : fl = R
        · exact nflR hfr
        · have := s2 _ _ (mr1 _ _ hfr e)
          rw [nfl] at this
          cases this
    have hnr : H r = none := by
      cases e : H r with
      | none => rfl
      | some o =>
        exfalso
        have := mr1 _ _ nrR e
        rw [hrn] at this
        cases this
    have hbig : L.2.length ≤ L.2.length ^ (1 + j) := by
      calc L.2.length = L.2.length ^ 1 := (Nat.pow_one _).symm
        _ ≤ L.2.length ^ (1 + j) := Nat.pow_le_pow_right (by omega) (by omega)
    have hcap : L.2.length ^ (1 + j) ≤ 3 ^ 3 := Nat.le_trans (Nat.pow_le_pow_left m2 _) (Nat.pow_le_pow_right (by decide) (by omega))
    refine ⟨_, rfl, _, rfl, _, rfl, r, _, rfl, .inl (sql hzs), _, _, rfl, ?_⟩
    rw [hzl]
    have hmin : (if ((L.2.length ^ (1 + j) : Nat) : Int) < 4 then ((L.2.length ^ (1 + j) : Nat) : Int) else 4) = ((min (L.2.length ^ (1 + j)) 4 : Nat) : Int) := by split <;> omega
    rw [hmin]
    refine ⟨R, sc, _, rfl, by omega, by omega, hR3, fun n H4 hn mr4 hR4 => ?_⟩
    have hzs4 := mr4 _ _ nrR hzs
    have hpz4 := paired_map hpz fun u z q => keepR (r := Poly) hR3 mr4 q
    have hfl4 : H4 fl = some (.lst []) := mr4 _ _ nflR upd_same
    have mr04 : MR R H H4 := mr1.trans ((mr_same (s2.trans s3)).trans mr4)
    have nd := rowsL_nd (wide := L.2.length) (k := 1 + j) (by omega) (by omega)
    refine ⟨_, _, rfl, rfl, _, rfl, by omega, by omega, ?_⟩
    rw [show ((1 : Int) + (n : Int)).toNat = 1 + n by omega]
    refine for_range (n := 1 + n) (fun i σ' H' => i ≤ 1 + n ∧ MR R H H' ∧ Rw K H' R sc ∧ ∃ zs rem acc c x7, σ' = [some (.ref R), some (.ref a), some (.int 4), some (.int 3), some (.int (1 + (j : Int))), some (.ref r), some (.ref fl), x7] ∧ H' r = some (.lst zs) ∧ Paired (Poly H') zs rem ∧ H' fl = some (.lst acc) ∧ Paired (Pr Poly rI_ H') acc c ∧
      (rem ++ c.map (·.1)).Perm (rowsL L.2.length (1 + j)) ∧ c.length = i ∧ ∀ e ∈ c, 1 ≤ e.2 ∧ e.2 ≤ 3) ⟨Nat.zero_le _, mr04, hR4, zs, _, [], [], none, rfl, hzs4, hpz4, hfl4, .nil, by simp, rfl, fun e he => by simp at he⟩ ?_ ?_
    · rintro i σ' H' hi ⟨_, mrH, hRH, zs, rem, acc, c, x7, rfl, hz, hpz, hf, hpa, hperm, hcl, hcw⟩
      have hzl := paired_len hpz
      have hal := paired_len hpa
      have htot : rem.length + c.length = L.2.length ^ (1 + j) := by
        have := hperm.length_eq
        rw [List.length_append, List.length_map, rowsL_len] at this
        exact this
      refine ⟨_, rfl, .inl ⟨rfl, _, sql hf⟩, _, rfl, .inl ⟨rfl, _, sql hz⟩, _, rfl, _, rfl, r, _, rfl, .inl (sql hz), ?_⟩
      refine ⟨R, sc, _, rfl, by omega, by omega, hRH, fun p H5 hp mr5 hR5 => ?_⟩
      have hp' : p < zs.length := by omega
      have hz5 := mr5 _ _ nrR hz
      have hf5 := mr5 _ _ nflR hf
      have hpz5 := paired_map hpz fun u z q => keepR (r := Poly) hRH mr5 q
      have hpa5 := paired_map hpa fun u z q => keepR (r := Pr Poly rI_) hRH mr5 q
      refine ⟨r, zs, (p : Int), p, zs[p], rfl, rfl, hz5, by omega, by omega, seqIndex_nat hp', List.getElem?_eq_getElem hp', ?_⟩
      have kmr : ∀ (b : Addr) (o : HO), b ≠ r → H5 b = some o → upd H5 r (.lst (zs.eraseIdx p)) b = some o := fun b o hb e => by rw [upd_ne hb]; exact e
      have hR6 := rw_updN (o := .lst (zs.eraseIdx p)) hR hnr hR5
      refine ⟨_, rfl, R, sc, 3, rfl, by decide, by decide, hR6, fun w7 H7 hw7 mr7 hR7 => ?_⟩
      refine ⟨_, _, rfl, rfl, by show 2 ≤ sizeLine; decide, fun t nt => ?_⟩
      have s8 := same_new (o := .tup [zs[p], V.int (1 + (w7 : Int))]) nt
      have hf7 : H7 fl = some (.lst acc) := mr7 _ _ nflR (by rw [upd_ne hrf.symm]; exact hf5)
      have hf8 := s8 _ _ hf7
      have hz7 : H7 r = some (.lst (zs.eraseIdx p)) := mr7 _ _ nrR upd_same
      have kall : ∀ {α : Type} {rp : Rp α} [Kp rp] [Im rp] {u : V} {z : α}, rp H5 u z → rp (upd (upd H7 t (.tup [zs[p], V.int (1 + (w7 : Int))])) fl (.lst (acc ++ [.ref t]))) u z := fun q =>
        keepM hf8 (fun b o hb e => by rw [upd_ne hb]; exact e) (keep s8 (keepR hR6 mr7 (keepM hz5 kmr q)))
      obtain ⟨wd, hwd, hwp⟩ := paired_get' hpz5 (List.getElem?_eq_getElem hp')
      have hp2 : p < rem.length := by omega
      have ewd : wd = rem[p] := by rw [List.getElem?_eq_getElem hp2] at hwd; exact (Option.some.inj hwd).symm
      refine ⟨fl, acc, _, rfl, rfl, hf8, line_lt (by omega), by omega, ?_, rw_updN hR hnf (rw_same s8 hR7), zs.eraseIdx p, rem.eraseIdx p, acc ++ [.ref t], c ++ [(wd, 1 + (w7 : Int))], _, rfl, ?_, ?_, upd_same, ?_, ?_, by rw [List.length_append, hcl]; rfl, fun e he => ?_⟩
      · exact fun b o hb e => by
          have h5 := mr5 _ _ hb (mrH _ _ hb e)
          have h6 : upd H5 r (.lst (zs.eraseIdx p)) b = some o := by rw [upd_ne (ne_of_none e hnr)]; exact h5
          rw [upd_ne (ne_of_none e hnf)]
          exact s8 _ _ (mr7 _ _ hb h6)
      · rw [upd_ne hrf]
        exact s8 _ _ hz7
      · exact paired_erase (paired_map hpz5 fun u z q => kall q) p
      · refine paired_app (paired_map hpa5 fun u z q => kall q) (.cons ⟨t, zs[p], .int (1 + (w7 : Int)), rfl, ?_, kall hwp, rfl⟩ .nil)
        rw [upd_ne (ne_of_none hf7 nt).symm]
        exact upd_same
      · rw [List.map_append, ewd]
        exact (erase_perm rem p hp2 (c.map (·.1))).trans hperm
      · rcases List.mem_append.mp he with h | h
        · exact hcw e h
        · have : e = (wd, 1 + (w7 : Int)) := by simpa using h
          subst this
          exact ⟨by show (1 : Int) ≤ 1 + (w7 : Int); omega, by show 1 + (w7 : Int) ≤ 3; omega⟩
    · rintro σ' H' ⟨_, mrH, hRH, zs, rem, acc, c, x7, rfl, hz, hpz, hf, hpa, hperm, hcl, hcw⟩
      refine ⟨_, rfl, fl, _, rfl, .inl ⟨sql hf, fun t nt => ?_⟩⟩
      have s9 := same_new (o := .tup acc) nt
      have htot : rem.length + c.length = L.2.length ^ (1 + j) := by
        have := hperm.length_eq
        rw [List.length_append, List.length_map, rowsL_len] at this
        exact this
      have hnd := hperm.nodup_iff.mpr nd
      refine k _ c (1 + j) _ (mrH.trans (mr_same s9)) (rw_same s9 hRH) ⟨t, acc, rfl, upd_same, paired_map hpa fun u z q => keep (r := Pr Poly rI_) s9 q⟩ ⟨by omega, by omega, by omega, by omega, fun e he => ⟨?_, hcw e he⟩, (List.nodup_append.mp hnd).2.1⟩
      exact rowsL_ok _ _ _ (hperm.subset (List.mem_append_right _ (List.mem_map_of_mem he)))
end
end EN
namespace EN
open PySem PySem.Spec PyProof.Rows L2
/-- row of a line -/
theorem row_of {H : Hp} {a : Addr} {xs : List V} {row : List (List Int)} (h : H a = some (.tup xs)) (p : Paired (Poly H) xs row) : Row H (.ref a) row := ⟨a, xs, rfl, h, p⟩
def someF (L : Int × List (List (List Int))) (c : List (List Int × Int)) (low : Int) (s : Int × Int) (row : List Int) : List (Int × Int) := c.map fun e => timesF (e.2, low) (lawAt (chF L.2 e.1 row) s)
def bstStep (b o : Int × Int) : Int × Int := if belowF b o = true then o else b
def bestOf (some : List (Int × Int)) : Int × Int := some.foldl bstStep (some.getD 0 (0, 1))
def lawBest (L : Int × List (List (List Int))) (c : List (List Int × Int)) (wide long : Nat) (s : Int × Int) : Int × Int := (rowsL wide long).foldl (fun f row => plusF f (bestOf (someF L c (lowF' L c long) s row))) (0, 1)
theorem bst_mem {Pr' : Int × Int → Prop} (l : List (Int × Int)) : ∀ (b : Int × Int), Pr' b → (∀ o ∈ l, Pr' o) → Pr' (l.foldl bstStep b) := by
  induction l with
  | nil => exact fun b h _ => h
  | cons a l ih =>
    intro b hb h
    rw [List.foldl_cons]
    refine ih _ ?_ fun o ho => h o (List.mem_cons_of_mem _ ho)
    unfold bstStep
    split
    · exact h a (List.mem_cons_self ..)
    · exact hb
theorem share_fb {t l : Int} (h : ShareOk t l) (h8 : l ≤ 8) : FB 4 4 (t, l) := by
  obtain ⟨h0, h1, h2, h3, h4⟩ := h
  exact ⟨h2, by show Bt 4 t; unfold Bt; omega, by show Bt 4 l; unfold Bt; omega⟩
theorem chF_sm {L : Int × List (List (List Int))} {wide n : Nat} (ok : LineOk L wide) {word row : List Int} (hw : WordOk L.2.length n word) (hr : WordOk wide n row) (hn : n ≤ 3) : (chF L.2 word row).length ≤ 20 ∧ ∀ c ∈ chF L.2 word row, Sm c := by
  obtain ⟨h1, h2⟩ := chF_bound ok hw hr hn
  exact ⟨by omega, cb_sm h2 (by decide)⟩
theorem some_fb {L : Int × List (List (List Int))} {wide long : Nat} {c : List (List Int × Int)} {s : Int × Int} {row : List Int} (ok : LineOk L wide) (okc : CodeOk L.2.length c long) (hs : FB 4 4 s) (hr : WordOk wide long row) : ∀ o ∈ someF L c (lowF' L c long) s row, FB 4011 111 o := fun o ho => by
  obtain ⟨e, he, rfl⟩ := List.mem_map.mp ho
  obtain ⟨hw, h1, h2⟩ := okc.words e he
  obtain ⟨l1, l2⟩ := chF_sm ok hw hr okc.l2
  obtain ⟨q1, q2⟩ := low_all ok okc
  have a := lawAt_fb' hs l2 l1
  have b : FB 10 10 (e.2, lowF' L c long) := ⟨q1, by show Bt 10 e.2; unfold Bt; omega, by show Bt 10 (lowF' L c long); unfold Bt; omega⟩
  exact (timesF_fb b a).mono (by omega) (by omega)
theorem best_fb {L : Int × List (List (List Int))} {wide long : Nat} {c : List (List Int × Int)} {s : Int × Int} {row : List Int} (ok : LineOk L wide) (okc : CodeOk L.2.length c long) (hs : FB 4 4 s) (hr : WordOk wide long row) : FB 4011 111 (bestOf (someF L c (lowF' L c long) s row)) := by
  have h := some_fb ok okc hs hr
  refine bst_mem _ _ ?_ h
  have hl : 0 < (someF L c (lowF' L c long) s row).length := by
    unfold someF
    rw [List.length_map]
    exact okc.n1
  rw [List.getD_eq_getElem?_getD, List.getElem?_eq_getElem hl]
  exact h _ (List.getElem_mem hl)
theorem lawBest_fb {L : Int × List (List (List Int))} {wide long : Nat} {c : List (List Int × Int)} {s : Int × Int} (ok : LineOk L wide) (okc : CodeOk L.2.length c long) (hs : FB 4 4 s) (i : Nat) : i ≤ 27 → i ≤ (rowsL wide long).length → FB (1 + 7200 * i) (1 + 111 * i) (((rowsL wide long).take i).foldl (fun f row => plusF f (bestOf (someF L c (lowF' L c long) s row))) (0, 1)) := by
  induction i with
  | zero => exact fun _ _ => ⟨by show (0 : Int) < 1; decide, by show Bt _ (0 : Int); unfold Bt; decide, by show Bt _ (1 : Int); unfold Bt; decide⟩
  | succ i ih =>
    intro h27 h
    rw [foldl_take (List.getElem?_eq_getElem (show i < (rowsL wide long).length by omega))]
    have hr := rowsL_ok wide long _ (List.getElem_mem (show i < (rowsL wide long).length by omega))
    exact (plusF_fb (ih (by omega) (by omega)) (best_fb ok okc hs hr)).mono (by omega) (by omega)
section
variable {P : Program} {w : World} {K : PySem.W.Frag} {mg : Str → Option Value} {base : Heap} {f : Addr} {fd : FuncData}

/-! ### _law_line -/
-- slots: 0 _law_row, 1 _law_sent, 2 _law_heard, 3 _law_many, 4 _law_wide, 5 _law_kind, 6 _law_table, 7 _law_low_here, 8 _law_turn, 9 _law_a*, 10 _law_b*, 11 _law_c*, 12 _law_some, 13 _law_k, 14 _law_one
abbrev s_law_line : Stmt := topS 86
theorem sc_law_line : FnScope ["_law_row", "_law_sent", "_law_heard", "_law_many", "_law_wide", "_law_kind", "_law_table", "_law_low_here", "_law_turn", "_law_a", "_law_b", "_law_c", "_law_some", "_law_k", "_law_one"] ["_law_row", "_law_sent", "_law_heard"] (C8.fnScope s_law_line) := C8.fnScope_by (by decide +kernel)
def sp_law_line (K : PySem.W.Frag) : Sp := fun vs H Q _ => ∃ (R sc : Addr), vs = [.ref R, .int 3, .int 3] ∧ Rw K H R sc ∧ ∀ r L wide H', MR R H H' → Rw K H' R sc → Line H' r L → LineOk L wide → Q r H'
theorem cal_law_line (D : C8.Def K mg "_law_line" s_law_line f fd) (df : fd.defaults = .none) (T : Tx K mg) (c_law_taken : C8.Cal P w K mg base 1 "_law_taken" (sp_law_taken K) []) (c_law_pick : C8.Cal P w K mg base 2 "_law_pick" (sp_law_pick K) []) (c_law_poly : C8.Cal P w K mg base 1 "_law_poly" (sp_law_poly K) [])
    (c_law_spread : C8.Cal P w K mg base 2 "_law_spread" (sp_law_spread K) []) : C8.Cal P w K mg base 3 "_law_line" (sp_law_line K) [] := by
  refine C8.cal0 D (D.fn.binds df (ps := ["_law_row", "_law_sent", "_law_heard"]) fun _ _ _ _ _ _ us hl => match us, hl with | [_, _, _], _ => rfl) .nil sc_law_line (fun vs H Q E h => ?_) (fun cdv A outer s H vs Q E hr h => ?_)
  · obtain ⟨R, sc, rfl, _⟩ := h
    rfl
  · obtain ⟨R, sc, rfl, hR, k⟩ := h
    refine ⟨_, (pss_cons (ps_par (i := 3) (j := 4) rfl sc_law_line.nd rfl rfl (by decide) rfl rfl (pa_cons (pe_op op_add pe_int (C8.pe_c c_law_taken hr (by decide) (by rfl) (pa_cons (pv 0) (pa_cons (pe_op op_sub (pv 1) pe_int) pa_nil)))) (pa_cons (pe_op op_add pe_int (C8.pe_c c_law_taken hr (by decide) (by rfl) (pa_cons (pv 0) (pa_cons (pe_op op_sub (pv 2) pe_int) pa_nil)))) pa_nil)) (by rfl))
      (pss_cons (ps_set (i := 5) sc_law_line.nd rfl (.inl rfl) (C8.pe_c c_law_taken hr (by decide) (by rfl) (pa_cons (pv 0) (pa_cons pe_int pa_nil))))
      (pss_cons (ps_if (pt_cmpR op_eq (pv 5) pe_int (nomark _))
        (pss_one (ps_ret (pe_tup (pa_cons pe_int (pa_cons (pe_tup (pa_cons (pe_tup (pa_cons (pe_tup (pa_cons pe_int (pa_cons (pe_un un_neg pe_int) pa_nil))) (pa_cons (pe_tup (pa_cons pe_int (pa_cons pe_int pa_nil))) pa_nil))) (pa_cons (pe_tup (pa_cons (pe_tup (pa_cons pe_int (pa_cons pe_int pa_nil))) (pa_cons (pe_tup (pa_cons pe_int (pa_cons (pe_un un_neg pe_int) pa_nil))) pa_nil))) pa_nil))) pa_nil)))))
        pss_nil)
      (pss_cons (ps_if (pt_cmpR op_eq (pv 5) pe_int (nomark _))
        (pss_one (ps_ret (pe_tup (pa_cons pe_int (pa_cons (pe_tup (pa_cons (pe_tup (pa_cons (pe_tup (pa_cons pe_int (pa_cons (pe_un un_neg pe_int) pa_nil))) (pa_cons (pe_tup pa_nil) (pa_cons (pe_tup (pa_cons pe_int (pa_cons pe_int pa_nil))) pa_nil)))) (pa_cons (pe_tup (pa_cons (pe_tup pa_nil) (pa_cons (pe_tup (pa_cons pe_int (pa_cons (pe_un un_neg pe_int) pa_nil))) (pa_cons (pe_tup (pa_cons pe_int (pa_cons pe_int pa_nil))) pa_nil)))) pa_nil))) pa_nil)))))
        pss_nil)
      (pss_cons (ps_par (i := 6) (j := 7) rfl sc_law_line.nd rfl rfl (by decide) rfl rfl (pa_cons (pe_lst pa_nil) (pa_cons (C8.pe_c c_law_pick hr (by decide) (by rfl) (pa_cons (pv 0) (pa_cons (pe_lst (pa_cons pe_int (pa_cons pe_int (pa_cons pe_int pa_nil)))) pa_nil))) pa_nil)) (by rfl))
      (pss_cons (ps_for PassesOwn.never rfl (pi_range1 (by rfl) T.range_ (pa_cons (pv 3) pa_nil)) (pg_name (i := 8) sc_law_line.nd rfl (.inl rfl))
        (pss_cons (ps_asg (pe_tup (pa_cons (C8.pe_c c_law_spread hr (by decide) (by rfl) (pa_cons (pv 0) (pa_cons (pv 4) (pa_cons (pv 7) pa_nil)))) (pa_cons (C8.pe_c c_law_spread hr (by decide) (by rfl) (pa_cons (pv 0) (pa_cons (pv 4) (pa_cons (pv 7) pa_nil)))) (pa_cons (C8.pe_c c_law_spread hr (by decide) (by rfl) (pa_cons (pv 0) (pa_cons (pv 4) (pa_cons (pv 7) pa_nil)))) pa_nil)))) (pg_tup rfl (pgs_cons (pg_name (i := 9) sc_law_line.nd rfl (.inr rfl)) (pgs_cons (pg_name (i := 10) sc_law_line.nd rfl (.inr rfl)) (pgs_cons (pg_name (i := 11) sc_law_line.nd rfl (.inr rfl)) pgs_nil)))))
        (pss_cons (ps_if (pt_cmpR op_eq (pv 5) pe_int (nomark _))
          (pss_one (ps_setLc (i := 12) (own := [("_law_k", 13)]) (by rfl) sc_law_line.nd rfl rfl (sw_true rfl rfl rfl (by decide +kernel)) (pi_range1 (by rfl) T.range_ (pa_cons (pv 4) pa_nil)) (blkOk_by (N := ["_law_row", "_law_sent", "_law_heard", "_law_many", "_law_wide", "_law_kind", "_law_table", "_law_low_here", "_law_turn", "_law_a", "_law_b", "_law_c", "_law_some", "_law_k", "_law_one"]) (sc := C8.fnScope s_law_line) (by decide +kernel)) (fun _ _ _ _ _ => (pg_name (i := 13) sc_law_line.nd rfl (.inl rfl))) (fun _ _ _ _ _ => pts_nil) (fun _ _ _ _ _ => (pe_tup (pa_cons (pe_ix (ixB (K := K)) (pv 9) (pv 13) (fun _ _ => rfl)) (pa_cons (pe_op op_sub (pe_op op_mul pe_int (pe_ix (ixB (K := K)) (pv 10) (pv 13) (fun _ _ => rfl))) (pe_op op_mul pe_int (pe_ix (ixB (K := K)) (pv 9) (pv 13) (fun _ _ => rfl)))) (pa_cons (pe_op op_add (pe_op op_sub (pe_ix (ixB (K := K)) (pv 9) (pv 13) (fun _ _ => rfl)) (pe_op op_mul pe_int (pe_ix (ixB (K := K)) (pv 10) (pv 13) (fun _ _ => rfl)))) (pe_ix (ixB (K := K)) (pv 11) (pv 13) (fun _ _ => rfl))) pa_nil)))))))
          (pss_one (ps_setLc (i := 12) (own := [("_law_k", 13)]) (by rfl) sc_law_line.nd rfl rfl (sw_true rfl rfl rfl (by decide +kernel)) (pi_range1 (by rfl) T.range_ (pa_cons (pv 4) pa_nil)) (blkOk_by (N := ["_law_row", "_law_sent", "_law_heard", "_law_many", "_law_wide", "_law_kind", "_law_table", "_law_low_here", "_law_turn", "_law_a", "_law_b", "_law_c", "_law_some", "_law_k", "_law_one"]) (sc := C8.fnScope s_law_line) (by decide +kernel)) (fun _ _ _ _ _ => (pg_name (i := 13) sc_law_line.nd rfl (.inl rfl))) (fun _ _ _ _ _ => pts_nil) (fun _ _ _ _ _ => (pe_tup (pa_cons (pe_ix (ixB (K := K)) (pv 9) (pv 13) (fun _ _ => rfl)) (pa_cons (pe_op op_sub (pe_ix (ixB (K := K)) (pv 10) (pv 13) (fun _ _ => rfl)) (pe_ix (ixB (K := K)) (pv 9) (pv 13) (fun _ _ => rfl))) pa_nil)))))))
        (pss_one (ps_expr (pe_bm PySem.F.plainAttrs_list PySem.F.slot_list_append PySem.F.type_list_append mt_append (pv 6) (pa_cons (pe_callTy call_tuple_of (by rfl) T.tuple_ (by decide +kernel) (pa_cons (pe_lc (own := [("_law_one", 14)]) (by rfl) sc_law_line.nd (pi_seq (pv 12)) (blkOk_by (N := ["_law_row", "_law_sent", "_law_heard", "_law_many", "_law_wide", "_law_kind", "_law_table", "_law_low_here", "_law_turn", "_law_a", "_law_b", "_law_c", "_law_some", "_law_k", "_law_one"]) (sc := C8.fnScope s_law_line) (by decide +kernel)) (fun _ _ _ _ _ => (pg_name (i := 14) sc_law_line.nd rfl (.inl rfl))) (fun _ _ _ _ _ => pts_nil) (fun _ _ _ _ _ => (C8.pe_c c_law_poly hr (by decide) (by rfl) (pa_cons (pv 14) pa_nil)))) pa_nil)) pa_nil)))))))
      (pss_one (ps_ret (pe_tup (pa_cons (pv 7) (pa_cons (pe_callTy call_tuple_of (by rfl) T.tuple_ (by decide +kernel) (pa_cons (pv 6) pa_nil)) pa_nil))))))))))), ?_⟩
    refine ⟨_, rfl, _, rfl, _, _, rfl, rfl, R, sc, 2, rfl, by decide, by decide, hR, fun j1 H1 hj1 mr1 hR1 => ?_⟩
    refine ⟨_, _, rfl, rfl, _, rfl, _, rfl, _, _, rfl, rfl, R, sc, 2, rfl, by decide, by decide, hR1, fun j2 H2 hj2 mr2 hR2 => ?_⟩
    refine ⟨_, _, rfl, rfl, _, _, rfl, ?_⟩
    refine ⟨_, rfl, R, sc, 4, rfl, by decide, by decide, hR2, fun kd H3 hkd mr3 hR3 => ?_⟩
    have mrA := mr1.trans (mr2.trans mr3)
    refine ⟨_, rfl, rfl, _, rfl, ?_⟩
    by_cases k0 : (kd : Int) = 0
    · refine itT (veq k0) ?_
      refine ⟨_, rfl, by show 2 ≤ sizeLine; decide, fun t1 n1 => ?_⟩
      have s1 := same_new (o := .tup [.int 1, .int (-1)]) n1
      refine ⟨by show 2 ≤ sizeLine; decide, fun t2 n2 => ?_⟩
      have s2 := same_new (o := .tup [.int 0, .int 1]) n2
      refine ⟨by show 2 ≤ sizeLine; decide, fun r1 m1 => ?_⟩
      have s3 := same_new (o := .tup [.ref t1, .ref t2]) m1
      refine ⟨by show 2 ≤ sizeLine; decide, fun t3 n3 => ?_⟩
      have s4 := same_new (o := .tup [.int 0, .int 1]) n3
      refine ⟨_, rfl, by show 2 ≤ sizeLine; decide, fun t4 n4 => ?_⟩
      have s5 := same_new (o := .tup [.int 1, .int (-1)]) n4
      refine ⟨by show 2 ≤ sizeLine; decide, fun r2 m2 => ?_⟩
      have s6 := same_new (o := .tup [.ref t3, .ref t4]) m2
      refine ⟨by show 2 ≤ sizeLine; decide, fun tb nb => ?_⟩
      have s7 := same_new (o := .tup [.ref r1, .ref r2]) nb
      refine ⟨by show 2 ≤ sizeLine; decide, fun ln nl => ?_⟩
      have s8 := same_new (o := .tup [.int 1, .ref tb]) nl
      refine k (.ref ln) line0 2 _ (mrA.trans (mr_same (s1.trans (s2.trans (s3.trans (s4.trans (s5.trans (s6.trans (s7.trans s8))))))))) (rw_same (s1.trans (s2.trans (s3.trans (s4.trans (s5.trans (s6.trans (s7.trans s8))))))) hR3) ⟨ln, .int 1, .ref tb, rfl, upd_same, rfl, keep s8 ?_⟩ line0_ok
      refine ⟨tb, _, rfl, upd_same, .cons (keep (r := Row) (s4.trans (s5.trans (s6.trans s7))) (row_of upd_same (.cons (keep (r := Poly) s3 (poly_of (p := [1, -1]) (s2 _ _ upd_same))) (.cons (keep (r := Poly) s3 (poly_of (p := [0, 1]) upd_same)) .nil)))) (.cons (keep (r := Row) s7 (row_of upd_same (.cons (keep (r := Poly) s6 (poly_of (p := [0, 1]) (s5 _ _ upd_same))) (.cons (keep (r := Poly) s6 (poly_of (p := [1, -1]) upd_same)) .nil)))) .nil)⟩
    refine itF (vne k0) ?_
    refine ⟨_, rfl, rfl, _, rfl, ?_⟩
    by_cases k1 : (kd : Int) = 1
    · refine itT (veq k1) ?_
      refine ⟨_, rfl, by show 2 ≤ sizeLine; decide, fun t1 n1 => ?_⟩
      have s1 := same_new (o := .tup [.int 2, .int (-1)]) n1
      refine ⟨Nat.zero_le _, fun t2 n2 => ?_⟩
      have s2 := same_new (o := .tup []) n2
      refine ⟨by show 2 ≤ sizeLine; decide, fun t3 n3 => ?_⟩
      have s3 := same_new (o := .tup [.int 0, .int 1]) n3
      refine ⟨by show 3 ≤ sizeLine; decide, fun r1 m1 => ?_⟩
      have s4 := same_new (o := .tup [.ref t1, .ref t2, .ref t3]) m1
      refine ⟨Nat.zero_le _, fun t4 n4 => ?_⟩
      have s5 := same_new (o := .tup []) n4
      refine ⟨_, rfl, by show 2 ≤ sizeLine; decide, fun t5 n5 => ?_⟩
      have s6 := same_new (o := .tup [.int 2, .int (-1)]) n5
      refine ⟨by show 2 ≤ sizeLine; decide, fun t6 n6 => ?_⟩
      have s7 := same_new (o := .tup [.int 0, .int 1]) n6
      refine ⟨by show 3 ≤ sizeLine; decide, fun r2 m2 => ?_⟩
      have s8 := same_new (o := .tup [.ref t4, .ref t5, .ref t6]) m2
      refine ⟨by show 2 ≤ sizeLine; decide, fun tb nb => ?_⟩
      have s9 := same_new (o := .tup [.ref r1, .ref r2]) nb
      refine ⟨by show 2 ≤ sizeLine; decide, fun ln nl => ?_⟩
      have s10 := same_new (o := .tup [.int 2, .ref tb]) nl
      have sT := s1.trans (s2.trans (s3.trans (s4.trans (s5.trans (s6.trans (s7.trans (s8.trans (s9.trans s10))))))))
      refine k (.ref ln) line1 3 _ (mrA.trans (mr_same sT)) (rw_same sT hR3) ⟨ln, .int 2, .ref tb, rfl, upd_same, rfl, keep s10 ?_⟩ line1_ok
      refine ⟨tb, _, rfl, upd_same, .cons (keep (r := Row) (s5.trans (s6.trans (s7.trans (s8.trans s9)))) (row_of upd_same (.cons (keep (r := Poly) s4 (poly_of (p := [2, -1]) ((s2.trans s3) _ _ upd_same))) (.cons (keep (r := Poly) s4 (poly_of (p := []) (s3 _ _ upd_same))) (.cons (keep (r := Poly) s4 (poly_of (p := [0, 1]) upd_same)) .nil))))) (.cons (keep (r := Row) s9 (row_of upd_same (.cons (keep (r := Poly) s8 (poly_of (p := []) ((s6.trans s7) _ _ upd_same))) (.cons (keep (r := Poly) s8 (poly_of (p := [2, -1]) (s7 _ _ upd_same))) (.cons (keep (r := Poly) s8 (poly_of (p := [0, 1]) upd_same)) .nil))))) .nil)⟩
    refine itF (vne k1) ?_
    -- table, low
    refine ⟨Nat.zero_le _, fun tl ntl => ?_⟩
    have s4 := same_new (o := .lst []) ntl
    have ntlH : H tl = none := by
      cases e : H tl with
      | none => rfl
      | some o =>
        exfalso
        by_cases hb : tl = R
        · exact rw_ne hR3 ntl hb
        · have := mrA _ _ hb e
          rw [ntl] at this
          cases this
    have ntlR := rw_ne hR ntlH
    refine ⟨_, rfl, by show 3 ≤ sizeLine; decide, fun l3 nl3 => ?_⟩
    have s5 := same_new (o := .lst [V.int 2, .int 3, .int 4]) nl3
    have hR5 := rw_same (s4.trans s5) hR3
    have nl3R := rw_ne (rw_same s4 hR3) nl3
    refine ⟨R, sc, l3, [V.int 2, .int 3, .int 4], rfl, .inl (sql upd_same), nl3R, by decide, by decide, fun H' m h => h.elim (fun h => .inl (sql_mr m nl3R h)) (fun h => ?_), hR5, fun jl x H6 hx mr6 hR6 => ?_⟩
    · rcases h with (h | ⟨o, h⟩) | h
      · rw [upd_same] at h; cases h
      · rw [upd_same] at h; cases h
      · exact .inr (.inr h)
    obtain ⟨low, rfl, lo1, lo2⟩ : ∃ low : Nat, x = .int (low : Int) ∧ 1 ≤ low ∧ low ≤ 4 := by
      match jl, hx with
      | 0, h => exact ⟨2, (Option.some.inj h).symm, by decide, by decide⟩
      | 1, h => exact ⟨3, (Option.some.inj h).symm, by decide, by decide⟩
      | 2, h => exact ⟨4, (Option.some.inj h).symm, by decide, by decide⟩
      | n + 3, h => simp at h
    have mr6' : MR R H H6 := mrA.trans ((mr_same (s4.trans s5)).trans mr6)
    have htl6 : H6 tl = some (.lst []) := mr6 _ _ ntlR (s5 _ _ upd_same)
    refine ⟨_, _, rfl, ?_⟩
    have ewide : (2 : Int) + (j2 : Int) = ((2 + j2 : Nat) : Int) := by omega
    have hw : 2 + j2 = 2 ∨ 2 + j2 = 3 := by omega
    refine ⟨_, rfl, _, rfl, by omega, by omega, ?_⟩
    rw [show ((2 : Int) + (j1 : Int)).toNat = 2 + j1 by omega]
    refine for_range (n := 2 + j1) (fun i σ' H' => MR R H H' ∧ Rw K H' R sc ∧ ∃ acc rows x8 x9 x10 x11 x12, σ' = [some (.ref R), some (.int 3), some (.int 3), some (.int (2 + (j1 : Int))), some (.int (2 + (j2 : Int))), some (.int (kd : Int)), some (.ref tl), some (.int (low : Int)), x8, x9, x10, x11, x12, none, none] ∧ H' tl = some (.lst acc) ∧ Paired (Row H') acc rows ∧ rows.length = i ∧ ∀ row ∈ rows, RowOk low (2 + j2) row) ⟨mr6', hR6, [], [], none, none, none, none, none, rfl, htl6, .nil, rfl, fun r h => by simp at h⟩ ?_ ?_
    · rintro i σ' H' hi ⟨mrH, hRH, acc, rows, x8, x9, x10, x11, x12, rfl, htl, hpa, hrl, hrows⟩
      have hal := paired_len hpa
      refine ⟨_, rfl, _, rfl, _, rfl, R, sc, 2 + j2, low, by rw [ewide]; rfl, by omega, by omega, lo2, hRH, fun la A1 Ha nla mra hRa hla hA => ?_⟩
      refine ⟨_, rfl, _, rfl, _, rfl, R, sc, 2 + j2, low, by rw [ewide]; rfl, by omega, by omega, lo2, hRa, fun lb B1 Hb nlb mrb hRb hlb hB => ?_⟩
      refine ⟨_, rfl, _, rfl, _, rfl, R, sc, 2 + j2, low, by rw [ewide]; rfl, by omega, by omega, lo2, hRb, fun lc C1 Hc nlc mrc hRc hlc hC => ?_⟩
      have nlaR := rw_ne hRH nla
      have nlbR := rw_ne hRa nlb
      have nlcR := rw_ne hRb nlc
      have hla' := mrc _ _ nlaR (mrb _ _ nlaR hla)
      have hlb' := mrc _ _ nlbR hlb
      have mrabc := mra.trans (mrb.trans mrc)
      refine ⟨by show 3 ≤ sizeLine; decide, fun t3 nt3 => ?_⟩
      have s7 := same_new (o := .tup [.ref la, .ref lb, .ref lc]) nt3
      refine ⟨t3, _, rfl, sqt upd_same, rfl, _, _, rfl, _, _, rfl, _, _, rfl, rfl, ?_⟩
      -- behind some
      have htl7 := s7 _ _ (mrabc _ _ ntlR htl)
      have hpa7 := paired_map hpa fun u z q => keep (r := Row) s7 (keepR hRH mrabc q)
      have hR7 := rw_same s7 hRc
      have hla7 := s7 _ _ hla'
      have hlb7 := s7 _ _ hlb'
      have hlc7 := s7 _ _ hlc
      have gA : ∀ m, m < 2 + j2 → (A1.map V.int)[m]? = some (.int (coef A1 m)) := fun m hm => get_intc (by rw [hA.len]; exact hm)
      have gB : ∀ m, m < 2 + j2 → (B1.map V.int)[m]? = some (.int (coef B1 m)) := fun m hm => get_intc (by rw [hB.len]; exact hm)
      have gC : ∀ m, m < 2 + j2 → (C1.map V.int)[m]? = some (.int (coef C1 m)) := fun m hm => get_intc (by rw [hC.len]; exact hm)
      refine ⟨_, rfl, rfl, _, rfl, ?_⟩
      by_cases k2 : (kd : Int) = 2
      · refine itT (veq k2) ?_
        refine ⟨_, rfl, _, rfl, by omega, by omega, ?_⟩
        rw [show ((2 : Int) + (j2 : Int)).toNat = 2 + j2 by omega]
        refine lc_map (r := Poly) (G := fun _ => True) walk_range (fun _ _ => trivial) (by omega) (fun m => [coef A1 m, 2 * coef B1 m - 2 * coef A1 m, coef A1 m - 2 * coef B1 m + coef C1 m]) (fun m y H8 H8' hm s8 hy C hCC => ?_) fun ls H8 s8 hv8 => ?_
        · obtain ⟨rfl, rfl⟩ := hy
          rw [show (fun (i : Nat) => V.int (0 + (i : Int))) m = V.int (m : Int) from congrArg V.int (Int.zero_add _)]
          have a8 := s8 _ _ hla7
          have b8 := s8 _ _ hlb7
          have c8 := s8 _ _ hlc7
          refine ⟨rfl, _, rfl, _, rfl, .inl ⟨la, _, _, _, rfl, rfl, sql a8, atI_n (gA m hm), ?_⟩⟩
          refine ⟨_, rfl, _, rfl, .inl ⟨lb, _, _, _, rfl, rfl, sql b8, atI_n (gB m hm), _, _, rfl, rfl, .inl (by decide), ?_⟩⟩
          refine ⟨_, rfl, _, rfl, .inl ⟨la, _, _, _, rfl, rfl, sql a8, atI_n (gA m hm), _, _, rfl, rfl, .inl (by decide), _, _, rfl, rfl, ?_⟩⟩
          refine ⟨_, rfl, _, rfl, .inl ⟨la, _, _, _, rfl, rfl, sql a8, atI_n (gA m hm), ?_⟩⟩
          refine ⟨_, rfl, _, rfl, .inl ⟨lb, _, _, _, rfl, rfl, sql b8, atI_n (gB m hm), _, _, rfl, rfl, .inl (by decide), _, _, rfl, rfl, ?_⟩⟩
          refine ⟨_, rfl, _, rfl, .inl ⟨lc, _, _, _, rfl, rfl, sql c8, atI_n (gC m hm), _, _, rfl, rfl, ?_⟩⟩
          exact ⟨by show 3 ≤ sizeLine; decide, fun t nt => hCC _ _ (same_new nt) (poly_of upd_same)⟩
        · obtain ⟨ls', us, e, hls, hpu⟩ := hv8
          cases e
          have hul := paired_len hpu
          rw [List.length_map, List.length_range] at hul
          refine ⟨_, rfl, .inl ⟨rfl, _, sql (s8 _ _ htl7)⟩, _, rfl, lc_mapS (r := Poly) (.inl (sql hls)) (by omega) (fun m => cutL [coef A1 m, 2 * coef B1 m - 2 * coef A1 m, coef A1 m - 2 * coef B1 m + coef C1 m]) (fun m y H9 hy s9 C hCC => ?_) fun lp H9 s9 hv9 => ?_⟩
          · obtain ⟨p, hp, hpy⟩ := paired_get' hpu hy
            have hm : m < 2 + j2 := by
              have := (List.getElem?_eq_some_iff.mp hy).1
              omega
            have ep : p = [coef A1 m, 2 * coef B1 m - 2 * coef A1 m, coef A1 m - 2 * coef B1 m + coef C1 m] := by
              rw [List.getElem?_map, List.getElem?_range hm] at hp
              exact (Option.some.inj hp).symm
            subst ep
            exact ⟨rfl, _, rfl, _, _, rfl, zs_poly (keep s9 hpy), by simp, fun r H10 s10 hr10 => hCC _ _ s10 hr10⟩
          · obtain ⟨lp', ws, e, hlp, hpw⟩ := hv9
            cases e
            rw [hul] at hpw
            refine ⟨lp, _, rfl, .inl ⟨sql hlp, fun tr ntr => ?_⟩⟩
            have s10 := same_new (o := .tup ws) ntr
            have sX := s8.trans (s9.trans s10)
            have htl10 := sX _ _ htl7
            have k10 : ∀ (b : Addr) (o : HO), b ≠ tl → upd H9 tr (.tup ws) b = some o → upd (upd H9 tr (.tup ws)) tl (.lst (acc ++ [.ref tr])) b = some o := fun b o hb e => by rw [upd_ne hb]; exact e
            refine ⟨tl, acc, _, rfl, rfl, htl10, line_lt (by omega), ?_⟩
            refine ⟨fun b o hb e => ?_, rw_updN hR ntlH (rw_same sX hR7), acc ++ [.ref tr], rows ++ [rowTwo A1 B1 C1 (2 + j2)], _, _, _, _, _, rfl, upd_same, ?_, by rw [List.length_append, hrl]; rfl, fun row hrow => ?_⟩
            · rw [upd_ne (ne_of_none e ntlH)]
              exact sX _ _ (s7 _ _ (mrabc _ _ hb (mrH _ _ hb e)))
            · refine paired_app (paired_map hpa7 fun u z q => keepM htl10 k10 (keep (r := Row) sX q)) (.cons ?_ .nil)
              exact keepM htl10 k10 (row_of upd_same (paired_map hpw fun u z q => keep (r := Poly) s10 q))
            · rcases List.mem_append.mp hrow with h | h
              · exact hrows row h
              · have e : row = rowTwo A1 B1 C1 (2 + j2) := by simpa using h
                rw [e]
                exact row_two hw lo1 lo2 hA hB hC
      · refine itF (vne k2) ?_
        refine ⟨_, rfl, _, rfl, by omega, by omega, ?_⟩
        rw [show ((2 : Int) + (j2 : Int)).toNat = 2 + j2 by omega]
        refine lc_map (r := Poly) (G := fun _ => True) walk_range (fun _ _ => trivial) (by omega) (fun m => [coef A1 m, coef B1 m - coef A1 m]) (fun m y H8 H8' hm s8 hy C hCC => ?_) fun ls H8 s8 hv8 => ?_
        · obtain ⟨rfl, rfl⟩ := hy
          rw [show (fun (i : Nat) => V.int (0 + (i : Int))) m = V.int (m : Int) from congrArg V.int (Int.zero_add _)]
          have a8 := s8 _ _ hla7
          have b8 := s8 _ _ hlb7
          refine ⟨rfl, _, rfl, _, rfl, .inl ⟨la, _, _, _, rfl, rfl, sql a8, atI_n (gA m hm), ?_⟩⟩
          refine ⟨_, rfl, _, rfl, .inl ⟨lb, _, _, _, rfl, rfl, sql b8, atI_n (gB m hm), ?_⟩⟩
          refine ⟨_, rfl, _, rfl, .inl ⟨la, _, _, _, rfl, rfl, sql a8, atI_n (gA m hm), _, _, rfl, rfl, ?_⟩⟩
          exact ⟨by show 2 ≤ sizeLine; decide, fun t nt => hCC _ _ (same_new nt) (poly_of upd_same)⟩
        · obtain ⟨ls', us, e, hls, hpu⟩ := hv8
          cases e
          have hul := paired_len hpu
          rw [List.length_map, List.length_range] at hul
          refine ⟨_, rfl, .inl ⟨rfl, _, sql (s8 _ _ htl7)⟩, _, rfl, lc_mapS (r := Poly) (.inl (sql hls)) (by omega) (fun m => cutL [coef A1 m, coef B1 m - coef A1 m]) (fun m y H9 hy s9 C hCC => ?_) fun lp H9 s9 hv9 => ?_⟩
          · obtain ⟨p, hp, hpy⟩ := paired_get' hpu hy
            have hm : m < 2 + j2 := by
              have := (List.getElem?_eq_some_iff.mp hy).1
              omega
            have ep : p = [coef A1 m, coef B1 m - coef A1 m] := by
              rw [List.getElem?_map, List.getElem?_range hm] at hp
              exact (Option.some.inj hp).symm
            subst ep
            exact ⟨rfl, _, rfl, _, _, rfl, zs_poly (keep s9 hpy), by simp, fun r H10 s10 hr10 => hCC _ _ s10 hr10⟩
          · obtain ⟨lp', ws, e, hlp, hpw⟩ := hv9
            cases e
            rw [hul] at hpw
            refine ⟨lp, _, rfl, .inl ⟨sql hlp, fun tr ntr => ?_⟩⟩
            have s10 := same_new (o := .tup ws) ntr
            have sX := s8.trans (s9.trans s10)
            have htl10 := sX _ _ htl7
            have k10 : ∀ (b : Addr) (o : HO), b ≠ tl → upd H9 tr (.tup ws) b = some o → upd (upd H9 tr (.tup ws)) tl (.lst (acc ++ [.ref tr])) b = some o := fun b o hb e => by rw [upd_ne hb]; exact e
            refine ⟨tl, acc, _, rfl, rfl, htl10, line_lt (by omega), ?_⟩
            refine ⟨fun b o hb e => ?_, rw_updN hR ntlH (rw_same sX hR7), acc ++ [.ref tr], rows ++ [rowOne A1 B1 (2 + j2)], _, _, _, _, _, rfl, upd_same, ?_, by rw [List.length_append, hrl]; rfl, fun row hrow => ?_⟩
            · rw [upd_ne (ne_of_none e ntlH)]
              exact sX _ _ (s7 _ _ (mrabc _ _ hb (mrH _ _ hb e)))
            · refine paired_app (paired_map hpa7 fun u z q => keepM htl10 k10 (keep (r := Row) sX q)) (.cons ?_ .nil)
              exact keepM htl10 k10 (row_of upd_same (paired_map hpw fun u z q => keep (r := Poly) s10 q))
            · rcases List.mem_append.mp hrow with h | h
              · exact hrows row h
              · have e : row = rowOne A1 B1 (2 + j2) := by simpa using h
                rw [e]
                exact row_one hw lo1 lo2 hA hB
    · rintro σ' H' ⟨mrH, hRH, acc, rows, x8, x9, x10, x11, x12, rfl, htl, hpa, hrl, hrows⟩
      refine ⟨_, rfl, _, rfl, tl, _, rfl, .inl ⟨sql htl, fun t1 nt1 => ?_⟩⟩
      have s1 := same_new (o := .tup acc) nt1
      refine ⟨by show 2 ≤ sizeLine; decide, fun t2 nt2 => ?_⟩
      have s2 := same_new (o := .tup [.int (low : Int), .ref t1]) nt2
      refine k _ ((low : Int), rows) (2 + j2) _ (mrH.trans (mr_same (s1.trans s2))) (rw_same (s1.trans s2) hRH) ⟨t2, _, _, rfl, upd_same, rfl, keep s2 ⟨t1, acc, rfl, upd_same, paired_map hpa fun u z q => keep (r := Row) s1 q⟩⟩ ⟨?_, ?_, ?_, ?_, by omega, by omega, fun row hrow => ?_⟩
      · show (1 : Int) ≤ (low : Int)
        omega
      · show (low : Int) ≤ 4
        omega
      · show 2 ≤ rows.length
        omega
      · show rows.length ≤ 3
        omega
      · exact ⟨(hrows row hrow).len, (hrows row hrow).ent, (hrows row hrow).sum⟩
end
end EN
namespace EN
open PySem PySem.Spec PyProof.Rows L2
section
variable {P : Program} {w : World} {K : PySem.W.Frag} {mg : Str → Option Value} {base : Heap} {f : Addr} {fd : FuncData}

/-! ### _law_best -/
-- slots: 0 _law_line_here*, 1 _law_code_here, 2 _law_share_here*, 3 _law_found, 4 _law_low_here*, 5 _law_heard*, 6 _law_some, 7 _law_best_here, 8 _law_one, 9 _law_word, 10 _law_weight
abbrev s_law_best : Stmt := topS 91
theorem sc_law_best : FnScope ["_law_line_here", "_law_code_here", "_law_share_here", "_law_found", "_law_low_here", "_law_heard", "_law_some", "_law_best_here", "_law_one", "_law_word", "_law_weight"] ["_law_line_here", "_law_code_here", "_law_share_here"] (C8.fnScope s_law_best) := C8.fnScope_by (by decide +kernel)
def sp_law_best : Sp := fun vs H Q _ => ∃ v u x L wide c long t l, vs = [v, u, x] ∧ Line H v L ∧ LineOk L wide ∧ Code H u c ∧ CodeOk L.2.length c long ∧ Frac H x (t, l) ∧ FB 4 4 (t, l) ∧ ∀ r H', Same H H' → Frac H' r (lawBest L c wide long (t, l)) → Q r H'
theorem cal_law_best (D : C8.Def K mg "_law_best" s_law_best f fd) (df : fd.defaults = .none) (T : Tx K mg) (c_law_low : C8.Cal P w K mg base 2 "_law_low" sp_law_low []) (c_law_rows : C8.Cal P w K mg base 1 "_law_rows" sp_law_rows []) (c_law_times : C8.Cal P w K mg base 2 "_law_times" sp_law_times [])
    (c_law_at : C8.Cal P w K mg base 3 "_law_at" sp_law_at []) (c_law_chance : C8.Cal P w K mg base 3 "_law_chance" sp_law_chance []) (c_law_below : C8.Cal P w K mg base 1 "_law_below" sp_law_below []) (c_law_plus : C8.Cal P w K mg base 2 "_law_plus" sp_law_plus []) : C8.Cal P w K mg base 4 "_law_best" sp_law_best [] := by
  refine C8.cal0 D (D.fn.binds df (ps := ["_law_line_here", "_law_code_here", "_law_share_here"]) fun _ _ _ _ _ _ us hl => match us, hl with | [_, _, _], _ => rfl) .nil sc_law_best (fun vs H Q E h => ?_) (fun cdv A outer s H vs Q E hr h => ?_)
  · obtain ⟨v, u, x, L, wide, c, long, t, l, rfl, _⟩ := h
    rfl
  · obtain ⟨v, u, x, L, wide, c, long, t, l, rfl, hv, ok, hu, okc, hx, hs, k⟩ := h
    obtain ⟨d, ys, d0, b0, e0, rfl, hd, hpc, hx0, hd0, hb0, hl0⟩ := cd_first hu okc
    obtain ⟨a, b, cc, xs, zs, rfl, ha, hb, hp, hy0, hcc, hzl⟩ := line_first hv ok
    have hyl := paired_len hpc
    have n2 := okc.n2
    have n1 := okc.n1
    have l2 := okc.l2
    have w2 := ok.wide2
    obtain ⟨q1, q2⟩ := low_all ok okc
    have fbl : ∀ e ∈ c, FB 10 10 (e.2, lowF' L c long) := fun e he => by
      obtain ⟨_, h1, h2⟩ := okc.words e he
      exact ⟨q1, by show Bt 10 e.2; unfold Bt; omega, by show Bt 10 (lowF' L c long); unfold Bt; omega⟩
    have h27 : wide ^ long ≤ 3 ^ 3 := Nat.le_trans (Nat.pow_le_pow_left w2 _) (Nat.pow_le_pow_right (by decide) l2)
    refine ⟨_, (pss_cons (ps_asg (pe_tup (pa_cons (pe_tup (pa_cons pe_int (pa_cons pe_int pa_nil))) (pa_cons (C8.pe_c c_law_low hr (by decide) (by rfl) (pa_cons (pv 0) (pa_cons (pv 1) pa_nil))) pa_nil))) (pg_tup rfl (pgs_cons (pg_name (i := 3) sc_law_best.nd rfl (.inl rfl)) (pgs_cons (pg_name (i := 4) sc_law_best.nd rfl (.inr rfl)) pgs_nil))))
      (pss_cons (ps_for PassesOwn.never rfl (pi_seq (C8.pe_c c_law_rows hr (by decide) (by rfl) (pa_cons (pe_callB call_len_seq (by rfl) T.len_ (by decide +kernel) (pa_cons (pe_ix ixA (pe_ix ixA (pv 0) pe_int (fun _ _ => rfl)) pe_int (fun _ _ => rfl)) pa_nil)) (pa_cons (pe_callB call_len_seq (by rfl) T.len_ (by decide +kernel) (pa_cons (pe_ix ixA (pe_ix ixA (pv 1) pe_int (fun _ _ => rfl)) pe_int (fun _ _ => rfl)) pa_nil)) pa_nil)))) (pg_name (i := 5) sc_law_best.nd rfl (.inr rfl))
        (pss_cons (ps_setLc (i := 6) (own := [("_law_word", 9), ("_law_weight", 10)]) (by rfl) sc_law_best.nd rfl rfl (sw_true rfl rfl rfl (by decide +kernel)) (pi_seq (pv 1)) (blkOk_by (N := ["_law_line_here", "_law_code_here", "_law_share_here", "_law_found", "_law_low_here", "_law_heard", "_law_some", "_law_best_here", "_law_one", "_law_word", "_law_weight"]) (sc := C8.fnScope s_law_best) (by decide +kernel)) (fun _ _ _ _ _ => (pg_tupB (n := 2) (K := K) rfl rfl (pgs_cons (pg_name (i := 9) sc_law_best.nd rfl (.inl rfl)) (pgs_cons (pg_name (i := 10) sc_law_best.nd rfl (.inl rfl)) pgs_nil)))) (fun _ _ _ _ _ => pts_nil) (fun _ _ _ _ _ => (C8.pe_c c_law_times hr (by decide) (by rfl) (pa_cons (pe_tup (pa_cons (pv 10) (pa_cons (pv 4) pa_nil))) (pa_cons (C8.pe_c c_law_at hr (by decide) (by rfl) (pa_cons (C8.pe_c c_law_chance hr (by decide) (by rfl) (pa_cons (pv 0) (pa_cons (pv 9) (pa_cons (pv 5) pa_nil)))) (pa_cons (pv 2) pa_nil))) pa_nil)))))
        (pss_cons (ps_set (i := 7) sc_law_best.nd rfl (.inl rfl) (pe_ix ixA (pv 6) pe_int (fun _ _ => rfl)))
        (pss_cons (ps_for PassesOwn.never rfl (pi_seq (pv 6)) (pg_name (i := 8) sc_law_best.nd rfl (.inl rfl))
          (pss_one (ps_set (i := 7) sc_law_best.nd rfl (.inl rfl) (pe_ifExp (pt_val (C8.pe_c c_law_below hr (by decide) (by rfl) (pa_cons (pv 7) (pa_cons (pv 8) pa_nil)))) (pv 8) (pv 7)))))
        (pss_one (ps_set (i := 3) sc_law_best.nd rfl (.inl rfl) (C8.pe_c c_law_plus hr (by decide) (by rfl) (pa_cons (pv 3) (pa_cons (pv 7) pa_nil)))))))))
      (pss_one (ps_ret (pv 3))))), ?_⟩
    refine ⟨by show 2 ≤ sizeLine; decide, fun t0 nt0 => ?_⟩
    have s0 := same_new (o := .tup [.int 0, .int 1]) nt0
    refine ⟨_, rfl, _, rfl, _, _, L, wide, c, long, rfl, keep s0 hv, ok, keep s0 hu, okc, fun H1 s1 => ?_⟩
    refine ⟨by show 2 ≤ sizeLine; decide, fun t1 nt1 => ?_⟩
    have s2 := same_new (o := .tup [.ref t0, .int (lowF' L c long)]) nt1
    refine ⟨t1, _, rfl, sqt upd_same, rfl, _, _, rfl, _, _, rfl, rfl, ?_⟩
    have sA := s0.trans (s1.trans s2)
    have hf0 := (s1.trans s2) _ _ (upd_same (H := H) (a := t0) (o := .tup [.int 0, .int 1]))
    -- the rows
    refine ⟨_, rfl, .inr ⟨a, _, 1, _, rfl, rfl, sqt (sA _ _ ha), atI_nat (j := 1) rfl, .inr ⟨b, _, 0, _, rfl, rfl, sqt (sA _ _ hb), atI_nat (j := 0) hy0, cc, _, rfl, .inr (sqt (sA _ _ hcc)), ?_⟩⟩⟩
    refine ⟨_, rfl, .inr ⟨d, _, 0, _, rfl, rfl, sqt (sA _ _ hd), atI_nat (j := 0) hx0, .inr ⟨d0, _, 0, _, rfl, rfl, sqt (sA _ _ hd0), atI_nat (j := 0) rfl, b0, _, rfl, .inr (sqt (sA _ _ hb0)), ?_⟩⟩⟩
    rw [List.length_map, hl0, hzl]
    refine ⟨wide, long, rfl, w2, l2, fun r H3 s3 hrn hr3 => ?_⟩
    obtain ⟨r', rs, er, hrs, hpr⟩ := hr3
    cases er
    have hrl := paired_len hpr
    have hrl2 := hrl
    rw [rowsL_len] at hrl2
    have sB := sA.trans s3
    refine for_seq (H0 := H3) (.inl (sql hrs)) (fun i σ' H' => Same H3 H' ∧ ∃ xf x5 x6 x7 x8, σ' = [some (.ref a), some (.ref d), some x, some xf, some (.int (lowF' L c long)), x5, x6, x7, x8, none, none] ∧ Frac H' xf (((rowsL wide long).take i).foldl (fun f row => plusF f (bestOf (someF L c (lowF' L c long) (t, l) row))) (0, 1))) (fun _ _ _ h => h.1) ⟨Same.refl _, _, none, none, none, none, rfl, frac_of (s3 _ _ hf0)⟩ ?_ ?_
    · rintro i y σ' H' hy ⟨sm, xf, x5, x6, x7, x8, rfl, hf⟩
      obtain ⟨row, hrow, hrowP⟩ := paired_get' hpr hy
      have hrok := rowsL_ok wide long row (List.mem_of_getElem? hrow)
      have hi : i < rs.length := (List.getElem?_eq_some_iff.mp hy).1
      have hrow' := keep (r := Poly) sm hrowP
      have sC := sB.trans sm
      have fbS := some_fb ok okc hs hrok
      have fbB := best_fb ok okc hs hrok
      have fbF := lawBest_fb (s := (t, l)) ok okc hs i (by omega) (by omega)
      have hsl : (someF L c (lowF' L c long) (t, l) row).length = ys.length := by
        unfold someF
        rw [List.length_map, hyl]
      refine ⟨_, rfl, lc_mapS (r := Frac) (.inr (sqt (sC _ _ hd))) (by omega) (fun m => timesF ((c.getD m ([], 0)).2, lowF' L c long) (lawAt (chF L.2 (c.getD m ([], 0)).1 row) (t, l))) (fun m z H4 hz s4 C hC => ?_) fun ls H4 s4 hv4 => ?_⟩
      · obtain ⟨e, he, hpe⟩ := paired_get' hpc hz
        obtain ⟨g, q, rfl, hg, hq⟩ := pr_at hpe
        have hge : c.getD m ([], 0) = e := by rw [List.getD_eq_getElem?_getD, he]; rfl
        rw [hge] at hC
        obtain ⟨hw, hwt1, hwt2⟩ := okc.words e (List.mem_of_getElem? he)
        have sD := sC.trans s4
        refine ⟨g, _, rfl, sqt (sD _ _ hg), rfl, _, _, rfl, _, _, rfl, rfl, ?_⟩
        refine ⟨rfl, _, rfl, _, rfl, by show 2 ≤ sizeLine; decide, fun t5 nt5 => ?_⟩
        have s5 := same_new (o := .tup [V.int e.2, V.int (lowF' L c long)]) nt5
        have sE := sD.trans s5
        refine ⟨_, rfl, _, rfl, _, rfl, _, _, _, L, wide, long, e.1, row, rfl, keep sE hv, ok, poly_of (sE _ _ hq), keep (s4.trans s5) hrow', hw, hrok, l2, fun rp H6 s6 hrp => ?_⟩
        obtain ⟨cl, cs⟩ := chF_sm ok hw hrok l2
        refine ⟨_, rfl, _, _, _, (t, l), rfl, hrp, keep (sE.trans s6) hx, hs, cl, cs, fun ra H7 s7 hra => ?_⟩
        refine ⟨_, _, (e.2, lowF' L c long), _, 10, 10, _, _, rfl, frac_of ((s6.trans s7) _ _ upd_same), hra, fbl e (List.mem_of_getElem? he), lawAt_fb' hs cs cl, by omega, by omega, fun rt H8 s8 hrt => hC _ _ (s5.trans (s6.trans (s7.trans s8))) hrt⟩
      · rw [hyl, range_map_get c ([], 0) (fun e => timesF (e.2, lowF' L c long) (lawAt (chF L.2 e.1 row) (t, l)))] at hv4
        obtain ⟨ls', us, e, hls, hpu⟩ := hv4
        cases e
        have hpu : Paired (Frac H4) us (someF L c (lowF' L c long) (t, l) row) := hpu
        have hul := paired_len hpu
        have hpos : 0 < (someF L c (lowF' L c long) (t, l) row).length := by omega
        obtain ⟨u0, hu0, hF0⟩ := paired_get hpu (List.getElem?_eq_getElem hpos)
        have eD : (someF L c (lowF' L c long) (t, l) row).getD 0 (0, 1) = (someF L c (lowF' L c long) (t, l) row)[0] := by rw [List.getD_eq_getElem?_getD, List.getElem?_eq_getElem hpos]; rfl
        refine ⟨_, rfl, .inl ⟨ls, _, 0, _, rfl, rfl, sql hls, atI_nat (j := 0) hu0, ?_⟩⟩
        refine ⟨_, rfl, for_seq (H0 := H4) (.inl (sql hls)) (fun m σ' H5 => H5 = H4 ∧ ∃ xb x8, σ' = [some (.ref a), some (.ref d), some x, some xf, some (.int (lowF' L c long)), some y, some (.ref ls), some xb, x8, none, none] ∧ Frac H4 xb (((someF L c (lowF' L c long) (t, l) row).take m).foldl bstStep ((someF L c (lowF' L c long) (t, l) row).getD 0 (0, 1)))) (fun _ _ _ h => by rw [h.1]; exact Same.refl _) ⟨rfl, u0, x8, rfl, by rw [eD]; exact hF0⟩ ?_ ?_⟩
        · rintro m z σ' H5 hz ⟨rfl, xb, x8, rfl, hxb⟩
          obtain ⟨o, ho, hoz⟩ := paired_get' hpu hz
          have eF := foldl_take (f := bstStep) (z := (someF L c (lowF' L c long) (t, l) row).getD 0 (0, 1)) ho
          have fo := fbS o (List.mem_of_getElem? ho)
          have fb : FB 4011 111 (((someF L c (lowF' L c long) (t, l) row).take m).foldl bstStep ((someF L c (lowF' L c long) (t, l) row).getD 0 (0, 1))) :=
            bst_mem _ _ (by rw [eD]; exact fbS _ (List.getElem_mem hpos)) fun o ho => fbS o (List.mem_of_mem_take ho)
          refine ⟨_, rfl, _, rfl, _, _, _, o, _, _, _, _, rfl, hxb, hoz, fb, fo, by omega, _, rfl, ?_⟩
          cases hbe : belowF (((someF L c (lowF' L c long) (t, l) row).take m).foldl bstStep ((someF L c (lowF' L c long) (t, l) row).getD 0 (0, 1))) o with
          | true =>
            refine iteT ⟨_, rfl, rfl, z, _, rfl, ?_⟩
            rw [eF, bstStep, hbe]
            exact hoz
          | false =>
            refine iteF ⟨_, rfl, rfl, xb, _, rfl, ?_⟩
            rw [eF, bstStep, hbe]
            exact hxb
        · rintro σ' H5 ⟨rfl, xb, x8, rfl, hxb⟩
          rw [List.take_of_length_le (by omega)] at hxb
          refine ⟨_, rfl, _, rfl, _, _, _, _, _, _, _, _, rfl, keep s4 hf, hxb, fbF, fbB, by omega, by omega, fun r6 H6 s6 hr6 => ?_⟩
          refine ⟨sm.trans (s4.trans s6), r6, _, _, _, _, rfl, ?_⟩
          rw [foldl_take hrow]
          exact hr6
    · rintro σ' H' ⟨sm, xf, x5, x6, x7, x8, rfl, hf⟩
      rw [List.take_of_length_le (by omega)] at hf
      exact ⟨_, rfl, k _ _ (sB.trans sm) hf⟩
end
end EN
set_option maxHeartbeats 8000000
namespace EN
open PySem PySem.Spec PyProof.Rows L2 LamX
theorem tabs_mr {K : PySem.W.Frag} {H H' : Hp} {R sc Pt : Addr} {q : Str} (hR : Rw K H R sc) (s : MR R H H') (h : TabS H Pt q) : TabS H' Pt q := by
  obtain ⟨ys, hR⟩ := rw_lst hR
  obtain ⟨ps, h1, h2, h3⟩ := h
  refine ⟨ps, s _ _ (ne_of h1 hR (by intro z; cases z)) h1, h2, fun pos cv hc => ?_⟩
  obtain ⟨c, e1, e2⟩ := h3 pos cv hc
  exact ⟨c, e1, s _ _ (ne_of e2 hR (by intro z; unfold CodeO at z; cases z)) e2⟩
theorem ifF {b : Bool} {A B : Prop} (h : b = false) (x : B) : if b = true then A else B := by rw [h, if_neg Bool.false_ne_true]; exact x
theorem frac_poly {H : Hp} {v : V} {a b : Int} (h : Frac H v (a, b)) : Poly H v [a, b] := by
  obtain ⟨p, rfl, hp⟩ := frac_at h
  exact poly_of hp
theorem pi_seqB {X : Cx} {K : PySem.W.Frag} (h : X.K = K) {tg l : Expr} {tl : TE} (hl : PE X l tl) : PI X tg l (iSeq K tl) := by
  subst h
  exact pi_seq hl
/-- a comprehension whose items are drawn -/
theorem lc_drawn {K : PySem.W.Frag} {R sc r : Addr} {rs : List V} {m : Int} {g : TG} {te : TE} {vs : List Nat} {σ : L2.St} {H1 : Hp} {Q : Addr → Hp → Prop} (hs : SqL K H1 r rs) (hr : r ≠ R) (hR : Rw K H1 R sc) (hn : rs.length ≤ 1000)
    (step : ∀ x H', Rw K H' R sc → MR R H1 H' → ∀ C : V → Hp → Prop, (∀ (j : Nat) H4, (j : Int) < m → MR R H' H4 → Rw K H4 R sc → C (.int (j : Int)) H4) → g x (wipe σ vs) H' fun σ2 H2 => wipe σ2 vs = wipe σ vs ∧ te σ2 H2 C)
    (hd : ∀ v (zz : List Int) H', H1 v = none → MR R H1 H' → Rw K H' R sc → H' v = some (.lst (zz.map V.int)) → zz.length = rs.length → (∀ y ∈ zz, 0 ≤ y ∧ y < m) → Q v H') : LcLoop (Itl K r) g tYes te vs σ H1 Q := by
  intro Dn nD
  have nDR := rw_ne hR nD
  refine lc_it walk_list (fun i H' => MR R H1 H' ∧ Rw K H' R sc ∧ ∃ zz : List Int, H' Dn = some (.lst (zz.map V.int)) ∧ zz.length = i ∧ ∀ y ∈ zz, 0 ≤ y ∧ y < m) ⟨mr_same (same_new nD), rw_updN hR nD (by exact hR), [], upd_same, rfl, fun y h => by simp at h⟩ (fun i H' _ p => sql_mr p.1 hr hs) (fun i x H' H'' hi p y => ?_) (fun H' p => ?_)
  · obtain ⟨mr, hR', zz, hD, hl, hi2⟩ := p
    obtain ⟨rfl, hx⟩ := y
    refine step x _ hR' mr _ fun j H4 hj mr4 hR4 => ?_
    have hD4 := mr4 _ _ nDR hD
    refine ⟨_, hD4, ?_, ?_⟩
    · rw [List.length_map]
      exact line_lt (by omega)
    · refine ⟨fun b o hb e => ?_, rw_updN hR nD hR4, zz ++ [(j : Int)], ?_, by rw [List.length_append, hl]; rfl, fun y hy => ?_⟩
      · rw [upd_ne (ne_of_none e nD)]
        exact mr4 _ _ hb (mr _ _ hb e)
      · rw [upd_same, List.map_append]
        rfl
      · rcases List.mem_append.mp hy with h | h
        · exact hi2 y h
        · have e : y = (j : Int) := by simpa using h
          omega
  · obtain ⟨mr, hR', zz, hD, hl, hi2⟩ := p
    exact hd Dn zz H' nD mr hR' hD hl hi2
/-- what the law adds up for a reader -/
abbrev lfStep (L : Int × List (List (List Int))) (c : List (List Int × Int)) (f : List Int) (rr : List Int × Int) : List Int := plusL f (chF L.2 (c.getD rr.2.toNat ([], 0)).1 rr.1) (c.getD rr.2.toNat ([], 0)).2
def lawFound (L : Int × List (List (List Int))) (c : List (List Int × Int)) (wide long : Nat) (rd : List Int) : List Int := ((rowsL wide long).zip rd).foldl (lfStep L c) []
def someL (L : Int × List (List (List Int))) (c : List (List Int × Int)) (s : Int × Int) (row : List Int) : List (Int × Int) := c.map fun e => timesF (e.2, 1) (lawAt (chF L.2 e.1 row) s)
def selF (some : List (Int × Int)) (k : Nat) : Bool := decide (((List.range some.length).filter fun m => belowF (some.getD k (0, 1)) (some.getD m (0, 1))).map (fun _ => (1 : Int)) = [])
/-- the plain laws -/
structure Laws : Prop where
  whole : ∀ (p : List Int) (low : Int), 0 < low → gcdL ((lowestF p low).1 ++ [(lowestF p low).2]) = 1
  back : ∀ (p : List Int) (low : Int), 0 < low → plusL [] (lowestF p low).1 low = plusL [] p (lowestF p low).2
  found : ∀ {L : Int × List (List (List Int))} {wide long : Nat} {c : List (List Int × Int)} {rd : List Int}, LineOk L wide → CodeOk L.2.length c long → rd.length = wide ^ long → (∀ y ∈ rd, 0 ≤ y ∧ y < (c.length : Int)) → ((toldF L.2 c wide long).zip rd).foldl rtStep [] = lawFound L c wide long rd
  due : ∀ {L : Int × List (List (List Int))} {wide long : Nat} {c : List (List Int × Int)} {t l : Int} {row : List Int}, LineOk L wide → CodeOk L.2.length c long → WordOk wide long row → ShareOk t l → ((List.range (someL L c (t, l) row).length).filter (selF (someL L c (t, l) row)))[0]? = some (gaF t l (c.map fun e => timesL [e.2] (chF L.2 e.1 row)))
  most : ∀ {L : Int × List (List (List Int))} {wide long : Nat} {c : List (List Int × Int)} {t l : Int} {rd : List Int}, LineOk L wide → CodeOk L.2.length c long → ShareOk t l → rd.length = wide ^ long → (∀ y ∈ rd, 0 ≤ y ∧ y < (c.length : Int)) →
    belowF (bestF L c wide long t l) (timesF (lawAt (rightF (toldF L.2 c wide long) (lowF' L c long) rd).1 (t, l)) (1, (rightF (toldF L.2 c wide long) (lowF' L c long) rd).2)) = false
  best : ∀ {L : Int × List (List (List Int))} {wide long : Nat} {c : List (List Int × Int)} {t l : Int}, LineOk L wide → CodeOk L.2.length c long → ShareOk t l → bestF L c wide long t l = lawBest L c wide long (t, l)
section
variable {P : Program} {w : World} {K : PySem.W.Frag} {mg : Str → Option Value} {base : Heap} {f : Addr} {fd : FuncData}
-- slots: 0 _law_script, 1 _law_row*, 2 _law_line_here*, 3 _law_code_here*, 4 _law_long, 5 _law_low_here, 6 _law_rows_here, 7 _law_word, 8 _law_heard, 9 _law_told, 10 _law_due, 11 _law_one*, 12 _law_reader, 13 _law_found, 14 _law_at_here, 15 _law_weight, 16 _law_share_here*, 17 _law_some*, 18 _law_best_here, 19 _law_other
abbrev s_law : Stmt := topS 95
theorem sc_law : FnScope ["_law_script", "_law_row", "_law_line_here", "_law_code_here", "_law_long", "_law_low_here", "_law_rows_here", "_law_word", "_law_heard", "_law_told", "_law_due", "_law_one", "_law_reader", "_law_found", "_law_at_here", "_law_weight", "_law_share_here", "_law_some", "_law_best_here", "_law_other"] ["_law_script"] (C8.fnScope s_law) := C8.fnScope_by (by decide +kernel)
def sp_law (K : PySem.W.Frag) (Pt : Addr) : Sp := fun vs H Q _ => ∃ (a : Addr) (ns : List Int), vs = [.ref a] ∧ SqL K H a (ns.map V.int) ∧ TabS H Pt lamQ ∧ ∀ H', Q (.bl true) H'
theorem fn_law (D : C8.Def K mg "law" s_law f fd) (df : fd.defaults = .none) (T : Tx K mg) {Pt : Addr} (LW : Laws) (c_law_line : C8.Cal P w K mg base 3 "_law_line" (sp_law_line K) []) (c_law_code : C8.Cal P w K mg base 2 "_law_code" (sp_law_code K) []) (c_law_low : C8.Cal P w K mg base 2 "_law_low" sp_law_low [])
    (c_law_rows : C8.Cal P w K mg base 1 "_law_rows" sp_law_rows []) (c_law_pick : C8.Cal P w K mg base 2 "_law_pick" (sp_law_pick K) []) (c_chance : C8.Cal P w K mg base 9 "chance" sp_chance []) (c_law_whole : C8.Cal P w K mg base 1 "_law_whole" (sp_law_whole K) [])
    (c_law_p_plus : C8.Cal P w K mg base 1 "_law_p_plus" (sp_law_p_plus K) []) (c_law_chance : C8.Cal P w K mg base 3 "_law_chance" sp_law_chance []) (c_law_power : C8.Cal P w K mg base 1 "_law_power" sp_law_power []) (c_law_taken : C8.Cal P w K mg base 1 "_law_taken" (sp_law_taken K) [])
    (c_right : C8.Cal P w K mg base 10 "right" sp_right []) (c_law_share : C8.Cal P w K mg base 2 "_law_share" (sp_law_share K) []) (c_law_times : C8.Cal P w K mg base 2 "_law_times" sp_law_times []) (c_law_at : C8.Cal P w K mg base 3 "_law_at" sp_law_at [])
    (c_law_below : C8.Cal P w K mg base 1 "_law_below" sp_law_below []) (c_law_alike : C8.Cal P w K mg base 2 "_law_alike" sp_law_alike2 []) (c_best_reader : C8.Cal P w K mg base 10 "best_reader" (sp_best_reader Pt) []) (c_best_right : C8.Cal P w K mg base 10 "best_right" (sp_best_right Pt) [])
    (c_law_of : C8.Cal P w K mg base 4 "_law_of" sp_law_of []) (c_law_best : C8.Cal P w K mg base 4 "_law_best" sp_law_best []) : FnOk P w K mg base C8.CX0 11 f fd ["_law_script"] (sp_law K Pt) := by
  refine C8.fn0 D.fn sc_law (fun vs H Q E h => ?_) (fun cdv A outer s H vs Q E hr h => ?_)
  · obtain ⟨a, ns, rfl, _⟩ := h
    rfl
  · obtain ⟨sc, ns, rfl, hS, hT, k⟩ := h
    refine ⟨_, (pss_cons (ps_set (i := 1) sc_law.nd rfl (.inr rfl) (pe_lst (pa_cons (pv 0) (pa_cons pe_int (pa_cons pe_int (pa_cons pe_int pa_nil))))))
      (pss_cons (ps_set (i := 2) sc_law.nd rfl (.inr rfl) (C8.pe_c c_law_line hr (by decide) (by rfl) (pa_cons (pv 1) (pa_cons pe_int (pa_cons pe_int pa_nil)))))
      (pss_cons (ps_set (i := 3) sc_law.nd rfl (.inr rfl) (C8.pe_c c_law_code hr (by decide) (by rfl) (pa_cons (pv 1) (pa_cons (pv 2) (pa_cons pe_int (pa_cons pe_int pa_nil))))))
      (pss_cons (ps_par (i := 4) (j := 5) rfl sc_law.nd rfl rfl (by decide) rfl rfl (pa_cons (pe_callB call_len_seq (by rfl) T.len_ (by decide +kernel) (pa_cons (pe_ix ixA (pe_ix ixA (pv 3) pe_int (fun _ _ => rfl)) pe_int (fun _ _ => rfl)) pa_nil)) (pa_cons (C8.pe_c c_law_low hr (by decide) (by rfl) (pa_cons (pv 2) (pa_cons (pv 3) pa_nil))) pa_nil)) (by rfl))
      (pss_cons (ps_set (i := 6) sc_law.nd rfl (.inl rfl) (C8.pe_c c_law_rows hr (by decide) (by rfl) (pa_cons (pe_callB call_len_seq (by rfl) T.len_ (by decide +kernel) (pa_cons (pe_ix ixA (pe_ix ixA (pv 2) pe_int (fun _ _ => rfl)) pe_int (fun _ _ => rfl)) pa_nil)) (pa_cons (pv 4) pa_nil))))
      (pss_cons (ps_par (i := 7) (j := 8) rfl sc_law.nd rfl rfl (by decide) rfl rfl (pa_cons (pe_ix ixA (C8.pe_c c_law_pick hr (by decide) (by rfl) (pa_cons (pv 1) (pa_cons (pv 3) pa_nil))) pe_int (fun _ _ => rfl)) (pa_cons (C8.pe_c c_law_pick hr (by decide) (by rfl) (pa_cons (pv 1) (pa_cons (pv 6) pa_nil))) pa_nil)) (by rfl))
      (pss_cons (ps_set (i := 9) sc_law.nd rfl (.inl rfl) (C8.pe_c c_chance hr (by decide) (by rfl) (pa_cons (pv 2) (pa_cons (pv 7) (pa_cons (pv 8) pa_nil)))))
      (pss_cons (ps_if (pw_or (pt_cmpR op_ne (C8.pe_c c_law_whole hr (by decide) (by rfl) (pa_cons (pe_op op_catA (pe_ix ixA (pv 9) pe_int (fun _ _ => rfl)) (pe_tup (pa_cons (pe_ix ixA (pv 9) pe_int (fun _ _ => rfl)) pa_nil))) pa_nil)) pe_int (nomark _)) (pw_or1 (pt_cmpR op_lt (pe_ix ixA (pv 9) pe_int (fun _ _ => rfl)) pe_int (nomark _)))).pt
        (pss_one (ps_ret pe_bl))
        pss_nil)
      (pss_cons (ps_set (i := 10) sc_law.nd rfl (.inl rfl) (C8.pe_c c_law_p_plus hr (by decide) (by rfl) (pa_cons (pe_tup pa_nil) (pa_cons (C8.pe_c c_law_chance hr (by decide) (by rfl) (pa_cons (pv 2) (pa_cons (pv 7) (pa_cons (pv 8) pa_nil)))) (pa_cons (pe_ix ixA (pv 9) pe_int (fun _ _ => rfl)) pa_nil)))))
      (pss_cons (ps_if (pt_cmpR (op_neZ hr.units) (C8.pe_c c_law_p_plus hr (by decide) (by rfl) (pa_cons (pe_tup pa_nil) (pa_cons (pe_ix ixA (pv 9) pe_int (fun _ _ => rfl)) (pa_cons (C8.pe_c c_law_power hr (by decide) (by rfl) (pa_cons (pe_ix ixA (pv 2) pe_int (fun _ _ => rfl)) (pa_cons (pv 4) pa_nil))) pa_nil)))) (pv 10) (nomark _))
        (pss_one (ps_ret pe_bl))
        pss_nil)
      (pss_cons (ps_set (i := 12) sc_law.nd rfl (.inl rfl) (pe_callTy call_tuple_of (by rfl) T.tuple_ (by decide +kernel) (pa_cons (pe_lc (own := [("_law_one", 11)]) (by rfl) sc_law.nd (pi_seq (pv 6)) (blkOk_by (N := ["_law_script", "_law_row", "_law_line_here", "_law_code_here", "_law_long", "_law_low_here", "_law_rows_here", "_law_word", "_law_heard", "_law_told", "_law_due", "_law_one", "_law_reader", "_law_found", "_law_at_here", "_law_weight", "_law_share_here", "_law_some", "_law_best_here", "_law_other"]) (sc := C8.fnScope s_law) (by decide +kernel)) (fun _ _ _ _ _ => (pg_name (i := 11) sc_law.nd rfl (.inl rfl))) (fun _ _ _ _ _ => pts_nil) (fun _ _ _ _ _ => (C8.pe_c c_law_taken hr (by decide) (by rfl) (pa_cons (pv 1) (pa_cons (pe_callB (call_len_seqB (K := K)) (by rfl) T.len_ (by decide +kernel) (pa_cons (pv 3) pa_nil)) pa_nil))))) pa_nil)))
      (pss_cons (ps_set (i := 13) sc_law.nd rfl (.inl rfl) (pe_tup pa_nil))
      (pss_cons (ps_for PassesOwn.never rfl (pi_range1 (by rfl) T.range_ (pa_cons (pe_callB call_len_seq (by rfl) T.len_ (by decide +kernel) (pa_cons (pv 6) pa_nil)) pa_nil)) (pg_name (i := 14) sc_law.nd rfl (.inl rfl))
        (pss_cons (ps_asg (pe_ix ixA (pv 3) (pe_ix ixA (pv 12) (pv 14) (fun _ _ => rfl)) (fun _ _ => rfl)) (pg_tup rfl (pgs_cons (pg_name (i := 7) sc_law.nd rfl (.inl rfl)) (pgs_cons (pg_name (i := 15) sc_law.nd rfl (.inl rfl)) pgs_nil))))
        (pss_one (ps_set (i := 13) sc_law.nd rfl (.inl rfl) (C8.pe_c c_law_p_plus hr (by decide) (by rfl) (pa_cons (pv 13) (pa_cons (C8.pe_c c_law_chance hr (by decide) (by rfl) (pa_cons (pv 2) (pa_cons (pv 7) (pa_cons (pe_ix ixA (pv 6) (pv 14) (fun _ _ => rfl)) pa_nil)))) (pa_cons (pv 15) pa_nil))))))))
      (pss_cons (ps_set (i := 9) sc_law.nd rfl (.inl rfl) (C8.pe_c c_right hr (by decide) (by rfl) (pa_cons (pv 2) (pa_cons (pv 3) (pa_cons (pv 12) pa_nil)))))
      (pss_cons (ps_if (pw_or (pt_cmpR op_ne (C8.pe_c c_law_whole hr (by decide) (by rfl) (pa_cons (pe_op op_catA (pe_ix ixA (pv 9) pe_int (fun _ _ => rfl)) (pe_tup (pa_cons (pe_ix ixA (pv 9) pe_int (fun _ _ => rfl)) pa_nil))) pa_nil)) pe_int (nomark _)) (pw_or1 (pt_cmpR op_lt (pe_ix ixA (pv 9) pe_int (fun _ _ => rfl)) pe_int (nomark _)))).pt
        (pss_one (ps_ret pe_bl))
        pss_nil)
      (pss_cons (ps_if (pt_cmpR (op_neZ hr.units) (C8.pe_c c_law_p_plus hr (by decide) (by rfl) (pa_cons (pe_tup pa_nil) (pa_cons (pe_ix ixA (pv 9) pe_int (fun _ _ => rfl)) (pa_cons (pv 5) pa_nil)))) (C8.pe_c c_law_p_plus hr (by decide) (by rfl) (pa_cons (pe_tup pa_nil) (pa_cons (pv 13) (pa_cons (pe_ix ixA (pv 9) pe_int (fun _ _ => rfl)) pa_nil)))) (nomark _))
        (pss_one (ps_ret pe_bl))
        pss_nil)
      (pss_cons (ps_set (i := 16) sc_law.nd rfl (.inr rfl) (C8.pe_c c_law_share hr (by decide) (by rfl) (pa_cons (pv 1) (pa_cons pe_int pa_nil))))
      (pss_cons (ps_set (i := 10) sc_law.nd rfl (.inl rfl) (pe_lst pa_nil))
      (pss_cons (ps_for PassesOwn.never rfl (pi_seq (pv 6)) (pg_name (i := 11) sc_law.nd rfl (.inr rfl))
        (pss_cons (ps_set (i := 17) sc_law.nd rfl (.inr rfl) (pe_lc (own := [("_law_word", 7), ("_law_weight", 15)]) (by rfl) sc_law.nd (pi_seq (pv 3)) (blkOk_by (N := ["_law_script", "_law_row", "_law_line_here", "_law_code_here", "_law_long", "_law_low_here", "_law_rows_here", "_law_word", "_law_heard", "_law_told", "_law_due", "_law_one", "_law_reader", "_law_found", "_law_at_here", "_law_weight", "_law_share_here", "_law_some", "_law_best_here", "_law_other"]) (sc := C8.fnScope s_law) (by decide +kernel)) (fun _ _ _ _ _ => (pg_tupB (n := 2) (K := K) rfl rfl (pgs_cons (pg_name (i := 7) sc_law.nd rfl (.inl rfl)) (pgs_cons (pg_name (i := 15) sc_law.nd rfl (.inl rfl)) pgs_nil)))) (fun _ _ _ _ _ => pts_nil) (fun _ _ _ _ _ => (C8.pe_c c_law_times hr (by decide) (by rfl) (pa_cons (pe_tup (pa_cons (pv 15) (pa_cons pe_int pa_nil))) (pa_cons (C8.pe_c c_law_at hr (by decide) (by rfl) (pa_cons (C8.pe_c c_law_chance hr (by decide) (by rfl) (pa_cons (pv 2) (pa_cons (pv 7) (pa_cons (pv 11) pa_nil)))) (pa_cons (pv 16) pa_nil))) pa_nil))))))
        (pss_cons (ps_setLc (i := 18) (own := [("_law_at_here", 14)]) (by rfl) sc_law.nd rfl rfl (sw_true rfl rfl rfl (by decide +kernel)) (pi_range1 (by rfl) T.range_ (pa_cons (pe_callB call_len_seq (by rfl) T.len_ (by decide +kernel) (pa_cons (pv 17) pa_nil)) pa_nil)) (blkOk_by (N := ["_law_script", "_law_row", "_law_line_here", "_law_code_here", "_law_long", "_law_low_here", "_law_rows_here", "_law_word", "_law_heard", "_law_told", "_law_due", "_law_one", "_law_reader", "_law_found", "_law_at_here", "_law_weight", "_law_share_here", "_law_some", "_law_best_here", "_law_other"]) (sc := C8.fnScope s_law) (by decide +kernel)) (fun _ _ _ _ _ => (pg_name (i := 14) sc_law.nd rfl (.inr rfl))) (fun _ _ _ _ _ => (pts_one (pt_cmpR (op_eqZB (K := K) hr.units) (pe_lc (own := [("_law_other", 19)]) (by rfl) sc_law.nd (pi_seqB (K := K) rfl (pv 17)) (blkOk_by (by rfl)) (fun _ _ _ _ _ => (pg_name (i := 19) sc_law.nd rfl (.inl rfl))) (fun _ _ _ _ _ => (pts_one (pt_val (C8.pe_c c_law_below hr (by decide) (by rfl) (pa_cons (pe_ix (ixB (K := K)) (pv 17) (pv 14) (fun _ _ => rfl)) (pa_cons (pv 19) pa_nil)))))) (fun _ _ _ _ _ => pe_int)) (pe_lst pa_nil) (nomark _)))) (fun _ _ _ _ _ => (pv 14)))
        (pss_one (ps_expr (pe_bm PySem.F.plainAttrs_list PySem.F.slot_list_append PySem.F.type_list_append mt_append (pv 10) (pa_cons (pe_ix ixA (pv 18) pe_int (fun _ _ => rfl)) pa_nil)))))))
      (pss_cons (ps_if (pt_not (pt_val (C8.pe_c c_law_alike hr (by decide) (by rfl) (pa_cons (C8.pe_c c_best_reader hr (by decide) (by rfl) (pa_cons (pv 2) (pa_cons (pv 3) (pa_cons (pv 16) pa_nil)))) (pa_cons (pe_callTy call_tuple_of (by rfl) T.tuple_ (by decide +kernel) (pa_cons (pv 10) pa_nil)) pa_nil)))))
        (pss_one (ps_ret pe_bl))
        pss_nil)
      (pss_cons (ps_if (pt_val (C8.pe_c c_law_below hr (by decide) (by rfl) (pa_cons (C8.pe_c c_best_right hr (by decide) (by rfl) (pa_cons (pv 2) (pa_cons (pv 3) (pa_cons (pv 16) pa_nil)))) (pa_cons (C8.pe_c c_law_of hr (by decide) (by rfl) (pa_cons (pv 9) (pa_cons (pv 16) pa_nil))) pa_nil))))
        (pss_one (ps_ret pe_bl))
        pss_nil)
      (pss_one (ps_ret (C8.pe_c c_law_alike hr (by decide) (by rfl) (pa_cons (C8.pe_c c_best_right hr (by decide) (by rfl) (pa_cons (pv 2) (pa_cons (pv 3) (pa_cons (pv 16) pa_nil)))) (pa_cons (C8.pe_c c_law_best hr (by decide) (by rfl) (pa_cons (pv 2) (pa_cons (pv 3) (pa_cons (pv 16) pa_nil)))) pa_nil)))))))))))))))))))))))))), ?_⟩
    -- the row
    refine ⟨_, rfl, by show 4 ≤ sizeLine; decide, fun R nR => ?_⟩
    have s0 := same_new (o := .lst [.ref sc, .int 0, .int 5900, .int 0]) nR
    have hR0 : Rw K (upd H R (.lst [.ref sc, .int 0, .int 5900, .int 0])) R sc := by
      refine ⟨ns, 0, 5900, 0, by decide, upd_same, ?_⟩
      rcases hS with (h | ⟨o, h⟩) | h
      · exact .inl ⟨ne_of_none h nR, .inl (s0 _ _ h)⟩
      · exact .inl ⟨ne_of_none h nR, .inr ⟨o, s0 _ _ h⟩⟩
      · exact .inr h
    have T0 := hT.ext s0
    -- line, code
    refine ⟨_, rfl, R, sc, rfl, hR0, fun rl L wide H1 mr1 hR1 hL ok => ?_⟩
    have T1 := tabs_mr hR0 mr1 T0
    refine ⟨_, rfl, _, rfl, R, sc, rl, L, wide, rfl, hL, ok, hR1, fun rc c long H2 mr2 hR2 hC okc => ?_⟩
    have hL2 := keepR hR1 mr2 hL
    have T2 := tabs_mr hR1 mr2 T1
    obtain ⟨d, ys, d0, b0, e0, rfl, hd, hpc, hx0, hd0, hb0, hl0⟩ := cd_first hC okc
    obtain ⟨a, b, cc, xs, zs, rfl, ha, hb, hp, hy0, hcc, hzl⟩ := line_first hL2 ok
    have hyl := paired_len hpc
    have n1 := okc.n1
    have n2 := okc.n2
    have l1 := okc.l1
    have l2 := okc.l2
    have w1 := ok.wide1
    have w2 := ok.wide2
    have lo1 := ok.low1
    have lo2 := ok.low2
    obtain ⟨q1, q2⟩ := low_all ok okc
    obtain ⟨t1, t2⟩ := told_ok ok okc
    have h27 : wide ^ long ≤ 3 ^ 3 := Nat.le_trans (Nat.pow_le_pow_left w2 _) (Nat.pow_le_pow_right (by decide) l2)
    have hpos : 0 < wide ^ long := Nat.pow_pos (by omega)
    -- long, low
    refine ⟨_, rfl, .inr ⟨d, _, 0, _, rfl, rfl, sqt hd, atI_nat (j := 0) hx0, .inr ⟨d0, _, 0, _, rfl, rfl, sqt hd0, atI_nat (j := 0) rfl, b0, _, rfl, .inr (sqt hb0), ?_⟩⟩⟩
    rw [List.length_map, hl0]
    refine ⟨_, rfl, _, rfl, _, _, L, wide, c, long, rfl, hL2, ok, hC, okc, fun H3 s3 => ⟨_, _, rfl, ?_⟩⟩
    -- rows
    refine ⟨_, rfl, .inr ⟨a, _, 1, _, rfl, rfl, sqt (s3 _ _ ha), atI_nat (j := 1) rfl, .inr ⟨b, _, 0, _, rfl, rfl, sqt (s3 _ _ hb), atI_nat (j := 0) hy0, cc, _, rfl, .inr (sqt (s3 _ _ hcc)), ?_⟩⟩⟩
    rw [hzl]
    refine ⟨_, rfl, wide, long, rfl, w2, l2, fun r H4 s4 hrn hr4 => ?_⟩
    have s34 := s3.trans s4
    have hR4 := rw_same s34 hR2
    have nrR := rw_ne (rw_same s3 hR2) hrn
    have hL4 := keep s34 hL2
    have hC4 := keep s34 hC
    have T4 := T2.ext s34
    obtain ⟨r', rs, er, hrs, hpr⟩ := hr4
    cases er
    have hrl := paired_len hpr
    rw [rowsL_len] at hrl
    -- word, heard
    have dR : d ≠ R := by
      obtain ⟨zz, hz⟩ := rw_lst hR2
      exact ne_tl hd hz
    refine ⟨_, rfl, _, rfl, R, sc, d, ys, rfl, .inr (sqt (s34 _ _ hd)), dR, by omega, by omega, fun H' m h => .inr (sqt (m _ _ dR (s34 _ _ hd))), hR4, fun jw x H5 hx5 mr5 hR5 => ?_⟩
    obtain ⟨ew, hew, hpw⟩ := paired_get' hpc hx5
    obtain ⟨hw, hwt1, hwt2⟩ := okc.words ew (List.mem_of_getElem? hew)
    obtain ⟨g, qa, rfl, hg, hq⟩ := pr_at (keepR hR4 mr5 (keep s34 hpw))
    have hrs5 : H5 r = some (.lst rs) := mr5 _ _ nrR hrs
    have hpr5 := paired_map hpr fun u z q => keepR (r := Poly) hR4 mr5 q
    refine .inr ⟨g, _, 0, _, rfl, rfl, sqt hg, atI_nat (j := 0) rfl, ?_⟩
    refine ⟨_, rfl, _, rfl, R, sc, r, rs, rfl, .inl (sql hrs5), nrR, by omega, by omega, fun H' m h => .inl (sql (m _ _ nrR hrs5)), hR5, fun jh x H6 hx6 mr6 hR6 => ⟨_, _, rfl, ?_⟩⟩
    obtain ⟨rowh, hrowh, hph⟩ := paired_get' hpr5 hx6
    have hrok := rowsL_ok wide long rowh (List.mem_of_getElem? hrowh)
    have mr46 := mr5.trans mr6
    have hL6 := keepR hR4 mr46 hL4
    have hC6 := keepR hR4 mr46 hC4
    have T6 := tabs_mr hR4 mr46 T4
    have hrs6 := mr6 _ _ nrR hrs5
    have hpr6 := paired_map hpr5 fun u z q => keepR (r := Poly) hR5 mr6 q
    have hwd6 : Poly H6 (.ref qa) ew.1 := keepR hR5 mr6 (poly_of hq)
    have hrw6 := keepR hR5 mr6 hph
    -- told = chance(..)
    refine ⟨_, rfl, _, rfl, _, rfl, _, _, _, L, wide, long, ew.1, rowh, rfl, hL6, ok, hwd6, hrw6, hw, hrok, l1, l2, fun rt H7 s7 ht => ?_⟩
    obtain ⟨ta, tb, rfl, hta, htb⟩ := pr_at ht
    obtain ⟨cl, cs⟩ := chF_sm ok hw hrok l2
    obtain ⟨cb1, cb2⟩ := chF_bound ok hw hrok l2
    obtain ⟨ls1, ls2⟩ := low_small (n := long) ok l2
    obtain ⟨f1, f2, f3, f4⟩ := lowest_facts (p := chF L.2 ew.1 rowh) ls1 cb2
    -- whole
    refine ⟨_, rfl, .inr ⟨ta, _, 0, _, rfl, rfl, sqt hta, atI_nat (j := 0) rfl, ?_⟩⟩
    refine ⟨_, rfl, .inr ⟨ta, _, 1, _, rfl, rfl, sqt hta, atI_nat (j := 1) rfl, by show 1 ≤ sizeLine; decide, fun t9 n9 => ?_⟩⟩
    have s9 := same_new (o := .tup [V.int (lowestF (chF L.2 ew.1 rowh) (L.1 ^ long)).2]) n9
    refine catA_of (sqt (s9 _ _ htb)) (sqt upd_same) ?_ fun c9 H9 s10 hc9 => ?_
    · simp only [List.length_map, List.length_cons, List.length_nil]
      omega
    refine ⟨_, (lowestF (chF L.2 ew.1 rowh) (L.1 ^ long)).1 ++ [(lowestF (chF L.2 ew.1 rowh) (L.1 ^ long)).2], rfl, ⟨c9, rfl, .inr (by rw [List.map_append]; exact hc9)⟩, ?_⟩
    rw [LW.whole _ _ ls1]
    refine ⟨rfl, _, rfl, itNF rfl ?_⟩
    have sB := s9.trans s10
    have hta9 := sB _ _ hta
    refine ⟨_, rfl, .inr ⟨ta, _, 1, _, rfl, rfl, sqt hta9, atI_nat (j := 1) rfl, _, _, rfl, rfl, _, rfl, itF (by show ¬ (lowestF (chF L.2 ew.1 rowh) (L.1 ^ long)).2 < 1; omega) ?_⟩⟩
    have sC := s7.trans sB
    -- due
    refine ⟨Nat.zero_le _, fun e1 ne1 => ?_⟩
    have sD := sC.trans (same_new (o := .tup []) ne1)
    refine ⟨_, rfl, _, rfl, _, rfl, _, _, _, L, wide, long, ew.1, rowh, rfl, keep sD hL6, ok, keep sD hwd6, keep sD hrw6, hw, hrok, l2, fun rch HA sA hch => ?_⟩
    have sE := sD.trans sA
    have htaA := ((same_new (o := .tup []) ne1).trans sA) _ _ hta9
    refine ⟨_, rfl, .inr ⟨ta, _, 1, _, rfl, rfl, sqt htaA, atI_nat (j := 1) rfl, ?_⟩⟩
    refine ⟨_, _, [], chF L.2 ew.1 rowh, _, rfl, zs_poly (poly_of (sA _ _ upd_same)), zs_poly hch, Nat.zero_le _, by omega, .inl (sm_of (n := 64) (by show (lowestF (chF L.2 ew.1 rowh) (L.1 ^ long)).2.natAbs ≤ 64; omega)), fun rdue HB sBB hdue => ?_⟩
    have sF := sE.trans sBB
    -- if p_plus((), told[0], power) != due
    refine ⟨Nat.zero_le _, fun e2 ne2 => ?_⟩
    have sG := sF.trans (same_new (o := .tup []) ne2)
    have sx := (sA.trans sBB).trans (same_new (o := .tup []) ne2)
    have htaG := (sBB.trans (same_new (o := .tup []) ne2)) _ _ htaA
    obtain ⟨aG, bG, xsG, ea, haG, hbG, hpG⟩ := line_at (keep sG hL6)
    cases ea
    refine ⟨_, rfl, .inr ⟨ta, _, 0, _, rfl, rfl, sqt htaG, atI_nat (j := 0) rfl, ?_⟩⟩
    refine ⟨_, rfl, .inr ⟨a, _, 0, _, rfl, rfl, sqt haG, atI_nat (j := 0) rfl, ?_⟩⟩
    refine ⟨_, rfl, L.1, long, rfl, sm_of (n := 4) (by omega), by omega, ?_⟩
    have htb9 : Poly _ (.ref tb) (lowestF (chF L.2 ew.1 rowh) (L.1 ^ long)).1 := poly_of (sB _ _ htb)
    refine ⟨_, _, [], (lowestF (chF L.2 ew.1 rowh) (L.1 ^ long)).1, _, rfl, zs_poly (poly_of upd_same), zs_poly (keep (((same_new (o := .tup []) ne1).trans (sA.trans sBB)).trans (same_new (o := .tup []) ne2)) htb9), Nat.zero_le _, by omega, .inl (sm_of (n := 64) (by omega)), fun rp HC sCC hrp => ?_⟩
    obtain ⟨p1, rfl, hp1⟩ := poly_at hrp
    obtain ⟨p2, rfl, hp2⟩ := poly_at (keep ((same_new (o := .tup []) ne2).trans sCC) hdue)
    refine ⟨_, rfl, p1, p2, _, _, rfl, rfl, .inr ⟨sqt hp1, sqt hp2⟩, _, rfl, itNF (LW.back _ _ ls1) ?_⟩
    have sH := sG.trans sCC
    have hRH := rw_same sH hR6
    have hrsH := sH _ _ hrs6
    have hprH := paired_map hpr6 fun u z q => keep (r := Poly) sH q
    -- reader
    refine ⟨_, rfl, r, _, rfl, .inl ⟨sql hrsH, lc_drawn (m := (c.length : Int)) (sql hrsH) nrR hRH (by omega) (fun x H' hR' mr' C hC => ?_) fun v0 rd H8 nv0 mr8 hR8 hv0 hrdl hrd => ?_⟩⟩
    · obtain ⟨dd, yy, e', hdd, hpp⟩ := keepR hRH mr' (keep sH hC6)
      cases e'
      have := paired_len hpp
      refine ⟨rfl, _, rfl, _, rfl, d, _, rfl, .inr (sqt hdd), ?_⟩
      exact ⟨R, sc, _, rfl, by omega, by omega, hR', fun j H4 hj mr hR4 => hC j H4 (by omega) mr hR4⟩
    refine ⟨v0, _, rfl, .inl ⟨sql hv0, fun tr ntr => ?_⟩⟩
    have sI := same_new (o := .tup (rd.map V.int)) ntr
    have mrI := mr8.trans (mr_same sI)
    have hLI := keepR hRH mrI (keep sH hL6)
    have hCI := keepR hRH mrI (keep sH hC6)
    have TI := tabs_mr hRH mrI (T6.ext sH)
    have hRI := rw_same sI hR8
    have hrsI := mrI _ _ nrR hrsH
    have hprI := paired_map hprH fun u z q => keepR (r := Poly) hRH mrI q
    have hrd8 : Poly _ (.ref tr) rd := poly_of (upd_same (H := H8) (a := tr) (o := .tup (rd.map V.int)))
    have hrdl2 : rd.length = wide ^ long := by omega
    -- found
    refine ⟨Nat.zero_le _, fun e3 ne3 => ?_⟩
    have sJ := same_new (o := .tup []) ne3
    refine ⟨_, rfl, r, _, rfl, .inl (sql (sJ _ _ hrsI)), ?_⟩
    have hzz : ((rowsL wide long).zip rd).length = rs.length := by rw [List.length_zip, rowsL_len]; omega
    refine ⟨_, rfl, by omega, by omega, for_range (n := rs.length) (fun i σ' H' => Same (upd H8 tr (.tup (rd.map V.int))) H' ∧ ∃ x7 x13 x14 x15, σ' = [some (.ref sc), some (.ref R), some (.ref a), some (.ref d), some (.int (long : Int)), some (.int (lowF' L c long)), some (.ref r), some x7, some x, some (.ref ta), some (.ref p2), none, some (.ref tr), some x13, x14, x15, none, none, none, none] ∧ Poly H' x13 ((((rowsL wide long).zip rd).take i).foldl (lfStep L c) []) ∧ ((((rowsL wide long).zip rd).take i).foldl (lfStep L c) []).length ≤ 20) ⟨sJ, _, _, none, none, rfl, poly_of upd_same, Nat.zero_le _⟩ ?_ ?_⟩
    · rintro i σ' H' hi ⟨sm, x7, x13, x14, x15, rfl, h13, h13l⟩
      have e0 : V.int (0 + (i : Int)) = .int (i : Int) := congrArg V.int (Int.zero_add _)
      rw [e0]
      have hi2 : i < rd.length := by omega
      have hi3 : i < (rowsL wide long).length := by rw [rowsL_len]; omega
      obtain ⟨j1, j2⟩ := hrd _ (List.mem_of_getElem? (get_coef hi2))
      have hjc : (coef rd i).toNat < c.length := by omega
      obtain ⟨dd, yy, e', hdd, hpp⟩ := keep sm hCI
      cases e'
      obtain ⟨gx, hgx, hge⟩ := paired_get hpp (List.getElem?_eq_getElem hjc)
      obtain ⟨hwe, hwt1, hwt2⟩ := okc.words _ (List.getElem_mem hjc)
      obtain ⟨gg, gq, rfl, hgg, hgq⟩ := pr_at hge
      have trI : upd H8 tr (.tup (rd.map V.int)) tr = some (.tup (rd.map V.int)) := upd_same
      obtain ⟨rx, hrx, hrxP⟩ := paired_get hprI (List.getElem?_eq_getElem hi3)
      have hrxok := rowsL_ok wide long _ (List.getElem_mem hi3)
      have hzi : ((rowsL wide long).zip rd)[i]? = some ((rowsL wide long)[i], coef rd i) := by rw [List.getElem?_zip_eq_some]; exact ⟨List.getElem?_eq_getElem hi3, get_coef hi2⟩
      have eF := foldl_take (f := lfStep L c) (z := ([] : List Int)) hzi
      have eD : c.getD (coef rd i).toNat ([], 0) = c[(coef rd i).toNat] := by rw [List.getD_eq_getElem?_getD, List.getElem?_eq_getElem hjc]; rfl
      refine ⟨_, rfl, _, rfl, _, rfl, .inr ⟨tr, _, _, .int (coef rd i), rfl, rfl, sqt (sm _ _ trI), atI_n (get_intc hi2), .inr ⟨d, _, _, _, rfl, rfl, sqt hdd, atI_nat' j1 hgx, ?_⟩⟩⟩
      refine ⟨gg, _, rfl, sqt hgg, rfl, _, _, rfl, _, _, rfl, rfl, ?_⟩
      refine ⟨_, rfl, _, rfl, _, rfl, _, rfl, _, rfl, .inl ⟨r, _, _, rx, rfl, rfl, sql (sm _ _ hrsI), atI_n hrx, ?_⟩⟩
      obtain ⟨clx, csx⟩ := chF_sm ok hwe hrxok l2
      refine ⟨_, _, _, L, wide, long, (c[(coef rd i).toNat]).1, (rowsL wide long)[i], rfl, keep sm hLI, ok, poly_of hgq, keep sm hrxP, hwe, hrxok, l2, fun rc2 HK sK hrc2 => ?_⟩
      refine ⟨_, rfl, _, _, _, _, (c[(coef rd i).toNat]).2, rfl, zs_poly (keep sK h13), zs_poly hrc2, by omega, by omega, .inl (sm_of (n := 3) (by omega)), fun rf HM sM hrf => ?_⟩
      refine ⟨sm.trans (sK.trans sM), _, rf, _, _, rfl, ?_, ?_⟩
      · rw [eF]
        show Poly HM rf (plusL _ (chF L.2 (c.getD (coef rd i).toNat ([], 0)).1 _) (c.getD (coef rd i).toNat ([], 0)).2)
        rw [eD]
        exact hrf
      · rw [eF]
        show (plusL _ (chF L.2 (c.getD (coef rd i).toNat ([], 0)).1 (rowsL wide long)[i]) (c.getD (coef rd i).toNat ([], 0)).2).length ≤ 20
        rw [eD]
        exact Nat.le_trans (plusL_len _ _ _) (by omega)
    rintro σ' HN ⟨sN, x7, x13, x14, x15, rfl, h13, h13l⟩
    rw [List.take_of_length_le (by omega)] at h13 h13l
    have hLN := keep sN hLI
    have hCN := keep sN hCI
    have TN := TI.ext sN
    have hRN := rw_same sN hRI
    have hrsN := sN _ _ hrsI
    have hprN := paired_map hprI fun u z q => keep (r := Poly) sN q
    -- told = right(..)
    refine ⟨_, rfl, _, rfl, _, rfl, _, _, _, L, wide, c, long, rd, rfl, hLN, ok, hCN, okc, keep sN hrd8, hrdl2, hrd, fun rt2 HO1 sO ht2 => ?_⟩
    obtain ⟨g1, g2, g3, g4⟩ := right_facts ok okc (told_zip ok okc hrd)
    have efold : ((toldF L.2 c wide long).zip rd).foldl rtStep [] = lawFound L c wide long rd := LW.found ok okc hrdl2 hrd
    have erig : rightF (toldF L.2 c wide long) (lowF' L c long) rd = lowestF (lawFound L c wide long rd) (lowF' L c long) := by
      show lowestF (((toldF L.2 c wide long).zip rd).foldl rtStep []) _ = _
      rw [efold]
    obtain ⟨ua, ub, rfl, hua, hub⟩ := pr_at ht2
    refine ⟨_, rfl, .inr ⟨ua, _, 0, _, rfl, rfl, sqt hua, atI_nat (j := 0) rfl, ?_⟩⟩
    refine ⟨_, rfl, .inr ⟨ua, _, 1, _, rfl, rfl, sqt hua, atI_nat (j := 1) rfl, by show 1 ≤ sizeLine; decide, fun u9 n9 => ?_⟩⟩
    have w9 := same_new (o := .tup [V.int (rightF (toldF L.2 c wide long) (lowF' L c long) rd).2]) n9
    refine catA_of (sqt (w9 _ _ hub)) (sqt upd_same) ?_ fun c9 HP1 w10 hc9 => ?_
    · simp only [List.length_map, List.length_cons, List.length_nil]
      omega
    refine ⟨_, (rightF (toldF L.2 c wide long) (lowF' L c long) rd).1 ++ [(rightF (toldF L.2 c wide long) (lowF' L c long) rd).2], rfl, ⟨c9, rfl, .inr (by rw [List.map_append]; exact hc9)⟩, ?_⟩
    rw [erig, LW.whole _ _ q1]
    refine ⟨rfl, _, rfl, itNF rfl ?_⟩
    have wB := w9.trans w10
    have huaB := wB _ _ hua
    have hubB := wB _ _ hub
    refine ⟨_, rfl, .inr ⟨ua, _, 1, _, rfl, rfl, sqt huaB, atI_nat (j := 1) rfl, _, _, rfl, rfl, _, rfl, itF (by show ¬ (rightF (toldF L.2 c wide long) (lowF' L c long) rd).2 < 1; omega) ?_⟩⟩
    -- p_plus((), told[0], low) != p_plus((), found, told[1])
    refine ⟨Nat.zero_le _, fun e4 ne4 => ?_⟩
    have wC := same_new (o := .tup []) ne4
    refine ⟨_, rfl, .inr ⟨ua, _, 0, _, rfl, rfl, sqt (wC _ _ huaB), atI_nat (j := 0) rfl, ?_⟩⟩
    refine ⟨_, rfl, _, _, [], (rightF (toldF L.2 c wide long) (lowF' L c long) rd).1, _, rfl, zs_poly (poly_of upd_same), zs_poly (poly_of (wC _ _ hubB)), Nat.zero_le _, by omega, .inl (sm_of (n := 768) (by omega)), fun rp1 HQ wD hrp1 => ?_⟩
    refine ⟨Nat.zero_le _, fun e5 ne5 => ?_⟩
    have wE := same_new (o := .tup []) ne5
    have wX := wC.trans (wD.trans wE)
    have wN := (sO.trans wB).trans wX
    refine ⟨_, rfl, _, rfl, .inr ⟨ua, _, 1, _, rfl, rfl, sqt (wX _ _ huaB), atI_nat (j := 1) rfl, ?_⟩⟩
    refine ⟨_, _, [], lawFound L c wide long rd, _, rfl, zs_poly (poly_of upd_same), zs_poly (keep wN h13), Nat.zero_le _, by show (((rowsL wide long).zip rd).foldl (lfStep L c) []).length ≤ 100000; omega, .inl (sm_of (n := 768) (by show (rightF (toldF L.2 c wide long) (lowF' L c long) rd).2.natAbs ≤ 768; omega)), fun rp2 HR wF hrp2 => ?_⟩
    obtain ⟨v1, rfl, hv1⟩ := poly_at (keep (wE.trans wF) hrp1)
    obtain ⟨v2, rfl, hv2⟩ := poly_at hrp2
    refine ⟨v1, v2, _, _, rfl, rfl, .inr ⟨sqt hv1, sqt hv2⟩, _, rfl, itNF (by rw [erig]; exact LW.back _ _ q1) ?_⟩
    have wT := wN.trans wF
    have hRT := rw_same wT hRN
    -- share
    refine ⟨_, rfl, R, sc, rfl, hRT, fun rsh t l HS mrS hRS hsh shok l8 => ?_⟩
    have hLS := keepR hRT mrS (keep wT hLN)
    have hCS := keepR hRT mrS (keep wT hCN)
    have TS := tabs_mr hRT mrS (TN.ext wT)
    have hrsS := mrS _ _ nrR (wT _ _ hrsN)
    have hprS := paired_map (paired_map hprN fun u z q => keep (r := Poly) wT q) fun u z q => keepR (r := Poly) hRT mrS q
    have htoldS : PolyBy HS (.ref ua) (rightF (toldF L.2 c wide long) (lowF' L c long) rd) := keepR hRT mrS (keep ((wB.trans wX).trans wF) ht2)
    have fsh := share_fb shok l8
    -- due
    refine ⟨Nat.zero_le _, fun du ndu => ?_⟩
    have z0 := same_new (o := .lst []) ndu
    obtain ⟨dS, yS, eS, hdS, hpS⟩ := hCS
    cases eS
    have hySl := paired_len hpS
    have hrlS := paired_len hprS
    refine ⟨_, rfl, for_seq (H0 := HS) (.inl (sql hrsS)) (fun i σ' H' => Same HS H' ∧ ∃ x11 x17 x18, σ' = [some (.ref sc), some (.ref R), some (.ref a), some (.ref d), some (.int (long : Int)), some (.int (lowF' L c long)), some (.ref r), some x7, some x, some (.ref ua), some (.ref du), x11, some (.ref tr), some x13, x14, x15, some rsh, x17, x18, none] ∧ H' du = some (.lst (((readerF t l (toldF L.2 c wide long)).take i).map V.int)) ∧ i ≤ rs.length) (fun _ _ _ h => h.1) ⟨z0, none, none, none, rfl, upd_same, Nat.zero_le _⟩ ?_ ?_⟩
    · rintro i y σ' H' hy ⟨sm, x11, x17, x18, rfl, hdu, _⟩
      have hi : i < rs.length := (List.getElem?_eq_some_iff.mp hy).1
      obtain ⟨row, hrow, hrowP⟩ := paired_get' hprS hy
      have hrok2 := rowsL_ok wide long row (List.mem_of_getElem? hrow)
      have hrow' := keep (r := Poly) sm hrowP
      have hLx := keep sm hLS
      have fbS : ∀ o ∈ someL L c (t, l) row, FB 4011 111 o := fun o ho => by
        obtain ⟨e, he, rfl⟩ := List.mem_map.mp ho
        obtain ⟨hw2, h1, h2⟩ := okc.words e he
        obtain ⟨m1, m2⟩ := chF_sm ok hw2 hrok2 l2
        have fa := lawAt_fb' fsh m2 m1
        exact (timesF_fb (show FB 10 1 (e.2, 1) from ⟨by show (0 : Int) < 1; decide, by show Bt 10 e.2; unfold Bt; omega, by show Bt _ (1 : Int); unfold Bt; decide⟩) fa).mono (by omega) (by omega)
      have hsl : (someL L c (t, l) row).length = c.length := List.length_map _
      refine ⟨_, rfl, lc_mapS (r := Frac) (.inr (sqt (sm _ _ hdS))) (by omega) (fun m => timesF ((c.getD m ([], 0)).2, 1) (lawAt (chF L.2 (c.getD m ([], 0)).1 row) (t, l))) (fun m z Ha hz sa C hC => ?_) fun ls Ha sa hva => ?_⟩
      · obtain ⟨e, he, hpe⟩ := paired_get' hpS hz
        obtain ⟨g, q, rfl, hg, hq⟩ := pr_at hpe
        have hge : c.getD m ([], 0) = e := by rw [List.getD_eq_getElem?_getD, he]; rfl
        rw [hge] at hC
        obtain ⟨hw2, hwt1, hwt2⟩ := okc.words e (List.mem_of_getElem? he)
        have sd := sm.trans sa
        refine ⟨g, _, rfl, sqt (sd _ _ hg), rfl, _, _, rfl, _, _, rfl, rfl, ?_⟩
        refine ⟨rfl, _, rfl, by show 2 ≤ sizeLine; decide, fun t5 nt5 => ?_⟩
        have s5 := same_new (o := .tup [V.int e.2, V.int 1]) nt5
        have se := sd.trans s5
        refine ⟨_, rfl, _, rfl, _, rfl, _, _, _, L, wide, long, e.1, row, rfl, keep se hLS, ok, poly_of (se _ _ hq), keep (sa.trans s5) hrow', hw2, hrok2, l2, fun rpp Hb sb hrpp => ?_⟩
        obtain ⟨m1, m2⟩ := chF_sm ok hw2 hrok2 l2
        refine ⟨_, rfl, _, _, _, (t, l), rfl, hrpp, keep (se.trans sb) hsh, fsh, m1, m2, fun ra Hc sc2 hra => ?_⟩
        exact ⟨_, _, (e.2, 1), _, 10, 1, _, _, rfl, frac_of ((sb.trans sc2) _ _ upd_same), hra, ⟨by show (0 : Int) < 1; decide, by show Bt 10 e.2; unfold Bt; omega, by show Bt _ (1 : Int); unfold Bt; decide⟩, lawAt_fb' fsh m2 m1, by omega, by omega, fun rt Hd sd2 hrt => hC _ _ (s5.trans (sb.trans (sc2.trans sd2))) hrt⟩
      · rw [hySl, range_map_get c ([], 0) (fun e => timesF (e.2, 1) (lawAt (chF L.2 e.1 row) (t, l)))] at hva
        obtain ⟨ls', us, e, hls, hpu⟩ := hva
        cases e
        have hpu : Paired (Frac Ha) us (someL L c (t, l) row) := hpu
        have hul := paired_len hpu
        -- the firsts
        refine ⟨_, rfl, ls, _, rfl, .inl (sql hls), ?_⟩
        refine ⟨_, rfl, by omega, by omega, lc_filt (r := rI_) (G := fun _ => True) walk_range (fun _ _ => trivial) (by omega) (selF (someL L c (t, l) row)) (fun m => (m : Int)) (fun m z Hb Hb' hm sb hz C B hC hB => ?_) fun lb Hb sb hvb => ?_⟩
        · obtain ⟨rfl, rfl⟩ := hz
          rw [show (fun (i : Nat) => V.int (0 + (i : Int))) m = V.int (m : Int) from congrArg V.int (Int.zero_add _)]
          have hm' : m < us.length := by omega
          obtain ⟨om, hom, hFm⟩ := paired_get' hpu (List.getElem?_eq_getElem hm')
          have eom : (someL L c (t, l) row).getD m (0, 1) = om := by rw [List.getD_eq_getElem?_getD, hom]; rfl
          refine ⟨rfl, ?_⟩
          refine ⟨_, rfl, ls, us, rfl, .inl ⟨sql (sb _ _ hls), lc_filt (r := rI_) walk_list (fun H' s => sql (s _ _ (sb _ _ hls))) (by omega) (fun n => belowF ((someL L c (t, l) row).getD m (0, 1)) ((someL L c (t, l) row).getD n (0, 1))) (fun _ => 1) ?_ ?_⟩⟩
          · rintro n z Hc Hc' hn sc2 ⟨rfl, hzn⟩ C2 B2 hC2 hB2
            obtain ⟨on, hon, hFn⟩ := paired_get' hpu hzn
            have eon : (someL L c (t, l) row).getD n (0, 1) = on := by rw [List.getD_eq_getElem?_getD, hon]; rfl
            rw [eom, eon] at hC2 hB2
            have sx := sb.trans sc2
            refine ⟨rfl, _, rfl, _, rfl, .inl ⟨ls, _, _, _, rfl, rfl, sql (sx _ _ hls), atI_n (List.getElem?_eq_getElem hm'), ?_⟩⟩
            refine ⟨_, rfl, _, _, om, on, _, _, _, _, rfl, keep sx hFm, keep sx hFn, fbS _ (List.mem_of_getElem? hom), fbS _ (List.mem_of_getElem? hon), by omega, _, rfl, ?_⟩
            cases hbe : belowF om on with
            | true => exact iteT (hC2 hbe _ _ (Same.refl _) rfl)
            | false => exact iteF (hB2 hbe _ (Same.refl _))
          · intro l5 Hc sc2 hv5
            have h5 := lst_ref hv5
            rw [hul] at h5
            refine ⟨Nat.zero_le _, fun l6 n6 => ?_⟩
            have s6 := same_new (o := .lst []) n6
            refine ⟨l5, l6, _, [], rfl, rfl, .inl ⟨sql (s6 _ _ h5), sql upd_same⟩, _, rfl, ?_⟩
            cases hse : selF (someL L c (t, l) row) m with
            | true =>
              refine itT (of_decide_eq_true hse) ?_
              exact ⟨_, rfl, hC hse _ _ (sc2.trans s6) rfl⟩
            | false =>
              refine itF (of_decide_eq_false hse) ?_
              exact hB hse _ (sc2.trans s6)
        · have hb1 := lst_ref hvb
          have edue := LW.due (L := L) (wide := wide) (long := long) (c := c) (t := t) (l := l) (row := row) ok okc hrok2 shok
          rw [show ((us.length : Int)).toNat = (someL L c (t, l) row).length by omega] at hb1
          have hdub := (sa.trans sb) _ _ hdu
          have hb0' : ((((List.range (someL L c (t, l) row).length).filter (selF (someL L c (t, l) row))).map fun (m : Nat) => (m : Int)).map V.int)[0]? = some (.int ((gaF t l (c.map fun e => timesL [e.2] (chF L.2 e.1 row)) : Nat) : Int)) := by
            rw [List.getElem?_map, List.getElem?_map, edue]
            rfl
          have hti : (readerF t l (toldF L.2 c wide long))[i]? = some ((gaF t l (c.map fun e => timesL [e.2] (chF L.2 e.1 row)) : Nat) : Int) := by
            unfold readerF toldF
            rw [List.getElem?_map, List.getElem?_map, hrow]
            rfl
          refine ⟨_, rfl, .inl ⟨rfl, _, sql hdub⟩, _, rfl, .inl ⟨lb, _, 0, _, rfl, rfl, sql hb1, atI_nat (j := 0) hb0', ?_⟩⟩
          refine ⟨du, _, _, rfl, rfl, hdub, line_lt ?_, same_mut (sm.trans (sa.trans sb)) ndu, _, _, _, rfl, ?_, hi⟩
          · rw [List.length_map, List.length_take]
            omega
          · rw [upd_same, List.take_add_one, hti, List.map_append]
            rfl
    rintro σ' HU ⟨sU, x11, x17, x18, rfl, hdu, _⟩
    have hrdL : (readerF t l (toldF L.2 c wide long)).length = rs.length := by
      show ((toldF L.2 c wide long).map _).length = _
      rw [List.length_map, t1]
      exact hrl.symm
    rw [List.take_of_length_le (by omega)] at hdu
    have hCU : Code HU (.ref d) c := keep sU ⟨d, yS, rfl, hdS, hpS⟩
    -- best_reader
    refine ⟨_, rfl, _, rfl, _, rfl, _, _, _, L, wide, c, long, t, l, rfl, keep sU hLS, ok, hCU, okc, keep sU hsh, shok, TS.ext sU, fun rb HV eV TV hrb => ?_⟩
    refine ⟨_, rfl, du, _, rfl, .inl ⟨sql (eV _ _ hdu (fun ps z => by cases z)), fun td ntd => ?_⟩⟩
    have sW := same_new (o := .tup ((readerF t l (toldF L.2 c wide long)).map V.int)) ntd
    refine ⟨_, _, readerF t l (toldF L.2 c wide long), rfl, keep sW hrb, poly_of upd_same, by omega, fun HW sX2 => ⟨_, rfl, iteF ?_⟩⟩
    have eW : ExtN HS HW := (same_ext sU).trans (eV.trans (same_ext (sW.trans sX2)))
    have TW := TV.ext (sW.trans sX2)
    have hCSx : Code HS (.ref d) c := ⟨d, yS, rfl, hdS, hpS⟩
    -- best_right, law_of
    refine ⟨_, rfl, _, rfl, _, rfl, _, _, _, L, wide, c, long, t, l, rfl, keepN eW hLS, ok, keepN eW hCSx, okc, keepN eW hsh, shok, TW, fun rb2 HX eX TX hrb2 => ?_⟩
    have eX2 := eW.trans eX
    refine ⟨_, rfl, _, rfl, _, _, _, _, (t, l), rfl, keepN eX2 htoldS, keepN eX2 hsh, fsh, by show (rightF (toldF L.2 c wide long) (lowF' L c long) rd).1.length ≤ 20; omega, cb_sm g2 (by decide), g3, sm_of (n := 768) (by show (rightF (toldF L.2 c wide long) (lowF' L c long) rd).2.natAbs ≤ 768; omega), fun rlo HY sY hrlo => ?_⟩
    have hbest := LW.best (t := t) (l := l) ok okc shok
    have fbest : FB 194401 2998 (bestF L c wide long t l) := by
      rw [hbest]
      have := lawBest_fb (s := (t, l)) ok okc fsh (rowsL wide long).length (by rw [rowsL_len]; omega) (Nat.le_refl _)
      rw [List.take_of_length_le (Nat.le_refl _)] at this
      have h27' : (rowsL wide long).length ≤ 27 := by rw [rowsL_len]; omega
      exact this.mono (by omega) (by omega)
    have flo := timesF_fb (lawAt_fb' fsh (cb_sm g2 (by decide)) (by omega)) (show FB 1 64 (1, (rightF (toldF L.2 c wide long) (lowF' L c long) rd).2) from ⟨g3, by show Bt _ (1 : Int); unfold Bt; decide, sm_bt (sm_of (n := 768) (by omega))⟩)
    refine ⟨_, _, _, _, _, _, _, _, rfl, keep sY hrb2, hrlo, fbest, flo, by omega, _, rfl, ?_⟩
    refine ifF (LW.most ok okc shok hrdl2 hrd) ?_
    -- the end
    have eY := eX2.trans (same_ext sY)
    have TY := TX.ext sY
    refine ⟨_, rfl, _, rfl, _, rfl, _, _, _, L, wide, c, long, t, l, rfl, keepN eY hLS, ok, keepN eY hCSx, okc, keepN eY hsh, shok, TY, fun rb3 HZ eZ TZ hrb3 => ?_⟩
    have eZ2 := eY.trans eZ
    refine ⟨_, rfl, _, rfl, _, rfl, _, _, _, L, wide, c, long, t, l, rfl, keepN eZ2 hLS, ok, keepN eZ2 hCSx, okc, keepN eZ2 hsh, fsh, fun rb4 HZ2 sZ hrb4 => ?_⟩
    rw [hbest] at hrb3
    exact ⟨_, _, [(lawBest L c wide long (t, l)).1, (lawBest L c wide long (t, l)).2], rfl, keep sZ (frac_poly hrb3), frac_poly hrb4, by simp, fun HE sE2 => k HE⟩
end
end EN
set_option maxHeartbeats 4000000
/-! The plain laws. -/
namespace EN
/-! ### values of polynomials -/
def val (p : List Int) (x : Rat) : Rat := match p with
  | [] => 0
  | a :: p => (a : Rat) + x * val p x
theorem val_zero (x : Rat) : ∀ (p : List Int), (∀ k, coef p k = 0) → val p x = 0
  | [], _ => rfl
  | a :: p, h => by
    have h0 : a = 0 := h 0
    have ih := val_zero x p fun k => by have := h (k + 1); rwa [coef_succ] at this
    show (a : Rat) + x * val p x = 0
    rw [ih, h0]
    grind
theorem val_ext (x : Rat) : ∀ (p q : List Int), (∀ k, coef p k = coef q k) → val p x = val q x
  | [], q, h => (val_zero x q fun k => (h k).symm).symm
  | a :: p, [], h => val_zero x (a :: p) h
  | a :: p, b :: q, h => by
    have h0 : a = b := h 0
    have ih := val_ext x p q fun k => by have := h (k + 1); rwa [coef_succ, coef_succ] at this
    show (a : Rat) + x * val p x = (b : Rat) + x * val q x
    rw [ih, h0]
theorem val_lin (x : Rat) (m : Int) : ∀ (r p q : List Int), (∀ k, coef r k = coef p k + m * coef q k) → val r x = val p x + (m : Rat) * val q x
  | r, [], [], h => by
    rw [val_zero x r fun k => by rw [h, coef_nil]; omega]
    show (0 : Rat) = 0 + (m : Rat) * 0
    grind
  | [], a :: p, [], h => by
    have := val_zero x (a :: p) fun k => by have := h k; rw [coef_nil] at this; omega
    rw [this]
    show (0 : Rat) = 0 + (m : Rat) * 0
    grind
  | c :: r, a :: p, [], h => by
    have := val_ext x (c :: r) (a :: p) fun k => by have := h k; rw [coef_nil] at this; omega
    rw [this]
    show val (a :: p) x = val (a :: p) x + (m : Rat) * 0
    grind
  | [], [], b :: q, h => by
    have h0 : (0 : Int) = 0 + m * b := h 0
    have ih := val_lin x m [] [] q fun k => by have := h (k + 1); rw [coef_succ] at this; exact this
    have e0 : (0 : Rat) = (m : Rat) * (b : Rat) := by rw [← Rat.intCast_mul, ← (show (0 : Int) = m * b by omega)]; rfl
    show (0 : Rat) = 0 + (m : Rat) * ((b : Rat) + x * val q x)
    have ih' : (0 : Rat) = 0 + (m : Rat) * val q x := ih
    grind
  | c :: r, [], b :: q, h => by
    have h0 : c = 0 + m * b := h 0
    have ih := val_lin x m r [] q fun k => by have := h (k + 1); rw [coef_succ, coef_succ] at this; exact this
    have e0 : (c : Rat) = (m : Rat) * (b : Rat) := by rw [← Rat.intCast_mul, h0, Int.zero_add]
    show (c : Rat) + x * val r x = 0 + (m : Rat) * ((b : Rat) + x * val q x)
    have ih' : val r x = 0 + (m : Rat) * val q x := ih
    rw [ih', e0]
    grind
  | [], a :: p, b :: q, h => by
    have h0 : (0 : Int) = a + m * b := h 0
    have ih := val_lin x m [] p q fun k => by have := h (k + 1); rw [coef_succ, coef_succ] at this; exact this
    have e0 : (0 : Rat) = (a : Rat) + (m : Rat) * (b : Rat) := by rw [← Rat.intCast_mul, ← Rat.intCast_add, ← h0]; rfl
    show (0 : Rat) = ((a : Rat) + x * val p x) + (m : Rat) * ((b : Rat) + x * val q x)
    have ih' : (0 : Rat) = val p x + (m : Rat) * val q x := ih
    grind
  | c :: r, a :: p, b :: q, h => by
    have h0 : c = a + m * b := h 0
    have ih := val_lin x m r p q fun k => by have := h (k + 1); rw [coef_succ, coef_succ, coef_succ] at this; exact this
    have e0 : (c : Rat) = (a : Rat) + (m : Rat) * (b : Rat) := by rw [← Rat.intCast_mul, ← Rat.intCast_add, h0]
    show (c : Rat) + x * val r x = ((a : Rat) + x * val p x) + (m : Rat) * ((b : Rat) + x * val q x)
    rw [ih, e0]
    grind
theorem val_plus (p q : List Int) (m : Int) (x : Rat) : val (plusL p q m) x = val p x + (m : Rat) * val q x := val_lin x m _ _ _ (coef_plusL p q m)
theorem coef_one (a : Int) (q : List Int) (k : Nat) : coef (timesL [a] q) k = a * coef q k := by
  unfold timesL
  rw [coef_cut, coef_mulL_cons]
  by_cases h : k = 0
  · rw [if_pos h, Int.add_zero]
  · rw [if_neg h]
    show a * coef q k + coef [] (k - 1) = _
    rw [coef_nil, Int.add_zero]
theorem val_one (a : Int) (q : List Int) (x : Rat) : val (timesL [a] q) x = (a : Rat) * val q x := by
  rw [val_lin x a (timesL [a] q) [] q fun k => by rw [coef_one, coef_nil, Int.zero_add]]
  show 0 + (a : Rat) * val q x = _
  grind
theorem val_scale (p : List Int) (g : Int) (hg : 0 < g) (hd : ∀ c ∈ p, g ∣ c) (x : Rat) : val (p.map (· / g)) x * (g : Rat) = val p x := by
  have := val_lin x g p [] (p.map (· / g)) fun k => by
    rw [coef_nil, Int.zero_add, coef_map (· / g) (Int.zero_ediv g)]
    by_cases hk : k < p.length
    · exact (Int.mul_ediv_cancel' (hd _ (List.mem_of_getElem? (get_coef hk)))).symm
    · rw [coef_ge (by omega)]
      simp
  rw [this]
  show _ = 0 + (g : Rat) * val (p.map (· / g)) x
  grind
/-! ### fractions -/
def fv (f : Int × Int) : Rat := (f.1 : Rat) / (f.2 : Rat)
theorem cpos {l : Int} (h : 0 < l) : (0 : Rat) < (l : Rat) := Rat.intCast_pos.mpr h
theorem cne {l : Int} (h : 0 < l) : (l : Rat) ≠ 0 := fun e => by have := cpos h; rw [e] at this; exact absurd this (by decide)
theorem div_eq {a b c : Rat} (hb : b ≠ 0) : a / b = c ↔ a = c * b := by constructor <;> intro h <;> grind
theorem fv_red {t l : Int} (h : 0 < l) : fv (redF t l) = (t : Rat) / (l : Rat) := by
  obtain ⟨e1, e2⟩ := redF_eq (t := t) h
  have hg : (0 : Int) < (Int.gcd t l : Int) := by have : 0 < Int.gcd t l := Nat.gcd_pos_of_pos_right _ (by omega); omega
  have h2 := redF_pos (t := t) h
  have k1 : ((redF t l).1 : Rat) * ((Int.gcd t l : Int) : Rat) = (t : Rat) := by rw [← Rat.intCast_mul, e1]
  have k2 : ((redF t l).2 : Rat) * ((Int.gcd t l : Int) : Rat) = (l : Rat) := by rw [← Rat.intCast_mul, e2]
  have n1 := cne hg
  have n2 := cne h2
  have n3 := cne h
  unfold fv
  rw [div_eq n2]
  generalize ((redF t l).1 : Rat) = A at *
  generalize ((redF t l).2 : Rat) = B at *
  generalize ((Int.gcd t l : Int) : Rat) = G at *
  grind
theorem lt_iff {a b c d : Rat} (hb : 0 < b) (hd : 0 < d) : a / b < c / d ↔ a * d < c * b := by
  have hbd : 0 < b * d := Rat.mul_pos hb hd
  have nb : b ≠ 0 := fun e => by rw [e] at hb; exact absurd hb (by decide)
  have nd : d ≠ 0 := fun e => by rw [e] at hd; exact absurd hd (by decide)
  have e1 : a / b * (b * d) = a * d := by grind
  have e2 : c / d * (b * d) = c * b := by grind
  constructor
  · intro h
    have := Rat.mul_lt_mul_of_pos_right h hbd
    rwa [e1, e2] at this
  · intro h
    rcases (show a / b < c / d ∨ c / d ≤ a / b by grind) with k | k
    · exact k
    · exfalso
      have := Rat.mul_le_mul_of_nonneg_right k (Rat.le_of_lt hbd)
      rw [e1, e2] at this
      grind
theorem below_iff {a b : Int × Int} (ha : 0 < a.2) (hb : 0 < b.2) : belowF a b = true ↔ fv a < fv b := by
  unfold belowF fv
  rw [decide_eq_true_eq, lt_iff (cpos ha) (cpos hb), ← Rat.intCast_mul, ← Rat.intCast_mul, Rat.intCast_lt_intCast]
theorem fv_plus {a b : Int × Int} (ha : 0 < a.2) (hb : 0 < b.2) : 0 < (plusF a b).2 ∧ fv (plusF a b) = fv a + fv b := by
  refine ⟨redF_pos (Int.mul_pos ha hb), ?_⟩
  unfold plusF
  rw [fv_red (Int.mul_pos ha hb), Rat.intCast_add, Rat.intCast_mul, Rat.intCast_mul, Rat.intCast_mul]
  have := cne ha
  have := cne hb
  unfold fv
  grind
theorem fv_times {a b : Int × Int} (ha : 0 < a.2) (hb : 0 < b.2) : 0 < (timesF a b).2 ∧ fv (timesF a b) = fv a * fv b := by
  refine ⟨redF_pos (Int.mul_pos ha hb), ?_⟩
  unfold timesF
  rw [fv_red (Int.mul_pos ha hb), Rat.intCast_mul, Rat.intCast_mul]
  have := cne ha
  have := cne hb
  unfold fv
  grind
theorem cop_dvd {a b c : Int} (h : a ∣ b * c) (g : Int.gcd a b = 1) : a ∣ c := by
  have h1 : a.natAbs ∣ b.natAbs * c.natAbs := by rw [← Int.natAbs_mul]; exact Int.natAbs_dvd_natAbs.mpr h
  exact Int.natAbs_dvd_natAbs.mp (Nat.Coprime.dvd_of_dvd_mul_left (show Nat.Coprime a.natAbs b.natAbs from g) h1)
/-- reduced fractions of one value are one -/
theorem red_inj {a b : Int × Int} (ha : 0 < a.2) (hb : 0 < b.2) (ga : Int.gcd a.1 a.2 = 1) (gb : Int.gcd b.1 b.2 = 1) (h : fv a = fv b) : a = b := by
  unfold fv at h
  have h1 : (a.1 : Rat) * (b.2 : Rat) = (b.1 : Rat) * (a.2 : Rat) := by
    have := cne ha
    have := cne hb
    grind
  rw [← Rat.intCast_mul, ← Rat.intCast_mul, Rat.intCast_inj] at h1
  have d1 : a.2 ∣ b.2 := by
    have : a.2 ∣ a.1 * b.2 := by rw [h1]; exact Int.dvd_mul_left _ _
    exact cop_dvd this (by rw [Int.gcd_comm]; exact ga)
  have d2 : b.2 ∣ a.2 := by
    have : b.2 ∣ b.1 * a.2 := by rw [← h1]; exact Int.dvd_mul_left _ _
    exact cop_dvd this (by rw [Int.gcd_comm]; exact gb)
  have e : a.2 = b.2 := Int.le_antisymm (Int.le_of_dvd hb d1) (Int.le_of_dvd ha d2)
  have e1 : a.1 = b.1 := by
    rw [e] at h1
    exact Int.eq_of_mul_eq_mul_right (by omega) h1
  exact Prod.ext e1 e
/-! ### heights -/
theorem h_fold (t l : Int) (hl : 0 < l) : ∀ (p : List Int), (p.foldr (fun c s => hStep t l s c) (0, 1)).2 = l ^ p.length ∧ ((p.foldr (fun c s => hStep t l s c) (0, 1)).1 : Rat) * (l : Rat) = val p ((t : Rat) / (l : Rat)) * ((l ^ p.length : Int) : Rat)
  | [] => ⟨(Int.pow_zero l).symm, by show ((0 : Int) : Rat) * (l : Rat) = 0 * _; simp⟩
  | a :: p => by
    obtain ⟨h1, h2⟩ := h_fold t l hl p
    refine ⟨?_, ?_⟩
    · show (p.foldr (fun c s => hStep t l s c) (0, 1)).2 * l = l ^ (p.length + 1)
      rw [h1, Int.pow_succ]
    · show (((p.foldr (fun c s => hStep t l s c) (0, 1)).1 * t + a * (p.foldr (fun c s => hStep t l s c) (0, 1)).2 : Int) : Rat) * (l : Rat) = ((a : Rat) + (t : Rat) / (l : Rat) * val p ((t : Rat) / (l : Rat))) * ((l ^ (p.length + 1) : Int) : Rat)
      rw [h1, Int.pow_succ, Rat.intCast_add, Rat.intCast_mul, Rat.intCast_mul, Rat.intCast_mul]
      have n := cne hl
      generalize ((p.foldr (fun c s => hStep t l s c) (0, 1)).1 : Rat) = A at *
      generalize val p ((t : Rat) / (l : Rat)) = V at *
      generalize ((l ^ p.length : Int) : Rat) = B at *
      grind
theorem hnum_val (p : List Int) (t l : Int) (hl : 0 < l) : (hNum p t l : Rat) / ((l ^ (p.length - 1) : Int) : Rat) = val p ((t : Rat) / (l : Rat)) := by
  obtain ⟨_, h2⟩ := h_fold t l hl p
  have e : hNum p t l = (p.foldr (fun c s => hStep t l s c) (0, 1)).1 := by
    unfold hNum
    rw [List.foldl_reverse]
  have n := cne hl
  have np : ((l ^ (p.length - 1) : Int) : Rat) ≠ 0 := cne (Int.pow_pos hl)
  rw [div_eq np, e]
  cases p with
  | nil => show ((0 : Int) : Rat) = 0 * _; simp
  | cons a p =>
    rw [List.length_cons, Nat.add_sub_cancel]
    rw [List.length_cons, Int.pow_succ, Rat.intCast_mul] at h2
    generalize (((a :: p).foldr (fun c s => hStep t l s c) (0, 1)).1 : Rat) = A at *
    generalize val (a :: p) ((t : Rat) / (l : Rat)) = V at *
    generalize ((l ^ p.length : Int) : Rat) = B at *
    grind
theorem height_fv (p : List Int) (t l : Int) (hl : 0 < l) : fv (redF (hNum p t l) (l ^ (p.length - 1))) = val p ((t : Rat) / (l : Rat)) := by
  rw [fv_red (Int.pow_pos hl), hnum_val p t l hl]
theorem sign_iff (p : List Int) (t l : Int) (hl : 0 < l) : 0 < signAtF p t l ↔ 0 < val p ((t : Rat) / (l : Rat)) := by
  have h := height_fv p t l hl
  have hp := redF_pos (t := hNum p t l) (show 0 < l ^ (p.length - 1) from Int.pow_pos hl)
  unfold signAtF
  rw [Int.sign_pos_iff, ← h]
  unfold fv
  have z : (0 : Rat) = 0 / 1 := by grind
  conv => rhs; rw [z]
  rw [lt_iff (by decide) (cpos hp)]
  have e1 : (0 : Rat) * ((redF (hNum p t l) (l ^ (p.length - 1))).2 : Rat) = ((0 : Int) : Rat) := by grind
  have e2 : ((redF (hNum p t l) (l ^ (p.length - 1))).1 : Rat) * 1 = ((redF (hNum p t l) (l ^ (p.length - 1))).1 : Rat) := by grind
  rw [e1, e2, Rat.intCast_lt_intCast]
theorem lawAt_val (t l : Int) (hl : 0 < l) : ∀ (p : List Int), 0 < (lawAt p (t, l)).2 ∧ fv (lawAt p (t, l)) = val p ((t : Rat) / (l : Rat)) := fun p => by
  unfold lawAt
  rw [List.foldl_reverse]
  induction p with
  | nil => exact ⟨by show (0 : Int) < 1; decide, by show ((0 : Int) : Rat) / ((1 : Int) : Rat) = 0; grind⟩
  | cons a p ih =>
    obtain ⟨h1, h2⟩ := ih
    rw [List.foldr_cons]
    have a1 := fv_times h1 (b := (t, l)) hl
    have a2 := fv_plus a1.1 (b := (a, 1)) (by show (0 : Int) < 1; decide)
    refine ⟨a2.1, ?_⟩
    rw [a2.2, a1.2, h2]
    show val p ((t : Rat) / (l : Rat)) * ((t : Rat) / (l : Rat)) + (a : Rat) / ((1 : Int) : Rat) = (a : Rat) + (t : Rat) / (l : Rat) * val p ((t : Rat) / (l : Rat))
    grind
end EN
namespace EN
/-! ### the greatest common divisor of a row -/
theorem gcdL_dvd (l : List Int) : ∀ x ∈ l, ((gcdL l : Nat) : Int) ∣ x := by
  induction l using snoc_ind with
  | h0 => exact fun x h => by simp at h
  | hs l a ih =>
    intro x hx
    rw [gcdL_snoc]
    rcases List.mem_append.mp hx with h | h
    · exact Int.dvd_trans (Int.natCast_dvd_natCast.mpr (Nat.gcd_dvd_right _ _)) (ih x h)
    · have e : x = a := by simpa using h
      subst e
      exact Int.dvd_natAbs.mp (Int.natCast_dvd_natCast.mpr (Nat.gcd_dvd_left _ _))
theorem dvd_gcdL (n : Nat) (l : List Int) : (∀ x ∈ l, (n : Int) ∣ x) → n ∣ gcdL l := by
  induction l using snoc_ind with
  | h0 => exact fun _ => Nat.dvd_zero n
  | hs l a ih =>
    intro h
    rw [gcdL_snoc]
    refine Nat.dvd_gcd ?_ (ih fun x hx => h x (List.mem_append_left _ hx))
    exact Int.natCast_dvd_natCast.mp (Int.dvd_natAbs.mpr (h a (List.mem_append_right _ (by simp))))
theorem low_dvd {p : List Int} {low : Int} : ((gcdL (p ++ [low]) : Nat) : Int) ∣ low := gcdL_dvd _ low (List.mem_append_right _ (by simp))
theorem p_dvd {p : List Int} {low : Int} : ∀ c ∈ p, ((gcdL (p ++ [low]) : Nat) : Int) ∣ c := fun c hc => gcdL_dvd _ c (List.mem_append_left _ hc)
theorem law_whole (p : List Int) (low : Int) (h0 : 0 < low) : gcdL ((lowestF p low).1 ++ [(lowestF p low).2]) = 1 := by
  obtain ⟨g0, _⟩ := gcd_low (p := p) h0
  have key : ((gcdL ((lowestF p low).1 ++ [(lowestF p low).2]) * gcdL (p ++ [low]) : Nat)) ∣ gcdL (p ++ [low]) := by
    refine dvd_gcdL _ _ fun x hx => ?_
    have hd := gcdL_dvd _ x hx
    have hm : x / ((gcdL (p ++ [low]) : Nat) : Int) ∈ (lowestF p low).1 ++ [(lowestF p low).2] := by
      rcases List.mem_append.mp hx with h | h
      · exact List.mem_append_left _ (List.mem_map.mpr ⟨x, h, rfl⟩)
      · have e : x = low := by simpa using h
        subst e
        exact List.mem_append_right _ (by simp [lowestF])
    have h2 := gcdL_dvd _ _ hm
    rw [Int.natCast_mul]
    have h3 := Int.mul_dvd_mul_right ((gcdL (p ++ [low]) : Nat) : Int) h2
    rw [Int.ediv_mul_cancel hd] at h3
    exact h3
  have hg : 0 < gcdL (p ++ [low]) := by omega
  have := Nat.le_of_dvd hg key
  have h1 : gcdL ((lowestF p low).1 ++ [(lowestF p low).2]) ≤ 1 := by
    refine Nat.le_of_mul_le_mul_right (c := gcdL (p ++ [low])) ?_ hg
    omega
  rcases (show gcdL ((lowestF p low).1 ++ [(lowestF p low).2]) = 0 ∨ gcdL ((lowestF p low).1 ++ [(lowestF p low).2]) = 1 by omega) with e | e
  · exfalso
    rw [e, Nat.zero_mul] at key
    have := Nat.eq_zero_of_zero_dvd key
    omega
  · exact e
theorem law_back (p : List Int) (low : Int) (h0 : 0 < low) : plusL [] (lowestF p low).1 low = plusL [] p (lowestF p low).2 := by
  refine cutL_ext fun k => ?_
  rw [coef_addL, coef_addL, coef_nil, Int.zero_add, Int.zero_add]
  show low * coef (p.map (· / ((gcdL (p ++ [low]) : Nat) : Int))) k = low / ((gcdL (p ++ [low]) : Nat) : Int) * coef p k
  rw [coef_map (· / ((gcdL (p ++ [low]) : Nat) : Int)) (Int.zero_ediv _)]
  obtain ⟨g0, _⟩ := gcd_low (p := p) h0
  have hl := low_dvd (p := p) (low := low)
  have hc : ((gcdL (p ++ [low]) : Nat) : Int) ∣ coef p k := by
    by_cases hk : k < p.length
    · exact p_dvd _ (List.mem_of_getElem? (get_coef hk))
    · rw [coef_ge (by omega)]
      exact Int.dvd_zero _
  obtain ⟨u, hu⟩ := hl
  obtain ⟨v, hv⟩ := hc
  generalize ((gcdL (p ++ [low]) : Nat) : Int) = g at *
  rw [hv]
  show low * (g * v / g) = low / g * (g * v)
  rw [Int.mul_ediv_cancel_left _ (by omega)]
  conv => lhs; rw [hu]
  conv => rhs; rw [hu]
  rw [Int.mul_ediv_cancel_left _ (by omega)]
  rw [Int.mul_assoc, Int.mul_left_comm]
/-! ### what a reader adds up -/
theorem fold_congr {α β γ : Type} {f : γ → α → γ} {g : γ → β → γ} (h : β → α) : ∀ (l : List β) (z : γ), (∀ b ∈ l, ∀ z, f z (h b) = g z b) → (l.map h).foldl f z = l.foldl g z
  | [], _, _ => rfl
  | b :: l, z, hh => by
    rw [List.map_cons, List.foldl_cons, List.foldl_cons, hh b (List.mem_cons_self ..)]
    exact fold_congr h l _ fun b hb => hh b (List.mem_cons_of_mem _ hb)
theorem law_found {L : Int × List (List (List Int))} {wide long : Nat} {c : List (List Int × Int)} {rd : List Int} (hrd : ∀ y ∈ rd, 0 ≤ y ∧ y < (c.length : Int)) : ((toldF L.2 c wide long).zip rd).foldl rtStep [] = lawFound L c wide long rd := by
  unfold toldF lawFound
  rw [List.zip_map_left]
  refine fold_congr _ _ _ fun b hb z => ?_
  have hy := hrd b.2 (List.of_mem_zip (a := b.1) (b := b.2) hb).2
  have hj : b.2.toNat < c.length := by omega
  show plusL z ((c.map fun e => timesL [e.2] (chF L.2 e.1 b.1)).getD b.2.toNat []) 1 = plusL z (chF L.2 (c.getD b.2.toNat ([], 0)).1 b.1) (c.getD b.2.toNat ([], 0)).2
  have e1 : (c.map fun e => timesL [e.2] (chF L.2 e.1 b.1)).getD b.2.toNat [] = timesL [(c[b.2.toNat]).2] (chF L.2 (c[b.2.toNat]).1 b.1) := by
    rw [List.getD_eq_getElem?_getD, List.getElem?_map, List.getElem?_eq_getElem hj]
    rfl
  have e2 : c.getD b.2.toNat ([], 0) = c[b.2.toNat] := by rw [List.getD_eq_getElem?_getD, List.getElem?_eq_getElem hj]; rfl
  rw [e1, e2]
  refine cutL_ext fun k => ?_
  rw [coef_addL, coef_addL, coef_one, Int.one_mul]
/-! ### the first of the greatest -/
theorem fold_first (r : Nat → Rat) (g : Nat → Nat → Nat) (hg : ∀ f i, g f i = if r f < r i then i else f) : ∀ i, (∀ m, m < i → r m ≤ r ((List.range i).foldl g 0)) ∧ (∀ m, m < (List.range i).foldl g 0 → r m < r ((List.range i).foldl g 0)) ∧ ((List.range i).foldl g 0 < i ∨ (List.range i).foldl g 0 = 0)
  | 0 => ⟨fun m h => absurd h (Nat.not_lt_zero m), fun m h => absurd h (Nat.not_lt_zero m), .inr rfl⟩
  | i + 1 => by
    obtain ⟨h1, h2, h3⟩ := fold_first r g hg i
    rw [List.range_succ, List.foldl_append]
    show (∀ m, m < i + 1 → r m ≤ r (g _ i)) ∧ (∀ m, m < g _ i → r m < r (g _ i)) ∧ (g _ i < i + 1 ∨ g _ i = 0)
    generalize (List.range i).foldl g 0 = k at *
    rw [hg]
    by_cases h : r k < r i
    · rw [if_pos h]
      refine ⟨fun m hm => ?_, fun m hm => ?_, .inl (by omega)⟩
      · by_cases e : m = i
        · rw [e]; exact Rat.le_refl
        · have := h1 m (by omega)
          grind
      · have := h1 m hm
        grind
    · rw [if_neg h]
      refine ⟨fun m hm => ?_, h2, h3.elim (fun h => .inl (by omega)) .inr⟩
      by_cases e : m = i
      · rw [e]; grind
      · exact h1 m (by omega)
theorem first_filter (r : Nat → Rat) (n k : Nat) (sel : Nat → Bool) (hs : ∀ m, m < n → (sel m = true ↔ ∀ j, j < n → ¬ r m < r j)) (hk : k < n) (h1 : ∀ m, m < n → r m ≤ r k) (h2 : ∀ m, m < k → r m < r k) : ((List.range n).filter sel)[0]? = some k := by
  rw [← List.head?_eq_getElem?, List.head?_filter, List.find?_range_eq_some]
  refine ⟨(hs k hk).mpr fun j hj => ?_, List.mem_range.mpr hk, fun j hj => ?_⟩
  · have := h1 j hj
    grind
  · cases e : sel j with
    | false => rfl
    | true =>
      exfalso
      exact (hs j (by omega)).mp e k hk (h2 j hj)
/-- the chances' values by weights -/
def rowV (L : Int × List (List (List Int))) (c : List (List Int × Int)) (row : List Int) (x : Rat) (i : Nat) : Rat := ((c.getD i ([], 0)).2 : Rat) * val (chF L.2 (c.getD i ([], 0)).1 row) x
abbrev rowP (L : Int × List (List (List Int))) (c : List (List Int × Int)) (row : List Int) : List (List Int) := c.map fun e => timesL [e.2] (chF L.2 e.1 row)
theorem rowP_val (L : Int × List (List (List Int))) (c : List (List Int × Int)) (row : List Int) (x : Rat) {i : Nat} (h : i < c.length) : val ((rowP L c row).getD i []) x = rowV L c row x i := by
  unfold rowV
  rw [List.getD_eq_getElem?_getD, List.getElem?_map, List.getElem?_eq_getElem h, List.getD_eq_getElem?_getD, List.getElem?_eq_getElem h]
  exact val_one _ _ _
theorem ga_step (L : Int × List (List (List Int))) (c : List (List Int × Int)) (row : List Int) {t l : Int} (hl : 0 < l) {f i : Nat} (hf : f < c.length) (hi : i < c.length) : gaStep t l (rowP L c row) f i = if rowV L c row ((t : Rat) / (l : Rat)) f < rowV L c row ((t : Rat) / (l : Rat)) i then i else f := by
  unfold gaStep
  have e : 0 < signAtF (plusL ((rowP L c row).getD i []) ((rowP L c row).getD f []) (-1)) t l ↔ rowV L c row ((t : Rat) / (l : Rat)) f < rowV L c row ((t : Rat) / (l : Rat)) i := by
    rw [sign_iff _ _ _ hl, val_plus, rowP_val _ _ _ _ hi, rowP_val _ _ _ _ hf]
    have : (((-1 : Int)) : Rat) = -1 := rfl
    rw [this]
    constructor <;> intro h <;> grind
  by_cases h : 0 < signAtF (plusL ((rowP L c row).getD i []) ((rowP L c row).getD f []) (-1)) t l
  · rw [if_pos h, if_pos (e.mp h)]
  · rw [if_neg h, if_neg fun z => h (e.mpr z)]
theorem ga_facts (L : Int × List (List (List Int))) (c : List (List Int × Int)) (row : List Int) {t l : Int} (hl : 0 < l) (hc : 0 < c.length) : gaF t l (rowP L c row) < c.length ∧ (∀ m, m < c.length → rowV L c row ((t : Rat) / (l : Rat)) m ≤ rowV L c row ((t : Rat) / (l : Rat)) (gaF t l (rowP L c row))) ∧ ∀ m, m < gaF t l (rowP L c row) → rowV L c row ((t : Rat) / (l : Rat)) m < rowV L c row ((t : Rat) / (l : Rat)) (gaF t l (rowP L c row)) := by
  have hlen : (rowP L c row).length = c.length := List.length_map _
  have key : ∀ i, i ≤ c.length → (List.range i).foldl (gaStep t l (rowP L c row)) 0 = (List.range i).foldl (fun f i => if rowV L c row ((t : Rat) / (l : Rat)) f < rowV L c row ((t : Rat) / (l : Rat)) i then i else f) 0 := fun i => by
    induction i with
    | zero => exact fun _ => rfl
    | succ i ih =>
      intro h
      rw [List.range_succ, List.foldl_append, List.foldl_append]
      have hf := ga_take t l (rowP L c row) i (by omega) (by omega)
      show gaStep t l _ _ i = _
      rw [ga_step L c row hl (by omega) (by omega), ih (by omega)]
      rfl
  have e : gaF t l (rowP L c row) = (List.range c.length).foldl (fun f i => if rowV L c row ((t : Rat) / (l : Rat)) f < rowV L c row ((t : Rat) / (l : Rat)) i then i else f) 0 := by
    unfold gaF
    rw [hlen]
    exact key _ (Nat.le_refl _)
  obtain ⟨h1, h2, h3⟩ := fold_first (rowV L c row ((t : Rat) / (l : Rat))) _ (fun _ _ => rfl) c.length
  rw [← e] at h1 h2 h3
  exact ⟨by omega, h1, h2⟩
theorem some_val (L : Int × List (List (List Int))) (c : List (List Int × Int)) (row : List Int) {t l low : Int} (hl : 0 < l) (hw : 0 < low) {i : Nat} (h : i < c.length) : 0 < ((someF L c low (t, l) row).getD i (0, 1)).2 ∧ fv ((someF L c low (t, l) row).getD i (0, 1)) = rowV L c row ((t : Rat) / (l : Rat)) i / (low : Rat) := by
  have e : (someF L c low (t, l) row).getD i (0, 1) = timesF ((c[i]).2, low) (lawAt (chF L.2 (c[i]).1 row) (t, l)) := by
    unfold someF
    rw [List.getD_eq_getElem?_getD, List.getElem?_map, List.getElem?_eq_getElem h]
    rfl
  obtain ⟨h1, h2⟩ := lawAt_val t l hl (chF L.2 (c[i]).1 row)
  obtain ⟨h3, h4⟩ := fv_times (a := ((c[i]).2, low)) hw h1
  rw [e]
  refine ⟨h3, ?_⟩
  rw [h4, h2]
  unfold rowV fv
  rw [List.getD_eq_getElem?_getD, List.getElem?_eq_getElem h]
  show ((c[i]).2 : Rat) / (low : Rat) * _ = ((c[i]).2 : Rat) * _ / (low : Rat)
  grind
theorem someL_eq (L : Int × List (List (List Int))) (c : List (List Int × Int)) (s : Int × Int) (row : List Int) : someL L c s row = someF L c 1 s row := rfl
theorem law_due {L : Int × List (List (List Int))} {wide long : Nat} {c : List (List Int × Int)} {t l : Int} {row : List Int} (okc : CodeOk L.2.length c long) (sh : ShareOk t l) : ((List.range (someL L c (t, l) row).length).filter (selF (someL L c (t, l) row)))[0]? = some (gaF t l (rowP L c row)) := by
  have hl := sh.2.2.1
  have hlen : (someL L c (t, l) row).length = c.length := List.length_map _
  obtain ⟨h1, h2, h3⟩ := ga_facts L c row (t := t) (l := l) hl okc.n1
  refine first_filter (rowV L c row ((t : Rat) / (l : Rat))) _ _ _ (fun m hm => ?_) (by rw [hlen]; exact h1) (fun m hm => h2 m (by omega)) h3
  unfold selF
  rw [decide_eq_true_eq, List.map_eq_nil_iff, List.filter_eq_nil_iff]
  have key : ∀ j, j < (someL L c (t, l) row).length → (belowF ((someL L c (t, l) row).getD m (0, 1)) ((someL L c (t, l) row).getD j (0, 1)) = true ↔ rowV L c row ((t : Rat) / (l : Rat)) m < rowV L c row ((t : Rat) / (l : Rat)) j) := fun j hj => by
    rw [someL_eq]
    obtain ⟨p1, p2⟩ := some_val L c row (t := t) (l := l) (low := 1) hl (by decide) (i := m) (by omega)
    obtain ⟨q1, q2⟩ := some_val L c row (t := t) (l := l) (low := 1) hl (by decide) (i := j) (by omega)
    rw [below_iff p1 q1, p2, q2]
    have e : ((1 : Int) : Rat) = 1 := rfl
    rw [e]
    constructor <;> intro h <;> grind
  constructor
  · intro h j hj z
    exact h j (List.mem_range.mpr hj) ((key j hj).mpr z)
  · intro h j hj z
    exact h j (List.mem_range.mp hj) ((key j (List.mem_range.mp hj)).mp z)
/-! ### sums -/
theorem fold_le (x : Rat) (t l : Int) : ∀ (told : List (List (List Int))) (rd : List Int) (F1 F2 : List Int), rd.length = told.length → (∀ so ∈ told, ∀ j, j < so.length → val (so.getD j []) x ≤ val (so.getD (gaF t l so) []) x) → (∀ sa ∈ told.zip rd, 0 ≤ sa.2 ∧ sa.2 < (sa.1.length : Int)) → val F1 x ≤ val F2 x →
    val ((told.zip rd).foldl rtStep F1) x ≤ val ((told.zip (readerF t l told)).foldl rtStep F2) x
  | [], rd, F1, F2, _, _, _, h => h
  | so :: told, [], F1, F2, hl, _, _, _ => by simp at hl
  | so :: told, y :: rd, F1, F2, hl, hm, hz, h => by
    rw [List.zip_cons_cons, List.foldl_cons]
    show val ((told.zip rd).foldl rtStep _) x ≤ val (((so, ((gaF t l so : Nat) : Int)) :: told.zip (readerF t l told)).foldl rtStep F2) x
    rw [List.foldl_cons]
    refine fold_le x t l told rd _ _ (by simpa using hl) (fun so hso => hm so (List.mem_cons_of_mem _ hso)) (fun sa hsa => hz sa (by rw [List.zip_cons_cons]; exact List.mem_cons_of_mem _ hsa)) ?_
    obtain ⟨h1, h2⟩ := hz (so, y) (by rw [List.zip_cons_cons]; exact List.mem_cons_self ..)
    have h1' : 0 ≤ y := h1
    have h2' : y < (so.length : Int) := h2
    have := hm so (List.mem_cons_self ..) y.toNat (by omega)
    show val (plusL F1 (so.getD y.toNat []) 1) x ≤ val (plusL F2 (so.getD (((gaF t l so : Nat) : Int)).toNat []) 1) x
    rw [val_plus, val_plus, Int.toNat_natCast]
    have e : ((1 : Int) : Rat) = 1 := rfl
    rw [e]
    grind
/-- the value of a told chance -/
theorem low_val (p : List Int) {low : Int} (h0 : 0 < low) (x : Rat) : val (lowestF p low).1 x / ((lowestF p low).2 : Rat) = val p x / (low : Rat) := by
  obtain ⟨g0, _⟩ := gcd_low (p := p) h0
  have h1 := val_scale p _ g0 p_dvd x
  have h2 : ((lowestF p low).2 : Rat) * (((gcdL (p ++ [low]) : Nat) : Int) : Rat) = (low : Rat) := by
    rw [← Rat.intCast_mul]
    congr 1
    exact Int.ediv_mul_cancel low_dvd
  have d0 : 0 < (lowestF p low).2 := (lowest_facts (B := 0) (p := []) h0 fun k => by rw [coef_nil]; decide).2.2.1 |> fun _ => Int.ediv_pos_of_pos_of_dvd h0 (by omega) low_dvd
  have n1 := cne g0
  have n2 := cne h0
  have n3 := cne d0
  have e : (lowestF p low).1 = p.map (· / ((gcdL (p ++ [low]) : Nat) : Int)) := rfl
  rw [e]
  generalize val (p.map (· / ((gcdL (p ++ [low]) : Nat) : Int))) x = A at *
  generalize ((lowestF p low).2 : Rat) = B at *
  generalize (((gcdL (p ++ [low]) : Nat) : Int) : Rat) = G at *
  generalize val p x = V at *
  grind
theorem low_pos (p : List Int) {low : Int} (h0 : 0 < low) : 0 < (lowestF p low).2 := by
  obtain ⟨g0, _⟩ := gcd_low (p := p) h0
  exact Int.ediv_pos_of_pos_of_dvd h0 (by omega) low_dvd
theorem at_val (p : List Int) {low : Int} (h0 : 0 < low) {t l : Int} (hl : 0 < l) : 0 < (atF (lowestF p low) t l).2 ∧ Int.gcd (atF (lowestF p low) t l).1 (atF (lowestF p low) t l).2 = 1 ∧ fv (atF (lowestF p low) t l) = val p ((t : Rat) / (l : Rat)) / (low : Rat) := by
  have d0 := low_pos p h0
  have hp := redF_pos (t := hNum (lowestF p low).1 t l) (show 0 < l ^ ((lowestF p low).1.length - 1) from Int.pow_pos hl)
  have hm := Int.mul_pos hp d0
  refine ⟨redF_pos hm, redF_gcd hm, ?_⟩
  unfold atF
  rw [fv_red hm, ← low_val p h0, ← height_fv (lowestF p low).1 t l hl, Rat.intCast_mul]
  have n1 := cne hp
  have n2 := cne d0
  unfold fv
  grind
theorem of_val (p : List Int) {low : Int} (h0 : 0 < low) {t l : Int} (hl : 0 < l) : 0 < (timesF (lawAt (lowestF p low).1 (t, l)) (1, (lowestF p low).2)).2 ∧ fv (timesF (lawAt (lowestF p low).1 (t, l)) (1, (lowestF p low).2)) = val p ((t : Rat) / (l : Rat)) / (low : Rat) := by
  have d0 := low_pos p h0
  obtain ⟨a1, a2⟩ := lawAt_val t l hl (lowestF p low).1
  obtain ⟨b1, b2⟩ := fv_times a1 (b := (1, (lowestF p low).2)) d0
  refine ⟨b1, ?_⟩
  rw [b2, a2, ← low_val p h0]
  have n2 := cne d0
  show _ * (((1 : Int) : Rat) / ((lowestF p low).2 : Rat)) = _
  have e : ((1 : Int) : Rat) = 1 := rfl
  rw [e]
  grind
theorem told_best {L : Int × List (List (List Int))} {wide long : Nat} {c : List (List Int × Int)} {t l : Int} (hl : 0 < l) (hc : 0 < c.length) : ∀ so ∈ toldF L.2 c wide long, ∀ j, j < so.length → val (so.getD j []) ((t : Rat) / (l : Rat)) ≤ val (so.getD (gaF t l so) []) ((t : Rat) / (l : Rat)) := fun so hso j hj => by
  obtain ⟨row, _, rfl⟩ := List.mem_map.mp hso
  have hlen : (rowP L c row).length = c.length := List.length_map _
  obtain ⟨h1, h2, _⟩ := ga_facts L c row (t := t) (l := l) hl hc
  have hj' : j < c.length := by
    have : j < (rowP L c row).length := hj
    omega
  have e1 := rowP_val L c row ((t : Rat) / (l : Rat)) hj'
  have e2 := rowP_val L c row ((t : Rat) / (l : Rat)) h1
  show val ((rowP L c row).getD j []) _ ≤ val ((rowP L c row).getD (gaF t l (rowP L c row)) []) _
  rw [e1, e2]
  exact h2 j hj'
theorem law_most {L : Int × List (List (List Int))} {wide long : Nat} {c : List (List Int × Int)} {t l : Int} {rd : List Int} (ok : LineOk L wide) (okc : CodeOk L.2.length c long) (sh : ShareOk t l) (hrl : rd.length = wide ^ long) (hrd : ∀ y ∈ rd, 0 ≤ y ∧ y < (c.length : Int)) :
    belowF (bestF L c wide long t l) (timesF (lawAt (rightF (toldF L.2 c wide long) (lowF' L c long) rd).1 (t, l)) (1, (rightF (toldF L.2 c wide long) (lowF' L c long) rd).2)) = false := by
  have hl := sh.2.2.1
  obtain ⟨q1, _⟩ := low_all ok okc
  obtain ⟨t1, _⟩ := told_ok ok okc
  obtain ⟨a1, _, a2⟩ := at_val (((toldF L.2 c wide long).zip (readerF t l (toldF L.2 c wide long))).foldl rtStep []) q1 (t := t) hl
  obtain ⟨b1, b2⟩ := of_val (((toldF L.2 c wide long).zip rd).foldl rtStep []) q1 (t := t) hl
  have hle := fold_le ((t : Rat) / (l : Rat)) t l (toldF L.2 c wide long) rd [] [] (by omega) (told_best hl okc.n1) (told_zip ok okc hrd) Rat.le_refl
  cases e : belowF (bestF L c wide long t l) (timesF (lawAt (rightF (toldF L.2 c wide long) (lowF' L c long) rd).1 (t, l)) (1, (rightF (toldF L.2 c wide long) (lowF' L c long) rd).2)) with
  | false => rfl
  | true =>
    exfalso
    have this0 := (below_iff (a := bestF L c wide long t l) a1 b1).mp e
    have h2 : fv (bestF L c wide long t l) = _ := a2
    have h3 : fv (timesF (lawAt (rightF (toldF L.2 c wide long) (lowF' L c long) rd).1 (t, l)) (1, (rightF (toldF L.2 c wide long) (lowF' L c long) rd).2)) = _ := b2
    have this : _ < _ := h3 ▸ h2 ▸ this0
    have hp := cpos q1
    have n := cne q1
    rw [lt_iff hp hp] at this
    have := Rat.mul_le_mul_of_nonneg_right hle (Rat.le_of_lt hp)
    grind
/-! ### the best of all -/
theorem best_val (l : List (Int × Int)) : (∀ o ∈ l, 0 < o.2) → ∀ (b : Int × Int), 0 < b.2 → 0 < (l.foldl bstStep b).2 ∧ fv b ≤ fv (l.foldl bstStep b) ∧ (∀ o ∈ l, fv o ≤ fv (l.foldl bstStep b)) ∧ (l.foldl bstStep b = b ∨ l.foldl bstStep b ∈ l) := by
  induction l with
  | nil => exact fun _ b hb => ⟨hb, Rat.le_refl, fun o h => by simp at h, .inl rfl⟩
  | cons a l ih =>
    intro h b hb
    rw [List.foldl_cons]
    have ha := h a (List.mem_cons_self ..)
    have hs : bstStep b a = if belowF b a = true then a else b := rfl
    have hi := below_iff hb ha
    by_cases e : belowF b a = true
    · rw [if_pos e] at hs
      rw [hs]
      obtain ⟨h1, h2, h3, h4⟩ := ih (fun o ho => h o (List.mem_cons_of_mem _ ho)) a ha
      have hlt := hi.mp e
      refine ⟨h1, by grind, fun o ho => ?_, ?_⟩
      · rcases List.mem_cons.mp ho with rfl | ho
        · exact h2
        · exact h3 o ho
      · rcases h4 with h4 | h4
        · exact .inr (by rw [h4]; exact List.mem_cons_self ..)
        · exact .inr (List.mem_cons_of_mem _ h4)
    · rw [if_neg e] at hs
      rw [hs]
      obtain ⟨h1, h2, h3, h4⟩ := ih (fun o ho => h o (List.mem_cons_of_mem _ ho)) b hb
      have hge : fv a ≤ fv b := by
        have : ¬ fv b < fv a := fun z => e (hi.mpr z)
        grind
      refine ⟨h1, h2, fun o ho => ?_, ?_⟩
      · rcases List.mem_cons.mp ho with rfl | ho
        · grind
        · exact h3 o ho
      · rcases h4 with h4 | h4
        · exact .inl h4
        · exact .inr (List.mem_cons_of_mem _ h4)
theorem best_is (L : Int × List (List (List Int))) (c : List (List Int × Int)) (row : List Int) {t l low : Int} (hl : 0 < l) (hw : 0 < low) (hc : 0 < c.length) : 0 < (bestOf (someF L c low (t, l) row)).2 ∧ fv (bestOf (someF L c low (t, l) row)) = val ((rowP L c row).getD (gaF t l (rowP L c row)) []) ((t : Rat) / (l : Rat)) / (low : Rat) := by
  have hlen : (someF L c low (t, l) row).length = c.length := List.length_map _
  have hmem : ∀ o ∈ someF L c low (t, l) row, ∃ i, i < c.length ∧ (someF L c low (t, l) row).getD i (0, 1) = o := fun o ho => by
    obtain ⟨i, hi, e⟩ := List.getElem_of_mem ho
    exact ⟨i, by omega, by rw [List.getD_eq_getElem?_getD, List.getElem?_eq_getElem hi, e]; rfl⟩
  have hpos : ∀ o ∈ someF L c low (t, l) row, 0 < o.2 := fun o ho => by
    obtain ⟨i, hi, e⟩ := hmem o ho
    rw [← e]
    exact (some_val L c row hl hw hi).1
  obtain ⟨z1, z2⟩ := some_val L c row (t := t) (l := l) (low := low) hl hw (i := 0) hc
  obtain ⟨h1, h2, h3, h4⟩ := best_val (someF L c low (t, l) row) hpos ((someF L c low (t, l) row).getD 0 (0, 1)) z1
  obtain ⟨g1, g2, _⟩ := ga_facts L c row (t := t) (l := l) hl hc
  have egA := rowP_val L c row ((t : Rat) / (l : Rat)) g1
  obtain ⟨y1, y2⟩ := some_val L c row (t := t) (l := l) (low := low) hl hw g1
  refine ⟨h1, ?_⟩
  have hp := cpos hw
  have n := cne hw
  -- it is a member
  have hm : ∃ i, i < c.length ∧ (someF L c low (t, l) row).getD i (0, 1) = bestOf (someF L c low (t, l) row) := by
    rcases h4 with h4 | h4
    · exact ⟨0, hc, h4.symm⟩
    · exact hmem _ h4
  obtain ⟨i, hi, ei⟩ := hm
  obtain ⟨x1, x2⟩ := some_val L c row (t := t) (l := l) (low := low) hl hw hi
  rw [ei] at x2
  have hgm : (someF L c low (t, l) row).getD (gaF t l (rowP L c row)) (0, 1) ∈ someF L c low (t, l) row := by
    rw [List.getD_eq_getElem?_getD, List.getElem?_eq_getElem (by omega)]
    exact List.getElem_mem _
  have hge := h3 _ hgm
  rw [y2] at hge
  have hle := g2 i hi
  rw [egA]
  have hge' : rowV L c row ((t : Rat) / (l : Rat)) (gaF t l (rowP L c row)) / (low : Rat) ≤ rowV L c row ((t : Rat) / (l : Rat)) i / (low : Rat) := by
    rw [← x2]
    exact hge
  rw [x2]
  have k1 : ¬ rowV L c row ((t : Rat) / (l : Rat)) (gaF t l (rowP L c row)) < rowV L c row ((t : Rat) / (l : Rat)) i := by grind
  have k2 : ¬ rowV L c row ((t : Rat) / (l : Rat)) i < rowV L c row ((t : Rat) / (l : Rat)) (gaF t l (rowP L c row)) := fun z => by
    have z' : rowV L c row ((t : Rat) / (l : Rat)) i * (low : Rat) < rowV L c row ((t : Rat) / (l : Rat)) (gaF t l (rowP L c row)) * (low : Rat) := Rat.mul_lt_mul_of_pos_right z hp
    have := (lt_iff hp hp).mpr z'
    grind
  have e : rowV L c row ((t : Rat) / (l : Rat)) i = rowV L c row ((t : Rat) / (l : Rat)) (gaF t l (rowP L c row)) := by grind
  rw [e]
theorem sum_eq (L : Int × List (List (List Int))) (c : List (List Int × Int)) {t l low : Int} (hl : 0 < l) (hw : 0 < low) (hc : 0 < c.length) : ∀ (rows : List (List Int)) (F : Int × Int) (G : List Int), 0 < F.2 → Int.gcd F.1 F.2 = 1 → fv F = val G ((t : Rat) / (l : Rat)) / (low : Rat) →
    0 < (rows.foldl (fun f row => plusF f (bestOf (someF L c low (t, l) row))) F).2 ∧ Int.gcd (rows.foldl (fun f row => plusF f (bestOf (someF L c low (t, l) row))) F).1 (rows.foldl (fun f row => plusF f (bestOf (someF L c low (t, l) row))) F).2 = 1 ∧
    fv (rows.foldl (fun f row => plusF f (bestOf (someF L c low (t, l) row))) F) = val (((rows.map (rowP L c)).zip (readerF t l (rows.map (rowP L c)))).foldl rtStep G) ((t : Rat) / (l : Rat)) / (low : Rat)
  | [], F, G, h1, h2, h3 => ⟨h1, h2, h3⟩
  | row :: rows, F, G, h1, h2, h3 => by
    obtain ⟨b1, b2⟩ := best_is L c row (t := t) (l := l) (low := low) hl hw hc
    obtain ⟨p1, p2⟩ := fv_plus h1 b1
    rw [List.foldl_cons]
    have := sum_eq L c (t := t) (l := l) (low := low) hl hw hc rows (plusF F (bestOf (someF L c low (t, l) row))) (plusL G ((rowP L c row).getD (gaF t l (rowP L c row)) []) 1) p1 (redF_gcd (Int.mul_pos h1 b1)) (by
      rw [p2, b2, h3, val_plus]
      have e : ((1 : Int) : Rat) = 1 := rfl
      rw [e]
      have n := cne hw
      grind)
    refine ⟨this.1, this.2.1, ?_⟩
    rw [this.2.2, List.map_cons]
    show _ = val ((((rowP L c row), ((gaF t l (rowP L c row) : Nat) : Int)) :: (rows.map (rowP L c)).zip (readerF t l (rows.map (rowP L c)))).foldl rtStep G) _ / _
    rw [List.foldl_cons]
    rfl
theorem law_best {L : Int × List (List (List Int))} {wide long : Nat} {c : List (List Int × Int)} {t l : Int} (ok : LineOk L wide) (okc : CodeOk L.2.length c long) (sh : ShareOk t l) : bestF L c wide long t l = lawBest L c wide long (t, l) := by
  have hl := sh.2.2.1
  obtain ⟨q1, _⟩ := low_all ok okc
  obtain ⟨a1, a2, a3⟩ := at_val (((toldF L.2 c wide long).zip (readerF t l (toldF L.2 c wide long))).foldl rtStep []) q1 (t := t) hl
  obtain ⟨b1, b2, b3⟩ := sum_eq L c (t := t) (l := l) hl q1 okc.n1 (rowsL wide long) (0, 1) [] (by decide) (by decide) (by
    show ((0 : Int) : Rat) / ((1 : Int) : Rat) = (0 : Rat) / _
    grind)
  exact red_inj a1 b1 a2 b2 (a3.trans b3.symm)
theorem laws : Laws := ⟨law_whole, law_back, fun _ _ _ h => law_found h, fun {L wide _ _ _ _ _} _ okc _ sh => law_due (wide := wide) okc sh, law_most, law_best⟩
end EN
namespace EN
open PySem PySem.Spec PyProof.Rows L2 LamX
/-- a def of the module, its facts -/
structure DK (K : PySem.W.Frag) (x : Str) (st : Stmt) : Prop where
  ex : ∃ (f : Addr) (oc : Value) (od : Option Addr) (kV doc pm : Value) (an : Option Addr) (cd ct : Value) (sl : Array (Option Value)), PySem.W.nsIn K mainGlobals x = some (some (.ref f)) ∧
    K.lookup f = some ⟨oc, od, .func (PySem.W.fnOf x x (C8.fnArgs st) (C8.fnBody st) (C8.fnScope st) .none kV doc pm an cd ct), sl⟩ ∧ PySem.W.codeIn K cd x = true ∧ PySem.W.keepIn K (.ref f) = true
theorem DK.mk' {K : PySem.W.Frag} {x : Str} {st : Stmt} {f : Addr} {oc : Value} {od : Option Addr} {kV doc pm : Value} {an : Option Addr} {cd ct : Value} {sl : Array (Option Value)} (a : PySem.W.nsIn K mainGlobals x = some (some (.ref f)))
    (l : K.lookup f = some ⟨oc, od, .func (PySem.W.fnOf x x (C8.fnArgs st) (C8.fnBody st) (C8.fnScope st) .none kV doc pm an cd ct), sl⟩) (c : PySem.W.codeIn K cd x = true) (k : PySem.W.keepIn K (.ref f) = true) : DK K x st := ⟨f, oc, od, kV, doc, pm, an, cd, ct, sl, a, l, c, k⟩
def DD (K : PySem.W.Frag) (mg : Str → Option Value) (x : Str) (st : Stmt) : Prop := ∃ f fd, C8.Def K mg x st f fd ∧ fd.defaults = .none
theorem DK.dd {K : PySem.W.Frag} {x : Str} {st : Stmt} {h : Heap} {mg : Str → Option Value} (d : DK K x st) (X : K.In h) (G : h.Ns mainGlobals mg) : DD K mg x st := by
  obtain ⟨f, oc, od, kV, doc, pm, an, cd, ct, sl, a, l, c, k⟩ := d.ex
  exact ⟨f, _, ⟨⟨oc, od, _, _, _, _, _, _, _, sl, rfl, l, c⟩, PySem.W.mg_of X G a, k⟩, rfl⟩
theorem plus_bind3 (T : Addr) (kV doc pm : Value) (an : Option Addr) (cdv ct : Value) (us its : List Value) (hu : us.length = 3) (hi : its.length = ([.int 1] : List V).length) :
    ∃ k, bindArgs (PySem.W.fnOf "plus" "plus" (C8.fnArgs s_plus) (C8.fnBody s_plus) (C8.fnScope s_plus) (.ref T) kV doc pm an cdv ct) ⟨us, []⟩ = seqItems? (.ref T) >>= k ∧ k (some its.toArray) = pure ((["one", "other", "many"] : List Str).zip (us ++ its.drop 1)) := by
  match us, its, hu, hi with
  | [_, _, _], [_], _, _ => exact ⟨_, rfl, rfl⟩
theorem plus_bind2 (T : Addr) (kV doc pm : Value) (an : Option Addr) (cdv ct : Value) (us its : List Value) (hu : us.length = 2) (hi : its.length = ([.int 1] : List V).length) :
    ∃ k, bindArgs (PySem.W.fnOf "plus" "plus" (C8.fnArgs s_plus) (C8.fnBody s_plus) (C8.fnScope s_plus) (.ref T) kV doc pm an cdv ct) ⟨us, []⟩ = seqItems? (.ref T) >>= k ∧ k (some its.toArray) = pure ((["one", "other", "many"] : List Str).zip (us ++ its.drop 0)) := by
  match us, its, hu, hi with
  | [_, _], [_], _, _ => exact ⟨_, rfl, rfl⟩
/-- each def's promise, put together -/
theorem all_cal {P : Program} {w : World} {K : PySem.W.Frag} {mg : Str → Option Value} {base : Heap} (T : Tx K mg) (TR : TxR K mg) (LW : Laws) {fS : Addr} {fdS : FuncData} {cS Pt : Addr} (TB : TabB base mg cS Pt) (D_signs_at : C8.Def K mg "signs_at" s_signs_at fS fdS) (df_signs_at : fdS.defaults = .none) (hc_signs_at : fdS.code = .ref cS)
    {fP : Addr} {fdP : FuncData} (D_plus : C8.Def K mg "plus" s_plus fP fdP) (B_plus : FunD K "plus" "plus" (C8.fnArgs s_plus) (C8.fnBody s_plus) (C8.fnScope s_plus) [.int 1] [] fP fdP)
    (d_divisor_of : DD K mg "divisor_of" s_divisor_of)
    (d_cut : DD K mg "cut" s_cut)
    (d_times : DD K mg "times" s_times)
    (d_is_int : DD K mg "is_int" s_is_int)
    (d_sign : DD K mg "sign" s_sign)
    (d_fraction : DD K mg "fraction" s_fraction)
    (d_is_fraction : DD K mg "is_fraction" s_is_fraction)
    (d_height : DD K mg "height" s_height)
    (d_plain : DD K mg "plain" s_plain)
    (d_lowered : DD K mg "lowered" s_lowered)
    (d_shared : DD K mg "shared" s_shared)
    (d_parted : DD K mg "parted" s_parted)
    (d_derived : DD K mg "derived" s_derived)
    (d_single : DD K mg "single" s_single)
    (d_sign_at : DD K mg "sign_at" s_sign_at)
    (d_doubled : DD K mg "doubled" s_doubled)
    (d_moved : DD K mg "moved" s_moved)
    (d_on_stretch : DD K mg "on_stretch" s_on_stretch)
    (d_changes : DD K mg "changes" s_changes)
    (d_low_end : DD K mg "low_end" s_low_end)
    (d_within : DD K mg "within" s_within)
    (d_roots : DD K mg "roots" s_roots)
    (d_sign_at_root : DD K mg "sign_at_root" s_sign_at_root)
    (d_sign_behind : DD K mg "sign_behind" s_sign_behind)
    (d_sign_ahead : DD K mg "sign_ahead" s_sign_ahead)
    (d_is_chance : DD K mg "is_chance" s_is_chance)
    (d_is_poly : DD K mg "is_poly" s_is_poly)
    (d_is_word : DD K mg "is_word" s_is_word)
    (d_need_share : DD K mg "need_share" s_need_share)
    (d_count_rows : DD K mg "count_rows" s_count_rows)
    (d_low_of : DD K mg "low_of" s_low_of)
    (d_need_line : DD K mg "need_line" s_need_line)
    (d_need_code : DD K mg "need_code" s_need_code)
    (d_need_both : DD K mg "need_both" s_need_both)
    (d_heard_rows : DD K mg "heard_rows" s_heard_rows)
    (d_chance_of : DD K mg "chance_of" s_chance_of)
    (d_lowest : DD K mg "lowest" s_lowest)
    (d_chance : DD K mg "chance" s_chance)
    (d_need_reader : DD K mg "need_reader" s_need_reader)
    (d_at_share : DD K mg "at_share" s_at_share)
    (d_right_of : DD K mg "right_of" s_right_of)
    (d_weighed : DD K mg "weighed" s_weighed)
    (d_right : DD K mg "right" s_right)
    (d_greatest_at : DD K mg "greatest_at" s_greatest_at)
    (d_reader_by : DD K mg "reader_by" s_reader_by)
    (d_best_reader : DD K mg "best_reader" s_best_reader)
    (d_best_right : DD K mg "best_right" s_best_right)
    (d_law_taken : DD K mg "_law_taken" s_law_taken)
    (d_law_pick : DD K mg "_law_pick" s_law_pick)
    (d_law_fr : DD K mg "_law_fr" s_law_fr)
    (d_law_plus : DD K mg "_law_plus" s_law_plus)
    (d_law_times : DD K mg "_law_times" s_law_times)
    (d_law_below : DD K mg "_law_below" s_law_below)
    (d_law_power : DD K mg "_law_power" s_law_power)
    (d_law_whole : DD K mg "_law_whole" s_law_whole)
    (d_law_alike : DD K mg "_law_alike" s_law_alike)
    (d_law_p_plus : DD K mg "_law_p_plus" s_law_p_plus)
    (d_law_poly : DD K mg "_law_poly" s_law_poly)
    (d_law_p_times : DD K mg "_law_p_times" s_law_p_times)
    (d_law_at : DD K mg "_law_at" s_law_at)
    (d_law_of : DD K mg "_law_of" s_law_of)
    (d_law_rows : DD K mg "_law_rows" s_law_rows)
    (d_law_chance : DD K mg "_law_chance" s_law_chance)
    (d_law_low : DD K mg "_law_low" s_law_low)
    (d_law_spread : DD K mg "_law_spread" s_law_spread)
    (d_law_share : DD K mg "_law_share" s_law_share)
    (d_law_code : DD K mg "_law_code" s_law_code)
    (d_law_line : DD K mg "_law_line" s_law_line)
    (d_law_best : DD K mg "_law_best" s_law_best)
    {fL : Addr} {fdL : FuncData} (D_law : C8.Def K mg "law" s_law fL fdL) (df_law : fdL.defaults = .none) : FnOk P w K mg base C8.CX0 11 fL fdL ["_law_script"] (sp_law K Pt) := by
  obtain ⟨f_divisor_of, fd_divisor_of, D_divisor_of, df_divisor_of⟩ := d_divisor_of
  obtain ⟨f_cut, fd_cut, D_cut, df_cut⟩ := d_cut
  obtain ⟨f_times, fd_times, D_times, df_times⟩ := d_times
  obtain ⟨f_is_int, fd_is_int, D_is_int, df_is_int⟩ := d_is_int
  obtain ⟨f_sign, fd_sign, D_sign, df_sign⟩ := d_sign
  obtain ⟨f_fraction, fd_fraction, D_fraction, df_fraction⟩ := d_fraction
  obtain ⟨f_is_fraction, fd_is_fraction, D_is_fraction, df_is_fraction⟩ := d_is_fraction
  obtain ⟨f_height, fd_height, D_height, df_height⟩ := d_height
  obtain ⟨f_plain, fd_plain, D_plain, df_plain⟩ := d_plain
  obtain ⟨f_lowered, fd_lowered, D_lowered, df_lowered⟩ := d_lowered
  obtain ⟨f_shared, fd_shared, D_shared, df_shared⟩ := d_shared
  obtain ⟨f_parted, fd_parted, D_parted, df_parted⟩ := d_parted
  obtain ⟨f_derived, fd_derived, D_derived, df_derived⟩ := d_derived
  obtain ⟨f_single, fd_single, D_single, df_single⟩ := d_single
  obtain ⟨f_sign_at, fd_sign_at, D_sign_at, df_sign_at⟩ := d_sign_at
  obtain ⟨f_doubled, fd_doubled, D_doubled, df_doubled⟩ := d_doubled
  obtain ⟨f_moved, fd_moved, D_moved, df_moved⟩ := d_moved
  obtain ⟨f_on_stretch, fd_on_stretch, D_on_stretch, df_on_stretch⟩ := d_on_stretch
  obtain ⟨f_changes, fd_changes, D_changes, df_changes⟩ := d_changes
  obtain ⟨f_low_end, fd_low_end, D_low_end, df_low_end⟩ := d_low_end
  obtain ⟨f_within, fd_within, D_within, df_within⟩ := d_within
  obtain ⟨f_roots, fd_roots, D_roots, df_roots⟩ := d_roots
  obtain ⟨f_sign_at_root, fd_sign_at_root, D_sign_at_root, df_sign_at_root⟩ := d_sign_at_root
  obtain ⟨f_sign_behind, fd_sign_behind, D_sign_behind, df_sign_behind⟩ := d_sign_behind
  obtain ⟨f_sign_ahead, fd_sign_ahead, D_sign_ahead, df_sign_ahead⟩ := d_sign_ahead
  obtain ⟨f_is_chance, fd_is_chance, D_is_chance, df_is_chance⟩ := d_is_chance
  obtain ⟨f_is_poly, fd_is_poly, D_is_poly, df_is_poly⟩ := d_is_poly
  obtain ⟨f_is_word, fd_is_word, D_is_word, df_is_word⟩ := d_is_word
  obtain ⟨f_need_share, fd_need_share, D_need_share, df_need_share⟩ := d_need_share
  obtain ⟨f_count_rows, fd_count_rows, D_count_rows, df_count_rows⟩ := d_count_rows
  obtain ⟨f_low_of, fd_low_of, D_low_of, df_low_of⟩ := d_low_of
  obtain ⟨f_need_line, fd_need_line, D_need_line, df_need_line⟩ := d_need_line
  obtain ⟨f_need_code, fd_need_code, D_need_code, df_need_code⟩ := d_need_code
  obtain ⟨f_need_both, fd_need_both, D_need_both, df_need_both⟩ := d_need_both
  obtain ⟨f_heard_rows, fd_heard_rows, D_heard_rows, df_heard_rows⟩ := d_heard_rows
  obtain ⟨f_chance_of, fd_chance_of, D_chance_of, df_chance_of⟩ := d_chance_of
  obtain ⟨f_lowest, fd_lowest, D_lowest, df_lowest⟩ := d_lowest
  obtain ⟨f_chance, fd_chance, D_chance, df_chance⟩ := d_chance
  obtain ⟨f_need_reader, fd_need_reader, D_need_reader, df_need_reader⟩ := d_need_reader
  obtain ⟨f_at_share, fd_at_share, D_at_share, df_at_share⟩ := d_at_share
  obtain ⟨f_right_of, fd_right_of, D_right_of, df_right_of⟩ := d_right_of
  obtain ⟨f_weighed, fd_weighed, D_weighed, df_weighed⟩ := d_weighed
  obtain ⟨f_right, fd_right, D_right, df_right⟩ := d_right
  obtain ⟨f_greatest_at, fd_greatest_at, D_greatest_at, df_greatest_at⟩ := d_greatest_at
  obtain ⟨f_reader_by, fd_reader_by, D_reader_by, df_reader_by⟩ := d_reader_by
  obtain ⟨f_best_reader, fd_best_reader, D_best_reader, df_best_reader⟩ := d_best_reader
  obtain ⟨f_best_right, fd_best_right, D_best_right, df_best_right⟩ := d_best_right
  obtain ⟨f_law_taken, fd_law_taken, D_law_taken, df_law_taken⟩ := d_law_taken
  obtain ⟨f_law_pick, fd_law_pick, D_law_pick, df_law_pick⟩ := d_law_pick
  obtain ⟨f_law_fr, fd_law_fr, D_law_fr, df_law_fr⟩ := d_law_fr
  obtain ⟨f_law_plus, fd_law_plus, D_law_plus, df_law_plus⟩ := d_law_plus
  obtain ⟨f_law_times, fd_law_times, D_law_times, df_law_times⟩ := d_law_times
  obtain ⟨f_law_below, fd_law_below, D_law_below, df_law_below⟩ := d_law_below
  obtain ⟨f_law_power, fd_law_power, D_law_power, df_law_power⟩ := d_law_power
  obtain ⟨f_law_whole, fd_law_whole, D_law_whole, df_law_whole⟩ := d_law_whole
  obtain ⟨f_law_alike, fd_law_alike, D_law_alike, df_law_alike⟩ := d_law_alike
  obtain ⟨f_law_p_plus, fd_law_p_plus, D_law_p_plus, df_law_p_plus⟩ := d_law_p_plus
  obtain ⟨f_law_poly, fd_law_poly, D_law_poly, df_law_poly⟩ := d_law_poly
  obtain ⟨f_law_p_times, fd_law_p_times, D_law_p_times, df_law_p_times⟩ := d_law_p_times
  obtain ⟨f_law_at, fd_law_at, D_law_at, df_law_at⟩ := d_law_at
  obtain ⟨f_law_of, fd_law_of, D_law_of, df_law_of⟩ := d_law_of
  obtain ⟨f_law_rows, fd_law_rows, D_law_rows, df_law_rows⟩ := d_law_rows
  obtain ⟨f_law_chance, fd_law_chance, D_law_chance, df_law_chance⟩ := d_law_chance
  obtain ⟨f_law_low, fd_law_low, D_law_low, df_law_low⟩ := d_law_low
  obtain ⟨f_law_spread, fd_law_spread, D_law_spread, df_law_spread⟩ := d_law_spread
  obtain ⟨f_law_share, fd_law_share, D_law_share, df_law_share⟩ := d_law_share
  obtain ⟨f_law_code, fd_law_code, D_law_code, df_law_code⟩ := d_law_code
  obtain ⟨f_law_line, fd_law_line, D_law_line, df_law_line⟩ := d_law_line
  obtain ⟨f_law_best, fd_law_best, D_law_best, df_law_best⟩ := d_law_best
  have c_divisor_of := cal_divisor_of (P := P) (w := w) (base := base) D_divisor_of df_divisor_of T
  have c_cut := cal_cut (P := P) (w := w) (base := base) D_cut df_cut T
  obtain ⟨ds3, v3, b3⟩ := B_plus.binds1 (ps := ["one", "other", "many"]) 3 1 (by simp) (by decide) (fun T kV doc pm an cdv ct us its hu hi => plus_bind3 T kV doc pm an cdv ct us its hu hi)
  obtain ⟨ds2, v2, b2⟩ := B_plus.binds1 (ps := ["one", "other", "many"]) 2 0 (by simp) (by decide) (fun T kV doc pm an cdv ct us its hu hi => plus_bind2 T kV doc pm an cdv ct us its hu hi)
  cases v3
  have c_plus := cal_plus (P := P) (w := w) (base := base) D_plus b3 .nil T c_cut
  have c_plus2 := cal_plus (P := P) (w := w) (base := base) D_plus b2 v2 T c_cut
  have c_times := cal_times (P := P) (w := w) (base := base) D_times df_times T c_cut
  have c_is_int := cal_is_int (P := P) (w := w) (base := base) D_is_int df_is_int T
  have c_sign := cal_sign (P := P) (w := w) (base := base) D_sign df_sign T
  have c_fraction := cal_fraction (P := P) (w := w) (base := base) D_fraction df_fraction T c_divisor_of
  have c_is_fraction := cal_is_fraction (P := P) (w := w) (base := base) D_is_fraction df_is_fraction T c_divisor_of c_is_int
  have c_height := cal_height (P := P) (w := w) (base := base) D_height df_height T c_fraction
  have c_plain := cal_plain (P := P) (w := w) (base := base) D_plain df_plain T c_divisor_of
  have c_lowered := cal_lowered (P := P) (w := w) (base := base) D_lowered df_lowered T c_plus c_plain
  have c_shared := cal_shared (P := P) (w := w) (base := base) D_shared df_shared T c_plain c_lowered
  have c_parted := cal_parted (P := P) (w := w) (base := base) D_parted df_parted T c_plus c_plus2 c_plain
  have c_derived := cal_derived (P := P) (w := w) (base := base) D_derived df_derived T c_cut
  have c_single := cal_single (P := P) (w := w) (base := base) D_single df_single T c_plain c_shared c_derived c_parted
  have c_sign_at := cal_sign_at (P := P) (w := w) (base := base) D_sign_at df_sign_at T c_height c_sign
  have c_doubled := cal_doubled (P := P) (w := w) (base := base) D_doubled df_doubled T
  have c_moved := cal_moved (P := P) (w := w) (base := base) D_moved df_moved T
  have c_on_stretch := cal_on_stretch (P := P) (w := w) (base := base) D_on_stretch df_on_stretch T
  have c_changes := cal_changes (P := P) (w := w) (base := base) D_changes df_changes T c_moved c_sign
  have c_low_end := cal_low_end (P := P) (w := w) (base := base) D_low_end df_low_end T c_fraction c_doubled
  have c_within := cal_within (P := P) (w := w) (base := base) D_within df_within T c_on_stretch c_changes
  have c_roots := cal_roots (P := P) (w := w) (base := base) D_roots df_roots T c_single c_within
  have c_sign_at_root := cal_sign_at_root (P := P) (w := w) (base := base) D_sign_at_root df_sign_at_root T c_shared c_low_end c_sign_at
  have c_sign_behind := cal_sign_behind (P := P) (w := w) (base := base) D_sign_behind df_sign_behind T c_sign_at_root c_derived
  have c_sign_ahead := cal_sign_ahead (P := P) (w := w) (base := base) D_sign_ahead df_sign_ahead T c_sign_at_root c_derived
  have c_is_chance := cal_is_chance (P := P) (w := w) (base := base) D_is_chance df_is_chance T TR c_sign_at c_sign_behind c_roots c_sign_ahead
  have c_is_poly := cal_is_poly (P := P) (w := w) (base := base) D_is_poly df_is_poly T c_is_int
  have c_is_word := cal_is_word (P := P) (w := w) (base := base) D_is_word df_is_word T c_is_int
  have c_need_share := cal_need_share (P := P) (w := w) (base := base) D_need_share df_need_share T c_is_fraction
  have c_count_rows := cal_count_rows (P := P) (w := w) (base := base) D_count_rows df_count_rows T
  have c_low_of := cal_low_of (P := P) (w := w) (base := base) D_low_of df_low_of T
  have c_need_line := cal_need_line (P := P) (w := w) (base := base) D_need_line df_need_line T c_is_int c_is_poly c_plus2 c_is_chance
  have c_need_code := cal_need_code (P := P) (w := w) (base := base) D_need_code df_need_code T c_is_int c_is_word c_count_rows
  have c_need_both := cal_need_both (P := P) (w := w) (base := base) D_need_both df_need_both T c_need_line c_need_code
  have c_heard_rows := cal_heard_rows (P := P) (w := w) (base := base) D_heard_rows df_heard_rows T
  have c_chance_of := cal_chance_of (P := P) (w := w) (base := base) D_chance_of df_chance_of T c_times
  have c_lowest := cal_lowest (P := P) (w := w) (base := base) D_lowest df_lowest T c_divisor_of
  have c_chance := cal_chance (P := P) (w := w) (base := base) D_chance df_chance T c_need_line c_is_word c_chance_of c_low_of c_lowest
  have c_need_reader := cal_need_reader (P := P) (w := w) (base := base) D_need_reader df_need_reader T c_is_int c_count_rows
  have c_at_share := cal_at_share (P := P) (w := w) (base := base) D_at_share df_at_share T c_height c_fraction
  have c_right_of := cal_right_of (P := P) (w := w) (base := base) D_right_of df_right_of T c_plus2 c_lowest
  have c_weighed := cal_weighed (P := P) (w := w) (base := base) D_weighed df_weighed T c_heard_rows c_times c_chance_of c_low_of
  have c_right := cal_right (P := P) (w := w) (base := base) D_right df_right T c_need_both c_need_reader c_weighed c_right_of
  have c_signs_at := cal_signs_at (P := P) (w := w) (base := base) D_signs_at df_signs_at hc_signs_at TB
  have c_greatest_at := cal_greatest_at (P := P) (w := w) (base := base) D_greatest_at df_greatest_at T c_plus c_sign_at
  have c_reader_by := cal_reader_by (P := P) (w := w) (base := base) D_reader_by df_reader_by T c_greatest_at
  have c_best_reader := cal_best_reader (P := P) (w := w) (base := base) D_best_reader df_best_reader T c_need_both c_need_share c_weighed c_reader_by c_signs_at
  have c_best_right := cal_best_right (P := P) (w := w) (base := base) D_best_right df_best_right T c_need_both c_need_share c_weighed c_reader_by c_signs_at c_right_of c_at_share
  have c_law_taken := cal_law_taken (P := P) (w := w) (base := base) D_law_taken df_law_taken T
  have c_law_pick := cal_law_pick (P := P) (w := w) (base := base) D_law_pick df_law_pick T c_law_taken
  have c_law_fr := cal_law_fr (P := P) (w := w) (base := base) D_law_fr df_law_fr T
  have c_law_plus := cal_law_plus (P := P) (w := w) (base := base) D_law_plus df_law_plus T c_law_fr
  have c_law_times := cal_law_times (P := P) (w := w) (base := base) D_law_times df_law_times T c_law_fr
  have c_law_below := cal_law_below (P := P) (w := w) (base := base) D_law_below df_law_below T
  have c_law_power := cal_law_power (P := P) (w := w) (base := base) D_law_power df_law_power T
  have c_law_whole := cal_law_whole (P := P) (w := w) (base := base) D_law_whole df_law_whole T
  have c_law_alike1 := cal_law_alike1 (P := P) (w := w) (base := base) D_law_alike df_law_alike T
  have c_law_alike := cal_law_alike2 (P := P) (w := w) (base := base) D_law_alike df_law_alike T c_law_alike1
  have c_law_p_plus := cal_law_p_plus (P := P) (w := w) (base := base) D_law_p_plus df_law_p_plus T
  have c_law_poly := cal_law_poly (P := P) (w := w) (base := base) D_law_poly df_law_poly T
  have c_law_p_times := cal_law_p_times (P := P) (w := w) (base := base) D_law_p_times df_law_p_times T c_law_p_plus
  have c_law_at := cal_law_at (P := P) (w := w) (base := base) D_law_at df_law_at T c_law_plus c_law_times
  have c_law_of := cal_law_of (P := P) (w := w) (base := base) D_law_of df_law_of T c_law_at c_law_times
  have c_law_rows := cal_law_rows (P := P) (w := w) (base := base) D_law_rows df_law_rows T
  have c_law_chance := cal_law_chance (P := P) (w := w) (base := base) D_law_chance df_law_chance T c_law_p_times
  have c_law_low := cal_law_low (P := P) (w := w) (base := base) D_law_low df_law_low T c_law_power
  have c_law_spread := cal_law_spread (P := P) (w := w) (base := base) D_law_spread df_law_spread T c_law_taken
  have c_law_share := cal_law_share (P := P) (w := w) (base := base) D_law_share df_law_share T c_law_taken c_law_fr
  have c_law_code := cal_law_code (P := P) (w := w) (base := base) D_law_code df_law_code T c_law_taken c_law_rows
  have c_law_line := cal_law_line (P := P) (w := w) (base := base) D_law_line df_law_line T c_law_taken c_law_pick c_law_poly c_law_spread
  have c_law_best := cal_law_best (P := P) (w := w) (base := base) D_law_best df_law_best T c_law_low c_law_rows c_law_times c_law_at c_law_chance c_law_below c_law_plus
  exact fn_law D_law df_law T LW c_law_line c_law_code c_law_low c_law_rows c_law_pick c_chance c_law_whole c_law_p_plus c_law_chance c_law_power c_law_taken c_right c_law_share c_law_times c_law_at c_law_below c_law_alike c_best_reader c_best_right c_law_of c_law_best
end EN
namespace EN
open PySem PySem.Spec PyProof.Rows L2 LamX

/-- plus, with its default -/
structure DP (K : PySem.W.Frag) : Prop where
  ex : ∃ (f : Addr) (oc : Value) (od : Option Addr) (kV doc pm : Value) (an : Option Addr) (cd ct : Value) (sl : Array (Option Value)) (T : Addr) (o : Obj) (u : Tok) (n : Nat), PySem.W.nsIn K mainGlobals "plus" = some (some (.ref f)) ∧
    K.lookup f = some ⟨oc, od, .func (PySem.W.fnOf "plus" "plus" (C8.fnArgs s_plus) (C8.fnBody s_plus) (C8.fnScope s_plus) (.ref T) kV doc pm an cd ct), sl⟩ ∧ PySem.W.codeIn K cd "plus" = true ∧ PySem.W.keepIn K (.ref f) = true ∧ K.lookup T = some o ∧ o.data = .seq #[.int 1 u] n
theorem DP.mk' {K : PySem.W.Frag} {f : Addr} {oc : Value} {od : Option Addr} {kV doc pm : Value} {an : Option Addr} {cd ct : Value} {sl : Array (Option Value)} {T : Addr} {tc : Value} {td : Option Addr} {ts : Array (Option Value)} {u : Tok} {n : Nat} (a : PySem.W.nsIn K mainGlobals "plus" = some (some (.ref f)))
    (l : K.lookup f = some ⟨oc, od, .func (PySem.W.fnOf "plus" "plus" (C8.fnArgs s_plus) (C8.fnBody s_plus) (C8.fnScope s_plus) (.ref T) kV doc pm an cd ct), sl⟩) (c : PySem.W.codeIn K cd "plus" = true) (k : PySem.W.keepIn K (.ref f) = true) (t : K.lookup T = some ⟨tc, td, .seq #[.int 1 u] n, ts⟩) : DP K :=
  ⟨f, oc, od, kV, doc, pm, an, cd, ct, sl, T, _, u, n, a, l, c, k, t, rfl⟩
/-- signs_at, with its code object's table -/
structure DS (K : PySem.W.Frag) (cS Pt : Addr) : Prop where
  ex : ∃ (f : Addr) (oc : Value) (od : Option Addr) (kV doc pm : Value) (an : Option Addr) (ct : Value) (sl : Array (Option Value)) (e : Value) (dd : Option Addr) (vs : Array Value) (sl2 : Array (Option Value)), PySem.W.nsIn K mainGlobals "signs_at" = some (some (.ref f)) ∧
    K.lookup f = some ⟨oc, od, .func (PySem.W.fnOf "signs_at" "signs_at" (C8.fnArgs s_signs_at) (C8.fnBody s_signs_at) (C8.fnScope s_signs_at) .none kV doc pm an (.ref cS) ct), sl⟩ ∧ PySem.W.codeIn K (.ref cS) "signs_at" = true ∧ PySem.W.keepIn K (.ref f) = true ∧
    K.lookup cS = some ⟨e, dd, .fields vs, sl2⟩ ∧ vs[11]? = some (.ref Pt) ∧ K.lookup Pt = none ∧ PySem.W.codeHdIn K cS Pt = true
theorem DS.mk' {K : PySem.W.Frag} {cS Pt f : Addr} {oc : Value} {od : Option Addr} {kV doc pm : Value} {an : Option Addr} {ct : Value} {sl : Array (Option Value)} {e : Value} {dd : Option Addr} {vs : Array Value} {sl2 : Array (Option Value)} (a : PySem.W.nsIn K mainGlobals "signs_at" = some (some (.ref f)))
    (l : K.lookup f = some ⟨oc, od, .func (PySem.W.fnOf "signs_at" "signs_at" (C8.fnArgs s_signs_at) (C8.fnBody s_signs_at) (C8.fnScope s_signs_at) .none kV doc pm an (.ref cS) ct), sl⟩) (c : PySem.W.codeIn K (.ref cS) "signs_at" = true) (k : PySem.W.keepIn K (.ref f) = true)
    (lc : K.lookup cS = some ⟨e, dd, .fields vs, sl2⟩) (v : vs[11]? = some (.ref Pt)) (np : K.lookup Pt = none) (hd : PySem.W.codeHdIn K cS Pt = true) : DS K cS Pt := ⟨f, oc, od, kV, doc, pm, an, ct, sl, e, dd, vs, sl2, a, l, c, k, lc, v, np, hd⟩
/-- an int of the module -/
def CI (K : PySem.W.Frag) (x : Str) (i : Int) : Prop := ∃ t, PySem.W.nsIn K mainGlobals x = some (some (.int i t))
theorem CI.mk' {K : PySem.W.Frag} {x : Str} {i : Int} {t : Tok} (a : PySem.W.nsIn K mainGlobals x = some (some (.int i t))) : CI K x i := ⟨t, a⟩
/-- FIRST, LAST -/
def CR' (K : PySem.W.Frag) (x : Str) (i j t : Int) : Prop := ∃ (a b : Addr) (dd dd2 : Option Addr) (n n2 : Nat) (sl sl2 : Array (Option Value)) (u1 u2 u3 u4 : Tok), PySem.W.nsIn K mainGlobals x = some (some (.ref a)) ∧
  K.lookup a = some ⟨.type "tuple", dd, .seq #[.ref b, .int t u1, .int 0 u2, .bool true] n, sl⟩ ∧ K.lookup b = some ⟨.type "tuple", dd2, .seq #[.int i u3, .int j u4] n2, sl2⟩
theorem CR'.mk' {K : PySem.W.Frag} {x : Str} {i j t : Int} {a b : Addr} {dd dd2 : Option Addr} {n n2 : Nat} {sl sl2 : Array (Option Value)} {u1 u2 u3 u4 : Tok} (h : PySem.W.nsIn K mainGlobals x = some (some (.ref a)))
  (h1 : K.lookup a = some ⟨.type "tuple", dd, .seq #[.ref b, .int t u1, .int 0 u2, .bool true] n, sl⟩) (h2 : K.lookup b = some ⟨.type "tuple", dd2, .seq #[.int i u3, .int j u4] n2, sl2⟩) : CR' K x i j t := ⟨a, b, dd, dd2, n, n2, sl, sl2, u1, u2, u3, u4, h, h1, h2⟩
theorem CR'.root {K : PySem.W.Frag} {x : Str} {i j t : Int} {h : Heap} {mg : Str → Option Value} (c : CR' K x i j t) (X : K.In h) (G : h.Ns mainGlobals mg) : ∃ v, (∃ u, mg x = some u ∧ RelV v u) ∧ ∀ H, Root K H v [i, j] t := by
  obtain ⟨a, b, dd, dd2, n, n2, sl, sl2, u1, u2, u3, u4, h0, h1, h2⟩ := c
  refine ⟨.ref a, ⟨_, PySem.W.mg_of X G h0, rfl⟩, fun H => ⟨a, b, rfl, .inr ⟨_, _, _, h1, rfl, rfl, by show 4 ≤ sizeLine; decide, .cons rfl (.cons ⟨_, rfl⟩ (.cons ⟨_, rfl⟩ (.cons rfl .nil)))⟩, .inr ⟨_, _, _, h2, rfl, rfl, by show 2 ≤ sizeLine; decide, .cons ⟨_, rfl⟩ (.cons ⟨_, rfl⟩ .nil)⟩⟩⟩
theorem CI.at {K : PySem.W.Frag} {x : Str} {i : Int} {h : Heap} {mg : Str → Option Value} (c : CI K x i) (X : K.In h) (G : h.Ns mainGlobals mg) : ∃ u, mg x = some u ∧ RelV (.int i) u := by
  obtain ⟨t, e⟩ := c
  exact ⟨_, PySem.W.mg_of X G e, t, rfl⟩
theorem law_at {l : PySem.W.OpenLaw} {w : World} {K : PySem.W.Frag} {h : Heap} {mg : Str → Option Value} {fa cS Pt : Addr} (LW : Laws) (X : K.In h) (G : h.Ns mainGlobals mg) (hfa : mg "law" = some (.ref fa)) (own : ∀ fy, mg "signs_at" = some (.ref fy) → OwnTab K fy h)
    (dP : DP K) (dS : DS K cS Pt) (dL : DK K "law" s_law)
    (d_divisor_of : DK K "divisor_of" s_divisor_of)
    (d_cut : DK K "cut" s_cut)
    (d_times : DK K "times" s_times)
    (d_is_int : DK K "is_int" s_is_int)
    (d_sign : DK K "sign" s_sign)
    (d_fraction : DK K "fraction" s_fraction)
    (d_is_fraction : DK K "is_fraction" s_is_fraction)
    (d_height : DK K "height" s_height)
    (d_plain : DK K "plain" s_plain)
    (d_lowered : DK K "lowered" s_lowered)
    (d_shared : DK K "shared" s_shared)
    (d_parted : DK K "parted" s_parted)
    (d_derived : DK K "derived" s_derived)
    (d_single : DK K "single" s_single)
    (d_sign_at : DK K "sign_at" s_sign_at)
    (d_doubled : DK K "doubled" s_doubled)
    (d_moved : DK K "moved" s_moved)
    (d_on_stretch : DK K "on_stretch" s_on_stretch)
    (d_changes : DK K "changes" s_changes)
    (d_low_end : DK K "low_end" s_low_end)
    (d_within : DK K "within" s_within)
    (d_roots : DK K "roots" s_roots)
    (d_sign_at_root : DK K "sign_at_root" s_sign_at_root)
    (d_sign_behind : DK K "sign_behind" s_sign_behind)
    (d_sign_ahead : DK K "sign_ahead" s_sign_ahead)
    (d_is_chance : DK K "is_chance" s_is_chance)
    (d_is_poly : DK K "is_poly" s_is_poly)
    (d_is_word : DK K "is_word" s_is_word)
    (d_need_share : DK K "need_share" s_need_share)
    (d_count_rows : DK K "count_rows" s_count_rows)
    (d_low_of : DK K "low_of" s_low_of)
    (d_need_line : DK K "need_line" s_need_line)
    (d_need_code : DK K "need_code" s_need_code)
    (d_need_both : DK K "need_both" s_need_both)
    (d_heard_rows : DK K "heard_rows" s_heard_rows)
    (d_chance_of : DK K "chance_of" s_chance_of)
    (d_lowest : DK K "lowest" s_lowest)
    (d_chance : DK K "chance" s_chance)
    (d_need_reader : DK K "need_reader" s_need_reader)
    (d_at_share : DK K "at_share" s_at_share)
    (d_right_of : DK K "right_of" s_right_of)
    (d_weighed : DK K "weighed" s_weighed)
    (d_right : DK K "right" s_right)
    (d_greatest_at : DK K "greatest_at" s_greatest_at)
    (d_reader_by : DK K "reader_by" s_reader_by)
    (d_best_reader : DK K "best_reader" s_best_reader)
    (d_best_right : DK K "best_right" s_best_right)
    (d_law_taken : DK K "_law_taken" s_law_taken)
    (d_law_pick : DK K "_law_pick" s_law_pick)
    (d_law_fr : DK K "_law_fr" s_law_fr)
    (d_law_plus : DK K "_law_plus" s_law_plus)
    (d_law_times : DK K "_law_times" s_law_times)
    (d_law_below : DK K "_law_below" s_law_below)
    (d_law_power : DK K "_law_power" s_law_power)
    (d_law_whole : DK K "_law_whole" s_law_whole)
    (d_law_alike : DK K "_law_alike" s_law_alike)
    (d_law_p_plus : DK K "_law_p_plus" s_law_p_plus)
    (d_law_poly : DK K "_law_poly" s_law_poly)
    (d_law_p_times : DK K "_law_p_times" s_law_p_times)
    (d_law_at : DK K "_law_at" s_law_at)
    (d_law_of : DK K "_law_of" s_law_of)
    (d_law_rows : DK K "_law_rows" s_law_rows)
    (d_law_chance : DK K "_law_chance" s_law_chance)
    (d_law_low : DK K "_law_low" s_law_low)
    (d_law_spread : DK K "_law_spread" s_law_spread)
    (d_law_share : DK K "_law_share" s_law_share)
    (d_law_code : DK K "_law_code" s_law_code)
    (d_law_line : DK K "_law_line" s_law_line)
    (d_law_best : DK K "_law_best" s_law_best)
    (c_MOST_SENT : CI K "MOST_SENT" 3)
    (c_MOST_HEARD : CI K "MOST_HEARD" 4)
    (c_MOST_POWERS : CI K "MOST_POWERS" 5)
    (c_MOST_GIVEN : CI K "MOST_GIVEN" 1000)
    (c_MOST_LONG : CI K "MOST_LONG" 4)
    (c_MOST_WORDS : CI K "MOST_WORDS" 4)
    (c_MOST_ROWS : CI K "MOST_ROWS" 81)
    (c_MOST_WEIGHT : CI K "MOST_WEIGHT" 100)
    (r_FIRST : CR' K "FIRST" 0 1 0) (r_LAST : CR' K "LAST" (-1) 1 1)
    (b_len : PySem.W.nsIn K mainGlobals "len" = some none)
    (b_range : PySem.W.nsIn K mainGlobals "range" = some none)
    (b_zip : PySem.W.nsIn K mainGlobals "zip" = some none)
    (b_enumerate : PySem.W.nsIn K mainGlobals "enumerate" = some none)
    (b_reversed : PySem.W.nsIn K mainGlobals "reversed" = some none)
    (b_isinstance : PySem.W.nsIn K mainGlobals "isinstance" = some none)
    (b_int : PySem.W.nsIn K mainGlobals "int" = some none)
    (b_bool : PySem.W.nsIn K mainGlobals "bool" = some none)
    (b_str : PySem.W.nsIn K mainGlobals "str" = some none)
    (b_tuple : PySem.W.nsIn K mainGlobals "tuple" = some none)
    (b_list : PySem.W.nsIn K mainGlobals "list" = some none)
    (b_max : PySem.W.nsIn K mainGlobals "max" = some none)
    (b_min : PySem.W.nsIn K mainGlobals "min" = some none)
    (b_abs : PySem.W.nsIn K mainGlobals "abs" = some none)
    (b_sum : PySem.W.nsIn K mainGlobals "sum" = some none)
    (b_all : PySem.W.nsIn K mainGlobals "all" = some none)
    (b_set : PySem.W.nsIn K mainGlobals "set" = some none)
    : LawAtS l w K C8.CX0 11 63 "_law_script" mg fa h := by
  obtain ⟨fP, ocP, odP, kVP, docP, pmP, anP, cdP, ctP, slP, TP, oP, uP, nP, aP, lP, cP, kP, tP, dtP⟩ := dP.ex
  obtain ⟨fS, ocS, odS, kVS, docS, pmS, anS, ctS, slS, eS, ddS, vsS, slS2, aS, lS, kcS, kS, lcS, vS, npS, hdS⟩ := dS.ex
  obtain ⟨fL, oc, od, kV, doc, pm, an, cd, ct, sl, aL, lL, cL, kL⟩ := dL.ex
  have efa := hfa.symm.trans (PySem.W.mg_of X G aL)
  cases efa
  have mgS := PySem.W.mg_of X G aS
  have T : Tx K mg := {
    len_ := PySem.W.mg_none_of X G b_len
    range_ := PySem.W.mg_none_of X G b_range
    zip_ := PySem.W.mg_none_of X G b_zip
    enumerate_ := PySem.W.mg_none_of X G b_enumerate
    reversed_ := PySem.W.mg_none_of X G b_reversed
    isinstance_ := PySem.W.mg_none_of X G b_isinstance
    int_ := PySem.W.mg_none_of X G b_int
    bool_ := PySem.W.mg_none_of X G b_bool
    str_ := PySem.W.mg_none_of X G b_str
    tuple_ := PySem.W.mg_none_of X G b_tuple
    list_ := PySem.W.mg_none_of X G b_list
    max_ := PySem.W.mg_none_of X G b_max
    min_ := PySem.W.mg_none_of X G b_min
    abs_ := PySem.W.mg_none_of X G b_abs
    sum_ := PySem.W.mg_none_of X G b_sum
    all_ := PySem.W.mg_none_of X G b_all
    set_ := PySem.W.mg_none_of X G b_set
    c_MOST_SENT := c_MOST_SENT.at X G
    c_MOST_HEARD := c_MOST_HEARD.at X G
    c_MOST_POWERS := c_MOST_POWERS.at X G
    c_MOST_GIVEN := c_MOST_GIVEN.at X G
    c_MOST_LONG := c_MOST_LONG.at X G
    c_MOST_WORDS := c_MOST_WORDS.at X G
    c_MOST_ROWS := c_MOST_ROWS.at X G
    c_MOST_WEIGHT := c_MOST_WEIGHT.at X G
  }
  have TR : TxR K mg := ⟨r_FIRST.root X G, r_LAST.root X G⟩
  have hP : h.get? Pt = some { cls := .none, data := .fields #[] } := own fS mgS cS Pt _ _ eS ddS vsS slS2 lS rfl rfl lcS vS
  have hC : PySem.W.CodeHd h cS Pt := PySem.W.codeHd_of_K X hdS
  refine ⟨PySem.W.fnOf "law" "law" (C8.fnArgs s_law) (C8.fnBody s_law) (C8.fnScope s_law) .none kV doc pm an cd ct, [(cS, Pt)], sp_law K Pt, fun p hp => ?_, fun p hp => ?_, fun p hp => ?_, fun s u => .of_eq rfl, fun H a ns _ _ hT hS => ?_, fun base _ _ hTB => ?_⟩
  · have e : p = (cS, Pt) := by simpa using hp
    subst e
    exact hP
  · have e : p = (cS, Pt) := by simpa using hp
    subst e
    exact npS
  · have e : p = (cS, Pt) := by simpa using hp
    subst e
    exact hC
  · exact ⟨a, ns, rfl, hS, TabS.nil (hT (cS, Pt) (by simp)), fun _ => rfl⟩
  · have TB := hTB (cS, Pt) (by simp)
    exact all_cal T TR LW TB ⟨⟨ocS, odS, _, _, _, _, _, _, _, slS, rfl, lS, kcS⟩, mgS, kS⟩ rfl rfl (fP := fP)
      ⟨⟨ocP, odP, _, _, _, _, _, _, _, slP, rfl, lP, cP⟩, PySem.W.mg_of X G aP, kP⟩ ⟨⟨ocP, odP, _, _, _, _, _, _, _, slP, rfl, lP, cP, .inr ⟨by simp, TP, oP, [.int 1 uP], nP, rfl, tP, dtP, .cons ⟨_, rfl⟩ .nil⟩, .inl rfl⟩, kP⟩
      (d_divisor_of.dd X G) (d_cut.dd X G) (d_times.dd X G) (d_is_int.dd X G) (d_sign.dd X G) (d_fraction.dd X G) (d_is_fraction.dd X G) (d_height.dd X G) (d_plain.dd X G) (d_lowered.dd X G) (d_shared.dd X G) (d_parted.dd X G) (d_derived.dd X G) (d_single.dd X G) (d_sign_at.dd X G) (d_doubled.dd X G) (d_moved.dd X G) (d_on_stretch.dd X G) (d_changes.dd X G) (d_low_end.dd X G) (d_within.dd X G) (d_roots.dd X G) (d_sign_at_root.dd X G) (d_sign_behind.dd X G) (d_sign_ahead.dd X G) (d_is_chance.dd X G) (d_is_poly.dd X G) (d_is_word.dd X G) (d_need_share.dd X G) (d_count_rows.dd X G) (d_low_of.dd X G) (d_need_line.dd X G) (d_need_code.dd X G) (d_need_both.dd X G) (d_heard_rows.dd X G) (d_chance_of.dd X G) (d_lowest.dd X G) (d_chance.dd X G) (d_need_reader.dd X G) (d_at_share.dd X G) (d_right_of.dd X G) (d_weighed.dd X G) (d_right.dd X G) (d_greatest_at.dd X G) (d_reader_by.dd X G) (d_best_reader.dd X G) (d_best_right.dd X G) (d_law_taken.dd X G) (d_law_pick.dd X G) (d_law_fr.dd X G) (d_law_plus.dd X G) (d_law_times.dd X G) (d_law_below.dd X G) (d_law_power.dd X G) (d_law_whole.dd X G) (d_law_alike.dd X G) (d_law_p_plus.dd X G) (d_law_poly.dd X G) (d_law_p_times.dd X G) (d_law_at.dd X G) (d_law_of.dd X G) (d_law_rows.dd X G) (d_law_chance.dd X G) (d_law_low.dd X G) (d_law_spread.dd X G) (d_law_share.dd X G) (d_law_code.dd X G) (d_law_line.dd X G) (d_law_best.dd X G)
      ⟨⟨oc, od, _, _, _, _, _, _, _, sl, rfl, lL, cL⟩, PySem.W.mg_of X G aL, kL⟩ rfl
/-- the end of a law row with the tables of a named def's code -/
theorem walk_ofNamed {l : PySem.W.OpenLaw} {n k : Nat} {q : Program} {loose : List Str} {XP : (Str → Option Value) → Heap → Prop} {YP : World → Heap → Prop} {d : DefRec} {K : Params → PySem.W.Frag} {CX : World → CXT} {x : Str} (y : Str)
    (hn : l.most = some n) (hn2 : n ≤ sizeLine) (hdf : d.params.defaults = []) (hr : Room k callerA) (hrec : ((recsOf q).any fun e => e.name == y) = true) (hY : ∀ (w : World) (h : Heap), YP w h → (K w.params).In h)
    (F : ∀ (w : World) (mg : Str → Option Value) (fa : Addr) (h : Heap), YP w h → (K w.params).In h → h.Ns mainGlobals mg → mg d.name = some (.ref fa) → (∀ fy, mg y = some (.ref fy) → OwnTab (K w.params) fy h) → LawAtS l w (K w.params) (CX w) k n x mg fa h)
    (hCX : ∀ (w : World) (H : Hp) (s : Shared) (e : Value) (s' : Shared), CX w [] H s (fun _ _ _ => False) e s' → False) :
    PySem.W.WalkO q loose XP YP l.row.toRowW d [] (fun f vs => PySem.call f vs) := by
  refine Att.attach_callB hn hdf fun w s₀ s₁ mg mb fa o pm cd doc a vs ns G Y ho hd hcd hmg hobj hints hlen hbits hg => ?_
  have KX := hY w _ Y
  have own : ∀ fy, mg y = some (.ref fy) → OwnTab (K w.params) fy s₁.heap := fun fy hy c P o1 fd1 e dd vs1 sl k1 k2 k3 k4 k5 => by
    obtain ⟨dL, hm, hn1⟩ := List.any_eq_true.mp hrec
    have hn2 : dL.name = y := beq_iff_eq.mp hn1
    obtain ⟨a', o', fd', c', P', h1, h2, h3, h4, h5, h6⟩ := G.T.tab dL hm
    rw [hn2, hy] at h1
    cases h1
    have g1 := KX _ _ k1
    rw [g1] at h2
    cases h2
    rw [k2] at h3
    cases h3
    rw [k3] at h4
    cases h4
    obtain ⟨⟨oc, vc, e1, _, e3, e4⟩, hP⟩ := h6
    have g2 := KX _ _ k4
    rw [g2] at e1
    cases e1
    cases e3
    rw [k5] at e4
    cases e4
    exact hP
  obtain ⟨fd, cs, sp, hT, nT, C, hb, hsp, hF⟩ := F w mg fa _ Y KX G.T.g hmg own
  exact law_callTs KX G.T.g G.T.b G.T.builtins G.T.nolimit hg hT nT C G.T.bmain hobj hints (Nat.le_trans hlen hn2) hr hF hb (fun H hH hS => hsp H a ns hlen hbits hH hS) fun H e s' => hCX w H s₁ e s'
end EN

open PySem PySem.W PyProof.Rows in
set_option maxRecDepth 100000 in
set_option maxHeartbeats 0 in
theorem PySem.Challenge.cw_everynoise_k00_whole_chances_holds : PySem.Challenge.rw_everynoise_k00_whole_chances.Holds := by
  w_on; o_law; k_head; (case hw => w_witness2)
  k_fill
  refine EN.walk_ofNamed (l := PySem.Challenge.rw_everynoise_k00_whole_chances) (n := 63) (k := 11) (x := "_law_script") (CX := fun _ => C8.CX0) "signs_at" rfl (by decide) rfl ⟨rfl, by decide, by decide⟩ (by first | rfl | decide +kernel) (fun w h Y => PySem.W.km_in_of Y) ?F (fun _ _ _ _ _ z => z)
  case F =>
    intro w mg fa h Y KX G hmg own
    refine' EN.law_at EN.laws KX G hmg own ?dP ?dS ?dL ?d_divisor_of ?d_cut ?d_times ?d_is_int ?d_sign ?d_fraction ?d_is_fraction ?d_height ?d_plain ?d_lowered ?d_shared ?d_parted ?d_derived ?d_single ?d_sign_at ?d_doubled ?d_moved ?d_on_stretch ?d_changes ?d_low_end ?d_within ?d_roots ?d_sign_at_root ?d_sign_behind ?d_sign_ahead ?d_is_chance ?d_is_poly ?d_is_word ?d_need_share ?d_count_rows ?d_low_of ?d_need_line ?d_need_code ?d_need_both ?d_heard_rows ?d_chance_of ?d_lowest ?d_chance ?d_need_reader ?d_at_share ?d_right_of ?d_weighed ?d_right ?d_greatest_at ?d_reader_by ?d_best_reader ?d_best_right ?d_law_taken ?d_law_pick ?d_law_fr ?d_law_plus ?d_law_times ?d_law_below ?d_law_power ?d_law_whole ?d_law_alike ?d_law_p_plus ?d_law_poly ?d_law_p_times ?d_law_at ?d_law_of ?d_law_rows ?d_law_chance ?d_law_low ?d_law_spread ?d_law_share ?d_law_code ?d_law_line ?d_law_best ?c_MOST_SENT ?c_MOST_HEARD ?c_MOST_POWERS ?c_MOST_GIVEN ?c_MOST_LONG ?c_MOST_WORDS ?c_MOST_ROWS ?c_MOST_WEIGHT ?r_FIRST ?r_LAST ?b_len ?b_range ?b_zip ?b_enumerate ?b_reversed ?b_isinstance ?b_int ?b_bool ?b_str ?b_tuple ?b_list ?b_max ?b_min ?b_abs ?b_sum ?b_all ?b_set
    case dP =>
      refine' EN.DP.mk' ?a ?l ?c ?k ?t
      (case a => k_is)
      (case l => k_is)
      (case c => k_is)
      (case k => k_is)
      (case t => k_is)
    case dS =>
      refine' EN.DS.mk' ?a ?l ?c ?k ?lc ?v ?np ?hd
      (case a => k_is)
      (case l => k_is)
      (case c => k_is)
      (case k => k_is)
      (case lc => k_is)
      (case v => rfl)
      (case np => kernel_rfl)
      (case hd => kernel_rfl)
    case dL =>
      refine' EN.DK.mk' ?a ?l ?c ?k
      (case a => k_is)
      (case l => k_is)
      (case c => k_is)
      (case k => k_is)
    case d_divisor_of =>
      refine' EN.DK.mk' ?a ?l ?c ?k
      (case a => k_is)
      (case l => k_is)
      (case c => k_is)
      (case k => k_is)
    case d_cut =>
      refine' EN.DK.mk' ?a ?l ?c ?k
      (case a => k_is)
      (case l => k_is)
      (case c => k_is)
      (case k => k_is)
    case d_times =>
      refine' EN.DK.mk' ?a ?l ?c ?k
      (case a => k_is)
      (case l => k_is)
      (case c => k_is)
      (case k => k_is)
    case d_is_int =>
      refine' EN.DK.mk' ?a ?l ?c ?k
      (case a => k_is)
      (case l => k_is)
      (case c => k_is)
      (case k => k_is)
    case d_sign =>
      refine' EN.DK.mk' ?a ?l ?c ?k
      (case a => k_is)
      (case l => k_is)
      (case c => k_is)
      (case k => k_is)
    case d_fraction =>
      refine' EN.DK.mk' ?a ?l ?c ?k
      (case a => k_is)
      (case l => k_is)
      (case c => k_is)
      (case k => k_is)
    case d_is_fraction =>
      refine' EN.DK.mk' ?a ?l ?c ?k
      (case a => k_is)
      (case l => k_is)
      (case c => k_is)
      (case k => k_is)
    case d_height =>
      refine' EN.DK.mk' ?a ?l ?c ?k
      (case a => k_is)
      (case l => k_is)
      (case c => k_is)
      (case k => k_is)
    case d_plain =>
      refine' EN.DK.mk' ?a ?l ?c ?k
      (case a => k_is)
      (case l => k_is)
      (case c => k_is)
      (case k => k_is)
    case d_lowered =>
      refine' EN.DK.mk' ?a ?l ?c ?k
      (case a => k_is)
      (case l => k_is)
      (case c => k_is)
      (case k => k_is)
    case d_shared =>
      refine' EN.DK.mk' ?a ?l ?c ?k
      (case a => k_is)
      (case l => k_is)
      (case c => k_is)
      (case k => k_is)
    case d_parted =>
      refine' EN.DK.mk' ?a ?l ?c ?k
      (case a => k_is)
      (case l => k_is)
      (case c => k_is)
      (case k => k_is)
    case d_derived =>
      refine' EN.DK.mk' ?a ?l ?c ?k
      (case a => k_is)
      (case l => k_is)
      (case c => k_is)
      (case k => k_is)
    case d_single =>
      refine' EN.DK.mk' ?a ?l ?c ?k
      (case a => k_is)
      (case l => k_is)
      (case c => k_is)
      (case k => k_is)
    case d_sign_at =>
      refine' EN.DK.mk' ?a ?l ?c ?k
      (case a => k_is)
      (case l => k_is)
      (case c => k_is)
      (case k => k_is)
    case d_doubled =>
      refine' EN.DK.mk' ?a ?l ?c ?k
      (case a => k_is)
      (case l => k_is)
      (case c => k_is)
      (case k => k_is)
    case d_moved =>
      refine' EN.DK.mk' ?a ?l ?c ?k
      (case a => k_is)
      (case l => k_is)
      (case c => k_is)
      (case k => k_is)
    case d_on_stretch =>
      refine' EN.DK.mk' ?a ?l ?c ?k
      (case a => k_is)
      (case l => k_is)
      (case c => k_is)
      (case k => k_is)
    case d_changes =>
      refine' EN.DK.mk' ?a ?l ?c ?k
      (case a => k_is)
      (case l => k_is)
      (case c => k_is)
      (case k => k_is)
    case d_low_end =>
      refine' EN.DK.mk' ?a ?l ?c ?k
      (case a => k_is)
      (case l => k_is)
      (case c => k_is)
      (case k => k_is)
    case d_within =>
      refine' EN.DK.mk' ?a ?l ?c ?k
      (case a => k_is)
      (case l => k_is)
      (case c => k_is)
      (case k => k_is)
    case d_roots =>
      refine' EN.DK.mk' ?a ?l ?c ?k
      (case a => k_is)
      (case l => k_is)
      (case c => k_is)
      (case k => k_is)
    case d_sign_at_root =>
      refine' EN.DK.mk' ?a ?l ?c ?k
      (case a => k_is)
      (case l => k_is)
      (case c => k_is)
      (case k => k_is)
    case d_sign_behind =>
      refine' EN.DK.mk' ?a ?l ?c ?k
      (case a => k_is)
      (case l => k_is)
      (case c => k_is)
      (case k => k_is)
    case d_sign_ahead =>
      refine' EN.DK.mk' ?a ?l ?c ?k
      (case a => k_is)
      (case l => k_is)
      (case c => k_is)
      (case k => k_is)
    case d_is_chance =>
      refine' EN.DK.mk' ?a ?l ?c ?k
      (case a => k_is)
      (case l => k_is)
      (case c => k_is)
      (case k => k_is)
    case d_is_poly =>
      refine' EN.DK.mk' ?a ?l ?c ?k
      (case a => k_is)
      (case l => k_is)
      (case c => k_is)
      (case k => k_is)
    case d_is_word =>
      refine' EN.DK.mk' ?a ?l ?c ?k
      (case a => k_is)
      (case l => k_is)
      (case c => k_is)
      (case k => k_is)
    case d_need_share =>
      refine' EN.DK.mk' ?a ?l ?c ?k
      (case a => k_is)
      (case l => k_is)
      (case c => k_is)
      (case k => k_is)
    case d_count_rows =>
      refine' EN.DK.mk' ?a ?l ?c ?k
      (case a => k_is)
      (case l => k_is)
      (case c => k_is)
      (case k => k_is)
    case d_low_of =>
      refine' EN.DK.mk' ?a ?l ?c ?k
      (case a => k_is)
      (case l => k_is)
      (case c => k_is)
      (case k => k_is)
    case d_need_line =>
      refine' EN.DK.mk' ?a ?l ?c ?k
      (case a => k_is)
      (case l => k_is)
      (case c => k_is)
      (case k => k_is)
    case d_need_code =>
      refine' EN.DK.mk' ?a ?l ?c ?k
      (case a => k_is)
      (case l => k_is)
      (case c => k_is)
      (case k => k_is)
    case d_need_both =>
      refine' EN.DK.mk' ?a ?l ?c ?k
      (case a => k_is)
      (case l => k_is)
      (case c => k_is)
      (case k => k_is)
    case d_heard_rows =>
      refine' EN.DK.mk' ?a ?l ?c ?k
      (case a => k_is)
      (case l => k_is)
      (case c => k_is)
      (case k => k_is)
    case d_chance_of =>
      refine' EN.DK.mk' ?a ?l ?c ?k
      (case a => k_is)
      (case l => k_is)
      (case c => k_is)
      (case k => k_is)
    case d_lowest =>
      refine' EN.DK.mk' ?a ?l ?c ?k
      (case a => k_is)
      (case l => k_is)
      (case c => k_is)
      (case k => k_is)
    case d_chance =>
      refine' EN.DK.mk' ?a ?l ?c ?k
      (case a => k_is)
      (case l => k_is)
      (case c => k_is)
      (case k => k_is)
    case d_need_reader =>
      refine' EN.DK.mk' ?a ?l ?c ?k
      (case a => k_is)
      (case l => k_is)
      (case c => k_is)
      (case k => k_is)
    case d_at_share =>
      refine' EN.DK.mk' ?a ?l ?c ?k
      (case a => k_is)
      (case l => k_is)
      (case c => k_is)
      (case k => k_is)
    case d_right_of =>
      refine' EN.DK.mk' ?a ?l ?c ?k
      (case a => k_is)
      (case l => k_is)
      (case c => k_is)
      (case k => k_is)
    case d_weighed =>
      refine' EN.DK.mk' ?a ?l ?c ?k
      (case a => k_is)
      (case l => k_is)
      (case c => k_is)
      (case k => k_is)
    case d_right =>
      refine' EN.DK.mk' ?a ?l ?c ?k
      (case a => k_is)
      (case l => k_is)
      (case c => k_is)
      (case k => k_is)
    case d_greatest_at =>
      refine' EN.DK.mk' ?a ?l ?c ?k
      (case a => k_is)
      (case l => k_is)
      (case c => k_is)
      (case k => k_is)
    case d_reader_by =>
      refine' EN.DK.mk' ?a ?l ?c ?k
      (case a => k_is)
      (case l => k_is)
      (case c => k_is)
      (case k => k_is)
    case d_best_reader =>
      refine' EN.DK.mk' ?a ?l ?c ?k
      (case a => k_is)
      (case l => k_is)
      (case c => k_is)
      (case k => k_is)
    case d_best_right =>
      refine' EN.DK.mk' ?a ?l ?c ?k
      (case a => k_is)
      (case l => k_is)
      (case c => k_is)
      (case k => k_is)
    case d_law_taken =>
      refine' EN.DK.mk' ?a ?l ?c ?k
      (case a => k_is)
      (case l => k_is)
      (case c => k_is)
      (case k => k_is)
    case d_law_pick =>
      refine' EN.DK.mk' ?a ?l ?c ?k
      (case a => k_is)
      (case l => k_is)
      (case c => k_is)
      (case k => k_is)
    case d_law_fr =>
      refine' EN.DK.mk' ?a ?l ?c ?k
      (case a => k_is)
      (case l => k_is)
      (case c => k_is)
      (case k => k_is)
    case d_law_plus =>
      refine' EN.DK.mk' ?a ?l ?c ?k
      (case a => k_is)
      (case l => k_is)
      (case c => k_is)
      (case k => k_is)
    case d_law_times =>
      refine' EN.DK.mk' ?a ?l ?c ?k
      (case a => k_is)
      (case l => k_is)
      (case c => k_is)
      (case k => k_is)
    case d_law_below =>
      refine' EN.DK.mk' ?a ?l ?c ?k
      (case a => k_is)
      (case l => k_is)
      (case c => k_is)
      (case k => k_is)
    case d_law_power =>
      refine' EN.DK.mk' ?a ?l ?c ?k
      (case a => k_is)
      (case l => k_is)
      (case c => k_is)
      (case k => k_is)
    case d_law_whole =>
      refine' EN.DK.mk' ?a ?l ?c ?k
      (case a => k_is)
      (case l => k_is)
      (case c => k_is)
      (case k => k_is)
    case d_law_alike =>
      refine' EN.DK.mk' ?a ?l ?c ?k
      (case a => k_is)
      (case l => k_is)
      (case c => k_is)
      (case k => k_is)
    case d_law_p_plus =>
      refine' EN.DK.mk' ?a ?l ?c ?k
      (case a => k_is)
      (case l => k_is)
      (case c => k_is)
      (case k => k_is)
    case d_law_poly =>
      refine' EN.DK.mk' ?a ?l ?c ?k
      (case a => k_is)
      (case l => k_is)
      (case c => k_is)
      (case k => k_is)
    case d_law_p_times =>
      refine' EN.DK.mk' ?a ?l ?c ?k
      (case a => k_is)
      (case l => k_is)
      (case c => k_is)
      (case k => k_is)
    case d_law_at =>
      refine' EN.DK.mk' ?a ?l ?c ?k
      (case a => k_is)
      (case l => k_is)
      (case c => k_is)
      (case k => k_is)
    case d_law_of =>
      refine' EN.DK.mk' ?a ?l ?c ?k
      (case a => k_is)
      (case l => k_is)
      (case c => k_is)
      (case k => k_is)
    case d_law_rows =>
      refine' EN.DK.mk' ?a ?l ?c ?k
      (case a => k_is)
      (case l => k_is)
      (case c => k_is)
      (case k => k_is)
    case d_law_chance =>
      refine' EN.DK.mk' ?a ?l ?c ?k
      (case a => k_is)
      (case l => k_is)
      (case c => k_is)
      (case k => k_is)
    case d_law_low =>
      refine' EN.DK.mk' ?a ?l ?c ?k
      (case a => k_is)
      (case l => k_is)
      (case c => k_is)
      (case k => k_is)
    case d_law_spread =>
      refine' EN.DK.mk' ?a ?l ?c ?k
      (case a => k_is)
      (case l => k_is)
      (case c => k_is)
      (case k => k_is)
    case d_law_share =>
      refine' EN.DK.mk' ?a ?l ?c ?k
      (case a => k_is)
      (case l => k_is)
      (case c => k_is)
      (case k => k_is)
    case d_law_code =>
      refine' EN.DK.mk' ?a ?l ?c ?k
      (case a => k_is)
      (case l => k_is)
      (case c => k_is)
      (case k => k_is)
    case d_law_line =>
      refine' EN.DK.mk' ?a ?l ?c ?k
      (case a => k_is)
      (case l => k_is)
      (case c => k_is)
      (case k => k_is)
    case d_law_best =>
      refine' EN.DK.mk' ?a ?l ?c ?k
      (case a => k_is)
      (case l => k_is)
      (case c => k_is)
      (case k => k_is)
    (case c_MOST_SENT => refine' EN.CI.mk' ?a; (case a => k_is))
    (case c_MOST_HEARD => refine' EN.CI.mk' ?a; (case a => k_is))
    (case c_MOST_POWERS => refine' EN.CI.mk' ?a; (case a => k_is))
    (case c_MOST_GIVEN => refine' EN.CI.mk' ?a; (case a => k_is))
    (case c_MOST_LONG => refine' EN.CI.mk' ?a; (case a => k_is))
    (case c_MOST_WORDS => refine' EN.CI.mk' ?a; (case a => k_is))
    (case c_MOST_ROWS => refine' EN.CI.mk' ?a; (case a => k_is))
    (case c_MOST_WEIGHT => refine' EN.CI.mk' ?a; (case a => k_is))
    case r_FIRST =>
      refine' EN.CR'.mk' ?h ?h1 ?h2
      (case h => k_is)
      (case h1 => k_is)
      (case h2 => k_is)
    case r_LAST =>
      refine' EN.CR'.mk' ?h ?h1 ?h2
      (case h => k_is)
      (case h1 => k_is)
      (case h2 => k_is)
    (case b_len => k_is)
    (case b_range => k_is)
    (case b_zip => k_is)
    (case b_enumerate => k_is)
    (case b_reversed => k_is)
    (case b_isinstance => k_is)
    (case b_int => k_is)
    (case b_bool => k_is)
    (case b_str => k_is)
    (case b_tuple => k_is)
    (case b_list => k_is)
    (case b_max => k_is)
    (case b_min => k_is)
    (case b_abs => k_is)
    (case b_sum => k_is)
    (case b_all => k_is)
    (case b_set => k_is)
