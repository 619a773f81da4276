import PyProof.Rows.All
import HandS.Iter
import KE.GoesEnum
import HandS.List
import HandS.Strs
import HandS.TupAny
import HandS.TupMul
import HandS.Style
import Wide.All
import OpenK.AllK
import Wide.FinOn
import HandS.Dict
import HandS.Comp
import HandS.Lambda
import HandS.Wide
import HandS.IsInst
import HandS.Deep
import HandS.More
import HandS.Text
import HandS.RaiseMore
import HandS.WordsDict
import HandS.Flow
import KE.KDictZip
import HandS.Zip
import HandS.Zip0
import HandS.Rev
import HandS.ExcInit
import HandS.Defaults
import HandS.Words
import HandS.ForMost
import HandS.Ends
import HandS.HeadHook1
import HandS.HeadHook2
import HandS.ExcIs
import HandS.ExcField
import HandS.HeadWalk
import KE.KNestM
import KE.KStateDown
import HandS.WordsExc
import HandS.Head0
import HandS.Head1
import HandS.Head2
import HandS.HeadEnd
import PySem.Challenge.RW_whicheverafter_k02_names
set_option Elab.async false
set_option linter.all false
set_option maxRecDepth 100000
set_option maxHeartbeats 1000000
/-! G: enumerate over a tuple. -/
namespace GE
open PySem
open Sem (wp)
theorem meets_enumerate_one {v : Value} {o : Obj} {H : Heap → Prop} (B : Begins v o H) :
    Meets (Builtin.«enumerate.__new__» ⟨[.type "enumerate", v], []⟩) (fun _ R s => H s.heap ∧
      R (.ok (.ret (.ref (s.heap.push o).objs.size))) { s with heap := (s.heap.push o).push { cls := .type "enumerate", data := .fields #[.none, .bool false, .ref s.heap.objs.size, rawInt 0, .none, .none] } }) :=
  .of_wp fun prog w A R s h => by
    obtain ⟨hp, g, d, tk, os⟩ := s
    obtain ⟨h1, h⟩ := h
    have hsub := sub_enumerate
    have q1 : ∀ {A' : Around} {E : Value → Shared → Prop} {Q : Value → Shared → Prop}, Q (.ref hp.objs.size) ⟨hp.push o, g, d, tk, os⟩ → wpAny (model prog w) A' (pyIter v) Q E ⟨hp, g, d, tk, os⟩ :=
      fun q => B.iter prog w _ _ ⟨hp, g, d, tk, os⟩ _ h1 q
    wp_walk using q1
    refine wpAny_stack_any fun st => wpAny_pure ?_
    split
    · rename_i c _ _ _ _ _
      cases (c == Value.type "enumerate")
      · wp_walk using q1
        exact ⟨_, rfl, h⟩
      · wp_walk using q1
        exact ⟨_, rfl, h⟩
    · wp_walk using q1
      exact ⟨_, rfl, h⟩
section
variable {prog : Program} {w : World} {A : Around} {E : Value → Shared → Prop} {s : Shared}
theorem call_enumerate_one {v : Value} {o : Obj} {H : Heap → Prop} {Q : Value → Shared → Prop} (B : Begins v o H) (h1 : H s.heap)
    (h : ∀ h', IsEnum h' (s.heap.objs.size + 1) s.heap.objs.size 0 .none → h'.get? s.heap.objs.size = some o → h'.objs.size = s.heap.objs.size + 2 →
      (∀ b o, s.heap.get? b = some o → h'.get? b = some o) → Q (.ref (s.heap.objs.size + 1)) { s with heap := h' }) :
    wpAny (model prog w) A (call (.type "enumerate") [v]) Q E s := by
  refine callType_new F.called_enumerate (by decide) (F.typeCall_enumerate_1 _) (F.newCall_enumerate_1 _) (fun obj => F.args_object_init_2 obj _) F.entry_enumerate_new (meets_enumerate_one B) ⟨h1, ?_⟩
  have hz : (s.heap.push o).objs.size = s.heap.objs.size + 1 := Heap.size_push ..
  show _ ∧ _
  rw [hz]
  have he : IsEnum ((s.heap.push o).push { cls := .type "enumerate", data := .fields #[.none, .bool false, .ref s.heap.objs.size, rawInt 0, .none, .none] }) (s.heap.objs.size + 1) s.heap.objs.size 0 .none := by
    have := Heap.get?_push_size (s.heap.push o) (o := { cls := .type "enumerate", data := .fields #[.none, .bool false, .ref s.heap.objs.size, rawInt 0, .none, .none] }) rfl
    rw [hz] at this; exact this
  exact ⟨⟨_, he, rfl⟩, h _ he (Heap.get?_push_of_some _ (Heap.get?_push_size _ B.free)) (by rw [Heap.size_push, hz]) fun b o x => Heap.get?_push_of_some _ (Heap.get?_push_of_some _ x)⟩
end
end GE
namespace G
open PySem PySem.Spec PyProof.Rows L2 GE
/-- the tuple at a, each item in a new pair -/
def IteT (K : PySem.W.Frag) (a : Addr) : It :=
  ⟨fun i H => ∃ (xs : List V) (x : V), SqT K H a xs ∧ xs[i]? = some x, fun i H v H' => ∃ T x, v = .ref T ∧ H T = none ∧ H' = upd H T (.tup [.int (i : Nat), x]) ∧ ∀ xs, SqT K H a xs → xs[i]? = some x, fun i H => ∃ xs : List V, SqT K H a xs ∧ xs.length ≤ i⟩
theorem turn_enumT {P : Program} {w : World} {K : PySem.W.Frag} {elts : List Expr} {kk : Nat} {tpos : Pos} (a e it : Addr) :
    Turn P w K (.Tuple elts kk tpos) (IteT K a) [e, it] e (fun i h => (∃ old, IsEnum h e it ((i : Nat) : Int) old) ∧ h.IsTupleIter it a i ∧ e ≠ it ∧ a ≠ it ∧ e ≠ a) where
  mem := by simp
  obj := fun i h st b hb => by
    obtain ⟨⟨old, he⟩, ⟨o, ho, hc, hd⟩, _⟩ := st
    have e' : b = e ∨ b = it := by simpa using hb
    rcases e' with z | z
    · rw [z]; exact ⟨_, he, fun v q => nomatch q⟩
    · rw [z]; exact ⟨o, ho, fun v q => by rw [hd] at q; cases q⟩
  keep := fun i h h' st k => let ⟨⟨old, he⟩, hi, hne⟩ := st; ⟨⟨old, k e (by simp) _ he⟩, hi.at fun o q => k it (by simp) o q, hne⟩
  item := by
    intro X hP hw hK hc i pins s σ H E I hf st hg
    subst hP hw hK
    obtain ⟨⟨old, he⟩, hit, hne, hai, hea⟩ := st
    obtain ⟨xs, x, hq, hx⟩ := hg
    obtain ⟨its, rv, p, hz⟩ := I.tuple hq
    obtain ⟨u, hu, ru⟩ := rv.get hx
    have hel : e < s.heap.objs.size := Heap.lt_size he
    have hil : it < s.heap.objs.size := by obtain ⟨_, q, _⟩ := hit; exact Heap.lt_size q
    have hlt : i < its.toArray.size := by
      rcases Nat.lt_or_ge i its.length with z | z
      · simpa using z
      · rw [List.getElem?_eq_none z] at hu; cases hu
    have D : Draws X.prog X.w X.A.in1 it [it, a] its.toArray.size (fun i v => its.toArray[i]? = some v) (fun i h => h.IsTupleIter it a i ∧ h.IsTuple a its.toArray) := Draws.tuple (A := X.A.in1) (I.ok.hd hc) it a hai its.toArray
    refine wpAny_pyNext_enum_itemD D he ⟨hit, p⟩ hlt hne (by simp [hne, hea]) fun x' h' tk hP ho hst hT hsz hk => ?_
    have hxu : x' = u := by
      have : its[i]? = some x' := by simpa using hP
      rw [hu] at this; cases this; rfl
    subst hxu
    refine ⟨_, rfl, wpAny_letOwnedTupleGo_enum (s := { s with heap := h', toks := tk + 1 }) ho fun h'' he' sb => ?_⟩
    have hT2 : h''.get? s.heap.objs.size = some { cls := .type "tuple", data := .seq #[.int i tk, x'] } := (sb.2 _ (Nat.ne_of_gt hel)).trans hT
    have new : ObjOk X.prog X.w (upd H s.heap.objs.size (.tup [.int (i : Nat), x])) h'' s.heap.objs.size (.tup [.int (i : Nat), x]) :=
      ⟨by show 2 ≤ sizeLine; decide, [.int i tk, x'], .cons ⟨_, rfl⟩ (.cons ru .nil), ⟨_, hT2, rfl, _, rfl⟩⟩
    have I1 : Inv X pins σ (upd H s.heap.objs.size (.tup [.int (i : Nat), x])) { s with heap := h'', toks := tk + 1 } :=
      I.turnedNew (ch := [e, it]) (fun b ob hb q => (sb.2 b (fun z => hb (by simp [z]))).trans (hk b ob (fun z => hb (by simp [z])) (fun z => hb (by simp [z])) q)) hf (Nat.le_refl _) new
    refine ⟨.ref s.heap.objs.size, _, I1, rfl, ⟨_, x, rfl, I.hok.fresh (Nat.le_refl _), rfl, fun ys hy => by rw [I.tuple_inj hy hq]; exact hx⟩, ⟨⟨x', ?_⟩, hst.1.at fun o q => (sb.2 it (Ne.symm hne)).trans q, hne, hai, hea⟩, fun b hb => ?_⟩
    · have e1 : ((i + 1 : Nat) : Int) = (i : Int) + 1 := by omega
      rw [e1]; exact he'
    · have hb' : b < s.heap.objs.size := by
        have e' : b = e ∨ b = it := by simpa using hb
        rcases e' with z | z
        · rw [z]; exact hel
        · rw [z]; exact hil
      rw [upd_ne (Nat.ne_of_lt hb')]
      exact (hf b hb).1
  done := by
    intro X hP hw hK hc i pins s σ H E I hf st hg
    subst hP hw hK
    obtain ⟨⟨old, he⟩, hit, hne, hai, hea⟩ := st
    obtain ⟨xs, hq, hx⟩ := hg
    obtain ⟨its, rv, p, hz⟩ := I.tuple hq
    obtain ⟨f0, f1, f2, f3, f4, f5⟩ := hf it (by simp)
    have hl := rv.length
    have D : Draws X.prog X.w X.A.in1 it [it, a] i (fun _ _ => True) (fun j h => j = i ∧ h.IsTupleIter it a i ∧ h.IsTuple a its.toArray) := {
      live := fun _ _ st => let ⟨o, ho, _⟩ := st.2.1; ⟨o, ho⟩
      frame := fun _ _ _ st hk => ⟨st.1, st.2.1.at fun o e => hk it (by simp) o e, st.2.2.at fun o e => hk a (by simp) o e⟩
      item := fun j s Q E hj st hQ => absurd st.1 (Nat.ne_of_lt hj)
      done := fun s Q E st hE => wpAny_nextOf_tuple_end (A := X.A.in1) (I.ok.hd hc) st.2.1 st.2.2 (by simp; omega) hE }
    exact wpAny_pyNext_enum_endD D he ⟨rfl, hit, p⟩ fun h' eb => ⟨rfl, I.turned (t' := s.toks) (fun b o hb q => eb b o hb q) f0 f1 f3 f4 f5⟩
  self := fun A i s Q E st h => let ⟨⟨_, he⟩, _⟩ := st; wpAny_pyIter_enum he h
def iEnumA (K : PySem.W.Frag) (ta : TA) : TI := fun σ H R => ta σ H fun vs H1 => ∃ a xs, vs = [.ref a] ∧ ((SqL K H1 a xs ∧ R (Ite K a) H1) ∨ (SqT K H1 a xs ∧ R (IteT K a) H1))
theorem pi_enumA {X : Cx} {e : Expr} {ta : TA} {p pos tpos : Pos} {elts : List Expr} {kk : Nat} (hg : Gl X "enumerate") (hm : X.mg "enumerate" = none) (ha : PA X [e] ta) (hs : starEach [e] X.env = [(false, eval e X.env)] := by rfl) :
    PI X (.Tuple elts kk tpos) (.Call (.Name "enumerate" p) [e] [] pos) (iEnumA X.K ta) := by
  refine ⟨fun pins s σ H R I h => ?_⟩
  refine Call_ (ld_blt I hg hm boot_enumerate (PyProof.Rows.callWith_type1 (thn (ha.run pos pins s σ H _ I h) fun us s1 ⟨vs, H1, I1, r1, q1⟩ => ?_) hs rfl))
  obtain ⟨a, xs, ex, q1⟩ := q1
  subst ex
  cases r1 with
  | cons r rr =>
    cases rr
    cases r
    rcases q1 with q1 | q1
    · obtain ⟨hq, q⟩ := q1
      obtain ⟨its, rv, p', hz⟩ := I1.list hq
      refine call_enumerate_list p'.isList fun h' he hit hsz hk => wpAny_pyIter_enum he ?_
      have I2 : Inv X pins σ H1 { s1 with heap := h' } := I1.kept (t' := s1.toks) hk
      refine ⟨s1.heap.objs.size + 1, [s1.heap.objs.size + 1, s1.heap.objs.size], _, _, H1, rfl, I2, turn_enum a (s1.heap.objs.size + 1) s1.heap.objs.size, ⟨⟨.none, he⟩, hit, Nat.succ_ne_self _⟩, fun b hb => ?_, q⟩
      have e' : b = s1.heap.objs.size + 1 ∨ b = s1.heap.objs.size := by simpa using hb
      have hle : s1.heap.objs.size ≤ b := by
        rcases e' with z | z
        · rw [z]; exact Nat.le_add_right _ _
        · rw [z]; exact Nat.le_refl _
      exact I1.fpOk hle (I1.hok.fresh hle)
    · obtain ⟨hq, q⟩ := q1
      obtain ⟨its, rv, p', hz⟩ := I1.tuple hq
      have hal : a < s1.heap.objs.size := by obtain ⟨_, z, _⟩ := p'; exact Heap.lt_size z
      refine call_enumerate_one (begins_tuple a its.toArray) p' fun h' he hit hsz hk => wpAny_pyIter_enum he ?_
      have I2 : Inv X pins σ H1 { s1 with heap := h' } := I1.kept (t' := s1.toks) hk
      refine ⟨s1.heap.objs.size + 1, [s1.heap.objs.size + 1, s1.heap.objs.size], _, _, H1, rfl, I2, turn_enumT a (s1.heap.objs.size + 1) s1.heap.objs.size, ⟨⟨.none, he⟩, ⟨_, hit, rfl, rfl⟩, Nat.succ_ne_self _, Nat.ne_of_lt hal, (Nat.ne_of_lt (Nat.lt_succ_of_lt hal)).symm⟩, fun b hb => ?_, q⟩
      have e' : b = s1.heap.objs.size + 1 ∨ b = s1.heap.objs.size := by simpa using hb
      have hle : s1.heap.objs.size ≤ b := by
        rcases e' with z | z
        · rw [z]; exact Nat.le_add_right _ _
        · rw [z]; exact Nat.le_refl _
      exact I1.fpOk hle (I1.hok.fresh hle)
end G

set_option Elab.async false
set_option linter.all false
set_option maxRecDepth 100000
set_option maxHeartbeats 1000000
/-! G: tuples without a dict of their own (so that their methods are found); x.index(y) on a list or a tuple. -/
namespace G
open PySem L2 PySem.Spec PyProof.Rows
section
variable {X : Cx}
/-- a tuple that is known to have no dict of its own -/
def SqU (K : PySem.W.Frag) (H : Hp) (a : Addr) (xs : List V) : Prop := (∃ o : Obj, o.dict = none ∧ H a = some (.frz o (.tup xs))) ∨
  ∃ (o : Obj) (its : Array Value) (n : Nat), K.lookup a = some o ∧ o.dict = none ∧ o.cls = .type "tuple" ∧ o.data = .seq its n ∧ its.size ≤ sizeLine ∧ Vals xs its.toList
theorem SqU.sqT {K : PySem.W.Frag} {H : Hp} {a : Addr} {xs : List V} (h : SqU K H a xs) : SqT K H a xs := by
  rcases h with ⟨o, _, h⟩ | ⟨o, its, n, h1, _, h2, h3, h4, h5⟩
  · exact .inl (.inr ⟨o, h⟩)
  · exact .inr ⟨o, its, n, h1, h2, h3, h4, h5⟩
def tupOb (us : List Value) : Obj := { cls := .type "tuple", data := .seq us.toArray }
/-- what a new tuple gives -/
def NewU (H : Hp) (Q : VK) (xs : List V) : Prop := ∀ (o : Obj) (p : Addr), o.dict = none → H p = none → Q (.ref p) (upd H p (.frz o (.tup xs)))
theorem laidU {pins : List (Addr × Obj)} {σ : L2.St} {H : Hp} {s : Shared} {Q : VK} {xs : List V} {us : List Value} {t' : Nat} (I : L2.Inv X pins σ H s) (hz : xs.length ≤ sizeLine) (rv : Vals xs us) (q : NewU H Q xs) :
    EP X pins σ Q (.ref s.heap.objs.size) { s with heap := s.heap.push (tupOb us), toks := t' } := by
  have nw : H s.heap.objs.size = none := I.hok.fresh (Nat.le_refl _)
  have gt : (s.heap.push (tupOb us)).get? s.heap.objs.size = some (tupOb us) := Heap.get?_push_size _ rfl
  refine ⟨.ref s.heap.objs.size, upd H s.heap.objs.size (.frz (tupOb us) (.tup xs)), ?_, rfl, q _ _ rfl nw⟩
  refine I.laid (t' := t') (h' := s.heap.push (tupOb us)) (fun b ob z => Heap.get?_push_of_some _ z) (Nat.le_refl _) ?_
  exact ⟨gt, hz, us, rv, ⟨_, gt, rfl, 0, rfl⟩⟩
def tTupU (t : TA) : TE := fun σ H Q => t σ H fun xs H1 => xs.length ≤ sizeLine ∧ NewU H1 Q xs
theorem pe_tupU {es : List Expr} {t : TA} {k : Nat} {pos : Pos} (h : PA X es t) : PE X (.Tuple es k pos) (tTupU t) := by
  constructor
  intro pins s σ H Q I hq
  exact wpAny_Tuple_spliced (thn (h.run pos pins s σ H _ I hq) fun us s1 ⟨xs, H1, I1, rv, hz, q⟩ => ⟨rv.length ▸ hz, laidU (t' := s1.toks) I1 hz rv q⟩)
/-- t[lo:hi] -/
def rSlU (K : PySem.W.Frag) : V → Option Int → Option Int → Hp → VK → Prop := fun x lo hi H Q => ∃ a xs, x = .ref a ∧ SqT K H a xs ∧
  (HT.sIx xs.length 0 lo = 0 ∧ HT.sIx xs.length xs.length hi = xs.length → Q (.ref a) H) ∧ (¬ (HT.sIx xs.length 0 lo = 0 ∧ HT.sIx xs.length xs.length hi = xs.length) → NewU H Q (cutV xs lo hi))
theorem sl_tupU : SlR X (rSlU X.K) := by
  intro pins s σ H x v vl vu lo hi sl Q I rx hs pl pu ⟨a, xs, e, hx, q1, q2⟩
  subst e
  by_cases hw : HT.sIx xs.length 0 lo = 0 ∧ HT.sIx xs.length xs.length hi = xs.length
  · exact sl_tupA pins s σ H _ v vl vu lo hi sl Q I rx hs pl pu ⟨a, xs, rfl, hx, q1, fun z => (z hw).elim⟩
  · cases rx
    obtain ⟨us, rv, tu, hz⟩ := I.tuple hx
    have ln : us.toArray.size = xs.length := by rw [List.size_toArray, rv.length]
    refine ⟨"tuple", _, PyProof.Rows.slot_tuple_getitem.lookup, tu.typeIs, ?_⟩
    refine HT.getItem_tuple_cut tu hs pl pu (ln.symm ▸ hw) ?_ (ln.symm ▸ hz)
    rw [ln]
    exact laidU (t' := s.toks) I (Nat.le_trans (cutV_length xs lo hi) hz) ((rv.drop _).take _) (q2 hw)
/-- t + u -/
def rCatU (K : PySem.W.Frag) : R2 := fun x y H Q => ∃ a b xs ys, x = .ref a ∧ y = .ref b ∧ SqT K H a xs ∧ SqT K H b ys ∧ xs.length + ys.length ≤ sizeLine ∧
  (xs = [] → Q (.ref b) H) ∧ (xs ≠ [] → ys = [] → Q (.ref a) H) ∧ (xs ≠ [] → ys ≠ [] → NewU H Q (xs ++ ys))
theorem op_catU : OpR X (binaryOp .Add) (rCatU X.K) := by
  intro pins s σ H x y v u Q I rx ry ⟨a, b, xs, ys, e1, e2, ha, hb, hz, q0, q1, q2⟩
  subst e1 e2
  by_cases hx : xs = []
  · exact op_catA pins s σ H _ _ v u Q I rx ry ⟨a, b, xs, ys, rfl, rfl, ha, hb, hz, q0, q1, fun z => (z hx).elim⟩
  · by_cases hy : ys = []
    · exact op_catA pins s σ H _ _ v u Q I rx ry ⟨a, b, xs, ys, rfl, rfl, ha, hb, hz, q0, q1, fun _ z => (z hy).elim⟩
    · cases rx; cases ry
      obtain ⟨us, r1, t1, _⟩ := I.tuple ha
      obtain ⟨ws, r2, t2, _⟩ := I.tuple hb
      have hz' : us.length + ws.length ≤ sizeLine := by rw [← r1.length, ← r2.length]; exact hz
      exact HT.cat_tup t1 t2 (fun z => hx (r1.nil_iff.mp z)) (fun z => (hy (r2.nil_iff.mp z)).elim) (fun _ => laidU (t' := s.toks) I (by rw [List.length_append]; exact hz) (r1.append r2) (q2 hx hy)) hz'
/-- tuple(x) -/
theorem call_tupleU : CallR X (.type "tuple") (fun xs H Q => ∃ p ys, xs = [.ref p] ∧ ((SqL X.K H p ys ∧ NewU H Q ys) ∨ (SqT X.K H p ys ∧ Q (.ref p) H))) := by
  intro pins s σ H xs us Q I r ⟨p, ys, e, h⟩
  subst e
  rcases h with ⟨hq, q⟩ | h
  · obtain ⟨u, rfl, ru⟩ := vals1 r
    cases ru
    obtain ⟨ws, rw', pl, hz⟩ := I.list hq
    refine call_tuple_list pl.isList (fun h' kp => ?_) (by rw [List.size_toArray, ← rw'.length]; exact hz)
    exact laidU (t' := s.toks) (I.kept (t' := s.toks) kp) hz rw' q
  · exact call_tuple_of pins s σ H _ us Q I r ⟨p, ys, rfl, .inr h⟩
/-- t * k -/
def rRepU (K : PySem.W.Frag) : R2 := fun x y H Q => ∃ l k xs, x = .ref l ∧ y = .int k ∧ SqT K H l xs ∧ xs ≠ [] ∧ 2 ≤ k ∧ k ≤ 1000 ∧ xs.length ≤ 1000 ∧ NewU H Q (List.replicate k.toNat xs).flatten
theorem op_repU : OpR X (binaryOp .Mult) (rRepU X.K) := by
  intro pins s σ H x y v u Q I rx ry ⟨l, k, xs, e1, e2, hT, ne, h1, h2, hz, q⟩
  subst e1 e2
  cases rx
  obtain ⟨t, rfl⟩ := ry
  obtain ⟨us, rv, ⟨⟨cls, dd, data, sl⟩, ho, hc, n, hd⟩, _⟩ := I.tuple hT
  dsimp only at hc hd
  subst hc hd
  have ln := rv.length
  have nn : us ≠ [] := fun e => by
    subst e
    exact ne (List.eq_nil_of_length_eq_zero (by simpa using ln))
  have em : us.toArray.isEmpty = false := by
    cases us with
    | nil => exact (nn rfl).elim
    | cons _ _ => rfl
  have sz : us.toArray.size = xs.length := by rw [List.size_toArray, ln]
  have big : ((us.toArray.size : Nat) : Int) * k ≤ 1000000 := by
    rw [sz]
    have := Int.mul_le_mul_of_nonneg_right (a := ((xs.length : Nat) : Int)) (b := 1000) (c := k) (by omega) (by omega)
    omega
  have fl : ∀ {α : Type} (m : List α), m.length = xs.length → (List.replicate k.toNat m).flatten.length ≤ sizeLine := fun m hm => by
    rw [PyProof.Rows.lm_len_rep_flat, hm, sizeLine_eq]
    have := Nat.mul_le_mul (show k.toNat ≤ 1000 by omega) hz
    omega
  have d0 : (decide (k < -(2 ^ 63)) || decide (k ≥ 2 ^ 63)) = false := by simp only [Bool.or_eq_false_iff, decide_eq_false_iff_not]; omega
  have d1 : (us.toArray.isEmpty || k == 1) = false := by rw [em]; simp only [Bool.false_or, beq_eq_false_iff_ne]; omega
  have d2 : (decide (k ≤ 0) || us.toArray.isEmpty) = false := by rw [em]; simp only [Bool.or_false, decide_eq_false_iff_not]; omega
  have d4 : Builtin.Tuple.tupleTooMany (((us.toArray.size : Nat) : Int) * k) = false := by
    show decide _ = false
    rw [sizeLine_eq]
    simp only [decide_eq_false_iff_not]
    omega
  have go := tuple_mulW l us.toArray n dd sl k t d0 d1 d2 (by omega) d4 (by rw [size_rep, List.size_toArray]; exact fl us ln.symm)
  rw [size_rep] at go
  refine wpAny_binaryOp_repeat_ref (T := "tuple") (U := "int") (by decide) ⟨_, ho, rfl⟩ (fun s' => typeIs_int s' k t) noFill_tuple_mul F.fills_int_mul F.slot_int_rmul repeat_tuple F.slot_int_index.lookup
    (call_meets F.slot_int_rmul (typeIs_int s k t) F.entry_int_rmul (F.args_int_rmul_2 _ _) (int_rmul_tuple k t l us.toArray n dd sl) ?_)
  refine ⟨ho, rfl, ⟨_, ho, rfl⟩, ?_⟩
  refine call_meets F.slot_tuple_mul ⟨_, ho, rfl⟩ F.entry_tuple_mul (F.args_tuple_mul_2 _ _) go ⟨ho, ?_⟩
  exact laidU (t' := s.toks) I (fl xs rfl) (rv.rep k.toNat) q
def rIndexT (K : PySem.W.Frag) : V → List V → Hp → VK → Prop := fun x xs H Q => ∃ (a : Addr) (ys : List V) (y : V) (j : Nat) (z : V), x = V.ref a ∧ xs = [y] ∧ SqT K H a ys ∧ flatV y = true ∧ ys.all flatV = true ∧ ys[j]? = some z ∧ eqV z y = true ∧
  (∀ (m : Nat) (z' : V), m < j → ys[m]? = some z' → eqV z' y = false) ∧ Q (.int (j : Nat)) H
theorem mt_indexT : MtR X "tuple.index" (rIndexT X.K) := by
  intro pins s σ H x xs v us Q I rx rxs ⟨a, ys, y, j, z, ex, exs, hs, fy, fys, hz, hzj, hno, q⟩
  subst ex exs
  cases rx
  obtain ⟨uy, rfl, ry⟩ := Vals.one rxs
  obtain ⟨ws, rv, ⟨⟨cls, dd, data, sl⟩, ho, hc, n, hd⟩, _⟩ := I.tuple hs
  dsimp only at hc hd
  subst hc hd
  have ln : ws.toArray.size = ys.length := by rw [List.size_toArray, rv.length]
  have hj : j < ws.toArray.size := ln ▸ (List.getElem?_eq_some_iff.mp hz).1
  have each : ∀ (m : Nat) (hm : m < ws.toArray.size), ∃ w, ys[m]? = some w ∧ RelV w ws.toArray[m] := fun m hm => by
    have lt : m < ys.length := ln ▸ hm
    obtain ⟨w, hw, r'⟩ := rv.get (i := m) (x := ys[m]) (by simp [lt])
    have e : ws.toArray[m] = w := by simpa using (List.getElem?_eq_some_iff.mp hw).2
    exact ⟨ys[m], List.getElem?_eq_getElem lt, e.symm ▸ r'⟩
  refine call_meets PySem.F.slot_tuple_index ⟨_, ho, rfl⟩ PySem.F.entry_tuple_index (PySem.F.args_tuple_index_2 _ _) (TI.tuple_indexAt a ws.toArray n dd sl uy (eqU y) j hj ?_ ?_) ?_
  · obtain ⟨w, h1, h2⟩ := each j hj
    cases hz.symm.trans h1
    exact (eqU_of h2 (flat_at fys hz)).trans hzj
  · intro m hm hmj
    obtain ⟨w, h1, h2⟩ := each m hm
    exact (eqU_of h2 (flat_at fys h1)).trans (hno m w hmj h1)
  · exact ⟨ho, fun w hw => mem_eqAt ry fy rv fys w (by simpa using hw), ⟨.int (j : Nat), H, I.tok _, ⟨_, rfl⟩, q⟩⟩
variable {o e : Expr} {es : List Expr} {to : TE} {t : TA} {name : Str} {apos cpos : Pos} {T id id' : String} {r r' : V → List V → Hp → VK → Prop}
/-- a method of a list or of a tuple: which of them tells the receiver -/
def tBMor (K : PySem.W.Frag) (T : String) (r r' : V → List V → Hp → VK → Prop) (to : TE) (t : TA) : TE := fun σ H Q => to σ H fun x H1 => (tyV K T x H1 ∧ t σ H1 fun xs H2 => r x xs H2 Q) ∨ ((∃ a ys, x = V.ref a ∧ SqU K H1 a ys) ∧ t σ H1 fun xs H2 => r' x xs H2 Q)
theorem tup_is {pins : List (Addr × Obj)} {σ : L2.St} {H : Hp} {s : Shared} {x : V} {v : Value} (I : L2.Inv X pins σ H s) (rx : L2.RelV x v) (ty : ∃ a ys, x = V.ref a ∧ SqU X.K H a ys) :
    s.TypeIs v "tuple" ∧ ∀ a, v = .ref a → ∃ ob, s.heap.get? a = some ob ∧ ob.dict = none := by
  obtain ⟨a, ys, rfl, hs⟩ := ty
  cases rx
  rcases hs with ⟨o, hn, h⟩ | ⟨o, its, n, h1, hn, h2, _⟩
  · obtain ⟨g, _, us, _, ⟨o', g', hc, _⟩⟩ := I.hok a _ h
    cases g.symm.trans g'
    exact ⟨⟨o, g, hc⟩, fun b e => by cases e; exact ⟨o, g, hn⟩⟩
  · have g := I.kIn a o h1
    exact ⟨⟨o, g, h2⟩, fun b e => by cases e; exact ⟨o, g, hn⟩⟩
theorem pe_bmor (pa : PlainAttrs T) (slot : Slot T name id) (hty : typeOf (.builtin id) = pure (.type "method_descriptor")) (hm : MtR X id r) (pa' : PlainAttrs "tuple") (slot' : Slot "tuple" name id') (hty' : typeOf (.builtin id') = pure (.type "method_descriptor")) (hm' : MtR X id' r') (ho : PE X o to) (ha : PA X (e :: es) t)
    (base : attributeBase o name X.env (eval o X.env) = eval o X.env)
    (few : ((backTo cpos (starEach (e :: es) X.env)).all (fun x => !x.1) && (backToKw cpos (keywordEach [] X.env)).all (fun x => x.1.isSome) && decide ((e :: es).length + ([] : List Keyword).length + (if ([] : List Keyword).isEmpty then 0 else 1) < 30)) = true)
    (line : (apos.endLine == cpos.line) = true) (hs : starEach (e :: es) X.env = (false, eval e X.env) :: starEach es X.env) (plain : (backTo cpos (starEach es X.env)).any (·.1) = false) :
    PE X (.Call (.Attribute o name apos) (e :: es) [] cpos) (tBMor X.K T r r' to t) := by
  constructor
  intro pins s σ H Q I h
  refine wpAny_Call_method_late base few line rfl (thn (ho.run pins s σ H _ I h) fun v s1 ⟨x, H1, I1, r1, q1⟩ => ?_)
  rcases q1 with ⟨ty, q1⟩ | ⟨ty, q1⟩
  · obtain ⟨k1, k2⟩ := tyV_is I1 r1 ty
    have hA := ha.run cpos pins s1 σ H1 (fun xs H2 => r x xs H2 Q) I1 q1
    refine ⟨T, id, pa, slot, hty, k1, k2, ?_⟩
    rw [hs] at hA ⊢
    exact Calls.callWith_builtin (show (false || (backTo cpos (starEach es X.env)).any (fun z => z.1)) = false from plain) (Calls.evalArgs_plain (thn hA fun us s2 ⟨vs, H2, I2, r2, q2⟩ => hm pins s2 σ H2 x vs v us Q I2 r1 r2 q2))
  · obtain ⟨k1, k2⟩ := tup_is I1 r1 ty
    have hA := ha.run cpos pins s1 σ H1 (fun xs H2 => r' x xs H2 Q) I1 q1
    refine ⟨"tuple", id', pa', slot', hty', k1, k2, ?_⟩
    rw [hs] at hA ⊢
    exact Calls.callWith_builtin (show (false || (backTo cpos (starEach es X.env)).any (fun z => z.1)) = false from plain) (Calls.evalArgs_plain (thn hA fun us s2 ⟨vs, H2, I2, r2, q2⟩ => hm' pins s2 σ H2 x vs v us Q I2 r1 r2 q2))
end
end G

set_option Elab.async false
set_option linter.all false
set_option maxRecDepth 100000
set_option maxHeartbeats 1000000
/-! G: x[::-1] of a list or a tuple. -/
namespace G
open PySem L2 PySem.Spec PyProof.Rows HT
section
variable {prog : Program} {w : World} {A : Around} {E : Value → Shared → Prop} {s : Shared}
theorem applied_back {sl : Addr} {vs : Value} {n : Nat} {Q : Int × Int × Nat → Shared → Prop} (hs : s.heap.IsSliceOf sl .none .none vs) (ps : IsPart vs (some (-1)))
    (h : Q ((n : Int) - 1, -1, n) s) : wpAny (model prog w) A (Builtin.Slice.sliceApplied (.ref sl) (pure (n : Int))) Q E s := by
  obtain ⟨ob, ho, hc, hd⟩ := id hs
  unfold Builtin.Slice.sliceApplied Builtin.Slice.sliceFields
  refine wpAny_bind (wpAny_bind (wpAny_field ho hd (x := .none) rfl (wpAny_bind (wpAny_field ho hd (x := .none) rfl (wpAny_bind (wpAny_field ho hd (x := vs) rfl (wpAny_pure ?_)))))))
  refine wpAny_bind (slicePart_ ps ?_)
  show wpAny _ _ (if ((-1 : Int) == 0) = true then _ else _) _ _ s
  rw [if_neg (by decide)]
  refine wpAny_bind (slicePart_none (wpAny_bind (slicePart_none (wpAny_bind (wpAny_pure ?_)))))
  show wpAny _ _ (pure ((n : Int) - 1, (-1 : Int), Builtin.Slice.slicePlaces ((n : Int) - 1) (-1) (-1))) _ _ s
  have e : Builtin.Slice.slicePlaces ((n : Int) - 1) (-1) (-1) = n := by
    unfold Builtin.Slice.slicePlaces
    rw [if_neg (by decide)]
    by_cases z : n = 0
    · subst z; rfl
    · rw [if_pos (by omega)]
      have : ((n : Int) - 1 - -1 - 1) / - -1 + 1 = n := by
        rw [show (- -1 : Int) = 1 from rfl, Int.ediv_one]; omega
      rw [this]; exact Int.toNat_natCast n
  rw [e]
  exact wpAny_pure h
theorem fm_congr {α β : Type} {f g : α → Option β} : ∀ {l : List α}, (∀ a, a ∈ l → f a = g a) → l.filterMap f = l.filterMap g
  | [], _ => rfl
  | a :: l, h => by rw [List.filterMap_cons, List.filterMap_cons, h a List.mem_cons_self, fm_congr fun b hb => h b (List.mem_cons_of_mem _ hb)]
theorem pick_back (xs : Array Value) : ((List.range xs.size).filterMap fun (m : Nat) => xs[(((xs.size : Nat) : Int) - 1 + (m : Int) * -1).toNat]?).toArray = xs.toList.reverse.toArray := by
  congr 1
  have e : ∀ m, m ∈ List.range xs.size → xs[(((xs.size : Nat) : Int) - 1 + (m : Int) * -1).toNat]? = xs[xs.size - 1 - m]? := fun m hm => by
    have := List.mem_range.mp hm
    congr 1
    omega
  rw [fm_congr e]
  have h := PySem.W.krv_range xs.size
  have h2 := PySem.W.krv_all xs
  rw [show (fun m => xs[xs.size - 1 - m]?) = (fun k => xs[k]?) ∘ fun m => xs.size - 1 - m from rfl, ← List.filterMap_map, h, List.filterMap_reverse, h2]
theorem getItem_tuple_back {t sl : Addr} {items : Array Value} {vs : Value} {Q : Value → Shared → Prop} (ht : IsTup s.heap t items) (hs : s.heap.IsSliceOf sl .none .none vs) (ps : IsPart vs (some (-1)))
    (h : Q (.ref s.heap.objs.size) { s with heap := s.heap.push (tupOb items.toList.reverse) }) (hsz : items.size ≤ sizeLine) : wpAny (model prog w) A (getItem (.ref t) (.ref sl)) Q E s := by
  have fits : sizeOk (.seq (items.toList.reverse).toArray) := by
    show (items.toList.reverse).toArray.size ≤ sizeLine
    rw [List.size_toArray, List.length_reverse, Array.length_toList]; exact hsz
  obtain ⟨ob, ho, hc, hd⟩ := id hs
  have tS : s.TypeIs (.ref sl) "slice" := ⟨ob, ho, hc⟩
  unfold getItem
  try with_reducible refine wpAny_holding ?_
  first | refine wpAny_bind (wpAny_pure ?_) | skip
  refine wpAny_bind (wpAny_sequenceKey ht.typeIs (by decide) ?_)
  refine wpAny_bind (wpAny_callSpecial?_slot (name := Str.ofString "__getitem__") ht.typeIs PyProof.Rows.slot_tuple_getitem (wpAny_call_entry PyProof.Rows.slot_tuple_getitem ht.typeIs entry_tuple_getitem ?_ (args_tuple_getitem _ _)))
  show wpAny _ _ (Builtin.Tuple.tupleItemsOf (.ref t) >>= _) _ _ s
  refine wpAny_bind (tupleItemsOf_ ht (wpAny_bind (wpAny_typeOf tS ?_)))
  rw [if_pos (by decide)]
  refine wpAny_bind (applied_back hs ps ?_)
  show wpAny _ _ (if ((((items.size : Nat) : Int) - 1 == 0 && (-1 : Int) == 1 && items.size == items.size)) = true then _ else _) _ _ s
  have no : ¬ ((((items.size : Nat) : Int) - 1 == 0 && (-1 : Int) == 1 && items.size == items.size)) = true := by
    rw [show ((-1 : Int) == 1) = false from rfl, Bool.and_false, Bool.false_and]; decide
  rw [if_neg no, pick_back]
  first
    | exact wpAny_bind (m := Builtin.Tuple.tupleExact _) (wpAny_newObj_type (wpAny_pure ⟨_, rfl, wpAny_pure h⟩) fits)
    | exact wpAny_bind (m := Builtin.Tuple.tupleExact _) (wpAny_newObj_type (wpAny_bind (wpAny_pure (wpAny_pure ⟨_, rfl, wpAny_pure h⟩))) fits)
    | exact wpAny_bind (wpAny_bind (m := Builtin.Tuple.tupleExact _) (wpAny_newObj_type (wpAny_pure (wpAny_pure ⟨_, rfl, wpAny_pure h⟩)) fits))
    | exact wpAny_bind (wpAny_bind (m := Builtin.Tuple.tupleExact _) (wpAny_newObj_type (wpAny_pure ⟨_, rfl, wpAny_pure h⟩) fits))
end
section
variable {X : Cx}
def tBack (K : PySem.W.Frag) (te : TE) : TE := fun σ H Q => te σ H fun x H1 => (∃ a xs, x = .ref a ∧ SqL K H1 a xs ∧ ∀ p, H1 p = none → Q (.ref p) (upd H1 p (.lst xs.reverse))) ∨ (∃ a xs, x = .ref a ∧ SqT K H1 a xs ∧ NewU H1 Q xs.reverse)
theorem pe_back {e : Expr} {te : TE} {k : Nat} {p1 p2 p3 pos : Pos} (he : PE X e te) : PE X (.Subscript e (.Slice none none (some (.UnaryOp .USub (.Constant (.int 1) k p1) p2)) p3) pos) (tBack X.K te) := by
  constructor
  intro pins s σ H Q I h
  refine Subscript_ (thn (he.run pins s σ H _ I h) fun v s1 ⟨x, H1, I1, r1, q1⟩ => ?_)
  have part : PO X (some (.UnaryOp .USub (.Constant (.int 1) k p1) p2)) (tPart (tUn (rU fun i => .int (-i)) (tC (.int 1)))) := po_some (pe_un un_neg pe_int)
  refine wpAny_Slice (thn (po_none.run pins s1 σ H1 (fun o H2 => o = none ∧ H2 = H1) I1 ⟨rfl, rfl⟩) fun vl s2 ⟨l, H2, I2, pl, el, e2⟩ => ?_)
  subst el; subst e2
  refine thn (po_none.run pins s2 σ H2 (fun o H3 => o = none ∧ H3 = H2) I2 ⟨rfl, rfl⟩) fun vu s3 ⟨u, H3, I3, pu, eu, e3⟩ => ?_
  subst eu; subst e3
  refine thn (part.run pins s3 σ H3 (fun o H4 => o = some (-1) ∧ H4 = H3) I3 ⟨1, rfl, -1, rfl, rfl, rfl⟩) fun vs s4 ⟨o, H4, I4, ps, eo, e4⟩ => ?_
  subst eo; subst e4
  have I5 : L2.Inv X pins σ H4 { s4 with heap := s4.heap.push { cls := .type "slice", data := .fields #[vl, vu, vs] } } := I4.kept (t' := s4.toks) fun b ob q => Heap.get?_push_of_some _ q
  rcases q1 with ⟨a, xs, ex, hx, q⟩ | ⟨a, xs, ex, hx, q⟩
  · subst ex
    cases r1
    obtain ⟨us, rv, ht, hz⟩ := I5.list hx
    have ln := rv.length
    refine tail_any (ops := [.ref a, .ref s4.heap.objs.size]) ht.isList.typeIs PySem.slot_list_getitem.lookup ?_ (by with_unfolding_all rfl)
    refine wpAny_getItem_list_slice ht.isList (Heap.IsSliceOf.new _ vl vu vs) pl pu ps (by decide) ?_ (by rw [List.size_toArray]; omega)
    rw [PySem.W.krv_pick]
    have nw := I5.hok.fresh (Nat.le_refl _)
    refine ⟨.ref _, _, I5.laid (t' := s4.toks) (o := .lst xs.reverse) (fun b ob z => Heap.get?_push_of_some _ z) (Nat.le_refl _) ?_, rfl, q _ nw⟩
    exact ⟨by rw [List.length_reverse]; exact hz, _, 0, rv.reverse, Heap.get?_push_size _ rfl⟩
  · subst ex
    cases r1
    cases pl
    cases pu
    obtain ⟨us, rv, ht, hz⟩ := I5.tuple hx
    have ln := rv.length
    refine tail_any (ops := [.ref a, .ref s4.heap.objs.size]) ht.typeIs PyProof.Rows.slot_tuple_getitem.lookup ?_ (by with_unfolding_all rfl)
    refine getItem_tuple_back ht (Heap.IsSliceOf.new _ .none .none vs) ps ?_ (by rw [List.size_toArray]; omega)
    exact laidU (t' := s4.toks) I5 (by rw [List.length_reverse]; exact hz) rv.reverse q
end
end G

set_option Elab.async false
set_option linter.all false
set_option maxRecDepth 100000
/-! G: a pure evaluator for a fragment of Python: values as trees, variables that own their lists; part 1: the evaluator. -/
namespace G
open PySem L2

/-- a value, whole -/
inductive D where
  | non | bl (b : Bool) | int (i : Int) | str (s : Str)
  | tup (l : List D) | lst (l : List D)
  /-- a list that is locked (the script) -/
  | frz (l : List D)
  /-- a dict by asInts and texts -/
  | dic (l : List (Key × D))
  /-- a dict by tuples of such -/
  | dct (l : List (List Key × D))
  /-- an instance: its class, its fields -/
  | obj (c : Str) (fs : List (Str × D))
  deriving Inhabited

mutual
def toPD : D → Option PyData
  | .non => some .none
  | .bl b => some (.bool b)
  | .int i => some (.int i)
  | .str s => some (.str s)
  | .tup l => (toPDs l).map .tuple
  | .lst l => (toPDs l).map .list
  | _ => none
def toPDs : List D → Option (List PyData)
  | [] => some []
  | d :: r => match toPD d, toPDs r with
    | some x, some xs => some (x :: xs)
    | _, _ => none
end
/-- == of data -/
def eqD (d e : D) : Option Bool := match toPD d, toPD e with
  | some a, some b => if SeqAt.shaped a && SeqAt.shaped b then some (PyData.eqv a b) else none
  | _, _ => none

/-- kinds that isinstance asks for -/
inductive Ty where
  | bool | int | str | dict | tuple | list
  deriving DecidableEq
def Ty.name : Ty → String
  | .bool => "bool" | .int => "int" | .str => "str" | .dict => "dict" | .tuple => "tuple" | .list => "list"
/-- the built-in type of a value (an instance has none) -/
def D.ty : D → Option String
  | .non => some "NoneType" | .bl _ => some "bool" | .int _ => some "int" | .str _ => some "str" | .tup _ => some "tuple"
  | .lst _ => some "list" | .frz _ => some "list" | .dic _ => some "dict" | .dct _ => some "dict" | .obj _ _ => none
def isTy (d : D) (t : Ty) : Bool := match d, t with
  | .bl _, .bool => true | .bl _, .int => true | .int _, .int => true | .str _, .str => true | .tup _, .tuple => true
  | .lst _, .list => true | .frz _, .list => true | .dic _, .dict => true | .dct _, .dict => true | _, _ => false

inductive P1 where
  | len | int | str | neg | tuple | list | isNone | notNone | all | any | maxL | minL | sumL
  | isT (t : Ty) | isT2 (t u : Ty)
  /-- is True, is False -/
  | isB (b : Bool) | isNB (b : Bool)
  /-- x[::-1] -/
  | back
inductive P2 where
  | add | sub | mul | fdiv | mod | pow | shl | shr | bor | band
  | eq | ne | lt | le | gt | ge | inn | notIn
  | get | max2 | min2 | index | sfrom | sto
  | iadd | isub
inductive P3 where
  | slice | getOr
  /-- l.index(x) -/
  | idx
/-- changes of an owned list -/
inductive MOp where
  | append | pop | popAt | insert | extend
inductive TG where
  | name (i : Nat)
  | tup (l : List Nat)

mutual
inductive CE where
  | stuck
  | const (d : D)
  | glob (x : Str)
  | var (i : Nat)
  | p1 (o : P1) (a : CE)
  | p2 (o : P2) (a b : CE)
  | p3 (o : P3) (a b c : CE)
  | andE (a b : CE) | orE (a b : CE) | notE (a : CE)
  | ifE (t a b : CE)
  | chain (o o' : P2) (a b c : CE)
  | tup (l : CEs) | lst (l : CEs)
  /-- a dict display, its keys written -/
  | dic (ks : List Key) (l : CEs)
  /-- dict(zip(a, b)) -/
  | dictZip (l : CEs)
  | call (f : Str) (l : CEs)
  | mut (i : Nat) (m : MOp) (l : CEs)
  | comp (vs : List Nat) (tg : TG) (it : CI) (elt : CE)
  | compIf (vs : List Nat) (tg : TG) (it : CI) (cond elt : CE)
  /-- a comprehension over a variable that keeps its list -/
  | compO (vs : List Nat) (tg : TG) (i : Nat) (elt : CE)
  | compOIf (vs : List Nat) (tg : TG) (i : Nat) (cond elt : CE)
  | comp2 (vs : List Nat) (tg : TG) (it : CI) (vs1 : List Nat) (tg1 : TG) (it1 : CI) (elt : CE)
  | comp2If (vs : List Nat) (tg : TG) (it : CI) (vs1 : List Nat) (tg1 : TG) (it1 : CI) (cond elt : CE)
  /-- _law_tried(lambda: a) -/
  | tried (a : CE)
inductive CEs where
  | nil
  | cons (a : CE) (r : CEs)
/-- what a for walks -/
inductive CI where
  | val (a : CE)
  | rng1 (a : CE) | rng2 (a b : CE)
  | rng3 (a b c : CE)
  | rev (a : CE)
  | enum (a : CE)
  | zip (a b : CE)
end
mutual
inductive CS where
  | stuck
  | pass
  | asg (i : Nat) (e : CE)
  | asgT (l : List Nat) (e : CE)
  | setI (i : Nat) (k e : CE)
  | expr (e : CE)
  | ret (e : CE)
  | retN
  | ifS (c : CE) (a b : CSs)
  | forS (tg : TG) (it : CI) (b : CSs)
  | whileS (c : CE) (b : CSs)
  | brk | cont
  /-- raise c(l), its fields fs -/
  | raise (c : Str) (fs : List Str) (l : CEs)
inductive CSs where
  | nil
  | cons (a : CS) (r : CSs)
end
/-- a def: its slots, its parameters (which of them are lent), its body -/
structure CFn where
  slots : Nat
  lent : List Bool
  body : CSs

/-! ### results -/
/-- an exception: its class, its fields -/
structure Ex where
  cls : Str
  fs : List (Str × D)
inductive R (α : Type) where
  | ok (a : α) | exc (x : Ex) | stuck
def R.bind {α β : Type} (r : R α) (f : α → R β) : R β := match r with
  | .ok a => f a
  | .exc x => .exc x
  | .stuck => .stuck
def R.of {α : Type} : Option α → R α
  | some a => .ok a
  | none => .stuck
def R.wp {α : Type} (r : R α) (Q : α → Prop) (E : Ex → Prop) : Prop := match r with
  | .ok a => Q a
  | .exc x => E x
  | .stuck => False
theorem R.wp_bind {α β : Type} {r : R α} {f : α → R β} {Q : β → Prop} {E : Ex → Prop} : (r.bind f).wp Q E ↔ r.wp (fun a => (f a).wp Q E) E := by
  cases r <;> exact Iff.rfl
theorem R.wp_mono {α : Type} {r : R α} {Q Q' : α → Prop} {E E' : Ex → Prop} (h : r.wp Q E) (hq : ∀ a, Q a → Q' a) (he : ∀ x, E x → E' x) : r.wp Q' E' := by
  cases r with
  | ok a => exact hq a h
  | exc x => exact he x h
  | stuck => exact h
theorem R.wp_of {α : Type} {o : Option α} {Q : α → Prop} {E : Ex → Prop} : (R.of o).wp Q E ↔ ∃ a, o = some a ∧ Q a := by
  cases o with
  | none => exact ⟨fun h => h.elim, fun ⟨_, h, _⟩ => nomatch h⟩
  | some a => exact ⟨fun h => ⟨a, rfl, h⟩, fun ⟨b, h, q⟩ => by cases h; exact q⟩

/-! ### slots -/
inductive Sl where
  | no | val (d : D) | own (d : D)
  deriving Inhabited
abbrev Env' := List Sl
/-- the result of an expression: a value, a new object, an owned variable -/
inductive Rv where
  | val (d : D) | fresh (d : D) | slot (i : Nat)
def Rv.cont (env : List Sl) : Rv → Option D
  | .val d => some d
  | .fresh d => some d
  | .slot i => match env[i]? with
    | some (.own d) => some d
    | some (.val d) => some d
    | _ => none
/-- let a value go where others may hold it -/
def Rv.freeze (env : List Sl) : Rv → Option (D × List Sl)
  | .val d => some (d, env)
  | .fresh d => some (d, env)
  | .slot i => match env[i]? with
    | some (.own d) => some (d, env.set i (.val d))
    | some (.val d) => some (d, env)
    | _ => none
def freezeAll (env : List Sl) : List Rv → Option (List D × List Sl)
  | [] => some ([], env)
  | r :: rs => match r.freeze env with
    | some (d, env1) => match freezeAll env1 rs with
      | some (ds, env2) => some (d :: ds, env2)
      | none => none
    | none => none
def conts (env : List Sl) : List Rv → Option (List D)
  | [] => some []
  | r :: rs => match r.cont env, conts env rs with
    | some d, some ds => some (d :: ds)
    | _, _ => none

/-! ### operations -/
def truth : D → Option Bool
  | .non => some false
  | .bl b => some b
  | .int i => some (i != 0)
  | .str s => if s.length ≤ sizeLine then some (s.length != 0) else none
  | .tup l => some (!l.isEmpty)
  | .lst l => some (!l.isEmpty)
  | .frz l => some (!l.isEmpty)
  | .dic l => some (!l.isEmpty)
  | _ => none
def isScal : D → Bool
  | .non => true | .bl _ => true | .int _ => true | .str _ => true | _ => false
def asInts : List D → Option (List Int)
  | [] => some []
  | .int i :: r => (asInts r).map (i :: ·)
  | _ => none
def asBools : List D → Option (List Bool)
  | [] => some []
  | .bl i :: r => (asBools r).map (i :: ·)
  | _ => none
def tyOp (d : D) (f : Bool → Bool) (t : Ty) : Option Rv := match d.ty with
  | some _ => some (.val (.bl (f (isTy d t))))
  | none => none
/-- the place of the greatest, least: by the built-in's own walk only its value is told -/
def maxI (i : Int) (l : List Int) : Int := l.foldl (fun a b => if b > a then b else a) i
def minI (i : Int) (l : List Int) : Int := l.foldl (fun a b => if b < a then b else a) i
def items : D → Option (List D)
  | .tup l => some l
  | .lst l => some l
  | .frz l => some l
  | _ => none
def prim1 : P1 → D → Option Rv
  | .len, .str s => if s.length ≤ sizeLine then some (.val (.int s.length)) else none
  | .len, .tup l => some (.val (.int l.length))
  | .len, .lst l => some (.val (.int l.length))
  | .len, .frz l => some (.val (.int l.length))
  | .len, .dic l => some (.val (.int l.length))
  | .int, .int i => some (.val (.int i))
  | .int, .bl b => some (.val (.int (if b then 1 else 0)))
  | .str, .str s => some (.val (.str s))
  | .str, .int i => if i.natAbs.log2 < 1920 then some (.val (.str (toString i))) else none
  | .neg, .int i => some (.val (.int (-i)))
  | .tuple, .tup l => some (.val (.tup l))
  | .tuple, .lst l => some (.val (.tup l))
  | .tuple, .frz l => some (.val (.tup l))
  | .list, .tup l => some (.fresh (.lst l))
  | .list, .lst l => some (.fresh (.lst l))
  | .list, .frz l => some (.fresh (.lst l))
  | .isNone, .non => some (.val (.bl true))
  | .isNone, _ => some (.val (.bl false))
  | .notNone, .non => some (.val (.bl false))
  | .notNone, _ => some (.val (.bl true))
  | .isB b, .bl a => some (.val (.bl (a == b)))
  | .isB _, .non => some (.val (.bl false))
  | .isNB b, .bl a => some (.val (.bl (!(a == b))))
  | .isNB _, .non => some (.val (.bl true))
  | .back, .tup l => some (.val (.tup l.reverse))
  | .back, .lst l => some (.fresh (.lst l.reverse))
  | .back, .frz l => some (.fresh (.lst l.reverse))
  | .all, .lst l => (asBools l).map fun bs => .val (.bl (bs.all id))
  | .any, .lst l => (asBools l).map fun bs => .val (.bl (bs.any id))
  | .sumL, .lst l => (asInts l).map fun is => .val (.int is.sum)
  | .maxL, .lst l => match asInts l with
    | some (i :: is) => some (.val (.int (maxI i is)))
    | _ => none
  | .minL, .lst l => match asInts l with
    | some (i :: is) => some (.val (.int (minI i is)))
    | _ => none
  | .isT t, d => match d.ty with
    | some _ => some (.val (.bl (isTy d t)))
    | none => none
  | .isT2 t u, d => match d.ty with
    | some _ => some (.val (.bl (isTy d t || isTy d u)))
    | none => none
  | _, _ => none
/-- a key of a dict -/
def toKey : D → Option Key
  | .int i => some (.inl i)
  | .str s => some (.inr s)
  | _ => none
def lookK (k : Key) : List (Key × D) → Option D
  | [] => none
  | (j, d) :: r => if j = k then some d else lookK k r
def putKD (l : List (Key × D)) (k : Key) (d : D) : List (Key × D) :=
  if (l.any fun kv => decide (kv.1 = k)) = true then l.map (fun kv => if kv.1 = k then (kv.1, d) else kv) else l ++ [(k, d)]
def ixOf (n : Nat) (i : Int) : Option Nat := if 0 ≤ i then (if i < n then some i.toNat else none) else if -(n : Int) ≤ i then some (i + n).toNat else none
def getD (l : List D) (i : Int) : Option D := (ixOf l.length i).bind fun j => l[j]?
/-- flat values, told apart as == does -/
def flatD : D → Bool
  | .non => true | .bl _ => true | .int _ => true | .str _ => true | _ => false
def eqF : D → D → Bool
  | .non, .non => true
  | .bl a, .bl b => a == b
  | .bl a, .int j => (if a then 1 else 0) == j
  | .int i, .bl b => i == (if b then 1 else 0)
  | .int i, .int j => i == j
  | .str x, .str y => x == y
  | _, _ => false
def inD (x : D) : D → Option Bool
  | .tup l => if flatD x && l.all flatD then some (l.any fun y => eqF y x) else
      match toPD x, toPDs l with
      | some a, some bs => if SeqAt.shaped a && SeqAt.shaped (.list bs) then some (bs.any fun z => PyData.eqv z a) else none
      | _, _ => none
  | .lst l => if flatD x && l.all flatD then some (l.any fun y => eqF y x) else
      match toPD x, toPDs l with
      | some a, some bs => if SeqAt.shaped a && SeqAt.shaped (.list bs) then some (bs.any fun z => PyData.eqv z a) else none
      | _, _ => none
  | .str z => match x with
    | .str c => if c.length = 1 then some (decide (c.cps.getD 0 0 ∈ z.cps.toList)) else none
    | _ => none
  | .dic l => (toKey x).map fun k => (lookK k l).isSome
  | _ => none
/-- the first place of an equal flat item -/
def indexF (x : D) : List D → Option Nat
  | [] => none
  | y :: r => if eqF y x then some 0 else (indexF x r).map (· + 1)
def smallMul (i j : Int) : Bool := (decide (-(2 ^ 64) < i) && decide (i < 2 ^ 64)) || (decide (-(2 ^ 64) < j) && decide (j < 2 ^ 64))
def boolR (b : Option Bool) : Option Rv := b.map fun b => .val (.bl b)
def cutL {α : Type} (l : List α) (lo hi : Option Int) : List α := (l.drop (HT.sIx l.length 0 lo)).take (HT.sIx l.length l.length hi - HT.sIx l.length 0 lo)
def sliceD (d : D) (lo hi : Option Int) : Option Rv := match d with
  | .tup l => some (.val (.tup (cutL l lo hi)))
  | .lst l => some (.fresh (.lst (cutL l lo hi)))
  | .str s => if s.length ≤ sizeLine then some (.val (.str ⟨(cutL s.cps.toList lo hi).toArray⟩)) else none
  | _ => none
def prim2 : P2 → D → D → Option Rv
  | .add, .int i, .int j => some (.val (.int (i + j)))
  | .add, .str x, .str y => if x.length + y.length ≤ sizeLine then some (.val (.str (x ++ y))) else none
  | .add, .tup x, .tup y => if x.length + y.length ≤ sizeLine then some (.val (.tup (x ++ y))) else none
  | .add, .lst x, .lst y => if x.length + y.length ≤ sizeLine then some (.fresh (.lst (x ++ y))) else none
  | .sub, .int i, .int j => some (.val (.int (i - j)))
  | .iadd, .int i, .int j => some (.val (.int (i + j)))
  | .isub, .int i, .int j => some (.val (.int (i - j)))
  | .mul, .int i, .int j => if smallMul i j then some (.val (.int (i * j))) else none
  | .mul, .tup x, .int k => if k ≤ 1000 ∧ -(2 ^ 63) ≤ k ∧ x.length ≤ 1000 then some (.val (.tup (List.replicate k.toNat x).flatten)) else none
  | .mul, .lst x, .int k => if -(2 ^ 63) ≤ k ∧ k < 2 ^ 63 ∧ x.length * k.toNat ≤ sizeLine then some (.fresh (.lst (List.replicate k.toNat x).flatten)) else none
  | .mul, .str x, .int k => if -(2 ^ 63) ≤ k ∧ k < 2 ^ 63 ∧ x.length * k.toNat ≤ sizeLine then some (.val (.str (Txt.mul x k))) else none
  | .fdiv, .int i, .int j => if 0 < j ∧ j < 2 ^ 64 then some (.val (.int (i / j))) else none
  | .mod, .int i, .int j => if 0 < j then some (.val (.int (i % j))) else none
  | .pow, .int i, .int j => if 0 ≤ j ∧ j ≤ 1000 ∧ i.natAbs < 2 ^ 64 then some (.val (.int (i ^ j.toNat))) else none
  | .shl, .int i, .int j => if 0 ≤ j ∧ j ≤ 1000 ∧ i.natAbs < 2 ^ 64 then some (.val (.int (i * 2 ^ j.toNat))) else none
  | .shr, .int i, .int j => if 0 ≤ j then some (.val (.int (i / 2 ^ j.toNat))) else none
  | .bor, .int i, .int j => some (.val (.int (Builtin.bitOr i j)))
  | .band, .int i, .int j => some (.val (.int (Builtin.bitAnd i j)))
  | .eq, d, e => boolR (eqD d e)
  | .ne, d, e => boolR ((eqD d e).map not)
  | .lt, .int i, .int j => some (.val (.bl (decide (i < j))))
  | .le, .int i, .int j => some (.val (.bl (decide (i ≤ j))))
  | .gt, .int i, .int j => some (.val (.bl (decide (j < i))))
  | .ge, .int i, .int j => some (.val (.bl (decide (j ≤ i))))
  | .inn, x, l => boolR (inD x l)
  | .notIn, x, l => boolR ((inD x l).map not)
  | .get, .tup l, .int i => (getD l i).map .val
  | .get, .lst l, .int i => (getD l i).map .val
  | .get, .frz l, .int i => (getD l i).map .val
  | .get, .str s, .int i => if s.length ≤ sizeLine then (ixOf s.cps.toList.length i).bind fun j => (s.cps.toList[j]?).map fun c => .val (.str ⟨#[c]⟩) else none
  | .get, .dic l, k => (toKey k).bind fun k => (lookK k l).map .val
  | .max2, .int i, .int j => some (.val (.int (if j > i then j else i)))
  | .min2, .int i, .int j => some (.val (.int (if j < i then j else i)))
  | .sfrom, d, .int i => sliceD d (some i) none
  | .sto, d, .int i => sliceD d none (some i)
  | .index, .lst l, x => if flatD x && l.all flatD then (indexF x l).map fun j => .val (.int j) else none
  | _, _, _ => none
/-- the Bool: the first part was a tuple -/
def prim3 : P3 → Bool → D → D → D → Option Rv
  | .slice, _, d, .int lo, .int hi => sliceD d (some lo) (some hi)
  | .getOr, _, .dic l, k, x => if isScal x then (toKey k).map fun k => .val ((lookK k l).getD x) else none
  | .idx, false, .lst l, x, _ => if flatD x && l.all flatD then (indexF x l).map fun (j : Nat) => .val (.int j) else none
  | .idx, true, .tup l, x, _ => if flatD x && l.all flatD then (indexF x l).map fun (j : Nat) => .val (.int j) else none
  | _, _, _, _, _ => none
/-- what must be known of the first part ahead of the others -/
def pre3 : P3 → D → Option Bool
  | .getOr, .dic _ => some false
  | .slice, _ => some false
  | .idx, .lst _ => some false
  | .idx, .tup _ => some true
  | _, _ => none
def pre3b : P3 → D → Option Unit
  | .getOr, _ => some ()
  | .slice, .int _ => some ()
  | .idx, _ => some ()
  | _, _ => none
/-- an owned object stands there -/
def ownX (env : List Sl) (i : Nat) : Option Unit := match env[i]? with
  | some (.own _) => some ()
  | _ => none
/-- an owned list stands there -/
def ownL (env : List Sl) (i : Nat) : Option Unit := match env[i]? with
  | some (.own (.lst _)) => some ()
  | _ => none
def mkDic (ks : List Key) (ds : List D) : Option (List (Key × D)) :=
  if ks.length = ds.length ∧ ds.length ≤ 15 then some ((ks.zip ds).foldl (fun acc kv => putKD acc kv.1 kv.2) []) else none
def keysD : List D → Option (List Key)
  | [] => some []
  | d :: r => match toKey d, keysD r with
    | some k, some ks => some (k :: ks)
    | _, _ => none
/-- dict(zip(ks, ds)), of two tuples -/
def dicZip : List D → Option (List (Key × D))
  | [.tup ks, .tup ds] => (keysD ks).map fun k => (k.zip ds).foldl (fun acc kv => putKD acc kv.1 kv.2) []
  | _ => none
/-- a change: the new content, the answer -/
def mutate : MOp → D → List D → Option (D × D)
  | .append, .lst l, [x] => if l.length < sizeLine then some (.lst (l ++ [x]), .non) else none
  | .pop, .lst l, [] => match l[l.length - 1]? with
    | some x => some (.lst l.dropLast, x)
    | none => none
  | .popAt, .lst l, [.int i] => if -(2 ^ 63) ≤ i ∧ i < 2 ^ 63 then
      (ixOf l.length i).bind fun k => (l[k]?).map fun x => (.lst (l.eraseIdx k), x) else none
  | .insert, .lst l, [.int i, x] => if 0 ≤ i ∧ i ≤ l.length ∧ l.length < sizeLine then some (.lst (l.take i.toNat ++ x :: l.drop i.toNat), .non) else none
  | _, _, _ => none
def setAt : D → D → D → Option D
  | .lst l, .int k, x => (ixOf l.length k).map fun j => .lst (l.set j x)
  | .dic l, k, x => if l.length < sizeLine then (toKey k).map fun k => .dic (putKD l k x) else none
  | _, _, _ => none

/-! ### the evaluator -/
/-- what a call gives: whether the result is a new object, the result, the lent variables behind it -/
abbrev Out := Bool × D × List Sl
structure Ctx where
  fns : Str → Option CFn
  globs : Str → Option D
  fuel : Nat
  run : Str → List D → R Out
  /-- for what a lambda calls: two levels below -/
  runL : Str → List D → R Out
def R.calm {α : Type} : R α → R α
  | .ok a => .ok a
  | _ => .stuck
def ownable : D → Bool
  | .lst _ => true | .dic _ => true | .dct _ => true | .obj _ _ => true | _ => false
/-- every lent parameter is still its caller's -/
def lentOwn : List Bool → List Sl → Bool
  | [], _ => true
  | true :: ls, .own _ :: env => lentOwn ls env
  | false :: ls, _ :: env => lentOwn ls env
  | _, _ => false
/-- a plain value stored at a name -/
def store (lent : List Bool) (i : Nat) (x : Sl) (env : List Sl) : Option (List Sl) := if i < env.length ∧ lent.getD i false = false then some (env.set i x) else none
def storeAll (lent : List Bool) : List Nat → List D → List Sl → Option (List Sl)
  | [], [], env => some env
  | i :: is, d :: ds, env => match store lent i (.val d) env with
    | some env1 => storeAll lent is ds env1
    | none => none
  | _, _, _ => none
def assignT (lent : List Bool) : TG → D → List Sl → Option (List Sl)
  | .name i, d, env => store lent i (.val d) env
  | .tup is, .tup ds, env => storeAll lent is ds env
  | _, _, _ => none
def wipeE (env : List Sl) : List Nat → List Sl
  | [] => env
  | v :: vs => (wipeE env vs).set v .no
def restoreE (env0 env : List Sl) : List Nat → List Sl
  | [] => env
  | v :: vs => (restoreE env0 env vs).set v (env0.getD v .no)
def tgSlots : TG → List Nat
  | .name i => [i]
  | .tup l => l
/-- a comprehension's names: no owned object stands there, the targets are among them -/
def compOk (env : List Sl) (vs : List Nat) (tg : TG) (n : Nat) : Option Unit :=
  if (vs.all fun v => match env[v]? with | some (.own _) => false | _ => true) && ((tgSlots tg).all fun i => vs.contains i) && decide (n ≤ sizeLine) then some () else none
def rngD (lo : Int) (n : Nat) : List D := (List.range n).map fun (k : Nat) => D.int (lo + (k : Int))
/-- n numbers from lo on, by steps of c -/
def rngC (lo c : Int) (n : Nat) : List D := (List.range n).map fun (k : Nat) => D.int (lo + (k : Int) * c)
/-- pairs of two lists, of two tuples -/
def zipD : List D → List D → List D
  | d :: l, e :: m => D.tup [d, e] :: zipD l m
  | _, _ => []
def zipOk : D → D → Option (List D)
  | .tup l, .tup m => some (zipD l m)
  | .lst l, .lst m => some (zipD l m)
  | _, _ => none
def enumD : Nat → List D → List D
  | _, [] => []
  | k, d :: r => D.tup [.int k, d] :: enumD (k + 1) r
def walkable : D → Option (List D)
  | .tup l => some l
  | .lst l => some l
  | .frz l => some l
  | .str s => some (s.cps.toList.map fun c => .str ⟨#[c]⟩)
  | _ => none
def enumable : D → Option (List D)
  | .tup l => some l
  | .lst l => some l
  | .frz l => some l
  | _ => none
def compL (step : D → List Sl → R (Option D × List Sl)) : List D → List Sl → R (List D × List Sl)
  | [], env => .ok ([], env)
  | d :: ds, env => (step d env).bind fun p => (compL step ds p.2).bind fun q => .ok (p.1.toList ++ q.1, q.2)
/-- the outer clause of two: each turn gives a list -/
def compLL (step : D → List Sl → R (List D × List Sl)) : List D → List Sl → R (List D × List Sl)
  | [], env => .ok ([], env)
  | d :: ds, env => (step d env).bind fun p => (compLL step ds p.2).bind fun q => .ok (p.1 ++ q.1, q.2)
/-- the second clause's names -/
def compOk1 (vs vs1 : List Nat) (tg1 : TG) : Option Unit := if (vs1.all fun i => vs.contains i) && (tgSlots tg1).all fun i => vs1.contains i then some () else none
def notIn1 (i : Nat) (vs : List Nat) : Option Unit := if vs.contains i then none else some ()
def fewer (l : List D) : Option Unit := if l.length ≤ sizeLine then some () else none
inductive Fl where
  | next | brk | cont | ret (own : Bool) (d : D)
def forL (step : D → List Sl → R (Fl × List Sl)) : List D → List Sl → R (Fl × List Sl)
  | [], env => .ok (.next, env)
  | d :: ds, env => (step d env).bind fun p => match p.1 with
    | .brk => .ok (.next, p.2)
    | .ret o d => .ok (.ret o d, p.2)
    | _ => forL step ds p.2
def whileL (c : List Sl → R (Bool × List Sl)) (b : List Sl → R (Fl × List Sl)) : Nat → List Sl → R (Fl × List Sl)
  | 0, _ => .stuck
  | n + 1, env => (c env).bind fun p => if p.1 = true then (b p.2).bind fun q => match q.1 with
      | .brk => .ok (.next, q.2)
      | .ret o d => .ok (.ret o d, q.2)
      | _ => whileL c b n q.2
    else .ok (.next, p.2)
/-- the arguments that are not lent are let go -/
def passVals : List Bool → List Rv → List Sl → Option (List Sl)
  | [], [], env => some env
  | true :: ls, _ :: rs, env => passVals ls rs env
  | false :: ls, r :: rs, env => match r.freeze env with
    | some (_, env1) => passVals ls rs env1
    | none => none
  | _, _, _ => none
/-- the slots that are lent -/
def lentSlots : List Bool → List Rv → List Sl → Option (List Nat)
  | [], [], _ => some []
  | true :: ls, .slot i :: rs, env => match env[i]? with
    | some (.own _) => (lentSlots ls rs env).map (i :: ·)
    | _ => none
  | false :: ls, _ :: rs, env => lentSlots ls rs env
  | _, _, _ => none
def putBack : List Nat → List Sl → List Sl → Option (List Sl)
  | [], [], env => some env
  | i :: is, x :: xs, env => putBack is xs (env.set i x)
  | _, _, _ => none
def callFn (C : Ctx) (f : Str) (rs : List Rv) (env : List Sl) : R (Rv × List Sl) := match C.fns f with
  | none => .stuck
  | some fn => match passVals fn.lent rs env with
    | none => .stuck
    | some env1 => match conts env1 rs, lentSlots fn.lent rs env1 with
      | some ds, some is => if is.Nodup then
          (C.run f ds).bind fun q => match putBack is q.2.2 (if is.isEmpty && isScal q.2.1 then env else env1) with
            | some env2 => .ok (if q.1 then .fresh q.2.1 else .val q.2.1, env2)
            | none => .stuck
          else .stuck
      | _, _ => .stuck
/-- in a test: the truth -/
def fin (t : Bool) (r : Rv) (env : List Sl) : R (Rv × List Sl) := if t then (R.of ((r.cont env).bind truth)).bind fun b => .ok (.val (.bl b), env) else .ok (r, env)
def asB : Rv → Option Bool
  | .val (.bl b) => some b
  | _ => none

/-- the program's errors, their fields -/
def errRows : List (Str × List Str) := [("BadText", ["at"]), ("Malformed", ["what"]), ("Misnamed", ["name"]), ("Doubled", ["name"]), ("Unknown", ["name"]), ("TooMany", ["what", "limit"]), ("Ring", ["names"]),
  ("Unlawful", ["choice"]), ("NotAllowed", ["order"]), ("NotOne", ["fault"]), ("Shared", ["name"]), ("Unlike", ["what"]), ("Forced", ["option"])]
def errFs (c : Str) : Option (List Str) := errRows.lookup c
/-- what _law_tried tells of an error -/
def told (x : Ex) : D := .tup [.str "refused", .str x.cls, .tup (x.fs.map (·.2))]
/-- the variables that own nothing -/
def hideSl : Sl → Sl
  | .own _ => .no
  | x => x
/-- for a lambda's body -/
def Ctx.low (C : Ctx) : Ctx := ⟨C.fns, C.globs, C.fuel, C.runL, fun _ _ => .stuck⟩
def triR : R (Rv × List Sl) → R D
  | .ok p => match p.1.freeze p.2 with
    | some q => .ok (.tup [.str "right", q.1])
    | none => .stuck
  | .exc x => if errFs x.cls = some (x.fs.map (·.1)) then .ok (told x) else .stuck
  | .stuck => .stuck
mutual
/-- t: as a test -/
def evalE (C : Ctx) : Bool → CE → List Sl → R (Rv × List Sl)
  | _, .stuck, _ => .stuck
  | t, .const d, env => fin t (.val d) env
  | t, .glob x, env => (R.of (C.globs x)).bind fun d => fin t (.val d) env
  | t, .var i, env => match env[i]? with
    | some (.val d) => fin t (.val d) env
    | some (.own _) => fin t (.slot i) env
    | _ => .stuck
  | t, .p1 o a, env => (evalE C false a env).bind fun p => (R.of ((p.1.cont p.2).bind (prim1 o))).bind fun v => fin t v p.2
  | t, .p2 o a b, env => (evalE C false a env).bind fun p => (evalE C false b p.2).bind fun q =>
      (R.of ((p.1.cont q.2).bind fun d => (q.1.cont q.2).bind fun e => prim2 o d e)).bind fun v => fin t v q.2
  | t, .p3 o a b c, env => (evalE C false a env).bind fun p => (R.of ((p.1.cont p.2).bind (pre3 o))).bind fun k3 => (evalE C false b p.2).bind fun q => (R.of ((q.1.cont q.2).bind (pre3b o))).bind fun _ => (evalE C false c q.2).bind fun r =>
      (R.of ((p.1.cont r.2).bind fun d => (q.1.cont r.2).bind fun e => (r.1.cont r.2).bind fun f => prim3 o k3 d e f)).bind fun v => fin t v r.2
  | t, .andE a b, env => (evalE C t a env).bind fun p => (R.of (asB p.1)).bind fun x => if x then evalE C t b p.2 else .ok (.val (.bl false), p.2)
  | t, .orE a b, env => (evalE C t a env).bind fun p => (R.of (asB p.1)).bind fun x => if x then .ok (.val (.bl true), p.2) else evalE C t b p.2
  | t, .notE a, env => (evalE C t a env).bind fun p => (R.of ((p.1.cont p.2).bind truth)).bind fun x => .ok (.val (.bl (!x)), p.2)
  | t, .ifE c a b, env => (evalE C true c env).bind fun p => (R.of (asB p.1)).bind fun x => if x then evalE C t a p.2 else evalE C t b p.2
  | t, .chain o o' a b c, env => (evalE C false a env).bind fun p => (evalE C false b p.2).bind fun q =>
      (R.of ((p.1.cont q.2).bind fun d => (q.1.cont q.2).bind fun e => (prim2 o d e).bind asB)).bind fun x =>
      if x then (evalE C false c q.2).bind fun r => (R.of ((q.1.cont r.2).bind fun e => (r.1.cont r.2).bind fun f => prim2 o' e f)).bind fun v => fin t v r.2
      else .ok (.val (.bl false), q.2)
  | t, .tup l, env => (evalEs C l env).bind fun p => (R.of (freezeAll p.2 p.1)).bind fun q => fin t (.val (.tup q.1)) q.2
  | t, .lst l, env => (evalEs C l env).bind fun p => (R.of (freezeAll p.2 p.1)).bind fun q => fin t (.fresh (.lst q.1)) q.2
  | t, .dic ks l, env => (evalEs C l env).bind fun p => (R.of (freezeAll p.2 p.1)).bind fun q => (R.of (mkDic ks q.1)).bind fun d => fin t (.fresh (.dic d)) q.2
  | t, .dictZip l, env => (evalEs C l env).bind fun p => (R.of (freezeAll p.2 p.1)).bind fun q => (R.of (dicZip q.1)).bind fun d => fin t (.fresh (.dic d)) q.2
  | t, .call f l, env => (evalEs C l env).bind fun p => (callFn C f p.1 p.2).bind fun q => fin t q.1 q.2
  | t, .mut i m l, env => (R.of (ownL env i)).bind fun _ => (evalEs C l env).bind fun p => (R.of (freezeAll p.2 p.1)).bind fun q => match q.2[i]? with
    | some (.own d) => (R.of (mutate m d q.1)).bind fun z => fin t (.val z.2) (q.2.set i (.own z.1))
    | _ => .stuck
  | t, .comp vs tg it elt, env => (evalI C it env).bind fun p => (R.of (compOk p.2 vs tg p.1.length)).bind fun _ =>
      (R.calm (compL (fun d env1 => (R.of (assignT [] tg d (wipeE env1 vs))).bind fun env2 =>
        (evalE C false elt env2).bind fun z => (R.of (z.1.freeze z.2)).bind fun y => .ok (some y.1, y.2)) p.1 p.2)).bind fun q =>
      fin t (.fresh (.lst q.1)) (restoreE p.2 q.2 vs)
  | t, .compIf vs tg it cond elt, env => (evalI C it env).bind fun p => (R.of (compOk p.2 vs tg p.1.length)).bind fun _ =>
      (R.calm (compL (fun d env1 => (R.of (assignT [] tg d (wipeE env1 vs))).bind fun env2 => (evalE C true cond env2).bind fun x =>
        (R.of (asB x.1)).bind fun k => if k then (evalE C false elt x.2).bind fun z => (R.of (z.1.freeze z.2)).bind fun y => .ok (some y.1, y.2) else .ok (none, x.2)) p.1 p.2)).bind fun q =>
      fin t (.fresh (.lst q.1)) (restoreE p.2 q.2 vs)
  | t, .compO vs tg i elt, env => match env[i]? with
    | some (.own (.lst ds)) => (R.of (compOk (env.set i .no) vs tg ds.length)).bind fun _ => (R.of (notIn1 i vs)).bind fun _ =>
      (R.calm (compL (fun d env1 => (R.of (assignT [] tg d (wipeE env1 vs))).bind fun env2 =>
        (evalE C false elt env2).bind fun z => (R.of (z.1.freeze z.2)).bind fun y => .ok (some y.1, y.2)) ds (env.set i .no))).bind fun q =>
      fin t (.fresh (.lst q.1)) (restoreE env q.2 (i :: vs))
    | _ => .stuck
  | t, .compOIf vs tg i cond elt, env => match env[i]? with
    | some (.own (.lst ds)) => (R.of (compOk (env.set i .no) vs tg ds.length)).bind fun _ => (R.of (notIn1 i vs)).bind fun _ =>
      (R.calm (compL (fun d env1 => (R.of (assignT [] tg d (wipeE env1 vs))).bind fun env2 => (evalE C true cond env2).bind fun x =>
        (R.of (asB x.1)).bind fun k => if k then (evalE C false elt x.2).bind fun z => (R.of (z.1.freeze z.2)).bind fun y => .ok (some y.1, y.2) else .ok (none, x.2)) ds (env.set i .no))).bind fun q =>
      fin t (.fresh (.lst q.1)) (restoreE env q.2 (i :: vs))
    | _ => .stuck
  | t, .comp2 vs tg it vs1 tg1 it1 elt, env => (evalI C it env).bind fun p => (R.of (compOk p.2 vs tg p.1.length)).bind fun _ => (R.of (compOk1 vs vs1 tg1)).bind fun _ =>
      (R.calm (compLL (fun d env1 => (R.of (assignT [] tg d (wipeE env1 vs))).bind fun env2 => (evalI C it1 env2).bind fun p1 =>
        compL (fun d env3 => (R.of (assignT [] tg1 d (wipeE env3 vs1))).bind fun env4 =>
          (evalE C false elt env4).bind fun z => (R.of (z.1.freeze z.2)).bind fun y => .ok (some y.1, y.2)) p1.1 p1.2) p.1 p.2)).bind fun q =>
      (R.of (fewer q.1)).bind fun _ => fin t (.fresh (.lst q.1)) (restoreE p.2 q.2 vs)
  | t, .comp2If vs tg it vs1 tg1 it1 cond elt, env => (evalI C it env).bind fun p => (R.of (compOk p.2 vs tg p.1.length)).bind fun _ => (R.of (compOk1 vs vs1 tg1)).bind fun _ =>
      (R.calm (compLL (fun d env1 => (R.of (assignT [] tg d (wipeE env1 vs))).bind fun env2 => (evalI C it1 env2).bind fun p1 =>
        compL (fun d env3 => (R.of (assignT [] tg1 d (wipeE env3 vs1))).bind fun env4 => (evalE C true cond env4).bind fun x =>
          (R.of (asB x.1)).bind fun k => if k then (evalE C false elt x.2).bind fun z => (R.of (z.1.freeze z.2)).bind fun y => .ok (some y.1, y.2) else .ok (none, x.2)) p1.1 p1.2) p.1 p.2)).bind fun q =>
      (R.of (fewer q.1)).bind fun _ => fin t (.fresh (.lst q.1)) (restoreE p.2 q.2 vs)
  | t, .tried a, env => (triR (evalE C.low false a (env.map hideSl))).bind fun d => fin t (.val d) env
def evalEs (C : Ctx) : CEs → List Sl → R (List Rv × List Sl)
  | .nil, env => .ok ([], env)
  | .cons a r, env => (evalE C false a env).bind fun p => (evalEs C r p.2).bind fun q => .ok (p.1 :: q.1, q.2)
def evalI (C : Ctx) : CI → List Sl → R (List D × List Sl)
  | .val a, env => (evalE C false a env).bind fun p => (R.of (p.1.freeze p.2)).bind fun q => (R.of (walkable q.1)).bind fun l => .ok (l, q.2)
  | .rng1 a, env => (evalE C false a env).bind fun p => match p.1 with
    | .val (.int j) => if -(2 ^ 62) ≤ j ∧ j < 2 ^ 62 then .ok (rngD 0 j.toNat, p.2) else .stuck
    | _ => .stuck
  | .rng2 a b, env => (evalE C false a env).bind fun p => (evalE C false b p.2).bind fun q => match p.1, q.1 with
    | .val (.int i), .val (.int j) => if -(2 ^ 62) ≤ i ∧ i < 2 ^ 62 ∧ -(2 ^ 62) ≤ j ∧ j < 2 ^ 62 then .ok (rngD i (j - i).toNat, q.2) else .stuck
    | _, _ => .stuck
  | .enum a, env => (evalE C false a env).bind fun p => (R.of (p.1.freeze p.2)).bind fun q => (R.of (enumable q.1)).bind fun l => .ok (enumD 0 l, q.2)
  | .rng3 a b c, env => (evalE C false a env).bind fun p => (evalE C false b p.2).bind fun q => (evalE C false c q.2).bind fun r => match p.1, q.1, r.1 with
    | .val (.int i), .val (.int j), .val (.int k) => if k ≠ 0 ∧ k.natAbs < 1073741824 ∧ Builtin.Range.small i j k = true ∧ 0 ≤ Builtin.Range.rangeSize i j k then .ok (rngC i k (Builtin.Range.rangeSize i j k).toNat, r.2) else .stuck
    | _, _, _ => .stuck
  | .rev a, env => (evalE C false a env).bind fun p => (R.of (p.1.freeze p.2)).bind fun q => (R.of (items q.1)).bind fun l => .ok (l.reverse, q.2)
  | .zip a b, env => (evalE C false a env).bind fun p => (R.of (p.1.freeze p.2)).bind fun p' => (evalE C false b p'.2).bind fun q => (R.of (q.1.freeze q.2)).bind fun q' => (R.of (zipOk p'.1 q'.1)).bind fun l => .ok (l, q'.2)
end
mutual
def execS (C : Ctx) (lent : List Bool) : CS → List Sl → R (Fl × List Sl)
  | .stuck, _ => .stuck
  | .pass, env => .ok (.next, env)
  | .asg i e, env => (evalE C false e env).bind fun p => match p.1 with
    | .fresh d => (R.of (store lent i (.own d) p.2)).bind fun env1 => .ok (.next, env1)
    | r => (R.of (r.freeze p.2)).bind fun q => (R.of (store lent i (.val q.1) q.2)).bind fun env1 => .ok (.next, env1)
  | .asgT is e, env => (evalE C false e env).bind fun p => (R.of (p.1.freeze p.2)).bind fun q => (R.of (assignT lent (.tup is) q.1 q.2)).bind fun env1 => .ok (.next, env1)
  | .setI i k e, env => (evalE C false e env).bind fun p => (R.of (p.1.freeze p.2)).bind fun q => (R.of (ownX q.2 i)).bind fun _ => (evalE C false k q.2).bind fun r => match r.2[i]?, r.1 with
    | some (.own d), .val x => (R.of (setAt d x q.1)).bind fun d' => .ok (.next, r.2.set i (.own d'))
    | _, _ => .stuck
  | .expr e, env => (evalE C false e env).bind fun p => .ok (.next, p.2)
  | .ret e, env => (evalE C false e env).bind fun p => match p.1 with
    | .val d => .ok (.ret false d, p.2)
    | .fresh d => .ok (.ret true d, p.2)
    | .slot i => match p.2[i]? with
      | some (.own d) => if lent.getD i false = false ∧ lentOwn lent p.2 = true then .ok (.ret true d, p.2.set i .no) else .ok (.ret false d, p.2.set i (.val d))
      | some (.val d) => .ok (.ret false d, p.2)
      | _ => .stuck
  | .retN, env => .ok (.ret false .non, env)
  | .ifS c a b, env => (evalE C true c env).bind fun p => (R.of (asB p.1)).bind fun x => if x then execSs C lent a p.2 else execSs C lent b p.2
  | .forS tg it b, env => (evalI C it env).bind fun p => forL (fun d env1 => (R.of (assignT lent tg d env1)).bind fun env2 => execSs C lent b env2) p.1 p.2
  | .whileS c b, env => whileL (fun env1 => (evalE C true c env1).bind fun p => (R.of (asB p.1)).bind fun x => .ok (x, p.2)) (fun env1 => execSs C lent b env1) C.fuel env
  | .brk, env => .ok (.brk, env)
  | .cont, env => .ok (.cont, env)
  | .raise c fs l, env => (evalEs C l env).bind fun p => (R.of (freezeAll p.2 p.1)).bind fun q => if fs.length = q.1.length then .exc ⟨c, fs.zip q.1⟩ else .stuck
def execSs (C : Ctx) (lent : List Bool) : CSs → List Sl → R (Fl × List Sl)
  | .nil, env => .ok (.next, env)
  | .cons a r, env => (execS C lent a env).bind fun p => match p.1 with
    | .next => execSs C lent r p.2
    | f => .ok (f, p.2)
end
def startE : List Bool → List D → List Sl
  | _, [] => []
  | true :: ls, d :: ds => .own d :: startE ls ds
  | _ :: ls, d :: ds => .val d :: startE ls ds
  | [], d :: ds => .val d :: startE [] ds
/-- the lent parameters behind the call -/
def finals : List Bool → List Sl → Option (List Sl)
  | [], _ => some []
  | true :: ls, .own d :: env => (finals ls env).map (.own d :: ·)
  | true :: ls, .val d :: env => (finals ls env).map (.val d :: ·)
  | false :: ls, _ :: env => finals ls env
  | _, _ => none
def body (C : Ctx) (fn : CFn) (ds : List D) : R Out :=
  if ds.length = fn.lent.length then
    (execSs C fn.lent fn.body (startE fn.lent ds ++ List.replicate (fn.slots - ds.length) .no)).bind fun p => match p.1 with
      | .next => (R.of (finals fn.lent p.2)).bind fun fs => .ok (false, .non, fs)
      | .ret o d => (R.of (finals fn.lent p.2)).bind fun fs => .ok (o, d, fs)
      | _ => .stuck
  else .stuck
/-- calls, k of them one in another -/
def run3 (fns : Str → Option CFn) (globs : Str → Option D) (fuel : Nat) : Nat → (Str → List D → R Out) × (Str → List D → R Out) × (Str → List D → R Out)
  | 0 => (fun _ _ => .stuck, fun _ _ => .stuck, fun _ _ => .stuck)
  | k + 1 => (fun f ds => match fns f with
    | some fn => body ⟨fns, globs, fuel, (run3 fns globs fuel k).1, (run3 fns globs fuel k).2.2⟩ fn ds
    | none => .stuck, (run3 fns globs fuel k).1, (run3 fns globs fuel k).2.1)
def run (fns : Str → Option CFn) (globs : Str → Option D) (fuel : Nat) (k : Nat) : Str → List D → R Out := (run3 fns globs fuel k).1
def runLow (fns : Str → Option CFn) (globs : Str → Option D) (fuel : Nat) (k : Nat) : Str → List D → R Out := (run3 fns globs fuel k).2.2
theorem runLow_eq {fns : Str → Option CFn} {globs : Str → Option D} {fuel j : Nat} : runLow fns globs fuel (j + 2) = run fns globs fuel j := rfl
theorem run_eq {fns : Str → Option CFn} {globs : Str → Option D} {fuel k : Nat} {f : Str} {ds : List D} : run fns globs fuel (k + 1) f ds = match fns f with
    | some fn => body ⟨fns, globs, fuel, run fns globs fuel k, runLow fns globs fuel k⟩ fn ds
    | none => .stuck := rfl
end G

set_option Elab.async false
set_option linter.all false
set_option maxRecDepth 100000
/-! G, part 2: what values stand for in the abstract heap. -/
namespace G
open PySem L2
variable {K : PySem.W.Frag}

/-- a list that is locked, let go, or stands in the written part -/
def SqZ (K : PySem.W.Frag) (F : Addr → Prop) (H : Hp) (a : Addr) (xs : List V) : Prop := (∃ o, H a = some (.frz o (.lst xs))) ∨ (F a ∧ H a = some (.lst xs)) ∨
  ∃ (o : Obj) (its : Array Value) (n : Nat), K.lookup a = some o ∧ o.cls = .type "list" ∧ o.dict = none ∧ o.data = .seq its n ∧ its.size ≤ sizeLine ∧ Vals xs its.toList
theorem SqZ.sqL {K : PySem.W.Frag} {F : Addr → Prop} {H : Hp} {a : Addr} {xs : List V} (h : SqZ K F H a xs) : SqL K H a xs := h.elim (fun h => .inl (.inr h)) fun h => h.elim (fun h => .inl (.inl h.2)) .inr
/-- the tables of code objects that the program's lambdas ask for, each with the name that its code objects bear -/
class Tbs where
  T : List (Addr × Str)
/-- no table of code objects -/
def NoT (o : HO) : Prop := ∀ ps, o ≠ .tbl ps
theorem NoT.lst {l : List V} : NoT (.lst l) := fun _ z => nomatch z
theorem NoT.tup {l : List V} : NoT (.tup l) := fun _ z => nomatch z
theorem NoT.frz {o : Obj} {u : HO} : NoT (.frz o u) := fun _ z => nomatch z
theorem NoT.dK {l : List (Key × V)} : NoT (.dK l) := fun _ z => nomatch z
/-- something stands there that is no table -/
def Has (H : Hp) (a : Addr) : Prop := ∃ o, H a = some o ∧ NoT o
/-- nothing stands there, or a table -/
def Nw (H : Hp) (a : Addr) : Prop := ¬ Has H a
theorem Nw.of {H : Hp} {a : Addr} (h : H a = none) : Nw H a := fun ⟨o, e, _⟩ => by rw [h] at e; cases e
mutual
/-- v stands for d; lists and dicts within are let go (in F) -/
inductive Rep (K : PySem.W.Frag) (F : Addr → Prop) (H : Hp) : V → D → Prop where
  | non : Rep K F H .non .non
  | bl (b : Bool) : Rep K F H (.bl b) (.bl b)
  | int (i : Int) : Rep K F H (.int i) (.int i)
  | str (s : Str) : Rep K F H (.str s) (.str s)
  | tup {a : Addr} {vs : List V} {ds : List D} : SqU K H a vs → Reps K F H vs ds → Rep K F H (.ref a) (.tup ds)
  | lst {a : Addr} {vs : List V} {ds : List D} : F a → H a = some (.lst vs) → Reps K F H vs ds → Rep K F H (.ref a) (.lst ds)
  | frz {a : Addr} {vs : List V} {ds : List D} : SqZ K F H a vs → Reps K F H vs ds → Rep K F H (.ref a) (.frz ds)
  | dic {a : Addr} {vs : List (Key × V)} {ds : List (Key × D)} : F a → H a = some (.dK vs) → RepK K F H vs ds → Rep K F H (.ref a) (.dic ds)
inductive Reps (K : PySem.W.Frag) (F : Addr → Prop) (H : Hp) : List V → List D → Prop where
  | nil : Reps K F H [] []
  | cons {v : V} {d : D} {vs : List V} {ds : List D} : Rep K F H v d → Reps K F H vs ds → Reps K F H (v :: vs) (d :: ds)
inductive RepK (K : PySem.W.Frag) (F : Addr → Prop) (H : Hp) : List (Key × V) → List (Key × D) → Prop where
  | nil : RepK K F H [] []
  | cons {k : Key} {v : V} {d : D} {vs : List (Key × V)} {ds : List (Key × D)} : Rep K F H v d → RepK K F H vs ds → RepK K F H ((k, v) :: vs) ((k, d) :: ds)
end
/-- an object that nobody but a variable holds -/
inductive OwnC (K : PySem.W.Frag) (F : Addr → Prop) (H : Hp) : Addr → D → Prop where
  | lst {a : Addr} {vs : List V} {ds : List D} : H a = some (.lst vs) → Reps K F H vs ds → OwnC K F H a (.lst ds)
  | dic {a : Addr} {vs : List (Key × V)} {ds : List (Key × D)} : H a = some (.dK vs) → RepK K F H vs ds → OwnC K F H a (.dic ds)
/-- what stands there, let go or not -/
def Cont (K : PySem.W.Frag) (F : Addr → Prop) (H : Hp) (v : V) (d : D) : Prop := Rep K F H v d ∨ ∃ a, v = .ref a ∧ OwnC K F H a d

/-- what stays for Rep -/
structure Keeps (F : Addr → Prop) (H : Hp) (F' : Addr → Prop) (H' : Hp) : Prop where
  sub : ∀ a, F a → F' a
  at_ : ∀ a o, F a → H a = some o → NoT o → H' a = some o
  tup : ∀ a xs, H a = some (.tup xs) → H' a = some (.tup xs)
  frz : ∀ a o u, H a = some (.frz o u) → H' a = some (.frz o u)
variable {F F' F2 : Addr → Prop} {H H' H2 : Hp} {v : V} {d : D} {a : Addr} {vs : List V} {ds : List D}
theorem Keeps.refl : Keeps F H F H := ⟨fun _ h => h, fun _ _ _ h _ => h, fun _ _ h => h, fun _ _ _ h => h⟩
theorem Keeps.trans (k : Keeps F H F' H') (l : Keeps F' H' F2 H2) : Keeps F H F2 H2 :=
  ⟨fun a h => l.sub a (k.sub a h), fun a o f h t => l.at_ a o (k.sub a f) (k.at_ a o f h t) t, fun a xs h => l.tup a xs (k.tup a xs h), fun a o u h => l.frz a o u (k.frz a o u h)⟩
theorem Keeps.sqT (k : Keeps F H F' H') {xs : List V} (h : SqT K H a xs) : SqT K H' a xs := by
  rcases h with (h | ⟨o, h⟩) | h
  · exact .inl (.inl (k.tup _ _ h))
  · exact .inl (.inr ⟨o, k.frz _ _ _ h⟩)
  · exact .inr h
theorem Keeps.sqU (k : Keeps F H F' H') {xs : List V} (h : SqU K H a xs) : SqU K H' a xs := by
  rcases h with ⟨o, hn, h⟩ | h
  · exact .inl ⟨o, hn, k.frz _ _ _ h⟩
  · exact .inr h
theorem SqZ.keep (k : Keeps F H F' H') {xs : List V} (h : SqZ K F H a xs) : SqZ K F' H' a xs := by
  rcases h with ⟨o, h⟩ | ⟨f, h⟩ | h
  · exact .inl ⟨o, k.frz _ _ _ h⟩
  · exact .inr (.inl ⟨k.sub a f, k.at_ a _ f h NoT.lst⟩)
  · exact .inr (.inr h)
mutual
theorem Rep.keep (k : Keeps F H F' H') : ∀ {v : V} {d : D}, Rep K F H v d → Rep K F' H' v d
  | _, _, .non => .non
  | _, _, .bl b => .bl b
  | _, _, .int i => .int i
  | _, _, .str s => .str s
  | _, _, .tup h r => .tup (k.sqU h) (Reps.keep k r)
  | _, _, .lst f h r => .lst (k.sub _ f) (k.at_ _ _ f h fun _ z => nomatch z) (Reps.keep k r)
  | _, _, .frz h r => .frz (h.keep k) (Reps.keep k r)
  | _, _, .dic f h r => .dic (k.sub _ f) (k.at_ _ _ f h fun _ z => nomatch z) (RepK.keep k r)
theorem Reps.keep (k : Keeps F H F' H') : ∀ {vs : List V} {ds : List D}, Reps K F H vs ds → Reps K F' H' vs ds
  | _, _, .nil => .nil
  | _, _, .cons h r => .cons (Rep.keep k h) (Reps.keep k r)
theorem RepK.keep (k : Keeps F H F' H') : ∀ {vs : List (Key × V)} {ds : List (Key × D)}, RepK K F H vs ds → RepK K F' H' vs ds
  | _, _, .nil => .nil
  | _, _, .cons h r => .cons (Rep.keep k h) (RepK.keep k r)
end
theorem Reps.length : ∀ {vs : List V} {ds : List D}, Reps K F H vs ds → vs.length = ds.length
  | _, _, .nil => rfl
  | _, _, .cons _ r => congrArg (· + 1) r.length
theorem Reps.append : ∀ {vs ws : List V} {ds es : List D}, Reps K F H vs ds → Reps K F H ws es → Reps K F H (vs ++ ws) (ds ++ es)
  | _, _, _, _, .nil, s => s
  | _, _, _, _, .cons h r, s => .cons h (Reps.append r s)
theorem Reps.take : ∀ {vs : List V} {ds : List D} (n : Nat), Reps K F H vs ds → Reps K F H (vs.take n) (ds.take n)
  | _, _, 0, _ => .nil
  | _, _, _ + 1, .nil => .nil
  | _, _, n + 1, .cons h r => .cons h (Reps.take n r)
theorem Reps.drop : ∀ {vs : List V} {ds : List D} (n : Nat), Reps K F H vs ds → Reps K F H (vs.drop n) (ds.drop n)
  | _, _, 0, r => r
  | _, _, _ + 1, .nil => .nil
  | _, _, n + 1, .cons _ r => Reps.drop n r
theorem Reps.get : ∀ {vs : List V} {ds : List D} {i : Nat} {d : D}, Reps K F H vs ds → ds[i]? = some d → ∃ v, vs[i]? = some v ∧ Rep K F H v d
  | _, _, _, _, .nil, e => by simp at e
  | _, _, 0, _, .cons h _, e => by simp at e; subst e; exact ⟨_, rfl, h⟩
  | _, _, i + 1, d, .cons _ r, e => by
    obtain ⟨v, h1, h2⟩ := Reps.get (i := i) (d := d) r (by simpa using e)
    exact ⟨v, by simpa using h1, h2⟩
theorem Reps.set {x : V} {e : D} (h : Rep K F H x e) : ∀ {vs : List V} {ds : List D} (i : Nat), Reps K F H vs ds → Reps K F H (vs.set i x) (ds.set i e)
  | _, _, _, .nil => .nil
  | _, _, 0, .cons _ r => .cons h r
  | _, _, i + 1, .cons q r => .cons q (Reps.set h i r)
theorem Reps.eraseIdx : ∀ {vs : List V} {ds : List D} (i : Nat), Reps K F H vs ds → Reps K F H (vs.eraseIdx i) (ds.eraseIdx i)
  | _, _, _, .nil => .nil
  | _, _, 0, .cons _ r => r
  | _, _, i + 1, .cons q r => .cons q (Reps.eraseIdx i r)
theorem Reps.dropLast : ∀ {vs : List V} {ds : List D}, Reps K F H vs ds → Reps K F H vs.dropLast ds.dropLast := fun {vs ds} r => by
  rw [List.dropLast_eq_take, List.dropLast_eq_take, r.length]
  exact r.take _
theorem Reps.flat : ∀ {vs : List V} {ds : List D} (r : Reps K F H vs ds) (n : Nat), Reps K F H (List.replicate n vs).flatten (List.replicate n ds).flatten
  | _, _, _, 0 => .nil
  | _, _, r, n + 1 => by
    rw [List.replicate_succ, List.replicate_succ, List.flatten_cons, List.flatten_cons]
    exact r.append (Reps.flat r n)
theorem Reps.reverse : ∀ {vs : List V} {ds : List D}, Reps K F H vs ds → Reps K F H vs.reverse ds.reverse
  | _, _, .nil => .nil
  | _, _, .cons h r => by
    rw [List.reverse_cons, List.reverse_cons]
    exact (Reps.reverse r).append (.cons h .nil)
theorem RepK.length : ∀ {vs : List (Key × V)} {ds : List (Key × D)}, RepK K F H vs ds → vs.length = ds.length
  | _, _, .nil => rfl
  | _, _, .cons _ r => congrArg (· + 1) r.length
/-! ### a value's shape -/
theorem Cont.int_ {i : Int} (h : Cont K F H v (.int i)) : v = .int i := by
  rcases h with h | ⟨a, _, h⟩
  · cases h; rfl
  · cases h
theorem Cont.str_ {i : Str} (h : Cont K F H v (.str i)) : v = .str i := by
  rcases h with h | ⟨a, _, h⟩
  · cases h; rfl
  · cases h
theorem Cont.bl_ {i : Bool} (h : Cont K F H v (.bl i)) : v = .bl i := by
  rcases h with h | ⟨a, _, h⟩
  · cases h; rfl
  · cases h
theorem Cont.non_ (h : Cont K F H v .non) : v = .non := by
  rcases h with h | ⟨a, _, h⟩
  · cases h; rfl
  · cases h
theorem Cont.tup_ (h : Cont K F H v (.tup ds)) : ∃ a vs, v = .ref a ∧ SqU K H a vs ∧ Reps K F H vs ds := by
  rcases h with h | ⟨a, _, h⟩
  · cases h with | tup h r => exact ⟨_, _, rfl, h, r⟩
  · cases h
theorem Cont.lst_ (h : Cont K F H v (.lst ds)) : ∃ a vs, v = .ref a ∧ H a = some (.lst vs) ∧ Reps K F H vs ds := by
  rcases h with h | ⟨a, e, h⟩
  · cases h with | lst f h r => exact ⟨_, _, rfl, h, r⟩
  · cases h with | lst h r => exact ⟨_, _, e, h, r⟩
theorem Cont.frz_ (h : Cont K F H v (.frz ds)) : ∃ a vs, v = .ref a ∧ SqZ K F H a vs ∧ Reps K F H vs ds := by
  rcases h with h | ⟨a, _, h⟩
  · cases h with | frz h r => exact ⟨_, _, rfl, h, r⟩
  · cases h
theorem Cont.dic_ {ds : List (Key × D)} (h : Cont K F H v (.dic ds)) : ∃ a vs, v = .ref a ∧ H a = some (.dK vs) ∧ RepK K F H vs ds := by
  rcases h with h | ⟨a, e, h⟩
  · cases h with | dic f h r => exact ⟨_, _, rfl, h, r⟩
  · cases h with | dic h r => exact ⟨_, _, e, h, r⟩
theorem Cont.dct_ {ds : List (List Key × D)} (h : Cont K F H v (.dct ds)) : False := by
  rcases h with h | ⟨a, e, h⟩ <;> cases h
theorem Cont.obj_ {c : Str} {fs : List (Str × D)} (h : Cont K F H v (.obj c fs)) : False := by
  rcases h with h | ⟨a, e, h⟩ <;> cases h
theorem OwnC.keep (k : Keeps F H F' H') (ha : ∀ o, H a = some o → (∀ ps, o ≠ .tbl ps) → H' a = some o) (h : OwnC K F H a d) : OwnC K F' H' a d := by
  cases h with
  | lst h r => exact .lst (ha _ h fun _ z => nomatch z) (r.keep k)
  | dic h r => exact .dic (ha _ h fun _ z => nomatch z) (r.keep k)
/-- what an owned object is -/
theorem OwnC.kind (h : OwnC K F H a d) : (∃ xs, H a = some (.lst xs)) ∨ ∃ xs, H a = some (.dK xs) := by
  cases h with
  | lst h r => exact .inl ⟨_, h⟩
  | dic h r => exact .inr ⟨_, h⟩
/-- let go -/
theorem OwnC.rep (h : OwnC K F H a d) (f : F a) : Rep K F H (.ref a) d := by
  cases h with
  | lst h r => exact .lst f h r
  | dic h r => exact .dic f h r
/-! ### the state -/
variable [TB : Tbs]
/-- what is let go stands there; the tables are as they should be -/
structure Trk (F : Addr → Prop) (H : Hp) : Prop where
  on : ∀ a, F a → Has H a
  tb : LamX.Tabs TB.T H
def OwnA (σ : St) (env : List Sl) (a : Addr) : Prop := ∃ (i : Nat) (d : D), env[i]? = some (Sl.own d) ∧ σ[i]? = some (some (.ref a))
structure Stt (K : PySem.W.Frag) (F : Addr → Prop) (H : Hp) (σ : St) (env : List Sl) : Prop where
  len : env.length = σ.length
  trk : Trk F H
  val : ∀ (i : Nat) (d : D), env[i]? = some (Sl.val d) → ∃ v, σ[i]? = some (some v) ∧ Rep K F H v d
  own : ∀ (i : Nat) (d : D), env[i]? = some (Sl.own d) → ∃ a, σ[i]? = some (some (.ref a)) ∧ ¬ F a ∧ OwnC K F H a d
  inj : ∀ (i j : Nat) (d e : D) (a : Addr), env[i]? = some (Sl.own d) → env[j]? = some (Sl.own e) → σ[i]? = some (some (.ref a)) → σ[j]? = some (some (.ref a)) → i = j
/-- what a piece of code may change -/
structure Ext (F : Addr → Prop) (H : Hp) (σ : St) (env : List Sl) (F' : Addr → Prop) (H' : Hp) (σ' : St) (env' : List Sl) : Prop where
  sub : ∀ a, F a → F' a
  keep : ∀ a o, H a = some o → NoT o → ¬ OwnA σ env a → H' a = some o
  dom : ∀ a, Has H a → Has H' a
  new : ∀ a, F' a → F a ∨ Nw H a ∨ OwnA σ env a
  owns : ∀ a, OwnA σ' env' a → OwnA σ env a ∨ Nw H a
variable {σ σ' σ2 : St} {env env' env2 : List Sl}
theorem Ext.refl : Ext F H σ env F H σ env := ⟨fun _ h => h, fun _ _ h _ _ => h, fun _ h => h, fun _ h => .inl h, fun _ h => .inl h⟩
theorem Ext.noneOf (k : Ext F H σ env F' H' σ' env') (h : Nw H' a) : Nw H a := fun z => h (k.dom a z)
theorem Ext.trans (k : Ext F H σ env F' H' σ' env') (l : Ext F' H' σ' env' F2 H2 σ2 env2) : Ext F H σ env F2 H2 σ2 env2 where
  sub := fun a h => l.sub a (k.sub a h)
  keep := fun a o h t n => l.keep a o (k.keep a o h t n) t fun q => by
    rcases k.owns a q with q | q
    · exact n q
    · exact q ⟨o, h, t⟩
  dom := fun a h => l.dom a (k.dom a h)
  new := fun a h => by
    rcases l.new a h with h | h | h
    · exact k.new a h
    · exact .inr (.inl (k.noneOf h))
    · rcases k.owns a h with h | h
      · exact .inr (.inr h)
      · exact .inr (.inl h)
  owns := fun a h => by
    rcases l.owns a h with h | h
    · exact k.owns a h
    · exact .inr (k.noneOf h)
theorem Stt.notF (s : Stt K F H σ env) (h : OwnA σ env a) : ¬ F a := by
  obtain ⟨i, d, h1, h2⟩ := h
  obtain ⟨b, h3, h4, _⟩ := s.own i d h1
  rw [h2] at h3
  cases h3
  exact h4
theorem Stt.kind (s : Stt K F H σ env) (h : OwnA σ env a) : (∃ xs, H a = some (.lst xs)) ∨ ∃ xs, H a = some (.dK xs) := by
  obtain ⟨i, d, h1, h2⟩ := h
  obtain ⟨b, h3, h4, h5⟩ := s.own i d h1
  rw [h2] at h3
  cases h3
  exact h5.kind
theorem Stt.keeps (s : Stt K F H σ env) (k : Ext F H σ env F' H' σ' env') : Keeps F H F' H' where
  sub := k.sub
  at_ := fun a o f h t => k.keep a o h t fun q => s.notF q f
  tup := fun a xs h => k.keep a _ h NoT.tup fun q => by
    rcases s.kind q with ⟨ys, e⟩ | ⟨ys, e⟩ <;> rw [h] at e <;> cases e
  frz := fun a o u h => k.keep a _ h NoT.frz fun q => by
    rcases s.kind q with ⟨ys, e⟩ | ⟨ys, e⟩ <;> rw [h] at e <;> cases e
/-- a result stays while other parts are reckoned; the slots in use stay in use -/
structure EnvLe (env env' : List Sl) : Prop where
  own : ∀ (i : Nat) (d : D), env[i]? = some (Sl.own d) → ∃ e : D, env'[i]? = some (Sl.own e) ∨ env'[i]? = some (Sl.val e)
  val : ∀ (i : Nat) (d : D), env[i]? = some (Sl.val d) → ∃ e : D, env'[i]? = some (Sl.val e)
theorem EnvLe.refl : EnvLe env env := ⟨fun _ d h => ⟨d, .inl h⟩, fun _ d h => ⟨d, h⟩⟩
theorem EnvLe.trans (k : EnvLe env env') (l : EnvLe env' env2) : EnvLe env env2 where
  own := fun i d h => by
    obtain ⟨e, h | h⟩ := k.own i d h
    · exact l.own i e h
    · obtain ⟨f, h⟩ := l.val i e h
      exact ⟨f, .inr h⟩
  val := fun i d h => by
    obtain ⟨e, h⟩ := k.val i d h
    exact l.val i e h
/-- the result of an expression that began at the heap H₀ -/
def RvOk (K : PySem.W.Frag) (H_0 : Hp) (F : Addr → Prop) (H : Hp) (σ : St) (env : List Sl) (v : V) : Rv → Prop
  | .val d => Rep K F H v d
  | .fresh d => ∃ a, v = .ref a ∧ ¬ F a ∧ OwnC K F H a d ∧ ¬ OwnA σ env a ∧ Nw H_0 a
  | .slot i => σ[i]? = some (some v) ∧ ∃ d : D, env[i]? = some (Sl.own d) ∨ env[i]? = some (Sl.val d)
/-- the same, but that it may have been let go -/
def RvW (K : PySem.W.Frag) (H_0 : Hp) (F : Addr → Prop) (H : Hp) (σ : St) (env : List Sl) (v : V) : Rv → Prop
  | .val d => Rep K F H v d
  | .fresh d => ∃ a, v = .ref a ∧ OwnC K F H a d ∧ ¬ OwnA σ env a ∧ Nw H_0 a
  | .slot i => σ[i]? = some (some v) ∧ ∃ d : D, env[i]? = some (Sl.own d) ∨ env[i]? = some (Sl.val d)
variable {H_0 H_1 : Hp} {r : Rv}
theorem RvOk.weak (h : RvOk K H_0 F H σ env v r) : RvW K H_0 F H σ env v r := by
  cases r with
  | val d => exact h
  | fresh d => obtain ⟨a, e, _, o, n, z⟩ := h; exact ⟨a, e, o, n, z⟩
  | slot i => exact h
theorem RvOk.early (z : ∀ a, Nw H_1 a → Nw H_0 a) (h : RvOk K H_1 F H σ env v r) : RvOk K H_0 F H σ env v r := by
  cases r with
  | val d => exact h
  | fresh d => obtain ⟨a, e, f, o, n, y⟩ := h; exact ⟨a, e, f, o, n, z a y⟩
  | slot i => exact h
theorem OwnC.has (h : OwnC K F H a d) : Has H a := by
  rcases h.kind with ⟨_, z⟩ | ⟨_, z⟩
  · exact ⟨_, z, NoT.lst⟩
  · exact ⟨_, z, NoT.dK⟩
theorem OwnC.there (h : OwnC K F H a d) : ¬ Nw H a := fun n => n h.has
theorem RvOk.ext (s : Stt K F H σ env) (k : Ext F H σ env F' H' σ env') (l : EnvLe env env') (h : RvOk K H_0 F H σ env v r) : RvOk K H_0 F' H' σ env' v r := by
  cases r with
  | val d => exact Rep.keep (s.keeps k) h
  | fresh d =>
    obtain ⟨a, e, f, o, n, y⟩ := h
    have hk : ∀ o, H a = some o → NoT o → H' a = some o := fun o h t => k.keep a o h t n
    refine ⟨a, e, fun q => ?_, o.keep (s.keeps k) hk, fun q => ?_, y⟩
    · rcases k.new a q with q | q | q
      · exact f q
      · exact o.there q
      · exact n q
    · rcases k.owns a q with q | q
      · exact n q
      · exact o.there q
  | slot i =>
    obtain ⟨h1, d, h2 | h2⟩ := h
    · exact ⟨h1, l.own i d h2⟩
    · obtain ⟨e, h3⟩ := l.val i d h2
      exact ⟨h1, e, .inr h3⟩
theorem slot_cont {i : Nat} (s : Stt K F H σ env) (h1 : σ[i]? = some (some v)) (e : (Rv.slot i).cont env = some d) : Cont K F H v d := by
  have e : (match env[i]? with | some (Sl.own d) => some d | some (Sl.val d) => some d | _ => none) = some d := e
  split at e
  · rename_i x h2
    cases e
    obtain ⟨a, h3, _, h4⟩ := s.own i _ h2
    rw [h1] at h3
    cases h3
    exact .inr ⟨a, rfl, h4⟩
  · rename_i x h2
    cases e
    obtain ⟨w, h3, h4⟩ := s.val i _ h2
    rw [h1] at h3
    cases h3
    exact .inl h4
  · cases e
theorem RvW.cont (s : Stt K F H σ env) (h : RvW K H_0 F H σ env v r) (e : r.cont env = some d) : Cont K F H v d := by
  cases r with
  | val x => cases e; exact .inl h
  | fresh x =>
    cases e
    obtain ⟨a, rfl, o, _⟩ := h
    exact .inr ⟨a, rfl, o⟩
  | slot i => exact slot_cont s h.1 e
theorem RvOk.cont (s : Stt K F H σ env) (h : RvOk K H_0 F H σ env v r) (e : r.cont env = some d) : Cont K F H v d := h.weak.cont s e

/-! ### letting go -/
/-- a is let go too -/
def plus (F : Addr → Prop) (a : Addr) : Addr → Prop := fun b => F b ∨ b = a
theorem keeps_plus : Keeps F H (plus F a) H := ⟨fun _ h => .inl h, fun _ _ _ h _ => h, fun _ _ h => h, fun _ _ _ h => h⟩
theorem set_get {i j : Nat} {x y : Sl} (h : (env.set i x)[j]? = some y) : (i = j ∧ x = y) ∨ (i ≠ j ∧ env[j]? = some y) := by
  by_cases e : i = j
  · subst e
    rw [List.getElem?_set] at h
    simp only [if_true] at h
    split at h
    · cases h; exact .inl ⟨rfl, rfl⟩
    · cases h
  · rw [List.getElem?_set_ne e] at h
    exact .inr ⟨e, h⟩
theorem set_same {i : Nat} {x y : Sl} (h : env[i]? = some y) : (env.set i x)[i]? = some x := by
  have : i < env.length := by
    rcases Nat.lt_or_ge i env.length with h1 | h1
    · exact h1
    · rw [List.getElem?_eq_none h1] at h; cases h
  rw [List.getElem?_set]
  simp [this]
/-- the start of a piece of code, and where it stands -/
theorem freeze_slot {F_0 : Addr → Prop} {σ_0 : St} {env0 : List Sl} {i : Nat} (x : Ext F_0 H_0 σ_0 env0 F H σ env) (s : Stt K F H σ env) (e : env[i]? = some (.own d)) (es : σ[i]? = some (some (.ref a))) :
    Ext F_0 H_0 σ_0 env0 (plus F a) H σ (env.set i (.val d)) ∧ EnvLe env (env.set i (.val d)) ∧ Stt K (plus F a) H σ (env.set i (.val d)) ∧ Rep K (plus F a) H (.ref a) d := by
  obtain ⟨b, hb, nf, oc⟩ := s.own i d e
  rw [es] at hb
  cases hb
  have kp : Keeps F H (plus F a) H := keeps_plus
  have sub : ∀ (j : Nat) (c : D), (env.set i (.val d))[j]? = some (.own c) → i ≠ j ∧ env[j]? = some (.own c) := fun j c h => by
    rcases set_get h with ⟨_, z⟩ | z
    · cases z
    · exact z
  have rp : Rep K (plus F a) H (.ref a) d := (oc.keep kp fun _ h _ => h).rep (.inr rfl)
  refine ⟨⟨fun b h => .inl (x.sub b h), x.keep, x.dom, fun b h => ?_, fun b ⟨j, c, h1, h2⟩ => x.owns b ⟨j, c, (sub j c h1).2, h2⟩⟩,
    ⟨fun j c h => ?_, fun j c h => ?_⟩, ⟨by rw [List.length_set]; exact s.len, ⟨fun b h => ?_, s.trk.tb⟩, fun j c h => ?_, fun j c h => ?_, fun j k c c' b h1 h2 h3 h4 => s.inj j k c c' b (sub j c h1).2 (sub k c' h2).2 h3 h4⟩, rp⟩
  · rcases h with h | h
    · exact x.new b h
    · subst h
      rcases x.owns b ⟨i, d, e, es⟩ with q | q
      · exact .inr (.inr q)
      · exact .inr (.inl q)
  · by_cases z : i = j
    · subst z
      exact ⟨d, .inr (set_same e)⟩
    · exact ⟨c, .inl (by rw [List.getElem?_set_ne z]; exact h)⟩
  · by_cases z : i = j
    · subst z
      exact ⟨d, set_same e⟩
    · exact ⟨c, by rw [List.getElem?_set_ne z]; exact h⟩
  · rcases h with h | h
    · exact s.trk.on b h
    · subst h; exact oc.has
  · rcases set_get h with ⟨z, y⟩ | ⟨z, y⟩
    · subst z; cases y
      exact ⟨_, es, rp⟩
    · obtain ⟨v, h1, h2⟩ := s.val j c y
      exact ⟨v, h1, h2.keep kp⟩
  · obtain ⟨z, y⟩ := sub j c h
    obtain ⟨b, h1, h2, h3⟩ := s.own j c y
    refine ⟨b, h1, fun q => ?_, h3.keep kp fun _ h _ => h⟩
    rcases q with q | q
    · exact h2 q
    · subst q
      exact z (s.inj i j d c b e y es h1)
theorem freeze_new {F_0 : Addr → Prop} {σ_0 : St} {env0 : List Sl} (x : Ext F_0 H_0 σ_0 env0 F H σ env) (s : Stt K F H σ env) (oc : OwnC K F H a d) (no : ¬ OwnA σ env a) (z : Nw H_0 a) :
    Ext F_0 H_0 σ_0 env0 (plus F a) H σ env ∧ Stt K (plus F a) H σ env ∧ Rep K (plus F a) H (.ref a) d := by
  have kp : Keeps F H (plus F a) H := keeps_plus
  refine ⟨⟨fun b h => .inl (x.sub b h), x.keep, x.dom, fun b h => ?_, x.owns⟩, ⟨s.len, ⟨fun b h => ?_, s.trk.tb⟩, fun j c h => ?_, fun j c h => ?_, s.inj⟩, (oc.keep kp fun _ h _ => h).rep (.inr rfl)⟩
  · rcases h with h | h
    · exact x.new b h
    · subst h; exact .inr (.inl z)
  · rcases h with h | h
    · exact s.trk.on b h
    · subst h; exact oc.has
  · obtain ⟨v, h1, h2⟩ := s.val j c h
    exact ⟨v, h1, h2.keep kp⟩
  · obtain ⟨b, h1, h2, h3⟩ := s.own j c h
    refine ⟨b, h1, fun q => ?_, h3.keep kp fun _ h _ => h⟩
    rcases q with q | q
    · exact h2 q
    · subst q
      exact no ⟨j, c, h, h1⟩
/-- one result is let go -/
theorem freeze_ok {F_0 : Addr → Prop} {σ_0 : St} {env0 : List Sl} (x : Ext F_0 H_0 σ_0 env0 F H σ env) (s : Stt K F H σ env) (h : RvW K H_0 F H σ env v r) (e : r.freeze env = some (d, env')) :
    ∃ F', (∀ a, F a → F' a) ∧ Ext F_0 H_0 σ_0 env0 F' H σ env' ∧ EnvLe env env' ∧ Stt K F' H σ env' ∧ Rep K F' H v d ∧ (∀ a, OwnA σ env' a → OwnA σ env a) := by
  cases r with
  | val c => cases e; exact ⟨F, fun _ h => h, x, EnvLe.refl, s, h, fun _ h => h⟩
  | fresh c =>
    cases e
    obtain ⟨a, rfl, oc, no, z⟩ := h
    obtain ⟨h1, h2, h3⟩ := freeze_new x s oc no z
    exact ⟨plus F a, fun _ h => .inl h, h1, EnvLe.refl, h2, h3, fun _ h => h⟩
  | slot i =>
    have e : (match env[i]? with | some (Sl.own d) => some (d, env.set i (.val d)) | some (Sl.val d) => some (d, env) | _ => none) = some (d, env') := e
    split at e
    · rename_i c h2
      cases e
      obtain ⟨a, h3, h4, h5⟩ := s.own i _ h2
      obtain ⟨h1, _⟩ := h
      rw [h1] at h3
      cases h3
      obtain ⟨q1, q2, q3, q4⟩ := freeze_slot x s h2 h1
      refine ⟨plus F a, fun _ h => .inl h, q1, q2, q3, q4, fun b ⟨j, c, w1, w2⟩ => ?_⟩
      rcases set_get w1 with ⟨_, z⟩ | ⟨_, z⟩
      · cases z
      · exact ⟨j, c, z, w2⟩
    · rename_i c h2
      cases e
      obtain ⟨w, h3, h4⟩ := s.val i _ h2
      obtain ⟨h1, _⟩ := h
      rw [h1] at h3
      cases h3
      exact ⟨F, fun _ h => h, x, EnvLe.refl, s, h4, fun _ h => h⟩
    · cases e
theorem RvW.stay {F1 : Addr → Prop} {env1 : List Sl} (sub : ∀ a, F a → F1 a) (l : EnvLe env env1) (ow : ∀ a, OwnA σ env1 a → OwnA σ env a) (h : RvW K H_0 F H σ env v r) : RvW K H_0 F1 H σ env1 v r := by
  have kp : Keeps F H F1 H := ⟨sub, fun _ _ _ h _ => h, fun _ _ h => h, fun _ _ _ h => h⟩
  cases r with
  | val d => exact Rep.keep kp h
  | fresh d => obtain ⟨a, e, o, n, z⟩ := h; exact ⟨a, e, o.keep kp fun _ h _ => h, fun q => n (ow a q), z⟩
  | slot i =>
    obtain ⟨h1, d, h2 | h2⟩ := h
    · exact ⟨h1, l.own i d h2⟩
    · obtain ⟨e, h3⟩ := l.val i d h2
      exact ⟨h1, e, .inr h3⟩
/-- results, in a row -/
inductive Rvs (P : V → Rv → Prop) : List V → List Rv → Prop where
  | nil : Rvs P [] []
  | cons {v : V} {r : Rv} {vs : List V} {rs : List Rv} : P v r → Rvs P vs rs → Rvs P (v :: vs) (r :: rs)
theorem Rvs.imp {P P' : V → Rv → Prop} (f : ∀ v r, P v r → P' v r) : ∀ {vs : List V} {rs : List Rv}, Rvs P vs rs → Rvs P' vs rs
  | _, _, .nil => .nil
  | _, _, .cons h t => .cons (f _ _ h) (Rvs.imp f t)
theorem Rvs.length {P : V → Rv → Prop} : ∀ {vs : List V} {rs : List Rv}, Rvs P vs rs → vs.length = rs.length
  | _, _, .nil => rfl
  | _, _, .cons _ t => congrArg (· + 1) t.length
theorem freezeAll_ok {F_0 : Addr → Prop} {σ_0 : St} {env0 : List Sl} : ∀ {rs : List Rv} {vs : List V} {ds : List D} {F : Addr → Prop} {env env' : List Sl}, Ext F_0 H_0 σ_0 env0 F H σ env → Stt K F H σ env → Rvs (RvW K H_0 F H σ env) vs rs → freezeAll env rs = some (ds, env') →
    ∃ F', (∀ a, F a → F' a) ∧ Ext F_0 H_0 σ_0 env0 F' H σ env' ∧ EnvLe env env' ∧ Stt K F' H σ env' ∧ Reps K F' H vs ds ∧ (∀ a, OwnA σ env' a → OwnA σ env a)
  | [], _, _, F, env, _, x, s, h, e => by
    cases h; cases e
    exact ⟨F, fun _ h => h, x, EnvLe.refl, s, .nil, fun _ h => h⟩
  | r :: rs, _, ds, F, env, env', x, s, h, e => by
    cases h with
    | @cons v _ vs _ h t =>
      have e : (match r.freeze env with | some (d, env1) => (match freezeAll env1 rs with | some (ds, env2) => some (d :: ds, env2) | none => none) | none => none) = some (ds, env') := e
      split at e
      · rename_i d env1 h1
        split at e
        · rename_i ds2 env2 h2
          cases e
          obtain ⟨F1, b1, x1, l1, s1, r1, o1⟩ := freeze_ok x s h h1
          obtain ⟨F2, b2, x2, l2, s2, r2, o2⟩ := freezeAll_ok x1 s1 (t.imp fun v r q => q.stay b1 l1 o1) h2
          exact ⟨F2, fun a q => b2 a (b1 a q), x2, l1.trans l2, s2, .cons (r1.keep ⟨b2, fun _ _ _ h _ => h, fun _ _ h => h, fun _ _ _ h => h⟩) r2, fun a q => o1 a (o2 a q)⟩
        · cases e
      · cases e
end G

set_option Elab.async false
set_option linter.all false
set_option maxRecDepth 100000
/-! G, part 3: the operations, over the hand layer's rules by values. -/
namespace L2
open PySem PySem.Spec PyProof.Rows
set_option maxHeartbeats 4000000
theorem tuple_mulS (l : Addr) (items : Array Value) (n : Nat) (dd : Option Addr) (sl : Array (Option Value)) (x : Int) (u : Tok) (c0 : (decide (x < -(2 ^ 63)) || decide (x ≥ 2 ^ 63)) = false) (c1 : (items.isEmpty || x == 1) = true) :
    Meets (Builtin.«tuple.__mul__» ⟨[.ref l, .int x u], []⟩) (fun _ R s => s.heap.get? l = some { cls := .type "tuple", dict := dd, data := .seq items n, slots := sl } ∧ R (.ok (.ret (Value.ref l))) s) :=
  .of_wp fun prog w A R s h => by
    obtain ⟨hp, g, d, tk, os⟩ := s
    obtain ⟨hl, h⟩ := h
    have f1 := AutoSeq1.idx_int
    wp_walk using wpAny_loadPart' hl
    repeat (first
      | (refine wpAny_ite_false (decide_eq_false (by rw [c0]; exact Bool.false_ne_true)) ?_; wp_walk using wpAny_loadPart' hl)
      | (refine wpAny_ite_true (decide_eq_true (by rw [c1])) ?_; wp_walk using wpAny_loadPart' hl))
    exact ⟨_, rfl, h⟩
theorem tuple_mul0 (l : Addr) (items : Array Value) (n : Nat) (dd : Option Addr) (sl : Array (Option Value)) (x : Int) (u : Tok) (c0 : (decide (x < -(2 ^ 63)) || decide (x ≥ 2 ^ 63)) = false) (c1 : (items.isEmpty || x == 1) = false) (c2 : (decide (x ≤ 0) || items.isEmpty) = true) :
    Meets (Builtin.«tuple.__mul__» ⟨[.ref l, .int x u], []⟩) (fun _ R s => s.heap.get? l = some { cls := .type "tuple", dict := dd, data := .seq items n, slots := sl } ∧
      R (.ok (.ret (Value.ref s.heap.objs.size))) { s with heap := s.heap.push { cls := Value.type "tuple", data := Data.seq #[] }, toks := s.toks }) :=
  .of_wp fun prog w A R s h => by
    obtain ⟨hp, g, d, tk, os⟩ := s
    obtain ⟨hl, h⟩ := h
    have f1 := AutoSeq1.idx_int
    have hsz : ((#[] : Array Value)).size ≤ sizeLine := Nat.zero_le _
    wp_walk using wpAny_loadPart' hl
    repeat (first
      | (refine wpAny_ite_false (decide_eq_false (by rw [c0]; exact Bool.false_ne_true)) ?_; wp_walk using wpAny_loadPart' hl)
      | (refine wpAny_ite_false (decide_eq_false (by rw [c1]; exact Bool.false_ne_true)) ?_; wp_walk using wpAny_loadPart' hl)
      | (refine wpAny_ite_true (decide_eq_true (by rw [c2])) ?_; wp_walk using wpAny_loadPart' hl)
      | (refine wpAny_ite_false (decide_eq_false (Nat.not_lt.mpr hsz)) ?_; wp_walk using wpAny_loadPart' hl))
    exact ⟨_, rfl, h⟩
theorem tupRep0 {X : Cx} {pins : List (Addr × Obj)} {σ : L2.St} {H : Hp} {s : Shared} {Q : VK} {l : Addr} {vs : List V} {its : List Value} {n : Nat} {dd : Option Addr} {sl : Array (Option Value)} {k : Int} {t : Tok} (I : Inv X pins σ H s)
    (ho : s.heap.get? l = some { cls := .type "tuple", dict := dd, data := .seq its.toArray n, slots := sl }) (rr : Vals vs its) (hm : -(2 ^ 63) ≤ k) (hk : k ≤ 1000) (hc : vs = [] ∨ k ≤ 1)
    (q1 : vs = [] ∨ k = 1 → Q (.ref l) H) (q0 : k ≤ 0 → G.NewU H Q []) : wpAny (model X.prog X.w) X.A (binaryOp .Mult (.ref l) (.int k t)) (EP X pins σ Q) X.xe s := by
  have c0 : (decide (k < -(2 ^ 63)) || decide (k ≥ 2 ^ 63)) = false := by
    rw [decide_eq_false (by omega), decide_eq_false (by omega)] <;> rfl
  have he : vs = [] ↔ its = [] := by
    cases rr with
    | nil => exact ⟨fun _ => rfl, fun _ => rfl⟩
    | cons _ _ => exact ⟨(fun z => nomatch z), (fun z => nomatch z)⟩
  have hi : its.toArray.isEmpty = decide (its = []) := by
    cases its <;> simp
  refine wpAny_binaryOp_repeat_ref (T := "tuple") (U := "int") (by decide) ⟨_, ho, rfl⟩ (fun s' => typeIs_int s' k t) noFill_tuple_mul F.fills_int_mul F.slot_int_rmul repeat_tuple F.slot_int_index.lookup
    (call_meets F.slot_int_rmul (typeIs_int s k t) F.entry_int_rmul (F.args_int_rmul_2 _ _) (int_rmul_tuple k t l its.toArray n dd sl) ⟨ho, rfl, ⟨_, ho, rfl⟩, ?_⟩)
  by_cases h1 : vs = [] ∨ k = 1
  · refine call_meets F.slot_tuple_mul ⟨_, ho, rfl⟩ F.entry_tuple_mul (F.args_tuple_mul_2 _ _) (tuple_mulS l its.toArray n dd sl k t c0 ?_) ⟨ho, ?_⟩
    · rw [hi, Bool.or_eq_true, decide_eq_true_eq, beq_iff_eq]
      rcases h1 with h1 | h1
      · exact .inl (he.mp h1)
      · exact .inr h1
    · exact ⟨.ref l, H, I, rfl, q1 h1⟩
  · have h0 : k ≤ 0 := by
      rcases hc with h | h
      · exact absurd (.inl h) h1
      · have : k ≠ 1 := fun z => h1 (.inr z)
        omega
    have hn : its ≠ [] := fun z => h1 (.inl (he.mpr z))
    refine call_meets F.slot_tuple_mul ⟨_, ho, rfl⟩ F.entry_tuple_mul (F.args_tuple_mul_2 _ _) (tuple_mul0 l its.toArray n dd sl k t c0 ?_ ?_) ⟨ho, ?_⟩
    · rw [hi, decide_eq_false hn, Bool.false_or]
      exact beq_eq_false_iff_ne.mpr (by omega)
    · rw [decide_eq_true h0, Bool.true_or]
    · exact G.laidU (t' := s.toks) I (Nat.zero_le _) .nil (q0 h0)
section
variable {X : Cx}
theorem ix_dict (hu : X.A.units + 1 < cLine) : IxR X (fun x y H Q => ∃ a v, x = .ref a ∧ DGet H a y (some v) ∧ Q v H) := by
  intro value slice pins s σ H x y v u Q I rx ry h hs
  obtain ⟨a, w, rfl, g, q⟩ := h
  cases rx
  have hT := dict_typeIs I g
  unfold subscriptTail
  refine wpAny_bind ?_
  rw [getitemInPython_of_ne hT.not_modules]
  refine wpAny_bind (wpAny_specialOf hT PySem.F.slot_dict_getitem.lookup ?_)
  have fin : wpAny (model X.prog X.w) X.A (subscripted slice false (.ref a) u) (fun r s₃ => wpAny (model X.prog X.w) X.A (letTemporaryGo value (.ref a) r >>= fun _ => pure r) (EP X pins σ Q) X.xe s₃) X.xe s := by
    rw [hs]
    refine wpAny_operating (d_getItem hu I g ry fun w' s' I' r' => wpAny_bind (wpAny_letTemporaryGo (wpAny_pure ⟨w, H, I', r', q⟩)))
  first
    | exact wpAny_pure (wpAny_bind fin)
    | exact wpAny_bind (wpAny_pure (wpAny_bind fin))
    | exact wpAny_bind fin
end
end L2
namespace G
open PySem L2
variable [TB : Tbs]
section
variable {X : Cx} {K : PySem.W.Frag} {F : Addr → Prop} {H H' : Hp} {σ : St} {env : List Sl} {v : V} {d : D} {a : Addr} {Q : VK}
def Same (H H' : Hp) : Prop := ∀ a o, H a = some o → H' a = some o
theorem same_refl : Same H H := fun _ _ h => h
theorem same_upd {o : HO} (h : H a = none) : Same H (upd H a o) := fun b u e => by
  rw [upd_ne (ne_of_none e h)]; exact e
theorem Same.keeps (h : Same H H') : Keeps F H F H' := ⟨fun _ h => h, fun a o _ e _ => h a o e, fun a _ e => h a _ e, fun a _ _ e => h a _ e⟩
def ResOk (K : PySem.W.Frag) (F : Addr → Prop) (H : Hp) (Q : VK) : Rv → Prop
  | .val d => ∀ v H', Same H H' → Rep K F H' v d → Q v H'
  | .fresh d => ∀ a H', Same H H' → H a = none → OwnC K F H' a d → Q (.ref a) H'
  | .slot _ => True
/-- a two-place operation by contents -/
def rD (K : PySem.W.Frag) (g : D → D → Option Rv) : R2 := fun x y H Q => ∃ F d e r, Cont K F H x d ∧ Cont K F H y e ∧ g d e = some r ∧ ResOk K F H Q r
def rD1 (K : PySem.W.Frag) (g : D → Option Rv) : V → Hp → VK → Prop := fun x H Q => ∃ F d r, Cont K F H x d ∧ g d = some r ∧ ResOk K F H Q r
theorem res_val (q : ResOk K F H Q (.val d)) (r : Rep K F H v d) : Q v H := q v H same_refl r
theorem res_int {i : Int} (q : ResOk K F H Q (.val (.int i))) : Q (.int i) H := q _ H same_refl (.int i)
theorem res_bl {i : Bool} (q : ResOk K F H Q (.val (.bl i))) : Q (.bl i) H := q _ H same_refl (.bl i)
theorem res_str {i : Str} (q : ResOk K F H Q (.val (.str i))) : Q (.str i) H := q _ H same_refl (.str i)
theorem res_tup {vs : List V} {ds : List D} (q : ResOk K F H Q (.val (.tup ds))) (r : Reps K F H vs ds) : NewU H Q vs := fun o p hn hp =>
  q _ _ (same_upd hp) (.tup (.inl ⟨o, hn, upd_same⟩) (r.keep (Same.keeps (same_upd hp))))
theorem res_lst {vs : List V} {ds : List D} (q : ResOk K F H Q (.fresh (.lst ds))) (r : Reps K F H vs ds) (h : H a = none) : Q (.ref a) (upd H a (.lst vs)) :=
  q _ _ (same_upd h) h (.lst upd_same (r.keep (Same.keeps (same_upd h))))

/-! ### + - * // % -/
theorem op2_add : OpR X (binaryOp .Add) (rD X.K (prim2 .add)) := by
  intro pins s σ H x y v u Q I rx ry ⟨F, d, e, r, cx, cy, hg, q⟩
  unfold prim2 at hg
  split at hg
  · cases hg; cases cx.int_; cases cy.int_
    exact op_add pins s σ H _ _ v u Q I rx ry ⟨_, _, rfl, rfl, res_int q⟩
  · split at hg
    · cases hg; cases cx.str_; cases cy.str_
      exact op_add_str pins s σ H _ _ v u Q I rx ry ⟨_, _, rfl, rfl, by assumption, res_str q⟩
    · cases hg
  · split at hg
    · rename_i xs ys hz
      cases hg
      obtain ⟨a, vs, rfl, ha, ra⟩ := cx.tup_
      obtain ⟨b, ws, rfl, hb, rb⟩ := cy.tup_
      refine op_catU pins s σ H _ _ v u Q I rx ry ⟨a, b, vs, ws, rfl, rfl, ha.sqT, hb.sqT, by rw [ra.length, rb.length]; exact hz, fun z => ?_, fun z z2 => ?_, fun _ _ => res_tup q (ra.append rb)⟩
      · subst z; cases ra
        exact res_val q (.tup hb rb)
      · subst z2; cases rb
        rw [List.append_nil] at q
        exact res_val q (.tup ha ra)
    · cases hg
  · split at hg
    · rename_i xs ys hz
      cases hg
      obtain ⟨a, vs, rfl, ha, ra⟩ := cx.lst_
      obtain ⟨b, ws, rfl, hb, rb⟩ := cy.lst_
      exact op_cat pins s σ H _ _ v u Q I rx ry ⟨a, b, vs, ws, rfl, rfl, ha, hb, by rw [ra.length, rb.length]; exact hz, fun p hp => res_lst q (ra.append rb) hp⟩
    · cases hg
  all_goals first | (rename_i hc; cases hc) | skip
  all_goals cases hg
theorem ip2_add : PIp X .Add (rD X.K (prim2 .iadd)) := by
  intro pins s σ H x y v u Q I r1 r2 ⟨F, d, e, r, h1, h2, g, q⟩
  cases d <;> first | (cases g; done) | skip
  cases e <;> first | (cases g; done) | skip
  cases g
  have e1 := h1.int_
  have e2 := h2.int_
  subst e1 e2
  exact ip_add pins s σ H _ _ v u Q I r1 r2 ⟨_, _, rfl, rfl, res_int q⟩
theorem ip2_sub : PIp X .Sub (rD X.K (prim2 .isub)) := by
  intro pins s σ H x y v u Q I r1 r2 ⟨F, d, e, r, h1, h2, g, q⟩
  cases d <;> first | (cases g; done) | skip
  cases e <;> first | (cases g; done) | skip
  cases g
  have e1 := h1.int_
  have e2 := h2.int_
  subst e1 e2
  exact ip_sub pins s σ H _ _ v u Q I r1 r2 ⟨_, _, rfl, rfl, res_int q⟩
theorem op2_sub : OpR X (binaryOp .Sub) (rD X.K (prim2 .sub)) := by
  intro pins s σ H x y v u Q I rx ry ⟨F, d, e, r, cx, cy, hg, q⟩
  cases d <;> cases e <;> first | (cases hg; done) | skip
  cases hg; cases cx.int_; cases cy.int_
  exact op_sub pins s σ H _ _ v u Q I rx ry ⟨_, _, rfl, rfl, res_int q⟩
theorem op_mulS : OpR X (binaryOp .Mult) (fun x y H Q => ∃ z k, x = .str z ∧ y = .int k ∧ MulOk z k ∧ Q (.str (Txt.mul z k)) H) := by
  intro pins s σ H x y v u Q I rx ry ⟨z, k, e1, e2, ok, q⟩
  subst e1 e2
  obtain ⟨t, rfl⟩ := rx
  obtain ⟨t', rfl⟩ := ry
  exact SB.mul ok fun t2 tk => ⟨.str _, H, I.kept (t' := tk) fun _ _ h => h, ⟨t2, rfl⟩, q⟩
theorem mulOk_of {z : Str} {k : Int} (h1 : -(2 ^ 63) ≤ k) (h2 : k < 2 ^ 63) (h3 : z.length * k.toNat ≤ sizeLine) : MulOk z k := by
  refine ⟨by rw [decide_eq_false (by omega), decide_eq_false (by omega)]; rfl, fun h _ => ?_, fun h _ => ?_⟩
  · have hk : (k.toNat : Int) = k := Int.toNat_of_nonneg (by omega)
    have h4 : (z.length : Int) * k ≤ 2 ^ 63 - 1 := by
      rw [← hk]
      rw [sizeLine_eq] at h3
      have : ((z.length * k.toNat : Nat) : Int) ≤ 16777216 := by omega
      rw [Int.natCast_mul] at this
      omega
    have := (Int.le_ediv_iff_mul_le (by omega : 0 < k)).mpr h4
    omega
  · exact decide_eq_false (by omega)
theorem op2_mul : OpR X (binaryOp .Mult) (rD X.K (prim2 .mul)) := by
  intro pins s σ H x y v u Q I rx ry ⟨F, d, e, r, cx, cy, hg, q⟩
  cases d <;> cases e <;> first | (cases hg; done) | skip
  · simp only [prim2] at hg
    split at hg
    · rename_i hz
      cases hg; cases cx.int_; cases cy.int_
      refine op_mul pins s σ H _ _ v u Q I rx ry ⟨_, _, rfl, rfl, ?_, res_int q⟩
      simpa [smallMul, CMul, Bool.or_eq_true, Bool.and_eq_true, decide_eq_true_eq] using hz
    · cases hg
  · simp only [prim2] at hg
    split at hg
    · rename_i hz
      cases hg; cases cx.str_; cases cy.int_
      exact op_mulS pins s σ H _ _ v u Q I rx ry ⟨_, _, rfl, rfl, mulOk_of hz.1 hz.2.1 hz.2.2, res_val q (.str _)⟩
    · cases hg
  · simp only [prim2] at hg
    split at hg
    · rename_i xs k hz
      obtain ⟨hk, hm, hl⟩ := hz
      cases hg; cases cy.int_
      obtain ⟨a, vs, rfl, ha, ra⟩ := cx.tup_
      by_cases h1 : vs ≠ [] ∧ 2 ≤ k
      · exact op_repU pins s σ H _ _ v u Q I rx ry ⟨a, k, vs, rfl, rfl, ha.sqT, h1.1, h1.2, hk, by rw [ra.length]; exact hl, res_tup q (ra.flat _)⟩
      · cases rx
        obtain ⟨t, rfl⟩ := ry
        obtain ⟨its, rr, ⟨⟨cls, dd, data, sl⟩, ho, hc, n, hd⟩, hs⟩ := I.tuple ha.sqT
        simp only at hc hd
        subst hc hd
        refine tupRep0 (X := X) I ho rr hm hk (by
          rcases Classical.not_and_iff_not_or_not.mp h1 with h1 | h1
          · exact .inl (Classical.not_not.mp h1)
          · exact .inr (by omega)) (fun h => ?_) fun h => ?_
        · have e : (List.replicate k.toNat xs).flatten = xs := by
            rcases h with h | h
            · subst h; cases ra; simp
            · subst h; simp
          rw [e] at q
          exact res_val q (.tup ha ra)
        · have e : (List.replicate k.toNat xs).flatten = [] := by
            have : k.toNat = 0 := by omega
            rw [this]; rfl
          rw [e] at q
          exact res_tup q .nil
    · cases hg
  · simp only [prim2] at hg
    split at hg
    · rename_i xs k hz
      cases hg; cases cy.int_
      obtain ⟨a, vs, rfl, ha, ra⟩ := cx.lst_
      exact op_rep pins s σ H _ _ v u Q I rx ry ⟨a, k, vs, rfl, rfl, ha, hz.1, hz.2.1, by rw [ra.length]; exact hz.2.2, fun p hp => res_lst q (ra.flat _) hp⟩
    · cases hg
theorem op2_fdiv : OpR X (binaryOp .FloorDiv) (rD X.K (prim2 .fdiv)) := by
  intro pins s σ H x y v u Q I rx ry ⟨F, d, e, r, cx, cy, hg, q⟩
  cases d <;> cases e <;> first | (cases hg; done) | skip
  simp only [prim2] at hg
  split at hg
  · rename_i i j hz
    cases hg; cases cx.int_; cases cy.int_
    exact op_fdivW pins s σ H _ _ v u Q I rx ry ⟨_, _, rfl, rfl, wide_div (b := 64) hz.1 (by omega) (by decide) (by decide), res_int q⟩
  · cases hg
theorem op2_mod : OpR X (binaryOp .Mod) (rD X.K (prim2 .mod)) := by
  intro pins s σ H x y v u Q I rx ry ⟨F, d, e, r, cx, cy, hg, q⟩
  cases d <;> cases e <;> first | (cases hg; done) | skip
  simp only [prim2] at hg
  split at hg
  · rename_i i j hz
    cases hg; cases cx.int_; cases cy.int_
    exact op_mod pins s σ H _ _ v u Q I rx ry ⟨_, _, rfl, rfl, hz, res_int q⟩
  · cases hg
theorem op2_pow : OpR X (binaryOp .Pow) (rD X.K (prim2 .pow)) := by
  intro pins s σ H x y v u Q I rx ry ⟨F, d, e, r, cx, cy, hg, q⟩
  cases d <;> cases e <;> first | (cases hg; done) | skip
  simp only [prim2] at hg
  split at hg
  · rename_i i j hz
    cases hg; cases cx.int_; cases cy.int_
    exact op_pow pins s σ H _ _ v u Q I rx ry ⟨_, _, rfl, rfl, ⟨hz.1, by omega, hz.2.2⟩, res_int q⟩
  · cases hg
theorem op2_shl : OpR X (binaryOp .LShift) (rD X.K (prim2 .shl)) := by
  intro pins s σ H x y v u Q I rx ry ⟨F, d, e, r, cx, cy, hg, q⟩
  cases d <;> cases e <;> first | (cases hg; done) | skip
  simp only [prim2] at hg
  split at hg
  · rename_i i j hz
    cases hg; cases cx.int_; cases cy.int_
    exact op_shl pins s σ H _ _ v u Q I rx ry ⟨_, _, rfl, rfl, ⟨hz.1, by omega, hz.2.2⟩, res_int q⟩
  · cases hg
theorem op2_shr : OpR X (binaryOp .RShift) (rD X.K (prim2 .shr)) := by
  intro pins s σ H x y v u Q I rx ry ⟨F, d, e, r, cx, cy, hg, q⟩
  cases d <;> cases e <;> first | (cases hg; done) | skip
  simp only [prim2] at hg
  split at hg
  · rename_i i j hz
    cases hg; cases cx.int_; cases cy.int_
    exact op_shr pins s σ H _ _ v u Q I rx ry ⟨_, _, rfl, rfl, hz, res_int q⟩
  · cases hg
theorem op2_bor : OpR X (binaryOp .BitOr) (rD X.K (prim2 .bor)) := by
  intro pins s σ H x y v u Q I rx ry ⟨F, d, e, r, cx, cy, hg, q⟩
  cases d <;> cases e <;> first | (cases hg; done) | skip
  cases hg; cases cx.int_; cases cy.int_
  exact op_or pins s σ H _ _ v u Q I rx ry ⟨_, _, rfl, rfl, res_int q⟩
theorem op2_band : OpR X (binaryOp .BitAnd) (rD X.K (prim2 .band)) := by
  intro pins s σ H x y v u Q I rx ry ⟨F, d, e, r, cx, cy, hg, q⟩
  cases d <;> cases e <;> first | (cases hg; done) | skip
  cases hg; cases cx.int_; cases cy.int_
  exact op_and pins s σ H _ _ v u Q I rx ry ⟨_, _, rfl, rfl, res_int q⟩
/-! ### comparisons -/
mutual
theorem Rep.dp : ∀ {v : V} {d : D} {x : PyData}, Rep K F H v d → toPD d = some x → Dp K H v x
  | _, _, _, .non, e => by cases e; exact .non
  | _, _, _, .bl b, e => by cases e; exact .bl b
  | _, _, _, .int b, e => by cases e; exact .int b
  | _, _, _, .str b, e => by cases e; exact .str b
  | _, _, x, .tup h r, e => by
    simp only [toPD, Option.map_eq_some_iff] at e
    obtain ⟨xs, e, rfl⟩ := e
    exact .tup h.sqT (Reps.dp r e)
  | _, _, x, .lst f h r, e => by
    simp only [toPD, Option.map_eq_some_iff] at e
    obtain ⟨xs, e, rfl⟩ := e
    exact .lst (.inl (.inl h)) (Reps.dp r e)
  | _, _, _, .frz h r, e => by simp [toPD] at e
  | _, _, _, .dic f h r, e => by simp [toPD] at e
theorem Reps.dp : ∀ {vs : List V} {ds : List D} {xs : List PyData}, Reps K F H vs ds → toPDs ds = some xs → DpAll K H vs xs
  | _, _, _, .nil, e => by cases e; exact .nil
  | _, _, xs, .cons (d := d) (ds := ds) h r, e => by
    simp only [toPDs] at e
    split at e
    · cases e
      exact .cons (Rep.dp h (by assumption)) (Reps.dp r (by assumption))
    · cases e
end
theorem Cont.dp {x : PyData} (h : Cont K F H v d) (e : toPD d = some x) : Dp K H v x := by
  rcases h with h | ⟨a, rfl, h⟩
  · exact h.dp e
  · cases h with
    | lst h r =>
      simp only [toPD, Option.map_eq_some_iff] at e
      obtain ⟨xs, e, rfl⟩ := e
      exact .lst (.inl (.inl h)) (r.dp e)
    | dic h r => simp [toPD] at e
theorem eqD_some {d e : D} {b : Bool} (h : eqD d e = some b) : ∃ x y, toPD d = some x ∧ toPD e = some y ∧ SeqAt.shaped x = true ∧ SeqAt.shaped y = true ∧ PyData.eqv x y = b := by
  unfold eqD at h
  split at h
  · rename_i x y h1 h2
    split at h
    · rename_i hs
      cases h
      rw [Bool.and_eq_true] at hs
      exact ⟨x, y, h1, h2, hs.1, hs.2, rfl⟩
    · cases h
  · cases h
theorem op2_eq (hu : X.A.units + 64 < cLine) : OpR X (compareOp .Eq) (rD X.K (prim2 .eq)) := by
  intro pins s σ H x y v u Q I rx ry ⟨F, d, e, r, cx, cy, hg, q⟩
  simp only [prim2, boolR, Option.map_eq_some_iff] at hg
  obtain ⟨b, hb, rfl⟩ := hg
  obtain ⟨p1, p2, h1, h2, h3, h4, rfl⟩ := eqD_some hb
  exact op_eqD hu pins s σ H _ _ v u Q I rx ry ⟨p1, p2, cx.dp h1, cy.dp h2, h3, h4, res_bl q⟩
theorem op2_ne (hu : X.A.units + 64 < cLine) : OpR X (compareOp .NotEq) (rD X.K (prim2 .ne)) := by
  intro pins s σ H x y v u Q I rx ry ⟨F, d, e, r, cx, cy, hg, q⟩
  simp only [prim2, boolR, Option.map_eq_some_iff] at hg
  obtain ⟨b, ⟨c, hb, rfl⟩, rfl⟩ := hg
  obtain ⟨p1, p2, h1, h2, h3, h4, rfl⟩ := eqD_some hb
  exact op_neD hu pins s σ H _ _ v u Q I rx ry ⟨p1, p2, cx.dp h1, cy.dp h2, h3, h4, res_bl q⟩
theorem op2_lt : OpR X (compareOp .Lt) (rD X.K (prim2 .lt)) := by
  intro pins s σ H x y v u Q I rx ry ⟨F, d, e, r, cx, cy, hg, q⟩
  cases d <;> cases e <;> first | (cases hg; done) | skip
  cases hg; cases cx.int_; cases cy.int_
  exact op_lt pins s σ H _ _ v u Q I rx ry ⟨_, _, rfl, rfl, res_bl q⟩
theorem op2_le : OpR X (compareOp .LtE) (rD X.K (prim2 .le)) := by
  intro pins s σ H x y v u Q I rx ry ⟨F, d, e, r, cx, cy, hg, q⟩
  cases d <;> cases e <;> first | (cases hg; done) | skip
  cases hg; cases cx.int_; cases cy.int_
  exact op_le pins s σ H _ _ v u Q I rx ry ⟨_, _, rfl, rfl, res_bl q⟩
theorem op2_gt : OpR X (compareOp .Gt) (rD X.K (prim2 .gt)) := by
  intro pins s σ H x y v u Q I rx ry ⟨F, d, e, r, cx, cy, hg, q⟩
  cases d <;> cases e <;> first | (cases hg; done) | skip
  cases hg; cases cx.int_; cases cy.int_
  exact op_gt pins s σ H _ _ v u Q I rx ry ⟨_, _, rfl, rfl, res_bl q⟩
theorem op2_ge : OpR X (compareOp .GtE) (rD X.K (prim2 .ge)) := by
  intro pins s σ H x y v u Q I rx ry ⟨F, d, e, r, cx, cy, hg, q⟩
  cases d <;> cases e <;> first | (cases hg; done) | skip
  cases hg; cases cx.int_; cases cy.int_
  exact op_ge pins s σ H _ _ v u Q I rx ry ⟨_, _, rfl, rfl, res_bl q⟩
/-! ### in -/
theorem Rep.flat {v : V} {d : D} (h : Rep K F H v d) (e : flatD d = true) : flatV v = true := by
  cases h <;> first | rfl | cases e
theorem Rep.eqF {v w : V} {d e : D} (h : Rep K F H v d) (h' : Rep K F H w e) (f : flatD d = true) (f' : flatD e = true) : eqV v w = eqF d e := by
  cases h <;> (try (cases f; done)) <;> cases h' <;> (try (cases f'; done)) <;> rfl
theorem Cont.flat (h : Cont K F H v d) (e : flatD d = true) : Rep K F H v d := by
  rcases h with h | ⟨a, rfl, h⟩
  · exact h
  · cases h <;> cases e
theorem Reps.flat' : ∀ {vs : List V} {ds : List D}, Reps K F H vs ds → ds.all flatD = true → vs.all flatV = true
  | _, _, .nil, _ => rfl
  | _, _, .cons h r, e => by
    rw [List.all_cons, Bool.and_eq_true] at e ⊢
    exact ⟨h.flat e.1, Reps.flat' r e.2⟩
theorem Reps.anyF {x : V} {dx : D} (hx : Rep K F H x dx) (fx : flatD dx = true) : ∀ {vs : List V} {ds : List D}, Reps K F H vs ds → ds.all flatD = true → inV x vs = ds.any fun y => eqF y dx
  | _, _, .nil, _ => rfl
  | _, _, .cons h r, e => by
    rw [List.all_cons, Bool.and_eq_true] at e
    have ih := Reps.anyF hx fx r e.2
    unfold inV at ih ⊢
    rw [List.any_cons, List.any_cons, h.eqF hx e.1 fx, ih]
theorem RepK.look (k : Key) : ∀ {vs : List (Key × V)} {ds : List (Key × D)}, RepK K F H vs ds → (lookK k ds = none ∧ valV vs k = none) ∨ ∃ v d, lookK k ds = some d ∧ valV vs k = some v ∧ Rep K F H v d
  | _, _, .nil => .inl ⟨rfl, rfl⟩
  | _, _, .cons (k := j) (v := v) (d := d) (vs := vs) (ds := ds) h r => by
    by_cases e : j = k
    · refine .inr ⟨v, d, by simp [lookK, e], valV_pos e, h⟩
    · rcases RepK.look k r with ⟨h1, h2⟩ | ⟨v', d', h1, h2, h3⟩
      · exact .inl ⟨by simp [lookK, e, h1], by rw [valV_neg e]; exact h2⟩
      · exact .inr ⟨v', d', by simp [lookK, e, h1], by rw [valV_neg e]; exact h2, h3⟩
theorem Cont.key {k : Key} (h : Cont K F H v d) (e : toKey d = some k) : v = kV k := by
  cases d <;> first | (cases e; done) | skip
  · cases e; exact h.int_
  · cases e; exact h.str_
def rTupD (K : PySem.W.Frag) (neg : Bool) : R2 := fun x y H Q => ∃ d ds, Dp K H x d ∧ Dp K H y (.tuple ds) ∧ SeqAt.shaped d = true ∧ SeqAt.shaped (.list ds) = true ∧ Q (.bl (if neg then !(ds.any fun z => PyData.eqv z d) else ds.any fun z => PyData.eqv z d)) H
theorem op_inTD (hu : X.A.units + 65 < cLine) : OpR X (compareOp .In) (rTupD X.K false) := by
  intro pins s σ H x y v u Q I rx ry ⟨d, ds, hd, he, sd, se, q⟩
  obtain ⟨_, r1⟩ := Dp.reads I d x v hd rx
  obtain ⟨_, r2⟩ := Dp.reads I (.tuple ds) y u he ry
  exact SeqAt.in_tuple_reads r2 r1 (SeqAt.canLay_of_shaped se) (SeqAt.canLay_of_shaped sd) (PyProof.Rows.room_in_shaped sd hu) ⟨.bl _, H, I, rfl, q⟩
theorem op_notInTD (hu : X.A.units + 65 < cLine) : OpR X (compareOp .NotIn) (rTupD X.K true) := by
  intro pins s σ H x y v u Q I rx ry ⟨d, ds, hd, he, sd, se, q⟩
  obtain ⟨_, r1⟩ := Dp.reads I d x v hd rx
  obtain ⟨_, r2⟩ := Dp.reads I (.tuple ds) y u he ry
  exact SeqAt.notIn_tuple_reads r2 r1 (SeqAt.canLay_of_shaped se) (SeqAt.canLay_of_shaped sd) (PyProof.Rows.room_in_shaped sd hu) ⟨.bl _, H, I, rfl, q⟩
theorem in_core {neg : Bool} (op : CmpOp) (hdeepT : OpR X (compareOp op) (rTupD X.K neg)) (hseq : OpR X (compareOp op) (rIn X.K neg)) (hdeep : OpR X (compareOp op) (fun x y H Q => ∃ d ds, Dp X.K H x d ∧ Dp X.K H y (.list ds) ∧ SeqAt.shaped d = true ∧ SeqAt.shaped (.list ds) = true ∧ Q (.bl (if neg then !(ds.any fun z => PyData.eqv z d) else ds.any fun z => PyData.eqv z d)) H))
    (hsign : OpR X (compareOp op) (fun x y H Q => ∃ (c : Nat) (z : Str), x = .str ⟨#[c]⟩ ∧ y = .str z ∧ Q (.bl (if neg then !decide (c ∈ z.cps.toList) else decide (c ∈ z.cps.toList))) H))
    (hdict : ∀ (pins : List (Addr × Obj)) (s : Shared) (σ : St) (H : Hp) (y : V) (a : Addr) (u : Value) (o : Option V) (Q : VK), Inv X pins σ H s → DGet H a y o → RelV y u → Q (.bl (if neg then !o.isSome else o.isSome)) H →
      wpAny (model X.prog X.w) X.A (compareOp op u (.ref a)) (EP X pins σ Q) X.xe s) :
    OpR X (compareOp op) (rD X.K fun x l => boolR ((inD x l).map fun b => if neg then !b else b)) := by
  intro pins s σ H x y v u Q I rx ry ⟨F, d, e, r, cx, cy, hg, q⟩
  simp only [boolR, Option.map_eq_some_iff] at hg
  obtain ⟨b, ⟨c, hb, rfl⟩, rfl⟩ := hg
  cases e <;> first | (cases hb; done) | skip
  · -- text
    simp only [inD] at hb
    split at hb
    · split at hb
      · rename_i z _ w hw
        cases hb
        cases cx.str_; cases cy.str_
        have hc : w = ⟨#[w.cps.getD 0 0]⟩ := by
          obtain ⟨cps⟩ := w
          have h1 : cps.size = 1 := hw
          congr 1
          apply Array.ext
          · simp [h1]
          · intro i h2 h3
            have : i = 0 := by omega
            subst this
            simp [h1]
        rw [hc] at rx
        exact hsign pins s σ H _ _ v u Q I rx ry ⟨_, _, rfl, rfl, res_bl q⟩
      · cases hb
    · cases hb
  · simp only [inD] at hb
    split at hb
    · rename_i ys hz
      rw [Bool.and_eq_true] at hz
      cases hb
      obtain ⟨a, vs, rfl, ha, ra⟩ := cy.tup_
      have hx := cx.flat hz.1
      refine hseq pins s σ H _ _ v u Q I rx ry ⟨a, vs, rfl, .inr ha.sqT, hx.flat hz.1, ra.flat' hz.2, ?_⟩
      rw [Reps.anyF hx hz.1 ra hz.2]
      exact res_bl q
    · split at hb
      · rename_i p ps h1 h2
        split at hb
        · rename_i hs
          rw [Bool.and_eq_true] at hs
          cases hb
          obtain ⟨a, vs, rfl, ha, ra⟩ := cy.tup_
          exact hdeepT pins s σ H _ _ v u Q I rx ry ⟨p, ps, cx.dp h1, .tup ha.sqT (ra.dp h2), hs.1, hs.2, res_bl q⟩
        · cases hb
      · cases hb
  · simp only [inD] at hb
    obtain ⟨a, vs, rfl, ha, ra⟩ := cy.lst_
    split at hb
    · rename_i ys hz
      rw [Bool.and_eq_true] at hz
      cases hb
      have hx := cx.flat hz.1
      refine hseq pins s σ H _ _ v u Q I rx ry ⟨a, vs, rfl, .inl (.inl (.inl ha)), hx.flat hz.1, ra.flat' hz.2, ?_⟩
      rw [Reps.anyF hx hz.1 ra hz.2]
      exact res_bl q
    · split at hb
      · rename_i p ps h1 h2
        split at hb
        · rename_i hs
          rw [Bool.and_eq_true] at hs
          cases hb
          exact hdeep pins s σ H _ _ v u Q I rx ry ⟨p, ps, cx.dp h1, .lst (.inl (.inl ha)) (ra.dp h2), hs.1, hs.2, res_bl q⟩
        · cases hb
      · cases hb
  · simp only [inD, Option.map_eq_some_iff] at hb
    obtain ⟨k, hk, rfl⟩ := hb
    obtain ⟨a, vs, rfl, ha, ra⟩ := cy.dic_
    cases ry
    have e := cx.key hk
    subst e
    refine hdict pins s σ H _ a v _ Q I (DGet.k ha) rx ?_
    rcases ra.look k with ⟨h1, h2⟩ | ⟨w, d, h1, h2, _⟩
    · rw [h2]; rw [h1] at q; exact res_bl q
    · rw [h2]; rw [h1] at q; exact res_bl q
theorem op2_in (hu : X.A.units + 65 < cLine) : OpR X (compareOp .In) (rD X.K (prim2 .inn)) := by
  have h := in_core (X := X) (neg := false) .In (op_inTD hu) op_in_seq (op_inD hu) op_in_sign fun pins s σ H y a u o Q I g ry q => d_in (by omega) I g ry fun s3 I3 => ⟨.bl _, H, I3, rfl, q⟩
  intro pins s σ H x y v u Q I rx ry ⟨F, d, e, r, cx, cy, hg, q⟩
  refine h pins s σ H x y v u Q I rx ry ⟨F, d, e, r, cx, cy, ?_, q⟩
  rw [← hg]
  show boolR ((inD d e).map fun b => if false = true then !b else b) = boolR (inD d e)
  cases inD d e <;> rfl
theorem op2_notIn (hu : X.A.units + 65 < cLine) : OpR X (compareOp .NotIn) (rD X.K (prim2 .notIn)) := by
  have h := in_core (X := X) (neg := true) .NotIn (op_notInTD hu) op_notIn_seq (op_notInD hu) op_notIn_sign fun pins s σ H y a u o Q I g ry q => d_notIn (by omega) I g ry fun s3 I3 => ⟨.bl _, H, I3, rfl, q⟩
  intro pins s σ H x y v u Q I rx ry ⟨F, d, e, r, cx, cy, hg, q⟩
  refine h pins s σ H x y v u Q I rx ry ⟨F, d, e, r, cx, cy, ?_, q⟩
  rw [← hg]
  show boolR ((inD d e).map fun b => if true = true then !b else b) = boolR ((inD d e).map not)
  cases inD d e <;> rfl
/-! ### subscripts, slices -/
theorem ixOf_ixN (n : Nat) (i : Int) : ixN n i = ixOf n i := rfl
theorem Reps.at {ds : List D} {vs : List V} {i : Int} (r : Reps K F H vs ds) (e : getD ds i = some d) : ∃ v, atI vs i = some v ∧ Rep K F H v d := by
  unfold getD at e
  unfold atI
  rw [ixOf_ixN, r.length]
  cases h : ixOf ds.length i with
  | none => rw [h] at e; cases e
  | some j =>
    rw [h] at e
    obtain ⟨v, h1, h2⟩ := r.get (i := j) e
    exact ⟨v, h1, h2⟩
theorem ix2_get (hu : X.A.units + 1 < cLine) : IxR X (rD X.K (prim2 .get)) := by
  intro value slice pins s σ H x y v u Q I rx ry ⟨F, d, e, r, cx, cy, hg, q⟩ hs
  cases d <;> try (cases e <;> cases hg; done)
  · -- text
    rename_i z
    cases e <;> first | (cases hg; done) | skip
    simp only [prim2] at hg
    split at hg
    · rename_i i hz
      cases cx.str_; cases cy.int_
      cases h : ixOf z.cps.toList.length i with
      | none => rw [h] at hg; cases hg
      | some j =>
        rw [h] at hg
        simp only [Option.bind_some, Option.map_eq_some_iff] at hg
        obtain ⟨c, hc, rfl⟩ := hg
        refine ix_str value slice pins s σ H _ _ v u Q I rx ry ⟨z, i, c, rfl, rfl, hz, ?_, res_str q⟩ hs
        unfold atI
        rw [ixOf_ixN, h]
        exact hc
    · cases hg
  · cases e <;> first | (cases hg; done) | skip
    simp only [prim2, Option.map_eq_some_iff] at hg
    obtain ⟨c, hc, rfl⟩ := hg
    cases cy.int_
    obtain ⟨a, vs, rfl, ha, ra⟩ := cx.tup_
    obtain ⟨w, h1, h2⟩ := ra.at hc
    exact ix_tup value slice pins s σ H _ _ v u Q I rx ry ⟨a, vs, _, w, rfl, rfl, ha.sqT, h1, res_val q h2⟩ hs
  · cases e <;> first | (cases hg; done) | skip
    simp only [prim2, Option.map_eq_some_iff] at hg
    obtain ⟨c, hc, rfl⟩ := hg
    cases cy.int_
    obtain ⟨a, vs, rfl, ha, ra⟩ := cx.lst_
    obtain ⟨w, h1, h2⟩ := ra.at hc
    exact ix_list value slice pins s σ H _ _ v u Q I rx ry ⟨a, vs, _, w, rfl, rfl, .inl (.inl ha), h1, res_val q h2⟩ hs
  · cases e <;> first | (cases hg; done) | skip
    simp only [prim2, Option.map_eq_some_iff] at hg
    obtain ⟨c, hc, rfl⟩ := hg
    cases cy.int_
    obtain ⟨a, vs, rfl, ha, ra⟩ := cx.frz_
    obtain ⟨w, h1, h2⟩ := ra.at hc
    exact ix_list value slice pins s σ H _ _ v u Q I rx ry ⟨a, vs, _, w, rfl, rfl, ha.sqL, h1, res_val q h2⟩ hs
  · rename_i l
    have hg : ((toKey e).bind fun k => (lookK k l).map Rv.val) = some r := hg
    cases hk : toKey e with
    | none => rw [hk] at hg; cases hg
    | some k =>
      rw [hk] at hg
      simp only [Option.bind_some, Option.map_eq_some_iff] at hg
      obtain ⟨c, hc, rfl⟩ := hg
      obtain ⟨a, vs, rfl, ha, ra⟩ := cx.dic_
      have e := cy.key hk
      subst e
      rcases ra.look k with ⟨h1, h2⟩ | ⟨w, d, h1, h2, h3⟩
      · rw [h1] at hc; cases hc
      · rw [h1] at hc; cases hc
        have g : DGet H a (kV k) (some w) := h2 ▸ DGet.k ha
        exact ix_dict hu value slice pins s σ H _ _ v u Q I rx ry ⟨a, w, rfl, g, res_val q h3⟩ hs
def rSlD (K : PySem.W.Frag) : V → Option Int → Option Int → Hp → VK → Prop := fun x lo hi H Q => ∃ F d r, Cont K F H x d ∧ sliceD d lo hi = some r ∧ ResOk K F H Q r
theorem Reps.cut {vs : List V} {ds : List D} (lo hi : Option Int) (r : Reps K F H vs ds) : Reps K F H (cutV vs lo hi) (cutL ds lo hi) := by
  unfold cutV cutL
  rw [r.length]
  exact (r.drop _).take _
theorem sl_D : SlR X (rSlD X.K) := by
  intro pins s σ H x v vl vu lo hi sl Q I rx hs pl pu ⟨F, d, r, cx, hg, q⟩
  cases d <;> first | (cases hg; done) | skip
  · simp only [sliceD] at hg
    split at hg
    · rename_i hz
      cases hg; cases cx.str_
      exact sl_str pins s σ H _ v vl vu lo hi sl Q I rx hs pl pu ⟨_, rfl, hz, res_str q⟩
    · cases hg
  · cases hg
    obtain ⟨a, vs, rfl, ha, ra⟩ := cx.tup_
    refine sl_tupU pins s σ H _ v vl vu lo hi sl Q I rx hs pl pu ⟨a, vs, rfl, ha.sqT, fun h => ?_, fun _ => res_tup q (ra.cut lo hi)⟩
    have hc := ra.cut lo hi
    have e : cutV vs lo hi = vs := by
      unfold cutV
      rw [h.1, h.2, List.drop_zero, Nat.sub_zero, List.take_length]
    rw [e] at hc
    exact res_val q (.tup ha hc)
  · cases hg
    obtain ⟨a, vs, rfl, ha, ra⟩ := cx.lst_
    exact sl_list pins s σ H _ v vl vu lo hi sl Q I rx hs pl pu ⟨a, vs, rfl, .inl (.inl ha), fun p hp => res_lst q (ra.cut lo hi) hp⟩

/-! ### one value -/
def rCall (K : PySem.W.Frag) (g : D → Option Rv) : List V → Hp → VK → Prop := fun xs H Q => ∃ x, xs = [x] ∧ rD1 K g x H Q
theorem un1_neg : UnR X (unaryOp .USub) (rD1 X.K (prim1 .neg)) := by
  intro pins s σ H x v Q I rx ⟨F, d, r, cx, hg, q⟩
  cases d <;> first | (cases hg; done) | skip
  cases hg; cases cx.int_
  exact un_neg pins s σ H _ v Q I rx ⟨_, rfl, res_int q⟩
theorem call1_len : CallR X (.builtin "len") (rCall X.K (prim1 .len)) := by
  intro pins s σ H xs us Q I rx ⟨x, e, F, d, r, cx, hg, q⟩
  subst e
  cases d <;> first | (cases hg; done) | skip
  · simp only [prim1] at hg
    split at hg
    · rename_i hz
      cases hg; cases cx.str_
      exact call_len pins s σ H _ us Q I rx ⟨_, _, rfl, ⟨hz, rfl⟩, res_int q⟩
    · cases hg
  · cases hg
    obtain ⟨a, vs, rfl, ha, ra⟩ := cx.tup_
    exact call_len pins s σ H _ us Q I rx ⟨_, vs.length, rfl, .inr ⟨vs, ha.sqT, rfl⟩, by rw [ra.length]; exact res_int q⟩
  · cases hg
    obtain ⟨a, vs, rfl, ha, ra⟩ := cx.lst_
    exact call_len pins s σ H _ us Q I rx ⟨_, vs.length, rfl, .inl ⟨vs, .inl (.inl ha), rfl⟩, by rw [ra.length]; exact res_int q⟩
  · cases hg
    obtain ⟨a, vs, rfl, ha, ra⟩ := cx.frz_
    exact call_len pins s σ H _ us Q I rx ⟨_, vs.length, rfl, .inl ⟨vs, ha.sqL, rfl⟩, by rw [ra.length]; exact res_int q⟩
  · cases hg
    obtain ⟨a, vs, rfl, ha, ra⟩ := cx.dic_
    exact call_lenD pins s σ H _ us Q I rx ⟨a, vs, rfl, ha, by rw [ra.length]; exact res_int q⟩
theorem call1_int : CallR X (.type "int") (rCall X.K (prim1 .int)) := by
  intro pins s σ H xs us Q I rx ⟨x, e, F, d, r, cx, hg, q⟩
  subst e
  cases d <;> first | (cases hg; done) | skip
  · cases hg; cases cx.bl_
    exact call_int1 pins s σ H _ us Q I rx (.inr ⟨_, rfl, res_int q⟩)
  · cases hg; cases cx.int_
    exact call_int1 pins s σ H _ us Q I rx (.inl ⟨_, rfl, res_int q⟩)
theorem call1_str : CallR X (.type "str") (rCall X.K (prim1 .str)) := by
  intro pins s σ H xs us Q I rx ⟨x, e, F, d, r, cx, hg, q⟩
  subst e
  cases d <;> first | (cases hg; done) | skip
  · simp only [prim1] at hg
    split at hg
    · rename_i hz
      cases hg; cases cx.int_
      exact call_str_int pins s σ H _ us Q I rx ⟨_, rfl, hz, res_str q⟩
    · cases hg
  · cases hg; cases cx.str_
    exact SkE.call_str_str pins s σ H _ us Q I rx ⟨_, rfl, res_str q⟩
theorem call1_tuple : CallR X (.type "tuple") (rCall X.K (prim1 .tuple)) := by
  intro pins s σ H xs us Q I rx ⟨x, e, F, d, r, cx, hg, q⟩
  subst e
  cases d <;> first | (cases hg; done) | skip
  · cases hg
    obtain ⟨a, vs, rfl, ha, ra⟩ := cx.tup_
    exact call_tupleU pins s σ H _ us Q I rx ⟨a, vs, rfl, .inr ⟨ha.sqT, res_val q (.tup ha ra)⟩⟩
  · cases hg
    obtain ⟨a, vs, rfl, ha, ra⟩ := cx.lst_
    exact call_tupleU pins s σ H _ us Q I rx ⟨a, vs, rfl, .inl ⟨.inl (.inl ha), res_tup q ra⟩⟩
  · cases hg
    obtain ⟨a, vs, rfl, ha, ra⟩ := cx.frz_
    exact call_tupleU pins s σ H _ us Q I rx ⟨a, vs, rfl, .inl ⟨ha.sqL, res_tup q ra⟩⟩
theorem call1_list : CallR X (.type "list") (rCall X.K (prim1 .list)) := by
  intro pins s σ H xs us Q I rx ⟨x, e, F, d, r, cx, hg, q⟩
  subst e
  cases d <;> first | (cases hg; done) | skip
  · cases hg
    obtain ⟨a, vs, rfl, ha, ra⟩ := cx.tup_
    exact call_list_of pins s σ H _ us Q I rx ⟨a, vs, rfl, .inr ha.sqT, fun p hp => res_lst q ra hp⟩
  · cases hg
    obtain ⟨a, vs, rfl, ha, ra⟩ := cx.lst_
    exact call_list_of pins s σ H _ us Q I rx ⟨a, vs, rfl, .inl (.inl (.inl ha)), fun p hp => res_lst q ra hp⟩
  · cases hg
    obtain ⟨a, vs, rfl, ha, ra⟩ := cx.frz_
    exact call_list_of pins s σ H _ us Q I rx ⟨a, vs, rfl, .inl ha.sqL, fun p hp => res_lst q ra hp⟩
theorem asBools_some : ∀ {l : List D} {bs : List Bool} {vs : List V}, asBools l = some bs → Reps K F H vs l → vs = bs.map V.bl
  | [], _, _, e, .nil => by cases e; rfl
  | .bl b :: r, _, _, e, .cons h t => by
    simp only [asBools, Option.map_eq_some_iff] at e
    obtain ⟨bs, e, rfl⟩ := e
    cases h
    rw [asBools_some e t]
    rfl
theorem asInts_some : ∀ {l : List D} {bs : List Int} {vs : List V}, asInts l = some bs → Reps K F H vs l → vs = bs.map V.int
  | [], _, _, e, .nil => by cases e; rfl
  | .int b :: r, _, _, e, .cons h t => by
    simp only [asInts, Option.map_eq_some_iff] at e
    obtain ⟨bs, e, rfl⟩ := e
    cases h
    rw [asInts_some e t]
    rfl
theorem call1_all (hc : X.calm = true) : CallR X (.builtin "all") (rCall X.K (prim1 .all)) := by
  intro pins s σ H xs us Q I rx ⟨x, e, F, d, r, cx, hg, q⟩
  subst e
  cases d <;> first | (cases hg; done) | skip
  simp only [prim1, Option.map_eq_some_iff] at hg
  obtain ⟨bs, hb, rfl⟩ := hg
  obtain ⟨a, vs, rfl, ha, ra⟩ := cx.lst_
  have e := asBools_some hb ra
  subst e
  exact cr_all hc pins s σ H _ us Q I rx ⟨a, bs, rfl, .inl (.inl ha), res_bl q⟩
theorem call1_any (hc : X.calm = true) : CallR X (.builtin "any") (rCall X.K (prim1 .any)) := by
  intro pins s σ H xs us Q I rx ⟨x, e, F, d, r, cx, hg, q⟩
  subst e
  cases d <;> first | (cases hg; done) | skip
  simp only [prim1, Option.map_eq_some_iff] at hg
  obtain ⟨bs, hb, rfl⟩ := hg
  obtain ⟨a, vs, rfl, ha, ra⟩ := cx.lst_
  have e := asBools_some hb ra
  subst e
  exact cr_any hc pins s σ H _ us Q I rx ⟨a, bs, rfl, .inl (.inl ha), res_bl q⟩
theorem call1_sum (hc : X.calm = true) : CallR X (.builtin "sum") (rCall X.K (prim1 .sumL)) := by
  intro pins s σ H xs us Q I rx ⟨x, e, F, d, r, cx, hg, q⟩
  subst e
  cases d <;> first | (cases hg; done) | skip
  simp only [prim1, Option.map_eq_some_iff] at hg
  obtain ⟨bs, hb, rfl⟩ := hg
  obtain ⟨a, vs, rfl, ha, ra⟩ := cx.lst_
  have e := asInts_some hb ra
  subst e
  exact cr_sum hc pins s σ H _ us Q I rx ⟨a, bs, rfl, .inl (.inl ha), res_int q⟩
theorem maxI_spec : ∀ (l : List Int) (i m : Int), m ∈ i :: l → (∀ y, y ∈ i :: l → y ≤ m) → m = maxI i l
  | [], i, m, h, _ => by
    have e : m = i := by simpa using h
    exact e
  | j :: l, i, m, h, g => by
    show m = maxI (if j > i then j else i) l
    have hi := g i (by simp)
    have hj := g j (by simp)
    refine maxI_spec l _ m ?_ fun y hy => ?_
    · rcases List.mem_cons.mp h with h | h
      · subst h
        rw [if_neg (by omega)]; exact List.mem_cons_self
      · rcases List.mem_cons.mp h with h | h
        · subst h
          by_cases c : m > i
          · rw [if_pos c]; exact List.mem_cons_self
          · rw [if_neg c]
            have : m = i := by omega
            rw [this]; exact List.mem_cons_self
        · exact List.mem_cons_of_mem _ h
    · rcases List.mem_cons.mp hy with h | h
      · subst h; split <;> assumption
      · exact g y (by simp [h])
theorem minI_spec : ∀ (l : List Int) (i m : Int), m ∈ i :: l → (∀ y, y ∈ i :: l → m ≤ y) → m = minI i l
  | [], i, m, h, _ => by
    have e : m = i := by simpa using h
    exact e
  | j :: l, i, m, h, g => by
    show m = minI (if j < i then j else i) l
    have hi := g i (by simp)
    have hj := g j (by simp)
    refine minI_spec l _ m ?_ fun y hy => ?_
    · rcases List.mem_cons.mp h with h | h
      · subst h
        rw [if_neg (by omega)]; exact List.mem_cons_self
      · rcases List.mem_cons.mp h with h | h
        · subst h
          by_cases c : m < i
          · rw [if_pos c]; exact List.mem_cons_self
          · rw [if_neg c]
            have : m = i := by omega
            rw [this]; exact List.mem_cons_self
        · exact List.mem_cons_of_mem _ h
    · rcases List.mem_cons.mp hy with h | h
      · subst h; split <;> assumption
      · exact g y (by simp [h])
theorem call1_max (hc : X.calm = true) : CallR X (.builtin "max") (rCall X.K (prim1 .maxL)) := by
  intro pins s σ H xs us Q I rx ⟨x, e, F, d, r, cx, hg, q⟩
  subst e
  cases d <;> first | (cases hg; done) | skip
  simp only [prim1] at hg
  split at hg
  · rename_i i is hb
    cases hg
    obtain ⟨a, vs, rfl, ha, ra⟩ := cx.lst_
    have e := asInts_some hb ra
    subst e
    exact cr_max hc pins s σ H _ us Q I rx ⟨a, _, rfl, .inl (.inl ha), by simp, fun m h1 h2 => maxI_spec is i m h1 h2 ▸ res_int q⟩
  · cases hg
theorem call1_min (hc : X.calm = true) : CallR X (.builtin "min") (rCall X.K (prim1 .minL)) := by
  intro pins s σ H xs us Q I rx ⟨x, e, F, d, r, cx, hg, q⟩
  subst e
  cases d <;> first | (cases hg; done) | skip
  simp only [prim1] at hg
  split at hg
  · rename_i i is hb
    cases hg
    obtain ⟨a, vs, rfl, ha, ra⟩ := cx.lst_
    have e := asInts_some hb ra
    subst e
    exact cr_min hc pins s σ H _ us Q I rx ⟨a, _, rfl, .inl (.inl ha), by simp, fun m h1 h2 => minI_spec is i m h1 h2 ▸ res_int q⟩
  · cases hg
def rCall2 (K : PySem.W.Frag) (g : D → D → Option Rv) : List V → Hp → VK → Prop := fun xs H Q => ∃ x y, xs = [x, y] ∧ rD K g x y H Q
theorem call2_max (hc : X.calm = true) : CallR X (.builtin "max") (rCall2 X.K (prim2 .max2)) := by
  intro pins s σ H xs us Q I rx ⟨x, y, e, F, d, e', r, cx, cy, hg, q⟩
  subst e
  cases d <;> cases e' <;> first | (cases hg; done) | skip
  cases hg; cases cx.int_; cases cy.int_
  exact call_max2 hc pins s σ H _ us Q I rx ⟨_, _, rfl, res_int q⟩
theorem call2_min (hc : X.calm = true) : CallR X (.builtin "min") (rCall2 X.K (prim2 .min2)) := by
  intro pins s σ H xs us Q I rx ⟨x, y, e, F, d, e', r, cx, cy, hg, q⟩
  subst e
  cases d <;> cases e' <;> first | (cases hg; done) | skip
  cases hg; cases cx.int_; cases cy.int_
  exact call_min2 hc pins s σ H _ us Q I rx ⟨_, _, rfl, res_int q⟩
/-! ### isinstance -/
theorem Cont.tyX {t : String} (h : Cont K F H v d) (e : d.ty = some t) : TyX K H v (.type t) := by
  cases d <;> first | (cases e; done) | skip
  · cases e; cases h.non_; exact .base .non
  · cases e; cases h.bl_; exact .base (.bl _)
  · cases e; cases h.int_; exact .base (.int _)
  · cases e; cases h.str_; exact .base (.str _)
  · cases e
    obtain ⟨a, vs, rfl, ha, _⟩ := h.tup_
    rcases ha with ⟨o, _, ha⟩ | ⟨o, its, n, h1, _, h2, _⟩
    · exact .fTuple ha
    · exact .kTuple h1 h2
  · cases e
    obtain ⟨a, vs, rfl, ha, _⟩ := h.lst_
    exact .base (.lst ha)
  · cases e
    obtain ⟨a, vs, rfl, ha, _⟩ := h.frz_
    rcases ha with ⟨o, ha⟩ | ⟨_, ha⟩ | ⟨o, its, n, h1, h2, _⟩
    · exact .base (.frz ha)
    · exact .base (.lst ha)
    · exact .kList h1 h2
  · cases e
    obtain ⟨a, vs, rfl, ha, _⟩ := h.dic_
    exact .base (.dK ha)
  · exact (h.dct_).elim
/-- the table of kinds -/
def kindT (t : String) (u : Ty) : Bool := match t, u with
  | "bool", .bool => true | "bool", .int => true | "int", .int => true | "str", .str => true | "tuple", .tuple => true | "list", .list => true | "dict", .dict => true
  | _, _ => false
def kinds : List String := ["NoneType", "bool", "int", "str", "tuple", "list", "dict"]
theorem ty_kinds {t : String} (e : d.ty = some t) : t ∈ kinds := by
  cases d <;> cases e <;> decide
theorem isTy_kindT {t : String} (e : d.ty = some t) (u : Ty) : isTy d u = kindT t u := by
  cases d <;> cases e <;> cases u <;> rfl
theorem kit_all : (kinds.all fun t => [Ty.bool, Ty.int, Ty.str, Ty.dict, Ty.tuple, Ty.list].all fun u => decide (kitB t u.name = some (kindT t u))) = true := by decide +kernel
theorem kitOne_all (K : PySem.W.Frag) {t : String} (ht : t ∈ kinds) (u : Ty) : PySem.W.kitOne K (.type t) (.type u.name) = some (kindT t u) := by
  have h := List.all_eq_true.mp kit_all t ht
  have h2 := List.all_eq_true.mp h u (by cases u <;> simp)
  exact kit_ty (of_decide_eq_true h2)
theorem kitAny_two (K : PySem.W.Frag) {t : String} (ht : t ∈ kinds) (u w : Ty) : PySem.W.kitAny K (.type t) [.type u.name, .type w.name] = some (kindT t u || kindT t w) := by
  refine kitAny_cons (kitOne_all K ht u) (fun h => ?_) (fun h => by rw [h]; rfl)
  rw [h, Bool.false_or]
  refine kitAny_cons (kitOne_all K ht w) (fun h => ?_) (fun h => h)
  rw [h]; exact kitAny_nil
theorem call_is1 (u : Ty) : CallR X (.builtin "isinstance") (fun xs H Q => ∃ x, xs = [x, .ty u.name] ∧ rD1 X.K (prim1 (.isT u)) x H Q) := by
  intro pins s σ H xs us Q I rx ⟨x, e, F, d, r, cx, hg, q⟩
  subst e
  simp only [prim1] at hg
  split at hg
  · rename_i t ht
    cases hg
    exact call_isi pins s σ H _ us Q I rx ⟨x, _, _, _, kindT t u, rfl, .ty _, cx.tyX ht, kitOne_all _ (ty_kinds ht) u, by rw [← isTy_kindT ht]; exact res_bl q⟩
  · cases hg
theorem call_is2 (u w : Ty) : CallR X (.builtin "isinstance") (fun xs H Q => ∃ x tp, xs = [x, .ref tp] ∧ H tp = some (.tup [.ty u.name, .ty w.name]) ∧ rD1 X.K (prim1 (.isT2 u w)) x H Q) := by
  intro pins s σ H xs us Q I rx ⟨x, tp, e, htp, F, d, r, cx, hg, q⟩
  subst e
  simp only [prim1] at hg
  split at hg
  · rename_i t ht
    cases hg
    exact call_isiT pins s σ H _ us Q I rx ⟨x, tp, _, _, _, kindT t u || kindT t w, rfl, htp, .cons (.ty _) (.cons (.ty _) .nil), cx.tyX ht, kitAny_two _ (ty_kinds ht) u w, by rw [← isTy_kindT ht, ← isTy_kindT ht]; exact res_bl q⟩
  · cases hg
/-! ### truth -/
theorem Cont.tru {b : Bool} (h : Cont K F H v d) (e : truth d = some b) : TruV K v H b := by
  cases d <;> first | (cases e; done) | skip
  · cases e; cases h.non_; rfl
  · cases e; cases h.bl_; rfl
  · cases e; cases h.int_; rfl
  · simp only [truth] at e
    split at e
    · rename_i z hz
      cases e; cases h.str_
      refine ⟨hz, ?_⟩
      cases z.length <;> rfl
    · cases e
  · cases e
    obtain ⟨a, vs, rfl, ha, r⟩ := h.tup_
    exact .inr (.inl ⟨vs, ha.sqT, by cases r <;> rfl⟩)
  · cases e
    obtain ⟨a, vs, rfl, ha, r⟩ := h.lst_
    exact .inl ⟨vs, .inl (.inl ha), by cases r <;> rfl⟩
  · cases e
    obtain ⟨a, vs, rfl, ha, r⟩ := h.frz_
    exact .inl ⟨vs, ha.sqL, by cases r <;> rfl⟩
  · cases e
    obtain ⟨a, vs, rfl, ha, r⟩ := h.dic_
    exact .inr (.inr ⟨vs, ha, by cases r <;> rfl⟩)
/-! ### changes -/
theorem keeps_own {o : HO} (nf : ¬ F a) (h : OwnC K F H a d) : Keeps F H F (upd H a o) := by
  have hk := h.kind
  refine ⟨fun _ h => h, fun b u f e _ => ?_, fun b xs e => ?_, fun b o u e => ?_⟩
  · rw [upd_ne (fun z => nf (by rw [z] at f; exact f))]; exact e
  · rw [upd_ne (fun z => by subst z; rcases hk with ⟨_, h⟩ | ⟨_, h⟩ <;> rw [e] at h <;> cases h)]; exact e
  · rw [upd_ne (fun z => by subst z; rcases hk with ⟨_, h⟩ | ⟨_, h⟩ <;> rw [e] at h <;> cases h)]; exact e
def rMut (K : PySem.W.Frag) (m : MOp) : V → List V → Hp → VK → Prop := fun x vs H Q => ∃ F a d ds z, x = .ref a ∧ ¬ F a ∧ OwnC K F H a d ∧ Reps K F H vs ds ∧ mutate m d ds = some z ∧
  ∀ v o, OwnC K F (upd H a o) a z.1 → Rep K F (upd H a o) v z.2 → Q v (upd H a o)
theorem OwnC.lst_ {l : List D} (h : OwnC K F H a (.lst l)) : ∃ vs, H a = some (.lst vs) ∧ Reps K F H vs l := by
  cases h with | lst h r => exact ⟨_, h, r⟩
theorem OwnC.dic_ {l : List (Key × D)} (h : OwnC K F H a (.dic l)) : ∃ vs, H a = some (.dK vs) ∧ RepK K F H vs l := by
  cases h with | dic h r => exact ⟨_, h, r⟩
theorem mt2_append : MtR X "list.append" (rMut X.K .append) := by
  intro pins s σ H x vs v us Q I rx rvs ⟨F, a, d, ds, z, e, nf, oc, rd, hm, q⟩
  subst e
  cases d <;> first | (cases hm; done) | skip
  rename_i l
  cases rd with
  | nil => cases hm
  | @cons vx _ _ _ h t =>
    cases t with
    | cons _ _ => cases hm
    | nil =>
      simp only [mutate] at hm
      split at hm
      · rename_i hz
        cases hm
        obtain ⟨ws, ha, ra⟩ := oc.lst_
        have kp := keeps_own (o := .lst (ws ++ [vx])) nf oc
        exact mt_append pins s σ H _ _ v us Q I rx rvs ⟨a, ws, _, rfl, rfl, ha, by rw [ra.length]; exact hz, q _ _ (.lst upd_same ((ra.append (.cons h .nil)).keep kp)) .non⟩
      · cases hm
theorem mt2_pop : MtR X "list.pop" (rMut X.K .pop) := by
  intro pins s σ H x vs v us Q I rx rvs ⟨F, a, d, ds, z, e, nf, oc, rd, hm, q⟩
  subst e
  cases d <;> first | (cases hm; done) | skip
  rename_i l
  cases rd with
  | cons h t => cases hm
  | nil =>
    simp only [mutate] at hm
    split at hm
    · rename_i y hy
      cases hm
      obtain ⟨ws, ha, ra⟩ := oc.lst_
      obtain ⟨w, h1, h2⟩ := ra.get hy
      have kp := keeps_own (o := .lst ws.dropLast) nf oc
      exact mt_pop pins s σ H _ _ v us Q I rx rvs ⟨a, ws, w, rfl, rfl, ha, by rw [ra.length]; exact h1, q _ _ (.lst upd_same (ra.dropLast.keep kp)) (h2.keep kp)⟩
    · cases hm
theorem mt2_popAt : MtR X "list.pop" (rMut X.K .popAt) := by
  intro pins s σ H x vs v us Q I rx rvs ⟨F, a, d, ds, z, e, nf, oc, rd, hm, q⟩
  subst e
  cases d <;> first | (cases hm; done) | skip
  rename_i l
  cases rd with
  | nil => cases hm
  | @cons vx dx _ _ h t =>
    cases t with
    | cons _ _ => cases dx <;> cases hm
    | nil =>
      cases dx <;> first | (cases hm; done) | skip
      rename_i i
      simp only [mutate] at hm
      split at hm
      · rename_i hz
        cases hk : ixOf l.length i with
        | none => rw [hk] at hm; cases hm
        | some k =>
          rw [hk] at hm
          simp only [Option.bind_some, Option.map_eq_some_iff] at hm
          obtain ⟨y, hy, rfl⟩ := hm
          cases h
          obtain ⟨ws, ha, ra⟩ := oc.lst_
          obtain ⟨w, h1, h2⟩ := ra.get hy
          have kp := keeps_own (o := .lst (ws.eraseIdx k)) nf oc
          have hs : seqIndex? i ws.length = some k := (ixN_seq (n := ws.length) (by rw [ixOf_ixN, ra.length]; exact hk)).1
          exact mt_popAt pins s σ H _ _ v us Q I rx rvs ⟨a, ws, i, k, w, rfl, rfl, ha, hz.1, hz.2, hs, h1, q _ _ (.lst upd_same ((ra.eraseIdx k).keep kp)) (h2.keep kp)⟩
      · cases hm
theorem mt2_insert : MtR X "list.insert" (rMut X.K .insert) := by
  intro pins s σ H x vs v us Q I rx rvs ⟨F, a, d, ds, z, e, nf, oc, rd, hm, q⟩
  subst e
  cases d <;> first | (cases hm; done) | skip
  rename_i l
  cases rd with
  | nil => cases hm
  | @cons vx dx _ _ h t =>
    cases t with
    | nil => cases dx <;> cases hm
    | @cons vy dy _ _ h' t =>
      cases t with
      | cons _ _ => cases dx <;> cases hm
      | nil =>
        cases dx <;> first | (cases hm; done) | skip
        rename_i i
        simp only [mutate] at hm
        split at hm
        · rename_i hz
          cases hm
          cases h
          obtain ⟨ws, ha, ra⟩ := oc.lst_
          have kp := keeps_own (o := .lst (ws.take i.toNat ++ [vy] ++ ws.drop i.toNat)) nf oc
          have hl := line63
          refine mt_insert pins s σ H _ _ v us Q I rx rvs ⟨a, ws, i, vy, rfl, rfl, ha, by rw [ra.length]; exact hz.2.2, hz.1, by omega, q _ _ (.lst upd_same ?_) .non⟩
          have := ((ra.take i.toNat).append (.cons h' .nil)).append (ra.drop i.toNat)
          rw [List.append_assoc] at this
          exact (by rw [List.append_assoc] at *; exact this.keep kp)
        · cases hm
theorem RepK.any (k : Key) : ∀ {vs : List (Key × V)} {ds : List (Key × D)}, RepK K F H vs ds → (vs.any fun kv => decide (kv.1 = k)) = ds.any fun kv => decide (kv.1 = k)
  | _, _, .nil => rfl
  | _, _, .cons h r => by rw [List.any_cons, List.any_cons, RepK.any k r]
theorem RepK.mapSet {k : Key} {x : V} {e : D} (h : Rep K F H x e) : ∀ {vs : List (Key × V)} {ds : List (Key × D)}, RepK K F H vs ds → RepK K F H (vs.map fun kv => if kv.1 = k then (kv.1, x) else kv) (ds.map fun kv => if kv.1 = k then (kv.1, e) else kv)
  | _, _, .nil => .nil
  | _, _, .cons (k := j) q r => by
    rw [List.map_cons, List.map_cons]
    by_cases z : j = k
    · rw [if_pos z, if_pos z]; exact .cons h (RepK.mapSet h r)
    · rw [if_neg z, if_neg z]; exact .cons q (RepK.mapSet h r)
theorem RepK.snoc {k : Key} {x : V} {e : D} (h : Rep K F H x e) : ∀ {vs : List (Key × V)} {ds : List (Key × D)}, RepK K F H vs ds → RepK K F H (vs ++ [(k, x)]) (ds ++ [(k, e)])
  | _, _, .nil => .cons h .nil
  | _, _, .cons q r => .cons q (RepK.snoc h r)
theorem RepK.put {k : Key} {x : V} {e : D} (h : Rep K F H x e) {vs : List (Key × V)} {ds : List (Key × D)} (r : RepK K F H vs ds) : RepK K F H (putK vs k x) (putKD ds k e) := by
  unfold putK putKD
  rw [r.any k]
  split
  · exact r.mapSet h
  · exact r.snoc h
def rSetD (K : PySem.W.Frag) : V → V → V → Hp → (Hp → Prop) → Prop := fun o i v H Q => ∃ F a d k x d', o = .ref a ∧ ¬ F a ∧ OwnC K F H a d ∧ Rep K F H i k ∧ Rep K F H v x ∧ setAt d k x = some d' ∧ ∀ ob, OwnC K F (upd H a ob) a d' → Q (upd H a ob)
theorem set_D (hu : X.A.units + 1 < cLine) : PSet X (rSetD X.K) := by
  intro pins s σ H o i v ov iv u Q I ro ri rv ⟨F, a, d, k, x, d', e, nf, oc, hk, hx, hs, q⟩
  subst e
  cases d <;> first | (cases hs; done) | skip
  · rename_i l
    cases k <;> first | (cases hs; done) | skip
    rename_i k
    simp only [setAt, Option.map_eq_some_iff] at hs
    obtain ⟨j, hj, rfl⟩ := hs
    cases hk
    obtain ⟨ws, ha, ra⟩ := oc.lst_
    have kp := keeps_own (o := .lst (ws.set j v)) nf oc
    exact set_list pins s σ H _ _ v ov iv u Q I ro ri rv ⟨a, ws, k, j, rfl, rfl, ha, by rw [ixOf_ixN, ra.length]; exact hj, q _ (.lst upd_same ((ra.set hx j).keep kp))⟩
  · rename_i l
    simp only [setAt] at hs
    split at hs
    · rename_i hz
      obtain ⟨kk, hkk, rfl⟩ := Option.map_eq_some_iff.mp hs
      obtain ⟨ws, ha, ra⟩ := oc.dic_
      have e := (show Cont X.K F H i k from .inl hk).key hkk
      subst e
      cases ro
      have kp := keeps_own (o := .dK (putK ws kk v)) nf oc
      exact d_setItem hu I (DPut.k ha (by rw [ra.length]; exact hz)) ri rv fun s' I' => ⟨_, I', q _ (.dic upd_same ((ra.put hx).keep kp))⟩
    · cases hs
end
end G

set_option Elab.async false
set_option linter.all false
set_option maxRecDepth 100000
/-! G, part 4: what the evaluator does is what the hand layer's readings ask. -/
namespace G
open PySem L2
variable [TB : Tbs]
theorem R.bind_assoc {α β γ : Type} (r : R α) (f : α → R β) (g : β → R γ) : (r.bind f).bind g = r.bind fun a => (f a).bind g := by
  cases r <;> rfl
theorem PE.imp {X : Cx} {e : Expr} {t t' : TE} (h : PE X e t) (f : ∀ σ H Q, t' σ H Q → t σ H Q) : PE X e t' := ⟨fun pins s σ H Q I q => h.run pins s σ H Q I (f _ _ _ q)⟩
theorem PT.imp {X : Cx} {e : Expr} {t t' : TT} (h : PT X e t) (f : ∀ σ H Q, t' σ H Q → t σ H Q) : PT X e t' := ⟨fun pins s σ H Q I q => h.run pins s σ H Q I (f _ _ _ q)⟩
theorem PW.imp {X : Cx} {e : Expr} {t t' : TT} (h : PW X e t) (f : ∀ σ H Q, t' σ H Q → t σ H Q) : PW X e t' := ⟨fun w pins s σ H Q I q => h.run w pins s σ H Q I (f _ _ _ q)⟩
theorem PA.imp {X : Cx} {e : List Expr} {t t' : TA} (h : PA X e t) (f : ∀ σ H Q, t' σ H Q → t σ H Q) : PA X e t' := ⟨fun p pins s σ H Q I q => h.run p pins s σ H Q I (f _ _ _ q)⟩
theorem PS.imp {X : Cx} {e : Stmt} {t t' : TS} (h : PS X e t) (f : ∀ D σ H, t' D σ H → t D σ H) : PS X e t' := ⟨fun pins s σ H Q I q => h.run pins s σ H Q I (f _ _ _ q)⟩
theorem PSs.imp {X : Cx} {e : List Stmt} {t t' : TS} (h : PSs X e t) (f : ∀ D σ H, t' D σ H → t D σ H) : PSs X e t' := ⟨fun pins s σ H Q I q => h.run pins s σ H Q I (f _ _ _ q)⟩
theorem PI.imp {X : Cx} {tg e : Expr} {t t' : TI} (h : PI X tg e t) (f : ∀ σ H R, t' σ H R → t σ H R) : PI X tg e t' := ⟨fun pins s σ H Q I q => h.run pins s σ H Q I (f _ _ _ q)⟩
theorem PI.or {X : Cx} {tg e : Expr} {t t' : TI} (h : PI X tg e t) (h' : PI X tg e t') : PI X tg e (fun σ H R => t σ H R ∨ t' σ H R) := ⟨fun pins s σ H Q I q => q.elim (h.run pins s σ H Q I) (h'.run pins s σ H Q I)⟩
theorem pe_false {X : Cx} {e : Expr} {t : TE} (h : ∀ σ H Q, ¬ t σ H Q) : PE X e t := ⟨fun _ _ _ _ _ _ q => (h _ _ _ q).elim⟩
theorem pt_false {X : Cx} {e : Expr} {t : TT} (h : ∀ σ H Q, ¬ t σ H Q) : PT X e t := ⟨fun _ _ _ _ _ _ q => (h _ _ _ q).elim⟩
theorem pw_false {X : Cx} {e : Expr} {t : TT} (h : ∀ σ H Q, ¬ t σ H Q) : PW X e t := ⟨fun _ _ _ _ _ _ _ q => (h _ _ _ q).elim⟩
theorem ps_false {X : Cx} {e : Stmt} {t : TS} (h : ∀ σ H Q, ¬ t σ H Q) : PS X e t := ⟨fun _ _ _ _ _ _ q => (h _ _ _ q).elim⟩
theorem pi_false {X : Cx} {tg e : Expr} {t : TI} (h : ∀ σ H Q, ¬ t σ H Q) : PI X tg e t := ⟨fun _ _ _ _ _ _ q => (h _ _ _ q).elim⟩
/-- what is wished for of an exception -/
abbrev WT := (Addr → Prop) → Hp → St → List Sl → Ex → Prop
class Wok (W : WT) : Prop where
  mono : ∀ {F : Addr → Prop} {H : Hp} {σ : St} {env : List Sl} {F' : Addr → Prop} {H' : Hp} {σ' : St} {env' : List Sl} {x : Ex}, W F H σ env x → Ext F H σ env F' H' σ' env' → W F' H' σ' env' x
section
variable {K : PySem.W.Frag} {C : Ctx} {W : WT} {F F' F1 F2 : Addr → Prop} {H H' H1 H2 : Hp} {σ : St} {env env' env1 env2 : List Sl} {v : V} {d : D} {a : Addr} {Q : VK}
/-- an expression gives p -/
def PostE (K : PySem.W.Frag) (F : Addr → Prop) (H : Hp) (σ : St) (env : List Sl) (Q : VK) (p : Rv × List Sl) : Prop :=
  ∀ F' H' v, Ext F H σ env F' H' σ p.2 → EnvLe env p.2 → Stt K F' H' σ p.2 → RvOk K H F' H' σ p.2 v p.1 → Q v H'
def PostT (K : PySem.W.Frag) (F : Addr → Prop) (H : Hp) (σ : St) (env : List Sl) (Q : Bool → Hp → Prop) (p : Rv × List Sl) : Prop :=
  ∃ b, asB p.1 = some b ∧ ∀ F' H', Ext F H σ env F' H' σ p.2 → EnvLe env p.2 → Stt K F' H' σ p.2 → Q b H'
def PostA (K : PySem.W.Frag) (F : Addr → Prop) (H : Hp) (σ : St) (env : List Sl) (Q : List V → Hp → Prop) (p : List Rv × List Sl) : Prop :=
  ∀ F' H' vs, Ext F H σ env F' H' σ p.2 → EnvLe env p.2 → Stt K F' H' σ p.2 → Rvs (RvW K H F' H' σ p.2) vs p.1 → Q vs H'
def tE (K : PySem.W.Frag) (C : Ctx) (W : WT) (c : CE) : TE := fun σ H Q => ∃ F env, Stt K F H σ env ∧ (evalE C false c env).wp (PostE K F H σ env Q) (W F H σ env)
def tT (K : PySem.W.Frag) (C : Ctx) (W : WT) (c : CE) : TT := fun σ H Q => ∃ F env, Stt K F H σ env ∧ (evalE C true c env).wp (PostT K F H σ env Q) (W F H σ env)
def tA (K : PySem.W.Frag) (C : Ctx) (W : WT) (l : CEs) : TA := fun σ H Q => ∃ F env, Stt K F H σ env ∧ (evalEs C l env).wp (PostA K F H σ env Q) (W F H σ env)
theorem PostE.step {p : Rv × List Sl} (h : PostE K F H σ env Q p) (x : Ext F H σ env F1 H1 σ env1) (l : EnvLe env env1) : PostE K F1 H1 σ env1 Q p :=
  fun F' H' v x' l' s r => h F' H' v (x.trans x') (l.trans l') s (r.early fun a z => x.noneOf z)
theorem PostT.step {Q : Bool → Hp → Prop} {p : Rv × List Sl} (h : PostT K F H σ env Q p) (x : Ext F H σ env F1 H1 σ env1) (l : EnvLe env env1) : PostT K F1 H1 σ env1 Q p := by
  obtain ⟨b, e, h⟩ := h
  exact ⟨b, e, fun F' H' x' l' s => h F' H' (x.trans x') (l.trans l') s⟩
/-- the heap has grown -/
theorem ext_same (h : Same H H') : Ext F H σ env F H' σ env where
  sub := fun _ h => h
  keep := fun a o e _ _ => h a o e
  dom := fun a ⟨o, e, t⟩ => ⟨o, h a o e, t⟩
  new := fun _ h => .inl h
  owns := fun _ h => .inl h
theorem Stt.same (s : Stt K F H σ env) (h : Same H H') : Stt K F H' σ env where
  len := s.len
  trk := ⟨fun a f => (ext_same (σ := σ) (env := env) (F := F) h).dom a (s.trk.on a f), s.trk.tb.ext h⟩
  val := fun i d e => by obtain ⟨v, h1, h2⟩ := s.val i d e; exact ⟨v, h1, h2.keep h.keeps⟩
  own := fun i d e => by obtain ⟨a, h1, h2, h3⟩ := s.own i d e; exact ⟨a, h1, h2, h3.keep h.keeps fun o q _ => h a o q⟩
  inj := s.inj
/-- an operation's result is an expression's -/
theorem post_res {rv : Rv} (h : PostE K F H σ env Q (rv, env2)) (x : Ext F H σ env F2 H2 σ env2) (l : EnvLe env env2) (s : Stt K F2 H2 σ env2) : ResOk K F2 H2 Q rv := by
  cases rv with
  | val d => exact fun v H' sm r => h F2 H' v (x.trans (ext_same sm)) l (s.same sm) r
  | fresh d =>
    intro a H' sm hn oc
    refine h F2 H' _ (x.trans (ext_same sm)) l (s.same sm) ⟨a, rfl, fun f => Nw.of hn (s.trk.on a f), oc, fun o => ?_, x.noneOf (Nw.of hn)⟩
    rcases s.kind o with ⟨_, z⟩ | ⟨_, z⟩ <;> rw [hn] at z <;> cases z
  | slot i => exact True.intro
theorem fin_false (r : Rv) (env : List Sl) : fin false r env = .ok (r, env) := rfl
theorem fin_true (r : Rv) (env : List Sl) : fin true r env = (R.of ((r.cont env).bind truth)).bind fun b => .ok (.val (.bl b), env) := rfl
def plainC : CE → Bool
  | .andE _ _ => false
  | .orE _ _ => false
  | .notE _ => false
  | .ifE _ _ _ => false
  | _ => true
theorem eval_test (C : Ctx) {c : CE} (h : plainC c = true) (env : List Sl) : evalE C true c env = (evalE C false c env).bind fun p => fin true p.1 p.2 := by
  cases c <;> first | (cases h; done) | skip
  case stuck => rfl
  case const d => simp only [evalE, fin_false]; rfl
  case glob x => simp only [evalE, fin_false, R.bind_assoc]; rfl
  case var i =>
    simp only [evalE]
    split <;> rfl
  case p1 o a => simp only [evalE, fin_false, R.bind_assoc]; rfl
  case p2 o a b => simp only [evalE, fin_false, R.bind_assoc]; rfl
  case p3 o a b c => simp only [evalE, fin_false, R.bind_assoc]; rfl
  case chain o o' a b c =>
    simp only [evalE, fin_false, R.bind_assoc]
    congr 1; funext p; congr 1; funext q; congr 1; funext x
    split
    · simp only [R.bind_assoc]; rfl
    · rfl
  case tup l => simp only [evalE, fin_false, R.bind_assoc]; rfl
  case lst l => simp only [evalE, fin_false, R.bind_assoc]; rfl
  case dic ks l => simp only [evalE, fin_false, R.bind_assoc]; rfl
  case dictZip l => simp only [evalE, fin_false, R.bind_assoc]; rfl
  case call f l => simp only [evalE, fin_false, R.bind_assoc]; rfl
  case «mut» i m l =>
    simp only [evalE, R.bind_assoc]
    congr 1; funext _; congr 1; funext p; congr 1; funext q
    split
    · simp only [R.bind_assoc]; rfl
    · rfl
  case comp vs tg it elt => simp only [evalE, fin_false, R.bind_assoc]; rfl
  case compO vs tg i elt =>
    simp only [evalE]
    split
    · simp only [fin_false, R.bind_assoc]; rfl
    · rfl
  case compOIf vs tg i cond elt =>
    simp only [evalE]
    split
    · simp only [fin_false, R.bind_assoc]; rfl
    · rfl
  case comp2 vs tg it vs1 tg1 it1 elt => simp only [evalE, fin_false, R.bind_assoc]; rfl
  case comp2If vs tg it vs1 tg1 it1 cond elt => simp only [evalE, fin_false, R.bind_assoc]; rfl
  case compIf vs tg it cond elt => simp only [evalE, fin_false, R.bind_assoc]; rfl
  case tried a => simp only [evalE, fin_false, R.bind_assoc]; rfl
theorem r_truth {c : CE} (h : plainC c = true) {Q : Bool → Hp → Prop} (q : tT K C W c σ H Q) : tE K C W c σ H fun x H' => ∃ k, TruV K x H' k ∧ Q k H' := by
  obtain ⟨F, env, s, q⟩ := q
  rw [eval_test C h, R.wp_bind] at q
  refine ⟨F, env, s, R.wp_mono q (fun p hp F' H' v x l s' r => ?_) fun _ h => h⟩
  rw [fin_true, R.wp_bind, R.wp_of] at hp
  obtain ⟨b, hb, b', e, hq⟩ := hp
  cases e
  cases hc : p.1.cont p.2 with
  | none => rw [hc] at hb; cases hb
  | some d => rw [hc] at hb; exact ⟨b, (r.cont s' hc).tru hb, hq F' H' x l s'⟩

/-! ### readings -/
theorem r_p2 (hW : Wok W) {o : P2} {ca cb : CE} (q : tE K C W (.p2 o ca cb) σ H Q) : tOp (rD K (prim2 o)) (tE K C W ca) (tE K C W cb) σ H Q := by
  obtain ⟨F, env, s, q⟩ := q
  simp only [evalE, R.wp_bind, fin_false] at q
  refine ⟨F, env, s, R.wp_mono q (fun p hp F1 H1 v x l s1 r1 => ?_) fun _ h => h⟩
  refine ⟨F1, p.2, s1, R.wp_mono hp (fun p' hp' F2 H2 v2 x2 l2 s2 r2 => ?_) fun _ h => hW.mono h x⟩
  rw [R.wp_of] at hp'
  obtain ⟨rv, e, hq⟩ := hp'
  cases h1 : p.1.cont p'.2 with
  | none => rw [h1] at e; cases e
  | some d =>
    cases h2 : p'.1.cont p'.2 with
    | none => rw [h1, h2] at e; cases e
    | some d2 =>
      rw [h1, h2] at e
      exact ⟨F2, d, d2, rv, (r1.ext s1 x2 l2).cont s2 h1, r2.cont s2 h2, e, post_res hq (x.trans x2) (l.trans l2) s2⟩
theorem r_p1 {o : P1} {ca : CE} (q : tE K C W (.p1 o ca) σ H Q) : tE K C W ca σ H fun x H' => rD1 K (prim1 o) x H' Q := by
  obtain ⟨F, env, s, q⟩ := q
  simp only [evalE, R.wp_bind, fin_false] at q
  refine ⟨F, env, s, R.wp_mono q (fun p hp F1 H1 v x l s1 r1 => ?_) fun _ h => h⟩
  rw [R.wp_of] at hp
  obtain ⟨rv, e, hq⟩ := hp
  cases h1 : p.1.cont p.2 with
  | none => rw [h1] at e; cases e
  | some d =>
    rw [h1] at e
    exact ⟨F1, d, rv, r1.cont s1 h1, e, post_res hq x l s1⟩
def tOp3 (K : PySem.W.Frag) (o : P3) (r : Bool → V → V → V → Hp → VK → Prop) (ta tb tc : TE) : TE := fun σ H Q => ta σ H fun x H1 => ∃ k3 : Bool, (∃ F d, Cont K F H1 x d ∧ pre3 o d = some k3) ∧ tb σ H1 fun y H2 => (∃ F d, Cont K F H2 y d ∧ pre3b o d = some ()) ∧ tc σ H2 fun z H3 => r k3 x y z H3 Q
def rD3 (K : PySem.W.Frag) (g : Bool → D → D → D → Option Rv) : Bool → V → V → V → Hp → VK → Prop := fun k3 x y z H Q => ∃ F d e f r, Cont K F H x d ∧ Cont K F H y e ∧ Cont K F H z f ∧ g k3 d e f = some r ∧ ResOk K F H Q r
theorem r_p3 (hW : Wok W) {o : P3} {ca cb cc : CE} (q : tE K C W (.p3 o ca cb cc) σ H Q) : tOp3 K o (rD3 K (prim3 o)) (tE K C W ca) (tE K C W cb) (tE K C W cc) σ H Q := by
  obtain ⟨F, env, s, q⟩ := q
  simp only [evalE, R.wp_bind, fin_false] at q
  refine ⟨F, env, s, R.wp_mono q (fun p hp F1 H1 v x l s1 r1 => ?_) fun _ h => h⟩
  rw [R.wp_of] at hp
  obtain ⟨k3, hpre, hp⟩ := hp
  refine ⟨k3, ?_, ?_⟩
  · cases h1 : p.1.cont p.2 with
    | none => rw [h1] at hpre; cases hpre
    | some d => rw [h1] at hpre; exact ⟨F1, d, r1.cont s1 h1, hpre⟩
  refine ⟨F1, p.2, s1, R.wp_mono hp (fun p' hp' F2 H2 v2 x2 l2 s2 r2 => ?_) fun _ h => hW.mono h x⟩
  rw [R.wp_of] at hp'
  obtain ⟨_, hpre, hp'⟩ := hp'
  refine ⟨?_, ?_⟩
  · cases h1 : p'.1.cont p'.2 with
    | none => rw [h1] at hpre; cases hpre
    | some d => rw [h1] at hpre; exact ⟨F2, d, r2.cont s2 h1, hpre⟩
  refine ⟨F2, p'.2, s2, R.wp_mono hp' (fun p3 hp3 F3 H3 v3 x3 l3 s3 r3 => ?_) fun _ h => hW.mono h (x.trans x2)⟩
  rw [R.wp_of] at hp3
  obtain ⟨rv, e, hq⟩ := hp3
  cases h1 : p.1.cont p3.2 with
  | none => rw [h1] at e; cases e
  | some d =>
    cases h2 : p'.1.cont p3.2 with
    | none => rw [h1, h2] at e; cases e
    | some d2 =>
      cases h3 : p3.1.cont p3.2 with
      | none => rw [h1, h2, h3] at e; cases e
      | some d3 =>
        rw [h1, h2, h3] at e
        exact ⟨F3, d, d2, d3, rv, ((r1.ext s1 x2 l2).ext s2 x3 l3).cont s3 h1, (r2.ext s2 x3 l3).cont s3 h2, r3.cont s3 h3, e, post_res hq ((x.trans x2).trans x3) ((l.trans l2).trans l3) s3⟩
theorem r_glob {x : Str} (hd : C.globs x = some d) (q : tE K C W (.glob x) σ H Q) (r : ∀ F, Rep K F H v d) : Q v H := by
  obtain ⟨F, env, s, q⟩ := q
  simp only [evalE, hd, fin_false] at q
  exact q F H v Ext.refl EnvLe.refl s (r F)
theorem r_const (q : tE K C W (.const d) σ H Q) (r : ∀ F, Rep K F H v d) : Q v H := by
  obtain ⟨F, env, s, q⟩ := q
  exact q F H v Ext.refl EnvLe.refl s (r F)
theorem r_var {i : Nat} (q : tE K C W (.var i) σ H Q) : tVar i σ H Q := by
  obtain ⟨F, env, s, q⟩ := q
  simp only [evalE, fin_false] at q
  split at q
  · rename_i d h
    obtain ⟨v, h1, h2⟩ := s.val i d h
    exact ⟨v, h1, q F H v Ext.refl EnvLe.refl s h2⟩
  · rename_i d h
    obtain ⟨a, h1, _⟩ := s.own i d h
    exact ⟨.ref a, h1, q F H (.ref a) Ext.refl EnvLe.refl s ⟨h1, d, .inl h⟩⟩
  · exact q.elim
theorem asB_some {r : Rv} {b : Bool} (h : asB r = some b) : r = .val (.bl b) := by
  unfold asB at h
  split at h
  · cases h; rfl
  · cases h
theorem asB_v {r : Rv} {b : Bool} {H_0 : Hp} (h : asB r = some b) (q : RvOk K H_0 F H σ env v r) : v = .bl b := by
  rw [asB_some h] at q
  cases q; rfl
theorem r_andV (hW : Wok W) {ca cb : CE} (q : tE K C W (.andE ca cb) σ H Q) : tAndV (tE K C W ca) (tE K C W cb) σ H Q := by
  obtain ⟨F, env, s, q⟩ := q
  simp only [evalE, R.wp_bind] at q
  refine ⟨F, env, s, R.wp_mono q (fun p hp F1 H1 v x l s1 r1 => ?_) fun _ h => h⟩
  rw [R.wp_of] at hp
  obtain ⟨b, e, hq⟩ := hp
  refine ⟨b, asB_v e r1, ?_⟩
  cases b with
  | true => exact ⟨F1, p.2, s1, R.wp_mono hq (fun p' hp' => hp'.step x l) fun _ h => hW.mono h x⟩
  | false => exact hq F1 H1 (.bl false) x l s1 (.bl false)
theorem r_orV (hW : Wok W) {ca cb : CE} (q : tE K C W (.orE ca cb) σ H Q) : tOrV (tE K C W ca) (tE K C W cb) σ H Q := by
  obtain ⟨F, env, s, q⟩ := q
  simp only [evalE, R.wp_bind] at q
  refine ⟨F, env, s, R.wp_mono q (fun p hp F1 H1 v x l s1 r1 => ?_) fun _ h => h⟩
  rw [R.wp_of] at hp
  obtain ⟨b, e, hq⟩ := hp
  refine ⟨b, asB_v e r1, ?_⟩
  cases b with
  | true => exact hq F1 H1 (.bl true) x l s1 (.bl true)
  | false => exact ⟨F1, p.2, s1, R.wp_mono hq (fun p' hp' => hp'.step x l) fun _ h => hW.mono h x⟩
theorem r_andT (hW : Wok W) {ca cb : CE} {Q : Bool → Hp → Prop} (q : tT K C W (.andE ca cb) σ H Q) : tAnd (tT K C W ca) (tT K C W cb) σ H Q := by
  obtain ⟨F, env, s, q⟩ := q
  simp only [evalE, R.wp_bind] at q
  refine ⟨F, env, s, R.wp_mono q (fun p hp => ?_) fun _ h => h⟩
  rw [R.wp_of] at hp
  obtain ⟨b, e, hq⟩ := hp
  refine ⟨b, e, fun F1 H1 x l s1 => ?_⟩
  cases b with
  | true => exact ⟨F1, p.2, s1, R.wp_mono hq (fun p' hp' => hp'.step x l) fun _ h => hW.mono h x⟩
  | false =>
    obtain ⟨b, e, hq⟩ := hq
    cases e
    exact hq F1 H1 x l s1
theorem r_orT (hW : Wok W) {ca cb : CE} {Q : Bool → Hp → Prop} (q : tT K C W (.orE ca cb) σ H Q) : tOr (tT K C W ca) (tT K C W cb) σ H Q := by
  obtain ⟨F, env, s, q⟩ := q
  simp only [evalE, R.wp_bind] at q
  refine ⟨F, env, s, R.wp_mono q (fun p hp => ?_) fun _ h => h⟩
  rw [R.wp_of] at hp
  obtain ⟨b, e, hq⟩ := hp
  refine ⟨b, e, fun F1 H1 x l s1 => ?_⟩
  cases b with
  | true =>
    obtain ⟨b, e, hq⟩ := hq
    cases e
    exact hq F1 H1 x l s1
  | false => exact ⟨F1, p.2, s1, R.wp_mono hq (fun p' hp' => hp'.step x l) fun _ h => hW.mono h x⟩
theorem r_notV {ca : CE} (q : tE K C W (.notE ca) σ H Q) : tNotT K (tE K C W ca) σ H Q := by
  obtain ⟨F, env, s, q⟩ := q
  simp only [evalE, R.wp_bind] at q
  refine ⟨F, env, s, R.wp_mono q (fun p hp F1 H1 v x l s1 r1 => ?_) fun _ h => h⟩
  rw [R.wp_of] at hp
  obtain ⟨b, e, hq⟩ := hp
  cases h1 : p.1.cont p.2 with
  | none => rw [h1] at e; cases e
  | some d => rw [h1] at e; exact ⟨b, (r1.cont s1 h1).tru e, hq F1 H1 (.bl (!b)) x l s1 (.bl _)⟩
theorem r_notT {ca : CE} {Q : Bool → Hp → Prop} (q : tT K C W (.notE ca) σ H Q) (hb : ∀ env p, evalE C true ca env = .ok p → ∃ b, p.1 = .val (.bl b)) : tNot (tT K C W ca) σ H Q := by
  obtain ⟨F, env, s, q⟩ := q
  simp only [evalE, R.wp_bind] at q
  refine ⟨F, env, s, ?_⟩
  cases h : evalE C true ca env with
  | stuck => rw [h] at q; exact q
  | exc x => rw [h] at q; exact q
  | ok p =>
    rw [h] at q
    obtain ⟨b, e⟩ := hb env p h
    have q : (R.of ((p.1.cont p.2).bind truth)).wp _ _ := q
    rw [e, R.wp_of] at q
    obtain ⟨c, hc, b', e', hq⟩ := q
    cases hc
    cases e'
    exact ⟨b, by rw [e]; rfl, hq⟩
theorem r_ifE (hW : Wok W) {cc ca cb : CE} (q : tE K C W (.ifE cc ca cb) σ H Q) : tIf (tT K C W cc) (tE K C W ca) (tE K C W cb) σ H Q := by
  obtain ⟨F, env, s, q⟩ := q
  simp only [evalE, R.wp_bind] at q
  refine ⟨F, env, s, R.wp_mono q (fun p hp => ?_) fun _ h => h⟩
  rw [R.wp_of] at hp
  obtain ⟨b, e, hq⟩ := hp
  refine ⟨b, e, fun F1 H1 x l s1 => ?_⟩
  cases b with
  | true => exact ⟨F1, p.2, s1, R.wp_mono hq (fun p' hp' => hp'.step x l) fun _ h => hW.mono h x⟩
  | false => exact ⟨F1, p.2, s1, R.wp_mono hq (fun p' hp' => hp'.step x l) fun _ h => hW.mono h x⟩
def tIfT (t ta tb : TT) : TT := fun σ H Q => t σ H fun c H1 => if c = true then ta σ H1 Q else tb σ H1 Q
theorem r_ifT (hW : Wok W) {cc ca cb : CE} {Q : Bool → Hp → Prop} (q : tT K C W (.ifE cc ca cb) σ H Q) : tIfT (tT K C W cc) (tT K C W ca) (tT K C W cb) σ H Q := by
  obtain ⟨F, env, s, q⟩ := q
  simp only [evalE, R.wp_bind] at q
  refine ⟨F, env, s, R.wp_mono q (fun p hp => ?_) fun _ h => h⟩
  rw [R.wp_of] at hp
  obtain ⟨b, e, hq⟩ := hp
  refine ⟨b, e, fun F1 H1 x l s1 => ?_⟩
  cases b with
  | true => exact ⟨F1, p.2, s1, R.wp_mono hq (fun p' hp' => hp'.step x l) fun _ h => hW.mono h x⟩
  | false => exact ⟨F1, p.2, s1, R.wp_mono hq (fun p' hp' => hp'.step x l) fun _ h => hW.mono h x⟩
theorem r_chain (hW : Wok W) {o o' : P2} {ca cb cc : CE} (q : tE K C W (.chain o o' ca cb cc) σ H Q) : tChain (rD K (prim2 o)) (rD K (prim2 o')) (tE K C W ca) (tE K C W cb) (tE K C W cc) σ H Q := by
  obtain ⟨F, env, s, q⟩ := q
  simp only [evalE, R.wp_bind, fin_false] at q
  refine ⟨F, env, s, R.wp_mono q (fun p hp F1 H1 v x l s1 r1 => ?_) fun _ h => h⟩
  refine ⟨F1, p.2, s1, R.wp_mono hp (fun p' hp' F2 H2 v2 x2 l2 s2 r2 => ?_) fun _ h => hW.mono h x⟩
  rw [R.wp_of] at hp'
  obtain ⟨b, e, hq⟩ := hp'
  cases h1 : p.1.cont p'.2 with
  | none => rw [h1] at e; cases e
  | some d =>
    cases h2 : p'.1.cont p'.2 with
    | none => rw [h1, h2] at e; cases e
    | some d2 =>
      rw [h1, h2] at e
      have e : (prim2 o d d2).bind asB = some b := e
      cases h3 : prim2 o d d2 with
      | none => rw [h3] at e; cases e
      | some rv =>
        rw [h3] at e
        have e : asB rv = some b := e
        rw [asB_some e] at h3
        refine ⟨F2, d, d2, _, (r1.ext s1 x2 l2).cont s2 h1, r2.cont s2 h2, h3, fun w H3 sm rw' => ?_⟩
        cases rw'
        refine ⟨b, rfl, ?_⟩
        have x3 : Ext F2 H2 σ p'.2 F2 H3 σ p'.2 := ext_same sm
        have s3 := s2.same sm
        have r3 := r2.ext s2 x3 EnvLe.refl
        cases b with
        | false => exact hq F2 H3 (.bl false) ((x.trans x2).trans x3) (l.trans l2) s3 (.bl false)
        | true =>
          have hq : ((evalE C false cc p'.2).bind fun r => (R.of ((p'.1.cont r.2).bind fun e => (r.1.cont r.2).bind fun f => prim2 o' e f)).bind fun v => R.ok (v, r.2)).wp (PostE K F H σ env Q) (W F H σ env) := hq
          simp only [R.wp_bind] at hq
          refine ⟨F2, p'.2, s3, R.wp_mono hq (fun p3 hp3 F4 H4 v4 x4 l4 s4 r4 => ?_) fun _ h => hW.mono h ((x.trans x2).trans x3)⟩
          rw [R.wp_of] at hp3
          obtain ⟨rv', e', hq'⟩ := hp3
          cases h1' : p'.1.cont p3.2 with
          | none => rw [h1'] at e'; cases e'
          | some d' =>
            cases h2' : p3.1.cont p3.2 with
            | none => rw [h1', h2'] at e'; cases e'
            | some d2' =>
              rw [h1', h2'] at e'
              exact ⟨F4, d', d2', rv', (r3.ext s3 x4 l4).cont s4 h1', r4.cont s4 h2', e', post_res hq' (((x.trans x2).trans x3).trans x4) ((l.trans l2).trans l4) s4⟩
/-! ### argument lists, displays -/
theorem r_nil {Q : List V → Hp → Prop} (q : tA K C W .nil σ H Q) : tNil σ H Q := by
  obtain ⟨F, env, s, q⟩ := q
  exact q F H [] Ext.refl EnvLe.refl s .nil
theorem r_cons (hW : Wok W) {c : CE} {l : CEs} {Q : List V → Hp → Prop} (q : tA K C W (.cons c l) σ H Q) : tCons (tE K C W c) (tA K C W l) σ H Q := by
  obtain ⟨F, env, s, q⟩ := q
  simp only [evalEs, R.wp_bind] at q
  refine ⟨F, env, s, R.wp_mono q (fun p hp F1 H1 v x l s1 r1 => ?_) fun _ h => h⟩
  refine ⟨F1, p.2, s1, R.wp_mono hp (fun p' hp' F2 H2 vs x2 l2 s2 r2 => ?_) fun _ h => hW.mono h x⟩
  refine hp' F2 H2 (v :: vs) (x.trans x2) (l.trans l2) s2 (.cons (r1.ext s1 x2 l2).weak (r2.imp fun v r q => ?_))
  cases r with
  | val d => exact q
  | fresh d => obtain ⟨a, e, o, n, z⟩ := q; exact ⟨a, e, o, n, x.noneOf z⟩
  | slot i => exact q
def lenEs : CEs → Nat
  | .nil => 0
  | .cons _ r => lenEs r + 1
theorem evalEs_len : ∀ (l : CEs) (env : List Sl) (p : List Rv × List Sl), evalEs C l env = .ok p → p.1.length = lenEs l
  | .nil, env, p, h => by
    simp only [evalEs] at h
    cases h; rfl
  | .cons a r, env, p, h => by
    simp only [evalEs] at h
    cases h1 : evalE C false a env with
    | stuck => rw [h1] at h; cases h
    | exc x => rw [h1] at h; cases h
    | ok q =>
      rw [h1] at h
      have h : ((evalEs C r q.2).bind fun q_1 => R.ok (q.1 :: q_1.1, q_1.2)) = .ok p := h
      cases h2 : evalEs C r q.2 with
      | stuck => rw [h2] at h; cases h
      | exc x => rw [h2] at h; cases h
      | ok t =>
        rw [h2] at h
        cases h
        show (q.1 :: t.1).length = _
        rw [List.length_cons, evalEs_len r _ _ h2]; rfl
theorem wp_ok {α : Type} {r : R α} {Q : α → Prop} {E : Ex → Prop} (h : r.wp Q E) : r.wp (fun a => r = .ok a ∧ Q a) E := by
  cases r with
  | ok a => exact ⟨rfl, h⟩
  | exc x => exact h
  | stuck => exact h
theorem r_tup {l : CEs} (hl : lenEs l ≤ sizeLine) (q : tE K C W (.tup l) σ H Q) : tTupU (tA K C W l) σ H Q := by
  obtain ⟨F, env, s, q⟩ := q
  simp only [evalE, R.wp_bind, fin_false] at q
  refine ⟨F, env, s, R.wp_mono (wp_ok q) (fun p ⟨he, hp⟩ F1 H1 vs x l s1 r1 => ?_) fun _ h => h⟩
  rw [R.wp_of] at hp
  obtain ⟨⟨ds, env2⟩, e, hq⟩ := hp
  refine ⟨by rw [r1.length, evalEs_len _ _ _ he]; exact hl, ?_⟩
  obtain ⟨F2, b2, x2, l2, s2, r2, o2⟩ := freezeAll_ok x s1 r1 e
  exact res_tup (post_res hq x2 (l.trans l2) s2) r2
theorem r_lst {l : CEs} (hl : lenEs l ≤ sizeLine) (q : tE K C W (.lst l) σ H Q) : tLst (tA K C W l) σ H Q := by
  obtain ⟨F, env, s, q⟩ := q
  simp only [evalE, R.wp_bind, fin_false] at q
  refine ⟨F, env, s, R.wp_mono (wp_ok q) (fun p ⟨he, hp⟩ F1 H1 vs x l s1 r1 => ?_) fun _ h => h⟩
  rw [R.wp_of] at hp
  obtain ⟨⟨ds, env2⟩, e, hq⟩ := hp
  refine ⟨by rw [r1.length, evalEs_len _ _ _ he]; exact hl, fun a ha => ?_⟩
  obtain ⟨F2, b2, x2, l2, s2, r2, o2⟩ := freezeAll_ok x s1 r1 e
  exact res_lst (post_res hq x2 (l.trans l2) s2) r2 ha
end
end G

set_option Elab.async false
set_option linter.all false
set_option maxRecDepth 100000
/-! G, part 5: displays of dicts, get, changes of lists, calls. -/
namespace G
open PySem L2
variable [TB : Tbs]
section
variable {K : PySem.W.Frag} {C : Ctx} {W : WT} {F F' F1 F2 F_0 : Addr → Prop} {H H' H1 H2 H_0 : Hp} {σ σ' σ_0 : St} {env env' env1 env2 env0 : List Sl} {v : V} {d : D} {a p : Addr} {Q : VK}
theorem tE_mono {c : CE} {Q Q' : VK} (h : ∀ v H, Q v H → Q' v H) (q : tE K C W c σ H Q) : tE K C W c σ H Q' := by
  obtain ⟨F, env, s, q⟩ := q
  exact ⟨F, env, s, R.wp_mono q (fun p hp F' H' v x l s r => h _ _ (hp F' H' v x l s r)) fun _ h => h⟩
/-! ### dict displays -/
def trsOf (K : PySem.W.Frag) (C : Ctx) (W : WT) : List Key → CEs → List (TE × TE)
  | k :: ks, .cons c l => (tC (kV k), tE K C W c) :: trsOf K C W ks l
  | _, _ => []
theorem tPairs_mono : ∀ (l : CEs) {Q Q' : List (V × V) → Hp → Prop} (h : ∀ ps H, Q ps H → Q' ps H) {ks : List Key} {H : Hp}, tPairs (trsOf K C W ks l) σ H Q → tPairs (trsOf K C W ks l) σ H Q'
  | .nil, _, _, h, ks, H, q => by cases ks <;> exact h _ _ q
  | .cons a r, Q, Q', h, [], H, q => h _ _ q
  | .cons a r, Q, Q', h, k :: ks, H, q => tE_mono (fun v H1 q => tPairs_mono r (fun ps H2 q => h _ _ q) q) q
theorem r_pairs (hW : Wok W) : ∀ (ks : List Key) (l : CEs) {H : Hp} {Q : List V → Hp → Prop}, ks.length = lenEs l → tA K C W l σ H Q →
    tPairs (trsOf K C W ks l) σ H fun ps H2 => ∃ vs, ps = (ks.zip vs).map (fun kv => (kV kv.1, kv.2)) ∧ Q vs H2
  | [], .nil, H, Q, _, q => ⟨[], rfl, r_nil q⟩
  | k :: ks, .cons c l, H, Q, hl, q => by
    refine tE_mono (fun v H1 h => ?_) (r_cons hW q)
    have := r_pairs hW ks l (Nat.succ.inj hl) h
    exact tPairs_mono l (fun ps H2 ⟨vs, e, h⟩ => ⟨v :: vs, by rw [e]; rfl, h⟩) this
theorem Stt.notAt (s : Stt K F H σ env) (h : H a = none) : ¬ F a := fun f => Nw.of h (s.trk.on a f)
theorem Stt.notOwn (s : Stt K F H σ env) (h : ∀ xs, H a ≠ some (.lst xs)) (h' : ∀ xs, H a ≠ some (.dK xs)) : ¬ OwnA σ env a := fun o => by
  rcases s.kind o with ⟨xs, z⟩ | ⟨xs, z⟩
  · exact h xs z
  · exact h' xs z
theorem Stt.notOwnNone (s : Stt K F H σ env) (h : Nw H a) : ¬ OwnA σ env a := s.notOwn (fun _ z => h ⟨_, z, NoT.lst⟩) fun _ z => h ⟨_, z, NoT.dK⟩
/-- all but the tables stays -/
theorem ext_sameN (kn : ∀ a o, H a = some o → NoT o → H' a = some o) : Ext F H σ env F H' σ env where
  sub := fun _ h => h
  keep := fun a o e t _ => kn a o e t
  dom := fun a ⟨o, e, t⟩ => ⟨o, kn a o e t, t⟩
  new := fun _ h => .inl h
  owns := fun _ h => .inl h
theorem Stt.sameN (s : Stt K F H σ env) (kn : ∀ a o, H a = some o → NoT o → H' a = some o) (tr : Trk F H') : Stt K F H' σ env := by
  have kp : Keeps F H F H' := ⟨fun _ h => h, fun a o _ e t => kn a o e t, fun a xs e => kn a _ e NoT.tup, fun a o u e => kn a _ e NoT.frz⟩
  exact { len := s.len, trk := tr, val := fun i d e => by obtain ⟨v, h1, h2⟩ := s.val i d e; exact ⟨v, h1, h2.keep kp⟩, own := fun i d e => by obtain ⟨a, h1, h2, h3⟩ := s.own i d e; exact ⟨a, h1, h2, h3.keep kp fun o q t => kn a o q t⟩, inj := s.inj }
/-- a store to an object that came after the start -/
theorem Ext.poke {o : HO} (x : Ext F H σ env F2 H2 σ' env2) (h0 : H p = none) : Ext F H σ env F2 (upd H2 p o) σ' env2 where
  sub := x.sub
  keep := fun a u e t n => by rw [upd_ne (ne_of_none e h0)]; exact x.keep a u e t n
  dom := fun a e => by
    have z : a ≠ p := fun z => by subst z; exact Nw.of h0 e
    obtain ⟨u, hu, t⟩ := x.dom a e
    exact ⟨u, by rw [upd_ne z]; exact hu, t⟩
  new := x.new
  owns := x.owns
theorem keeps_poke {o u : HO} (nf : ¬ F p) (h : H p = some u) (h1 : ∀ xs, u ≠ .tup xs) (h2 : ∀ o w, u ≠ .frz o w) : Keeps F H F (upd H p o) :=
  ⟨fun _ h => h, fun b w f e _ => by rw [upd_ne (fun z => nf (by rw [z] at f; exact f))]; exact e,
    fun b xs e => by rw [upd_ne (fun z => by subst z; rw [h] at e; cases e; exact h1 _ rfl)]; exact e,
    fun b o w e => by rw [upd_ne (fun z => by subst z; rw [h] at e; cases e; exact h2 _ _ rfl)]; exact e⟩
theorem tabs_upd {T : List (Addr × Str)} {o : HO} (t : LamX.Tabs T H) (n1 : ∀ ps, H p ≠ some (.tbl ps)) (n2 : ∀ f, H p ≠ some (.ext f)) : LamX.Tabs T (upd H p o) := fun q hq => by
  obtain ⟨ps, h1, h2, h3⟩ := t q hq
  refine ⟨ps, by rw [upd_ne (fun z => n1 ps (by rw [← z]; exact h1))]; exact h1, h2, fun pos cv hc => ?_⟩
  obtain ⟨c, e1, e2⟩ := h3 pos cv hc
  exact ⟨c, e1, by rw [upd_ne (fun z => n2 _ (by rw [← z]; exact e2))]; exact e2⟩
theorem Stt.poke {o : HO} (s : Stt K F H σ env) (kp : Keeps F H F (upd H p o)) (no : ¬ OwnA σ env p) (n1 : ∀ ps, H p ≠ some (.tbl ps)) (n2 : ∀ f, H p ≠ some (.ext f)) : Stt K F (upd H p o) σ env where
  len := s.len
  trk := ⟨fun a f => by
    obtain ⟨u, hu, t⟩ := s.trk.on a f
    exact ⟨u, kp.at_ a u f hu t, t⟩, tabs_upd s.trk.tb n1 n2⟩
  val := fun i d e => by obtain ⟨v, h1, h2⟩ := s.val i d e; exact ⟨v, h1, h2.keep kp⟩
  own := fun i d e => by
    obtain ⟨b, h1, h2, h3⟩ := s.own i d e
    refine ⟨b, h1, h2, h3.keep kp fun u q _ => ?_⟩
    rw [upd_ne (fun z => by subst z; exact no ⟨i, d, e, h1⟩)]; exact q
  inj := s.inj
theorem RepK.zip : ∀ {ks : List Key} {vs : List V} {ds : List D}, Reps K F H vs ds → RepK K F H (ks.zip vs) (ks.zip ds)
  | [], _, _, _ => by rw [List.zip_nil_left, List.zip_nil_left]; exact .nil
  | _ :: _, _, _, .nil => .nil
  | k :: ks, _, _, .cons h r => .cons h (RepK.zip r)
theorem RepK.merge : ∀ {ms : List (Key × V)} {es : List (Key × D)} {vs : List (Key × V)} {ds : List (Key × D)}, RepK K F H ms es → RepK K F H vs ds → RepK K F H (mergeK vs ms) (es.foldl (fun acc kv => putKD acc kv.1 kv.2) ds)
  | _, _, _, _, .nil, r => r
  | _, _, _, _, .cons (k := k) h t, r => by have := RepK.merge t (r.put (k := k) h); exact this
theorem r_dic (hW : Wok W) {ks : List Key} {l : CEs} (hl : ks.length = lenEs l) (q : tE K C W (.dic ks l) σ H Q) : tDisp (trsOf K C W ks l) σ H Q := by
  intro p hp
  obtain ⟨F, env, s, q⟩ := q
  simp only [evalE, R.wp_bind, fin_false] at q
  have sm : Same H (upd H p (.dK [])) := same_upd hp
  have xs : Ext F H σ env F (upd H p (.dK [])) σ env := ext_same sm
  have nfp := s.notAt hp
  have nop := s.notOwnNone (Nw.of hp)
  have h2 : tA K C W l σ (upd H p (.dK [])) fun vs H2 => H2 p = some (.dK []) ∧ vs.length = ks.length ∧ (ks.zip vs).length ≤ 15 ∧ Q (.ref p) (upd H2 p (.dK (mergeK [] (ks.zip vs)))) := by
    refine ⟨F, env, s.same sm, R.wp_mono (wp_ok q) (fun p1 ⟨he, hq⟩ F1 H1 vs x1 l1 s1 r1 => ?_) fun _ h => hW.mono h xs⟩
    rw [R.wp_of] at hq
    obtain ⟨⟨ds, env2⟩, e, hq⟩ := hq
    rw [R.wp_of] at hq
    obtain ⟨dd, e2, hq⟩ := hq
    have hp1 : H1 p = some (.dK []) := x1.keep p _ upd_same NoT.dK nop
    obtain ⟨F2, b2, x2, l2, s2, r2, o2⟩ := freezeAll_ok x1 s1 r1 e
    have hlen : vs.length = ks.length := by rw [r1.length, evalEs_len _ _ _ he, hl]
    have e2 : (if ks.length = ds.length ∧ ds.length ≤ 15 then some ((ks.zip ds).foldl (fun acc kv => putKD acc kv.1 kv.2) []) else none) = some dd := e2
    split at e2
    · rename_i hz
      cases e2
      have nf2 : ¬ F2 p := fun f => by
        rcases x2.new p f with f | f | f
        · exact nfp f
        · exact f ⟨_, upd_same, NoT.dK⟩
        · exact nop f
      have no2 : ¬ OwnA σ env2 p := fun o => by
        rcases x2.owns p o with f | f
        · exact nop f
        · exact f ⟨_, upd_same, NoT.dK⟩
      have kp : Keeps F2 H1 F2 (upd H1 p (.dK (mergeK [] (ks.zip vs)))) := keeps_poke nf2 hp1 (fun _ z => nomatch z) (fun _ _ z => nomatch z)
      refine ⟨hp1, hlen, by rw [List.length_zip, hlen]; omega, hq F2 _ (.ref p) ((xs.trans x2).poke hp) (l1.trans l2) (s2.poke kp no2 (fun ps z => by rw [hp1] at z; cases z) fun f z => by rw [hp1] at z; cases z) ⟨p, rfl, nf2, .dic upd_same ?_, no2, Nw.of hp⟩⟩
      exact ((RepK.zip (r2.keep kp)).merge .nil)
    · cases e2
  refine tPairs_mono l (fun ps H2 h => ?_) (r_pairs hW ks l hl h2)
  obtain ⟨vs, e, h1, _, h3, h4⟩ := h
  exact ⟨h1, ks.zip vs, e, h3, h4⟩
/-! ### l.index(x) -/
theorem indexF_ok {x : D} : ∀ {l : List D} {j : Nat}, indexF x l = some j → (∃ z, l[j]? = some z ∧ eqF z x = true) ∧ ∀ (m : Nat) (z : D), m < j → l[m]? = some z → eqF z x = false
  | [], _, h => by cases h
  | y :: r, j, h => by
    unfold indexF at h
    split at h
    · rename_i e
      cases h
      exact ⟨⟨y, rfl, e⟩, fun m z hm => by omega⟩
    · rename_i e
      obtain ⟨i, h1, rfl⟩ := Option.map_eq_some_iff.mp h
      obtain ⟨⟨z, h2, h3⟩, h4⟩ := indexF_ok h1
      refine ⟨⟨z, by simpa using h2, h3⟩, fun m z' hm hz => ?_⟩
      cases m with
      | zero =>
        simp only [List.getElem?_cons_zero, Option.some.injEq] at hz
        subst hz
        simpa using e
      | succ m => exact h4 m z' (by omega) (by simpa using hz)
theorem Reps.get' : ∀ {vs : List V} {ds : List D} {i : Nat} {v : V}, Reps K F H vs ds → vs[i]? = some v → ∃ d, ds[i]? = some d ∧ Rep K F H v d
  | _, _, _, _, .nil, e => by simp at e
  | _, _, 0, _, .cons h _, e => by simp at e; subst e; exact ⟨_, rfl, h⟩
  | _, _, i + 1, v, .cons _ r, e => by
    obtain ⟨d, h1, h2⟩ := Reps.get' (i := i) (v := v) r (by simpa using e)
    exact ⟨d, by simpa using h1, h2⟩
theorem r_idx (hW : Wok W) {ca cb : CE} (q : tE K C W (.p3 .idx ca cb (.const .non)) σ H Q) : tBMor K "list" (rIndex K) (rIndexT K) (tE K C W ca) (tCons (tE K C W cb) tNil) σ H Q := by
  refine tE_mono (fun x H1 h => ?_) (r_p3 hW q)
  obtain ⟨k3, ⟨F, d, cx, hd⟩, h⟩ := h
  have fin : ∀ {l : List D} {e : D} {r : Rv} {ws : List V} {y : V} {F : Addr → Prop} {H2 : Hp}, Reps K F H2 ws l → Cont K F H2 y e → (if flatD e && l.all flatD then (indexF e l).map fun (j : Nat) => Rv.val (.int j) else none) = some r → ResOk K F H2 Q r →
      ∃ (j : Nat) (z : V), flatV y = true ∧ ws.all flatV = true ∧ ws[j]? = some z ∧ eqV z y = true ∧ (∀ (m : Nat) (z' : V), m < j → ws[m]? = some z' → eqV z' y = false) ∧ Q (.int (j : Nat)) H2 := by
    intro l e r ws y F H2 rb cy hg q
    split at hg
    · rename_i hz
      rw [Bool.and_eq_true] at hz
      obtain ⟨j, hj, rfl⟩ := Option.map_eq_some_iff.mp hg
      have hy := cy.flat hz.1
      obtain ⟨⟨z, h1, h2⟩, h3⟩ := indexF_ok hj
      obtain ⟨w, w1, w2⟩ := rb.get h1
      have fl : ∀ {k : Nat} {z : D}, l[k]? = some z → flatD z = true := fun e => List.all_eq_true.mp hz.2 _ (List.mem_of_getElem? e)
      refine ⟨j, w, hy.flat hz.1, rb.flat' hz.2, w1, by rw [w2.eqF hy (fl h1) hz.1]; exact h2, fun m z' hm hz' => ?_, res_int q⟩
      obtain ⟨d', d1, d2⟩ := rb.get' hz'
      rw [d2.eqF hy (fl d1) hz.1]
      exact h3 m d' hm d1
    · cases hg
  cases d <;> first | (cases hd; done) | skip
  · cases hd
    obtain ⟨a, vs, rfl, ha, ra⟩ := cx.tup_
    refine .inr ⟨⟨a, vs, rfl, ha⟩, tE_mono (fun y H2 h => ?_) h⟩
    obtain ⟨_, h⟩ := h
    have h := r_const (v := .non) h fun _ => .non
    obtain ⟨F, d, e, f, r, cx, cy, cz, hg, q⟩ := h
    have hg : prim3 .idx true d e f = some r := hg
    cases d <;> first | (cases hg; done) | skip
    obtain ⟨b, ws, e1, hb, rb⟩ := cx.tup_
    cases e1
    obtain ⟨j, z, h1, h2, h3, h4, h5, h6⟩ := fin rb cy hg q
    exact ⟨a, ws, y, j, z, rfl, rfl, hb.sqT, h1, h2, h3, h4, h5, h6⟩
  · cases hd
    obtain ⟨a, vs, rfl, ha, ra⟩ := cx.lst_
    refine .inl ⟨.inl ⟨rfl, vs, .inl (.inl ha)⟩, tE_mono (fun y H2 h => ?_) h⟩
    obtain ⟨_, h⟩ := h
    have h := r_const (v := .non) h fun _ => .non
    obtain ⟨F, d, e, f, r, cx, cy, cz, hg, q⟩ := h
    have hg : prim3 .idx false d e f = some r := hg
    cases d <;> first | (cases hg; done) | skip
    obtain ⟨b, ws, e1, hb, rb⟩ := cx.lst_
    cases e1
    obtain ⟨j, z, h1, h2, h3, h4, h5, h6⟩ := fin rb cy hg q
    exact ⟨a, ws, y, j, z, rfl, rfl, .inl (.inl hb), h1, h2, h3, h4, h5, h6⟩
/-! ### d.get(k, x) -/
theorem r_getOr (hW : Wok W) {ca cb cc : CE} (q : tE K C W (.p3 .getOr ca cb cc) σ H Q) : tDGet2 (tE K C W ca) (tE K C W cb) (tE K C W cc) σ H Q := by
  refine tE_mono (fun x H1 h => ?_) (r_p3 hW q)
  obtain ⟨k3, ⟨F, d, cx, hd⟩, h⟩ := h
  cases d <;> first | (cases hd; done) | skip
  obtain ⟨a, vs, rfl, ha, ra⟩ := cx.dic_
  refine ⟨a, rfl, .inl ⟨vs, .inl ha⟩, tE_mono (fun y H2 h => tE_mono (fun z H3 h => ?_) h.2) h⟩
  obtain ⟨F, d, e, f, r, cx, cy, cz, hg, q⟩ := h
  have hg : prim3 .getOr k3 d e f = some r := hg
  cases d <;> first | (cases hg; done) | skip
  obtain ⟨b, ws, e1, hb, rb⟩ := cx.dic_
  cases e1
  have hg : (if isScal f = true then (toKey e).map fun k => Rv.val ((lookK k _).getD f) else none) = some r := hg
  split at hg
  · rename_i hsc
    obtain ⟨k, hk, rfl⟩ := Option.map_eq_some_iff.mp hg
    have e2 := cy.key hk
    subst e2
    refine ⟨_, DGet.k hb, ?_⟩
    rcases rb.look k with ⟨h1, h2⟩ | ⟨w, d, h1, h2, h3⟩
    · rw [h2]
      rw [h1] at q
      rcases cz with cz | ⟨b, rfl, cz⟩
      · exact res_val q cz
      · cases cz <;> cases hsc
    · rw [h2]; rw [h1] at q; exact res_val q h3
  · cases hg
/-! ### changes of an owned list -/
theorem Stt.setOwn (s : Stt K F H σ env) {i : Nat} {o : HO} {d' : D} (e : env[i]? = some (.own d)) (es : σ[i]? = some (some (.ref a))) (h : OwnC K F (upd H a o) a d') :
    Stt K F (upd H a o) σ (env.set i (.own d')) ∧ Ext F H σ env F (upd H a o) σ (env.set i (.own d')) ∧ EnvLe env (env.set i (.own d')) := by
  obtain ⟨b, hb, nf, oc⟩ := s.own i d e
  rw [es] at hb
  cases hb
  have kp : Keeps F H F (upd H a o) := keeps_own nf oc
  have back : ∀ (j : Nat) (c : D), (env.set i (.own d'))[j]? = some (.own c) → ∃ c', env[j]? = some (.own c') := fun j c h => by
    rcases set_get h with ⟨z, _⟩ | ⟨_, z⟩
    · subst z; exact ⟨d, e⟩
    · exact ⟨c, z⟩
  refine ⟨⟨by rw [List.length_set]; exact s.len, ⟨fun b f => ?_, tabs_upd s.trk.tb (fun ps z => by rcases oc.kind with ⟨_, y⟩ | ⟨_, y⟩ <;> rw [z] at y <;> cases y) fun f z => by rcases oc.kind with ⟨_, y⟩ | ⟨_, y⟩ <;> rw [z] at y <;> cases y⟩, fun j c q => ?_, fun j c q => ?_, fun j k c c' b h1 h2 h3 h4 => ?_⟩, ⟨fun _ h => h, fun b u q _ n => ?_, fun b q => ?_, fun b f => .inl f, fun b ⟨j, c, h1, h2⟩ => ?_⟩, ⟨fun j c q => ?_, fun j c q => ?_⟩⟩
  · by_cases z : b = a
    · subst z; exact (nf f).elim
    · obtain ⟨u, hu, t⟩ := s.trk.on b f
      exact ⟨u, by rw [upd_ne z]; exact hu, t⟩
  · rcases set_get q with ⟨_, z⟩ | ⟨_, z⟩
    · cases z
    · obtain ⟨v, h1, h2⟩ := s.val j c z
      exact ⟨v, h1, h2.keep kp⟩
  · rcases set_get q with ⟨z, y⟩ | ⟨z, y⟩
    · subst z; cases y
      exact ⟨a, es, nf, h⟩
    · obtain ⟨b, h1, h2, h3⟩ := s.own j c y
      refine ⟨b, h1, h2, h3.keep kp fun u q _ => ?_⟩
      rw [upd_ne (fun w => by subst w; exact z (s.inj i j d c b e y es h1))]
      exact q
  · obtain ⟨x1, y1⟩ := back j c h1
    obtain ⟨x2, y2⟩ := back k c' h2
    exact s.inj j k x1 x2 b y1 y2 h3 h4
  · rw [upd_ne (fun w => by subst w; exact n ⟨i, d, e, es⟩)]; exact q
  · by_cases z : b = a
    · subst z; exact h.has
    · obtain ⟨u, hu, t⟩ := q
      exact ⟨u, by rw [upd_ne z]; exact hu, t⟩
  · obtain ⟨x1, y1⟩ := back j c h1
    exact .inl ⟨j, x1, y1, h2⟩
  · by_cases z : i = j
    · subst z; exact ⟨d', .inl (set_same e)⟩
    · exact ⟨c, .inl (by rw [List.getElem?_set_ne z]; exact q)⟩
  · by_cases z : i = j
    · subst z; rw [e] at q; cases q
    · exact ⟨c, by rw [List.getElem?_set_ne z]; exact q⟩
theorem r_mut (hW : Wok W) {i : Nat} {m : MOp} {l : CEs} (q : tE K C W (.mut i m l) σ H Q) : tBM K "list" (rMut K m) (tVar i) (tA K C W l) σ H Q := by
  obtain ⟨F, env, s, q⟩ := q
  simp only [evalE, R.wp_bind, fin_false] at q
  rw [R.wp_of] at q
  obtain ⟨_, ho, q⟩ := q
  unfold ownL at ho
  split at ho
  · rename_i l0 h0
    obtain ⟨a, ha, nf, oc⟩ := s.own i _ h0
    obtain ⟨ws, hws, _⟩ := oc.lst_
    refine ⟨.ref a, ha, .inl ⟨rfl, ws, .inl (.inl hws)⟩, F, env, s, R.wp_mono q (fun p hp F1 H1 vs x l s1 r1 => ?_) fun _ h => h⟩
    rw [R.wp_of] at hp
    obtain ⟨⟨ds, env2⟩, e, hq⟩ := hp
    obtain ⟨F2, b2, x2, l2, s2, r2, o2⟩ := freezeAll_ok x s1 r1 e
    split at hq
    · rename_i d hd
      rw [R.wp_bind, R.wp_of] at hq
      obtain ⟨z, hz, hq⟩ := hq
      obtain ⟨b, hb, nf2, oc2⟩ := s2.own i d hd
      rw [ha] at hb
      cases hb
      refine ⟨F2, a, d, ds, z, rfl, nf2, oc2, r2, hz, fun v o h1 h2 => ?_⟩
      obtain ⟨s3, x3, l3⟩ := s2.setOwn hd ha h1
      exact hq F2 _ v (x2.trans x3) ((l.trans l2).trans l3) s3 h2
    · exact hq.elim
  · cases ho

/-! ### calls -/
def lents : List Bool → List V → List Addr
  | true :: ls, .ref a :: vs => a :: lents ls vs
  | _ :: ls, _ :: vs => lents ls vs
  | _, _ => []
inductive Args (K : PySem.W.Frag) (F : Addr → Prop) (H : Hp) : List Bool → List V → List D → Prop where
  | nil : Args K F H [] [] []
  | val {ls : List Bool} {v : V} {vs : List V} {d : D} {ds : List D} : Rep K F H v d → Args K F H ls vs ds → Args K F H (false :: ls) (v :: vs) (d :: ds)
  | own {ls : List Bool} {a : Addr} {vs : List V} {d : D} {ds : List D} : ¬ F a → OwnC K F H a d → a ∉ lents ls vs → Args K F H ls vs ds → Args K F H (true :: ls) (.ref a :: vs) (d :: ds)
inductive Fins (K : PySem.W.Frag) (F : Addr → Prop) (H : Hp) : List Bool → List V → List Sl → Prop where
  | nil : Fins K F H [] [] []
  | val {ls : List Bool} {v : V} {vs : List V} {fs : List Sl} : Fins K F H ls vs fs → Fins K F H (false :: ls) (v :: vs) fs
  | own {ls : List Bool} {a : Addr} {vs : List V} {d : D} {fs : List Sl} : ¬ F a → OwnC K F H a d → Fins K F H ls vs fs → Fins K F H (true :: ls) (.ref a :: vs) (.own d :: fs)
  | gone {ls : List Bool} {a : Addr} {vs : List V} {d : D} {fs : List Sl} : Rep K F H (.ref a) d → Fins K F H ls vs fs → Fins K F H (true :: ls) (.ref a :: vs) (.val d :: fs)
/-- what a call may change: the lent objects at L -/
structure CExt (F : Addr → Prop) (H : Hp) (L : List Addr) (F' : Addr → Prop) (H' : Hp) : Prop where
  sub : ∀ a, F a → F' a
  keep : ∀ a o, H a = some o → NoT o → a ∉ L → H' a = some o
  dom : ∀ a, Has H a → Has H' a
  new : ∀ a, F' a → F a ∨ Nw H a ∨ a ∈ L
  trk : Trk F' H'
def RetOk (K : PySem.W.Frag) (H : Hp) (F' : Addr → Prop) (H' : Hp) (v : V) (o : Bool) (d : D) : Prop :=
  if o = true then ∃ a, v = .ref a ∧ ¬ F' a ∧ OwnC K F' H' a d ∧ Nw H a else Rep K F' H' v d
/-- the promise of a def -/
def spOf (K : PySem.W.Frag) (lent : List Bool) (EX : (Addr → Prop) → Hp → List Addr → Ex → XK → Prop) (run : List D → R Out) : Sp := fun vs H Q E => ∃ F ds, Trk F H ∧ Args K F H lent vs ds ∧
  (run ds).wp (fun out => ∀ F' H' v, CExt F H (lents lent vs) F' H' → RetOk K H F' H' v out.1 out.2.1 → Fins K F' H' lent vs out.2.2 → Q v H') (fun x => EX F H (lents lent vs) x E)
/-! ### raised errors -/
/-- a raised error: its class, its dict -/
def ExcR (K : PySem.W.Frag) (mg : Str → Option Value) (F : Addr → Prop) (H : Hp) (cls : Value) (d : Option Addr) (x : Ex) : Prop :=
  ∃ (C dd : Addr) (fs : List (Str × V)), cls = .ref C ∧ mg x.cls = some (.ref C) ∧ d = some dd ∧ H dd = some (.xd fs) ∧ ∀ f dv, (f, dv) ∈ x.fs → ∃ v, fs.lookup f = some v ∧ Rep K F H v dv
/-- what a def says of an error that it lets out -/
def EXR (K : PySem.W.Frag) (mg : Str → Option Value) : (Addr → Prop) → Hp → List Addr → Ex → XK → Prop := fun F H L x E => ∀ F' H' cls d, CExt F H L F' H' → ExcR K mg F' H' cls d x → E cls d H'
/-- all but the owned objects and the tables stay -/
structure OExt (F : Addr → Prop) (H : Hp) (O : Addr → Prop) (F' : Addr → Prop) (H' : Hp) : Prop where
  sub : ∀ a, F a → F' a
  keep : ∀ a o, H a = some o → NoT o → ¬ O a → H' a = some o
  dom : ∀ a, Has H a → Has H' a
  new : ∀ a, F' a → F a ∨ Nw H a ∨ O a
  trk : Trk F' H'
/-- a def's wish for an error that leaves it -/
def wX (K : PySem.W.Frag) (mg : Str → Option Value) (E : XK) : WT := fun F H σ env x => ∀ F' H' cls d, OExt F H (OwnA σ env) F' H' → ExcR K mg F' H' cls d x → E cls d H'
theorem Ext.oext {σ1 : St} (x : Ext F H σ env F1 H1 σ1 env1) (l : OExt F1 H1 (OwnA σ1 env1) F' H') : OExt F H (OwnA σ env) F' H' where
  sub := fun a h => l.sub a (x.sub a h)
  keep := fun a o h t n => l.keep a o (x.keep a o h t n) t fun q => by
    rcases x.owns a q with q | q
    · exact n q
    · exact q ⟨o, h, t⟩
  dom := fun a h => l.dom a (x.dom a h)
  new := fun a h => by
    rcases l.new a h with h | h | h
    · exact x.new a h
    · exact .inr (.inl (x.noneOf h))
    · rcases x.owns a h with h | h
      · exact .inr (.inr h)
      · exact .inr (.inl h)
  trk := l.trk
instance wX_ok {mg : Str → Option Value} {E : XK} : Wok (wX K mg E) := ⟨fun h x F' H' cls d l e => h F' H' cls d (x.oext l) e⟩
theorem CExt.oext {L : List Addr} {O : Addr → Prop} (x : CExt F H L F' H') (hL : ∀ a, a ∈ L → O a) : OExt F H O F' H' :=
  ⟨x.sub, fun a o h t n => x.keep a o h t fun m => n (hL a m), x.dom, fun a f => (x.new a f).imp id (Or.imp id (hL a)), x.trk⟩
theorem OExt.cext {L : List Addr} {O : Addr → Prop} (x : OExt F H O F' H') (hL : ∀ a, O a → a ∈ L) : CExt F H L F' H' :=
  ⟨x.sub, fun a o h t n => x.keep a o h t fun m => n (hL a m), x.dom, fun a f => (x.new a f).imp id (Or.imp id (hL a)), x.trk⟩
theorem wX_call {mg : Str → Option Value} {E : XK} {L : List Addr} {x : Ex} (h : wX K mg E F H σ env x) (hL : ∀ a, a ∈ L → OwnA σ env a) : EXR K mg F H L x E := fun F' H' cls d l e => h F' H' cls d (l.oext hL) e
theorem Args.length : ∀ {ls : List Bool} {vs : List V} {ds : List D}, Args K F H ls vs ds → vs.length = ls.length ∧ ds.length = ls.length
  | _, _, _, .nil => ⟨rfl, rfl⟩
  | _, _, _, .val _ t => ⟨congrArg (· + 1) t.length.1, congrArg (· + 1) t.length.2⟩
  | _, _, _, .own _ _ _ t => ⟨congrArg (· + 1) t.length.1, congrArg (· + 1) t.length.2⟩
/-- an argument that is let go -/
def Let (K : PySem.W.Frag) (F : Addr → Prop) (H : Hp) (σ : St) (env : List Sl) (v : V) : Rv → Prop
  | .val d => Rep K F H v d
  | .fresh d => Rep K F H v d
  | .slot i => σ[i]? = some (some v) ∧ ∃ d : D, env[i]? = some (Sl.val d)
theorem Let.stay {r : Rv} {F1 : Addr → Prop} (kp : Keeps F H F1 H) (l : EnvLe env env1) (h : Let K F H σ env v r) : Let K F1 H σ env1 v r := by
  cases r with
  | val d => exact Rep.keep kp h
  | fresh d => exact Rep.keep kp h
  | slot i => obtain ⟨h1, d, h2⟩ := h; exact ⟨h1, l.val i d h2⟩
theorem Let.rep {r : Rv} (s : Stt K F H σ env) (h : Let K F H σ env v r) (e : r.cont env = some d) : Rep K F H v d := by
  cases r with
  | val c => cases e; exact h
  | fresh c => cases e; exact h
  | slot i =>
    obtain ⟨h1, c, h2⟩ := h
    have e : (match env[i]? with | some (Sl.own d) => some d | some (Sl.val d) => some d | _ => none) = some d := e
    rw [h2] at e
    cases e
    obtain ⟨w, h3, h4⟩ := s.val i _ h2
    rw [h1] at h3
    cases h3
    exact h4
theorem freeze_let {r : Rv} (h : RvW K H_0 F H σ env v r) (e : r.freeze env = some (d, env1)) (rp : Rep K F1 H v d) : Let K F1 H σ env1 v r := by
  cases r with
  | val c => cases e; exact rp
  | fresh c => cases e; exact rp
  | slot i =>
    have e : (match env[i]? with | some (Sl.own d) => some (d, env.set i (.val d)) | some (Sl.val d) => some (d, env) | _ => none) = some (d, env1) := e
    split at e
    · rename_i c h2
      cases e
      exact ⟨h.1, _, set_same h2⟩
    · rename_i c h2
      cases e
      exact ⟨h.1, _, h2⟩
    · cases e
inductive Pass (P : V → Rv → Prop) : List Bool → List V → List Rv → Prop where
  | nil : Pass P [] [] []
  | val {ls : List Bool} {v : V} {vs : List V} {r : Rv} {rs : List Rv} : P v r → Pass P ls vs rs → Pass P (false :: ls) (v :: vs) (r :: rs)
  | lent {ls : List Bool} {v : V} {vs : List V} {r : Rv} {rs : List Rv} : Pass P ls vs rs → Pass P (true :: ls) (v :: vs) (r :: rs)
theorem Pass.imp {P P' : V → Rv → Prop} (f : ∀ v r, P v r → P' v r) : ∀ {ls : List Bool} {vs : List V} {rs : List Rv}, Pass P ls vs rs → Pass P' ls vs rs
  | _, _, _, .nil => .nil
  | _, _, _, .val h t => .val (f _ _ h) (Pass.imp f t)
  | _, _, _, .lent t => .lent (Pass.imp f t)
theorem passVals_ok : ∀ {ls : List Bool} {rs : List Rv} {vs : List V} {F : Addr → Prop} {env env' : List Sl}, Ext F_0 H_0 σ_0 env0 F H σ env → Stt K F H σ env → Rvs (RvW K H_0 F H σ env) vs rs → passVals ls rs env = some env' →
    ∃ F', (∀ a, F a → F' a) ∧ Ext F_0 H_0 σ_0 env0 F' H σ env' ∧ EnvLe env env' ∧ Stt K F' H σ env' ∧ Pass (Let K F' H σ env') ls vs rs ∧ (∀ a, OwnA σ env' a → OwnA σ env a)
  | [], [], _, F, env, _, x, s, h, e => by
    cases h; cases e
    exact ⟨F, fun _ h => h, x, EnvLe.refl, s, .nil, fun _ h => h⟩
  | true :: ls, r :: rs, _, F, env, env', x, s, h, e => by
    cases h with
    | cons h t =>
      obtain ⟨F2, b2, x2, l2, s2, r2, o2⟩ := passVals_ok (ls := ls) x s t e
      exact ⟨F2, b2, x2, l2, s2, .lent r2, o2⟩
  | false :: ls, r :: rs, _, F, env, env', x, s, h, e => by
    cases h with
    | @cons v _ vs _ h t =>
      have e : (match r.freeze env with | some (_, env1) => passVals ls rs env1 | none => none) = some env' := e
      split at e
      · rename_i d env1 h1
        obtain ⟨F1, b1, x1, l1, s1, r1, o1⟩ := freeze_ok x s h h1
        obtain ⟨F2, b2, x2, l2, s2, r2, o2⟩ := passVals_ok x1 s1 (t.imp fun v r q => q.stay b1 l1 o1) e
        exact ⟨F2, fun a q => b2 a (b1 a q), x2, l1.trans l2, s2, .val ((freeze_let h h1 r1).stay ⟨b2, fun _ _ _ h _ => h, fun _ _ h => h, fun _ _ _ h => h⟩ l2) r2, fun a q => o1 a (o2 a q)⟩
      · cases e
  | [], _ :: _, _, _, _, _, _, _, _, e => by cases e
  | true :: _, [], _, _, _, _, _, _, _, e => by cases e
  | false :: _, [], _, _, _, _, _, _, _, e => by cases e
/-- the lent slots, their objects -/
inductive Lent (σ : St) (env : List Sl) : List Bool → List V → List Nat → Prop where
  | nil : Lent σ env [] [] []
  | val {ls : List Bool} {v : V} {vs : List V} {is : List Nat} : Lent σ env ls vs is → Lent σ env (false :: ls) (v :: vs) is
  | lent {ls : List Bool} {a : Addr} {vs : List V} {i : Nat} {is : List Nat} {d : D} : σ[i]? = some (some (.ref a)) → env[i]? = some (Sl.own d) → Lent σ env ls vs is → Lent σ env (true :: ls) (.ref a :: vs) (i :: is)
theorem Lent.mem : ∀ {ls : List Bool} {vs : List V} {is : List Nat}, Lent σ env ls vs is → a ∈ lents ls vs → ∃ (i : Nat) (d : D), i ∈ is ∧ σ[i]? = some (some (.ref a)) ∧ env[i]? = some (Sl.own d)
  | _, _, _, .nil, h => by cases h
  | _, _, _, .val (ls := ls) (v := v) (vs := vs) t, h => by
    have h : a ∈ lents ls vs := by cases v <;> exact h
    exact Lent.mem t h
  | _, _, _, .lent h1 h2 t, h => by
    rcases List.mem_cons.mp h with h | h
    · subst h; exact ⟨_, _, List.mem_cons_self, h1, h2⟩
    · obtain ⟨i, d, m, q⟩ := Lent.mem t h
      exact ⟨i, d, List.mem_cons_of_mem _ m, q⟩
theorem Lent.at_ : ∀ {ls : List Bool} {vs : List V} {is : List Nat} {i : Nat}, Lent σ env ls vs is → i ∈ is → ∃ (a : Addr) (d : D), a ∈ lents ls vs ∧ σ[i]? = some (some (.ref a)) ∧ env[i]? = some (Sl.own d)
  | _, _, _, _, .nil, h => by cases h
  | _, _, _, _, .val (v := v) (vs := vs) t, h => by
    obtain ⟨a, d, m, q⟩ := Lent.at_ t h
    exact ⟨a, d, by cases v <;> exact m, q⟩
  | _, _, _, _, .lent h1 h2 t, h => by
    rcases List.mem_cons.mp h with h | h
    · subst h; exact ⟨_, _, List.mem_cons_self, h1, h2⟩
    · obtain ⟨a, d, m, q⟩ := Lent.at_ t h
      exact ⟨a, d, List.mem_cons_of_mem _ m, q⟩
theorem args_ok (s : Stt K F H σ env) : ∀ {ls : List Bool} {rs : List Rv} {vs : List V} {ds : List D} {is : List Nat}, Rvs (RvW K H_0 F H σ env) vs rs → Pass (Let K F H σ env) ls vs rs → conts env rs = some ds → lentSlots ls rs env = some is → is.Nodup →
    Args K F H ls vs ds ∧ Lent σ env ls vs is
  | [], _, _, ds, is, hr, hp, hc, hl, _ => by
    cases hp; cases hc; cases hl
    exact ⟨.nil, .nil⟩
  | false :: ls, _, _, ds, is, hr, hp, hc, hl, hn => by
    cases hp with
    | @val _ v vs r rs h t =>
      cases hr with
      | cons hr tr =>
        have hc : (match r.cont env, conts env rs with | some d, some ds => some (d :: ds) | _, _ => none) = some ds := hc
        split at hc
        · rename_i d ds' h1 h2
          cases hc
          have hl : lentSlots ls rs env = some is := by
            cases r <;> exact hl
          obtain ⟨a1, a2⟩ := args_ok s tr t h2 hl hn
          exact ⟨.val (h.rep s h1) a1, .val a2⟩
        · cases hc
  | true :: ls, _, _, ds, is, hr, hp, hc, hl, hn => by
    cases hp with
    | @lent _ v vs r rs t =>
      cases hr with
      | cons hr tr =>
        have hc : (match r.cont env, conts env rs with | some d, some ds => some (d :: ds) | _, _ => none) = some ds := hc
        split at hc
        · rename_i d ds' h1 h2
          cases hc
          cases r with
          | val _ => cases hl
          | fresh _ => cases hl
          | slot i =>
            have hl : (match env[i]? with | some (.own _) => (lentSlots ls rs env).map (i :: ·) | _ => none) = some is := hl
            split at hl
            · rename_i d2 h3
              obtain ⟨is', h4, rfl⟩ := Option.map_eq_some_iff.mp hl
              obtain ⟨nm, nd⟩ := List.nodup_cons.mp hn
              obtain ⟨a1, a2⟩ := args_ok s tr t h2 h4 nd
              have h1 : (match env[i]? with | some (Sl.own d) => some d | some (Sl.val d) => some d | _ => none) = some d := h1
              rw [h3] at h1
              cases h1
              obtain ⟨a, e1, e2, e3⟩ := s.own i _ h3
              obtain ⟨e4, _⟩ := hr
              rw [e1] at e4
              cases e4
              refine ⟨.own e2 e3 (fun m => ?_) a1, .lent e1 h3 a2⟩
              obtain ⟨j, c, mj, q1, q2⟩ := a2.mem m
              have : i = j := s.inj i j _ c a h3 q2 e1 q1
              subst this
              exact nm mj
            · cases hl
        · cases hc
/-- the state behind a call, but for the slots is -/
structure SttX (K : PySem.W.Frag) (F : Addr → Prop) (H : Hp) (σ : St) (env : List Sl) (is : List Nat) : Prop where
  len : env.length = σ.length
  trk : Trk F H
  val : ∀ (i : Nat) (d : D), i ∉ is → env[i]? = some (Sl.val d) → ∃ v, σ[i]? = some (some v) ∧ Rep K F H v d
  own : ∀ (i : Nat) (d : D), i ∉ is → env[i]? = some (Sl.own d) → ∃ a, σ[i]? = some (some (.ref a)) ∧ ¬ F a ∧ OwnC K F H a d
  inj : ∀ (i j : Nat) (d e : D) (a : Addr), env[i]? = some (Sl.own d) → env[j]? = some (Sl.own e) → σ[i]? = some (some (.ref a)) → σ[j]? = some (some (.ref a)) → i = j
  all : ∀ i, i ∈ is → ∃ d : D, env[i]? = some (Sl.own d)
theorem putBack_ok : ∀ {ls : List Bool} {vs : List V} {is : List Nat} {fs : List Sl} {env env2 : List Sl}, SttX K F H σ env is → is.Nodup → Lent σ env1 ls vs is → Fins K F H ls vs fs → putBack is fs env = some env2 →
    Stt K F H σ env2 ∧ EnvLe env env2 ∧ ∀ a, OwnA σ env2 a → OwnA σ env a
  | [], _, _, _, env, env2, s, _, t, f, e => by
    cases t; cases f; cases e
    exact ⟨⟨s.len, s.trk, fun i d h => s.val i d (by simp) h, fun i d h => s.own i d (by simp) h, s.inj⟩, EnvLe.refl, fun _ h => h⟩
  | false :: ls, _, _, _, env, env2, s, hn, t, f, e => by
    cases t with
    | val t =>
      cases f with
      | val f => exact putBack_ok s hn t f e
  | true :: ls, _, _, _, env, env2, s, hn, t, f, e => by
    cases t with
    | @lent _ a vs i is _ h1 h2 t =>
      cases f with
      | @own _ _ _ d fs f1 f2 f =>
        obtain ⟨c, hc⟩ := s.all i List.mem_cons_self
        obtain ⟨nm, nd⟩ := List.nodup_cons.mp hn
        have back : ∀ (j : Nat) (c : D), (env.set i (.own d))[j]? = some (.own c) → ∃ c', env[j]? = some (.own c') := fun j c' h => by
          rcases set_get h with ⟨z, _⟩ | ⟨_, z⟩
          · subst z; exact ⟨c, hc⟩
          · exact ⟨c', z⟩
        have s1 : SttX K F H σ (env.set i (.own d)) is := by
          refine ⟨by rw [List.length_set]; exact s.len, s.trk, fun j c' m q => ?_, fun j c' m q => ?_, fun j k c1 c2 b q1 q2 q3 q4 => ?_, fun j m => ?_⟩
          · rcases set_get q with ⟨_, z⟩ | ⟨z, y⟩
            · cases z
            · exact s.val j c' (by simp [Ne.symm z, m]) y
          · rcases set_get q with ⟨z, y⟩ | ⟨z, y⟩
            · subst z; cases y; exact ⟨a, h1, f1, f2⟩
            · exact s.own j c' (by simp [Ne.symm z, m]) y
          · obtain ⟨x1, y1⟩ := back j c1 q1
            obtain ⟨x2, y2⟩ := back k c2 q2
            exact s.inj j k x1 x2 b y1 y2 q3 q4
          · obtain ⟨c', h⟩ := s.all j (List.mem_cons_of_mem _ m)
            by_cases z : i = j
            · subst z; exact (nm m).elim
            · exact ⟨c', by rw [List.getElem?_set_ne z]; exact h⟩
        obtain ⟨r1, r2, r3⟩ := putBack_ok s1 nd t f e
        refine ⟨r1, EnvLe.trans ⟨fun j c' q => ?_, fun j c' q => ?_⟩ r2, fun b o => ?_⟩
        · by_cases z : i = j
          · subst z; exact ⟨d, .inl (set_same hc)⟩
          · exact ⟨c', .inl (by rw [List.getElem?_set_ne z]; exact q)⟩
        · by_cases z : i = j
          · subst z; rw [hc] at q; cases q
          · exact ⟨c', by rw [List.getElem?_set_ne z]; exact q⟩
        · obtain ⟨j, c1, q1, q2⟩ := r3 b o
          obtain ⟨x1, y1⟩ := back j c1 q1
          exact ⟨j, x1, y1, q2⟩
      | @gone _ _ _ d fs f2 f =>
        obtain ⟨c, hc⟩ := s.all i List.mem_cons_self
        obtain ⟨nm, nd⟩ := List.nodup_cons.mp hn
        have back : ∀ (j : Nat) (c : D), (env.set i (.val d))[j]? = some (.own c) → env[j]? = some (.own c) := fun j c' h => by
          rcases set_get h with ⟨z, y⟩ | ⟨_, z⟩
          · cases y
          · exact z
        have s1 : SttX K F H σ (env.set i (.val d)) is := by
          refine ⟨by rw [List.length_set]; exact s.len, s.trk, fun j c' m q => ?_, fun j c' m q => ?_, fun j k c1 c2 b q1 q2 q3 q4 => ?_, fun j m => ?_⟩
          · rcases set_get q with ⟨z, y⟩ | ⟨z, y⟩
            · subst z; cases y; exact ⟨_, h1, f2⟩
            · exact s.val j c' (by simp [Ne.symm z, m]) y
          · rcases set_get q with ⟨z, y⟩ | ⟨z, y⟩
            · cases y
            · exact s.own j c' (by simp [Ne.symm z, m]) y
          · exact s.inj j k c1 c2 b (back j c1 q1) (back k c2 q2) q3 q4
          · obtain ⟨c', h⟩ := s.all j (List.mem_cons_of_mem _ m)
            by_cases z : i = j
            · subst z; exact (nm m).elim
            · exact ⟨c', by rw [List.getElem?_set_ne z]; exact h⟩
        obtain ⟨r1, r2, r3⟩ := putBack_ok s1 nd t f e
        refine ⟨r1, EnvLe.trans ⟨fun j c' q => ?_, fun j c' q => ?_⟩ r2, fun b o => ?_⟩
        · by_cases z : i = j
          · subst z; exact ⟨d, .inr (set_same hc)⟩
          · exact ⟨c', .inl (by rw [List.getElem?_set_ne z]; exact q)⟩
        · by_cases z : i = j
          · subst z; rw [hc] at q; cases q
          · exact ⟨c', by rw [List.getElem?_set_ne z]; exact q⟩
        · obtain ⟨j, c1, q1, q2⟩ := r3 b o
          exact ⟨j, c1, back j c1 q1, q2⟩
theorem Lent.none {ls : List Bool} {vs : List V} (h : Lent σ env ls vs []) : lents ls vs = [] := by
  cases e : lents ls vs with
  | nil => rfl
  | cons a r =>
    obtain ⟨i, d, m, _⟩ := h.mem (a := a) (by rw [e]; exact List.mem_cons_self)
    cases m
theorem Rep.scal {F1 : Addr → Prop} {H1 : Hp} (h : Rep K F H v d) (e : isScal d = true) : Rep K F1 H1 v d := by
  cases h <;> first | (cases e; done) | constructor
theorem OwnC.noScal (h : OwnC K F H a d) : isScal d = false := by
  cases h <;> rfl
theorem r_call (hW : Wok W) {f : Str} {fn : CFn} {l : CEs} {EX : (Addr → Prop) → Hp → List Addr → Ex → XK → Prop} {E : XK} (hf : C.fns f = some fn) (hE : ∀ F1 H1 env1 L x, W F1 H1 σ env1 x → (∀ a, a ∈ L → OwnA σ env1 a) → EX F1 H1 L x E) (q : tE K C W (.call f l) σ H Q) :
    tCall (spOf K fn.lent EX (C.run f)) [] E (tA K C W l) σ H Q := by
  obtain ⟨F, env, s, q⟩ := q
  simp only [evalE, R.wp_bind, fin_false] at q
  refine ⟨F, env, s, R.wp_mono q (fun p hp F1 H1 vs x l s1 r1 => ?_) fun _ h => h⟩
  unfold callFn at hp
  rw [hf] at hp
  simp only at hp
  split at hp
  · exact hp.elim
  · rename_i env1 he
    obtain ⟨F2, b2, x2, l2, s2, p2, o2⟩ := passVals_ok x s1 r1 he
    have r2 := r1.imp fun v r q => q.stay b2 l2 o2
    split at hp
    · rename_i ds is hc hl
      split at hp
      · rename_i hn
        obtain ⟨a1, a2⟩ := args_ok s2 r2 p2 hc hl hn
        rw [R.wp_bind] at hp
        rw [List.append_nil]
        refine ⟨F2, ds, s2.trk, a1, R.wp_mono hp (fun out ho F' H' v ce ret fin => ?_) fun e h => ?_⟩
        · split at ho
          · rename_i env2 hb
            have ho : PostE K F H σ env Q (if out.1 = true then .fresh out.2.1 else .val out.2.1, env2) := ho
            by_cases hsc : (is.isEmpty && isScal out.2.1) = true
            · rw [if_pos hsc] at hb
              rw [Bool.and_eq_true] at hsc
              obtain ⟨h1, h2⟩ := hsc
              have : is = [] := by simpa using h1
              subst this
              have hL := a2.none
              have hb' : env2 = p.2 := by
                cases ho2 : out.2.2 with
                | nil => rw [ho2] at hb; cases hb; rfl
                | cons _ _ => rw [ho2] at hb; cases hb
              subst hb'
              have sm : ∀ a o, H1 a = some o → NoT o → H' a = some o := fun a o h t => ce.keep a o h t (by rw [hL]; exact fun z => nomatch z)
              refine ho F1 H' v (x.trans (ext_sameN sm)) l (s1.sameN sm ⟨fun a f => ce.trk.on a (ce.sub a (b2 a f)), ce.trk.tb⟩) ?_
              unfold RetOk at ret
              cases ho1 : out.1 with
              | true =>
                rw [ho1] at ret
                obtain ⟨a, _, _, oc, _⟩ := ret
                rw [oc.noScal] at h2; cases h2
              | false =>
                rw [ho1] at ret
                exact Rep.scal ret h2
            · rw [if_neg hsc] at hb
              have nl : ∀ a, a ∈ lents fn.lent vs → OwnA σ env1 a := fun a m => by
                obtain ⟨i, d, _, h1, h2⟩ := a2.mem m
                exact ⟨i, d, h2, h1⟩
              have kp : Keeps F2 H1 F' H' := by
                refine ⟨ce.sub, fun a o f h t => ce.keep a o h t fun m => s2.notF (nl a m) f, fun a xs h => ce.keep a _ h NoT.tup fun m => ?_, fun a o u h => ce.keep a _ h NoT.frz fun m => ?_⟩
                · rcases s2.kind (nl a m) with ⟨_, z⟩ | ⟨_, z⟩ <;> rw [h] at z <;> cases z
                · rcases s2.kind (nl a m) with ⟨_, z⟩ | ⟨_, z⟩ <;> rw [h] at z <;> cases z
              have sx : SttX K F' H' σ env1 is := by
                refine ⟨s2.len, ce.trk, fun j c m h => ?_, fun j c m h => ?_, s2.inj, fun j m => ?_⟩
                · obtain ⟨w, h1, h2⟩ := s2.val j c h
                  exact ⟨w, h1, h2.keep kp⟩
                · obtain ⟨b, h1, h2, h3⟩ := s2.own j c h
                  have nb : b ∉ lents fn.lent vs := fun mb => by
                    obtain ⟨i, d, mi, q1, q2⟩ := a2.mem mb
                    have : j = i := s2.inj j i _ d b h q2 h1 q1
                    subst this
                    exact m mi
                  refine ⟨b, h1, fun f => ?_, h3.keep kp fun o q t => ce.keep b o q t nb⟩
                  rcases ce.new b f with f | f | f
                  · exact h2 f
                  · exact h3.there f
                  · exact nb f
                · obtain ⟨a, d, _, _, h⟩ := a2.at_ m
                  exact ⟨d, h⟩
              obtain ⟨s3, l3, o3⟩ := putBack_ok sx hn a2 fin hb
              have x3 : Ext F2 H1 σ env1 F' H' σ env2 := by
                refine ⟨ce.sub, fun a o h t n => ce.keep a o h t fun m => n (nl a m), ce.dom, fun a f => ?_, fun a o => .inl (o3 a o)⟩
                rcases ce.new a f with f | f | f
                · exact .inl f
                · exact .inr (.inl f)
                · exact .inr (.inr (nl a f))
              refine ho F' H' v (x2.trans x3) ((l.trans l2).trans l3) s3 ?_
              unfold RetOk at ret
              cases ho1 : out.1 with
              | true =>
                rw [ho1] at ret
                obtain ⟨a, h1, h2, h3, h4⟩ := ret
                refine ⟨a, h1, h2, h3, fun o => ?_, x2.noneOf h4⟩
                exact s2.notOwnNone h4 (o3 a o)
              | false =>
                rw [ho1] at ret
                exact ret
          · exact ho.elim
        · exact hE F2 H1 env1 _ e (hW.mono h x2) fun a m => by
            obtain ⟨i, d, _, h1, h2⟩ := a2.mem m
            exact ⟨i, d, h2, h1⟩
      · exact hp.elim
    · exact hp.elim
end
end G

set_option Elab.async false
set_option linter.all false
set_option maxRecDepth 100000
/-! G, part 10c: dict(zip(a, b)) of two tuples. -/
namespace G
open PySem PySem.Spec PyProof.Rows L2
variable [TB : Tbs]
section
variable {prog : Program} {w : World} {A0 : Around} {X0 : Value → Shared → Prop} {s0 : Shared}
theorem zq_item_held {zz ti to T j1 j2 m1 m2 : Addr} {f : Bool} {oU : Obj} {n1 n2 : Nat} {us ws : Array Value} {x0 y0 : Value} {P0 : Value → Shared → Prop} (Da : ZipApart zz ti to j1 j2 m1 m2)
    (gz : IsZipHeld s0.heap zz ti to T f) (gT : s0.heap.get? T = some oU) (gTI : IsPair s0.heap ti (.ref j1) (.ref j2))
    (g1 : s0.heap.IsTupleIter j1 m1 n1) (g2 : s0.heap.IsTupleIter j2 m2 n2) (gl1 : s0.heap.IsTuple m1 us) (gl2 : s0.heap.IsTuple m2 ws) (gx : us[n1]? = some x0) (gy : ws[n2]? = some y0)
    (gQ : ∀ h', IsZipHeld h' zz ti to T true → h'.IsTupleIter j1 m1 (n1 + 1) → h'.IsTupleIter j2 m2 (n2 + 1) → IsPair h' s0.heap.objs.size x0 y0 → h'.objs.size = s0.heap.objs.size + 1 →
      (∀ c0 o0, c0 ≠ zz → c0 ≠ j1 → c0 ≠ j2 → s0.heap.get? c0 = some o0 → h'.get? c0 = some o0) → P0 (.ref s0.heap.objs.size) { s0 with heap := h' }) :
    wpAny (model prog w) A0 (Builtin.«zip.__next__» ⟨[.ref zz], []⟩) (fun fin s' => ∃ v0, fin = .done (.ret v0) ∧ P0 v0 s') X0 s0 := by
  show wpAny _ _ (field (.ref zz) 2 >>= _) _ _ _
  refine wpAny_bind (wpAny_field gz rfl (x := .bool false) rfl ?_)
  show wpAny _ _ (field (.ref zz) 3 >>= _) _ _ _
  refine wpAny_bind (wpAny_field gz rfl (x := .ref ti) rfl ?_)
  refine wpAny_bind (wpAny_seqItems gTI rfl ?_)
  show wpAny _ _ (Builtin.SmallTypes.ownedTupleIsFree (.ref zz) >>= _) _ _ _
  refine wpAny_bind (wpAny_tupleHeld_zip gz gT fun k₁ gz₁ ks₁ => ?_)
  simp only [Bool.false_eq_true, if_false]
  refine wpAny_bind ?_
  rw [← Array.forIn_toList]
  simp only [List.forIn_cons, List.forIn_nil]
  refine wpAny_bind (wpAny_bind (wpAny_holding ?_))
  show wpAny _ _ (Builtin.SmallTypes.nextOf (.ref j1) >>= _) _ _ _
  refine wpAny_bind (RZ.nextOf_tuple_item (s := { s0 with heap := k₁ }) (g1.extBut ks₁.extBut Da.i1z) (gl1.extBut ks₁.extBut Da.l1z) gx fun k₂ g1₂ ks₂ => wpAny_pure ?_)
  refine wpAny_pure ?_
  refine wpAny_bind (wpAny_bind (wpAny_holding ?_))
  show wpAny _ _ (Builtin.SmallTypes.nextOf (.ref j2) >>= _) _ _ _
  refine wpAny_bind (RZ.nextOf_tuple_item (s := { s0 with heap := k₂ }) ((g2.extBut ks₁.extBut Da.i2z).extBut ks₂.extBut Da.i12.symm) ((gl2.extBut ks₁.extBut Da.l2z).extBut ks₂.extBut Da.l2i1) gy fun k₃ g2₃ ks₃ => wpAny_pure ?_)
  refine wpAny_pure (wpAny_pure ?_)
  show wpAny _ _ (newTuple [x0, y0] >>= _) _ _ _
  refine wpAny_bind (wpAny_newTuple ?_)
  have gsz : k₃.objs.size = s0.heap.objs.size := by rw [ks₃.1, ks₂.1, ks₁.1]
  have gz₃ : IsZipHeld k₃ zz ti to T true := ks₃.extBut _ _ Da.i2z.symm (ks₂.extBut _ _ Da.i1z.symm gz₁)
  have gk : ∀ c0 o0, c0 ≠ zz → c0 ≠ j1 → c0 ≠ j2 → s0.heap.get? c0 = some o0 → k₃.get? c0 = some o0 := fun c0 o0 c1 c2 c3 e0 => ks₃.extBut _ _ c3 (ks₂.extBut _ _ c2 (ks₁.extBut _ _ c1 e0))
  have g1₃ : k₃.IsTupleIter j1 m1 (n1 + 1) := g1₂.extBut ks₃.extBut Da.i12
  refine wpAny_pure ⟨_, rfl, ?_⟩
  show P0 (.ref k₃.objs.size) _
  have gp : IsPair (k₃.push { cls := .type "tuple", data := .seq #[x0, y0] }) k₃.objs.size x0 y0 := Heap.get?_push_size _ rfl
  have gz4 : (k₃.push { cls := .type "tuple", data := .seq #[x0, y0] }).objs.size = k₃.objs.size + 1 := Heap.size_push ..
  rw [gsz] at gp gz4 ⊢
  exact gQ _ (Heap.get?_push_of_some _ gz₃) (g1₃.at fun o0 e0 => Heap.get?_push_of_some _ e0) (g2₃.at fun o0 e0 => Heap.get?_push_of_some _ e0) gp gz4 fun c0 o0 c1 c2 c3 e0 => Heap.get?_push_of_some _ (gk c0 o0 c1 c2 c3 e0)

theorem zq_end_held {zz ti to T j1 j2 m1 m2 : Addr} {f : Bool} {oU : Obj} {n1 n2 : Nat} {us ws : Array Value} {P0 : Fin → Shared → Prop} (gh : A0.handled = none) (Da : ZipApart zz ti to j1 j2 m1 m2)
    (gz : IsZipHeld s0.heap zz ti to T f) (gT : s0.heap.get? T = some oU) (gTI : IsPair s0.heap ti (.ref j1) (.ref j2))
    (g1 : s0.heap.IsTupleIter j1 m1 n1) (g2 : s0.heap.IsTupleIter j2 m2 n2) (gl1 : s0.heap.IsTuple m1 us) (gl2 : s0.heap.IsTuple m2 ws) (gend : us[n1]? = none ∨ ws[n2]? = none)
    (gE : ∀ h' e0, (∀ c0 o0, c0 ≠ zz → c0 ≠ j1 → c0 ≠ j2 → s0.heap.get? c0 = some o0 → h'.get? c0 = some o0) → (∃ o0, h'.get? e0 = some o0 ∧ o0.cls = .type "StopIteration") → X0 (.ref e0) { s0 with heap := h' }) :
    wpAny (model prog w) A0 (Builtin.«zip.__next__» ⟨[.ref zz], []⟩) P0 X0 s0 := by
  show wpAny _ _ (field (.ref zz) 2 >>= _) _ _ _
  refine wpAny_bind (wpAny_field gz rfl (x := .bool false) rfl ?_)
  show wpAny _ _ (field (.ref zz) 3 >>= _) _ _ _
  refine wpAny_bind (wpAny_field gz rfl (x := .ref ti) rfl ?_)
  refine wpAny_bind (wpAny_seqItems gTI rfl ?_)
  show wpAny _ _ (Builtin.SmallTypes.ownedTupleIsFree (.ref zz) >>= _) _ _ _
  refine wpAny_bind (wpAny_tupleHeld_zip gz gT fun k₁ gz₁ ks₁ => ?_)
  simp only [Bool.false_eq_true, if_false]
  refine wpAny_bind ?_
  rw [← Array.forIn_toList]
  simp only [List.forIn_cons, List.forIn_nil]
  refine wpAny_bind (wpAny_bind (wpAny_holding ?_))
  show wpAny _ _ (Builtin.SmallTypes.nextOf (.ref j1) >>= _) _ _ _
  cases gx : us[n1]? with
  | none =>
    refine wpAny_bind (RZ.nextOf_tuple_end (s := { s0 with heap := k₁ }) gh (g1.extBut ks₁.extBut Da.i1z) (gl1.extBut ks₁.extBut Da.l1z) gx fun k₂ e0 ks₂ he => ?_)
    exact gE k₂ e0 (fun c0 o0 c1 c2 _ x0 => ks₂ _ _ c2 (ks₁.extBut _ _ c1 x0)) he
  | some x0 =>
    have gy : ws[n2]? = none := by rcases gend with h | h; rw [gx] at h; cases h; exact h
    refine wpAny_bind (RZ.nextOf_tuple_item (s := { s0 with heap := k₁ }) (g1.extBut ks₁.extBut Da.i1z) (gl1.extBut ks₁.extBut Da.l1z) gx fun k₂ g1₂ ks₂ => wpAny_pure ?_)
    refine wpAny_pure ?_
    refine wpAny_bind (wpAny_bind (wpAny_holding ?_))
    show wpAny _ _ (Builtin.SmallTypes.nextOf (.ref j2) >>= _) _ _ _
    refine wpAny_bind (RZ.nextOf_tuple_end (s := { s0 with heap := k₂ }) gh ((g2.extBut ks₁.extBut Da.i2z).extBut ks₂.extBut Da.i12.symm) ((gl2.extBut ks₁.extBut Da.l2z).extBut ks₂.extBut Da.l2i1) gy fun k₃ e0 ks₃ he => ?_)
    exact gE k₃ e0 (fun c0 o0 c1 c2 c3 x0 => ks₃ _ _ c3 (ks₂.extBut _ _ c2 (ks₁.extBut _ _ c1 x0))) he

theorem zq_py_item {zz ti to T j1 j2 m1 m2 : Addr} {f : Bool} {oU : Obj} {n1 n2 : Nat} {us ws : Array Value} {x0 y0 : Value} {P0 : Option Value → Shared → Prop} (Da : ZipApart zz ti to j1 j2 m1 m2)
    (gz : IsZipHeld s0.heap zz ti to T f) (gT : s0.heap.get? T = some oU) (gTI : IsPair s0.heap ti (.ref j1) (.ref j2))
    (g1 : s0.heap.IsTupleIter j1 m1 n1) (g2 : s0.heap.IsTupleIter j2 m2 n2) (gl1 : s0.heap.IsTuple m1 us) (gl2 : s0.heap.IsTuple m2 ws) (gx : us[n1]? = some x0) (gy : ws[n2]? = some y0)
    (gQ : ∀ h', IsZipHeld h' zz ti to T true → h'.IsTupleIter j1 m1 (n1 + 1) → h'.IsTupleIter j2 m2 (n2 + 1) → IsPair h' s0.heap.objs.size x0 y0 → h'.objs.size = s0.heap.objs.size + 1 →
      (∀ c0 o0, c0 ≠ zz → c0 ≠ j1 → c0 ≠ j2 → s0.heap.get? c0 = some o0 → h'.get? c0 = some o0) → P0 (some (.ref s0.heap.objs.size)) { s0 with heap := h' }) :
    wpAny (model prog w) A0 (pyNext (.ref zz)) P0 X0 s0 := by
  have hTy : s0.TypeIs (.ref zz) "zip" := ⟨_, gz, rfl⟩
  unfold pyNext
  exact wpAny_bind (wpAny_attempt (wpAny_callSpecial?_slot (name := Str.ofString "__next__") hTy F.slot_zip_next
    (wpAny_call_entry F.slot_zip_next hTy F.entry_zip_next
      (zq_item_held Da gz gT gTI g1 g2 gl1 gl2 gx gy fun h' a1 a3 a4 a5 a6 a7 => wpAny_pure (gQ h' a1 a3 a4 a5 a6 a7)) (F.args_zip_next_1 _))))
theorem zq_py_end {zz ti to T j1 j2 m1 m2 : Addr} {f : Bool} {oU : Obj} {n1 n2 : Nat} {us ws : Array Value} {P0 : Option Value → Shared → Prop} (gh : A0.handled = none) (Da : ZipApart zz ti to j1 j2 m1 m2)
    (gz : IsZipHeld s0.heap zz ti to T f) (gT : s0.heap.get? T = some oU) (gTI : IsPair s0.heap ti (.ref j1) (.ref j2))
    (g1 : s0.heap.IsTupleIter j1 m1 n1) (g2 : s0.heap.IsTupleIter j2 m2 n2) (gl1 : s0.heap.IsTuple m1 us) (gl2 : s0.heap.IsTuple m2 ws) (gend : us[n1]? = none ∨ ws[n2]? = none)
    (gQ : ∀ h', (∀ c0 o0, c0 ≠ zz → c0 ≠ j1 → c0 ≠ j2 → s0.heap.get? c0 = some o0 → h'.get? c0 = some o0) → P0 none { s0 with heap := h' }) : wpAny (model prog w) A0 (pyNext (.ref zz)) P0 X0 s0 := by
  have hTy : s0.TypeIs (.ref zz) "zip" := ⟨_, gz, rfl⟩
  unfold pyNext
  refine wpAny_bind (wpAny_attempt (wpAny_callSpecial?_slot (name := Str.ofString "__next__") hTy F.slot_zip_next
    (wpAny_call_entry F.slot_zip_next hTy F.entry_zip_next (zq_end_held gh Da gz gT gTI g1 g2 gl1 gl2 gend fun h' e0 gk he => ?_) (F.args_zip_next_1 _))))
  obtain ⟨o0, ho, hc⟩ := he
  refine wpAny_bind (wpAny_isInstance (T := "StopIteration") (b := true) ⟨o0, ho, hc⟩ isSubtype_stop ?_)
  exact wpAny_pure (gQ _ gk)

end
section
variable {prog : Program} {w : World}
theorem pairZipT (zz ti to j1 j2 m1 m2 : Addr) (Da : ZipApart zz ti to j1 j2 m1 m2) (us ws : Array Value) :
    PairArg prog w "zip" zz [zz, ti, to, j1, j2, m1, m2] [zz, to, j1, j2] (min us.size ws.size) (fun i k v0 => us[i]? = some k ∧ ws[i]? = some v0)
      (fun h => IsZip h zz ti to .none ∧ IsPair h ti (.ref j1) (.ref j2) ∧ (∃ a b0, IsPair h to a b0) ∧ h.IsTupleIter j1 m1 0 ∧ h.IsTupleIter j2 m2 0 ∧ h.IsTuple m1 us ∧ h.IsTuple m2 ws) where
  type := fun s0 ok0 => ⟨_, ok0.1, rfl⟩
  notDict := by decide
  keep := fun h h' ok0 gk => by
    obtain ⟨gz, gTI, ⟨a, b0, gTO⟩, g1, g2, gl1, gl2⟩ := ok0
    exact ⟨gk _ _ gz, gk _ _ gTI, ⟨a, b0, gk _ _ gTO⟩, g1.at fun o0 e0 => gk _ o0 e0, g2.at fun o0 e0 => gk _ o0 e0, gl1.at fun o0 e0 => gk _ o0 e0, gl2.at fun o0 e0 => gk _ o0 e0⟩
  there := fun h ok0 b0 hb => by
    obtain ⟨gz, gTI, ⟨a, c0, gTO⟩, ⟨o1, g1, _⟩, ⟨o2, g2, _⟩, ⟨o3, gl1, _⟩, ⟨o4, gl2, _⟩⟩ := ok0
    simp only [List.mem_cons, List.not_mem_nil, or_false] at hb
    rcases hb with rfl | rfl | rfl | rfl | rfl | rfl | rfl
    all_goals first | exact ⟨_, gz⟩ | exact ⟨_, gTI⟩ | exact ⟨_, gTO⟩ | exact ⟨_, g1⟩ | exact ⟨_, g2⟩ | exact ⟨_, gl1⟩ | exact ⟨_, gl2⟩
  sub := fun b0 hb => by simp at hb ⊢; rcases hb with rfl | rfl | rfl | rfl <;> simp
  noKeys := fun A0 s0 P0 X0 hA ok0 h => getAttrOr_miss_zip ok0.1 rfl rfl rfl zip_no_keys (by decide +kernel) hA h
  iter := fun A0 s0 d P0 X0 hA ok0 hd hdf h => by
    obtain ⟨gz, gTI, ⟨a, b0, gTO⟩, g1, g2, gl1, gl2⟩ := ok0
    simp only [List.mem_cons, List.not_mem_nil, or_false, not_or] at hdf
    obtain ⟨dz, dTI, dTO, di1, di2, dl1, dl2⟩ := hdf
    refine wpAny_pyIter_zip gz (h zz [zz, to, j1, j2] (fun i h => IsPair h ti (.ref j1) (.ref j2) ∧ h.IsTupleIter j1 m1 i ∧ h.IsTupleIter j2 m2 i ∧ h.IsTuple m1 us ∧ h.IsTuple m2 ws ∧
      ((IsZip h zz ti to .none ∧ ∃ a b0, IsPair h to a b0) ∨ ∃ T f oU, IsZipHeld h zz ti to T f ∧ h.get? T = some oU ∧ T ≠ zz ∧ T ≠ j1 ∧ T ≠ j2 ∧ T ≠ d)) s0.heap s0.toks ?_
      ⟨gTI, g1, g2, gl1, gl2, .inl ⟨gz, a, b0, gTO⟩⟩ (fun _ _ e0 => e0) fun b0 hb => .inl hb)
    exact {
      off := fun hm => by
        simp only [List.mem_cons, List.not_mem_nil, or_false] at hm
        rcases hm with e0 | e0 | e0 | e0
        · exact dz e0
        · exact dTO e0
        · exact di1 e0
        · exact di2 e0
      frame := fun i k₁ k₂ st0 gk => by
        obtain ⟨gTI, g1, g2, gl1, gl2, gz⟩ := st0
        refine ⟨gk _ _ (Ne.symm dTI) gTI, g1.at fun o0 e0 => gk _ o0 (Ne.symm di1) e0, g2.at fun o0 e0 => gk _ o0 (Ne.symm di2) e0, gl1.at fun o0 e0 => gk _ o0 (Ne.symm dl1) e0, gl2.at fun o0 e0 => gk _ o0 (Ne.symm dl2) e0, ?_⟩
        rcases gz with ⟨gz, a, b0, gTO⟩ | ⟨T, f, oU, gz, gT, r1, r2, r3, r4⟩
        · exact .inl ⟨gk _ _ (Ne.symm dz) gz, a, b0, gk _ _ (Ne.symm dTO) gTO⟩
        · exact .inr ⟨T, f, oU, gk _ _ (Ne.symm dz) gz, gk _ _ r4 gT, r1, r2, r3, r4⟩
      item := fun i s₁ Q₁ E₁ hi st0 hds gQ => by
        obtain ⟨gTI, g1, g2, gl1, gl2, gz⟩ := st0
        have hix : i < us.size := Nat.lt_of_lt_of_le hi (Nat.min_le_left ..)
        have hiy : i < ws.size := Nat.lt_of_lt_of_le hi (Nat.min_le_right ..)
        have ex := Array.getElem?_eq_getElem hix
        have ey := Array.getElem?_eq_getElem hiy
        have lt : ∀ {c0 o0}, s₁.heap.get? c0 = some o0 → s₁.heap.objs.size ≠ c0 := fun e0 => Nat.ne_of_gt (Heap.lt_size e0)
        have n1 : s₁.heap.objs.size ≠ j1 := let ⟨_, e0, _⟩ := g1; lt e0
        have n2 : s₁.heap.objs.size ≠ j2 := let ⟨_, e0, _⟩ := g2; lt e0
        rcases gz with ⟨gz, a, b0, gTO⟩ | ⟨T, f, oU, gz, gT, r1, r2, r3, r4⟩
        · refine RZ.pyNext_zipT_item Da gz gTI gTO g1 g2 gl1 gl2 ex ey fun h' a1 a2 a3 a4 a5 a6 gk => ?_
          exact gQ s₁.heap.objs.size _ _ h' s₁.toks ⟨ex, ey⟩ (.inl ⟨_, a5, rfl, _, rfl⟩)
            ⟨gk _ _ Da.TIz Da.TITO Da.TIi1 Da.TIi2 gTI, a3, a4, gl1.at fun o0 e0 => gk _ o0 Da.l1z Da.l1TO Da.l1i1 Da.l1i2 e0, gl2.at fun o0 e0 => gk _ o0 Da.l2z Da.l2TO Da.l2i1 Da.l2i2 e0,
              .inr ⟨s₁.heap.objs.size, false, _, a1, a5, lt gz, n1, n2, Nat.ne_of_gt hds⟩⟩
            fun c0 o0 hc e0 => gk c0 o0 (fun x0 => hc (by simp [x0])) (fun x0 => hc (by simp [x0])) (fun x0 => hc (by simp [x0])) (fun x0 => hc (by simp [x0])) e0
        · refine zq_py_item Da gz gT gTI g1 g2 gl1 gl2 ex ey fun h' a1 a3 a4 a5 a6 gk => ?_
          exact gQ s₁.heap.objs.size _ _ h' s₁.toks ⟨ex, ey⟩ (.inl ⟨_, a5, rfl, _, rfl⟩)
            ⟨gk _ _ Da.TIz Da.TIi1 Da.TIi2 gTI, a3, a4, gl1.at fun o0 e0 => gk _ o0 Da.l1z Da.l1i1 Da.l1i2 e0, gl2.at fun o0 e0 => gk _ o0 Da.l2z Da.l2i1 Da.l2i2 e0,
              .inr ⟨T, true, oU, a1, gk _ _ r1 r2 r3 gT, r1, r2, r3, r4⟩⟩
            fun c0 o0 hc e0 => gk c0 o0 (fun x0 => hc (by simp [x0])) (fun x0 => hc (by simp [x0])) (fun x0 => hc (by simp [x0])) e0
      done := fun s₁ Q₁ E₁ st0 gQ => by
        obtain ⟨gTI, g1, g2, gl1, gl2, gz⟩ := st0
        have gend : us[min us.size ws.size]? = none ∨ ws[min us.size ws.size]? = none := by
          rcases Nat.le_total us.size ws.size with h | h
          · exact .inl (Array.getElem?_eq_none (by rw [Nat.min_eq_left h]; exact Nat.le_refl _))
          · exact .inr (Array.getElem?_eq_none (by rw [Nat.min_eq_right h]; exact Nat.le_refl _))
        rcases gz with ⟨gz, a, b0, gTO⟩ | ⟨T, f, oU, gz, gT, r1, r2, r3, r4⟩
        · exact RZ.pyNext_zipT_end hA Da gz gTI gTO g1 g2 gl1 gl2 gend fun h' gk => gQ h' s₁.toks fun c0 o0 hc e0 => gk c0 o0 (fun x0 => hc (by simp [x0])) (fun x0 => hc (by simp [x0])) (fun x0 => hc (by simp [x0])) (fun x0 => hc (by simp [x0])) e0
        · exact zq_py_end hA Da gz gT gTI g1 g2 gl1 gl2 gend fun h' gk => gQ h' s₁.toks fun c0 o0 hc e0 => gk c0 o0 (fun x0 => hc (by simp [x0])) (fun x0 => hc (by simp [x0])) (fun x0 => hc (by simp [x0])) e0 }

end

theorem vals_keys : ∀ {ks : List Key} {us : List Value}, Vals (ks.map kV) us → ∀ (i : Nat) (u : Value), us[i]? = some u → ∃ k, ks[i]? = some k ∧ keyIs k u = true
  | [], _, .nil, i, u, e => by simp at e
  | k :: ks, _, .cons r t, 0, u, e => by
    simp only [List.getElem?_cons_zero, Option.some.injEq] at e
    subst e
    refine ⟨k, rfl, ?_⟩
    cases k with
    | inl i => obtain ⟨t, rfl⟩ := r; show Value.isInt i (.int i t) = true; simp [Value.isInt]
    | inr x => obtain ⟨t, rfl⟩ := r; show Value.isStrOf x (.str x t) = true; simp [Value.isStrOf]
  | k :: ks, _, .cons r t, i + 1, u, e => by
    obtain ⟨k', h1, h2⟩ := vals_keys t i u (by simpa using e)
    exact ⟨k', by simpa using h1, h2⟩
theorem zip_KV : ∀ {ks : List Key} {ys : List V} {us : List Value}, Vals ys us → KV (ks.zip ys) (ks.zip us)
  | [], _, _, _ => .nil
  | _ :: _, _, _, .nil => .nil
  | k :: ks, _, _, .cons r t => .cons ⟨rfl, r⟩ (zip_KV t)
def tDicZip (K : PySem.W.Frag) (ta : TA) : TE := fun σ H Q => ta σ H fun vs H1 => ∃ (a b : Addr) (ks : List Key) (ys : List V), vs = [V.ref a, V.ref b] ∧ SqT K H1 a (ks.map kV) ∧ SqT K H1 b ys ∧ ∀ q, H1 q = none → Q (.ref q) (upd H1 q (.dK (mergeK [] (ks.zip ys))))
theorem pe_dictZip {X : Cx} {e e2 : Expr} {ta : TA} {p p2 pos pos2 : Pos} (hc : X.calm = true) (hgd : Gl X "dict") (hmd : X.mg "dict" = none) (hgz : Gl X "zip") (hmz : X.mg "zip" = none) (ha : PA X [e, e2] ta)
    (hs : starEach [e, e2] X.env = (false, eval e X.env) :: starEach [e2] X.env) (hpl : (backTo pos2 (starEach [e2] X.env)).any (·.1) = false) :
    PE X (.Call (.Name "dict" p) [.Call (.Name "zip" p2) [e, e2] [] pos2] [] pos) (tDicZip X.K ta) := by
  refine ⟨fun pins s σ H Q I h => ?_⟩
  refine Call_ (ld_blt I hgd hmd PyProof.Rows.boot_dict (PyProof.Rows.callWith_type1 (args_cons ?_ rfl) rfl rfl))
  refine Call_ (ld_blt I hgz hmz PyProof.Rows.boot_zip (PyProof.Rows.callWith_type1 (thn (ha.run pos2 pins s σ H _ I h) fun us s1 ⟨vs, H1, I1, r1, q1⟩ => ?_) hs hpl))
  obtain ⟨a, b, ks, ys, ex, hqx, hqy, q⟩ := q1
  subst ex
  cases r1 with
  | cons r rr =>
    cases rr with
    | cons r' rr =>
      cases rr
      cases r
      cases r'
      obtain ⟨its, rv, p1, z1⟩ := I1.tuple hqx
      obtain ⟨its2, rv2, p3, z2⟩ := I1.tuple hqy
      obtain ⟨o1, ho1, _⟩ := id p1
      obtain ⟨o2, ho2, _⟩ := id p3
      refine RZ.call_zipT (show s1.heap.IsTuple a its.toArray from p1) (show s1.heap.IsTuple b its2.toArray from p3) fun h' hz hTI hTO h1 h2 hsz hk => args_nil ?_
      have P := pairZipT (prog := X.prog) (w := X.w) _ _ _ _ _ a b (PySem.W.ktu_apart s1.heap.objs.size a b (Heap.lt_size ho1) (Heap.lt_size ho2)) its.toArray its2.toArray
      have l1 := rv.length
      have l2 := rv2.length
      have hm : PairsHave (mixKind X.prog X.w) (min its.toArray.size its2.toArray.size) (fun i k v => its.toArray[i]? = some k ∧ its2.toArray[i]? = some v) (ks.zip its2) := by
        refine ⟨?_, fun i key v ⟨e1, e2⟩ => ?_⟩
        · rw [List.length_zip, List.size_toArray, List.size_toArray, ← l1, List.length_map]
        · obtain ⟨k, hk1, hk2⟩ := vals_keys rv i key (by simpa using e1)
          exact ⟨k, by rw [List.getElem?_zip_eq_some]; exact ⟨hk1, by simpa using e2⟩, hk2⟩
      refine PySem.call_dict_pairs (s := { s1 with heap := h' }) P (I1.ok.hd hc) ⟨hz, hTI, ⟨_, _, hTO⟩, h1, h2, ?_, ?_⟩ hm ?_ fun h2' tk hd' k => ?_
      · exact (show s1.heap.IsTuple a its.toArray from p1).at fun o e => hk _ o e
      · exact (show s1.heap.IsTuple b its2.toArray from p3).at fun o e => hk _ o e
      · refine Nat.le_trans (Nat.min_le_left _ _) ?_
        rw [List.size_toArray, ← l1]
        exact z1
      · have kk : ∀ b o, s1.heap.get? b = some o → h2'.get? b = some o := fun b o e => k b o (by
          have lt := Heap.lt_size e
          intro hb
          simp only [List.mem_cons, List.not_mem_nil, or_false] at hb
          rcases hb with z | z | z | z
          · exact Nat.ne_of_lt (Nat.lt_of_lt_of_le lt (Nat.le_add_right _ 4)) z
          · exact Nat.ne_of_lt (Nat.lt_of_lt_of_le lt (Nat.le_add_right _ 3)) z
          · exact Nat.ne_of_lt lt z
          · exact Nat.ne_of_lt (Nat.lt_of_lt_of_le lt (Nat.le_add_right _ 1)) z) (hk b o e)
        have big : (h'.objs.size == sysModules) = false := beq_eq_false_iff_ne.mpr (Nat.ne_of_gt (Nat.lt_of_lt_of_le I1.big (by rw [hsz]; exact Nat.le_add_right _ _)))
        have hlen : (mergeK [] (ks.zip ys)).length ≤ sizeLine := by
          refine Nat.le_trans (length_mergeK _ []) ?_
          rw [List.length_nil, Nat.zero_add, List.length_zip]
          refine Nat.le_trans (Nat.min_le_left _ _) ?_
          rw [List.length_map] at z1
          exact z1
        exact ⟨.ref h'.objs.size, upd H1 h'.objs.size (.dK (mergeK [] (ks.zip ys))), I1.laid (t' := tk) kk (by rw [hsz]; omega) (show ObjOk X.prog X.w _ _ _ (.dK (mergeK [] (ks.zip ys))) from ⟨hlen, big, merged [] (ks.zip its2), KV.merge (zip_KV rv2) .nil, hd'⟩), rfl, q _ (I1.hok.fresh (by rw [hsz]; omega))⟩
section
variable {K : PySem.W.Frag} {C : Ctx} {W : WT} {F : Addr → Prop} {H : Hp} {σ : L2.St} {Q : VK} {a : Addr}
theorem res_dic {vs : List (Key × V)} {ds : List (Key × D)} (q : ResOk K F H Q (.fresh (.dic ds))) (r : RepK K F H vs ds) (h : H a = none) : Q (.ref a) (upd H a (.dK vs)) :=
  q _ _ (same_upd h) h (.dic upd_same (r.keep (Same.keeps (same_upd h))))
theorem reps_keys : ∀ {vs : List V} {ds : List D} {ks : List Key}, Reps K F H vs ds → keysD ds = some ks → vs = ks.map kV
  | _, _, _, .nil, e => by cases e; rfl
  | _, _, _, .cons (d := d) h r, e => by
    unfold keysD at e
    split at e
    · rename_i k ks' e1 e2
      cases e
      rw [List.map_cons, ← reps_keys r e2]
      congr 1
      cases d <;> cases e1 <;> cases h <;> rfl
    · cases e
theorem r_dicZip {l : CEs} (q : tE K C W (.dictZip l) σ H Q) : tDicZip K (tA K C W l) σ H Q := by
  obtain ⟨F, env, s, q⟩ := q
  simp only [evalE, R.wp_bind, fin_false] at q
  refine ⟨F, env, s, R.wp_mono q (fun p hp F1 H1 vs x l1 s1 r1 => ?_) fun _ h => h⟩
  rw [R.wp_of] at hp
  obtain ⟨⟨ds, env2⟩, e, hp⟩ := hp
  rw [R.wp_of] at hp
  obtain ⟨dd, e2, hq⟩ := hp
  obtain ⟨F2, b2, x2, l2, s2, r2, o2⟩ := freezeAll_ok x s1 r1 e
  have e2 : dicZip ds = some dd := e2
  unfold dicZip at e2
  split at e2
  · rename_i ks es
    obtain ⟨k, hk, rfl⟩ := Option.map_eq_some_iff.mp e2
    cases r2 with
    | cons ra r2 => cases r2 with
      | cons rb r2 =>
        cases r2
        cases ra with
        | tup ha ra => cases rb with
          | tup hb rb =>
            have ek := reps_keys ra hk
            subst ek
            exact ⟨_, _, k, _, rfl, ha.sqT, hb.sqT, fun q0 hq0 => res_dic (post_res hq x2 (l1.trans l2) s2) ((RepK.zip rb).merge .nil) hq0⟩
  · cases e2
end
end G

set_option Elab.async false
set_option linter.all false
set_option maxRecDepth 100000
/-! G, part 6: what loops walk, targets, comprehensions. -/
namespace G
open PySem L2
variable [TB : Tbs]
section
variable {K : PySem.W.Frag} {C : Ctx} {W : WT} {F F' F1 F2 F_0 : Addr → Prop} {H H' H1 H2 H_0 : Hp} {σ σ' σ2 σ_0 : St} {env env' env1 env2 env0 : List Sl} {v x : V} {d : D} {a p : Addr} {Q : VK}
/-! ### yields -/
/-- a pair of enumerate or zip: to be unpacked at once -/
def RepY (K : PySem.W.Frag) (w : Bool) (F : Addr → Prop) (H : Hp) (x : V) (d : D) : Prop := Rep K F H x d ∨ (w = true ∧ ∃ a vs ds, x = .ref a ∧ d = .tup ds ∧ SqT K H a vs ∧ Reps K F H vs ds)
def isEZ : CI → Bool
  | .enum _ => true | .zip _ _ => true | _ => false
def tgFit (tg : G.TG) (w : Bool) : Prop := w = true → ∃ is, tg = .tup is
def Yld (K : PySem.W.Frag) (w : Bool) (F : Addr → Prop) (H : Hp) (J : It) (ds : List D) : Prop := ∀ F2 H2, Keeps F H F2 H2 → ∀ i, (∀ d, ds[i]? = some d → J.go i H2 ∧ ∀ x H3, J.yld i H2 x H3 → Same H2 H3 ∧ RepY K w F2 H3 x d) ∧ (ds.length ≤ i → J.stop i H2)
theorem yld_l {w : Bool} {vs : List V} {ds : List D} (h : ∀ F2 H2, Keeps F H F2 H2 → SqL K H2 a vs) (r : Reps K F H vs ds) : Yld K w F H (Itl K a) ds := by
  refine fun F2 H2 kp i => ⟨fun d e => ?_, fun e => ⟨vs, h F2 H2 kp, by rw [r.length]; exact e⟩⟩
  obtain ⟨w, h1, h2⟩ := r.get e
  refine ⟨⟨vs, w, h F2 H2 kp, h1⟩, fun x H3 ⟨e3, y⟩ => ?_⟩
  subst e3
  have := y vs (h F2 _ kp)
  rw [h1] at this
  cases this
  exact ⟨same_refl, .inl (h2.keep kp)⟩
theorem yld_t {w : Bool} {vs : List V} {ds : List D} (h : SqT K H a vs) (r : Reps K F H vs ds) : Yld K w F H (Itt K a) ds := by
  refine fun F2 H2 kp i => ⟨fun d e => ?_, fun e => ⟨vs, kp.sqT h, by rw [r.length]; exact e⟩⟩
  obtain ⟨w, h1, h2⟩ := r.get e
  refine ⟨⟨vs, w, kp.sqT h, h1⟩, fun x H3 ⟨e3, y⟩ => ?_⟩
  subst e3
  have := y vs (kp.sqT h)
  rw [h1] at this
  cases this
  exact ⟨same_refl, .inl (h2.keep kp)⟩
theorem yld_s {w : Bool} (z : Str) : Yld K w F H (Its z) (z.cps.toList.map fun c => D.str ⟨#[c]⟩) := by
  refine fun F2 H2 kp i => ⟨fun d e => ?_, fun e => ?_⟩
  · rw [List.getElem?_map, Option.map_eq_some_iff] at e
    obtain ⟨c, h1, rfl⟩ := e
    rw [Array.getElem?_toList] at h1
    have hi : i < z.cps.size := by
      rcases Nat.lt_or_ge i z.cps.size with h | h
      · exact h
      · rw [Array.getElem?_eq_none h] at h1; cases h1
    refine ⟨hi, fun x H3 ⟨e3, c', h2, e4⟩ => ?_⟩
    subst e3 e4
    rw [h1] at h2
    cases h2
    exact ⟨same_refl, .inl (.str _)⟩
  · rw [List.length_map, Array.length_toList] at e
    exact e
theorem yld_r {w : Bool} (lo : Int) (n : Nat) : Yld K w F H (Itr lo n) (rngD lo n) := by
  unfold rngD
  refine fun F2 H2 kp i => ⟨fun d e => ?_, fun e => ?_⟩
  · rw [List.getElem?_map, Option.map_eq_some_iff] at e
    obtain ⟨c, h1, rfl⟩ := e
    have hi : i < n := by
      rcases Nat.lt_or_ge i n with h | h
      · exact h
      · rw [List.getElem?_eq_none (by simpa using h)] at h1; cases h1
    have : c = i := by
      rw [List.getElem?_range hi] at h1
      exact (Option.some.inj h1).symm
    subst this
    refine ⟨hi, fun x H3 ⟨e3, e4⟩ => ?_⟩
    subst e3 e4
    exact ⟨same_refl, .inl (.int _)⟩
  · rw [List.length_map, List.length_range] at e
    exact e
theorem enumD_get : ∀ (l : List D) (k i : Nat) (d : D), (enumD k l)[i]? = some d → ∃ e, l[i]? = some e ∧ d = .tup [.int ((k + i : Nat) : Int), e]
  | [], _, _, _, h => by cases h
  | e :: l, k, 0, d, h => by
    cases h
    exact ⟨e, rfl, rfl⟩
  | e :: l, k, i + 1, d, h => by
    obtain ⟨e', h1, h2⟩ := enumD_get l (k + 1) i d h
    exact ⟨e', h1, by rw [h2, Nat.add_right_comm]; rfl⟩
theorem enumD_len : ∀ (l : List D) (k : Nat), (enumD k l).length = l.length
  | [], _ => rfl
  | _ :: l, k => congrArg (· + 1) (enumD_len l (k + 1))
theorem yld_e {vs : List V} {ds : List D} (h : ∀ F2 H2, Keeps F H F2 H2 → SqL K H2 a vs) (r : Reps K F H vs ds) : Yld K true F H (Ite K a) (enumD 0 ds) := by
  refine fun F2 H2 kp i => ⟨fun d e => ?_, fun e => ⟨vs, h F2 H2 kp, by rw [r.length]; rw [enumD_len] at e; exact e⟩⟩
  obtain ⟨e', h1, rfl⟩ := enumD_get ds 0 i d e
  obtain ⟨w, h2, h3⟩ := r.get h1
  refine ⟨⟨vs, w, h F2 H2 kp, h2⟩, fun x H3 ⟨T, y, e1, hn, e2, e3⟩ => ?_⟩
  subst e1 e2
  have := e3 vs (h F2 _ kp)
  rw [h2] at this
  cases this
  refine ⟨same_upd hn, .inr ⟨rfl, _, _, _, rfl, rfl, .inl (.inl upd_same), .cons ?_ (.cons ((h3.keep kp).keep (Same.keeps (same_upd hn))) .nil)⟩⟩
  rw [Nat.zero_add]
  exact .int _
theorem yld_et {vs : List V} {ds : List D} (h : SqT K H a vs) (r : Reps K F H vs ds) : Yld K true F H (IteT K a) (enumD 0 ds) := by
  refine fun F2 H2 kp i => ⟨fun d e => ?_, fun e => ⟨vs, kp.sqT h, by rw [r.length]; rw [enumD_len] at e; exact e⟩⟩
  obtain ⟨e', h1, rfl⟩ := enumD_get ds 0 i d e
  obtain ⟨w, h2, h3⟩ := r.get h1
  refine ⟨⟨vs, w, kp.sqT h, h2⟩, fun x H3 ⟨T, y, e1, hn, e2, e3⟩ => ?_⟩
  subst e1 e2
  have := e3 vs (kp.sqT h)
  rw [h2] at this
  cases this
  refine ⟨same_upd hn, .inr ⟨rfl, _, _, _, rfl, rfl, .inl (.inl upd_same), .cons ?_ (.cons ((h3.keep kp).keep (Same.keeps (same_upd hn))) .nil)⟩⟩
  rw [Nat.zero_add]
  exact .int _
theorem yld_c {w : Bool} (lo c : Int) (n : Nat) : Yld K w F H (Itc lo c n) (rngC lo c n) := by
  unfold rngC
  refine fun F2 H2 kp i => ⟨fun d e => ?_, fun e => ?_⟩
  · rw [List.getElem?_map, Option.map_eq_some_iff] at e
    obtain ⟨k, h1, rfl⟩ := e
    have hi : i < n := by
      rcases Nat.lt_or_ge i n with h | h
      · exact h
      · rw [List.getElem?_eq_none (by simpa using h)] at h1; cases h1
    have : k = i := by
      rw [List.getElem?_range hi] at h1
      exact (Option.some.inj h1).symm
    subst this
    refine ⟨hi, fun x H3 ⟨e3, e4⟩ => ?_⟩
    subst e3 e4
    exact ⟨same_refl, .inl (.int _)⟩
  · rw [List.length_map, List.length_range] at e
    exact e
theorem yld_v {w : Bool} {vs : List V} {ds : List D} (h : ∀ F2 H2, Keeps F H F2 H2 → SqL K H2 a vs) (r : Reps K F H vs ds) : Yld K w F H (Itv K a vs.length) ds.reverse := by
  refine fun F2 H2 kp i => ⟨fun d e => ?_, fun e => by rw [List.length_reverse] at e; show vs.length ≤ i; rw [r.length]; exact e⟩
  have hi : i < ds.length := by
    rcases Nat.lt_or_ge i ds.length with h | h
    · exact h
    · rw [List.getElem?_eq_none (by simpa using h)] at e; cases e
  rw [List.getElem?_reverse hi, ← r.length] at e
  obtain ⟨w, h1, h2⟩ := r.get e
  refine ⟨⟨by rw [r.length]; exact hi, vs, w, h F2 H2 kp, h1⟩, fun x H3 ⟨e3, y⟩ => ?_⟩
  subst e3
  have := y vs (h F2 _ kp)
  rw [h1] at this
  cases this
  exact ⟨same_refl, .inl (h2.keep kp)⟩
theorem yld_vt {w : Bool} {vs : List V} {ds : List D} (h : SqT K H a vs) (r : Reps K F H vs ds) : Yld K w F H (RT.ItvT K a vs.length) ds.reverse := by
  refine fun F2 H2 kp i => ⟨fun d e => ?_, fun e => by rw [List.length_reverse] at e; show vs.length ≤ i; rw [r.length]; exact e⟩
  have hi : i < ds.length := by
    rcases Nat.lt_or_ge i ds.length with h | h
    · exact h
    · rw [List.getElem?_eq_none (by simpa using h)] at e; cases e
  rw [List.getElem?_reverse hi, ← r.length] at e
  obtain ⟨w, h1, h2⟩ := r.get e
  refine ⟨⟨by rw [r.length]; exact hi, vs, w, kp.sqT h, h1⟩, fun x H3 ⟨e3, y⟩ => ?_⟩
  subst e3
  have := y vs (kp.sqT h)
  rw [h1] at this
  cases this
  exact ⟨same_refl, .inl (h2.keep kp)⟩
theorem zipD_get : ∀ (l m : List D) (i : Nat) (d : D), (zipD l m)[i]? = some d → ∃ e f, l[i]? = some e ∧ m[i]? = some f ∧ d = .tup [e, f]
  | [], _, _, _, h => by cases h
  | _ :: _, [], _, _, h => by cases h
  | e :: l, f :: m, 0, d, h => by
    cases h
    exact ⟨e, f, rfl, rfl, rfl⟩
  | e :: l, f :: m, i + 1, d, h => by
    obtain ⟨e', f', h1, h2, h3⟩ := zipD_get l m i d h
    exact ⟨e', f', h1, h2, h3⟩
theorem zipD_len : ∀ (l m : List D) (i : Nat), (zipD l m).length ≤ i → l.length ≤ i ∨ m.length ≤ i
  | [], _, _, _ => .inl (Nat.zero_le _)
  | _ :: _, [], _, _ => .inr (Nat.zero_le _)
  | e :: l, f :: m, 0, h => by cases h
  | e :: l, f :: m, i + 1, h => by
    rcases zipD_len l m i (Nat.le_of_succ_le_succ h) with h | h
    · exact .inl (Nat.succ_le_succ h)
    · exact .inr (Nat.succ_le_succ h)
theorem yld_z {b : Addr} {vs ws : List V} {ds es : List D} (h : ∀ F2 H2, Keeps F H F2 H2 → SqL K H2 a vs) (h' : ∀ F2 H2, Keeps F H F2 H2 → SqL K H2 b ws) (r : Reps K F H vs ds) (r' : Reps K F H ws es) : Yld K true F H (Itz K a b) (zipD ds es) := by
  refine fun F2 H2 kp i => ⟨fun d e => ?_, fun e => ⟨vs, ws, h F2 H2 kp, h' F2 H2 kp, by rw [r.length, r'.length]; exact zipD_len _ _ _ e⟩⟩
  obtain ⟨e1, e2, h1, h2, rfl⟩ := zipD_get ds es i d e
  obtain ⟨w, a1, a2⟩ := r.get h1
  obtain ⟨w', b1, b2⟩ := r'.get h2
  refine ⟨⟨vs, ws, w, w', h F2 H2 kp, h' F2 H2 kp, a1, b1⟩, fun x H3 ⟨T, y, y', e1, hn, e2, e3, e4⟩ => ?_⟩
  subst e1 e2
  have t1 := e3 vs (h F2 _ kp)
  rw [a1] at t1
  cases t1
  have t2 := e4 ws (h' F2 _ kp)
  rw [b1] at t2
  cases t2
  exact ⟨same_upd hn, .inr ⟨rfl, _, _, _, rfl, rfl, .inl (.inl upd_same), .cons ((a2.keep kp).keep (Same.keeps (same_upd hn))) (.cons ((b2.keep kp).keep (Same.keeps (same_upd hn))) .nil)⟩⟩
theorem yld_zt {b : Addr} {vs ws : List V} {ds es : List D} (h : SqT K H a vs) (h' : SqT K H b ws) (r : Reps K F H vs ds) (r' : Reps K F H ws es) : Yld K true F H (RZ.ItzT K a b) (zipD ds es) := by
  refine fun F2 H2 kp i => ⟨fun d e => ?_, fun e => ⟨vs, ws, kp.sqT h, kp.sqT h', by rw [r.length, r'.length]; exact zipD_len _ _ _ e⟩⟩
  obtain ⟨e1, e2, h1, h2, rfl⟩ := zipD_get ds es i d e
  obtain ⟨w, a1, a2⟩ := r.get h1
  obtain ⟨w', b1, b2⟩ := r'.get h2
  refine ⟨⟨vs, ws, w, w', kp.sqT h, kp.sqT h', a1, b1⟩, fun x H3 ⟨T, y, y', e1, hn, e2, e3, e4⟩ => ?_⟩
  subst e1 e2
  have t1 := e3 vs (kp.sqT h)
  rw [a1] at t1
  cases t1
  have t2 := e4 ws (kp.sqT h')
  rw [b1] at t2
  cases t2
  exact ⟨same_upd hn, .inr ⟨rfl, _, _, _, rfl, rfl, .inl (.inl upd_same), .cons ((a2.keep kp).keep (Same.keeps (same_upd hn))) (.cons ((b2.keep kp).keep (Same.keeps (same_upd hn))) .nil)⟩⟩
/-- what a loop walks -/
def tI (K : PySem.W.Frag) (C : Ctx) (W : WT) (c : CI) : TI := fun σ H R => ∃ F env, Stt K F H σ env ∧
  (evalI C c env).wp (fun p => ∀ F' H' J, Ext F H σ env F' H' σ p.2 → EnvLe env p.2 → Stt K F' H' σ p.2 → Yld K (isEZ c) F' H' J p.1 → R J H') (W F H σ env)
theorem r_iv {c : CE} {RR : It → Hp → Prop} (q : tI K C W (.val c) σ H RR) : iList K (tE K C W c) σ H RR ∨ iTup K (tE K C W c) σ H RR ∨ iStr (tE K C W c) σ H RR := by
  obtain ⟨F, env, s, q⟩ := q
  simp only [evalI, R.wp_bind] at q
  cases he : evalE C false c env with
  | stuck => rw [he] at q; exact q.elim
  | exc x => rw [he] at q; exact .inl ⟨F, env, s, by rw [he]; exact q⟩
  | ok p =>
    rw [he] at q
    have q : (R.of (p.1.freeze p.2)).wp _ _ := q
    rw [R.wp_of] at q
    obtain ⟨⟨d, env2⟩, hf, q⟩ := q
    rw [R.wp_of] at q
    obtain ⟨l, hw, q⟩ := q
    have base : ∀ F1 H1 v, Ext F H σ env F1 H1 σ p.2 → EnvLe env p.2 → Stt K F1 H1 σ p.2 → RvOk K H F1 H1 σ p.2 v p.1 → ∃ F2, Rep K F2 H1 v d ∧ ∀ J, Yld K false F2 H1 J l → RR J H1 := fun F1 H1 v x l' s1 r1 => by
      obtain ⟨F2, _, x2, l2, s2, r2, _⟩ := freeze_ok x s1 r1.weak hf
      exact ⟨F2, r2, fun J y => q F2 H1 J x2 (l'.trans l2) s2 y⟩
    cases d <;> first | (cases hw; done) | skip
    · refine .inr (.inr ⟨F, env, s, ?_⟩)
      rw [he]; intro F1 H1 v x l' s1 r1
      cases hw
      obtain ⟨F2, r2, h⟩ := base F1 H1 v x l' s1 r1
      cases r2
      exact ⟨_, rfl, h _ (yld_s _)⟩
    · refine .inr (.inl ⟨F, env, s, ?_⟩)
      rw [he]; intro F1 H1 v x l' s1 r1
      cases hw
      obtain ⟨F2, r2, h⟩ := base F1 H1 v x l' s1 r1
      cases r2 with
      | tup ht rs => exact ⟨_, rfl, ⟨_, ht.sqT⟩, h _ (yld_t ht.sqT rs)⟩
    · refine .inl ⟨F, env, s, ?_⟩
      rw [he]; intro F1 H1 v x l' s1 r1
      cases hw
      obtain ⟨F2, r2, h⟩ := base F1 H1 v x l' s1 r1
      cases r2 with
      | lst f ht rs => exact ⟨_, rfl, ⟨_, .inl (.inl ht)⟩, h _ (yld_l (fun F2 H2 kp => .inl (.inl (kp.at_ _ _ f ht NoT.lst))) rs)⟩
    · refine .inl ⟨F, env, s, ?_⟩
      rw [he]; intro F1 H1 v x l' s1 r1
      cases hw
      obtain ⟨F2, r2, h⟩ := base F1 H1 v x l' s1 r1
      cases r2 with
      | frz ht rs => exact ⟨_, rfl, ⟨_, ht.sqL⟩, h _ (yld_l (fun F2 H2 kp => SqZ.sqL (ht.keep kp)) rs)⟩
theorem r_ie {c : CE} {RR : It → Hp → Prop} (q : tI K C W (.enum c) σ H RR) : iEnumA K (tCons (tE K C W c) tNil) σ H RR := by
  obtain ⟨F, env, s, q⟩ := q
  simp only [evalI, R.wp_bind] at q
  refine ⟨F, env, s, R.wp_mono q (fun p hp F1 H1 v x l' s1 r1 => ?_) fun _ h => h⟩
  rw [R.wp_of] at hp
  obtain ⟨⟨d, env2⟩, hf, hp⟩ := hp
  rw [R.wp_of] at hp
  obtain ⟨l, hw, hq⟩ := hp
  obtain ⟨F2, _, x2, l2, s2, r2, _⟩ := freeze_ok x s1 r1.weak hf
  cases d <;> first | (cases hw; done) | skip
  · cases hw
    cases r2 with
    | tup ht rs => exact ⟨_, _, rfl, .inr ⟨ht.sqT, hq F2 H1 _ x2 (l'.trans l2) s2 (yld_et ht.sqT rs)⟩⟩
  · cases hw
    cases r2 with
    | lst f ht rs => exact ⟨_, _, rfl, .inl ⟨.inl (.inl ht), hq F2 H1 _ x2 (l'.trans l2) s2 (yld_e (fun F2 H2 kp => .inl (.inl (kp.at_ _ _ f ht NoT.lst))) rs)⟩⟩
  · cases hw
    cases r2 with
    | frz ht rs => exact ⟨_, _, rfl, .inl ⟨ht.sqL, hq F2 H1 _ x2 (l'.trans l2) s2 (yld_e (fun F2 H2 kp => SqZ.sqL (ht.keep kp)) rs)⟩⟩
theorem r_i1 {c : CE} {RR : It → Hp → Prop} (q : tI K C W (.rng1 c) σ H RR) : iRng1 (tCons (tE K C W c) tNil) σ H RR := by
  obtain ⟨F, env, s, q⟩ := q
  simp only [evalI, R.wp_bind] at q
  refine ⟨F, env, s, R.wp_mono q (fun p hp F1 H1 v x l' s1 r1 => ?_) fun _ h => h⟩
  split at hp
  · rename_i j hj
    split at hp
    · rename_i hz
      rw [hj] at r1
      cases r1
      exact ⟨j, rfl, hz.1, hz.2, hp F1 H1 _ x l' s1 (yld_r 0 _)⟩
    · exact hp.elim
  · exact hp.elim
theorem r_i2 (hW : Wok W) {c c' : CE} {RR : It → Hp → Prop} (q : tI K C W (.rng2 c c') σ H RR) : iRng2 (tCons (tE K C W c) (tCons (tE K C W c') tNil)) σ H RR := by
  obtain ⟨F, env, s, q⟩ := q
  simp only [evalI, R.wp_bind] at q
  refine ⟨F, env, s, R.wp_mono q (fun p hp F1 H1 v x l' s1 r1 => ?_) fun _ h => h⟩
  refine ⟨F1, p.2, s1, R.wp_mono hp (fun p' hp' F2 H2 v2 x2 l2 s2 r2 => ?_) fun _ h => hW.mono h x⟩
  split at hp'
  · rename_i i j hi hj
    split at hp'
    · rename_i hz
      rw [hi] at r1
      rw [hj] at r2
      cases r1
      cases r2
      exact ⟨i, j, rfl, hz, hp' F2 H2 _ (x.trans x2) (l'.trans l2) s2 (yld_r i _)⟩
    · exact hp'.elim
  · exact hp'.elim
theorem r_i3 (hW : Wok W) {c c' c2 : CE} {RR : It → Hp → Prop} (q : tI K C W (.rng3 c c' c2) σ H RR) : iRng3 (tCons (tE K C W c) (tCons (tE K C W c') (tCons (tE K C W c2) tNil))) σ H RR := by
  obtain ⟨F, env, s, q⟩ := q
  simp only [evalI, R.wp_bind] at q
  refine ⟨F, env, s, R.wp_mono q (fun p hp F1 H1 v x l' s1 r1 => ?_) fun _ h => h⟩
  refine ⟨F1, p.2, s1, R.wp_mono hp (fun p' hp' F2 H2 v2 x2 l2 s2 r2 => ?_) fun _ h => hW.mono h x⟩
  refine ⟨F2, p'.2, s2, R.wp_mono hp' (fun p3 hp3 F3 H3 v3 x3 l3 s3 r3 => ?_) fun _ h => hW.mono h (x.trans x2)⟩
  split at hp3
  · rename_i i j k hi hj hk
    split at hp3
    · rename_i hz
      rw [hi] at r1
      rw [hj] at r2
      rw [hk] at r3
      cases r1
      cases r2
      cases r3
      exact ⟨i, j, k, _, rfl, ⟨hz.1, hz.2.1, hz.2.2.1, (Int.toNat_of_nonneg hz.2.2.2).symm⟩, hp3 F3 H3 _ ((x.trans x2).trans x3) ((l'.trans l2).trans l3) s3 (yld_c i k _)⟩
    · exact hp3.elim
  · exact hp3.elim
theorem r_irev {c : CE} {RR : It → Hp → Prop} (q : tI K C W (.rev c) σ H RR) : RT.iRevA K (tE K C W c) σ H RR := by
  obtain ⟨F, env, s, q⟩ := q
  simp only [evalI, R.wp_bind] at q
  refine ⟨F, env, s, R.wp_mono q (fun p hp F1 H1 v x l' s1 r1 => ?_) fun _ h => h⟩
  rw [R.wp_of] at hp
  obtain ⟨⟨d, env2⟩, hf, hp⟩ := hp
  rw [R.wp_of] at hp
  obtain ⟨l, hw, hq⟩ := hp
  obtain ⟨F2, _, x2, l2, s2, r2, _⟩ := freeze_ok x s1 r1.weak hf
  cases d <;> first | (cases hw; done) | skip
  · cases hw
    cases r2 with
    | tup ht rs => exact ⟨_, _, rfl, .inr ⟨ht.sqT, hq F2 H1 _ x2 (l'.trans l2) s2 (yld_vt ht.sqT rs)⟩⟩
  · cases hw
    cases r2 with
    | lst f ht rs => exact ⟨_, _, rfl, .inl ⟨.inl (.inl ht), hq F2 H1 _ x2 (l'.trans l2) s2 (yld_v (fun F2 H2 kp => .inl (.inl (kp.at_ _ _ f ht NoT.lst))) rs)⟩⟩
  · cases hw
    cases r2 with
    | frz ht rs => exact ⟨_, _, rfl, .inl ⟨ht.sqL, hq F2 H1 _ x2 (l'.trans l2) s2 (yld_v (fun F2 H2 kp => SqZ.sqL (ht.keep kp)) rs)⟩⟩
theorem r_izip (hW : Wok W) {c c' : CE} {RR : It → Hp → Prop} (q : tI K C W (.zip c c') σ H RR) : RZ.iZipA K (tCons (tE K C W c) (tCons (tE K C W c') tNil)) σ H RR := by
  obtain ⟨F, env, s, q⟩ := q
  simp only [evalI, R.wp_bind] at q
  refine ⟨F, env, s, R.wp_mono q (fun p hp F1 H1 v x l' s1 r1 => ?_) fun _ h => h⟩
  rw [R.wp_of] at hp
  obtain ⟨⟨d, env2⟩, hf, hp⟩ := hp
  obtain ⟨F2, _, x2, l2, s2, r2, _⟩ := freeze_ok x s1 r1.weak hf
  refine ⟨F2, env2, s2, R.wp_mono hp (fun p' hp' F3 H3 v3 x3 l3 s3 r3 => ?_) fun _ h => hW.mono h x2⟩
  rw [R.wp_of] at hp'
  obtain ⟨⟨d', env4⟩, hf', hp'⟩ := hp'
  obtain ⟨F4, k4, x4, l4, s4, r4, _⟩ := freeze_ok (x2.trans x3) s3 (r3.early (fun a z => x2.noneOf z)).weak hf'
  rw [R.wp_of] at hp'
  obtain ⟨l, hw, hq⟩ := hp'
  have r2 : Rep K F4 H3 v d := r2.keep ((s2.keeps x3).trans ⟨k4, fun _ _ _ h _ => h, fun _ _ h => h, fun _ _ _ h => h⟩)
  cases d <;> first | (cases hw; done) | skip
  · cases d' <;> first | (cases hw; done) | skip
    cases hw
    cases r2 with
    | tup ht rs => cases r4 with
      | tup ht' rs' => exact ⟨_, _, _, _, rfl, .inr ⟨ht.sqT, ht'.sqT, hq F4 H3 _ x4 ((l'.trans l2).trans (l3.trans l4)) s4 (yld_zt ht.sqT ht'.sqT rs rs')⟩⟩
  · cases d' <;> first | (cases hw; done) | skip
    cases hw
    cases r2 with
    | lst f ht rs => cases r4 with
      | lst f' ht' rs' => exact ⟨_, _, _, _, rfl, .inl ⟨.inl (.inl ht), .inl (.inl ht'), hq F4 H3 _ x4 ((l'.trans l2).trans (l3.trans l4)) s4 (yld_z (fun F2 H2 kp => .inl (.inl (kp.at_ _ _ f ht NoT.lst))) (fun F2 H2 kp => .inl (.inl (kp.at_ _ _ f' ht' NoT.lst))) rs rs')⟩⟩
/-! ### targets -/
def gsOf : List Nat → TGs
  | [] => gNil
  | i :: is => gCons (gName i) (gsOf is)
def tgOf (K : PySem.W.Frag) : G.TG → L2.TG
  | .name i => gName i
  | .tup is => gTup K is.length (gsOf is)
/-- the lent slots stay -/
def Fixd (lent : List Bool) (σ σ' : St) : Prop := ∀ i, lent.getD i false = true → σ'[i]? = σ[i]?
theorem Fixd.trans {lent : List Bool} {σ σ' σ2 : St} (h : Fixd lent σ σ') (k : Fixd lent σ' σ2) : Fixd lent σ σ2 := fun i e => (k i e).trans (h i e)
theorem set_getS {i j : Nat} {x : Option V} : (σ.set i x)[j]? = if i = j then (if i < σ.length then some x else none) else σ[j]? := by
  rw [List.getElem?_set]
/-- a slot gets a value -/
theorem Stt.put (s : Stt K F H σ env) {i : Nat} (hi : i < env.length) (r : Rep K F H v d) : Stt K F H (σ.set i (some v)) (env.set i (.val d)) ∧ Ext F H σ env F H (σ.set i (some v)) (env.set i (.val d)) ∧ EnvLe env (env.set i (.val d)) := by
  have hσ : i < σ.length := by rw [← s.len]; exact hi
  have ow : ∀ (j : Nat) (c : D), (env.set i (.val d))[j]? = some (.own c) → i ≠ j ∧ env[j]? = some (.own c) := fun j c h => by
    rcases set_get h with ⟨_, z⟩ | z
    · cases z
    · exact z
  refine ⟨⟨by rw [List.length_set, List.length_set]; exact s.len, s.trk, fun j c h => ?_, fun j c h => ?_, fun j k c1 c2 b q1 q2 q3 q4 => ?_⟩, ⟨fun _ h => h, fun _ _ h _ _ => h, fun _ h => h, fun _ h => .inl h, fun b ⟨j, c, q1, q2⟩ => ?_⟩, ⟨fun j c h => ?_, fun j c h => ?_⟩⟩
  · rcases set_get h with ⟨z, y⟩ | ⟨z, y⟩
    · subst z; cases y
      exact ⟨v, by rw [set_getS, if_pos rfl, if_pos hσ], r⟩
    · obtain ⟨w, h1, h2⟩ := s.val j c y
      exact ⟨w, by rw [set_getS, if_neg z]; exact h1, h2⟩
  · obtain ⟨z, y⟩ := ow j c h
    obtain ⟨b, h1, h2⟩ := s.own j c y
    exact ⟨b, by rw [set_getS, if_neg z]; exact h1, h2⟩
  · obtain ⟨z1, y1⟩ := ow j c1 q1
    obtain ⟨z2, y2⟩ := ow k c2 q2
    rw [set_getS, if_neg z1] at q3
    rw [set_getS, if_neg z2] at q4
    exact s.inj j k c1 c2 b y1 y2 q3 q4
  · obtain ⟨z1, y1⟩ := ow j c q1
    rw [set_getS, if_neg z1] at q2
    exact .inl ⟨j, c, y1, q2⟩
  · by_cases z : i = j
    · subst z; exact ⟨d, .inr (set_same h)⟩
    · exact ⟨c, .inl (by rw [List.getElem?_set_ne z]; exact h)⟩
  · by_cases z : i = j
    · subst z; exact ⟨d, set_same h⟩
    · exact ⟨c, by rw [List.getElem?_set_ne z]; exact h⟩
/-- what a target's store leaves -/
structure TgEnd (K : PySem.W.Frag) (F : Addr → Prop) (H : Hp) (σ : St) (env : List Sl) (lent : List Bool) (is : List Nat) (σ2 : St) (env2 : List Sl) : Prop where
  st : Stt K F H σ2 env2
  ext : Ext F H σ env F H σ2 env2
  le : EnvLe env env2
  fix : Fixd lent σ σ2
  out : ∀ j, j ∉ is → σ2[j]? = σ[j]?
  len : σ2.length = σ.length
theorem store_ok {lent : List Bool} {i : Nat} (s : Stt K F H σ env) (h : store lent i (.val d) env = some env2) (r : Rep K F H v d) : TgEnd K F H σ env lent [i] (σ.set i (some v)) env2 := by
  unfold store at h
  split at h
  · rename_i hz
    cases h
    obtain ⟨h1, h2, h3⟩ := s.put hz.1 r
    refine ⟨h1, h2, h3, fun j e => ?_, fun j m => ?_, List.length_set⟩
    · rw [set_getS, if_neg (fun z => by subst z; rw [hz.2] at e; cases e)]
    · rw [set_getS, if_neg (fun z => m (by simp [z]))]
  · cases h
theorem storeAll_ok {lent : List Bool} : ∀ {is : List Nat} {ds : List D} {vs : List V} {σ : St} {env : List Sl} {Q : St → Hp → Prop}, Stt K F H σ env → storeAll lent is ds env = some env2 → Reps K F H vs ds →
    (∀ σ2, TgEnd K F H σ env lent is σ2 env2 → Q σ2 H) → gsOf is vs σ H Q ∧ vs.length = is.length
  | [], [], _, σ, env, Q, s, h, r, q => by
    cases r; cases h
    exact ⟨⟨rfl, q σ ⟨s, Ext.refl, EnvLe.refl, fun _ _ => rfl, fun _ _ => rfl, rfl⟩⟩, rfl⟩
  | i :: is, d :: ds, _, σ, env, Q, s, h, r, q => by
    cases r with
    | @cons v _ vs _ r t =>
      have h : (match store lent i (.val d) env with | some env1 => storeAll lent is ds env1 | none => none) = some env2 := h
      split at h
      · rename_i env1 h1
        have e1 := store_ok s h1 r
        have ih := storeAll_ok (Q := Q) e1.st h t fun σ2 e2 => q σ2 ⟨e2.st, e1.ext.trans e2.ext, e1.le.trans e2.le, e1.fix.trans e2.fix, fun j m => (e2.out j fun z => m (List.mem_cons_of_mem _ z)).trans (e1.out j fun z => m (by simp at z; simp [z])), e2.len.trans e1.len⟩
        exact ⟨⟨v, vs, rfl, ih.1⟩, congrArg (· + 1) ih.2⟩
      · cases h
  | [], _ :: _, _, _, _, _, _, h, _, _ => by cases h
  | _ :: _, [], _, _, _, _, _, h, _, _ => by cases h
theorem r_tg {lent : List Bool} {tg : G.TG} {w : Bool} {Q : St → Hp → Prop} (hw : tgFit tg w) (s : Stt K F H σ env) (h : assignT lent tg d env = some env2) (r : RepY K w F H v d) (q : ∀ σ2, TgEnd K F H σ env lent (tgSlots tg) σ2 env2 → Q σ2 H) : tgOf K tg v σ H Q := by
  cases tg with
  | name i =>
    rcases r with r | ⟨e, _⟩
    · exact q _ (store_ok s h r)
    · obtain ⟨_, z⟩ := hw e; cases z
  | tup is =>
    cases d <;> first | (cases h; done) | skip
    rcases r with r | ⟨_, a, vs, ds, rfl, e, ht, rs⟩
    · cases r with
      | tup ht rs =>
        obtain ⟨h1, h2⟩ := storeAll_ok (Q := Q) s h rs q
        exact ⟨_, _, rfl, ht.sqT, h2, h1⟩
    · cases e
      obtain ⟨h1, h2⟩ := storeAll_ok (Q := Q) s h rs q
      exact ⟨_, _, rfl, ht, h2, h1⟩
/-! ### the slots of a comprehension -/
theorem wipeE_get : ∀ (vs : List Nat) (env : List Sl) (i : Nat), (wipeE env vs)[i]? = if i ∈ vs then (if i < env.length then some .no else none) else env[i]?
  | [], env, i => by simp [wipeE]
  | v :: vs, env, i => by
    have hl : ∀ vs : List Nat, (wipeE env vs).length = env.length := fun vs => by
      induction vs with
      | nil => rfl
      | cons v vs ih => simp [wipeE, ih]
    unfold wipeE
    rw [List.getElem?_set, hl, wipeE_get vs env i]
    by_cases h : v = i
    · subst h; simp
    · simp [h, Ne.symm h]
theorem wipeE_len (env : List Sl) : ∀ vs : List Nat, (wipeE env vs).length = env.length
  | [] => rfl
  | v :: vs => by unfold wipeE; rw [List.length_set, wipeE_len env vs]
theorem wipe_get : ∀ (vs : List Nat) (σ : St) (i : Nat), (wipe σ vs)[i]? = if i ∈ vs then (if i < σ.length then some none else none) else σ[i]?
  | [], σ, i => by simp [wipe]
  | v :: vs, σ, i => by
    unfold wipe
    rw [List.getElem?_set, wipe_length, wipe_get vs σ i]
    by_cases h : v = i
    · subst h; simp
    · simp [h, Ne.symm h]
theorem restoreE_len (env0 env : List Sl) : ∀ vs : List Nat, (restoreE env0 env vs).length = env.length
  | [] => rfl
  | v :: vs => by unfold restoreE; rw [List.length_set, restoreE_len env0 env vs]
theorem restoreE_get : ∀ (vs : List Nat) (env0 env : List Sl) (i : Nat), (restoreE env0 env vs)[i]? = if i ∈ vs then (if i < env.length then some (env0.getD i .no) else none) else env[i]?
  | [], env0, env, i => by simp [restoreE]
  | v :: vs, env0, env, i => by
    unfold restoreE
    rw [List.getElem?_set, restoreE_len, restoreE_get vs env0 env i]
    by_cases h : v = i
    · subst h; simp
    · simp [h, Ne.symm h]
theorem wipe_eq {vs : List Nat} (hl : σ2.length = σ.length) (h : ∀ j, j ∉ vs → σ2[j]? = σ[j]?) : wipe σ2 vs = wipe σ vs := by
  apply List.ext_getElem?
  intro j
  rw [wipe_get, wipe_get, hl]
  split
  · rfl
  · exact h j (by assumption)
theorem wipe_wipe {vs : List Nat} : wipe (wipe σ vs) vs = wipe σ vs := wipe_eq (wipe_length σ vs) fun j m => by rw [wipe_get, if_neg m]
theorem wipe_own {vs : List Nat} {i : Nat} {c : D} (h : (wipeE env vs)[i]? = some (.own c)) : i ∉ vs ∧ env[i]? = some (.own c) := by
  rw [wipeE_get] at h
  split at h
  · split at h <;> cases h
  · exact ⟨by assumption, h⟩
theorem wipe_val {vs : List Nat} {i : Nat} {c : D} (h : (wipeE env vs)[i]? = some (.val c)) : i ∉ vs ∧ env[i]? = some (.val c) := by
  rw [wipeE_get] at h
  split at h
  · split at h <;> cases h
  · exact ⟨by assumption, h⟩
theorem Stt.wipe (s : Stt K F H σ env) (vs : List Nat) : Stt K F H (wipe σ vs) (wipeE env vs) ∧ Ext F H σ env F H (wipe σ vs) (wipeE env vs) := by
  refine ⟨⟨by rw [wipeE_len, wipe_length]; exact s.len, s.trk, fun j c h => ?_, fun j c h => ?_, fun j k c1 c2 b q1 q2 q3 q4 => ?_⟩, ⟨fun _ h => h, fun _ _ h _ _ => h, fun _ h => h, fun _ h => .inl h, fun b ⟨j, c, q1, q2⟩ => ?_⟩⟩
  · obtain ⟨m, h⟩ := wipe_val h
    obtain ⟨w, h1, h2⟩ := s.val j c h
    exact ⟨w, by rw [wipe_get, if_neg m]; exact h1, h2⟩
  · obtain ⟨m, h⟩ := wipe_own h
    obtain ⟨w, h1, h2⟩ := s.own j c h
    exact ⟨w, by rw [wipe_get, if_neg m]; exact h1, h2⟩
  · obtain ⟨m1, h1⟩ := wipe_own q1
    obtain ⟨m2, h2⟩ := wipe_own q2
    rw [wipe_get, if_neg m1] at q3
    rw [wipe_get, if_neg m2] at q4
    exact s.inj j k c1 c2 b h1 h2 q3 q4
  · obtain ⟨m, h⟩ := wipe_own q1
    rw [wipe_get, if_neg m] at q2
    exact .inl ⟨j, c, h, q2⟩
theorem EnvLe.wipeR {vs : List Nat} (h : EnvLe (wipeE env vs) env1) : EnvLe (wipeE env vs) (wipeE env1 vs) where
  own := fun i c q => by
    obtain ⟨m, _⟩ := wipe_own q
    obtain ⟨e, h1⟩ := h.own i c q
    exact ⟨e, by rw [wipeE_get, if_neg m]; exact h1⟩
  val := fun i c q => by
    obtain ⟨m, _⟩ := wipe_val q
    obtain ⟨e, h1⟩ := h.val i c q
    exact ⟨e, by rw [wipeE_get, if_neg m]; exact h1⟩
/-- behind a comprehension the slots are as they were -/
theorem Stt.restore {vs : List Nat} {env0 env1 : List Sl} (s0 : Stt K F1 H1 σ env0) (no : ∀ v, v ∈ vs → ∀ c : D, env0[v]? ≠ some (.own c)) (kp : Keeps F1 H1 F H) (s : Stt K F H (L2.wipe σ vs) (wipeE env1 vs)) : Stt K F H σ (restoreE env0 env1 vs) := by
  have hlen : env1.length = σ.length := by have := s.len; rw [wipeE_len, wipe_length] at this; exact this
  have ow : ∀ (j : Nat) (c : D), (restoreE env0 env1 vs)[j]? = some (.own c) → j ∉ vs ∧ (wipeE env1 vs)[j]? = some (.own c) := fun j c h => by
    rw [restoreE_get] at h
    split at h
    · rename_i m
      split at h
      · rename_i hj
        have e : env0[j]? = some (.own c) := by
          have h : env0.getD j .no = .own c := Option.some.inj h
          rw [List.getD_eq_getElem?_getD] at h
          cases q : env0[j]? with
          | none => rw [q] at h; cases h
          | some y => rw [q] at h; exact congrArg some h
        exact (no j m c e).elim
      · cases h
    · rename_i m
      exact ⟨m, by rw [wipeE_get, if_neg m]; exact h⟩
  refine ⟨by rw [restoreE_len]; exact hlen, s.trk, fun j c h => ?_, fun j c h => ?_, fun j k c1 c2 b q1 q2 q3 q4 => ?_⟩
  · rw [restoreE_get] at h
    split at h
    · rename_i m
      split at h
      · have e : env0[j]? = some (.val c) := by
          have h : env0.getD j .no = .val c := Option.some.inj h
          rw [List.getD_eq_getElem?_getD] at h
          cases q : env0[j]? with
          | none => rw [q] at h; cases h
          | some y => rw [q] at h; exact congrArg some h
        obtain ⟨w, h1, h2⟩ := s0.val j c e
        exact ⟨w, h1, h2.keep kp⟩
      · cases h
    · rename_i m
      obtain ⟨w, h1, h2⟩ := s.val j c (by rw [wipeE_get, if_neg m]; exact h)
      rw [wipe_get, if_neg m] at h1
      exact ⟨w, h1, h2⟩
  · obtain ⟨m, h⟩ := ow j c h
    obtain ⟨w, h1, h2⟩ := s.own j c h
    rw [wipe_get, if_neg m] at h1
    exact ⟨w, h1, h2⟩
  · obtain ⟨m1, h1⟩ := ow j c1 q1
    obtain ⟨m2, h2⟩ := ow k c2 q2
    exact s.inj j k c1 c2 b h1 h2 (by rw [wipe_get, if_neg m1]; exact q3) (by rw [wipe_get, if_neg m2]; exact q4)
/-! ### comprehensions -/
def noW : WT := fun _ _ _ _ _ => False
instance noW_ok : Wok noW := ⟨fun h _ => h⟩
def condT (K : PySem.W.Frag) (C : Ctx) : Option CE → TT
  | none => tYes
  | some c => tT K C noW c
def stepOf (C : Ctx) (vs : List Nat) (tg : G.TG) (cond : Option CE) (elt : CE) (d : D) (env1 : List Sl) : R (Option D × List Sl) := match cond with
  | none => (R.of (assignT [] tg d (wipeE env1 vs))).bind fun env2 => (evalE C false elt env2).bind fun z => (R.of (z.1.freeze z.2)).bind fun y => .ok (some y.1, y.2)
  | some c => (R.of (assignT [] tg d (wipeE env1 vs))).bind fun env2 => (evalE C true c env2).bind fun x =>
        (R.of (asB x.1)).bind fun k => if k then (evalE C false elt x.2).bind fun z => (R.of (z.1.freeze z.2)).bind fun y => .ok (some y.1, y.2) else .ok (none, x.2)
theorem R.bind_ok {α β : Type} {r : R α} {f : α → R β} {b : β} (h : r.bind f = .ok b) : ∃ a, r = .ok a ∧ f a = .ok b := by
  cases r with
  | ok a => exact ⟨a, rfl, h⟩
  | exc x => cases h
  | stuck => cases h
theorem R.of_ok {α : Type} {o : Option α} {a : α} (h : R.of o = .ok a) : o = some a := by
  cases o with
  | none => cases h
  | some b => cases h; rfl
theorem wipe_end {vs : List Nat} {F3 : Addr → Prop} {H3 : Hp} (hσ : wipe σ2 vs = wipe σ vs) (x : Ext F2 H2 (wipe σ vs) (wipeE env1 vs) F3 H3 σ2 env2) (l : EnvLe (wipeE env1 vs) env2) (s : Stt K F3 H3 σ2 env2) :
    Ext F2 H2 (wipe σ vs) (wipeE env1 vs) F3 H3 (wipe σ vs) (wipeE env2 vs) ∧ EnvLe (wipeE env1 vs) (wipeE env2 vs) ∧ Stt K F3 H3 (wipe σ vs) (wipeE env2 vs) := by
  obtain ⟨s', x'⟩ := s.wipe vs
  rw [hσ] at s' x'
  exact ⟨x.trans x', l.wipeR, s'⟩
theorem step_ok {vs : List Nat} {tg : G.TG} {cond : Option CE} {elt : CE} {y : Option D × List Sl} {Q' : Option V → Hp → Prop} {wk : Bool} (hw : tgFit tg wk) (hin : ∀ j, j ∈ tgSlots tg → j ∈ vs) (s : Stt K F2 H2 (wipe σ vs) (wipeE env1 vs)) (r : RepY K wk F2 H2 x d)
    (hy : stepOf C vs tg cond elt d env1 = .ok y)
    (q : ∀ F3 H3 w, Ext F2 H2 (wipe σ vs) (wipeE env1 vs) F3 H3 (wipe σ vs) (wipeE y.2 vs) → EnvLe (wipeE env1 vs) (wipeE y.2 vs) → Stt K F3 H3 (wipe σ vs) (wipeE y.2 vs) →
      (match y.1 with | some d' => ∃ v, w = some v ∧ Rep K F3 H3 v d' | none => w = none) → Q' w H3) :
    tgOf K tg x (wipe σ vs) H2 fun σ2 H3 => wipe σ2 vs = wipe σ vs ∧ condT K C cond σ2 H3 fun b H4 => if b = true then tE K C noW elt σ2 H4 fun w H5 => Q' (some w) H5 else Q' none H4 := by
  have elt_ok : ∀ {σ2 : St} {F3 : Addr → Prop} {H3 : Hp} {env2 : List Sl}, wipe σ2 vs = wipe σ vs → Ext F2 H2 (wipe σ vs) (wipeE env1 vs) F3 H3 σ2 env2 → EnvLe (wipeE env1 vs) env2 → Stt K F3 H3 σ2 env2 →
      ((evalE C false elt env2).bind fun z => (R.of (z.1.freeze z.2)).bind fun y => R.ok (some y.1, y.2)) = .ok y → tE K C noW elt σ2 H3 fun w H5 => Q' (some w) H5 := fun {σ2 F3 H3 env2} hσ x3 l3 s3 hy => by
    obtain ⟨z, h1, hy⟩ := R.bind_ok hy
    obtain ⟨⟨d', e'⟩, h2, hy⟩ := R.bind_ok hy
    have h2 := R.of_ok h2
    cases hy
    refine ⟨F3, env2, s3, ?_⟩
    rw [h1]
    intro F4 H4 w x4 l4 s4 r4
    obtain ⟨F5, _, x5, l5, s5, r5, _⟩ := freeze_ok (x3.trans x4) s4 (r4.early (fun a z => x3.noneOf z)).weak h2
    obtain ⟨x6, l6, s6⟩ := wipe_end hσ x5 ((l3.trans l4).trans l5) s5
    exact q F5 H4 (some w) x6 l6 s6 ⟨w, rfl, r5⟩
  unfold stepOf at hy
  cases cond with
  | none =>
    obtain ⟨env2, h1, hy⟩ := R.bind_ok hy
    refine r_tg hw s (R.of_ok h1) r fun σ2 e => ?_
    have hσ : wipe σ2 vs = wipe σ vs := (wipe_eq e.len fun j m => e.out j fun z => m (hin j z)).trans wipe_wipe
    refine ⟨hσ, ?_⟩
    show (if true = true then tE K C noW elt σ2 H2 (fun w H5 => Q' (some w) H5) else Q' none H2)
    rw [if_pos rfl]
    exact elt_ok hσ e.ext e.le e.st hy
  | some c =>
    obtain ⟨env2, h1, hy⟩ := R.bind_ok hy
    obtain ⟨xx, h2, hy⟩ := R.bind_ok hy
    obtain ⟨k, h3, hy⟩ := R.bind_ok hy
    refine r_tg hw s (R.of_ok h1) r fun σ2 e => ?_
    have hσ : wipe σ2 vs = wipe σ vs := (wipe_eq e.len fun j m => e.out j fun z => m (hin j z)).trans wipe_wipe
    refine ⟨hσ, F2, env2, e.st, ?_⟩
    rw [h2]
    refine ⟨k, R.of_ok h3, fun F4 H4 x4 l4 s4 => ?_⟩
    cases k with
    | true =>
      rw [if_pos rfl]
      exact elt_ok hσ (e.ext.trans x4) (e.le.trans l4) s4 hy
    | false =>
      cases hy
      obtain ⟨x6, l6, s6⟩ := wipe_end hσ (e.ext.trans x4) (e.le.trans l4) s4
      exact q F4 H4 none x6 l6 s6 rfl
theorem comp_core {vs : List Nat} {tg : G.TG} {cond : Option CE} {elt : CE} {ci : CI} (fit : tgFit tg (isEZ ci)) (q : ∃ F env, Stt K F H σ env ∧ (evalI C ci env).wp (fun p => (R.of (compOk p.2 vs tg p.1.length)).wp (fun _ =>
      (R.calm (compL (stepOf C vs tg cond elt) p.1 p.2)).wp (fun q => PostE K F H σ env Q (.fresh (.lst q.1), restoreE p.2 q.2 vs)) (W F H σ env)) (W F H σ env)) (W F H σ env)) :
    tLc (tI K C W ci) (tgOf K tg) (condT K C cond) (tE K C noW elt) vs σ H Q := by
  obtain ⟨F, env, s, q⟩ := q
  refine ⟨F, env, s, R.wp_mono q (fun p hp F1 H1 J x l s1 y => ?_) fun _ h => h⟩
  intro L hD
  obtain ⟨ds, env0⟩ := p
  rw [R.wp_of] at hp
  obtain ⟨_, hok, hp⟩ := hp
  have hok : (if (vs.all fun v => match env0[v]? with | some (.own _) => false | _ => true) && ((tgSlots tg).all fun i => vs.contains i) && decide (ds.length ≤ sizeLine) then some () else none) = some () := hok
  split at hok
  · rename_i hz
    rw [Bool.and_eq_true, Bool.and_eq_true, decide_eq_true_eq] at hz
    obtain ⟨⟨hno, hin⟩, hsz⟩ := hz
    have hin : ∀ j, j ∈ tgSlots tg → j ∈ vs := fun j m => by
      have := List.all_eq_true.mp hin j m
      simpa using this
    have hno : ∀ v, v ∈ vs → ∀ c : D, env0[v]? ≠ some (.own c) := fun v m c e => by
      have := List.all_eq_true.mp hno v m
      rw [e] at this
      cases this
    cases hc : compL (stepOf C vs tg cond elt) ds env0 with
    | stuck => rw [hc] at hp; exact hp.elim
    | exc e => rw [hc] at hp; exact hp.elim
    | ok res =>
      rw [hc] at hp
      have hp : PostE K F H σ env Q (.fresh (.lst res.1), restoreE env0 res.2 vs) := hp
      obtain ⟨sw, xw⟩ := s1.wipe vs
      refine ⟨fun i m H2 => m = ds.length - i ∧ i ≤ ds.length ∧ ∃ F2 env1 accV accD rest, compL (stepOf C vs tg cond elt) (ds.drop i) env1 = .ok (rest, res.2) ∧ res.1 = accD ++ rest ∧
        Ext F1 H1 (wipe σ vs) (wipeE env0 vs) F2 H2 (wipe σ vs) (wipeE env1 vs) ∧ EnvLe (wipeE env0 vs) (wipeE env1 vs) ∧ Stt K F2 H2 (wipe σ vs) (wipeE env1 vs) ∧ ¬ F2 L ∧ ¬ OwnA (wipe σ vs) (wipeE env1 vs) L ∧
        H2 L = some (.lst accV) ∧ Reps K F2 H2 accV accD ∧ accD.length ≤ i, ⟨ds.length, by simp, Nat.zero_le _, F1, env0, [], [], res.1, ?_, rfl, ext_same (same_upd hD), EnvLe.refl, sw.same (same_upd hD), s1.notAt hD, sw.notOwnNone (Nw.of hD), upd_same, .nil, Nat.le_refl _⟩, ?_⟩
      · rw [List.drop_zero]; exact hc
      rintro i m H2 ⟨rfl, hi, F2, env1, accV, accD, rest, hcl, hres, x2, l2, s2, nf, no, hH, hr, hlen⟩
      have kp : Keeps F1 H1 F2 H2 := sw.keeps x2
      by_cases hlt : i < ds.length
      · obtain ⟨d, hd⟩ : ∃ d, ds[i]? = some d := ⟨ds[i], by simp [hlt]⟩
        have hdrop : ds.drop i = d :: ds.drop (i + 1) := by
          rw [List.drop_eq_getElem_cons hlt]
          congr 1
          rw [List.getElem?_eq_getElem hlt] at hd
          exact Option.some.inj hd
        rw [hdrop] at hcl
        have hcl : ((stepOf C vs tg cond elt d env1).bind fun p => (compL (stepOf C vs tg cond elt) (ds.drop (i + 1)) p.2).bind fun q => R.ok (p.1.toList ++ q.1, q.2)) = .ok (rest, res.2) := hcl
        obtain ⟨yy, h1, hcl⟩ := R.bind_ok hcl
        obtain ⟨qq, h2, hcl⟩ := R.bind_ok hcl
        injection hcl with hcl
        injection hcl with e1 e2
        obtain ⟨hgo, hyl⟩ := (y F2 H2 kp i).1 d hd
        refine .inr ⟨hgo, fun H' => ∃ m', m' < ds.length - i ∧ m' = ds.length - (i + 1) ∧ i + 1 ≤ ds.length ∧ ∃ F2 env1 accV accD rest, compL (stepOf C vs tg cond elt) (ds.drop (i + 1)) env1 = .ok (rest, res.2) ∧ res.1 = accD ++ rest ∧
          Ext F1 H1 (wipe σ vs) (wipeE env0 vs) F2 H' (wipe σ vs) (wipeE env1 vs) ∧ EnvLe (wipeE env0 vs) (wipeE env1 vs) ∧ Stt K F2 H' (wipe σ vs) (wipeE env1 vs) ∧ ¬ F2 L ∧ ¬ OwnA (wipe σ vs) (wipeE env1 vs) L ∧
          H' L = some (.lst accV) ∧ Reps K F2 H' accV accD ∧ accD.length ≤ i + 1, fun H' ⟨m', hm, h⟩ => ⟨m', hm, h⟩, fun xx H3 hx => ?_⟩
        obtain ⟨sm, rp⟩ := hyl xx H3 hx
        have nx : ∀ F4 H4, Ext F2 H3 (wipe σ vs) (wipeE env1 vs) F4 H4 (wipe σ vs) (wipeE yy.2 vs) → Stt K F4 H4 (wipe σ vs) (wipeE yy.2 vs) → H4 L = some (.lst accV) ∧ ¬ F4 L ∧ ¬ OwnA (wipe σ vs) (wipeE yy.2 vs) L ∧ Reps K F4 H4 accV accD := fun F4 H4 x4 s4 => by
          have hD3 : H3 L = some (.lst accV) := sm L _ hH
          refine ⟨x4.keep L _ hD3 NoT.lst no, fun f => ?_, fun o => ?_, (hr.keep sm.keeps).keep ((s2.same sm).keeps x4)⟩
          · rcases x4.new L f with f | f | f
            · exact nf f
            · exact f ⟨_, hD3, NoT.lst⟩
            · exact no f
          · rcases x4.owns L o with f | f
            · exact no f
            · exact f ⟨_, hD3, NoT.lst⟩
        have st := step_ok (Q' := fun w H5 => match w with
          | some yv => ∃ acc, H5 L = some (.lst acc) ∧ acc.length < sizeLine ∧ (∃ m', m' < ds.length - i ∧ m' = ds.length - (i + 1) ∧ i + 1 ≤ ds.length ∧ ∃ F2 env1 accV accD rest, compL (stepOf C vs tg cond elt) (ds.drop (i + 1)) env1 = .ok (rest, res.2) ∧ res.1 = accD ++ rest ∧
          Ext F1 H1 (wipe σ vs) (wipeE env0 vs) F2 (upd H5 L (.lst (acc ++ [yv]))) (wipe σ vs) (wipeE env1 vs) ∧ EnvLe (wipeE env0 vs) (wipeE env1 vs) ∧ Stt K F2 (upd H5 L (.lst (acc ++ [yv]))) (wipe σ vs) (wipeE env1 vs) ∧ ¬ F2 L ∧ ¬ OwnA (wipe σ vs) (wipeE env1 vs) L ∧
          (upd H5 L (.lst (acc ++ [yv]))) L = some (.lst accV) ∧ Reps K F2 (upd H5 L (.lst (acc ++ [yv]))) accV accD ∧ accD.length ≤ i + 1)
          | none => ∃ m', m' < ds.length - i ∧ m' = ds.length - (i + 1) ∧ i + 1 ≤ ds.length ∧ ∃ F2 env1 accV accD rest, compL (stepOf C vs tg cond elt) (ds.drop (i + 1)) env1 = .ok (rest, res.2) ∧ res.1 = accD ++ rest ∧
          Ext F1 H1 (wipe σ vs) (wipeE env0 vs) F2 H5 (wipe σ vs) (wipeE env1 vs) ∧ EnvLe (wipeE env0 vs) (wipeE env1 vs) ∧ Stt K F2 H5 (wipe σ vs) (wipeE env1 vs) ∧ ¬ F2 L ∧ ¬ OwnA (wipe σ vs) (wipeE env1 vs) L ∧
          H5 L = some (.lst accV) ∧ Reps K F2 H5 accV accD ∧ accD.length ≤ i + 1) fit hin (s2.same sm) rp h1 fun F4 H4 w x4 l4 s4 hw => ?_
        · exact st
        · obtain ⟨hD4, nf4, no4, hr4⟩ := nx F4 H4 x4 s4
          have xx4 : Ext F1 H1 (wipe σ vs) (wipeE env0 vs) F4 H4 (wipe σ vs) (wipeE yy.2 vs) := (x2.trans (ext_same sm)).trans x4
          obtain ⟨y1, y2⟩ := yy
          cases y1 with
          | none =>
            obtain rfl : w = none := hw
            exact ⟨_, by omega, rfl, hlt, F4, y2, accV, accD, qq.1, by rw [← e2]; exact h2, by rw [hres, ← e1]; rfl, xx4, l2.trans l4, s4, nf4, no4, hD4, hr4, by omega⟩
          | some d' =>
            obtain ⟨yv, rfl, ryv⟩ : ∃ v, w = some v ∧ Rep K F4 H4 v d' := hw
            have kp4 : Keeps F4 H4 F4 (upd H4 L (.lst (accV ++ [yv]))) := keeps_poke nf4 hD4 (fun _ z => nomatch z) (fun _ _ z => nomatch z)
            refine ⟨accV, hD4, by rw [hr.length]; omega, _, by omega, rfl, hlt, F4, y2, accV ++ [yv], accD ++ [d'], qq.1, by rw [← e2]; exact h2, by rw [hres, ← e1, List.append_assoc]; rfl, xx4.poke hD, l2.trans l4, s4.poke kp4 no4 (fun ps z => by rw [hD4] at z; cases z) (fun f z => by rw [hD4] at z; cases z), nf4, no4, upd_same, (hr4.append (.cons ryv .nil)).keep kp4, ?_⟩
            rw [List.length_append, List.length_singleton]; omega
      · have hi' : i = ds.length := by omega
        subst hi'
        rw [List.drop_length] at hcl
        have hcl : R.ok (([] : List D), env1) = .ok (rest, res.2) := hcl
        injection hcl with hcl
        injection hcl with e1 e2
        subst e1
        rw [List.append_nil] at hres
        refine .inl ⟨(y F2 H2 kp ds.length).2 (Nat.le_refl _), ?_⟩
        have s3 : Stt K F2 H2 σ (restoreE env0 env1 vs) := s1.restore hno kp s2
        have own3 : ∀ a, OwnA σ (restoreE env0 env1 vs) a → OwnA (wipe σ vs) (wipeE env1 vs) a := fun a ⟨j, c, h1, h2⟩ => by
          rw [restoreE_get] at h1
          split at h1
          · rename_i hj
            split at h1
            · have h : env0.getD j .no = .own c := Option.some.inj h1
              rw [List.getD_eq_getElem?_getD] at h
              cases q : env0[j]? with
              | none => rw [q] at h; cases h
              | some z => rw [q] at h; exact (hno j hj c (q.trans (congrArg some h))).elim
            · cases h1
          · rename_i hj
            exact ⟨j, c, by rw [wipeE_get, if_neg hj]; exact h1, by rw [wipe_get, if_neg hj]; exact h2⟩
        have ownb : ∀ a, OwnA (wipe σ vs) (wipeE env0 vs) a → OwnA σ env0 a := fun a ⟨j, c, h1, h2⟩ => by
          obtain ⟨m, h1⟩ := wipe_own h1
          rw [wipe_get, if_neg m] at h2
          exact ⟨j, c, h1, h2⟩
        have x3 : Ext F1 H1 σ env0 F2 H2 σ (restoreE env0 env1 vs) := ⟨x2.sub, fun a o h t n => x2.keep a o h t fun z => n (ownb a z), x2.dom, fun a f => by
          rcases x2.new a f with f | f | f
          · exact .inl f
          · exact .inr (.inl f)
          · exact .inr (.inr (ownb a f)), fun a o => by
          rcases x2.owns a (own3 a o) with f | f
          · exact .inl (ownb a f)
          · exact .inr f⟩
        have l3 : EnvLe env0 (restoreE env0 env1 vs) := ⟨fun j c h => by
          by_cases m : j ∈ vs
          · exact (hno j m c h).elim
          · obtain ⟨e, he⟩ := l2.own j c (by rw [wipeE_get, if_neg m]; exact h)
            rw [wipeE_get, if_neg m] at he
            exact ⟨e, by rw [restoreE_get, if_neg m]; exact he⟩, fun j c h => by
          by_cases m : j ∈ vs
          · refine ⟨c, ?_⟩
            have hj : j < env1.length := by
              have a1 := s2.len; have a2 := sw.len
              rw [wipeE_len, wipe_length] at a1 a2
              rw [a1, ← a2]
              rcases Nat.lt_or_ge j env0.length with z | z
              · exact z
              · rw [List.getElem?_eq_none z] at h; cases h
            rw [restoreE_get, if_pos m, if_pos hj, List.getD_eq_getElem?_getD, h]; rfl
          · obtain ⟨e, he⟩ := l2.val j c (by rw [wipeE_get, if_neg m]; exact h)
            rw [wipeE_get, if_neg m] at he
            exact ⟨e, by rw [restoreE_get, if_neg m]; exact he⟩⟩
        rw [← e2, hres] at hp
        exact hp F2 H2 (.ref L) (x.trans x3) (l.trans l3) s3 ⟨L, rfl, nf, .lst hH hr, fun o => no (own3 L o), x.noneOf (Nw.of hD)⟩
  · cases hok
theorem r_comp {vs : List Nat} {tg : G.TG} {elt : CE} {ci : CI} (fit : tgFit tg (isEZ ci)) (q : tE K C W (.comp vs tg ci elt) σ H Q) : tLc (tI K C W ci) (tgOf K tg) tYes (tE K C noW elt) vs σ H Q := by
  obtain ⟨F, env, s, q⟩ := q
  simp only [evalE, R.wp_bind, fin_false] at q
  exact comp_core (cond := none) fit ⟨F, env, s, q⟩
theorem r_compIf {vs : List Nat} {tg : G.TG} {c elt : CE} {ci : CI} (fit : tgFit tg (isEZ ci)) (q : tE K C W (.compIf vs tg ci c elt) σ H Q) : tLc (tI K C W ci) (tgOf K tg) (tT K C noW c) (tE K C noW elt) vs σ H Q := by
  obtain ⟨F, env, s, q⟩ := q
  simp only [evalE, R.wp_bind, fin_false] at q
  exact comp_core (cond := some c) fit ⟨F, env, s, q⟩
end
end G

set_option Elab.async false
set_option linter.all false
set_option maxRecDepth 100000
/-! G, part 6b: comprehensions of two clauses. -/
namespace G
open PySem L2
variable [TB : Tbs]
section
variable {K : PySem.W.Frag} {C : Ctx} {W : WT} {F F' F1 F2 F_0 Fb : Addr → Prop} {H H' H1 H2 H_0 Hb : Hp} {σ σ' σ2 σ_0 σb : St} {env env' env1 env2 env0 envb : List Sl} {v x : V} {d : D} {a p : Addr} {Q : VK}
/-- a clause's own loop, over a list that stands already: L holds what was made so far -/
theorem comp_loop {vs : List Nat} {tg : G.TG} {cond : Option CE} {elt : CE} {wk : Bool} {ds : List D} {res : List D × List Sl} {J : It} {L : Addr} {accV0 : List V} {accD0 : List D} {Done : Hp → Prop}
    (fit : tgFit tg wk) (hin : ∀ j, j ∈ tgSlots tg → j ∈ vs) (hc : compL (stepOf C vs tg cond elt) ds env0 = .ok res)
    (y : ∀ F2 H2 env2, Keeps F1 H1 F2 H2 → Ext Fb Hb σb envb F2 H2 (wipe σ vs) (wipeE env2 vs) → ∀ i, (∀ d, ds[i]? = some d → J.go i H2 ∧ ∀ x H3, J.yld i H2 x H3 → Same H2 H3 ∧ RepY K wk F2 H3 x d) ∧ (ds.length ≤ i → J.stop i H2))
    (xb : Ext Fb Hb σb envb F1 H1 (wipe σ vs) (wipeE env0 vs)) (sw : Stt K F1 H1 (wipe σ vs) (wipeE env0 vs)) (hbL : Hb L = none) (hL : H1 L = some (.lst accV0)) (nf0 : ¬ F1 L) (no0 : ¬ OwnA (wipe σ vs) (wipeE env0 vs) L)
    (hr0 : Reps K F1 H1 accV0 accD0) (hsz : accD0.length + res.1.length ≤ sizeLine)
    (done : ∀ F2 H2 accV, Ext Fb Hb σb envb F2 H2 (wipe σ vs) (wipeE res.2 vs) → EnvLe (wipeE env0 vs) (wipeE res.2 vs) → Stt K F2 H2 (wipe σ vs) (wipeE res.2 vs) → Keeps F1 H1 F2 H2 → ¬ F2 L → ¬ OwnA (wipe σ vs) (wipeE res.2 vs) L → H2 L = some (.lst accV) → Reps K F2 H2 accV (accD0 ++ res.1) → Done H2) :
    ∃ W : Nat → Nat → Hp → Prop, (∃ m, W 0 m H1) ∧ ∀ i m H, W i m H → (J.stop i H ∧ Done H) ∨ (J.go i H ∧ ∃ Nx : Hp → Prop, (∀ H', Nx H' → ∃ m', m' < m ∧ W (i + 1) m' H') ∧ ∀ x H', J.yld i H x H' → tgOf K tg x (wipe σ vs) H' fun σ2 H2 => wipe σ2 vs = wipe σ vs ∧
      condT K C cond σ2 H2 fun b H3 => if b = true then tE K C noW elt σ2 H3 fun y H4 => ∃ acc, H4 L = some (.lst acc) ∧ acc.length < sizeLine ∧ Nx (upd H4 L (.lst (acc ++ [y]))) else Nx H3) := by
  refine ⟨fun i m H2 => m = ds.length - i ∧ i ≤ ds.length ∧ ∃ F2 env1 accV accD rest, compL (stepOf C vs tg cond elt) (ds.drop i) env1 = .ok (rest, res.2) ∧ accD0 ++ res.1 = accD ++ rest ∧
    Ext Fb Hb σb envb F2 H2 (wipe σ vs) (wipeE env1 vs) ∧ EnvLe (wipeE env0 vs) (wipeE env1 vs) ∧ Stt K F2 H2 (wipe σ vs) (wipeE env1 vs) ∧ Keeps F1 H1 F2 H2 ∧ ¬ F2 L ∧ ¬ OwnA (wipe σ vs) (wipeE env1 vs) L ∧
    H2 L = some (.lst accV) ∧ Reps K F2 H2 accV accD, ⟨ds.length, by simp, Nat.zero_le _, F1, env0, accV0, accD0, res.1, ?_, rfl, xb, EnvLe.refl, sw, Keeps.refl, nf0, no0, hL, hr0⟩, ?_⟩
  · rw [List.drop_zero]; exact hc
  rintro i m H2 ⟨rfl, hi, F2, env1, accV, accD, rest, hcl, hres, x2, l2, s2, kp, nf, no, hH, hr⟩
  by_cases hlt : i < ds.length
  · obtain ⟨d, hd⟩ : ∃ d, ds[i]? = some d := ⟨ds[i], by simp [hlt]⟩
    have hdrop : ds.drop i = d :: ds.drop (i + 1) := by
      rw [List.drop_eq_getElem_cons hlt]
      congr 1
      rw [List.getElem?_eq_getElem hlt] at hd
      exact Option.some.inj hd
    rw [hdrop] at hcl
    have hcl : ((stepOf C vs tg cond elt d env1).bind fun p => (compL (stepOf C vs tg cond elt) (ds.drop (i + 1)) p.2).bind fun q => R.ok (p.1.toList ++ q.1, q.2)) = .ok (rest, res.2) := hcl
    obtain ⟨yy, h1, hcl⟩ := R.bind_ok hcl
    obtain ⟨qq, h2, hcl⟩ := R.bind_ok hcl
    injection hcl with hcl
    injection hcl with e1 e2
    obtain ⟨hgo, hyl⟩ := (y F2 H2 env1 kp x2 i).1 d hd
    refine .inr ⟨hgo, fun H' => ∃ m', m' < ds.length - i ∧ m' = ds.length - (i + 1) ∧ i + 1 ≤ ds.length ∧ ∃ F2 env1 accV accD rest, compL (stepOf C vs tg cond elt) (ds.drop (i + 1)) env1 = .ok (rest, res.2) ∧ accD0 ++ res.1 = accD ++ rest ∧
      Ext Fb Hb σb envb F2 H' (wipe σ vs) (wipeE env1 vs) ∧ EnvLe (wipeE env0 vs) (wipeE env1 vs) ∧ Stt K F2 H' (wipe σ vs) (wipeE env1 vs) ∧ Keeps F1 H1 F2 H' ∧ ¬ F2 L ∧ ¬ OwnA (wipe σ vs) (wipeE env1 vs) L ∧
      H' L = some (.lst accV) ∧ Reps K F2 H' accV accD, fun H' ⟨m', hm, h⟩ => ⟨m', hm, h⟩, fun xx H3 hx => ?_⟩
    obtain ⟨sm, rp⟩ := hyl xx H3 hx
    have nx : ∀ F4 H4, Ext F2 H3 (wipe σ vs) (wipeE env1 vs) F4 H4 (wipe σ vs) (wipeE yy.2 vs) → Stt K F4 H4 (wipe σ vs) (wipeE yy.2 vs) → H4 L = some (.lst accV) ∧ ¬ F4 L ∧ ¬ OwnA (wipe σ vs) (wipeE yy.2 vs) L ∧ Reps K F4 H4 accV accD ∧ Keeps F1 H1 F4 H4 := fun F4 H4 x4 s4 => by
      have hD3 : H3 L = some (.lst accV) := sm L _ hH
      refine ⟨x4.keep L _ hD3 NoT.lst no, fun f => ?_, fun o => ?_, (hr.keep sm.keeps).keep ((s2.same sm).keeps x4), (kp.trans sm.keeps).trans ((s2.same sm).keeps x4)⟩
      · rcases x4.new L f with f | f | f
        · exact nf f
        · exact f ⟨_, hD3, NoT.lst⟩
        · exact no f
      · rcases x4.owns L o with f | f
        · exact no f
        · exact f ⟨_, hD3, NoT.lst⟩
    refine step_ok (Q' := fun w H5 => match w with
      | some yv => ∃ acc, H5 L = some (.lst acc) ∧ acc.length < sizeLine ∧ (∃ m', m' < ds.length - i ∧ m' = ds.length - (i + 1) ∧ i + 1 ≤ ds.length ∧ ∃ F2 env1 accV accD rest, compL (stepOf C vs tg cond elt) (ds.drop (i + 1)) env1 = .ok (rest, res.2) ∧ accD0 ++ res.1 = accD ++ rest ∧
      Ext Fb Hb σb envb F2 (upd H5 L (.lst (acc ++ [yv]))) (wipe σ vs) (wipeE env1 vs) ∧ EnvLe (wipeE env0 vs) (wipeE env1 vs) ∧ Stt K F2 (upd H5 L (.lst (acc ++ [yv]))) (wipe σ vs) (wipeE env1 vs) ∧ Keeps F1 H1 F2 (upd H5 L (.lst (acc ++ [yv]))) ∧ ¬ F2 L ∧ ¬ OwnA (wipe σ vs) (wipeE env1 vs) L ∧
      (upd H5 L (.lst (acc ++ [yv]))) L = some (.lst accV) ∧ Reps K F2 (upd H5 L (.lst (acc ++ [yv]))) accV accD)
      | none => ∃ m', m' < ds.length - i ∧ m' = ds.length - (i + 1) ∧ i + 1 ≤ ds.length ∧ ∃ F2 env1 accV accD rest, compL (stepOf C vs tg cond elt) (ds.drop (i + 1)) env1 = .ok (rest, res.2) ∧ accD0 ++ res.1 = accD ++ rest ∧
      Ext Fb Hb σb envb F2 H5 (wipe σ vs) (wipeE env1 vs) ∧ EnvLe (wipeE env0 vs) (wipeE env1 vs) ∧ Stt K F2 H5 (wipe σ vs) (wipeE env1 vs) ∧ Keeps F1 H1 F2 H5 ∧ ¬ F2 L ∧ ¬ OwnA (wipe σ vs) (wipeE env1 vs) L ∧
      H5 L = some (.lst accV) ∧ Reps K F2 H5 accV accD) fit hin (s2.same sm) rp h1 fun F4 H4 w x4 l4 s4 hw => ?_
    obtain ⟨hD4, nf4, no4, hr4, kp4'⟩ := nx F4 H4 x4 s4
    have xx4 : Ext Fb Hb σb envb F4 H4 (wipe σ vs) (wipeE yy.2 vs) := (x2.trans (ext_same sm)).trans x4
    obtain ⟨y1, y2⟩ := yy
    cases y1 with
    | none =>
      obtain rfl : w = none := hw
      exact ⟨_, by omega, rfl, hlt, F4, y2, accV, accD, qq.1, by rw [← e2]; exact h2, by rw [hres, ← e1]; rfl, xx4, l2.trans l4, s4, kp4', nf4, no4, hD4, hr4⟩
    | some d' =>
      obtain ⟨yv, rfl, ryv⟩ : ∃ v, w = some v ∧ Rep K F4 H4 v d' := hw
      have kp4 : Keeps F4 H4 F4 (upd H4 L (.lst (accV ++ [yv]))) := keeps_poke nf4 hD4 (fun _ z => nomatch z) (fun _ _ z => nomatch z)
      have lacc : accD.length < sizeLine := by
        have := congrArg List.length hres
        rw [List.length_append, List.length_append, ← e1] at this
        simp only [Option.toList, List.length_append, List.length_cons, List.length_nil] at this
        omega
      exact ⟨accV, hD4, by rw [hr.length]; exact lacc, _, by omega, rfl, hlt, F4, y2, accV ++ [yv], accD ++ [d'], qq.1, by rw [← e2]; exact h2, by rw [hres, ← e1, List.append_assoc]; rfl, xx4.poke hbL, l2.trans l4, s4.poke kp4 no4 (fun ps z => by rw [hD4] at z; cases z) (fun f z => by rw [hD4] at z; cases z), kp4'.trans kp4, nf4, no4, upd_same, (hr4.append (.cons ryv .nil)).keep kp4⟩
  · have hi' : i = ds.length := by omega
    subst hi'
    rw [List.drop_length] at hcl
    have hcl : R.ok (([] : List D), env1) = .ok (rest, res.2) := hcl
    injection hcl with hcl
    injection hcl with e1 e2
    subst e1
    rw [List.append_nil] at hres
    rw [← e2] at done
    exact .inl ⟨(y F2 H2 env1 kp x2 ds.length).2 (Nat.le_refl _), done F2 H2 accV x2 l2 s2 kp nf no hH (by rw [hres]; exact hr)⟩
/-- behind the loop -/
theorem comp_end {vs : List Nat} {env0 env1 : List Sl} (hno : ∀ v, v ∈ vs → ∀ c : D, env0[v]? ≠ some (.own c)) (x2 : Ext F1 H1 (wipe σ vs) (wipeE env0 vs) F2 H2 (wipe σ vs) (wipeE env1 vs)) (l2 : EnvLe (wipeE env0 vs) (wipeE env1 vs)) (s2 : Stt K F2 H2 (wipe σ vs) (wipeE env1 vs)) (sw : Stt K F1 H1 (wipe σ vs) (wipeE env0 vs)) :
    Ext F1 H1 σ env0 F2 H2 σ (restoreE env0 env1 vs) ∧ EnvLe env0 (restoreE env0 env1 vs) ∧ ∀ a, OwnA σ (restoreE env0 env1 vs) a → OwnA (wipe σ vs) (wipeE env1 vs) a := by
  have own3 : ∀ a, OwnA σ (restoreE env0 env1 vs) a → OwnA (wipe σ vs) (wipeE env1 vs) a := fun a ⟨j, c, h1, h2⟩ => by
    rw [restoreE_get] at h1
    split at h1
    · rename_i hj
      split at h1
      · have h : env0.getD j .no = .own c := Option.some.inj h1
        rw [List.getD_eq_getElem?_getD] at h
        cases q : env0[j]? with
        | none => rw [q] at h; cases h
        | some z => rw [q] at h; exact (hno j hj c (q.trans (congrArg some h))).elim
      · cases h1
    · rename_i hj
      exact ⟨j, c, by rw [wipeE_get, if_neg hj]; exact h1, by rw [wipe_get, if_neg hj]; exact h2⟩
  have ownb : ∀ a, OwnA (wipe σ vs) (wipeE env0 vs) a → OwnA σ env0 a := fun a ⟨j, c, h1, h2⟩ => by
    obtain ⟨m, h1⟩ := wipe_own h1
    rw [wipe_get, if_neg m] at h2
    exact ⟨j, c, h1, h2⟩
  refine ⟨⟨x2.sub, fun a o h t n => x2.keep a o h t fun z => n (ownb a z), x2.dom, fun a f => by
    rcases x2.new a f with f | f | f
    · exact .inl f
    · exact .inr (.inl f)
    · exact .inr (.inr (ownb a f)), fun a o => by
    rcases x2.owns a (own3 a o) with f | f
    · exact .inl (ownb a f)
    · exact .inr f⟩, ⟨fun j c h => by
    by_cases m : j ∈ vs
    · exact (hno j m c h).elim
    · obtain ⟨e, he⟩ := l2.own j c (by rw [wipeE_get, if_neg m]; exact h)
      rw [wipeE_get, if_neg m] at he
      exact ⟨e, by rw [restoreE_get, if_neg m]; exact he⟩, fun j c h => by
    by_cases m : j ∈ vs
    · refine ⟨c, ?_⟩
      have hj : j < env1.length := by
        have a1 := s2.len; have a2 := sw.len
        rw [wipeE_len, wipe_length] at a1 a2
        rw [a1, ← a2]
        rcases Nat.lt_or_ge j env0.length with z | z
        · exact z
        · rw [List.getElem?_eq_none z] at h; cases h
      rw [restoreE_get, if_pos m, if_pos hj, List.getD_eq_getElem?_getD, h]; rfl
    · obtain ⟨e, he⟩ := l2.val j c (by rw [wipeE_get, if_neg m]; exact h)
      rw [wipeE_get, if_neg m] at he
      exact ⟨e, by rw [restoreE_get, if_neg m]; exact he⟩⟩, own3⟩
/-- the outer clause's turn -/
def stepLL (C : Ctx) (vs : List Nat) (tg : G.TG) (vs1 : List Nat) (tg1 : G.TG) (it1 : CI) (cond : Option CE) (elt : CE) (d : D) (env1 : List Sl) : R (List D × List Sl) :=
  (R.of (assignT [] tg d (wipeE env1 vs))).bind fun env2 => (evalI C it1 env2).bind fun p1 => compL (stepOf C vs1 tg1 cond elt) p1.1 p1.2
theorem wipe_in {vs vs1 : List Nat} (h : ∀ i, i ∈ vs1 → i ∈ vs) (σ : St) : wipe (wipe σ vs1) vs = wipe σ vs := wipe_eq (wipe_length σ vs1) fun j m => by rw [wipe_get, if_neg fun z => m (h j z)]
theorem wipeE_in {vs vs1 : List Nat} (h : ∀ i, i ∈ vs1 → i ∈ vs) (env : List Sl) : wipeE (wipeE env vs1) vs = wipeE env vs := by
  apply List.ext_getElem?
  intro j
  rw [wipeE_get, wipeE_get, wipeE_get, wipeE_len]
  by_cases m : j ∈ vs
  · rw [if_pos m, if_pos m]
  · rw [if_neg m, if_neg m, if_neg fun z => m (h j z)]
theorem EnvLe.wipes {vs : List Nat} (h : EnvLe env env1) : EnvLe (wipeE env vs) (wipeE env1 vs) where
  own := fun i c q => by
    obtain ⟨m, q⟩ := wipe_own q
    obtain ⟨e, h1⟩ := h.own i c q
    exact ⟨e, by rw [wipeE_get, if_neg m]; exact h1⟩
  val := fun i c q => by
    obtain ⟨m, q⟩ := wipe_val q
    obtain ⟨e, h1⟩ := h.val i c q
    exact ⟨e, by rw [wipeE_get, if_neg m]; exact h1⟩
theorem comp2_core {vs vs1 : List Nat} {tg tg1 : G.TG} {cond : Option CE} {elt : CE} {ci ci1 : CI} (fit : tgFit tg (isEZ ci)) (fit1 : tgFit tg1 (isEZ ci1)) (q : ∃ F env, Stt K F H σ env ∧ (evalI C ci env).wp (fun p => (R.of (compOk p.2 vs tg p.1.length)).wp (fun _ => (R.of (compOk1 vs vs1 tg1)).wp (fun _ =>
      (R.calm (compLL (stepLL C vs tg vs1 tg1 ci1 cond elt) p.1 p.2)).wp (fun q => (R.of (fewer q.1)).wp (fun _ => PostE K F H σ env Q (.fresh (.lst q.1), restoreE p.2 q.2 vs)) (W F H σ env)) (W F H σ env)) (W F H σ env)) (W F H σ env)) (W F H σ env)) :
    tLc2 (tI K C W ci) (tgOf K tg) tYes (tI K C noW ci1) (tgOf K tg1) (condT K C cond) (tE K C noW elt) vs vs1 σ H Q := by
  obtain ⟨F, env, s, q⟩ := q
  refine ⟨F, env, s, R.wp_mono q (fun p hp F1 H1 J x l s1 y => ?_) fun _ h => h⟩
  intro L hD
  obtain ⟨ds, env0⟩ := p
  rw [R.wp_of] at hp
  obtain ⟨_, hok, hp⟩ := hp
  rw [R.wp_of] at hp
  obtain ⟨_, hok1, hp⟩ := hp
  have hok : (if (vs.all fun v => match env0[v]? with | some (.own _) => false | _ => true) && ((tgSlots tg).all fun i => vs.contains i) && decide (ds.length ≤ sizeLine) then some () else none) = some () := hok
  have hok1 : (if (vs1.all fun i => vs.contains i) && ((tgSlots tg1).all fun i => vs1.contains i) then some () else none) = some () := hok1
  split at hok1
  rotate_left
  · cases hok1
  rename_i hz1
  rw [Bool.and_eq_true] at hz1
  have hv1 : ∀ i, i ∈ vs1 → i ∈ vs := fun j m => by
    have := List.all_eq_true.mp hz1.1 j m
    simpa using this
  have hin1 : ∀ i, i ∈ tgSlots tg1 → i ∈ vs1 := fun j m => by
    have := List.all_eq_true.mp hz1.2 j m
    simpa using this
  split at hok
  rotate_left
  · cases hok
  rename_i hz
  rw [Bool.and_eq_true, Bool.and_eq_true, decide_eq_true_eq] at hz
  obtain ⟨⟨hno, hin⟩, hsz⟩ := hz
  have hin : ∀ j, j ∈ tgSlots tg → j ∈ vs := fun j m => by
    have := List.all_eq_true.mp hin j m
    simpa using this
  have hno : ∀ v, v ∈ vs → ∀ c : D, env0[v]? ≠ some (.own c) := fun v m c e => by
    have := List.all_eq_true.mp hno v m
    rw [e] at this
    cases this
  cases hc : compLL (stepLL C vs tg vs1 tg1 ci1 cond elt) ds env0 with
  | stuck => rw [hc] at hp; exact hp.elim
  | exc e => rw [hc] at hp; exact hp.elim
  | ok res =>
    rw [hc] at hp
    have hp : (R.of (fewer res.1)).wp (fun _ => PostE K F H σ env Q (.fresh (.lst res.1), restoreE env0 res.2 vs)) (W F H σ env) := hp
    rw [R.wp_of] at hp
    obtain ⟨_, hfew, hp⟩ := hp
    have hfew : res.1.length ≤ sizeLine := by
      have h : (if res.1.length ≤ sizeLine then some () else none) = some () := hfew
      split at h
      · assumption
      · cases h
    obtain ⟨sw, xw⟩ := s1.wipe vs
    refine ⟨fun i m H2 => m = ds.length - i ∧ i ≤ ds.length ∧ ∃ F2 env1 accV accD rest, compLL (stepLL C vs tg vs1 tg1 ci1 cond elt) (ds.drop i) env1 = .ok (rest, res.2) ∧ res.1 = accD ++ rest ∧
      Ext F1 H1 (wipe σ vs) (wipeE env0 vs) F2 H2 (wipe σ vs) (wipeE env1 vs) ∧ EnvLe (wipeE env0 vs) (wipeE env1 vs) ∧ Stt K F2 H2 (wipe σ vs) (wipeE env1 vs) ∧ ¬ F2 L ∧ ¬ OwnA (wipe σ vs) (wipeE env1 vs) L ∧
      H2 L = some (.lst accV) ∧ Reps K F2 H2 accV accD, ⟨ds.length, by simp, Nat.zero_le _, F1, env0, [], [], res.1, ?_, rfl, ext_same (same_upd hD), EnvLe.refl, sw.same (same_upd hD), s1.notAt hD, sw.notOwnNone (Nw.of hD), upd_same, .nil⟩, ?_⟩
    · rw [List.drop_zero]; exact hc
    rintro i m H2 ⟨rfl, hi, F2, env1, accV, accD, rest, hcl, hres, x2, l2, s2, nf, no, hH, hr⟩
    have kp : Keeps F1 H1 F2 H2 := sw.keeps x2
    by_cases hlt : i < ds.length
    · obtain ⟨d, hd⟩ : ∃ d, ds[i]? = some d := ⟨ds[i], by simp [hlt]⟩
      have hdrop : ds.drop i = d :: ds.drop (i + 1) := by
        rw [List.drop_eq_getElem_cons hlt]
        congr 1
        rw [List.getElem?_eq_getElem hlt] at hd
        exact Option.some.inj hd
      rw [hdrop] at hcl
      have hcl : ((stepLL C vs tg vs1 tg1 ci1 cond elt d env1).bind fun p => (compLL (stepLL C vs tg vs1 tg1 ci1 cond elt) (ds.drop (i + 1)) p.2).bind fun q => R.ok (p.1 ++ q.1, q.2)) = .ok (rest, res.2) := hcl
      obtain ⟨yy, h1, hcl⟩ := R.bind_ok hcl
      obtain ⟨qq, h2, hcl⟩ := R.bind_ok hcl
      injection hcl with hcl
      injection hcl with e1 e2
      have h1 : ((R.of (assignT [] tg d (wipeE env1 vs))).bind fun env2 => (evalI C ci1 env2).bind fun p1 => compL (stepOf C vs1 tg1 cond elt) p1.1 p1.2) = .ok yy := h1
      obtain ⟨env2, g1, h1⟩ := R.bind_ok h1
      obtain ⟨p1, g2, g3⟩ := R.bind_ok h1
      obtain ⟨hgo, hyl⟩ := (y F2 H2 kp i).1 d hd
      refine .inr ⟨hgo, fun H' => ∃ m', m' < ds.length - i ∧ m' = ds.length - (i + 1) ∧ i + 1 ≤ ds.length ∧ ∃ F2 env1 accV accD rest, compLL (stepLL C vs tg vs1 tg1 ci1 cond elt) (ds.drop (i + 1)) env1 = .ok (rest, res.2) ∧ res.1 = accD ++ rest ∧
        Ext F1 H1 (wipe σ vs) (wipeE env0 vs) F2 H' (wipe σ vs) (wipeE env1 vs) ∧ EnvLe (wipeE env0 vs) (wipeE env1 vs) ∧ Stt K F2 H' (wipe σ vs) (wipeE env1 vs) ∧ ¬ F2 L ∧ ¬ OwnA (wipe σ vs) (wipeE env1 vs) L ∧
        H' L = some (.lst accV) ∧ Reps K F2 H' accV accD, fun H' ⟨m', hm, h⟩ => ⟨m', hm, h⟩, fun xx H3 hx => ?_⟩
      obtain ⟨sm, rp⟩ := hyl xx H3 hx
      have s3 := s2.same sm
      refine r_tg fit s3 (R.of_ok g1) rp fun σ2 e => ?_
      have hσ : wipe σ2 vs = wipe σ vs := (wipe_eq e.len fun j m => e.out j fun z => m (hin j z)).trans wipe_wipe
      refine ⟨hσ, ?_⟩
      unfold tYes
      dsimp only
      rw [if_pos rfl]
      refine ⟨F2, env2, e.st, ?_⟩
      rw [g2]
      intro F3 H4 J1 x4 l4 s4 y1
      -- the state behind the second source
      have x34 : Ext F1 H1 (wipe σ vs) (wipeE env0 vs) F3 H4 σ2 p1.2 := ((x2.trans (ext_same sm)).trans e.ext).trans x4
      have xk : Ext F2 H3 (wipe σ vs) (wipeE env1 vs) F3 H4 σ2 p1.2 := e.ext.trans x4
      have hD3 : H3 L = some (.lst accV) := sm L _ hH
      have hD4 : H4 L = some (.lst accV) := xk.keep L _ hD3 NoT.lst no
      have nf4 : ¬ F3 L := fun f => by
        rcases xk.new L f with f | f | f
        · exact nf f
        · exact f ⟨_, hD3, NoT.lst⟩
        · exact no f
      have no4 : ¬ OwnA σ2 p1.2 L := fun o => by
        rcases xk.owns L o with f | f
        · exact no f
        · exact f ⟨_, hD3, NoT.lst⟩
      have hr4 : Reps K F3 H4 accV accD := (hr.keep sm.keeps).keep (s3.keeps xk)
      obtain ⟨sw1, xw1⟩ := s4.wipe vs1
      have no5 : ¬ OwnA (wipe σ2 vs1) (wipeE p1.2 vs1) L := fun ⟨j, c, o1, o2⟩ => by
        obtain ⟨m, o1⟩ := wipe_own o1
        rw [wipe_get, if_neg m] at o2
        exact no4 ⟨j, c, o1, o2⟩
      have lacc : accD.length + yy.1.length ≤ sizeLine := by
        have := congrArg List.length hres
        rw [List.length_append, ← e1, List.length_append] at this
        omega
      refine comp_loop fit1 hin1 g3 (fun F2 H2 _ kp _ => y1 F2 H2 kp) (x34.trans xw1) sw1 hD hD4 nf4 no5 hr4 lacc fun F5 H5 accV5 x5 l5 s5 k5 nf5 no6 hH5 hr5 => ?_
      -- back in the outer loop
      obtain ⟨s6, x6⟩ := s5.wipe vs
      rw [wipe_in hv1, wipeE_in hv1, hσ] at s6 x6
      have l6 : EnvLe (wipeE env0 vs) (wipeE yy.2 vs) := by
        have a1 : EnvLe (wipeE env1 vs) (wipeE p1.2 vs) := (e.le.trans l4).wipeR
        have a2 := l5.wipes (vs := vs)
        rw [wipeE_in hv1, wipeE_in hv1] at a2
        exact (l2.trans a1).trans a2
      have no7 : ¬ OwnA (wipe σ vs) (wipeE yy.2 vs) L := fun o => by
        rcases x6.owns L o with f | f
        · exact no6 f
        · exact f ⟨_, hH5, NoT.lst⟩
      exact ⟨_, by omega, rfl, hlt, F5, yy.2, accV5, accD ++ yy.1, qq.1, by rw [← e2]; exact h2, by rw [hres, ← e1, List.append_assoc], x5.trans x6, l6, s6, nf5, no7, hH5, hr5⟩
    · have hi' : i = ds.length := by omega
      subst hi'
      rw [List.drop_length] at hcl
      have hcl : R.ok (([] : List D), env1) = .ok (rest, res.2) := hcl
      injection hcl with hcl
      injection hcl with e1 e2
      subst e1
      rw [List.append_nil] at hres
      refine .inl ⟨(y F2 H2 kp ds.length).2 (Nat.le_refl _), ?_⟩
      have s3 : Stt K F2 H2 σ (restoreE env0 env1 vs) := s1.restore hno kp s2
      obtain ⟨x3, l3, own3⟩ := comp_end hno x2 l2 s2 sw
      rw [← e2, hres] at hp
      exact hp F2 H2 (.ref L) (x.trans x3) (l.trans l3) s3 ⟨L, rfl, nf, .lst hH hr, fun o => no (own3 L o), x.noneOf (Nw.of hD)⟩
theorem r_comp2 {vs vs1 : List Nat} {tg tg1 : G.TG} {elt : CE} {ci ci1 : CI} (fit : tgFit tg (isEZ ci)) (fit1 : tgFit tg1 (isEZ ci1)) (q : tE K C W (.comp2 vs tg ci vs1 tg1 ci1 elt) σ H Q) : tLc2 (tI K C W ci) (tgOf K tg) tYes (tI K C noW ci1) (tgOf K tg1) tYes (tE K C noW elt) vs vs1 σ H Q := by
  obtain ⟨F, env, s, q⟩ := q
  simp only [evalE, R.wp_bind, fin_false] at q
  exact comp2_core (cond := none) fit fit1 ⟨F, env, s, q⟩
theorem r_comp2If {vs vs1 : List Nat} {tg tg1 : G.TG} {c elt : CE} {ci ci1 : CI} (fit : tgFit tg (isEZ ci)) (fit1 : tgFit tg1 (isEZ ci1)) (q : tE K C W (.comp2If vs tg ci vs1 tg1 ci1 c elt) σ H Q) : tLc2 (tI K C W ci) (tgOf K tg) tYes (tI K C noW ci1) (tgOf K tg1) (tT K C noW c) (tE K C noW elt) vs vs1 σ H Q := by
  obtain ⟨F, env, s, q⟩ := q
  simp only [evalE, R.wp_bind, fin_false] at q
  exact comp2_core (cond := some c) fit fit1 ⟨F, env, s, q⟩
/-- a comprehension over a list that its variable keeps -/
theorem compO_core {vs : List Nat} {tg : G.TG} {cond : Option CE} {elt : CE} {i : Nat} {ds : List D} (hi : env[i]? = some (.own (.lst ds))) (s : Stt K F H σ env) (q : (R.of (compOk (env.set i .no) vs tg ds.length)).wp (fun _ => (R.of (notIn1 i vs)).wp (fun _ =>
      (R.calm (compL (stepOf C vs tg cond elt) ds (env.set i .no))).wp (fun q => PostE K F H σ env Q (.fresh (.lst q.1), restoreE env q.2 (i :: vs))) (W F H σ env)) (W F H σ env)) (W F H σ env)) :
    tLc (iList K (tVar i)) (tgOf K tg) (condT K C cond) (tE K C noW elt) vs σ H Q := by
  obtain ⟨a, hσ, nfa, oc⟩ := s.own i _ hi
  have haV : ∃ vs', H a = some (.lst vs') ∧ Reps K F H vs' ds := by
    cases oc with
    | lst h r => exact ⟨_, h, r⟩
  obtain ⟨lv, haH, har⟩ := haV
  refine ⟨.ref a, hσ, a, rfl, ⟨lv, .inl (.inl haH)⟩, ?_⟩
  intro L hD
  rw [R.wp_of] at q
  obtain ⟨_, hok, q⟩ := q
  rw [R.wp_of] at q
  obtain ⟨_, hni, q⟩ := q
  have hni : i ∉ vs := by
    unfold notIn1 at hni
    split at hni
    · cases hni
    · rename_i z
      simpa using z
  have hok : (if (vs.all fun v => match (env.set i .no)[v]? with | some (.own _) => false | _ => true) && ((tgSlots tg).all fun i => vs.contains i) && decide (ds.length ≤ sizeLine) then some () else none) = some () := hok
  split at hok
  rotate_left
  · cases hok
  rename_i hz
  rw [Bool.and_eq_true, Bool.and_eq_true, decide_eq_true_eq] at hz
  obtain ⟨⟨hno, hin⟩, hsz⟩ := hz
  have hin : ∀ j, j ∈ tgSlots tg → j ∈ vs := fun j m => by
    have := List.all_eq_true.mp hin j m
    simpa using this
  have hno : ∀ v, v ∈ vs → ∀ c : D, env[v]? ≠ some (.own c) := fun v m c e => by
    have := List.all_eq_true.mp hno v m
    rw [List.getElem?_set_ne (fun z => hni (by rw [z]; exact m)), e] at this
    cases this
  cases hc : compL (stepOf C vs tg cond elt) ds (env.set i .no) with
  | stuck => rw [hc] at q; exact q.elim
  | exc e => rw [hc] at q; exact q.elim
  | ok res =>
    rw [hc] at q
    have hp : PostE K F H σ env Q (.fresh (.lst res.1), restoreE env res.2 (i :: vs)) := q
    -- the slot is hidden
    have hi' : i < env.length := by
      rcases Nat.lt_or_ge i env.length with z | z
      · exact z
      · rw [List.getElem?_eq_none z] at hi; cases hi
    have ownH : ∀ (j : Nat) (c : D), (env.set i .no)[j]? = some (.own c) → i ≠ j ∧ env[j]? = some (.own c) := fun j c h => by
      by_cases z : i = j
      · subst z
        rw [List.getElem?_set_self hi'] at h; cases h
      · rw [List.getElem?_set_ne z] at h; exact ⟨z, h⟩
    have valH : ∀ (j : Nat) (c : D), (env.set i .no)[j]? = some (.val c) → i ≠ j ∧ env[j]? = some (.val c) := fun j c h => by
      by_cases z : i = j
      · subst z
        rw [List.getElem?_set_self hi'] at h; cases h
      · rw [List.getElem?_set_ne z] at h; exact ⟨z, h⟩
    have s1 : Stt K F H σ (env.set i .no) := ⟨by rw [List.length_set]; exact s.len, s.trk, fun j c h => s.val j c (valH j c h).2, fun j c h => s.own j c (ownH j c h).2, fun j k c1 c2 b q1 q2 q3 q4 => s.inj j k c1 c2 b (ownH j c1 q1).2 (ownH k c2 q2).2 q3 q4⟩
    obtain ⟨sw, xw⟩ := s1.wipe vs
    have noA : ¬ OwnA (wipe σ vs) (wipeE (env.set i .no) vs) a := fun ⟨j, c, o1, o2⟩ => by
      obtain ⟨m, o1⟩ := wipe_own o1
      rw [wipe_get, if_neg m] at o2
      obtain ⟨z, o1⟩ := ownH j c o1
      exact z (s.inj i j _ _ a hi o1 hσ o2)
    have aL : a ≠ L := fun z => by rw [z, hD] at haH; cases haH
    have lacc : ([] : List D).length + res.1.length ≤ sizeLine := by
      have le : ∀ {l : List D} {e : List Sl} {r : List D × List Sl}, compL (stepOf C vs tg cond elt) l e = .ok r → r.1.length ≤ l.length := by
        intro l
        induction l with
        | nil => intro e r h; cases h; exact Nat.le_refl _
        | cons d l ih =>
          intro e r h
          have h : ((stepOf C vs tg cond elt d e).bind fun p => (compL (stepOf C vs tg cond elt) l p.2).bind fun q => R.ok (p.1.toList ++ q.1, q.2)) = .ok r := h
          obtain ⟨yy, _, h⟩ := R.bind_ok h
          obtain ⟨qq, h2, h⟩ := R.bind_ok h
          cases h
          have := ih h2
          rw [List.length_append, List.length_cons]
          cases yy.1 <;> simp [Option.toList] <;> omega
      have := le hc
      simp only [List.length_nil]
      omega
    obtain ⟨W1, w0, turn⟩ := comp_loop (K := K) (C := C) (Fb := F) (Hb := H) (σb := wipe σ vs) (envb := wipeE (env.set i .no) vs) (wk := false) (J := Itl K a) (L := L) (accV0 := []) (accD0 := []) (F1 := F) (H1 := upd H L (.lst [])) (Done := fun H' => Q (.ref L) H') (fun z => nomatch z) hin hc
      (fun F2 H2 env2 kp x2 j => by
        have e2 : H2 a = some (.lst lv) := x2.keep a _ haH NoT.lst noA
        have kp0 : Keeps F H F2 H2 := (Same.keeps (same_upd hD)).trans kp
        refine ⟨fun d e => ?_, fun e => ⟨lv, .inl (.inl e2), by rw [har.length]; exact e⟩⟩
        obtain ⟨w, h1, h2⟩ := har.get e
        refine ⟨⟨lv, w, .inl (.inl e2), h1⟩, fun x H3 ⟨e3, y⟩ => ?_⟩
        subst e3
        have := y lv (.inl (.inl e2))
        rw [h1] at this
        cases this
        exact ⟨same_refl, .inl (h2.keep kp0)⟩)
      (ext_same (same_upd hD)) (sw.same (same_upd hD)) hD upd_same (s.notAt hD) (sw.notOwnNone (Nw.of hD)) .nil lacc
      (fun F2 H2 accV x2 l2 s2 kp nf no hH hr => by
        have kp0 : Keeps F H F2 H2 := (Same.keeps (same_upd hD)).trans kp
        have e2 : H2 a = some (.lst lv) := x2.keep a _ haH NoT.lst noA
        have nf2 : ¬ F2 a := fun f => by
          rcases x2.new a f with f | f | f
          · exact nfa f
          · exact f ⟨_, haH, NoT.lst⟩
          · exact noA f
        have s3' : Stt K F2 H2 σ (restoreE (env.set i .no) res.2 vs) := s1.restore (fun v m c e => hno v m c (ownH v c e).2) kp0 s2
        obtain ⟨x3', l3', own3'⟩ := comp_end (fun v m c e => hno v m c (ownH v c e).2) x2 l2 s2 sw
        -- the slot is shown again
        have er : restoreE env res.2 (i :: vs) = (restoreE (env.set i .no) res.2 vs).set i (.own (.lst ds)) := by
          show (restoreE env res.2 vs).set i (env.getD i .no) = _
          rw [List.getD_eq_getElem?_getD, hi]
          have : restoreE env res.2 vs = restoreE (env.set i .no) res.2 vs := by
            apply List.ext_getElem?
            intro j
            rw [restoreE_get, restoreE_get]
            by_cases m : j ∈ vs
            · rw [if_pos m, if_pos m, List.getD_eq_getElem?_getD, List.getD_eq_getElem?_getD, List.getElem?_set_ne (fun z => hni (by rw [z]; exact m))]
            · rw [if_neg m, if_neg m]
          rw [this]; rfl
        have len2 : (restoreE (env.set i .no) res.2 vs).length = σ.length := s3'.len.symm ▸ rfl
        have hi2 : i < (restoreE (env.set i .no) res.2 vs).length := by rw [s3'.len, ← s.len]; exact hi'
        have oc2 : OwnC K F2 H2 a (.lst ds) := .lst e2 (har.keep kp0)
        have gs : ∀ (j : Nat) (y : Sl), ((restoreE (env.set i .no) res.2 vs).set i (.own (.lst ds)))[j]? = some y → (i = j ∧ y = .own (.lst ds)) ∨ (i ≠ j ∧ (restoreE (env.set i .no) res.2 vs)[j]? = some y) := fun j y h => by
          by_cases z : i = j
          · subst z
            rw [List.getElem?_set_self hi2] at h
            exact .inl ⟨rfl, (Option.some.inj h).symm⟩
          · rw [List.getElem?_set_ne z] at h; exact .inr ⟨z, h⟩
        have n3 : ∀ b, OwnA σ (restoreE (env.set i .no) res.2 vs) b → b ≠ a := fun b o z => by
          subst z
          have o2 := own3' b o
          rcases x2.owns b o2 with f | f
          · exact noA f
          · exact f ⟨_, haH, NoT.lst⟩
        have s4 : Stt K F2 H2 σ (restoreE env res.2 (i :: vs)) := by
          rw [er]
          refine ⟨by rw [List.length_set]; exact s3'.len, s3'.trk, fun j c h => ?_, fun j c h => ?_, fun j k c1 c2 b q1 q2 q3 q4 => ?_⟩
          · rcases gs j _ h with ⟨_, z⟩ | ⟨_, h⟩
            · cases z
            · exact s3'.val j c h
          · rcases gs j _ h with ⟨z, z2⟩ | ⟨_, h⟩
            · subst z; cases z2
              exact ⟨a, hσ, nf2, oc2⟩
            · exact s3'.own j c h
          · rcases gs j _ q1 with ⟨z1, _⟩ | ⟨z1, q1⟩
            · rcases gs k _ q2 with ⟨z2, _⟩ | ⟨z2, q2⟩
              · exact z1.symm.trans z2
              · subst z1
                rw [hσ] at q3; cases q3
                exact (n3 a ⟨k, c2, q2, q4⟩ rfl).elim
            · rcases gs k _ q2 with ⟨z2, _⟩ | ⟨z2, q2⟩
              · subst z2
                rw [hσ] at q4; cases q4
                exact (n3 a ⟨j, c1, q1, q3⟩ rfl).elim
              · exact s3'.inj j k c1 c2 b q1 q2 q3 q4
        have hown : OwnA σ env a := ⟨i, _, hi, hσ⟩
        have up : ∀ b, OwnA σ (env.set i .no) b → OwnA σ env b := fun b ⟨j, c, o1, o2⟩ => ⟨j, c, (ownH j c o1).2, o2⟩
        have x4 : Ext F H σ env F2 H2 σ (restoreE env res.2 (i :: vs)) := by
          rw [er]
          refine ⟨x3'.sub, fun b o h t n => x3'.keep b o h t fun z => n (up b z), x3'.dom, fun b f => ?_, fun b o => ?_⟩
          · rcases x3'.new b f with f | f | f
            · exact .inl f
            · exact .inr (.inl f)
            · exact .inr (.inr (up b f))
          · obtain ⟨j, c, o1, o2⟩ := o
            rcases gs j _ o1 with ⟨z, _⟩ | ⟨z, o1⟩
            · subst z
              rw [hσ] at o2; cases o2
              exact .inl hown
            · rcases x3'.owns b ⟨j, c, o1, o2⟩ with f | f
              · exact .inl (up b f)
              · exact .inr f
        have l4 : EnvLe env (restoreE env res.2 (i :: vs)) := by
          rw [er]
          refine ⟨fun j c h => ?_, fun j c h => ?_⟩
          · by_cases z : i = j
            · subst z; exact ⟨_, .inl (List.getElem?_set_self hi2)⟩
            · obtain ⟨e, he⟩ := l3'.own j c (by rw [List.getElem?_set_ne z]; exact h)
              exact ⟨e, by rw [List.getElem?_set_ne z]; exact he⟩
          · by_cases z : i = j
            · subst z; rw [hi] at h; cases h
            · obtain ⟨e, he⟩ := l3'.val j c (by rw [List.getElem?_set_ne z]; exact h)
              exact ⟨e, by rw [List.getElem?_set_ne z]; exact he⟩
        refine hp F2 H2 (.ref L) x4 l4 s4 ⟨L, rfl, nf, .lst hH hr, fun o => ?_, Nw.of hD⟩
        obtain ⟨j, c, o1, o2⟩ := o
        rw [er] at o1
        rcases gs j _ o1 with ⟨z, _⟩ | ⟨z, o1⟩
        · subst z
          rw [hσ] at o2; cases o2
          exact aL rfl
        · exact no (own3' L ⟨j, c, o1, o2⟩))
    exact ⟨W1, w0, turn⟩
theorem r_compO {vs : List Nat} {tg : G.TG} {elt : CE} {i : Nat} (q : tE K C W (.compO vs tg i elt) σ H Q) : tLc (iList K (tVar i)) (tgOf K tg) tYes (tE K C noW elt) vs σ H Q := by
  obtain ⟨F, env, s, q⟩ := q
  simp only [evalE] at q
  split at q
  · rename_i ds hi
    simp only [R.wp_bind, fin_false] at q
    exact compO_core (cond := none) hi s q
  · exact q.elim
theorem r_compOIf {vs : List Nat} {tg : G.TG} {c elt : CE} {i : Nat} (q : tE K C W (.compOIf vs tg i c elt) σ H Q) : tLc (iList K (tVar i)) (tgOf K tg) (tT K C noW c) (tE K C noW elt) vs σ H Q := by
  obtain ⟨F, env, s, q⟩ := q
  simp only [evalE] at q
  split at q
  · rename_i ds hi
    simp only [R.wp_bind, fin_false] at q
    exact compO_core (cond := some c) hi s q
  · exact q.elim
end
end G

set_option Elab.async false
set_option linter.all false
set_option maxRecDepth 100000
/-! G, part 7: statements. -/
namespace G
open PySem L2
variable [TB : Tbs]
section
variable {K : PySem.W.Frag} {C : Ctx} {W : WT} {F F' F1 F2 F_0 : Addr → Prop} {H H' H1 H2 H_0 : Hp} {σ σ' σ1 σ2 σ_0 : St} {env env' env1 env2 env0 : List Sl} {v x : V} {d : D} {a p : Addr} {lent : List Bool}
def RetV (K : PySem.W.Frag) (H : Hp) (σ : St) (env : List Sl) (F' : Addr → Prop) (H' : Hp) (σ' : St) (lent : List Bool) (v : V) (o : Bool) (d : D) : Prop :=
  if o = true then ∃ a, v = .ref a ∧ ¬ F' a ∧ OwnC K F' H' a d ∧ (Nw H a ∨ (OwnA σ env a ∧ ∀ j, lent.getD j false = true → σ'[j]? ≠ some (some (.ref a)))) else Rep K F' H' v d
def PostS (K : PySem.W.Frag) (lent : List Bool) (F : Addr → Prop) (H : Hp) (σ : St) (env : List Sl) (D : Ends) (p : Fl × List Sl) : Prop := match p.1 with
  | .next => ∀ F' H' σ', Ext F H σ env F' H' σ' p.2 → Fixd lent σ σ' → Stt K F' H' σ' p.2 → D.nx σ' H'
  | .brk => ∀ F' H' σ', Ext F H σ env F' H' σ' p.2 → Fixd lent σ σ' → Stt K F' H' σ' p.2 → D.bk σ' H'
  | .cont => ∀ F' H' σ', Ext F H σ env F' H' σ' p.2 → Fixd lent σ σ' → Stt K F' H' σ' p.2 → D.ct σ' H'
  | .ret o d => ∀ F' H' σ' v, Ext F H σ env F' H' σ' p.2 → Fixd lent σ σ' → Stt K F' H' σ' p.2 → RetV K H σ env F' H' σ' lent v o d → D.rt v H'
def tS (K : PySem.W.Frag) (C : Ctx) (W : WT) (lent : List Bool) (c : CS) : TS := fun D σ H => ∃ F env, Stt K F H σ env ∧ (execS C lent c env).wp (PostS K lent F H σ env D) (W F H σ env)
def tSs (K : PySem.W.Frag) (C : Ctx) (W : WT) (lent : List Bool) (c : CSs) : TS := fun D σ H => ∃ F env, Stt K F H σ env ∧ (execSs C lent c env).wp (PostS K lent F H σ env D) (W F H σ env)
theorem fixd_refl : Fixd lent σ σ := fun _ _ => rfl
theorem RetV.step {o : Bool} (k : Ext F H σ env F1 H1 σ1 env1) (h : RetV K H1 σ1 env1 F' H' σ' lent v o d) : RetV K H σ env F' H' σ' lent v o d := by
  unfold RetV at h ⊢
  cases o with
  | false => exact h
  | true =>
    rw [if_pos rfl] at h ⊢
    obtain ⟨a, h1, h2, h3, h4⟩ := h
    refine ⟨a, h1, h2, h3, ?_⟩
    rcases h4 with h4 | ⟨h4, h5⟩
    · exact .inl (k.noneOf h4)
    · rcases k.owns a h4 with h4 | h4
      · exact .inr ⟨h4, h5⟩
      · exact .inl h4
theorem PostS.step {D : Ends} {p : Fl × List Sl} (h : PostS K lent F H σ env D p) (k : Ext F H σ env F1 H1 σ1 env1) (f : Fixd lent σ σ1) : PostS K lent F1 H1 σ1 env1 D p := by
  obtain ⟨fl, e⟩ := p
  cases fl with
  | next => exact fun F' H' σ' x g s => h F' H' σ' (k.trans x) (f.trans g) s
  | brk => exact fun F' H' σ' x g s => h F' H' σ' (k.trans x) (f.trans g) s
  | cont => exact fun F' H' σ' x g s => h F' H' σ' (k.trans x) (f.trans g) s
  | ret o d => exact fun F' H' σ' v x g s r => h F' H' σ' v (k.trans x) (f.trans g) s (r.step k)
theorem q_pass {D : Ends} (q : tS K C W lent .pass D σ H) : tNext D σ H := by
  obtain ⟨F, env, s, q⟩ := q
  exact q F H σ Ext.refl fixd_refl s
theorem q_brk {D : Ends} (q : tS K C W lent .brk D σ H) : tBreak D σ H := by
  obtain ⟨F, env, s, q⟩ := q
  exact q F H σ Ext.refl fixd_refl s
theorem q_cont {D : Ends} (q : tS K C W lent .cont D σ H) : tCont D σ H := by
  obtain ⟨F, env, s, q⟩ := q
  exact q F H σ Ext.refl fixd_refl s
theorem q_nil {D : Ends} (q : tSs K C W lent .nil D σ H) : tNext D σ H := by
  obtain ⟨F, env, s, q⟩ := q
  exact q F H σ Ext.refl fixd_refl s
theorem q_cons (hW : Wok W) {c : CS} {l : CSs} {D : Ends} (q : tSs K C W lent (.cons c l) D σ H) : tSeq (tS K C W lent c) (tSs K C W lent l) D σ H := by
  obtain ⟨F, env, s, q⟩ := q
  simp only [execSs, R.wp_bind] at q
  refine ⟨F, env, s, R.wp_mono q (fun p hp => ?_) fun _ h => h⟩
  obtain ⟨fl, e⟩ := p
  cases fl with
  | next => exact fun F' H' σ' x f s' => ⟨F', e, s', R.wp_mono hp (fun p hp => hp.step x f) fun _ h => hW.mono h x⟩
  | brk => exact hp
  | cont => exact hp
  | ret o d => exact hp
/-- an owned object comes to a name -/
theorem Stt.putOwn (s : Stt K F H σ env) {i : Nat} (hi : i < env.length) (nf : ¬ F a) (oc : OwnC K F H a d) (no : ¬ OwnA σ env a) : Stt K F H (σ.set i (some (.ref a))) (env.set i (.own d)) := by
  have hσ : i < σ.length := by rw [← s.len]; exact hi
  refine ⟨by rw [List.length_set, List.length_set]; exact s.len, s.trk, fun j c h => ?_, fun j c h => ?_, fun j k c1 c2 b q1 q2 q3 q4 => ?_⟩
  · rcases set_get h with ⟨z, y⟩ | ⟨z, y⟩
    · cases y
    · obtain ⟨w, h1, h2⟩ := s.val j c y
      exact ⟨w, by rw [set_getS, if_neg z]; exact h1, h2⟩
  · rcases set_get h with ⟨z, y⟩ | ⟨z, y⟩
    · subst z; cases y
      exact ⟨a, by rw [set_getS, if_pos rfl, if_pos hσ], nf, oc⟩
    · obtain ⟨b, h1, h2⟩ := s.own j c y
      exact ⟨b, by rw [set_getS, if_neg z]; exact h1, h2⟩
  · rcases set_get q1 with ⟨z1, y1⟩ | ⟨z1, y1⟩
    · rcases set_get q2 with ⟨z2, y2⟩ | ⟨z2, y2⟩
      · exact z1.symm.trans z2
      · subst z1
        rw [set_getS, if_pos rfl, if_pos hσ] at q3
        cases q3
        rw [set_getS, if_neg z2] at q4
        exact (no ⟨k, c2, y2, q4⟩).elim
    · rw [set_getS, if_neg z1] at q3
      rcases set_get q2 with ⟨z2, y2⟩ | ⟨z2, y2⟩
      · subst z2
        rw [set_getS, if_pos rfl, if_pos hσ] at q4
        cases q4
        exact (no ⟨j, c1, y1, q3⟩).elim
      · rw [set_getS, if_neg z2] at q4
        exact s.inj j k c1 c2 b y1 y2 q3 q4
theorem Ext.putOwn (x : Ext F H σ env F1 H1 σ1 env1) {i : Nat} (z : Nw H a) : Ext F H σ env F1 H1 (σ1.set i (some (.ref a))) (env1.set i (.own d)) where
  sub := x.sub
  keep := x.keep
  dom := x.dom
  new := x.new
  owns := fun b ⟨j, c, h1, h2⟩ => by
    rcases set_get h1 with ⟨w, y⟩ | ⟨w, y⟩
    · subst w
      rw [set_getS, if_pos rfl] at h2
      split at h2
      · cases h2; exact .inr z
      · cases h2
    · rw [set_getS, if_neg w] at h2
      exact x.owns b ⟨j, c, y, h2⟩
theorem store_cond {i : Nat} {y : Sl} (h : store lent i y env = some env2) : i < env.length ∧ lent.getD i false = false ∧ env2 = env.set i y := by
  unfold store at h
  split at h
  · rename_i hz
    cases h
    exact ⟨hz.1, hz.2, rfl⟩
  · cases h
theorem fixd_set {i : Nat} {y : Option V} (h : lent.getD i false = false) : Fixd lent σ (σ.set i y) := fun j e => by
  rw [set_getS, if_neg (fun z => by subst z; rw [h] at e; cases e)]
theorem q_asg {i : Nat} {c : CE} {D : Ends} (q : tS K C W lent (.asg i c) D σ H) : tAsg (tE K C W c) (gName i) D σ H := by
  obtain ⟨F, env, s, q⟩ := q
  simp only [execS, R.wp_bind] at q
  refine ⟨F, env, s, R.wp_mono q (fun p hp F1 H1 v x l s1 r1 => ?_) fun _ h => h⟩
  obtain ⟨r, env1⟩ := p
  show D.nx (σ.set i (some v)) H1
  have gen : ((R.of (r.freeze env1)).bind fun q => (R.of (store lent i (.val q.1) q.2)).bind fun env1 => R.ok (Fl.next, env1)).wp (PostS K lent F H σ env D) (W F H σ env) → D.nx (σ.set i (some v)) H1 := fun hp => by
    rw [R.wp_bind, R.wp_of] at hp
    obtain ⟨⟨d, env2⟩, hf, hp⟩ := hp
    rw [R.wp_bind, R.wp_of] at hp
    obtain ⟨env3, hs, hp⟩ := hp
    obtain ⟨F2, _, x2, l2, s2, r2, _⟩ := freeze_ok x s1 r1.weak hf
    obtain ⟨h1, h2, h3⟩ := store_cond hs
    obtain ⟨s3, x3, _⟩ := s2.put h1 r2
    subst h3
    exact hp F2 H1 _ (x2.trans x3) (fixd_set h2) s3
  cases r with
  | val d => exact gen hp
  | slot j => exact gen hp
  | fresh d =>
    have hp : ((R.of (store lent i (.own d) env1)).bind fun env1 => R.ok (Fl.next, env1)).wp (PostS K lent F H σ env D) (W F H σ env) := hp
    rw [R.wp_bind, R.wp_of] at hp
    obtain ⟨env3, hs, hp⟩ := hp
    obtain ⟨h1, h2, h3⟩ := store_cond hs
    obtain ⟨a, rfl, nf, oc, no, z⟩ := r1
    subst h3
    exact hp F1 H1 _ (x.putOwn z) (fixd_set h2) (s1.putOwn h1 nf oc no)
theorem q_asgT {is : List Nat} {c : CE} {D : Ends} (q : tS K C W lent (.asgT is c) D σ H) : tAsg (tE K C W c) (tgOf K (.tup is)) D σ H := by
  obtain ⟨F, env, s, q⟩ := q
  simp only [execS, R.wp_bind] at q
  refine ⟨F, env, s, R.wp_mono q (fun p hp F1 H1 v x l s1 r1 => ?_) fun _ h => h⟩
  rw [R.wp_of] at hp
  obtain ⟨⟨d, env2⟩, hf, hp⟩ := hp
  rw [R.wp_of] at hp
  obtain ⟨env3, hs, hp⟩ := hp
  obtain ⟨F2, _, x2, l2, s2, r2, _⟩ := freeze_ok x s1 r1.weak hf
  exact r_tg (w := false) (fun z => nomatch z) s2 hs (.inl r2) fun σ2 e => hp F2 H1 σ2 (x2.trans e.ext) e.fix e.st
theorem q_expr {c : CE} {D : Ends} (q : tS K C W lent (.expr c) D σ H) : tDrop (tE K C W c) D σ H := by
  obtain ⟨F, env, s, q⟩ := q
  simp only [execS, R.wp_bind] at q
  exact ⟨F, env, s, R.wp_mono q (fun p hp F1 H1 v x l s1 r1 => hp F1 H1 σ x fixd_refl s1) fun _ h => h⟩
theorem q_retN {D : Ends} (q : tS K C W lent .retN D σ H) : tRetN D σ H := by
  obtain ⟨F, env, s, q⟩ := q
  exact q F H σ .non Ext.refl fixd_refl s .non
theorem lentOwn_at : ∀ {lent : List Bool} {env : List Sl} {j : Nat}, lentOwn lent env = true → lent.getD j false = true → ∃ d : D, env[j]? = some (.own d)
  | [], _, _, _, h => by simp at h
  | true :: ls, .own d :: env, 0, _, _ => ⟨d, rfl⟩
  | true :: ls, .own d :: env, j + 1, h, h2 => by
    obtain ⟨c, e⟩ := lentOwn_at (j := j) (show lentOwn ls env = true from h) (by simpa using h2)
    exact ⟨c, e⟩
  | false :: ls, y :: env, 0, _, h2 => by simp at h2
  | false :: ls, y :: env, j + 1, h, h2 => by
    obtain ⟨c, e⟩ := lentOwn_at (j := j) (show lentOwn ls env = true by cases y <;> exact h) (by simpa using h2)
    exact ⟨c, e⟩
  | true :: ls, .no :: env, _, h, _ => by cases h
  | true :: ls, .val _ :: env, _, h, _ => by cases h
  | true :: ls, [], _, h, _ => by cases h
  | false :: ls, [], _, h, _ => by cases h
theorem Stt.drop (s : Stt K F H σ env) (i : Nat) : Stt K F H σ (env.set i .no) ∧ Ext F H σ env F H σ (env.set i .no) := by
  refine ⟨⟨by rw [List.length_set]; exact s.len, s.trk, fun j c h => ?_, fun j c h => ?_, fun j k c1 c2 b q1 q2 => ?_⟩, ⟨fun _ h => h, fun _ _ h _ _ => h, fun _ h => h, fun _ h => .inl h, fun b ⟨j, c, q1, q2⟩ => ?_⟩⟩
  · rcases set_get h with ⟨_, z⟩ | ⟨_, z⟩
    · cases z
    · exact s.val j c z
  · rcases set_get h with ⟨_, z⟩ | ⟨_, z⟩
    · cases z
    · exact s.own j c z
  · rcases set_get q1 with ⟨_, z⟩ | ⟨_, z⟩
    · cases z
    · rcases set_get q2 with ⟨_, y⟩ | ⟨_, y⟩
      · cases y
      · exact s.inj j k c1 c2 b z y
  · rcases set_get q1 with ⟨_, z⟩ | ⟨_, z⟩
    · cases z
    · exact .inl ⟨j, c, z, q2⟩
theorem q_ret {c : CE} {D : Ends} (q : tS K C W lent (.ret c) D σ H) : tRet (tE K C W c) D σ H := by
  obtain ⟨F, env, s, q⟩ := q
  simp only [execS, R.wp_bind] at q
  refine ⟨F, env, s, R.wp_mono q (fun p hp F1 H1 v x l s1 r1 => ?_) fun _ h => h⟩
  obtain ⟨r, env1⟩ := p
  cases r with
  | val d => exact hp F1 H1 σ v x fixd_refl s1 r1
  | fresh d =>
    obtain ⟨a, rfl, nf, oc, no, z⟩ := r1
    exact hp F1 H1 σ _ x fixd_refl s1 ⟨a, rfl, nf, oc, .inl z⟩
  | slot i =>
    simp only at hp
    obtain ⟨hv, _⟩ := r1
    split at hp
    · rename_i d hd
      obtain ⟨a, h1, nf, oc⟩ := s1.own i d hd
      rw [hv] at h1
      cases h1
      split at hp
      · rename_i hz
        obtain ⟨s2, x2⟩ := s1.drop i
        refine hp F1 H1 σ _ (x.trans x2) fixd_refl s2 ⟨a, rfl, nf, oc, ?_⟩
        rcases x.owns a ⟨i, d, hd, hv⟩ with h | h
        · refine .inr ⟨h, fun j hj e => ?_⟩
          obtain ⟨c, hc⟩ := lentOwn_at hz.2 hj
          have : i = j := s1.inj i j d c a hd hc hv e
          subst this
          rw [hz.1] at hj
          cases hj
        · exact .inl h
      · obtain ⟨x2, l2, s2, r2⟩ := freeze_slot x s1 hd hv
        exact hp (plus F1 a) H1 σ _ x2 fixd_refl s2 r2
    · rename_i d hd
      obtain ⟨w, h1, h2⟩ := s1.val i d hd
      rw [hv] at h1
      cases h1
      exact hp F1 H1 σ v x fixd_refl s1 h2
    · exact hp.elim
theorem q_if (hW : Wok W) {c : CE} {a b : CSs} {D : Ends} (q : tS K C W lent (.ifS c a b) D σ H) : tIfS (tT K C W c) (tSs K C W lent a) (tSs K C W lent b) D σ H := by
  obtain ⟨F, env, s, q⟩ := q
  simp only [execS, R.wp_bind] at q
  refine ⟨F, env, s, R.wp_mono q (fun p hp => ?_) fun _ h => h⟩
  rw [R.wp_of] at hp
  obtain ⟨k, e, hp⟩ := hp
  refine ⟨k, e, fun F1 H1 x l s1 => ?_⟩
  cases k with
  | true => exact ⟨F1, p.2, s1, R.wp_mono hp (fun p hp => hp.step x fixd_refl) fun _ h => hW.mono h x⟩
  | false => exact ⟨F1, p.2, s1, R.wp_mono hp (fun p hp => hp.step x fixd_refl) fun _ h => hW.mono h x⟩
theorem q_setI (hW : Wok W) {i : Nat} {ck ce : CE} {D : Ends} (q : tS K C W lent (.setI i ck ce) D σ H) : tAsg (tE K C W ce) (gSub (tVar i) (tE K C W ck) (rSetD K)) D σ H := by
  obtain ⟨F, env, s, q⟩ := q
  simp only [execS, R.wp_bind] at q
  refine ⟨F, env, s, R.wp_mono q (fun p hp F1 H1 v x l s1 r1 => ?_) fun _ h => h⟩
  rw [R.wp_of] at hp
  obtain ⟨⟨d, env2⟩, hf, hp⟩ := hp
  obtain ⟨F2, _, x2, l2, s2, r2, _⟩ := freeze_ok x s1 r1.weak hf
  rw [R.wp_of] at hp
  obtain ⟨_, ho, hp⟩ := hp
  have ho : ∃ c : G.D, env2[i]? = some (.own c) := by
    have ho : (match env2[i]? with | some (.own _) => some () | _ => none) = some () := ho
    split at ho
    · exact ⟨_, by assumption⟩
    · cases ho
  obtain ⟨c, hc⟩ := ho
  obtain ⟨a, ha, _, _⟩ := s2.own i c hc
  refine ⟨.ref a, ha, F2, env2, s2, R.wp_mono hp (fun r hr F3 H3 k x3 l3 s3 r3 => ?_) fun _ h => hW.mono h x2⟩
  obtain ⟨r1, e3⟩ := r
  simp only at hr
  split at hr
  · rename_i dd kk hd
    rw [R.wp_bind, R.wp_of] at hr
    obtain ⟨d', hs, hr⟩ := hr
    obtain ⟨b, hb, nf, oc⟩ := s3.own i dd hd
    rw [ha] at hb
    cases hb
    refine ⟨F3, a, dd, kk, d, d', rfl, nf, oc, r3, r2.keep (s2.keeps x3), hs, fun ob h => ?_⟩
    obtain ⟨s4, x4, _⟩ := s3.setOwn hd ha h
    exact hr F3 _ σ ((x2.trans x3).trans x4) fixd_refl s4
  · exact hr.elim
theorem q_for (hW : Wok W) {tg : G.TG} {ci : CI} {b : CSs} {D : Ends} (fit : tgFit tg (isEZ ci)) (q : tS K C W lent (.forS tg ci b) D σ H) : tFor (tI K C W ci) (tgOf K tg) (tSs K C W lent b) D σ H := by
  obtain ⟨F, env, s, q⟩ := q
  simp only [execS, R.wp_bind] at q
  refine ⟨F, env, s, R.wp_mono q (fun p hp F1 H1 J x l s1 y => ?_) fun _ h => h⟩
  obtain ⟨ds, env1⟩ := p
  generalize hst : (fun d env1 => (R.of (assignT lent tg d env1)).bind fun env2 => execSs C lent b env2) = st at hp
  refine ⟨fun i m σ2 H2 => m = ds.length - i ∧ i ≤ ds.length ∧ ∃ F2 env2, Ext F1 H1 σ env1 F2 H2 σ2 env2 ∧ Fixd lent σ σ2 ∧ Stt K F2 H2 σ2 env2 ∧ (forL st (ds.drop i) env2).wp (PostS K lent F H σ env D) (W F H σ env),
    ⟨ds.length, by simp, Nat.zero_le _, F1, env1, Ext.refl, fixd_refl, s1, by rw [List.drop_zero]; exact hp⟩, ?_⟩
  rintro i m σ2 H2 ⟨rfl, hi, F2, env2, x2, f2, s2, hf⟩
  have kp := s1.keeps x2
  by_cases hlt : i < ds.length
  · obtain ⟨d, hd⟩ : ∃ d, ds[i]? = some d := ⟨ds[i], by simp [hlt]⟩
    have hdrop : ds.drop i = d :: ds.drop (i + 1) := by
      rw [List.drop_eq_getElem_cons hlt]
      congr 1
      rw [List.getElem?_eq_getElem hlt] at hd
      exact Option.some.inj hd
    rw [hdrop] at hf
    have hf : ((st d env2).bind fun p => match p.1 with | .brk => R.ok (Fl.next, p.2) | .ret o d => R.ok (Fl.ret o d, p.2) | _ => forL st (ds.drop (i + 1)) p.2).wp (PostS K lent F H σ env D) (W F H σ env) := hf
    obtain ⟨hgo, hyl⟩ := (y F2 H2 kp i).1 d hd
    refine .inr ⟨hgo, fun σ3 H3 => ∃ m', m' < ds.length - i ∧ m' = ds.length - (i + 1) ∧ i + 1 ≤ ds.length ∧ ∃ F2 env2, Ext F1 H1 σ env1 F2 H3 σ3 env2 ∧ Fixd lent σ σ3 ∧ Stt K F2 H3 σ3 env2 ∧ (forL st (ds.drop (i + 1)) env2).wp (PostS K lent F H σ env D) (W F H σ env),
      fun σ3 H3 ⟨m', h1, h2⟩ => ⟨m', h1, h2⟩, fun xx H3 hx => ?_⟩
    obtain ⟨sm, rp⟩ := hyl xx H3 hx
    rw [← hst] at hf
    rw [R.wp_bind, R.wp_bind, R.wp_of] at hf
    rw [hst] at hf
    obtain ⟨env3, ha, hf⟩ := hf
    have x3 : Ext F1 H1 σ env1 F2 H3 σ2 env2 := x2.trans (ext_same sm)
    refine r_tg fit (s2.same sm) ha rp fun σ3 e => ⟨F2, env3, e.st, R.wp_mono hf (fun p hp => ?_) fun _ h => hW.mono h ((x.trans x3).trans e.ext)⟩
    have x4 : Ext F1 H1 σ env1 F2 H3 σ3 env3 := x3.trans e.ext
    have f4 : Fixd lent σ σ3 := f2.trans e.fix
    obtain ⟨fl, e5⟩ := p
    cases fl with
    | next => exact fun F' H' σ' x' f' s' => ⟨_, by omega, rfl, hlt, F', e5, x4.trans x', f4.trans f', s', hp⟩
    | cont => exact fun F' H' σ' x' f' s' => ⟨_, by omega, rfl, hlt, F', e5, x4.trans x', f4.trans f', s', hp⟩
    | brk => exact fun F' H' σ' x' f' s' => hp F' H' σ' ((x.trans x4).trans x') (f4.trans f') s'
    | ret o d => exact PostS.step (p := (Fl.ret o d, e5)) (D := D) hp (x.trans x4) f4
  · have hi' : i = ds.length := by omega
    subst hi'
    rw [List.drop_length] at hf
    exact .inl ⟨(y F2 H2 kp ds.length).2 (Nat.le_refl _), hf F2 H2 σ2 (x.trans x2) f2 s2⟩
theorem q_while (hW : Wok W) {c : CE} {b : CSs} {D : Ends} (q : tS K C W lent (.whileS c b) D σ H) : tWhile (tT K C W c) (tSs K C W lent b) D σ H := by
  obtain ⟨F, env, s, q⟩ := q
  simp only [execS] at q
  generalize hc : (fun env1 => (evalE C true c env1).bind fun p => (R.of (asB p.1)).bind fun x => R.ok (x, p.2)) = tc at q
  refine ⟨fun m σ2 H2 => ∃ F2 env2, Ext F H σ env F2 H2 σ2 env2 ∧ Fixd lent σ σ2 ∧ Stt K F2 H2 σ2 env2 ∧ (whileL tc (fun env1 => execSs C lent b env1) m env2).wp (PostS K lent F H σ env D) (W F H σ env),
    ⟨C.fuel, F, env, Ext.refl, fixd_refl, s, q⟩, ?_⟩
  rintro m σ2 H2 ⟨F2, env2, x2, f2, s2, hf⟩
  cases m with
  | zero => exact hf.elim
  | succ m =>
    have hf : ((tc env2).bind fun p => if p.1 = true then (execSs C lent b p.2).bind fun q => match q.1 with | .brk => R.ok (Fl.next, q.2) | .ret o d => R.ok (Fl.ret o d, q.2) | _ => whileL tc (fun env1 => execSs C lent b env1) m q.2 else R.ok (Fl.next, p.2)).wp
      (PostS K lent F H σ env D) (W F H σ env) := hf
    rw [← hc] at hf
    rw [R.wp_bind, R.wp_bind] at hf
    rw [hc] at hf
    refine ⟨F2, env2, s2, R.wp_mono hf (fun p hp => ?_) fun _ h => hW.mono h x2⟩
    rw [R.wp_bind, R.wp_of] at hp
    obtain ⟨k, e, hp⟩ := hp
    refine ⟨k, e, fun F3 H3 x3 l3 s3 => ?_⟩
    have x4 := x2.trans x3
    cases k with
    | false => exact hp F3 H3 σ2 x4 f2 s3
    | true =>
      have hp : ((execSs C lent b p.2).bind fun q => match q.1 with | .brk => R.ok (Fl.next, q.2) | .ret o d => R.ok (Fl.ret o d, q.2) | _ => whileL tc (fun env1 => execSs C lent b env1) m q.2).wp (PostS K lent F H σ env D) (W F H σ env) := hp
      rw [R.wp_bind] at hp
      simp only [if_true]
      refine ⟨fun σ3 H3 => ∃ m', m' < m + 1 ∧ ∃ F2 env2, Ext F H σ env F2 H3 σ3 env2 ∧ Fixd lent σ σ3 ∧ Stt K F2 H3 σ3 env2 ∧ (whileL tc (fun env1 => execSs C lent b env1) m' env2).wp (PostS K lent F H σ env D) (W F H σ env), fun σ3 H3 ⟨m', h1, h2⟩ => ⟨m', h1, h2⟩,
        F3, p.2, s3, R.wp_mono hp (fun q hq => ?_) fun _ h => hW.mono h x4⟩
      obtain ⟨fl, e5⟩ := q
      cases fl with
      | next => exact fun F' H' σ' x' f' s' => ⟨m, Nat.lt_succ_self m, F', e5, x4.trans x', f2.trans f', s', hq⟩
      | cont => exact fun F' H' σ' x' f' s' => ⟨m, Nat.lt_succ_self m, F', e5, x4.trans x', f2.trans f', s', hq⟩
      | brk => exact fun F' H' σ' x' f' s' => hq F' H' σ' (x4.trans x') (f2.trans f') s'
      | ret o d => exact PostS.step (p := (Fl.ret o d, e5)) (D := D) hq x4 f2
/-! ### a def's body -/
theorem start_args : ∀ {lent : List Bool} {vs : List V} {ds : List D}, Args K F H lent vs ds →
    (∀ (i : Nat) (d : D), (startE lent ds)[i]? = some (.val d) → ∃ v, vs[i]? = some v ∧ Rep K F H v d) ∧
    (∀ (i : Nat) (d : D), (startE lent ds)[i]? = some (.own d) → ∃ a, vs[i]? = some (.ref a) ∧ ¬ F a ∧ OwnC K F H a d ∧ a ∈ lents lent vs ∧ lent.getD i false = true) ∧
    (∀ (i j : Nat) (d e : D) (a : Addr), (startE lent ds)[i]? = some (.own d) → (startE lent ds)[j]? = some (.own e) → vs[i]? = some (.ref a) → vs[j]? = some (.ref a) → i = j) ∧
    (∀ a, a ∈ lents lent vs → ∃ (i : Nat) (d : D), (startE lent ds)[i]? = some (.own d) ∧ vs[i]? = some (.ref a)) ∧ (startE lent ds).length = ds.length
  | _, _, _, .nil => ⟨fun i d h => by simp [startE] at h, fun i d h => by simp [startE] at h, fun i j d e a h => by simp [startE] at h, fun a h => absurd h List.not_mem_nil, rfl⟩
  | _, _, _, .val (ls := ls) (v := v) (vs := vs) (d := d0) (ds := ds) r t => by
    obtain ⟨h1, h2, h3, h4, h5⟩ := start_args t
    have hl : lents (false :: ls) (v :: vs) = lents ls vs := by cases v <;> rfl
    refine ⟨fun i d h => ?_, fun i d h => ?_, fun i j d e a q1 q2 q3 q4 => ?_, fun a m => ?_, congrArg (· + 1) h5⟩
    · cases i with
      | zero => cases h; exact ⟨v, rfl, r⟩
      | succ i => exact h1 i d h
    · cases i with
      | zero => cases h
      | succ i =>
        obtain ⟨a, q1, q2, q3, q4, q5⟩ := h2 i d h
        exact ⟨a, q1, q2, q3, by rw [hl]; exact q4, q5⟩
    · cases i with
      | zero => cases q1
      | succ i =>
        cases j with
        | zero => cases q2
        | succ j => exact congrArg (· + 1) (h3 i j d e a q1 q2 q3 q4)
    · rw [hl] at m
      obtain ⟨i, d, q⟩ := h4 a m
      exact ⟨i + 1, d, q⟩
  | _, _, _, .own (ls := ls) (a := a0) (vs := vs) (d := d0) (ds := ds) nf oc nm t => by
    obtain ⟨h1, h2, h3, h4, h5⟩ := start_args t
    refine ⟨fun i d h => ?_, fun i d h => ?_, fun i j d e a q1 q2 q3 q4 => ?_, fun a m => ?_, congrArg (· + 1) h5⟩
    · cases i with
      | zero => cases h
      | succ i => exact h1 i d h
    · cases i with
      | zero => cases h; exact ⟨a0, rfl, nf, oc, List.mem_cons_self, rfl⟩
      | succ i =>
        obtain ⟨a, q1, q2, q3, q4, q5⟩ := h2 i d h
        exact ⟨a, q1, q2, q3, List.mem_cons_of_mem _ q4, q5⟩
    · cases i with
      | zero =>
        cases j with
        | zero => rfl
        | succ j =>
          cases q3
          obtain ⟨b, w1, _, _, w4, _⟩ := h2 j e q2
          have q4 : vs[j]? = some (.ref a0) := q4
          rw [q4] at w1
          cases w1
          exact (nm w4).elim
      | succ i =>
        cases j with
        | zero =>
          cases q4
          obtain ⟨b, w1, _, _, w4, _⟩ := h2 i d q1
          have q3 : vs[i]? = some (.ref a0) := q3
          rw [q3] at w1
          cases w1
          exact (nm w4).elim
        | succ j => exact congrArg (· + 1) (h3 i j d e a q1 q2 q3 q4)
    · rcases List.mem_cons.mp m with m | m
      · subst m; exact ⟨0, d0, rfl, rfl⟩
      · obtain ⟨i, d, q⟩ := h4 a m
        exact ⟨i + 1, d, q⟩
theorem start_get {N : List Str} {vs : List V} {i : Nat} {v : V} (h : vs[i]? = some v) : (L2.start N vs)[i]? = some (some v) := by
  have hi : i < vs.length := by
    rcases Nat.lt_or_ge i vs.length with z | z
    · exact z
    · rw [List.getElem?_eq_none z] at h; cases h
  unfold L2.start
  rw [List.getElem?_append_left (by simpa using hi), List.getElem?_map, h]; rfl
theorem fins_ok {ls : List Bool} {vs : List V} {e0 fs : List Sl} (h : finals ls e0 = some fs) (hl : vs.length = ls.length)
    (h3 : ∀ (i : Nat) (y : Sl), e0[i]? = some y → ls.getD i false = true → ∃ a, vs[i]? = some (.ref a) ∧ (∀ d, y = .own d → ¬ F a ∧ OwnC K F H a d) ∧ ∀ d, y = .val d → Rep K F H (.ref a) d) : Fins K F H ls vs fs := by
  induction ls generalizing vs e0 fs with
  | nil =>
    cases vs with
    | nil => cases h; exact .nil
    | cons _ _ => cases hl
  | cons b ls ih =>
    cases vs with
    | nil => cases hl
    | cons v vs =>
      cases e0 with
      | nil => cases b <;> cases h
      | cons y e0 =>
        have ih' := fun {fs} (h : finals ls e0 = some fs) => ih (vs := vs) h (Nat.succ.inj hl) fun i y e g => h3 (i + 1) y e (by simpa using g)
        cases b with
        | false =>
          have h : finals ls e0 = some fs := by cases y <;> exact h
          exact .val (ih' h)
        | true =>
          obtain ⟨a, e, q1, q2⟩ := h3 0 y rfl rfl
          cases e
          cases y with
          | no => cases h
          | own d =>
            obtain ⟨fs', h1, rfl⟩ := Option.map_eq_some_iff.mp h
            exact .own (q1 d rfl).1 (q1 d rfl).2 (ih' h1)
          | val d =>
            obtain ⟨fs', h1, rfl⟩ := Option.map_eq_some_iff.mp h
            exact .gone (q2 d rfl) (ih' h1)
end
end G

set_option Elab.async false
set_option linter.all false
set_option maxRecDepth 100000
set_option maxHeartbeats 1000000
/-! G, part 9b: raise. -/
namespace G
open PySem L2
variable [TB : Tbs]
/-- the promise of an error class's __init__: its fields are kept, in order -/
def spI (C : Addr) (fns : List Str) : Sp := fun vs H Q E => ∃ (a : Addr) (ws : List V), vs = .ref a :: ws ∧ ws.length = fns.length ∧ H a = some (exo a C none) ∧
  ∀ (H2 : Hp) (dx : Addr), dx ≠ a → H dx = none → H2 a = some (exo a C (some dx)) → H2 dx = some (exd dx (fns.zip ws).reverse) → (∀ b, b ≠ a → b ≠ dx → H2 b = H b) → Q .non H2
def dbgX (x : Str) : Bool := x == ("__debug__" : Str) || x == ("__classdict__" : Str)
theorem dbgX_ok {x : Str} (h : (!dbgX x) = true) : (x == ("__debug__" : Str)) = false ∧ (x == ("__classdict__" : Str)) = false := by
  unfold dbgX at h
  rw [Bool.not_or, Bool.and_eq_true] at h
  exact ⟨by simpa using h.1, by simpa using h.2⟩
section
variable {K : PySem.W.Frag} {C : Ctx} {W : WT} [hW : Wok W] {mg : Str → Option Value} {F : Addr → Prop} {H : Hp} {σ : L2.St} {lent : List Bool} {EE : XK}
theorem zip_sub : ∀ (fns : List Str) (ws : List V), ((fns.zip ws).map (·.1)).Sublist fns
  | [], _ => by rw [List.zip_nil_left]; exact .refl _
  | f :: fns, [] => by rw [List.zip_nil_right]; exact List.nil_sublist _
  | f :: fns, w :: ws => by
    rw [List.zip_cons_cons, List.map_cons]
    exact (zip_sub fns ws).cons_cons f
theorem reps_zip {f : Str} {dv : D} : ∀ {fns : List Str} {vs : List V} {ds : List D}, Reps K F H vs ds → (f, dv) ∈ fns.zip ds → ∃ v, (f, v) ∈ fns.zip vs ∧ Rep K F H v dv
  | [], _, _, _, h => by rw [List.zip_nil_left] at h; cases h
  | g :: fns, _, _, .nil, h => by rw [List.zip_nil_right] at h; cases h
  | g :: fns, _, _, .cons r t, h => by
    rw [List.zip_cons_cons] at h
    rcases List.mem_cons.mp h with e | h
    · cases e
      exact ⟨_, List.mem_cons_self, r⟩
    · obtain ⟨v, h1, h2⟩ := reps_zip t h
      exact ⟨v, List.mem_cons_of_mem _ h1, h2⟩
theorem lookup_rev {f : Str} {v : V} : ∀ {fns : List Str} {ws : List V}, fns.Nodup → (f, v) ∈ fns.zip ws → (fns.zip ws).reverse.lookup f = some v := by
  intro fns ws nd h
  have key : ∀ (l : List (Str × V)), (l.map (·.1)).Nodup → (f, v) ∈ l → l.lookup f = some v := by
    intro l
    induction l with
    | nil => intro _ h; cases h
    | cons p l ih =>
      intro nd h
      obtain ⟨g, w⟩ := p
      rw [List.map_cons] at nd
      obtain ⟨n1, n2⟩ := List.nodup_cons.mp nd
      rcases List.mem_cons.mp h with e | h'
      · cases e
        rw [List.lookup_cons_self]
      · have ne : (f == g) = false := by
          rw [beq_eq_false_iff_ne]
          intro e
          subst e
          exact n1 (List.mem_map.mpr ⟨(f, v), h', rfl⟩)
        rw [List.lookup_cons, ne]
        exact ih n2 h'
  refine key _ ?_ (List.mem_reverse.mpr h)
  rw [List.map_reverse]
  refine (List.reverse_perm _).nodup_iff.mpr ?_
  exact nd.sublist (zip_sub fns ws)
theorem r_raise {c : Str} {fs : List Str} {l : CEs} {Cc : Addr} {D : Ends} (q : tS K C W lent (.raise c fs l) D σ H) (hE : ∀ F1 H1 env1 L x, W F1 H1 σ env1 x → (∀ a, a ∈ L → OwnA σ env1 a) → EXR K mg F1 H1 L x EE) (hm : mg c = some (.ref Cc)) (nd : fs.Nodup) (hl : fs.length ≤ 1000) :
    tMkO Cc (spI Cc fs) [] (tA K C W l) σ H fun cls d H' => EE cls d H' := by
  obtain ⟨F, env, s, q⟩ := q
  simp only [execS, R.wp_bind] at q
  refine ⟨F, env, s, R.wp_mono q (fun p hp F1 H1 vs x l1 s1 r1 => ?_) fun _ h => h⟩
  rw [R.wp_of] at hp
  obtain ⟨⟨ds, env2⟩, e, hp⟩ := hp
  obtain ⟨F2, b2, x2, l2, s2, r2, o2⟩ := freezeAll_ok x s1 r1 e
  dsimp only at hp
  split at hp
  · rename_i hz
    have hlen := r2.length
    refine ⟨by omega, fun a ha => ⟨a, vs, by rw [List.append_nil], by omega, upd_same, fun H2 dx nx h0 h1 h2 h3 => ⟨rfl, dx, _, h1, h2, ?_, ?_⟩⟩⟩
    · rw [upd_ne nx] at h0; exact h0
    · rw [upd_ne nx] at h0
      have sm : Same H1 (upd (del H2 a) dx (.xd (fs.zip vs).reverse)) := fun b o hb => by
        have nb : b ≠ dx := ne_of_none hb h0
        have na : b ≠ a := ne_of_none hb ha
        rw [upd_ne nb, del_ne na, h3 b na nb, upd_ne na]; exact hb
      have hp : W F H σ env ⟨c, fs.zip ds⟩ := hp
      have hw := hE F2 H1 env2 [] _ (hW.mono hp x2) (fun _ z => nomatch z)
      refine hw F2 _ (.ref Cc) (some dx) ⟨fun _ h => h, fun b o h _ _ => sm b o h, (ext_same (σ := σ) (env := env2) (F := F2) sm).dom, fun b h => .inl h, (s2.same sm).trk⟩ ⟨Cc, dx, _, rfl, hm, rfl, upd_same, fun f dv hf => ?_⟩
      obtain ⟨v, h4, h5⟩ := reps_zip r2 hf
      exact ⟨v, lookup_rev nd h4, h5.keep sm.keeps⟩
  · exact hp.elim
end
/-! ### an error class's __init__ -/
section
variable {P : Program} {w : World} {K : PySem.W.Frag} {mg : Str → Option Value} {base : Heap} {CX : CXT} {x qual : Str} {params : Arguments} {scope : Scope} {fI : Addr} {fd : FuncData} {Cc : Addr} {k : Nat} {se a1 a2 f1 f2 dc : Str} {j : Nat} {p1 p2 p3 p4 p5 p6 p7 p8 p9 q1 q2 : Pos}
theorem par_vis {N ps : List Str} (S : FnScope N ps scope) {y : Str} (h : y ∈ ps) : Vis scope y := (S.par y h).elim .inl fun z => .inr (.inl z)
theorem init1_ok (T : OexC K Cc) (F : FunD K x qual params [.Expr (.Constant (.str dc) j q1) q2, .Assign [.Attribute (.Name se p1) f1 p2] (.Name a1 p3) p4] scope [] [] fI fd) (S : FnScope [se, a1] [se, a1] scope)
    (d1 : (!dbgX se) = true) (d2 : (!dbgX a1) = true) (n1 : PySem.W.findIn K (.ref Cc) f1 = some none) : FnOk P w K mg base CX (k + 1) fI fd [se, a1] (spI Cc [f1]) := by
  refine F.ok S (fun vs H Q E ⟨a, ws, e, hl, _⟩ => by rw [e, List.length_cons, hl]; rfl) fun cdv A outer s H vs Q E hr ⟨a, ws, e, hl, ha, hq⟩ => ?_
  subst e
  obtain ⟨y, rfl⟩ : ∃ y, ws = [y] := by
    match ws, hl with
    | [y], _ => exact ⟨y, rfl⟩
  refine ⟨_, pss_cons ps_doc (pss_one (ps_ost (pe_var (i := 0) rfl (par_vis S (by simp)) (dbgX_ok d1).1 (dbgX_ok d1).2) (pe_var (i := 1) rfl (par_vis S (by simp)) (dbgX_ok d2).1 (dbgX_ok d2).2))), ?_⟩
  refine ⟨y, rfl, .ref a, rfl, a, Cc, rfl, T, n1, .inl ⟨ha, fun dx h0 ne => ?_⟩⟩
  exact hq _ dx ne h0 upd_same (by rw [upd_ne ne, upd_same]; rfl) fun b h1 h2 => by rw [upd_ne h1, upd_ne h2]
theorem init2_ok (T : OexC K Cc) (F : FunD K x qual params [.Expr (.Constant (.str dc) j q1) q2, .Assign [.Attribute (.Name se p1) f1 p2] (.Name a1 p3) p4, .Assign [.Attribute (.Name se p5) f2 p6] (.Name a2 p7) p8] scope [] [] fI fd) (S : FnScope [se, a1, a2] [se, a1, a2] scope)
    (d1 : (!dbgX se) = true) (d2 : (!dbgX a1) = true) (d3 : (!dbgX a2) = true) (n1 : PySem.W.findIn K (.ref Cc) f1 = some none) (n2 : PySem.W.findIn K (.ref Cc) f2 = some none) : FnOk P w K mg base CX (k + 1) fI fd [se, a1, a2] (spI Cc [f1, f2]) := by
  refine F.ok S (fun vs H Q E ⟨a, ws, e, hl, _⟩ => by rw [e, List.length_cons, hl]; rfl) fun cdv A outer s H vs Q E hr ⟨a, ws, e, hl, ha, hq⟩ => ?_
  subst e
  obtain ⟨y, z, rfl⟩ : ∃ y z, ws = [y, z] := by
    match ws, hl with
    | [y, z], _ => exact ⟨y, z, rfl⟩
  refine ⟨_, pss_cons ps_doc (pss_cons (ps_ost (pe_var (i := 0) rfl (par_vis S (by simp)) (dbgX_ok d1).1 (dbgX_ok d1).2) (pe_var (i := 1) rfl (par_vis S (by simp)) (dbgX_ok d2).1 (dbgX_ok d2).2))
    (pss_one (ps_ost (pe_var (i := 0) rfl (par_vis S (by simp)) (dbgX_ok d1).1 (dbgX_ok d1).2) (pe_var (i := 2) rfl (par_vis S (by simp)) (dbgX_ok d3).1 (dbgX_ok d3).2)))), ?_⟩
  refine ⟨y, rfl, .ref a, rfl, a, Cc, rfl, T, n1, .inl ⟨ha, fun dx h0 ne => ?_⟩⟩
  refine ⟨z, rfl, .ref a, rfl, a, Cc, rfl, T, n2, .inr ⟨dx, [(f1, y)], upd_same, by rw [upd_ne ne, upd_same], (by show 1 ≤ 900; decide), ?_⟩⟩
  exact hq _ dx ne h0 (by rw [upd_ne (Ne.symm ne), upd_same]) upd_same fun b h1 h2 => by rw [upd_ne h2, upd_ne h1, upd_ne h2]
end
end G

set_option Elab.async false
set_option linter.all false
set_option maxRecDepth 100000
set_option maxHeartbeats 1000000
/-! G, part 9d: what `_law_tried` tells of a lambda. -/
namespace G
open PySem L2
variable [TB : Tbs]
/-- a row of `_law_tried`: its class, its fields, positions -/
structure Row where
  c : Str
  fs : List Str
  qs : List (Pos × Pos)
  j1 : Nat
  j2 : Nat
  k1 : Nat
  k2 : Nat
  ps : List Pos
/-- the errors that the lambda may let out -/
def EEt (K : PySem.W.Frag) (known : Addr → Row → Prop) (Q : VK) : XK := fun cls d H => ∃ (D dd : Addr) (r : Row) (F : Addr → Prop) (fl : List (Str × V)) (ws : List V) (dw : List _root_.G.D), cls = .ref D ∧ d = some dd ∧ known D r ∧ (∀ x, F x → H x ≠ none) ∧ H dd = some (.xd fl) ∧
  ws.length = r.fs.length ∧ (∀ f w, (f, w) ∈ r.fs.zip ws → fl.lookup f = some w) ∧ Reps K F H ws dw ∧ ∀ v H2, Rep K F H2 v (.tup [.str "refused", .str r.c, .tup dw]) → (∀ x o, H x = some o → H2 x = some o) → Q v H2
def TTried (K : PySem.W.Frag) (known : Addr → Row → Prop) : (XK → Hp → VK → Prop) → Hp → VK → Prop := fun tl H Q => tl (EEt K known Q) H fun v H' => [V.str "right", v].length ≤ sizeLine ∧ NewU H' Q [.str "right", v]
section
variable {K : PySem.W.Frag} {C : Ctx} {W : WT} {mg : Str → Option Value} {F F' : Addr → Prop} {H H' : Hp} {σ : L2.St} {env : List Sl} {Q : VK} {a : Addr}
theorem hide_no : ¬ OwnA σ (env.map hideSl) a := fun ⟨i, d, h, _⟩ => by
  rw [List.getElem?_map] at h
  obtain ⟨y, _, e⟩ := Option.map_eq_some_iff.mp h
  cases y <;> cases e
theorem Stt.hide (s : Stt K F H σ env) : Stt K F H σ (env.map hideSl) where
  len := by rw [List.length_map]; exact s.len
  trk := s.trk
  val := fun i d h => by
    rw [List.getElem?_map] at h
    obtain ⟨y, h1, e⟩ := Option.map_eq_some_iff.mp h
    cases y <;> cases e
    exact s.val i d h1
  own := fun i d h => by
    rw [List.getElem?_map] at h
    obtain ⟨y, h1, e⟩ := Option.map_eq_some_iff.mp h
    cases y <;> cases e
  inj := fun i j d e a h => by
    rw [List.getElem?_map] at h
    obtain ⟨y, h1, e⟩ := Option.map_eq_some_iff.mp h
    cases y <;> cases e
theorem hide_back (s : Stt K F H σ env) (x : OExt F H (OwnA σ (env.map hideSl)) F' H') : Ext F H σ env F' H' σ env ∧ Stt K F' H' σ env := by
  have xe : Ext F H σ env F' H' σ env := ⟨x.sub, fun a o h t _ => x.keep a o h t hide_no, x.dom, fun a f => by
    rcases x.new a f with f | f | f
    · exact .inl f
    · exact .inr (.inl f)
    · exact (hide_no f).elim, fun a h => .inl h⟩
  refine ⟨xe, s.len, x.trk, fun i d e => ?_, fun i d e => ?_, s.inj⟩
  · obtain ⟨v, h1, h2⟩ := s.val i d e
    exact ⟨v, h1, h2.keep (s.keeps xe)⟩
  · obtain ⟨b, h1, h2, h3⟩ := s.own i d e
    refine ⟨b, h1, fun f => ?_, h3.keep (s.keeps xe) fun o h t => x.keep b o h t hide_no⟩
    rcases x.new b f with f | f | f
    · exact h2 f
    · exact h3.there f
    · exact hide_no f
theorem exc_vals {fs : List (Str × V)} : ∀ l : List (Str × D), (∀ f dv, (f, dv) ∈ l → ∃ v, fs.lookup f = some v ∧ Rep K F H v dv) →
    ∃ ws : List V, ws.length = (l.map (·.1)).length ∧ (∀ f w, (f, w) ∈ (l.map (·.1)).zip ws → fs.lookup f = some w) ∧ Reps K F H ws (l.map (·.2))
  | [], _ => ⟨[], rfl, fun _ _ h => (by cases h), .nil⟩
  | (f, dv) :: l, h => by
    obtain ⟨v, h1, h2⟩ := h f dv List.mem_cons_self
    obtain ⟨ws, g1, g2, g3⟩ := exc_vals l fun g dw m => h g dw (List.mem_cons_of_mem _ m)
    refine ⟨v :: ws, congrArg (· + 1) g1, fun g w m => ?_, .cons h2 g3⟩
    rw [List.map_cons, List.zip_cons_cons] at m
    rcases List.mem_cons.mp m with e | m
    · cases e; exact h1
    · exact g2 g w m
theorem r_tried {known : Addr → Row → Prop} {c : CE} (kn : ∀ x fs D, errFs x = some fs → mg x = some (.ref D) → ∃ r : Row, known D r ∧ r.c = x ∧ r.fs = fs) (q : tE K C W (.tried c) σ H Q) :
    LamX.tLam TB.T (TTried K known) (fun E => tE K C.low (wX K mg E) c) σ H Q := by
  obtain ⟨F, env, s, q⟩ := q
  simp only [evalE, R.wp_bind, fin_false] at q
  refine ⟨s.trk.tb, fun H1 eN T1 => ?_⟩
  have s1 : Stt K F H1 σ env := s.sameN eN ⟨fun a f => by
    obtain ⟨u, hu, t⟩ := s.trk.on a f
    exact ⟨u, eN a u hu t, t⟩, T1⟩
  have x1 : Ext F H σ env F H1 σ env := ext_sameN eN
  refine ⟨F, env.map hideSl, s1.hide, ?_⟩
  cases h : evalE C.low false c (env.map hideSl) with
  | stuck => rw [h] at q; exact q.elim
  | ok p =>
    rw [h] at q
    have q : (match p.1.freeze p.2 with
      | some q => R.ok (D.tup [.str "right", q.1])
      | none => .stuck).wp _ _ := q
    cases hf : p.1.freeze p.2 with
    | none => rw [hf] at q; exact q.elim
    | some qq =>
      rw [hf] at q
      have q : PostE K F H σ env Q (.val (.tup [.str "right", qq.1]), env) := q
      intro F' H' v x l s' r
      obtain ⟨F2, b2, x2, l2, s2, r2, o2⟩ := freeze_ok x s' r.weak hf
      obtain ⟨x3, s3⟩ := hide_back s1 ⟨x2.sub, x2.keep, x2.dom, fun a f => x2.new a f, s2.trk⟩
      refine ⟨by show 2 ≤ sizeLine; decide, fun o p' ho hp => ?_⟩
      have sm : Same H' (upd H' p' (.frz o (.tup [.str "right", v]))) := same_upd hp
      exact q F2 _ (.ref p') ((x1.trans x3).trans (ext_same sm)) EnvLe.refl (s3.same sm) (.tup (.inl ⟨o, ho, upd_same⟩) (.cons (.str _) (.cons (r2.keep sm.keeps) .nil)))
  | exc x =>
    rw [h] at q
    have q : (if errFs x.cls = some (x.fs.map (·.1)) then R.ok (told x) else .stuck).wp _ _ := q
    split at q
    · rename_i he
      have q : PostE K F H σ env Q (.val (told x), env) := q
      intro F' H' cls d l e
      obtain ⟨D, dd, fs, rfl, hm, rfl, hx, hfs⟩ := e
      obtain ⟨r, kr, rc, rf⟩ := kn x.cls _ D he hm
      obtain ⟨ws, w1, w2, w3⟩ := exc_vals x.fs hfs
      obtain ⟨x3, s3⟩ := hide_back s1 l
      refine ⟨D, dd, r, F', fs, ws, x.fs.map (·.2), rfl, rfl, kr, fun a f z => Nw.of z (l.trk.on a f), hx, by rw [rf]; exact w1, by rw [rf]; exact w2, w3, fun v H2 rv sm => ?_⟩
      rw [rc] at rv
      exact q F' H2 v ((x1.trans x3).trans (ext_same sm)) EnvLe.refl (s3.same sm) rv
    · exact q.elim
/-- what is known of `_law_tried` -/
def TriG (K : PySem.W.Frag) (mg : Str → Option Value) : Prop := ∃ (known : Addr → Row → Prop) (g : Addr) (a : Str) (pg : Arguments) (bg : List Stmt) (sg : Scope) (dV kV doc pm cdv ct oc : Value) (an od : Option Addr) (osl : Array (Option Value)) (Ng : List Str),
  mg "_law_tried" = some (.ref g) ∧ PySem.W.keepIn K (.ref g) = true ∧ K.lookup g = some ⟨oc, od, .func (PySem.W.fnOf "_law_tried" "_law_tried" pg bg sg dV kV doc pm an cdv ct), osl⟩ ∧ PySem.W.codeIn K cdv "_law_tried" = true ∧
  Binds K (PySem.W.fnOf "_law_tried" "_law_tried" pg bg sg dV kV doc pm an cdv ct) [a] [] ∧ FnScope Ng [a] sg ∧ Ng[0]? = some a ∧ Vis sg a ∧ (a == ("__debug__" : Str)) = false ∧ (a == ("__classdict__" : Str)) = false ∧
  (∀ X : Cx, X.K = K → X.mg = mg → ∀ q, LamX.GivesTo X Ng "_law_tried" sg g cdv bg a q (TTried K known)) ∧ ∀ x fs D, errFs x = some fs → mg x = some (.ref D) → ∃ r : Row, known D r ∧ r.c = x ∧ r.fs = fs
/-- the table of a def's code object -/
def TriAt (base : Heap) (mg : Str → Option Value) (qual : Str) (code : Value) : Prop := ∃ c P, LamX.TabB base mg c P ∧ code = .ref c ∧ (P, qual ++ "<lambda>") ∈ TB.T ∧ ∀ p ∈ TB.T, p.1 = P → p.2 = qual ++ "<lambda>"
end
end G


set_option Elab.async false
set_option linter.all false
set_option maxRecDepth 100000
/-! G, part 8: from trees to the core language; it is sound. -/
namespace G
open PySem L2
variable [TB : Tbs]
/-! ### looking names up -/
def slotOf : List Str → Str → Option Nat
  | [], _ => none
  | y :: r, x => if y = x then some 0 else (slotOf r x).map (· + 1)
theorem slotOf_ok : ∀ {N : List Str} {x : Str} {i : Nat}, slotOf N x = some i → N[i]? = some x
  | [], _, _, h => by cases h
  | y :: r, x, i, h => by
    unfold slotOf at h
    split at h
    · rename_i e
      cases h; subst e; rfl
    · obtain ⟨j, h1, rfl⟩ := Option.map_eq_some_iff.mp h
      exact slotOf_ok (N := r) h1
def visB (S : Scope) (x : Str) : Bool := match S.names.lookup x with
  | some .local => true
  | some .cell => true
  | some .free => true
  | _ => false
def glB (S : Scope) (x : Str) : Bool := match S.names.lookup x with
  | some .globalImplicit => true
  | _ => false
def tgtB (bs : Option Scope) (S : Scope) (x : Str) : Bool := match S.names.lookup x with
  | some .local => true
  | some .cell => (match bs with
    | none => true
    | some sc => sc.names.lookup x == some .cell)
  | _ => false
theorem visB_ok {S : Scope} {x : Str} (h : visB S x = true) : Vis S x := by
  unfold visB at h
  split at h
  · exact .inl (by assumption)
  · exact .inr (.inl (by assumption))
  · exact .inr (.inr (by assumption))
  · cases h
theorem glB_ok {S : Scope} {x : Str} (h : glB S x = true) : S.names.lookup x = some .globalImplicit := by
  unfold glB at h
  split at h
  · assumption
  · cases h
def dbgB (x : Str) : Bool := (x == ("__debug__" : Str)) || (x == ("__classdict__" : Str))
def isStar : Expr → Bool
  | .Starred _ _ => true
  | _ => false
def isSlice : Expr → Bool
  | .Slice _ _ _ _ => true
  | _ => false
def isSet : Expr → Bool
  | .Set _ _ _ => true
  | _ => false
def noStar (es : List Expr) : Bool := es.all fun e => !isStar e
theorem star_cons {e : Expr} {es : List Expr} {env : Env} (h : isStar e = false) : starEach (e :: es) env = (false, eval e env) :: starEach es env := by
  cases e <;> first | rfl | cases h
theorem star_any {pos : Pos} {env : Env} : ∀ {es : List Expr}, noStar es = true → (backTo pos (starEach es env)).any (·.1) = false
  | [], _ => rfl
  | e :: es, h => by
    unfold noStar at h
    rw [List.all_cons, Bool.and_eq_true] at h
    rw [star_cons (by simpa using h.1)]
    show (false || (backTo pos (starEach es env)).any (·.1)) = false
    rw [Bool.false_or]
    exact star_any h.2
theorem star_all {pos : Pos} {env : Env} : ∀ {es : List Expr}, noStar es = true → (backTo pos (starEach es env)).all (fun x => !x.1) = true
  | [], _ => rfl
  | e :: es, h => by
    unfold noStar at h
    rw [List.all_cons, Bool.and_eq_true] at h
    rw [star_cons (by simpa using h.1)]
    show (true && (backTo pos (starEach es env)).all (fun x => !x.1)) = true
    rw [Bool.true_and]
    exact star_all h.2
/-! ### the compiler -/
/-- a def with keyword-only parameters: how many others, these (with their defaults), which of them a call may give -/
structure KwI where
  many : Nat
  sp : List (Str × Option D)
  pats : List (List Bool)
structure Tb where
  fns : Str → Bool
  kw : Str → Option KwI
  /-- variables that a comprehension walks and that keep their list -/
  own : Str → Bool := fun _ => false
  /-- classes of errors, their fields -/
  exc : Str → Option (List Str) := fun _ => none
  /-- `_law_tried` stands ready -/
  lam : Bool := false
/-- for a def that makes lambdas, that makes none -/
def Tb.wl (T : Tb) (b : Bool) : Tb := ⟨T.fns, T.kw, T.own, T.exc, b⟩
/-- within an inner block -/
def Tb.noLam (T : Tb) : Tb := ⟨T.fns, T.kw, T.own, fun _ => none, false⟩
def binOf : Operator → Option P2
  | .Add => some .add | .Sub => some .sub | .Mult => some .mul | .FloorDiv => some .fdiv | .Mod => some .mod | .Pow => some .pow
  | .LShift => some .shl | .RShift => some .shr | .BitOr => some .bor | .BitAnd => some .band | _ => none
def cmpOf : CmpOp → Option P2
  | .Eq => some .eq | .NotEq => some .ne | .Lt => some .lt | .LtE => some .le | .Gt => some .gt | .GtE => some .ge
  | .In => some .inn | .NotIn => some .notIn | _ => none
def compEs (f : Expr → CE) : List Expr → CEs
  | [] => .nil
  | e :: r => .cons (f e) (compEs f r)
theorem compEs_len (f : Expr → CE) : ∀ es : List Expr, lenEs (compEs f es) = es.length
  | [] => rfl
  | _ :: r => congrArg (· + 1) (compEs_len f r)
def compB (f : Expr → CE) (op : BoolOp) : List Expr → CE
  | [] => .stuck
  | [a] => f a
  | a :: b :: r => match op with
    | .And => .andE (f a) (compB f op (b :: r))
    | .Or => .orE (f a) (compB f op (b :: r))
def nameC (N : List Str) (S : Scope) (x : Str) : CE := if visB S x && !dbgB x then (match slotOf N x with
  | some i => .var i
  | none => .stuck) else if glB S x && !dbgB x then .glob x else .stuck
def constC : Const → CE
  | .none => .const .non
  | .bool b => .const (.bl b)
  | .int i => .const (.int i)
  | .str s => .const (.str s)
  | _ => .stuck
def isNoneE : Expr → Bool
  | .Constant .none _ _ => true
  | _ => false
def isBoolE : Expr → Option Bool
  | .Constant (.bool b) _ _ => some b
  | _ => none
def cmpC (f : Expr → CE) (a : Expr) (op : CmpOp) (b : Expr) : CE := match op with
  | .Is => if isNoneE b then .p1 .isNone (f a) else (match isBoolE b with
    | some k => .p1 (.isB k) (f a)
    | none => .stuck)
  | .IsNot => if isNoneE b then .p1 .notNone (f a) else (match isBoolE b with
    | some k => .p1 (.isNB k) (f a)
    | none => .stuck)
  | _ => match cmpOf op with
    | some o => if isSet b then .stuck else .p2 o (f a) (f b)
    | none => .stuck
def tyNm (x : Str) : Option Ty := if x = "bool" then some .bool else if x = "int" then some .int else if x = "str" then some .str else if x = "dict" then some .dict else if x = "tuple" then some .tuple else if x = "list" then some .list else none
def b1 (x : Str) : Option P1 := if x = "len" then some .len else if x = "int" then some .int else if x = "str" then some .str else if x = "tuple" then some .tuple else if x = "list" then some .list else
  if x = "all" then some .all else if x = "any" then some .any else if x = "sum" then some .sumL else if x = "max" then some .maxL else if x = "min" then some .minL else none
/-- which of the keyword-only parameters are given -/
def patOf : List (Str × Option D) → List Keyword → Option (List Bool)
  | [], [] => some []
  | [], _ :: _ => none
  | (_, d) :: sp, [] => if d.isSome then (patOf sp []).map (false :: ·) else none
  | (q, d) :: sp, k :: ks => if k.arg = some q then (patOf sp ks).map (true :: ·) else if d.isSome then (patOf sp (k :: ks)).map (false :: ·) else none
def compFs (f : Expr → CE) : List (Str × Option D) → List Bool → List Keyword → CEs
  | _ :: sp, true :: b, k :: ks => .cons (f k.value) (compFs f sp b ks)
  | (_, some d) :: sp, false :: b, ks => .cons (.const d) (compFs f sp b ks)
  | _, _, _ => .nil
def appEs : CEs → CEs → CEs
  | .nil, m => m
  | .cons a l, m => .cons a (appEs l m)
def callK (T : Tb) (S : Scope) (f : Expr → CE) (x : Str) (args : List Expr) (kws : List Keyword) : CE := match T.kw x with
  | none => .stuck
  | some I => match patOf I.sp kws with
    | none => .stuck
    | some b => if glB S x && T.fns x && (decide (args.length = I.many) && decide (0 < I.many)) && (noStar args && !dbgB x) && (I.pats.contains b && I.sp.all fun q => (q.2.map isScal).getD true) then .call x (appEs (compEs f args) (compFs f I.sp b kws)) else .stuck
def userC (T : Tb) (f : Expr → CE) (x : Str) (args : List Expr) : CE := if T.fns x then (if noStar args && !dbgB x && (T.kw x).isNone then .call x (compEs f args) else .stuck) else .stuck
def callC (T : Tb) (S : Scope) (f : Expr → CE) (x : Str) (args : List Expr) : CE := if glB S x then (match args with
  | [a] => match b1 x with
    | some o => if isStar a then .stuck else .p1 o (f a)
    | none => if x = "dict" then (match a with
        | .Call (.Name y _) [u, v] [] _ => if y = "zip" then (if glB S "zip" && noStar [u, v] then .dictZip (compEs f [u, v]) else .stuck) else .stuck
        | _ => .stuck)
      else userC T f x [a]
  | [a, b] => if isStar a || isStar b then .stuck else if x = "max" then .p2 .max2 (f a) (f b) else if x = "min" then .p2 .min2 (f a) (f b) else
      if x = "isinstance" then (match b with
        | .Name t _ => if glB S t then (match tyNm t with | some u => .p1 (.isT u) (f a) | none => .stuck) else .stuck
        | .Tuple [.Name t _, .Name t' _] _ _ => if glB S t && glB S t' then (match tyNm t, tyNm t' with | some u, some u' => .p1 (.isT2 u u') (f a) | _, _ => .stuck) else .stuck
        | _ => .stuck)
      else userC T f x [a, b]
  | args => userC T f x args) else .stuck
def mOf (m : Str) (n : Nat) : Option MOp := if m = "append" ∧ n = 1 then some .append else if m = "pop" ∧ n = 0 then some .pop else if m = "pop" ∧ n = 1 then some .popAt else if m = "insert" ∧ n = 2 then some .insert else none
def noCall : Expr → Bool
  | .Call _ _ _ _ => false
  | _ => true
def methC (N : List Str) (S : Scope) (f : Expr → CE) (o : Expr) (m : Str) (apos : Pos) (args : List Expr) (cpos : Pos) : CE :=
  if (apos.endLine == cpos.line) && noStar args then (match mOf m args.length, o with
    | some k, .Name x _ => if visB S x && !dbgB x then (match slotOf N x with
      | some i => .mut i k (compEs f args)
      | none => .stuck) else .stuck
    | _, _ => match args with
      | [a, b] => if m = "get" ∧ noCall o = true then .p3 .getOr (f o) (f a) (f b) else .stuck
      | [a] => if m = "index" ∧ noCall o = true then .p3 .idx (f o) (f a) (.const .non) else .stuck
      | _ => .stuck)
  else .stuck
def tgNames (bs : Option Scope) (N : List Str) (S : Scope) : List Expr → Option (List Nat)
  | [] => some []
  | .Name x _ :: r => if tgtB bs S x then (match slotOf N x, tgNames bs N S r with
    | some i, some is => some (i :: is)
    | _, _ => none) else none
  | _ => none
def tgC (bs : Option Scope) (N : List Str) (S : Scope) : Expr → Option G.TG
  | .Name x _ => if tgtB bs S x then (slotOf N x).map .name else none
  | .Tuple es _ _ => (tgNames bs N S es).map .tup
  | _ => none
def isTupE : Expr → Bool
  | .Tuple _ _ _ => true
  | _ => false
def iterC (S : Scope) (f : Expr → CE) (tg : Expr) : Expr → Option CI
  | .Call (.Name x _) [a] [] _ => if x = "range" then (if glB S "range" && !isStar a then some (.rng1 (f a)) else none)
      else if x = "enumerate" then (if glB S "enumerate" && !isStar a && isTupE tg then some (.enum (f a)) else none)
      else if x = "reversed" then (if glB S "reversed" && !isStar a then some (.rev (f a)) else none)
      else none
  | .Call (.Name x _) [a, b] [] _ => if x = "range" then (if glB S "range" && !isStar a && !isStar b then some (.rng2 (f a) (f b)) else none)
      else if x = "zip" then (if glB S "zip" && !isStar a && !isStar b && isTupE tg then some (.zip (f a) (f b)) else none)
      else none
  | .Call (.Name x _) [a, b, c] [] _ => if x = "range" then (if glB S "range" && !isStar a && !isStar b && !isStar c then some (.rng3 (f a) (f b) (f c)) else none) else none
  | _ => none
def iterV (S : Scope) (f : Expr → CE) (tg : Expr) (e : Expr) : CI := match iterC S f tg e with
  | some c => c
  | none => .val (f e)
def ownOf (N : List Str) (scope : Scope) : List (Str × Nat) := scope.names.filterMap fun y => match y.2 with
  | .local => (slotOf N y.1).map fun i => (y.1, i)
  | .cell => (slotOf N y.1).map fun i => (y.1, i)
  | _ => none
/-- f: in the block's scope, g: outside -/
def ownIt (ow : Str → Bool) (N : List Str) (S : Scope) : Expr → Option Nat
  | .Name x _ => if ow x && (visB S x && !dbgB x) then slotOf N x else none
  | _ => none
def compC (ow : Str → Bool) (N : List Str) (S : Scope) (g : Expr → CE) (f : Expr → CE) (elt : Expr) (gs : List Comprehension) (scope : Scope) : CE := match gs with
  | [⟨tg, iter, ifs, 0⟩] => if blkC N S scope (ownOf N scope) && !isSet iter then (match tgC (some scope) N (relS scope S) tg with
      | some t => match ownIt ow N S iter with
        | none => (match ifs with
          | [] => .comp ((ownOf N scope).map (·.2)) t (iterV S g tg iter) (f elt)
          | [c] => .compIf ((ownOf N scope).map (·.2)) t (iterV S g tg iter) (f c) (f elt)
          | _ => .stuck)
        | some i => (match ifs with
          | [] => .compO ((ownOf N scope).map (·.2)) t i (f elt)
          | [c] => .compOIf ((ownOf N scope).map (·.2)) t i (f c) (f elt)
          | _ => .stuck)
      | none => .stuck) else .stuck
  | [⟨tg, iter, [], 0⟩, ⟨tg1, iter1, ifs1, 0⟩] => if blkC N S scope (ownOf N scope) && !isSet iter && !isSet iter1 then (match tgC (some scope) N (relS scope S) tg, tgC (some scope) N (relS scope S) tg1 with
      | some t, some t1 => if (tgSlots t1).all fun i => ((ownOf N scope).map (·.2)).contains i then (match ifs1 with
        | [] => .comp2 ((ownOf N scope).map (·.2)) t (iterV S g tg iter) (tgSlots t1) t1 (iterV (relS scope S) f tg1 iter1) (f elt)
        | [c] => .comp2If ((ownOf N scope).map (·.2)) t (iterV S g tg iter) (tgSlots t1) t1 (iterV (relS scope S) f tg1 iter1) (f c) (f elt)
        | _ => .stuck) else .stuck
      | _, _ => .stuck) else .stuck
  | _ => .stuck
def keyOf : Option Expr → Option Key
  | some (.Constant (.int i) _ _) => some (.inl i)
  | some (.Constant (.str s) _ _) => some (.inr s)
  | _ => none
def keysOf : List (Option Expr) → Option (List Key)
  | [] => some []
  | k :: r => match keyOf k, keysOf r with
    | some k, some ks => some (k :: ks)
    | _, _ => none
/-- no parameters -/
def noPar : Arguments → Bool
  | ⟨[], [], none, [], [], none, []⟩ => true
  | _ => false
/-- f: in the lambda's scope -/
def triC (S : Scope) (f : Scope → Expr → CE) (args : List Expr) (kws : List Keyword) : CE := match args, kws with
  | [.Lambda params body scope _], [] => if glB S "_law_tried" && LamX.lamSB S scope && noPar params then .tried (f scope body) else .stuck
  | _, _ => .stuck
def compE (T : Tb) (N : List Str) : Nat → Scope → Expr → CE
  | 0, _, _ => .stuck
  | n + 1, S, e => match e with
    | .Constant c _ _ => constC c
    | .Name x _ => nameC N S x
    | .BinOp a op b _ => match binOf op with
      | some o => .p2 o (compE T N n S a) (compE T N n S b)
      | none => .stuck
    | .UnaryOp .Not a _ => .notE (compE T N n S a)
    | .UnaryOp .USub a _ => .p1 .neg (compE T N n S a)
    | .BoolOp op vs _ => compB (compE T N n S) op vs
    | .IfExp c a b _ => .ifE (compE T N n S c) (compE T N n S a) (compE T N n S b)
    | .Compare a [op] [b] _ => cmpC (compE T N n S) a op b
    | .Compare a [op, op'] [b, c] _ => (match cmpOf op, cmpOf op' with
      | some o, some o' => if isSet c then .stuck else .chain o o' (compE T N n S a) (compE T N n S b) (compE T N n S c)
      | _, _ => .stuck)
    | .Tuple es _ _ => if noStar es && decide (es.length ≤ 1000) then .tup (compEs (compE T N n S) es) else .stuck
    | .List es _ => if noStar es && decide (es.length ≤ 1000) then .lst (compEs (compE T N n S) es) else .stuck
    | .Dict ks vs _ => (match keysOf ks with
      | some k => if decide (ks.length = vs.length) && !ks.isEmpty && decide (ks.length ≤ 15) then .dic k (compEs (compE T N n S) vs) else .stuck
      | none => .stuck)
    | .Subscript a (.Slice none none (some (.UnaryOp .USub (.Constant (.int 1) _ _) _)) _) _ => .p1 .back (compE T N n S a)
    | .Subscript a (.Slice lo hi none _) _ => (match lo, hi with
      | some l, none => .p2 .sfrom (compE T N n S a) (compE T N n S l)
      | none, some h => .p2 .sto (compE T N n S a) (compE T N n S h)
      | some l, some h => .p3 .slice (compE T N n S a) (compE T N n S l) (compE T N n S h)
      | none, none => .stuck)
    | .Subscript a i _ => if isSlice i then .stuck else .p2 .get (compE T N n S a) (compE T N n S i)
    | .Call (.Name x _) args kws _ => if T.lam && decide (x = "_law_tried") then triC S (compE T.noLam N n) args kws else (if kws.isEmpty && (T.kw x).isNone then callC T S (compE T N n S) x args else callK T S (compE T N n S) x args kws)
    | .Call (.Attribute o m apos) args [] cpos => methC N S (compE T N n S) o m apos args cpos
    | .ListComp elt gs scope _ => compC T.own N S (compE T N n S) (compE T.noLam N n (relS scope S)) elt gs scope
    | _ => .stuck
/-! ### statements -/
def compSs (f : Stmt → CS) : List Stmt → CSs
  | [] => .nil
  | s :: r => .cons (f s) (compSs f r)
def isLc : Expr → Bool
  | .ListComp _ _ _ _ => true
  | .SetComp _ _ _ _ => true
  | .DictComp _ _ _ _ _ => true
  | _ => false
def isDoc : Expr → Bool
  | .Constant (.str _) _ _ => true
  | _ => false
def lcSw (S : Scope) (x : Str) (px : Pos) : Expr → Bool
  | .ListComp _ _ scope pos => (match S.kind with | .function => true | _ => false) && S.names.lookup x == some .local && (px.line == pos.line) && !(scope.names.any fun (n, k) => n == x && (k == .local || k == .cell))
  | _ => false
/-- a name that inner blocks share: no swap -/
def lcNo (S : Scope) (x : Str) : Expr → Bool
  | .ListComp _ _ _ _ => S.names.lookup x == some .cell
  | _ => false
def asgC (T : Tb) (N : List Str) (n : Nat) (S : Scope) (tg e : Expr) : CS := match tg with
  | .Name x px => if tgtB none S x then (match slotOf N x with
    | some i => if isLc e then (if lcSw S x px e || lcNo S x e then .asg i (compE T N n S e) else .stuck) else .asg i (compE T N n S e)
    | none => .stuck) else .stuck
  | .Tuple es _ _ => if isLc e || isTupE e then .stuck else (match tgNames none N S es with
    | some is => .asgT is (compE T N n S e)
    | none => .stuck)
  | .Subscript (.Name x _) k _ => if isLc e || isSlice k || !(visB S x && !dbgB x) then .stuck else (match slotOf N x with
    | some i => .setI i (compE T N n S k) (compE T N n S e)
    | none => .stuck)
  | _ => .stuck
def compS (T : Tb) (N : List Str) (m : Nat) : Nat → Scope → Stmt → CS
  | 0, _, _ => .stuck
  | n + 1, S, s => match s with
    | .Pass _ => .pass
    | .Break _ => .brk
    | .Continue _ => .cont
    | .Return none _ => .retN
    | .Return (some e) _ => .ret (compE T N m S e)
    | .Expr e _ => if isDoc e then .pass else if isLc e then .stuck else .expr (compE T N m S e)
    | .If c a b _ => .ifS (compE T N m S c) (compSs (compS T N m n S) a) (compSs (compS T N m n S) b)
    | .While c b [] _ => .whileS (compE T N m S c) (compSs (compS T N m n S) b)
    | .For tg it b [] _ => (match tgC none N S tg with
      | some t => if isSet it then .stuck else .forS t (iterV S (compE T N m S) tg it) (compSs (compS T N m n S) b)
      | none => .stuck)
    | .Assign [tg] e _ => asgC T N m S tg e
    | .Raise (some (.Call (.Name x _) (e :: es) [] _)) none _ => if glB S x && !dbgB x && noStar (e :: es) then (match T.exc x with
      | some fs => .raise x fs (compEs (compE T N m S) (e :: es))
      | none => .stuck) else .stuck
    | .AugAssign (.Name x _) op e _ => (match op with
      | .Add => if tgtB none S x then (match slotOf N x with
        | some i => .asg i (.p2 .iadd (.var i) (compE T N m S e))
        | none => .stuck) else .stuck
      | .Sub => if tgtB none S x then (match slotOf N x with
        | some i => .asg i (.p2 .isub (.var i) (compE T N m S e))
        | none => .stuck) else .stuck
      | _ => .stuck)
    | _ => .stuck
/-! ### soundness -/
def bnames : List Str := ["len", "int", "str", "tuple", "list", "all", "any", "sum", "max", "min", "isinstance", "range", "enumerate", "bool", "dict", "reversed", "zip"]
abbrev noX : (Addr → Prop) → Hp → List Addr → Ex → XK → Prop := fun _ _ _ _ _ => False
/-- the value of a default -/
def vOf : D → V
  | .bl b => .bl b | .int i => .int i | .str s => .str s | _ => .non
theorem vOf_rep {K : PySem.W.Frag} {d : D} (h : isScal d = true) (F : Addr → Prop) (H : Hp) : Rep K F H (vOf d) d := by
  cases d <;> first | (cases h; done) | constructor
def fillV : List (Str × Option D) → List Bool → List V → List V
  | _ :: sp, true :: b, z :: zs => z :: fillV sp b zs
  | (_, some d) :: sp, false :: b, zs => vOf d :: fillV sp b zs
  | _, _, _ => []
def givenN : List (Str × Option D) → List Bool → List Str
  | (q, _) :: sp, true :: b => q :: givenN sp b
  | _ :: sp, false :: b => givenN sp b
  | _, _ => []
/-- how a def's parameters are bound -/
def FnB (K : PySem.W.Frag) (T : Tb) (x : Str) (fd : FuncData) (ps : List Str) : Prop := match T.kw x with
  | none => Binds K fd ps []
  | some I => ∀ b, b ∈ I.pats → ∃ g gV, KBn K fd ps I.many (givenN I.sp b) g gV ∧ ∀ vs zs, vs.length = I.many → zs.length = (givenN I.sp b).length → gV vs zs = vs ++ fillV I.sp b zs
structure Good (T : Tb) (N : List Str) (C : Ctx) (bs : Option Scope) (S : Scope) (X : Cx) (W : WT) : Prop where
  hN : X.N = N
  hu : X.A.units + 200 < cLine
  calm : X.calm = true
  nd : N.Nodup
  sc : X.env.scope = S
  fnx : ∀ x, X.fn x = (match bs with | none => true | some sc => sc.names.lookup x == some .cell)
  blt : ∀ x, x ∈ bnames → X.mg x = none
  tb : ∀ x, T.fns x = true → ∃ fn, C.fns x = some fn
  gb : ∀ x d, C.globs x = some d → ∃ u v, X.mg x = some u ∧ RelV v u ∧ ∀ F H, Rep X.K F H v d
  po : PassesOwn (model X.prog X.w) X.A X.env X.xe
  fn : ∀ f fn, C.fns f = some fn → ∃ n a fd ps, FnOk X.prog X.w X.K X.mg X.base (L2.CX X.prog X.w) n a fd ps (spOf X.K fn.lent (EXR X.K X.mg) (C.run f)) ∧ Room n X.A ∧ X.mg f = some (.ref a) ∧ PySem.W.keepIn X.K (.ref a) = true ∧ FnB X.K T f fd ps
  exc : ∀ x fs, T.exc x = some fs → ∃ Cc fI k fd ps, OexC X.K Cc ∧ PySem.W.findIn X.K (.ref Cc) "__init__" = some (some (.ref fI)) ∧ PySem.W.typeIn X.K (.ref fI) = some (.type "function") ∧ FnOk X.prog X.w X.K X.mg X.base (L2.CX X.prog X.w) k fI fd ps (spI Cc fs) ∧ Room (k + 1) X.A ∧ Binds X.K fd ps [] ∧ X.mg x = some (.ref Cc) ∧ fs.Nodup ∧ fs.length ≤ 1000
  ex : ∃ E : XK, L2.Takes X (fun cls d _ H => E cls d H) ∧ ∀ (σ : L2.St) F1 H1 env1 L x, W F1 H1 σ env1 x → (∀ a, a ∈ L → OwnA σ env1 a) → EXR X.K X.mg F1 H1 L x E
  lam : T.lam = true → TriG X.K X.mg ∧ TriAt X.base X.mg X.env.qual X.env.code ∧ ∃ k, Room (k + 2) X.A ∧ ∀ f fn, C.fns f = some fn → ∃ a fd ps, FnOk X.prog X.w X.K X.mg X.base (L2.CX X.prog X.w) k a fd ps (spOf X.K fn.lent (EXR X.K X.mg) (C.runL f)) ∧ X.mg f = some (.ref a) ∧ PySem.W.keepIn X.K (.ref a) = true ∧ FnB X.K T f fd ps
section
variable {T : Tb} {N : List Str} {C : Ctx} {bs : Option Scope} {S : Scope} {X : Cx} {f : Expr → CE} {W : WT} [hW : Wok W]
theorem Good.gl (G : Good T N C bs S X W) {x : Str} (h : glB S x = true) : Gl X x := by
  unfold Gl Env.kindOf
  rw [G.sc]
  exact glB_ok h
theorem Good.vis (G : Good T N C bs S X W) {x : Str} (h : visB S x = true) : Vis X.env.scope x := by
  rw [G.sc]; exact visB_ok h
theorem Good.tgt (G : Good T N C bs S X W) {x : Str} (h : tgtB bs S x = true) : Loc X.env.scope x ∧ (X.fn x = true ∨ X.env.scope.names.lookup x = some .local) := by
  unfold tgtB at h
  rw [G.sc]
  split at h
  · rename_i e
    exact ⟨.inl e, .inr e⟩
  · rename_i e
    refine ⟨.inr e, .inl ?_⟩
    rw [G.fnx]
    cases bs with
    | none => rfl
    | some sc => exact h
  · cases h
theorem dbg_ok {x : Str} (h : (!dbgB x) = true) : (x == ("__debug__" : Str)) = false ∧ (x == ("__classdict__" : Str)) = false := by
  unfold dbgB at h
  rw [Bool.not_or, Bool.and_eq_true] at h
  exact ⟨by simpa using h.1, by simpa using h.2⟩
theorem tE_stuck {K : PySem.W.Frag} {W : WT} {σ : L2.St} {H : Hp} {Q : VK} : ¬ tE K C W .stuck σ H Q := fun ⟨F, env, s, q⟩ => q.elim
theorem tT_stuck {K : PySem.W.Frag} {W : WT} {σ : L2.St} {H : Hp} {Q : Bool → Hp → Prop} : ¬ tT K C W .stuck σ H Q := fun ⟨F, env, s, q⟩ => q.elim
theorem pe_stuck {e : Expr} {W : WT} : PE X e (tE X.K C W .stuck) := pe_false fun _ _ _ => tE_stuck
theorem pt_stuck {e : Expr} {W : WT} : PT X e (tT X.K C W .stuck) := pt_false fun _ _ _ => tT_stuck
theorem pe_name (G : Good T N C bs S X W) {x : Str} {pos : Pos} : PE X (.Name x pos) (tE X.K C W (nameC N S x)) := by
  unfold nameC
  split
  · rename_i h
    rw [Bool.and_eq_true] at h
    split
    · rename_i i hi
      exact PE.imp (pe_var (by rw [G.hN]; exact slotOf_ok hi) (G.vis h.1) (dbg_ok h.2).1 (dbg_ok h.2).2) fun _ _ _ => r_var
    · exact pe_stuck
  · split
    · rename_i h
      rw [Bool.and_eq_true] at h
      cases hd : C.globs x with
      | none =>
        refine pe_false fun σ H Q q => ?_
        obtain ⟨F, env, s, q⟩ := q
        simp only [evalE, hd] at q
        exact q.elim
      | some d =>
        obtain ⟨u, v, h1, h2, h3⟩ := G.gb x d hd
        exact PE.imp (pe_glob (G.gl h.1) h1 h2 (dbg_ok h.2).1) fun _ H _ q => r_glob hd q fun F => h3 F H
    · exact pe_stuck
theorem pe_constC {c : Const} {k : Nat} {pos : Pos} : PE X (.Constant c k pos) (tE X.K C W (constC c)) := by
  cases c <;> first | exact pe_stuck | skip
  · exact PE.imp pe_non fun _ _ _ q => r_const q fun _ => .non
  · exact PE.imp pe_bl fun _ _ _ q => r_const q fun _ => .bl _
  · exact PE.imp pe_int fun _ _ _ q => r_const q fun _ => .int _
  · exact PE.imp pe_str fun _ _ _ q => r_const q fun _ => .str _
theorem pa_all (hf : ∀ e, PE X e (tE X.K C W (f e))) : ∀ {es : List Expr}, noStar es = true → PA X es (tA X.K C W (compEs f es))
  | [], _ => PA.imp pa_nil fun _ _ _ => r_nil
  | e :: es, h => by
    unfold noStar at h
    rw [List.all_cons, Bool.and_eq_true] at h
    exact PA.imp (pa_cons (hf e) (pa_all hf h.2) (star_cons (by simpa using h.1))) fun _ _ _ => r_cons hW
theorem binOp_ok {op : Operator} {o : P2} (h : binOf op = some o) : OpR X (binaryOp op) (rD X.K (prim2 o)) := by
  cases op <;> cases h
  · exact op2_add
  · exact op2_sub
  · exact op2_mul
  · exact op2_mod
  · exact op2_pow
  · exact op2_shl
  · exact op2_shr
  · exact op2_bor
  · exact op2_band
  · exact op2_fdiv
theorem cmpOp_ok (G : Good T N C bs S X W) {op : CmpOp} {o : P2} (h : cmpOf op = some o) : OpR X (compareOp op) (rD X.K (prim2 o)) := by
  have hu := G.hu
  cases op <;> cases h
  · exact op2_eq (by omega)
  · exact op2_ne (by omega)
  · exact op2_lt
  · exact op2_le
  · exact op2_gt
  · exact op2_ge
  · exact op2_in (by omega)
  · exact op2_notIn (by omega)
theorem cmp_bool {op : CmpOp} {o : P2} (h : cmpOf op = some o) {d e : D} {r : Rv} (hr : prim2 o d e = some r) : ∃ b, r = .val (.bl b) := by
  cases op <;> cases h
  case Eq => simp only [prim2, boolR, Option.map_eq_some_iff] at hr; obtain ⟨b, _, rfl⟩ := hr; exact ⟨_, rfl⟩
  case NotEq => simp only [prim2, boolR, Option.map_eq_some_iff] at hr; obtain ⟨b, _, rfl⟩ := hr; exact ⟨_, rfl⟩
  case In => simp only [prim2, boolR, Option.map_eq_some_iff] at hr; obtain ⟨b, _, rfl⟩ := hr; exact ⟨_, rfl⟩
  case NotIn => simp only [prim2, boolR, Option.map_eq_some_iff] at hr; obtain ⟨b, _, rfl⟩ := hr; exact ⟨_, rfl⟩
  all_goals (cases d <;> cases e <;> first | (cases hr; done) | (cases hr; exact ⟨_, rfl⟩))
theorem noSet_marks {op : CmpOp} {b : Expr} (h : isSet b = false) : behindInMarks op b = false := by
  cases b <;> first | rfl | cases h
theorem rD_bool {K : PySem.W.Frag} {g : D → D → Option Rv} (hb : ∀ d e r, g d e = some r → ∃ b, r = .val (.bl b)) {x y : V} {H : Hp} {Q : Bool → Hp → Prop} (h : rD K g x y H fun x H' => ∃ k, TruV K x H' k ∧ Q k H') : rD K g x y H fun x H' => ∃ k, x = .bl k ∧ Q k H' := by
  obtain ⟨F, d, e, r, cx, cy, hg, q⟩ := h
  obtain ⟨b, rfl⟩ := hb d e r hg
  refine ⟨F, d, e, _, cx, cy, hg, fun v H' sm rv => ?_⟩
  obtain ⟨k, h1, h2⟩ := q v H' sm rv
  cases rv
  cases h1
  exact ⟨_, rfl, h2⟩
theorem isNone_eq {K : PySem.W.Frag} {F : Addr → Prop} {H : Hp} {x : V} {d : D} (h : Cont K F H x d) : prim1 .isNone d = some (.val (.bl (decide (x = .non)))) ∧ prim1 .notNone d = some (.val (.bl (!decide (x = .non)))) := by
  cases d
  case non => cases h.non_; exact ⟨rfl, rfl⟩
  case bl => cases h.bl_; exact ⟨rfl, rfl⟩
  case int => cases h.int_; exact ⟨rfl, rfl⟩
  case str => cases h.str_; exact ⟨rfl, rfl⟩
  case tup => obtain ⟨_, _, rfl, _⟩ := h.tup_; exact ⟨rfl, rfl⟩
  case lst => obtain ⟨_, _, rfl, _⟩ := h.lst_; exact ⟨rfl, rfl⟩
  case frz => obtain ⟨_, _, rfl, _⟩ := h.frz_; exact ⟨rfl, rfl⟩
  case dic => obtain ⟨_, _, rfl, _⟩ := h.dic_; exact ⟨rfl, rfl⟩
  case dct => exact h.dct_.elim
  case obj => exact h.obj_.elim
theorem op_isB {X : Cx} {b : Bool} : OpR X (compareOp .Is) (fun x y H Q => y = .bl b ∧ ((∃ a, x = .bl a ∧ Q (.bl (a == b)) H) ∨ (x = .non ∧ Q (.bl false) H))) := by
  intro pins s σ H x y v u Q I rx ry h
  obtain ⟨rfl, h⟩ := h
  cases (show u = Value.bool b from ry)
  rcases h with ⟨a, rfl, q⟩ | ⟨rfl, q⟩
  · cases (show v = Value.bool a from rx)
    by_cases e : a = b
    · subst e
      exact wpAny_is_self rfl ⟨.bl true, H, I, rfl, by simpa using q⟩
    · exact wpAny_is_other rfl (fun z => e (Value.bool.inj z)) ⟨.bl false, H, I, rfl, by
        have : (a == b) = false := beq_eq_false_iff_ne.mpr e
        rw [this] at q; exact q⟩
  · cases rx
    exact wpAny_is_other rfl (fun z => nomatch z) ⟨.bl false, H, I, rfl, q⟩
theorem isB_cases {K : PySem.W.Frag} {F : Addr → Prop} {H : Hp} {x : V} {d : D} {b : Bool} {r : Rv} (h : Cont K F H x d) (g : prim1 (.isB b) d = some r) : (∃ a, x = .bl a ∧ r = .val (.bl (a == b))) ∨ (x = .non ∧ r = .val (.bl false)) := by
  cases d
  case non => cases h.non_; cases g; exact .inr ⟨rfl, rfl⟩
  case bl => cases h.bl_; cases g; exact .inl ⟨_, rfl, rfl⟩
  all_goals cases g
theorem op_isNB {X : Cx} {b : Bool} : OpR X (compareOp .IsNot) (fun x y H Q => y = .bl b ∧ ((∃ a, x = .bl a ∧ Q (.bl (!(a == b))) H) ∨ (x = .non ∧ Q (.bl true) H))) := by
  intro pins s σ H x y v u Q I rx ry h
  obtain ⟨rfl, h⟩ := h
  cases (show u = Value.bool b from ry)
  rcases h with ⟨a, rfl, q⟩ | ⟨rfl, q⟩
  · cases (show v = Value.bool a from rx)
    by_cases e : a = b
    · subst e
      exact wpAny_isNot_self rfl ⟨.bl false, H, I, rfl, by simpa using q⟩
    · exact wpAny_isNot_other rfl (fun z => e (Value.bool.inj z)) ⟨.bl true, H, I, rfl, by
        have : (a == b) = false := beq_eq_false_iff_ne.mpr e
        rw [this] at q; exact q⟩
  · cases rx
    exact wpAny_isNot_other rfl (fun z => nomatch z) ⟨.bl true, H, I, rfl, q⟩
theorem isNB_cases {K : PySem.W.Frag} {F : Addr → Prop} {H : Hp} {x : V} {d : D} {b : Bool} {r : Rv} (h : Cont K F H x d) (g : prim1 (.isNB b) d = some r) : (∃ a, x = .bl a ∧ r = .val (.bl (!(a == b)))) ∨ (x = .non ∧ r = .val (.bl true)) := by
  cases d
  case non => cases h.non_; cases g; exact .inr ⟨rfl, rfl⟩
  case bl => cases h.bl_; cases g; exact .inl ⟨_, rfl, rfl⟩
  all_goals cases g
theorem cmp_both (G : Good T N C bs S X W) (hf : ∀ e, PE X e (tE X.K C W (f e))) {a b : Expr} {op : CmpOp} {pos : Pos} :
    PE X (.Compare a [op] [b] pos) (tE X.K C W (cmpC f a op b)) ∧ PT X (.Compare a [op] [b] pos) (tT X.K C W (cmpC f a op b)) := by
  have gen : ∀ {o : P2}, cmpOf op = some o → isSet b = false → PE X (.Compare a [op] [b] pos) (tE X.K C W (.p2 o (f a) (f b))) ∧ PT X (.Compare a [op] [b] pos) (tT X.K C W (.p2 o (f a) (f b))) := fun {o} h hb => by
    refine ⟨PE.imp (pe_cmpR (cmpOp_ok G h) (hf a) (hf b) (noSet_marks hb)) fun _ _ _ => r_p2 hW, PT.imp (pt_cmpR (cmpOp_ok G h) (hf a) (hf b) (noSet_marks hb)) fun σ H Q q => ?_⟩
    have := r_p2 hW (r_truth rfl q)
    exact tE_mono (fun v H1 q => tE_mono (fun v2 H2 q => rD_bool (fun d e r hr => cmp_bool h hr) q) q) this
  have non : ∀ {j : Nat} {p : Pos}, PE X (.Constant .none j p) (tC .non) := pe_non
  cases op
  case Is =>
    show PE X _ (tE X.K C W (if isNoneE b then _ else _)) ∧ PT X _ (tT X.K C W (if isNoneE b then _ else _))
    split
    · rename_i hb
      cases b <;> first | (cases hb; done) | skip
      rename_i c _ _
      cases c <;> first | (cases hb; done) | skip
      refine ⟨PE.imp (pe_cmpR op_isN (hf a) non (nomark _)) fun σ H Q q => ?_, PT.imp (pt_cmpR op_isN (hf a) non (nomark _)) fun σ H Q q => ?_⟩
      · refine tE_mono (fun x H1 ⟨F, d, r, cx, hg, q⟩ => ⟨rfl, ?_⟩) (r_p1 q)
        rw [(isNone_eq cx).1] at hg
        cases hg
        exact res_bl q
      · refine tE_mono (fun x H1 ⟨F, d, r, cx, hg, q⟩ => ⟨rfl, ?_⟩) (r_p1 (r_truth rfl q))
        rw [(isNone_eq cx).1] at hg
        cases hg
        obtain ⟨k, h1, h2⟩ := res_bl q
        cases h1
        exact ⟨_, rfl, h2⟩
    · split
      · rename_i k hb
        cases b <;> first | (cases hb; done) | skip
        rename_i c _ _ _
        cases c <;> first | (exact nomatch (show none = some k from hb)) | skip
        rename_i kb _
        have hb : some kb = some k := hb
        cases hb
        have ct : ∀ {j : Nat} {p : Pos}, PE X (.Constant (.bool k) j p) (tC (.bl k)) := pe_bl
        refine ⟨PE.imp (pe_cmpR (op_isB (b := k)) (hf a) ct (nomark _)) fun σ H Q q => ?_, PT.imp (pt_cmpR (op_isB (b := k)) (hf a) ct (nomark _)) fun σ H Q q => ?_⟩
        · refine tE_mono (fun x H1 ⟨F, d, r, cx, hg, q⟩ => ⟨rfl, ?_⟩) (r_p1 q)
          rcases isB_cases cx hg with ⟨a, rfl, rfl⟩ | ⟨rfl, rfl⟩
          · exact .inl ⟨a, rfl, res_bl q⟩
          · exact .inr ⟨rfl, res_bl q⟩
        · refine tE_mono (fun x H1 ⟨F, d, r, cx, hg, q⟩ => ⟨rfl, ?_⟩) (r_p1 (r_truth rfl q))
          rcases isB_cases cx hg with ⟨a, rfl, rfl⟩ | ⟨rfl, rfl⟩
          · obtain ⟨k, h1, h2⟩ := res_bl q
            cases h1
            exact .inl ⟨a, rfl, _, rfl, h2⟩
          · obtain ⟨k, h1, h2⟩ := res_bl q
            cases h1
            exact .inr ⟨rfl, _, rfl, h2⟩
      · exact ⟨pe_stuck, pt_stuck⟩
  case IsNot =>
    show PE X _ (tE X.K C W (if isNoneE b then _ else _)) ∧ PT X _ (tT X.K C W (if isNoneE b then _ else _))
    split
    · rename_i hb
      cases b <;> first | (cases hb; done) | skip
      rename_i c _ _
      cases c <;> first | (cases hb; done) | skip
      refine ⟨PE.imp (pe_cmpR op_notN (hf a) non (nomark _)) fun σ H Q q => ?_, PT.imp (pt_cmpR op_notN (hf a) non (nomark _)) fun σ H Q q => ?_⟩
      · refine tE_mono (fun x H1 ⟨F, d, r, cx, hg, q⟩ => ⟨rfl, ?_⟩) (r_p1 q)
        rw [(isNone_eq cx).2] at hg
        cases hg
        exact res_bl q
      · refine tE_mono (fun x H1 ⟨F, d, r, cx, hg, q⟩ => ⟨rfl, ?_⟩) (r_p1 (r_truth rfl q))
        rw [(isNone_eq cx).2] at hg
        cases hg
        obtain ⟨k, h1, h2⟩ := res_bl q
        cases h1
        exact ⟨_, rfl, h2⟩
    · split
      · rename_i k hb
        cases b <;> first | (cases hb; done) | skip
        rename_i c _ _ _
        cases c <;> first | (exact nomatch (show none = some k from hb)) | skip
        rename_i kb _
        have hb : some kb = some k := hb
        cases hb
        have ct : ∀ {j : Nat} {p : Pos}, PE X (.Constant (.bool k) j p) (tC (.bl k)) := pe_bl
        refine ⟨PE.imp (pe_cmpR (op_isNB (b := k)) (hf a) ct (nomark _)) fun σ H Q q => ?_, PT.imp (pt_cmpR (op_isNB (b := k)) (hf a) ct (nomark _)) fun σ H Q q => ?_⟩
        · refine tE_mono (fun x H1 ⟨F, d, r, cx, hg, q⟩ => ⟨rfl, ?_⟩) (r_p1 q)
          rcases isNB_cases cx hg with ⟨a, rfl, rfl⟩ | ⟨rfl, rfl⟩
          · exact .inl ⟨a, rfl, res_bl q⟩
          · exact .inr ⟨rfl, res_bl q⟩
        · refine tE_mono (fun x H1 ⟨F, d, r, cx, hg, q⟩ => ⟨rfl, ?_⟩) (r_p1 (r_truth rfl q))
          rcases isNB_cases cx hg with ⟨a, rfl, rfl⟩ | ⟨rfl, rfl⟩
          · obtain ⟨k, h1, h2⟩ := res_bl q
            cases h1
            exact .inl ⟨a, rfl, _, rfl, h2⟩
          · obtain ⟨k, h1, h2⟩ := res_bl q
            cases h1
            exact .inr ⟨rfl, _, rfl, h2⟩
      · exact ⟨pe_stuck, pt_stuck⟩
  all_goals
    first
    | (show PE X _ (tE X.K C W (if isSet b then _ else _)) ∧ PT X _ (tT X.K C W (if isSet b then _ else _))
       split
       · exact ⟨pe_stuck, pt_stuck⟩
       · exact gen rfl (by simpa using ‹¬ isSet b = true›))
theorem pt_ifExp {c a b : Expr} {tc ta tb : TT} {pos : Pos} (hc : PT X c tc) (ha : PT X a ta) (hb : PT X b tb) : PT X (.IfExp c a b pos) (tIfT tc ta tb) := by
  refine ⟨fun pins s σ H Q I h => ?_⟩
  refine PyProof.Rows.isTrue_IfExp (thn (hc.run pins s σ H _ I h) fun d s1 ⟨H1, I1, q1⟩ => ?_)
  cases d with
  | true => exact ha.run pins s1 σ H1 Q I1 q1
  | false => exact hb.run pins s1 σ H1 Q I1 q1
theorem boolB (hf : ∀ e, PE X e (tE X.K C W (f e)) ∧ PT X e (tT X.K C W (f e))) {op : BoolOp} {pos : Pos} : ∀ {vs : List Expr}, PE X (.BoolOp op vs pos) (tE X.K C W (compB f op vs)) ∧ (PW X (.BoolOp op vs pos) (tT X.K C W (compB f op vs)))
  | [] => ⟨pe_stuck, pw_false fun _ _ _ => tT_stuck⟩
  | [a] => ⟨pe_one (hf a).1, by
    cases op
    · exact pw_and1 (hf a).2
    · exact pw_or1 (hf a).2⟩
  | a :: b :: r => by
    obtain ⟨h1, h2⟩ := boolB hf (op := op) (pos := pos) (vs := b :: r)
    cases op
    · exact ⟨PE.imp (pe_and (hf a).1 h1) fun _ _ _ => r_andV hW, PW.imp (pw_and (hf a).2 h2) fun _ _ _ => r_andT hW⟩
    · exact ⟨PE.imp (pe_or (hf a).1 h1) fun _ _ _ => r_orV hW, PW.imp (pw_or (hf a).2 h2) fun _ _ _ => r_orT hW⟩
theorem chain_both (G : Good T N C bs S X W) (hf : ∀ e, PE X e (tE X.K C W (f e))) {a b c : Expr} {op op' : CmpOp} {o o' : P2} {pos : Pos} (h : cmpOf op = some o) (h' : cmpOf op' = some o') (hc : isSet c = false) :
    PE X (.Compare a [op, op'] [b, c] pos) (tE X.K C W (.chain o o' (f a) (f b) (f c))) ∧ PT X (.Compare a [op, op'] [b, c] pos) (tT X.K C W (.chain o o' (f a) (f b) (f c))) := by
  have hm : lastMarks [op, op'] [b, c] = false := noSet_marks (op := op') hc
  refine ⟨PE.imp (pe_chain (cmpOp_ok G h) (cmpOp_ok G h') (hf a) (hf b) (hf c) hm) fun _ _ _ => r_chain hW, PT.imp (pt_chain (cmpOp_ok G h) (cmpOp_ok G h') (hf a) (hf b) (hf c) hm) fun σ H Q q => ?_⟩
  refine tE_mono (fun x H1 q => tE_mono (fun y H2 q => ?_) q) (r_chain hW (r_truth rfl q))
  obtain ⟨F, d, e, r, cx, cy, hg, q⟩ := q
  refine ⟨F, d, e, r, cx, cy, hg, ?_⟩
  obtain ⟨b', rfl⟩ := cmp_bool h hg
  intro v H' sm rv
  obtain ⟨k, e1, q⟩ := q v H' sm rv
  refine ⟨k, e1, ?_⟩
  cases k with
  | false =>
    obtain ⟨k2, h2, h3⟩ := q
    cases h2
    exact ⟨_, rfl, h3⟩
  | true => exact tE_mono (fun z H3 q => rD_bool (fun d e r hr => cmp_bool h' hr) q) q
theorem pe_tupC (hf : ∀ e, PE X e (tE X.K C W (f e))) {es : List Expr} {k : Nat} {pos : Pos} : PE X (.Tuple es k pos) (tE X.K C W (if noStar es && decide (es.length ≤ 1000) then .tup (compEs f es) else .stuck)) := by
  split
  · rename_i h
    rw [Bool.and_eq_true, decide_eq_true_eq] at h
    exact PE.imp (pe_tupU (pa_all hf h.1)) fun _ _ _ => r_tup (by rw [compEs_len, sizeLine_eq]; omega)
  · exact pe_stuck
theorem pe_lstC (hf : ∀ e, PE X e (tE X.K C W (f e))) {es : List Expr} {pos : Pos} : PE X (.List es pos) (tE X.K C W (if noStar es && decide (es.length ≤ 1000) then .lst (compEs f es) else .stuck)) := by
  split
  · rename_i h
    rw [Bool.and_eq_true, decide_eq_true_eq] at h
    exact PE.imp (pe_lst (pa_all hf h.1)) fun _ _ _ => r_lst (by rw [compEs_len, sizeLine_eq]; omega)
  · exact pe_stuck
theorem pps_all (hf : ∀ e, PE X e (tE X.K C W (f e))) {pos : Pos} : ∀ {ks : List (Option Expr)} {vs : List Expr} {k : List Key}, keysOf ks = some k → ks.length = vs.length → PPs X pos ks vs (trsOf X.K C W k (compEs f vs)) ∧ k.length = vs.length ∧ ks.all (·.isSome) = true
  | [], [], _, h, _ => by cases h; exact ⟨pps_nil, rfl, rfl⟩
  | k0 :: ks, v :: vs, k, h, hl => by
    have h : (match keyOf k0, keysOf ks with | some k, some ks => some (k :: ks) | _, _ => none) = some k := h
    split at h
    · rename_i a b h1 h2
      cases h
      obtain ⟨p1, p2, p3⟩ := pps_all hf (pos := pos) h2 (Nat.succ.inj hl)
      have : ∃ e, k0 = some e ∧ PE X e (tC (kV a)) := by
        unfold keyOf at h1
        split at h1
        · cases h1; exact ⟨_, rfl, pe_int⟩
        · cases h1; exact ⟨_, rfl, pe_str⟩
        · cases h1
      obtain ⟨e, rfl, he⟩ := this
      exact ⟨pps_cons he (hf v) p1, congrArg (· + 1) p2, by rw [List.all_cons, p3]; rfl⟩
    · cases h
  | [], _ :: _, _, _, h => by cases h
  | _ :: _, [], _, _, h => by cases h
theorem pe_dicC (hf : ∀ e, PE X e (tE X.K C W (f e))) {ks : List (Option Expr)} {vs : List Expr} {pos : Pos} : PE X (.Dict ks vs pos) (tE X.K C W (match keysOf ks with
      | some k => if decide (ks.length = vs.length) && !ks.isEmpty && decide (ks.length ≤ 15) then .dic k (compEs f vs) else .stuck
      | none => .stuck)) := by
  split
  · rename_i k hk
    split
    · rename_i h
      rw [Bool.and_eq_true, Bool.and_eq_true, decide_eq_true_eq, decide_eq_true_eq] at h
      obtain ⟨⟨h1, h2⟩, h3⟩ := h
      obtain ⟨p1, p2, p3⟩ := pps_all hf (pos := pos) hk h1
      refine PE.imp (pe_disp p1 p3 h1 (fun e => by subst e; cases h2) h3) fun _ _ _ => r_dic hW (by rw [compEs_len]; exact p2)
    · exact pe_stuck
  · exact pe_stuck
theorem pe_ixC (G : Good T N C bs S X W) (hf : ∀ e, PE X e (tE X.K C W (f e))) {a i : Expr} {pos : Pos} (h : isSlice i = false) : PE X (.Subscript a i pos) (tE X.K C W (.p2 .get (f a) (f i))) := by
  have hu := G.hu
  exact PE.imp (pe_ix (ix2_get (by omega)) (hf a) (hf i) (fun o v => by cases i <;> first | rfl | cases h)) fun _ _ _ => r_p2 hW
theorem part_int {F : Addr → Prop} {K : PySem.W.Frag} {H : Hp} {x : V} {d : D} (h : Cont K F H x d) {g : Int → Option Rv} {r : Rv} (e : (match d with | .int i => g i | _ => none) = some r) : ∃ i, d = .int i ∧ x = .int i ∧ g i = some r := by
  cases d <;> first | (cases e; done) | skip
  exact ⟨_, rfl, h.int_, e⟩
theorem pe_slC (hf : ∀ e, PE X e (tE X.K C W (f e))) {a : Expr} {lo hi : Option Expr} {pos p2 : Pos} : PE X (.Subscript a (.Slice lo hi none p2) pos) (tE X.K C W (match lo, hi with
      | some l, none => .p2 .sfrom (f a) (f l)
      | none, some h => .p2 .sto (f a) (f h)
      | some l, some h => .p3 .slice (f a) (f l) (f h)
      | none, none => .stuck)) := by
  cases lo with
  | none =>
    cases hi with
    | none => exact pe_stuck
    | some h =>
      refine PE.imp (pe_slice sl_D (hf a) po_none (po_some (hf h))) fun σ H Q q => ?_
      refine tE_mono (fun x H1 q => tE_mono (fun y H2 q => ?_) q) (r_p2 hW q)
      obtain ⟨F, d, e, r, cx, cy, hg, q⟩ := q
      cases e <;> first | (cases d <;> cases hg; done) | skip
      exact ⟨_, cy.int_, F, d, r, cx, hg, q⟩
  | some l =>
    cases hi with
    | none =>
      refine PE.imp (pe_slice sl_D (hf a) (po_some (hf l)) po_none) fun σ H Q q => ?_
      refine tE_mono (fun x H1 q => tE_mono (fun y H2 q => ?_) q) (r_p2 hW q)
      obtain ⟨F, d, e, r, cx, cy, hg, q⟩ := q
      cases e <;> first | (cases d <;> cases hg; done) | skip
      exact ⟨_, cy.int_, F, d, r, cx, hg, q⟩
    | some h =>
      refine PE.imp (pe_slice sl_D (hf a) (po_some (hf l)) (po_some (hf h))) fun σ H Q q => ?_
      have q' := r_p3 hW q
      refine tE_mono (fun x H1 q => ?_) q'
      obtain ⟨k3, _, q⟩ := q
      refine tE_mono (fun y H2 q => ?_) q
      obtain ⟨⟨F, d, cx, hd⟩, q⟩ := q
      cases d <;> first | (cases hd; done) | skip
      rename_i i
      refine ⟨i, cx.int_, tE_mono (fun z H3 q3 => ?_) q⟩
      obtain ⟨F, d, e, f', r, cx', cy, cz, hg, q4⟩ := q3
      cases cx.int_
      cases e <;> first | (cases d <;> cases f' <;> cases hg; done) | skip
      cases f' <;> first | (cases d <;> cases hg; done) | skip
      have e1 := cy.int_
      cases e1
      exact ⟨_, cz.int_, F, d, r, cx', hg, q4⟩
theorem pe_backC (hf : ∀ e, PE X e (tE X.K C W (f e))) {a : Expr} {k : Nat} {p1 p2 p3 pos : Pos} : PE X (.Subscript a (.Slice none none (some (.UnaryOp .USub (.Constant (.int 1) k p1) p2)) p3) pos) (tE X.K C W (.p1 .back (f a))) := by
  refine PE.imp (pe_back (hf a)) fun σ H Q q => ?_
  refine tE_mono (fun x H1 q => ?_) (r_p1 q)
  obtain ⟨F, d, r, cx, hg, q⟩ := q
  cases d <;> first | (cases hg; done) | skip
  · cases hg
    obtain ⟨a, vs, rfl, ha, ra⟩ := cx.tup_
    exact .inr ⟨a, vs, rfl, ha.sqT, res_tup q ra.reverse⟩
  · cases hg
    obtain ⟨a, vs, rfl, ha, ra⟩ := cx.lst_
    exact .inl ⟨a, vs, rfl, .inl (.inl ha), fun p hp => res_lst q ra.reverse hp⟩
  · cases hg
    obtain ⟨a, vs, rfl, ha, ra⟩ := cx.frz_
    exact .inl ⟨a, vs, rfl, ha.sqL, fun p hp => res_lst q ra.reverse hp⟩
/-! ### calls -/
theorem call1_pe (G : Good T N C bs S X W) {x : Str} {a : Expr} {o : P1} {p pos : Pos} (hg : glB S x = true) (h : b1 x = some o) (hs : isStar a = false) (ha : PE X a (tE X.K C W (f a))) : PE X (.Call (.Name x p) [a] [] pos) (tE X.K C W (.p1 o (f a))) := by
  have hc := G.calm
  have key : ∀ {o : P1} {id : String}, CallR X (.builtin id) (rCall X.K (prim1 o)) → x ∈ bnames → bootBuiltins x = some (.builtin id) → x ≠ "__name__" → (x == ("__debug__" : Str)) = false → PE X (.Call (.Name x p) [a] [] pos) (tE X.K C W (.p1 o (f a))) := fun {o id} hr hb hv h1 h2 =>
    PE.imp (pe_callB hr (G.gl hg) (G.blt x hb) hv (pa_cons ha pa_nil (star_cons hs)) h1 h2 (star_cons hs)) fun σ H Q q => tE_mono (fun v H1 q => ⟨v, rfl, q⟩) (r_p1 q)
  have keyT : ∀ {o : P1} {id : String}, CallR X (.type id) (rCall X.K (prim1 o)) → x ∈ bnames → bootBuiltins x = some (.type id) → x ≠ "__name__" → (x == ("__debug__" : Str)) = false → PE X (.Call (.Name x p) [a] [] pos) (tE X.K C W (.p1 o (f a))) := fun {o id} hr hb hv h1 h2 =>
    PE.imp (pe_callTy hr (G.gl hg) (G.blt x hb) hv (pa_cons ha pa_nil (star_cons hs)) h1 h2 (star_cons hs)) fun σ H Q q => tE_mono (fun v H1 q => ⟨v, rfl, q⟩) (r_p1 q)
  unfold b1 at h
  split at h
  · rename_i e; subst e; cases h
    exact key call1_len (by decide) (by decide +kernel) (by decide) (by decide)
  split at h
  · rename_i e; subst e; cases h
    exact keyT call1_int (by decide) (by decide +kernel) (by decide) (by decide)
  split at h
  · rename_i e; subst e; cases h
    exact keyT call1_str (by decide) (by decide +kernel) (by decide) (by decide)
  split at h
  · rename_i e; subst e; cases h
    exact keyT call1_tuple (by decide) (by decide +kernel) (by decide) (by decide)
  split at h
  · rename_i e; subst e; cases h
    exact keyT call1_list (by decide) (by decide +kernel) (by decide) (by decide)
  split at h
  · rename_i e; subst e; cases h
    exact key (call1_all hc) (by decide) (by decide +kernel) (by decide) (by decide)
  split at h
  · rename_i e; subst e; cases h
    exact key (call1_any hc) (by decide) (by decide +kernel) (by decide) (by decide)
  split at h
  · rename_i e; subst e; cases h
    exact key (call1_sum hc) (by decide) (by decide +kernel) (by decide) (by decide)
  split at h
  · rename_i e; subst e; cases h
    exact key (call1_max hc) (by decide) (by decide +kernel) (by decide) (by decide)
  split at h
  · rename_i e; subst e; cases h
    exact key (call1_min hc) (by decide) (by decide +kernel) (by decide) (by decide)
  · cases h
theorem call2_pe (G : Good T N C bs S X W) {x : Str} {a b : Expr} {o : P2} {id : String} {p pos : Pos} (hg : glB S x = true) (hr : CallR X (.builtin id) (rCall2 X.K (prim2 o))) (hb : x ∈ bnames) (hv : bootBuiltins x = some (.builtin id)) (h1 : x ≠ "__name__") (h2 : (x == ("__debug__" : Str)) = false)
    (hs : isStar a = false) (hs' : isStar b = false) (hf : ∀ e, PE X e (tE X.K C W (f e))) : PE X (.Call (.Name x p) [a, b] [] pos) (tE X.K C W (.p2 o (f a) (f b))) :=
  PE.imp (pe_callB hr (G.gl hg) (G.blt x hb) hv (pa_cons (hf a) (pa_cons (hf b) pa_nil (star_cons hs')) (star_cons hs)) h1 h2 (star_cons hs) (by rw [star_cons hs']; rfl)) fun σ H Q q => tE_mono (fun v H1 q => tE_mono (fun v2 H2 q => ⟨v, v2, rfl, q⟩) q) (r_p2 hW q)
theorem ty_pe (G : Good T N C bs S X W) {t : Str} {u : Ty} {p : Pos} (hg : glB S t = true) (h : tyNm t = some u) : PE X (.Name t p) (tC (.ty u.name)) := by
  have key : ∀ {u : Ty}, t ∈ bnames → bootBuiltins t = some (.type u.name) → t ≠ "__name__" → (t == ("__debug__" : Str)) = false → PE X (.Name t p) (tC (.ty u.name)) := fun {u} hb hv h1 h2 => pe_bltn (G.gl hg) (G.blt t hb) hv rfl h1 h2
  unfold tyNm at h
  split at h
  · rename_i e; subst e; cases h
    exact key (u := .bool) (by decide) (by decide +kernel) (by decide) (by decide)
  split at h
  · rename_i e; subst e; cases h
    exact key (u := .int) (by decide) (by decide +kernel) (by decide) (by decide)
  split at h
  · rename_i e; subst e; cases h
    exact key (u := .str) (by decide) (by decide +kernel) (by decide) (by decide)
  split at h
  · rename_i e; subst e; cases h
    exact key (u := .dict) (by decide) (by decide +kernel) (by decide) (by decide)
  split at h
  · rename_i e; subst e; cases h
    exact key (u := .tuple) (by decide) (by decide +kernel) (by decide) (by decide)
  split at h
  · rename_i e; subst e; cases h
    exact key (u := .list) (by decide) (by decide +kernel) (by decide) (by decide)
  · cases h
theorem is1_pe (G : Good T N C bs S X W) {a : Expr} {t : Str} {u : Ty} {p pos q : Pos} (hg : glB S "isinstance" = true) (hgt : glB S t = true) (h : tyNm t = some u) (hs : isStar a = false) (ha : PE X a (tE X.K C W (f a))) :
    PE X (.Call (.Name "isinstance" p) [a, .Name t q] [] pos) (tE X.K C W (.p1 (.isT u) (f a))) :=
  PE.imp (pe_callB (call_is1 u) (G.gl hg) (G.blt _ (by decide)) (by decide +kernel) (pa_cons ha (pa_cons (ty_pe G hgt h) pa_nil) (star_cons hs)) (by decide) (by decide) (star_cons hs)) fun σ H Q q => tE_mono (fun v H1 q => ⟨v, rfl, q⟩) (r_p1 q)
theorem is2_pe (G : Good T N C bs S X W) {a : Expr} {t t' : Str} {u u' : Ty} {p pos q q' q2 : Pos} {k : Nat} (hg : glB S "isinstance" = true) (hgt : glB S t = true) (hgt' : glB S t' = true) (h : tyNm t = some u) (h' : tyNm t' = some u') (hs : isStar a = false) (ha : PE X a (tE X.K C W (f a))) :
    PE X (.Call (.Name "isinstance" p) [a, .Tuple [.Name t q, .Name t' q'] k q2] [] pos) (tE X.K C W (.p1 (.isT2 u u') (f a))) := by
  refine PE.imp (pe_callB (call_is2 u u') (G.gl hg) (G.blt _ (by decide)) (by decide +kernel) (pa_cons ha (pa_cons (pe_tup (pa_cons (ty_pe G hgt h) (pa_cons (ty_pe G hgt' h') pa_nil))) pa_nil) (star_cons hs)) (by decide) (by decide) (star_cons hs)) fun σ H Q q => ?_
  refine tE_mono (fun v H1 q => ⟨by show 2 ≤ sizeLine; decide, fun tp ht => ⟨v, tp, rfl, upd_same, ?_⟩⟩) (r_p1 q)
  obtain ⟨F, d, r, cx, hg, q⟩ := q
  have sm : Same H1 (upd H1 tp (.tup [.ty u.name, .ty u'.name])) := same_upd ht
  refine ⟨F, d, r, ?_, hg, ?_⟩
  · rcases cx with cx | ⟨a, e, cx⟩
    · exact .inl (cx.keep sm.keeps)
    · exact .inr ⟨a, e, cx.keep sm.keeps fun o h _ => sm a o h⟩
  · cases r with
    | val d => exact fun w H' sm' rr => q w H' (fun a o h => sm' a o (sm a o h)) rr
    | fresh d =>
      refine fun a H' sm' hn oc => q a H' (fun a o h => sm' a o (sm a o h)) ?_ oc
      cases z : H1 a with
      | none => rfl
      | some o => rw [sm a o z] at hn; cases hn
    | slot i => exact True.intro
theorem user_pe (G : Good T N C bs S X W) (hf : ∀ e, PE X e (tE X.K C W (f e))) {x : Str} {args : List Expr} {p pos : Pos} (hg : glB S x = true) : PE X (.Call (.Name x p) args [] pos) (tE X.K C W (userC T f x args)) := by
  unfold userC
  split
  · rename_i hfn
    split
    · rename_i h
      rw [Bool.and_eq_true] at h
      obtain ⟨h, hkw⟩ := h
      rw [Bool.and_eq_true] at h
      obtain ⟨fn, hfn⟩ := G.tb x hfn
      obtain ⟨n, a, fd, ps, F, hr, hm, hk, hb⟩ := G.fn x fn hfn
      have hb : Binds X.K fd ps [] := by
        unfold FnB at hb
        cases q : T.kw x with
        | none => rw [q] at hb; exact hb
        | some I => rw [q] at hkw; cases hkw
      obtain ⟨EE, tk, hE⟩ := G.ex
      have rd : ∀ σ H Q, tE X.K C W (.call x (compEs f args)) σ H Q → tCall (spOf X.K fn.lent (EXR X.K X.mg) (C.run x)) [] EE (tA X.K C W (compEs f args)) σ H Q := fun σ H Q q => r_call hW hfn (hE σ) q
      cases args with
      | nil => exact PE.imp (pe_call0 F hr (G.gl hg) hm hk hb .nil (passes_call tk fun _ _ _ _ h => h) (dbg_ok h.2).1) fun σ H Q q => r_nil (rd σ H Q q)
      | cons e es =>
        have hs : isStar e = false := by
          have := h.1
          unfold noStar at this
          rw [List.all_cons, Bool.and_eq_true] at this
          simpa using this.1
        have hes : noStar es = true := by
          have := h.1
          unfold noStar at this
          rw [List.all_cons, Bool.and_eq_true] at this
          exact this.2
        exact PE.imp (pe_call F hr (G.gl hg) hm hk hb .nil (passes_call tk fun _ _ _ _ h => h) (pa_all hf h.1) (dbg_ok h.2).1 (star_cons hs) (star_any hes)) rd
    · exact pe_stuck
  · exact pe_stuck
/-! ### calls with keywords -/
def nestA (K : PySem.W.Frag) (C : Ctx) (W : WT) (f : Expr → CE) : List Expr → TA
  | [] => tNil
  | e :: es => tCons (tE K C W (f e)) (nestA K C W f es)
def nestK (K : PySem.W.Frag) (C : Ctx) (W : WT) (f : Expr → CE) : List Keyword → TA
  | [] => tNil
  | k :: ks => tCons (tE K C W (f k.value)) (nestK K C W f ks)
theorem pa_nest (hf : ∀ e, PE X e (tE X.K C W (f e))) : ∀ {es : List Expr}, noStar es = true → PA X es (nestA X.K C W f es)
  | [], _ => pa_nil
  | e :: es, h => by
    unfold noStar at h
    rw [List.all_cons, Bool.and_eq_true] at h
    exact pa_cons (hf e) (pa_nest hf h.2) (star_cons (by simpa using h.1))
theorem pk_nest (hf : ∀ e, PE X e (tE X.K C W (f e))) : ∀ {ks : List Keyword}, PK X ks (nestK X.K C W f ks)
  | [] => pk_nil
  | ⟨nm, e, p⟩ :: ks => pk_cons (hf e) (pk_nest hf)
theorem r_app {K : PySem.W.Frag} {m : CEs} : ∀ {es : List Expr} {σ : L2.St} {H : Hp} {R : List V → Hp → Prop}, tA K C W (appEs (compEs f es) m) σ H R → nestA K C W f es σ H fun vs H1 => vs.length = es.length ∧ tA K C W m σ H1 fun ws H2 => R (vs ++ ws) H2
  | [], _, _, _, q => ⟨rfl, q⟩
  | e :: es, σ, H, R, q => by
    have q := r_cons hW q
    refine tE_mono (fun v H1 q => ?_) q
    have := r_app (es := es) q
    exact nestA_mono (fun vs H2 ⟨h1, h2⟩ => ⟨congrArg (· + 1) h1, h2⟩) this
where
  nestA_mono {K : PySem.W.Frag} {es : List Expr} {σ : L2.St} {H : Hp} {R R' : List V → Hp → Prop} (h : ∀ vs H, R vs H → R' vs H) (q : nestA K C W f es σ H R) : nestA K C W f es σ H R' := by
    induction es generalizing H R R' with
    | nil => exact h _ _ q
    | cons e es ih => exact tE_mono (fun v H1 q => ih (fun vs H2 r => h _ _ r) q) q
theorem r_fill {K : PySem.W.Frag} : ∀ {sp : List (Str × Option D)} {ks : List Keyword} {b : List Bool} {σ : L2.St} {H : Hp} {R : List V → Hp → Prop}, patOf sp ks = some b → (sp.all fun q => (q.2.map isScal).getD true) = true → tA K C W (compFs f sp b ks) σ H R →
    nestK K C W f ks σ H fun zs H1 => zs.length = ks.length ∧ R (fillV sp b zs) H1
  | [], [], _, _, _, _, h, _, q => by
    cases h
    exact ⟨rfl, r_nil q⟩
  | [], _ :: _, _, _, _, _, h, _, _ => nomatch h
  | (p, d) :: sp, [], b, σ, H, R, h, hs, q => by
    have h : (if d.isSome then (patOf sp []).map (false :: ·) else none) = some b := h
    split at h
    · rename_i hd
      obtain ⟨b', h', rfl⟩ := Option.map_eq_some_iff.mp h
      cases d with
      | none => cases hd
      | some d =>
        rw [List.all_cons, Bool.and_eq_true] at hs
        have q := r_cons hW q
        have q := r_const q fun F => vOf_rep hs.1 F H
        exact r_fill (sp := sp) (ks := []) h' hs.2 q
    · cases h
  | (p, d) :: sp, k :: ks, b, σ, H, R, h, hs, q => by
    have h : (if k.arg = some p then (patOf sp ks).map (true :: ·) else if d.isSome then (patOf sp (k :: ks)).map (false :: ·) else none) = some b := h
    rw [List.all_cons, Bool.and_eq_true] at hs
    split at h
    · obtain ⟨b', h', rfl⟩ := Option.map_eq_some_iff.mp h
      have q : tA K C W (.cons (f k.value) (compFs f sp b' ks)) σ H R := by cases d <;> exact q
      have q := r_cons hW q
      refine tE_mono (fun v H1 q => ?_) q
      have := r_fill (sp := sp) (ks := ks) h' hs.2 q
      refine nestK_mono (fun vs H2 ⟨h1, h2⟩ => ⟨congrArg (· + 1) h1, ?_⟩) this
      cases d <;> exact h2
    · split at h
      · rename_i hd
        obtain ⟨b', h', rfl⟩ := Option.map_eq_some_iff.mp h
        cases d with
        | none => cases hd
        | some d =>
          have q := r_cons hW q
          have q := r_const q fun F => vOf_rep hs.1 F H
          exact r_fill (sp := sp) (ks := k :: ks) h' hs.2 q
      · cases h
where
  nestK_mono {K : PySem.W.Frag} {ks : List Keyword} {σ : L2.St} {H : Hp} {R R' : List V → Hp → Prop} (h : ∀ vs H, R vs H → R' vs H) (q : nestK K C W f ks σ H R) : nestK K C W f ks σ H R' := by
    induction ks generalizing H R R' with
    | nil => exact h _ _ q
    | cons e es ih => exact tE_mono (fun v H1 q => ih (fun vs H2 r => h _ _ r) q) q
theorem patOf_names : ∀ {sp : List (Str × Option D)} {ks : List Keyword} {b : List Bool}, patOf sp ks = some b → ks.map (·.arg) = (givenN sp b).map some
  | [], [], _, h => by cases h; rfl
  | [], _ :: _, _, h => nomatch h
  | (p, d) :: sp, [], b, h => by
    have h : (if d.isSome then (patOf sp []).map (false :: ·) else none) = some b := h
    split at h
    · obtain ⟨b', h', rfl⟩ := Option.map_eq_some_iff.mp h
      have := patOf_names h'
      exact this
    · cases h
  | (p, d) :: sp, k :: ks, b, h => by
    have h : (if k.arg = some p then (patOf sp ks).map (true :: ·) else if d.isSome then (patOf sp (k :: ks)).map (false :: ·) else none) = some b := h
    split at h
    · rename_i e
      obtain ⟨b', h', rfl⟩ := Option.map_eq_some_iff.mp h
      show k.arg :: ks.map (·.arg) = some p :: (givenN sp b').map some
      rw [e, patOf_names h']
    · split at h
      · obtain ⟨b', h', rfl⟩ := Option.map_eq_some_iff.mp h
        have := patOf_names h'
        exact this
      · cases h
theorem kw_args {pos : Pos} {env : Env} : ∀ {ks : List Keyword}, (backToKw pos (keywordEach ks env)).map (·.1) = ks.map (·.arg)
  | [] => rfl
  | ⟨_, _, _⟩ :: ks => congrArg (_ :: ·) (kw_args (ks := ks))
theorem callK_pe (G : Good T N C bs S X W) (hf : ∀ e, PE X e (tE X.K C W (f e))) {x : Str} {args : List Expr} {kws : List Keyword} {p pos : Pos} : PE X (.Call (.Name x p) args kws pos) (tE X.K C W (callK T S f x args kws)) := by
  unfold callK
  split
  · exact pe_stuck
  · rename_i I hI
    split
    · exact pe_stuck
    · rename_i b hp
      split
      · rename_i h
        simp only [Bool.and_eq_true, decide_eq_true_eq] at h
        obtain ⟨⟨⟨⟨hg, hfn⟩, hl, h0⟩, hst, hdb⟩, hpt, hsc⟩ := h
        obtain ⟨fn, hfn⟩ := G.tb x hfn
        obtain ⟨n, a, fd, ps, F, hr, hm, hk, hb⟩ := G.fn x fn hfn
        unfold FnB at hb
        rw [hI] at hb
        obtain ⟨g, gV, hb, hg2⟩ := hb b (List.contains_iff_mem.mp hpt)
        cases args with
        | nil => rw [← hl] at h0; cases h0
        | cons e es =>
          have nm := patOf_names hp
          have len : kws.length = (givenN I.sp b).length := by
            have := congrArg List.length nm
            rwa [List.length_map, List.length_map] at this
          have ha1 : (backToKw pos (keywordEach kws X.env)).map (·.1) = (givenN I.sp b).map some := kw_args.trans nm
          have hall : (backToKw pos (keywordEach kws X.env)).all (·.1.isSome) = true := by
            have : ((backToKw pos (keywordEach kws X.env)).map (·.1)).all (·.isSome) = true := by rw [ha1]; simp
            rwa [List.all_map] at this
          have hks : (backToKw pos (keywordEach kws X.env)).filterMap (·.1) = givenN I.sp b := by
            have : ((backToKw pos (keywordEach kws X.env)).map (·.1)).filterMap id = givenN I.sp b := by rw [ha1]; simp
            rwa [List.filterMap_map] at this
          have hno : (backToKw pos (keywordEach kws X.env)).any (·.1.isNone) = false := by
            have : ((backToKw pos (keywordEach kws X.env)).map (·.1)).any (·.isNone) = false := by rw [ha1]; simp
            rwa [List.any_map] at this
          have hs : isStar e = false := by
            have := hst
            unfold noStar at this
            rw [List.all_cons, Bool.and_eq_true] at this
            simpa using this.1
          have hpl : ((backTo pos (starEach (e :: es) X.env)).any (·.1) || (backToKw pos (keywordEach kws X.env)).any (·.1.isNone)) = false := by
            rw [star_any hst, hno]; rfl
          obtain ⟨EE, tk, hE⟩ := G.ex
          refine PE.imp (pe_callN F hr (G.gl hg) hm hk hb (passes_call tk fun _ _ _ _ h => h) (pa_nest hf hst) (pk_nest hf) hall hks (dbg_ok hdb).1 (star_cons hs) hpl) fun σ H Q q => ?_
          have q := r_call (EX := EXR X.K X.mg) (E := EE) hW hfn (hE σ) q
          refine r_app.nestA_mono (fun vs H1 ⟨h1, q⟩ => ?_) (r_app q)
          refine r_fill.nestK_mono (fun zs H2 ⟨h2, q⟩ => ⟨h1.trans hl, h2.trans len, ?_⟩) (r_fill hp hsc q)
          rw [hg2 vs zs (h1.trans hl) (h2.trans len)]
          rw [List.append_nil] at q
          exact q
      · exact pe_stuck
theorem call_pe (G : Good T N C bs S X W) (hf : ∀ e, PE X e (tE X.K C W (f e))) {x : Str} {args : List Expr} {p pos : Pos} : PE X (.Call (.Name x p) args [] pos) (tE X.K C W (callC T S f x args)) := by
  have hc := G.calm
  unfold callC
  split
  · rename_i hg
    split
    · rename_i a
      split
      · rename_i o h
        split
        · exact pe_stuck
        · exact call1_pe G hg h (by simpa using ‹¬ isStar a = true›) (hf a)
      · split
        · rename_i hx
          subst hx
          split
          · rename_i y yp u v ypos
            split
            · rename_i hy
              subst hy
              split
              · rename_i hz
                rw [Bool.and_eq_true] at hz
                have hh := hz.2
                unfold noStar at hh
                rw [List.all_cons, Bool.and_eq_true] at hh
                exact PE.imp (pe_dictZip hc (G.gl hg) (G.blt _ (by decide)) (G.gl hz.1) (G.blt _ (by decide)) (pa_all hf hz.2) (star_cons (by simpa using hh.1)) (star_any hh.2)) fun _ _ _ => r_dicZip
              · exact pe_stuck
            · exact pe_stuck
          · exact pe_stuck
        · exact user_pe G hf hg
    · rename_i a b
      split
      · exact pe_stuck
      · rename_i hs
        rw [Bool.or_eq_true, not_or] at hs
        have ha : isStar a = false := by simpa using hs.1
        have hb : isStar b = false := by simpa using hs.2
        split
        · rename_i e; subst e
          exact call2_pe G hg (call2_max hc) (by decide) (by decide +kernel) (by decide) (by decide) ha hb hf
        split
        · rename_i e; subst e
          exact call2_pe G hg (call2_min hc) (by decide) (by decide +kernel) (by decide) (by decide) ha hb hf
        split
        · rename_i e; subst e
          split
          · split
            · rename_i hgt
              split
              · exact is1_pe G hg hgt (by assumption) ha (hf a)
              · exact pe_stuck
            · exact pe_stuck
          · split
            · rename_i hgt
              rw [Bool.and_eq_true] at hgt
              split
              · exact is2_pe G hg hgt.1 hgt.2 (by assumption) (by assumption) ha (hf a)
              · exact pe_stuck
            · exact pe_stuck
          · exact pe_stuck
        · exact user_pe G hf hg
    · exact user_pe G hf hg
  · exact pe_stuck
theorem few_ok {cpos : Pos} {env : Env} {es : List Expr} (h : noStar es = true) (hl : es.length < 30) :
    ((backTo cpos (starEach es env)).all (fun x => !x.1) && (backToKw cpos (keywordEach [] env)).all (fun x => x.1.isSome) && decide (es.length + ([] : List Keyword).length + (if ([] : List Keyword).isEmpty then 0 else 1) < 30)) = true := by
  rw [star_all h]
  show (true && decide (es.length + 0 + 0 < 30)) = true
  rw [Bool.true_and, decide_eq_true_eq]
  omega
theorem mut_pe (G : Good T N C bs S X W) (hf : ∀ e, PE X e (tE X.K C W (f e))) {x m : Str} {args : List Expr} {p apos cpos : Pos} {k : MOp} {i : Nat} (hl : (apos.endLine == cpos.line) = true) (hs : noStar args = true) (hm : mOf m args.length = some k) (hv : visB S x = true) (hd : (!dbgB x) = true) (hi : slotOf N x = some i) :
    PE X (.Call (.Attribute (.Name x p) m apos) args [] cpos) (tE X.K C W (.mut i k (compEs f args))) := by
  have hx : PE X (.Name x p) (tVar i) := pe_var (by rw [G.hN]; exact slotOf_ok hi) (G.vis hv) (dbg_ok hd).1 (dbg_ok hd).2
  have key : ∀ {k : MOp} {id : String} {e : Expr} {es : List Expr}, args = e :: es → es.length < 2 → Slot "list" m id → typeOf (.builtin id) = pure (.type "method_descriptor") → MtR X id (rMut X.K k) → PE X (.Call (.Attribute (.Name x p) m apos) args [] cpos) (tE X.K C W (.mut i k (compEs f args))) := fun {k id e es} ea hlen sl ht hr => by
    subst ea
    have hh := hs
    unfold noStar at hh
    rw [List.all_cons, Bool.and_eq_true] at hh
    exact PE.imp (pe_bm PySem.F.plainAttrs_list sl ht hr hx (pa_all hf hs) rfl (few_ok hs (by simp; omega)) hl (star_cons (by simpa using hh.1)) (star_any hh.2)) fun σ H Q q => r_mut hW q
  unfold mOf at hm
  split at hm
  · rename_i e
    obtain ⟨e1, e2⟩ := e
    subst e1; cases hm
    obtain ⟨a, rfl⟩ := List.length_eq_one_iff.mp e2
    exact key rfl (by simp) PySem.F.slot_list_append PySem.F.type_list_append mt2_append
  split at hm
  · rename_i e
    obtain ⟨e1, e2⟩ := e
    subst e1; cases hm
    have : args = [] := List.eq_nil_of_length_eq_zero e2
    subst this
    refine PE.imp (pe_bm0 PySem.F.plainAttrs_list PySem.F.slot_list_pop PySem.F.type_list_pop mt2_pop hx rfl hl) fun σ H Q q => ?_
    obtain ⟨v, h1, h2, h3⟩ := r_mut hW q
    exact ⟨v, h1, h2, r_nil h3⟩
  split at hm
  · rename_i e
    obtain ⟨e1, e2⟩ := e
    subst e1; cases hm
    obtain ⟨a, rfl⟩ := List.length_eq_one_iff.mp e2
    exact key rfl (by simp) PySem.F.slot_list_pop PySem.F.type_list_pop mt2_popAt
  split at hm
  · rename_i e
    obtain ⟨e1, e2⟩ := e
    subst e1; cases hm
    obtain ⟨a, b, rfl⟩ : ∃ a b, args = [a, b] := match args, e2 with | [a, b], _ => ⟨a, b, rfl⟩
    exact key rfl (by simp) PySem.F.slot_list_insert PySem.F.type_list_insert mt2_insert
  · cases hm
theorem base_ok {o : Expr} {m : Str} {env : Env} {whole : Sem Value} (h : noCall o = true) : attributeBase o m env whole = whole := by
  cases o <;> first | rfl | cases h
theorem get_pe (G : Good T N C bs S X W) (hf : ∀ e, PE X e (tE X.K C W (f e))) {o a b : Expr} {apos cpos : Pos} (hl : (apos.endLine == cpos.line) = true) (hs : noStar [a, b] = true) (hc : noCall o = true) :
    PE X (.Call (.Attribute o "get" apos) [a, b] [] cpos) (tE X.K C W (.p3 .getOr (f o) (f a) (f b))) := by
  have hu := G.hu
  have hh := hs
  unfold noStar at hh
  rw [List.all_cons, List.all_cons, Bool.and_eq_true, Bool.and_eq_true] at hh
  refine PE.imp (pe_dget2 (by omega) (hf o) (hf a) (hf b) ⟨base_ok hc, few_ok hs (by show 2 < 30; decide), hl, ?_⟩) fun _ _ _ => r_getOr hW
  rw [star_cons (by simpa using hh.1), star_cons (by simpa using hh.2.1)]
  rfl
theorem idx_pe (G : Good T N C bs S X W) (hf : ∀ e, PE X e (tE X.K C W (f e))) {o a : Expr} {apos cpos : Pos} (hl : (apos.endLine == cpos.line) = true) (hs : noStar [a] = true) (hc : noCall o = true) :
    PE X (.Call (.Attribute o "index" apos) [a] [] cpos) (tE X.K C W (.p3 .idx (f o) (f a) (.const .non))) := by
  have hh := hs
  unfold noStar at hh
  rw [List.all_cons, Bool.and_eq_true] at hh
  have h1 : isStar a = false := by simpa using hh.1
  exact PE.imp (pe_bmor PySem.F.plainAttrs_list PySem.F.slot_list_index PySem.F.type_list_index mt_index PySem.F.plainAttrs_tuple PySem.F.slot_tuple_index PySem.F.type_tuple_index mt_indexT (hf o) (pa_cons (hf a) pa_nil (star_cons h1)) (base_ok hc) (few_ok hs (by show 1 < 30; decide)) hl (star_cons h1) rfl) fun _ _ _ => r_idx hW
theorem meth_pe (G : Good T N C bs S X W) (hf : ∀ e, PE X e (tE X.K C W (f e))) {o : Expr} {m : Str} {args : List Expr} {apos cpos : Pos} : PE X (.Call (.Attribute o m apos) args [] cpos) (tE X.K C W (methC N S f o m apos args cpos)) := by
  unfold methC
  split
  · rename_i h
    rw [Bool.and_eq_true] at h
    split
    · rename_i k x p hk
      split
      · rename_i hv
        rw [Bool.and_eq_true] at hv
        split
        · exact mut_pe G hf h.1 h.2 hk hv.1 hv.2 (by assumption)
        · exact pe_stuck
      · exact pe_stuck
    · split
      · rename_i a b
        split
        · rename_i hm
          obtain ⟨e, hc⟩ := hm
          subst e
          exact get_pe G hf h.1 h.2 hc
        · exact pe_stuck
      · split
        · rename_i hm
          obtain ⟨e, hc⟩ := hm
          subst e
          exact idx_pe G hf h.1 h.2 hc
        · exact pe_stuck
      · exact pe_stuck
  · exact pe_stuck
end
end G

set_option Elab.async false
set_option linter.all false
set_option maxRecDepth 100000
/-! G, part 9: the compiler is sound; defs. -/
namespace G
open PySem L2
variable [TB : Tbs]
section
variable {T : Tb} {N : List Str} {C : Ctx} {bs : Option Scope} {S : Scope} {X : Cx} {f : Expr → CE} {W : WT} [hW : Wok W]
/-! ### targets, what is walked -/
theorem pgs_names (G : Good T N C bs S X W) : ∀ {es : List Expr} {is : List Nat}, tgNames bs N S es = some is → PGs X es (gsOf is) ∧ (assignEach es X.env).length = is.length ∧ (assignEach es X.env).findIdx? (·.1) = none
  | [], is, h => by
    cases h
    exact ⟨pgs_nil, rfl, rfl⟩
  | e :: es, is, h => by
    unfold tgNames at h
    split at h
    · rename_i e2; cases e2
    · rename_i x p r e2
      cases e2
      split at h
      · rename_i ht
        split at h
        · rename_i i is' h1 h2
          cases h
          obtain ⟨p1, p2, p3⟩ := pgs_names G h2
          obtain ⟨t1, t2⟩ := G.tgt ht
          refine ⟨pgs_cons (pg_name (by rw [G.hN]; exact G.nd) (by rw [G.hN]; exact slotOf_ok h1) t1 t2) p1, congrArg (· + 1) p2, ?_⟩
          show List.findIdx? (·.1) ((false, assign (.Name x p) X.env) :: assignEach es X.env) = none
          rw [List.findIdx?_cons, if_neg (by simp), p3]; rfl
        · cases h
      · cases h
    · cases h
theorem pg_tg (G : Good T N C bs S X W) {tg : Expr} {t : _root_.G.TG} (h : tgC bs N S tg = some t) : PG X tg (tgOf X.K t) := by
  unfold tgC at h
  split at h
  · split at h
    · rename_i ht
      obtain ⟨i, hi, rfl⟩ := Option.map_eq_some_iff.mp h
      obtain ⟨t1, t2⟩ := G.tgt ht
      exact pg_name (by rw [G.hN]; exact G.nd) (by rw [G.hN]; exact slotOf_ok hi) t1 t2
    · cases h
  · obtain ⟨is, hi, rfl⟩ := Option.map_eq_some_iff.mp h
    obtain ⟨p1, p2, p3⟩ := pgs_names G hi
    exact pg_tup G.calm p1 p2 p3
  · cases h
theorem fit_tup {tg : Expr} {t : _root_.G.TG} (h : isTupE tg = true) (ht : tgC bs N S tg = some t) (w : Bool) : tgFit t w := by
  intro _
  cases tg <;> first | (cases h; done) | skip
  unfold tgC at ht
  obtain ⟨is, _, rfl⟩ := Option.map_eq_some_iff.mp ht
  exact ⟨is, rfl⟩
theorem fit_iterV {S' : Scope} {f : Expr → CE} {tg e : Expr} {t : _root_.G.TG} (ht : tgC bs N S tg = some t) : tgFit t (isEZ (iterV S' f tg e)) := by
  unfold iterV
  split
  · rename_i c hc
    unfold iterC at hc
    repeat' (split at hc)
    all_goals first
      | (cases hc; done)
      | (cases hc; exact fun z => nomatch (show false = true from z))
      | (rename_i z; simp only [Bool.and_eq_true] at z; cases hc; exact fit_tup z.2 ht _)
  · exact fun z => nomatch (show false = true from z)
theorem pi_iterV (G : Good T N C bs S X W) (hf : ∀ e, PE X e (tE X.K C W (f e))) {tg e : Expr} : PI X tg e (tI X.K C W (iterV S f tg e)) := by
  unfold iterV
  cases h : iterC S f tg e with
  | none => exact PI.imp (PI.or (pi_list (hf e)) (PI.or (pi_tup (hf e)) (pi_str (hf e)))) fun _ _ _ => r_iv
  | some c =>
    unfold iterC at h
    split at h
    · rename_i x p a pos
      split at h
      · rename_i ex; subst ex
        split at h
        · rename_i hb
          rw [Bool.and_eq_true] at hb
          cases h
          have hs : isStar a = false := by simpa using hb.2
          exact PI.imp (pi_range1 (G.gl hb.1) (G.blt _ (by decide)) (pa_cons (hf a) pa_nil (star_cons hs)) (star_cons hs)) fun _ _ _ => r_i1
        · cases h
      split at h
      · rename_i ex; subst ex
        split at h
        · rename_i hb
          rw [Bool.and_eq_true, Bool.and_eq_true] at hb
          cases h
          have hs : isStar a = false := by simpa using hb.1.2
          cases tg <;> first | (exact absurd hb.2 Bool.false_ne_true) | skip
          exact PI.imp (pi_enumA (G.gl hb.1.1) (G.blt _ (by decide)) (pa_cons (hf a) pa_nil (star_cons hs)) (star_cons hs)) fun _ _ _ => r_ie
        · cases h
      split at h
      · rename_i ex; subst ex
        split at h
        · rename_i hb
          rw [Bool.and_eq_true] at hb
          cases h
          have hs : isStar a = false := by simpa using hb.2
          exact PI.imp (RT.pi_revA (G.gl hb.1) (G.blt _ (by decide)) (hf a) (star_cons hs)) fun _ _ _ => r_irev
        · cases h
      · cases h
    · rename_i x p a b pos
      split at h
      · rename_i ex; subst ex
        split at h
        · rename_i hb
          rw [Bool.and_eq_true, Bool.and_eq_true] at hb
          cases h
          have hs : isStar a = false := by simpa using hb.1.2
          have hs' : isStar b = false := by simpa using hb.2
          exact PI.imp (pi_range2 (G.gl hb.1.1) (G.blt _ (by decide)) (pa_cons (hf a) (pa_cons (hf b) pa_nil (star_cons hs')) (star_cons hs)) (by rw [star_cons hs, star_cons hs']; rfl) (by rw [star_cons hs']; rfl)) fun _ _ _ => r_i2 hW
        · cases h
      split at h
      · rename_i ex; subst ex
        split at h
        · rename_i hb
          rw [Bool.and_eq_true, Bool.and_eq_true, Bool.and_eq_true] at hb
          cases h
          have hs : isStar a = false := by simpa using hb.1.1.2
          have hs' : isStar b = false := by simpa using hb.1.2
          cases tg <;> first | (exact absurd hb.2 Bool.false_ne_true) | skip
          exact PI.imp (RZ.pi_zipA (G.gl hb.1.1.1) (G.blt _ (by decide)) (pa_cons (hf a) (pa_cons (hf b) pa_nil (star_cons hs')) (star_cons hs)) (by rw [star_cons hs, star_cons hs'] <;> rfl) (by rw [star_cons hs'] <;> rfl)) fun _ _ _ => r_izip hW
        · cases h
      · cases h
    · rename_i x p a b c pos
      split at h
      · rename_i ex; subst ex
        split at h
        · rename_i hb
          rw [Bool.and_eq_true, Bool.and_eq_true, Bool.and_eq_true] at hb
          cases h
          have hs : isStar a = false := by simpa using hb.1.1.2
          have hs' : isStar b = false := by simpa using hb.1.2
          have hs2 : isStar c = false := by simpa using hb.2
          exact PI.imp (pi_range3 (G.gl hb.1.1.1) (G.blt _ (by decide)) (pa_cons (hf a) (pa_cons (hf b) (pa_cons (hf c) pa_nil (star_cons hs2)) (star_cons hs')) (star_cons hs)) (by rw [star_cons hs, star_cons hs', star_cons hs2] <;> rfl) (by rw [star_cons hs', star_cons hs2] <;> rfl)) fun _ _ _ => r_i3 hW
        · cases h
      · cases h
    · cases h
theorem fold_ok {e : Expr} {env : Env} (h : isSet e = false) : ∀ x, foldedSetIterable e env x = pure x := by
  intro x
  cases e <;> first | rfl | cases h
theorem takes_none {X : Cx} : L2.Takes X (fun _ _ _ _ => False) := fun _ _ ⟨_, _, _, _, _, _, _, _, _, _, _, _, _, _, _, _, w⟩ => w.elim
theorem Good.blk (G : Good T N C bs S X W) {scope : Scope} (s : Shared) (H : Hp) (A : Addr) (cl : List (Str × Addr)) (fp : List Addr) : Good T.noLam N C (some scope) (relS scope S) (X.blk s H scope (compEnvC scope cl A X.env) fp) noW where
  hN := G.hN
  hu := G.hu
  calm := G.calm
  nd := G.nd
  sc := by rw [← G.sc]; rfl
  fnx := fun _ => rfl
  blt := G.blt
  tb := G.tb
  gb := G.gb
  po := PassesOwn.never
  fn := G.fn
  exc := fun _ _ h => nomatch (show (none : Option (List Str)) = some _ from h)
  ex := ⟨fun _ _ _ => False, takes_none, fun _ _ _ _ _ _ h _ => h.elim⟩
  lam := fun h => nomatch (show false = true from h)
/-- a scope without names -/
def bare (S : Scope) : Scope := { S with names := [] }
theorem Good.low (G : Good T N C bs S X W) {k : Nat} {scope : Scope} {A : Around} {outer : List Env} {s : Shared} {H : Hp} {E : XK} {f c' : Addr} (hr : Room k (A.deeper (LamX.lamEnv X scope s.heap.objs.size f c')))
    (hf : ∀ f fn, C.fns f = some fn → ∃ a fd ps, FnOk X.prog X.w X.K X.mg X.base (L2.CX X.prog X.w) k a fd ps (spOf X.K fn.lent (EXR X.K X.mg) (C.runL f)) ∧ X.mg f = some (.ref a) ∧ PySem.W.keepIn X.K (.ref a) = true ∧ FnB X.K T f fd ps) :
    Good T.noLam N C.low (some (bare scope)) scope (LamX.lamCx X A outer s H E scope f c') (wX X.K X.mg E) where
  hN := G.hN
  hu := by
    have := hr.un
    show (A.deeper _).units + 200 < cLine
    omega
  calm := rfl
  nd := G.nd
  sc := rfl
  fnx := fun _ => rfl
  blt := G.blt
  tb := G.tb
  gb := G.gb
  po := passes_of rfl
  fn := fun f fn h => by
    obtain ⟨a, fd, ps, h1, h2, h3, h4⟩ := hf f fn h
    exact ⟨k, a, fd, ps, h1, hr, h2, h3, h4⟩
  exc := fun _ _ h => nomatch (show (none : Option (List Str)) = some _ from h)
  ex := ⟨E, takes_of rfl rfl rfl rfl, fun _ _ _ _ _ _ h hL => wX_call h hL⟩
  lam := fun h => nomatch (show false = true from h)
theorem noPar_ok {p : Arguments} (h : noPar p = true) : p = ⟨[], [], none, [], [], none, []⟩ := by
  unfold noPar at h
  split at h
  · rfl
  · cases h
theorem tri_pe (G : Good T N C bs S X W) {scope : Scope} {params : Arguments} {body : Expr} {cb : CE} {p lpos pos : Pos} (hl : T.lam = true) (hg : glB S "_law_tried" = true) (hs : LamX.lamSB S scope = true) (hp : noPar params = true)
    (hb : ∀ (X' : Cx) (E : XK), X'.K = X.K → Good T.noLam N C.low (some (bare scope)) scope X' (wX X.K X.mg E) → PE X' body (tE X'.K C.low (wX X.K X.mg E) cb)) :
    PE X (.Call (.Name "_law_tried" p) [.Lambda params body scope lpos] [] pos) (tE X.K C W (.tried cb)) := by
  obtain ⟨TG, TA, k, hr, hf⟩ := G.lam hl
  obtain ⟨known, g, a, pg, bg, sg, dV, kV, doc, pm, cdv, ct, oc, an, od, osl, Ng, hm, hk, lk, hcg, hbi, Sg, hNg, hva, d1, d2, hG, kn⟩ := TG
  obtain ⟨c, P, TBB, hcode, hmT, hu⟩ := TA
  have e := noPar_ok hp
  subst e
  exact PE.imp (LamX.pe_lamcall (t := fun E => tE X.K C.low (wX X.K X.mg E) cb) (G.gl hg) hm hk lk hcg hbi Sg hNg hva (hG X rfl rfl _) TBB hcode hmT hu hr (LamX.lamS_by (by rw [G.sc]; exact hs)) rfl (fun _ _ _ _ _ => rfl)
    (fun A outer s H E f c' hrk => hb _ E rfl (G.low hrk hf)) (hd := d1) (hcd := d2)) fun σ H Q q => r_tried kn q
/-- a comprehension as an expression, and as what a name gets -/
theorem lc_both {ow : Str → Bool} (G : Good T N C bs S X W) {g : Expr → CE} (hg : ∀ e, PE X e (tE X.K C W (g e))) {scope : Scope} (hf : ∀ (s : Shared) (H : Hp) (A : Addr) (cl : List (Str × Addr)) (fp : List Addr) (e : Expr), PE (X.blk s H scope (compEnvC scope cl A X.env) fp) e (tE X.K C noW (f e)) ∧ PT (X.blk s H scope (compEnvC scope cl A X.env) fp) e (tT X.K C noW (f e)))
    {elt : Expr} {gs : List Comprehension} {pos : Pos} :
    PE X (.ListComp elt gs scope pos) (tE X.K C W (compC ow N S g f elt gs scope)) ∧
    ∀ {y : Str} {i : Nat} {py spos : Pos}, X.N[i]? = some y → X.env.scope.names.lookup y = some .local → swapsWith (.ListComp elt gs scope pos) (some (.Name y py)) spos.line X.env = pure true →
      PS X (.Assign [.Name y py] (.ListComp elt gs scope pos) spos) (tAsg (tE X.K C W (compC ow N S g f elt gs scope)) (gName i)) := by
  have bad : PE X (.ListComp elt gs scope pos) (tE X.K C W .stuck) ∧ ∀ {y : Str} {i : Nat} {py spos : Pos}, X.N[i]? = some y → X.env.scope.names.lookup y = some .local → swapsWith (.ListComp elt gs scope pos) (some (.Name y py)) spos.line X.env = pure true →
      PS X (.Assign [.Name y py] (.ListComp elt gs scope pos) spos) (tAsg (tE X.K C W .stuck) (gName i)) := ⟨pe_stuck, fun _ _ _ => ps_false fun _ _ _ q => tE_stuck q⟩
  unfold compC
  split
  · rename_i tg iter ifs
    split
    · rename_i hb
      rw [Bool.and_eq_true] at hb
      have hset : isSet iter = false := by simpa using hb.2
      have bo : BlkOk X.N X.env.scope scope (ownOf N scope) := by rw [G.hN, G.sc]; exact blkOk_by hb.1
      have nd : X.N.Nodup := by rw [G.hN]; exact G.nd
      split
      · rename_i t ht
        have pg := fun (s : Shared) (H : Hp) (A : Addr) (cl : List (Str × Addr)) (fp : List Addr) => pg_tg (G.blk (scope := scope) s H A cl fp) ht
        have pi := pi_iterV (f := g) G hg (tg := tg) (e := iter)
        split
        · split
          · refine ⟨PE.imp (pe_lc G.calm nd pi bo pg (fun _ _ _ _ _ => pts_nil) (fun s H A cl fp => (hf s H A cl fp elt).1) (fold_ok hset)) fun _ _ _ => r_comp (fit_iterV ht), fun h1 h2 h3 => ?_⟩
            exact PS.imp (ps_setLc G.calm nd h1 h2 h3 pi bo pg (fun _ _ _ _ _ => pts_nil) (fun s H A cl fp => (hf s H A cl fp elt).1) (fold_ok hset)) fun _ _ _ => r_comp (fit_iterV ht)
          · rename_i c
            refine ⟨PE.imp (pe_lc G.calm nd pi bo pg (fun s H A cl fp => pts_one (hf s H A cl fp c).2) (fun s H A cl fp => (hf s H A cl fp elt).1) (fold_ok hset)) fun _ _ _ => r_compIf (fit_iterV ht), fun h1 h2 h3 => ?_⟩
            exact PS.imp (ps_setLc G.calm nd h1 h2 h3 pi bo pg (fun s H A cl fp => pts_one (hf s H A cl fp c).2) (fun s H A cl fp => (hf s H A cl fp elt).1) (fold_ok hset)) fun _ _ _ => r_compIf (fit_iterV ht)
          · exact bad
        · rename_i i hown
          have piO : PI X tg iter (iList X.K (tVar i)) := by
            unfold ownIt at hown
            split at hown
            · rename_i x px
              split at hown
              · rename_i hz
                rw [Bool.and_eq_true, Bool.and_eq_true] at hz
                exact pi_list (pe_var (by rw [G.hN]; exact slotOf_ok hown) (G.vis hz.2.1) (dbg_ok hz.2.2).1 (dbg_ok hz.2.2).2)
              · cases hown
            · cases hown
          split
          · refine ⟨PE.imp (pe_lc G.calm nd piO bo pg (fun _ _ _ _ _ => pts_nil) (fun s H A cl fp => (hf s H A cl fp elt).1) (fold_ok hset)) fun _ _ _ => r_compO, fun h1 h2 h3 => ?_⟩
            exact PS.imp (ps_setLc G.calm nd h1 h2 h3 piO bo pg (fun _ _ _ _ _ => pts_nil) (fun s H A cl fp => (hf s H A cl fp elt).1) (fold_ok hset)) fun _ _ _ => r_compO
          · rename_i c
            refine ⟨PE.imp (pe_lc G.calm nd piO bo pg (fun s H A cl fp => pts_one (hf s H A cl fp c).2) (fun s H A cl fp => (hf s H A cl fp elt).1) (fold_ok hset)) fun _ _ _ => r_compOIf, fun h1 h2 h3 => ?_⟩
            exact PS.imp (ps_setLc G.calm nd h1 h2 h3 piO bo pg (fun s H A cl fp => pts_one (hf s H A cl fp c).2) (fun s H A cl fp => (hf s H A cl fp elt).1) (fold_ok hset)) fun _ _ _ => r_compOIf
          · exact bad
      · exact bad
    · exact bad
  · rename_i tg iter tg1 iter1 ifs1
    split
    · rename_i hb
      rw [Bool.and_eq_true, Bool.and_eq_true] at hb
      have hset : isSet iter = false := by simpa using hb.1.2
      have hset1 : isSet iter1 = false := by simpa using hb.2
      have bo : BlkOk X.N X.env.scope scope (ownOf N scope) := by rw [G.hN, G.sc]; exact blkOk_by hb.1.1
      have nd : X.N.Nodup := by rw [G.hN]; exact G.nd
      split
      · rename_i t t1 ht ht1
        split
        · rename_i hv
          have hv : ∀ i ∈ tgSlots t1, i ∈ (ownOf N scope).map (·.2) := fun i m => by
            have := List.all_eq_true.mp hv i m
            simpa using this
          have pg := fun (s : Shared) (H : Hp) (A : Addr) (cl : List (Str × Addr)) (fp : List Addr) => pg_tg (G.blk (scope := scope) s H A cl fp) ht
          have pg1 := fun (s : Shared) (H : Hp) (A : Addr) (cl : List (Str × Addr)) (fp : List Addr) => pg_tg (G.blk (scope := scope) s H A cl fp) ht1
          have pi := pi_iterV (f := g) G hg (tg := tg) (e := iter)
          have pi1 : ∀ (s : Shared) (H : Hp) (A : Addr) (cl : List (Str × Addr)) (fp : List Addr), PI (X.blk s H scope (compEnvC scope cl A X.env) fp) tg1 iter1 (tI X.K C noW (iterV (relS scope S) f tg1 iter1)) := fun s H A cl fp => pi_iterV (f := f) (G.blk (scope := scope) s H A cl fp) (fun e => (hf s H A cl fp e).1)
          split
          · refine ⟨PE.imp (pe_lc2 G.calm nd pi bo hv pg (fun _ _ _ _ _ => pts_nil) pi1 pg1 (fun _ _ _ _ _ => pts_nil) (fun s H A cl fp => (hf s H A cl fp elt).1) (fold_ok hset) (fun env => fold_ok hset1)) fun _ _ _ => r_comp2 (fit_iterV ht) (fit_iterV ht1), fun h1 h2 h3 => ?_⟩
            exact PS.imp (ps_setLc2 G.calm nd h1 h2 h3 pi bo hv pg (fun _ _ _ _ _ => pts_nil) pi1 pg1 (fun _ _ _ _ _ => pts_nil) (fun s H A cl fp => (hf s H A cl fp elt).1) (fold_ok hset) (fun env => fold_ok hset1)) fun _ _ _ => r_comp2 (fit_iterV ht) (fit_iterV ht1)
          · rename_i c
            refine ⟨PE.imp (pe_lc2 G.calm nd pi bo hv pg (fun _ _ _ _ _ => pts_nil) pi1 pg1 (fun s H A cl fp => pts_one (hf s H A cl fp c).2) (fun s H A cl fp => (hf s H A cl fp elt).1) (fold_ok hset) (fun env => fold_ok hset1)) fun _ _ _ => r_comp2If (fit_iterV ht) (fit_iterV ht1), fun h1 h2 h3 => ?_⟩
            exact PS.imp (ps_setLc2 G.calm nd h1 h2 h3 pi bo hv pg (fun _ _ _ _ _ => pts_nil) pi1 pg1 (fun s H A cl fp => pts_one (hf s H A cl fp c).2) (fun s H A cl fp => (hf s H A cl fp elt).1) (fold_ok hset) (fun env => fold_ok hset1)) fun _ _ _ => r_comp2If (fit_iterV ht) (fit_iterV ht1)
          · exact bad
        · exact bad
      · exact bad
    · exact bad
  · exact bad
/-! ### expressions -/
def plainX : Expr → Bool
  | .UnaryOp .Not _ _ => false
  | .BoolOp _ _ _ => false
  | .IfExp _ _ _ _ => false
  | .Compare _ _ _ _ => false
  | _ => true
theorem isTrue_plainX {e : Expr} {env : Env} (h : plainX e = true) : ∀ whole, isTrue e env whole = (do let v ← whole; standAt e.pos; holding [v] (truthy v)) := by
  intro w
  cases e <;> first | rfl | (cases h; done) | skip
  rename_i op x p
  cases op <;> first | rfl | cases h
theorem both_of {e : Expr} {c : CE} (hx : plainX e = true) (hc : plainC c = true) (h : PE X e (tE X.K C W c)) : PE X e (tE X.K C W c) ∧ PT X e (tT X.K C W c) :=
  ⟨h, PT.imp (pt_truth h (isTrue_plainX hx)) fun _ _ _ => r_truth hc⟩
theorem plain_name {x : Str} : plainC (nameC N S x) = true := by
  unfold nameC; repeat' split
  all_goals rfl
theorem plain_user {x : Str} {args : List Expr} : plainC (userC T f x args) = true := by
  unfold userC; repeat' split
  all_goals rfl
theorem plain_call {x : Str} {args : List Expr} : plainC (callC T S f x args) = true := by
  unfold callC; repeat' split
  all_goals first | rfl | exact plain_user
theorem plain_callK {x : Str} {args : List Expr} {kws : List Keyword} : plainC (callK T S f x args kws) = true := by
  unfold callK; repeat' split
  all_goals rfl
theorem plain_meth {o : Expr} {m : Str} {args : List Expr} {p q : Pos} : plainC (methC N S f o m p args q) = true := by
  unfold methC; repeat' split
  all_goals rfl
theorem plain_tri {g : Scope → Expr → CE} {args : List Expr} {kws : List Keyword} : plainC (triC S g args kws) = true := by
  unfold triC; repeat' split
  all_goals rfl
theorem plain_comp {ow : Str → Bool} {g : Expr → CE} {elt : Expr} {gs : List Comprehension} {scope : Scope} : plainC (compC ow N S g f elt gs scope) = true := by
  unfold compC; repeat' split
  all_goals rfl
theorem plain_const {c : Const} : plainC (constC c) = true := by
  cases c <;> rfl
theorem bool_out : ∀ (c : CE) (env : List Sl) (p : Rv × List Sl), evalE C true c env = .ok p → ∃ b, p.1 = .val (.bl b) := by
  have pl : ∀ (c : CE), plainC c = true → ∀ (env : List Sl) (p : Rv × List Sl), evalE C true c env = .ok p → ∃ b, p.1 = .val (.bl b) := fun c hc env p h => by
    rw [eval_test C hc] at h
    obtain ⟨q, _, h⟩ := R.bind_ok h
    rw [fin_true] at h
    obtain ⟨b, _, h⟩ := R.bind_ok h
    cases h
    exact ⟨b, rfl⟩
  intro c
  induction c using CE.rec (motive_2 := fun _ => True) (motive_3 := fun _ => True) with
  | andE a b iha ihb =>
    intro env p h
    simp only [evalE] at h
    obtain ⟨q, _, h⟩ := R.bind_ok h
    obtain ⟨x, _, h⟩ := R.bind_ok h
    cases x with
    | true => exact ihb _ _ h
    | false => cases h; exact ⟨_, rfl⟩
  | orE a b iha ihb =>
    intro env p h
    simp only [evalE] at h
    obtain ⟨q, _, h⟩ := R.bind_ok h
    obtain ⟨x, _, h⟩ := R.bind_ok h
    cases x with
    | true => cases h; exact ⟨_, rfl⟩
    | false => exact ihb _ _ h
  | notE a iha =>
    intro env p h
    simp only [evalE] at h
    obtain ⟨q, _, h⟩ := R.bind_ok h
    obtain ⟨x, _, h⟩ := R.bind_ok h
    cases h; exact ⟨_, rfl⟩
  | ifE t a b iht iha ihb =>
    intro env p h
    simp only [evalE] at h
    obtain ⟨q, _, h⟩ := R.bind_ok h
    obtain ⟨x, _, h⟩ := R.bind_ok h
    cases x with
    | true => exact iha _ _ h
    | false => exact ihb _ _ h
  | _ => first | exact True.intro | exact pl _ rfl
theorem expr_ok : ∀ (n : Nat) {T : Tb} {C : Ctx} {bs : Option Scope} {S : Scope} {X : Cx} {W : WT} [hW : Wok W], Good T N C bs S X W → ∀ e, PE X e (tE X.K C W (compE T N n S e)) ∧ PT X e (tT X.K C W (compE T N n S e))
  | 0, _, _, _, _, _, _, _, _, e => ⟨pe_stuck, pt_stuck⟩
  | n + 1, T, C, bs, S, X, W, hW, G, e => by
    have ih := fun e => expr_ok n G e
    have hf := fun e => (ih e).1
    unfold compE
    split
    · exact both_of rfl plain_const pe_constC
    · exact both_of rfl plain_name (pe_name G)
    · split
      · rename_i o ho
        exact both_of rfl rfl (PE.imp (pe_op (binOp_ok ho) (hf _) (hf _)) fun _ _ _ => r_p2 hW)
      · exact ⟨pe_stuck, pt_stuck⟩
    · exact ⟨PE.imp (pe_notT (hf _)) fun _ _ _ => r_notV, PT.imp (pt_not (ih _).2) fun _ _ _ q => r_notT q (bool_out _)⟩
    · exact both_of rfl rfl (PE.imp (pe_un un1_neg (hf _)) fun _ _ _ => r_p1)
    · obtain ⟨h1, h2⟩ := boolB ih
      exact ⟨h1, h2.pt⟩
    · exact ⟨PE.imp (pe_ifExp (ih _).2 (hf _) (hf _)) fun _ _ _ => r_ifE hW, PT.imp (pt_ifExp (ih _).2 (ih _).2 (ih _).2) fun _ _ _ => r_ifT hW⟩
    · exact cmp_both G hf
    · split
      · split
        · exact ⟨pe_stuck, pt_stuck⟩
        · exact chain_both G hf (by assumption) (by assumption) (by simpa using ‹¬ isSet _ = true›)
      · exact ⟨pe_stuck, pt_stuck⟩
    · refine both_of rfl ?_ (pe_tupC hf)
      split <;> rfl
    · refine both_of rfl ?_ (pe_lstC hf)
      split <;> rfl
    · refine both_of rfl ?_ (pe_dicC hf)
      repeat' split
      all_goals rfl
    · exact both_of rfl rfl (pe_backC hf)
    · refine both_of rfl ?_ (pe_slC hf)
      repeat' split
      all_goals rfl
    · split
      · exact ⟨pe_stuck, pt_stuck⟩
      · exact both_of rfl rfl (pe_ixC G hf (by simpa using ‹¬ isSlice _ = true›))
    · rename_i x p args kws pos
      split
      · rename_i h
        rw [Bool.and_eq_true, decide_eq_true_eq] at h
        obtain ⟨hl, e⟩ := h
        subst e
        refine both_of rfl plain_tri ?_
        unfold triC
        split
        · rename_i params body scope lpos
          split
          · rename_i h
            rw [Bool.and_eq_true, Bool.and_eq_true] at h
            exact tri_pe G hl h.1.1 h.1.2 h.2 fun X' E _ G' => (expr_ok n G' body).1
          · exact pe_stuck
        · exact pe_stuck
      split
      · rename_i h
        rw [Bool.and_eq_true] at h
        cases kws with
        | nil => exact both_of rfl plain_call (call_pe G hf)
        | cons k ks => cases h.1
      · exact both_of rfl plain_callK (callK_pe G hf)
    · exact both_of rfl plain_meth (meth_pe G hf)
    · exact both_of rfl plain_comp (lc_both G hf (fun s H A cl fp e => expr_ok n (G.blk s H A cl fp) e)).1
    · exact ⟨pe_stuck, pt_stuck⟩
end
end G

set_option Elab.async false
set_option linter.all false
set_option maxRecDepth 100000
/-! G, part 10: statements are sound; every def of a text keeps the promise that the evaluator tells. -/
namespace G
open PySem L2
variable [TB : Tbs]
section
variable {T : Tb} {N : List Str} {C : Ctx} {S : Scope} {X : Cx} {lent : List Bool} {W : WT} [hW : Wok W]
theorem ts_stuck {D : Ends} {σ : L2.St} {H : Hp} {K : PySem.W.Frag} {W : WT} : ¬ tS K C W lent .stuck D σ H := fun ⟨F, env, s, q⟩ => q.elim
theorem ps_stuck {s : Stmt} {W : WT} : PS X s (tS X.K C W lent .stuck) := ps_false fun _ _ _ => ts_stuck
theorem sw_none {e : Expr} {l : Nat} {env : Env} {t : Option Expr} (h : isLc e = false) : swapsWith e t l env = pure false := by
  cases e <;> first | rfl | cases h
theorem pss_all {f : Stmt → CS} (hf : ∀ s, PS X s (tS X.K C W lent (f s))) : ∀ {ss : List Stmt}, PSs X ss (tSs X.K C W lent (compSs f ss))
  | [] => PSs.imp pss_nil fun _ _ _ => q_nil
  | s :: r => PSs.imp (pss_cons (hf s) (pss_all hf)) fun _ _ _ => q_cons hW
theorem asg_ok (G : Good T N C none S X W) (n : Nat) {tg e : Expr} {pos : Pos} : PS X (.Assign [tg] e pos) (tS X.K C W lent (asgC T N n S tg e)) := by
  have nd : X.N.Nodup := by rw [G.hN]; exact G.nd
  have hu := G.hu
  unfold asgC
  split
  · rename_i x px
    split
    · rename_i ht
      obtain ⟨t1, t2⟩ := G.tgt ht
      split
      · rename_i i hi
        have hi : X.N[i]? = some x := by rw [G.hN]; exact slotOf_ok hi
        split
        · rename_i hlc
          split
          · rename_i hsw
            by_cases hno : lcNo S x e = true
            · cases e <;> first | (cases hno; done) | skip
              rename_i elt gs scope lpos
              have hx : X.env.scope.names.lookup x = some .cell := by rw [G.sc]; simpa [lcNo] using hno
              have ky : X.env.kindOf x = some .cell := hx
              exact PS.imp (ps_set nd hi t1 (expr_ok n G _).1 (by
                unfold swapsWith
                simp only [ky, Expr.pos]
                show (pure _ : Sem Bool) = pure false
                congr 1
                simp) t2) fun _ _ _ => q_asg
            rw [Bool.or_eq_true, or_iff_left hno] at hsw
            cases e <;> first | (cases hsw; done) | skip
            rename_i elt gs scope lpos
            simp only [lcSw, Bool.and_eq_true] at hsw
            obtain ⟨⟨⟨h1, h2⟩, h3⟩, h4⟩ := hsw
            have hk : X.env.scope.kind = .function := by
              rw [G.sc]
              split at h1
              · assumption
              · cases h1
            have hx : X.env.scope.names.lookup x = some .local := by rw [G.sc]; simpa using h2
            have sw := sw_true (elt := elt) (gs := gs) (scope := scope) (pos := lpos) (py := px) (y := x) (l := pos.line) (env := X.env) hk hx h3 (by simpa using h4)
            cases n with
            | zero => exact ps_false fun _ _ _ q => tE_stuck (q_asg q)
            | succ n =>
              refine PS.imp ((lc_both G (fun e => (expr_ok n G e).1) (fun s H A cl fp e => expr_ok n (G.blk s H A cl fp) e)).2 hi hx sw) fun _ _ _ => q_asg
          · exact ps_stuck
        · rename_i hlc
          have hlc : isLc e = false := by simpa using hlc
          exact PS.imp (ps_set nd hi t1 (expr_ok n G e).1 (sw_none hlc) t2) fun _ _ _ => q_asg
      · exact ps_stuck
    · exact ps_stuck
  · rename_i es k tp
    split
    · exact ps_stuck
    · rename_i h
      rw [Bool.or_eq_true, not_or] at h
      have h1 : isLc e = false := by simpa using h.1
      have h2 : isTupE e = false := by simpa using h.2
      split
      · rename_i is his
        obtain ⟨p1, p2, p3⟩ := pgs_names G his
        refine PS.imp (ps_asg (expr_ok n G e).1 (pg_tup G.calm p1 p2 p3) (by cases e <;> first | rfl | cases h1) ?_ rfl) fun _ _ _ => q_asgT
        cases e <;> first | rfl | cases h2
      · exact ps_stuck
  · rename_i x px k sp
    split
    · exact ps_stuck
    · rename_i h
      rw [Bool.or_eq_true, Bool.or_eq_true, not_or, not_or] at h
      obtain ⟨⟨h1, h2⟩, h3⟩ := h
      have h1 : isLc e = false := by simpa using h1
      have h2 : isSlice k = false := by simpa using h2
      have h3 : (visB S x && !dbgB x) = true := by simpa using h3
      rw [Bool.and_eq_true] at h3
      split
      · rename_i i hi
        have hx : PE X (.Name x px) (tVar i) := pe_var (by rw [G.hN]; exact slotOf_ok hi) (G.vis h3.1) (dbg_ok h3.2).1 (dbg_ok h3.2).2
        refine PS.imp (ps_asg (expr_ok n G e).1 (pg_sub hx (expr_ok n G k).1 (set_D (by omega)) ?_) (by cases e <;> first | rfl | cases h1) ?_ rfl) fun _ _ _ => q_setI hW
        · intro v
          cases k <;> first | rfl | cases h2
        · cases e <;> rfl
      · exact ps_stuck
  · exact ps_stuck
theorem stmt_ok (m : Nat) : ∀ (n : Nat) {S : Scope} {X : Cx}, Good T N C none S X W → ∀ s, PS X s (tS X.K C W lent (compS T N m n S s))
  | 0, _, _, _, s => ps_stuck
  | n + 1, S, X, G, s => by
    have ih := fun s => stmt_ok m n G s
    have he := fun e => expr_ok m G e
    unfold compS
    split
    · exact PS.imp ps_pass fun _ _ _ => q_pass
    · exact PS.imp ps_break fun _ _ _ => q_brk
    · exact PS.imp ps_continue fun _ _ _ => q_cont
    · exact PS.imp ps_retN fun _ _ _ => q_retN
    · exact PS.imp (ps_ret (he _).1) fun _ _ _ => q_ret
    · split
      · rename_i e pos hd
        cases e <;> first | (exact absurd hd Bool.false_ne_true) | skip
        rename_i c _ _
        cases c <;> first | (exact absurd hd Bool.false_ne_true) | skip
        exact PS.imp ps_doc fun _ _ _ => q_pass
      · split
        · exact ps_stuck
        · rename_i h
          exact PS.imp (ps_expr (he _).1 (sw_none (by simpa using h))) fun _ _ _ => q_expr
    · exact PS.imp (ps_if (he _).2 (pss_all ih) (pss_all ih)) fun _ _ _ => q_if hW
    · exact PS.imp (ps_while G.po (he _).2 (pss_all ih)) fun _ _ _ => q_while hW
    · split
      · rename_i t ht
        split
        · exact ps_stuck
        · rename_i h
          exact PS.imp (ps_for G.po G.calm (pi_iterV G (fun e => (he e).1)) (pg_tg G ht) (pss_all ih) (fold_ok (by simpa using h))) fun _ _ _ => q_for hW (fit_iterV ht)
      · exact ps_stuck
    · exact asg_ok G m
    · split
      · rename_i x p e es cp rp h
        rw [Bool.and_eq_true, Bool.and_eq_true] at h
        obtain ⟨⟨h1, h2⟩, h3⟩ := h
        split
        · rename_i fs hfs
          obtain ⟨Cc, fI, k, fd, ps, T1, iC, tI, F1, hr, hb, hm, nd, hl⟩ := G.exc x fs hfs
          obtain ⟨EE, tk, hE⟩ := G.ex
          have hs : isStar e = false := by
            have := h3
            unfold noStar at this
            rw [List.all_cons, Bool.and_eq_true] at this
            simpa using this.1
          have hes : noStar es = true := by
            have := h3
            unfold noStar at this
            rw [List.all_cons, Bool.and_eq_true] at this
            exact this.2
          exact PS.imp (ps_raise G.calm tk (pmk_oex T1 iC tI F1 hr hb .nil (passes_call takes_none fun _ _ _ _ h => h) (G.gl h1) hm (pa_all (fun e => (he e).1) h3) (dbg_ok h2).1 (star_cons hs) (star_any hes))) fun D σ H q => r_raise q (hE σ) hm nd hl
        · exact ps_stuck
      · exact ps_stuck
    · have aug : ∀ {i : Nat} {x : Str} {e : Expr} {o : P2} {op : Operator} {p pos : Pos}, slotOf N x = some i → tgtB none S x = true → PIp X op (rD X.K (prim2 o)) → PS X (.AugAssign (.Name x p) op e pos) (tS X.K C W lent (.asg i (.p2 o (.var i) (compE T N m S e)))) := fun {i x e o op p pos} hi ht hp => by
        obtain ⟨t1, t2⟩ := G.tgt ht
        refine PS.imp (ps_aug (by rw [G.hN]; exact G.nd) (by rw [G.hN]; exact slotOf_ok hi) t1 (he e).1 hp t2) fun D σ H q => ?_
        obtain ⟨v, h1, h2⟩ := r_var (r_p2 hW (q_asg q))
        exact ⟨v, h1, h2⟩
      split
      · split
        · split
          · exact aug (by assumption) (by assumption) ip2_add
          · exact ps_stuck
        · exact ps_stuck
      · split
        · split
          · exact aug (by assumption) (by assumption) ip2_sub
          · exact ps_stuck
        · exact ps_stuck
      · exact ps_stuck
    · exact ps_stuck
end
section
variable {P : Program} {w : World} {K : PySem.W.Frag} {mg : Str → Option Value} {base : Heap}
theorem args_lent {F : Addr → Prop} {H : Hp} : ∀ {ls : List Bool} {vs : List V} {ds : List D} {i : Nat}, Args K F H ls vs ds → ls.getD i false = true → ∃ a, vs[i]? = some (.ref a)
  | _, _, _, i, .nil, g => by simp at g
  | _, _, _, 0, .val _ _, g => by simp at g
  | _, _, _, i + 1, .val _ t, g => by
    obtain ⟨a, h⟩ := args_lent t (i := i) (by simpa using g)
    exact ⟨a, h⟩
  | _, _, _, 0, .own (a := a) _ _ _ _, g => ⟨a, rfl⟩
  | _, _, _, i + 1, .own _ _ _ t, g => by
    obtain ⟨a, h⟩ := args_lent t (i := i) (by simpa using g)
    exact ⟨a, h⟩
theorem body_ok {C : Ctx} {fn : CFn} {N : List Str} {F : Addr → Prop} {H : Hp} {vs : List V} {ds : List D} {Q : VK} {E : XK} (hl : N.length = fn.slots) (hN : fn.lent.length ≤ N.length) (tr : Trk F H) (ar : Args K F H fn.lent vs ds)
    (h : (body C fn ds).wp (fun out => ∀ F' H' v, CExt F H (lents fn.lent vs) F' H' → RetOk K H F' H' v out.1 out.2.1 → Fins K F' H' fn.lent vs out.2.2 → Q v H') (fun x => EXR K mg F H (lents fn.lent vs) x E)) :
    tSs K C (wX K mg E) fn.lent fn.body { nx := fun _ H' => Q .non H', rt := Q } (L2.start N vs) H := by
  obtain ⟨l1, l2⟩ := ar.length
  obtain ⟨a1, a2, a3, a4, a5⟩ := start_args ar
  unfold body at h
  rw [if_pos l2, R.wp_bind] at h
  have part : ∀ {i : Nat} {y : Sl}, (startE fn.lent ds ++ List.replicate (fn.slots - ds.length) Sl.no)[i]? = some y → y ≠ .no → (startE fn.lent ds)[i]? = some y := fun {i y} e n => by
    rw [List.getElem?_append] at e
    split at e
    · exact e
    · rw [List.getElem?_replicate] at e
      split at e
      · cases e; exact (n rfl).elim
      · cases e
  have s0 : Stt K F H (L2.start N vs) (startE fn.lent ds ++ List.replicate (fn.slots - ds.length) Sl.no) := by
    refine ⟨?_, tr, fun i d e => ?_, fun i d e => ?_, fun i j d e b q1 q2 q3 q4 => ?_⟩
    · unfold L2.start
      rw [List.length_append, List.length_append, a5, List.length_replicate, List.length_map, List.length_replicate, l1, l2, hl]
    · obtain ⟨v, h1, h2⟩ := a1 i d (part e (fun z => nomatch z))
      exact ⟨v, start_get h1, h2⟩
    · obtain ⟨a, h1, h2, h3, _⟩ := a2 i d (part e (fun z => nomatch z))
      exact ⟨a, start_get h1, h2, h3⟩
    · have e1 := part q1 (fun z => nomatch z)
      have e2 := part q2 (fun z => nomatch z)
      obtain ⟨a, h1, _⟩ := a2 i d e1
      obtain ⟨a', h1', _⟩ := a2 j e e2
      have w1 := start_get (N := N) h1
      have w2 := start_get (N := N) h1'
      rw [w1] at q3
      rw [w2] at q4
      cases q3
      cases q4
      exact a3 i j d e _ e1 e2 h1 h1'
  have own0 : ∀ a, OwnA (L2.start N vs) (startE fn.lent ds ++ List.replicate (fn.slots - ds.length) Sl.no) a → a ∈ lents fn.lent vs ∧ ∃ i, fn.lent.getD i false = true ∧ (L2.start N vs)[i]? = some (some (.ref a)) := fun a ⟨i, d, e, e2⟩ => by
    obtain ⟨b, h1, _, _, h4, h5⟩ := a2 i d (part e (fun z => nomatch z))
    have w1 := start_get (N := N) h1
    rw [w1] at e2
    cases e2
    exact ⟨h4, i, h5, w1⟩
  have lent_own : ∀ a, a ∈ lents fn.lent vs → OwnA (L2.start N vs) (startE fn.lent ds ++ List.replicate (fn.slots - ds.length) Sl.no) a := fun a m => by
    obtain ⟨i, d, h1, h2⟩ := a4 a m
    refine ⟨i, d, ?_, start_get h2⟩
    rw [List.getElem?_append]
    split
    · exact h1
    · rename_i z
      rw [List.getElem?_eq_none (by omega)] at h1
      cases h1
  have cx : ∀ {F' H' σ' env'}, Ext F H (L2.start N vs) (startE fn.lent ds ++ List.replicate (fn.slots - ds.length) Sl.no) F' H' σ' env' → Stt K F' H' σ' env' → CExt F H (lents fn.lent vs) F' H' := fun {F' H' σ' env'} x s =>
    ⟨x.sub, fun a o h t n => x.keep a o h t fun z => n (own0 a z).1, x.dom, fun a f => by
      rcases x.new a f with f | f | f
      · exact .inl f
      · exact .inr (.inl f)
      · exact .inr (.inr (own0 a f).1), s.trk⟩
  have fx : ∀ {F' H' σ' env' fs}, Fixd fn.lent (L2.start N vs) σ' → Stt K F' H' σ' env' → finals fn.lent env' = some fs → Fins K F' H' fn.lent vs fs := fun {F' H' σ' env' fs} fd s hf => by
    refine fins_ok hf l1 fun i y e g => ?_
    have g2 := fd i g
    obtain ⟨a, ha⟩ := args_lent ar g
    rw [start_get ha] at g2
    refine ⟨a, ha, fun d ey => ?_, fun d ey => ?_⟩
    · subst ey
      obtain ⟨b, h1, h2, h3⟩ := s.own i d e
      rw [g2] at h1
      cases h1
      exact ⟨h2, h3⟩
    · subst ey
      obtain ⟨b, h1, h2⟩ := s.val i d e
      rw [g2] at h1
      cases h1
      exact h2
  refine ⟨F, _, s0, R.wp_mono h (fun p hp => ?_) fun x h F' H' cls d l e => h F' H' cls d (l.cext fun a o => (own0 a o).1) e⟩
  obtain ⟨fl, env'⟩ := p
  cases fl with
  | next =>
    have hp : ((R.of (finals fn.lent env')).bind fun fs => R.ok (false, D.non, fs)).wp _ (fun x => EXR K mg F H (lents fn.lent vs) x E) := hp
    rw [R.wp_bind, R.wp_of] at hp
    obtain ⟨fs, hf, hp⟩ := hp
    exact fun F' H' σ' x f s => hp F' H' .non (cx x s) .non (fx f s hf)
  | brk => exact hp.elim
  | cont => exact hp.elim
  | ret o d =>
    have hp : ((R.of (finals fn.lent env')).bind fun fs => R.ok (o, d, fs)).wp _ (fun x => EXR K mg F H (lents fn.lent vs) x E) := hp
    rw [R.wp_bind, R.wp_of] at hp
    obtain ⟨fs, hf, hp⟩ := hp
    refine fun F' H' σ' v x f s r => hp F' H' v (cx x s) ?_ (fx f s hf)
    unfold RetV at r
    unfold RetOk
    cases o with
    | false => exact r
    | true =>
      rw [if_pos rfl] at r
      show if true = true then _ else _
      rw [if_pos rfl]
      obtain ⟨a, h1, h2, h3, h4⟩ := r
      refine ⟨a, h1, h2, h3, ?_⟩
      rcases h4 with h4 | ⟨h4, h5⟩
      · exact h4
      · obtain ⟨_, i, g1, g2⟩ := own0 a h4
        exact (h5 i g1 (by rw [f i g1]; exact g2)).elim
/-! ### bindings by keywords -/
theorem FnB.of {K : PySem.W.Frag} {T : Tb} {x : Str} {fd : FuncData} {ps : List Str} (h : T.kw x = none) (b : Binds K fd ps []) : FnB K T x fd ps := by
  unfold FnB
  rw [h]; exact b
theorem FnB.kw {K : PySem.W.Frag} {T : Tb} {x : Str} {fd : FuncData} {ps : List Str} {I : KwI} (h : T.kw x = some I) (b : ∀ b, b ∈ I.pats → ∃ g gV, KBn K fd ps I.many (givenN I.sp b) g gV ∧ ∀ vs zs, vs.length = I.many → zs.length = (givenN I.sp b).length → gV vs zs = vs ++ fillV I.sp b zs) : FnB K T x fd ps := by
  unfold FnB
  rw [h]; exact b
/-- the given ones and the defaults, by the parameters' order -/
def asmG {α : Type} : List Bool → List α → List α → List α
  | true :: b, mv, w :: ws => w :: asmG b mv ws
  | false :: b, m :: mv, ws => m :: asmG b mv ws
  | _, _, _ => []
theorem asmG_vals : ∀ {b : List Bool} {mz zs : List V} {mv ws : List Value}, Vals mz mv → Vals zs ws → Vals (asmG b mz zs) (asmG b mv ws)
  | [], _, _, _, _, _, _ => .nil
  | true :: b, _, _, _, _, h, .nil => .nil
  | true :: b, _, _, _, _, h, .cons r t => .cons r (asmG_vals h t)
  | false :: b, _, _, _, _, .nil, _ => .nil
  | false :: b, _, _, _, _, .cons r t, h => .cons r (asmG_vals t h)
section
variable {K : PySem.W.Frag} {x qual : Str} {params : Arguments} {body : List Stmt} {scope : Scope} {kws : List (Str × V)} {f : Addr} {fd : FuncData} {ps : List Str}
theorem kbinds0 (F : FunD K x qual params body scope [] kws f fd) (n : Nat) (ks : List Str) (ms : List (Str × V)) (b : List Bool) (hk : kws ≠ []) (hms : ∀ q ∈ ms, q ∈ kws)
    (h : ∀ (D : Addr) (doc pm : Value) (an : Option Addr) (cdv ct : Value) (us mv ws : List Value), us.length = n → mv.length = ms.length → ws.length = ks.length →
      KwChain D ((ms.map (·.1)).zip mv) (bindArgs (PySem.W.fnOf x qual params body scope .none (.ref D) doc pm an cdv ct) ⟨us, ks.zip ws⟩) (ps.zip (us ++ asmG b mv ws))) :
    ∃ g, KBn K fd ps n ks g (fun vs zs => vs ++ asmG b (ms.map (·.2)) zs) := by
  obtain ⟨oc, od, dV, kV, doc, pm, an, cdv, ct, osl, rfl, lk, hcd, hD, hK⟩ := F.ex
  rcases hD with ⟨_, rfl⟩ | ⟨e, _⟩
  · rcases hK with e | ⟨D, rfl, hq⟩
    · exact absurd e hk
    · obtain ⟨mv, hl, rk, hks⟩ := kwd_vals (ms := ms) fun q hm => hq q (hms q hm)
      exact ⟨fun us ws => us ++ asmG b mv ws, ⟨fun s us ws X l1 l2 => BindsTo.of_looks fun M => KwChain.looks X hks (h D doc pm an cdv ct us mv ws l1 hl l2), fun r1 r2 => r1.append (asmG_vals rk r2)⟩⟩
  · exact absurd rfl e
/-- all of them are given -/
theorem kbindsA (F : FunD K x qual params body scope [] kws f fd) (n : Nat) (ks : List Str)
    (h : ∀ (kV doc pm : Value) (an : Option Addr) (cdv ct : Value) (us ws : List Value), us.length = n → ws.length = ks.length →
      bindArgs (PySem.W.fnOf x qual params body scope .none kV doc pm an cdv ct) ⟨us, ks.zip ws⟩ = pure (ps.zip (us ++ ws))) :
    ∃ g, KBn K fd ps n ks g (fun vs zs => vs ++ zs) := by
  obtain ⟨oc, od, dV, kV, doc, pm, an, cdv, ct, osl, rfl, lk, hcd, hD, hK⟩ := F.ex
  rcases hD with ⟨_, rfl⟩ | ⟨e, _⟩
  · exact ⟨fun us ws => us ++ ws, ⟨fun s us ws X l1 l2 => BindsTo.of_looks fun M => .of_pure (h kV doc pm an cdv ct us ws l1 l2), fun r1 r2 => r1.append r2⟩⟩
  · exact absurd rfl e
end
/-- the rule for a def, its code object told -/
theorem def_ok {K : PySem.W.Frag} {mg : Str → Option Value} {base : Heap} {P : Program} {w : World} {x qual : Str} {params : Arguments} {body : List Stmt} {scope : Scope} {dvs : List V} {kws : List (Str × V)} {f : Addr} {fd : FuncData} {CX : CXT} {N ps : List Str} {k : Nat} {sp : Sp}
    (F : FunD K x qual params body scope dvs kws f fd) (S : FnScope N ps scope) (len : ∀ vs H Q E, sp vs H Q E → vs.length = ps.length)
    (h : ∀ (A : Around) (outer : List Env) (s : Shared) (H : Hp) (vs : List V) (Q : VK) (E : XK), Room k (A.deeper (PyProof.Rows.envOfC qual scope s.heap.objs.size f fd.code)) → sp vs H Q E →
      ∃ t, PSs (cxOf CX P w K mg base N qual scope f fd.code A outer s H E) body t ∧ t { nx := fun _ H' => Q .non H', rt := Q } (L2.start N vs) H) : FnOk P w K mg base CX (k + 1) f fd ps sp := by
  obtain ⟨_, _, _, _, _, _, _, cd, _, _, e, lk, hcd, _⟩ := F.ex
  subst e
  exact fn_of lk hcd S len h
/-- a def of the text, compiled -/
structure DefIn (K : PySem.W.Frag) (mgs : Str → Option Value) (base : Heap) (T : Tb) (x : Str) (fn : CFn) (f : Addr) (fd : FuncData) (ps : List Str) : Prop where
  ex : ∃ params body scope N kws b, FunD K x x params body scope [] kws f fd ∧ FnScope N ps scope ∧ N.length = fn.slots ∧ fn.body = compSs (compS (T.wl b) N 60 60 scope) body ∧ (b = true → TriG K mgs ∧ TriAt base mgs (x ++ ".<locals>.") fd.code)
  mg : mgs x = some (.ref f)
  len : ps.length = fn.lent.length
  bd : FnB K T x fd ps
/-- a class of errors -/
def ExcIn (x : Str) (fs : List Str) : Prop := ∃ (Cc fI : Addr) (fd : FuncData) (ps : List Str), OexC K Cc ∧ PySem.W.findIn K (.ref Cc) "__init__" = some (some (.ref fI)) ∧ PySem.W.typeIn K (.ref fI) = some (.type "function") ∧
  (∀ k, FnOk P w K mg base (L2.CX P w) (k + 1) fI fd ps (spI Cc fs)) ∧ Binds K fd ps [] ∧ mg x = some (.ref Cc) ∧ fs.Nodup ∧ fs.length ≤ 1000
theorem all_ok {fns : Str → Option CFn} {globs : Str → Option D} {fuel : Nat} {T : Tb} (hT : ∀ x, T.fns x = true → ∃ fn, fns x = some fn) (hB : ∀ x, x ∈ bnames → mg x = none)
    (hD : ∀ x fn, fns x = some fn → ∃ f fd ps, DefIn K mg base T x fn f fd ps) (hG : ∀ x d, globs x = some d → ∃ u v, mg x = some u ∧ RelV v u ∧ ∀ F H, Rep K F H v d) 
    (hX : ∀ x fs, T.exc x = some fs → ExcIn (P := P) (w := w) (K := K) (mg := mg) (base := base) x fs) : ∀ k x fn f fd ps, fns x = some fn → DefIn K mg base T x fn f fd ps → FnOk P w K mg base (L2.CX P w) (k + 2) f fd ps (spOf K fn.lent (EXR K mg) (run fns globs fuel k x))
  | 0, x, fn, f, fd, ps, hx, h => ⟨fun vs H Q E ⟨F, ds, _, _, q⟩ => q.elim, fun A outer s H args us vs Q E hr e0 hb hv ⟨F, ds, _, _, q⟩ => q.elim⟩
  | k + 1, x, fn, f, fd, ps, hx, h => by
    obtain ⟨params, bd, scope, N, kws, b, FD, SC, hN, hb, hL⟩ := h.ex
    refine def_ok FD SC (fun vs H Q E ⟨F, ds, _, ar, _⟩ => by rw [ar.length.1, h.len]) fun A outer s H vs Q E hr hsp => ?_
    refine ⟨tSs K ⟨fns, globs, fuel, run fns globs fuel k, runLow fns globs fuel k⟩ (wX K mg E) fn.lent fn.body, ?_, ?_⟩
    · have hle : fn.lent.length ≤ N.length := by
        rw [← h.len]
        have := congrArg List.length SC.pre
        rw [List.length_take] at this
        omega
      rw [hb]
      refine pss_all fun st => stmt_ok 60 60 ?_ st
      refine ⟨rfl, ?_, rfl, SC.nd, rfl, fun _ => rfl, hB, hT, hG, passes_of rfl, fun y fn' hy => ?_, fun y fs hy => ?_, ⟨E, takes_of rfl rfl rfl rfl, fun _ _ _ _ _ _ h hL => wX_call h hL⟩, fun hl => ⟨(hL hl).1, (hL hl).2, k, hr, fun y fn' hy => ?_⟩⟩
      · have := hr.un
        show (A.deeper _).units + 200 < cLine
        omega
      · obtain ⟨f', fd', ps', h'⟩ := hD y fn' hy
        obtain ⟨_, _, _, _, _, _, FD', _⟩ := h'.ex
        exact ⟨k + 2, f', fd', ps', all_ok hT hB hD hG hX k y fn' f' fd' ps' hy h', hr, h'.mg, FD'.kp, h'.bd⟩
      · obtain ⟨Cc, fI, fd', ps', e1, e2, e3, e4, e5, e6, e7, e8⟩ := hX y fs hy
        exact ⟨Cc, fI, k + 1, fd', ps', e1, e2, e3, e4 k, hr, e5, e6, e7, e8⟩
      · obtain ⟨f', fd', ps', h'⟩ := hD y fn' hy
        obtain ⟨_, _, _, _, _, _, FD', _⟩ := h'.ex
        refine ⟨f', fd', ps', ?_, h'.mg, FD'.kp, h'.bd⟩
        match k with
        | 0 => exact ⟨fun vs H Q E ⟨F, ds, _, _, q⟩ => q.elim, fun A outer s H args us vs Q E hr e0 hb hv ⟨F, ds, _, _, q⟩ => q.elim⟩
        | 1 => exact ⟨fun vs H Q E ⟨F, ds, _, _, q⟩ => q.elim, fun A outer s H args us vs Q E hr e0 hb hv ⟨F, ds, _, _, q⟩ => q.elim⟩
        | j + 2 => exact all_ok hT hB hD hG hX j y fn' f' fd' ps' hy h'
    · obtain ⟨F, ds, tr, ar, q⟩ := hsp
      have q : (run fns globs fuel (k + 1) x ds).wp _ _ := q
      rw [run_eq, hx] at q
      have hle : fn.lent.length ≤ N.length := by
        rw [← h.len]
        have := congrArg List.length SC.pre
        rw [List.length_take] at this
        omega
      exact body_ok hN hle tr ar q
end
theorem reps_ints {K : PySem.W.Frag} {F : Addr → Prop} {H : Hp} : ∀ ns : List Int, Reps K F H (ns.map V.int) (ns.map D.int)
  | [] => .nil
  | n :: r => .cons (.int n) (reps_ints r)
theorem sp_law {K : PySem.W.Frag} {mg : Str → Option Value} {run : List D → R Out} (main : ∀ ns : List Int, ns.length ≤ 63 → run [.frz (ns.map .int)] = .ok (false, .bl true, [])) {ns : List Int} {H : Hp} {a : Addr} (hl : ns.length ≤ 63) (hT : LamX.Tabs TB.T H) (hS : SqL K H a (ns.map V.int)) :
    spOf K [false] (EXR K mg) run [.ref a] H (fun v _ => v = .bl true) (fun _ _ _ => False) := by
  have hz : SqZ K (fun b => b = a ∧ H a = some (.lst (ns.map V.int))) H a (ns.map V.int) := by
    rcases hS with (h | h) | h
    · exact .inr (.inl ⟨⟨rfl, h⟩, h⟩)
    · exact .inl h
    · exact .inr (.inr h)
  refine ⟨_, [.frz (ns.map .int)], ⟨fun b ⟨e, h⟩ => ⟨_, by rw [e]; exact h, NoT.lst⟩, hT⟩, .val (.frz hz (reps_ints ns)) .nil, ?_⟩
  rw [main ns hl]
  intro F' H' v _ r _
  cases r
  rfl
end G

set_option Elab.async false
set_option linter.all false
set_option maxRecDepth 100000
/-! G, part 10b: the module's constants: a Hook that tells them too. -/
namespace G
open PySem L2 He
variable [TB : Tbs]
mutual
/-- a value of the top: flat, a tuple of such, a list that nobody writes -/
def repB (K : PySem.W.Frag) : Nat → Value → D → Bool
  | _, .none, .non => true
  | _, .bool a, .bl b => a == b
  | _, .int i _, .int j => decide (i = j)
  | _, .str x _, .str y => decide (x = y)
  | n + 1, .ref a, .tup ds => (match K.lookup a with
    | some ⟨.type c, none, .seq its _, _⟩ => decide (c = "tuple") && (decide (its.size ≤ sizeLine) && repBs K n its.toList ds)
    | _ => false)
  | n + 1, .ref a, .frz ds => (match K.lookup a with
    | some ⟨.type c, none, .seq its _, _⟩ => decide (c = "list") && (decide (its.size ≤ sizeLine) && repBs K n its.toList ds)
    | _ => false)
  | _, _, _ => false
def repBs (K : PySem.W.Frag) : Nat → List Value → List D → Bool
  | _, [], [] => true
  | n, u :: us, d :: ds => repB K n u d && repBs K n us ds
  | _, _, _ => false
end
mutual
theorem repB_ok {K : PySem.W.Frag} : ∀ {n : Nat} {u : Value} {d : D}, repB K n u d = true → ∃ v, RelV v u ∧ ∀ F H, Rep K F H v d := by
  intro n u d h
  unfold repB at h
  split at h
  · exact ⟨.non, rfl, fun _ _ => .non⟩
  · rename_i a b
    have e : a = b := eq_of_beq h
    subst e
    exact ⟨.bl a, rfl, fun _ _ => .bl a⟩
  · rename_i i t j
    have e : i = j := of_decide_eq_true h
    subst e
    exact ⟨.int i, ⟨t, rfl⟩, fun _ _ => .int i⟩
  · rename_i x t y
    have e : x = y := of_decide_eq_true h
    subst e
    exact ⟨.str x, ⟨t, rfl⟩, fun _ _ => .str x⟩
  · rename_i n a ds
    split at h
    · rename_i c its k sl q
      rw [Bool.and_eq_true, Bool.and_eq_true] at h
      obtain ⟨h1, h2, h3⟩ := h
      obtain ⟨vs, h4, h5⟩ := repBs_ok h3
      exact ⟨.ref a, rfl, fun F H => .tup (.inr ⟨_, its, k, q, rfl, congrArg Value.type (of_decide_eq_true h1), rfl, of_decide_eq_true h2, h4⟩) (h5 F H)⟩
    · cases h
  · rename_i n a ds
    split at h
    · rename_i c its k sl q
      rw [Bool.and_eq_true, Bool.and_eq_true] at h
      obtain ⟨h1, h2, h3⟩ := h
      obtain ⟨vs, h4, h5⟩ := repBs_ok h3
      exact ⟨.ref a, rfl, fun F H => .frz (.inr (.inr ⟨_, its, k, q, congrArg Value.type (of_decide_eq_true h1), rfl, rfl, of_decide_eq_true h2, h4⟩)) (h5 F H)⟩
    · cases h
  · cases h
theorem repBs_ok {K : PySem.W.Frag} : ∀ {n : Nat} {us : List Value} {ds : List D}, repBs K n us ds = true → ∃ vs, Vals vs us ∧ ∀ F H, Reps K F H vs ds := by
  intro n us ds h
  unfold repBs at h
  split at h
  · exact ⟨[], .nil, fun _ _ => .nil⟩
  · rw [Bool.and_eq_true] at h
    obtain ⟨v, h1, h2⟩ := repB_ok h.1
    obtain ⟨vs, h3, h4⟩ := repBs_ok h.2
    exact ⟨v :: vs, .cons h1 h3, fun F H => .cons (h2 F H) (h4 F H)⟩
  · cases h
end
def constB (K : PySem.W.Frag) (g : Str × D) : Bool := match PySem.W.nsIn K mainGlobals g.1 with
  | some (some u) => repB K 8 u g.2
  | _ => false
theorem const_ok {K : PySem.W.Frag} {h : Heap} {mg : Str → Option Value} (X : K.In h) (G : h.Ns mainGlobals mg) {g : Str × D} (c : constB K g = true) : ∃ u v, mg g.1 = some u ∧ RelV v u ∧ ∀ F H, Rep K F H v g.2 := by
  unfold constB at c
  split at c
  · rename_i u e
    obtain ⟨v, h1, h2⟩ := repB_ok c
    exact ⟨u, v, PySem.W.mg_of X G e, h1, h2⟩
  · cases c
def globOf (gs : List (Str × D)) (x : Str) : Option D := (gs.find? fun g => decide (g.1 = x)).map (·.2)
theorem globs_ok {K : PySem.W.Frag} {h : Heap} {mg : Str → Option Value} (X : K.In h) (G : h.Ns mainGlobals mg) {gs : List (Str × D)} (c : (gs.all (constB K)) = true) : ∀ x d, globOf gs x = some d → ∃ u v, mg x = some u ∧ RelV v u ∧ ∀ F H, Rep K F H v d := by
  intro x d e
  obtain ⟨g, h1, rfl⟩ := Option.map_eq_some_iff.mp e
  have h2 := List.find?_some h1
  have e2 : g.1 = x := of_decide_eq_true h2
  subst e2
  exact const_ok X G (List.all_eq_true.mp c g (List.mem_of_find?_eq_some h1))
/-! ### the Hook -/
abbrev AlX : Type := AlD × Bool
def obsX (fa : List Fa) (fn : List DefD) (gs : List (Str × D)) (K : PySem.W.Frag) : AlX := (obsD fa fn K, gs.all (constB K))
def obsXG (n : Nat) (fa : List Fa) (fn : List DefD) (gs : List (Str × D)) (g : Addr → Option Obj) : AlX := obsX fa fn gs (frG g (asD g n))
def hookX (n : Nat) (fa : List Fa) (fn : List DefD) (gs : List (Str × D)) : PySem.W.Hook where
  α := AlX
  obs := fun s => obsXG n fa fn gs s.heap.get?
  val := fun _ => (valD fn, true)
  says := fun _ h => ∃ K : PySem.W.Frag, K.In h ∧ SaysD fa fn K ∧ gs.all (constB K) = true
  of := fun _ _ e => ⟨_, frG_in, congrArg (fun z : AlX => z.1) e, congrArg (fun z : AlX => z.2) e⟩
  keeps := fun _ _ _ ⟨K, hK, c⟩ k => ⟨K, PySem.W.Frag.In.keeps hK k, c⟩
theorem obsXG_eq {n : Nat} {fa : List Fa} {fn : List DefD} {gs : List (Str × D)} {g : Addr → Option Obj} {s : Shared} (h : ∀ a, g a = s.heap.get? a) : obsXG n fa fn gs g = (hookX n fa fn gs).obs s := by
  have e : g = s.heap.get? := funext h
  rw [e] <;> rfl
end G

set_option Elab.async false
set_option linter.all false
set_option maxRecDepth 100000
set_option maxHeartbeats 4000000
/-! G, part 9c: isinstance of a caught error that keeps fields (its dict stands): after HandS.ExcIs, where none stands. -/
namespace PySem.W
open PySem PySem.Spec PySem.Calls PyProof.Rows
section
variable {prog : Program} {w : World} {A : Around} {E : Value → Shared → Prop} {s : Shared} {K : Frag} {x D : Addr} {ox : Obj} {od : Option Obj}
theorem gx_find {C : Addr} {name : Str} {a g : Value} (hc : (clsIn K C).isSome = true) (ha : findIn K (.ref C) name = some (some a)) (hg : specialIn K a "__get__" = some (some g)) (ht : takesIn K a = some true) : findObj K C od name = some (.bind g a) := by
  obtain ⟨cd, hc⟩ := Option.isSome_iff_exists.mp hc
  unfold findObj
  rw [hc, Option.bind_some, ha, Option.bind_some]
  simp [hg, ht]
theorem gx_class {Q : Option Value → Shared → Prop} (c : L2.ExcC K D) (X : K.In s.heap) (I : InstAt s.heap x ox D od) (h : Q (some (.ref D)) { s with toks := s.toks + 1 }) : wpAny (model prog w) A (getAttr? (.ref x) "__class__") Q E s := by
  have hf : findObj K D od "__class__" = some (.bind (.builtin "getset_descriptor.__get__") (.builtin "object.__class__")) := gx_find (by obtain ⟨cd, hc, _⟩ := any_some c.hd; rw [hc]; rfl) c.ha c.hn c.ht
  obtain ⟨hp, g, d, t, os⟩ := s
  have L0 := I.type (M := model prog w)
  have L1 := looks_findIn (M := model prog w) X c.hg
  have L2 := looks_findIn (M := model prog w) X c.hk
  have L3 := looks_find (M := model prog w) X I hf
  have sub : Looks (model prog w) hp (isInstance (.ref x) (.type "BaseException")) true := L0.andThen (looks_subIn X c.hs)
  have hx0 : (false && onTheHeap (Value.builtin "BaseException.__getattribute__")) = false := rfl
  have hx2 : (Value.builtin "BaseException.__getattribute__" == Value.builtin "object.__getattribute__") = false := by decide +kernel
  have hx1 : (onTheHeap (Value.ref D) && Value.builtin "BaseException.__getattribute__" == Value.builtin "object.__getattribute__") = false := by rw [hx2]; rfl
  unfold getAttr? getAttrBy? getAttrBy
  refine wpAny_bind (wpAny_mkText (wpAny_bind (wpAny_attempt (wpAny_holding (wpAny_bind (L0.at (wpAny_bind (L1.at ?_))))))))
  show wpAny _ _ (if (onTheHeap (Value.ref D) && Value.builtin "BaseException.__getattribute__" == Value.builtin "object.__getattribute__") = true then _ else _) _ _ _
  rw [hx1, if_neg Bool.false_ne_true]
  unfold getAttrByItsOwn hookBefore
  refine wpAny_bind ?_
  rw [if_pos (show onTheHeap (Value.ref D) = true from rfl)]
  refine L2.at ?_
  refine wpAny_bind (wpAny_attempt (wpAny_holding ?_))
  unfold callGetattribute
  rw [hx0, if_neg Bool.false_ne_true]
  unfold boundAndCalled
  rw [PySem.F.excAttr_ValueError.ga.bind (.ref x)]
  refine wpAny_bind (wpAny_pure ?_)
  show wpAny _ _ (call (.builtin "BaseException.__getattribute__") [.ref x, .str "__class__" t]) _ _ _
  refine wpAny_call (codeAny_call_builtin PySem.F.excAttr_ValueError.ga.plain PySem.F.entry_bexc_ga ?_)
  refine @check_slot (model prog w) _ _ ⟨hp, g, d, t + 1, os⟩ "BaseException.__getattribute__" "BaseException" "__getattribute__" (.ref x) [.str "__class__" t] [] _ (by decide +kernel) (by decide +kernel) sub (PySem.F.args_bexc_ga (.ref x) (.str "__class__" t)) ?_
  unfold Builtin.«object.__getattribute__»
  refine wpAny_bind (wpAny_of_eq (a := ((Value.ref x : Value), [Value.str "__class__" t])) (by first | rfl | (simp only [slotArgs]; rfl)) ?_)
  refine wpAny_bind (wpAny_pure (wpAny_bind (L0.at (wpAny_bind (L3.at ?_)))))
  show wpAny _ _ (holding [Value.builtin "object.__class__"] (call (.builtin "getset_descriptor.__get__") [.builtin "object.__class__", .ref x, .ref D]) >>= ret) _ _ _
  refine wpAny_bind (wpAny_holding (wpAny_call (class_get (s := ⟨hp, g, d, t + 1, os⟩) (ox := ox) (od := od) X I c.hm ?_)))
  refine wpAny_pure ?_
  show wpAny _ _ (handedOut (.ref D)) _ _ _
  rw [handedOut_of (v := .ref D) rfl]
  first
    | exact wpAny_pure (wpAny_pure h)
    | exact wpAny_pure h
    | exact wpAny_pure (wpAny_bind (wpAny_pure (wpAny_pure h)))
theorem gx_kit (c : L2.ExcC K D) : KitX K (.ref x) (.ref D) (fun h => InstAt h x ox D od) where
  ty := fun _ _ _ I => I.type
  it := fun _ _ X _ => by
    obtain ⟨cdD, hcD, _⟩ := any_some c.hd
    unfold clsIn at hcD
    split at hcD
    · rename_i c' d' cd' sl' ho
      intro A' Q' E' s' k q
      unfold isType loadHead
      exact wpAny_bind (wpAny_loadPart (k _ _ (X _ _ ho)) (wpAny_pure q))
    · cases hcD
  ne := fun h tp dd its n sl X htp => by
    obtain ⟨cdD, hcD, _⟩ := any_some c.hd
    refine Bool.eq_false_iff.mpr fun q => ?_
    have e : D = tp := Value.ref.inj (beq_iff_eq.mp q)
    subst e
    unfold clsIn at hcD
    split at hcD
    · rename_i c' d' cd' sl' ho
      have z := (X _ _ ho).symm.trans htp
      cases z
    · cases hcD
  ca := fun X I k => gx_class c X I k
end
end PySem.W
namespace G
open PySem PySem.Spec PyProof.Rows L2
/-- isinstance(e, c), e the error that the suite holds, its dict at dd -/
def rIsX (K : PySem.W.Frag) (D a dd : Addr) : List V → Hp → VK → Prop := fun xs H Q => ∃ (c : V) (cv : Value) (b : Bool) (fs : List (Str × V)), xs = [.ref a, c] ∧ (∀ u, RelV c u → u = cv) ∧ PySem.W.kitOne K (.ref D) cv = some b ∧ H dd = some (.xd fs) ∧ Q (.bl b) H
theorem call_isX {X : Cx} {a D dd : Addr} {oe : Obj} {pn : List (Addr × Obj)} (C : ExcC X.K D) (hz : Zc (.ref D) (some dd) oe) (hf : ∃ vs, oe.data = .fields vs) : CallR (X.suite a ((a, oe) :: pn)) (.builtin "isinstance") (rIsX X.K D a dd) := by
  intro pins s σ H xs us Q I r h
  obtain ⟨c, cv, b, fs, rfl, hcv, e, ea, q⟩ := h
  cases r with
  | cons rx rr =>
    cases rr with
    | cons rt rr =>
      cases rr
      cases rx
      have ec := hcv _ rt
      subst ec
      obtain ⟨hget, _⟩ := I.pin (a, oe) (List.mem_append.mpr (.inl List.mem_cons_self))
      obtain ⟨vs, hv⟩ := hf
      have hx : ObjOk X.prog X.w H s.heap dd (.xd fs) := I.hok dd _ ea
      obtain ⟨mA, hns, hr⟩ := hx
      obtain ⟨od, ho, hl⟩ := lookIn_ns hns
      have J : PySem.W.InstAt s.heap a oe D (some od) := ⟨hget, hz.1, by unfold PySem.W.notCls; rw [hv] <;> rfl, by rw [hz.2]; exact ho⟩
      exact PySem.W.kia_one (PySem.W.gx_kit C) I.kIn J e (fun z => nomatch z) fun tk => ⟨.bl b, H, I.kept (t' := tk) fun _ _ z => z, rfl, q⟩
end G

set_option Elab.async false
set_option linter.all false
set_option maxRecDepth 100000
set_option maxHeartbeats 1000000
/-! G, part 11: `_law_tried`: its rows. -/
namespace G
open PySem L2
variable [TB : Tbs]
section
/-- the readings (e.f, ..) -/
def attE (e : Str) : List Str → List (Pos × Pos) → List Expr
  | f :: fs, q :: qs => .Attribute (.Name e q.1) f q.2 :: attE e fs qs
  | _, _ => []
variable {X : Cx} {a D dd : Addr} {oe : Obj} {pn : List (Addr × Obj)} {e : Str} {i : Nat}
def attT (a D dd : Addr) (i : Nat) : List Str → List (Pos × Pos) → TA
  | f :: fs, _ :: qs => tCons (tXf a (.ref D) (some dd) D f (tVar i)) (attT a D dd i fs qs)
  | _, _ => tNil
theorem att_pa (hi : X.N[i]? = some e) (hv : Vis X.env.scope e) (hd : (!dbgX e) = true) (T : XfC X.K D) (hz : Zc (.ref D) (some dd) oe) (hf : ∃ vs, oe.data = .fields vs) : ∀ (fs : List Str) (qs : List (Pos × Pos)), (∀ f, f ∈ fs → PySem.W.findIn X.K (.ref D) f = some none) →
    PA (X.suite a ((a, oe) :: pn)) (attE e fs qs) (attT a D dd i fs qs)
  | f :: fs, q :: qs, h => by
    have he : PE (X.suite a ((a, oe) :: pn)) (.Name e q.1) (tVar i) := pe_var hi hv (dbgX_ok hd).1 (dbgX_ok hd).2
    exact pa_cons (pe_xf T (h f List.mem_cons_self) hz hf he) (att_pa hi hv hd T hz hf fs qs fun g hg => h g (List.mem_cons_of_mem _ hg))
  | [], _, _ => pa_nil
  | _ :: _, [], _ => pa_nil
/-- if isinstance(e, c): fo.append(("refused", "c", (e.f, ..))) -/
def rowE (e fo c : Str) (fs : List Str) (qs : List (Pos × Pos)) (j1 j2 k1 k2 : Nat) (p0 p1 p2 p3 p4 p5 p6 p7 p8 p9 p10 p11 p12 : Pos) : Stmt :=
  .If (.Call (.Name "isinstance" p0) [.Name e p1, .Name c p2] [] p3)
    [.Expr (.Call (.Attribute (.Name fo p4) "append" p5) [.Tuple [.Constant (.str "refused") j1 p6, .Constant (.str c) j2 p7, .Tuple (attE e fs qs) k1 p8] k2 p9] [] p10) p11] [] p12
def rowT (K : PySem.W.Frag) (a D dd Ci : Addr) (i io : Nat) (c : Str) (fs : List Str) : TS := fun Dn σ H => ∃ (F : Addr → Prop) (L : Addr) (acc : List _root_.G.D) (b : Bool) (fl : List (Str × V)),
  σ[i]? = some (some (.ref a)) ∧ σ[io]? = some (some (.ref L)) ∧ ¬ F L ∧ OwnC K F H L (.lst acc) ∧ PySem.W.kitOne K (.ref D) (.ref Ci) = some b ∧ H dd = some (.xd fl) ∧ (b = false → Dn.nx σ H) ∧
  (b = true → acc.length < 100 ∧ fs.length ≤ 100 ∧ ∃ ws dws, ws.length = fs.length ∧ (∀ f w, (f, w) ∈ fs.zip ws → fl.lookup f = some w) ∧ Reps K F H ws dws ∧
    ∀ H2 : Hp, OwnC K F H2 L (.lst (acc ++ [.tup [.str "refused", .str c, .tup dws]])) → (∀ b o, H b = some o → b ≠ L → H2 b = some o) → Dn.nx σ H2)
theorem att_run {fl : List (Str × V)} {σ : L2.St} {H : Hp} {Q : List V → Hp → Prop} (h1 : σ[i]? = some (some (.ref a))) (h2 : H dd = some (.xd fl)) : ∀ (fs : List Str) (qs : List (Pos × Pos)) (ws : List V), fs.length = qs.length → ws.length = fs.length → (∀ f w, (f, w) ∈ fs.zip ws → fl.lookup f = some w) → Q ws H → attT a D dd i fs qs σ H Q
  | [], _, [], _, _, _, q => q
  | f :: fs, [], _, e, _, _, _ => by cases e
  | f :: fs, q :: qs, w :: ws, e, l, h, hq => by
    refine ⟨.ref a, h1, rfl, rfl, dd, fl, w, rfl, h2, h f w (by rw [List.zip_cons_cons]; exact List.mem_cons_self), ?_⟩
    exact att_run h1 h2 (Q := fun xs H2 => Q (w :: xs) H2) fs qs ws (by simpa using e) (by simpa using l) (fun g v hg => h g v (by rw [List.zip_cons_cons]; exact List.mem_cons_of_mem _ hg)) hq
theorem row_ok {fo c : Str} {fs : List Str} {qs : List (Pos × Pos)} {j1 j2 k1 k2 : Nat} {p0 p1 p2 p3 p4 p5 p6 p7 p8 p9 p10 p11 p12 : Pos} {io : Nat} {Ci : Addr}
    (hi : X.N[i]? = some e) (hv : Vis X.env.scope e) (hd : (!dbgX e) = true) (ho : X.N[io]? = some fo) (hvo : Vis X.env.scope fo) (hdo : (!dbgX fo) = true) (T : XfC X.K D) (EC : ExcC X.K D) (hz : Zc (.ref D) (some dd) oe) (hf : ∃ vs, oe.data = .fields vs)
    (hn : ∀ f, f ∈ fs → PySem.W.findIn X.K (.ref D) f = some none) (gi : Gl X "isinstance") (mi : X.mg "isinstance" = none) (gc : Gl X c) (mc : X.mg c = some (.ref Ci)) (dc : (!dbgX c) = true) (hl : (p5.endLine == p10.line) = true) (lq : fs.length = qs.length) :
    PS (X.suite a ((a, oe) :: pn)) (rowE e fo c fs qs j1 j2 k1 k2 p0 p1 p2 p3 p4 p5 p6 p7 p8 p9 p10 p11 p12) (rowT X.K a D dd Ci i io c fs) := by
  have he : ∀ q, PE (X.suite a ((a, oe) :: pn)) (.Name e q) (tVar i) := fun q => pe_var hi hv (dbgX_ok hd).1 (dbgX_ok hd).2
  have hfo : PE (X.suite a ((a, oe) :: pn)) (.Name fo p4) (tVar io) := pe_var ho hvo (dbgX_ok hdo).1 (dbgX_ok hdo).2
  have hc : PE (X.suite a ((a, oe) :: pn)) (.Name c p2) (tC (.ref Ci)) := pe_glob gc mc rfl (dbgX_ok dc).1
  have t1 := pt_val (pe_callB (p := p0) (pos := p3) (call_isX (pn := pn) EC hz hf) gi mi (by rfl) (pa_cons (he p1) (pa_cons hc pa_nil)))
  have t2 := pe_tupU (k := k2) (pos := p9) (pa_cons (pe_str (X := X.suite a ((a, oe) :: pn)) (x := "refused") (j := j1) (pos := p6)) (pa_cons (pe_str (x := c) (j := j2) (pos := p7)) (pa_cons (pe_tupU (k := k1) (pos := p8) (att_pa (pn := pn) hi hv hd T hz hf fs qs hn)) pa_nil)))
  have t3 := ps_expr (pos := p11) (pe_bm (apos := p5) (cpos := p10) PySem.F.plainAttrs_list PySem.F.slot_list_append PySem.F.type_list_append mt2_append hfo (pa_cons t2 pa_nil) rfl (few_ok rfl (by simp)) hl) (sw_none rfl)
  refine PS.imp (ps_if t1 (pss_one t3) pss_nil) fun Dn σ H h => ?_
  obtain ⟨F, L, acc, b, fl, h1, h2, nf, oc, hk, hx, n0, n1⟩ := h
  refine ⟨.ref a, h1, .ref Ci, _, b, fl, rfl, ?_, hk, hx, b, rfl, ?_⟩
  · exact fun u h => h
  · cases b with
    | false => exact n0 rfl
    | true =>
      obtain ⟨la, lf, ws, dws, lw, hlk, rws, fin⟩ := n1 rfl
      obtain ⟨vs0, haL, ra⟩ := oc.lst_
      refine ⟨.ref L, h2, .inl ⟨rfl, vs0, .inl (.inl haL)⟩, ?_⟩
      refine att_run (Q := fun xs H1 => xs.length ≤ sizeLine ∧ NewU H1 (fun x H2 => [V.str "refused", V.str c, x].length ≤ sizeLine ∧ NewU H2 (fun y H3 => rMut X.K .append (.ref L) [y] H3 fun _ H4 => Dn.nx σ H4) [V.str "refused", V.str c, x]) xs) h1 hx fs qs ws lq lw hlk ?_
      refine ⟨by rw [lw, sizeLine_eq]; omega, fun o p hop hp => ⟨by show 3 ≤ sizeLine; decide, fun o' q hoq hq => ?_⟩⟩
      have sm1 : Same H (upd H p (.frz o (.tup ws))) := same_upd hp
      have sm2 : Same (upd H p (.frz o (.tup ws))) (upd (upd H p (.frz o (.tup ws))) q (.frz o' (.tup [.str "refused", .str c, .ref p]))) := same_upd hq
      have sm : Same H (upd (upd H p (.frz o (.tup ws))) q (.frz o' (.tup [.str "refused", .str c, .ref p]))) := fun b u hb => sm2 b u (sm1 b u hb)
      have r1 : Rep X.K F (upd H p (.frz o (.tup ws))) (.ref p) (.tup dws) := .tup (.inl ⟨o, hop, upd_same⟩) (rws.keep sm1.keeps)
      have r2 : Rep X.K F (upd (upd H p (.frz o (.tup ws))) q (.frz o' (.tup [.str "refused", .str c, .ref p]))) (.ref q) (.tup [.str "refused", .str c, .tup dws]) :=
        .tup (.inl ⟨o', hoq, upd_same⟩) (.cons (.str _) (.cons (.str _) (.cons (r1.keep sm2.keeps) .nil)))
      refine ⟨F, L, .lst acc, [.tup [.str "refused", .str c, .tup dws]], (.lst (acc ++ [.tup [.str "refused", .str c, .tup dws]]), .non), rfl, nf, oc.keep sm.keeps fun u h _ => sm L u h, .cons r2 .nil, ?_, fun v u oc' _ => fin _ oc' fun b w hb nb => by rw [upd_ne nb]; exact sm b w hb⟩
      show (if acc.length < sizeLine then some _ else none) = _
      rw [if_pos (by rw [sizeLine_eq]; omega)]
def Row.pos (r : Row) (n : Nat) : Pos := r.ps.getD n ⟨0, 0, 0, 0⟩
def Row.stmt (e fo : Str) (r : Row) : Stmt := rowE e fo r.c r.fs r.qs r.j1 r.j2 r.k1 r.k2 (r.pos 0) (r.pos 1) (r.pos 2) (r.pos 3) (r.pos 4) (r.pos 5) (r.pos 6) (r.pos 7) (r.pos 8) (r.pos 9) (r.pos 10) (r.pos 11) (r.pos 12)
/-- what a row asks -/
structure RowOk (X : Cx) (D : Addr) (ad : Str → Addr) (r : Row) : Prop where
  hn : ∀ f, f ∈ r.fs → PySem.W.findIn X.K (.ref D) f = some none
  gc : Gl X r.c
  mc : X.mg r.c = some (.ref (ad r.c))
  dc : (!dbgX r.c) = true
  hl : ((r.pos 5).endLine == (r.pos 10).line) = true
  lq : r.fs.length = r.qs.length
def rowsT (K : PySem.W.Frag) (a D dd : Addr) (ad : Str → Addr) (i io : Nat) (t : TS) : List Row → TS
  | [] => t
  | r :: rs => tSeq (rowT K a D dd (ad r.c) i io r.c r.fs) (rowsT K a D dd ad i io t rs)
theorem rows_ok {fo : Str} {io : Nat} {ad : Str → Addr} {rest : List Stmt} {t : TS} (hi : X.N[i]? = some e) (hv : Vis X.env.scope e) (hd : (!dbgX e) = true) (ho : X.N[io]? = some fo) (hvo : Vis X.env.scope fo) (hdo : (!dbgX fo) = true) (T : XfC X.K D) (EC : ExcC X.K D) (hz : Zc (.ref D) (some dd) oe)
    (hf : ∃ vs, oe.data = .fields vs) (gi : Gl X "isinstance") (mi : X.mg "isinstance" = none) (hr : PSs (X.suite a ((a, oe) :: pn)) rest t) : ∀ rows : List Row, (∀ r, r ∈ rows → RowOk X D ad r) → PSs (X.suite a ((a, oe) :: pn)) (rows.map (Row.stmt e fo) ++ rest) (rowsT X.K a D dd ad i io t rows)
  | [], _ => hr
  | r :: rs, h => by
    have k := h r List.mem_cons_self
    exact pss_cons (row_ok hi hv hd ho hvo hdo T EC hz hf k.hn gi mi k.gc k.mc k.dc k.hl k.lq) (rows_ok hi hv hd ho hvo hdo T EC hz hf gi mi hr rs fun q hq => h q (List.mem_cons_of_mem _ hq))
theorem rows_run {K : PySem.W.Frag} {ad : Str → Addr} {io : Nat} {t : TS} {Dn : Ends} {σ : L2.St} {F : Addr → Prop} {L : Addr} {fl : List (Str × V)} {b : Row → Bool} {dw : Row → List _root_.G.D} (h1 : σ[i]? = some (some (.ref a))) (h2 : σ[io]? = some (some (.ref L))) (nf : ¬ F L) :
    ∀ (rows : List Row) (H : Hp) (acc : List _root_.G.D), OwnC K F H L (.lst acc) → H dd = some (.xd fl) → acc.length + rows.length ≤ 90 → (∀ r, r ∈ rows → PySem.W.kitOne K (.ref D) (.ref (ad r.c)) = some (b r)) →
      (∀ r, r ∈ rows → b r = true → r.fs.length ≤ 100 ∧ ∃ ws, ws.length = r.fs.length ∧ (∀ f w, (f, w) ∈ r.fs.zip ws → fl.lookup f = some w) ∧ Reps K F H ws (dw r)) →
      (∀ H2 : Hp, OwnC K F H2 L (.lst (acc ++ (rows.filter b).map fun r => .tup [.str "refused", .str r.c, .tup (dw r)])) → (∀ b o, H b = some o → b ≠ L → H2 b = some o) → t Dn σ H2) → rowsT K a D dd ad i io t rows Dn σ H
  | [], H, acc, oc, hx, _, _, _, fin => fin H (by simpa using oc) fun _ _ h _ => h
  | r :: rs, H, acc, oc, hx, hz, hk, hw, fin => by
    obtain ⟨vs0, haL, ra⟩ := oc.lst_
    have ndd : dd ≠ L := fun z => by rw [z, haL] at hx; cases hx
    rw [List.length_cons] at hz
    refine ⟨F, L, acc, b r, fl, h1, h2, nf, oc, hk r List.mem_cons_self, hx, fun hb => ?_, fun hb => ?_⟩
    · refine rows_run (dw := dw) h1 h2 nf rs H acc oc hx (by omega) (fun q hq => hk q (List.mem_cons_of_mem _ hq)) (fun q hq => hw q (List.mem_cons_of_mem _ hq)) fun H2 oc2 kp => fin H2 ?_ kp
      rw [List.filter_cons, hb]
      exact oc2
    · obtain ⟨w0, ws, w1, w2, w3⟩ := hw r List.mem_cons_self hb
      refine ⟨by omega, w0, ws, dw r, w1, w2, w3, fun H2 oc2 kp => ?_⟩
      have ke : Keeps F H F H2 := ⟨fun _ h => h, fun x o f h _ => kp x o h fun z => nf (z ▸ f), fun x xs h => kp x _ h fun z => (by rw [z, haL] at h; cases h), fun x o u h => kp x _ h fun z => (by rw [z, haL] at h; cases h)⟩
      refine rows_run (dw := dw) h1 h2 nf rs H2 _ oc2 (kp dd _ hx ndd) (by rw [List.length_append, List.length_singleton]; omega) (fun q hq => hk q (List.mem_cons_of_mem _ hq)) (fun q hq hb' => ?_) fun H3 oc3 kp3 => fin H3 ?_ fun x o h n => kp3 x o (kp x o h n) n
      · obtain ⟨v0, vs, v1, v2, v3⟩ := hw q (List.mem_cons_of_mem _ hq) hb'
        exact ⟨v0, vs, v1, v2, v3.keep ke⟩
      · rw [List.filter_cons, hb]
        rw [List.append_assoc] at oc3
        exact oc3
/-- if len(fo) == 1 and isinstance(e, ValueError): return fo[0] -/
def lastE (e fo : Str) (j1 j2 : Nat) (p : Nat → Pos) : Stmt :=
  .If (.BoolOp .And [.Compare (.Call (.Name "len" (p 0)) [.Name fo (p 1)] [] (p 2)) [.Eq] [.Constant (.int 1) j1 (p 3)] (p 4), .Call (.Name "isinstance" (p 5)) [.Name e (p 6), .Name "ValueError" (p 7)] [] (p 8)] (p 9))
    [.Return (some (.Subscript (.Name fo (p 10)) (.Constant (.int 0) j2 (p 11)) (p 12))) (p 13)] [] (p 14)
def lastT (K : PySem.W.Frag) (a D dd : Addr) (i io : Nat) : TS := fun Dn σ H => ∃ (L : Addr) (v : V) (fl : List (Str × V)), σ[i]? = some (some (.ref a)) ∧ σ[io]? = some (some (.ref L)) ∧ H L = some (.lst [v]) ∧ PySem.W.kitOne K (.ref D) (.type "ValueError") = some true ∧ H dd = some (.xd fl) ∧ Dn.rt v H
theorem last_ok {fo : Str} {io j1 j2 : Nat} {p : Nat → Pos} (hi : X.N[i]? = some e) (hv : Vis X.env.scope e) (hd : (!dbgX e) = true) (ho : X.N[io]? = some fo) (hvo : Vis X.env.scope fo) (hdo : (!dbgX fo) = true) (EC : ExcC X.K D) (hz : Zc (.ref D) (some dd) oe) (hf : ∃ vs, oe.data = .fields vs)
    (gi : Gl X "isinstance") (mi : X.mg "isinstance" = none) (gl : Gl X "len") (ml : X.mg "len" = none) (gv : Gl X "ValueError") (mv : X.mg "ValueError" = none) : PS (X.suite a ((a, oe) :: pn)) (lastE e fo j1 j2 p) (lastT X.K a D dd i io) := by
  have he : PE (X.suite a ((a, oe) :: pn)) (.Name e (p 6)) (tVar i) := pe_var hi hv (dbgX_ok hd).1 (dbgX_ok hd).2
  have hfo : ∀ q, PE (X.suite a ((a, oe) :: pn)) (.Name fo q) (tVar io) := fun q => pe_var ho hvo (dbgX_ok hdo).1 (dbgX_ok hdo).2
  have hl := pe_callB (X := X.suite a ((a, oe) :: pn)) (p := p 0) (pos := p 2) call_len_seq gl ml (by rfl) (pa_cons (hfo (p 1)) pa_nil)
  have t1 := pt_cmp (pos := p 4) (pc_eqI hl (pe_int (X := X.suite a ((a, oe) :: pn)) (i := 1) (j := j1) (pos := p 3)))
  have hV : PE (X.suite a ((a, oe) :: pn)) (.Name "ValueError" (p 7)) (tC (.ty "ValueError")) := pe_bltn gv mv (u := .type "ValueError") (by rfl) rfl
  have t2 := pt_val (pe_callB (p := p 5) (pos := p 8) (call_isX (pn := pn) EC hz hf) gi mi (by rfl) (pa_cons he (pa_cons hV pa_nil)))
  have t3 := ps_ret (pos := p 13) (pe_ix (X := X.suite a ((a, oe) :: pn)) (pos := p 12) ix_list (hfo (p 10)) (pe_int (i := 0) (j := j2) (pos := p 11)) fun _ _ => rfl)
  refine PS.imp (ps_if (pos := p 14) ((pw_and (pos := p 9) t1 (pw_and1 t2)).pt) (pss_one t3) pss_nil) fun Dn σ H h => ?_
  obtain ⟨L, v, fl, h1, h2, h3, hk, hx, hr⟩ := h
  refine ⟨.ref L, h2, L, [v], rfl, .inl (.inl (.inl h3)), 1, 1, rfl, rfl, true, rfl, ?_⟩
  refine ⟨.ref a, h1, .ty "ValueError", _, true, fl, rfl, fun u h => h, hk, hx, true, rfl, ?_⟩
  exact ⟨.ref L, h2, L, [v], 0, v, rfl, rfl, .inl (.inl h3), rfl, hr⟩
theorem suite_ok {fo : Str} {io j1 j2 : Nat} {p : Nat → Pos} {s1 s2 s3 : Pos} {ad : Str → Addr} {rows : List Row} (hN : X.N.Nodup) (hi : X.N[i]? = some e) (hv : Vis X.env.scope e) (hd : (!dbgX e) = true) (ho : X.N[io]? = some fo) (hlo : X.env.scope.names.lookup fo = some .local) (hdo : (!dbgX fo) = true) (T : XfC X.K D) (EC : ExcC X.K D)
    (hz : Zc (.ref D) (some dd) oe) (hf : ∃ vs, oe.data = .fields vs) (gi : Gl X "isinstance") (mi : X.mg "isinstance" = none) (gl : Gl X "len") (ml : X.mg "len" = none) (gv : Gl X "ValueError") (mv : X.mg "ValueError" = none) (hr : ∀ r, r ∈ rows → RowOk X D ad r) :
    PSs (X.suite a ((a, oe) :: pn)) (.Assign [.Name fo s1] (.List [] s2) s3 :: (rows.map (Row.stmt e fo) ++ [lastE e fo j1 j2 p])) (tSeq (tAsg (tLst tNil) (gName io)) (rowsT X.K a D dd ad i io (lastT X.K a D dd i io) rows)) :=
  pss_cons (ps_set (X := X.suite a ((a, oe) :: pn)) hN ho (.inl hlo) (pe_lst pa_nil) rfl (.inr hlo)) (rows_ok hi hv hd ho (.inl hlo) hdo T EC hz hf gi mi (pss_one (last_ok hi hv hd ho (.inl hlo) hdo EC hz hf gi mi gl ml gv mv)) rows hr)
/-- what the suite gives: the told row of the one class that is the error's -/
theorem suite_run {K : PySem.W.Frag} {ad : Str → Addr} {io : Nat} {Dn : Ends} {σ : L2.St} {F : Addr → Prop} {H : Hp} {fl : List (Str × V)} {b : Row → Bool} {dw : Row → List _root_.G.D} {rows : List Row} {r : Row} (h1 : σ[i]? = some (some (.ref a))) (hio : io < σ.length) (ne : i ≠ io)
    (tr : ∀ x, F x → H x ≠ none) (hx : H dd = some (.xd fl)) (hz : rows.length ≤ 90) (hk : ∀ r, r ∈ rows → PySem.W.kitOne K (.ref D) (.ref (ad r.c)) = some (b r)) (hV : PySem.W.kitOne K (.ref D) (.type "ValueError") = some true) (one : rows.filter b = [r])
    (hw : ∀ r, r ∈ rows → b r = true → r.fs.length ≤ 100 ∧ ∃ ws, ws.length = r.fs.length ∧ (∀ f w, (f, w) ∈ r.fs.zip ws → fl.lookup f = some w) ∧ Reps K F H ws (dw r))
    (fin : ∀ v H2, Rep K F H2 v (.tup [.str "refused", .str r.c, .tup (dw r)]) → (∀ x o, H x = some o → H2 x = some o) → Dn.rt v H2) : tSeq (tAsg (tLst tNil) (gName io)) (rowsT K a D dd ad i io (lastT K a D dd i io) rows) Dn σ H := by
  refine ⟨by show 0 ≤ sizeLine; exact Nat.zero_le _, fun L hL => ?_⟩
  have nd : dd ≠ L := fun z => by rw [z, hL] at hx; cases hx
  have nf : ¬ F L := fun f => tr L f hL
  have sm : Same H (upd H L (.lst [])) := same_upd hL
  show rowsT K a D dd ad i io (lastT K a D dd i io) rows Dn (σ.set io (some (.ref L))) (upd H L (.lst []))
  refine rows_run (F := F) (L := L) (fl := fl) (b := b) (dw := dw) (by rw [List.getElem?_set_ne (Ne.symm ne)]; exact h1) (by rw [List.getElem?_set_self hio]) nf rows _ [] (.lst upd_same .nil) (by rw [upd_ne nd]; exact hx) (by simpa using hz) hk (fun q hq hb => ?_) fun H2 oc kp => ?_
  · obtain ⟨w0, ws, w1, w2, w3⟩ := hw q hq hb
    exact ⟨w0, ws, w1, w2, w3.keep sm.keeps⟩
  · rw [one] at oc
    obtain ⟨vs, h3, rv⟩ := oc.lst_
    have rv : Reps K F H2 vs [.tup [.str "refused", .str r.c, .tup (dw r)]] := rv
    cases rv with
    | cons q0 q1 =>
      cases q1
      refine ⟨L, _, fl, by rw [List.getElem?_set_ne (Ne.symm ne)]; exact h1, by rw [List.getElem?_set_self hio], h3, hV, kp dd _ (by rw [upd_ne nd]; exact hx) nd, fin _ H2 q0 fun x o hxo => kp x o (sm x o hxo) fun z => by rw [z, hL] at hxo; cases hxo⟩
/-- what the text asks of a known class of errors: D is the class of the row r -/
structure ErrOk (X : Cx) (CR : Addr) (rows : List Row) (ad : Str → Addr) (D : Addr) (r : Row) : Prop where
  xf : XfC X.K D
  ec : ExcC X.K D
  up : PySem.W.exmOne X.K (.ref D) (.ref CR) = some true
  ro : ∀ q, q ∈ rows → RowOk X D ad q
  b : ∃ b : Row → Bool, (∀ q, q ∈ rows → PySem.W.kitOne X.K (.ref D) (.ref (ad q.c)) = some (b q)) ∧ rows.filter b = [r]
  v : PySem.W.kitOne X.K (.ref D) (.type "ValueError") = some true
  l : r.fs.length ≤ 100
def suT (X : Cx) (CR : Addr) (rows : List Row) (ad : Str → Addr) (i io : Nat) (a : Addr) (cls : Value) (d : Option Addr) : TS := fun Dn σ H => σ.length = X.N.length → ∃ (D dd : Addr) (r : Row), cls = .ref D ∧ d = some dd ∧ ErrOk X CR rows ad D r ∧ tSeq (tAsg (tLst tNil) (gName io)) (rowsT X.K a D dd ad i io (lastT X.K a D dd i io) rows) Dn σ H
theorem tried_gives {Ng : List Str} {x dn en fo rn q : Str} {sg : Scope} {g CR : Addr} {cdg : Value} {io j1 j2 j3 j4 k1 k2 : Nat} {p : Nat → Pos} {s1 s2 s3 p1 p2 p3 p4 p5 p6 p7 p8 q1 q2 q3 q4 : Pos} {rows : List Row} {ad : Str → Addr} {known : Addr → Row → Prop}
    (hNg : Ng.Nodup) (hi : Ng[i]? = some en) (ho : Ng[io]? = some fo) (ne : i ≠ io) (i0 : i ≠ 0) (hle : sg.names.lookup en = some .local) (hlo : sg.names.lookup fo = some .local) (hd : (!dbgX en) = true) (hdo : (!dbgX fo) = true)
    (gr : sg.names.lookup rn = some .globalImplicit) (mr : X.mg rn = some (.ref CR)) (dr : (rn == ("__debug__" : Str)) = false) (gi : sg.names.lookup ("isinstance" : Str) = some .globalImplicit) (mi : X.mg "isinstance" = none) (gl : sg.names.lookup ("len" : Str) = some .globalImplicit) (ml : X.mg "len" = none)
    (gv : sg.names.lookup ("ValueError" : Str) = some .globalImplicit) (mv : X.mg "ValueError" = none) (hz : rows.length ≤ 90) (h0 : ∀ f : Addr, (L2.start Ng [V.ref f])[0]? = some (some (V.ref f)))
    (hK : ∀ D r, known D r → ∀ Y : Cx, Y.K = X.K → Y.mg = X.mg → Y.env.scope = sg → r ∈ rows ∧ ErrOk Y CR rows ad D r) :
    LamX.GivesTo X Ng x sg g cdg [.Try [.Return (some (.Tuple [.Constant (.str "right") j3 q1, .Call (.Name dn p1) [] [] p2] k1 q2)) p3]
      [.ExceptHandler (some (.Name rn p4)) (some en) (.Assign [.Name fo s1] (.List [] s2) s3 :: (rows.map (Row.stmt en fo) ++ [lastE en fo j1 j2 p])) p7] [] [] p8, .Return (some (.Tuple [.Constant (.str "odd") j4 q3] k2 q4)) p6] dn q (TTried X.K known) := by
  intro f c' s H Q tl act hc h
  let Y : Cx := (cxOf C8.CX0 X.prog X.w X.K X.mg X.base Ng x sg g cdg X.A X.stack s H C8.E0).nox
  refine ⟨_, pss_cons (ps_try_as (X := Y) (c := .ref CR) (i := i) (n := en) (ts := suT Y CR rows ad i io)
      (tb := fun W D σ H => ∃ Ech : XK, (∀ cls d σ' H', Ech cls d H' → W cls d σ' H') ∧ σ[0]? = some (some (.ref f)) ∧ H c' = some (LamX.CodeO c' q) ∧ tl Ech H fun v H' => [V.str "right", v].length ≤ sizeLine ∧ NewU H' D.rt [.str "right", v])
      rfl rfl hNg hi hle ⟨gr, dr, .inl mr⟩ LamX.takes0 (fun W pn xe tk _ => ?_) (fun a oe cls d pn hz' hf' => ?_)) (pss_one (ps_ret (pe_tupU (pa_cons pe_str pa_nil)))), ?_⟩
  · refine ⟨fun pins s' σ H' D I h' => ?_⟩
    obtain ⟨Ech, hW, h1, h2, h3⟩ := h'
    have hp := act W pn xe Ech p1 p2 tk hW
    have hq := pss_one (ps_ret (pos := p3) (pe_tupU (k := k1) (pos := q2) (pa_cons (pe_str (x := "right") (j := j3) (pos := q1)) (pa_cons hp pa_nil))))
    exact hq.run pins s' σ H' D I ⟨h1, h2, h3⟩
  · refine ⟨fun pins s' σ' H' D' I h' => ?_⟩
    obtain ⟨D, dd, r, e1, e2, EK, hq⟩ := h' I.len
    subst e1 e2
    exact (suite_ok (X := Y) hNg hi (.inl hle) hd ho hlo hdo EK.xf EK.ec hz' hf' gi mi gl ml gv mv EK.ro).run pins s' σ' H' D' I hq
  · refine ⟨EEt X.K known Q, fun cls d σ' H' he => ?_, h0 f, hc, h⟩
    obtain ⟨D, dd, r, F, fl, ws, dw, rfl, rfl, kn, tr, hx, lw, hlk, rws, fin⟩ := he
    obtain ⟨hr, EK⟩ := hK D r kn Y rfl rfl rfl
    obtain ⟨b, hb, one⟩ := EK.b
    refine ⟨true, EK.up, fun _ a' ha hl => ⟨D, dd, r, rfl, rfl, EK, ?_⟩, fun z => nomatch z⟩
    have hi' : i < Ng.length := (List.getElem?_eq_some_iff.mp hi).1
    have ho' : io < Ng.length := (List.getElem?_eq_some_iff.mp ho).1
    have hl : (σ'.set i (some (V.ref a'))).length = Ng.length := hl
    have hl2 := hl
    rw [List.length_set] at hl2
    refine suite_run (F := F) (fl := fl) (b := b) (dw := fun _ => dw) (r := r) (by rw [List.getElem?_set_self (by omega)]) (by omega) ne tr hx hz hb EK.v one (fun q hq hbq => ?_) fun v H2 r2 kp => fin v H2 r2 kp
    have : q ∈ rows.filter b := List.mem_filter.mpr ⟨hq, hbq⟩
    rw [one, List.mem_singleton] at this
    subst this
    exact ⟨EK.l, ws, lw, hlk, rws⟩
end
end G

set_option Elab.async false
set_option linter.all false
set_option maxRecDepth 100000
set_option maxHeartbeats 1000000
/-! G, part 12: the program's errors and `_law_tried`, looked at in the head. -/
namespace G
open PySem L2 He
section
variable [TB : Tbs]
/-! ### a class of errors -/
def oexB (K : PySem.W.Frag) (C : Addr) : Bool := (match K.lookup C with
  | some ⟨.type t, _, .cls d, sl⟩ => decide (t = "type") && ((match d with
      | ⟨_, _, .ref c0 :: tl, _, _, true, _, _, _, _, false⟩ => decide (c0 = C) && PySem.HandSPX.refsVE tl
      | _ => false) && (match sl with
      | ⟨[_, _, _, _, some (.builtin nw), _]⟩ => decide (nw = "ValueError.__new__")
      | _ => false))
  | _ => false) && (decide (PySem.W.findIn K (.ref C) "__setattr__" = some (some (.builtin "object.__setattr__"))) && (decide (PySem.W.subIn K (.ref C) (.type "BaseException") = some true) && (decide (PySem.W.typeIn K (.ref C) = some (.type "type")) && PySem.W.keepIn K (.ref C))))
theorem oexB_ok {K : PySem.W.Frag} {C : Addr} (h : oexB K C = true) : OexC K C := by
  unfold oexB at h
  rw [Bool.and_eq_true, Bool.and_eq_true, Bool.and_eq_true, Bool.and_eq_true] at h
  obtain ⟨h1, h2, h3, h4, h5⟩ := h
  refine ⟨?_, of_decide_eq_true h2, of_decide_eq_true h3, of_decide_eq_true h4, h5⟩
  split at h1
  · rename_i t dd d sl ho
    rw [Bool.and_eq_true, Bool.and_eq_true] at h1
    obtain ⟨e1, e2, e3⟩ := h1
    have e1 := of_decide_eq_true e1
    subst e1
    split at e2
    · split at e3
      · rename_i nw _
        rw [Bool.and_eq_true] at e2
        have e4 := of_decide_eq_true e2.1
        have e5 := of_decide_eq_true e3
        subst e4 e5
        exact ⟨_, _, _, _, _, _, _, _, _, _, _, _, _, _, _, ho, e2.2⟩
      · cases e3
    · cases e2
  · cases h1
def excCB (K : PySem.W.Frag) (D : Addr) : Bool := decide (PySem.W.findIn K (.ref D) "__getattribute__" = some (some (.builtin "BaseException.__getattribute__"))) && (decide (PySem.W.findIn K (.ref D) "__getattr__" = some none) && (decide (PySem.W.subIn K (.ref D) (.type "BaseException") = some true) &&
  (PySem.W.hasDictIn K D && (decide (PySem.W.findIn K (.ref D) "__class__" = some (some (.builtin "object.__class__"))) && (decide (PySem.W.specialIn K (.builtin "object.__class__") "__get__" = some (some (.builtin "getset_descriptor.__get__"))) &&
  (decide (PySem.W.takesIn K (.builtin "object.__class__") = some true) && decide (PySem.W.mroIn K D (.type "object") = some true)))))))
theorem excCB_ok {K : PySem.W.Frag} {C : Addr} (h : excCB K C = true) : ExcC K C := by
  unfold excCB at h
  simp only [Bool.and_eq_true, decide_eq_true_eq] at h
  obtain ⟨h1, h2, h3, h4, h5, h6, h7, h8⟩ := h
  exact ⟨h1, h2, h3, h4, h5, h6, h7, h8⟩
def errB (K : PySem.W.Frag) (x : Str × List Str) : Bool := oexB K (ga K x.1) && (xfB K (ga K x.1) && (excCB K (ga K x.1) && (decide (PySem.W.exmOne K (.ref (ga K x.1)) (.ref (ga K "Refused")) = some true) &&
  ((errRows.all fun q => q.2.all fun f => decide (PySem.W.findIn K (.ref (ga K x.1)) f = some none)) && ((errRows.all fun q => decide (PySem.W.kitOne K (.ref (ga K x.1)) (.ref (ga K q.1)) = some (decide (q.1 = x.1)))) &&
  (decide (PySem.W.kitOne K (.ref (ga K x.1)) (.type "ValueError") = some true) && (decide (PySem.W.nsIn K mainGlobals x.1 = some (some (.ref (ga K x.1)))) &&
  (decide (PySem.W.findIn K (.ref (ga K x.1)) "__init__" = some (some (.ref (ma K (ga K x.1) "__init__")))) && decide (PySem.W.typeIn K (.ref (ma K (ga K x.1) "__init__")) = some (.type "function"))))))))))
structure ErrIn (K : PySem.W.Frag) (x : Str × List Str) : Prop where
  oe : OexC K (ga K x.1)
  xf : XfC K (ga K x.1)
  ec : ExcC K (ga K x.1)
  up : PySem.W.exmOne K (.ref (ga K x.1)) (.ref (ga K "Refused")) = some true
  no : ∀ q, q ∈ errRows → ∀ f, f ∈ q.2 → PySem.W.findIn K (.ref (ga K x.1)) f = some none
  one : ∀ q, q ∈ errRows → PySem.W.kitOne K (.ref (ga K x.1)) (.ref (ga K q.1)) = some (decide (q.1 = x.1))
  v : PySem.W.kitOne K (.ref (ga K x.1)) (.type "ValueError") = some true
  ns : PySem.W.nsIn K mainGlobals x.1 = some (some (.ref (ga K x.1)))
  ini : PySem.W.findIn K (.ref (ga K x.1)) "__init__" = some (some (.ref (ma K (ga K x.1) "__init__")))
  ty : PySem.W.typeIn K (.ref (ma K (ga K x.1) "__init__")) = some (.type "function")
theorem errB_ok {K : PySem.W.Frag} {x : Str × List Str} (h : errB K x = true) : ErrIn K x := by
  unfold errB at h
  rw [Bool.and_eq_true, Bool.and_eq_true, Bool.and_eq_true, Bool.and_eq_true, Bool.and_eq_true, Bool.and_eq_true, Bool.and_eq_true, Bool.and_eq_true, Bool.and_eq_true] at h
  obtain ⟨h1, h2, h3, h4, h5, h6, h7, h8, h9, h10⟩ := h
  exact ⟨oexB_ok h1, xfB_ok h2, excCB_ok h3, of_decide_eq_true h4, fun q hq f hf => of_decide_eq_true (List.all_eq_true.mp (List.all_eq_true.mp h5 q hq) f hf), fun q hq => of_decide_eq_true (List.all_eq_true.mp h6 q hq),
    of_decide_eq_true h7, of_decide_eq_true h8, of_decide_eq_true h9, of_decide_eq_true h10⟩
def errsB (K : PySem.W.Frag) : Bool := errRows.all (errB K) && (decide (PySem.W.nsIn K mainGlobals "Refused" = some (some (.ref (ga K "Refused")))) && decide (PySem.W.nsIn K mainGlobals "ValueError" = some none))
theorem errs_at {K : PySem.W.Frag} (h : errsB K = true) {x : Str × List Str} (hx : x ∈ errRows) : ErrIn K x := errB_ok (List.all_eq_true.mp (Bool.and_eq_true_iff.mp h).1 x hx)
theorem err_mem {x : Str} {fs : List Str} (h : errFs x = some fs) : (x, fs) ∈ errRows := PySem.mem_of_lookup h
/-! ### its __init__ -/
/-- self.f = a -/
def ini1 (se f a : Str) : List Stmt → Bool
  | [.Assign [.Attribute (.Name s _) g _] (.Name b _) _] => decide (s = se) && (decide (g = f) && decide (b = a))
  | _ => false
def ini2 (se f a f2 a2 : Str) : List Stmt → Bool
  | [.Assign [.Attribute (.Name s _) g _] (.Name b _) _, .Assign [.Attribute (.Name s2 _) g2 _] (.Name b2 _) _] => decide (s = se) && (decide (g = f) && decide (b = a)) && (decide (s2 = se) && (decide (g2 = f2) && decide (b2 = a2)))
  | _ => false
section
variable {P : Program} {w : World} {K : PySem.W.Frag} {mg : Str → Option Value} {base : Heap} {CX : CXT} {x qual : Str} {params : Arguments} {scope : Scope} {fI : Addr} {fd : FuncData} {Cc : Addr} {k : Nat} {se a1 a2 f1 f2 : Str} {body : List Stmt}
theorem ini1_ok (T : OexC K Cc) (F : FunD K x qual params body scope [] [] fI fd) (S : FnScope [se, a1] [se, a1] scope) (hb : ini1 se f1 a1 body = true)
    (d1 : (!dbgX se) = true) (d2 : (!dbgX a1) = true) (n1 : PySem.W.findIn K (.ref Cc) f1 = some none) : FnOk P w K mg base CX (k + 1) fI fd [se, a1] (spI Cc [f1]) := by
  unfold ini1 at hb
  split at hb
  · rename_i s p1 g p2 b p3 p4
    simp only [Bool.and_eq_true, decide_eq_true_eq] at hb
    obtain ⟨rfl, rfl, rfl⟩ := hb
    refine F.ok S (fun vs H Q E ⟨a, ws, e, hl, _⟩ => by rw [e, List.length_cons, hl]; rfl) fun cdv A outer s H vs Q E hr ⟨a, ws, e, hl, ha, hq⟩ => ?_
    subst e
    obtain ⟨y, rfl⟩ : ∃ y, ws = [y] := by
      match ws, hl with
      | [y], _ => exact ⟨y, rfl⟩
    refine ⟨_, pss_one (ps_ost (pe_var (i := 0) rfl (par_vis S (by simp)) (dbgX_ok d1).1 (dbgX_ok d1).2) (pe_var (i := 1) rfl (par_vis S (by simp)) (dbgX_ok d2).1 (dbgX_ok d2).2)), ?_⟩
    refine ⟨y, rfl, .ref a, rfl, a, Cc, rfl, T, n1, .inl ⟨ha, fun dx h0 ne => ?_⟩⟩
    exact hq _ dx ne h0 upd_same (by rw [upd_ne ne, upd_same]; rfl) fun b h1 h2 => by rw [upd_ne h1, upd_ne h2]
  · cases hb
theorem ini2_ok (T : OexC K Cc) (F : FunD K x qual params body scope [] [] fI fd) (S : FnScope [se, a1, a2] [se, a1, a2] scope) (hb : ini2 se f1 a1 f2 a2 body = true)
    (d1 : (!dbgX se) = true) (d2 : (!dbgX a1) = true) (d3 : (!dbgX a2) = true) (n1 : PySem.W.findIn K (.ref Cc) f1 = some none) (n2 : PySem.W.findIn K (.ref Cc) f2 = some none) : FnOk P w K mg base CX (k + 1) fI fd [se, a1, a2] (spI Cc [f1, f2]) := by
  unfold ini2 at hb
  split at hb
  · rename_i s p1 g p2 b p3 p4 s2 q1 g2 q2 b2 q3 q4
    simp only [Bool.and_eq_true, decide_eq_true_eq] at hb
    obtain ⟨⟨rfl, rfl, rfl⟩, rfl, rfl, rfl⟩ := hb
    refine F.ok S (fun vs H Q E ⟨a, ws, e, hl, _⟩ => by rw [e, List.length_cons, hl]; rfl) fun cdv A outer s H vs Q E hr ⟨a, ws, e, hl, ha, hq⟩ => ?_
    subst e
    obtain ⟨y, z, rfl⟩ : ∃ y z, ws = [y, z] := by
      match ws, hl with
      | [y, z], _ => exact ⟨y, z, rfl⟩
    refine ⟨_, pss_cons (ps_ost (pe_var (i := 0) rfl (par_vis S (by simp)) (dbgX_ok d1).1 (dbgX_ok d1).2) (pe_var (i := 1) rfl (par_vis S (by simp)) (dbgX_ok d2).1 (dbgX_ok d2).2))
      (pss_one (ps_ost (pe_var (i := 0) rfl (par_vis S (by simp)) (dbgX_ok d1).1 (dbgX_ok d1).2) (pe_var (i := 2) rfl (par_vis S (by simp)) (dbgX_ok d3).1 (dbgX_ok d3).2))), ?_⟩
    refine ⟨y, rfl, .ref a, rfl, a, Cc, rfl, T, n1, .inl ⟨ha, fun dx h0 ne => ?_⟩⟩
    refine ⟨z, rfl, .ref a, rfl, a, Cc, rfl, T, n2, .inr ⟨dx, [(_, y)], upd_same, by rw [upd_ne ne, upd_same], (by show 1 ≤ 900; decide), ?_⟩⟩
    exact hq _ dx ne h0 (by rw [upd_ne (Ne.symm ne), upd_same]) upd_same fun b h1 h2 => by rw [upd_ne h2, upd_ne h1, upd_ne h2]
  · cases hb
theorem exc_in {x : Str} {fs ps : List Str} {h : Heap} (X : K.In h) (G : h.Ns mainGlobals mg) (hx : (x, fs) ∈ errRows) (ce : errsB K = true) (hf : ∀ k, FnOk P w K mg base (L2.CX P w) (k + 1) (ma K (ga K x) "__init__") fd ps (spI (ga K x) fs)) (hb : Binds K fd ps []) (nd : fs.Nodup) (hl : fs.length ≤ 1000) :
    ExcIn (P := P) (w := w) (K := K) (mg := mg) (base := base) x fs := by
  have E := errs_at ce hx
  exact ⟨ga K x, _, fd, ps, E.oe, E.ini, E.ty, hf, hb, PySem.W.mg_of X G E.ns, nd, hl⟩
end
/-! ### `_law_tried` -/
structure TriP where
  rows : List Row
  j1 : Nat
  j2 : Nat
  j3 : Nat
  j4 : Nat
  k1 : Nat
  k2 : Nat
  pl : List Pos
  ps : List Pos
def rdAtts : List Expr → List (Str × (Pos × Pos))
  | .Attribute (.Name _ p) f q :: r => (f, p, q) :: rdAtts r
  | _ => []
def rdRow : Stmt → Option Row
  | .If (.Call (.Name _ p0) [.Name _ p1, .Name c p2] [] p3) [.Expr (.Call (.Attribute (.Name _ p4) _ p5) [.Tuple [.Constant (.str _) j1 p6, .Constant (.str _) j2 p7, .Tuple l k1 p8] k2 p9] [] p10) p11] [] p12 =>
    some ⟨c, (rdAtts l).map (·.1), (rdAtts l).map (·.2), j1, j2, k1, k2, [p0, p1, p2, p3, p4, p5, p6, p7, p8, p9, p10, p11, p12]⟩
  | _ => none
def rdLast : Stmt → Nat × Nat × List Pos
  | .If (.BoolOp .And [.Compare (.Call (.Name _ a0) [.Name _ a1] [] a2) [.Eq] [.Constant (.int _) j1 a3] a4, .Call (.Name _ a5) [.Name _ a6, .Name _ a7] [] a8] a9) [.Return (some (.Subscript (.Name _ a10) (.Constant (.int _) j2 a11) a12)) a13] [] a14 =>
    (j1, j2, [a0, a1, a2, a3, a4, a5, a6, a7, a8, a9, a10, a11, a12, a13, a14])
  | _ => (0, 0, [])
def rdTri : List Stmt → TriP
  | [.Try [.Return (some (.Tuple [.Constant (.str _) j3 q1, .Call (.Name _ p1) [] [] p2] k1 q2)) p3] [.ExceptHandler (some (.Name _ p4)) (some _) (.Assign [.Name _ s1] (.List [] s2) s3 :: rest) p7] [] [] p8, .Return (some (.Tuple [.Constant (.str _) j4 q3] k2 q4)) p6] =>
    match rdLast (rest.getLastD (.Pass ⟨0, 0, 0, 0⟩)) with
    | (j1, j2, pl) => ⟨rest.dropLast.filterMap rdRow, j1, j2, j3, j4, k1, k2, pl, [p1, p2, p3, p4, p6, p7, p8, q1, q2, q3, q4, s1, s2, s3]⟩
  | _ => ⟨[], 0, 0, 0, 0, 0, 0, [], []⟩
def posAt (l : List Pos) (n : Nat) : Pos := l.getD n ⟨0, 0, 0, 0⟩
def TriP.body (t : TriP) : List Stmt :=
  [.Try [.Return (some (.Tuple [.Constant (.str "right") t.j3 (posAt t.ps 7), .Call (.Name "deed" (posAt t.ps 0)) [] [] (posAt t.ps 1)] t.k1 (posAt t.ps 8))) (posAt t.ps 2)]
    [.ExceptHandler (some (.Name "Refused" (posAt t.ps 3))) (some "e") (.Assign [.Name "found" (posAt t.ps 11)] (.List [] (posAt t.ps 12)) (posAt t.ps 13) :: (t.rows.map (Row.stmt "e" "found") ++ [lastE "e" "found" t.j1 t.j2 (posAt t.pl)])) (posAt t.ps 5)] [] [] (posAt t.ps 6),
    .Return (some (.Tuple [.Constant (.str "odd") t.j4 (posAt t.ps 9)] t.k2 (posAt t.ps 10))) (posAt t.ps 4)]
def glN (sg : Scope) (x : Str) : Bool := decide (sg.names.lookup x = some .globalImplicit)
def triB (sg : Scope) (t : TriP) : Bool := decide (sg.names.lookup ("e" : Str) = some .local) && (decide (sg.names.lookup ("found" : Str) = some .local) && ((["Refused", "isinstance", "len", "ValueError"] : List Str).all (glN sg) &&
  (t.rows.all fun r => glN sg r.c && (!dbgX r.c && (((r.pos 5).endLine == (r.pos 10).line) && decide (r.fs.length = r.qs.length))))))
theorem filter_one {α β : Type} [DecidableEq β] {f : α → β} : ∀ {l : List α} {r : α}, (l.map f).Nodup → r ∈ l → (l.filter fun q => decide (f q = f r)) = [r]
  | x :: l, r, nd, h => by
    rw [List.map_cons] at nd
    obtain ⟨n1, n2⟩ := List.nodup_cons.mp nd
    rcases List.mem_cons.mp h with e | h
    · subst e
      rw [List.filter_cons, if_pos (decide_eq_true rfl)]
      have : (l.filter fun q => decide (f q = f r)) = [] := List.filter_eq_nil_iff.mpr fun q hq e => n1 (by rw [← of_decide_eq_true e]; exact List.mem_map.mpr ⟨q, hq, rfl⟩)
      rw [this]
    · rw [List.filter_cons, if_neg (fun e => n1 (by rw [of_decide_eq_true e]; exact List.mem_map.mpr ⟨r, h, rfl⟩))]
      exact filter_one n2 h
theorem triG_of {K : PySem.W.Frag} {h : Heap} {mg : Str → Option Value} {pg : Arguments} {bg : List Stmt} {sg : Scope} {fd : FuncData} {t : TriP} (XI : K.In h) (G : h.Ns mainGlobals mg) (F : FunD K "_law_tried" "_law_tried" pg bg sg [] [] (ga K "_law_tried") fd) (hm : mg "_law_tried" = some (.ref (ga K "_law_tried")))
    (hbi : Binds K fd ["deed"] []) (S : FnScope ["deed", "e", "found"] ["deed"] sg) (hb : bg = t.body) (chk : triB sg t = true) (hr : t.rows.map (fun r => (r.c, r.fs)) = errRows) (ce : errsB K = true) (mi : mg "isinstance" = none) (ml : mg "len" = none) : TriG K mg := by
  obtain ⟨oc, od, dV, kV, doc, pm, an, cdv, ct, osl, e, lk, hcd, _⟩ := F.ex
  subst e hb
  simp only [triB, Bool.and_eq_true, decide_eq_true_eq, List.all_eq_true, glN] at chk
  obtain ⟨c1, c2, c3, c4⟩ := chk
  have hEm : ∀ q, q ∈ errRows → mg q.1 = some (.ref (ga K q.1)) := fun q hq => PySem.W.mg_of XI G (errs_at ce hq).ns
  have ce2 := (Bool.and_eq_true_iff.mp ce).2
  rw [Bool.and_eq_true, decide_eq_true_eq, decide_eq_true_eq] at ce2
  have mem : ∀ r, r ∈ t.rows → (r.c, r.fs) ∈ errRows := fun r hr' => by
    rw [← hr]; exact List.mem_map.mpr ⟨r, hr', rfl⟩
  have nd : (t.rows.map (·.c)).Nodup := by
    have e : t.rows.map (·.c) = (t.rows.map fun r => (r.c, r.fs)).map (·.1) := by rw [List.map_map]; rfl
    rw [e, hr]
    decide +kernel
  have hlen : t.rows.length ≤ 90 := by
    have e : t.rows.length = (t.rows.map fun r => (r.c, r.fs)).length := (List.length_map _).symm
    rw [e, hr]
    decide
  refine ⟨fun D r => r ∈ t.rows ∧ D = ga K r.c, _, "deed", pg, _, sg, dV, kV, doc, pm, cdv, ct, oc, an, od, osl, ["deed", "e", "found"], hm, F.kp, lk, hcd, hbi, S, rfl, par_vis S (by simp), by decide, by decide, fun X hXK hXm q => ?_, fun x fs D he hD => ?_⟩
  · subst hXK hXm
    refine tried_gives (p5 := ⟨0, 0, 0, 0⟩) (CR := ga X.K "Refused") (ad := ga X.K) (i := 1) (io := 2) (by decide) rfl rfl (by decide) (by decide) c1 c2 (by decide) (by decide) (c3 _ (by simp)) (PySem.W.mg_of XI G ce2.1) (by decide) (c3 _ (by simp)) mi (c3 _ (by simp)) ml (c3 _ (by simp)) (PySem.W.mg_none_of XI G ce2.2) hlen (fun f => rfl) ?_
    intro D r ⟨hr', hD⟩ Y hK hM hS
    subst hD
    have E := errs_at ce (mem r hr')
    refine ⟨hr', ?_⟩
    rw [← hK] at E ⊢
    refine ⟨E.xf, E.ec, E.up, fun q hq => ?_, ⟨fun q => decide (q.c = r.c), fun q hq => ?_, filter_one nd hr'⟩, E.v, ?_⟩
    · obtain ⟨d1, d2, d3, d4⟩ := c4 q hq
      exact ⟨fun f hf => E.no _ (mem q hq) f hf, by unfold Gl Env.kindOf; rw [hS]; exact d1, by rw [hM, hK]; exact hEm _ (mem q hq), d2, d3, d4⟩
    · exact E.one _ (mem q hq)
    · have : ∀ x, x ∈ errRows → x.2.length ≤ 100 := by decide +kernel
      exact this _ (mem r hr')
  · have hx := err_mem he
    rw [← hr] at hx
    obtain ⟨r, hr1, hr2⟩ := List.mem_map.mp hx
    cases hr2
    refine ⟨r, ⟨hr1, ?_⟩, rfl, rfl⟩
    rw [hEm _ (mem r hr1)] at hD
    cases hD
    rfl
end
/-! ### the Hook, with tables of code objects -/
/-- the code object of a def, its table -/
def cdAt (K : PySem.W.Frag) (x : Str) : Addr := match K.lookup (ga K x) with
  | some ⟨_, _, .func d, _⟩ => (match d.code with
    | .ref c => c
    | _ => 0)
  | _ => 0
def tbAt (K : PySem.W.Frag) (x : Str) : Addr := match K.lookup (cdAt K x) with
  | some ⟨_, _, .fields vs, _⟩ => (match (vs[11]? : Option Value) with
    | some (.ref P) => P
    | _ => 0)
  | _ => 0
def asL (n : Nat) (ls : List Str) (g : Addr → Option Obj) : List Addr := (asD g n).filter fun a => !((ls.map (tbAt (frG g (asD g n)))).contains a)
def isTb : Option Obj → Bool
  | some ⟨.none, none, .fields ⟨[]⟩, ⟨[]⟩⟩ => true
  | _ => false
theorem isTb_ok {o : Option Obj} (h : isTb o = true) : o = some { cls := .none, data := .fields #[] } := by
  unfold isTb at h
  split at h
  · rfl
  · cases h
def cdB (K : PySem.W.Frag) (x : Str) : Bool := match K.lookup (ga K x) with
  | some ⟨_, _, .func d, _⟩ => decide (d.code = .ref (cdAt K x))
  | _ => false
def lamB (K : PySem.W.Frag) (ls : List Str) (x : Str) : Bool := PySem.W.codeHdIn K (cdAt K x) (tbAt K x) && ((K.lookup (tbAt K x)).isNone && (cdB K x && ls.all fun y => !decide (tbAt K y = tbAt K x) || decide (y = x)))
structure LamIn (K : PySem.W.Frag) (ls : List Str) (x : Str) : Prop where
  hd : PySem.W.codeHdIn K (cdAt K x) (tbAt K x) = true
  no : K.lookup (tbAt K x) = none
  cd : ∀ {oc od fd osl}, K.lookup (ga K x) = some ⟨oc, od, .func fd, osl⟩ → fd.code = .ref (cdAt K x)
  one : ∀ y, y ∈ ls → tbAt K y = tbAt K x → y = x
theorem lamB_ok {K : PySem.W.Frag} {ls : List Str} {x : Str} (h : lamB K ls x = true) : LamIn K ls x := by
  unfold lamB at h
  rw [Bool.and_eq_true, Bool.and_eq_true, Bool.and_eq_true] at h
  obtain ⟨h1, h2, h3, h4⟩ := h
  refine ⟨h1, Option.isNone_iff_eq_none.mp h2, fun {oc od fd osl} e => ?_, fun y hy e => ?_⟩
  · unfold cdB at h3
    rw [e] at h3
    exact of_decide_eq_true h3
  · have := List.all_eq_true.mp h4 y hy
    rw [Bool.or_eq_true] at this
    rcases this with z | z
    · rw [decide_eq_true e] at z; cases z
    · exact of_decide_eq_true z
abbrev AlL : Type := AlX × Bool
def obsLG (n : Nat) (fa : List Fa) (fn : List DefD) (gs : List (Str × D)) (ls : List Str) (er : Bool) (g : Addr → Option Obj) : AlL :=
  (obsX fa fn gs (frG g (asL n ls g)), (ls.all fun x => isTb (g (tbAt (frG g (asL n ls g)) x)) && lamB (frG g (asL n ls g)) ls x) && (!er || errsB (frG g (asL n ls g))))
structure SaysL (fa : List Fa) (fn : List DefD) (gs : List (Str × D)) (ls : List Str) (er : Bool) (K : PySem.W.Frag) (h : Heap) : Prop where
  X : K.In h
  d : SaysD fa fn K
  g : gs.all (constB K) = true
  l : ∀ x, x ∈ ls → h.get? (tbAt K x) = some { cls := .none, data := .fields #[] } ∧ LamIn K ls x
  e : er = true → errsB K = true
def hookL (n : Nat) (fa : List Fa) (fn : List DefD) (gs : List (Str × D)) (ls : List Str) (er : Bool) : PySem.W.Hook where
  α := AlL
  obs := fun s => obsLG n fa fn gs ls er s.heap.get?
  val := fun _ => ((valD fn, true), true)
  says := fun _ h => ∃ K : PySem.W.Frag, SaysL fa fn gs ls er K h
  of := fun _ _ e => by
    obtain ⟨e1, e2⟩ := Prod.mk.inj e
    obtain ⟨e3, e4⟩ := Prod.mk.inj e1
    rw [Bool.and_eq_true, List.all_eq_true, Bool.or_eq_true] at e2
    refine ⟨_, frG_in, e3, e4, fun x hx => ?_, fun he => ?_⟩
    · have := e2.1 x hx
      rw [Bool.and_eq_true] at this
      exact ⟨isTb_ok this.1, lamB_ok this.2⟩
    · rcases e2.2 with z | z
      · rw [he] at z; cases z
      · exact z
  keeps := fun _ _ _ ⟨K, S⟩ k => ⟨K, PySem.W.Frag.In.keeps S.X k, S.d, S.g, fun x hx => ⟨k _ _ (S.l x hx).1, (S.l x hx).2⟩, S.e⟩
theorem obsLG_eq {n : Nat} {fa : List Fa} {fn : List DefD} {gs : List (Str × D)} {ls : List Str} {er : Bool} {g : Addr → Option Obj} {s : Shared} (h : ∀ a, g a = s.heap.get? a) : obsLG n fa fn gs ls er g = (hookL n fa fn gs ls er).obs s := by
  have e : g = s.heap.get? := funext h
  rw [e] <;> rfl
/-- the tables -/
@[reducible] def tbsOf (K : PySem.W.Frag) (ls : List Str) : Tbs := ⟨ls.map fun x => (tbAt K x, (x ++ ".<locals>.") ++ "<lambda>")⟩
def csOf (K : PySem.W.Frag) (ls : List Str) : List (Addr × Addr) := ls.map fun x => (cdAt K x, tbAt K x)
theorem triAt_of {fa : List Fa} {fn : List DefD} {gs : List (Str × D)} {ls : List Str} {er : Bool} {K : PySem.W.Frag} {h base : Heap} {mg : Str → Option Value} {x qual : Str} {params : Arguments} {body : List Stmt} {scope : Scope} {kws : List (Str × V)} {fd : FuncData} (S : SaysL fa fn gs ls er K h) (hx : x ∈ ls)
    (hB : ∀ p ∈ csOf K ls, LamX.TabB base mg p.1 p.2) (F : FunD K x qual params body scope [] kws (ga K x) fd) : @TriAt (tbsOf K ls) base mg (x ++ ".<locals>.") fd.code := by
  obtain ⟨oc, od, dV, kV, doc, pm, an, cdv, ct, osl, e, lk, _⟩ := F.ex
  have L := (S.l x hx).2
  refine ⟨cdAt K x, tbAt K x, hB _ (List.mem_map.mpr ⟨x, hx, rfl⟩), L.cd lk, List.mem_map.mpr ⟨x, hx, rfl⟩, fun p hp e => ?_⟩
  obtain ⟨y, hy, rfl⟩ := List.mem_map.mp hp
  rw [L.one y hy e]
theorem tabs_of {K : PySem.W.Frag} {ls : List Str} {H : Hp} (h : ∀ p ∈ csOf K ls, H p.2 = some (.tbl #[])) : LamX.Tabs (tbsOf K ls).T H := fun p hp => by
  obtain ⟨y, hy, rfl⟩ := List.mem_map.mp hp
  exact LamX.TabS.nil (h _ (List.mem_map.mpr ⟨y, hy, rfl⟩))
/-- what the head leans on -/
theorem law_at {fa : List Fa} {fn : List DefD} {gs : List (Str × D)} {ls : List Str} {er : Bool} {l : PySem.W.OpenLaw} {w : World} {K : PySem.W.Frag} {k : Nat} {mg : Str → Option Value} {f : Addr} {h : Heap} {fd : FuncData} {run : List D → R Out} (S : SaysL fa fn gs ls er K h)
    (main : ∀ ns : List Int, ns.length ≤ 63 → run [.frz (ns.map .int)] = .ok (false, .bl true, [])) (hb : ∀ (s : Shared) (v : Value), BindsTo s fd ⟨[v], []⟩ [("script", v)])
    (hF : ∀ base : Heap, K.In base → base.Ns mainGlobals mg → (∀ p ∈ csOf K ls, LamX.TabB base mg p.1 p.2) → @FnOk l.prog w K mg base (L2.CX l.prog w) k f fd ["script"] (@spOf (tbsOf K ls) K [false] (@EXR (tbsOf K ls) K mg) run)) :
    LamX.LawAtS l w K (L2.CX l.prog w) k 63 "script" mg f h := by
  refine ⟨fd, csOf K ls, _, fun p hp => ?_, fun p hp => ?_, fun p hp => ?_, hb, fun H a ns hl _ hT hS => @sp_law (tbsOf K ls) _ _ _ main _ _ _ hl (tabs_of hT) hS, hF⟩
  · obtain ⟨y, hy, rfl⟩ := List.mem_map.mp hp
    exact (S.l y hy).1
  · obtain ⟨y, hy, rfl⟩ := List.mem_map.mp hp
    exact (S.l y hy).2.no
  · obtain ⟨y, hy, rfl⟩ := List.mem_map.mp hp
    exact PySem.W.codeHd_of_K S.X (S.l y hy).2.hd
end G

set_option Elab.async false
set_option linter.all false
set_option maxRecDepth 100000
set_option maxHeartbeats 0
/-! G, part 11: plain: tools, and what the laws' own helpers do. -/
namespace G
open PySem
theorem bind_ok {α β : Type} {a : α} {f : α → R β} : (R.ok a).bind f = f a := id rfl
theorem bind_of {α β : Type} {a : α} {f : α → R β} : (R.of (some a)).bind f = f a := id rfl
theorem wp_okk {α : Type} {a : α} {Q : α → Prop} {E : Ex → Prop} : (R.ok a).wp Q E = Q a := id rfl
theorem run_succ {fns : Str → Option CFn} {globs : Str → Option D} {fuel k : Nat} {f : Str} {fn : CFn} {ds : List D} (h : fns f = some fn) : run fns globs fuel (k + 1) f ds = body ⟨fns, globs, fuel, run fns globs fuel k, runLow fns globs fuel k⟩ fn ds := by
  rw [run_eq, h]
/-! ### the evaluator's steps as rewriting; what follows is named, so that it is not looked into early -/
section
variable {C : G.Ctx} {t : Bool} {env : List Sl} {d e : D} {i j : Int} {lent : List Bool} {a b c : CE} {n : Nat} {x y : Str} {l m : List D} {r s : Rv} {o o' : P2} {es : CEs} {rs : List Rv} {vs : List Nat} {tg : G.TG} {it : CI} {ss tt : CSs} {st : CS} {m' : Nat}
def k_p1 (t : Bool) (o : P1) : Rv × List Sl → R (Rv × List Sl) := fun p => (R.of ((p.1.cont p.2).bind (prim1 o))).bind fun v => fin t v p.2
def k_p2b (t : Bool) (o : P2) (r : Rv) : Rv × List Sl → R (Rv × List Sl) := fun q => (R.of ((r.cont q.2).bind fun d => (q.1.cont q.2).bind fun e => prim2 o d e)).bind fun v => fin t v q.2
def k_p2 (C : G.Ctx) (t : Bool) (o : P2) (b : CE) : Rv × List Sl → R (Rv × List Sl) := fun p => (evalE C false b p.2).bind (k_p2b t o p.1)
def k_p3c (t : Bool) (o : P3) (k3 : Bool) (r s : Rv) : Rv × List Sl → R (Rv × List Sl) := fun u => (R.of ((r.cont u.2).bind fun d => (s.cont u.2).bind fun e => (u.1.cont u.2).bind fun f => prim3 o k3 d e f)).bind fun v => fin t v u.2
def k_p3b (C : G.Ctx) (t : Bool) (o : P3) (k3 : Bool) (r : Rv) (c : CE) : Rv × List Sl → R (Rv × List Sl) := fun q => (R.of ((q.1.cont q.2).bind (pre3b o))).bind fun _ => (evalE C false c q.2).bind (k_p3c t o k3 r q.1)
def k_p3 (C : G.Ctx) (t : Bool) (o : P3) (b c : CE) : Rv × List Sl → R (Rv × List Sl) := fun p => (R.of ((p.1.cont p.2).bind (pre3 o))).bind fun k3 => (evalE C false b p.2).bind (k_p3b C t o k3 p.1 c)
def k_and (C : G.Ctx) (t : Bool) (b : CE) : Rv × List Sl → R (Rv × List Sl) := fun p => (R.of (asB p.1)).bind fun x => if x then evalE C t b p.2 else .ok (.val (.bl false), p.2)
def k_or (C : G.Ctx) (t : Bool) (b : CE) : Rv × List Sl → R (Rv × List Sl) := fun p => (R.of (asB p.1)).bind fun x => if x then .ok (.val (.bl true), p.2) else evalE C t b p.2
def k_not : Rv × List Sl → R (Rv × List Sl) := fun p => (R.of ((p.1.cont p.2).bind truth)).bind fun x => .ok (.val (.bl (!x)), p.2)
def k_if (C : G.Ctx) (t : Bool) (a b : CE) : Rv × List Sl → R (Rv × List Sl) := fun p => (R.of (asB p.1)).bind fun x => if x then evalE C t a p.2 else evalE C t b p.2
def k_tup (t : Bool) : List Rv × List Sl → R (Rv × List Sl) := fun p => (R.of (freezeAll p.2 p.1)).bind fun q => fin t (.val (.tup q.1)) q.2
def k_lst (t : Bool) : List Rv × List Sl → R (Rv × List Sl) := fun p => (R.of (freezeAll p.2 p.1)).bind fun q => fin t (.fresh (.lst q.1)) q.2
def k_dic (t : Bool) (ks : List L2.Key) : List Rv × List Sl → R (Rv × List Sl) := fun p => (R.of (freezeAll p.2 p.1)).bind fun q => (R.of (mkDic ks q.1)).bind fun d => fin t (.fresh (.dic d)) q.2
def k_fin (t : Bool) : Rv × List Sl → R (Rv × List Sl) := fun q => fin t q.1 q.2
def k_call (C : G.Ctx) (t : Bool) (f : Str) : List Rv × List Sl → R (Rv × List Sl) := fun p => (callFn C f p.1 p.2).bind (k_fin t)
def k_mut (t : Bool) (i : Nat) (m : MOp) : List Rv × List Sl → R (Rv × List Sl) := fun p => (R.of (freezeAll p.2 p.1)).bind fun q => match q.2[i]? with
    | some (.own d) => (R.of (mutate m d q.1)).bind fun z => fin t (.val z.2) (q.2.set i (.own z.1))
    | _ => .stuck
def k_cmp2 (t : Bool) (vs : List Nat) (env0 : List Sl) : List D × List Sl → R (Rv × List Sl) := fun q => fin t (.fresh (.lst q.1)) (restoreE env0 q.2 vs)
def k_cmp (C : G.Ctx) (t : Bool) (vs : List Nat) (tg : G.TG) (cond : Option CE) (elt : CE) : List D × List Sl → R (Rv × List Sl) := fun p => (R.of (compOk p.2 vs tg p.1.length)).bind fun _ => (R.calm (compL (stepOf C vs tg cond elt) p.1 p.2)).bind (k_cmp2 t vs p.2)
def k_es2 (r : Rv) : List Rv × List Sl → R (List Rv × List Sl) := fun q => .ok (r :: q.1, q.2)
def k_es (C : G.Ctx) (es : CEs) : Rv × List Sl → R (List Rv × List Sl) := fun p => (evalEs C es p.2).bind (k_es2 p.1)
def k_iv : Rv × List Sl → R (List D × List Sl) := fun p => (R.of (p.1.freeze p.2)).bind fun q => (R.of (walkable q.1)).bind fun l => .ok (l, q.2)
def k_ie : Rv × List Sl → R (List D × List Sl) := fun p => (R.of (p.1.freeze p.2)).bind fun q => (R.of (enumable q.1)).bind fun l => .ok (enumD 0 l, q.2)
def k_i1 : Rv × List Sl → R (List D × List Sl) := fun p => match p.1 with
    | .val (.int j) => if -(2 ^ 62) ≤ j ∧ j < 2 ^ 62 then .ok (rngD 0 j.toNat, p.2) else .stuck
    | _ => .stuck
def k_i2b (r : Rv) : Rv × List Sl → R (List D × List Sl) := fun q => match r, q.1 with
    | .val (.int i), .val (.int j) => if -(2 ^ 62) ≤ i ∧ i < 2 ^ 62 ∧ -(2 ^ 62) ≤ j ∧ j < 2 ^ 62 then .ok (rngD i (j - i).toNat, q.2) else .stuck
    | _, _ => .stuck
def k_i2 (C : G.Ctx) (b : CE) : Rv × List Sl → R (List D × List Sl) := fun p => (evalE C false b p.2).bind (k_i2b p.1)
theorem e_const : evalE C t (.const d) env = fin t (.val d) env := by simp only [evalE]
theorem e_var : evalE C t (.var n) env = match env[n]? with
    | some (.val d) => fin t (.val d) env
    | some (.own _) => fin t (.slot n) env
    | _ => .stuck := by first | (rw [evalE]; rfl) | rw [evalE]
theorem e_p1 {o : P1} : evalE C t (.p1 o a) env = (evalE C false a env).bind (k_p1 t o) := by simp only [evalE]; rfl
theorem e_p2 : evalE C t (.p2 o a b) env = (evalE C false a env).bind (k_p2 C t o b) := by simp only [evalE]; rfl
theorem e_p3 {o : P3} : evalE C t (.p3 o a b c) env = (evalE C false a env).bind (k_p3 C t o b c) := by simp only [evalE]; rfl
theorem e_and : evalE C t (.andE a b) env = (evalE C t a env).bind (k_and C t b) := by simp only [evalE]; rfl
theorem e_or : evalE C t (.orE a b) env = (evalE C t a env).bind (k_or C t b) := by simp only [evalE]; rfl
theorem e_not : evalE C t (.notE a) env = (evalE C t a env).bind k_not := by simp only [evalE]; rfl
theorem e_if : evalE C t (.ifE c a b) env = (evalE C true c env).bind (k_if C t a b) := by simp only [evalE]; rfl
theorem e_tup : evalE C t (.tup es) env = (evalEs C es env).bind (k_tup t) := by simp only [evalE]; rfl
theorem e_lst : evalE C t (.lst es) env = (evalEs C es env).bind (k_lst t) := by simp only [evalE]; rfl
theorem e_dic {ks : List L2.Key} : evalE C t (.dic ks es) env = (evalEs C es env).bind (k_dic t ks) := by simp only [evalE]; rfl
theorem e_call {f : Str} : evalE C t (.call f es) env = (evalEs C es env).bind (k_call C t f) := by simp only [evalE]; rfl
theorem e_mut {m : MOp} : evalE C t (.mut n m es) env = (R.of (ownL env n)).bind fun _ => (evalEs C es env).bind (k_mut t n m) := by simp only [evalE]; rfl
theorem e_comp : evalE C t (.comp vs tg it a) env = (evalI C it env).bind (k_cmp C t vs tg none a) := by simp only [evalE]; rfl
theorem e_compIf : evalE C t (.compIf vs tg it c a) env = (evalI C it env).bind (k_cmp C t vs tg (some c) a) := by simp only [evalE]; rfl
theorem es_nil : evalEs C .nil env = .ok ([], env) := by simp only [evalEs]
theorem es_cons : evalEs C (.cons a es) env = (evalE C false a env).bind (k_es C es) := by simp only [evalEs]; rfl
theorem ei_v : evalI C (.val a) env = (evalE C false a env).bind k_iv := by simp only [evalI]; rfl
theorem ei_e : evalI C (.enum a) env = (evalE C false a env).bind k_ie := by simp only [evalI]; rfl
theorem ei_1 : evalI C (.rng1 a) env = (evalE C false a env).bind k_i1 := by simp only [evalI]; rfl
theorem e_glob {x : Str} : evalE C t (.glob x) env = (R.of (C.globs x)).bind fun d => fin t (.val d) env := by simp only [evalE]
def k_ch2 (t : Bool) (o : P2) (r : Rv) : Rv × List Sl → R (Rv × List Sl) := fun u => (R.of ((r.cont u.2).bind fun e => (u.1.cont u.2).bind fun f => prim2 o e f)).bind fun v => fin t v u.2
def k_ch1 (C : G.Ctx) (t : Bool) (o o' : P2) (c : CE) (r : Rv) : Rv × List Sl → R (Rv × List Sl) := fun q =>
      (R.of ((r.cont q.2).bind fun d => (q.1.cont q.2).bind fun e => (prim2 o d e).bind asB)).bind fun x =>
      if x then (evalE C false c q.2).bind (k_ch2 t o' q.1)
      else .ok (.val (.bl false), q.2)
def k_ch (C : G.Ctx) (t : Bool) (o o' : P2) (b c : CE) : Rv × List Sl → R (Rv × List Sl) := fun p => (evalE C false b p.2).bind (k_ch1 C t o o' c p.1)
theorem e_chain {o o' : P2} : evalE C t (.chain o o' a b c) env = (evalE C false a env).bind (k_ch C t o o' b c) := by simp only [evalE]; rfl
def k_tri (t : Bool) (env : List Sl) (r : R (Rv × List Sl)) : R (Rv × List Sl) := (triR r).bind fun d => fin t (.val d) env
theorem e_tried : evalE C t (.tried a) env = k_tri t env (evalE C.low false a (env.map hideSl)) := by simp only [evalE]; rfl
theorem hide_own : hideSl (.own d) = .no := id rfl
theorem hide_val : hideSl (.val d) = .val d := id rfl
theorem hide_no' : hideSl .no = .no := id rfl
theorem low_eq {fns : Str → Option CFn} {globs : Str → Option D} {fuel : Nat} {run runL : Str → List D → R Out} : Ctx.low ⟨fns, globs, fuel, run, runL⟩ = ⟨fns, globs, fuel, runL, fun _ _ => .stuck⟩ := id rfl
theorem runLow_at {fns : Str → Option CFn} {globs : Str → Option D} {fuel j : Nat} : runLow fns globs fuel (j + 2) = run fns globs fuel j := id rfl
def k_raise (c : Str) (fs : List Str) : List Rv × List Sl → R (Fl × List Sl) := fun p => (R.of (freezeAll p.2 p.1)).bind fun q => if fs.length = q.1.length then .exc ⟨c, fs.zip q.1⟩ else .stuck
theorem x_raise {c : Str} {fs : List Str} : execS C lent (.raise c fs es) env = (evalEs C es env).bind (k_raise c fs) := by simp only [execS]; rfl
theorem ka_raise {c : Str} {fs : List Str} : k_raise c fs (rs, env) = (R.of (freezeAll env rs)).bind fun q => if fs.length = q.1.length then .exc ⟨c, fs.zip q.1⟩ else .stuck := id rfl
def k_dicz (t : Bool) : List Rv × List Sl → R (Rv × List Sl) := fun p => (R.of (freezeAll p.2 p.1)).bind fun q => (R.of (dicZip q.1)).bind fun d => fin t (.fresh (.dic d)) q.2
theorem e_dicz {es : CEs} : evalE C t (.dictZip es) env = (evalEs C es env).bind (k_dicz t) := by simp only [evalE]; rfl
def k_irev : Rv × List Sl → R (List D × List Sl) := fun p => (R.of (p.1.freeze p.2)).bind fun q => (R.of (items q.1)).bind fun l => .ok (l.reverse, q.2)
theorem ei_rev : evalI C (.rev a) env = (evalE C false a env).bind k_irev := by simp only [evalI]; rfl
def k_iz2 (d : D) : Rv × List Sl → R (List D × List Sl) := fun q => (R.of (q.1.freeze q.2)).bind fun q' => (R.of (zipOk d q'.1)).bind fun l => .ok (l, q'.2)
def k_iz (C : G.Ctx) (b : CE) : Rv × List Sl → R (List D × List Sl) := fun p => (R.of (p.1.freeze p.2)).bind fun p' => (evalE C false b p'.2).bind (k_iz2 p'.1)
theorem ei_zip : evalI C (.zip a b) env = (evalE C false a env).bind (k_iz C b) := by simp only [evalI]; rfl
def k_i3c (r s : Rv) : Rv × List Sl → R (List D × List Sl) := fun u => match r, s, u.1 with
    | .val (.int i), .val (.int j), .val (.int k) => if k ≠ 0 ∧ k.natAbs < 1073741824 ∧ Builtin.Range.small i j k = true ∧ 0 ≤ Builtin.Range.rangeSize i j k then .ok (rngC i k (Builtin.Range.rangeSize i j k).toNat, u.2) else .stuck
    | _, _, _ => .stuck
def k_i3b (C : G.Ctx) (c : CE) (r : Rv) : Rv × List Sl → R (List D × List Sl) := fun q => (evalE C false c q.2).bind (k_i3c r q.1)
def k_i3 (C : G.Ctx) (b c : CE) : Rv × List Sl → R (List D × List Sl) := fun p => (evalE C false b p.2).bind (k_i3b C c p.1)
theorem ei_3 : evalI C (.rng3 a b c) env = (evalE C false a env).bind (k_i3 C b c) := by simp only [evalI]; rfl
theorem ei_2 : evalI C (.rng2 a b) env = (evalE C false a env).bind (k_i2 C b) := by simp only [evalI]; rfl
theorem ka_p1 {o : P1} : k_p1 t o (r, env) = (R.of ((r.cont env).bind (prim1 o))).bind fun v => fin t v env := id rfl
theorem ka_p2b : k_p2b t o r (s, env) = (R.of ((r.cont env).bind fun d => (s.cont env).bind fun e => prim2 o d e)).bind fun v => fin t v env := id rfl
theorem ka_p2 : k_p2 C t o b (r, env) = (evalE C false b env).bind (k_p2b t o r) := id rfl
theorem ka_p3c {o : P3} {k3 : Bool} {u : Rv} : k_p3c t o k3 r s (u, env) = (R.of ((r.cont env).bind fun d => (s.cont env).bind fun e => (u.cont env).bind fun f => prim3 o k3 d e f)).bind fun v => fin t v env := id rfl
theorem ka_p3b {o : P3} {k3 : Bool} : k_p3b C t o k3 r c (s, env) = (R.of ((s.cont env).bind (pre3b o))).bind fun _ => (evalE C false c env).bind (k_p3c t o k3 r s) := id rfl
theorem ka_p3 {o : P3} : k_p3 C t o b c (r, env) = (R.of ((r.cont env).bind (pre3 o))).bind fun k3 => (evalE C false b env).bind (k_p3b C t o k3 r c) := id rfl
theorem ka_and {q : Bool} : k_and C t b (.val (.bl q), env) = if q then evalE C t b env else .ok (.val (.bl false), env) := id rfl
theorem ka_or {q : Bool} : k_or C t b (.val (.bl q), env) = if q then .ok (.val (.bl true), env) else evalE C t b env := id rfl
theorem ka_not : k_not (r, env) = (R.of ((r.cont env).bind truth)).bind fun x => .ok (.val (.bl (!x)), env) := id rfl
theorem ka_if {q : Bool} : k_if C t a b (.val (.bl q), env) = if q then evalE C t a env else evalE C t b env := id rfl
theorem ka_tup : k_tup t (rs, env) = (R.of (freezeAll env rs)).bind fun q => fin t (.val (.tup q.1)) q.2 := id rfl
theorem ka_lst : k_lst t (rs, env) = (R.of (freezeAll env rs)).bind fun q => fin t (.fresh (.lst q.1)) q.2 := id rfl
theorem ka_dic {ks : List L2.Key} : k_dic t ks (rs, env) = (R.of (freezeAll env rs)).bind fun q => (R.of (mkDic ks q.1)).bind fun d => fin t (.fresh (.dic d)) q.2 := id rfl
theorem ka_fin : k_fin t (r, env) = fin t r env := id rfl
theorem ka_call {f : Str} : k_call C t f (rs, env) = (callFn C f rs env).bind (k_fin t) := id rfl
theorem ka_mut {m : MOp} : k_mut t n m (rs, env) = (R.of (freezeAll env rs)).bind fun q => match q.2[n]? with
    | some (.own d) => (R.of (mutate m d q.1)).bind fun z => fin t (.val z.2) (q.2.set n (.own z.1))
    | _ => .stuck := id rfl
theorem ka_cmp2 {env0 : List Sl} : k_cmp2 t vs env0 (l, env) = fin t (.fresh (.lst l)) (restoreE env0 env vs) := id rfl
theorem ka_cmp {cond : Option CE} : k_cmp C t vs tg cond a (l, env) = (R.of (compOk env vs tg l.length)).bind fun _ => (R.calm (compL (stepOf C vs tg cond a) l env)).bind (k_cmp2 t vs env) := id rfl
theorem ka_es2 : k_es2 r (rs, env) = .ok (r :: rs, env) := id rfl
theorem ka_es : k_es C es (r, env) = (evalEs C es env).bind (k_es2 r) := id rfl
theorem ka_iv : k_iv (r, env) = (R.of (r.freeze env)).bind fun q => (R.of (walkable q.1)).bind fun l => .ok (l, q.2) := id rfl
theorem ka_ie : k_ie (r, env) = (R.of (r.freeze env)).bind fun q => (R.of (enumable q.1)).bind fun l => .ok (enumD 0 l, q.2) := id rfl
def small62 (j : Int) : Bool := decide (-(2 ^ 62) ≤ j) && decide (j < 2 ^ 62)
theorem small62_iff {j : Int} : small62 j = true ↔ (-(2 ^ 62) ≤ j ∧ j < 2 ^ 62) := by
  unfold small62
  rw [Bool.and_eq_true, decide_eq_true_eq, decide_eq_true_eq]
theorem small62_c {j : Int} (h : -1000000000 ≤ j) (h' : j ≤ 1000000000) : small62 j = true := small62_iff.mpr ⟨by omega, by omega⟩
theorem ka_i1 : k_i1 (.val (.int j), env) = if small62 j = true then .ok (rngD 0 j.toNat, env) else .stuck := by
  show (if -(2 ^ 62) ≤ j ∧ j < 2 ^ 62 then R.ok (rngD 0 j.toNat, env) else .stuck) = _
  by_cases h : small62 j = true
  · rw [if_pos h, if_pos (small62_iff.mp h)]
  · rw [if_neg h, if_neg (fun q => h (small62_iff.mpr q))]
theorem ka_i2 : k_i2 C b (r, env) = (evalE C false b env).bind (k_i2b r) := id rfl
theorem ka_i2b : k_i2b (.val (.int i)) (.val (.int j), env) = if (small62 i && small62 j) = true then .ok (rngD i (j - i).toNat, env) else .stuck := by
  show (if -(2 ^ 62) ≤ i ∧ i < 2 ^ 62 ∧ -(2 ^ 62) ≤ j ∧ j < 2 ^ 62 then R.ok (rngD i (j - i).toNat, env) else .stuck) = _
  by_cases h : (small62 i && small62 j) = true
  · have h2 := Bool.and_eq_true_iff.mp h
    rw [if_pos h, if_pos ⟨(small62_iff.mp h2.1).1, (small62_iff.mp h2.1).2, (small62_iff.mp h2.2).1, (small62_iff.mp h2.2).2⟩]
  · rw [if_neg h, if_neg (fun q => h (Bool.and_eq_true_iff.mpr ⟨small62_iff.mpr ⟨q.1, q.2.1⟩, small62_iff.mpr q.2.2⟩))]
-- statements
def k_asg (lent : List Bool) (i : Nat) : Rv × List Sl → R (Fl × List Sl) := fun p => match p.1 with
    | .fresh d => (R.of (store lent i (.own d) p.2)).bind fun env1 => .ok (.next, env1)
    | r => (R.of (r.freeze p.2)).bind fun q => (R.of (store lent i (.val q.1) q.2)).bind fun env1 => .ok (.next, env1)
def k_asgT (lent : List Bool) (is : List Nat) : Rv × List Sl → R (Fl × List Sl) := fun p => (R.of (p.1.freeze p.2)).bind fun q => (R.of (assignT lent (.tup is) q.1 q.2)).bind fun env1 => .ok (.next, env1)
def k_set2 (i : Nat) (v : D) : Rv × List Sl → R (Fl × List Sl) := fun r => match r.2[i]?, r.1 with
    | some (.own d), .val x => (R.of (setAt d x v)).bind fun d' => .ok (.next, r.2.set i (.own d'))
    | _, _ => .stuck
def k_set (C : G.Ctx) (i : Nat) (k : CE) : Rv × List Sl → R (Fl × List Sl) := fun p => (R.of (p.1.freeze p.2)).bind fun q => (R.of (ownX q.2 i)).bind fun _ => (evalE C false k q.2).bind (k_set2 i q.1)
def k_expr : Rv × List Sl → R (Fl × List Sl) := fun p => .ok (.next, p.2)
def k_ret (lent : List Bool) : Rv × List Sl → R (Fl × List Sl) := fun p => match p.1 with
    | .val d => .ok (.ret false d, p.2)
    | .fresh d => .ok (.ret true d, p.2)
    | .slot i => match p.2[i]? with
      | some (.own d) => if lent.getD i false = false ∧ lentOwn lent p.2 = true then .ok (.ret true d, p.2.set i .no) else .ok (.ret false d, p.2.set i (.val d))
      | some (.val d) => .ok (.ret false d, p.2)
      | _ => .stuck
def k_ifS (C : G.Ctx) (lent : List Bool) (a b : CSs) : Rv × List Sl → R (Fl × List Sl) := fun p => (R.of (asB p.1)).bind fun x => if x then execSs C lent a p.2 else execSs C lent b p.2
def stepS (C : G.Ctx) (lent : List Bool) (tg : G.TG) (b : CSs) : D → List Sl → R (Fl × List Sl) := fun d env1 => (R.of (assignT lent tg d env1)).bind fun env2 => execSs C lent b env2
def k_for (C : G.Ctx) (lent : List Bool) (tg : G.TG) (b : CSs) : List D × List Sl → R (Fl × List Sl) := fun p => forL (stepS C lent tg b) p.1 p.2
def k_seq (C : G.Ctx) (lent : List Bool) (r : CSs) : Fl × List Sl → R (Fl × List Sl) := fun p => match p.1 with
    | .next => execSs C lent r p.2
    | f => .ok (f, p.2)
def k_body (lent : List Bool) : Fl × List Sl → R Out := fun p => match p.1 with
      | .next => (R.of (finals lent p.2)).bind fun fs => .ok (false, .non, fs)
      | .ret o d => (R.of (finals lent p.2)).bind fun fs => .ok (o, d, fs)
      | _ => .stuck
def k_step (C : G.Ctx) (lent : List Bool) (tg : G.TG) (b : CSs) (l : List D) : Fl × List Sl → R (Fl × List Sl) := fun p => match p.1 with
    | .brk => .ok (.next, p.2)
    | .ret o d => .ok (.ret o d, p.2)
    | _ => forL (stepS C lent tg b) l p.2
theorem x_pass : execS C lent .pass env = .ok (.next, env) := by simp only [execS]
theorem x_brk : execS C lent .brk env = .ok (.brk, env) := by simp only [execS]
theorem x_cont : execS C lent .cont env = .ok (.cont, env) := by simp only [execS]
theorem x_retN : execS C lent .retN env = .ok (.ret false .non, env) := by simp only [execS]
theorem x_asg : execS C lent (.asg n a) env = (evalE C false a env).bind (k_asg lent n) := by simp only [execS]; rfl
theorem x_asgT : execS C lent (.asgT vs a) env = (evalE C false a env).bind (k_asgT lent vs) := by simp only [execS]; rfl
theorem x_setI : execS C lent (.setI n b a) env = (evalE C false a env).bind (k_set C n b) := by simp only [execS]; rfl
theorem x_expr : execS C lent (.expr a) env = (evalE C false a env).bind k_expr := by simp only [execS]; rfl
theorem x_ret : execS C lent (.ret a) env = (evalE C false a env).bind (k_ret lent) := by simp only [execS]; rfl
theorem x_if : execS C lent (.ifS a ss tt) env = (evalE C true a env).bind (k_ifS C lent ss tt) := by simp only [execS]; rfl
theorem x_for : execS C lent (.forS tg it ss) env = (evalI C it env).bind (k_for C lent tg ss) := by simp only [execS]; rfl
theorem xs_nil : execSs C lent .nil env = .ok (.next, env) := by simp only [execSs]
theorem xs_cons : execSs C lent (.cons st ss) env = (execS C lent st env).bind (k_seq C lent ss) := by simp only [execSs]; rfl
theorem ka_asgF : k_asg lent n (.fresh d, env) = (R.of (store lent n (.own d) env)).bind fun env1 => .ok (.next, env1) := id rfl
theorem ka_asgV : k_asg lent n (.val d, env) = (R.of (store lent n (.val d) env)).bind fun env1 => .ok (.next, env1) := id rfl
theorem ka_asgS : k_asg lent n (.slot m', env) = (R.of ((Rv.slot m').freeze env)).bind fun q => (R.of (store lent n (.val q.1) q.2)).bind fun env1 => .ok (.next, env1) := id rfl
theorem ka_asgT : k_asgT lent vs (r, env) = (R.of (r.freeze env)).bind fun q => (R.of (assignT lent (.tup vs) q.1 q.2)).bind fun env1 => .ok (.next, env1) := id rfl
theorem ka_set : k_set C n b (r, env) = (R.of (r.freeze env)).bind fun q => (R.of (ownX q.2 n)).bind fun _ => (evalE C false b q.2).bind (k_set2 n q.1) := id rfl
theorem ka_set2 : k_set2 n d (.val e, env) = match env[n]? with
    | some (.own c) => (R.of (setAt c e d)).bind fun d' => .ok (.next, env.set n (.own d'))
    | _ => .stuck := by
  unfold k_set2
  cases h : env[n]? with
  | none => rfl
  | some z => cases z <;> rfl
theorem ka_expr : k_expr (r, env) = .ok (.next, env) := id rfl
theorem ka_retV : k_ret lent (.val d, env) = .ok (.ret false d, env) := id rfl
theorem ka_retF : k_ret lent (.fresh d, env) = .ok (.ret true d, env) := id rfl
theorem ka_retS : k_ret lent (.slot n, env) = match env[n]? with
      | some (.own d) => if lent.getD n false = false ∧ lentOwn lent env = true then .ok (.ret true d, env.set n .no) else .ok (.ret false d, env.set n (.val d))
      | some (.val d) => .ok (.ret false d, env)
      | _ => .stuck := id rfl
theorem ka_ifS {q : Bool} : k_ifS C lent ss tt (.val (.bl q), env) = if q then execSs C lent ss env else execSs C lent tt env := id rfl
theorem ka_for : k_for C lent tg ss (l, env) = forL (stepS C lent tg ss) l env := id rfl
theorem ka_seqN : k_seq C lent ss (.next, env) = execSs C lent ss env := id rfl
theorem ka_seqR {q : Bool} : k_seq C lent ss (.ret q d, env) = .ok (.ret q d, env) := id rfl
theorem ka_seqB : k_seq C lent ss (.brk, env) = .ok (.brk, env) := id rfl
theorem ka_seqC : k_seq C lent ss (.cont, env) = .ok (.cont, env) := id rfl
theorem ka_bodyN : k_body lent (.next, env) = (R.of (finals lent env)).bind fun fs => .ok (false, .non, fs) := id rfl
theorem ka_bodyR {q : Bool} : k_body lent (.ret q d, env) = (R.of (finals lent env)).bind fun fs => .ok (q, d, fs) := id rfl
theorem body_eq {fn : CFn} {ds : List D} : G.body C fn ds = if ds.length = fn.lent.length then (execSs C fn.lent fn.body (startE fn.lent ds ++ List.replicate (fn.slots - ds.length) .no)).bind (k_body fn.lent) else .stuck := id rfl
theorem forL_nil : forL (stepS C lent tg ss) [] env = .ok (.next, env) := id rfl
theorem forL_cons : forL (stepS C lent tg ss) (d :: l) env = (stepS C lent tg ss d env).bind (k_step C lent tg ss l) := id rfl
theorem stepS_eq : stepS C lent tg ss d env = (R.of (assignT lent tg d env)).bind fun env2 => execSs C lent ss env2 := id rfl
theorem ka_stepN : k_step C lent tg ss l (.next, env) = forL (stepS C lent tg ss) l env := id rfl
theorem ka_stepC : k_step C lent tg ss l (.cont, env) = forL (stepS C lent tg ss) l env := id rfl
theorem ka_stepB : k_step C lent tg ss l (.brk, env) = .ok (.next, env) := id rfl
theorem ka_stepR {q : Bool} : k_step C lent tg ss l (.ret q d, env) = .ok (.ret q d, env) := id rfl
theorem ite_tr {α : Type} {p q : α} : (if True then p else q) = p := if_pos True.intro
theorem c_val : (Rv.val d).cont env = some d := id rfl
theorem c_fresh : (Rv.fresh d).cont env = some d := id rfl
theorem f_val : (Rv.val d).freeze env = some (d, env) := id rfl
theorem f_fresh : (Rv.fresh d).freeze env = some (d, env) := id rfl
theorem ob_some {α β : Type} {a : α} {f : α → Option β} : (some a).bind f = f a := id rfl
theorem om_some {α β : Type} {a : α} {f : α → β} : (some a).map f = some (f a) := id rfl
theorem asB_b {b : Bool} : asB (.val (.bl b)) = some b := id rfl
theorem tr_b {b : Bool} : truth (.bl b) = some b := id rfl
theorem fin_f {r : Rv} : fin false r env = .ok (r, env) := id rfl
theorem fin_b {b : Bool} : fin true (.val (.bl b)) env = .ok (.val (.bl b), env) := id rfl
theorem p_addI : prim2 .add (.int i) (.int j) = some (.val (.int (i + j))) := id rfl
theorem p_iaddI : prim2 .iadd (.int i) (.int j) = some (.val (.int (i + j))) := id rfl
theorem p_isubI : prim2 .isub (.int i) (.int j) = some (.val (.int (i - j))) := id rfl
theorem p_subI : prim2 .sub (.int i) (.int j) = some (.val (.int (i - j))) := id rfl
theorem p_mulI : prim2 .mul (.int i) (.int j) = if smallMul i j then some (.val (.int (i * j))) else none := id rfl
theorem p_fdiv : prim2 .fdiv (.int i) (.int j) = if 0 < j ∧ j < 2 ^ 64 then some (.val (.int (i / j))) else none := id rfl
theorem p_mod : prim2 .mod (.int i) (.int j) = if 0 < j then some (.val (.int (i % j))) else none := id rfl
theorem p_pow : prim2 .pow (.int i) (.int j) = if 0 ≤ j ∧ j ≤ 1000 ∧ i.natAbs < 2 ^ 64 then some (.val (.int (i ^ j.toNat))) else none := id rfl
theorem p_lt : prim2 .lt (.int i) (.int j) = some (.val (.bl (decide (i < j)))) := id rfl
theorem p_le : prim2 .le (.int i) (.int j) = some (.val (.bl (decide (i ≤ j)))) := id rfl
theorem p_gt : prim2 .gt (.int i) (.int j) = some (.val (.bl (decide (j < i)))) := id rfl
theorem p_ge : prim2 .ge (.int i) (.int j) = some (.val (.bl (decide (j ≤ i)))) := id rfl
theorem p_eq : prim2 .eq d e = boolR (eqD d e) := by cases d <;> rfl
theorem p_ne : prim2 .ne d e = boolR ((eqD d e).map not) := by cases d <;> rfl
theorem boolR_s {b : Bool} : boolR (some b) = some (.val (.bl b)) := id rfl
theorem p_intI : prim1 .int (.int i) = some (.val (.int i)) := id rfl
theorem p_getT : prim2 .get (.tup l) (.int i) = (getD l i).map .val := id rfl
theorem p_getL : prim2 .get (.lst l) (.int i) = (getD l i).map .val := id rfl
theorem p_getK {l : List (L2.Key × D)} : prim2 .get (.dic l) (.str x) = (lookK (.inr x) l).map .val := id rfl
theorem p_lenT : prim1 .len (.tup l) = some (.val (.int l.length)) := id rfl
theorem p_lenL : prim1 .len (.lst l) = some (.val (.int l.length)) := id rfl
theorem p_lenF : prim1 .len (.frz l) = some (.val (.int l.length)) := id rfl
theorem p_tupL : prim1 .tuple (.lst l) = some (.val (.tup l)) := id rfl
theorem p_tupT : prim1 .tuple (.tup l) = some (.val (.tup l)) := id rfl
theorem p_lstT : prim1 .list (.tup l) = some (.fresh (.lst l)) := id rfl
theorem p_lstF : prim1 .list (.frz l) = some (.fresh (.lst l)) := id rfl
theorem p_addT : prim2 .add (.tup l) (.tup m) = if l.length + m.length ≤ sizeLine then some (.val (.tup (l ++ m))) else none := id rfl
theorem p_addL : prim2 .add (.lst l) (.lst m) = if l.length + m.length ≤ sizeLine then some (.fresh (.lst (l ++ m))) else none := id rfl
theorem small_r (h : -(2 ^ 64) < j) (h' : j < 2 ^ 64) : smallMul i j = true := by
  unfold smallMul
  rw [Bool.or_eq_true, Bool.and_eq_true, Bool.and_eq_true, decide_eq_true_eq, decide_eq_true_eq, decide_eq_true_eq, decide_eq_true_eq]
  exact .inr ⟨h, h'⟩
theorem small_l (h : -(2 ^ 64) < i) (h' : i < 2 ^ 64) : smallMul i j = true := by
  unfold smallMul
  rw [Bool.or_eq_true, Bool.and_eq_true, Bool.and_eq_true, decide_eq_true_eq, decide_eq_true_eq, decide_eq_true_eq, decide_eq_true_eq]
  exact .inl ⟨h, h'⟩
end
theorem small_mod {z w : Int} : smallMul (z % 18446744073709551557) w = true := by
  have h1 := Int.emod_nonneg z (show (18446744073709551557 : Int) ≠ 0 by decide)
  have h2 := Int.emod_lt_of_pos z (show (0 : Int) < 18446744073709551557 by decide)
  exact small_l (by omega) (by omega)
def R.isOk {α : Type} : R α → Bool | .ok _ => true | _ => false
theorem cont_slot {n : Nat} {env : List Sl} : (Rv.slot n).cont env = match env[n]? with
    | some (.own d) => some d
    | some (.val d) => some d
    | _ => none := id rfl
theorem freeze_slot' {n : Nat} {env : List Sl} : (Rv.slot n).freeze env = match env[n]? with
    | some (.own d) => some (d, env.set n (.val d))
    | some (.val d) => some (d, env)
    | _ => none := id rfl
theorem ob_none {α β : Type} {f : α → Option β} : (none : Option α).bind f = none := id rfl
theorem om_none {α β : Type} {f : α → β} : (none : Option α).map f = none := id rfl
theorem keys_ne : (("cells" : Str) = "at") = False ∧ (("cells" : Str) = "rest") = False ∧ (("cells" : Str) = "turn") = False ∧ (("cells" : Str) = "seed") = False ∧ (("at" : Str) = "cells") = False ∧ (("at" : Str) = "rest") = False ∧ (("at" : Str) = "turn") = False ∧ (("at" : Str) = "seed") = False ∧ (("rest" : Str) = "cells") = False ∧ (("rest" : Str) = "at") = False ∧ (("rest" : Str) = "turn") = False ∧ (("rest" : Str) = "seed") = False ∧ (("turn" : Str) = "cells") = False ∧ (("turn" : Str) = "at") = False ∧ (("turn" : Str) = "rest") = False ∧ (("turn" : Str) = "seed") = False ∧ (("seed" : Str) = "cells") = False ∧ (("seed" : Str) = "at") = False ∧ (("seed" : Str) = "rest") = False ∧ (("seed" : Str) = "turn") = False := by
  refine ⟨?_, ?_, ?_, ?_, ?_, ?_, ?_, ?_, ?_, ?_, ?_, ?_, ?_, ?_, ?_, ?_, ?_, ?_, ?_, ?_⟩ <;> exact eq_false (by decide)
theorem natAbs10 : (10 : Int).natAbs = 10 := id rfl
theorem natAbs2 : (2 : Int).natAbs = 2 := id rfl
section
variable {l : List D} {i : Int} {z : Str} {b : Bool} {ds : List D} {env : List Sl} {r : Rv} {rs : List Rv}
theorem w_tup : walkable (.tup l) = some l := id rfl
theorem w_lst : walkable (.lst l) = some l := id rfl
theorem w_frz : walkable (.frz l) = some l := id rfl
theorem fa_nil : freezeAll env [] = some ([], env) := id rfl
theorem fa_cons : freezeAll env (r :: rs) = (r.freeze env).bind fun p => (freezeAll p.2 rs).map fun q => (p.1 :: q.1, q.2) := by
  conv => lhs; unfold freezeAll
  cases r.freeze env with
  | none => rfl
  | some p =>
    obtain ⟨d, e⟩ := p
    show (match freezeAll e rs with | some (ds, env2) => some (d :: ds, env2) | none => none) = (freezeAll e rs).map fun q => (d :: q.1, q.2)
    cases h : freezeAll e rs with
    | none => rfl
    | some q => rfl
theorem calm_ok {α : Type} {a : α} : R.calm (.ok a) = .ok a := id rfl
theorem n_non : prim1 .isNone .non = some (.val (.bl true)) := id rfl
theorem n_bl : prim1 .isNone (.bl b) = some (.val (.bl false)) := id rfl
theorem n_int : prim1 .isNone (.int i) = some (.val (.bl false)) := id rfl
theorem n_str : prim1 .isNone (.str z) = some (.val (.bl false)) := id rfl
theorem n_tup : prim1 .isNone (.tup l) = some (.val (.bl false)) := id rfl
theorem n_lst : prim1 .isNone (.lst l) = some (.val (.bl false)) := id rfl
theorem t_non {t : Ty} : prim1 (.isT t) .non = some (.val (.bl false)) := by cases t <;> rfl
theorem t_bl {t : Ty} : prim1 (.isT t) (.bl b) = some (.val (.bl (match t with | .bool => true | .int => true | _ => false))) := by cases t <;> rfl
theorem t_int {t : Ty} : prim1 (.isT t) (.int i) = some (.val (.bl (match t with | .int => true | _ => false))) := by cases t <;> rfl
theorem t_str {t : Ty} : prim1 (.isT t) (.str z) = some (.val (.bl (match t with | .str => true | _ => false))) := by cases t <;> rfl
theorem t_tup {t : Ty} : prim1 (.isT t) (.tup l) = some (.val (.bl (match t with | .tuple => true | _ => false))) := by cases t <;> rfl
theorem t_lst {t : Ty} : prim1 (.isT t) (.lst l) = some (.val (.bl (match t with | .list => true | _ => false))) := by cases t <;> rfl
theorem u_tup : prim1 (.isT2 .tuple .list) (.tup l) = some (.val (.bl true)) := id rfl
theorem u_lst : prim1 (.isT2 .tuple .list) (.lst l) = some (.val (.bl true)) := id rfl
theorem u_int : prim1 (.isT2 .tuple .list) (.int i) = some (.val (.bl false)) := id rfl
end
theorem p_backT {l : List D} : prim1 .back (.tup l) = some (.val (.tup l.reverse)) := id rfl
theorem p_backL {l : List D} : prim1 .back (.lst l) = some (.fresh (.lst l.reverse)) := id rfl
theorem p_strS {s : Str} : prim1 .str (.str s) = some (.val (.str s)) := id rfl
theorem getD_0 {a : D} {l : List D} : getD (a :: l) 0 = some a := by
  unfold getD ixOf
  rw [if_pos (Int.le_refl 0), if_pos (by simp only [List.length_cons]; omega)]; rfl
theorem getD_1 {a b : D} {l : List D} : getD (a :: b :: l) 1 = some b := by
  unfold getD ixOf
  rw [if_pos (by decide), if_pos (by simp only [List.length_cons]; omega)]; rfl
theorem getD_2 {a b c : D} {l : List D} : getD (a :: b :: c :: l) 2 = some c := by
  unfold getD ixOf
  rw [if_pos (by decide), if_pos (by simp only [List.length_cons]; omega)]; rfl
theorem getD_3 {a b c d : D} {l : List D} : getD (a :: b :: c :: d :: l) 3 = some d := by
  unfold getD ixOf
  rw [if_pos (by decide), if_pos (by simp only [List.length_cons]; omega)]; rfl
theorem getD_5 {a b c d e f : D} {l : List D} : getD (a :: b :: c :: d :: e :: f :: l) 5 = some f := by
  unfold getD ixOf
  rw [if_pos (by decide), if_pos (by simp only [List.length_cons]; omega)]; rfl
theorem getD_6 {a b c d e f g : D} {l : List D} : getD (a :: b :: c :: d :: e :: f :: g :: l) 6 = some g := by
  unfold getD ixOf
  rw [if_pos (by decide), if_pos (by simp only [List.length_cons]; omega)]; rfl
theorem getD_7 {a b c d e f g h : D} {l : List D} : getD (a :: b :: c :: d :: e :: f :: g :: h :: l) 7 = some h := by
  unfold getD ixOf
  rw [if_pos (by decide), if_pos (by simp only [List.length_cons]; omega)]; rfl
theorem getD_8 {a b c d e f g h i : D} {l : List D} : getD (a :: b :: c :: d :: e :: f :: g :: h :: i :: l) 8 = some i := by
  unfold getD ixOf
  rw [if_pos (by decide), if_pos (by simp only [List.length_cons]; omega)]; rfl
theorem getD_4 {a b c d e : D} {l : List D} : getD (a :: b :: c :: d :: e :: l) 4 = some e := by
  unfold getD ixOf
  rw [if_pos (by decide), if_pos (by simp only [List.length_cons]; omega)]; rfl
section
variable {C : G.Ctx} {t : Bool} {env : List Sl} {d e : D} {i j : Int} {a b c : CE} {n : Nat} {x y : Str} {l m : List D} {r s : Rv} {vs : List Nat} {tg : G.TG} {v : Nat} {step : D → List Sl → R (Option D × List Sl)} {o : Option D}
def k_cc2 (o : Option D) : List D × List Sl → R (List D × List Sl) := fun q => .ok (o.toList ++ q.1, q.2)
def k_cc (step : D → List Sl → R (Option D × List Sl)) (ds : List D) : Option D × List Sl → R (List D × List Sl) := fun p => (compL step ds p.2).bind (k_cc2 p.1)
theorem compL_nil : compL step [] env = .ok ([], env) := id rfl
theorem compL_cons : compL step (d :: l) env = (step d env).bind (k_cc step l) := id rfl
theorem ka_cc : k_cc step l (o, env) = (compL step l env).bind (k_cc2 o) := id rfl
theorem ka_cc2 : k_cc2 o (l, env) = .ok (o.toList ++ l, env) := id rfl
def k_el : Rv × List Sl → R (Option D × List Sl) := fun z => (R.of (z.1.freeze z.2)).bind fun y => .ok (some y.1, y.2)
theorem ka_el : k_el (r, env) = (R.of (r.freeze env)).bind fun y => .ok (some y.1, y.2) := id rfl
theorem stepOf_n : stepOf C vs tg none a d env = (R.of (assignT [] tg d (wipeE env vs))).bind fun env2 => (evalE C false a env2).bind k_el := id rfl
theorem wipe1 : wipeE env [v] = env.set v .no := id rfl
theorem rest1 {env0 : List Sl} : restoreE env0 env [v] = env.set v (env0.getD v .no) := id rfl
theorem rngD_len {lo : Int} : (rngD lo n).length = n := by simp [rngD]
theorem compOk_1 (h : ∀ c, env[v]? ≠ some (.own c)) (hn : n ≤ 16777216) : compOk env [v] (.name v) n = some () := by
  unfold compOk
  have h2 : ([v].all fun v => match env[v]? with | some (.own _) => false | _ => true) = true := by
    rw [List.all_eq_true]
    intro x hx
    have : x = v := by simpa using hx
    subst this
    split
    · rename_i c e; exact (h c e).elim
    · rfl
  have h3 : ((tgSlots (.name v)).all fun i => [v].contains i) = true := by simp [tgSlots]
  refine if_pos ?_
  rw [Bool.and_eq_true, Bool.and_eq_true, decide_eq_true_eq, sizeLine_eq]
  exact ⟨⟨h2, h3⟩, hn⟩
theorem p_getOr {k3 : Bool} {l : List (L2.Key × D)} : prim3 .getOr k3 (.dic l) (.str x) e = if isScal e = true then some (.val ((lookK (.inr x) l).getD e)) else none := id rfl
theorem pre_getOr {l : List (L2.Key × D)} : pre3 .getOr (.dic l) = some false := id rfl
theorem preb_getOr : pre3b .getOr d = some () := by cases d <;> rfl
theorem p_max : prim2 .max2 (.int i) (.int j) = some (.val (.int (if j > i then j else i))) := id rfl
theorem p_min : prim2 .min2 (.int i) (.int j) = some (.val (.int (if j < i then j else i))) := id rfl
theorem p_stoL : prim2 .sto (.lst l) (.int i) = some (.fresh (.lst (cutL l none (some i)))) := id rfl
theorem p_stoT : prim2 .sto (.tup l) (.int i) = some (.val (.tup (cutL l none (some i)))) := id rfl
def repD (n : Nat) (l : List D) : List D := (List.replicate n l).flatten
theorem p_mulT : prim2 .mul (.tup l) (.int i) = if i ≤ 1000 ∧ -(2 ^ 63) ≤ i ∧ l.length ≤ 1000 then some (.val (.tup (repD i.toNat l))) else none := id rfl
theorem p_sfromT : prim2 .sfrom (.tup l) (.int i) = some (.val (.tup (cutL l (some i) none))) := id rfl
theorem p_sfromL : prim2 .sfrom (.lst l) (.int i) = some (.fresh (.lst (cutL l (some i) none))) := id rfl
theorem p_sliceT {k3 : Bool} : prim3 .slice k3 (.tup l) (.int i) (.int j) = some (.val (.tup (cutL l (some i) (some j)))) := id rfl
theorem p_sliceL {k3 : Bool} : prim3 .slice k3 (.lst l) (.int i) (.int j) = some (.fresh (.lst (cutL l (some i) (some j)))) := id rfl
theorem pre_slice : pre3 .slice d = some false := by cases d <;> rfl
theorem preb_slice : pre3b .slice (.int i) = some () := id rfl
theorem p_inn : prim2 .inn d e = boolR (inD d e) := by cases d <;> cases e <;> rfl
theorem p_notIn : prim2 .notIn d e = boolR ((inD d e).map not) := by cases d <;> cases e <;> rfl
theorem p_addS {z : Str} : prim2 .add (.str x) (.str z) = if x.length + z.length ≤ sizeLine then some (.val (.str (x ++ z))) else none := id rfl
theorem p_mulL : prim2 .mul (.lst l) (.int i) = if -(2 ^ 63) ≤ i ∧ i < 2 ^ 63 ∧ l.length * i.toNat ≤ sizeLine then some (.fresh (.lst (repD i.toNat l))) else none := id rfl
def k_cond (C : G.Ctx) (elt : CE) : Rv × List Sl → R (Option D × List Sl) := fun x => (R.of (asB x.1)).bind fun k => if k then (evalE C false elt x.2).bind k_el else .ok (none, x.2)
theorem stepOf_c : stepOf C vs tg (some b) a d env = (R.of (assignT [] tg d (wipeE env vs))).bind fun env2 => (evalE C true b env2).bind (k_cond C a) := id rfl
theorem ka_cond {q : Bool} : k_cond C a (.val (.bl q), env) = if q then (evalE C false a env).bind k_el else .ok (none, env) := id rfl
theorem ka_ch {o o' : P2} : k_ch C t o o' a b (r, env) = (evalE C false a env).bind (k_ch1 C t o o' b r) := id rfl
theorem ka_ch1 {o o' : P2} : k_ch1 C t o o' c r (s, env) = (R.of ((r.cont env).bind fun d => (s.cont env).bind fun e => (prim2 o d e).bind asB)).bind fun x => if x then (evalE C false c env).bind (k_ch2 t o' s) else .ok (.val (.bl false), env) := id rfl
theorem ka_ch2 {o : P2} : k_ch2 t o r (s, env) = (R.of ((r.cont env).bind fun e => (s.cont env).bind fun f => prim2 o e f)).bind fun v => fin t v env := id rfl
theorem ka_irev : k_irev (r, env) = (R.of (r.freeze env)).bind fun q => (R.of (items q.1)).bind fun l => .ok (l.reverse, q.2) := id rfl
theorem it_tup : items (.tup l) = some l := id rfl
theorem it_lst : items (.lst l) = some l := id rfl
theorem it_frz : items (.frz l) = some l := id rfl
theorem ka_iz : k_iz C b (r, env) = (R.of (r.freeze env)).bind fun p' => (evalE C false b p'.2).bind (k_iz2 p'.1) := id rfl
theorem ka_iz2 : k_iz2 d (r, env) = (R.of (r.freeze env)).bind fun q' => (R.of (zipOk d q'.1)).bind fun l => .ok (l, q'.2) := id rfl
theorem zo_tup : zipOk (.tup l) (.tup m) = some (zipD l m) := id rfl
theorem zo_lst : zipOk (.lst l) (.lst m) = some (zipD l m) := id rfl
theorem ka_i3 : k_i3 C a b (r, env) = (evalE C false a env).bind (k_i3b C b r) := id rfl
theorem ka_i3b : k_i3b C a r (s, env) = (evalE C false a env).bind (k_i3c r s) := id rfl
def stepOk (i j k : Int) : Bool := decide (k ≠ 0) && (decide (k.natAbs < 1073741824) && (Builtin.Range.small i j k && decide (0 ≤ Builtin.Range.rangeSize i j k)))
theorem ka_i3c {k : Int} : k_i3c (.val (.int i)) (.val (.int j)) (.val (.int k), env) = if stepOk i j k = true then .ok (rngC i k (Builtin.Range.rangeSize i j k).toNat, env) else .stuck := by
  show (if k ≠ 0 ∧ k.natAbs < 1073741824 ∧ Builtin.Range.small i j k = true ∧ 0 ≤ Builtin.Range.rangeSize i j k then _ else _) = _
  unfold stepOk
  simp only [Bool.and_eq_true, decide_eq_true_eq]
theorem ka_dicz {rs : List Rv} : k_dicz t (rs, env) = (R.of (freezeAll env rs)).bind fun q => (R.of (dicZip q.1)).bind fun d => fin t (.fresh (.dic d)) q.2 := id rfl
theorem p_idx : prim3 .idx false (.lst l) d e = if flatD d && l.all flatD then (indexF d l).map fun (j : Nat) => .val (.int j) else none := id rfl
theorem pre_idx : pre3 .idx (.lst l) = some false := id rfl
theorem p_idxT : prim3 .idx true (.tup l) d e = if flatD d && l.all flatD then (indexF d l).map fun (j : Nat) => .val (.int j) else none := id rfl
theorem pre_idxT : pre3 .idx (.tup l) = some true := id rfl
theorem preb_idx : pre3b .idx d = some () := by cases d <;> rfl
theorem m_app : mutate .append (.lst l) [d] = if l.length < sizeLine then some (.lst (l ++ [d]), .non) else none := id rfl
theorem m_popAt : mutate .popAt (.lst l) [.int i] = if -(2 ^ 63) ≤ i ∧ i < 2 ^ 63 then (ixOf l.length i).bind fun k => (l[k]?).map fun x => (.lst (l.eraseIdx k), x) else none := id rfl
theorem m_ins : mutate .insert (.lst l) [.int i, d] = if 0 ≤ i ∧ i ≤ l.length ∧ l.length < sizeLine then some (.lst (l.take i.toNat ++ d :: l.drop i.toNat), .non) else none := id rfl
theorem set_lst : setAt (.lst l) (.int i) d = (ixOf l.length i).map fun j => .lst (l.set j d) := id rfl
theorem set_dic {l : List (L2.Key × D)} : setAt (.dic l) (.str x) d = if l.length < sizeLine then some (.dic (putKD l (.inr x) d)) else none := id rfl
theorem notNone_s : prim1 .notNone (.tup l) = some (.val (.bl true)) := id rfl
end
theorem draw_loop {C : G.Ctx} {vs : List Nat} {tg : G.TG} {elt : CE} (Inv : List Sl → Prop) (P : D → Prop) (h : ∀ d env, Inv env → ∃ x env', P x ∧ Inv env' ∧ stepOf C vs tg none elt d env = .ok (some x, env')) :
    ∀ (ds : List D) (env : List Sl), Inv env → ∃ out env', (∀ x, x ∈ out → P x) ∧ out.length = ds.length ∧ Inv env' ∧ compL (stepOf C vs tg none elt) ds env = .ok (out, env')
  | [], env, hi => ⟨[], env, fun _ h => (List.not_mem_nil h).elim, rfl, hi, rfl⟩
  | d :: ds, env, hi => by
    obtain ⟨x, env1, h1, h2, h3⟩ := h d env hi
    obtain ⟨out, env2, g1, g2, g3, g4⟩ := draw_loop Inv P h ds env1 h2
    refine ⟨x :: out, env2, fun y hy => ?_, congrArg (· + 1) g2, g3, ?_⟩
    · rcases List.mem_cons.mp hy with rfl | hy
      · exact h1
      · exact g1 y hy
    · rw [compL_cons, h3, bind_ok, ka_cc, g4, bind_ok, ka_cc2]; rfl
theorem cast0 : ((0 : Nat) : Int) = 0 := id rfl
theorem cast1 : ((1 : Nat) : Int) = 1 := id rfl
theorem cast2 : ((2 : Nat) : Int) = 2 := id rfl
theorem cast3 : ((3 : Nat) : Int) = 3 := id rfl
theorem cast4 : ((4 : Nat) : Int) = 4 := id rfl
theorem cast5 : ((5 : Nat) : Int) = 5 := id rfl
theorem cast6 : ((6 : Nat) : Int) = 6 := id rfl
theorem retd : (1 : Nat) = 1 := id rfl
local macro_rules | `(tactic| walk_at "ev") => `(tactic| simp only [body_eq, e_dicz, ka_dicz, p_idx, pre_idx, p_idxT, pre_idxT, preb_idx, e_glob, e_chain, ka_ch, ka_ch1, ka_ch2, ei_3, ka_i3, ka_i3b, ka_i3c, ei_rev, ka_irev, it_tup, it_lst, it_frz, ei_zip, ka_iz, ka_iz2, zo_tup, zo_lst, p_iaddI, p_isubI, p_sfromT, p_sfromL, p_sliceT, p_sliceL, pre_slice, preb_slice, p_inn, p_notIn, p_addS, p_mulL, stepOf_c, ka_cond, e_const, e_var, e_p1, e_p2, e_p3, e_and, e_or, e_not, e_if, e_tup, e_lst, e_dic, e_call, e_mut, e_comp, e_compIf, es_nil, es_cons, ei_v, ei_e, ei_1, ei_2, ka_p1, ka_p2b, ka_p2, ka_p3c, ka_p3b, ka_p3, ka_and, ka_or, ka_not, ka_if, ka_tup, ka_lst, ka_dic, ka_fin, ka_call, ka_mut, ka_cmp2, ka_cmp, ka_es2, ka_es, ka_iv, ka_ie, ka_i1, ka_i2, ka_i2b, x_pass, x_brk, x_cont, x_retN, x_asg, x_asgT, x_setI, x_expr, x_ret, x_if, x_for, xs_nil, xs_cons, ka_asgF, ka_asgV, ka_asgS, ka_asgT, ka_set, ka_set2, ka_expr, ka_retV, ka_retF, ka_retS, ka_ifS, ka_for, ka_seqN, ka_seqR, ka_seqB, ka_seqC, ka_bodyN, ka_bodyR, ka_stepN, ka_stepC, ka_stepB, ka_stepR, forL_nil, small62_c, getD_0, getD_1, getD_2, getD_4, w_tup, w_lst, w_frz, fa_nil, fa_cons, calm_ok, n_non, n_bl, n_int, n_str, n_tup, n_lst, t_non, t_bl, t_int, t_str, t_tup, t_lst, u_tup, u_lst, u_int, mkDic, List.zip_cons_cons, List.zip_nil_left, List.zip_nil_right, List.foldl_cons, List.foldl_nil, startE, finals, fin_f, fin_b, fin_true, bind_ok, bind_of, ob_some, om_some, ob_none, om_none, store, c_val, c_fresh, cont_slot, f_val, f_fresh, freeze_slot', asB_b, tr_b, p_addI, p_subI, p_mulI, p_fdiv, p_mod, p_pow, p_lt, p_le, p_gt, p_ge, p_eq, p_ne, boolR_s, p_intI, p_getT, p_getL, p_getK, p_lenT, p_lenL, p_lenF, p_tupL, p_tupT, p_lstT, p_lstF, p_addT, p_addL, lookK, keys_ne, eq_self, set_lst, set_dic, putKD, compL_nil, ka_cc, ka_cc2, ka_el, stepOf_n, wipe1, rest1, rngD_len, compOk_1, p_getOr, pre_getOr, preb_getOr, p_max, p_min, p_stoL, p_stoT, p_mulT, m_app, m_popAt, m_ins, Option.getD_some, Option.getD_none, ownX, ownL, callFn, passVals, conts, lentSlots, putBack, isScal, assignT, storeAll, retd,
  List.length_cons, List.length_nil, List.replicate, List.cons_append, List.nil_append, List.getElem?_cons_zero, List.getElem?_cons_succ, List.getElem?_nil, List.set_cons_zero, List.set_cons_succ, List.getD_cons_zero, List.getD_cons_succ, List.getD_nil, if_true, if_false, and_self, and_true, true_and, Nat.reduceAdd, Nat.reduceSub, Nat.reduceLT, Nat.reduceLeDiff, Nat.zero_add, reduceIte, Int.reducePow, Int.reduceNeg, Int.reduceLT, Int.reduceLE, decide_true, decide_false, Bool.false_eq_true, small_r, small_mod,
  Sum.inr.injEq, List.any_cons, List.any_nil, List.map_cons, List.map_nil, Bool.or_false, Bool.false_or, Bool.or_true, Bool.true_or, sizeLine_eq, List.nodup_nil, List.nodup_cons, List.not_mem_nil, not_false_eq_true, ne_eq, Option.some.injEq, reduceCtorEq, implies_true, Bool.and_true, Bool.true_and, Bool.and_false, Bool.false_and, List.isEmpty_nil, List.isEmpty_cons, Bool.not_true, Bool.not_false, cast0, cast1, cast2, cast3, cast4, cast5, cast6, Int.reduceSub, Int.reduceAdd, Int.reduceToNat, Int.reduceAbs, natAbs10, natAbs2, List.length_map, ite_self, Nat.reducePow])
local macro_rules | `(tactic| walk_at "evs") => `(tactic| simp only [body_eq, e_dicz, ka_dicz, p_idx, pre_idx, p_idxT, pre_idxT, preb_idx, e_glob, e_chain, ka_ch, ka_ch1, ka_ch2, ei_3, ka_i3, ka_i3b, ka_i3c, ei_rev, ka_irev, it_tup, it_lst, it_frz, ei_zip, ka_iz, ka_iz2, zo_tup, zo_lst, p_iaddI, p_isubI, p_sfromT, p_sfromL, p_sliceT, p_sliceL, pre_slice, preb_slice, p_inn, p_notIn, p_addS, p_mulL, stepOf_c, ka_cond, e_const, e_var, e_p1, e_p2, e_p3, e_and, e_or, e_not, e_if, e_tup, e_lst, e_dic, e_call, e_mut, e_comp, e_compIf, es_nil, es_cons, ei_v, ei_e, ei_1, ei_2, ka_p1, ka_p2b, ka_p2, ka_p3c, ka_p3b, ka_p3, ka_and, ka_or, ka_not, ka_if, ka_tup, ka_lst, ka_dic, ka_fin, ka_call, ka_mut, ka_cmp2, ka_cmp, ka_es2, ka_es, ka_iv, ka_ie, ka_i1, ka_i2, ka_i2b, x_pass, x_brk, x_cont, x_retN, x_asg, x_asgT, x_setI, x_expr, x_ret, x_if, x_for, xs_nil, xs_cons, ka_asgF, ka_asgV, ka_asgS, ka_asgT, ka_set, ka_set2, ka_expr, ka_retV, ka_retF, ka_retS, ka_ifS, ka_for, ka_seqN, ka_seqR, ka_seqB, ka_seqC, ka_bodyN, ka_bodyR, ka_stepN, ka_stepC, ka_stepB, ka_stepR, forL_nil, small62_c, getD_0, getD_1, getD_2, getD_4, w_tup, w_lst, w_frz, fa_nil, fa_cons, calm_ok, n_non, n_bl, n_int, n_str, n_tup, n_lst, t_non, t_bl, t_int, t_str, t_tup, t_lst, u_tup, u_lst, u_int, mkDic, List.zip_cons_cons, List.zip_nil_left, List.zip_nil_right, List.foldl_cons, List.foldl_nil, startE, finals, fin_f, fin_b, fin_true, bind_ok, bind_of, ob_some, om_some, ob_none, om_none, store, c_val, c_fresh, cont_slot, f_val, f_fresh, freeze_slot', asB_b, tr_b, p_addI, p_subI, p_mulI, p_fdiv, p_mod, p_pow, p_lt, p_le, p_gt, p_ge, p_eq, p_ne, boolR_s, p_intI, p_getT, p_getL, p_getK, p_lenT, p_lenL, p_lenF, p_tupL, p_tupT, p_lstT, p_lstF, p_addT, p_addL, lookK, keys_ne, eq_self, set_lst, set_dic, putKD, compL_nil, ka_cc, ka_cc2, ka_el, stepOf_n, wipe1, rest1, rngD_len, compOk_1, p_getOr, pre_getOr, preb_getOr, p_max, p_min, p_stoL, p_stoT, p_mulT, m_app, m_popAt, m_ins, Option.getD_some, Option.getD_none, ownX, ownL, callFn, passVals, conts, lentSlots, putBack, isScal, assignT, storeAll, retd,
  List.length_cons, List.length_nil, List.replicate, List.cons_append, List.nil_append, List.getElem?_cons_zero, List.getElem?_cons_succ, List.getElem?_nil, List.set_cons_zero, List.set_cons_succ, List.getD_cons_zero, List.getD_cons_succ, List.getD_nil, if_true, if_false, and_self, and_true, true_and, Nat.reduceAdd, Nat.reduceSub, Nat.reduceLT, Nat.reduceLeDiff, Nat.zero_add, reduceIte, Int.reducePow, Int.reduceNeg, Int.reduceLT, Int.reduceLE, decide_true, decide_false, Bool.false_eq_true, small_r, small_mod,
  Sum.inr.injEq, List.any_cons, List.any_nil, List.map_cons, List.map_nil, Bool.or_false, Bool.false_or, Bool.or_true, Bool.true_or, sizeLine_eq, List.nodup_nil, List.nodup_cons, List.not_mem_nil, not_false_eq_true, ne_eq, Option.some.injEq, reduceCtorEq, implies_true, Bool.and_true, Bool.true_and, Bool.and_false, Bool.false_and, List.isEmpty_nil, List.isEmpty_cons, Bool.not_true, Bool.not_false, cast0, cast1, cast2, cast3, cast4, cast5, cast6, Int.reduceSub, Int.reduceAdd, Int.reduceToNat, Int.reduceAbs, natAbs10, natAbs2, List.length_map, ite_self, Nat.reducePow, *])
/-! ### the laws' own helpers, compiled -/
def c__law_mix : CFn := ⟨4, [false, false], (.cons (.asg 2 (.p2 .mod (.p1 .int (.p2 .add (.p2 .add (.p2 .mul (.p1 .int (.var 0)) (.const (.int (6364136223846793005)))) (.p2 .mul (.p1 .int (.var 1)) (.const (.int (1442695040888963407))))) (.const (.int (1013904223))))) (.const (.int (18446744073709551557))))) (.cons (.asg 3 (.p2 .mod (.p1 .int (.p2 .add (.p2 .mul (.var 2) (.var 2)) (.p2 .fdiv (.var 2) (.const (.int (2147483648)))))) (.const (.int (18446744073709551557))))) (.cons (.ret (.p2 .mod (.p1 .int (.p2 .add (.p2 .add (.p2 .mul (.p2 .fdiv (.var 3) (.const (.int (4294967296)))) (.const (.int (3935559000370003845)))) (.p2 .mul (.var 3) (.const (.int (2862933555777941757))))) (.const (.int (7))))) (.const (.int (18446744073709551533))))) .nil)))⟩
theorem l__law_mix : c__law_mix.lent = [false, false] := id rfl
def c__law_take : CFn := ⟨4, [true, false], (.cons (.ifS (.p2 .lt (.var 1) (.const (.int (2)))) (.cons (.ret (.const (.int (0)))) .nil) .nil) (.cons (.ifS (.andE (.p2 .lt (.p2 .get (.var 0) (.const (.str "rest"))) (.const (.int (2)))) (.p2 .lt (.p2 .get (.var 0) (.const (.str "at"))) (.p1 .len (.p2 .get (.var 0) (.const (.str "cells")))))) (.cons (.asg 2 (.p1 .int (.p2 .get (.p2 .get (.var 0) (.const (.str "cells"))) (.p2 .get (.var 0) (.const (.str "at")))))) (.cons (.setI 0 (.const (.str "at")) (.p2 .add (.p2 .get (.var 0) (.const (.str "at"))) (.const (.int (1))))) (.cons (.ifS (.p2 .ge (.var 2) (.p2 .pow (.const (.int (10))) (.const (.int (18))))) (.cons (.setI 0 (.const (.str "rest")) (.var 2)) .nil) (.cons (.setI 0 (.const (.str "seed")) (.call "_law_mix" (.cons (.p2 .add (.p2 .get (.var 0) (.const (.str "seed"))) (.p2 .mod (.p1 .int (.var 2)) (.const (.int (18446744073709551557))))) (.cons (.const (.int (5))) .nil)))) .nil)) .nil))) .nil) (.cons (.ifS (.p2 .gt (.p2 .get (.var 0) (.const (.str "rest"))) (.const (.int (1)))) (.cons (.asg 3 (.p2 .mod (.p1 .int (.p2 .get (.var 0) (.const (.str "rest")))) (.var 1))) (.cons (.setI 0 (.const (.str "rest")) (.p2 .fdiv (.p1 .int (.p2 .get (.var 0) (.const (.str "rest")))) (.var 1))) (.cons (.ret (.var 3)) .nil))) .nil) (.cons (.setI 0 (.const (.str "turn")) (.p2 .add (.p2 .get (.var 0) (.const (.str "turn"))) (.const (.int (1))))) (.cons (.setI 0 (.const (.str "seed")) (.call "_law_mix" (.cons (.p2 .get (.var 0) (.const (.str "seed"))) (.cons (.p2 .get (.var 0) (.const (.str "turn"))) .nil)))) (.cons (.ret (.p2 .mod (.p1 .int (.p2 .fdiv (.p2 .get (.var 0) (.const (.str "seed"))) (.const (.int (65536))))) (.var 1))) .nil))))))⟩
theorem l__law_take : c__law_take.lent = [true, false] := id rfl
def c__law_pick : CFn := ⟨2, [true, false], (.cons (.ret (.p2 .get (.var 1) (.call "_law_take" (.cons (.var 0) (.cons (.p1 .len (.var 1)) .nil))))) .nil)⟩
theorem l__law_pick : c__law_pick.lent = [true, false] := id rfl
def q__law_store_0 : CSs := (.cons (.asg 1 (.call "_law_mix" (.cons (.p2 .add (.var 1) (.p2 .mod (.p1 .int (.var 2)) (.const (.int (18446744073709551557))))) (.cons (.const (.int (3))) .nil)))) .nil)
def c__law_store : CFn := ⟨3, [false], (.cons (.asg 1 (.const (.int (20261119)))) (.cons (.forS (.name 2) (.val (.var 0)) q__law_store_0) (.cons (.ret (.dic [(.inr "cells"), (.inr "at"), (.inr "rest"), (.inr "turn"), (.inr "seed")] (.cons (.p1 .list (.var 0)) (.cons (.const (.int (0))) (.cons (.const (.int (0))) (.cons (.const (.int (0))) (.cons (.var 1) .nil))))))) .nil)))⟩
theorem l__law_store : c__law_store.lent = [false] := id rfl
def q__law_same_0 : CSs := (.cons (.ifS (.orE (.notE (.p1 (.isT .str) (.var 2))) (.orE (.p2 .notIn (.var 2) (.var 1)) (.notE (.call "_law_same" (.cons (.p2 .get (.var 0) (.var 2)) (.cons (.p2 .get (.var 1) (.var 2)) .nil)))))) (.cons (.ret (.const (.bl false))) .nil) .nil) .nil)
def q__law_same_1 : CSs := (.cons (.ifS (.notE (.call "_law_same" (.cons (.p2 .get (.var 0) (.var 3)) (.cons (.p2 .get (.var 1) (.var 3)) .nil)))) (.cons (.ret (.const (.bl false))) .nil) .nil) .nil)
def c__law_same : CFn := ⟨4, [false, false], (.cons (.ifS (.orE (.p1 .isNone (.var 0)) (.p1 .isNone (.var 1))) (.cons (.ret (.andE (.p1 .isNone (.var 0)) (.p1 .isNone (.var 1)))) .nil) .nil) (.cons (.ifS (.orE (.p1 (.isT .bool) (.var 0)) (.p1 (.isT .bool) (.var 1))) (.cons (.ret (.andE (.p1 (.isT .bool) (.var 0)) (.andE (.p1 (.isT .bool) (.var 1)) (.p2 .eq (.var 0) (.var 1))))) .nil) .nil) (.cons (.ifS (.orE (.p1 (.isT .int) (.var 0)) (.p1 (.isT .int) (.var 1))) (.cons (.ret (.andE (.p1 (.isT .int) (.var 0)) (.andE (.p1 (.isT .int) (.var 1)) (.p2 .eq (.var 0) (.var 1))))) .nil) .nil) (.cons (.ifS (.orE (.p1 (.isT .str) (.var 0)) (.p1 (.isT .str) (.var 1))) (.cons (.ret (.andE (.p1 (.isT .str) (.var 0)) (.andE (.p1 (.isT .str) (.var 1)) (.p2 .eq (.var 0) (.var 1))))) .nil) .nil) (.cons (.ifS (.orE (.p1 (.isT .dict) (.var 0)) (.p1 (.isT .dict) (.var 1))) (.cons (.ifS (.orE (.notE (.p1 (.isT .dict) (.var 0))) (.orE (.notE (.p1 (.isT .dict) (.var 1))) (.p2 .ne (.p1 .len (.var 0)) (.p1 .len (.var 1))))) (.cons (.ret (.const (.bl false))) .nil) .nil) (.cons (.forS (.name 2) (.val (.var 0)) q__law_same_0) (.cons (.ret (.const (.bl true))) .nil))) .nil) (.cons (.ifS (.orE (.notE (.p1 (.isT2 .tuple .list) (.var 0))) (.notE (.p1 (.isT2 .tuple .list) (.var 1)))) (.cons (.ret (.const (.bl false))) .nil) .nil) (.cons (.ifS (.orE (.p2 .ne (.p1 (.isT .tuple) (.var 0)) (.p1 (.isT .tuple) (.var 1))) (.p2 .ne (.p1 .len (.var 0)) (.p1 .len (.var 1)))) (.cons (.ret (.const (.bl false))) .nil) .nil) (.cons (.forS (.name 3) (.rng1 (.p1 .len (.var 0))) q__law_same_1) (.cons (.ret (.const (.bl true))) .nil)))))))))⟩
theorem l__law_same : c__law_same.lent = [false, false] := id rfl
section
variable {fns : Str → Option CFn} {globs : Str → Option D} {fuel : Nat}
def mixL (one two : Int) : Int := (one * 6364136223846793005 + two * 1442695040888963407 + 1013904223) % 18446744073709551557
def mixM (one two : Int) : Int := (mixL one two * mixL one two + mixL one two / 2147483648) % 18446744073709551557
def mixF (one two : Int) : Int := (mixM one two / 4294967296 * 3935559000370003845 + mixM one two * 2862933555777941757 + 7) % 18446744073709551533
theorem mix_run (h : fns "_law_mix" = some c__law_mix) (k : Nat) (one two : Int) : run fns globs fuel (k + 1) "_law_mix" [.int one, .int two] = .ok (false, .int (mixF one two), []) := by
  rw [run_succ h]
  unfold c__law_mix
  walk_at "ev"
  rfl
/-! ### the store -/
structure StoreOk (st : D) : Prop where
  ex : ∃ (cs : List Int) (at_ rest turn seed : Int), st = .dic [(.inr "cells", .lst (cs.map .int)), (.inr "at", .int at_), (.inr "rest", .int rest), (.inr "turn", .int turn), (.inr "seed", .int seed)] ∧ 0 ≤ at_
theorem getD_ints {cs : List Int} {i : Int} (h0 : 0 ≤ i) (h1 : i < cs.length) : ∃ c, getD (cs.map D.int) i = some (.int c) := by
  unfold getD ixOf
  rw [List.length_map, if_pos h0, if_pos h1]
  have : i.toNat < cs.length := by omega
  exact ⟨cs[i.toNat], by simp [this]⟩
theorem take_run (hm : fns "_law_mix" = some c__law_mix) (h : fns "_law_take" = some c__law_take) (k : Nat) {st : D} (hs : StoreOk st) {many : Int} (hb : many < 2 ^ 64) :
    ∃ (r : Int) (st' : D), (0 ≤ r ∧ (1 ≤ many → r < many)) ∧ StoreOk st' ∧ run fns globs fuel (k + 2) "_law_take" [st, .int many] = .ok (false, .int r, [.own st']) := by
  obtain ⟨cs, at_, rest, turn, seed, rfl, h0⟩ := hs
  rw [run_succ h]
  unfold c__law_take
  have lm := l__law_mix
  have mx := fun one two => mix_run (globs := globs) (fuel := fuel) hm k one two
  by_cases h1 : many < 2
  · have e1 : decide (many < 2) = true := decide_eq_true h1
    walk_at "evs"
    exact ⟨_, _, ⟨Int.le_refl 0, fun h => by omega⟩, ⟨_, _, _, _, _, rfl, h0⟩, rfl⟩
  · have e1 : decide (many < 2) = false := decide_eq_false h1
    have hp : 0 < many := by omega
    have e0 : (0 < many) = True := eq_true hp
    have e9 : (many < 18446744073709551616) = True := eq_true hb
    have fin : ∀ {x : Int} {st'}, StoreOk st' → ∃ (r : Int) (st'' : D), (0 ≤ r ∧ (1 ≤ many → r < many)) ∧ StoreOk st'' ∧ R.ok (false, D.int (x % many), [Sl.own st']) = R.ok (false, D.int r, [Sl.own st'']) := fun {x st'} hs' =>
      ⟨_, _, ⟨Int.emod_nonneg _ (by omega), fun _ => Int.emod_lt_of_pos _ hp⟩, hs', rfl⟩
    by_cases h2 : rest < 2
    · have e2 : decide (rest < 2) = true := decide_eq_true h2
      by_cases h3 : at_ < cs.length
      · have e3 : decide (at_ < (cs.length : Int)) = true := decide_eq_true h3
        obtain ⟨c, hc⟩ := getD_ints h0 h3
        by_cases h4 : 10 ^ 18 ≤ c
        · have e4 : decide (1000000000000000000 ≤ c) = true := decide_eq_true h4
          have e5 : decide (1 < c) = true := decide_eq_true (by omega)
          walk_at "evs"
          exact fin ⟨_, _, _, _, _, rfl, by omega⟩
        · have e4 : decide (1000000000000000000 ≤ c) = false := decide_eq_false h4
          have e5 : decide (1 < rest) = false := decide_eq_false (by omega)
          walk_at "evs"
          exact fin ⟨_, _, _, _, _, rfl, by omega⟩
      · have e3 : decide (at_ < (cs.length : Int)) = false := decide_eq_false h3
        have e5 : decide (1 < rest) = false := decide_eq_false (by omega)
        walk_at "evs"
        exact fin ⟨_, _, _, _, _, rfl, by omega⟩
    · have e2 : decide (rest < 2) = false := decide_eq_false h2
      have e5 : decide (1 < rest) = true := decide_eq_true (by omega)
      walk_at "evs"
      exact fin ⟨_, _, _, _, _, rfl, by omega⟩
theorem getD_in {l : List D} {i : Int} (h0 : 0 ≤ i) (h1 : i < l.length) : ∃ d, d ∈ l ∧ getD l i = some d := by
  unfold getD ixOf
  rw [if_pos h0, if_pos h1]
  have h : i.toNat < l.length := by omega
  exact ⟨l[i.toNat], List.getElem_mem h, by simp [h]⟩
theorem pick_lst (hm : fns "_law_mix" = some c__law_mix) (ht : fns "_law_take" = some c__law_take) (h : fns "_law_pick" = some c__law_pick) (k : Nat) {st : D} (hs : StoreOk st) {l : List D} (hl : 0 < l.length) (hb : l.length < 2 ^ 60) :
    ∃ (d st' : D), d ∈ l ∧ StoreOk st' ∧ run fns globs fuel (k + 3) "_law_pick" [st, .lst l] = .ok (false, d, [.own st']) := by
  obtain ⟨r, st', ⟨h1, h2⟩, hs', e⟩ := take_run (globs := globs) (fuel := fuel) hm ht k hs (many := (l.length : Int)) (by omega)
  obtain ⟨d, hd, ed⟩ := getD_in (l := l) h1 (h2 (by omega))
  have lt := l__law_take
  rw [run_succ h]
  unfold c__law_pick
  refine ⟨d, st', hd, hs', ?_⟩
  walk_at "evs"
theorem pick_tup (hm : fns "_law_mix" = some c__law_mix) (ht : fns "_law_take" = some c__law_take) (h : fns "_law_pick" = some c__law_pick) (k : Nat) {st : D} (hs : StoreOk st) {l : List D} (hl : 0 < l.length) (hb : l.length < 2 ^ 60) :
    ∃ (d st' : D), d ∈ l ∧ StoreOk st' ∧ run fns globs fuel (k + 3) "_law_pick" [st, .tup l] = .ok (false, d, [.own st']) := by
  obtain ⟨r, st', ⟨h1, h2⟩, hs', e⟩ := take_run (globs := globs) (fuel := fuel) hm ht k hs (many := (l.length : Int)) (by omega)
  obtain ⟨d, hd, ed⟩ := getD_in (l := l) h1 (h2 (by omega))
  have lt := l__law_take
  rw [run_succ h]
  unfold c__law_pick
  refine ⟨d, st', hd, hs', ?_⟩
  walk_at "evs"
theorem store_run (hm : fns "_law_mix" = some c__law_mix) (h : fns "_law_store" = some c__law_store) (k : Nat) (ns : List Int) : ∃ st, StoreOk st ∧ run fns globs fuel (k + 2) "_law_store" [.frz (ns.map .int)] = .ok (true, st, []) := by
  have lm := l__law_mix
  have mx := fun one two => mix_run (globs := globs) (fuel := fuel) hm k one two
  rw [run_succ h]
  unfold c__law_store
  have loop : ∀ (l : List Int) (seed : Int) (y : Sl), ∃ (seed' : Int) (y' : Sl), forL (stepS ⟨fns, globs, fuel, run fns globs fuel (k + 1), runLow fns globs fuel (k + 1)⟩ [false] (.name 2) q__law_store_0) (l.map .int) [.val (.frz (ns.map .int)), .val (.int seed), y] = .ok (.next, [.val (.frz (ns.map .int)), .val (.int seed'), y']) := by
    intro l
    induction l with
    | nil => exact fun seed y => ⟨seed, y, rfl⟩
    | cons n l ih =>
      intro seed y
      obtain ⟨seed', y', e⟩ := ih (mixF (seed + n % 18446744073709551557) 3) (.val (.int n))
      refine ⟨seed', y', ?_⟩
      rw [List.map_cons, forL_cons, stepS_eq]
      unfold q__law_store_0 at *
      walk_at "evs"
  obtain ⟨seed', y', e⟩ := loop ns 20261119 .no
  walk_at "evs"
  exact ⟨_, ⟨_, _, _, _, _, rfl, Int.le_refl 0⟩, rfl⟩
structure Base (fns : Str → Option CFn) : Prop where
  mix : fns "_law_mix" = some c__law_mix
  take : fns "_law_take" = some c__law_take
  pick : fns "_law_pick" = some c__law_pick
  store : fns "_law_store" = some c__law_store
theorem Base.tk (B : Base fns) {K : Nat} (hk : 2 ≤ K) {st : D} (hs : StoreOk st) {many : Int} (hb : many < 2 ^ 64) :
    ∃ (r : Int) (st' : D), (0 ≤ r ∧ (1 ≤ many → r < many)) ∧ StoreOk st' ∧ run fns globs fuel K "_law_take" [st, .int many] = .ok (false, .int r, [.own st']) := by
  obtain ⟨k, rfl⟩ : ∃ k, K = k + 2 := ⟨K - 2, by omega⟩
  exact take_run B.mix B.take k hs hb
theorem Base.pkL (B : Base fns) {K : Nat} (hk : 3 ≤ K) {st : D} (hs : StoreOk st) {l : List D} (hl : 0 < l.length) (hb : l.length < 2 ^ 60) :
    ∃ (d st' : D), d ∈ l ∧ StoreOk st' ∧ run fns globs fuel K "_law_pick" [st, .lst l] = .ok (false, d, [.own st']) := by
  obtain ⟨k, rfl⟩ : ∃ k, K = k + 3 := ⟨K - 3, by omega⟩
  exact pick_lst B.mix B.take B.pick k hs hl hb
theorem Base.pkT (B : Base fns) {K : Nat} (hk : 3 ≤ K) {st : D} (hs : StoreOk st) {l : List D} (hl : 0 < l.length) (hb : l.length < 2 ^ 60) :
    ∃ (d st' : D), d ∈ l ∧ StoreOk st' ∧ run fns globs fuel K "_law_pick" [st, .tup l] = .ok (false, d, [.own st']) := by
  obtain ⟨k, rfl⟩ : ∃ k, K = k + 3 := ⟨K - 3, by omega⟩
  exact pick_tup B.mix B.take B.pick k hs hl hb
theorem Base.st (B : Base fns) {K : Nat} (hk : 2 ≤ K) (ns : List Int) : ∃ st, StoreOk st ∧ run fns globs fuel K "_law_store" [.frz (ns.map .int)] = .ok (true, st, []) := by
  obtain ⟨k, rfl⟩ : ∃ k, K = k + 2 := ⟨K - 2, by omega⟩
  exact store_run B.mix B.store k ns
theorem getD_nat {l : List D} {i : Int} {j : Nat} (h : i = j) (hj : j < l.length) : getD l i = l[j]? := by
  subst h
  unfold getD ixOf
  rw [if_pos (by omega), if_pos (by omega)]; rfl
end
end G

set_option Elab.async false
set_option linter.all false
set_option maxRecDepth 100000
set_option maxHeartbeats 0
/-! G, part 12: plain data: == of them is equality. -/
namespace G
open PySem
mutual
def pl : Nat → D → Bool
  | _, .non => true
  | _, .int _ => true
  | _, .str s => PyData.strOk s
  | 0, .tup _ => false
  | n + 1, .tup l => pls n l
  | _, _ => false
def pls : Nat → List D → Bool
  | _, [] => true
  | n, d :: r => pl n d && pls n r
end
theorem pls_all : ∀ {n : Nat} {l : List D}, pls n l = true ↔ ∀ d, d ∈ l → pl n d = true
  | n, [] => by simp [pls]
  | n, d :: r => by
    have ih := pls_all (n := n) (l := r)
    simp only [pls, Bool.and_eq_true, List.mem_cons, forall_eq_or_imp, ih]
mutual
theorem pl_mono : ∀ {n m : Nat} {d : D}, n ≤ m → pl n d = true → pl m d = true
  | n, m, .non, _, _ => by cases m <;> rfl
  | n, m, .int _, _, _ => by cases m <;> rfl
  | n, m, .str s, _, h => by
    have : PyData.strOk s = true := by cases n <;> exact h
    cases m <;> exact this
  | 0, _, .tup _, _, h => by cases h
  | n + 1, 0, .tup _, h, _ => by omega
  | n + 1, m + 1, .tup l, h, q => pls_mono (n := n) (m := m) (by omega) q
  | n, m, .bl _, _, h => by cases n <;> cases h
  | n, m, .lst _, _, h => by cases n <;> cases h
  | n, m, .frz _, _, h => by cases n <;> cases h
  | n, m, .dic _, _, h => by cases n <;> cases h
  | n, m, .dct _, _, h => by cases n <;> cases h
  | n, m, .obj _ _, _, h => by cases n <;> cases h
theorem pls_mono : ∀ {n m : Nat} {l : List D}, n ≤ m → pls n l = true → pls m l = true
  | _, _, [], _, _ => rfl
  | n, m, d :: r, h, q => by
    have q : (pl n d && pls n r) = true := q
    show (pl m d && pls m r) = true
    rw [Bool.and_eq_true] at q ⊢
    exact ⟨pl_mono h q.1, pls_mono h q.2⟩
end
mutual
theorem pl_pd : ∀ {n : Nat} {d : D}, pl n d = true → ∃ x, toPD d = some x ∧ x.canLay0 = true ∧ x.depth ≤ n
  | n, .non, _ => ⟨.none, rfl, rfl, Nat.zero_le _⟩
  | n, .int i, _ => ⟨.int i, rfl, rfl, Nat.zero_le _⟩
  | n, .str s, h => ⟨.str s, rfl, by cases n <;> exact h, Nat.zero_le _⟩
  | 0, .tup _, h => by cases h
  | n + 1, .tup l, h => by
    obtain ⟨xs, h1, h2, h3⟩ := pls_pd (n := n) (l := l) h
    exact ⟨.tuple xs, by simp only [toPD, h1]; rfl, h2, Nat.succ_le_succ h3⟩
  | n, .bl _, h => by cases n <;> cases h
  | n, .lst _, h => by cases n <;> cases h
  | n, .frz _, h => by cases n <;> cases h
  | n, .dic _, h => by cases n <;> cases h
  | n, .dct _, h => by cases n <;> cases h
  | n, .obj _ _, h => by cases n <;> cases h
theorem pls_pd : ∀ {n : Nat} {l : List D}, pls n l = true → ∃ xs, toPDs l = some xs ∧ PyData.canLayAll0 xs = true ∧ PyData.depthAll xs ≤ n
  | _, [], _ => ⟨[], rfl, rfl, Nat.zero_le _⟩
  | n, d :: r, q => by
    have q : (pl n d && pls n r) = true := q
    rw [Bool.and_eq_true] at q
    obtain ⟨x, h1, h2, h3⟩ := pl_pd q.1
    obtain ⟨xs, g1, g2, g3⟩ := pls_pd q.2
    refine ⟨x :: xs, by simp only [toPDs, h1, g1], ?_, ?_⟩
    · show (x.canLay0 && PyData.canLayAll0 xs) = true
      rw [h2, g2]; rfl
    · show max x.depth (PyData.depthAll xs) ≤ n
      omega
end
mutual
theorem pl_eqv : ∀ {n m : Nat} {d e : D} {x y : PyData}, pl n d = true → pl m e = true → toPD d = some x → toPD e = some y → (PyData.eqv x y = true ↔ d = e)
  | n, m, .tup l, .tup k, x, y, h, g, e1, e2 => by
    cases n with
    | zero => cases h
    | succ n =>
      cases m with
      | zero => cases g
      | succ m =>
        simp only [toPD, Option.map_eq_some_iff] at e1 e2
        obtain ⟨xs, e1, rfl⟩ := e1
        obtain ⟨ys, e2, rfl⟩ := e2
        have := pls_eqv (n := n) (m := m) (l := l) (k := k) h g e1 e2
        show PyData.eqvAll xs ys = true ↔ _
        rw [this]
        exact ⟨fun h => by rw [h], fun h => by cases h; rfl⟩
  | n, m, .non, e, x, y, h, g, e1, e2 => by
    cases e1
    cases e <;> first | (cases m <;> cases g; done) | skip
    · cases e2; exact ⟨fun _ => rfl, fun _ => rfl⟩
    · cases e2; exact ⟨(fun h => nomatch h), (fun h => nomatch h)⟩
    · cases e2; exact ⟨(fun h => nomatch h), (fun h => nomatch h)⟩
    · simp only [toPD, Option.map_eq_some_iff] at e2
      obtain ⟨_, _, rfl⟩ := e2
      exact ⟨(fun h => nomatch h), (fun h => nomatch h)⟩
  | n, m, .int i, e, x, y, h, g, e1, e2 => by
    cases e1
    cases e <;> first | (cases m <;> cases g; done) | skip
    · cases e2; exact ⟨(fun h => nomatch h), (fun h => nomatch h)⟩
    · cases e2
      show (i == _) = true ↔ _
      rw [beq_iff_eq]
      exact ⟨fun h => by rw [h], fun h => by cases h; rfl⟩
    · cases e2; exact ⟨(fun h => nomatch h), (fun h => nomatch h)⟩
    · simp only [toPD, Option.map_eq_some_iff] at e2
      obtain ⟨_, _, rfl⟩ := e2
      exact ⟨(fun h => nomatch h), (fun h => nomatch h)⟩
  | n, m, .str i, e, x, y, h, g, e1, e2 => by
    cases e1
    cases e <;> first | (cases m <;> cases g; done) | skip
    · cases e2; exact ⟨(fun h => nomatch h), (fun h => nomatch h)⟩
    · cases e2; exact ⟨(fun h => nomatch h), (fun h => nomatch h)⟩
    · cases e2
      show (i == _) = true ↔ _
      rw [beq_iff_eq]
      exact ⟨fun h => by rw [h], fun h => by cases h; rfl⟩
    · simp only [toPD, Option.map_eq_some_iff] at e2
      obtain ⟨_, _, rfl⟩ := e2
      exact ⟨(fun h => nomatch h), (fun h => nomatch h)⟩
  | n, m, .tup l, .non, x, y, h, g, e1, e2 => by
    cases e2
    simp only [toPD, Option.map_eq_some_iff] at e1
    obtain ⟨_, _, rfl⟩ := e1
    exact ⟨(fun h => nomatch h), (fun h => nomatch h)⟩
  | n, m, .tup l, .int _, x, y, h, g, e1, e2 => by
    cases e2
    simp only [toPD, Option.map_eq_some_iff] at e1
    obtain ⟨_, _, rfl⟩ := e1
    exact ⟨(fun h => nomatch h), (fun h => nomatch h)⟩
  | n, m, .tup l, .str _, x, y, h, g, e1, e2 => by
    cases e2
    simp only [toPD, Option.map_eq_some_iff] at e1
    obtain ⟨_, _, rfl⟩ := e1
    exact ⟨(fun h => nomatch h), (fun h => nomatch h)⟩
  | n, m, .tup l, .bl _, x, y, h, g, e1, e2 => by cases m <;> cases g
  | n, m, .tup l, .lst _, x, y, h, g, e1, e2 => by cases m <;> cases g
  | n, m, .tup l, .frz _, x, y, h, g, e1, e2 => by cases m <;> cases g
  | n, m, .tup l, .dic _, x, y, h, g, e1, e2 => by cases m <;> cases g
  | n, m, .tup l, .dct _, x, y, h, g, e1, e2 => by cases m <;> cases g
  | n, m, .tup l, .obj _ _, x, y, h, g, e1, e2 => by cases m <;> cases g
  | n, m, .bl _, _, _, _, h, _, _, _ => by cases n <;> cases h
  | n, m, .lst _, _, _, _, h, _, _, _ => by cases n <;> cases h
  | n, m, .frz _, _, _, _, h, _, _, _ => by cases n <;> cases h
  | n, m, .dic _, _, _, _, h, _, _, _ => by cases n <;> cases h
  | n, m, .dct _, _, _, _, h, _, _, _ => by cases n <;> cases h
  | n, m, .obj _ _, _, _, _, h, _, _, _ => by cases n <;> cases h
theorem pls_eqv : ∀ {n m : Nat} {l k : List D} {xs ys : List PyData}, pls n l = true → pls m k = true → toPDs l = some xs → toPDs k = some ys → (PyData.eqvAll xs ys = true ↔ l = k)
  | n, m, [], [], _, _, _, _, e1, e2 => by cases e1; cases e2; exact ⟨fun _ => rfl, fun _ => rfl⟩
  | n, m, [], e :: k, _, ys, _, g, e1, e2 => by
    cases e1
    have g : (pl m e && pls m k) = true := g
    rw [Bool.and_eq_true] at g
    obtain ⟨y, h1, _⟩ := pl_pd g.1
    obtain ⟨ys', h2, _⟩ := pls_pd g.2
    simp only [toPDs, h1, h2] at e2
    cases e2
    exact ⟨(fun h => nomatch h), (fun h => nomatch h)⟩
  | n, m, d :: l, [], xs, _, h, _, e1, e2 => by
    cases e2
    have h : (pl n d && pls n l) = true := h
    rw [Bool.and_eq_true] at h
    obtain ⟨y, h1, _⟩ := pl_pd h.1
    obtain ⟨ys', h2, _⟩ := pls_pd h.2
    simp only [toPDs, h1, h2] at e1
    cases e1
    exact ⟨(fun h => nomatch h), (fun h => nomatch h)⟩
  | n, m, d :: l, e :: k, xs, ys, h, g, e1, e2 => by
    have h : (pl n d && pls n l) = true := h
    have g : (pl m e && pls m k) = true := g
    rw [Bool.and_eq_true] at h g
    obtain ⟨x, h1, _⟩ := pl_pd h.1
    obtain ⟨xs', h2, _⟩ := pls_pd h.2
    obtain ⟨y, g1, _⟩ := pl_pd g.1
    obtain ⟨ys', g2, _⟩ := pls_pd g.2
    simp only [toPDs, h1, h2] at e1
    simp only [toPDs, g1, g2] at e2
    cases e1
    cases e2
    have i1 := pl_eqv h.1 g.1 h1 g1
    have i2 := pls_eqv h.2 g.2 h2 g2
    show (PyData.eqv x y && PyData.eqvAll xs' ys') = true ↔ _
    rw [Bool.and_eq_true, i1, i2]
    exact ⟨fun ⟨a, b⟩ => by rw [a, b], fun h => by cases h; exact ⟨rfl, rfl⟩⟩
end
/-- equality, as a Bool -/
noncomputable def deq {α : Type} (d e : α) : Bool := @decide (d = e) (Classical.propDecidable _)
theorem deq_iff {α : Type} {d e : α} : deq d e = true ↔ d = e := by
  unfold deq
  exact @decide_eq_true_iff (d = e) (Classical.propDecidable _)
theorem deq_no {α : Type} {d e : α} (h : d ≠ e) : deq d e = false := by
  cases q : deq d e with
  | false => rfl
  | true => exact (h (deq_iff.mp q)).elim
theorem deq_self {α : Type} {d : α} : deq d d = true := deq_iff.mpr rfl
theorem deq_comm {α : Type} {d e : α} : deq d e = deq e d := by
  cases q : deq d e with
  | false =>
    refine (deq_no fun h => ?_).symm
    rw [deq_iff.mpr h.symm] at q
    cases q
  | true => exact (deq_iff.mpr (deq_iff.mp q).symm).symm
theorem eqD_pl {n m : Nat} {d e : D} (hn : n ≤ 64) (hm : m ≤ 64) (h : pl n d = true) (g : pl m e = true) : eqD d e = some (deq d e) := by
  obtain ⟨x, h1, h2, h3⟩ := pl_pd h
  obtain ⟨y, g1, g2, g3⟩ := pl_pd g
  have q := pl_eqv h g h1 g1
  unfold eqD
  rw [h1, g1]
  have s1 : SeqAt.shaped x = true := by
    unfold SeqAt.shaped
    rw [h2, decide_eq_true (by omega)]; rfl
  have s2 : SeqAt.shaped y = true := by
    unfold SeqAt.shaped
    rw [g2, decide_eq_true (by omega)]; rfl
  show (if SeqAt.shaped x && SeqAt.shaped y then some (PyData.eqv x y) else none) = _
  rw [s1, s2]
  show some (PyData.eqv x y) = _
  congr 1
  cases z : PyData.eqv x y with
  | true => exact (deq_iff.mpr (q.mp z)).symm
  | false =>
    refine (deq_no fun h => ?_).symm
    rw [q.mpr h] at z
    cases z
theorem eqD_bl {a b : Bool} : eqD (.bl a) (.bl b) = some (a == b) := by
  cases a <;> cases b <;> rfl
theorem eqD_int {i j : Int} : eqD (.int i) (.int j) = some (decide (i = j)) := by
  unfold eqD toPD
  show some (i == j) = _
  congr 1
end G

set_option Elab.async false
set_option linter.all false
set_option maxRecDepth 100000
set_option maxHeartbeats 0
/-! G, part 13: what many laws share: tools for plain data, specs of the common drawing and judging defs. -/
namespace G
open PySem
local macro_rules | `(tactic| walk_at "evh") => `(tactic| simp only [body_eq, e_dicz, ka_dicz, p_idx, pre_idx, p_idxT, pre_idxT, preb_idx, e_glob, e_chain, ka_ch, ka_ch1, ka_ch2, ei_3, ka_i3, ka_i3b, ka_i3c, ei_rev, ka_irev, it_tup, it_lst, it_frz, ei_zip, ka_iz, ka_iz2, zo_tup, zo_lst, p_iaddI, p_isubI, p_sfromT, p_sfromL, p_sliceT, p_sliceL, pre_slice, preb_slice, p_inn, p_notIn, p_addS, p_mulL, stepOf_c, ka_cond, e_const, e_var, e_p1, e_p2, e_p3, e_and, e_or, e_not, e_if, e_tup, e_lst, e_dic, e_call, e_mut, e_comp, e_compIf, es_nil, es_cons, ei_v, ei_e, ei_1, ei_2, ka_p1, ka_p2b, ka_p2, ka_p3c, ka_p3b, ka_p3, ka_and, ka_or, ka_not, ka_if, ka_tup, ka_lst, ka_dic, ka_fin, ka_call, ka_mut, ka_cmp2, ka_cmp, ka_es2, ka_es, ka_iv, ka_ie, ka_i1, ka_i2, ka_i2b, x_pass, x_brk, x_cont, x_retN, x_asg, x_asgT, x_setI, x_expr, x_ret, x_if, x_for, xs_nil, xs_cons, ka_asgF, ka_asgV, ka_asgS, ka_asgT, ka_set, ka_set2, ka_expr, ka_retV, ka_retF, ka_retS, ka_ifS, ka_for, ka_seqN, ka_seqR, ka_seqB, ka_seqC, ka_bodyN, ka_bodyR, ka_stepN, ka_stepC, ka_stepB, ka_stepR, forL_nil, small62_c, getD_0, getD_1, getD_2, getD_4, w_tup, w_lst, w_frz, fa_nil, fa_cons, calm_ok, n_non, n_bl, n_int, n_str, n_tup, n_lst, t_non, t_bl, t_int, t_str, t_tup, t_lst, u_tup, u_lst, u_int, mkDic, List.zip_cons_cons, List.zip_nil_left, List.zip_nil_right, List.foldl_cons, List.foldl_nil, startE, finals, fin_f, fin_b, fin_true, bind_ok, bind_of, ob_some, om_some, ob_none, om_none, store, c_val, c_fresh, cont_slot, f_val, f_fresh, freeze_slot', asB_b, tr_b, p_addI, p_subI, p_mulI, p_fdiv, p_mod, p_pow, p_lt, p_le, p_gt, p_ge, p_eq, p_ne, boolR_s, p_intI, p_getT, p_getL, p_getK, p_lenT, p_lenL, p_lenF, p_tupL, p_tupT, p_lstT, p_lstF, p_addT, p_addL, lookK, keys_ne, eq_self, set_lst, set_dic, putKD, compL_nil, ka_cc, ka_cc2, ka_el, stepOf_n, wipe1, rest1, rngD_len, compOk_1, p_getOr, pre_getOr, preb_getOr, p_max, p_min, p_stoL, p_stoT, p_mulT, m_app, m_popAt, m_ins, Option.getD_some, Option.getD_none, ownX, ownL, callFn, passVals, conts, lentSlots, putBack, isScal, assignT, G.storeAll, retd,
  List.length_cons, List.length_nil, List.replicate, List.cons_append, List.nil_append, List.getElem?_cons_zero, List.getElem?_cons_succ, List.getElem?_nil, List.set_cons_zero, List.set_cons_succ, List.getD_cons_zero, List.getD_cons_succ, List.getD_nil, if_true, if_false, and_self, and_true, true_and, Nat.reduceAdd, Nat.reduceSub, Nat.reduceLT, Nat.reduceLeDiff, Nat.zero_add, reduceIte, Int.reducePow, Int.reduceNeg, Int.reduceLT, Int.reduceLE, decide_true, decide_false, Bool.false_eq_true, small_r, small_mod,
  Sum.inr.injEq, List.any_cons, List.any_nil, List.map_cons, List.map_nil, Bool.or_false, Bool.false_or, Bool.or_true, Bool.true_or, sizeLine_eq, List.nodup_nil, List.nodup_cons, List.not_mem_nil, not_false_eq_true, ne_eq, Option.some.injEq, reduceCtorEq, implies_true, Bool.and_true, Bool.true_and, Bool.and_false, Bool.false_and, List.isEmpty_nil, List.isEmpty_cons, Bool.not_true, Bool.not_false, cast0, cast1, cast2, cast3, cast4, cast5, cast6, Int.reduceSub, Int.reduceAdd, Int.reduceToNat, Int.reduceAbs, natAbs10, natAbs2, List.length_map, ite_self, Nat.reducePow, l__law_mix, l__law_take, l__law_pick, l__law_store, l__law_same, *])
def c__law_size : CFn := ⟨4, [true, false, false], (.cons (.asg 3 (.call "_law_take" (.cons (.var 0) (.cons (.const (.int (16))) .nil)))) (.cons (.ifS (.p2 .eq (.var 3) (.const (.int (0)))) (.cons (.ret (.const (.int (0)))) .nil) .nil) (.cons (.ifS (.p2 .eq (.var 3) (.const (.int (1)))) (.cons (.ret (.var 2)) .nil) .nil) (.cons (.ifS (.p2 .eq (.var 3) (.const (.int (2)))) (.cons (.ret (.call "_law_take" (.cons (.var 0) (.cons (.p2 .add (.var 2) (.const (.int (1)))) .nil)))) .nil) .nil) (.cons (.ret (.p2 .min2 (.var 2) (.p2 .add (.const (.int (1))) (.call "_law_take" (.cons (.var 0) (.cons (.var 1) .nil)))))) .nil)))))⟩
theorem l__law_size : c__law_size.lent = [true, false, false] := id rfl
def q__law_whole_0 : CSs := (.cons (.asg 6 (.const (.int (9)))) (.cons (.ifS (.p2 .ne (.var 2) (.const (.int (2)))) (.cons (.asg 6 (.call "_law_take" (.cons (.var 0) (.cons (.const (.int (10))) .nil)))) .nil) .nil) (.cons (.asg 4 (.p2 .add (.p2 .mul (.var 4) (.const (.int (10)))) (.var 6))) .nil)))
def c__law_whole : CFn := ⟨7, [true, false], (.cons (.asg 2 (.call "_law_take" (.cons (.var 0) (.cons (.const (.int (8))) .nil)))) (.cons (.ifS (.p2 .lt (.var 2) (.const (.int (2)))) (.cons (.ret (.var 2)) .nil) .nil) (.cons (.asg 3 (.var 1)) (.cons (.ifS (.p2 .gt (.var 2) (.const (.int (3)))) (.cons (.asg 3 (.p2 .add (.const (.int (1))) (.call "_law_take" (.cons (.var 0) (.cons (.var 1) .nil))))) .nil) .nil) (.cons (.ifS (.p2 .gt (.var 2) (.const (.int (4)))) (.cons (.asg 3 (.p2 .min2 (.var 1) (.const (.int (2))))) .nil) .nil) (.cons (.asg 4 (.const (.int (0)))) (.cons (.forS (.name 5) (.rng1 (.var 3)) q__law_whole_0) (.cons (.ifS (.p2 .eq (.call "_law_take" (.cons (.var 0) (.cons (.const (.int (3))) .nil))) (.const (.int (0)))) (.cons (.ret (.p2 .sub (.const (.int (0))) (.var 4))) .nil) .nil) (.cons (.ret (.var 4)) .nil)))))))))⟩
theorem l__law_whole : c__law_whole.lent = [true, false] := id rfl
def q__law_name_0 : CSs := (.cons (.asg 5 (.p2 .add (.var 5) (.p2 .get (.var 4) (.call "_law_take" (.cons (.var 0) (.cons (.const (.int (36))) .nil)))))) .nil)
def c__law_name : CFn := ⟨7, [true], (.cons (.asg 1 (.call "_law_take" (.cons (.var 0) (.cons (.const (.int (10))) .nil)))) (.cons (.ifS (.p2 .eq (.var 1) (.const (.int (0)))) (.cons (.asg 2 (.lst (.cons (.const (.str "line")) (.cons (.const (.str "options")) (.cons (.const (.str "rule")) (.cons (.const (.str "piece")) (.cons (.const (.str "after")) (.cons (.const (.str "lay")) (.cons (.const (.str "strike")) (.cons (.const (.str "bare")) (.cons (.const (.str "wrap")) (.cons (.const (.str "arg")) (.cons (.const (.str "not")) (.cons (.const (.str "and")) (.cons (.const (.str "or")) .nil))))))))))))))) (.cons (.asg 2 (.p2 .add (.var 2) (.lst (.cons (.const (.str "one")) (.cons (.const (.str "num")) (.cons (.const (.str "truth")) (.cons (.const (.str "call")) (.cons (.const (.str "inner")) (.cons (.const (.str "if")) (.cons (.const (.str "add")) (.cons (.const (.str "void")) (.cons (.const (.str "leaf")) (.cons (.const (.str "split")) (.cons (.const (.str "more")) (.cons (.const (.str "p1")) .nil))))))))))))))) (.cons (.ret (.call "_law_pick" (.cons (.var 0) (.cons (.p2 .add (.var 2) (.lst (.cons (.const (.str "safe")) (.cons (.const (.str "safe2")) (.cons (.const (.str "seal1")) (.cons (.const (.str "lawful")) (.cons (.const (.str "sound")) (.cons (.const (.str "when")) (.cons (.const (.str "over")) (.cons (.const (.str "edit")) (.cons (.const (.str "at")) .nil))))))))))) .nil)))) .nil))) .nil) (.cons (.ifS (.p2 .lt (.var 1) (.const (.int (5)))) (.cons (.ret (.call "_law_pick" (.cons (.var 0) (.cons (.lst (.cons (.const (.str "a")) (.cons (.const (.str "b")) (.cons (.const (.str "c")) (.cons (.const (.str "p")) (.cons (.const (.str "q")) (.cons (.const (.str "x")) (.cons (.const (.str "y")) (.cons (.const (.str "t")) .nil))))))))) .nil)))) .nil) .nil) (.cons (.asg 3 (.p2 .add (.const (.int (1))) (.call "_law_take" (.cons (.var 0) (.cons (.const (.int (2))) .nil))))) (.cons (.ifS (.p2 .eq (.var 1) (.const (.int (5)))) (.cons (.asg 3 (.const (.int (12)))) .nil) .nil) (.cons (.ifS (.p2 .eq (.var 1) (.const (.int (6)))) (.cons (.asg 3 (.p2 .add (.const (.int (1))) (.call "_law_take" (.cons (.var 0) (.cons (.const (.int (12))) .nil))))) .nil) .nil) (.cons (.asg 4 (.const (.str "abcdefghijklmnopqrstuvwxyz0123456789"))) (.cons (.asg 5 (.p2 .get (.var 4) (.call "_law_take" (.cons (.var 0) (.cons (.const (.int (26))) .nil))))) (.cons (.forS (.name 6) (.rng1 (.p2 .sub (.var 3) (.const (.int (1))))) q__law_name_0) (.cons (.ifS (.p2 .inn (.var 5) (.tup (.cons (.const (.str "yes")) (.cons (.const (.str "no")) (.cons (.const (.str "none")) .nil))))) (.cons (.ret (.p2 .add (.var 5) (.const (.str "x")))) .nil) .nil) (.cons (.ret (.var 5)) .nil)))))))))))⟩
theorem l__law_name : c__law_name.lent = [true] := id rfl
theorem pls_app {n : Nat} : ∀ {u v : List D}, pls n u = true → pls n v = true → pls n (u ++ v) = true
  | [], _, _, h => h
  | d :: u, v, g, h => by
    have g : (G.pl n d && pls n u) = true := g
    rw [Bool.and_eq_true] at g
    show (G.pl n d && pls n (u ++ v)) = true
    rw [g.1, pls_app g.2 h]; rfl
theorem pls_of {n : Nat} {l : List D} (h : ∀ x, x ∈ l → G.pl n x = true) : pls n l = true := pls_all.mpr h
theorem deq_of {α β : Type} {a b : α} {c d : β} (h : a = b ↔ c = d) : deq a b = deq c d := by
  cases q : deq c d with
  | true => exact deq_iff.mpr (h.mpr (deq_iff.mp q))
  | false =>
    refine deq_no fun z => ?_
    rw [deq_iff.mpr (h.mp z)] at q
    cases q
theorem app_self {u v : List D} : (u = u ++ v) ↔ v = [] := by
  constructor
  · intro h
    have := congrArg List.length h
    rw [List.length_append] at this
    exact List.eq_nil_of_length_eq_zero (by omega)
  · intro h; rw [h, List.append_nil]
theorem flat_mem {u : List D} {n : Nat} {Item : D → Prop} (h : ∀ x, x ∈ u → Item x) : ∀ x, x ∈ repD n u → Item x := by
  intro x hx
  unfold repD at hx
  rw [List.mem_flatten] at hx
  obtain ⟨l, hl, hx⟩ := hx
  rw [List.mem_replicate] at hl
  rw [hl.2] at hx
  exact h x hx
theorem flat_len {u : List D} {n : Nat} : (repD n u).length = n * u.length := by
  unfold repD
  induction n with
  | zero => simp
  | succ n ih => rw [List.replicate_succ, List.flatten_cons, List.length_append, ih, Nat.succ_mul]; omega
theorem eqI_t {r : Int} (h : r = 0) : eqD (.int r) (.int 0) = some true := by rw [eqD_int, decide_eq_true h]
theorem eqI_f {r : Int} (h : ¬ r = 0) : eqD (.int r) (.int 0) = some false := by rw [eqD_int, decide_eq_false h]
theorem eq_lnil {u : List D} (h : pls 20 u = true) : eqD (.lst u) (.lst []) = some (deq u []) := by
  obtain ⟨xs, h1, h2, h3⟩ := pls_pd h
  unfold eqD
  have e1 : toPD (.lst u) = some (.list xs) := by simp only [toPD, h1]; rfl
  have e2 : toPD (.lst []) = some (.list []) := rfl
  rw [e1, e2]
  have s1 : SeqAt.shaped (.list xs) = true := by
    unfold SeqAt.shaped
    rw [show PyData.canLay0 (.list xs) = true from h2, decide_eq_true (show PyData.depth (.list xs) ≤ 64 from Nat.le_trans (Nat.succ_le_succ h3) (by decide))]; rfl
  show (if SeqAt.shaped (.list xs) && SeqAt.shaped (.list []) then some (PyData.eqv (.list xs) (.list [])) else none) = _
  rw [s1]
  cases u with
  | nil => cases h1; rw [deq_self]; rfl
  | cons d u =>
    rw [deq_no (show (d :: u) ≠ [] from fun z => nomatch z)]
    cases xs with
    | nil =>
      simp only [toPDs] at h1
      split at h1
      · cases h1
      · cases h1
    | cons x xs => rfl
theorem pls_set {n : Nat} {u : List D} {i : Nat} {x : D} (h : pls n u = true) (hx : G.pl n x = true) : pls n (u.set i x) = true := pls_of fun y hy => by
  rcases List.mem_or_eq_of_mem_set hy with h1 | h1
  · exact pls_all.mp h y h1
  · rw [h1]; exact hx
theorem pls_erase {n : Nat} {u : List D} {i : Nat} (h : pls n u = true) : pls n (u.eraseIdx i) = true := pls_of fun y hy => pls_all.mp h y (List.mem_of_mem_eraseIdx hy)
theorem cut_mem {l : List D} {a b : Option Int} : ∀ x, x ∈ cutL l a b → x ∈ l := fun x hx => List.mem_of_mem_drop (List.mem_of_mem_take hx)
theorem cut_len {l : List D} {a b : Option Int} : (cutL l a b).length ≤ l.length := by
  unfold cutL
  rw [List.length_take, List.length_drop]
  omega
theorem cut_len2 {l : List D} {i : Int} (h : 0 ≤ i) : (cutL l none (some i)).length ≤ i.toNat := by
  unfold cutL
  rw [List.length_take, List.length_drop]
  have : HT.sIx l.length l.length (some i) ≤ i.toNat := by
    unfold HT.sIx
    simp only
    split <;> omega
  omega
theorem pl_str {n : Nat} {s : Str} (h : PyData.strOk s = true) : pl n (.str s) = true := by cases n <;> exact h
theorem eqD_str {s t : Str} (h : PyData.strOk s = true) (g : PyData.strOk t = true) : eqD (.str s) (.str t) = some (deq s t) := by
  rw [eqD_pl (n := 0) (m := 0) (by decide) (by decide) (pl_str h) (pl_str g)]
  congr 1
  exact deq_of ⟨fun h => by injection h, fun h => by rw [h]⟩
/-! ### sameness -/
mutual
def sm : Nat → D → Bool
  | _, .non => true
  | _, .bl _ => true
  | _, .int _ => true
  | _, .str s => PyData.strOk s
  | 0, .tup _ => false
  | n + 1, .tup l => decide (l.length ≤ 16777216) && sms n l
  | 0, .lst _ => false
  | n + 1, .lst l => decide (l.length ≤ 16777216) && sms n l
  | _, _ => false
def sms : Nat → List D → Bool
  | _, [] => true
  | n, d :: r => sm n d && sms n r
end
theorem sms_all : ∀ {n : Nat} {l : List D}, sms n l = true ↔ ∀ d, d ∈ l → sm n d = true
  | n, [] => by simp [sms]
  | n, d :: r => by
    have ih := sms_all (n := n) (l := r)
    simp only [sms, Bool.and_eq_true, List.mem_cons, forall_eq_or_imp, ih]
theorem sm_tup {n : Nat} {l : List D} : sm (n + 1) (.tup l) = true ↔ l.length ≤ 16777216 ∧ ∀ d, d ∈ l → sm n d = true := by
  show (decide (l.length ≤ 16777216) && sms n l) = true ↔ _
  rw [Bool.and_eq_true, decide_eq_true_eq, sms_all]
theorem sm_lst {n : Nat} {l : List D} : sm (n + 1) (.lst l) = true ↔ l.length ≤ 16777216 ∧ ∀ d, d ∈ l → sm n d = true := by
  show (decide (l.length ≤ 16777216) && sms n l) = true ↔ _
  rw [Bool.and_eq_true, decide_eq_true_eq, sms_all]
theorem deq_get {l m : List D} {k : Nat} {d d' : D} (h : l[k]? = some d) (g : m[k]? = some d') : deq l[k]? m[k]? = deq d d' := by
  rw [h, g]
  exact deq_of ⟨fun h => by injection h, fun h => by rw [h]⟩
theorem deq_range {l m : List D} (h : l.length = m.length) : (List.range l.length).all (fun k => deq l[k]? m[k]?) = deq l m := by
  cases q : deq l m with
  | true =>
    rw [deq_iff.mp q, List.all_eq_true]
    exact fun k _ => deq_self
  | false =>
    cases z : (List.range l.length).all (fun k => deq l[k]? m[k]?) with
    | false => rfl
    | true =>
      rw [List.all_eq_true] at z
      have : l = m := by
        apply List.ext_getElem?
        intro i
        by_cases hi : i < l.length
        · exact deq_iff.mp (z i (List.mem_range.mpr hi))
        · rw [List.getElem?_eq_none (by omega), List.getElem?_eq_none (by omega)]
      rw [deq_iff.mpr this] at q
      cases q
theorem getD_k {l : List D} {k : Nat} (h : k < l.length) : ∃ d, l[k]? = some d ∧ getD l (0 + (k : Int)) = some d := by
  refine ⟨l[k], by simp [h], ?_⟩
  rw [getD_nat (j := k) (by rw [Int.zero_add]) h]
  simp [h]
section
variable {fns : Str → Option CFn} {globs : Str → Option D} {fuel : Nat}
theorem same_loop {K : Nat} {d e : D} {l m : List D} (hd : d = .tup l ∨ d = .lst l) (he : e = .tup m ∨ e = .lst m)
    (rec : ∀ a, a ∈ l → ∀ b, b ∈ m → run fns globs fuel K "_law_same" [a, b] = .ok (false, .bl (deq a b), [])) (h : fns "_law_same" = some c__law_same) (z : Sl) : ∀ (is : List Nat), (∀ k, k ∈ is → k < l.length ∧ k < m.length) → ∀ (y : Sl), ∃ y',
    forL (stepS ⟨fns, globs, fuel, run fns globs fuel K, runLow fns globs fuel K⟩ [false, false] (.name 3) q__law_same_1) (is.map fun (k : Nat) => D.int (0 + (k : Int))) [.val d, .val e, z, y] =
      .ok (if is.all (fun k => deq l[k]? m[k]?) then .next else .ret false (.bl false), [.val d, .val e, z, y']) := by
  intro is
  induction is with
  | nil => exact fun _ y => ⟨y, rfl⟩
  | cons k is ih =>
    intro hk y
    obtain ⟨k1, k2⟩ := hk k List.mem_cons_self
    obtain ⟨a, ea, e1⟩ := getD_k k1
    obtain ⟨b, eb, e2⟩ := getD_k k2
    obtain ⟨y', e⟩ := ih (fun j hj => hk j (List.mem_cons_of_mem _ hj)) (.val (.int (0 + (k : Int))))
    have e3 := rec a (List.mem_of_getElem? ea) b (List.mem_of_getElem? eb)
    rw [List.map_cons, forL_cons, stepS_eq, List.all_cons, deq_get ea eb]
    clear rec ih hk
    unfold q__law_same_1 at e ⊢
    cases q : deq a b with
    | true =>
      rw [q] at e3
      refine ⟨y', ?_⟩
      rcases hd with rfl | rfl <;> rcases he with rfl | rfl <;> walk_at "evh"
    | false =>
      rw [q] at e3
      refine ⟨.val (.int (0 + (k : Int))), ?_⟩
      rcases hd with rfl | rfl <;> rcases he with rfl | rfl <;> walk_at "evh"
theorem same_row {K : Nat} {d e : D} {l m : List D} (hde : (d = .tup l ∧ e = .tup m) ∨ (d = .lst l ∧ e = .lst m)) (hl : l.length ≤ 16777216)
    (rec : ∀ a, a ∈ l → ∀ b, b ∈ m → run fns globs fuel K "_law_same" [a, b] = .ok (false, .bl (deq a b), [])) (h : fns "_law_same" = some c__law_same) :
    run fns globs fuel (K + 1) "_law_same" [d, e] = .ok (false, .bl (deq l m), []) := by
  rw [run_succ h]
  unfold c__law_same
  by_cases hlm : l.length = m.length
  · have d1 : eqD (.int (l.length : Int)) (.int (m.length : Int)) = some true := by rw [eqD_int, decide_eq_true (by omega)]
    obtain ⟨y', e5⟩ := same_loop (K := K) (d := d) (e := e) (by rcases hde with ⟨h, _⟩ | ⟨h, _⟩; exact .inl h; exact .inr h) (by rcases hde with ⟨_, h⟩ | ⟨_, h⟩; exact .inl h; exact .inr h) rec h .no (List.range l.length) (fun k hk => by have := List.mem_range.mp hk; omega) .no
    rw [deq_range hlm] at e5
    have e6 : rngD 0 l.length = (List.range l.length).map fun (k : Nat) => D.int (0 + (k : Int)) := rfl
    have b1 : small62 (l.length : Int) = true := small62_c (by omega) (by omega)
    have b3 : ((l.length : Int)).toNat = l.length := by omega
    have b4 : (l.length ≤ 16777216) = True := eq_true hl
    have bb : eqD (.bl true) (.bl true) = some true := by rw [eqD_bl]; rfl
    have bf : eqD (.bl false) (.bl false) = some true := by rw [eqD_bl]; rfl
    clear rec hlm hl
    cases q : deq l m with
    | true =>
      rw [q] at e5
      rcases hde with ⟨rfl, rfl⟩ | ⟨rfl, rfl⟩ <;> walk_at "evh"
    | false =>
      rw [q] at e5
      rcases hde with ⟨rfl, rfl⟩ | ⟨rfl, rfl⟩ <;> walk_at "evh"
  · have d1 : eqD (.int (l.length : Int)) (.int (m.length : Int)) = some false := by rw [eqD_int, decide_eq_false (by omega)]
    have bb : eqD (.bl true) (.bl true) = some true := by rw [eqD_bl]; rfl
    have bf : eqD (.bl false) (.bl false) = some true := by rw [eqD_bl]; rfl
    rw [deq_no (show l ≠ m from fun h => hlm (by rw [h]))]
    clear rec hlm hl
    rcases hde with ⟨rfl, rfl⟩ | ⟨rfl, rfl⟩ <;> walk_at "evh"
end
section
variable {fns : Str → Option CFn} {globs : Str → Option D} {fuel : Nat}
theorem same_other {K : Nat} {d e : D} {n m : Nat} (hd : sm n d = true) (he : sm m e = true) (h1 : ∀ l k, ¬ (d = .tup l ∧ e = .tup k)) (h2 : ∀ l k, ¬ (d = .lst l ∧ e = .lst k)) (h : fns "_law_same" = some c__law_same) :
    run fns globs fuel (K + 1) "_law_same" [d, e] = .ok (false, .bl (deq d e), []) := by
  rw [run_succ h]
  unfold c__law_same
  have bt : eqD (.bl true) (.bl true) = some true := by rw [eqD_bl]; rfl
  have bf : eqD (.bl false) (.bl false) = some true := by rw [eqD_bl]; rfl
  have tf : eqD (.bl true) (.bl false) = some false := by rw [eqD_bl]; rfl
  have ft : eqD (.bl false) (.bl true) = some false := by rw [eqD_bl]; rfl
  cases d with
  | frz l => cases n <;> cases hd
  | dic l => cases n <;> cases hd
  | dct l => cases n <;> cases hd
  | obj c l => cases n <;> cases hd
  | non =>
    cases e with
    | frz l => cases m <;> cases he
    | dic l => cases m <;> cases he
    | dct l => cases m <;> cases he
    | obj c l => cases m <;> cases he
    | non => rw [deq_self]; walk_at "evh"
    | bl b => rw [deq_no (show D.non ≠ D.bl b from fun h => nomatch h)]; walk_at "evh"
    | int b => rw [deq_no (show D.non ≠ D.int b from fun h => nomatch h)]; walk_at "evh"
    | str b => rw [deq_no (show D.non ≠ D.str b from fun h => nomatch h)]; walk_at "evh"
    | tup b => rw [deq_no (show D.non ≠ D.tup b from fun h => nomatch h)]; walk_at "evh"
    | lst b => rw [deq_no (show D.non ≠ D.lst b from fun h => nomatch h)]; walk_at "evh"
  | bl a =>
    cases e with
    | frz l => cases m <;> cases he
    | dic l => cases m <;> cases he
    | dct l => cases m <;> cases he
    | obj c l => cases m <;> cases he
    | bl b =>
      cases a <;> cases b
      · rw [deq_self]; walk_at "evh"
      · rw [deq_no (show D.bl false ≠ D.bl true from fun h => nomatch h)]; walk_at "evh"
      · rw [deq_no (show D.bl true ≠ D.bl false from fun h => nomatch h)]; walk_at "evh"
      · rw [deq_self]; walk_at "evh"
    | non => rw [deq_no (show D.bl a ≠ D.non from fun h => nomatch h)]; walk_at "evh"
    | int b => rw [deq_no (show D.bl a ≠ D.int b from fun h => nomatch h)]; walk_at "evh"
    | str b => rw [deq_no (show D.bl a ≠ D.str b from fun h => nomatch h)]; walk_at "evh"
    | tup b => rw [deq_no (show D.bl a ≠ D.tup b from fun h => nomatch h)]; walk_at "evh"
    | lst b => rw [deq_no (show D.bl a ≠ D.lst b from fun h => nomatch h)]; walk_at "evh"
  | int a =>
    cases e with
    | frz l => cases m <;> cases he
    | dic l => cases m <;> cases he
    | dct l => cases m <;> cases he
    | obj c l => cases m <;> cases he
    | int b =>
      have e3 := eqD_pl (n := 0) (m := 0) (d := .int a) (e := .int b) (by decide) (by decide) rfl rfl
      walk_at "evh"
    | non => rw [deq_no (show D.int a ≠ D.non from fun h => nomatch h)]; walk_at "evh"
    | bl b => rw [deq_no (show D.int a ≠ D.bl b from fun h => nomatch h)]; walk_at "evh"
    | str b => rw [deq_no (show D.int a ≠ D.str b from fun h => nomatch h)]; walk_at "evh"
    | tup b => rw [deq_no (show D.int a ≠ D.tup b from fun h => nomatch h)]; walk_at "evh"
    | lst b => rw [deq_no (show D.int a ≠ D.lst b from fun h => nomatch h)]; walk_at "evh"
  | str a =>
    have oa : PyData.strOk a = true := by cases n <;> exact hd
    cases e with
    | frz l => cases m <;> cases he
    | dic l => cases m <;> cases he
    | dct l => cases m <;> cases he
    | obj c l => cases m <;> cases he
    | str b =>
      have ob : PyData.strOk b = true := by cases m <;> exact he
      have e3 := eqD_pl (n := 0) (m := 0) (d := .str a) (e := .str b) (by decide) (by decide) oa ob
      walk_at "evh"
    | non => rw [deq_no (show D.str a ≠ D.non from fun h => nomatch h)]; walk_at "evh"
    | bl b => rw [deq_no (show D.str a ≠ D.bl b from fun h => nomatch h)]; walk_at "evh"
    | int b => rw [deq_no (show D.str a ≠ D.int b from fun h => nomatch h)]; walk_at "evh"
    | tup b => rw [deq_no (show D.str a ≠ D.tup b from fun h => nomatch h)]; walk_at "evh"
    | lst b => rw [deq_no (show D.str a ≠ D.lst b from fun h => nomatch h)]; walk_at "evh"
  | tup a =>
    cases e with
    | frz l => cases m <;> cases he
    | dic l => cases m <;> cases he
    | dct l => cases m <;> cases he
    | obj c l => cases m <;> cases he
    | tup b => exact (h1 a b ⟨rfl, rfl⟩).elim
    | non => rw [deq_no (show D.tup a ≠ D.non from fun h => nomatch h)]; walk_at "evh"
    | bl b => rw [deq_no (show D.tup a ≠ D.bl b from fun h => nomatch h)]; walk_at "evh"
    | int b => rw [deq_no (show D.tup a ≠ D.int b from fun h => nomatch h)]; walk_at "evh"
    | str b => rw [deq_no (show D.tup a ≠ D.str b from fun h => nomatch h)]; walk_at "evh"
    | lst b => rw [deq_no (show D.tup a ≠ D.lst b from fun h => nomatch h)]; walk_at "evh"
  | lst a =>
    cases e with
    | frz l => cases m <;> cases he
    | dic l => cases m <;> cases he
    | dct l => cases m <;> cases he
    | obj c l => cases m <;> cases he
    | lst b => exact (h2 a b ⟨rfl, rfl⟩).elim
    | non => rw [deq_no (show D.lst a ≠ D.non from fun h => nomatch h)]; walk_at "evh"
    | bl b => rw [deq_no (show D.lst a ≠ D.bl b from fun h => nomatch h)]; walk_at "evh"
    | int b => rw [deq_no (show D.lst a ≠ D.int b from fun h => nomatch h)]; walk_at "evh"
    | str b => rw [deq_no (show D.lst a ≠ D.str b from fun h => nomatch h)]; walk_at "evh"
    | tup b => rw [deq_no (show D.lst a ≠ D.tup b from fun h => nomatch h)]; walk_at "evh"
/-- the judge of sameness tells equality -/
theorem same_run (h : fns "_law_same" = some c__law_same) : ∀ (n : Nat) {d e : D} {m K : Nat}, sm n d = true → sm m e = true → n + 1 ≤ K → run fns globs fuel K "_law_same" [d, e] = .ok (false, .bl (deq d e), []) := by
  intro n
  induction n with
  | zero =>
    intro d e m K hd he hk
    obtain ⟨K, rfl⟩ : ∃ k, K = k + 1 := ⟨K - 1, by omega⟩
    exact same_other hd he (fun l k z => by rw [z.1] at hd; cases hd) (fun l k z => by rw [z.1] at hd; cases hd) h
  | succ n ih =>
    intro d e m K hd he hk
    obtain ⟨K, rfl⟩ : ∃ k, K = k + 1 := ⟨K - 1, by omega⟩
    by_cases h1 : ∃ l k, d = .tup l ∧ e = .tup k
    · obtain ⟨l, k, rfl, rfl⟩ := h1
      cases m with
      | zero => cases he
      | succ m =>
        have h1 := sm_tup.mp hd
        have h2 := sm_tup.mp he
        rw [same_row (.inl ⟨rfl, rfl⟩) h1.1 (fun a ha b hb => ih (h1.2 a ha) (h2.2 b hb) (by omega)) h]
        rw [deq_of (show (l = k) ↔ (D.tup l = D.tup k) from ⟨fun h => by rw [h], fun h => by injection h⟩)]
    · by_cases h2 : ∃ l k, d = .lst l ∧ e = .lst k
      · obtain ⟨l, k, rfl, rfl⟩ := h2
        cases m with
        | zero => cases he
        | succ m =>
          have h1 := sm_lst.mp hd
          have h2 := sm_lst.mp he
          rw [same_row (.inr ⟨rfl, rfl⟩) h1.1 (fun a ha b hb => ih (h1.2 a ha) (h2.2 b hb) (by omega)) h]
          rw [deq_of (show (l = k) ↔ (D.lst l = D.lst k) from ⟨fun h => by rw [h], fun h => by injection h⟩)]
      · exact same_other hd he (fun l k z => h1 ⟨l, k, z⟩) (fun l k z => h2 ⟨l, k, z⟩) h
/-! ### counts -/
theorem size_run (B : Base fns) (h : fns "_law_size" = some c__law_size) {K : Nat} (hk : 3 ≤ K) {st : D} (hs : StoreOk st) {usual most : Int} (u1 : 1 ≤ usual) (u2 : usual < 2 ^ 60) (m1 : 0 ≤ most) (m2 : most < 2 ^ 60) :
    ∃ (r : Int) (st' : D), (0 ≤ r ∧ r ≤ most) ∧ StoreOk st' ∧ run fns globs fuel K "_law_size" [st, .int usual, .int most] = .ok (false, .int r, [.own st']) := by
  obtain ⟨K, rfl⟩ : ∃ k, K = k + 1 := ⟨K - 1, by omega⟩
  obtain ⟨w, s1, hw, h1, e1⟩ := B.tk (globs := globs) (fuel := fuel) (K := K) (by omega) hs (many := 16) (by decide)
  have ls := l__law_size
  have bt := B.take
  clear hw
  rw [run_succ h]
  unfold c__law_size
  by_cases w0 : w = 0
  · subst w0
    have q0 := eqI_t (r := 0) rfl
    refine ⟨0, s1, ⟨Int.le_refl 0, m1⟩, h1, ?_⟩
    walk_at "evh"
  · have q0 := eqI_f w0
    by_cases w1 : w = 1
    · subst w1
      have q1 : eqD (.int 1) (.int 1) = some true := by rw [eqD_int]; rfl
      refine ⟨most, s1, ⟨m1, Int.le_refl _⟩, h1, ?_⟩
      walk_at "evh"
    · have q1 : eqD (.int w) (.int 1) = some false := by rw [eqD_int, decide_eq_false w1]
      by_cases w2 : w = 2
      · subst w2
        have q2 : eqD (.int 2) (.int 2) = some true := by rw [eqD_int]; rfl
        obtain ⟨r, s2, hr, h2, e2⟩ := B.tk (globs := globs) (fuel := fuel) (K := K) (by omega) h1 (many := most + 1) (by omega)
        refine ⟨r, s2, ⟨hr.1, by have := hr.2 (by omega); omega⟩, h2, ?_⟩
        walk_at "evh"
      · have q2 : eqD (.int w) (.int 2) = some false := by rw [eqD_int, decide_eq_false w2]
        obtain ⟨r, s2, hr, h2, e2⟩ := B.tk (globs := globs) (fuel := fuel) (K := K) (by omega) h1 (many := usual) (by omega)
        refine ⟨if 1 + r < most then 1 + r else most, s2, ⟨by split <;> omega, by split <;> omega⟩, h2, ?_⟩
        clear hr
        walk_at "evh"
theorem whole_loop (B : Base fns) {K : Nat} (hk : 2 ≤ K) (fig way many : Int) (q2 : ∃ b, eqD (.int way) (.int 2) = some b) : ∀ (n : Nat) (o : Nat) {st : D} (hs : StoreOk st) (v : Int) (hv : 0 ≤ v ∧ v < 10 ^ o) (y z : Sl), ∃ (st' : D) (v' : Int) (y' z' : Sl), StoreOk st' ∧ (0 ≤ v' ∧ v' < 10 ^ (o + n)) ∧
    forL (stepS ⟨fns, globs, fuel, run fns globs fuel K, runLow fns globs fuel K⟩ [true, false] (.name 5) q__law_whole_0) ((List.range' o n).map fun (k : Nat) => D.int (0 + (k : Int))) [.own st, .val (.int fig), .val (.int way), .val (.int many), .val (.int v), y, z] =
      .ok (.next, [.own st', .val (.int fig), .val (.int way), .val (.int many), .val (.int v'), y', z']) := by
  intro n
  obtain ⟨b, q2⟩ := q2
  induction n with
  | zero => exact fun o st hs v hv y z => ⟨st, v, y, z, hs, hv, rfl⟩
  | succ n ih =>
    intro o st hs v hv y z
    have lt := l__law_take
    have bt := B.take
    rw [List.range'_succ, List.map_cons, forL_cons, stepS_eq]
    have p10 : (10 : Int) ^ (o + 1) = 10 ^ o * 10 := Int.pow_succ 10 o
    cases b with
    | true =>
      obtain ⟨st', v', y', z', h1, h2, e⟩ := ih (o + 1) hs (v * 10 + 9) ⟨by omega, by omega⟩ (.val (.int (0 + (o : Int)))) (.val (.int 9))
      refine ⟨st', v', y', z', h1, by rw [show o + (n + 1) = o + 1 + n by omega]; exact h2, ?_⟩
      clear ih h2 hv p10
      unfold q__law_whole_0 at e ⊢
      walk_at "evh"
    | false =>
      obtain ⟨r, s1, hr, g1, e1⟩ := B.tk (globs := globs) (fuel := fuel) (K := K) hk hs (many := 10) (by decide)
      have hr2 := hr.2 (by decide)
      obtain ⟨st', v', y', z', h1, h2, e⟩ := ih (o + 1) g1 (v * 10 + r) ⟨by omega, by omega⟩ (.val (.int (0 + (o : Int)))) (.val (.int r))
      refine ⟨st', v', y', z', h1, by rw [show o + (n + 1) = o + 1 + n by omega]; exact h2, ?_⟩
      clear ih h2 hv p10 hr hr2
      unfold q__law_whole_0 at e ⊢
      walk_at "evh"
theorem whole_run (B : Base fns) (h : fns "_law_whole" = some c__law_whole) {K : Nat} (hk : 3 ≤ K) {st : D} (hs : StoreOk st) {fig : Int} (f1 : 1 ≤ fig) (f2 : fig ≤ 900) :
    ∃ (r : Int) (st' : D), r.natAbs < 10 ^ fig.toNat ∧ StoreOk st' ∧ run fns globs fuel K "_law_whole" [st, .int fig] = .ok (false, .int r, [.own st']) := by
  obtain ⟨K, rfl⟩ : ∃ k, K = k + 1 := ⟨K - 1, by omega⟩
  obtain ⟨w, s1, hw, h1, e1⟩ := B.tk (globs := globs) (fuel := fuel) (K := K) (by omega) hs (many := 8) (by decide)
  have ls := l__law_whole
  have bt := B.take
  have lt := l__law_take
  have p1 : 10 ^ 1 ≤ 10 ^ fig.toNat := Nat.pow_le_pow_right (by decide) (by omega)
  by_cases w2 : w < 2
  · have d2 : decide (w < 2) = true := decide_eq_true w2
    refine ⟨w, s1, by omega, h1, ?_⟩
    rw [run_succ h]
    unfold c__law_whole
    walk_at "evh"
  · have d2 : decide (w < 2) = false := decide_eq_false w2
    -- the tail behind the choice of the number of figures
    have tail : ∀ {s2 : D} (h2 : StoreOk s2) (many : Int) (m1 : 0 ≤ many) (m2 : many ≤ fig), ∃ (r : Int) (st' : D), r.natAbs < 10 ^ fig.toNat ∧ StoreOk st' ∧
        ∃ (v : Int) (s3 : D) (y z : Sl) (b : Bool) (t : Int), forL (stepS ⟨fns, globs, fuel, run fns globs fuel K, runLow fns globs fuel K⟩ [true, false] (.name 5) q__law_whole_0) (rngD 0 many.toNat) [.own s2, .val (.int fig), .val (.int w), .val (.int many), .val (.int 0), .no, .no] =
          .ok (.next, [.own s3, .val (.int fig), .val (.int w), .val (.int many), .val (.int v), y, z]) ∧
          run fns globs fuel K "_law_take" [s3, .int 3] = .ok (false, .int t, [.own st']) ∧ eqD (.int t) (.int 0) = some b ∧ r = (if b = true then 0 - v else v) := by
      intro s2 h2 many m1 m2
      obtain ⟨s3, v, y, z, h3, hv, e⟩ := whole_loop (globs := globs) (fuel := fuel) B (K := K) (by omega) fig w many ⟨_, eqD_int⟩ many.toNat 0 h2 0 (by decide) .no .no
      obtain ⟨t, s4, ht, h4, e4⟩ := B.tk (globs := globs) (fuel := fuel) (K := K) (by omega) h3 (many := 3) (by decide)
      have hp : 10 ^ many.toNat ≤ 10 ^ fig.toNat := Nat.pow_le_pow_right (by decide) (by omega)
      have hv2 : v < ((10 ^ many.toNat : Nat) : Int) := by rw [Nat.zero_add] at hv; exact_mod_cast hv.2
      have hv1 := hv.1
      refine ⟨if decide (t = 0) = true then 0 - v else v, s4, ?_, h4, v, s3, y, z, decide (t = 0), t, ?_, e4, eqD_int, rfl⟩
      · split <;> omega
      · rw [← List.range_eq_range'] at e
        exact e
    by_cases w3 : 3 < w
    · have d3 : decide (3 < w) = true := decide_eq_true w3
      obtain ⟨m, s2, hm, h2, e2⟩ := B.tk (globs := globs) (fuel := fuel) (K := K) (by omega) h1 (many := fig) (by omega)
      have hm2 := hm.2 (by omega)
      by_cases w4 : 4 < w
      · have d4 : decide (4 < w) = true := decide_eq_true w4
        obtain ⟨r, st', hr, hst, v, s3, y, z, b, t, e3, e4, e5, rfl⟩ := tail h2 (if 2 < fig then 2 else fig) (by split <;> omega) (by split <;> omega)
        refine ⟨_, st', hr, hst, ?_⟩
        have sm : small62 (if 2 < fig then 2 else fig) = true := by split <;> exact small62_c (by omega) (by omega)
        have tn : ((if 2 < fig then (2 : Int) else fig).toNat ≤ 16777216) = True := eq_true (by split <;> omega)
        rw [run_succ h]
        unfold c__law_whole
        clear hr tail hm hm2 hw
        cases b <;> walk_at "evh"
      · have d4 : decide (4 < w) = false := decide_eq_false w4
        obtain ⟨r, st', hr, hst, v, s3, y, z, b, t, e3, e4, e5, rfl⟩ := tail h2 (1 + m) (by omega) (by omega)
        refine ⟨_, st', hr, hst, ?_⟩
        have sm : small62 (1 + m) = true := small62_c (by omega) (by omega)
        have tn : ((1 + m).toNat ≤ 16777216) = True := eq_true (by omega)
        rw [run_succ h]
        unfold c__law_whole
        clear hr tail hm hm2 hw
        cases b <;> walk_at "evh"
    · have d3 : decide (3 < w) = false := decide_eq_false w3
      have d4 : decide (4 < w) = false := decide_eq_false (by omega)
      obtain ⟨r, st', hr, hst, v, s3, y, z, b, t, e3, e4, e5, rfl⟩ := tail h1 fig (by omega) (by omega)
      refine ⟨_, st', hr, hst, ?_⟩
      have sm : small62 fig = true := small62_c (by omega) (by omega)
      have tn : (fig.toNat ≤ 16777216) = True := eq_true (by omega)
      rw [run_succ h]
      unfold c__law_whole
      clear hr tail hw
      cases b <;> walk_at "evh"
end
/-! ### names -/
def lowB (c : Nat) : Bool := decide (97 ≤ c) && decide (c ≤ 122)
def digB (c : Nat) : Bool := decide (48 ≤ c) && decide (c ≤ 57)
def nameL : List Nat → Bool
  | [] => false
  | c :: l => lowB c && l.all (fun x => lowB x || digB x) && decide (l.length ≤ 11)
def nameB (s : Str) : Bool := nameL s.cps.toList && !(decide (s = "yes")) && !(decide (s = "no")) && !(decide (s = "none"))
theorem lowB_lt {c : Nat} (h : lowB c = true) : c < 128 := by
  simp only [lowB, Bool.and_eq_true, decide_eq_true_eq] at h
  omega
theorem digB_lt {c : Nat} (h : digB c = true) : c < 128 := by
  simp only [digB, Bool.and_eq_true, decide_eq_true_eq] at h
  omega
theorem nameL_ok {s : Str} (h : nameL s.cps.toList = true) : PyData.strOk s = true := by
  have key : ∀ x ∈ s.cps.toList, x < 0x110000 := by
    intro x hx
    cases e : s.cps.toList with
    | nil => rw [e] at hx; cases hx
    | cons c l =>
      rw [e] at h hx
      simp only [nameL, Bool.and_eq_true, List.all_eq_true, Bool.or_eq_true] at h
      rcases List.mem_cons.mp hx with rfl | hx
      · have := lowB_lt h.1.1; omega
      · rcases h.1.2 x hx with h | h
        · have := lowB_lt h; omega
        · have := digB_lt h; omega
  show (s.cps.all (· < 0x110000)) = true
  rw [Array.all_eq_true']
  intro x hx
  exact decide_eq_true (key x (Array.mem_toList_iff.mpr hx))
theorem nameB_ok {s : Str} (h : nameB s = true) : PyData.strOk s = true := by
  simp only [nameB, Bool.and_eq_true] at h
  exact nameL_ok h.1.1.1
def signs : Str := "abcdefghijklmnopqrstuvwxyz0123456789"
theorem signs_get {r : Int} (h0 : 0 ≤ r) (h : r < 36) : ∃ c, prim2 .get (.str "abcdefghijklmnopqrstuvwxyz0123456789") (.int r) = some (.val (.str ⟨#[c]⟩)) ∧ (lowB c || digB c) = true ∧ (r < 26 → lowB c = true) := by
  have hl : signs.cps.toList.length = 36 := by decide +kernel
  have hs : signs.length = 36 := by decide +kernel
  have hj : r.toNat < signs.cps.toList.length := by omega
  have all : ∀ j : Fin 36, (match signs.cps.toList[j.val]? with | some c => (lowB c || digB c) && (lowB c || decide (26 ≤ j.val)) | none => false) = true := by decide +kernel
  have a := all ⟨r.toNat, by omega⟩
  have g : signs.cps.toList[r.toNat]? = some signs.cps.toList[r.toNat] := by simp [hj]
  refine ⟨signs.cps.toList[r.toNat], ?_, ?_, ?_⟩
  · show (if signs.length ≤ sizeLine then (ixOf signs.cps.toList.length r).bind fun j => (signs.cps.toList[j]?).map fun c => Rv.val (.str ⟨#[c]⟩) else none) = _
    rw [if_pos (by rw [hs, sizeLine_eq]; decide)]
    unfold ixOf
    rw [if_pos h0, if_pos (by omega)]
    show (signs.cps.toList[r.toNat]?).map _ = _
    rw [g]; rfl
  · simp only [g, Bool.and_eq_true] at a
    exact a.1
  · intro h26
    simp only [g, Bool.and_eq_true, Bool.or_eq_true, decide_eq_true_eq] at a
    rcases a.2 with a | a
    · exact a
    · omega
theorem nameL_snoc {s : Str} {c : Nat} (h : nameL s.cps.toList = true) (hl : s.length ≤ 11) (hc : (lowB c || digB c) = true) : nameL (s ++ (⟨#[c]⟩ : Str)).cps.toList = true ∧ (s ++ (⟨#[c]⟩ : Str)).length = s.length + 1 := by
  have e : (s ++ (⟨#[c]⟩ : Str)).cps.toList = s.cps.toList ++ [c] := by
    show (s.cps ++ #[c]).toList = _
    simp
  refine ⟨?_, ?_⟩
  · rw [e]
    cases q : s.cps.toList with
    | nil => rw [q] at h; cases h
    | cons a l =>
      rw [q] at h
      have : s.length = l.length + 1 := by
        show s.cps.size = _
        rw [← Array.length_toList, q]; rfl
      simp only [nameL, Bool.and_eq_true, decide_eq_true_eq] at h
      simp only [List.cons_append, nameL, List.all_append, List.length_append, Bool.and_eq_true, decide_eq_true_eq, List.length_cons, List.length_nil, List.all_cons, List.all_nil, hc]
      exact ⟨⟨h.1.1, h.1.2, trivial, trivial⟩, by omega⟩
  · show (s.cps ++ #[c]).size = _
    rw [Array.size_append]; rfl
section
variable {fns : Str → Option CFn} {globs : Str → Option D} {fuel : Nat}
theorem name_loop (B : Base fns) {K : Nat} (hk : 2 ≤ K) (x1 x2 x3 : Sl) : ∀ (is : List Nat) {st : D} (hs : StoreOk st) (v : Str) (hv : nameL v.cps.toList = true) (hl : v.length + is.length ≤ 12) (y : Sl), ∃ (st' : D) (v' : Str) (y' : Sl), StoreOk st' ∧ nameL v'.cps.toList = true ∧ v'.length ≤ 12 ∧
    forL (stepS ⟨fns, globs, fuel, run fns globs fuel K, runLow fns globs fuel K⟩ [true] (.name 6) q__law_name_0) (is.map fun (k : Nat) => D.int (0 + (k : Int))) [.own st, x1, x2, x3, .val (.str "abcdefghijklmnopqrstuvwxyz0123456789"), .val (.str v), y] =
      .ok (.next, [.own st', x1, x2, x3, .val (.str "abcdefghijklmnopqrstuvwxyz0123456789"), .val (.str v'), y']) := by
  intro is
  induction is with
  | nil => exact fun hs v hv hl y => ⟨_, v, y, hs, hv, by simpa using hl, rfl⟩
  | cons k is ih =>
    intro st hs v hv hl y
    rw [List.length_cons] at hl
    obtain ⟨r, s1, hr, h1, e1⟩ := B.tk (globs := globs) (fuel := fuel) (K := K) hk hs (many := 36) (by decide)
    obtain ⟨c, e2, hc, _⟩ := signs_get hr.1 (hr.2 (by decide))
    obtain ⟨n1, n2⟩ := nameL_snoc hv (by omega) hc
    obtain ⟨st', v', y', h2, h3, h4, e⟩ := ih h1 _ n1 (by omega) (.val (.int (0 + (k : Int))))
    have lt := l__law_take
    have bt := B.take
    have sz : (v.length + (⟨#[c]⟩ : Str).length ≤ 16777216) = True := eq_true (by show v.length + 1 ≤ _; omega)
    refine ⟨st', v', y', h2, h3, h4, ?_⟩
    rw [List.map_cons, forL_cons, stepS_eq]
    clear ih hr hc n1 n2 hl hv h4
    unfold q__law_name_0 at e ⊢
    walk_at "evh"
def wordsA : List D := [.str "line", .str "options", .str "rule", .str "piece", .str "after", .str "lay", .str "strike", .str "bare", .str "wrap", .str "arg", .str "not", .str "and", .str "or"]
def wordsB : List D := [.str "one", .str "num", .str "truth", .str "call", .str "inner", .str "if", .str "add", .str "void", .str "leaf", .str "split", .str "more", .str "p1"]
def wordsC : List D := [.str "safe", .str "safe2", .str "seal1", .str "lawful", .str "sound", .str "when", .str "over", .str "edit", .str "at"]
def wordsD : List D := [.str "a", .str "b", .str "c", .str "p", .str "q", .str "x", .str "y", .str "t"]
def isNameD : D → Bool
  | .str s => nameB s
  | _ => false
theorem isNameD_of {d : D} (h : isNameD d = true) : ∃ s, d = .str s ∧ nameB s = true := by
  cases d with
  | str s => exact ⟨s, rfl, h⟩
  | _ => cases h
theorem wordsABC : ((wordsA ++ wordsB) ++ wordsC).all isNameD = true := by decide +kernel
theorem wordsD_ok : wordsD.all isNameD = true := by decide +kernel
theorem name_run (B : Base fns) (h : fns "_law_name" = some c__law_name) {K : Nat} (hk : 4 ≤ K) {st : D} (hs : StoreOk st) :
    ∃ (s : Str) (st' : D), nameB s = true ∧ StoreOk st' ∧ run fns globs fuel K "_law_name" [st] = .ok (false, .str s, [.own st']) := by
  obtain ⟨K, rfl⟩ : ∃ k, K = k + 1 := ⟨K - 1, by omega⟩
  obtain ⟨w, s1, hw, h1, e1⟩ := B.tk (globs := globs) (fuel := fuel) (K := K) (by omega) hs (many := 10) (by decide)
  have ls := l__law_name
  have lt := l__law_take
  have lp := l__law_pick
  have bt := B.take
  have bp := B.pick
  by_cases w0 : w = 0
  · subst w0
    have q0 := eqI_t (r := 0) rfl
    obtain ⟨d, s2, hd, h2, e2⟩ := B.pkL (globs := globs) (fuel := fuel) (K := K) (by omega) h1 (l := (wordsA ++ wordsB) ++ wordsC) (by decide) (by decide)
    obtain ⟨s, rfl, hn⟩ := isNameD_of (List.all_eq_true.mp wordsABC d hd)
    refine ⟨s, s2, hn, h2, ?_⟩
    simp only [wordsA, wordsB, wordsC, List.cons_append, List.nil_append] at e2
    clear hw hd
    rw [run_succ h]
    unfold c__law_name
    walk_at "evh"
  · have q0 := eqI_f w0
    by_cases w5 : w < 5
    · have d5 : decide (w < 5) = true := decide_eq_true w5
      obtain ⟨d, s2, hd, h2, e2⟩ := B.pkL (globs := globs) (fuel := fuel) (K := K) (by omega) h1 (l := wordsD) (by decide) (by decide)
      obtain ⟨s, rfl, hn⟩ := isNameD_of (List.all_eq_true.mp wordsD_ok d hd)
      refine ⟨s, s2, hn, h2, ?_⟩
      simp only [wordsD] at e2
      clear hw hd
      rw [run_succ h]
      unfold c__law_name
      walk_at "evh"
    · have d5 : decide (w < 5) = false := decide_eq_false w5
      obtain ⟨m, s2, hm, h2, e2⟩ := B.tk (globs := globs) (fuel := fuel) (K := K) (by omega) h1 (many := 2) (by decide)
      have hm2 := hm.2 (by decide)
      have tail : ∀ {s3 : D} (h3 : StoreOk s3) (many : Int) (x2 : Sl), 1 ≤ many → many ≤ 12 → ∃ (nm : Str) (s4 st' : D) (t : Int) (c : Nat) (y : Sl) (v : Str) (b : Bool), nameB nm = true ∧ StoreOk st' ∧
          run fns globs fuel K "_law_take" [s3, .int 26] = .ok (false, .int t, [.own s4]) ∧ prim2 .get (.str "abcdefghijklmnopqrstuvwxyz0123456789") (.int t) = some (.val (.str ⟨#[c]⟩)) ∧
          forL (stepS ⟨fns, globs, fuel, run fns globs fuel K, runLow fns globs fuel K⟩ [true] (.name 6) q__law_name_0) (rngD 0 (many - 1).toNat) [.own s4, .val (.int w), x2, .val (.int many), .val (.str "abcdefghijklmnopqrstuvwxyz0123456789"), .val (.str ⟨#[c]⟩), .no] =
            .ok (.next, [.own st', .val (.int w), x2, .val (.int many), .val (.str "abcdefghijklmnopqrstuvwxyz0123456789"), .val (.str v), y]) ∧
          inD (.str v) (.tup [.str "yes", .str "no", .str "none"]) = some b ∧ v.length ≤ 12 ∧ nm = (if b = true then v ++ ("x" : Str) else v) := by
        intro s3 h3 many x2 m1 m12
        obtain ⟨t, s4, ht, h4, e4⟩ := B.tk (globs := globs) (fuel := fuel) (K := K) (by omega) h3 (many := 26) (by decide)
        have ht2 := ht.2 (by decide)
        obtain ⟨c, e5, hc, hc2⟩ := signs_get ht.1 (by omega)
        have n1 : nameL (⟨#[c]⟩ : Str).cps.toList = true := by
          show (lowB c && true && _) = true
          rw [hc2 ht2]; rfl
        obtain ⟨st', v, y, h5, nv, lv, e6⟩ := name_loop (globs := globs) (fuel := fuel) B (K := K) (by omega) (.val (.int w)) x2 (.val (.int many)) (List.range (many - 1).toNat) h4 ⟨#[c]⟩ n1 (by rw [List.length_range]; show 1 + _ ≤ _; omega) .no
        refine ⟨_, s4, st', t, c, y, v, (("yes" : Str) == v || (("no" : Str) == v || (("none" : Str) == v || false))), ?_, h5, e4, e5, e6, rfl, lv, rfl⟩
        by_cases y1 : v = "yes"
        · subst y1; decide +kernel
        · by_cases y2 : v = "no"
          · subst y2; decide +kernel
          · by_cases y3 : v = "none"
            · subst y3; decide +kernel
            · have f1 : (("yes" : Str) == v) = false := beq_false_of_ne (Ne.symm y1)
              have f2 : (("no" : Str) == v) = false := beq_false_of_ne (Ne.symm y2)
              have f3 : (("none" : Str) == v) = false := beq_false_of_ne (Ne.symm y3)
              rw [f1, f2, f3]
              simp only [Bool.or_false, Bool.false_eq_true, if_false, nameB, nv, decide_eq_false y1, decide_eq_false y2, decide_eq_false y3, Bool.not_false, Bool.and_self]
      have xl : ("x" : Str).length = 1 := by decide +kernel
      by_cases w6 : w = 5
      · subst w6
        have q5 : eqD (.int 5) (.int 5) = some true := by rw [eqD_int]; rfl
        have q6 : eqD (.int 5) (.int 6) = some false := by rw [eqD_int]; rfl
        obtain ⟨nm, s4, st', t, c, y, v, b, hn, hst, e4, e5, e6, e7, lv, rfl⟩ := tail h2 12 .no (by decide) (by decide)
        have sz : (v.length + 1 ≤ 16777216) = True := eq_true (by omega)
        rw [show ((12 : Int) - 1).toNat = 11 from rfl] at e6
        refine ⟨_, st', hn, hst, ?_⟩
        rw [run_succ h]
        unfold c__law_name
        clear hn tail hw hm lv
        cases b <;> walk_at "evh"
      · have q5 : eqD (.int w) (.int 5) = some false := by rw [eqD_int, decide_eq_false w6]
        by_cases w7 : w = 6
        · subst w7
          have q6 : eqD (.int 6) (.int 6) = some true := by rw [eqD_int]; rfl
          obtain ⟨m', s3, hm', h3, e3⟩ := B.tk (globs := globs) (fuel := fuel) (K := K) (by omega) h2 (many := 12) (by decide)
          have hm3 := hm'.2 (by decide)
          obtain ⟨nm, s4, st', t, c, y, v, b, hn, hst, e4, e5, e6, e7, lv, rfl⟩ := tail h3 (1 + m') .no (by omega) (by omega)
          have sz : (v.length + 1 ≤ 16777216) = True := eq_true (by omega)
          have sm : small62 (1 + m' - 1) = true := small62_c (by omega) (by omega)
          refine ⟨_, st', hn, hst, ?_⟩
          rw [run_succ h]
          unfold c__law_name
          clear hn tail hw hm lv hm' hm3 hm2
          cases b <;> walk_at "evh"
        · have q6 : eqD (.int w) (.int 6) = some false := by rw [eqD_int, decide_eq_false w7]
          obtain ⟨nm, s4, st', t, c, y, v, b, hn, hst, e4, e5, e6, e7, lv, rfl⟩ := tail h2 (1 + m) .no (by omega) (by omega)
          have sz : (v.length + 1 ≤ 16777216) = True := eq_true (by omega)
          have sm : small62 (1 + m - 1) = true := small62_c (by omega) (by omega)
          refine ⟨_, st', hn, hst, ?_⟩
          rw [run_succ h]
          unfold c__law_name
          clear hn tail hw hm lv hm2
          cases b <;> walk_at "evh"
end
/-! ### plain trees -/
mutual
/-- plain, its rows not too long -/
def tr : Nat → D → Bool
  | _, .non => true
  | _, .int _ => true
  | _, .str s => PyData.strOk s
  | 0, .tup _ => false
  | n + 1, .tup l => decide (l.length ≤ 1000000) && trs n l
  | _, _ => false
def trs : Nat → List D → Bool
  | _, [] => true
  | n, d :: r => tr n d && trs n r
end
mutual
theorem tr_pl : ∀ {n : Nat} {d : D}, tr n d = true → G.pl n d = true
  | n, .non, _ => by cases n <;> rfl
  | n, .int _, _ => by cases n <;> rfl
  | n, .str s, h => by
    have : PyData.strOk s = true := by cases n <;> exact h
    cases n <;> exact this
  | 0, .tup _, h => by cases h
  | n + 1, .tup l, h => by
    have h : (decide (l.length ≤ 1000000) && trs n l) = true := h
    rw [Bool.and_eq_true] at h
    exact trs_pls h.2
  | n, .bl _, h => by cases n <;> cases h
  | n, .lst _, h => by cases n <;> cases h
  | n, .frz _, h => by cases n <;> cases h
  | n, .dic _, h => by cases n <;> cases h
  | n, .dct _, h => by cases n <;> cases h
  | n, .obj _ _, h => by cases n <;> cases h
theorem trs_pls : ∀ {n : Nat} {l : List D}, trs n l = true → pls n l = true
  | _, [], _ => rfl
  | n, d :: r, q => by
    have q : (tr n d && trs n r) = true := q
    show (G.pl n d && pls n r) = true
    rw [Bool.and_eq_true] at q ⊢
    exact ⟨tr_pl q.1, trs_pls q.2⟩
end
mutual
theorem tr_sm : ∀ {n : Nat} {d : D}, tr n d = true → sm n d = true
  | n, .non, _ => by cases n <;> rfl
  | n, .int _, _ => by cases n <;> rfl
  | n, .str s, h => by
    have : PyData.strOk s = true := by cases n <;> exact h
    cases n <;> exact this
  | 0, .tup _, h => by cases h
  | n + 1, .tup l, h => by
    have h : (decide (l.length ≤ 1000000) && trs n l) = true := h
    show (decide (l.length ≤ 16777216) && sms n l) = true
    rw [Bool.and_eq_true, decide_eq_true_eq] at h ⊢
    exact ⟨by omega, trs_sms h.2⟩
  | n, .bl _, h => by cases n <;> cases h
  | n, .lst _, h => by cases n <;> cases h
  | n, .frz _, h => by cases n <;> cases h
  | n, .dic _, h => by cases n <;> cases h
  | n, .dct _, h => by cases n <;> cases h
  | n, .obj _ _, h => by cases n <;> cases h
theorem trs_sms : ∀ {n : Nat} {l : List D}, trs n l = true → sms n l = true
  | _, [], _ => rfl
  | n, d :: r, q => by
    have q : (tr n d && trs n r) = true := q
    show (sm n d && sms n r) = true
    rw [Bool.and_eq_true] at q ⊢
    exact ⟨tr_sm q.1, trs_sms q.2⟩
end
theorem trs_all : ∀ {n : Nat} {l : List D}, trs n l = true ↔ ∀ d, d ∈ l → tr n d = true
  | n, [] => by simp [trs]
  | n, d :: r => by
    have ih := trs_all (n := n) (l := r)
    simp only [trs, Bool.and_eq_true, List.mem_cons, forall_eq_or_imp, ih]
theorem find_loop {step : D → List Sl → R (Fl × List Sl)} (Inv : List Sl → Prop) (f : Nat → Bool) (val : Nat → D) : ∀ (is : List Nat), (∀ k, k ∈ is → ∀ env, Inv env → ∃ env', Inv env' ∧ step (.int (1 + (k : Int))) env = .ok (if f k then .ret false (val k) else .next, env')) →
    ∀ env, Inv env → ∃ env', Inv env' ∧ forL step (is.map fun (k : Nat) => D.int (1 + (k : Int))) env = .ok (match is.find? f with | some k => .ret false (val k) | none => .next, env')
  | [], _, env, hi => ⟨env, hi, rfl⟩
  | k :: is, h, env, hi => by
    obtain ⟨env1, i1, e1⟩ := h k List.mem_cons_self env hi
    rw [List.map_cons, forL, e1, List.find?_cons]
    cases q : f k with
    | true => exact ⟨env1, i1, rfl⟩
    | false =>
      obtain ⟨env2, i2, e2⟩ := find_loop Inv f val is (fun j hj => h j (List.mem_cons_of_mem _ hj)) env1 i1
      exact ⟨env2, i2, e2⟩
theorem comp_map {α : Type} {step : D → List Sl → R (Option D × List Sl)} (Inv : List Sl → Prop) (g val : α → D) : ∀ (is : List α), (∀ k, k ∈ is → ∀ env, Inv env → ∃ env', Inv env' ∧ step (g k) env = .ok (some (val k), env')) →
    ∀ env, Inv env → ∃ env', Inv env' ∧ compL step (is.map g) env = .ok (is.map val, env')
  | [], _, env, hi => ⟨env, hi, rfl⟩
  | k :: is, h, env, hi => by
    obtain ⟨env1, i1, e1⟩ := h k List.mem_cons_self env hi
    obtain ⟨env2, i2, e2⟩ := comp_map Inv g val is (fun j hj => h j (List.mem_cons_of_mem _ hj)) env1 i1
    refine ⟨env2, i2, ?_⟩
    rw [List.map_cons, compL, e1]
    show (compL step (is.map g) env1).bind _ = _
    rw [e2]; rfl
theorem asBools_map {α : Type} (b : α → Bool) : ∀ (is : List α), asBools (is.map fun k => D.bl (b k)) = some (is.map b)
  | [] => rfl
  | k :: is => by
    rw [List.map_cons, asBools, asBools_map b is]; rfl
theorem any_map {α : Type} (b : α → Bool) (is : List α) : prim1 .any (.lst (is.map fun k => D.bl (b k))) = some (.val (.bl (is.any b))) := by
  show (asBools _).map _ = _
  rw [asBools_map]
  show some (Rv.val (.bl ((is.map b).any id))) = _
  rw [List.any_map]; rfl
theorem all_map {α : Type} (b : α → Bool) (is : List α) : prim1 .all (.lst (is.map fun k => D.bl (b k))) = some (.val (.bl (is.all b))) := by
  show (asBools _).map _ = _
  rw [asBools_map]
  show some (Rv.val (.bl ((is.map b).all id))) = _
  rw [List.all_map]; rfl
theorem cut_to {l : List D} {k : Int} (h : 0 ≤ k) : cutL l none (some k) = l.take k.toNat := by
  unfold cutL
  show List.take (HT.sIx l.length l.length (some k) - 0) (l.drop 0) = _
  have : HT.sIx l.length l.length (some k) = min k.toNat l.length := by
    unfold HT.sIx
    simp only
    split <;> omega
  rw [this, List.drop_zero, Nat.sub_zero, List.take_eq_take_iff]
  omega
theorem cut_from {l : List D} {k : Int} (h : 0 ≤ k) : cutL l (some k) none = l.drop k.toNat := by
  unfold cutL
  show List.take (l.length - HT.sIx l.length 0 (some k)) (l.drop (HT.sIx l.length 0 (some k))) = _
  have e : HT.sIx l.length 0 (some k) = min k.toNat l.length := by
    unfold HT.sIx
    simp only
    split <;> omega
  rw [e]
  by_cases hl : k.toNat ≤ l.length
  · rw [Nat.min_eq_left hl, List.take_of_length_le (by rw [List.length_drop]; omega)]
  · rw [Nat.min_eq_right (by omega), List.drop_length, List.take_nil, List.drop_eq_nil_of_le (by omega)]
theorem tr_mono : ∀ {n m : Nat} {d : D}, n ≤ m → tr n d = true → tr m d = true := by
  intro n
  induction n with
  | zero =>
    intro m d h g
    cases d <;> first | (cases g; done) | skip
    · cases m <;> rfl
    · cases m <;> rfl
    · cases m <;> exact g
  | succ n ih =>
    intro m d h g
    obtain ⟨m, rfl⟩ : ∃ k, m = k + 1 := ⟨m - 1, by omega⟩
    cases d <;> first | (cases g; done) | rfl | exact g | skip
    rename_i l
    have g : (decide (l.length ≤ 1000000) && trs n l) = true := g
    show (decide (l.length ≤ 1000000) && trs m l) = true
    rw [Bool.and_eq_true, trs_all] at g ⊢
    exact ⟨g.1, fun d hd => ih (by omega) (g.2 d hd)⟩
theorem tr_tup {n : Nat} {l : List D} : tr (n + 1) (.tup l) = true ↔ l.length ≤ 1000000 ∧ ∀ d, d ∈ l → tr n d = true := by
  show (decide (l.length ≤ 1000000) && trs n l) = true ↔ _
  rw [Bool.and_eq_true, decide_eq_true_eq, trs_all]
theorem tr_str {n : Nat} {s : Str} (h : PyData.strOk s = true) : tr n (.str s) = true := by cases n <;> exact h
theorem tr_int {n : Nat} {i : Int} : tr n (.int i) = true := by cases n <;> rfl
theorem tr_non {n : Nat} : tr n .non = true := by cases n <;> rfl
theorem eqD_tr {n m : Nat} {d e : D} (hn : n ≤ 64) (hm : m ≤ 64) (h : tr n d = true) (g : tr m e = true) : eqD d e = some (deq d e) := eqD_pl hn hm (tr_pl h) (tr_pl g)
theorem deq_tup {l m : List D} : deq (D.tup l) (D.tup m) = deq l m := deq_of ⟨fun h => by injection h, fun h => by rw [h]⟩
theorem deq_lst {l m : List D} : deq (D.lst l) (D.lst m) = deq l m := deq_of ⟨fun h => by injection h, fun h => by rw [h]⟩
theorem deq_some {α : Type} {a b : α} : deq (some a) (some b) = deq a b := deq_of ⟨fun h => by injection h, fun h => by rw [h]⟩
end G

set_option Elab.async false
set_option linter.all false
set_option maxRecDepth 100000
set_option maxHeartbeats 0
/-! G, part 14: what holds behind a run, step by step. -/
namespace G
open PySem
/-! the core's rows that the steps use -/
theorem z_List_zip_cons_cons : type_of% @List.zip_cons_cons := @List.zip_cons_cons
theorem z_List_zip_nil_left : type_of% @List.zip_nil_left := @List.zip_nil_left
theorem z_List_zip_nil_right : type_of% @List.zip_nil_right := @List.zip_nil_right
theorem z_List_foldl_cons : type_of% @List.foldl_cons := @List.foldl_cons
theorem z_List_foldl_nil : type_of% @List.foldl_nil := @List.foldl_nil
theorem z_fin_true : type_of% @fin_true := @fin_true
theorem z_eq_self : type_of% @eq_self := @eq_self
theorem z_Option_getD_some : type_of% @Option.getD_some := @Option.getD_some
theorem z_Option_getD_none : type_of% @Option.getD_none := @Option.getD_none
theorem z_List_length_cons : type_of% @List.length_cons := @List.length_cons
theorem z_List_length_nil : type_of% @List.length_nil := @List.length_nil
theorem z_List_cons_append : type_of% @List.cons_append := @List.cons_append
theorem z_List_nil_append : type_of% @List.nil_append := @List.nil_append
theorem z_List_getElem__cons_zero : type_of% @List.getElem?_cons_zero := @List.getElem?_cons_zero
theorem z_List_getElem__cons_succ : type_of% @List.getElem?_cons_succ := @List.getElem?_cons_succ
theorem z_List_getElem__nil : type_of% @List.getElem?_nil := @List.getElem?_nil
theorem z_List_set_cons_zero : type_of% @List.set_cons_zero := @List.set_cons_zero
theorem z_List_set_cons_succ : type_of% @List.set_cons_succ := @List.set_cons_succ
theorem z_List_getD_cons_zero : type_of% @List.getD_cons_zero := @List.getD_cons_zero
theorem z_List_getD_cons_succ : type_of% @List.getD_cons_succ := @List.getD_cons_succ
theorem z_List_getD_nil : type_of% @List.getD_nil := @List.getD_nil
theorem z_if_true : type_of% @if_true := @if_true
theorem z_if_false : type_of% @if_false := @if_false
theorem z_and_self : type_of% @and_self := @and_self
theorem z_and_true : type_of% @and_true := @and_true
theorem z_true_and : type_of% @true_and := @true_and
theorem z_Nat_zero_add : type_of% @Nat.zero_add := @Nat.zero_add
theorem z_decide_true : type_of% @decide_true := @decide_true
theorem z_decide_false : type_of% @decide_false := @decide_false
theorem z_Bool_false_eq_true : type_of% @Bool.false_eq_true := @Bool.false_eq_true
theorem z_Sum_inr_injEq : type_of% @Sum.inr.injEq := @Sum.inr.injEq
theorem z_List_any_cons : type_of% @List.any_cons := @List.any_cons
theorem z_List_any_nil : type_of% @List.any_nil := @List.any_nil
theorem z_List_map_cons : type_of% @List.map_cons := @List.map_cons
theorem z_List_map_nil : type_of% @List.map_nil := @List.map_nil
theorem z_Bool_or_false : type_of% @Bool.or_false := @Bool.or_false
theorem z_Bool_false_or : type_of% @Bool.false_or := @Bool.false_or
theorem z_Bool_or_true : type_of% @Bool.or_true := @Bool.or_true
theorem z_Bool_true_or : type_of% @Bool.true_or := @Bool.true_or
theorem z_sizeLine_eq : type_of% @sizeLine_eq := @sizeLine_eq
theorem z_List_nodup_nil : type_of% @List.nodup_nil := @List.nodup_nil
theorem z_List_nodup_cons : type_of% @List.nodup_cons := @List.nodup_cons
theorem z_List_not_mem_nil : type_of% @List.not_mem_nil := @List.not_mem_nil
theorem z_not_false_eq_true : type_of% @not_false_eq_true := @not_false_eq_true
theorem z_ne_eq : type_of% @ne_eq := @ne_eq
theorem z_Option_some_injEq : type_of% @Option.some.injEq := @Option.some.injEq
theorem z_implies_true : type_of% @implies_true := @implies_true
theorem z_Bool_and_true : type_of% @Bool.and_true := @Bool.and_true
theorem z_Bool_true_and : type_of% @Bool.true_and := @Bool.true_and
theorem z_Bool_and_false : type_of% @Bool.and_false := @Bool.and_false
theorem z_Bool_false_and : type_of% @Bool.false_and := @Bool.false_and
theorem z_List_isEmpty_nil : type_of% @List.isEmpty_nil := @List.isEmpty_nil
theorem z_List_isEmpty_cons : type_of% @List.isEmpty_cons := @List.isEmpty_cons
theorem z_Bool_not_true : type_of% @Bool.not_true := @Bool.not_true
theorem z_Bool_not_false : type_of% @Bool.not_false := @Bool.not_false
theorem z_List_length_map : type_of% @List.length_map := @List.length_map
theorem z_ite_self : type_of% @ite_self := @ite_self
theorem z_decide_eq_true_eq : type_of% @decide_eq_true_eq := @decide_eq_true_eq
theorem z_Bool_and_eq_true : type_of% @Bool.and_eq_true := @Bool.and_eq_true
theorem z_Bool_or_eq_true : type_of% @Bool.or_eq_true := @Bool.or_eq_true
theorem z_Bool_not_eq_true : type_of% @Bool.not_eq_true := @Bool.not_eq_true
theorem z_Bool_or_self : type_of% @Bool.or_self := @Bool.or_self
theorem z_Bool_and_self : type_of% @Bool.and_self := @Bool.and_self
theorem z_List_all_cons : type_of% @List.all_cons := @List.all_cons
theorem z_List_all_nil : type_of% @List.all_nil := @List.all_nil
theorem z_Bool_not_eq_eq_eq_not : type_of% @Bool.not_eq_eq_eq_not := @Bool.not_eq_eq_eq_not
theorem z_Option_map_some : type_of% @Option.map_some := @Option.map_some
theorem z_Option_map_none : type_of% @Option.map_none := @Option.map_none
theorem z_Int_sub_zero : type_of% @Int.sub_zero := @Int.sub_zero
theorem z_Int_zero_add : type_of% @Int.zero_add := @Int.zero_add
theorem z_decide_not : type_of% @decide_not := @decide_not
theorem z_decide_eq_false_iff_not : type_of% @decide_eq_false_iff_not := @decide_eq_false_iff_not
theorem z_Bool_decide_eq_true : type_of% @Bool.decide_eq_true := @Bool.decide_eq_true
theorem z_ge_iff_le : type_of% @ge_iff_le := @ge_iff_le
theorem z_gt_iff_lt : type_of% @gt_iff_lt := @gt_iff_lt
theorem bq_tt : (true == true) = true := rfl
theorem bq_tf : (true == false) = false := rfl
theorem bq_ft : (false == true) = false := rfl
theorem bq_ff : (false == false) = true := rfl
/-- a fact that the steps do not rewrite by -/
def Hold (p : Prop) : Prop := p
theorem Hold.mk {p : Prop} (h : p) : Hold p := h
/-- what holds behind a run; never opened by the machine -/
@[irreducible] def R.wq {α : Type} (r : R α) (Q : α → Prop) (E : Ex → Prop) : Prop := r.wp Q E
theorem R.wq_wp {α : Type} {r : R α} {Q : α → Prop} {E : Ex → Prop} : r.wq Q E = r.wp Q E := by unfold R.wq; rfl
theorem R.wq_mono {α : Type} {r : R α} {Q Q' : α → Prop} {E E' : Ex → Prop} (h : r.wq Q E) (hq : ∀ a, Q a → Q' a) (he : ∀ x, E x → E' x) : r.wq Q' E' := by
  rw [R.wq_wp] at *
  exact R.wp_mono h hq he
theorem wq_ok {α : Type} {a : α} {Q : α → Prop} {E : Ex → Prop} : (R.ok a).wq Q E = Q a := by rw [R.wq_wp]; rfl
theorem wq_stuck {α : Type} {Q : α → Prop} {E : Ex → Prop} : (R.stuck : R α).wq Q E = False := by rw [R.wq_wp]; rfl
theorem wq_exc {α : Type} {x : Ex} {Q : α → Prop} {E : Ex → Prop} : (R.exc x : R α).wq Q E = E x := by rw [R.wq_wp]; rfl
section
variable {α β : Type} {r s : R α} {Q P : α → Prop} {E : Ex → Prop} {c : Prop} [Decidable c]
theorem wpb {f : α → R β} {Q : β → Prop} : (r.bind f).wq Q E = r.wq (fun a => (f a).wq Q E) E := by
  cases r <;> simp only [wq_ok, wq_stuck, wq_exc, R.bind]
theorem wp_ofS {a : α} : (R.of (some a)).wq Q E = Q a := wq_ok
theorem wp_ite (h : c → r.wq Q E) (g : ¬ c → s.wq Q E) : (if c then r else s).wq Q E := by
  by_cases q : c
  · rw [if_pos q]; exact h q
  · rw [if_neg q]; exact g q
theorem wp_ofI {o : Option α} (h : c) (g : (R.of o).wq Q E) : (R.of (if c then o else none)).wq Q E := by rw [if_pos h]; exact g
theorem wp_guard (h : r.wq Q E) : r.wq Q E := h
theorem wp_simp {r' : R α} (e : r = r') (h : r'.wq Q E) : r.wq Q E := e ▸ h
theorem wp_okI {a : α} (h : Q a) : (R.ok a).wq Q E := by rw [wq_ok]; exact h
theorem wp_bI {f : α → R β} {Q : β → Prop} (h : r.wq (fun a => (f a).wq Q E) E) : (r.bind f).wq Q E := by rw [wpb]; exact h
theorem wp_excI {x : Ex} (h : E x) : (R.exc x : R α).wq Q E := by rw [wq_exc]; exact h
theorem wp_tri {t : Bool} {env : List Sl} {r : R (Rv × List Sl)} {Q : Rv × List Sl → Prop} (h : r.wq (fun p => ((R.of (p.1.freeze p.2)).bind fun q => fin t (.val (.tup [.str "right", q.1])) env).wq Q E) (fun x => errFs x.cls = some (x.fs.map (·.1)) ∧ (fin t (.val (told x)) env).wq Q E)) : (k_tri t env r).wq Q E := by
  unfold k_tri
  rw [wpb]
  cases r with
  | stuck => rw [wq_stuck] at h; exact h.elim
  | ok p =>
    rw [wq_ok] at h
    show (match p.1.freeze p.2 with
      | some q => R.ok (D.tup [.str "right", q.1])
      | none => .stuck).wq _ E
    cases e : p.1.freeze p.2 with
    | none =>
      rw [e, wpb] at h
      change (R.stuck : R (D × List Sl)).wq _ _ at h
      rw [wq_stuck] at h; exact h.elim
    | some q =>
      rw [e, wpb] at h
      change (R.ok q).wq _ _ at h
      rw [wq_ok] at h
      show (R.ok _).wq _ _
      rw [wq_ok]; exact h
  | exc x =>
    rw [wq_exc] at h
    show (if errFs x.cls = some (x.fs.map (·.1)) then R.ok (told x) else .stuck).wq _ E
    rw [if_pos h.1, wq_ok]; exact h.2
theorem told_eq {c : Str} {fs : List (Str × D)} : told ⟨c, fs⟩ = .tup [.str "refused", .str c, .tup (fs.map (·.2))] := id rfl
theorem wp_tx {c : Str} {fs : List (Str × D)} {q : Prop} (h : errFs c = some (fs.map fun x => x.1)) (k : q) : errFs c = some (fs.map fun x => x.1) ∧ q := ⟨h, k⟩
theorem er_BadText {v0 : D} : errFs "BadText" = some (([("at", v0)] : List (Str × D)).map fun x => x.1) := (by decide +kernel : errFs "BadText" = some (["at"] : List Str))
theorem er_Malformed {v0 : D} : errFs "Malformed" = some (([("what", v0)] : List (Str × D)).map fun x => x.1) := (by decide +kernel : errFs "Malformed" = some (["what"] : List Str))
theorem er_Misnamed {v0 : D} : errFs "Misnamed" = some (([("name", v0)] : List (Str × D)).map fun x => x.1) := (by decide +kernel : errFs "Misnamed" = some (["name"] : List Str))
theorem er_Doubled {v0 : D} : errFs "Doubled" = some (([("name", v0)] : List (Str × D)).map fun x => x.1) := (by decide +kernel : errFs "Doubled" = some (["name"] : List Str))
theorem er_Unknown {v0 : D} : errFs "Unknown" = some (([("name", v0)] : List (Str × D)).map fun x => x.1) := (by decide +kernel : errFs "Unknown" = some (["name"] : List Str))
theorem er_TooMany {v0 v1 : D} : errFs "TooMany" = some (([("what", v0), ("limit", v1)] : List (Str × D)).map fun x => x.1) := (by decide +kernel : errFs "TooMany" = some (["what", "limit"] : List Str))
theorem er_Ring {v0 : D} : errFs "Ring" = some (([("names", v0)] : List (Str × D)).map fun x => x.1) := (by decide +kernel : errFs "Ring" = some (["names"] : List Str))
theorem er_Unlawful {v0 : D} : errFs "Unlawful" = some (([("choice", v0)] : List (Str × D)).map fun x => x.1) := (by decide +kernel : errFs "Unlawful" = some (["choice"] : List Str))
theorem er_NotAllowed {v0 : D} : errFs "NotAllowed" = some (([("order", v0)] : List (Str × D)).map fun x => x.1) := (by decide +kernel : errFs "NotAllowed" = some (["order"] : List Str))
theorem er_NotOne {v0 : D} : errFs "NotOne" = some (([("fault", v0)] : List (Str × D)).map fun x => x.1) := (by decide +kernel : errFs "NotOne" = some (["fault"] : List Str))
theorem er_Shared {v0 : D} : errFs "Shared" = some (([("name", v0)] : List (Str × D)).map fun x => x.1) := (by decide +kernel : errFs "Shared" = some (["name"] : List Str))
theorem er_Unlike {v0 : D} : errFs "Unlike" = some (([("what", v0)] : List (Str × D)).map fun x => x.1) := (by decide +kernel : errFs "Unlike" = some (["what"] : List Str))
theorem er_Forced {v0 : D} : errFs "Forced" = some (([("option", v0)] : List (Str × D)).map fun x => x.1) := (by decide +kernel : errFs "Forced" = some (["option"] : List Str))
/-- two ways, each to be gone -/
noncomputable def Rite (c : Prop) (r s : R α) : R α := @ite _ c (Classical.propDecidable c) r s
theorem mark_ite : (if c then r else s) = Rite c r s := by
  unfold Rite
  by_cases q : c
  · rw [if_pos q, if_pos q]
  · rw [if_neg q, if_neg q]
theorem rite_t : Rite True r s = r := if_pos trivial
theorem rite_f : Rite False r s = s := if_neg id
theorem wp_rite {c : Prop} (h : c → r.wq Q E) (g : ¬ c → s.wq Q E) : (Rite c r s).wq Q E := by
  unfold Rite
  by_cases q : c
  · rw [if_pos q]; exact h q
  · rw [if_neg q]; exact g q
/-- what must hold, what is left -/
noncomputable def Rneed (c : Prop) (r : R α) : R α := @ite _ c (Classical.propDecidable c) r .stuck
theorem mark_need {o : Option α} : R.of (if c then o else none) = Rneed c (R.of o) := by
  unfold Rneed
  by_cases q : c
  · rw [if_pos q, if_pos q]
  · rw [if_neg q, if_neg q]; rfl
theorem need_t : Rneed True r = r := if_pos trivial
theorem wp_need {c : Prop} (h : c) (g : r.wq Q E) : (Rneed c r).wq Q E := by
  unfold Rneed
  rw [if_pos h]; exact g
theorem of_s {a : α} : R.of (some a) = .ok a := id rfl
theorem wp_spec (h : r.wq P E) (k : ∀ a, P a → Q a) : r.wq Q E := R.wq_mono h k (fun _ h => h)
theorem wp_eq {a : α} (h : r = .ok a) (k : Q a) : r.wq Q E := by rw [h, wq_ok]; exact k
theorem eq_wp {a : α} (h : r.wq (fun b => b = a) (fun _ => False)) : r = .ok a := by
  cases r with
  | ok b => rw [wq_ok] at h; exact congrArg R.ok h
  | exc x => rw [wq_exc] at h; exact h.elim
  | stuck => rw [wq_stuck] at h; exact h.elim
end
theorem add_le3 {a b c d n : Nat} (h : a ≤ c) (g : b ≤ d) (k : c + d ≤ n) : a + b ≤ n := Nat.le_trans (Nat.add_le_add h g) k
theorem not_lt_iff {i j : Int} : (¬ i < j) = (j ≤ i) := propext Int.not_lt
theorem not_le_iff {i j : Int} : (¬ i ≤ j) = (j < i) := propext Int.not_le
theorem seq_ne {s t : Str} (h : decide (s = t) = false) : (s = t) = False := eq_false (of_decide_eq_false h)
theorem beq_str {s t : Str} : ((s == t) = true) = (s = t) := propext beq_iff_eq
theorem deq_false {α : Type} {d e : α} : (deq d e = false) = ¬ (d = e) := by
  by_cases h : d = e
  · subst h; rw [deq_self]; simp
  · rw [deq_no h]; simp [h]
theorem inD_tup {x : D} {l : List D} (hx : flatD x = true) (hl : l.all flatD = true) : inD x (.tup l) = some (l.any fun y => eqF y x) := by
  show (if flatD x && l.all flatD then some (l.any fun y => eqF y x) else _) = _
  rw [hx, hl]; rfl
theorem inD_lst {x : D} {l : List D} (hx : flatD x = true) (hl : l.all flatD = true) : inD x (.lst l) = some (l.any fun y => eqF y x) := by
  show (if flatD x && l.all flatD then some (l.any fun y => eqF y x) else _) = _
  rw [hx, hl]; rfl
section
variable {s x y : Str}
theorem str_len {s : Str} : s.length = s.cps.toList.length := by simp [Str.length]
theorem app_list : (x ++ y).cps.toList = x.cps.toList ++ y.cps.toList := by
  show (x.cps ++ y.cps).toList = _
  simp
theorem app_len : (x ++ y).length = x.length + y.length := by rw [str_len, app_list, List.length_append, ← str_len, ← str_len]
theorem len1 {c : Nat} : (⟨#[c]⟩ : Str).length = 1 := id rfl
end
/-! ### what is drawn -/
theorem ixOf_int {n : Nat} {i : Int} (h0 : 0 ≤ i) (h1 : i < n) : ixOf n i = some i.toNat := by
  unfold ixOf
  rw [if_pos h0, if_pos h1]
theorem toNat_c {n : Nat} : (n : Int).toNat = n := Int.toNat_natCast n
theorem all_c {b : Bool} {l : List D} : prim1 .all (.lst (.bl b :: l)) = (asBools (.bl b :: l)).map fun bs => .val (.bl (bs.all id)) := id rfl
theorem all_n : prim1 .all (.lst []) = some (.val (.bl true)) := id rfl
theorem any_c {b : Bool} {l : List D} : prim1 .any (.lst (.bl b :: l)) = (asBools (.bl b :: l)).map fun bs => .val (.bl (bs.any id)) := id rfl
theorem any_n : prim1 .any (.lst []) = some (.val (.bl false)) := id rfl
theorem asb_n : asBools [] = some [] := id rfl
theorem asb_c {b : Bool} {l : List D} : asBools (.bl b :: l) = (asBools l).map (b :: ·) := id rfl
theorem id_b {b : Bool} : id b = b := id rfl
theorem all_true {l : List D} : prim1 .all (.lst (l.map fun _ => D.bl true)) = some (.val (.bl true)) := by
  rw [all_map (fun _ : D => true) l]
  simp
theorem isB_b {a b : Bool} : prim1 (.isB b) (.bl a) = some (.val (.bl (a == b))) := id rfl
theorem isB_n {b : Bool} : prim1 (.isB b) .non = some (.val (.bl false)) := id rfl
theorem isNB_b {a b : Bool} : prim1 (.isNB b) (.bl a) = some (.val (.bl (!(a == b)))) := id rfl
theorem isNB_n {b : Bool} : prim1 (.isNB b) .non = some (.val (.bl true)) := id rfl
theorem nn_non : prim1 .notNone .non = some (.val (.bl false)) := id rfl
theorem nn_bl {b : Bool} : prim1 .notNone (.bl b) = some (.val (.bl true)) := id rfl
theorem nn_int {i : Int} : prim1 .notNone (.int i) = some (.val (.bl true)) := id rfl
theorem nn_str {s : Str} : prim1 .notNone (.str s) = some (.val (.bl true)) := id rfl
theorem p_lstL {l : List D} : prim1 .list (.lst l) = some (.fresh (.lst l)) := id rfl
theorem inD_tu {x : D} {l : List D} : inD x (.tup l) = if (flatD x && l.all flatD) = true then some (l.any fun y => eqF y x) else
      match toPD x, toPDs l with
      | some a, some bs => if SeqAt.shaped a && SeqAt.shaped (.list bs) then some (bs.any fun z => PyData.eqv z a) else none
      | _, _ => none := id rfl
theorem inD_lu {x : D} {l : List D} : inD x (.lst l) = if (flatD x && l.all flatD) = true then some (l.any fun y => eqF y x) else
      match toPD x, toPDs l with
      | some a, some bs => if SeqAt.shaped a && SeqAt.shaped (.list bs) then some (bs.any fun z => PyData.eqv z a) else none
      | _, _ => none := id rfl
section
variable {s t : Str} {i j : Int} {b c : Bool} {l m : List D}
theorem fl_s : flatD (.str s) = true := id rfl
theorem fl_i : flatD (.int i) = true := id rfl
theorem fl_b : flatD (.bl b) = true := id rfl
theorem fl_n : flatD .non = true := id rfl
theorem fl_t : flatD (.tup l) = false := id rfl
theorem fl_l : flatD (.lst l) = false := id rfl
theorem eqF_ss : eqF (.str s) (.str t) = (s == t) := id rfl
theorem eqF_ii : eqF (.int i) (.int j) = (i == j) := id rfl
theorem eqF_bb : eqF (.bl b) (.bl c) = (b == c) := id rfl
theorem eqF_nn : eqF .non .non = true := id rfl
theorem eqF_si : eqF (.str s) (.int j) = false := id rfl
theorem eqF_is : eqF (.int j) (.str s) = false := id rfl
theorem eqF_sn : eqF (.str s) .non = false := id rfl
theorem eqF_ns : eqF .non (.str s) = false := id rfl
theorem eqF_in : eqF (.int j) .non = false := id rfl
theorem eqF_ni : eqF .non (.int j) = false := id rfl
end
def isStrD : D → Bool
  | .str _ => true | _ => false
theorem strs_isStr {ns : List Str} : (ns.map D.str).all isStrD = true := by
  rw [List.all_eq_true]
  intro d hd
  obtain ⟨x, _, rfl⟩ := List.mem_map.mp hd
  rfl
/-- the answer is drawn: P of it, the store is one still -/
def Drw (b : Bool) (P : D → Prop) : Out → Prop := fun o => ∃ d s, o = (b, d, [.own s]) ∧ StoreOk s ∧ P d
section
variable {fns : Str → Option CFn} {globs : Str → Option D} {fuel : Nat} {K : Nat} {st : D} {E : Ex → Prop} {Q : Out → Prop} {P P' : D → Prop} {b : Bool} {r : R Out}
theorem wp_drw (h : r.wq (Drw b P) E) (k : ∀ d s, StoreOk s → P d → Q (b, d, [.own s])) : r.wq Q E := wp_spec h fun _ ⟨d, s, e, hs, hp⟩ => e ▸ k d s hs hp
theorem Drw.mk {d s : D} (hs : StoreOk s) (hp : P d) : Drw b P (b, d, [.own s]) := ⟨d, s, rfl, hs, hp⟩
theorem wp_tk (B : Base fns) {many : Int} (hk : 2 ≤ K) (hs : StoreOk st) (hb : many < 2 ^ 64) (k : ∀ (r : Int) s, StoreOk s → 0 ≤ r → (1 ≤ many → r < many) → Q (false, .int r, [.own s])) : (run fns globs fuel K "_law_take" [st, .int many]).wq Q E := by
  obtain ⟨r, s, ⟨h1, h2⟩, hs', e⟩ := B.tk (globs := globs) (fuel := fuel) hk hs hb
  rw [e, wq_ok]; exact k r s hs' h1 h2
theorem wp_pkL (B : Base fns) {l : List D} (hk : 3 ≤ K) (hs : StoreOk st) (hl : 0 < l.length) (hb : l.length < 2 ^ 60) (k : ∀ d s, StoreOk s → d ∈ l → Q (false, d, [.own s])) : (run fns globs fuel K "_law_pick" [st, .lst l]).wq Q E := by
  obtain ⟨d, s, hd, hs', e⟩ := B.pkL (globs := globs) (fuel := fuel) hk hs hl hb
  rw [e, wq_ok]; exact k d s hs' hd
/-- out of a row of texts -/
theorem wp_pkS (B : Base fns) {l : List D} (hk : 3 ≤ K) (hs : StoreOk st) (ha : l.all isStrD = true) (hl : 0 < l.length) (hb : l.length < 2 ^ 60) (k : ∀ w s, StoreOk s → D.str w ∈ l → Q (false, .str w, [.own s])) : (run fns globs fuel K "_law_pick" [st, .lst l]).wq Q E := by
  obtain ⟨d, s, hd, hs', e⟩ := B.pkL (globs := globs) (fuel := fuel) hk hs hl hb
  have := List.all_eq_true.mp ha d hd
  cases d with
  | str w => rw [e, wq_ok]; exact k w s hs' hd
  | _ => cases this
theorem wp_pkT (B : Base fns) {l : List D} (hk : 3 ≤ K) (hs : StoreOk st) (hl : 0 < l.length) (hb : l.length < 2 ^ 60) (k : ∀ d s, StoreOk s → d ∈ l → Q (false, d, [.own s])) : (run fns globs fuel K "_law_pick" [st, .tup l]).wq Q E := by
  obtain ⟨d, s, hd, hs', e⟩ := B.pkT (globs := globs) (fuel := fuel) hk hs hl hb
  rw [e, wq_ok]; exact k d s hs' hd
theorem wp_size (B : Base fns) (h : fns "_law_size" = some c__law_size) {usual most : Int} (hk : 3 ≤ K) (hs : StoreOk st) (u1 : 1 ≤ usual) (u2 : usual < 2 ^ 60) (m1 : 0 ≤ most) (m2 : most < 2 ^ 60) (k : ∀ (r : Int) s, StoreOk s → 0 ≤ r → r ≤ most → Q (false, .int r, [.own s])) : (run fns globs fuel K "_law_size" [st, .int usual, .int most]).wq Q E := by
  obtain ⟨r, s, ⟨h1, h2⟩, hs', e⟩ := size_run (globs := globs) (fuel := fuel) B h hk hs u1 u2 m1 m2
  rw [e, wq_ok]; exact k r s hs' h1 h2
/-- a list's item, its place in bounds -/
theorem wp_getR {l : List D} {i : Int} {Q : Rv → Prop} (h0 : 0 ≤ i) (h1 : i < l.length) (k : ∀ d, d ∈ l → getD l i = some d → Q (.val d)) : (R.of ((getD l i).map Rv.val)).wq Q E := by
  obtain ⟨d, hd, e⟩ := getD_in h0 h1
  rw [e]
  show (R.ok (Rv.val d)).wq Q E
  rw [wq_ok]; exact k d hd e
theorem wp_getL {l : List D} {i : Int} {Q : Rv → Prop} (h0 : 0 ≤ i) (h1 : i < l.length) (k : ∀ d, d ∈ l → getD l i = some d → Q (.val d)) : (R.of ((getD l i).map .val)).wq Q E := by
  obtain ⟨d, hd, e⟩ := getD_in h0 h1
  rw [e]
  show (R.ok (Rv.val d)).wq Q E
  rw [wq_ok]; exact k d hd e
end
def notOwn : Option Sl → Bool
  | some (.own _) => false | _ => true
theorem notOwn_val {d : D} : notOwn (some (.val d)) = true := id rfl
theorem notOwn_no : notOwn (some .no) = true := id rfl
theorem wp_cok {env : List Sl} {vs : List Nat} {tg : G.TG} {n : Nat} {Q : Unit → Prop} {E : Ex → Prop} (h : (vs.all fun v => notOwn env[v]?) = true) (ht : ((tgSlots tg).all fun i => vs.contains i) = true) (hn : n ≤ 16777216) (k : Q ()) : (R.of (compOk env vs tg n)).wq Q E := by
  have h' : (vs.all fun v => match env[v]? with | some (.own _) => false | _ => true) = true := by
    rw [List.all_eq_true] at h ⊢
    intro x hx
    have := h x hx
    revert this
    unfold notOwn
    split <;> simp
  have e : compOk env vs tg n = some () := by
    unfold compOk
    rw [if_pos]
    rw [Bool.and_eq_true, Bool.and_eq_true, decide_eq_true_eq, sizeLine_eq]
    exact ⟨⟨h', ht⟩, hn⟩
  rw [e]
  show (R.ok ()).wq Q E
  rw [wq_ok]; exact k
@[irreducible] def Cok (env : List Sl) (vs : List Nat) (tg : G.TG) (n : Nat) : Prop := compOk env vs tg n = some ()
theorem mark_cok {env : List Sl} {vs : List Nat} {tg : G.TG} {n : Nat} : R.of (compOk env vs tg n) = Rneed (Cok env vs tg n) (.ok ()) := by
  unfold Rneed Cok
  cases e : compOk env vs tg n with
  | none => rw [if_neg (fun z => nomatch z)]; rfl
  | some u => rw [if_pos rfl]; rfl
theorem Cok.mk {env : List Sl} {vs : List Nat} {tg : G.TG} {n : Nat} (h : (vs.all fun v => notOwn env[v]?) = true) (ht : ((tgSlots tg).all fun i => vs.contains i) = true) (hn : n ≤ 16777216) : Cok env vs tg n := by
  have : (R.of (compOk env vs tg n)).wq (fun _ => True) (fun _ => True) := wp_cok h ht hn trivial
  unfold Cok
  cases e : compOk env vs tg n with
  | none => rw [e] at this; change (R.stuck : R Unit).wq _ _ at this; rw [wq_stuck] at this; exact this.elim
  | some u => rfl
/-! ### loops -/
section
variable {step : D → List Sl → R (Fl × List Sl)} {E : Ex → Prop} {Q : Fl × List Sl → Prop}
/-- a loop by what holds of the items left and the slots -/
theorem wp_for (Inv : List D → List Sl → Prop) (h : ∀ d l env, Inv (d :: l) env → (step d env).wq (fun p => match p.1 with
    | .brk => Q (.next, p.2)
    | .ret o x => Q (.ret o x, p.2)
    | _ => Inv l p.2) E) (g : ∀ env, Inv [] env → Q (.next, env)) : ∀ (l : List D) (env : List Sl), Inv l env → (forL step l env).wq Q E
  | [], env, hi => by
    show (R.ok (Fl.next, env)).wq Q E
    rw [wq_ok]; exact g env hi
  | d :: l, env, hi => by
    show ((step d env).bind _).wq Q E
    rw [wpb]
    refine wp_spec (h d l env hi) fun p hp => ?_
    obtain ⟨f, env'⟩ := p
    cases f with
    | brk => exact wp_okI hp
    | ret o x => exact wp_okI hp
    | next => exact wp_for Inv h g l env' hp
    | cont => exact wp_for Inv h g l env' hp
/-- a loop over a range -/
theorem wp_rng {lo : Int} (Inv : Nat → List Sl → Prop) (n : Nat) (h : ∀ k env, k < n → Inv k env → (step (.int (lo + (k : Int))) env).wq (fun p => match p.1 with
    | .brk => Q (.next, p.2)
    | .ret o x => Q (.ret o x, p.2)
    | _ => Inv (k + 1) p.2) E) (g : ∀ env, Inv n env → Q (.next, env)) (env : List Sl) (hi : Inv 0 env) : (forL step (rngD lo n) env).wq Q E := by
  have e : rngD lo n = (List.range' 0 n).map fun (k : Nat) => D.int (lo + (k : Int)) := by unfold rngD; rw [List.range_eq_range']
  rw [e]
  have key : ∀ (m j : Nat), j + m = n → ∀ env, Inv j env → (forL step ((List.range' j m).map fun (k : Nat) => D.int (lo + (k : Int))) env).wq Q E := by
    intro m
    induction m with
    | zero => intro j hj env hi; have : j = n := by omega
              subst this; exact wp_okI (g env hi)
    | succ m ih =>
      intro j hj env hi
      rw [List.range'_succ, List.map_cons]
      show ((step _ env).bind _).wq Q E
      rw [wpb]
      refine wp_spec (h j env (by omega) hi) fun p hp => ?_
      obtain ⟨f, env'⟩ := p
      cases f with
      | brk => exact wp_okI hp
      | ret o x => exact wp_okI hp
      | next => exact ih (j + 1) (by omega) env' hp
      | cont => exact ih (j + 1) (by omega) env' hp
  exact key n 0 (by omega) env hi
end
section
variable {step : D → List Sl → R (Option D × List Sl)} {E : Ex → Prop} {Q : List D × List Sl → Prop}
theorem wp_calm {α : Type} {r : R α} {Q : α → Prop} (h : r.wq Q (fun _ => False)) : (R.calm r).wq Q E := by
  cases r with
  | ok a => rw [wq_ok] at h; exact wp_okI h
  | exc x => rw [wq_exc] at h; exact h.elim
  | stuck => rw [wq_stuck] at h; exact h.elim
/-- a comprehension by what holds of the items left, what was made, the slots -/
theorem wp_comp (Inv : List D → List D → List Sl → Prop) (h : ∀ d l out env, Inv (d :: l) out env → (step d env).wq (fun p => Inv l (out ++ p.1.toList) p.2) E) :
    ∀ {Q : List D × List Sl → Prop} (l : List D) (out : List D) (env : List Sl), Inv l out env → (∀ out' env', Inv [] (out ++ out') env' → Q (out', env')) → (compL step l env).wq Q E
  | _, [], out, env, hi, g => wp_okI (g [] env (by rw [List.append_nil]; exact hi))
  | Q, d :: l, out, env, hi, g => by
    show ((step d env).bind _).wq Q E
    rw [wpb]
    refine wp_spec (h d l out env hi) fun p hp => ?_
    show ((compL step l p.2).bind _).wq Q E
    rw [wpb]
    exact wp_comp Inv h l (out ++ p.1.toList) p.2 hp fun out' env' hi' => wp_okI <| g (p.1.toList ++ out') env' (by rw [← List.append_assoc]; exact hi')
/-- each item gives one -/
theorem wp_map (Inv : List Sl → Prop) (P : D → Prop) (h : ∀ d env, Inv env → (step d env).wq (fun p => ∃ x, p.1 = some x ∧ P x ∧ Inv p.2) E) :
    ∀ {Q : List D × List Sl → Prop} (l : List D) (env : List Sl), Inv env → (∀ out env', (∀ x, x ∈ out → P x) → out.length = l.length → Inv env' → Q (out, env')) → (compL step l env).wq Q E
  | _, [], env, hi, g => wp_okI (g [] env (fun _ h => (List.not_mem_nil h).elim) rfl hi)
  | Q, d :: l, env, hi, g => by
    show ((step d env).bind _).wq Q E
    rw [wpb]
    refine wp_spec (h d env hi) fun p ⟨x, e, px, hp⟩ => ?_
    show ((compL step l p.2).bind _).wq Q E
    rw [wpb]
    refine wp_map Inv P h l p.2 hp fun out env' ho hl hi' => ?_
    refine wp_okI ?_
    show Q (p.1.toList ++ out, env')
    rw [e]
    exact g (x :: out) env' (fun y hy => by
      rcases List.mem_cons.mp hy with rfl | hy
      · exact px
      · exact ho y hy) (by rw [List.length_cons, List.length_cons, hl]) hi'
/-- each item gives the value of a function -/
theorem wp_mapF {α : Type} (Inv : List Sl → Prop) (g f : α → D) (l : List α) (h : ∀ a, a ∈ l → ∀ env, Inv env → (step (g a) env).wq (fun p => p.1 = some (f a) ∧ Inv p.2) E) :
    ∀ (env : List Sl), Inv env → (∀ env', Inv env' → Q (l.map f, env')) → (compL step (l.map g) env).wq Q E := by
  intro env hi
  induction l generalizing Q env with
  | nil => exact fun k => wp_okI (k env hi)
  | cons a l ih =>
    intro k
    rw [List.map_cons]
    show ((step (g a) env).bind _).wq Q E
    rw [wpb]
    refine wp_spec (h a List.mem_cons_self env hi) fun p ⟨e, hp⟩ => ?_
    show ((compL step (l.map g) p.2).bind _).wq Q E
    rw [wpb]
    refine ih (fun b hb => h b (List.mem_cons_of_mem _ hb)) p.2 hp fun env' hi' => ?_
    refine wp_okI ?_
    show Q (p.1.toList ++ l.map f, env')
    rw [e]
    exact k env' hi'
/-- the items that pass a test -/
theorem wp_filt {α : Type} (Inv : List Sl → Prop) (g f : α → D) (c : α → Bool) (l : List α) (h : ∀ a, a ∈ l → ∀ env, Inv env → (step (g a) env).wq (fun p => p.1 = (if c a then some (f a) else none) ∧ Inv p.2) E) :
    ∀ (env : List Sl), Inv env → (∀ env', Inv env' → Q ((l.filter c).map f, env')) → (compL step (l.map g) env).wq Q E := by
  intro env hi
  induction l generalizing Q env with
  | nil => exact fun k => wp_okI (k env hi)
  | cons a l ih =>
    intro k
    rw [List.map_cons]
    show ((step (g a) env).bind _).wq Q E
    rw [wpb]
    refine wp_spec (h a List.mem_cons_self env hi) fun p ⟨e, hp⟩ => ?_
    show ((compL step (l.map g) p.2).bind _).wq Q E
    rw [wpb]
    refine ih (fun b hb => h b (List.mem_cons_of_mem _ hb)) p.2 hp fun env' hi' => ?_
    refine wp_okI ?_
    show Q (p.1.toList ++ (l.filter c).map f, env')
    rw [e]
    have := k env' hi'
    rw [List.filter_cons] at this
    by_cases q : c a = true
    · rw [if_pos q] at this ⊢; exact this
    · rw [if_neg q] at this ⊢; exact this
theorem rngD_map {lo : Int} {n : Nat} : rngD lo n = (List.range n).map fun (k : Nat) => D.int (lo + (k : Int)) := rfl
theorem wp_mapR {lo : Int} (Inv : List Sl → Prop) (f : Nat → D) (n : Nat) (h : ∀ k, k < n → ∀ env, Inv env → (step (.int (lo + (k : Int))) env).wq (fun p => p.1 = some (f k) ∧ Inv p.2) E) (env : List Sl) (hi : Inv env) (k : ∀ env', Inv env' → Q ((List.range n).map f, env')) : (compL step (rngD lo n) env).wq Q E :=
  wp_mapF Inv (fun (k : Nat) => D.int (lo + (k : Int))) f (List.range n) (fun a ha env hi => h a (List.mem_range.mp ha) env hi) env hi k
theorem wp_filtR {lo : Int} (Inv : List Sl → Prop) (f : Nat → D) (c : Nat → Bool) (n : Nat) (h : ∀ k, k < n → ∀ env, Inv env → (step (.int (lo + (k : Int))) env).wq (fun p => p.1 = (if c k then some (f k) else none) ∧ Inv p.2) E) (env : List Sl) (hi : Inv env) (k : ∀ env', Inv env' → Q (((List.range n).filter c).map f, env')) : (compL step (rngD lo n) env).wq Q E :=
  wp_filt Inv (fun (k : Nat) => D.int (lo + (k : Int))) f c (List.range n) (fun a ha env hi => h a (List.mem_range.mp ha) env hi) env hi k
theorem wp_mapL (Inv : List Sl → Prop) (f : D → D) (l : List D) (h : ∀ a, a ∈ l → ∀ env, Inv env → (step a env).wq (fun p => p.1 = some (f a) ∧ Inv p.2) E) (env : List Sl) (hi : Inv env) (k : ∀ env', Inv env' → Q (l.map f, env')) : (compL step l env).wq Q E := by
  have := wp_mapF Inv id f l h env hi k
  rwa [List.map_id] at this
theorem wp_filtL (Inv : List Sl → Prop) (f : D → D) (c : D → Bool) (l : List D) (h : ∀ a, a ∈ l → ∀ env, Inv env → (step a env).wq (fun p => p.1 = (if c a then some (f a) else none) ∧ Inv p.2) E) (env : List Sl) (hi : Inv env) (k : ∀ env', Inv env' → Q ((l.filter c).map f, env')) : (compL step l env).wq Q E := by
  have := wp_filt Inv id f c l h env hi k
  rwa [List.map_id] at this
end
section
variable {step : D → List Sl → R (Fl × List Sl)} {E : Ex → Prop} {Q : Fl × List Sl → Prop}
/-- a loop over the images of a list -/
theorem wp_forF {α : Type} (g : α → D) (Inv : List α → List Sl → Prop) (h : ∀ d l env, Inv (d :: l) env → (step (g d) env).wq (fun p => match p.1 with
    | .brk => Q (.next, p.2)
    | .ret o x => Q (.ret o x, p.2)
    | _ => Inv l p.2) E) (k : ∀ env, Inv [] env → Q (.next, env)) (l : List α) (env : List Sl) (hi : Inv l env) : (forL step (l.map g) env).wq Q E := by
  refine wp_for (fun m env => ∃ l, m = l.map g ∧ Inv l env) ?_ ?_ _ env ⟨l, rfl, hi⟩
  · rintro d m env ⟨l, e, hi⟩
    cases l with
    | nil => cases e
    | cons a l =>
      rw [List.map_cons] at e
      cases e
      refine wp_spec (h a l env hi) fun p hp => ?_
      obtain ⟨f, env'⟩ := p
      cases f with
      | brk => exact hp
      | ret o x => exact hp
      | next => exact ⟨l, rfl, hp⟩
      | cont => exact ⟨l, rfl, hp⟩
  · rintro env ⟨l, e, hi⟩
    cases l with
    | nil => exact k env hi
    | cons a l => cases e
end
end G

set_option Elab.async false
set_option linter.all false
set_option maxRecDepth 100000
set_option maxHeartbeats 0
/-! G, part 15: texts; rows of unlike names. -/
namespace G
open PySem
def q__law_names_1 : CE := (.p2 .notIn (.p2 .add (.const (.str "n")) (.p1 .str (.var 10))) (.var 2))
def q__law_names_2 : CE := (.p2 .add (.const (.str "n")) (.p1 .str (.var 10)))
def q__law_names_0 : CSs := (.cons (.asg 8 (.var 4)) (.cons (.ifS (.var 3) (.cons (.asg 8 (.p2 .add (.p2 .add (.p2 .sto (.var 4) (.var 5)) (.p2 .get (.const (.str "abcdefghijklmnopqrstuvwxyz")) (.p2 .mod (.p1 .int (.p2 .add (.var 6) (.p2 .mul (.const (.int (7))) (.var 7)))) (.const (.int (26)))))) (.p2 .sfrom (.var 4) (.p2 .add (.var 5) (.const (.int (1))))))) .nil) (.cons (.ifS (.p2 .gt (.var 7) (.const (.int (0)))) (.cons (.asg 8 (.call "_law_name" (.cons (.var 0) .nil))) .nil) .nil) .nil)) (.cons (.ifS (.orE (.p2 .inn (.var 8) (.var 2)) (.p2 .inn (.var 8) (.tup (.cons (.const (.str "yes")) (.cons (.const (.str "no")) (.cons (.const (.str "none")) .nil)))))) (.cons (.asg 9 (.compIf [10] (.name 10) (.rng1 (.p2 .add (.var 1) (.const (.int (1))))) q__law_names_1 q__law_names_2)) (.cons (.asg 8 (.p2 .get (.var 9) (.const (.int (0))))) .nil)) .nil) (.cons (.expr (.mut 2 .append (.cons (.var 8) .nil))) .nil))))
def c__law_names : CFn := ⟨11, [true, false], (.cons (.asg 2 (.lst .nil)) (.cons (.asg 3 (.p2 .eq (.call "_law_take" (.cons (.var 0) (.cons (.const (.int (3))) .nil))) (.const (.int (0))))) (.cons (.asg 4 (.call "_law_name" (.cons (.var 0) .nil))) (.cons (.asg 5 (.call "_law_take" (.cons (.var 0) (.cons (.p1 .len (.var 4)) .nil)))) (.cons (.asg 6 (.call "_law_take" (.cons (.var 0) (.cons (.const (.int (26))) .nil)))) (.cons (.forS (.name 7) (.rng1 (.var 1)) q__law_names_0) (.cons (.ret (.var 2)) .nil)))))))⟩
theorem l__law_names : c__law_names.lent = [true, false] := id rfl
section
variable {s x y : Str} {i j : Int} {l : List D} {ns : List Str}
@[irreducible] def cutS (s : Str) (lo hi : Option Int) : Str := ⟨(cutL s.cps.toList lo hi).toArray⟩
theorem p_stoS : prim2 .sto (.str s) (.int i) = if s.length ≤ sizeLine then some (.val (.str (cutS s none (some i)))) else none := by unfold cutS; rfl
theorem p_sfromS : prim2 .sfrom (.str s) (.int i) = if s.length ≤ sizeLine then some (.val (.str (cutS s (some i) none))) else none := by unfold cutS; rfl
theorem p_sliceS {k3 : Bool} : prim3 .slice k3 (.str s) (.int i) (.int j) = if s.length ≤ sizeLine then some (.val (.str (cutS s (some i) (some j)))) else none := by unfold cutS; rfl
theorem p_lenS : prim1 .len (.str s) = if s.length ≤ sizeLine then some (.val (.int s.length)) else none := id rfl
theorem p_strI : prim1 .str (.int i) = if i.natAbs.log2 < 1920 then some (.val (.str (toString i))) else none := id rfl
theorem log2_small {n : Nat} (h : n < 1000000000) : n.log2 < 1920 := by
  by_cases z : n = 0
  · subst z; decide
  · rw [Nat.log2_lt z]
    exact Nat.lt_of_lt_of_le h (Nat.le_trans (by decide : 1000000000 ≤ 2 ^ 30) (Nat.pow_le_pow_right (by decide) (by decide)))
theorem strs_flat : (ns.map D.str).all flatD = true := by
  rw [List.all_eq_true]
  intro d hd
  obtain ⟨x, _, rfl⟩ := List.mem_map.mp hd
  rfl
theorem strs_any : ((ns.map D.str).any fun y => eqF y (.str x)) = decide (x ∈ ns) := by
  rw [List.any_map]
  induction ns with
  | nil => rfl
  | cons n ns ih =>
    rw [List.any_cons, ih]
    show (n == x || decide (x ∈ ns)) = _
    by_cases h : n = x
    · subst h; simp
    · have e1 : (n == x) = false := beq_eq_false_iff_ne.mpr h
      have e2 : (x ∈ n :: ns) ↔ x ∈ ns := by
        rw [List.mem_cons]
        exact ⟨fun q => q.elim (fun q => (h q.symm).elim) id, .inr⟩
      rw [e1, Bool.false_or, decide_eq_decide.mpr e2]
theorem inD_ls : inD (.str x) (.lst (ns.map .str)) = some (decide (x ∈ ns)) := by rw [inD_lst rfl strs_flat, strs_any]
theorem inD_ts : inD (.str x) (.tup (ns.map .str)) = some (decide (x ∈ ns)) := by rw [inD_tup rfl strs_flat, strs_any]
theorem snoc_strs : ns.map D.str ++ [.str x] = (ns ++ [x]).map .str := by simp
theorem cutS_list {lo hi : Option Int} : (cutS s lo hi).cps.toList = cutL s.cps.toList lo hi := by unfold cutS; simp
theorem cutS_le {lo hi : Option Int} : (cutS s lo hi).length ≤ s.length := by
  rw [str_len, str_len, cutS_list]
  unfold cutL
  rw [List.length_take, List.length_drop]
  omega
theorem cutL_to {α : Type} {l : List α} {k : Int} (h : 0 ≤ k) : cutL l none (some k) = l.take k.toNat := by
  unfold cutL
  show List.take (HT.sIx l.length l.length (some k) - 0) (l.drop 0) = _
  have : HT.sIx l.length l.length (some k) = min k.toNat l.length := by
    unfold HT.sIx
    simp only
    split <;> omega
  rw [this, List.drop_zero, Nat.sub_zero, List.take_eq_take_iff]
  omega
theorem cutL_from {α : Type} {l : List α} {k : Int} (h : 0 ≤ k) : cutL l (some k) none = l.drop k.toNat := by
  unfold cutL
  show List.take (l.length - HT.sIx l.length 0 (some k)) (l.drop (HT.sIx l.length 0 (some k))) = _
  have e : HT.sIx l.length 0 (some k) = min k.toNat l.length := by
    unfold HT.sIx
    simp only
    split <;> omega
  rw [e]
  by_cases hl : k.toNat ≤ l.length
  · rw [Nat.min_eq_left hl, List.take_of_length_le (by rw [List.length_drop]; omega)]
  · rw [Nat.min_eq_right (by omega), List.drop_length, List.take_nil, List.drop_eq_nil_of_le (by omega)]
theorem nameL_len {l : List Nat} (h : nameL l = true) : 1 ≤ l.length ∧ l.length ≤ 12 := by
  cases l with
  | nil => cases h
  | cons c l =>
    simp only [nameL, Bool.and_eq_true, decide_eq_true_eq] at h
    simp only [List.length_cons]
    omega
/-- a letter in the place of a sign -/
theorem nameL_put {l : List Nat} {c k : Nat} (h : nameL l = true) (hk : k < l.length) (hc : lowB c = true) : nameL (l.take k ++ [c] ++ l.drop (k + 1)) = true := by
  have len : (l.take k ++ [c] ++ l.drop (k + 1)).length = l.length := by simp; omega
  cases l with
  | nil => cases h
  | cons a l =>
    have h0 := h
    simp only [nameL, Bool.and_eq_true, decide_eq_true_eq] at h
    cases k with
    | zero =>
      simp only [List.take_zero, List.nil_append, List.cons_append, List.drop_succ_cons, List.drop_zero, nameL, Bool.and_eq_true, decide_eq_true_eq]
      exact ⟨⟨hc, h.1.2⟩, h.2⟩
    | succ k =>
      simp only [List.take_succ_cons, List.cons_append, List.drop_succ_cons, nameL, Bool.and_eq_true, decide_eq_true_eq] at len ⊢
      refine ⟨⟨h.1.1, ?_⟩, by simp only [List.length_cons] at len; omega⟩
      rw [List.all_append, List.all_append, Bool.and_eq_true, Bool.and_eq_true]
      have ha := List.all_eq_true.mp h.1.2
      refine ⟨⟨List.all_eq_true.mpr fun x hx => ha x (List.mem_of_mem_take hx), by simp [hc]⟩, List.all_eq_true.mpr fun x hx => ha x (List.mem_of_mem_drop hx)⟩
def alpha : Str := "abcdefghijklmnopqrstuvwxyz"
theorem alpha_get {r : Int} (h0 : 0 ≤ r) (h : r < 26) : ∃ c, prim2 .get (.str "abcdefghijklmnopqrstuvwxyz") (.int r) = some (.val (.str ⟨#[c]⟩)) ∧ lowB c = true := by
  have hl : alpha.cps.toList.length = 26 := by decide +kernel
  have hs : alpha.length = 26 := by decide +kernel
  have hj : r.toNat < alpha.cps.toList.length := by omega
  have all : ∀ j : Fin 26, (match alpha.cps.toList[j.val]? with | some c => lowB c | none => false) = true := by decide +kernel
  have a := all ⟨r.toNat, by omega⟩
  have g : alpha.cps.toList[r.toNat]? = some alpha.cps.toList[r.toNat] := by simp [hj]
  refine ⟨alpha.cps.toList[r.toNat], ?_, ?_⟩
  · show (if alpha.length ≤ sizeLine then (ixOf alpha.cps.toList.length r).bind fun j => (alpha.cps.toList[j]?).map fun c => Rv.val (.str ⟨#[c]⟩) else none) = _
    rw [if_pos (by rw [hs, sizeLine_eq]; decide)]
    unfold ixOf
    rw [if_pos h0, if_pos (by omega)]
    show (alpha.cps.toList[r.toNat]?).map _ = _
    rw [g]; rfl
  · simp only [g] at a
    exact a
theorem wp_alpha {r : Int} {Q : Rv → Prop} {E : Ex → Prop} (h0 : 0 ≤ r) (h : r < 26) (k : ∀ c, lowB c = true → Q (.val (.str ⟨#[c]⟩))) : (R.of (prim2 .get (.str "abcdefghijklmnopqrstuvwxyz") (.int r))).wq Q E := by
  obtain ⟨c, e, hc⟩ := alpha_get h0 h
  rw [e]; exact wp_okI (k c hc)
/-- the names that stand in for doubled ones -/
def stand (k : Nat) : Str := ("n" : Str) ++ (toString (0 + (k : Int)) : Str)
theorem stand_ok {k : Nat} (h : k < 20) : nameB (stand k) = true := by
  have : ∀ k : Fin 20, nameB (stand k.val) = true := by decide +kernel
  exact this ⟨k, h⟩
theorem stand_inj {j k : Nat} (hj : j < 20) (hk : k < 20) (h : stand j = stand k) : j = k := by
  have : ∀ j k : Fin 20, stand j.val = stand k.val → j.val = k.val := by decide +kernel
  exact this ⟨j, hj⟩ ⟨k, hk⟩ h
/-- one of them is new -/
theorem stand_new {ns : List Str} {n : Nat} (h : ns.length < n) (hn : n ≤ 20) : (List.range n).filter (fun k => decide (stand k ∉ ns)) ≠ [] := by
  intro z
  have all : ∀ k, k ∈ List.range n → stand k ∈ ns := fun k hk => by
    rcases Decidable.em (stand k ∈ ns) with h | h
    · exact h
    · have : k ∈ (List.range n).filter (fun k => decide (stand k ∉ ns)) := List.mem_filter.mpr ⟨hk, decide_eq_true h⟩
      rw [z] at this; cases this
  have nd : ((List.range n).map stand).Nodup := by
    rw [List.Nodup, List.pairwise_map]
    refine List.Pairwise.imp_of_mem ?_ (List.nodup_range (n := n))
    intro a b ha hb hab e
    exact hab (stand_inj (by have := List.mem_range.mp ha; omega) (by have := List.mem_range.mp hb; omega) e)
  have le := nd.length_le_of_subset (l₂ := ns) fun x hx => by
    obtain ⟨k, hk, rfl⟩ := List.mem_map.mp hx
    exact all k hk
  rw [List.length_map, List.length_range] at le
  omega
end
section
variable {fns : Str → Option CFn} {globs : Str → Option D} {fuel : Nat}
theorem nameB_L {x : Str} (h : nameB x = true) : nameL x.cps.toList = true := by
  simp only [nameB, Bool.and_eq_true] at h
  exact h.1.1.1
theorem nameB_len {x : Str} (h : nameB x = true) : 1 ≤ x.length ∧ x.length ≤ 12 := by
  rw [str_len]; exact nameL_len (nameB_L h)
theorem wp_name (B : Base fns) (h : fns "_law_name" = some c__law_name) {K : Nat} {st : D} {Q : Out → Prop} {E : Ex → Prop} (hk : 4 ≤ K) (hs : StoreOk st) (k : ∀ (x : Str) s, StoreOk s → nameB x = true → 1 ≤ x.length → x.length ≤ 12 → Q (false, .str x, [.own s])) : (run fns globs fuel K "_law_name" [st]).wq Q E := by
  obtain ⟨x, s, hx, hs', e⟩ := name_run (globs := globs) (fuel := fuel) B h hk hs
  rw [e]; exact wp_okI <| k x s hs' hx (nameB_len hx).1 (nameB_len hx).2
theorem nameB_of {x : Str} (h : nameL x.cps.toList = true) (h1 : ¬ x = "yes") (h2 : ¬ x = "no") (h3 : ¬ x = "none") : nameB x = true := by
  simp [nameB, h, h1, h2, h3]
theorem put_name {x : Str} {k : Int} {c : Nat} (h : nameB x = true) (h0 : 0 ≤ k) (h1 : k < x.length) (hc : lowB c = true) : nameL ((cutS x none (some k) ++ (⟨#[c]⟩ : Str)) ++ cutS x (some (k + 1)) none).cps.toList = true := by
  rw [app_list, app_list, cutS_list, cutS_list, cutL_to h0, cutL_from (by omega)]
  have e : (k + 1).toNat = k.toNat + 1 := by omega
  rw [e]
  exact nameL_put (nameB_L h) (by rw [← str_len]; omega) hc
local macro_rules | `(tactic| walk_at "ew") => `(tactic| ((with_reducible apply wp_simp); (next => simp (disch := first | assumption | omega | decide +kernel) only [G.bind_ok, G.bind_of, G.e_const, G.e_var, G.e_p1, G.e_p2, G.e_p3, G.e_and, G.e_or, G.e_not, G.e_if, G.e_tup, G.e_lst, G.e_dic, G.e_call, G.e_mut, G.e_comp, G.e_compIf, G.es_nil, G.es_cons, G.ei_v, G.ei_e, G.ei_1, G.e_glob, G.e_chain, G.e_tried, G.hide_own, G.hide_val, G.hide_no', G.low_eq, G.runLow_at, G.x_raise, G.ka_raise, G.e_dicz, G.ei_rev, G.ei_zip, G.ei_3, G.ei_2, G.ka_p1, G.ka_p2b, G.ka_p2, G.ka_p3c, G.ka_p3b, G.ka_p3, G.ka_and, G.ka_or, G.ka_not, G.ka_if, G.ka_tup, G.ka_lst, G.ka_dic, G.ka_fin, G.ka_call, G.ka_mut, G.ka_cmp2, G.ka_cmp, G.ka_es2, G.ka_es, G.ka_iv, G.ka_ie, G.small62_c, G.ka_i1, G.ka_i2, G.ka_i2b, G.x_pass, G.x_brk, G.x_cont, G.x_retN, G.x_asg, G.x_asgT, G.x_setI, G.x_expr, G.x_ret, G.x_if, G.x_for, G.xs_nil, G.xs_cons, G.ka_asgF, G.ka_asgV, G.ka_asgS, G.ka_asgT, G.ka_set, G.ka_set2, G.ka_expr, G.ka_retV, G.ka_retF, G.ka_retS, G.ka_ifS, G.ka_for, G.ka_seqN, G.ka_seqR, G.ka_seqB, G.ka_seqC, G.ka_bodyN, G.ka_bodyR, G.body_eq, G.forL_nil, G.stepS_eq, G.ka_stepN, G.ka_stepC, G.ka_stepB, G.ka_stepR, G.c_val, G.c_fresh, G.f_val, G.f_fresh, G.ob_some, G.om_some, G.asB_b, G.tr_b, G.fin_f, G.fin_b, G.p_addI, G.p_iaddI, G.p_isubI, G.p_subI, G.p_mulI, G.p_fdiv, G.p_mod, G.p_pow, G.p_lt, G.p_le, G.p_gt, G.p_ge, G.p_eq, G.p_ne, G.boolR_s, G.p_intI, G.p_getT, G.p_getL, G.p_getK, G.p_lenT, G.p_lenL, G.p_lenF, G.p_tupL, G.p_tupT, G.p_lstT, G.p_lstF, G.p_addT, G.p_addL, G.small_r, G.small_mod, G.cont_slot, G.freeze_slot', G.ob_none, G.om_none, G.keys_ne, G.natAbs10, G.natAbs2, G.w_tup, G.w_lst, G.w_frz, G.fa_nil, G.fa_cons, G.calm_ok, G.n_non, G.n_bl, G.n_int, G.n_str, G.n_tup, G.n_lst, G.t_non, G.t_bl, G.t_int, G.t_str, G.t_tup, G.t_lst, G.u_tup, G.u_lst, G.u_int, G.p_backT, G.p_backL, G.p_strS, G.getD_0, G.getD_1, G.getD_2, G.getD_3, G.getD_5, G.getD_6, G.getD_7, G.getD_8, G.getD_4, G.compL_nil, G.ka_cc, G.ka_cc2, G.ka_el, G.stepOf_n, G.wipe1, G.rest1, G.rngD_len, G.compOk_1, G.p_getOr, G.pre_getOr, G.preb_getOr, G.p_max, G.p_min, G.p_stoL, G.p_stoT, G.p_mulT, G.p_sfromT, G.p_sfromL, G.p_sliceT, G.p_sliceL, G.pre_slice, G.preb_slice, G.p_inn, G.p_notIn, G.p_addS, G.p_mulL, G.stepOf_c, G.ka_cond, G.ka_ch, G.ka_ch1, G.ka_ch2, G.ka_irev, G.it_tup, G.it_lst, G.it_frz, G.ka_iz, G.ka_iz2, G.zo_tup, G.zo_lst, G.ka_i3, G.ka_i3b, G.ka_i3c, G.ka_dicz, G.p_idx, G.pre_idx, G.p_idxT, G.pre_idxT, G.preb_idx, G.m_app, G.m_popAt, G.m_ins, G.set_lst, G.set_dic, G.cast0, G.cast1, G.cast2, G.cast3, G.cast4, G.cast5, G.cast6, G.retd, G.deq_iff, G.eqD_bl, G.eqD_int, G.z_List_zip_cons_cons, G.z_List_zip_nil_left, G.z_List_zip_nil_right, G.z_List_foldl_cons, G.z_List_foldl_nil, G.z_fin_true, G.z_eq_self, G.z_Option_getD_some, G.z_Option_getD_none, G.z_List_length_cons, G.z_List_length_nil, G.z_List_cons_append, G.z_List_nil_append, G.z_List_getElem__cons_zero, G.z_List_getElem__cons_succ, G.z_List_getElem__nil, G.z_List_set_cons_zero, G.z_List_set_cons_succ, G.z_List_getD_cons_zero, G.z_List_getD_cons_succ, G.z_List_getD_nil, G.z_if_true, G.z_if_false, G.z_and_self, G.z_and_true, G.z_true_and, G.z_Nat_zero_add, G.z_decide_true, G.z_decide_false, G.z_Bool_false_eq_true, G.z_Sum_inr_injEq, G.z_List_any_cons, G.z_List_any_nil, G.z_List_map_cons, G.z_List_map_nil, G.z_Bool_or_false, G.z_Bool_false_or, G.z_Bool_or_true, G.z_Bool_true_or, G.z_sizeLine_eq, G.z_List_nodup_nil, G.z_List_nodup_cons, G.z_List_not_mem_nil, G.z_not_false_eq_true, G.z_ne_eq, G.z_Option_some_injEq, G.z_implies_true, G.z_Bool_and_true, G.z_Bool_true_and, G.z_Bool_and_false, G.z_Bool_false_and, G.z_List_isEmpty_nil, G.z_List_isEmpty_cons, G.z_Bool_not_true, G.z_Bool_not_false, G.z_List_length_map, G.z_ite_self, G.z_decide_eq_true_eq, G.z_Bool_and_eq_true, G.z_Bool_or_eq_true, G.z_Bool_not_eq_true, G.z_Bool_or_self, G.z_Bool_and_self, G.z_List_all_cons, G.z_List_all_nil, G.z_Bool_not_eq_eq_eq_not, G.z_Option_map_some, G.z_Option_map_none, G.z_Int_sub_zero, G.z_Int_zero_add, G.z_decide_not, G.z_decide_eq_false_iff_not, G.z_Bool_decide_eq_true, G.z_ge_iff_le, G.z_gt_iff_lt, G.bq_tt, G.bq_tf, G.bq_ft, G.bq_ff, G.told_eq, G.mark_ite, G.rite_t, G.rite_f, G.mark_need, G.need_t, G.of_s, G.add_le3, G.not_le_iff, G.seq_ne, G.beq_str, G.deq_false, G.ixOf_int, G.toNat_c, G.all_c, G.all_n, G.any_c, G.any_n, G.asb_n, G.asb_c, G.id_b, G.all_true, G.isB_b, G.isB_n, G.isNB_b, G.isNB_n, G.nn_non, G.nn_bl, G.nn_int, G.nn_str, G.p_lstL, G.inD_tu, G.inD_lu, G.fl_s, G.fl_i, G.fl_b, G.fl_n, G.fl_t, G.fl_l, G.eqF_ss, G.eqF_ii, G.eqF_bb, G.eqF_nn, G.eqF_si, G.eqF_is, G.eqF_sn, G.eqF_ns, G.eqF_in, G.eqF_ni, G.mark_cok, G.p_stoS, G.p_sfromS, G.p_sliceS, G.p_lenS, G.p_strI, G.strs_flat, G.strs_any, G.inD_ls, G.inD_ts, Nat.reduceAdd, Nat.reduceSub, Nat.reduceLT, Nat.reduceLeDiff, reduceIte, Int.reducePow, Int.reduceNeg, Int.reduceLT, Int.reduceLE, reduceCtorEq, Int.reduceSub, Int.reduceAdd, Int.reduceToNat, Int.reduceAbs, Nat.reducePow, List.replicate, mkDic, startE, finals, store, lookK, putKD, ownX, ownL, callFn, passVals, conts, lentSlots, putBack, isScal, assignT, G.storeAll, lentOwn, l__law_take, l__law_name, l__law_names, p_stoS, p_sfromS, p_lenS, p_strI, inD_ls, strs_flat, strs_any, snoc_strs, Bool.or_false, *]; exact rfl)))
local macro_rules | `(tactic| walk_at "st") => `(tactic| first | (((with_reducible apply wp_rite) <;> intro _) <;> try (exfalso; omega)) | ((with_reducible apply wp_need); (next => first | ((with_reducible apply Cok.mk) <;> first | decide | (simp only [List.all_cons, List.all_nil, Bool.and_true, List.getElem?_cons_zero, List.getElem?_cons_succ, notOwn_val, notOwn_no, *]) | omega | (split <;> omega) | (refine ⟨?_, ?_⟩ <;> omega) | (refine ⟨?_, ?_, ?_⟩ <;> omega) | (simp only [rngD_len, List.length_cons, List.length_nil, List.length_append, List.length_map, app_len, len1]; omega) | ((with_reducible apply add_le3); (next => exact cut_len); (next => exact cut_len); omega) | (try (simp only [app_len, len1]); (with_reducible apply add_le3); (next => first | exact cutS_le | exact Nat.add_le_add_right cutS_le 1 | exact Nat.le_refl _); (next => first | exact cutS_le | exact Nat.le_refl _); (first | omega | (simp only [app_len, len1]; omega)))) | (with_reducible assumption) | omega | (split <;> omega) | (refine ⟨?_, ?_⟩ <;> omega) | (refine ⟨?_, ?_, ?_⟩ <;> omega) | (simp only [rngD_len, List.length_cons, List.length_nil, List.length_append, List.length_map, app_len, len1]; omega) | ((with_reducible apply add_le3); (next => exact cut_len); (next => exact cut_len); omega) | (try (simp only [app_len, len1]); (with_reducible apply add_le3); (next => first | exact cutS_le | exact Nat.add_le_add_right cutS_le 1 | exact Nat.le_refl _); (next => first | exact cutS_le | exact Nat.le_refl _); (first | omega | (simp only [app_len, len1]; omega))))) | ((with_reducible apply wp_getR); (next => first | omega | (split <;> omega) | (refine ⟨?_, ?_⟩ <;> omega) | (refine ⟨?_, ?_, ?_⟩ <;> omega) | (simp only [rngD_len, List.length_cons, List.length_nil, List.length_append, List.length_map, app_len, len1]; omega) | ((with_reducible apply add_le3); (next => exact cut_len); (next => exact cut_len); omega) | (try (simp only [app_len, len1]); (with_reducible apply add_le3); (next => first | exact cutS_le | exact Nat.add_le_add_right cutS_le 1 | exact Nat.le_refl _); (next => first | exact cutS_le | exact Nat.le_refl _); (first | omega | (simp only [app_len, len1]; omega)))); (next => first | omega | (split <;> omega) | (refine ⟨?_, ?_⟩ <;> omega) | (refine ⟨?_, ?_, ?_⟩ <;> omega) | (simp only [rngD_len, List.length_cons, List.length_nil, List.length_append, List.length_map, app_len, len1]; omega) | ((with_reducible apply add_le3); (next => exact cut_len); (next => exact cut_len); omega) | (try (simp only [app_len, len1]); (with_reducible apply add_le3); (next => first | exact cutS_le | exact Nat.add_le_add_right cutS_le 1 | exact Nat.le_refl _); (next => first | exact cutS_le | exact Nat.le_refl _); (first | omega | (simp only [app_len, len1]; omega)))); intro _ _ _) | ((with_reducible apply wp_tk); (next => assumption); (next => omega); (next => assumption); (next => first | decide | omega); intro _ _ _ _ _) | ((with_reducible apply wp_name); (next => assumption); (next => assumption); (next => omega); (next => assumption); intro _ _ _ _ _ _) | ((with_reducible apply wp_alpha); (next => omega); (next => omega); intro _ _))
local macro_rules | `(tactic| walk_at "wps") => `(tactic| repeat' (first | (with_reducible apply wp_okI) | (with_reducible apply wp_excI) | (with_reducible apply wp_bI) | (with_reducible apply wp_tri) | ((with_reducible apply wp_tx); (next => first | (with_reducible exact G.er_BadText) | (with_reducible exact G.er_Malformed) | (with_reducible exact G.er_Misnamed) | (with_reducible exact G.er_Doubled) | (with_reducible exact G.er_Unknown) | (with_reducible exact G.er_TooMany) | (with_reducible exact G.er_Ring) | (with_reducible exact G.er_Unlawful) | (with_reducible exact G.er_NotAllowed) | (with_reducible exact G.er_NotOne) | (with_reducible exact G.er_Shared) | (with_reducible exact G.er_Unlike) | (with_reducible exact G.er_Forced))) | (walk_at "ew") | (walk_at "st") | dsimp only))
theorem names_ok (B : Base fns) (hn : fns "_law_name" = some c__law_name) (h : fns "_law_names" = some c__law_names) {K : Nat} {st : D} {n : Nat} (hK : 6 ≤ K) (hs : StoreOk st) (h15 : n ≤ 15) :
    (run fns globs fuel K "_law_names" [st, .int n]).wq (Drw true fun d => ∃ ns : List Str, d = .lst (ns.map .str) ∧ ns.Nodup ∧ ns.length = n ∧ ∀ x, x ∈ ns → nameB x = true) (fun _ => False) := by
  obtain ⟨K, rfl⟩ : ∃ k, K = k + 1 := ⟨K - 1, by omega⟩
  have bt := B.take
  rw [run_succ h]
  unfold c__law_names
  walk_at "wps"
  rename_i tw s1 h1 tw0 tw1 stem s2 h2 hstem l1 l2 at_ s3 h3 a0 a1 start s4 h4 b0 b1
  have a1 := a1 (by omega)
  have b1 := b1 (by omega)
  try rw [Int.toNat_natCast]
  refine wp_rng (fun k env => ∃ s ns b y7 y8 y9 y10, env = [.own s, .val (.int n), .own (.lst (ns.map .str)), .val (.bl b), .val (.str stem), .val (.int at_), .val (.int start), y7, y8, y9, y10] ∧ StoreOk s ∧ ns.Nodup ∧ ns.length = k ∧ (∀ x, x ∈ ns → nameB x = true) ∧ notOwn (some y10) = true) n ?_ ?_ _ ⟨_, [], _, _, _, _, _, rfl, h4, List.nodup_nil, rfl, fun _ h => (List.not_mem_nil h).elim, rfl⟩
  · rintro k env hk ⟨s, ns, tb, y7, y8, y9, y10, rfl, hs5, nd, nl, hns, hy⟩
    unfold q__law_names_0
    clear h1 h2 h3 h4 tw0 tw1 hs
    have c1 := cutS_le (s := stem) (lo := none) (hi := some at_)
    have c2 := cutS_le (s := stem) (lo := some (at_ + 1)) (hi := none)
    have hne := stand_new (ns := ns) (n := n + 1) (by omega) (by omega)
    obtain ⟨a, t, e⟩ : ∃ a t, (List.range (n + 1)).filter (fun k => decide (stand k ∉ ns)) = a :: t := by
      cases q : (List.range (n + 1)).filter (fun k => decide (stand k ∉ ns)) with
      | nil => exact (hne q).elim
      | cons a t => exact ⟨a, t, rfl⟩
    have ha : a ∈ (List.range (n + 1)).filter (fun k => decide (stand k ∉ ns)) := by rw [e]; exact List.mem_cons_self
    obtain ⟨ha1, ha2⟩ := List.mem_filter.mp ha
    have ha1 := List.mem_range.mp ha1
    have ha2 := of_decide_eq_true ha2
    have sok := stand_ok (k := a) (by omega)
    have last : ∀ x, x ∉ ns → nameB x = true → (ns ++ [x]).Nodup ∧ (ns ++ [x]).length = k + 1 ∧ ∀ y, y ∈ ns ++ [x] → nameB y = true := fun x hx hn => by
      refine ⟨List.nodup_append.mpr ⟨nd, by simp, ?_⟩, by simp [nl], fun y hy => ?_⟩
      · intro y hy z hz
        rw [List.mem_singleton] at hz
        subst hz
        intro q
        subst q
        exact hx hy
      · rcases List.mem_append.mp hy with hy | hy
        · exact hns y hy
        · rw [List.mem_singleton] at hy
          rw [hy]; exact hn
    have en : ((n : Int) + 1).toNat = n + 1 := by omega
    clear hne ha
    cases tb <;> walk_at "wps"
    all_goals first
      | (refine ⟨_, _, _, _, _, _, _, rfl, by assumption, (last _ (by assumption) ?_).1, (last _ (by assumption) ?_).2.1, (last _ (by assumption) ?_).2.2, by assumption⟩
         all_goals first
           | assumption
           | (exact nameB_of (put_name (by assumption) (by omega) (by omega) (by assumption)) (fun q => ‹¬ (_ ∨ _ ∨ _)› (.inl q.symm)) (fun q => ‹¬ (_ ∨ _ ∨ _)› (.inr (.inl q.symm))) (fun q => ‹¬ (_ ∨ _ ∨ _)› (.inr (.inr q.symm)))))
      | (refine wp_calm ?_
         refine wp_filtR (fun env => ∃ y, env = [_, _, _, _, _, _, _, _, _, _, y] ∧ notOwn (some y) = true) (fun k => .str (stand k)) (fun k => decide (stand k ∉ ns)) (n + 1) ?_ _ ⟨_, rfl, hy⟩ ?_
         · rintro j env hj ⟨y, rfl, hy'⟩
           unfold q__law_names_1 q__law_names_2
           have sl := (nameB_len (stand_ok (k := j) (by omega))).2
           unfold stand at *
           have g1 := log2_small (n := (0 + (j : Int)).natAbs) (by omega)
           rw [app_len] at sl
           rw [Int.zero_add] at sl g1
           clear e last sok ha2
           walk_at "wps"
           all_goals (refine ⟨?_, _, rfl, rfl⟩; rw [Int.zero_add])
           · rw [if_pos (decide_eq_true (by assumption))]
           · rw [if_neg (fun q => ‹¬ ¬ _› (of_decide_eq_true q))]
         · rintro env ⟨y, rfl, hy'⟩
           rw [e, List.map_cons]
           walk_at "wps"
           refine ⟨_, _, _, _, _, _, _, rfl, by assumption, (last _ ha2 sok).1, (last _ ha2 sok).2.1, (last _ ha2 sok).2.2, by assumption⟩)
  · rintro env ⟨s, ns, tb, y7, y8, y9, y10, rfl, hs5, nd, nl, hns, hy⟩
    walk_at "wps"
    exact Drw.mk hs5 ⟨ns, rfl, nd, nl, hns⟩
end
end G

set_option Elab.async false
set_option linter.all false
set_option maxRecDepth 100000
set_option maxHeartbeats 0
/-! G, part 16: words and names, as the program looks at them. -/
namespace G
open PySem
def q_is_word_0 : CE := (.orE (.p2 .inn (.var 1) (.glob "LETTERS")) (.p2 .inn (.var 1) (.glob "DIGITS")))
def c_is_word : CFn := ⟨2, [false], (.cons (.ifS (.orE (.notE (.chain .le .le (.const (.int (1))) (.p1 .len (.var 0)) (.glob "LONGEST_WORD"))) (.p2 .notIn (.p2 .get (.var 0) (.const (.int (0)))) (.glob "LETTERS"))) (.cons (.ret (.const (.bl false))) .nil) .nil) (.cons (.ret (.p1 .all (.comp [1] (.name 1) (.val (.var 0)) q_is_word_0))) .nil))⟩
theorem l_is_word : c_is_word.lent = [false] := id rfl
def c_check_name : CFn := ⟨1, [false], (.cons (.ifS (.orE (.notE (.call "is_word" (.cons (.var 0) .nil))) (.p2 .inn (.var 0) (.tup (.cons (.const (.str "yes")) (.cons (.const (.str "no")) (.cons (.const (.str "none")) .nil)))))) (.cons (.raise "Misnamed" ["name"] (.cons (.var 0) .nil)) .nil) .nil) (.cons (.ret (.var 0)) .nil))⟩
theorem l_check_name : c_check_name.lent = [false] := id rfl
theorem eq_exc {α : Type} {r : R α} {x : Ex} (h : r.wq (fun _ => False) (fun y => y = x)) : r = .exc x := by
  cases r with
  | ok b => rw [wq_ok] at h; exact h.elim
  | exc y => rw [wq_exc] at h; exact congrArg R.exc h
  | stuck => rw [wq_stuck] at h; exact h.elim
/-! ### signs -/
theorem letters_list : ("abcdefghijklmnopqrstuvwxyz" : Str).cps.toList = (List.range 26).map (· + 97) := by decide +kernel
theorem digits_list : ("0123456789" : Str).cps.toList = (List.range 10).map (· + 48) := by decide +kernel
theorem mem_letters {c : Nat} : decide (c ∈ ("abcdefghijklmnopqrstuvwxyz" : Str).cps.toList) = lowB c := by
  rw [letters_list, Bool.eq_iff_iff, decide_eq_true_eq, List.mem_map]
  unfold lowB
  rw [Bool.and_eq_true, decide_eq_true_eq, decide_eq_true_eq]
  constructor
  · rintro ⟨a, h, rfl⟩
    have := List.mem_range.mp h
    omega
  · intro h
    exact ⟨c - 97, List.mem_range.mpr (by omega), by omega⟩
theorem mem_digits {c : Nat} : decide (c ∈ ("0123456789" : Str).cps.toList) = digB c := by
  rw [digits_list, Bool.eq_iff_iff, decide_eq_true_eq, List.mem_map]
  unfold digB
  rw [Bool.and_eq_true, decide_eq_true_eq, decide_eq_true_eq]
  constructor
  · rintro ⟨a, h, rfl⟩
    have := List.mem_range.mp h
    omega
  · intro h
    exact ⟨c - 48, List.mem_range.mpr (by omega), by omega⟩
theorem inD_sign {c : Nat} {z : Str} : inD (.str ⟨#[c]⟩) (.str z) = some (decide (c ∈ z.cps.toList)) := id rfl
theorem w_str {s : Str} : walkable (.str s) = some (s.cps.toList.map fun c => .str ⟨#[c]⟩) := id rfl
theorem p_getS {s : Str} {i : Int} : prim2 .get (.str s) (.int i) = if s.length ≤ sizeLine then (ixOf s.cps.toList.length i).bind fun j => (s.cps.toList[j]?).map fun c => .val (.str ⟨#[c]⟩) else none := rfl
theorem get_sign {s : Str} {i : Int} (h0 : 0 ≤ i) (h1 : i < s.length) (h2 : s.length ≤ 16777216) : ∃ c, s.cps.toList[i.toNat]? = some c ∧ prim2 .get (.str s) (.int i) = some (.val (.str ⟨#[c]⟩)) := by
  have hj : i.toNat < s.cps.toList.length := by rw [← str_len]; omega
  have g : s.cps.toList[i.toNat]? = some s.cps.toList[i.toNat] := by simp [hj]
  refine ⟨s.cps.toList[i.toNat], g, ?_⟩
  rw [p_getS, if_pos (by rw [sizeLine_eq]; exact h2)]
  unfold ixOf
  rw [if_pos h0, if_pos (by rw [← str_len]; exact h1)]
  show (s.cps.toList[i.toNat]?).map _ = _
  rw [g]; rfl
theorem p_mulS {s : Str} {i : Int} : prim2 .mul (.str s) (.int i) = if -(2 ^ 63) ≤ i ∧ i < 2 ^ 63 ∧ s.length * i.toNat ≤ sizeLine then some (.val (.str (Txt.mul s i))) else none := id rfl
/-- a word: a small letter, then small letters and digits, twelve at most -/
def wordB (s : Str) : Bool := nameL s.cps.toList
theorem wordB_cons {s : Str} {c : Nat} {l : List Nat} (e : s.cps.toList = c :: l) (h : s.length ≤ 12) : wordB s = (lowB c && (c :: l).all fun x => lowB x || digB x) := by
  have hl : l.length ≤ 11 := by
    rw [str_len, e, List.length_cons] at h; omega
  unfold wordB nameL
  rw [e]
  simp only [List.all_cons, hl, decide_true, Bool.and_true]
  cases lowB c <;> rfl
section
variable {fns : Str → Option CFn} {globs : Str → Option D} {fuel : Nat}
/-- what the program's brackets module holds -/
structure WordB (fns : Str → Option CFn) (globs : Str → Option D) : Prop where
  w : fns "is_word" = some c_is_word
  c : fns "check_name" = some c_check_name
  gl : globs "LETTERS" = some (.str "abcdefghijklmnopqrstuvwxyz")
  gd : globs "DIGITS" = some (.str "0123456789")
  gn : globs "LONGEST_WORD" = some (.int 12)
local macro_rules | `(tactic| walk_at "ew") => `(tactic| ((with_reducible apply wp_simp); (next => simp (disch := first | assumption | omega | decide +kernel) only [G.bind_ok, G.bind_of, G.e_const, G.e_var, G.e_p1, G.e_p2, G.e_p3, G.e_and, G.e_or, G.e_not, G.e_if, G.e_tup, G.e_lst, G.e_dic, G.e_call, G.e_mut, G.e_comp, G.e_compIf, G.es_nil, G.es_cons, G.ei_v, G.ei_e, G.ei_1, G.e_glob, G.e_chain, G.e_tried, G.hide_own, G.hide_val, G.hide_no', G.low_eq, G.runLow_at, G.x_raise, G.ka_raise, G.e_dicz, G.ei_rev, G.ei_zip, G.ei_3, G.ei_2, G.ka_p1, G.ka_p2b, G.ka_p2, G.ka_p3c, G.ka_p3b, G.ka_p3, G.ka_and, G.ka_or, G.ka_not, G.ka_if, G.ka_tup, G.ka_lst, G.ka_dic, G.ka_fin, G.ka_call, G.ka_mut, G.ka_cmp2, G.ka_cmp, G.ka_es2, G.ka_es, G.ka_iv, G.ka_ie, G.small62_c, G.ka_i1, G.ka_i2, G.ka_i2b, G.x_pass, G.x_brk, G.x_cont, G.x_retN, G.x_asg, G.x_asgT, G.x_setI, G.x_expr, G.x_ret, G.x_if, G.x_for, G.xs_nil, G.xs_cons, G.ka_asgF, G.ka_asgV, G.ka_asgS, G.ka_asgT, G.ka_set, G.ka_set2, G.ka_expr, G.ka_retV, G.ka_retF, G.ka_retS, G.ka_ifS, G.ka_for, G.ka_seqN, G.ka_seqR, G.ka_seqB, G.ka_seqC, G.ka_bodyN, G.ka_bodyR, G.body_eq, G.forL_nil, G.stepS_eq, G.ka_stepN, G.ka_stepC, G.ka_stepB, G.ka_stepR, G.c_val, G.c_fresh, G.f_val, G.f_fresh, G.ob_some, G.om_some, G.asB_b, G.tr_b, G.fin_f, G.fin_b, G.p_addI, G.p_iaddI, G.p_isubI, G.p_subI, G.p_mulI, G.p_fdiv, G.p_mod, G.p_pow, G.p_lt, G.p_le, G.p_gt, G.p_ge, G.p_eq, G.p_ne, G.boolR_s, G.p_intI, G.p_getT, G.p_getL, G.p_getK, G.p_lenT, G.p_lenL, G.p_lenF, G.p_tupL, G.p_tupT, G.p_lstT, G.p_lstF, G.p_addT, G.p_addL, G.small_r, G.small_mod, G.cont_slot, G.freeze_slot', G.ob_none, G.om_none, G.keys_ne, G.natAbs10, G.natAbs2, G.w_tup, G.w_lst, G.w_frz, G.fa_nil, G.fa_cons, G.calm_ok, G.n_non, G.n_bl, G.n_int, G.n_str, G.n_tup, G.n_lst, G.t_non, G.t_bl, G.t_int, G.t_str, G.t_tup, G.t_lst, G.u_tup, G.u_lst, G.u_int, G.p_backT, G.p_backL, G.p_strS, G.getD_0, G.getD_1, G.getD_2, G.getD_3, G.getD_5, G.getD_6, G.getD_7, G.getD_8, G.getD_4, G.compL_nil, G.ka_cc, G.ka_cc2, G.ka_el, G.stepOf_n, G.wipe1, G.rest1, G.rngD_len, G.compOk_1, G.p_getOr, G.pre_getOr, G.preb_getOr, G.p_max, G.p_min, G.p_stoL, G.p_stoT, G.p_mulT, G.p_sfromT, G.p_sfromL, G.p_sliceT, G.p_sliceL, G.pre_slice, G.preb_slice, G.p_inn, G.p_notIn, G.p_addS, G.p_mulL, G.stepOf_c, G.ka_cond, G.ka_ch, G.ka_ch1, G.ka_ch2, G.ka_irev, G.it_tup, G.it_lst, G.it_frz, G.ka_iz, G.ka_iz2, G.zo_tup, G.zo_lst, G.ka_i3, G.ka_i3b, G.ka_i3c, G.ka_dicz, G.p_idx, G.pre_idx, G.p_idxT, G.pre_idxT, G.preb_idx, G.m_app, G.m_popAt, G.m_ins, G.set_lst, G.set_dic, G.cast0, G.cast1, G.cast2, G.cast3, G.cast4, G.cast5, G.cast6, G.retd, G.deq_iff, G.eqD_bl, G.eqD_int, G.z_List_zip_cons_cons, G.z_List_zip_nil_left, G.z_List_zip_nil_right, G.z_List_foldl_cons, G.z_List_foldl_nil, G.z_fin_true, G.z_eq_self, G.z_Option_getD_some, G.z_Option_getD_none, G.z_List_length_cons, G.z_List_length_nil, G.z_List_cons_append, G.z_List_nil_append, G.z_List_getElem__cons_zero, G.z_List_getElem__cons_succ, G.z_List_getElem__nil, G.z_List_set_cons_zero, G.z_List_set_cons_succ, G.z_List_getD_cons_zero, G.z_List_getD_cons_succ, G.z_List_getD_nil, G.z_if_true, G.z_if_false, G.z_and_self, G.z_and_true, G.z_true_and, G.z_Nat_zero_add, G.z_decide_true, G.z_decide_false, G.z_Bool_false_eq_true, G.z_Sum_inr_injEq, G.z_List_any_cons, G.z_List_any_nil, G.z_List_map_cons, G.z_List_map_nil, G.z_Bool_or_false, G.z_Bool_false_or, G.z_Bool_or_true, G.z_Bool_true_or, G.z_sizeLine_eq, G.z_List_nodup_nil, G.z_List_nodup_cons, G.z_List_not_mem_nil, G.z_not_false_eq_true, G.z_ne_eq, G.z_Option_some_injEq, G.z_implies_true, G.z_Bool_and_true, G.z_Bool_true_and, G.z_Bool_and_false, G.z_Bool_false_and, G.z_List_isEmpty_nil, G.z_List_isEmpty_cons, G.z_Bool_not_true, G.z_Bool_not_false, G.z_List_length_map, G.z_ite_self, G.z_decide_eq_true_eq, G.z_Bool_and_eq_true, G.z_Bool_or_eq_true, G.z_Bool_not_eq_true, G.z_Bool_or_self, G.z_Bool_and_self, G.z_List_all_cons, G.z_List_all_nil, G.z_Bool_not_eq_eq_eq_not, G.z_Option_map_some, G.z_Option_map_none, G.z_Int_sub_zero, G.z_Int_zero_add, G.z_decide_not, G.z_decide_eq_false_iff_not, G.z_Bool_decide_eq_true, G.z_ge_iff_le, G.z_gt_iff_lt, G.bq_tt, G.bq_tf, G.bq_ft, G.bq_ff, G.told_eq, G.mark_ite, G.rite_t, G.rite_f, G.mark_need, G.need_t, G.of_s, G.add_le3, G.not_le_iff, G.seq_ne, G.beq_str, G.deq_false, G.ixOf_int, G.toNat_c, G.all_c, G.all_n, G.any_c, G.any_n, G.asb_n, G.asb_c, G.id_b, G.all_true, G.isB_b, G.isB_n, G.isNB_b, G.isNB_n, G.nn_non, G.nn_bl, G.nn_int, G.nn_str, G.p_lstL, G.inD_tu, G.inD_lu, G.fl_s, G.fl_i, G.fl_b, G.fl_n, G.fl_t, G.fl_l, G.eqF_ss, G.eqF_ii, G.eqF_bb, G.eqF_nn, G.eqF_si, G.eqF_is, G.eqF_sn, G.eqF_ns, G.eqF_in, G.eqF_ni, G.mark_cok, G.p_stoS, G.p_sfromS, G.p_sliceS, G.p_lenS, G.p_strI, G.strs_flat, G.strs_any, G.inD_ls, G.inD_ts, G.mem_letters, G.mem_digits, G.inD_sign, G.w_str, G.p_mulS, Nat.reduceAdd, Nat.reduceSub, Nat.reduceLT, Nat.reduceLeDiff, reduceIte, Int.reducePow, Int.reduceNeg, Int.reduceLT, Int.reduceLE, reduceCtorEq, Int.reduceSub, Int.reduceAdd, Int.reduceToNat, Int.reduceAbs, Nat.reducePow, List.replicate, mkDic, startE, finals, store, lookK, putKD, ownX, ownL, callFn, passVals, conts, lentSlots, putBack, isScal, assignT, G.storeAll, lentOwn, l_is_word, l_check_name, p_lenS, Bool.or_false, *]; exact rfl)))
local macro_rules | `(tactic| walk_at "st") => `(tactic| first | (((with_reducible apply wp_rite) <;> intro _) <;> try (exfalso; omega)) | ((with_reducible apply wp_need); (next => first | ((with_reducible apply Cok.mk) <;> first | decide | (simp only [List.all_cons, List.all_nil, Bool.and_true, List.getElem?_cons_zero, List.getElem?_cons_succ, notOwn_val, notOwn_no, *]) | omega | (split <;> omega) | (refine ⟨?_, ?_⟩ <;> omega) | (refine ⟨?_, ?_, ?_⟩ <;> omega) | (simp only [rngD_len, List.length_cons, List.length_nil, List.length_append, List.length_map, app_len, len1]; omega) | ((with_reducible apply add_le3); (next => exact cut_len); (next => exact cut_len); omega) | (try (simp only [app_len, len1]); (with_reducible apply add_le3); (next => first | exact cutS_le | exact Nat.add_le_add_right cutS_le 1 | exact Nat.le_refl _); (next => first | exact cutS_le | exact Nat.le_refl _); (first | omega | (simp only [app_len, len1]; omega)))) | (with_reducible assumption) | omega | (split <;> omega) | (refine ⟨?_, ?_⟩ <;> omega) | (refine ⟨?_, ?_, ?_⟩ <;> omega) | (simp only [rngD_len, List.length_cons, List.length_nil, List.length_append, List.length_map, app_len, len1]; omega) | ((with_reducible apply add_le3); (next => exact cut_len); (next => exact cut_len); omega) | (try (simp only [app_len, len1]); (with_reducible apply add_le3); (next => first | exact cutS_le | exact Nat.add_le_add_right cutS_le 1 | exact Nat.le_refl _); (next => first | exact cutS_le | exact Nat.le_refl _); (first | omega | (simp only [app_len, len1]; omega))))) | ((with_reducible apply wp_getR); (next => first | omega | (split <;> omega) | (refine ⟨?_, ?_⟩ <;> omega) | (refine ⟨?_, ?_, ?_⟩ <;> omega) | (simp only [rngD_len, List.length_cons, List.length_nil, List.length_append, List.length_map, app_len, len1]; omega) | ((with_reducible apply add_le3); (next => exact cut_len); (next => exact cut_len); omega) | (try (simp only [app_len, len1]); (with_reducible apply add_le3); (next => first | exact cutS_le | exact Nat.add_le_add_right cutS_le 1 | exact Nat.le_refl _); (next => first | exact cutS_le | exact Nat.le_refl _); (first | omega | (simp only [app_len, len1]; omega)))); (next => first | omega | (split <;> omega) | (refine ⟨?_, ?_⟩ <;> omega) | (refine ⟨?_, ?_, ?_⟩ <;> omega) | (simp only [rngD_len, List.length_cons, List.length_nil, List.length_append, List.length_map, app_len, len1]; omega) | ((with_reducible apply add_le3); (next => exact cut_len); (next => exact cut_len); omega) | (try (simp only [app_len, len1]); (with_reducible apply add_le3); (next => first | exact cutS_le | exact Nat.add_le_add_right cutS_le 1 | exact Nat.le_refl _); (next => first | exact cutS_le | exact Nat.le_refl _); (first | omega | (simp only [app_len, len1]; omega)))); intro _ _ _))
local macro_rules | `(tactic| walk_at "wps") => `(tactic| repeat' (first | (with_reducible apply wp_okI) | (with_reducible apply wp_excI) | (with_reducible apply wp_bI) | (with_reducible apply wp_tri) | ((with_reducible apply wp_tx); (next => first | (with_reducible exact G.er_BadText) | (with_reducible exact G.er_Malformed) | (with_reducible exact G.er_Misnamed) | (with_reducible exact G.er_Doubled) | (with_reducible exact G.er_Unknown) | (with_reducible exact G.er_TooMany) | (with_reducible exact G.er_Ring) | (with_reducible exact G.er_Unlawful) | (with_reducible exact G.er_NotAllowed) | (with_reducible exact G.er_NotOne) | (with_reducible exact G.er_Shared) | (with_reducible exact G.er_Unlike) | (with_reducible exact G.er_Forced))) | (walk_at "ew") | (walk_at "st") | dsimp only))
theorem word_run (B : WordB fns globs) {K : Nat} {s : Str} (hK : 1 ≤ K) (hs : s.length ≤ 1000000) : run fns globs fuel K "is_word" [.str s] = .ok (false, .bl (wordB s), []) := by
  obtain ⟨K, rfl⟩ : ∃ k, K = k + 1 := ⟨K - 1, by omega⟩
  have g1 := B.gl
  have g2 := B.gd
  have g3 := B.gn
  refine eq_wp ?_
  rw [run_succ B.w]
  unfold c_is_word
  cases e : s.cps.toList with
  | nil =>
    have hl : s.length = 0 := by rw [str_len, e]; rfl
    have hw : wordB s = false := by unfold wordB nameL; rw [e]
    rw [hw]
    have e1 : decide ((1 : Int) ≤ (s.length : Int)) = false := by rw [hl]; rfl
    walk_at "wps"
  | cons c l =>
    have hl : 1 ≤ s.length := by rw [str_len, e, List.length_cons]; omega
    have e1 : decide ((1 : Int) ≤ (s.length : Int)) = true := decide_eq_true (by omega)
    by_cases h12 : s.length ≤ 12
    · have e2 : decide ((s.length : Int) ≤ 12) = true := decide_eq_true (by omega)
      rw [wordB_cons e h12]
      have hl2 : l.length ≤ 11 := by
        rw [str_len, e, List.length_cons] at h12; omega
      obtain ⟨c', hc, eg⟩ := get_sign (s := s) (i := 0) (by omega) (by omega) (by omega)
      have : c' = c := by
        rw [e] at hc
        injection hc with hc
        exact hc.symm
      subst this
      cases q : lowB c'
      · walk_at "wps"
        rfl
      · walk_at "wps"
        refine wp_calm (wp_mapF (fun env => ∃ y, env = [.val (.str s), y] ∧ notOwn (some y) = true) (fun c => .str ⟨#[c]⟩) (fun c => .bl (lowB c || digB c)) (c' :: l) ?_ _ (by exact ⟨_, rfl, notOwn_no⟩) ?_)
        · rintro a _ env ⟨y, rfl, hy⟩
          unfold q_is_word_0
          cases qa : lowB a <;> walk_at "wps"
          · exact ⟨rfl, _, rfl, rfl⟩
          · exact ⟨rfl, _, rfl, rfl⟩
        · rintro env ⟨y, rfl, hy⟩
          have ea := asBools_map (fun c => lowB c || digB c) l
          walk_at "wps"
          have hc : (lowB c' || digB c') = true := by rw [q]; rfl
          simp [List.all_map, Function.comp_def, q]
    · have e2 : decide ((s.length : Int) ≤ 12) = false := decide_eq_false (by omega)
      have hw : wordB s = false := by
        unfold wordB
        cases q : nameL s.cps.toList with
        | false => rfl
        | true =>
          have := nameL_len q
          rw [← str_len] at this
          omega
      rw [hw]
      walk_at "wps"
theorem name_is {s : Str} : nameB s = (wordB s && (!(decide (s = "yes")) && !(decide (s = "no")) && !(decide (s = "none")))) := by
  unfold nameB wordB
  cases nameL s.cps.toList <;> cases decide (s = "yes") <;> cases decide (s = "no") <;> cases decide (s = "none") <;> rfl
/-- a name is given back, else Misnamed of it -/
theorem check_run (B : WordB fns globs) {K : Nat} {s : Str} (hK : 2 ≤ K) (hs : s.length ≤ 1000000) : run fns globs fuel K "check_name" [.str s] = if nameB s then .ok (false, .str s, []) else .exc ⟨"Misnamed", [("name", .str s)]⟩ := by
  obtain ⟨K, rfl⟩ : ∃ k, K = k + 1 := ⟨K - 1, by omega⟩
  have ew := word_run (fuel := fuel) B (K := K) (s := s) (by omega) hs
  have bw := B.w
  rw [name_is]
  cases qw : wordB s
  · refine eq_exc ?_
    rw [qw] at ew
    rw [run_succ B.c]
    unfold c_check_name
    walk_at "wps"
  · rw [qw] at ew
    rw [Bool.true_and]
    cases h1 : decide (s = "yes")
    · cases h2 : decide (s = "no")
      · cases h3 : decide (s = "none")
        · refine eq_wp ?_
          rw [run_succ B.c]
          unfold c_check_name
          have n1 : ¬ s = "yes" := of_decide_eq_false h1
          have n2 : ¬ s = "no" := of_decide_eq_false h2
          have n3 : ¬ s = "none" := of_decide_eq_false h3
          walk_at "wps"
          all_goals first | rfl | (rename_i q; exact absurd q (by simp [Ne.symm n1, Ne.symm n2, Ne.symm n3, eq_comm, n1, n2, n3]))
        · have := of_decide_eq_true h3
          subst this
          refine eq_exc ?_
          rw [run_succ B.c]
          unfold c_check_name
          walk_at "wps"
          all_goals first | rfl | (rename_i q; simp at q)
      · have := of_decide_eq_true h2
        subst this
        refine eq_exc ?_
        rw [run_succ B.c]
        unfold c_check_name
        walk_at "wps"
        all_goals first | rfl | (rename_i q; simp at q)
    · have := of_decide_eq_true h1
      subst this
      refine eq_exc ?_
      rw [run_succ B.c]
      unfold c_check_name
      walk_at "wps"
      all_goals first | rfl | (rename_i q; simp at q)
end
end G
namespace G
open PySem
/-! ### signs drawn from a text -/
section
variable {fns : Str → Option CFn} {globs : Str → Option D} {fuel : Nat}
local macro_rules | `(tactic| walk_at "ew") => `(tactic| ((with_reducible apply wp_simp); (next => simp (disch := first | assumption | omega | decide +kernel) only [G.bind_ok, G.bind_of, G.e_const, G.e_var, G.e_p1, G.e_p2, G.e_p3, G.e_and, G.e_or, G.e_not, G.e_if, G.e_tup, G.e_lst, G.e_dic, G.e_call, G.e_mut, G.e_comp, G.e_compIf, G.es_nil, G.es_cons, G.ei_v, G.ei_e, G.ei_1, G.e_glob, G.e_chain, G.e_tried, G.hide_own, G.hide_val, G.hide_no', G.low_eq, G.runLow_at, G.x_raise, G.ka_raise, G.e_dicz, G.ei_rev, G.ei_zip, G.ei_3, G.ei_2, G.ka_p1, G.ka_p2b, G.ka_p2, G.ka_p3c, G.ka_p3b, G.ka_p3, G.ka_and, G.ka_or, G.ka_not, G.ka_if, G.ka_tup, G.ka_lst, G.ka_dic, G.ka_fin, G.ka_call, G.ka_mut, G.ka_cmp2, G.ka_cmp, G.ka_es2, G.ka_es, G.ka_iv, G.ka_ie, G.small62_c, G.ka_i1, G.ka_i2, G.ka_i2b, G.x_pass, G.x_brk, G.x_cont, G.x_retN, G.x_asg, G.x_asgT, G.x_setI, G.x_expr, G.x_ret, G.x_if, G.x_for, G.xs_nil, G.xs_cons, G.ka_asgF, G.ka_asgV, G.ka_asgS, G.ka_asgT, G.ka_set, G.ka_set2, G.ka_expr, G.ka_retV, G.ka_retF, G.ka_retS, G.ka_ifS, G.ka_for, G.ka_seqN, G.ka_seqR, G.ka_seqB, G.ka_seqC, G.ka_bodyN, G.ka_bodyR, G.body_eq, G.forL_nil, G.stepS_eq, G.ka_stepN, G.ka_stepC, G.ka_stepB, G.ka_stepR, G.c_val, G.c_fresh, G.f_val, G.f_fresh, G.ob_some, G.om_some, G.asB_b, G.tr_b, G.fin_f, G.fin_b, G.p_addI, G.p_iaddI, G.p_isubI, G.p_subI, G.p_mulI, G.p_fdiv, G.p_mod, G.p_pow, G.p_lt, G.p_le, G.p_gt, G.p_ge, G.p_eq, G.p_ne, G.boolR_s, G.p_intI, G.p_getT, G.p_getL, G.p_getK, G.p_lenT, G.p_lenL, G.p_lenF, G.p_tupL, G.p_tupT, G.p_lstT, G.p_lstF, G.p_addT, G.p_addL, G.small_r, G.small_mod, G.cont_slot, G.freeze_slot', G.ob_none, G.om_none, G.keys_ne, G.natAbs10, G.natAbs2, G.w_tup, G.w_lst, G.w_frz, G.fa_nil, G.fa_cons, G.calm_ok, G.n_non, G.n_bl, G.n_int, G.n_str, G.n_tup, G.n_lst, G.t_non, G.t_bl, G.t_int, G.t_str, G.t_tup, G.t_lst, G.u_tup, G.u_lst, G.u_int, G.p_backT, G.p_backL, G.p_strS, G.getD_0, G.getD_1, G.getD_2, G.getD_3, G.getD_5, G.getD_6, G.getD_7, G.getD_8, G.getD_4, G.compL_nil, G.ka_cc, G.ka_cc2, G.ka_el, G.stepOf_n, G.wipe1, G.rest1, G.rngD_len, G.compOk_1, G.p_getOr, G.pre_getOr, G.preb_getOr, G.p_max, G.p_min, G.p_stoL, G.p_stoT, G.p_mulT, G.p_sfromT, G.p_sfromL, G.p_sliceT, G.p_sliceL, G.pre_slice, G.preb_slice, G.p_inn, G.p_notIn, G.p_addS, G.p_mulL, G.stepOf_c, G.ka_cond, G.ka_ch, G.ka_ch1, G.ka_ch2, G.ka_irev, G.it_tup, G.it_lst, G.it_frz, G.ka_iz, G.ka_iz2, G.zo_tup, G.zo_lst, G.ka_i3, G.ka_i3b, G.ka_i3c, G.ka_dicz, G.p_idx, G.pre_idx, G.p_idxT, G.pre_idxT, G.preb_idx, G.m_app, G.m_popAt, G.m_ins, G.set_lst, G.set_dic, G.cast0, G.cast1, G.cast2, G.cast3, G.cast4, G.cast5, G.cast6, G.retd, G.deq_iff, G.eqD_bl, G.eqD_int, G.z_List_zip_cons_cons, G.z_List_zip_nil_left, G.z_List_zip_nil_right, G.z_List_foldl_cons, G.z_List_foldl_nil, G.z_fin_true, G.z_eq_self, G.z_Option_getD_some, G.z_Option_getD_none, G.z_List_length_cons, G.z_List_length_nil, G.z_List_cons_append, G.z_List_nil_append, G.z_List_getElem__cons_zero, G.z_List_getElem__cons_succ, G.z_List_getElem__nil, G.z_List_set_cons_zero, G.z_List_set_cons_succ, G.z_List_getD_cons_zero, G.z_List_getD_cons_succ, G.z_List_getD_nil, G.z_if_true, G.z_if_false, G.z_and_self, G.z_and_true, G.z_true_and, G.z_Nat_zero_add, G.z_decide_true, G.z_decide_false, G.z_Bool_false_eq_true, G.z_Sum_inr_injEq, G.z_List_any_cons, G.z_List_any_nil, G.z_List_map_cons, G.z_List_map_nil, G.z_Bool_or_false, G.z_Bool_false_or, G.z_Bool_or_true, G.z_Bool_true_or, G.z_sizeLine_eq, G.z_List_nodup_nil, G.z_List_nodup_cons, G.z_List_not_mem_nil, G.z_not_false_eq_true, G.z_ne_eq, G.z_Option_some_injEq, G.z_implies_true, G.z_Bool_and_true, G.z_Bool_true_and, G.z_Bool_and_false, G.z_Bool_false_and, G.z_List_isEmpty_nil, G.z_List_isEmpty_cons, G.z_Bool_not_true, G.z_Bool_not_false, G.z_List_length_map, G.z_ite_self, G.z_decide_eq_true_eq, G.z_Bool_and_eq_true, G.z_Bool_or_eq_true, G.z_Bool_not_eq_true, G.z_Bool_or_self, G.z_Bool_and_self, G.z_List_all_cons, G.z_List_all_nil, G.z_Bool_not_eq_eq_eq_not, G.z_Option_map_some, G.z_Option_map_none, G.z_Int_sub_zero, G.z_Int_zero_add, G.z_decide_not, G.z_decide_eq_false_iff_not, G.z_Bool_decide_eq_true, G.z_ge_iff_le, G.z_gt_iff_lt, G.bq_tt, G.bq_tf, G.bq_ft, G.bq_ff, G.told_eq, G.mark_ite, G.rite_t, G.rite_f, G.mark_need, G.need_t, G.of_s, G.add_le3, G.not_le_iff, G.seq_ne, G.beq_str, G.deq_false, G.ixOf_int, G.toNat_c, G.all_c, G.all_n, G.any_c, G.any_n, G.asb_n, G.asb_c, G.id_b, G.all_true, G.isB_b, G.isB_n, G.isNB_b, G.isNB_n, G.nn_non, G.nn_bl, G.nn_int, G.nn_str, G.p_lstL, G.inD_tu, G.inD_lu, G.fl_s, G.fl_i, G.fl_b, G.fl_n, G.fl_t, G.fl_l, G.eqF_ss, G.eqF_ii, G.eqF_bb, G.eqF_nn, G.eqF_si, G.eqF_is, G.eqF_sn, G.eqF_ns, G.eqF_in, G.eqF_ni, G.mark_cok, G.p_stoS, G.p_sfromS, G.p_sliceS, G.p_lenS, G.p_strI, G.strs_flat, G.strs_any, G.inD_ls, G.inD_ts, G.mem_letters, G.mem_digits, G.inD_sign, G.w_str, G.p_mulS, Nat.reduceAdd, Nat.reduceSub, Nat.reduceLT, Nat.reduceLeDiff, reduceIte, Int.reducePow, Int.reduceNeg, Int.reduceLT, Int.reduceLE, reduceCtorEq, Int.reduceSub, Int.reduceAdd, Int.reduceToNat, Int.reduceAbs, Nat.reducePow, List.replicate, mkDic, startE, finals, store, lookK, putKD, ownX, ownL, callFn, passVals, conts, lentSlots, putBack, isScal, assignT, G.storeAll, lentOwn, l__law_take, l__law_pick, p_lenS, *]; exact rfl)))
local macro_rules | `(tactic| walk_at "st") => `(tactic| first | (((with_reducible apply wp_rite) <;> intro _) <;> try (exfalso; omega)) | ((with_reducible apply wp_need); (next => first | ((with_reducible apply Cok.mk) <;> first | decide | (simp only [List.all_cons, List.all_nil, Bool.and_true, List.getElem?_cons_zero, List.getElem?_cons_succ, notOwn_val, notOwn_no, *]) | omega | (split <;> omega) | (refine ⟨?_, ?_⟩ <;> omega) | (refine ⟨?_, ?_, ?_⟩ <;> omega) | (simp only [rngD_len, List.length_cons, List.length_nil, List.length_append, List.length_map, app_len, len1]; omega) | ((with_reducible apply add_le3); (next => exact cut_len); (next => exact cut_len); omega) | (try (simp only [app_len, len1]); (with_reducible apply add_le3); (next => first | exact cutS_le | exact Nat.add_le_add_right cutS_le 1 | exact Nat.le_refl _); (next => first | exact cutS_le | exact Nat.le_refl _); (first | omega | (simp only [app_len, len1]; omega)))) | (with_reducible assumption) | omega | (split <;> omega) | (refine ⟨?_, ?_⟩ <;> omega) | (refine ⟨?_, ?_, ?_⟩ <;> omega) | (simp only [rngD_len, List.length_cons, List.length_nil, List.length_append, List.length_map, app_len, len1]; omega) | ((with_reducible apply add_le3); (next => exact cut_len); (next => exact cut_len); omega) | (try (simp only [app_len, len1]); (with_reducible apply add_le3); (next => first | exact cutS_le | exact Nat.add_le_add_right cutS_le 1 | exact Nat.le_refl _); (next => first | exact cutS_le | exact Nat.le_refl _); (first | omega | (simp only [app_len, len1]; omega))))) | ((with_reducible apply wp_getR); (next => first | omega | (split <;> omega) | (refine ⟨?_, ?_⟩ <;> omega) | (refine ⟨?_, ?_, ?_⟩ <;> omega) | (simp only [rngD_len, List.length_cons, List.length_nil, List.length_append, List.length_map, app_len, len1]; omega) | ((with_reducible apply add_le3); (next => exact cut_len); (next => exact cut_len); omega) | (try (simp only [app_len, len1]); (with_reducible apply add_le3); (next => first | exact cutS_le | exact Nat.add_le_add_right cutS_le 1 | exact Nat.le_refl _); (next => first | exact cutS_le | exact Nat.le_refl _); (first | omega | (simp only [app_len, len1]; omega)))); (next => first | omega | (split <;> omega) | (refine ⟨?_, ?_⟩ <;> omega) | (refine ⟨?_, ?_, ?_⟩ <;> omega) | (simp only [rngD_len, List.length_cons, List.length_nil, List.length_append, List.length_map, app_len, len1]; omega) | ((with_reducible apply add_le3); (next => exact cut_len); (next => exact cut_len); omega) | (try (simp only [app_len, len1]); (with_reducible apply add_le3); (next => first | exact cutS_le | exact Nat.add_le_add_right cutS_le 1 | exact Nat.le_refl _); (next => first | exact cutS_le | exact Nat.le_refl _); (first | omega | (simp only [app_len, len1]; omega)))); intro _ _ _))
local macro_rules | `(tactic| walk_at "wps") => `(tactic| repeat' (first | (with_reducible apply wp_okI) | (with_reducible apply wp_excI) | (with_reducible apply wp_bI) | (with_reducible apply wp_tri) | ((with_reducible apply wp_tx); (next => first | (with_reducible exact G.er_BadText) | (with_reducible exact G.er_Malformed) | (with_reducible exact G.er_Misnamed) | (with_reducible exact G.er_Doubled) | (with_reducible exact G.er_Unknown) | (with_reducible exact G.er_TooMany) | (with_reducible exact G.er_Ring) | (with_reducible exact G.er_Unlawful) | (with_reducible exact G.er_NotAllowed) | (with_reducible exact G.er_NotOne) | (with_reducible exact G.er_Shared) | (with_reducible exact G.er_Unlike) | (with_reducible exact G.er_Forced))) | (walk_at "ew") | (walk_at "st") | dsimp only))
theorem wp_pkC (B : Base fns) {K : Nat} {st : D} {E : Ex → Prop} {Q : Out → Prop} {z : Str} (hk : 3 ≤ K) (hs : StoreOk st) (hl : 0 < z.length) (hb : z.length ≤ 1000000) (k : ∀ c s, StoreOk s → c ∈ z.cps.toList → Q (false, .str ⟨#[c]⟩, [.own s])) : (run fns globs fuel K "_law_pick" [st, .str z]).wq Q E := by
  obtain ⟨K, rfl⟩ : ∃ k, K = k + 1 := ⟨K - 1, by omega⟩
  obtain ⟨r, s, ⟨r0, r1⟩, hs', e⟩ := B.tk (globs := globs) (fuel := fuel) (K := K) (by omega) hs (many := (z.length : Int)) (by omega)
  have r1 := r1 (by omega)
  obtain ⟨c, hc, eg⟩ := get_sign (s := z) r0 r1 (by omega)
  have bt := B.take
  rw [run_succ B.pick]
  unfold c__law_pick
  walk_at "wps"
  exact k c s hs' (List.mem_of_getElem? hc)
end
/-- a text of signs below 128, of n signs at most -/
structure Tx (n : Nat) (s : Str) : Prop where
  len : s.length ≤ n
  asc : ∀ c, c ∈ s.cps.toList → c < 128
theorem Tx.mono {n m : Nat} {s : Str} (h : Tx n s) (hm : n ≤ m) : Tx m s := ⟨Nat.le_trans h.len hm, h.asc⟩
theorem asc_strOk {s : Str} (h : ∀ c, c ∈ s.cps.toList → c < 128) : PyData.strOk s = true := by
  have key : ∀ x ∈ s.cps.toList, x < 0x110000 := fun x hx => by have := h x hx; omega
  unfold PyData.strOk
  rw [← Array.all_toList, List.all_eq_true]
  intro x hx
  exact decide_eq_true (key x hx)
theorem Tx.ok {n : Nat} {s : Str} (h : Tx n s) : PyData.strOk s = true := asc_strOk h.asc
theorem nameB_tx {s : Str} (h : nameB s = true) : Tx 12 s := by
  refine ⟨(nameB_len h).2, fun c hc => ?_⟩
  have hL := nameB_L h
  cases e : s.cps.toList with
  | nil => rw [e] at hc; cases hc
  | cons a l =>
    rw [e] at hL hc
    unfold nameL at hL
    simp only [Bool.and_eq_true, List.all_eq_true, Bool.or_eq_true] at hL
    rcases List.mem_cons.mp hc with rfl | hc
    · exact lowB_lt hL.1.1
    · rcases hL.1.2 c hc with q | q
      · exact lowB_lt q
      · exact digB_lt q
theorem Tx.app {n m : Nat} {s t : Str} (h : Tx n s) (g : Tx m t) : Tx (n + m) (s ++ t) := by
  refine ⟨by rw [app_len]; exact Nat.add_le_add h.len g.len, fun c hc => ?_⟩
  rw [app_list] at hc
  rcases List.mem_append.mp hc with hc | hc
  · exact h.asc c hc
  · exact g.asc c hc
theorem Tx.cut {n : Nat} {s : Str} {lo hi : Option Int} (h : Tx n s) : Tx n (cutS s lo hi) := by
  refine ⟨Nat.le_trans cutS_le h.len, fun c hc => ?_⟩
  rw [cutS_list] at hc
  exact h.asc c (List.mem_of_mem_drop (List.mem_of_mem_take hc))
theorem Tx.sign {c : Nat} (h : c < 128) : Tx 1 (⟨#[c]⟩ : Str) := ⟨Nat.le_refl _, fun x hx => by
  have : x = c := by simpa using hx
  omega⟩
def txB (n : Nat) (s : Str) : Bool := decide (s.length ≤ n) && s.cps.toList.all fun c => decide (c < 128)
theorem txB_ok {n : Nat} {s : Str} (h : txB n s = true) : Tx n s := by
  unfold txB at h
  rw [Bool.and_eq_true, decide_eq_true_eq, List.all_eq_true] at h
  exact ⟨h.1, fun c hc => of_decide_eq_true (h.2 c hc)⟩
/-- such a text, as data -/
def TxD (n : Nat) (d : D) : Prop := ∃ s, d = .str s ∧ Tx n s
theorem Tx.d {n m : Nat} {s : Str} (h : Tx n s) (hm : n ≤ m) : TxD m (.str s) := ⟨s, rfl, h.mono hm⟩
def txD (n : Nat) : D → Bool
  | .str s => txB n s
  | _ => false
theorem txD_ok {n : Nat} {l : List D} (h : l.all (txD n) = true) : ∀ d, d ∈ l → TxD n d := fun d hd => by
  have := List.all_eq_true.mp h d hd
  cases d with
  | str s => exact ⟨s, rfl, txB_ok this⟩
  | _ => cases this
theorem mulS_tx {n : Nat} {s : Str} {k : Int} (h : Tx n s) : ∀ c, c ∈ (Txt.mul s k).cps.toList → c < 128 := by
  intro c hc
  unfold Txt.mul at hc
  split at hc
  · cases hc
  · split at hc
    · exact h.asc c hc
    · have key : ∀ (l : List (Array Nat)) (a : Array Nat), (∀ c, c ∈ a.toList → c < 128) → (∀ b, b ∈ l → ∀ c, c ∈ b.toList → c < 128) → ∀ c, c ∈ (l.foldl (· ++ ·) a).toList → c < 128 := by
        intro l
        induction l with
        | nil => intro a ha _; exact ha
        | cons b l ih =>
          intro a ha hb
          rw [List.foldl_cons]
          refine ih _ (fun c hc => ?_) fun b' hb' => hb b' (List.mem_cons_of_mem _ hb')
          rw [Array.toList_append] at hc
          rcases List.mem_append.mp hc with hc | hc
          · exact ha c hc
          · exact hb b List.mem_cons_self c hc
      refine key _ _ (fun c hc => ?_) (fun b hb c hc => ?_) c hc
      · cases hc
      · have : b = s.cps := List.eq_of_mem_replicate hb
        subst this
        exact h.asc c hc
theorem mulS_len {s : Str} {k : Int} : (Txt.mul s k).length ≤ s.length * k.toNat := by
  unfold Txt.mul
  split
  · exact Nat.zero_le _
  · rename_i hk
    split
    · rename_i h
      rw [Bool.or_eq_true, beq_iff_eq, beq_iff_eq] at h
      rcases h with h | h
      · subst h; simp
      · rw [h]; exact Nat.zero_le _
    · have key : ∀ (n : Nat) (a : Array Nat), ((List.replicate n s.cps).foldl (· ++ ·) a).size = a.size + n * s.length := by
        intro n
        induction n with
        | zero => intro a; simp
        | succ n ih =>
          intro a
          rw [List.replicate_succ, List.foldl_cons, ih, Array.size_append]
          show a.size + s.length + n * s.length = _
          rw [Nat.succ_mul]; omega
      show ((List.replicate k.toNat s.cps).foldl (· ++ ·) #[]).size ≤ _
      rw [key, Nat.mul_comm]
      simp
end G

set_option Elab.async false
set_option linter.all false
set_option maxRecDepth 100000
set_option maxHeartbeats 0
namespace LW
open PySem G
def c__law_no_name : CFn := ⟨5, [true], (.cons (.asg 1 (.call "_law_name" (.cons (.var 0) .nil))) (.cons (.asg 2 (.call "_law_take" (.cons (.var 0) (.cons (.const (.int (8))) .nil)))) (.cons (.ifS (.p2 .eq (.var 2) (.const (.int (0)))) (.cons (.ret (.const (.str ""))) .nil) .nil) (.cons (.ifS (.p2 .eq (.var 2) (.const (.int (1)))) (.cons (.ret (.call "_law_pick" (.cons (.var 0) (.cons (.lst (.cons (.const (.str "yes")) (.cons (.const (.str "no")) (.cons (.const (.str "none")) .nil)))) .nil)))) .nil) .nil) (.cons (.ifS (.p2 .eq (.var 2) (.const (.int (2)))) (.cons (.ret (.p2 .sto (.p2 .add (.var 1) (.const (.str "abcdefghijklm"))) (.const (.int (13))))) .nil) .nil) (.cons (.ifS (.p2 .eq (.var 2) (.const (.int (3)))) (.cons (.ret (.p2 .add (.call "_law_pick" (.cons (.var 0) (.cons (.const (.str "0123456789")) .nil))) (.p2 .sto (.var 1) (.const (.int (11)))))) .nil) .nil) (.cons (.ifS (.p2 .eq (.var 2) (.const (.int (4)))) (.cons (.ret (.p2 .add (.var 1) (.call "_law_pick" (.cons (.var 0) (.cons (.lst (.cons (.const (.str "\n")) (.cons (.const (.str " ")) (.cons (.const (.str "_")) .nil)))) .nil))))) .nil) .nil) (.cons (.asg 3 (.call "_law_take" (.cons (.var 0) (.cons (.p2 .add (.p1 .len (.var 1)) (.const (.int (1)))) .nil)))) (.cons (.asg 4 (.call "_law_pick" (.cons (.var 0) (.cons (.const (.str " !\"#$&'()*+,-./:;<=>?@ABCDEFGHIJKLMNOPQRSTUVWXYZ[\\]^_`{|}~\n")) .nil)))) (.cons (.ret (.p2 .add (.p2 .add (.p2 .sto (.var 1) (.var 3)) (.var 4)) (.p2 .sfrom (.var 1) (.p2 .add (.var 3) (.p2 .fdiv (.p2 .sub (.var 2) (.const (.int (5)))) (.const (.int (2)))))))) .nil))))))))))⟩
theorem l__law_no_name : c__law_no_name.lent = [true] := rfl
def c__law_sign : CFn := ⟨2, [true], (.cons (.asg 1 (.const (.str " !\"#$&'()*+,-./0123456789:;<=>?@ABCDEFGHIJKLMNOPQRSTUVWXYZ[\\]^_`abcdefghijklmnopqrstuvwxyz{|}~\n"))) (.cons (.ret (.call "_law_pick" (.cons (.var 0) (.cons (.var 1) .nil)))) .nil))⟩
theorem l__law_sign : c__law_sign.lent = [true] := rfl
def q__law_signs_0 : CSs := (.cons (.ifS (.p2 .eq (.call "_law_take" (.cons (.var 0) (.cons (.const (.int (4))) .nil))) (.const (.int (0)))) (.cons (.asg 1 (.p2 .add (.var 1) (.call "_law_sign" (.cons (.var 0) .nil)))) .nil) (.cons (.asg 1 (.p2 .add (.var 1) (.call "_law_pick" (.cons (.var 0) (.cons (.const (.str "abcdefghijklmnopqrstuvwxyz0123456789")) .nil))))) .nil)) .nil)
def c__law_signs : CFn := ⟨3, [true], (.cons (.asg 1 (.const (.str ""))) (.cons (.forS (.name 2) (.rng1 (.call "_law_take" (.cons (.var 0) (.cons (.const (.int (15))) .nil)))) q__law_signs_0) (.cons (.ret (.var 1)) .nil)))⟩
theorem l__law_signs : c__law_signs.lent = [true] := rfl
def c__law_stretched : CFn := ⟨3, [true], (.cons (.asg 1 (.call "_law_pick" (.cons (.var 0) (.cons (.lst (.cons (.const (.int (11))) (.cons (.const (.int (12))) (.cons (.const (.int (13))) .nil)))) .nil)))) (.cons (.ifS (.p2 .eq (.call "_law_take" (.cons (.var 0) (.cons (.const (.int (4))) .nil))) (.const (.int (0)))) (.cons (.asg 1 (.p2 .add (.const (.int (13))) (.call "_law_take" (.cons (.var 0) (.cons (.const (.int (4988))) .nil))))) .nil) .nil) (.cons (.asg 2 (.call "_law_name" (.cons (.var 0) .nil))) (.cons (.ret (.p2 .sto (.p2 .mul (.var 2) (.var 1)) (.var 1))) .nil))))⟩
theorem l__law_stretched : c__law_stretched.lent = [true] := rfl
def c__law_strings : CFn := ⟨5, [true], (.cons (.asg 1 (.call "_law_name" (.cons (.var 0) .nil))) (.cons (.asg 2 (.call "_law_take" (.cons (.var 0) (.cons (.p1 .len (.var 1)) .nil)))) (.cons (.asg 3 (.lst (.cons (.const (.str "yes")) (.cons (.const (.str "no")) (.cons (.const (.str "none")) (.cons (.const (.str "ye")) (.cons (.const (.str "yess")) (.cons (.const (.str "yes1")) (.cons (.const (.str "n")) (.cons (.const (.str "nn")) (.cons (.const (.str "non")) (.cons (.const (.str "nones")) (.cons (.const (.str "none1")) (.cons (.const (.str "no1")) (.cons (.const (.str "noo")) (.cons (.const (.str "nno")) (.cons (.const (.str "oyes")) .nil))))))))))))))))) (.cons (.asg 3 (.p2 .add (.var 3) (.lst (.cons (.const (.str "Yes")) (.cons (.const (.str "NO")) (.cons (.const (.str "None")) (.cons (.const (.str "yes\n")) (.cons (.const (.str " no")) (.cons (.const (.str "none ")) (.cons (.const (.str "y")) (.cons (.const (.str "e")) (.cons (.const (.str "s")) (.cons (.const (.str "0")) (.cons (.const (.str "a0")) (.cons (.const (.str "0a")) .nil))))))))))))))) (.cons (.asg 4 (.lst (.cons (.call "_law_name" (.cons (.var 0) .nil)) (.cons (.call "_law_no_name" (.cons (.var 0) .nil)) (.cons (.call "_law_pick" (.cons (.var 0) (.cons (.var 3) .nil))) .nil))))) (.cons (.expr (.mut 4 .append (.cons (.p2 .add (.p2 .add (.p2 .sto (.var 1) (.var 2)) (.call "_law_sign" (.cons (.var 0) .nil))) (.p2 .sfrom (.var 1) (.p2 .add (.var 2) (.const (.int (1)))))) .nil))) (.cons (.expr (.mut 4 .append (.cons (.p2 .add (.p2 .sto (.var 1) (.const (.int (11)))) (.call "_law_sign" (.cons (.var 0) .nil))) .nil))) (.cons (.ret (.p2 .add (.var 4) (.lst (.cons (.call "_law_signs" (.cons (.var 0) .nil)) (.cons (.call "_law_stretched" (.cons (.var 0) .nil)) .nil))))) .nil))))))))⟩
theorem l__law_strings : c__law_strings.lent = [true] := rfl
def q__law_due_0 : CE := (.andE (.p2 .notIn (.p2 .get (.var 0) (.var 3)) (.var 1)) (.orE (.p2 .eq (.var 3) (.const (.int (0)))) (.p2 .notIn (.p2 .get (.var 0) (.var 3)) (.const (.str "0123456789")))))
def q__law_due_1 : CE := (.var 3)
def c__law_due : CFn := ⟨4, [false], (.cons (.asg 1 (.const (.str "abcdefghijklmnopqrstuvwxyz"))) (.cons (.asg 2 (.compIf [3] (.name 3) (.rng1 (.p1 .len (.var 0))) q__law_due_0 q__law_due_1)) (.cons (.ifS (.orE (.p2 .ne (.var 2) (.lst .nil)) (.orE (.p2 .gt (.p1 .len (.var 0)) (.const (.int (12)))) (.p2 .inn (.var 0) (.tup (.cons (.const (.str "")) (.cons (.const (.str "yes")) (.cons (.const (.str "no")) (.cons (.const (.str "none")) .nil)))))))) (.cons (.ret (.tup (.cons (.const (.str "refused")) (.cons (.const (.str "Misnamed")) (.cons (.tup (.cons (.var 0) .nil)) .nil))))) .nil) .nil) (.cons (.ret (.tup (.cons (.const (.str "right")) (.cons (.var 0) .nil)))) .nil))))⟩
theorem l__law_due : c__law_due.lent = [false] := rfl
def c__law_holds : CFn := ⟨1, [false], (.cons (.ret (.call "_law_same" (.cons (.tried (.call "check_name" (.cons (.var 0) .nil))) (.cons (.call "_law_due" (.cons (.var 0) .nil)) .nil)))) .nil)⟩
theorem l__law_holds : c__law_holds.lent = [false] := rfl
def q_law_0 : CSs := (.cons (.ifS (.notE (.call "_law_holds" (.cons (.var 3) .nil))) (.cons (.ret (.const (.bl false))) .nil) .nil) .nil)
def c_law : CFn := ⟨4, [false], (.cons (.asg 1 (.call "_law_store" (.cons (.var 0) .nil))) (.cons (.asg 2 (.call "_law_strings" (.cons (.var 1) .nil))) (.cons (.forS (.name 3) (.val (.p2 .add (.var 2) (.p1 .back (.var 2)))) q_law_0) (.cons (.ret (.const (.bl true))) .nil))))⟩
theorem l_law : c_law.lent = [false] := rfl
def fns : Str → Option CFn := fun x =>
  if x = "is_word" then some c_is_word else
  if x = "check_name" then some c_check_name else
  if x = "_law_mix" then some c__law_mix else
  if x = "_law_store" then some c__law_store else
  if x = "_law_take" then some c__law_take else
  if x = "_law_pick" then some c__law_pick else
  if x = "_law_same" then some c__law_same else
  if x = "_law_name" then some c__law_name else
  if x = "_law_no_name" then some c__law_no_name else
  if x = "_law_sign" then some c__law_sign else
  if x = "_law_signs" then some c__law_signs else
  if x = "_law_stretched" then some c__law_stretched else
  if x = "_law_strings" then some c__law_strings else
  if x = "_law_due" then some c__law_due else
  if x = "_law_holds" then some c__law_holds else
  if x = "law" then some c_law else
  none
theorem f_is_word : fns "is_word" = some c_is_word := rfl
theorem f_check_name : fns "check_name" = some c_check_name := rfl
theorem f__law_mix : fns "_law_mix" = some c__law_mix := rfl
theorem f__law_store : fns "_law_store" = some c__law_store := rfl
theorem f__law_take : fns "_law_take" = some c__law_take := rfl
theorem f__law_pick : fns "_law_pick" = some c__law_pick := rfl
theorem f__law_same : fns "_law_same" = some c__law_same := rfl
theorem f__law_name : fns "_law_name" = some c__law_name := rfl
theorem f__law_no_name : fns "_law_no_name" = some c__law_no_name := rfl
theorem f__law_sign : fns "_law_sign" = some c__law_sign := rfl
theorem f__law_signs : fns "_law_signs" = some c__law_signs := rfl
theorem f__law_stretched : fns "_law_stretched" = some c__law_stretched := rfl
theorem f__law_strings : fns "_law_strings" = some c__law_strings := rfl
theorem f__law_due : fns "_law_due" = some c__law_due := rfl
theorem f__law_holds : fns "_law_holds" = some c__law_holds := rfl
theorem f_law : fns "law" = some c_law := rfl
def fuel : Nat := 100000
def gs : List (Str × D) := [("LETTERS", (.str "abcdefghijklmnopqrstuvwxyz")), ("DIGITS", (.str "0123456789")), ("LONGEST_WORD", (.int (12)))]
def globs : Str → Option D := fun x => (gs.find? fun g => decide (g.1 = x)).map (·.2)
theorem g_LETTERS : globs "LETTERS" = some (.str "abcdefghijklmnopqrstuvwxyz") := rfl
theorem g_DIGITS : globs "DIGITS" = some (.str "0123456789") := rfl
theorem g_LONGEST_WORD : globs "LONGEST_WORD" = some (.int (12)) := rfl
end LW

set_option Elab.async false
set_option linter.all false
set_option maxRecDepth 100000
set_option maxHeartbeats 0
namespace LW
open PySem G
abbrev rn (K : Nat) (f : Str) (ds : List D) : R Out := G.run fns globs fuel K f ds
theorem base : Base fns := ⟨f__law_mix, f__law_take, f__law_pick, f__law_store⟩
theorem wrd : WordB fns globs := ⟨f_is_word, f_check_name, g_LETTERS, g_DIGITS, g_LONGEST_WORD⟩
local macro_rules | `(tactic| walk_at "ew") => `(tactic| ((with_reducible apply wp_simp); (next => simp (disch := first | assumption | omega | decide +kernel) only [G.bind_ok, G.bind_of, G.e_const, G.e_var, G.e_p1, G.e_p2, G.e_p3, G.e_and, G.e_or, G.e_not, G.e_if, G.e_tup, G.e_lst, G.e_dic, G.e_call, G.e_mut, G.e_comp, G.e_compIf, G.es_nil, G.es_cons, G.ei_v, G.ei_e, G.ei_1, G.e_glob, G.e_chain, G.e_tried, G.hide_own, G.hide_val, G.hide_no', G.low_eq, G.runLow_at, G.x_raise, G.ka_raise, G.e_dicz, G.ei_rev, G.ei_zip, G.ei_3, G.ei_2, G.ka_p1, G.ka_p2b, G.ka_p2, G.ka_p3c, G.ka_p3b, G.ka_p3, G.ka_and, G.ka_or, G.ka_not, G.ka_if, G.ka_tup, G.ka_lst, G.ka_dic, G.ka_fin, G.ka_call, G.ka_mut, G.ka_cmp2, G.ka_cmp, G.ka_es2, G.ka_es, G.ka_iv, G.ka_ie, G.small62_c, G.ka_i1, G.ka_i2, G.ka_i2b, G.x_pass, G.x_brk, G.x_cont, G.x_retN, G.x_asg, G.x_asgT, G.x_setI, G.x_expr, G.x_ret, G.x_if, G.x_for, G.xs_nil, G.xs_cons, G.ka_asgF, G.ka_asgV, G.ka_asgS, G.ka_asgT, G.ka_set, G.ka_set2, G.ka_expr, G.ka_retV, G.ka_retF, G.ka_retS, G.ka_ifS, G.ka_for, G.ka_seqN, G.ka_seqR, G.ka_seqB, G.ka_seqC, G.ka_bodyN, G.ka_bodyR, G.body_eq, G.forL_nil, G.stepS_eq, G.ka_stepN, G.ka_stepC, G.ka_stepB, G.ka_stepR, G.c_val, G.c_fresh, G.f_val, G.f_fresh, G.ob_some, G.om_some, G.asB_b, G.tr_b, G.fin_f, G.fin_b, G.p_addI, G.p_iaddI, G.p_isubI, G.p_subI, G.p_mulI, G.p_fdiv, G.p_mod, G.p_pow, G.p_lt, G.p_le, G.p_gt, G.p_ge, G.p_eq, G.p_ne, G.boolR_s, G.p_intI, G.p_getT, G.p_getL, G.p_getK, G.p_lenT, G.p_lenL, G.p_lenF, G.p_tupL, G.p_tupT, G.p_lstT, G.p_lstF, G.p_addT, G.p_addL, G.small_r, G.small_mod, G.cont_slot, G.freeze_slot', G.ob_none, G.om_none, G.keys_ne, G.natAbs10, G.natAbs2, G.w_tup, G.w_lst, G.w_frz, G.fa_nil, G.fa_cons, G.calm_ok, G.n_non, G.n_bl, G.n_int, G.n_str, G.n_tup, G.n_lst, G.t_non, G.t_bl, G.t_int, G.t_str, G.t_tup, G.t_lst, G.u_tup, G.u_lst, G.u_int, G.p_backT, G.p_backL, G.p_strS, G.getD_0, G.getD_1, G.getD_2, G.getD_3, G.getD_5, G.getD_6, G.getD_7, G.getD_8, G.getD_4, G.compL_nil, G.ka_cc, G.ka_cc2, G.ka_el, G.stepOf_n, G.wipe1, G.rest1, G.rngD_len, G.compOk_1, G.p_getOr, G.pre_getOr, G.preb_getOr, G.p_max, G.p_min, G.p_stoL, G.p_stoT, G.p_mulT, G.p_sfromT, G.p_sfromL, G.p_sliceT, G.p_sliceL, G.pre_slice, G.preb_slice, G.p_inn, G.p_notIn, G.p_addS, G.p_mulL, G.stepOf_c, G.ka_cond, G.ka_ch, G.ka_ch1, G.ka_ch2, G.ka_irev, G.it_tup, G.it_lst, G.it_frz, G.ka_iz, G.ka_iz2, G.zo_tup, G.zo_lst, G.ka_i3, G.ka_i3b, G.ka_i3c, G.ka_dicz, G.p_idx, G.pre_idx, G.p_idxT, G.pre_idxT, G.preb_idx, G.m_app, G.m_popAt, G.m_ins, G.set_lst, G.set_dic, G.cast0, G.cast1, G.cast2, G.cast3, G.cast4, G.cast5, G.cast6, G.retd, G.deq_iff, G.eqD_bl, G.eqD_int, G.z_List_zip_cons_cons, G.z_List_zip_nil_left, G.z_List_zip_nil_right, G.z_List_foldl_cons, G.z_List_foldl_nil, G.z_fin_true, G.z_eq_self, G.z_Option_getD_some, G.z_Option_getD_none, G.z_List_length_cons, G.z_List_length_nil, G.z_List_cons_append, G.z_List_nil_append, G.z_List_getElem__cons_zero, G.z_List_getElem__cons_succ, G.z_List_getElem__nil, G.z_List_set_cons_zero, G.z_List_set_cons_succ, G.z_List_getD_cons_zero, G.z_List_getD_cons_succ, G.z_List_getD_nil, G.z_if_true, G.z_if_false, G.z_and_self, G.z_and_true, G.z_true_and, G.z_Nat_zero_add, G.z_decide_true, G.z_decide_false, G.z_Bool_false_eq_true, G.z_Sum_inr_injEq, G.z_List_any_cons, G.z_List_any_nil, G.z_List_map_cons, G.z_List_map_nil, G.z_Bool_or_false, G.z_Bool_false_or, G.z_Bool_or_true, G.z_Bool_true_or, G.z_sizeLine_eq, G.z_List_nodup_nil, G.z_List_nodup_cons, G.z_List_not_mem_nil, G.z_not_false_eq_true, G.z_ne_eq, G.z_Option_some_injEq, G.z_implies_true, G.z_Bool_and_true, G.z_Bool_true_and, G.z_Bool_and_false, G.z_Bool_false_and, G.z_List_isEmpty_nil, G.z_List_isEmpty_cons, G.z_Bool_not_true, G.z_Bool_not_false, G.z_List_length_map, G.z_ite_self, G.z_decide_eq_true_eq, G.z_Bool_and_eq_true, G.z_Bool_or_eq_true, G.z_Bool_not_eq_true, G.z_Bool_or_self, G.z_Bool_and_self, G.z_List_all_cons, G.z_List_all_nil, G.z_Bool_not_eq_eq_eq_not, G.z_Option_map_some, G.z_Option_map_none, G.z_Int_sub_zero, G.z_Int_zero_add, G.z_decide_not, G.z_decide_eq_false_iff_not, G.z_Bool_decide_eq_true, G.z_ge_iff_le, G.z_gt_iff_lt, G.bq_tt, G.bq_tf, G.bq_ft, G.bq_ff, G.told_eq, G.mark_ite, G.rite_t, G.rite_f, G.mark_need, G.need_t, G.of_s, G.add_le3, G.not_le_iff, G.seq_ne, G.beq_str, G.deq_false, G.ixOf_int, G.toNat_c, G.all_c, G.all_n, G.any_c, G.any_n, G.asb_n, G.asb_c, G.id_b, G.all_true, G.isB_b, G.isB_n, G.isNB_b, G.isNB_n, G.nn_non, G.nn_bl, G.nn_int, G.nn_str, G.p_lstL, G.inD_tu, G.inD_lu, G.fl_s, G.fl_i, G.fl_b, G.fl_n, G.fl_t, G.fl_l, G.eqF_ss, G.eqF_ii, G.eqF_bb, G.eqF_nn, G.eqF_si, G.eqF_is, G.eqF_sn, G.eqF_ns, G.eqF_in, G.eqF_ni, G.mark_cok, G.p_stoS, G.p_sfromS, G.p_sliceS, G.p_lenS, G.p_strI, G.strs_flat, G.strs_any, G.inD_ls, G.inD_ts, G.mem_letters, G.mem_digits, G.inD_sign, G.w_str, G.p_mulS, Nat.reduceAdd, Nat.reduceSub, Nat.reduceLT, Nat.reduceLeDiff, reduceIte, Int.reducePow, Int.reduceNeg, Int.reduceLT, Int.reduceLE, reduceCtorEq, Int.reduceSub, Int.reduceAdd, Int.reduceToNat, Int.reduceAbs, Nat.reducePow, List.replicate, mkDic, startE, finals, store, lookK, putKD, ownX, ownL, callFn, passVals, conts, lentSlots, putBack, isScal, assignT, G.storeAll, lentOwn, l__law_no_name, l__law_sign, l__law_signs, l__law_stretched, l__law_strings, l__law_due, l__law_holds, l_law, f_is_word, f_check_name, f__law_mix, f__law_store, f__law_take, f__law_pick, f__law_same, f__law_name, f__law_no_name, f__law_sign, f__law_signs, f__law_stretched, f__law_strings, f__law_due, f__law_holds, f_law, g_LETTERS, g_DIGITS, g_LONGEST_WORD, G.l__law_mix, G.l__law_take, G.l__law_pick, G.l__law_store, G.l__law_same, G.l__law_name, G.l_is_word, G.l_check_name, p_lenS, p_stoS, p_sfromS, *]; exact rfl)))
local macro_rules | `(tactic| walk_at "st") => `(tactic| first | (((with_reducible apply wp_rite) <;> intro _) <;> try (exfalso; omega)) | ((with_reducible apply wp_need); (next => first | ((with_reducible apply Cok.mk) <;> first | decide | (simp only [List.all_cons, List.all_nil, Bool.and_true, List.getElem?_cons_zero, List.getElem?_cons_succ, notOwn_val, notOwn_no, *]) | omega | (split <;> omega) | (refine ⟨?_, ?_⟩ <;> omega) | (refine ⟨?_, ?_, ?_⟩ <;> omega) | (simp only [rngD_len, List.length_cons, List.length_nil, List.length_append, List.length_map, app_len, len1]; omega) | ((with_reducible apply add_le3); (next => exact cut_len); (next => exact cut_len); omega) | (try (simp only [app_len, len1]); (with_reducible apply add_le3); (next => first | exact cutS_le | exact Nat.add_le_add_right cutS_le 1 | exact Nat.le_refl _); (next => first | exact cutS_le | exact Nat.le_refl _); (first | omega | (simp only [app_len, len1]; omega)))) | (with_reducible assumption) | omega | (split <;> omega) | (refine ⟨?_, ?_⟩ <;> omega) | (refine ⟨?_, ?_, ?_⟩ <;> omega) | (simp only [rngD_len, List.length_cons, List.length_nil, List.length_append, List.length_map, app_len, len1]; omega) | ((with_reducible apply add_le3); (next => exact cut_len); (next => exact cut_len); omega) | (try (simp only [app_len, len1]); (with_reducible apply add_le3); (next => first | exact cutS_le | exact Nat.add_le_add_right cutS_le 1 | exact Nat.le_refl _); (next => first | exact cutS_le | exact Nat.le_refl _); (first | omega | (simp only [app_len, len1]; omega))))) | ((with_reducible apply wp_getR); (next => first | omega | (split <;> omega) | (refine ⟨?_, ?_⟩ <;> omega) | (refine ⟨?_, ?_, ?_⟩ <;> omega) | (simp only [rngD_len, List.length_cons, List.length_nil, List.length_append, List.length_map, app_len, len1]; omega) | ((with_reducible apply add_le3); (next => exact cut_len); (next => exact cut_len); omega) | (try (simp only [app_len, len1]); (with_reducible apply add_le3); (next => first | exact cutS_le | exact Nat.add_le_add_right cutS_le 1 | exact Nat.le_refl _); (next => first | exact cutS_le | exact Nat.le_refl _); (first | omega | (simp only [app_len, len1]; omega)))); (next => first | omega | (split <;> omega) | (refine ⟨?_, ?_⟩ <;> omega) | (refine ⟨?_, ?_, ?_⟩ <;> omega) | (simp only [rngD_len, List.length_cons, List.length_nil, List.length_append, List.length_map, app_len, len1]; omega) | ((with_reducible apply add_le3); (next => exact cut_len); (next => exact cut_len); omega) | (try (simp only [app_len, len1]); (with_reducible apply add_le3); (next => first | exact cutS_le | exact Nat.add_le_add_right cutS_le 1 | exact Nat.le_refl _); (next => first | exact cutS_le | exact Nat.le_refl _); (first | omega | (simp only [app_len, len1]; omega)))); intro _ _ _) | ((with_reducible apply wp_tk); (next => exact base); (next => omega); (next => assumption); (next => first | decide | omega); intro _ _ _ _ _) | ((with_reducible apply wp_pkS); (next => exact base); (next => omega); (next => assumption); (next => first | decide | (with_reducible exact strs_isStr) | (with_reducible assumption)); (next => first | decide | omega | (simp only [List.length_append, List.length_map, List.length_cons, List.length_nil]; omega)); (next => first | decide | omega | (simp only [List.length_append, List.length_map, List.length_cons, List.length_nil]; omega)); intro _ _ _ _) | ((with_reducible apply wp_pkL); (next => exact base); (next => omega); (next => assumption); (next => first | decide | omega | (simp only [List.length_append, List.length_map, List.length_cons, List.length_nil]; omega)); (next => first | decide | omega | (simp only [List.length_append, List.length_map, List.length_cons, List.length_nil]; omega)); intro _ _ _ _) | ((with_reducible apply wp_pkT); (next => exact base); (next => omega); (next => assumption); (next => first | decide | omega | (simp only [List.length_append, List.length_map, List.length_cons, List.length_nil]; omega)); (next => first | decide | omega | (simp only [List.length_append, List.length_map, List.length_cons, List.length_nil]; omega)); intro _ _ _ _) | ((with_reducible apply wp_name); (next => exact base); (next => exact f__law_name); (next => omega); (next => assumption); intro _ _ _ _ _ _) | ((with_reducible apply wp_pkC); (next => exact base); (next => omega); (next => assumption); (next => decide +kernel); (next => decide +kernel); intro _ _ _ _))
local macro_rules | `(tactic| walk_at "wps") => `(tactic| repeat' (first | (with_reducible apply wp_okI) | (with_reducible apply wp_excI) | (with_reducible apply wp_bI) | (with_reducible apply wp_tri) | ((with_reducible apply wp_tx); (next => first | (with_reducible exact G.er_BadText) | (with_reducible exact G.er_Malformed) | (with_reducible exact G.er_Misnamed) | (with_reducible exact G.er_Doubled) | (with_reducible exact G.er_Unknown) | (with_reducible exact G.er_TooMany) | (with_reducible exact G.er_Ring) | (with_reducible exact G.er_Unlawful) | (with_reducible exact G.er_NotAllowed) | (with_reducible exact G.er_NotOne) | (with_reducible exact G.er_Shared) | (with_reducible exact G.er_Unlike) | (with_reducible exact G.er_Forced))) | (walk_at "ew") | (walk_at "st") | dsimp only))
theorem no_name_ok {K : Nat} {st : D} (hK : 8 ≤ K) (h0 : StoreOk st) : (rn K "_law_no_name" [st]).wq (Drw false (TxD 40)) (fun _ => False) := by
  obtain ⟨K, rfl⟩ : ∃ k, K = k + 1 := ⟨K - 1, by omega⟩
  unfold rn
  rw [run_succ f__law_no_name]
  unfold c__law_no_name
  have l13 : ("abcdefghijklm" : Str).length = 13 := by decide +kernel
  walk_at "wps"
  · exact Drw.mk (by assumption) ⟨_, rfl, txB_ok (by decide +kernel)⟩
  · rename_i hw
    exact Drw.mk (by assumption) (txD_ok (n := 40) (by decide +kernel) _ hw)
  · rename_i hx _ _ _ _ _ _ _ _ _ _
    exact Drw.mk (by assumption) (((nameB_tx (by assumption)).app (txB_ok (n := 13) (by decide +kernel))).cut.d (by decide))
  · rename_i hc
    exact Drw.mk (by assumption) (((Tx.sign ((txB_ok (n := 10) (s := "0123456789") (by decide +kernel)).asc _ hc)).app (nameB_tx (by assumption)).cut).d (by decide))
  · rename_i hw
    obtain ⟨w, e, hw'⟩ := txD_ok (n := 1) (by decide +kernel) _ hw
    injection e with e
    subst e
    have := hw'.len
    walk_at "wps"
    exact Drw.mk (by assumption) (((nameB_tx (by assumption)).app hw').d (by decide))
  · rename_i hc
    exact Drw.mk (by assumption) ((((nameB_tx (by assumption)).cut.app (Tx.sign ((txB_ok (n := 70) (by decide +kernel)).asc _ hc))).app (nameB_tx (by assumption)).cut).d (by decide))
theorem sign_ok {K : Nat} {st : D} {E : Ex → Prop} {Q : Out → Prop} (hK : 4 ≤ K) (h0 : StoreOk st) (k : ∀ c s, StoreOk s → c < 128 → Q (false, .str ⟨#[c]⟩, [.own s])) : (rn K "_law_sign" [st]).wq Q E := by
  obtain ⟨K, rfl⟩ : ∃ k, K = k + 1 := ⟨K - 1, by omega⟩
  unfold rn
  rw [run_succ f__law_sign]
  unfold c__law_sign
  walk_at "wps"
  rename_i hc
  exact k _ _ (by assumption) ((txB_ok (n := 100) (by decide +kernel)).asc _ hc)
local macro_rules | `(tactic| walk_at "ew") => `(tactic| ((with_reducible apply wp_simp); (next => simp (disch := first | assumption | omega | decide +kernel) only [G.bind_ok, G.bind_of, G.e_const, G.e_var, G.e_p1, G.e_p2, G.e_p3, G.e_and, G.e_or, G.e_not, G.e_if, G.e_tup, G.e_lst, G.e_dic, G.e_call, G.e_mut, G.e_comp, G.e_compIf, G.es_nil, G.es_cons, G.ei_v, G.ei_e, G.ei_1, G.e_glob, G.e_chain, G.e_tried, G.hide_own, G.hide_val, G.hide_no', G.low_eq, G.runLow_at, G.x_raise, G.ka_raise, G.e_dicz, G.ei_rev, G.ei_zip, G.ei_3, G.ei_2, G.ka_p1, G.ka_p2b, G.ka_p2, G.ka_p3c, G.ka_p3b, G.ka_p3, G.ka_and, G.ka_or, G.ka_not, G.ka_if, G.ka_tup, G.ka_lst, G.ka_dic, G.ka_fin, G.ka_call, G.ka_mut, G.ka_cmp2, G.ka_cmp, G.ka_es2, G.ka_es, G.ka_iv, G.ka_ie, G.small62_c, G.ka_i1, G.ka_i2, G.ka_i2b, G.x_pass, G.x_brk, G.x_cont, G.x_retN, G.x_asg, G.x_asgT, G.x_setI, G.x_expr, G.x_ret, G.x_if, G.x_for, G.xs_nil, G.xs_cons, G.ka_asgF, G.ka_asgV, G.ka_asgS, G.ka_asgT, G.ka_set, G.ka_set2, G.ka_expr, G.ka_retV, G.ka_retF, G.ka_retS, G.ka_ifS, G.ka_for, G.ka_seqN, G.ka_seqR, G.ka_seqB, G.ka_seqC, G.ka_bodyN, G.ka_bodyR, G.body_eq, G.forL_nil, G.stepS_eq, G.ka_stepN, G.ka_stepC, G.ka_stepB, G.ka_stepR, G.c_val, G.c_fresh, G.f_val, G.f_fresh, G.ob_some, G.om_some, G.asB_b, G.tr_b, G.fin_f, G.fin_b, G.p_addI, G.p_iaddI, G.p_isubI, G.p_subI, G.p_mulI, G.p_fdiv, G.p_mod, G.p_pow, G.p_lt, G.p_le, G.p_gt, G.p_ge, G.p_eq, G.p_ne, G.boolR_s, G.p_intI, G.p_getT, G.p_getL, G.p_getK, G.p_lenT, G.p_lenL, G.p_lenF, G.p_tupL, G.p_tupT, G.p_lstT, G.p_lstF, G.p_addT, G.p_addL, G.small_r, G.small_mod, G.cont_slot, G.freeze_slot', G.ob_none, G.om_none, G.keys_ne, G.natAbs10, G.natAbs2, G.w_tup, G.w_lst, G.w_frz, G.fa_nil, G.fa_cons, G.calm_ok, G.n_non, G.n_bl, G.n_int, G.n_str, G.n_tup, G.n_lst, G.t_non, G.t_bl, G.t_int, G.t_str, G.t_tup, G.t_lst, G.u_tup, G.u_lst, G.u_int, G.p_backT, G.p_backL, G.p_strS, G.getD_0, G.getD_1, G.getD_2, G.getD_3, G.getD_5, G.getD_6, G.getD_7, G.getD_8, G.getD_4, G.compL_nil, G.ka_cc, G.ka_cc2, G.ka_el, G.stepOf_n, G.wipe1, G.rest1, G.rngD_len, G.compOk_1, G.p_getOr, G.pre_getOr, G.preb_getOr, G.p_max, G.p_min, G.p_stoL, G.p_stoT, G.p_mulT, G.p_sfromT, G.p_sfromL, G.p_sliceT, G.p_sliceL, G.pre_slice, G.preb_slice, G.p_inn, G.p_notIn, G.p_addS, G.p_mulL, G.stepOf_c, G.ka_cond, G.ka_ch, G.ka_ch1, G.ka_ch2, G.ka_irev, G.it_tup, G.it_lst, G.it_frz, G.ka_iz, G.ka_iz2, G.zo_tup, G.zo_lst, G.ka_i3, G.ka_i3b, G.ka_i3c, G.ka_dicz, G.p_idx, G.pre_idx, G.p_idxT, G.pre_idxT, G.preb_idx, G.m_app, G.m_popAt, G.m_ins, G.set_lst, G.set_dic, G.cast0, G.cast1, G.cast2, G.cast3, G.cast4, G.cast5, G.cast6, G.retd, G.deq_iff, G.eqD_bl, G.eqD_int, G.z_List_zip_cons_cons, G.z_List_zip_nil_left, G.z_List_zip_nil_right, G.z_List_foldl_cons, G.z_List_foldl_nil, G.z_fin_true, G.z_eq_self, G.z_Option_getD_some, G.z_Option_getD_none, G.z_List_length_cons, G.z_List_length_nil, G.z_List_cons_append, G.z_List_nil_append, G.z_List_getElem__cons_zero, G.z_List_getElem__cons_succ, G.z_List_getElem__nil, G.z_List_set_cons_zero, G.z_List_set_cons_succ, G.z_List_getD_cons_zero, G.z_List_getD_cons_succ, G.z_List_getD_nil, G.z_if_true, G.z_if_false, G.z_and_self, G.z_and_true, G.z_true_and, G.z_Nat_zero_add, G.z_decide_true, G.z_decide_false, G.z_Bool_false_eq_true, G.z_Sum_inr_injEq, G.z_List_any_cons, G.z_List_any_nil, G.z_List_map_cons, G.z_List_map_nil, G.z_Bool_or_false, G.z_Bool_false_or, G.z_Bool_or_true, G.z_Bool_true_or, G.z_sizeLine_eq, G.z_List_nodup_nil, G.z_List_nodup_cons, G.z_List_not_mem_nil, G.z_not_false_eq_true, G.z_ne_eq, G.z_Option_some_injEq, G.z_implies_true, G.z_Bool_and_true, G.z_Bool_true_and, G.z_Bool_and_false, G.z_Bool_false_and, G.z_List_isEmpty_nil, G.z_List_isEmpty_cons, G.z_Bool_not_true, G.z_Bool_not_false, G.z_List_length_map, G.z_ite_self, G.z_decide_eq_true_eq, G.z_Bool_and_eq_true, G.z_Bool_or_eq_true, G.z_Bool_not_eq_true, G.z_Bool_or_self, G.z_Bool_and_self, G.z_List_all_cons, G.z_List_all_nil, G.z_Bool_not_eq_eq_eq_not, G.z_Option_map_some, G.z_Option_map_none, G.z_Int_sub_zero, G.z_Int_zero_add, G.z_decide_not, G.z_decide_eq_false_iff_not, G.z_Bool_decide_eq_true, G.z_ge_iff_le, G.z_gt_iff_lt, G.bq_tt, G.bq_tf, G.bq_ft, G.bq_ff, G.told_eq, G.mark_ite, G.rite_t, G.rite_f, G.mark_need, G.need_t, G.of_s, G.add_le3, G.not_le_iff, G.seq_ne, G.beq_str, G.deq_false, G.ixOf_int, G.toNat_c, G.all_c, G.all_n, G.any_c, G.any_n, G.asb_n, G.asb_c, G.id_b, G.all_true, G.isB_b, G.isB_n, G.isNB_b, G.isNB_n, G.nn_non, G.nn_bl, G.nn_int, G.nn_str, G.p_lstL, G.inD_tu, G.inD_lu, G.fl_s, G.fl_i, G.fl_b, G.fl_n, G.fl_t, G.fl_l, G.eqF_ss, G.eqF_ii, G.eqF_bb, G.eqF_nn, G.eqF_si, G.eqF_is, G.eqF_sn, G.eqF_ns, G.eqF_in, G.eqF_ni, G.mark_cok, G.p_stoS, G.p_sfromS, G.p_sliceS, G.p_lenS, G.p_strI, G.strs_flat, G.strs_any, G.inD_ls, G.inD_ts, G.mem_letters, G.mem_digits, G.inD_sign, G.w_str, G.p_mulS, Nat.reduceAdd, Nat.reduceSub, Nat.reduceLT, Nat.reduceLeDiff, reduceIte, Int.reducePow, Int.reduceNeg, Int.reduceLT, Int.reduceLE, reduceCtorEq, Int.reduceSub, Int.reduceAdd, Int.reduceToNat, Int.reduceAbs, Nat.reducePow, List.replicate, mkDic, startE, finals, store, lookK, putKD, ownX, ownL, callFn, passVals, conts, lentSlots, putBack, isScal, assignT, G.storeAll, lentOwn, l__law_no_name, l__law_sign, l__law_signs, l__law_stretched, l__law_strings, l__law_due, l__law_holds, l_law, f_is_word, f_check_name, f__law_mix, f__law_store, f__law_take, f__law_pick, f__law_same, f__law_name, f__law_no_name, f__law_sign, f__law_signs, f__law_stretched, f__law_strings, f__law_due, f__law_holds, f_law, g_LETTERS, g_DIGITS, g_LONGEST_WORD, G.l__law_mix, G.l__law_take, G.l__law_pick, G.l__law_store, G.l__law_same, G.l__law_name, G.l_is_word, G.l_check_name, p_lenS, p_stoS, p_sfromS, *]; exact rfl)))
local macro_rules | `(tactic| walk_at "st") => `(tactic| first | (((with_reducible apply wp_rite) <;> intro _) <;> try (exfalso; omega)) | ((with_reducible apply wp_need); (next => first | ((with_reducible apply Cok.mk) <;> first | decide | (simp only [List.all_cons, List.all_nil, Bool.and_true, List.getElem?_cons_zero, List.getElem?_cons_succ, notOwn_val, notOwn_no, *]) | omega | (split <;> omega) | (refine ⟨?_, ?_⟩ <;> omega) | (refine ⟨?_, ?_, ?_⟩ <;> omega) | (simp only [rngD_len, List.length_cons, List.length_nil, List.length_append, List.length_map, app_len, len1]; omega) | ((with_reducible apply add_le3); (next => exact cut_len); (next => exact cut_len); omega) | (try (simp only [app_len, len1]); (with_reducible apply add_le3); (next => first | exact cutS_le | exact Nat.add_le_add_right cutS_le 1 | exact Nat.le_refl _); (next => first | exact cutS_le | exact Nat.le_refl _); (first | omega | (simp only [app_len, len1]; omega)))) | (with_reducible assumption) | omega | (split <;> omega) | (refine ⟨?_, ?_⟩ <;> omega) | (refine ⟨?_, ?_, ?_⟩ <;> omega) | (simp only [rngD_len, List.length_cons, List.length_nil, List.length_append, List.length_map, app_len, len1]; omega) | ((with_reducible apply add_le3); (next => exact cut_len); (next => exact cut_len); omega) | (try (simp only [app_len, len1]); (with_reducible apply add_le3); (next => first | exact cutS_le | exact Nat.add_le_add_right cutS_le 1 | exact Nat.le_refl _); (next => first | exact cutS_le | exact Nat.le_refl _); (first | omega | (simp only [app_len, len1]; omega))))) | ((with_reducible apply wp_getR); (next => first | omega | (split <;> omega) | (refine ⟨?_, ?_⟩ <;> omega) | (refine ⟨?_, ?_, ?_⟩ <;> omega) | (simp only [rngD_len, List.length_cons, List.length_nil, List.length_append, List.length_map, app_len, len1]; omega) | ((with_reducible apply add_le3); (next => exact cut_len); (next => exact cut_len); omega) | (try (simp only [app_len, len1]); (with_reducible apply add_le3); (next => first | exact cutS_le | exact Nat.add_le_add_right cutS_le 1 | exact Nat.le_refl _); (next => first | exact cutS_le | exact Nat.le_refl _); (first | omega | (simp only [app_len, len1]; omega)))); (next => first | omega | (split <;> omega) | (refine ⟨?_, ?_⟩ <;> omega) | (refine ⟨?_, ?_, ?_⟩ <;> omega) | (simp only [rngD_len, List.length_cons, List.length_nil, List.length_append, List.length_map, app_len, len1]; omega) | ((with_reducible apply add_le3); (next => exact cut_len); (next => exact cut_len); omega) | (try (simp only [app_len, len1]); (with_reducible apply add_le3); (next => first | exact cutS_le | exact Nat.add_le_add_right cutS_le 1 | exact Nat.le_refl _); (next => first | exact cutS_le | exact Nat.le_refl _); (first | omega | (simp only [app_len, len1]; omega)))); intro _ _ _) | ((with_reducible apply wp_tk); (next => exact base); (next => omega); (next => assumption); (next => first | decide | omega); intro _ _ _ _ _) | ((with_reducible apply wp_pkS); (next => exact base); (next => omega); (next => assumption); (next => first | decide | (with_reducible exact strs_isStr) | (with_reducible assumption)); (next => first | decide | omega | (simp only [List.length_append, List.length_map, List.length_cons, List.length_nil]; omega)); (next => first | decide | omega | (simp only [List.length_append, List.length_map, List.length_cons, List.length_nil]; omega)); intro _ _ _ _) | ((with_reducible apply wp_pkL); (next => exact base); (next => omega); (next => assumption); (next => first | decide | omega | (simp only [List.length_append, List.length_map, List.length_cons, List.length_nil]; omega)); (next => first | decide | omega | (simp only [List.length_append, List.length_map, List.length_cons, List.length_nil]; omega)); intro _ _ _ _) | ((with_reducible apply wp_pkT); (next => exact base); (next => omega); (next => assumption); (next => first | decide | omega | (simp only [List.length_append, List.length_map, List.length_cons, List.length_nil]; omega)); (next => first | decide | omega | (simp only [List.length_append, List.length_map, List.length_cons, List.length_nil]; omega)); intro _ _ _ _) | ((with_reducible apply wp_name); (next => exact base); (next => exact f__law_name); (next => omega); (next => assumption); intro _ _ _ _ _ _) | ((with_reducible apply wp_pkC); (next => exact base); (next => omega); (next => assumption); (next => decide +kernel); (next => decide +kernel); intro _ _ _ _) | ((with_reducible apply sign_ok); (next => omega); (next => assumption); intro _ _ _ _))
local macro_rules | `(tactic| walk_at "wps") => `(tactic| repeat' (first | (with_reducible apply wp_okI) | (with_reducible apply wp_excI) | (with_reducible apply wp_bI) | (with_reducible apply wp_tri) | ((with_reducible apply wp_tx); (next => first | (with_reducible exact G.er_BadText) | (with_reducible exact G.er_Malformed) | (with_reducible exact G.er_Misnamed) | (with_reducible exact G.er_Doubled) | (with_reducible exact G.er_Unknown) | (with_reducible exact G.er_TooMany) | (with_reducible exact G.er_Ring) | (with_reducible exact G.er_Unlawful) | (with_reducible exact G.er_NotAllowed) | (with_reducible exact G.er_NotOne) | (with_reducible exact G.er_Shared) | (with_reducible exact G.er_Unlike) | (with_reducible exact G.er_Forced))) | (walk_at "ew") | (walk_at "st") | dsimp only))
theorem signs_ok {K : Nat} {st : D} (hK : 8 ≤ K) (h0 : StoreOk st) : (rn K "_law_signs" [st]).wq (Drw false (TxD 40)) (fun _ => False) := by
  obtain ⟨K, rfl⟩ : ∃ k, K = k + 1 := ⟨K - 1, by omega⟩
  unfold rn
  rw [run_succ f__law_signs]
  unfold c__law_signs
  walk_at "wps"
  rename_i r s hs r0 r1
  have r1 := r1 (by omega)
  refine wp_rng (fun k env => ∃ s x y, env = [.own s, .val (.str x), y] ∧ StoreOk s ∧ Tx k x ∧ notOwn (some y) = true) r.toNat ?_ ?_ _ ⟨_, _, _, rfl, hs, txB_ok (by decide +kernel), notOwn_no⟩
  · rintro k env hk ⟨s, x, y, rfl, hs2, hx, hy⟩
    have := hx.len
    unfold q__law_signs_0
    clear hs
    walk_at "wps"
    · rename_i c _ _ hc
      exact ⟨_, _, _, rfl, by assumption, hx.app (Tx.sign hc), rfl⟩
    · rename_i c _ _ hc
      exact ⟨_, _, _, rfl, by assumption, hx.app (Tx.sign ((txB_ok (n := 100) (by decide +kernel)).asc _ hc)), rfl⟩
  · rintro env ⟨s, x, y, rfl, hs2, hx, hy⟩
    walk_at "wps"
    exact Drw.mk hs2 (hx.d (by omega))
theorem stretched_ok {K : Nat} {st : D} (hK : 8 ≤ K) (h0 : StoreOk st) : (rn K "_law_stretched" [st]).wq (Drw false (TxD 5000)) (fun _ => False) := by
  obtain ⟨K, rfl⟩ : ∃ k, K = k + 1 := ⟨K - 1, by omega⟩
  unfold rn
  rw [run_succ f__law_stretched]
  unfold c__law_stretched
  walk_at "wps"
  · rename_i x s2 hs2 hx l1 l2
    rename_i r s3 hs3 r0 r1
    have r1 := r1 (by omega)
    have l3 : x.length * (13 + r).toNat ≤ 12 * 5001 := Nat.mul_le_mul l2 (by omega)
    have l4 := mulS_len (s := x) (k := 13 + r)
    have mx := mulS_tx (k := 13 + r) (nameB_tx hx)
    refine wp_need ⟨by omega, by omega, by omega⟩ ?_
    walk_at "wps"
    refine Drw.mk (by assumption) ⟨_, rfl, ?_, fun c hc => ?_⟩
    · have e := cutS_list (s := Txt.mul x (13 + r)) (lo := none) (hi := some (13 + r))
      rw [str_len, e, cutL_to (by omega), List.length_take]
      omega
    · rw [cutS_list] at hc
      exact mx c (List.mem_of_mem_drop (List.mem_of_mem_take hc))
  · rename_i d s1 hs1 hd r s4 hs4 r0 r1 hne x s2 hs2 hx l1 l2
    have : ∃ v : Int, d = .int v ∧ 11 ≤ v ∧ v ≤ 13 := by
      simp only [List.mem_cons, List.not_mem_nil, or_false] at hd
      rcases hd with rfl | rfl | rfl
      · exact ⟨_, rfl, by decide, by decide⟩
      · exact ⟨_, rfl, by decide, by decide⟩
      · exact ⟨_, rfl, by decide, by decide⟩
    obtain ⟨v, rfl, v1, v2⟩ := this
    have l3 : x.length * v.toNat ≤ 12 * 13 := Nat.mul_le_mul l2 (by omega)
    have l4 := mulS_len (s := x) (k := v)
    have mx := mulS_tx (k := v) (nameB_tx hx)
    walk_at "wps"
    refine Drw.mk (by assumption) ⟨_, rfl, ?_, fun c hc => ?_⟩
    · exact Nat.le_trans cutS_le (by omega)
    · rw [cutS_list] at hc
      exact mx c (List.mem_of_mem_drop (List.mem_of_mem_take hc))
local macro_rules | `(tactic| walk_at "ew") => `(tactic| ((with_reducible apply wp_simp); (next => simp (disch := first | assumption | omega | decide +kernel) only [G.bind_ok, G.bind_of, G.e_const, G.e_var, G.e_p1, G.e_p2, G.e_p3, G.e_and, G.e_or, G.e_not, G.e_if, G.e_tup, G.e_lst, G.e_dic, G.e_call, G.e_mut, G.e_comp, G.e_compIf, G.es_nil, G.es_cons, G.ei_v, G.ei_e, G.ei_1, G.e_glob, G.e_chain, G.e_tried, G.hide_own, G.hide_val, G.hide_no', G.low_eq, G.runLow_at, G.x_raise, G.ka_raise, G.e_dicz, G.ei_rev, G.ei_zip, G.ei_3, G.ei_2, G.ka_p1, G.ka_p2b, G.ka_p2, G.ka_p3c, G.ka_p3b, G.ka_p3, G.ka_and, G.ka_or, G.ka_not, G.ka_if, G.ka_tup, G.ka_lst, G.ka_dic, G.ka_fin, G.ka_call, G.ka_mut, G.ka_cmp2, G.ka_cmp, G.ka_es2, G.ka_es, G.ka_iv, G.ka_ie, G.small62_c, G.ka_i1, G.ka_i2, G.ka_i2b, G.x_pass, G.x_brk, G.x_cont, G.x_retN, G.x_asg, G.x_asgT, G.x_setI, G.x_expr, G.x_ret, G.x_if, G.x_for, G.xs_nil, G.xs_cons, G.ka_asgF, G.ka_asgV, G.ka_asgS, G.ka_asgT, G.ka_set, G.ka_set2, G.ka_expr, G.ka_retV, G.ka_retF, G.ka_retS, G.ka_ifS, G.ka_for, G.ka_seqN, G.ka_seqR, G.ka_seqB, G.ka_seqC, G.ka_bodyN, G.ka_bodyR, G.body_eq, G.forL_nil, G.stepS_eq, G.ka_stepN, G.ka_stepC, G.ka_stepB, G.ka_stepR, G.c_val, G.c_fresh, G.f_val, G.f_fresh, G.ob_some, G.om_some, G.asB_b, G.tr_b, G.fin_f, G.fin_b, G.p_addI, G.p_iaddI, G.p_isubI, G.p_subI, G.p_mulI, G.p_fdiv, G.p_mod, G.p_pow, G.p_lt, G.p_le, G.p_gt, G.p_ge, G.p_eq, G.p_ne, G.boolR_s, G.p_intI, G.p_getT, G.p_getL, G.p_getK, G.p_lenT, G.p_lenL, G.p_lenF, G.p_tupL, G.p_tupT, G.p_lstT, G.p_lstF, G.p_addT, G.p_addL, G.small_r, G.small_mod, G.cont_slot, G.freeze_slot', G.ob_none, G.om_none, G.keys_ne, G.natAbs10, G.natAbs2, G.w_tup, G.w_lst, G.w_frz, G.fa_nil, G.fa_cons, G.calm_ok, G.n_non, G.n_bl, G.n_int, G.n_str, G.n_tup, G.n_lst, G.t_non, G.t_bl, G.t_int, G.t_str, G.t_tup, G.t_lst, G.u_tup, G.u_lst, G.u_int, G.p_backT, G.p_backL, G.p_strS, G.getD_0, G.getD_1, G.getD_2, G.getD_3, G.getD_5, G.getD_6, G.getD_7, G.getD_8, G.getD_4, G.compL_nil, G.ka_cc, G.ka_cc2, G.ka_el, G.stepOf_n, G.wipe1, G.rest1, G.rngD_len, G.compOk_1, G.p_getOr, G.pre_getOr, G.preb_getOr, G.p_max, G.p_min, G.p_stoL, G.p_stoT, G.p_mulT, G.p_sfromT, G.p_sfromL, G.p_sliceT, G.p_sliceL, G.pre_slice, G.preb_slice, G.p_inn, G.p_notIn, G.p_addS, G.p_mulL, G.stepOf_c, G.ka_cond, G.ka_ch, G.ka_ch1, G.ka_ch2, G.ka_irev, G.it_tup, G.it_lst, G.it_frz, G.ka_iz, G.ka_iz2, G.zo_tup, G.zo_lst, G.ka_i3, G.ka_i3b, G.ka_i3c, G.ka_dicz, G.p_idx, G.pre_idx, G.p_idxT, G.pre_idxT, G.preb_idx, G.m_app, G.m_popAt, G.m_ins, G.set_lst, G.set_dic, G.cast0, G.cast1, G.cast2, G.cast3, G.cast4, G.cast5, G.cast6, G.retd, G.deq_iff, G.eqD_bl, G.eqD_int, G.z_List_zip_cons_cons, G.z_List_zip_nil_left, G.z_List_zip_nil_right, G.z_List_foldl_cons, G.z_List_foldl_nil, G.z_fin_true, G.z_eq_self, G.z_Option_getD_some, G.z_Option_getD_none, G.z_List_length_cons, G.z_List_length_nil, G.z_List_cons_append, G.z_List_nil_append, G.z_List_getElem__cons_zero, G.z_List_getElem__cons_succ, G.z_List_getElem__nil, G.z_List_set_cons_zero, G.z_List_set_cons_succ, G.z_List_getD_cons_zero, G.z_List_getD_cons_succ, G.z_List_getD_nil, G.z_if_true, G.z_if_false, G.z_and_self, G.z_and_true, G.z_true_and, G.z_Nat_zero_add, G.z_decide_true, G.z_decide_false, G.z_Bool_false_eq_true, G.z_Sum_inr_injEq, G.z_List_any_cons, G.z_List_any_nil, G.z_List_map_cons, G.z_List_map_nil, G.z_Bool_or_false, G.z_Bool_false_or, G.z_Bool_or_true, G.z_Bool_true_or, G.z_sizeLine_eq, G.z_List_nodup_nil, G.z_List_nodup_cons, G.z_List_not_mem_nil, G.z_not_false_eq_true, G.z_ne_eq, G.z_Option_some_injEq, G.z_implies_true, G.z_Bool_and_true, G.z_Bool_true_and, G.z_Bool_and_false, G.z_Bool_false_and, G.z_List_isEmpty_nil, G.z_List_isEmpty_cons, G.z_Bool_not_true, G.z_Bool_not_false, G.z_List_length_map, G.z_ite_self, G.z_decide_eq_true_eq, G.z_Bool_and_eq_true, G.z_Bool_or_eq_true, G.z_Bool_not_eq_true, G.z_Bool_or_self, G.z_Bool_and_self, G.z_List_all_cons, G.z_List_all_nil, G.z_Bool_not_eq_eq_eq_not, G.z_Option_map_some, G.z_Option_map_none, G.z_Int_sub_zero, G.z_Int_zero_add, G.z_decide_not, G.z_decide_eq_false_iff_not, G.z_Bool_decide_eq_true, G.z_ge_iff_le, G.z_gt_iff_lt, G.bq_tt, G.bq_tf, G.bq_ft, G.bq_ff, G.told_eq, G.mark_ite, G.rite_t, G.rite_f, G.mark_need, G.need_t, G.of_s, G.add_le3, G.not_le_iff, G.seq_ne, G.beq_str, G.deq_false, G.ixOf_int, G.toNat_c, G.all_c, G.all_n, G.any_c, G.any_n, G.asb_n, G.asb_c, G.id_b, G.all_true, G.isB_b, G.isB_n, G.isNB_b, G.isNB_n, G.nn_non, G.nn_bl, G.nn_int, G.nn_str, G.p_lstL, G.inD_tu, G.inD_lu, G.fl_s, G.fl_i, G.fl_b, G.fl_n, G.fl_t, G.fl_l, G.eqF_ss, G.eqF_ii, G.eqF_bb, G.eqF_nn, G.eqF_si, G.eqF_is, G.eqF_sn, G.eqF_ns, G.eqF_in, G.eqF_ni, G.mark_cok, G.p_stoS, G.p_sfromS, G.p_sliceS, G.p_lenS, G.p_strI, G.strs_flat, G.strs_any, G.inD_ls, G.inD_ts, G.mem_letters, G.mem_digits, G.inD_sign, G.w_str, G.p_mulS, Nat.reduceAdd, Nat.reduceSub, Nat.reduceLT, Nat.reduceLeDiff, reduceIte, Int.reducePow, Int.reduceNeg, Int.reduceLT, Int.reduceLE, reduceCtorEq, Int.reduceSub, Int.reduceAdd, Int.reduceToNat, Int.reduceAbs, Nat.reducePow, List.replicate, mkDic, startE, finals, store, lookK, putKD, ownX, ownL, callFn, passVals, conts, lentSlots, putBack, isScal, assignT, G.storeAll, lentOwn, l__law_no_name, l__law_sign, l__law_signs, l__law_stretched, l__law_strings, l__law_due, l__law_holds, l_law, f_is_word, f_check_name, f__law_mix, f__law_store, f__law_take, f__law_pick, f__law_same, f__law_name, f__law_no_name, f__law_sign, f__law_signs, f__law_stretched, f__law_strings, f__law_due, f__law_holds, f_law, g_LETTERS, g_DIGITS, g_LONGEST_WORD, G.l__law_mix, G.l__law_take, G.l__law_pick, G.l__law_store, G.l__law_same, G.l__law_name, G.l_is_word, G.l_check_name, p_lenS, p_stoS, p_sfromS, *]; exact rfl)))
local macro_rules | `(tactic| walk_at "st") => `(tactic| first | (((with_reducible apply wp_rite) <;> intro _) <;> try (exfalso; omega)) | ((with_reducible apply wp_need); (next => first | ((with_reducible apply Cok.mk) <;> first | decide | (simp only [List.all_cons, List.all_nil, Bool.and_true, List.getElem?_cons_zero, List.getElem?_cons_succ, notOwn_val, notOwn_no, *]) | omega | (split <;> omega) | (refine ⟨?_, ?_⟩ <;> omega) | (refine ⟨?_, ?_, ?_⟩ <;> omega) | (simp only [rngD_len, List.length_cons, List.length_nil, List.length_append, List.length_map, app_len, len1]; omega) | ((with_reducible apply add_le3); (next => exact cut_len); (next => exact cut_len); omega) | (try (simp only [app_len, len1]); (with_reducible apply add_le3); (next => first | exact cutS_le | exact Nat.add_le_add_right cutS_le 1 | exact Nat.le_refl _); (next => first | exact cutS_le | exact Nat.le_refl _); (first | omega | (simp only [app_len, len1]; omega)))) | (with_reducible assumption) | omega | (split <;> omega) | (refine ⟨?_, ?_⟩ <;> omega) | (refine ⟨?_, ?_, ?_⟩ <;> omega) | (simp only [rngD_len, List.length_cons, List.length_nil, List.length_append, List.length_map, app_len, len1]; omega) | ((with_reducible apply add_le3); (next => exact cut_len); (next => exact cut_len); omega) | (try (simp only [app_len, len1]); (with_reducible apply add_le3); (next => first | exact cutS_le | exact Nat.add_le_add_right cutS_le 1 | exact Nat.le_refl _); (next => first | exact cutS_le | exact Nat.le_refl _); (first | omega | (simp only [app_len, len1]; omega))))) | ((with_reducible apply wp_getR); (next => first | omega | (split <;> omega) | (refine ⟨?_, ?_⟩ <;> omega) | (refine ⟨?_, ?_, ?_⟩ <;> omega) | (simp only [rngD_len, List.length_cons, List.length_nil, List.length_append, List.length_map, app_len, len1]; omega) | ((with_reducible apply add_le3); (next => exact cut_len); (next => exact cut_len); omega) | (try (simp only [app_len, len1]); (with_reducible apply add_le3); (next => first | exact cutS_le | exact Nat.add_le_add_right cutS_le 1 | exact Nat.le_refl _); (next => first | exact cutS_le | exact Nat.le_refl _); (first | omega | (simp only [app_len, len1]; omega)))); (next => first | omega | (split <;> omega) | (refine ⟨?_, ?_⟩ <;> omega) | (refine ⟨?_, ?_, ?_⟩ <;> omega) | (simp only [rngD_len, List.length_cons, List.length_nil, List.length_append, List.length_map, app_len, len1]; omega) | ((with_reducible apply add_le3); (next => exact cut_len); (next => exact cut_len); omega) | (try (simp only [app_len, len1]); (with_reducible apply add_le3); (next => first | exact cutS_le | exact Nat.add_le_add_right cutS_le 1 | exact Nat.le_refl _); (next => first | exact cutS_le | exact Nat.le_refl _); (first | omega | (simp only [app_len, len1]; omega)))); intro _ _ _) | ((with_reducible apply wp_tk); (next => exact base); (next => omega); (next => assumption); (next => first | decide | omega); intro _ _ _ _ _) | ((with_reducible apply wp_pkS); (next => exact base); (next => omega); (next => assumption); (next => first | decide | (with_reducible exact strs_isStr) | (with_reducible assumption)); (next => first | decide | omega | (simp only [List.length_append, List.length_map, List.length_cons, List.length_nil]; omega)); (next => first | decide | omega | (simp only [List.length_append, List.length_map, List.length_cons, List.length_nil]; omega)); intro _ _ _ _) | ((with_reducible apply wp_pkL); (next => exact base); (next => omega); (next => assumption); (next => first | decide | omega | (simp only [List.length_append, List.length_map, List.length_cons, List.length_nil]; omega)); (next => first | decide | omega | (simp only [List.length_append, List.length_map, List.length_cons, List.length_nil]; omega)); intro _ _ _ _) | ((with_reducible apply wp_pkT); (next => exact base); (next => omega); (next => assumption); (next => first | decide | omega | (simp only [List.length_append, List.length_map, List.length_cons, List.length_nil]; omega)); (next => first | decide | omega | (simp only [List.length_append, List.length_map, List.length_cons, List.length_nil]; omega)); intro _ _ _ _) | ((with_reducible apply wp_name); (next => exact base); (next => exact f__law_name); (next => omega); (next => assumption); intro _ _ _ _ _ _) | ((with_reducible apply wp_pkC); (next => exact base); (next => omega); (next => assumption); (next => decide +kernel); (next => decide +kernel); intro _ _ _ _) | ((with_reducible apply sign_ok); (next => omega); (next => assumption); intro _ _ _ _))
local macro_rules | `(tactic| walk_at "wps") => `(tactic| repeat' (first | (with_reducible apply wp_okI) | (with_reducible apply wp_excI) | (with_reducible apply wp_bI) | (with_reducible apply wp_tri) | ((with_reducible apply wp_tx); (next => first | (with_reducible exact G.er_BadText) | (with_reducible exact G.er_Malformed) | (with_reducible exact G.er_Misnamed) | (with_reducible exact G.er_Doubled) | (with_reducible exact G.er_Unknown) | (with_reducible exact G.er_TooMany) | (with_reducible exact G.er_Ring) | (with_reducible exact G.er_Unlawful) | (with_reducible exact G.er_NotAllowed) | (with_reducible exact G.er_NotOne) | (with_reducible exact G.er_Shared) | (with_reducible exact G.er_Unlike) | (with_reducible exact G.er_Forced))) | (walk_at "ew") | (walk_at "st") | dsimp only))
theorem strings_ok {K : Nat} {st : D} (hK : 12 ≤ K) (h0 : StoreOk st) : (rn K "_law_strings" [st]).wq (Drw true fun d => ∃ l, d = .lst l ∧ l.length ≤ 100 ∧ ∀ x, x ∈ l → TxD 5000 x) (fun _ => False) := by
  obtain ⟨K, rfl⟩ : ∃ k, K = k + 1 := ⟨K - 1, by omega⟩
  unfold rn
  rw [run_succ f__law_strings]
  unfold c__law_strings
  walk_at "wps"
  rename_i x s1 hs1 hx x1 x2 at_ s2 hs2 a0 a1 y s3 hs3 hy y1 y2
  have a1 := a1 (by omega)
  refine wp_drw (no_name_ok (by omega) hs3) ?_
  rintro _ s4 hs4 ⟨z, rfl, hz⟩
  clear hs1 hs2 hs3
  walk_at "wps"
  rename_i w s5 hs5 hw c s6 hs6 hc c2 s7 hs7 hc2
  refine wp_drw (signs_ok (by omega) hs7) ?_
  rintro _ s8 hs8 ⟨u, rfl, hu⟩
  walk_at "wps"
  refine wp_drw (stretched_ok (by omega) hs8) ?_
  rintro _ s9 hs9 ⟨v, rfl, hv⟩
  walk_at "wps"
  refine Drw.mk hs9 ⟨_, rfl, by simp, fun d hd => ?_⟩
  simp only [List.mem_append, List.mem_cons, List.not_mem_nil, or_false] at hd
  have nx := nameB_tx hx
  have ny := nameB_tx hy
  obtain ⟨w', e, hw'⟩ := txD_ok (n := 5000) (by decide +kernel) _ hw
  injection e with e
  subst e
  rcases hd with rfl | rfl | rfl | rfl | rfl | rfl | rfl
  · exact ny.d (by decide)
  · exact hz.d (by decide)
  · exact ⟨_, rfl, hw'⟩
  · exact ((nx.cut.app (Tx.sign hc)).app nx.cut).d (by decide)
  · exact (nx.cut.app (Tx.sign hc2)).d (by decide)
  · exact hu.d (by decide)
  · exact hv.d (by decide)
/-- where the sign k is wrong -/
def badB (s : Str) (k : Nat) : Bool := match s.cps.toList[k]? with
  | some c => !lowB c && (decide (k = 0) || !digB c)
  | none => false
theorem bad_all {l : List Nat} : ((List.range l.length).filter fun k => match l[k]? with
  | some c => !lowB c && !digB c
  | none => false).isEmpty = l.all fun c => lowB c || digB c := by
  rw [Bool.eq_iff_iff, List.isEmpty_iff, List.filter_eq_nil_iff, List.all_eq_true]
  constructor
  · intro h c hc
    obtain ⟨k, hk, e⟩ := List.getElem_of_mem hc
    have := h k (List.mem_range.mpr hk)
    rw [List.getElem?_eq_getElem hk] at this
    simp only [e] at this
    revert this
    cases lowB c <;> cases digB c <;> simp
  · intro h k hk
    have hk := List.mem_range.mp hk
    rw [List.getElem?_eq_getElem hk]
    have h2 := h _ (List.getElem_mem hk)
    generalize l[k] = c at h2 ⊢
    revert h2
    cases h3 : lowB c <;> cases h4 : digB c <;> simp [h3, h4]
theorem bad_name {s : Str} : nameB s = (((List.range s.length).filter (badB s)).isEmpty && (decide (s.length ≤ 12) && (!(decide (s = "")) && (!(decide (s = "yes")) && (!(decide (s = "no")) && !(decide (s = "none"))))))) := by
  have key : nameL s.cps.toList = (((List.range s.length).filter (badB s)).isEmpty && (decide (s.length ≤ 12) && !(decide (s = "")))) := by
    cases e : s.cps.toList with
    | nil =>
      have : s = "" := by
        cases s with
        | mk a =>
          have : a = #[] := by simpa using e
          subst this; rfl
      subst this
      rfl
    | cons c l =>
      have ne : ¬ s = "" := fun z => by subst z; cases e
      have hl : s.length = l.length + 1 := by rw [str_len, e]; rfl
      rw [decide_eq_false ne, hl, List.range_succ_eq_map, List.filter_cons]
      have h0 : badB s 0 = !lowB c := by
        unfold badB
        rw [e]
        show (!lowB c && (decide (0 = 0) || !digB c)) = _
        simp
      rw [h0]
      have hs : (List.map Nat.succ (List.range l.length)).filter (badB s) = (((List.range l.length).filter fun k => match l[k]? with
          | some c => !lowB c && !digB c
          | none => false)).map Nat.succ := by
        rw [List.filter_map]
        congr 1
        refine List.filter_congr fun k hk => ?_
        show badB s (k + 1) = _
        unfold badB
        rw [e, List.getElem?_cons_succ]
        cases l[k]? with
        | none => rfl
        | some d => simp
      unfold nameL
      cases hc : lowB c with
      | false => simp [hc]
      | true =>
        rw [hs]
        have e2 : (List.map Nat.succ ((List.range l.length).filter fun k => match l[k]? with
          | some c => !lowB c && !digB c
          | none => false)).isEmpty = l.all fun c => lowB c || digB c := by rw [List.isEmpty_map, bad_all]
        simp only [hc, Bool.not_true, Bool.false_eq_true, if_false, e2, Bool.true_and, Bool.not_false, Bool.and_true]
        rw [show decide (l.length + 1 ≤ 12) = decide (l.length ≤ 11) from decide_eq_decide.mpr (by omega)]
  unfold nameB
  rw [key]
  cases ((List.range s.length).filter (badB s)).isEmpty <;> cases decide (s.length ≤ 12) <;> cases decide (s = "") <;> cases decide (s = "yes") <;> cases decide (s = "no") <;> cases decide (s = "none") <;> rfl
def dueD (s : Str) : D := if nameB s then .tup [.str "right", .str s] else .tup [.str "refused", .str "Misnamed", .tup [.str s]]
theorem due_run {K : Nat} {s : Str} (hK : 2 ≤ K) (hs : Tx 5000 s) : rn K "_law_due" [.str s] = .ok (false, dueD s, []) := by
  obtain ⟨K, rfl⟩ : ∃ k, K = k + 1 := ⟨K - 1, by omega⟩
  unfold rn
  refine eq_wp ?_
  rw [run_succ f__law_due]
  unfold c__law_due
  have hl := hs.len
  walk_at "wps"
  refine wp_calm ?_
  refine wp_filtR (fun env => ∃ y, env = [.val (.str s), .val (.str "abcdefghijklmnopqrstuvwxyz"), .no, y] ∧ notOwn (some y) = true) (fun k => .int (k : Int)) (badB s) s.length ?_ _ (by exact ⟨_, rfl, notOwn_no⟩) ?_
  · rintro k hk env ⟨y, rfl, hy⟩
    unfold q__law_due_0 q__law_due_1
    obtain ⟨c, hc, eg⟩ := get_sign (s := s) (i := (k : Int)) (by omega) (by omega) (by omega)
    rw [Int.toNat_natCast] at hc
    have eb : badB s k = (!lowB c && (decide (k = 0) || !digB c)) := by unfold badB; rw [hc]
    have e0 : eqD (.int (k : Int)) (.int 0) = some (decide (k = 0)) := by
      rw [eqD_int]
      congr 1
      exact decide_eq_decide.mpr (by omega)
    rw [eb]
    cases h1 : lowB c <;> cases h2 : decide (k = 0) <;> cases h3 : digB c <;> walk_at "wps"
    all_goals exact ⟨rfl, _, rfl, rfl⟩
  · rintro env ⟨y, rfl, hy⟩
    have hp : pls 20 (((List.range s.length).filter (badB s)).map fun k : Nat => D.int (k : Int)) = true := pls_of fun x hx => by
      obtain ⟨k, _, rfl⟩ := List.mem_map.mp hx
      rfl
    have hq : deq (((List.range s.length).filter (badB s)).map fun k : Nat => D.int (k : Int)) [] = ((List.range s.length).filter (badB s)).isEmpty := by
      cases ((List.range s.length).filter (badB s)) with
      | nil => rw [List.map_nil, deq_self]; rfl
      | cons a l => rw [deq_no (by simp)]; rfl
    have e1 := eq_lnil hp
    rw [hq] at e1
    have ed : dueD s = if nameB s then .tup [.str "right", .str s] else .tup [.str "refused", .str "Misnamed", .tup [.str s]] := rfl
    rw [bad_name] at ed
    generalize ((List.range s.length).filter (badB s)).isEmpty = q at *
    generalize (((List.range s.length).filter (badB s)).map fun k : Nat => D.int (k : Int)) = W at *
    generalize dueD s = dd at *
    subst ed
    cases q
    · walk_at "wps"
      rfl
    · by_cases h1 : s.length ≤ 12
      · have e2 : decide ((12 : Int) < (s.length : Int)) = false := decide_eq_false (by omega)
        have e3 : decide (s.length ≤ 12) = true := decide_eq_true h1
        rw [e3]
        by_cases z0 : s = ""
        · subst z0
          walk_at "wps"
          all_goals first | rfl | (rename_i q; simp at q)
        by_cases z1 : s = "yes"
        · subst z1
          walk_at "wps"
          all_goals first | rfl | (rename_i q; simp at q)
        by_cases z2 : s = "no"
        · subst z2
          walk_at "wps"
          all_goals first | rfl | (rename_i q; simp at q)
        by_cases z3 : s = "none"
        · subst z3
          walk_at "wps"
          all_goals first | rfl | (rename_i q; simp at q)
        rw [decide_eq_false z0, decide_eq_false z1, decide_eq_false z2, decide_eq_false z3]
        walk_at "wps"
        all_goals first | rfl | (rename_i q; exact absurd q (by simp [eq_comm, z0, z1, z2, z3]))
      · have e2 : decide ((12 : Int) < (s.length : Int)) = true := decide_eq_true (by omega)
        have e3 : decide (s.length ≤ 12) = false := decide_eq_false h1
        rw [e3]
        walk_at "wps"
        rfl
theorem holds_run {K : Nat} {s : Str} (hK : 12 ≤ K) (hs : Tx 5000 s) : rn K "_law_holds" [.str s] = .ok (false, .bl true, []) := by
  obtain ⟨K, rfl⟩ : ∃ k, K = k + 3 := ⟨K - 3, by omega⟩
  have ec := check_run (fuel := fuel) wrd (K := K) (s := s) (by omega) (Nat.le_trans hs.len (by decide))
  have ed := due_run (K := K + 2) (by omega) hs
  have so := hs.ok
  have sm1 : sm 5 (dueD s) = true := by
    unfold dueD
    split
    · refine sm_tup.mpr ⟨by simp, fun d hd => ?_⟩
      simp only [List.mem_cons, List.not_mem_nil, or_false] at hd
      rcases hd with rfl | rfl
      · exact tr_sm (tr_str (by decide +kernel))
      · exact tr_sm (tr_str so)
    · refine sm_tup.mpr ⟨by simp, fun d hd => ?_⟩
      simp only [List.mem_cons, List.not_mem_nil, or_false] at hd
      rcases hd with rfl | rfl | rfl
      · exact tr_sm (tr_str (by decide +kernel))
      · exact tr_sm (tr_str (by decide +kernel))
      · refine sm_tup.mpr ⟨by simp, fun d hd => ?_⟩
        simp only [List.mem_cons, List.not_mem_nil, or_false] at hd
        subst hd
        exact tr_sm (tr_str so)
  have es := same_run (fns := fns) (globs := globs) (fuel := fuel) f__law_same 5 (K := K + 2) sm1 sm1 (by omega)
  rw [deq_self] at es
  unfold dueD at ed es
  unfold rn at ed ⊢
  refine eq_wp ?_
  rw [run_succ f__law_holds]
  unfold c__law_holds
  cases h : nameB s <;> rw [h] at ec ed es
  all_goals
    simp only [Bool.false_eq_true, if_true, if_false] at ec ed es
    walk_at "wps"
theorem law_run (ns : List Int) (hn : ns.length ≤ 63) : G.run fns globs fuel 220 "law" [.frz (ns.map .int)] = .ok (false, .bl true, []) := by
  refine eq_wp ?_
  rw [run_succ f_law]
  unfold c_law
  obtain ⟨s0, h0, e0⟩ := base.st (globs := globs) (fuel := fuel) (K := 219) (by decide) ns
  walk_at "wps"
  refine wp_drw (strings_ok (K := 219) (by decide) h0) ?_
  rintro _ s1 h1 ⟨l, rfl, hl, hx⟩
  have hlr : l.reverse.length ≤ 100 := by rw [List.length_reverse]; exact hl
  have hr : ∀ d, d ∈ l ++ l.reverse → TxD 5000 d := fun d hd => by
    rcases List.mem_append.mp hd with hd | hd
    · exact hx d hd
    · exact hx d (List.mem_reverse.mp hd)
  walk_at "wps"
  refine wp_for (fun m env => ∃ y, env = [.val (.frz (ns.map .int)), .own s1, .own (.lst l), y] ∧ notOwn (some y) = true ∧ ∀ d, d ∈ m → TxD 5000 d) ?_ ?_ _ _ (by exact ⟨_, rfl, notOwn_no, hr⟩)
  · rintro d m env ⟨y, rfl, hy, hm⟩
    obtain ⟨s, rfl, hs⟩ := hm d List.mem_cons_self
    have e1 := holds_run (K := 219) (by decide) hs
    unfold rn at e1
    have hm' := fun x hx => hm x (List.mem_cons_of_mem _ hx)
    unfold q_law_0
    clear hm hr hx
    walk_at "wps"
    exact ⟨_, rfl, rfl, hm'⟩
  · rintro env ⟨y, rfl, hy, hm⟩
    walk_at "wps"
end LW

set_option Elab.async false
set_option linter.all false
set_option maxRecDepth 100000
set_option maxHeartbeats 0
namespace LW
open PySem L2 G
def top (i : Nat) : Stmt := PySem.Challenge.pw_whicheverafter_k02_names.main.body.getD i (.Pass ⟨0, 0, 0, 0⟩)
def names : List Str := (["is_word", "check_name", "_law_mix", "_law_store", "_law_take", "_law_pick", "_law_same", "_law_name", "_law_no_name", "_law_sign", "_law_signs", "_law_stretched", "_law_strings", "_law_due", "_law_holds", "law"] : List Str)
def kwt : List (Str × KwI) := []
def tb : Tb := ⟨fun x => names.contains x, fun x => (kwt.find? fun q => decide (q.1 = x)).map (·.2), fun x => ([] : List Str).contains x, errFs, false⟩
def N_is_word : List Str := ["text", "sign"]
def L_is_word : List Bool := [false]
def N_check_name : List Str := ["text"]
def L_check_name : List Bool := [false]
def N__law_mix : List Str := ["one", "two", "low", "mid"]
def L__law_mix : List Bool := [false, false]
def N__law_store : List Str := ["script", "seed", "cell"]
def L__law_store : List Bool := [false]
def N__law_take : List Str := ["store", "many", "cell", "digit"]
def L__law_take : List Bool := [true, false]
def N__law_pick : List Str := ["store", "row"]
def L__law_pick : List Bool := [true, false]
def N__law_same : List Str := ["one", "two", "key", "k"]
def L__law_same : List Bool := [false, false]
def N__law_name : List Str := ["store", "way", "words", "many", "signs", "name", "k"]
def L__law_name : List Bool := [true]
def N__law_no_name : List Str := ["store", "name", "way", "at", "sign"]
def L__law_no_name : List Bool := [true]
def N__law_sign : List Str := ["store", "signs"]
def L__law_sign : List Bool := [true]
def N__law_signs : List Str := ["store", "text", "k"]
def L__law_signs : List Bool := [true]
def N__law_stretched : List Str := ["store", "size", "name"]
def L__law_stretched : List Bool := [true]
def N__law_strings : List Str := ["store", "name", "at", "near", "rows"]
def L__law_strings : List Bool := [true]
def N__law_due : List Str := ["text", "letters", "wrong", "k"]
def L__law_due : List Bool := [false]
def N__law_holds : List Str := ["text"]
def L__law_holds : List Bool := [false]
def N_law : List Str := ["script", "store", "rows", "text"]
def L_law : List Bool := [false]
theorem b_is_word : c_is_word.body = compSs (compS (tb.wl false) N_is_word 60 60 (defScope (top 19))) (defBody (top 19)) := by kernel_rfl
theorem s_is_word : FnScope N_is_word ["text"] (defScope (top 19)) := ⟨rfl, rfl, rfl, by decide +kernel, rfl, by decide +kernel, by decide +kernel⟩
theorem b_check_name : c_check_name.body = compSs (compS (tb.wl false) N_check_name 60 60 (defScope (top 20))) (defBody (top 20)) := by kernel_rfl
theorem s_check_name : FnScope N_check_name ["text"] (defScope (top 20)) := ⟨rfl, rfl, rfl, by decide +kernel, rfl, by decide +kernel, by decide +kernel⟩
theorem b__law_mix : c__law_mix.body = compSs (compS (tb.wl false) N__law_mix 60 60 (defScope (top 22))) (defBody (top 22)) := by kernel_rfl
theorem s__law_mix : FnScope N__law_mix ["one", "two"] (defScope (top 22)) := ⟨rfl, rfl, rfl, by decide +kernel, rfl, by decide +kernel, by decide +kernel⟩
theorem b__law_store : c__law_store.body = compSs (compS (tb.wl false) N__law_store 60 60 (defScope (top 23))) (defBody (top 23)) := by kernel_rfl
theorem s__law_store : FnScope N__law_store ["script"] (defScope (top 23)) := ⟨rfl, rfl, rfl, by decide +kernel, rfl, by decide +kernel, by decide +kernel⟩
theorem b__law_take : c__law_take.body = compSs (compS (tb.wl false) N__law_take 60 60 (defScope (top 24))) (defBody (top 24)) := by kernel_rfl
theorem s__law_take : FnScope N__law_take ["store", "many"] (defScope (top 24)) := ⟨rfl, rfl, rfl, by decide +kernel, rfl, by decide +kernel, by decide +kernel⟩
theorem b__law_pick : c__law_pick.body = compSs (compS (tb.wl false) N__law_pick 60 60 (defScope (top 25))) (defBody (top 25)) := by kernel_rfl
theorem s__law_pick : FnScope N__law_pick ["store", "row"] (defScope (top 25)) := ⟨rfl, rfl, rfl, by decide +kernel, rfl, by decide +kernel, by decide +kernel⟩
theorem b__law_same : c__law_same.body = compSs (compS (tb.wl false) N__law_same 60 60 (defScope (top 26))) (defBody (top 26)) := by kernel_rfl
theorem s__law_same : FnScope N__law_same ["one", "two"] (defScope (top 26)) := ⟨rfl, rfl, rfl, by decide +kernel, rfl, by decide +kernel, by decide +kernel⟩
theorem b__law_name : c__law_name.body = compSs (compS (tb.wl false) N__law_name 60 60 (defScope (top 28))) (defBody (top 28)) := by kernel_rfl
theorem s__law_name : FnScope N__law_name ["store"] (defScope (top 28)) := ⟨rfl, rfl, rfl, by decide +kernel, rfl, by decide +kernel, by decide +kernel⟩
theorem b__law_no_name : c__law_no_name.body = compSs (compS (tb.wl false) N__law_no_name 60 60 (defScope (top 29))) (defBody (top 29)) := by kernel_rfl
theorem s__law_no_name : FnScope N__law_no_name ["store"] (defScope (top 29)) := ⟨rfl, rfl, rfl, by decide +kernel, rfl, by decide +kernel, by decide +kernel⟩
theorem b__law_sign : c__law_sign.body = compSs (compS (tb.wl false) N__law_sign 60 60 (defScope (top 30))) (defBody (top 30)) := by kernel_rfl
theorem s__law_sign : FnScope N__law_sign ["store"] (defScope (top 30)) := ⟨rfl, rfl, rfl, by decide +kernel, rfl, by decide +kernel, by decide +kernel⟩
theorem b__law_signs : c__law_signs.body = compSs (compS (tb.wl false) N__law_signs 60 60 (defScope (top 31))) (defBody (top 31)) := by kernel_rfl
theorem s__law_signs : FnScope N__law_signs ["store"] (defScope (top 31)) := ⟨rfl, rfl, rfl, by decide +kernel, rfl, by decide +kernel, by decide +kernel⟩
theorem b__law_stretched : c__law_stretched.body = compSs (compS (tb.wl false) N__law_stretched 60 60 (defScope (top 32))) (defBody (top 32)) := by kernel_rfl
theorem s__law_stretched : FnScope N__law_stretched ["store"] (defScope (top 32)) := ⟨rfl, rfl, rfl, by decide +kernel, rfl, by decide +kernel, by decide +kernel⟩
theorem b__law_strings : c__law_strings.body = compSs (compS (tb.wl false) N__law_strings 60 60 (defScope (top 33))) (defBody (top 33)) := by kernel_rfl
theorem s__law_strings : FnScope N__law_strings ["store"] (defScope (top 33)) := ⟨rfl, rfl, rfl, by decide +kernel, rfl, by decide +kernel, by decide +kernel⟩
theorem b__law_due : c__law_due.body = compSs (compS (tb.wl false) N__law_due 60 60 (defScope (top 34))) (defBody (top 34)) := by kernel_rfl
theorem s__law_due : FnScope N__law_due ["text"] (defScope (top 34)) := ⟨rfl, rfl, rfl, by decide +kernel, rfl, by decide +kernel, by decide +kernel⟩
theorem b__law_holds : c__law_holds.body = compSs (compS (tb.wl true) N__law_holds 60 60 (defScope (top 35))) (defBody (top 35)) := by kernel_rfl
theorem s__law_holds : FnScope N__law_holds ["text"] (defScope (top 35)) := ⟨rfl, rfl, rfl, by decide +kernel, rfl, by decide +kernel, by decide +kernel⟩
theorem b_law : c_law.body = compSs (compS (tb.wl false) N_law 60 60 (defScope (top 36))) (defBody (top 36)) := by kernel_rfl
theorem s_law : FnScope N_law ["script"] (defScope (top 36)) := ⟨rfl, rfl, rfl, by decide +kernel, rfl, by decide +kernel, by decide +kernel⟩
def d_is_word : He.DefD := ⟨("is_word", none), "is_word", "is_word", defArgs (top 19), defBody (top 19), defScope (top 19), [], []⟩
def d_check_name : He.DefD := ⟨("check_name", none), "check_name", "check_name", defArgs (top 20), defBody (top 20), defScope (top 20), [], []⟩
def d__law_mix : He.DefD := ⟨("_law_mix", none), "_law_mix", "_law_mix", defArgs (top 22), defBody (top 22), defScope (top 22), [], []⟩
def d__law_store : He.DefD := ⟨("_law_store", none), "_law_store", "_law_store", defArgs (top 23), defBody (top 23), defScope (top 23), [], []⟩
def d__law_take : He.DefD := ⟨("_law_take", none), "_law_take", "_law_take", defArgs (top 24), defBody (top 24), defScope (top 24), [], []⟩
def d__law_pick : He.DefD := ⟨("_law_pick", none), "_law_pick", "_law_pick", defArgs (top 25), defBody (top 25), defScope (top 25), [], []⟩
def d__law_same : He.DefD := ⟨("_law_same", none), "_law_same", "_law_same", defArgs (top 26), defBody (top 26), defScope (top 26), [], []⟩
def d__law_name : He.DefD := ⟨("_law_name", none), "_law_name", "_law_name", defArgs (top 28), defBody (top 28), defScope (top 28), [], []⟩
def d__law_no_name : He.DefD := ⟨("_law_no_name", none), "_law_no_name", "_law_no_name", defArgs (top 29), defBody (top 29), defScope (top 29), [], []⟩
def d__law_sign : He.DefD := ⟨("_law_sign", none), "_law_sign", "_law_sign", defArgs (top 30), defBody (top 30), defScope (top 30), [], []⟩
def d__law_signs : He.DefD := ⟨("_law_signs", none), "_law_signs", "_law_signs", defArgs (top 31), defBody (top 31), defScope (top 31), [], []⟩
def d__law_stretched : He.DefD := ⟨("_law_stretched", none), "_law_stretched", "_law_stretched", defArgs (top 32), defBody (top 32), defScope (top 32), [], []⟩
def d__law_strings : He.DefD := ⟨("_law_strings", none), "_law_strings", "_law_strings", defArgs (top 33), defBody (top 33), defScope (top 33), [], []⟩
def d__law_due : He.DefD := ⟨("_law_due", none), "_law_due", "_law_due", defArgs (top 34), defBody (top 34), defScope (top 34), [], []⟩
def d__law_holds : He.DefD := ⟨("_law_holds", none), "_law_holds", "_law_holds", defArgs (top 35), defBody (top 35), defScope (top 35), [], []⟩
def d_law : He.DefD := ⟨("law", none), "law", "law", defArgs (top 36), defBody (top 36), defScope (top 36), [], []⟩
def d_I_BadText : He.DefD := ⟨("BadText", some "__init__"), "__init__", "BadText.__init__", defArgs (inClass (top 2) 0), defBody (inClass (top 2) 0), defScope (inClass (top 2) 0), [], []⟩
theorem si_BadText : FnScope ["self", "at"] ["self", "at"] (defScope (inClass (top 2) 0)) := ⟨rfl, rfl, rfl, by decide +kernel, rfl, by decide +kernel, by decide +kernel⟩
theorem bi_BadText : ini1 "self" "at" "at" (defBody (inClass (top 2) 0)) = true := by kernel_rfl
def d_I_Malformed : He.DefD := ⟨("Malformed", some "__init__"), "__init__", "Malformed.__init__", defArgs (inClass (top 3) 0), defBody (inClass (top 3) 0), defScope (inClass (top 3) 0), [], []⟩
theorem si_Malformed : FnScope ["self", "what"] ["self", "what"] (defScope (inClass (top 3) 0)) := ⟨rfl, rfl, rfl, by decide +kernel, rfl, by decide +kernel, by decide +kernel⟩
theorem bi_Malformed : ini1 "self" "what" "what" (defBody (inClass (top 3) 0)) = true := by kernel_rfl
def d_I_Misnamed : He.DefD := ⟨("Misnamed", some "__init__"), "__init__", "Misnamed.__init__", defArgs (inClass (top 4) 0), defBody (inClass (top 4) 0), defScope (inClass (top 4) 0), [], []⟩
theorem si_Misnamed : FnScope ["self", "name"] ["self", "name"] (defScope (inClass (top 4) 0)) := ⟨rfl, rfl, rfl, by decide +kernel, rfl, by decide +kernel, by decide +kernel⟩
theorem bi_Misnamed : ini1 "self" "name" "name" (defBody (inClass (top 4) 0)) = true := by kernel_rfl
def d_I_Doubled : He.DefD := ⟨("Doubled", some "__init__"), "__init__", "Doubled.__init__", defArgs (inClass (top 5) 0), defBody (inClass (top 5) 0), defScope (inClass (top 5) 0), [], []⟩
theorem si_Doubled : FnScope ["self", "name"] ["self", "name"] (defScope (inClass (top 5) 0)) := ⟨rfl, rfl, rfl, by decide +kernel, rfl, by decide +kernel, by decide +kernel⟩
theorem bi_Doubled : ini1 "self" "name" "name" (defBody (inClass (top 5) 0)) = true := by kernel_rfl
def d_I_Unknown : He.DefD := ⟨("Unknown", some "__init__"), "__init__", "Unknown.__init__", defArgs (inClass (top 6) 0), defBody (inClass (top 6) 0), defScope (inClass (top 6) 0), [], []⟩
theorem si_Unknown : FnScope ["self", "name"] ["self", "name"] (defScope (inClass (top 6) 0)) := ⟨rfl, rfl, rfl, by decide +kernel, rfl, by decide +kernel, by decide +kernel⟩
theorem bi_Unknown : ini1 "self" "name" "name" (defBody (inClass (top 6) 0)) = true := by kernel_rfl
def d_I_TooMany : He.DefD := ⟨("TooMany", some "__init__"), "__init__", "TooMany.__init__", defArgs (inClass (top 7) 0), defBody (inClass (top 7) 0), defScope (inClass (top 7) 0), [], []⟩
theorem si_TooMany : FnScope ["self", "what", "limit"] ["self", "what", "limit"] (defScope (inClass (top 7) 0)) := ⟨rfl, rfl, rfl, by decide +kernel, rfl, by decide +kernel, by decide +kernel⟩
theorem bi_TooMany : ini2 "self" "what" "what" "limit" "limit" (defBody (inClass (top 7) 0)) = true := by kernel_rfl
def d_I_Ring : He.DefD := ⟨("Ring", some "__init__"), "__init__", "Ring.__init__", defArgs (inClass (top 8) 0), defBody (inClass (top 8) 0), defScope (inClass (top 8) 0), [], []⟩
theorem si_Ring : FnScope ["self", "names"] ["self", "names"] (defScope (inClass (top 8) 0)) := ⟨rfl, rfl, rfl, by decide +kernel, rfl, by decide +kernel, by decide +kernel⟩
theorem bi_Ring : ini1 "self" "names" "names" (defBody (inClass (top 8) 0)) = true := by kernel_rfl
def d_I_Unlawful : He.DefD := ⟨("Unlawful", some "__init__"), "__init__", "Unlawful.__init__", defArgs (inClass (top 9) 0), defBody (inClass (top 9) 0), defScope (inClass (top 9) 0), [], []⟩
theorem si_Unlawful : FnScope ["self", "choice"] ["self", "choice"] (defScope (inClass (top 9) 0)) := ⟨rfl, rfl, rfl, by decide +kernel, rfl, by decide +kernel, by decide +kernel⟩
theorem bi_Unlawful : ini1 "self" "choice" "choice" (defBody (inClass (top 9) 0)) = true := by kernel_rfl
def d_I_NotAllowed : He.DefD := ⟨("NotAllowed", some "__init__"), "__init__", "NotAllowed.__init__", defArgs (inClass (top 10) 0), defBody (inClass (top 10) 0), defScope (inClass (top 10) 0), [], []⟩
theorem si_NotAllowed : FnScope ["self", "order"] ["self", "order"] (defScope (inClass (top 10) 0)) := ⟨rfl, rfl, rfl, by decide +kernel, rfl, by decide +kernel, by decide +kernel⟩
theorem bi_NotAllowed : ini1 "self" "order" "order" (defBody (inClass (top 10) 0)) = true := by kernel_rfl
def d_I_NotOne : He.DefD := ⟨("NotOne", some "__init__"), "__init__", "NotOne.__init__", defArgs (inClass (top 11) 0), defBody (inClass (top 11) 0), defScope (inClass (top 11) 0), [], []⟩
theorem si_NotOne : FnScope ["self", "fault"] ["self", "fault"] (defScope (inClass (top 11) 0)) := ⟨rfl, rfl, rfl, by decide +kernel, rfl, by decide +kernel, by decide +kernel⟩
theorem bi_NotOne : ini1 "self" "fault" "fault" (defBody (inClass (top 11) 0)) = true := by kernel_rfl
def d_I_Shared : He.DefD := ⟨("Shared", some "__init__"), "__init__", "Shared.__init__", defArgs (inClass (top 12) 0), defBody (inClass (top 12) 0), defScope (inClass (top 12) 0), [], []⟩
theorem si_Shared : FnScope ["self", "name"] ["self", "name"] (defScope (inClass (top 12) 0)) := ⟨rfl, rfl, rfl, by decide +kernel, rfl, by decide +kernel, by decide +kernel⟩
theorem bi_Shared : ini1 "self" "name" "name" (defBody (inClass (top 12) 0)) = true := by kernel_rfl
def d_I_Unlike : He.DefD := ⟨("Unlike", some "__init__"), "__init__", "Unlike.__init__", defArgs (inClass (top 13) 0), defBody (inClass (top 13) 0), defScope (inClass (top 13) 0), [], []⟩
theorem si_Unlike : FnScope ["self", "what"] ["self", "what"] (defScope (inClass (top 13) 0)) := ⟨rfl, rfl, rfl, by decide +kernel, rfl, by decide +kernel, by decide +kernel⟩
theorem bi_Unlike : ini1 "self" "what" "what" (defBody (inClass (top 13) 0)) = true := by kernel_rfl
def d_I_Forced : He.DefD := ⟨("Forced", some "__init__"), "__init__", "Forced.__init__", defArgs (inClass (top 14) 0), defBody (inClass (top 14) 0), defScope (inClass (top 14) 0), [], []⟩
theorem si_Forced : FnScope ["self", "option"] ["self", "option"] (defScope (inClass (top 14) 0)) := ⟨rfl, rfl, rfl, by decide +kernel, rfl, by decide +kernel, by decide +kernel⟩
theorem bi_Forced : ini1 "self" "option" "option" (defBody (inClass (top 14) 0)) = true := by kernel_rfl
def d__law_tried : He.DefD := ⟨("_law_tried", none), "_law_tried", "_law_tried", defArgs (top 27), defBody (top 27), defScope (top 27), [], []⟩
theorem s__law_tried : FnScope ["deed", "e", "found"] ["deed"] (defScope (top 27)) := ⟨rfl, rfl, rfl, by decide +kernel, rfl, by decide +kernel, by decide +kernel⟩
def tp : TriP := rdTri (defBody (top 27))
theorem tp_b : defBody (top 27) = tp.body := by kernel_rfl
theorem tp_c : triB (defScope (top 27)) tp = true := by kernel_rfl
theorem tp_r : tp.rows.map (fun r => (r.c, r.fs)) = errRows := by kernel_rfl
def ls : List Str := ["_law_holds"]
def fn : List He.DefD := ([d_is_word, d_check_name, d__law_mix, d__law_store, d__law_take, d__law_pick, d__law_same, d__law_name, d__law_no_name, d__law_sign, d__law_signs, d__law_stretched, d__law_strings, d__law_due, d__law_holds, d_law, d_I_BadText, d_I_Malformed, d_I_Misnamed, d_I_Doubled, d_I_Unknown, d_I_TooMany, d_I_Ring, d_I_Unlawful, d_I_NotAllowed, d_I_NotOne, d_I_Shared, d_I_Unlike, d_I_Forced, d__law_tried] : List He.DefD)
def fa : List He.Fa := ([.glo "is_word", .glo "check_name", .glo "_law_mix", .glo "_law_store", .glo "_law_take", .glo "_law_pick", .glo "_law_same", .glo "_law_name", .glo "_law_no_name", .glo "_law_sign", .glo "_law_signs", .glo "_law_stretched", .glo "_law_strings", .glo "_law_due", .glo "_law_holds", .glo "law", .free "len", .free "int", .free "str", .free "tuple", .free "list", .free "all", .free "any", .free "sum", .free "max", .free "min", .free "isinstance", .free "range", .free "enumerate", .free "bool"] : List He.Fa) ++ ([.free "dict", .free "reversed", .free "zip", .glo "_law_tried"] : List He.Fa)
abbrev R : PySem.W.OpenRow := PySem.W.OpenLaw.row PySem.Challenge.rw_whicheverafter_k02_names
abbrev hk : PySem.W.Hook := hookL 5 fa fn gs ls true
def ob (s : PySem.W.SharedT) : AlL := obsLG 5 fa fn gs ls true (HandSHeadRun.getT s)
theorem ob_eq (s : PySem.W.SharedT) : ob s = hk.obs s.abs := obsLG_eq (HandSHeadRun.getT_eq s)
def loose : List PySem.Str := (["Refused", "BadText", "Malformed", "Misnamed", "Doubled", "Unknown", "TooMany", "Ring", "Unlawful", "NotAllowed", "NotOne", "Shared", "Unlike", "Forced", "LETTERS", "DIGITS", "LONGEST_WORD", "is_word", "check_name", "_law_mix", "_law_store", "_law_take", "_law_pick", "_law_same", "_law_tried", "_law_name", "_law_no_name", "_law_sign", "_law_signs", "_law_stretched"] : List PySem.Str) ++ (["_law_strings", "_law_due", "_law_holds"] : List PySem.Str)
theorem run_head (w : World) : HandSHeadRun.RunEq R (PySem.W.view R.prog [36]) hk ob 20000 loose w := by
  intro os
  kernel_rfl
section
variable [TB : Tbs] {K : PySem.W.Frag} {h base : Heap} {mg : Str → Option Value} {P : Program} {w : World}
/-- the tables of the defs that make lambdas -/
def LamsAt (K : PySem.W.Frag) (base : Heap) (mg : Str → Option Value) : Prop := ∀ x, x ∈ ls → ∀ (qual : Str) (params : Arguments) (body : List Stmt) (scope : Scope) (kws : List (Str × V)) (fd : FuncData), FunD K x qual params body scope [] kws (He.ga K x) fd → TriAt base mg (x ++ ".<locals>.") fd.code
theorem free_all (X : K.In h) (G : h.Ns mainGlobals mg) (c : He.SaysD fa fn K) : ∀ x, x ∈ bnames → mg x = none := by
  intro x hx
  simp only [bnames, List.mem_cons, List.not_mem_nil, or_false] at hx
  rcases hx with rfl | rfl | rfl | rfl | rfl | rfl | rfl | rfl | rfl | rfl | rfl | rfl | rfl | rfl | rfl | rfl | rfl
  · exact He.free_ok X G (c.fact 16 (f := .free "len") rfl)
  · exact He.free_ok X G (c.fact 17 (f := .free "int") rfl)
  · exact He.free_ok X G (c.fact 18 (f := .free "str") rfl)
  · exact He.free_ok X G (c.fact 19 (f := .free "tuple") rfl)
  · exact He.free_ok X G (c.fact 20 (f := .free "list") rfl)
  · exact He.free_ok X G (c.fact 21 (f := .free "all") rfl)
  · exact He.free_ok X G (c.fact 22 (f := .free "any") rfl)
  · exact He.free_ok X G (c.fact 23 (f := .free "sum") rfl)
  · exact He.free_ok X G (c.fact 24 (f := .free "max") rfl)
  · exact He.free_ok X G (c.fact 25 (f := .free "min") rfl)
  · exact He.free_ok X G (c.fact 26 (f := .free "isinstance") rfl)
  · exact He.free_ok X G (c.fact 27 (f := .free "range") rfl)
  · exact He.free_ok X G (c.fact 28 (f := .free "enumerate") rfl)
  · exact He.free_ok X G (c.fact 29 (f := .free "bool") rfl)
  · exact He.free_ok X G (c.fact 30 (f := .free "dict") rfl)
  · exact He.free_ok X G (c.fact 31 (f := .free "reversed") rfl)
  · exact He.free_ok X G (c.fact 32 (f := .free "zip") rfl)
theorem x_BadText (X : K.In h) (G : h.Ns mainGlobals mg) (c : He.SaysD fa fn K) (ce : errsB K = true) : ExcIn (P := P) (w := w) (K := K) (mg := mg) (base := base) "BadText" ["at"] := by
  obtain ⟨fd, F⟩ := c.def_ 16 (d := d_I_BadText) rfl
  have E := errs_at ce (x := ("BadText", ["at"])) (by simp [errRows])
  exact exc_in X G (by simp [errRows]) ce (fun k => ini1_ok E.oe F si_BadText bi_BadText (by decide) (by decide) (E.no ("BadText", ["at"]) (by simp [errRows]) "at" (by simp))) (F.bindsN fun _ _ _ _ _ _ us hl => match us, hl with | [_, _], _ => rfl) (by decide) (by decide)
theorem x_Malformed (X : K.In h) (G : h.Ns mainGlobals mg) (c : He.SaysD fa fn K) (ce : errsB K = true) : ExcIn (P := P) (w := w) (K := K) (mg := mg) (base := base) "Malformed" ["what"] := by
  obtain ⟨fd, F⟩ := c.def_ 17 (d := d_I_Malformed) rfl
  have E := errs_at ce (x := ("Malformed", ["what"])) (by simp [errRows])
  exact exc_in X G (by simp [errRows]) ce (fun k => ini1_ok E.oe F si_Malformed bi_Malformed (by decide) (by decide) (E.no ("Malformed", ["what"]) (by simp [errRows]) "what" (by simp))) (F.bindsN fun _ _ _ _ _ _ us hl => match us, hl with | [_, _], _ => rfl) (by decide) (by decide)
theorem x_Misnamed (X : K.In h) (G : h.Ns mainGlobals mg) (c : He.SaysD fa fn K) (ce : errsB K = true) : ExcIn (P := P) (w := w) (K := K) (mg := mg) (base := base) "Misnamed" ["name"] := by
  obtain ⟨fd, F⟩ := c.def_ 18 (d := d_I_Misnamed) rfl
  have E := errs_at ce (x := ("Misnamed", ["name"])) (by simp [errRows])
  exact exc_in X G (by simp [errRows]) ce (fun k => ini1_ok E.oe F si_Misnamed bi_Misnamed (by decide) (by decide) (E.no ("Misnamed", ["name"]) (by simp [errRows]) "name" (by simp))) (F.bindsN fun _ _ _ _ _ _ us hl => match us, hl with | [_, _], _ => rfl) (by decide) (by decide)
theorem x_Doubled (X : K.In h) (G : h.Ns mainGlobals mg) (c : He.SaysD fa fn K) (ce : errsB K = true) : ExcIn (P := P) (w := w) (K := K) (mg := mg) (base := base) "Doubled" ["name"] := by
  obtain ⟨fd, F⟩ := c.def_ 19 (d := d_I_Doubled) rfl
  have E := errs_at ce (x := ("Doubled", ["name"])) (by simp [errRows])
  exact exc_in X G (by simp [errRows]) ce (fun k => ini1_ok E.oe F si_Doubled bi_Doubled (by decide) (by decide) (E.no ("Doubled", ["name"]) (by simp [errRows]) "name" (by simp))) (F.bindsN fun _ _ _ _ _ _ us hl => match us, hl with | [_, _], _ => rfl) (by decide) (by decide)
theorem x_Unknown (X : K.In h) (G : h.Ns mainGlobals mg) (c : He.SaysD fa fn K) (ce : errsB K = true) : ExcIn (P := P) (w := w) (K := K) (mg := mg) (base := base) "Unknown" ["name"] := by
  obtain ⟨fd, F⟩ := c.def_ 20 (d := d_I_Unknown) rfl
  have E := errs_at ce (x := ("Unknown", ["name"])) (by simp [errRows])
  exact exc_in X G (by simp [errRows]) ce (fun k => ini1_ok E.oe F si_Unknown bi_Unknown (by decide) (by decide) (E.no ("Unknown", ["name"]) (by simp [errRows]) "name" (by simp))) (F.bindsN fun _ _ _ _ _ _ us hl => match us, hl with | [_, _], _ => rfl) (by decide) (by decide)
theorem x_TooMany (X : K.In h) (G : h.Ns mainGlobals mg) (c : He.SaysD fa fn K) (ce : errsB K = true) : ExcIn (P := P) (w := w) (K := K) (mg := mg) (base := base) "TooMany" ["what", "limit"] := by
  obtain ⟨fd, F⟩ := c.def_ 21 (d := d_I_TooMany) rfl
  have E := errs_at ce (x := ("TooMany", ["what", "limit"])) (by simp [errRows])
  exact exc_in X G (by simp [errRows]) ce (fun k => ini2_ok E.oe F si_TooMany bi_TooMany (by decide) (by decide) (by decide) (E.no ("TooMany", ["what", "limit"]) (by simp [errRows]) "what" (by simp)) (E.no ("TooMany", ["what", "limit"]) (by simp [errRows]) "limit" (by simp))) (F.bindsN fun _ _ _ _ _ _ us hl => match us, hl with | [_, _, _], _ => rfl) (by decide) (by decide)
theorem x_Ring (X : K.In h) (G : h.Ns mainGlobals mg) (c : He.SaysD fa fn K) (ce : errsB K = true) : ExcIn (P := P) (w := w) (K := K) (mg := mg) (base := base) "Ring" ["names"] := by
  obtain ⟨fd, F⟩ := c.def_ 22 (d := d_I_Ring) rfl
  have E := errs_at ce (x := ("Ring", ["names"])) (by simp [errRows])
  exact exc_in X G (by simp [errRows]) ce (fun k => ini1_ok E.oe F si_Ring bi_Ring (by decide) (by decide) (E.no ("Ring", ["names"]) (by simp [errRows]) "names" (by simp))) (F.bindsN fun _ _ _ _ _ _ us hl => match us, hl with | [_, _], _ => rfl) (by decide) (by decide)
theorem x_Unlawful (X : K.In h) (G : h.Ns mainGlobals mg) (c : He.SaysD fa fn K) (ce : errsB K = true) : ExcIn (P := P) (w := w) (K := K) (mg := mg) (base := base) "Unlawful" ["choice"] := by
  obtain ⟨fd, F⟩ := c.def_ 23 (d := d_I_Unlawful) rfl
  have E := errs_at ce (x := ("Unlawful", ["choice"])) (by simp [errRows])
  exact exc_in X G (by simp [errRows]) ce (fun k => ini1_ok E.oe F si_Unlawful bi_Unlawful (by decide) (by decide) (E.no ("Unlawful", ["choice"]) (by simp [errRows]) "choice" (by simp))) (F.bindsN fun _ _ _ _ _ _ us hl => match us, hl with | [_, _], _ => rfl) (by decide) (by decide)
theorem x_NotAllowed (X : K.In h) (G : h.Ns mainGlobals mg) (c : He.SaysD fa fn K) (ce : errsB K = true) : ExcIn (P := P) (w := w) (K := K) (mg := mg) (base := base) "NotAllowed" ["order"] := by
  obtain ⟨fd, F⟩ := c.def_ 24 (d := d_I_NotAllowed) rfl
  have E := errs_at ce (x := ("NotAllowed", ["order"])) (by simp [errRows])
  exact exc_in X G (by simp [errRows]) ce (fun k => ini1_ok E.oe F si_NotAllowed bi_NotAllowed (by decide) (by decide) (E.no ("NotAllowed", ["order"]) (by simp [errRows]) "order" (by simp))) (F.bindsN fun _ _ _ _ _ _ us hl => match us, hl with | [_, _], _ => rfl) (by decide) (by decide)
theorem x_NotOne (X : K.In h) (G : h.Ns mainGlobals mg) (c : He.SaysD fa fn K) (ce : errsB K = true) : ExcIn (P := P) (w := w) (K := K) (mg := mg) (base := base) "NotOne" ["fault"] := by
  obtain ⟨fd, F⟩ := c.def_ 25 (d := d_I_NotOne) rfl
  have E := errs_at ce (x := ("NotOne", ["fault"])) (by simp [errRows])
  exact exc_in X G (by simp [errRows]) ce (fun k => ini1_ok E.oe F si_NotOne bi_NotOne (by decide) (by decide) (E.no ("NotOne", ["fault"]) (by simp [errRows]) "fault" (by simp))) (F.bindsN fun _ _ _ _ _ _ us hl => match us, hl with | [_, _], _ => rfl) (by decide) (by decide)
theorem x_Shared (X : K.In h) (G : h.Ns mainGlobals mg) (c : He.SaysD fa fn K) (ce : errsB K = true) : ExcIn (P := P) (w := w) (K := K) (mg := mg) (base := base) "Shared" ["name"] := by
  obtain ⟨fd, F⟩ := c.def_ 26 (d := d_I_Shared) rfl
  have E := errs_at ce (x := ("Shared", ["name"])) (by simp [errRows])
  exact exc_in X G (by simp [errRows]) ce (fun k => ini1_ok E.oe F si_Shared bi_Shared (by decide) (by decide) (E.no ("Shared", ["name"]) (by simp [errRows]) "name" (by simp))) (F.bindsN fun _ _ _ _ _ _ us hl => match us, hl with | [_, _], _ => rfl) (by decide) (by decide)
theorem x_Unlike (X : K.In h) (G : h.Ns mainGlobals mg) (c : He.SaysD fa fn K) (ce : errsB K = true) : ExcIn (P := P) (w := w) (K := K) (mg := mg) (base := base) "Unlike" ["what"] := by
  obtain ⟨fd, F⟩ := c.def_ 27 (d := d_I_Unlike) rfl
  have E := errs_at ce (x := ("Unlike", ["what"])) (by simp [errRows])
  exact exc_in X G (by simp [errRows]) ce (fun k => ini1_ok E.oe F si_Unlike bi_Unlike (by decide) (by decide) (E.no ("Unlike", ["what"]) (by simp [errRows]) "what" (by simp))) (F.bindsN fun _ _ _ _ _ _ us hl => match us, hl with | [_, _], _ => rfl) (by decide) (by decide)
theorem x_Forced (X : K.In h) (G : h.Ns mainGlobals mg) (c : He.SaysD fa fn K) (ce : errsB K = true) : ExcIn (P := P) (w := w) (K := K) (mg := mg) (base := base) "Forced" ["option"] := by
  obtain ⟨fd, F⟩ := c.def_ 28 (d := d_I_Forced) rfl
  have E := errs_at ce (x := ("Forced", ["option"])) (by simp [errRows])
  exact exc_in X G (by simp [errRows]) ce (fun k => ini1_ok E.oe F si_Forced bi_Forced (by decide) (by decide) (E.no ("Forced", ["option"]) (by simp [errRows]) "option" (by simp))) (F.bindsN fun _ _ _ _ _ _ us hl => match us, hl with | [_, _], _ => rfl) (by decide) (by decide)
theorem exc_all (X : K.In h) (G : h.Ns mainGlobals mg) (c : He.SaysD fa fn K) (ce : errsB K = true) : ∀ x fs, tb.exc x = some fs → ExcIn (P := P) (w := w) (K := K) (mg := mg) (base := base) x fs := by
  intro x fs hx
  have hm : (x, fs) ∈ errRows := err_mem hx
  simp only [errRows, List.mem_cons, List.not_mem_nil, or_false] at hm
  rcases hm with hm | hm | hm | hm | hm | hm | hm | hm | hm | hm | hm | hm | hm
  · cases hm; exact x_BadText X G c ce
  · cases hm; exact x_Malformed X G c ce
  · cases hm; exact x_Misnamed X G c ce
  · cases hm; exact x_Doubled X G c ce
  · cases hm; exact x_Unknown X G c ce
  · cases hm; exact x_TooMany X G c ce
  · cases hm; exact x_Ring X G c ce
  · cases hm; exact x_Unlawful X G c ce
  · cases hm; exact x_NotAllowed X G c ce
  · cases hm; exact x_NotOne X G c ce
  · cases hm; exact x_Shared X G c ce
  · cases hm; exact x_Unlike X G c ce
  · cases hm; exact x_Forced X G c ce
theorem tri_g (X : K.In h) (G : h.Ns mainGlobals mg) (c : He.SaysD fa fn K) (ce : errsB K = true) : TriG K mg := by
  obtain ⟨fd, F⟩ := c.def_ 29 (d := d__law_tried) rfl
  exact triG_of (t := tp) X G F (He.glo_ok X G (c.fact 33 (f := .glo "_law_tried") rfl)) (F.bindsN fun _ _ _ _ _ _ us hl => match us, hl with | [_], _ => rfl) s__law_tried tp_b tp_c tp_r ce (free_all X G c _ (by simp [bnames])) (free_all X G c _ (by simp [bnames]))
theorem in_is_word (X : K.In h) (G : h.Ns mainGlobals mg) (c : He.SaysD fa fn K) (ce : errsB K = true) (hA : LamsAt K base mg) : ∃ f fd, DefIn K mg base tb "is_word" c_is_word f fd ["text"] := by
  obtain ⟨fd, F⟩ := c.def_ 0 (d := d_is_word) rfl
  exact ⟨_, fd, ⟨_, _, _, N_is_word, _, false, F, s_is_word, rfl, b_is_word, fun h => nomatch h⟩, He.glo_ok X G (c.fact 0 (f := .glo "is_word") rfl), rfl, FnB.of rfl (F.bindsN fun _ _ _ _ _ _ us hl => match us, hl with | [_], _ => rfl)⟩
theorem in_check_name (X : K.In h) (G : h.Ns mainGlobals mg) (c : He.SaysD fa fn K) (ce : errsB K = true) (hA : LamsAt K base mg) : ∃ f fd, DefIn K mg base tb "check_name" c_check_name f fd ["text"] := by
  obtain ⟨fd, F⟩ := c.def_ 1 (d := d_check_name) rfl
  exact ⟨_, fd, ⟨_, _, _, N_check_name, _, false, F, s_check_name, rfl, b_check_name, fun h => nomatch h⟩, He.glo_ok X G (c.fact 1 (f := .glo "check_name") rfl), rfl, FnB.of rfl (F.bindsN fun _ _ _ _ _ _ us hl => match us, hl with | [_], _ => rfl)⟩
theorem in__law_mix (X : K.In h) (G : h.Ns mainGlobals mg) (c : He.SaysD fa fn K) (ce : errsB K = true) (hA : LamsAt K base mg) : ∃ f fd, DefIn K mg base tb "_law_mix" c__law_mix f fd ["one", "two"] := by
  obtain ⟨fd, F⟩ := c.def_ 2 (d := d__law_mix) rfl
  exact ⟨_, fd, ⟨_, _, _, N__law_mix, _, false, F, s__law_mix, rfl, b__law_mix, fun h => nomatch h⟩, He.glo_ok X G (c.fact 2 (f := .glo "_law_mix") rfl), rfl, FnB.of rfl (F.bindsN fun _ _ _ _ _ _ us hl => match us, hl with | [_, _], _ => rfl)⟩
theorem in__law_store (X : K.In h) (G : h.Ns mainGlobals mg) (c : He.SaysD fa fn K) (ce : errsB K = true) (hA : LamsAt K base mg) : ∃ f fd, DefIn K mg base tb "_law_store" c__law_store f fd ["script"] := by
  obtain ⟨fd, F⟩ := c.def_ 3 (d := d__law_store) rfl
  exact ⟨_, fd, ⟨_, _, _, N__law_store, _, false, F, s__law_store, rfl, b__law_store, fun h => nomatch h⟩, He.glo_ok X G (c.fact 3 (f := .glo "_law_store") rfl), rfl, FnB.of rfl (F.bindsN fun _ _ _ _ _ _ us hl => match us, hl with | [_], _ => rfl)⟩
theorem in__law_take (X : K.In h) (G : h.Ns mainGlobals mg) (c : He.SaysD fa fn K) (ce : errsB K = true) (hA : LamsAt K base mg) : ∃ f fd, DefIn K mg base tb "_law_take" c__law_take f fd ["store", "many"] := by
  obtain ⟨fd, F⟩ := c.def_ 4 (d := d__law_take) rfl
  exact ⟨_, fd, ⟨_, _, _, N__law_take, _, false, F, s__law_take, rfl, b__law_take, fun h => nomatch h⟩, He.glo_ok X G (c.fact 4 (f := .glo "_law_take") rfl), rfl, FnB.of rfl (F.bindsN fun _ _ _ _ _ _ us hl => match us, hl with | [_, _], _ => rfl)⟩
theorem in__law_pick (X : K.In h) (G : h.Ns mainGlobals mg) (c : He.SaysD fa fn K) (ce : errsB K = true) (hA : LamsAt K base mg) : ∃ f fd, DefIn K mg base tb "_law_pick" c__law_pick f fd ["store", "row"] := by
  obtain ⟨fd, F⟩ := c.def_ 5 (d := d__law_pick) rfl
  exact ⟨_, fd, ⟨_, _, _, N__law_pick, _, false, F, s__law_pick, rfl, b__law_pick, fun h => nomatch h⟩, He.glo_ok X G (c.fact 5 (f := .glo "_law_pick") rfl), rfl, FnB.of rfl (F.bindsN fun _ _ _ _ _ _ us hl => match us, hl with | [_, _], _ => rfl)⟩
theorem in__law_same (X : K.In h) (G : h.Ns mainGlobals mg) (c : He.SaysD fa fn K) (ce : errsB K = true) (hA : LamsAt K base mg) : ∃ f fd, DefIn K mg base tb "_law_same" c__law_same f fd ["one", "two"] := by
  obtain ⟨fd, F⟩ := c.def_ 6 (d := d__law_same) rfl
  exact ⟨_, fd, ⟨_, _, _, N__law_same, _, false, F, s__law_same, rfl, b__law_same, fun h => nomatch h⟩, He.glo_ok X G (c.fact 6 (f := .glo "_law_same") rfl), rfl, FnB.of rfl (F.bindsN fun _ _ _ _ _ _ us hl => match us, hl with | [_, _], _ => rfl)⟩
theorem in__law_name (X : K.In h) (G : h.Ns mainGlobals mg) (c : He.SaysD fa fn K) (ce : errsB K = true) (hA : LamsAt K base mg) : ∃ f fd, DefIn K mg base tb "_law_name" c__law_name f fd ["store"] := by
  obtain ⟨fd, F⟩ := c.def_ 7 (d := d__law_name) rfl
  exact ⟨_, fd, ⟨_, _, _, N__law_name, _, false, F, s__law_name, rfl, b__law_name, fun h => nomatch h⟩, He.glo_ok X G (c.fact 7 (f := .glo "_law_name") rfl), rfl, FnB.of rfl (F.bindsN fun _ _ _ _ _ _ us hl => match us, hl with | [_], _ => rfl)⟩
theorem in__law_no_name (X : K.In h) (G : h.Ns mainGlobals mg) (c : He.SaysD fa fn K) (ce : errsB K = true) (hA : LamsAt K base mg) : ∃ f fd, DefIn K mg base tb "_law_no_name" c__law_no_name f fd ["store"] := by
  obtain ⟨fd, F⟩ := c.def_ 8 (d := d__law_no_name) rfl
  exact ⟨_, fd, ⟨_, _, _, N__law_no_name, _, false, F, s__law_no_name, rfl, b__law_no_name, fun h => nomatch h⟩, He.glo_ok X G (c.fact 8 (f := .glo "_law_no_name") rfl), rfl, FnB.of rfl (F.bindsN fun _ _ _ _ _ _ us hl => match us, hl with | [_], _ => rfl)⟩
theorem in__law_sign (X : K.In h) (G : h.Ns mainGlobals mg) (c : He.SaysD fa fn K) (ce : errsB K = true) (hA : LamsAt K base mg) : ∃ f fd, DefIn K mg base tb "_law_sign" c__law_sign f fd ["store"] := by
  obtain ⟨fd, F⟩ := c.def_ 9 (d := d__law_sign) rfl
  exact ⟨_, fd, ⟨_, _, _, N__law_sign, _, false, F, s__law_sign, rfl, b__law_sign, fun h => nomatch h⟩, He.glo_ok X G (c.fact 9 (f := .glo "_law_sign") rfl), rfl, FnB.of rfl (F.bindsN fun _ _ _ _ _ _ us hl => match us, hl with | [_], _ => rfl)⟩
theorem in__law_signs (X : K.In h) (G : h.Ns mainGlobals mg) (c : He.SaysD fa fn K) (ce : errsB K = true) (hA : LamsAt K base mg) : ∃ f fd, DefIn K mg base tb "_law_signs" c__law_signs f fd ["store"] := by
  obtain ⟨fd, F⟩ := c.def_ 10 (d := d__law_signs) rfl
  exact ⟨_, fd, ⟨_, _, _, N__law_signs, _, false, F, s__law_signs, rfl, b__law_signs, fun h => nomatch h⟩, He.glo_ok X G (c.fact 10 (f := .glo "_law_signs") rfl), rfl, FnB.of rfl (F.bindsN fun _ _ _ _ _ _ us hl => match us, hl with | [_], _ => rfl)⟩
theorem in__law_stretched (X : K.In h) (G : h.Ns mainGlobals mg) (c : He.SaysD fa fn K) (ce : errsB K = true) (hA : LamsAt K base mg) : ∃ f fd, DefIn K mg base tb "_law_stretched" c__law_stretched f fd ["store"] := by
  obtain ⟨fd, F⟩ := c.def_ 11 (d := d__law_stretched) rfl
  exact ⟨_, fd, ⟨_, _, _, N__law_stretched, _, false, F, s__law_stretched, rfl, b__law_stretched, fun h => nomatch h⟩, He.glo_ok X G (c.fact 11 (f := .glo "_law_stretched") rfl), rfl, FnB.of rfl (F.bindsN fun _ _ _ _ _ _ us hl => match us, hl with | [_], _ => rfl)⟩
theorem in__law_strings (X : K.In h) (G : h.Ns mainGlobals mg) (c : He.SaysD fa fn K) (ce : errsB K = true) (hA : LamsAt K base mg) : ∃ f fd, DefIn K mg base tb "_law_strings" c__law_strings f fd ["store"] := by
  obtain ⟨fd, F⟩ := c.def_ 12 (d := d__law_strings) rfl
  exact ⟨_, fd, ⟨_, _, _, N__law_strings, _, false, F, s__law_strings, rfl, b__law_strings, fun h => nomatch h⟩, He.glo_ok X G (c.fact 12 (f := .glo "_law_strings") rfl), rfl, FnB.of rfl (F.bindsN fun _ _ _ _ _ _ us hl => match us, hl with | [_], _ => rfl)⟩
theorem in__law_due (X : K.In h) (G : h.Ns mainGlobals mg) (c : He.SaysD fa fn K) (ce : errsB K = true) (hA : LamsAt K base mg) : ∃ f fd, DefIn K mg base tb "_law_due" c__law_due f fd ["text"] := by
  obtain ⟨fd, F⟩ := c.def_ 13 (d := d__law_due) rfl
  exact ⟨_, fd, ⟨_, _, _, N__law_due, _, false, F, s__law_due, rfl, b__law_due, fun h => nomatch h⟩, He.glo_ok X G (c.fact 13 (f := .glo "_law_due") rfl), rfl, FnB.of rfl (F.bindsN fun _ _ _ _ _ _ us hl => match us, hl with | [_], _ => rfl)⟩
theorem in__law_holds (X : K.In h) (G : h.Ns mainGlobals mg) (c : He.SaysD fa fn K) (ce : errsB K = true) (hA : LamsAt K base mg) : ∃ f fd, DefIn K mg base tb "_law_holds" c__law_holds f fd ["text"] := by
  obtain ⟨fd, F⟩ := c.def_ 14 (d := d__law_holds) rfl
  exact ⟨_, fd, ⟨_, _, _, N__law_holds, _, true, F, s__law_holds, rfl, b__law_holds, fun _ => ⟨tri_g X G c ce, hA "_law_holds" (by simp [ls]) _ _ _ _ _ _ F⟩⟩, He.glo_ok X G (c.fact 14 (f := .glo "_law_holds") rfl), rfl, FnB.of rfl (F.bindsN fun _ _ _ _ _ _ us hl => match us, hl with | [_], _ => rfl)⟩
theorem in_law (X : K.In h) (G : h.Ns mainGlobals mg) (c : He.SaysD fa fn K) (ce : errsB K = true) (hA : LamsAt K base mg) : ∃ f fd, DefIn K mg base tb "law" c_law f fd ["script"] := by
  obtain ⟨fd, F⟩ := c.def_ 15 (d := d_law) rfl
  exact ⟨_, fd, ⟨_, _, _, N_law, _, false, F, s_law, rfl, b_law, fun h => nomatch h⟩, He.glo_ok X G (c.fact 15 (f := .glo "law") rfl), rfl, FnB.of rfl (F.bindsN fun _ _ _ _ _ _ us hl => match us, hl with | [_], _ => rfl)⟩
theorem in_all (X : K.In h) (G : h.Ns mainGlobals mg) (c : He.SaysD fa fn K) (ce : errsB K = true) (hA : LamsAt K base mg) : ∀ x fn, fns x = some fn → ∃ f fd ps, DefIn K mg base tb x fn f fd ps := by
  intro x fn hx
  unfold fns at hx
  by_cases e : x = "is_word"
  · subst e
    rw [if_pos rfl] at hx
    cases hx
    obtain ⟨f, fd, h⟩ := in_is_word X G c ce hA
    exact ⟨f, fd, _, h⟩
  rw [if_neg e] at hx
  by_cases e : x = "check_name"
  · subst e
    rw [if_pos rfl] at hx
    cases hx
    obtain ⟨f, fd, h⟩ := in_check_name X G c ce hA
    exact ⟨f, fd, _, h⟩
  rw [if_neg e] at hx
  by_cases e : x = "_law_mix"
  · subst e
    rw [if_pos rfl] at hx
    cases hx
    obtain ⟨f, fd, h⟩ := in__law_mix X G c ce hA
    exact ⟨f, fd, _, h⟩
  rw [if_neg e] at hx
  by_cases e : x = "_law_store"
  · subst e
    rw [if_pos rfl] at hx
    cases hx
    obtain ⟨f, fd, h⟩ := in__law_store X G c ce hA
    exact ⟨f, fd, _, h⟩
  rw [if_neg e] at hx
  by_cases e : x = "_law_take"
  · subst e
    rw [if_pos rfl] at hx
    cases hx
    obtain ⟨f, fd, h⟩ := in__law_take X G c ce hA
    exact ⟨f, fd, _, h⟩
  rw [if_neg e] at hx
  by_cases e : x = "_law_pick"
  · subst e
    rw [if_pos rfl] at hx
    cases hx
    obtain ⟨f, fd, h⟩ := in__law_pick X G c ce hA
    exact ⟨f, fd, _, h⟩
  rw [if_neg e] at hx
  by_cases e : x = "_law_same"
  · subst e
    rw [if_pos rfl] at hx
    cases hx
    obtain ⟨f, fd, h⟩ := in__law_same X G c ce hA
    exact ⟨f, fd, _, h⟩
  rw [if_neg e] at hx
  by_cases e : x = "_law_name"
  · subst e
    rw [if_pos rfl] at hx
    cases hx
    obtain ⟨f, fd, h⟩ := in__law_name X G c ce hA
    exact ⟨f, fd, _, h⟩
  rw [if_neg e] at hx
  by_cases e : x = "_law_no_name"
  · subst e
    rw [if_pos rfl] at hx
    cases hx
    obtain ⟨f, fd, h⟩ := in__law_no_name X G c ce hA
    exact ⟨f, fd, _, h⟩
  rw [if_neg e] at hx
  by_cases e : x = "_law_sign"
  · subst e
    rw [if_pos rfl] at hx
    cases hx
    obtain ⟨f, fd, h⟩ := in__law_sign X G c ce hA
    exact ⟨f, fd, _, h⟩
  rw [if_neg e] at hx
  by_cases e : x = "_law_signs"
  · subst e
    rw [if_pos rfl] at hx
    cases hx
    obtain ⟨f, fd, h⟩ := in__law_signs X G c ce hA
    exact ⟨f, fd, _, h⟩
  rw [if_neg e] at hx
  by_cases e : x = "_law_stretched"
  · subst e
    rw [if_pos rfl] at hx
    cases hx
    obtain ⟨f, fd, h⟩ := in__law_stretched X G c ce hA
    exact ⟨f, fd, _, h⟩
  rw [if_neg e] at hx
  by_cases e : x = "_law_strings"
  · subst e
    rw [if_pos rfl] at hx
    cases hx
    obtain ⟨f, fd, h⟩ := in__law_strings X G c ce hA
    exact ⟨f, fd, _, h⟩
  rw [if_neg e] at hx
  by_cases e : x = "_law_due"
  · subst e
    rw [if_pos rfl] at hx
    cases hx
    obtain ⟨f, fd, h⟩ := in__law_due X G c ce hA
    exact ⟨f, fd, _, h⟩
  rw [if_neg e] at hx
  by_cases e : x = "_law_holds"
  · subst e
    rw [if_pos rfl] at hx
    cases hx
    obtain ⟨f, fd, h⟩ := in__law_holds X G c ce hA
    exact ⟨f, fd, _, h⟩
  rw [if_neg e] at hx
  by_cases e : x = "law"
  · subst e
    rw [if_pos rfl] at hx
    cases hx
    obtain ⟨f, fd, h⟩ := in_law X G c ce hA
    exact ⟨f, fd, _, h⟩
  rw [if_neg e] at hx
  cases hx
theorem tb_all : (names.all fun x => (fns x).isSome) = true := by kernel_rfl
theorem tb_fns : ∀ x, tb.fns x = true → ∃ fn, fns x = some fn := by
  intro x hx
  have hx : x ∈ names := List.contains_iff_mem.mp hx
  exact Option.isSome_iff_exists.mp (List.all_eq_true.mp tb_all x hx)
end
end LW
namespace LW
open PySem L2 G
theorem facts {P : Program} {w : World} {K : PySem.W.Frag} {h : Heap} {mg : Str → Option Value} {f : Addr} (S : SaysL fa fn gs ls true K h) (G : h.Ns mainGlobals mg) (hfa : mg ("law" : Str) = some (.ref f)) :
    ∃ fd : FuncData, (∀ (s : Shared) (v : Value), BindsTo s fd ⟨[v], []⟩ [("script", v)]) ∧ ∀ base : Heap, K.In base → base.Ns mainGlobals mg → (∀ p ∈ csOf K ls, LamX.TabB base mg p.1 p.2) →
      @FnOk P w K mg base (L2.CX P w) 222 f fd ["script"] (@spOf (tbsOf K ls) K [false] (@EXR (tbsOf K ls) K mg) (run fns globs fuel 220 "law")) := by
  have X := S.X
  have c := S.d
  have ce : errsB K = true := S.e rfl
  obtain ⟨fd, F⟩ := c.def_ 15 (d := d_law) rfl
  have e := hfa.symm.trans (He.glo_ok X G (c.fact 15 (f := .glo "law") rfl))
  cases e
  have b := FunD.bindsA (ps := ["script"]) F fun _ _ _ _ _ _ us hl => match us, hl with | [_], _ => rfl
  refine ⟨fd, fun s v => b s [v] rfl, fun base _ _ hB => ?_⟩
  letI TB : Tbs := tbsOf K ls
  have hA : LamsAt K base mg := fun x hx qual params body scope kws fd F => triAt_of S hx hB F
  exact all_ok tb_fns (free_all X G c) (in_all X G c ce hA) (globs_ok X G S.g) (exc_all X G c ce) 220 "law" c_law _ fd ["script"] rfl
    ⟨⟨_, _, _, N_law, _, false, F, s_law, rfl, b_law, fun h => nomatch h⟩, He.glo_ok X G (c.fact 15 (f := .glo "law") rfl), rfl, FnB.of rfl (F.bindsN fun _ _ _ _ _ _ us hl => match us, hl with | [_], _ => rfl)⟩
end LW
open PySem PySem.W PySem.Calls PyProof.Rows
theorem holds_of (main : ∀ ns : List Int, ns.length ≤ 63 → G.run LW.fns LW.globs LW.fuel 220 "law" [.frz (ns.map .int)] = .ok (false, .bl true, [])) : PySem.Challenge.rw_whicheverafter_k02_names.Holds := by
  w_on; o_law
  refine HandSHeadRun.head_any (r := OpenLaw.row PySem.Challenge.rw_whicheverafter_k02_names) (q := view (OpenLaw.row PySem.Challenge.rw_whicheverafter_k02_names).prog [36]) (H := LW.hk) (ob := LW.ob) (M := 20000) (loose := LW.loose) (d := HandSHeadRun.topDef (OpenLaw.row PySem.Challenge.rw_whicheverafter_k02_names).prog 36) (kwd := []) LW.ob_eq
    (by kernel_rfl) (fun s => by kernel_rfl) LW.run_head (by kernel_rfl) (by kernel_rfl) (by kernel_rfl) (by rfl) (by first | assumption | decide +kernel) (by decide +kernel) ⟨rfl, rfl, rfl, rfl, rfl, by decide +kernel⟩ ?hw ?hc
  case hw => w_witness2
  case hc =>
    refine LamX.walk_ofTsE (l := PySem.Challenge.rw_whicheverafter_k02_names) (n := 63) (k := 222) (x := "script") (CX := fun w => L2.CX (PySem.Challenge.rw_whicheverafter_k02_names).prog w) rfl (by decide) (by kernel_rfl) ⟨rfl, by decide, by decide⟩ ?F (fun w H s e s' hz => ?G)
    case G =>
      obtain ⟨_, _, _, _, _, _, _, _, _, _, _, _, z⟩ := hz
      exact z
    intro w mg fa h Y G hmg0
    obtain ⟨K, S⟩ := Y
    refine ⟨K, S.X, ?_⟩
    have hmg : mg ("law" : PySem.Str) = some (.ref fa) := by
      have e : (HandSHeadRun.topDef (OpenLaw.row PySem.Challenge.rw_whicheverafter_k02_names).prog 36).name = ("law" : PySem.Str) := by kernel_rfl
      rw [← e]
      exact hmg0
    obtain ⟨fd, hb, hF⟩ := LW.facts (P := (PySem.Challenge.rw_whicheverafter_k02_names).prog) (w := w) S G hmg
    exact _root_.G.law_at S main hb hF

open PySem
theorem PySem.Challenge.cw_whicheverafter_k02_names_holds : PySem.Challenge.rw_whicheverafter_k02_names.Holds := by
  exact holds_of LW.law_run
