import PyProof.Rows.All
import Wide.All
import OpenK.AllK
import Wide.FinOn
import KE.GoesEnum
import HandS.ForMost
import HandS.Walk
import HandS.TryOnly
import HandS.Zip
import HandS.More
import HandS.Text
import HandS.FStr
import HandS.OwnEq
import HandS.ClsMeth
import HandS.MakeKwOnly
import PyProof.InstNe
import HandS.Deep
import HandS.Defaults
import HandS.Words
import HandS.Iter
import HandS.IterVal
import HandS.Lambda
import KE.KOwnIter
import PyProof.FactsSeq
import HandS.IsInst
import HandS.Conv
import HandS.DictComp
import HandS.Flow
import HandS.ExcInit
import HandS.Nested
import KE.KExcSuper
import KE.KSuper
import HandS.HotCalls
import HandS.ExcIs
import HandS.ExcField
import KE.KExcIs
import HandS.TupAny
import HandS.Replace
import HandS.Style
import HandS.HeadHook4
import HandS.WordsExc
import HandS.HeadHook3
import HandS.Head0
import HandS.Head1
import HandS.Head2
import HandS.HeadEnd
import KE.KStateDown
import Wide.Once
import HandS.HeadWalk
import HandS.EndTab
import PySem.Challenge.RW_makerlines_k04_places_owned
section
set_option Elab.async false
set_option linter.all false
set_option maxRecDepth 100000
set_option maxHeartbeats 2000000
namespace L2
open PySem PySem.Spec PyProof.Rows
theorem meets_enumB1 {v : Value} {o : Obj} {H : Heap → Prop} (B : Begins v o H) :
    Meets (Builtin.«enumerate.__new__» ⟨[.type "enumerate", v], []⟩) (fun _ R s => H s.heap ∧
      R (.ok (.ret (.ref (s.heap.push o).objs.size))) { s with heap := (s.heap.push o).push { cls := .type "enumerate", data := .fields #[.none, .bool false, .ref s.heap.objs.size, rawInt 0, .none, .none] } }) :=
  .of_wp fun prog w A R s h => by
    obtain ⟨hp, g, d, tk, os⟩ := s; obtain ⟨h1, h⟩ := h
    have hsub := sub_enumerate
    have q1 : ∀ {A' : Around} {E : Value → Shared → Prop} {Q : Value → Shared → Prop}, Q (.ref hp.objs.size) ⟨hp.push o, g, d, tk, os⟩ → wpAny (model prog w) A' (pyIter v) Q E ⟨hp, g, d, tk, os⟩ :=
      fun q => B.iter prog w _ _ ⟨hp, g, d, tk, os⟩ _ h1 q
    wp_walk using q1
    refine wpAny_stack_any fun st => wpAny_pure ?_
    split
    · rename_i c _ _ _ _ _
      cases (c == Value.type "enumerate")
      · wp_walk using q1
        exact ⟨_, rfl, h⟩
      · wp_walk using q1
        exact ⟨_, rfl, h⟩
    · wp_walk using q1
      exact ⟨_, rfl, h⟩
theorem enum_begins1 {prog : Program} {w : World} {A : Around} {E : Value → Shared → Prop} {s : Shared} {v : Value} {o : Obj} {H : Heap → Prop} {Q : Value → Shared → Prop} (B : Begins v o H) (h1 : H s.heap)
    (h : ∀ h', IsEnum h' (s.heap.objs.size + 1) s.heap.objs.size 0 .none → h'.get? s.heap.objs.size = some o → h'.objs.size = s.heap.objs.size + 2 →
      (∀ b o, s.heap.get? b = some o → h'.get? b = some o) → Q (.ref (s.heap.objs.size + 1)) { s with heap := h' }) :
    wpAny (model prog w) A (call (.type "enumerate") [v]) Q E s := by
  refine callType_new F.called_enumerate (by decide) (F.typeCall_enumerate_1 _) (F.newCall_enumerate_1 _) (fun obj => F.args_object_init_2 obj _) F.entry_enumerate_new
    (meets_enumB1 B) ⟨h1, ?_⟩
  have hz : (s.heap.push o).objs.size = s.heap.objs.size + 1 := Heap.size_push ..
  show _ ∧ _
  rw [hz]
  have he : IsEnum ((s.heap.push o).push { cls := .type "enumerate", data := .fields #[.none, .bool false, .ref s.heap.objs.size, rawInt 0, .none, .none] }) (s.heap.objs.size + 1) s.heap.objs.size 0 .none := by
    have := Heap.get?_push_size (s.heap.push o) (o := { cls := .type "enumerate", data := .fields #[.none, .bool false, .ref s.heap.objs.size, rawInt 0, .none, .none] }) rfl
    rw [hz] at this; exact this
  refine ⟨⟨_, he, rfl⟩, h _ he (Heap.get?_push_of_some _ (Heap.get?_push_size _ B.free)) (by rw [Heap.size_push, hz]) fun b o x => Heap.get?_push_of_some _ (Heap.get?_push_of_some _ x)⟩
/-- enumerate(tuple) -/
def Itet (K : PySem.W.Frag) (a : Addr) : It :=
  ⟨fun i H => ∃ (xs : List V) (x : V), SqT K H a xs ∧ xs[i]? = some x, fun i H v H' => ∃ T x, v = .ref T ∧ H T = none ∧ H' = upd H T (.tup [.int (i : Nat), x]) ∧ ∀ xs, SqT K H a xs → xs[i]? = some x, fun i H => ∃ xs : List V, SqT K H a xs ∧ xs.length ≤ i⟩
theorem enum_ne_tup {h : Heap} {e it a : Addr} {i : Int} {old : Value} {its : Array Value} (he : IsEnum h e it i old) (ht : IsTup h a its) : e ≠ a := by
  rintro rfl
  obtain ⟨o, ho, hc, _⟩ := ht
  rw [he] at ho; cases ho
  have hc' : Value.type "enumerate" = Value.type "tuple" := hc
  exact absurd hc' (by decide)
theorem iter_ne_tup {h : Heap} {it a b : Addr} {i : Nat} {its : Array Value} (hi : h.IsTupleIter it b i) (ht : IsTup h a its) : a ≠ it := by
  rintro rfl
  obtain ⟨o, ho, hc, _⟩ := ht
  obtain ⟨o', ho', hc', _⟩ := hi
  rw [ho] at ho'; cases ho'
  rw [hc] at hc'
  exact absurd hc' (by decide)
theorem turn_enumT {P : Program} {w : World} {K : PySem.W.Frag} {elts : List Expr} {kk : Nat} {tpos : Pos} (a e it : Addr) :
    Turn P w K (.Tuple elts kk tpos) (Itet K a) [e, it] e (fun i h => (∃ old, IsEnum h e it ((i : Nat) : Int) old) ∧ h.IsTupleIter it a i ∧ e ≠ it) where
  mem := by simp
  obj := fun i h st b hb => by
    obtain ⟨⟨old, he⟩, ⟨o, ho, hc, hd⟩, _⟩ := st
    have e' : b = e ∨ b = it := by simpa using hb
    rcases e' with z | z
    · rw [z]; exact ⟨_, he, fun v q => nomatch q⟩
    · rw [z]; exact ⟨o, ho, fun v q => by rw [hd] at q; cases q⟩
  keep := fun i h h' st k => let ⟨⟨old, he⟩, hi, hne⟩ := st; ⟨⟨old, k e (by simp) _ he⟩, hi.at fun o q => k it (by simp) o q, hne⟩
  item := by
    intro X hP hw hK hc i pins s σ H E I hf st hg
    subst hP hw hK
    obtain ⟨⟨old, he⟩, hit, hne⟩ := st
    obtain ⟨xs, x, hq, hx⟩ := hg
    obtain ⟨its, rv, p, hz⟩ := I.tuple hq
    obtain ⟨u, hu, ru⟩ := rv.get hx
    have hel : e < s.heap.objs.size := Heap.lt_size he
    have hil : it < s.heap.objs.size := by obtain ⟨_, q, _⟩ := hit; exact Heap.lt_size q
    have nea : e ≠ a := enum_ne_tup he p
    have nai : a ≠ it := iter_ne_tup hit p
    have hlt : i < its.toArray.size := by
      have := (List.getElem?_eq_some_iff.mp hu).1
      simpa using this
    refine wpAny_pyNext_enum_itemD (Draws.tuple (A := X.A.in1) (I.ok.hd hc) it a nai its.toArray) he ⟨hit, p⟩ hlt hne (by simp [hne, nea]) fun y h' tk hy ho hst hT hsz hk => ?_
    have ey : y = u := by
      have hu' : its.toArray[i]? = some u := by simpa using hu
      rw [hu'] at hy
      exact (Option.some.inj hy).symm
    subst ey
    refine ⟨_, rfl, wpAny_letOwnedTupleGo_enum (s := { s with heap := h', toks := tk + 1 }) ho fun h'' he' sb => ?_⟩
    have hT2 : h''.get? s.heap.objs.size = some { cls := .type "tuple", data := .seq #[.int i tk, y] } := (sb.2 _ (Nat.ne_of_gt hel)).trans hT
    have new : ObjOk X.prog X.w (upd H s.heap.objs.size (.tup [.int (i : Nat), x])) h'' s.heap.objs.size (.tup [.int (i : Nat), x]) :=
      ⟨by show 2 ≤ sizeLine; decide, [.int i tk, y], .cons ⟨_, rfl⟩ (.cons ru .nil), ⟨_, hT2, rfl, _, rfl⟩⟩
    have I1 : Inv X pins σ (upd H s.heap.objs.size (.tup [.int (i : Nat), x])) { s with heap := h'', toks := tk + 1 } :=
      I.turnedNew (ch := [e, it]) (fun b ob hb q => (sb.2 b (fun z => hb (by simp [z]))).trans (hk b ob (fun z => hb (by simp [z])) (fun z => hb (by simp [z])) q)) hf (Nat.le_refl _) new
    refine ⟨.ref s.heap.objs.size, _, I1, rfl, ⟨_, x, rfl, I.hok.fresh (Nat.le_refl _), rfl, fun ys hy => by rw [I.tuple_inj hy hq]; exact hx⟩, ⟨⟨y, ?_⟩, hst.1.at fun o q => (sb.2 it (Ne.symm hne)).trans q, hne⟩, fun b hb => ?_⟩
    · have e1 : ((i + 1 : Nat) : Int) = (i : Int) + 1 := by omega
      rw [e1]; exact he'
    · have hb' : b < s.heap.objs.size := by
        have e' : b = e ∨ b = it := by simpa using hb
        rcases e' with z | z
        · rw [z]; exact hel
        · rw [z]; exact hil
      rw [upd_ne (Nat.ne_of_lt hb')]
      exact (hf b hb).1
  done := by
    intro X hP hw hK hc i pins s σ H E I hf st hg
    subst hP hw hK
    obtain ⟨⟨old, he⟩, hit, hne⟩ := st
    obtain ⟨xs, hq, hx⟩ := hg
    obtain ⟨its, rv, p, hz⟩ := I.tuple hq
    obtain ⟨f0, f1, f2, f3, f4, f5⟩ := hf it (by simp)
    have nai : a ≠ it := iter_ne_tup hit p
    have hl := rv.length
    have hT : s.TypeIs (.ref e) "enumerate" := ⟨_, he, rfl⟩
    unfold pyNext
    refine wpAny_bind (wpAny_attempt (wpAny_callSpecial?_slot (name := Str.ofString "__next__") hT F.slot_enumerate_next
      (wpAny_call_entry F.slot_enumerate_next hT F.entry_enumerate_next ?_ (F.args_enumerate_next_1 _))))
    show wpAny _ _ (field (.ref e) 2 >>= _) _ _ _
    refine wpAny_bind (wpAny_field he rfl (x := .ref it) rfl ?_)
    refine wpAny_bind (wpAny_nextOf_tuple_end (I.ok.hd hc) hit p (by simp; omega) fun h' x eb hx' => ?_)
    obtain ⟨o, ho, hc⟩ := hx'
    refine wpAny_bind (wpAny_isInstance (T := "StopIteration") (b := true) ⟨o, ho, hc⟩ isSubtype_stop ?_)
    exact wpAny_pure ⟨rfl, I.turned (t' := s.toks) (fun b o hb q => eb b o hb q) f0 f1 f3 f4 f5⟩
  self := fun A i s Q E st h => let ⟨⟨_, he⟩, _⟩ := st; wpAny_pyIter_enum he h
def iEnumT (K : PySem.W.Frag) (ta : TA) : TI := fun σ H R => ta σ H fun vs H1 => ∃ a xs, vs = [.ref a] ∧ SqT K H1 a xs ∧ R (Itet K a) H1
theorem pi_enumT {X : Cx} {e : Expr} {ta : TA} {p pos tpos : Pos} {elts : List Expr} {kk : Nat} (hg : Gl X "enumerate") (hm : X.mg "enumerate" = none) (ha : PA X [e] ta) (hs : starEach [e] X.env = [(false, eval e X.env)] := by rfl) :
    PI X (.Tuple elts kk tpos) (.Call (.Name "enumerate" p) [e] [] pos) (iEnumT X.K ta) := by
  refine ⟨fun pins s σ H R I h => ?_⟩
  refine Call_ (ld_blt I hg hm boot_enumerate (PyProof.Rows.callWith_type1 (thn (ha.run pos pins s σ H _ I h) fun us s1 ⟨vs, H1, I1, r1, q1⟩ => ?_) hs rfl))
  obtain ⟨a, xs, ex, hq, q⟩ := q1
  subst ex
  cases r1 with
  | cons r rr =>
    cases rr
    cases r
    obtain ⟨its, rv, p', hz⟩ := I1.tuple hq
    refine enum_begins1 (begins_tuple a its.toArray) p' fun h' he hit hsz hk => wpAny_pyIter_enum he ?_
    have I2 : Inv X pins σ H1 { s1 with heap := h' } := I1.kept (t' := s1.toks) hk
    refine ⟨s1.heap.objs.size + 1, [s1.heap.objs.size + 1, s1.heap.objs.size], _, _, H1, rfl, I2, turn_enumT a (s1.heap.objs.size + 1) s1.heap.objs.size, ⟨⟨.none, he⟩, ⟨_, hit, rfl, rfl⟩, Nat.succ_ne_self _⟩, fun b hb => ?_, q⟩
    have e' : b = s1.heap.objs.size + 1 ∨ b = s1.heap.objs.size := by simpa using hb
    have hle : s1.heap.objs.size ≤ b := by
      rcases e' with z | z
      · rw [z]; exact Nat.le_add_right _ _
      · rw [z]; exact Nat.le_refl _
    exact I1.fpOk hle (I1.hok.fresh hle)
theorem walk_enumT {K : PySem.W.Frag} {a : Addr} {xs : List V} : Walk (Itet K a) xs.length (fun H => SqT K H a xs) (YPair (fun i => some (.int (i : Nat))) (fun i => xs[i]?)) := by
  refine ⟨fun i _ hi q => ⟨xs, xs[i], q, by simp [hi]⟩, fun _ q => ⟨xs, q, Nat.le_refl _⟩, fun i H v H' _ q y => ?_⟩
  obtain ⟨T, x, h1, h2, h3, h4⟩ := y
  exact ⟨T, .int (i : Nat), x, h1, h2, h3, rfl, h4 xs q⟩
end L2
end
section
set_option Elab.async false
set_option linter.all false
set_option maxRecDepth 100000
set_option maxHeartbeats 2000000
namespace Mz
/-- a stop for the steps -/
inductive Mark where | mk
end Mz
namespace L2
open PySem PySem.Spec PyProof.Rows Mz
def gSeq (K : PySem.W.Frag) (n : Nat) (t : TGs) : TG := fun v σ H Q => ∃ _ : Mark, gTup K n t v σ H Q ∨ gLst K n t v σ H Q
theorem pg_seq {X : Cx} {es : List Expr} {k : Nat} {pos : Pos} {t : TGs} {n : Nat} (hc : X.calm = true) (h : PGs X es t) (hn : (assignEach es X.env).length = n := by rfl) (hst : (assignEach es X.env).findIdx? (·.1) = none := by rfl) :
    PG X (.Tuple es k pos) (gSeq X.K n t) :=
  ⟨fun pins s σ H v w Q I r h' => by
    obtain ⟨_, h' | h'⟩ := h'
    · exact (pg_tup hc h hn hst).run pins s σ H v w Q I r h'
    · exact (pg_lst hc h hn hst).run pins s σ H v w Q I r h'⟩
/-! ### walks over lists and tuples alike -/
def qSq0 (K : PySem.W.Frag) (x : V) (H1 : Hp) (R : It → Hp → Prop) : Prop := ∃ a, x = .ref a ∧ (((∃ xs, SqL K H1 a xs) ∧ R (Itl K a) H1) ∨ ((∃ xs, SqT K H1 a xs) ∧ R (Itt K a) H1))
def qSq (K : PySem.W.Frag) (x : V) (H1 : Hp) (R : It → Hp → Prop) : Prop := ∃ _ : Mark, qSq0 K x H1 R
def iSq (K : PySem.W.Frag) (te : TE) : TI := fun σ H R => te σ H fun x H1 => qSq K x H1 R
theorem pi_sq {X : Cx} {tg l : Expr} {tl : TE} (hl : PE X l tl) : PI X tg l (iSq X.K tl) := by
  refine ⟨fun pins s σ H R I h => ?_⟩
  refine thn (hl.run pins s σ H _ I h) fun v s1 ⟨x, H1, I1, r1, q1⟩ => ?_
  obtain ⟨_, a, e, q1⟩ := q1
  subst e
  cases r1
  rcases q1 with ⟨⟨xs, hq⟩, q⟩ | ⟨⟨xs, hq⟩, q⟩
  · obtain ⟨its, rv, p, hz⟩ := I1.list hq
    refine wpAny_pyIter_list p.isList ?_
    refine ⟨s1.heap.objs.size, [s1.heap.objs.size], _, _, H1, rfl, I1.kept (t' := s1.toks) fun b o e => Heap.get?_push_of_some _ e, turn_list a _, ⟨_, Heap.get?_push_size _ rfl, rfl, rfl⟩, fun b hb => ?_, q⟩
    have e : b = s1.heap.objs.size := by simpa using hb
    subst e
    exact I1.fpOk (Nat.le_refl _) (I1.hok.fresh (Nat.le_refl _))
  · obtain ⟨its, rv, p, hz⟩ := I1.tuple hq
    refine wpAny_pyIter_tuple (show s1.heap.IsTuple a its.toArray from p) ?_
    refine ⟨s1.heap.objs.size, [s1.heap.objs.size], _, _, H1, rfl, I1.kept (t' := s1.toks) fun b o e => Heap.get?_push_of_some _ e, turn_tuple a _, ⟨_, Heap.get?_push_size _ rfl, rfl, rfl⟩, fun b hb => ?_, q⟩
    have e : b = s1.heap.objs.size := by simpa using hb
    subst e
    exact I1.fpOk (Nat.le_refl _) (I1.hok.fresh (Nat.le_refl _))
def qEnSq0 (K : PySem.W.Frag) (vs : List V) (H1 : Hp) (R : It → Hp → Prop) : Prop := ∃ a xs, vs = [.ref a] ∧ ((SqL K H1 a xs ∧ R (Ite K a) H1) ∨ (SqT K H1 a xs ∧ R (Itet K a) H1))
def qEnSq (K : PySem.W.Frag) (vs : List V) (H1 : Hp) (R : It → Hp → Prop) : Prop := ∃ _ : Mark, qEnSq0 K vs H1 R
def iEnSq (K : PySem.W.Frag) (ta : TA) : TI := fun σ H R => ta σ H fun vs H1 => qEnSq K vs H1 R
theorem pi_enSq {X : Cx} {e : Expr} {ta : TA} {p pos tpos : Pos} {elts : List Expr} {kk : Nat} (hg : Gl X "enumerate") (hm : X.mg "enumerate" = none) (ha : PA X [e] ta) (hs : starEach [e] X.env = [(false, eval e X.env)] := by rfl) :
    PI X (.Tuple elts kk tpos) (.Call (.Name "enumerate" p) [e] [] pos) (iEnSq X.K ta) := by
  refine ⟨fun pins s σ H R I h => ?_⟩
  refine Call_ (ld_blt I hg hm boot_enumerate (PyProof.Rows.callWith_type1 (thn (ha.run pos pins s σ H _ I h) fun us s1 ⟨vs, H1, I1, r1, q1⟩ => ?_) hs rfl))
  obtain ⟨_, a, xs, ex, q1⟩ := q1
  subst ex
  cases r1 with
  | cons r rr =>
    cases rr
    cases r
    rcases q1 with ⟨hq, q⟩ | ⟨hq, q⟩
    · obtain ⟨its, rv, p', hz⟩ := I1.list hq
      refine call_enumerate_list p'.isList fun h' he hit hsz hk => wpAny_pyIter_enum he ?_
      have I2 : Inv X pins σ H1 { s1 with heap := h' } := I1.kept (t' := s1.toks) hk
      refine ⟨s1.heap.objs.size + 1, [s1.heap.objs.size + 1, s1.heap.objs.size], _, _, H1, rfl, I2, turn_enum a (s1.heap.objs.size + 1) s1.heap.objs.size, ⟨⟨.none, he⟩, hit, Nat.succ_ne_self _⟩, fun b hb => ?_, q⟩
      have e' : b = s1.heap.objs.size + 1 ∨ b = s1.heap.objs.size := by simpa using hb
      have hle : s1.heap.objs.size ≤ b := by
        rcases e' with z | z
        · rw [z]; exact Nat.le_add_right _ _
        · rw [z]; exact Nat.le_refl _
      exact I1.fpOk hle (I1.hok.fresh hle)
    · obtain ⟨its, rv, p', hz⟩ := I1.tuple hq
      refine enum_begins1 (begins_tuple a its.toArray) p' fun h' he hit hsz hk => wpAny_pyIter_enum he ?_
      have I2 : Inv X pins σ H1 { s1 with heap := h' } := I1.kept (t' := s1.toks) hk
      refine ⟨s1.heap.objs.size + 1, [s1.heap.objs.size + 1, s1.heap.objs.size], _, _, H1, rfl, I2, turn_enumT a (s1.heap.objs.size + 1) s1.heap.objs.size, ⟨⟨.none, he⟩, ⟨_, hit, rfl, rfl⟩, Nat.succ_ne_self _⟩, fun b hb => ?_, q⟩
      have e' : b = s1.heap.objs.size + 1 ∨ b = s1.heap.objs.size := by simpa using hb
      have hle : s1.heap.objs.size ≤ b := by
        rcases e' with z | z
        · rw [z]; exact Nat.le_add_right _ _
        · rw [z]; exact Nat.le_refl _
      exact I1.fpOk hle (I1.hok.fresh hle)
/-! ### a written dict of two texts -/
def rKD2 (d : Addr) (k1 k2 : Str) (v1 v2 : V) : R2 := fun x y H Q => ∃ z : Str, x = .ref d ∧ y = .str z ∧ ((z = k1 ∧ Q v1 H) ∨ (z = k2 ∧ Q v2 H))
theorem ix_kd2 {X : Cx} {d : Addr} {k1 k2 : Str} {v1 v2 : V} (h1 : KDct X.K X.w d k1 v1) (h2 : KDct X.K X.w d k2 v2) : IxR X (rKD2 d k1 k2 v1 v2) := fun ve se pins s σ H x y v u Q I rx ry h hs => by
  obtain ⟨z, e1, e2, ⟨rfl, q⟩ | ⟨rfl, q⟩⟩ := h
  · exact ix_kdict ve se pins s σ H x y v u Q I rx ry ⟨d, _, _, e1, e2, h1, q⟩ hs
  · exact ix_kdict ve se pins s σ H x y v u Q I rx ry ⟨d, _, _, e1, e2, h2, q⟩ hs
end L2
end
section
set_option Elab.async false
set_option linter.all false
set_option maxRecDepth 100000
set_option maxHeartbeats 2000000
namespace L2
open PySem PySem.Spec PyProof.Rows PySem.W Mz
section
variable {X : Cx}
theorem ne_slot (self : Value) : bindSpecial (.builtin "object.__ne__") self = pure (.builtin "object.__ne__", [self]) := PySem.F.cmp_object.ne.bind self
theorem check_K {M : Model} {A : Around} {E : Value → Shared → Prop} {s : Shared} {K : PySem.W.Frag} {x C : Addr} {ox : Obj} {od : Option Obj} {id owner n : String} {rest : List Value} {Q : Unit → Shared → Prop} (hk : builtinKind id = some .slot) (hs : splitId id = some (owner, n))
    (ha : argsOk id ⟨.ref x :: rest, []⟩) (X : K.In s.heap) (I : PySem.W.InstAt s.heap x ox C od) (hsub : PySem.W.subIn K (.ref C) (.type owner) = some true) (hq : Q () s) :
    wpAny M A (checkBuiltinCall id ⟨.ref x :: rest, []⟩) Q E s := by
  simp only [checkBuiltinCall, hk, hs]
  have hi : Looks M s.heap (isInstance (.ref x) (.type owner)) true := by
    unfold isInstance
    exact I.type.andThen (looks_subIn X hsub)
  refine wpAny_bind (hi.here ?_)
  simp only [Bool.not_true, Bool.false_eq_true, if_false]
  cases hsig : Manifest.signature? id with
  | none => exact wpAny_pure hq
  | some sig =>
    simp only [argsOk, hsig] at ha
    have h2 : Bind.checkArgs id sig ⟨.ref x :: rest, []⟩ = pure () := ha
    show wpAny M A (Bind.checkArgs id sig ⟨.ref x :: rest, []⟩) Q E _
    rw [h2]; exact wpAny_pure hq
/-- __ne__ from object: the other way round than __eq__ -/
theorem neCmp_K {prog : Program} {w : World} {A : Around} {E : Value → Shared → Prop} {s : Shared} {K : PySem.W.Frag} {x C L f : Addr} {h₀ : Heap} {m : Str → Option Value} {ox : Obj} {od : Option Obj} {b tb : Value} {Q : Value → Shared → Prop}
    (hu : A.units + 1 < cLine) (F : PyProof.Rows.Fr h₀ L s.heap m) (X₀ : K.In h₀) (I : PySem.W.InstAt s.heap x ox C od) (hb : Looks (model prog w) s.heap (typeOf b) tb) (hn : PySem.W.notFirst K C tb = true)
    (hs : PySem.W.findIn K (.ref C) "__eq__" = some (some (.ref f))) (hf : PySem.W.isFn K (.ref f) = true) (hne : PySem.W.findIn K (.ref C) "__ne__" = some (some (.builtin "object.__ne__"))) (hsub : PySem.W.subIn K (.ref C) (.type "object") = some true)
    (h : wpAny (model prog w) A.in1 (call (.ref f) [.ref x, b]) (fun v s' => ∃ r, v = .bool r ∧ Q (.bool (!r)) s') E s) : wpAny (model prog w) A (richCompare .NotEq (.ref x) b) Q E s := by
  have X := X₀.keeps F.keep
  have one : wpAny (model prog w) A (tryCompare (.ref x) "__ne__" b) (fun r s' => ∃ v, r = some v ∧ Q v s') E s := by
    unfold tryCompare
    simp only [callSpecialIfBound?, bindSpecialIfBound?]
    refine wpAny_bind (wpAny_holding (wpAny_bind (wpAny_bind (wpAny_bind (I.type.here ((looks_findIn X hne).here ?_))))))
    simp only [ne_slot]
    refine wpAny_bind (wpAny_askSetting (wpAny_ite ?_))
    have body : wpAny (model prog w) A (call (.builtin "object.__ne__") [.ref x, b]) (fun v s' => ∃ r, v = .bool r ∧ Q (.bool r) s') E s := by
      refine wpAny_call (codeAny_call_builtin PySem.F.cmp_object.ne.plain PySem.F.cmpEntry_ne (check_K PySem.F.cmpKind_ne PySem.F.cmpSplit_ne (PySem.F.cmpArgs_ne _ _) X I hsub ?_))
      unfold Builtin.«object.__ne__»
      have hc : wpAny (model prog w) A.in1 (callSpecialIfBound? (.ref x) (Str.ofString "__eq__") [b]) (fun r s' => ∃ z, r = some (.bool z) ∧ Q (.bool (!z)) s') E s :=
        ifBound_K X I hs hf (wpAny_mono h (fun v s' hv => by
          obtain ⟨r, rfl, q⟩ := hv
          exact ⟨r, rfl, q⟩) fun _ _ e => e)
      repeat (first
        | with_reducible refine wpAny_cRoomFor hu ?_
        | (refine wpAny_bind (m := callSpecialIfBound? (.ref x) (Str.ofString "__eq__") [b])
            (wpAny_mono hc (fun r s' hr => by
              obtain ⟨z, rfl, hq⟩ := hr
              repeat (first | exact ⟨_, rfl, hq⟩ | exact wpAny_pure ⟨_, rfl, hq⟩ | (refine wpAny_bind (m := truthy (.bool _)) (wpAny_truthy_bool ?_)) | wp_step)) fun _ _ e => e))
        | wp_step)
    have fin : wpAny (model prog w) A (call (.builtin "object.__ne__") ([.ref x] ++ [b]) >>= fun v => pure (some v)) (fun a s' => wpAny (model prog w) A (match a with
              | some Value.notImplemented => pure none
              | none => pure none
              | some __do_lift => pure (some __do_lift))
              (fun r s' => ∃ v, r = some v ∧ Q v s') E s') E s := wpAny_bind (wpAny_mono body (fun v s' ⟨r, e, q⟩ => wpAny_pure (by subst e; exact wpAny_pure ⟨_, rfl, q⟩)) fun _ _ h' => h')
    split
    · exact wpAny_bind (wpAny_pure (wpAny_pure fin))
    · exact wpAny_tryCatch (wpAny_bind (wpAny_pure (wpAny_pure fin)))
  unfold richCompare
  simp only [oneThing_ref]
  refine wpAny_holding (wpAny_bind (wpAny_cRoomFor (Nat.lt_of_succ_lt hu) ?_))
  refine wpAny_bind (I.type.here (wpAny_bind (hb.here ?_)))
  split
  · rename_i q
    have e : subIn K tb (.ref C) = some false := by
      rcases Bool.or_eq_true_iff.mp hn with e | e
      · rw [beq_iff_eq.mp e] at q; simp at q
      · exact beq_iff_eq.mp e
    refine wpAny_bind ((looks_subIn X e).here ?_)
    simp only [Bool.false_eq_true, if_false]
    refine wpAny_bind (wpAny_mono one (fun r s' z => ?_) fun _ _ e => e)
    obtain ⟨v, rfl, hq⟩ := z
    exact wpAny_pure hq
  · refine wpAny_bind (wpAny_pure ?_)
    simp only [Bool.false_eq_true, if_false]
    refine wpAny_bind (wpAny_mono one (fun r s' z => ?_) fun _ _ e => e)
    obtain ⟨v, rfl, hq⟩ := z
    exact wpAny_pure hq
/-- a == b and a != b by the own == of a's class, b of the same class -/
def rOwn (neg : Bool) (C : Addr) (sp : Sp) (E : XK) : V → V → Hp → VK → Prop := fun x y H Q => ∃ (_ : Mark) (a b dx dy : Addr) (fs gs : List (Str × V)), x = .ref a ∧ y = .ref b ∧ H a = some (.ins C dx fs) ∧ H b = some (.ins C dy gs) ∧ sp [.ref a, .ref b] H (fun v H' => ∃ r, v = .bl r ∧ Q (.bl (if neg = true then !r else r)) H') E
structure OwnC (K : PySem.W.Frag) (C f : Addr) : Prop where
  eq : PySem.W.findIn K (.ref C) "__eq__" = some (some (.ref f))
  fn : PySem.W.isFn K (.ref f) = true
  ne : PySem.W.findIn K (.ref C) "__ne__" = some (some (.builtin "object.__ne__"))
  sub : PySem.W.subIn K (.ref C) (.type "object") = some true
theorem own_call {CX : CXT} {n : Nat} {f : Addr} {fd : FuncData} {ps : List Str} {sp : Sp} {E : XK} (F : FnOk X.prog X.w X.K X.mg X.base CX n f fd ps sp) (hb : Binds X.K fd ps []) (hx : Passes CX X E)
    {A : Around} (hr : Room n A) (hA : A.frames = X.A.frames) {pins : List (Addr × Obj)} {s : Shared} {σ : St} {H : Hp} {a b : Addr} {R : V → Hp → Prop} (I : Inv X pins σ H s) (h : sp [.ref a, .ref b] H R E) :
    wpAny (model X.prog X.w) A (call (.ref f) [.ref a, .ref b]) (EP X pins σ R) X.xe s := by
  have e0 : Env0 X.prog X.w X.K X.mg X.base A X.stack s H := by
    have e := I.env0
    exact ⟨by rw [hA]; exact e.frames, e.mod, e.bs, e.bsz, e.funs, e.frf, e.hok, e.bare⟩
  have hl := F.len _ _ _ _ h
  have r2 : Vals [V.ref a, V.ref b] [Value.ref a, Value.ref b] := .cons rfl (.cons rfl .nil)
  refine wpAny_call (codeAny_mono (F.run A X.stack s H ⟨[.ref a, .ref b], []⟩ [.ref a, .ref b] [.ref a, .ref b] _ E hr e0 (by
    have := hb s [.ref a, .ref b] I.kIn (by simpa using hl)
    simpa using this) r2 h) fun r s' hq => ?_)
  cases r with
  | error e => exact hx pins σ H s e s' I hq
  | ok fl =>
    cases fl with
    | ret w => exact I.after hq
    | next => exact False.elim hq
    | brk => exact False.elim hq
    | cont => exact False.elim hq
theorem op_ownNe {CX : CXT} {n : Nat} {C f : Addr} {fd : FuncData} {ps : List Str} {sp : Sp} {E : XK} (F : FnOk X.prog X.w X.K X.mg X.base CX n f fd ps sp) (O : OwnC X.K C f) (hb : Binds X.K fd ps []) (hx : Passes CX X E) (hr : Room (n + 1) X.A) : OpR X (compareOp .NotEq) (rOwn true C sp E) := by
  intro pins s σ H x y u v Q I rx ry h
  obtain ⟨_, a, b, dx, dy, fs, gs, rfl, rfl, ha, hb', h⟩ := h
  cases rx
  cases ry
  obtain ⟨mA, J, _⟩ := ins_get I.hok ha
  obtain ⟨mB, J', _⟩ := ins_get I.hok hb'
  obtain ⟨od, J, _⟩ := J.look
  obtain ⟨od', J', _⟩ := J'.look
  obtain ⟨m, hF⟩ := I.fr
  show wpAny (model X.prog X.w) X.A (richCompare .NotEq (.ref a) (.ref b)) (EP X pins σ Q) X.xe s
  refine neCmp_K (tb := .ref C) (by have := hr.units; omega) hF I.ok.mod.kin J J'.type (by simp [PySem.W.notFirst]) O.eq O.fn O.ne O.sub ?_
  refine wpAny_mono (own_call F hb hx hr.in1 rfl I h) (fun w s' hq => ?_) fun _ _ e => e
  obtain ⟨z, H', I', rz, r, rfl, q⟩ := hq
  cases rz
  exact ⟨r, rfl, .bl (!r), H', I', rfl, q⟩
end
end L2
end
section
set_option Elab.async false
set_option linter.all false
set_option maxRecDepth 100000
set_option maxHeartbeats 2000000
namespace L2
open PySem PySem.Spec PyProof.Rows PySem.W Mz
end L2
end
section
set_option Elab.async false
set_option linter.all false
set_option maxRecDepth 100000
set_option maxHeartbeats 2000000
namespace L2
open PySem PySem.Spec PyProof.Rows
/-! ### a def with defaults -/
end L2
end
section
set_option Elab.async false
set_option linter.all false
set_option maxRecDepth 100000
set_option maxHeartbeats 2000000
namespace L2
open PySem PySem.Spec PyProof.Rows
end L2
end
section
set_option Elab.async false
set_option linter.all false
set_option maxRecDepth 100000
set_option maxHeartbeats 2000000
namespace L2
open PySem PySem.Spec PyProof.Rows ItX
/-! ### x walked over by an own __iter__ that hands the iterator of a list in a field -/
end L2
end
section
set_option Elab.async false
set_option linter.all false
set_option maxRecDepth 100000
set_option maxHeartbeats 2000000
namespace L2
open PySem PySem.Spec PyProof.Rows PySem.W Mz
end L2
end
section
set_option Elab.async false
set_option linter.all false
set_option maxRecDepth 100000
set_option maxHeartbeats 4000000
namespace Mz
open PySem L2
/-! ### names for the operators' readings -/
abbrev rAddI : R2 := rI0 fun i j => .int (i + j)
abbrev rSubI : R2 := rI0 fun i j => .int (i - j)
abbrev rMulI : R2 := rI CMul fun i j => .int (i * j)
abbrev rDivI : R2 := rI CDiv fun i j => .int (i / j)
abbrev rModI : R2 := rI (fun _ j => 0 < j) fun i j => .int (i % j)
abbrev rPowI : R2 := rI CPow fun i j => .int (i ^ j.toNat)
abbrev rLtI : R2 := rI0 fun i j => .bl (decide (i < j))
abbrev rLeI : R2 := rI0 fun i j => .bl (decide (i ≤ j))
abbrev rGtI : R2 := rI0 fun i j => .bl (decide (j < i))
abbrev rGeI : R2 := rI0 fun i j => .bl (decide (j ≤ i))
abbrev rNeg : V → Hp → VK → Prop := rU fun i => .int (-i)
abbrev rNotN : R2 := fun x y H Q => y = .non ∧ Q (.bl (!decide (x = .non))) H
abbrev rInSign : R2 := fun x y H Q => ∃ (c : Nat) (z : Str), x = .str ⟨#[c]⟩ ∧ y = .str z ∧ Q (.bl (decide (c ∈ z.cps.toList))) H
abbrev rLen (K : PySem.W.Frag) : List V → Hp → VK → Prop := fun xs H Q => ∃ p ys, xs = [.ref p] ∧ (SqL K H p ys ∨ SqT K H p ys) ∧ Q (.int ys.length) H
abbrev rInt1 : List V → Hp → VK → Prop := fun xs H Q => (∃ i, xs = [.int i] ∧ Q (.int i) H) ∨ ∃ k, xs = [.bl k] ∧ Q (.int (if k then 1 else 0)) H
abbrev rListOf (K : PySem.W.Frag) : List V → Hp → VK → Prop := fun xs H Q => ∃ p ys, xs = [.ref p] ∧ (SqL K H p ys ∨ SqT K H p ys) ∧ ∀ l, H l = none → Q (.ref l) (upd H l (.lst ys))
abbrev rTupleOf (K : PySem.W.Frag) : List V → Hp → VK → Prop := fun xs H Q => ∃ p ys, xs = [.ref p] ∧ ((SqL K H p ys ∧ ∀ l, H l = none → Q (.ref l) (upd H l (.tup ys))) ∨ (SqT K H p ys ∧ Q (.ref p) H))
abbrev iAddI : TIp := ipI fun i j => i + j
abbrev oNone := tNoPart
abbrev oSome := @tPart
/-! ### readings, one step each -/
section
variable {K : PySem.W.Frag} {σ : St} {H : Hp} {Q : VK} {v : V}
theorem rd_if {c A B : Prop} [Decidable c] (h1 : c → A) (h2 : ¬ c → B) : if decide c = true then A else B := by
  by_cases h : c
  · rw [if_pos (decide_eq_true h)]; exact h1 h
  · rw [if_neg (by simp [h])]; exact h2 h
theorem rd_ifB {b : Bool} {A B : Prop} (h1 : b = true → A) (h2 : b = false → B) : if b = true then A else B := by
  cases b with
  | true => rw [if_pos rfl]; exact h1 rfl
  | false => rw [if_neg (by simp)]; exact h2 rfl
end
theorem int_eq_dec {i j : Int} : decide (V.int i = V.int j) = decide (i = j) := by
  by_cases h : i = j
  · subst h; simp
  · have : ¬ V.int i = V.int j := fun q => h (V.int.inj q)
    simp [h, this]
/-- a block cut in two: what stands between is said -/
def tCut (t u : TS) : TS := fun D σ H => ∃ P : St → Hp → Prop, t { D with nx := P } σ H ∧ ∀ σ' H', P σ' H' → u D σ' H'
theorem pss_cut {X : Cx} {st : Stmt} {rest : List Stmt} {t u : TS} (h1 : PS X st t) (h2 : PSs X rest u) : PSs X (st :: rest) (tCut t u) := by
  refine ⟨fun pins s σ H D I h => ?_⟩
  obtain ⟨P, a, b⟩ := h
  refine PySem.wpAny_execs_cons (thn (h1.run pins s σ H { D with nx := P } I a) fun f s1 q => ?_)
  cases f with
  | next =>
    obtain ⟨σ', H', I', q⟩ := q
    exact h2.run pins s1 σ' H' D I' (b σ' H' q)
  | ret v => exact q
  | brk => exact q
  | cont => exact q
theorem le_line {n : Nat} (h : Nat.ble n sizeLine = true) : n ≤ sizeLine := Nat.le_of_ble_eq_true h
theorem get_new {H : Hp} {p a : Addr} {o u : HO} (hp : H p = none) (h : H a = some u) : upd H p o a = some u := by rw [upd_ne (ne_of_none h hp)]; exact h
theorem get_set {H : Hp} {p a : Addr} {o u : HO} (hn : a ≠ p) (h : H a = some u) : upd H p o a = some u := by rw [upd_ne hn]; exact h
/-! ### heaps: G the frozen part, H all of it -/
structure Gr (M : List Addr) (G H G' H' : Hp) : Prop where
  gg : Same G G'
  hh : ∀ b o, b ∉ M → H b = some o → H' b = some o
  dm : ∀ b, H' b = none → H b = none
  fr : ∀ b o, G' b = some o → G b = none → H b = none
  gh : Same G' H'
section
variable {M M' : List Addr} {G H G1 H1 G2 H2 : Hp} {p : Addr} {o : HO}
theorem Gr.refl (h : Same G H) : Gr M G H G H := ⟨Same.refl _, fun _ _ _ e => e, fun _ e => e, fun b o e n => (by rw [e] at n; cases n), h⟩
theorem Gr.trans (a : Gr M G H G1 H1) (b : Gr M' G1 H1 G2 H2) (s : ∀ x ∈ M', x ∈ M) : Gr M G H G2 H2 where
  gg := a.gg.trans b.gg
  hh := fun c o n e => b.hh c o (fun z => n (s c z)) (a.hh c o n e)
  dm := fun c e => a.dm c (b.dm c e)
  fr := fun c o e n => by
    cases q : G1 c with
    | none => exact a.dm c (b.fr c o e q)
    | some u => exact a.fr c u q n
  gh := b.gh
theorem Gr.mono (a : Gr M' G H G1 H1) (s : ∀ x ∈ M', x ∈ M) : Gr M G H G1 H1 := ⟨a.gg, fun c o n e => a.hh c o (fun z => n (s c z)) e, a.dm, a.fr, a.gh⟩
theorem Gr.same (a : Gr [] G H G1 H1) : Same H H1 := fun b o e => a.hh b o (by simp) e
theorem Gr.free (a : Gr M G H G1 H1) (h : H1 p = none) : G1 p = none := by
  cases q : G1 p with
  | none => rfl
  | some u => rw [a.gh p u q] at h; cases h
/-- a new object that stays as it is -/
theorem Gr.newF (a : Gr M G H G1 H1) (hp : H1 p = none) : Gr M G H (upd G1 p o) (upd H1 p o) where
  gg := fun b u e => get_new (a.free hp) (a.gg b u e)
  hh := fun b u n e => get_new hp (a.hh b u n e)
  dm := fun b e => by
    by_cases hb : b = p
    · subst hb; rw [upd_same] at e; cases e
    · rw [upd_ne hb] at e; exact a.dm b e
  fr := fun b u e n => by
    by_cases hb : b = p
    · subst hb; exact a.dm b hp
    · rw [upd_ne hb] at e; exact a.fr b u e n
  gh := fun b u e => by
    by_cases hb : b = p
    · subst hb; rw [upd_same] at e ⊢; exact e
    · rw [upd_ne hb] at e ⊢; exact a.gh b u e
/-- a new object that may change -/
theorem Gr.newM (a : Gr M G H G1 H1) (hp : H1 p = none) : Gr M G H G1 (upd H1 p o) where
  gg := a.gg
  hh := fun b u n e => get_new hp (a.hh b u n e)
  dm := fun b e => by
    by_cases hb : b = p
    · subst hb; rw [upd_same] at e; cases e
    · rw [upd_ne hb] at e; exact a.dm b e
  fr := a.fr
  gh := fun b u e => get_new hp (a.gh b u e)
theorem ne_none {H : Hp} {a b : Addr} {o : HO} (h : H a = some o) (h' : H b = none) : a ≠ b := ne_of_none h h'
/-- an object of one's own, or one that may be changed, is changed -/
theorem Gr.set (a : Gr M G H G1 H1) (g : G1 p = none) (h : H1 p ≠ none) (m : H p = none ∨ p ∈ M) : Gr M G H G1 (upd H1 p o) where
  gg := a.gg
  hh := fun b u n e => by
    have : b ≠ p := fun z => by
      subst z
      rcases m with m | m
      · rw [e] at m; cases m
      · exact n m
    rw [upd_ne this]; exact a.hh b u n e
  dm := fun b e => by
    by_cases hb : b = p
    · subst hb; rw [upd_same] at e; cases e
    · rw [upd_ne hb] at e; exact a.dm b e
  fr := a.fr
  gh := fun b u e => get_set (ne_none e g) (a.gh b u e)
/-- an object of one's own stays as it is from now on -/
theorem Gr.freeze (a : Gr M G H G1 H1) (m : H p = none) (h : H1 p = some o) (g : G1 p = none) : Gr M G H (upd G1 p o) H1 where
  gg := fun b u e => get_new g (a.gg b u e)
  hh := a.hh
  dm := a.dm
  fr := fun b u e n => by
    by_cases hb : b = p
    · subst hb; exact m
    · rw [upd_ne hb] at e; exact a.fr b u e n
  gh := fun b u e => by
    by_cases hb : b = p
    · subst hb; rw [upd_same] at e; rw [h]; exact e
    · rw [upd_ne hb] at e; exact a.gh b u e
/-- what may change and was not frozen is not frozen behind a call -/
theorem Gr.nog (a : Gr M G H G1 H1) (g : G p = none) (h : H p = some o) : G1 p = none := by
  cases q : G1 p with
  | none => rfl
  | some u =>
    have := a.fr p u q g
    rw [h] at this; cases this
end
/-- an object of one's own that may change: new since H0, not frozen -/
structure Mu (H0 G H : Hp) (p : Addr) (o : HO) : Prop where
  n0 : H0 p = none
  g : G p = none
  h : H p = some o
theorem Mu.step {M : List Addr} {H0 G H G1 H1 : Hp} {p : Addr} {o : HO} (m : Mu H0 G H p o) (a : Gr M G H G1 H1) (n : p ∉ M) : Mu H0 G1 H1 p o := ⟨m.n0, a.nog m.g m.h, a.hh p o n m.h⟩
/-! ### data -/
mutual
theorem Dp.mono {K : PySem.W.Frag} {G G' : Hp} (s : Same G G') : ∀ {v : V} {d : PyData}, Dp K G v d → Dp K G' v d
  | _, _, .non => .non
  | _, _, .bl b => .bl b
  | _, _, .int i => .int i
  | _, _, .str x => .str x
  | _, _, .lst h hs => .lst (s.seq h) (DpAll.mono s hs)
  | _, _, .tup h hs => .tup (by
      rcases h with (h | ⟨o, h⟩) | h
      · exact .inl (.inl (s _ _ h))
      · exact .inl (.inr ⟨o, s _ _ h⟩)
      · exact .inr h) (DpAll.mono s hs)
theorem DpAll.mono {K : PySem.W.Frag} {G G' : Hp} (s : Same G G') : ∀ {vs : List V} {ds : List PyData}, DpAll K G vs ds → DpAll K G' vs ds
  | _, _, .nil => .nil
  | _, _, .cons h hs => .cons (Dp.mono s h) (DpAll.mono s hs)
end
theorem Same.tup {K : PySem.W.Frag} {G G' : Hp} {a : Addr} {xs : List V} (s : Same G G') (h : SqT K G a xs) : SqT K G' a xs := by
  rcases h with (h | ⟨o, h⟩) | h
  · exact .inl (.inl (s _ _ h))
  · exact .inl (.inr ⟨o, s _ _ h⟩)
  · exact .inr h
theorem DpAll.get {K : PySem.W.Frag} {G : Hp} : ∀ {vs : List V} {ds : List PyData} {i : Nat} {v : V}, DpAll K G vs ds → vs[i]? = some v → ∃ d, ds[i]? = some d ∧ Dp K G v d
  | _, _, _, _, .nil, e => by simp at e
  | _, _, 0, _, .cons h _, e => by simp at e; subst e; exact ⟨_, rfl, h⟩
  | _, _, i + 1, v, .cons _ t, e => by
    obtain ⟨d, h1, h2⟩ := DpAll.get (i := i) (v := v) t (by simpa using e)
    exact ⟨d, by simpa using h1, h2⟩
theorem DpAll.getD {K : PySem.W.Frag} {G : Hp} : ∀ {vs : List V} {ds : List PyData} {i : Nat} {d : PyData}, DpAll K G vs ds → ds[i]? = some d → ∃ v, vs[i]? = some v ∧ Dp K G v d
  | _, _, _, _, .nil, e => by simp at e
  | _, _, 0, _, .cons h _, e => by simp at e; subst e; exact ⟨_, rfl, h⟩
  | _, _, i + 1, v, .cons _ t, e => by
    obtain ⟨d, h1, h2⟩ := DpAll.getD (i := i) t (by simpa using e)
    exact ⟨d, by simpa using h1, h2⟩
theorem DpAll.length {K : PySem.W.Frag} {G : Hp} : ∀ {vs : List V} {ds : List PyData}, DpAll K G vs ds → vs.length = ds.length
  | _, _, .nil => rfl
  | _, _, .cons _ t => by simp [DpAll.length t]
theorem DpAll.append {K : PySem.W.Frag} {G : Hp} : ∀ {vs ws : List V} {ds es : List PyData}, DpAll K G vs ds → DpAll K G ws es → DpAll K G (vs ++ ws) (ds ++ es)
  | _, _, _, _, .nil, t => t
  | _, _, _, _, .cons h s, t => .cons h (DpAll.append s t)
theorem DpAll.one {K : PySem.W.Frag} {G : Hp} {v : V} {d : PyData} (h : Dp K G v d) : DpAll K G [v] [d] := .cons h .nil
theorem few_put {f : Str} {v : V} {fs : List (Str × V)} {n : Nat} (h : fs.length ≤ n) : (putF f v fs).length ≤ n + 1 := Nat.le_trans (length_putF f v fs) (Nat.succ_le_succ h)
theorem cut_to (xs : List V) (n : Nat) : cutV xs none (some (n : Int)) = xs.take n := by
  unfold cutV
  rw [HT.sIx_none, HT.sIx_nat]
  simp
end Mz
end
section
namespace Mz
open PySem L2
/-- addresses of classes and written things -/
structure Ad where
  (MakerError BadField BadModes BadCall UnknownCall BadPlace BadText BadRow BadWord Refused BadThing BadWish BadRun BadCallers BadKind BadRule : Addr)
  (Kind TextReader Maker Store Run Yard Thing World Search Twins TwinSearch Ways : Addr)
  (HANDS DEEDS DEEDS_one DEEDS_many TAKING WISHES CALLERS : Addr)
  (lawT : Addr)
end Mz
end
section
set_option Elab.async false
set_option linter.all false
set_option maxRecDepth 100000
set_option maxHeartbeats 4000000
namespace Mz
open PySem L2
local macro_rules | `(tactic| row_cond get) => `(tactic| first
  | assumption
  | exact upd_same
  | (refine get_new (by assumption) ?_; row_cond get)
  | (refine get_set (by first | assumption | (apply Ne.symm; assumption)) ?_; row_cond get))
local macro_rules | `(tactic| row_cond side) => `(tactic| first
  | assumption
  | exact Or.inl ⟨by decide, by decide⟩
  | exact Or.inr ⟨by decide, by decide⟩
  | exact ⟨by decide, by decide, by decide⟩
  | exact ⟨by decide, by decide⟩
  | decide
  | exact le_line rfl
  | (show (0 : Int) < _; first | assumption | decide))
local macro_rules | `(tactic| row_cond lk) => `(tactic| (repeat (first | rw [lookup_putF, if_pos rfl] | rw [lookup_putF, if_neg (by decide +kernel)])))
local macro_rules | `(tactic| row_cond few) => `(tactic| first | exact Nat.lt_of_le_of_lt (few_put (Nat.le_refl 0)) (by decide) | exact Nat.lt_of_le_of_lt (few_put (few_put (Nat.le_refl 0))) (by decide) | exact Nat.lt_of_le_of_lt (few_put (few_put (few_put (Nat.le_refl 0)))) (by decide) | exact Nat.lt_of_le_of_lt (few_put (few_put (few_put (few_put (Nat.le_refl 0))))) (by decide) | exact Nat.lt_of_le_of_lt (few_put (few_put (few_put (few_put (few_put (Nat.le_refl 0)))))) (by decide) | exact Nat.lt_of_le_of_lt (few_put (few_put (few_put (few_put (few_put (few_put (Nat.le_refl 0))))))) (by decide) | exact Nat.lt_of_le_of_lt (few_put (few_put (few_put (few_put (few_put (few_put (few_put (Nat.le_refl 0)))))))) (by decide) | exact Nat.lt_of_le_of_lt (few_put (few_put (few_put (few_put (few_put (few_put (few_put (few_put (Nat.le_refl 0))))))))) (by decide))
local macro_rules | `(tactic| row_cond sa) => `(tactic| first
  | rfl
  | exact ⟨_, rfl⟩
  | exact SqL.of (by row_cond get)
  | exact SqT.of (by row_cond get)
  | exact Or.inl (SqL.of (by row_cond get))
  | exact Or.inr (SqT.of (by row_cond get))
  | exact Or.inl ⟨rfl, _, SqL.of (by row_cond get)⟩
  | exact flat_strs _
  | (show List.lookup _ (putF _ _ _) = some _; row_cond lk)
  | (show List.length (putF _ _ _) < 1000; row_cond few)
  | (show List.length [] < 1000; decide)
  | row_cond get
  | row_cond side)
local macro_rules | `(tactic| row_cond rd) => `(tactic| first
  | (apply And.intro; · row_cond sa)
  | apply @Exists.intro V
  | apply @Exists.intro Nat
  | apply @Exists.intro (List V)
  | apply @Exists.intro (List Nat)
  | apply @Exists.intro Int
  | apply @Exists.intro Bool
  | apply @Exists.intro Str
  | apply @Exists.intro HO
  | apply @Exists.intro (List (Str × V))
  | (refine Or.inl ?_; apply @Exists.intro Int; apply And.intro; · rfl)
  | (refine Or.inr ?_; apply @Exists.intro Bool; apply And.intro; · rfl))
local macro_rules | `(tactic| row_cond rds) => `(tactic| repeat (row_cond rd))
/-- the state for draws -/
structure StAt (H : Hp) (st cells : Addr) (ns : List Int) (nth left : Int) (mx : Bool) : Prop where
  s : H st = some (.lst [.ref cells, .int nth, .int left, .bl mx])
  c : H cells = some (.lst (ns.map V.int))
  n : ns.length ≤ 63
  n0 : 0 ≤ nth
  l0 : 0 ≤ left
theorem StAt.ne {H : Hp} {st cells : Addr} {ns : List Int} {nth left : Int} {mx : Bool} (a : StAt H st cells ns nth left mx) : cells ≠ st := by
  refine ne_of a.c a.s ?_
  intro z
  injection z with z
  cases ns with
  | nil => cases z
  | cons x r =>
    have z1 := List.cons.inj z
    cases z1.1
/-- a state for draws that is not frozen, its cells frozen -/
def StOk (G H : Hp) (st : Addr) : Prop := ∃ cells ns nth left mx, StAt H st cells ns nth left mx ∧ G cells = some (.lst (ns.map V.int)) ∧ G st = none
theorem atI_mod {ns : List Int} {x : Int} (h : 0 < ns.length) : ∃ z, atI (ns.map V.int) (x % ((ns.map V.int).length : Nat)) = some (.int z) := by
  have e : (ns.map V.int).length = ns.length := List.length_map ..
  rw [e]
  have h1 : 0 ≤ x % (ns.length : Int) := Int.emod_nonneg _ (by omega)
  have h2 : x % (ns.length : Int) < ns.length := Int.emod_lt_of_pos _ (by omega)
  obtain ⟨j, ej⟩ : ∃ j : Nat, x % (ns.length : Int) = j := ⟨_, (Int.toNat_of_nonneg h1).symm⟩
  rw [ej]
  have hj : j < ns.length := by omega
  exact ⟨ns[j], atI_nat (by simp [hj])⟩
abbrev primes : List V := [.int 2147483647, .int 2147483629, .int 2147483587, .int 2147483579, .int 2147483563]
theorem primes_mem {i : Nat} {y : V} (h : primes[i]? = some y) : ∃ q : Int, y = .int q ∧ 0 < q ∧ q < 4294967296 := by
  have m := List.mem_of_getElem? h
  simp only [primes, List.mem_cons, List.not_mem_nil, or_false] at m
  rcases m with rfl | rfl | rfl | rfl | rfl <;> exact ⟨_, rfl, by decide, by decide⟩
theorem pow_ok {q z : Int} (h0 : 0 < q) (h1 : q < 4294967296) : (z % q).natAbs < 2 ^ 64 := by
  have a := Int.emod_nonneg z (by omega : q ≠ 0)
  have b := Int.emod_lt_of_pos z h0
  omega
def sp_law_fill (A : Ad) (K : PySem.W.Frag) : Sp := fun vs H Q _ => ∃ (G : Hp) (st : Addr), vs = [.ref st] ∧ Same G H ∧ StOk G H st ∧
  ∀ G' H', Gr [st] G H G' H' → StOk G' H' st → Q .non H'
theorem StOk.step {M : List Addr} {G H G' H' : Hp} {st : Addr} (s : StOk G H st) (g : Gr M G H G' H') (n : st ∉ M) : StOk G' H' st := by
  obtain ⟨cells, ns, nth, left, mx, S, gc, gs⟩ := s
  have gc' := g.gg _ _ gc
  exact ⟨cells, ns, nth, left, mx, ⟨g.hh _ _ n S.s, g.gh _ _ gc', S.n, S.n0, S.l0⟩, gc', g.nog gs S.s⟩
theorem StOk.g {G H : Hp} {st : Addr} (s : StOk G H st) : G st = none := by
  obtain ⟨_, _, _, _, _, _, _, gs⟩ := s
  exact gs
theorem StOk.there {G H : Hp} {st : Addr} (s : StOk G H st) : ∃ xs, H st = some (.lst xs) := by
  obtain ⟨_, _, _, _, _, S, _, _⟩ := s
  exact ⟨_, S.s⟩
theorem StOk.ne {G H : Hp} {st a : Addr} {o : HO} (s : StOk G H st) (h : G a = some o) : a ≠ st := ne_none h s.g
theorem StOk.new {G H : Hp} {st a : Addr} (s : StOk G H st) (h : H a = none) : a ≠ st := by
  obtain ⟨xs, e⟩ := s.there
  exact (ne_none e h).symm
theorem StOk.set {G H : Hp} {st p : Addr} {o : HO} (s : StOk G H st) (n : p ≠ st) (g : G p = none) : StOk G (upd H p o) st := by
  obtain ⟨cells, ns, nth, left, mx, SA, gc, gs⟩ := s
  exact ⟨cells, ns, nth, left, mx, ⟨get_set (Ne.symm n) SA.s, get_set (ne_none gc g) SA.c, SA.n, SA.n0, SA.l0⟩, gc, gs⟩
theorem StOk.freeze {G H : Hp} {st p : Addr} {o : HO} (s : StOk G H st) (n : p ≠ st) (g : G p = none) : StOk (upd G p o) H st := by
  obtain ⟨cells, ns, nth, left, mx, SA, gc, gs⟩ := s
  exact ⟨cells, ns, nth, left, mx, SA, get_new g gc, by rw [upd_ne (Ne.symm n)]; exact gs⟩
def sp_law_take (A : Ad) (K : PySem.W.Frag) : Sp := fun vs H Q _ => ∃ (G : Hp) (st : Addr) (m : Int), vs = [.ref st, .int m] ∧ Same G H ∧ StOk G H st ∧ 0 < m ∧ m < 1048576 ∧
  ∀ d G' H', 0 ≤ d → d < m → Gr [st] G H G' H' → StOk G' H' st → Q (.int d) H'
def sp_law_fresh (A : Ad) (K : PySem.W.Frag) : Sp := fun vs H Q _ => ∃ (G : Hp) (a : Addr) (ns : List Int), vs = [.ref a] ∧ Same G H ∧ SqL K H a (ns.map V.int) ∧
  ∀ st G' H', H st = none → Gr [] G H G' H' → StOk G' H' st → Q (.ref st) H'
def b_law_fill_1 (A : Ad) (K : PySem.W.Frag) : TS := (tSeq (tAsg (tOp rModI (tCB rInt1 (tCons (tOp rMulI (tOp rAddI (tOp rAddI (tVar 3) (tOp rMulI (tOp rMulI (tC (.int 10007)) (tVar 4)) (tVar 4))) (tOp rMulI (tC (.int 101)) (tVar 4))) (tOp rAddI (tC (.int 48271)) (tOp rMulI (tC (.int 2)) (tVar 4)))) tNil)) (tVar 5)) (gName 6))
 (tAsg (tOp rAddI (tOp rMulI (tOp (rIxL K) (tVar 0) (tC (.int 2))) (tVar 5)) (tOp rModI (tCB rInt1 (tCons (tOp rPowI (tVar 6) (tC (.int 5))) tNil)) (tVar 5))) (gSub (tVar 0) (tC (.int 2)) rSetL)))
def k_law_fill_1 (A : Ad) (K : PySem.W.Frag) : TS := (tSeq (tAsg (tOp rSubI (tVar 3) (tOp rPowI (tC (.int 10)) (tC (.int 18)))) (gSub (tVar 0) (tC (.int 2)) rSetL))
 (tIfS (tB (tOp (rIxL K) (tVar 0) (tC (.int 3))))
 (tSeq (tAsg (tC (.int 0)) (gSub (tVar 0) (tC (.int 2)) rSetL))
 (tFor (iEnumT K (tCons (tTup (tCons (tC (.int 2147483647)) (tCons (tC (.int 2147483629)) (tCons (tC (.int 2147483587)) (tCons (tC (.int 2147483579)) (tCons (tC (.int 2147483563)) tNil)))))) tNil)) (gTup K 2 (gCons (gName 4) (gCons (gName 5) gNil))) (b_law_fill_1 A K)))
 tNext))
def k_law_fill_2 (A : Ad) (K : PySem.W.Frag) : TS := (tSeq (tAsg (tOp rAddI (tVar 2) (tC (.int 1))) (gSub (tVar 0) (tC (.int 1)) rSetL))
 (tCut (tAsg (tOrV (tOp rGeI (tVar 2) (tCB (rLen K) (tCons (tVar 1) tNil))) (tOp rLtI (tVar 3) (tOp rPowI (tC (.int 10)) (tC (.int 18))))) (gSub (tVar 0) (tC (.int 3)) rSetL))
 (k_law_fill_1 A K)))
def t_law_fill (A : Ad) (K : PySem.W.Frag) : TS :=
 (tSeq (tPar 1 2 (tCons (tOp (rIxL K) (tVar 0) (tC (.int 0))) (tCons (tOp (rIxL K) (tVar 0) (tC (.int 1))) tNil)))
 (tSeq (tAsg (tOp rAddI (tOp rMulI (tC (.int 31)) (tVar 2)) (tC (.int 7))) (gName 3))
 (tCut (tIfS (tTest (tOp rGtI (tCB (rLen K) (tCons (tVar 1) tNil)) (tC (.int 0))))
 (tAsg (tOp rAddI (tOp rMulI (tC (.int 104729)) (tOp rDivI (tVar 2) (tCB (rLen K) (tCons (tVar 1) tNil)))) (tOp (rIxL K) (tVar 1) (tOp rModI (tCB rInt1 (tCons (tVar 2) tNil)) (tCB (rLen K) (tCons (tVar 1) tNil))))) (gName 3))
 tNext)
 (k_law_fill_2 A K))))
def c_law_take_1 (A : Ad) (K : PySem.W.Frag) : TT := (tAnd (tTest (tOp rLtI (tVar 2) (tC (.int 64)))) (tOr (tTest (tOp rEq (tOp (rIxL K) (tVar 0) (tC (.int 2))) (tC (.int 0)))) (tAnd (tB (tOp (rIxL K) (tVar 0) (tC (.int 3)))) (tTest (tOp rLtI (tOp (rIxL K) (tVar 0) (tC (.int 2))) (tOp rMulI (tVar 1) (tC (.int 4096))))))))
def b_law_take_1 (A : Ad) (K : PySem.W.Frag) : TS := (tSeq (tDrop (tCall (sp_law_fill A K) [] E0 (tCons (tVar 0) tNil)))
 (tSeq (tAug 2 (tC (.int 1)) iAddI)
 (tIfS (tAnd (tB (tOp (rIxL K) (tVar 0) (tC (.int 3)))) (tTest (tOp rLtI (tOp (rIxL K) (tVar 0) (tC (.int 2))) (tOp rMulI (tVar 1) (tC (.int 4096))))))
 (tAsg (tOp rAddI (tOp (rIxL K) (tVar 0) (tC (.int 2))) (tOp rMulI (tOp rMulI (tVar 1) (tC (.int 4096))) (tOp rAddI (tC (.int 1)) (tOp rModI (tCB rInt1 (tCons (tOp (rIxL K) (tVar 0) (tC (.int 2))) tNil)) (tC (.int 4093)))))) (gSub (tVar 0) (tC (.int 2)) rSetL))
 tNext)))
def k_law_take_1 (A : Ad) (K : PySem.W.Frag) : TS := (tSeq (tAsg (tOp rModI (tCB rInt1 (tCons (tOp (rIxL K) (tVar 0) (tC (.int 2))) tNil)) (tVar 1)) (gName 3))
 (tSeq (tAsg (tOp rDivI (tOp (rIxL K) (tVar 0) (tC (.int 2))) (tVar 1)) (gSub (tVar 0) (tC (.int 2)) rSetL))
 (tRet (tVar 3))))
def t_law_take (A : Ad) (K : PySem.W.Frag) : TS :=
 (tSeq (tAsg (tC (.int 0)) (gName 2))
 (tSeq (tWhile (c_law_take_1 A K) (b_law_take_1 A K))
 (k_law_take_1 A K)))
def t_law_fresh (A : Ad) (K : PySem.W.Frag) : TS :=
 (tRet (tLst (tCons (tSl (rSlL K) (tVar 0) oNone (oSome (tC (.int 63)))) (tCons (tC (.int 0)) (tCons (tC (.int 0)) (tCons (tC (.bl false)) tNil))))))
theorem r_law_fill {A : Ad} {K : PySem.W.Frag} {vs : List V} {H : Hp} {Q : VK} {E : XK} (h : sp_law_fill A K vs H Q E) :
    t_law_fill A K { nx := fun _ H' => Q .non H', rt := Q } (start ["_law_state", "_law_cells", "_law_nth", "_law_seed", "_law_k", "_law_prime", "_law_far"] vs) H := by
  obtain ⟨G, st, rfl, gh, ⟨cells, ns, nth, left, mx, S, gc, gs⟩, k⟩ := h
  show t_law_fill A K _ [some (.ref st), none, none, none, none, none, none] H
  obtain ⟨hs, hc, hn, hn0, hl0⟩ := id S
  have nec := S.ne
  row_cond rds
  refine ⟨fun σ H' => ∃ seed : Int, σ = [some (.ref st), some (.ref cells), some (.int nth), some (.int seed), none, none, none] ∧ H' = H, ?_, ?_⟩
  · row_cond rds
    refine rd_if (fun c => ?_) (fun c => ?_)
    · have hl : 0 < ns.length := by simpa using c
      obtain ⟨z, hz⟩ := atI_mod (x := nth) hl
      have hd : CDiv nth ((ns.map V.int).length : Nat) := ⟨by simpa using hl, by rw [List.length_map]; omega⟩
      row_cond rds
      rfl
    · row_cond rds
      rfl
  · rintro σ H' ⟨seed, rfl, rfl⟩
    row_cond rds
    refine ⟨fun σ H2 => ∃ b : Bool, σ = [some (.ref st), some (.ref cells), some (.int nth), some (.int seed), none, none, none] ∧ (b = false → 10 ^ 18 ≤ seed) ∧ H2 = upd (upd H' st (.lst [.ref cells, .int (nth + 1), .int left, .bl mx])) st (.lst [.ref cells, .int (nth + 1), .int left, .bl b]), ?_, ?_⟩
    · row_cond rds
      refine rd_if (fun c => ?_) (fun c => ?_)
      · row_cond rds
        exact ⟨fun z => Bool.noConfusion z, rfl⟩
      · row_cond rds
        refine ⟨fun z => ?_, rfl⟩
        have := of_decide_eq_false z
        have e : (10 : Int) ^ Int.toNat 18 = 10 ^ 18 := rfl
        omega
    · rintro σ H2 ⟨b, rfl, hb, rfl⟩
      have g0 : Gr [st] G H' G (upd (upd H' st (.lst [.ref cells, .int (nth + 1), .int left, .bl mx])) st (.lst [.ref cells, .int (nth + 1), .int left, .bl b])) := by
        refine Gr.set (Gr.set (Gr.refl gh) gs (by rw [hs]; simp) (.inr (by simp))) gs (by rw [upd_same]; simp) (.inr (by simp))
      row_cond rds
      refine rd_ifB (fun c => ?_) (fun c => ?_)
      · row_cond rds
        intro p hp
        row_cond rds
        refine for_it (walk_enumT (xs := primes)) (fun i σ H3 => ∃ (v4 v5 v6 : Option V) (z : Int), σ = [some (.ref st), some (.ref cells), some (.int nth), some (.int seed), v4, v5, v6] ∧ 0 ≤ z ∧ Gr [st] G H' G H3 ∧
            H3 st = some (.lst [.ref cells, .int (nth + 1), .int z, .bl b]) ∧ H3 p = some (.tup primes)) ?_ ?_ ?_ ?_
        · refine ⟨none, none, none, 0, rfl, Int.le_refl _, ?_, ?_, upd_same⟩
          · exact ((g0.set gs (by rw [upd_same]; simp) (.inr (by simp))).set gs (by rw [upd_same]; simp) (.inr (by simp))).newM hp
          · row_cond get
        · rintro i σ H3 hi ⟨v4, v5, v6, z, rfl, hz, g3, h3, h4⟩
          exact SqT.of h4
        · rintro i x σ H3 H4 hi ⟨v4, v5, v6, z, rfl, hz, g3, h3, h4⟩ ⟨T, x1, y1, rfl, hT, rfl, e1, e2⟩
          cases e1
          obtain ⟨q, rfl, q0, q1⟩ := primes_mem e2
          have hi5 : i < 5 := hi
          have hk : CMul (10007 * (i : Int)) i := .inr ⟨by omega, by omega⟩
          have hk2 : CMul (seed + 10007 * (i : Int) * i + 101 * i) (48271 + 2 * i) := .inr ⟨by omega, by omega⟩
          have hk3 : CMul z q := .inr ⟨by omega, by omega⟩
          have hst : H3 st ≠ none := by rw [h3]; simp
          have nT : st ≠ T := ne_none h3 hT
          have npT : p ≠ T := ne_none h4 hT
          have nps : p ≠ st := ne_of h4 h3 (by intro z; cases z)
          row_cond rds
          refine ⟨⟨by decide, by decide, pow_ok q0 q1⟩, ?_⟩
          row_cond rds
          refine ⟨_, _, _, _, rfl, ?_, (g3.newM hT).set gs (by rw [upd_ne nT]; exact hst) (.inr (by simp)), upd_same, ?_⟩
          · have a1 : 0 ≤ z * q := Int.mul_nonneg hz (by omega)
            exact Int.add_nonneg a1 (Int.emod_nonneg _ (by omega))
          · row_cond get
        · rintro σ H3 ⟨v4, v5, v6, z, rfl, hz, g3, h3, h4⟩
          exact k G H3 g3 ⟨cells, ns, nth + 1, z, b, ⟨h3, g3.gh _ _ gc, hn, by omega, hz⟩, gc, gs⟩
      · have hb := hb c
        refine k G _ (g0.set gs (by rw [upd_same]; simp) (.inr (by simp))) ⟨cells, ns, nth + 1, _, b, ⟨upd_same, ?_, hn, by omega, ?_⟩, gc, gs⟩
        · row_cond get
        · have e : (10 : Int) ^ Int.toNat 18 = 10 ^ 18 := rfl
          omega
theorem r_law_take {A : Ad} {K : PySem.W.Frag} {vs : List V} {H : Hp} {Q : VK} {E : XK} (h : sp_law_take A K vs H Q E) :
    t_law_take A K { nx := fun _ H' => Q .non H', rt := Q } (start ["_law_state", "_law_many", "_law_laps", "_law_digit"] vs) H := by
  obtain ⟨G, st, m, rfl, gh, S, m0, m1, k⟩ := h
  show t_law_take A K _ [some (.ref st), some (.int m), none, none] H
  have cm : CMul m 4096 := .inl ⟨by omega, by omega⟩
  refine ⟨fun n σ H1 => ∃ (G1 : Hp) (laps : Int), n = (64 - laps).toNat ∧ laps ≤ 64 ∧ σ = [some (.ref st), some (.int m), some (.int laps), none] ∧ Gr [st] G H G1 H1 ∧ StOk G1 H1 st, ⟨64, G, 0, rfl, by decide, rfl, Gr.refl gh, S⟩, ?_⟩
  rintro n σ H1 ⟨G1, laps, rfl, hl, rfl, g1, S1⟩
  obtain ⟨cells, ns, nth, left, mx, SA, gc, gs⟩ := id S1
  obtain ⟨hs, hc, hn, hn0, hl0⟩ := id SA
  have ev : ∃ b : Bool, (b = true → laps < 64) ∧ ∀ R : Bool → Hp → Prop, R b H1 → c_law_take_1 A K [some (.ref st), some (.int m), some (.int laps), none] H1 R := by
    by_cases c : laps < 64
    · by_cases c2 : left = 0
      · refine ⟨true, fun _ => c, fun R hR => ?_⟩
        row_cond rds
        rw [decide_eq_true c]
        row_cond rds
        rw [int_eq_dec, decide_eq_true c2]
        exact hR
      · cases mx with
        | true =>
          refine ⟨decide (left < m * 4096), fun _ => c, fun R hR => ?_⟩
          row_cond rds
          rw [decide_eq_true c]
          row_cond rds
          rw [int_eq_dec, decide_eq_false c2]
          row_cond rds
          exact hR
        | false =>
          refine ⟨false, fun z => Bool.noConfusion z, fun R hR => ?_⟩
          row_cond rds
          rw [decide_eq_true c]
          row_cond rds
          rw [int_eq_dec, decide_eq_false c2]
          row_cond rds
          exact hR
    · refine ⟨false, fun z => Bool.noConfusion z, fun R hR => ?_⟩
      row_cond rds
      rw [decide_eq_false c]
      exact hR
  obtain ⟨b, hb, ev⟩ := ev
  refine ev _ ?_
  refine rd_ifB (fun c => ?_) (fun c => ?_)
  · have hlt := hb c
    refine ⟨fun σ' H' => ∃ (G2 : Hp), σ' = [some (.ref st), some (.int m), some (.int (laps + 1)), none] ∧ Gr [st] G H G2 H' ∧ StOk G2 H' st, fun σ' H' ⟨G2, e, g2, S2⟩ => ⟨(64 - (laps + 1)).toNat, by omega, G2, laps + 1, rfl, by omega, e, g2, S2⟩, ?_⟩
    row_cond rds
    refine ⟨G1, st, rfl, g1.gh, S1, fun G2 H2 g2 S2 => ?_⟩
    have g12 := g1.trans g2 (fun _ h => h)
    obtain ⟨cells2, ns2, nth2, left2, mx2, SA2, gc2, gs2⟩ := id S2
    obtain ⟨hs2, hc2, hn2, hn02, hl02⟩ := id SA2
    row_cond rds
    refine rd_ifB (fun c => ?_) (fun c => ?_)
    · row_cond rds
      refine rd_if (fun c2 => ?_) (fun c2 => ?_)
      · have c3 : CMul (m * 4096) (1 + left2 % 4093) := .inl ⟨by omega, by omega⟩
        row_cond rds
        refine ⟨G2, rfl, g12.set gs2 (by rw [hs2]; simp) (.inr (by simp)), cells2, ns2, nth2, _, mx2, ⟨upd_same, get_set SA2.ne hc2, hn2, hn02, ?_⟩, gc2, gs2⟩
        have a1 := Int.emod_nonneg left2 (by decide : (4093 : Int) ≠ 0)
        exact Int.add_nonneg hl02 (Int.mul_nonneg (by omega) (by omega))
      · exact ⟨G2, rfl, g12, S2⟩
    · exact ⟨G2, rfl, g12, S2⟩
  · have cd : CDiv left m := ⟨by omega, by omega⟩
    row_cond rds
    exact k _ G1 _ (Int.emod_nonneg _ (by omega)) (Int.emod_lt_of_pos _ m0) (g1.set gs (by rw [hs]; simp) (.inr (by simp)))
      ⟨cells, ns, nth, _, mx, ⟨upd_same, get_set SA.ne hc, hn, hn0, Int.ediv_nonneg hl0 (by omega)⟩, gc, gs⟩
theorem r_law_fresh {A : Ad} {K : PySem.W.Frag} {vs : List V} {H : Hp} {Q : VK} {E : XK} (h : sp_law_fresh A K vs H Q E) :
    t_law_fresh A K { nx := fun _ H' => Q .non H', rt := Q } (start ["_law_script"] vs) H := by
  obtain ⟨G, a, ns, rfl, gh, ha, k⟩ := h
  show t_law_fresh A K _ [some (.ref a)] H
  row_cond rds
  intro p hp
  row_cond rds
  intro st hst
  obtain ⟨ms, e1, e2⟩ : ∃ ms : List Int, cutV (ns.map V.int) none (some 63) = ms.map V.int ∧ ms.length ≤ 63 := by
    refine ⟨ns.take 63, ?_, by simp; omega⟩
    rw [show (63 : Int) = ((63 : Nat) : Int) from rfl, cut_to, List.map_take]
  have gp : Gr [] G H (upd G p (.lst (ms.map V.int))) (upd H p (.lst (cutV (ns.map V.int) none (some 63)))) := by
    rw [e1]
    exact (Gr.refl gh).newF hp
  have nsp : p ≠ st := by
    rintro rfl
    rw [upd_same] at hst; cases hst
  refine k st _ _ ?_ (gp.newM hst) ⟨p, ms, 0, 0, false, ⟨upd_same, ?_, e2, by decide, by decide⟩, upd_same, gp.free hst⟩
  · rw [upd_ne (Ne.symm nsp)] at hst; exact hst
  · rw [upd_ne nsp, upd_same, e1]
end Mz
end
section
set_option Elab.async false
set_option linter.all false
set_option maxRecDepth 100000
set_option maxHeartbeats 2000000
/-! ### an own error whose __init__ says super().__init__(..) over ValueError's -/
namespace L2
open PySem PySem.Spec PySem.Calls PyProof.Rows LamX NdefX
section
variable {h : Heap} {g : Array GenState} {d : Drawn} {t : Nat} {os : OsState} {prog : Program} {w : World} {A : Around} {E : Value → Shared → Prop}
theorem call_mwVE {nm q : Str} {C N : Addr} {bs bm : List Value} {hdct : Bool} {sn : List Str} {sub : List Value} {ab : Bool} {col : Option Bool} {dd : Option Addr} {k0 k1 k2 k3 k5 : Option Value} {u e t0 : Addr} {rest : List Value} {Q : Value → Shared → Prop}
    (hC : h.get? C = some (excClassObj nm q C N bs bm hdct sn sub ab col dd k0 k1 k2 k3 k5 "ValueError.__new__")) (he : h.get? e = some (HandSPX.excO C t0)) (hu : h.get? u = some (PySem.W.kxs_mw "ValueError.__init__" e)) (hrest : rest.length ≤ sizeLine)
    (hq : ∀ h' t1, (∀ b o, b ≠ e → h.get? b = some o → h'.get? b = some o) → h'.get? e = some (HandSPX.excO C t1) → Q .none ⟨h', g, d, t, os⟩) :
    wpAny (model prog w) A (call (.ref u) rest) Q E ⟨h, g, d, t, os⟩ := by
  refine wpAny_call (codeAny_of_tree ?_)
  show wpAny _ A.in1 (callAny (.ref u) ⟨rest, []⟩) _ _ _
  simp only [callAny]
  refine wpAny_bind (wpAny_load hu ?_)
  simp only [PySem.W.kxs_mw, show (Value.type "method-wrapper" == Value.type "method" || Value.type "method-wrapper" == Value.type "builtin_function_or_method" || Value.type "method-wrapper" == Value.type "method-wrapper") = true by decide, if_true]
  refine W.KFB.if_so (by decide) ?_
  refine wpAny_bind (PySem.ESX.check_bound F.excBase_ValueError hC he rfl ?_)
  refine wpAny_bind (wpAny_pure (wpAny_pure ?_))
  refine ⟨Code.quiet_builtin _ (by decide +kernel), codeAny_builtin F.excBase_ValueError.initEntry ?_⟩
  rw [Around.under_plainId F.excBase_ValueError.init.plain _]
  wp_walk
  refine hq _ h.objs.size (fun b o hb ho => ?_) ?_
  · rw [Heap.get?_update_other _ _ (Ne.symm hb)]
    exact Heap.get?_push_of_some _ ho
  · rw [Heap.get?_update_self _ (Heap.get?_push_of_some _ he) rfl]
    rfl
end
/-- what is asked of the text and of the written part -/
structure SupP (P : Program) (file : Str) : Prop where
  file : ((P.main.file : Str) == file) = true
  top : (P.main.scope.names.lookup ("super" : Str)).isSome = false
structure SupK (K : PySem.W.Frag) (mg : Str → Option Value) (C cc cda : Addr) (file : Str) : Prop where
  code : ∃ ccl cdd vs ccs tf, K.lookup cda = some ⟨ccl, cdd, .fields vs, ccs⟩ ∧ vs[2]? = some (.str file tf)
  cell : ∃ cl cld csl, K.lookup cc = some ⟨cl, cld, .cell (some (.ref C)), csl⟩
  sup : mg "super" = none
  stat : PySem.W.nsIn K cStatics "thirdparty.any" = some none
  ini : PySem.W.ks_superIn K C C "__init__" = some (some (.builtin "ValueError.__init__"))
  mro : PySem.W.mroIn K C (.ref C) = some true
  sub : PySem.W.subIn K (.ref C) (.type "ValueError") = some true
section
variable {X : Cx} {pins : List (Addr × Obj)} {σ : St} {H : Hp} {s : Shared} {a C cc : Addr} {file : Str}
theorem Inv.pin1 (I : Inv X pins σ H s) {u : Addr} {o : Obj} (h1 : s.heap.get? u = some o) (h2 : H u = none) (h3 : u ≠ X.env.locals) (h4 : u ∉ X.fs) (h5 : ∀ v, o.data ≠ .cell v) : Inv X (pins ++ [(u, o)]) σ H s := by
  refine { I with pin := fun p hp => ?_ }
  rcases List.mem_append.mp hp with hp | hp
  · exact I.pin p (List.mem_append_left _ hp)
  rcases List.mem_append.mp hp with hp | hp
  · exact I.pin p (List.mem_append_right _ hp)
  · simp only [List.mem_cons, List.not_mem_nil, or_false] at hp
    subst hp
    exact ⟨h1, h2, h3, h4, h5⟩
theorem Inv.unpin {pn : List (Addr × Obj)} (I : Inv X (pins ++ pn) σ H s) : Inv X pins σ H s := by
  refine { I with pin := fun p hp => I.pin p ?_ }
  rcases List.mem_append.mp hp with hp | hp
  · exact List.mem_append_left _ hp
  · exact List.mem_append_right _ (List.mem_append_left _ hp)
/-- super().__init__(e, ..), self being the exception at a -/
theorem super_init {F : NF} {f : Addr} {doc pm ctv oc : Value} {od : Option Addr} {osl : Array (Option Value)} {ar : Arg} {e1 : Expr} {es : List Expr} {ta : TA} {Q : Hp → Prop} {p0 p1 p2 pos pos' : Pos} {pl : Sem Bool}
    (hE : X.env = envF F f X.env.locals) (hcl : F.cl.lookup ("__class__" : Str) = some cc) (hks : F.scope.names.lookup ("super" : Str) = some .globalImplicit) (hkc : F.scope.names.lookup ("__class__" : Str) = some .free) (hkind : F.scope.kind = .function)
    (hpar : (F.params.posonlyargs ++ F.params.args).head? = some ar) (har : F.scope.names.lookup ar.arg = some .local) (hN : X.N[0]? = some ar.arg)
    (T : OexC X.K C) (SP : SupP X.prog file) (SK : SupK X.K X.mg C cc F.c file) (lk : X.K.lookup f = some ⟨oc, od, .func (F.fd doc pm ctv), osl⟩)
    (I : Inv X pins σ H s) (hσ : σ[0]? = some (some (.ref a))) (e : H a = some (exo a C none)) (ha : PA X (e1 :: es) ta) (hq : ta σ H fun vs H' => vs.length ≤ 1000 ∧ H' a = some (exo a C none) ∧ Q H')
    (hcall : eval (.Call (.Attribute (.Call (.Name "super" p0) [] [] p1) "__init__" p2) (e1 :: es) [] pos) X.env = (do
      let ov ← attributeBase (.Call (.Name "super" p0) [] [] p1) "__init__" X.env (eval (.Call (.Name "super" p0) [] [] p1) X.env)
      standAt p2.atName
      let (f, first) ← holding [ov] (getMethod ov "__init__" pl)
      callWith pos f first (backTo pos (starEach (e1 :: es) X.env)) []) := by rfl)
    (hi : interactive X.env = false := by rfl) (he : starEach (e1 :: es) X.env = (false, eval e1 X.env) :: starEach es X.env := by rfl) (hpl : (backTo pos (starEach es X.env)).any (·.1) = false := by rfl) :
    _root_.PySem.wpAt (model X.prog X.w) X.A (.func F.body X.env) (exec (.Expr (.Call (.Attribute (.Call (.Name "super" p0) [] [] p1) "__init__" p2) (e1 :: es) [] pos) pos') X.env) (fun fl s' => fl = .next ∧ ∃ H', Inv X pins σ H' s' ∧ Q H') X.xe s := by
  obtain ⟨nm, q, N, bs, bm, sn, sub, ab, col, dd, k0, k1, k2, k3, k5, hC, hbm⟩ := T.cls
  have hcd : PySem.W.clsIn X.K C = some { name := nm, bases := bs, mro := .ref C :: bm, ns := N, qualname := q, hasDict := true, slotNames := sn, subclasses := sub, abstract := ab, collection := col, hasDel := false } := by unfold PySem.W.clsIn; rw [hC] <;> rfl
  obtain ⟨ccl, cdd, vs, ccs, tf, hcode, hvs⟩ := SK.code
  obtain ⟨cl, cld, csl, hcell⟩ := SK.cell
  have KX := I.kIn
  obtain ⟨t1, ho⟩ := exo_at I.hok e
  have hIx : PySem.W.InstAt s.heap a ({ cls := .ref C, dict := none, data := .fields #[.ref t1, .none, .none, .none, .bool false, .none] } : Obj) C none := ⟨ho, rfl, rfl, trivial⟩
  have haC : a ≠ C := PySem.W.ks_ne KX hIx hcd
  refine ks_wpAt_Expr_any (ks_wpAt_MethodCall ?_ hcall) hi (by rfl)
  have hkX : ∀ x, X.env.kindOf x = F.scope.names.lookup x := fun x => by rw [hE]; rfl
  refine ks_wpAt_super_base (f := f) (cc := F.c) (ar := ar) (by rw [hkX]; exact hks) (by rw [hkX]; exact hkc) (by decide) (by rw [hE]) (KX _ _ lk) rfl hpar (by rw [hE]) (KX _ _ hcode) rfl hvs SP.file SP.top ?_
  have hkk := I.ok.kind
  obtain ⟨mb, hb1, hb2⟩ := I.mod.blt
  refine PySem.W.ks_loadName_global hkk (by rw [hkX]; exact hks) (Calls.loadGlobal_builtin (by rw [I.ok.glob]; exact I.mod.glob.keeps I.bk) SK.sup (by rw [I.ok.blt]; exact hb1.keeps I.bk) ((hb2 _ (by decide)).trans PyProof.Rows.Boot.«super») ⟨rfl, ?_⟩)
  refine wpAny_loadName_free hkk (by rw [hkX]; exact hkc) (by rw [hE]; exact hcl) ⟨_, KX _ _ hcell, rfl⟩ ?_
  obtain ⟨m, hns, hl⟩ := I.loc
  obtain ⟨u, ru, hlk⟩ := hl 0 ar.arg (.ref a) hN hσ (.inl (by rw [← hkX] at har; exact har))
  obtain rfl : u = Value.ref a := ru
  have hm : m ar.arg = some (.ref a) := by
    rcases hlk with ⟨_, z⟩ | ⟨z, _⟩
    · exact z
    · rw [hkX, har] at z
      rcases z with z | z <;> cases z
  refine wpAny_loadName_local hkk (by rw [hkX]; exact har) hns hm ?_
  obtain ⟨hp, g, dr, tk, os⟩ := s
  refine ks_wpAny_isType_cls (KX _ _ hC) rfl ⟨rfl, ?_⟩
  refine ks_wpAny_call_super (cdD := _) (KX _ _ hC) rfl ho rfl (fun c z => by cases z) (PySem.W.looks_mroIn KX SK.mro) (fun h' e' k => ?_)
  have I1 : Inv X pins σ H ⟨h', g, dr, tk, os⟩ := I.kept (t' := tk) k
  have KX1 := I1.kIn
  have hI1 : PySem.W.Looks (model X.prog X.w) h' (isInstance (.ref a) (.type "ValueError")) true := (show PySem.W.InstAt h' a _ C none from ⟨k _ _ ho, rfl, rfl, trivial⟩).type.andThen (PySem.W.looks_subIn KX1 SK.sub)
  have hini : PySem.W.alongIn X.K "__init__" (((Value.ref C :: bm).dropWhile (· != .ref C)).drop 1) = some (some (.builtin "ValueError.__init__")) := by
    have := SK.ini
    unfold PySem.W.ks_superIn at this
    rw [hcd] at this
    exact this
  refine PySem.W.kxs_getMethod PySem.W.kxs_ValueError e' (PySem.W.looks_opaque KX1 SK.stat) (l₀ := .ref C :: bm) (fun A Q E s k q => wpAny_bind ((PySem.W.looks_clsIn KX1 hcd) A _ E s k (wpAny_pure q))) rfl KX1 hini hI1 haC (by decide) ?_
  have I2 : Inv X pins σ H ⟨h'.push (PySem.W.kxs_mw "ValueError.__init__" a), g, dr, tk + 1, os⟩ := I1.kept (t' := tk + 1) fun b o q => Heap.get?_push_of_some _ q
  have hmw : (h'.push (PySem.W.kxs_mw "ValueError.__init__" a)).get? h'.objs.size = some (PySem.W.kxs_mw "ValueError.__init__" a) := Heap.get?_push_at rfl rfl
  have hnu : H h'.objs.size = none := I1.hok.fresh (Nat.le_refl _)
  have I3 := I2.pin1 hmw hnu (Nat.ne_of_gt I1.lt) (I1.nofs (Nat.le_refl _)) (fun v z => by cases z)
  show wpAny _ _ (callWith pos (.ref h'.objs.size) [] (backTo pos (starEach (e1 :: es) X.env)) []) _ _ _
  have hr := ha.run pos _ _ σ H _ I3 hq
  rw [he] at hr ⊢
  refine PySem.W.kxs_callWith (i := "ValueError.__init__") (x := a) (by show (false || (backTo pos (starEach es X.env)).any (·.1)) = false; rw [hpl]; rfl) (evalArgs_plain (thn hr fun us s1 hz => ?_))
  obtain ⟨vs1, H1, I4, r1, hl1, e1', q1⟩ := hz
  have hu4 := (I4.pin (h'.objs.size, PySem.W.kxs_mw "ValueError.__init__" a) (by simp)).1
  refine ⟨hu4, ?_⟩
  have I5 := I4.unpin
  obtain ⟨t4, ho4⟩ := exo_at I5.hok e1'
  have hC4 := I5.kIn _ _ hC
  obtain ⟨hp4, g4, dr4, tk4, os4⟩ := s1
  show wpAny _ _ (call (.ref h'.objs.size) us) _ _ _
  refine call_mwVE hC4 ho4 hu4 (by rw [← r1.length, sizeLine_eq]; omega) fun h6 t6 k6 hx6 => ?_
  have J := I5.write (t' := tk4) (x := a) (e := a) (o := exo a C none) (by rw [e1']; exact True.intro) (.inl rfl) k6 ⟨_, hx6⟩ (exo_ok hx6)
  have eu : upd H1 a (exo a C none) = H1 := by
    funext b
    by_cases hb : b = a
    · rw [hb, upd_same, e1']
    · rw [upd_ne hb]
  rw [eu] at J
  exact ⟨rfl, H1, J, q1⟩
end
end L2
end
section
set_option Elab.async false
set_option linter.all false
set_option maxRecDepth 100000
set_option maxHeartbeats 2000000
namespace L2
open PySem PySem.Spec PySem.Calls PyProof.Rows LamX NdefX
section
variable {P : Program} {w : World} {K : PySem.W.Frag} {mg : Str → Option Value} {base : Heap}
/-- the promise of such an __init__: ta its arguments to super().__init__, t what follows -/
def spI (C : Addr) (N : List Str) (k : Nat) (ta : TA) (t : TS) : Sp := fun vs H Q _ => vs.length = k ∧ ∃ a, vs[0]? = some (.ref a) ∧ H a = some (exo a C none) ∧
  ta (startF N vs [none]) H fun ws H' => ws.length ≤ 1000 ∧ H' a = some (exo a C none) ∧ t { nx := fun _ H' => Q .non H', rt := Q } (startF N vs [none]) H'
theorem startF0 {N : List Str} {v : V} {vs : List V} {ws : List (Option V)} : (startF N (v :: vs) ws)[0]? = some (some v) := by
  unfold startF; simp
theorem init_fn {F : NF} {f C cc : Addr} {file : Str} {N ps : List Str} {doc pm ctv oc : Value} {od : Option Addr} {osl : Array (Option Value)} {ar : Arg} {e1 : Expr} {es : List Expr} {rest : List Stmt} {ta : TA} {t : TS} {p0 p1 p2 pos pos' : Pos} {pl : Addr → Sem Bool}
    (S : NScope N ps ["__class__"] F.scope) (hcl : F.cl = [(("__class__" : Str), cc)]) (hks : F.scope.names.lookup ("super" : Str) = some .globalImplicit)
    (hpar : (F.params.posonlyargs ++ F.params.args).head? = some ar) (har : F.scope.names.lookup ar.arg = some .local) (hN : N[0]? = some ar.arg)
    (T : OexC K C) (SP : SupP P file) (SK : SupK K mg C cc F.c file) (lk : K.lookup f = some ⟨oc, od, .func (F.fd doc pm ctv), osl⟩) (hcd : PySem.W.codeIn K (.ref F.c) F.qual = true)
    (hbody : F.body = .Expr (.Call (.Attribute (.Call (.Name "super" p0) [] [] p1) "__init__" p2) (e1 :: es) [] pos) pos' :: rest)
    (ha : ∀ (A : Around) (outer : List Env) (s : Shared) (H : Hp) (E : XK), PA (ncx CX0 P w K mg base N F f A outer s H E) (e1 :: es) ta)
    (hrest : ∀ (A : Around) (outer : List Env) (s : Shared) (H : Hp) (E : XK), PSs (ncx CX0 P w K mg base N F f A outer s H E) rest t)
    (hcall : ∀ L, eval (.Call (.Attribute (.Call (.Name "super" p0) [] [] p1) "__init__" p2) (e1 :: es) [] pos) (envF F f L) = (do
      let ov ← attributeBase (.Call (.Name "super" p0) [] [] p1) "__init__" (envF F f L) (eval (.Call (.Name "super" p0) [] [] p1) (envF F f L))
      standAt p2.atName
      let (z, first) ← holding [ov] (getMethod ov "__init__" (pl L))
      callWith pos z first (backTo pos (starEach (e1 :: es) (envF F f L))) []) := by intro; rfl)
    (he : ∀ L, starEach (e1 :: es) (envF F f L) = (false, eval e1 (envF F f L)) :: starEach es (envF F f L) := by intro; rfl) (hpl : ∀ L, (backTo pos (starEach es (envF F f L))).any (·.1) = false := by intro; rfl) :
    FnOk P w K mg base CX0 1 f (F.fd doc pm ctv) ps (spI C N ps.length ta t) := by
  refine ⟨fun vs H Q E h => h.1, fun A outer s H args us vs Q E hr e0 hb r hsp => ?_⟩
  obtain ⟨hl, a, hv0, ea, hta⟩ := hsp
  have KX : K.In s.heap := e0.mod.kin.keeps fun b o e => (e0.bs b o e).1
  have lim : s.heap.NoLimit := e0.mod.nolimit.keeps fun b o e => (e0.bs b o e).1
  obtain ⟨cl, cld, csl, hcell⟩ := SK.cell
  have hcb := e0.bs _ _ (e0.mod.kin _ _ hcell)
  have CA : CellsAt F.cl ["__class__"] [none] s.heap H := by
    rw [hcl]
    have hlk : ∀ {y c}, ([(("__class__" : Str), cc)] : List (Str × Addr)).lookup y = some c → y = "__class__" ∧ c = cc := fun {y c} e => by
      by_cases h : y = "__class__"
      · subst h
        rw [List.lookup_cons_self] at e
        exact ⟨rfl, (Option.some.inj e).symm⟩
      · have h' : (y == ("__class__" : Str)) = false := by simpa using h
        simp [List.lookup, h'] at e
    refine ⟨rfl, fun y c e => ?_, fun x y c e1 e2 => (hlk e1).1.trans (hlk e2).1.symm, fun i y hi => ?_⟩
    · obtain ⟨_, rfl⟩ := hlk e
      exact ⟨hcb.2, _, _, hcb.1, rfl⟩
    · match i, hi with
      | 0, hi =>
        cases hi
        exact ⟨cc, List.lookup_cons_self, fun v hv => by cases hv⟩
      | i + 1, hi => cases hi
  refine codeAny_call_function hr.depth (KX _ _ lk) rfl S.co S.gen rfl (PySem.W.codeRec_of KX hcd) (hb _ _ _ _ ?_)
  refine wpAny_newFunctionEnv S.nocell (fun ⟨n, _⟩ hy => S.par n (List.of_mem_zip hy).1) (fun h₁ hns hsb => ⟨lim.fresh _ hsb, ?_⟩) S.kind
  show codeAny _ _ (.func F.body (envF F f s.heap.objs.size)) _ _
  have kp : ∀ b o, s.heap.get? b = some o → h₁.get? b = some o := fun b o e => hsb.extBut b o (Nat.ne_of_lt (Heap.lt_size e)) (Heap.get?_push_of_some _ e)
  have I : Inv (ncx CX0 P w K mg base N F f A outer s H E) [] (startF N vs [none]) H { s with heap := h₁, toks := s.toks + (ps.zip us).length } := inv_startN S hr.hd e0 hl r CA hns kp
  have h0 : (startF N vs [none])[0]? = some (some (.ref a)) := by
    cases vs with
    | nil => cases hv0
    | cons v vs => cases hv0; exact startF0
  have fin : ∀ {s' : Shared} {σ' : St} {H' : Hp} {v : V} {u : Value}, Inv (ncx CX0 P w K mg base N F f A outer s H E) [] σ' H' s' → RelV v u → Q v H' → CE outer P w H s Q u s' :=
    fun {s' σ' H' v u} J rv q => ⟨v, H', J.os, J.bare, J.base, J.hok, rv, q⟩
  refine ks_codeAny_funcAt ?_
  rw [show execs F.body (envF F f s.heap.objs.size) = execs (.Expr (.Call (.Attribute (.Call (.Name "super" p0) [] [] p1) "__init__" p2) (e1 :: es) [] pos) pos' :: rest) (envF F f s.heap.objs.size) by rw [hbody]]
  refine ks_wpAt_execs_cons (ks_wpAt_mono (super_init (X := ncx CX0 P w K mg base N F f A outer s H E) (pl := pl s.heap.objs.size) rfl (by rw [hcl]; exact List.lookup_cons_self) hks (S.frk _ (by simp)) S.kind hpar har hN T SP SK lk I h0 ea (ha A outer s H E) hta (hcall _) (by
    have := S.kind
    show interactive (envF F f s.heap.objs.size) = false
    unfold interactive
    rw [show (envF F f s.heap.objs.size).scope.kind = .function from this] <;> rfl) (he _) (hpl _)) (fun fl s' hs => ?_) fun e s' hs => hs)
  obtain ⟨rfl, H', J, q⟩ := hs
  refine wpAt_of_wpAny (wpAny_mono ((hrest A outer s H E).run [] s' _ H' _ J q) (fun fl s2 hs => ?_) fun e s2 hs => hs)
  cases fl with
  | ret u =>
    obtain ⟨v, σ', H2, J2, rv, q2⟩ := hs
    exact fin J2 rv q2
  | next =>
    obtain ⟨σ', H2, J2, q2⟩ := hs
    exact fin (v := V.non) (u := Value.none) J2 rfl q2
  | brk =>
    obtain ⟨_, _, _, q2⟩ := hs
    exact False.elim q2
  | cont =>
    obtain ⟨_, _, _, q2⟩ := hs
    exact False.elim q2
end
end L2
end
section
set_option Elab.async false
set_option linter.all false
set_option maxRecDepth 100000
set_option maxHeartbeats 2000000
namespace L2
open PySem PySem.Spec PySem.Calls PyProof.Rows LamX NdefX
theorem PMk.imp {X : Cx} {e : Expr} {t t' : St → Hp → XK → Prop} (h : PMk X e t) (hi : ∀ σ H Q, t' σ H Q → t σ H Q) : PMk X e t' := fun pins s σ H Q I hq => h pins s σ H Q I (hi σ H Q hq)
theorem err_heap {H : Hp} {a dx C : Addr} {fs : List (Str × V)} (ha : H a = none) (hd : dx ≠ a) : upd (del (upd (upd (upd H a (exo a C none)) dx (exd dx fs)) a (exo a C (some dx))) a) dx (.xd fs) = upd H dx (.xd fs) := by
  funext b
  by_cases h1 : b = dx
  · subst h1; rw [upd_same, upd_same]
  · rw [upd_ne h1, upd_ne h1]
    by_cases h2 : b = a
    · subst h2; rw [del_same, ha]
    · rw [del_ne h2, upd_ne h2, upd_ne h1, upd_ne h2]
/-- what is known of an own error class: flds its parameters and fields -/
structure ErrC (P : Program) (w : World) (K : PySem.W.Frag) (mg : Str → Option Value) (base : Heap) (C : Addr) (ps : List Str) (sp : Sp) : Prop where
  T : OexC K C
  ex : ∃ (fI : Addr) (fd : FuncData), PySem.W.findIn K (.ref C) "__init__" = some (some (.ref fI)) ∧ PySem.W.typeIn K (.ref fI) = some (.type "function") ∧ FnOk P w K mg base CX0 1 fI fd ps sp ∧ Binds K fd ps []
  nof : ∀ f ∈ ps, f ≠ "self" → PySem.W.findIn K (.ref C) f = some none
abbrev spI1 (K : PySem.W.Frag) (C : Addr) (f : Str) : Sp := spI C ["self", f, "__class__"] 2 (tCons (tVar 1) tNil) (tOst K f (tVar 0) (tVar 1))
section
variable {X : Cx} {x f g : Str} {C : Addr} {p pos : Pos} {e e2 : Expr} {te : TE} {ta : TA}
theorem pass0X {X : Cx} : Passes CX0 X (fun _ _ _ => False) := fun _ _ _ _ _ _ _ h => (show False from h).elim
/-- C(e, ..), C's own __init__ keeping sp -/
theorem pmk_err {ps : List Str} {sp : Sp} {es : List Expr} (h : ErrC X.prog X.w X.K X.mg X.base C ps sp) (hr : Room 2 X.A) (hg : Gl X x) (hm : X.mg x = some (.ref C)) (ha : PA X (e :: es) ta) (hdb : (x == ("__debug__" : Str)) = false := by decide)
    (he : starEach (e :: es) X.env = (false, eval e X.env) :: starEach es X.env := by rfl) (hpl : (backTo pos (starEach es X.env)).any (·.1) = false := by rfl) :
    PMk X (.Call (.Name x p) (e :: es) [] pos) (tMkO C sp [] ta) := by
  obtain ⟨fI, fd, i1, i2, F, b⟩ := h.ex
  exact pmk_oex h.T i1 i2 F hr b .nil pass0X hg hm ha hdb he hpl
end
/-- one field -/
theorem mk1_ok {K : PySem.W.Frag} {C a : Addr} {f : Str} {v : V} {H : Hp} {Q : XK} (T : OexC K C) (hf : PySem.W.findIn K (.ref C) f = some none) (ha : H a = none) (hq : ∀ d, H d = none → Q (.ref C) (some d) (upd H d (.xd [(f, v)]))) :
    spI1 K C f (.ref a :: ([v] ++ [])) (upd H a (exo a C none)) (fun v H2 => v = .non ∧ ∃ (d : Addr) (fs : List (Str × V)), H2 a = some (exo a C (some d)) ∧ H2 d = some (exd d fs) ∧ H d = none ∧ Q (.ref C) (some d) (upd (del H2 a) d (.xd fs))) (fun _ _ _ => False) := by
  refine ⟨rfl, a, rfl, upd_same, ?_⟩
  refine ⟨v, rfl, ?_⟩
  refine ⟨by simp, upd_same, ?_⟩
  refine ⟨v, rfl, .ref a, rfl, a, C, rfl, T, hf, .inl ⟨upd_same, fun dx hdx hne => ?_⟩⟩
  have hd : H dx = none := by rw [upd_ne hne] at hdx; exact hdx
  refine ⟨rfl, dx, [(f, v)], upd_same, by rw [upd_ne hne, upd_same], hd, ?_⟩
  rw [err_heap ha hne]
  exact hq dx hd
end L2
end
section
set_option Elab.async false
set_option linter.all false
set_option maxRecDepth 100000
set_option maxHeartbeats 2000000
namespace L2
open PySem PySem.Spec PySem.Calls PyProof.Rows LamX NdefX
/-- a method call whose parts stand on one line -/
theorem mcall_plain {o : Expr} {m : Str} {apos pos : Pos} {env : Env} {args : List Expr} (hln : (apos.endLine == pos.line) = true) (hf : methodCallForm (args.length + 0) (backTo pos (starEach args env)) [] = true) :
    eval (.Call (.Attribute o m apos) args [] pos) env = (do
      let ov ← attributeBase o m env (eval o env)
      standAt apos.atName
      let (z, first) ← holding [ov] (getMethod ov m (do return (← importBound o env).getD true))
      callWith pos z first (backTo pos (starEach args env)) []) := by
  rw [arm_eval_Call]
  have e : ∀ ov, methodCall o m apos pos env ov (args.length + ([] : List Keyword).length) (backTo pos (starEach args env)) (backToKw pos (keywordEach [] env)) = (do
      let (z, first) ← holding [ov] (getMethod ov m (do return (← importBound o env).getD true))
      callWith pos z first (backTo pos (starEach args env)) []) := fun ov => by
    have hf' : methodCallForm (args.length + ([] : List Keyword).length) (backTo pos (starEach args env)) (backToKw pos (keywordEach [] env)) = true := hf
    unfold methodCall
    rw [hf']
    unfold calleeOf methodCallPos
    simp only [hln, Bool.not_true, Bool.false_or, if_true, pure_bind]
    rfl
  simp only [e]
abbrev nfI (st : Stmt) (qual : Str) (cc cda : Addr) : NF := ⟨"__init__", qual, defArgs st, defBody st, defScope st, [(("__class__" : Str), cc)], cda⟩
/-- what the written part says of an own error class with its own __init__ -/
structure ErrT (K : PySem.W.Frag) (mg : Str → Option Value) (C : Addr) (st : Stmt) (qual : Str) (ps : List Str) (file : Str) : Prop where
  T : OexC K C
  ex : ∃ (fI cc cda : Addr) (oc : Value) (od : Option Addr) (osl : Array (Option Value)) (doc pm ctv : Value), PySem.W.findIn K (.ref C) "__init__" = some (some (.ref fI)) ∧ PySem.W.typeIn K (.ref fI) = some (.type "function") ∧
    K.lookup fI = some ⟨oc, od, .func ((nfI st qual cc cda).fd doc pm ctv), osl⟩ ∧ PySem.W.codeIn K (.ref cda) qual = true ∧ SupK K mg C cc cda file
  nof : ∀ f ∈ ps, PySem.W.findIn K (.ref C) f = some none
section
variable {P : Program} {w : World} {K : PySem.W.Frag} {mg : Str → Option Value} {base : Heap} {C : Addr} {st : Stmt} {qual file f g : Str}
theorem errC1 {p0 p1 p2 p3 p4 p5 p6 p7 p8 p9 : Pos} {q0 : Pos} (h : ErrT K mg C st qual [f] file) (hP : SupP P file) (hst : defBody st = [.Expr (.Call (.Attribute (.Call (.Name "super" p0) [] [] p1) "__init__" p2) [.Name f p3] [] p4) p5, .Assign [.Attribute (.Name "self" p6) f p7] (.Name f p8) p9]) (hln : (p2.endLine == p4.line) = true)
    (S : NScope ["self", f, "__class__"] ["self", f] ["__class__"] (defScope st)) (hks : (defScope st).names.lookup ("super" : Str) = some .globalImplicit)
    (hpar : ((defArgs st).posonlyargs ++ (defArgs st).args).head? = some { arg := "self", annotation := none, pos := q0 })
    (hb : ∀ (cc cda : Addr) (doc pm ctv : Value) (us : List Value), us.length = 2 → bindArgs ((nfI st qual cc cda).fd doc pm ctv) ⟨us, []⟩ = pure ((["self", f] : List Str).zip us))
    (d1 : (f == ("__debug__" : Str)) = false := by decide) (d2 : (f == ("__classdict__" : Str)) = false := by decide) : ErrC P w K mg base C ["self", f] (spI1 K C f) := by
  obtain ⟨fI, cc, cda, oc, od, osl, doc, pm, ctv, i1, i2, lk, hcd, SK⟩ := h.ex
  have s0 : (defScope st).names.lookup ("self" : Str) = some .local := S.par _ (by simp)
  have s1 : (defScope st).names.lookup f = some .local := S.par _ (by simp)
  refine ⟨h.T, ⟨fI, (nfI st qual cc cda).fd doc pm ctv, i1, i2, ?_, .all (hb cc cda doc pm ctv)⟩, fun y hy hn => h.nof y (by simpa [hn] using hy)⟩
  exact init_fn (F := nfI st qual cc cda) (N := ["self", f, "__class__"]) (ps := ["self", f]) S rfl hks hpar s0 rfl h.T hP SK lk hcd hst
    (fun A outer s H E => pa_cons (pe_var (i := 1) rfl (.inl s1) d1 d2) pa_nil)
    (fun A outer s H E => pss_one (ps_ost (pe_var (i := 0) rfl (.inl s0) (by decide) (by decide)) (pe_var (i := 1) rfl (.inl s1) d1 d2) (by rfl)))
    (hcall := fun L => mcall_plain hln (by rfl)) (he := by intro L; rfl) (hpl := by intro L; rfl)
end
end L2
end
section
set_option Elab.async false
set_option linter.all false
set_option maxRecDepth 100000
set_option maxHeartbeats 2000000
/-! ### a caught own error: looked at, handed on to a def -/
namespace L2
open PySem PySem.Spec PySem.Calls PyProof.Rows L2H
/-- the context bears the caught error: at a, of the class cls, with the dict d -/
def HasEx (X : Cx) (a : Addr) (cls : Value) (d : Option Addr) : Prop := ∃ oe, (a, oe) ∈ X.pn ∧ Zc cls d oe ∧ ∃ vs, oe.data = .fields vs
theorem HasEx.suite {X : Cx} {a : Addr} {oe : Obj} {cls : Value} {d : Option Addr} {pn : List (Addr × Obj)} (hz : Zc cls d oe) (hf : ∃ vs, oe.data = .fields vs) : HasEx (X.suite a ((a, oe) :: pn)) a cls d := ⟨oe, List.mem_cons_self, hz, hf⟩
def rIsX (K : PySem.W.Frag) (D a : Addr) (d : Option Addr) : List V → Hp → VK → Prop := fun xs H Q => ∃ (c : V) (cv : Value) (b : Bool), xs = [.ref a, c] ∧ (∀ u, RelV c u → u = cv) ∧ PySem.W.kitOne K (.ref D) cv = some b ∧ (∀ dd, d = some dd → ∃ fs, H dd = some (.xd fs)) ∧ Q (.bl b) H
section
variable {X : Cx} {a D : Addr} {cls : Value} {d : Option Addr}
theorem call_isX (C : ExcC X.K D) (hx : HasEx X a (.ref D) d) : CallR X (.builtin "isinstance") (rIsX X.K D a d) := by
  intro pins s σ H xs us Q I r h
  obtain ⟨c, cv, b, rfl, hcv, e, hd, q⟩ := h
  obtain ⟨oe, hp, hz, vs, hv⟩ := hx
  cases r with
  | cons rx rr =>
    cases rr with
    | cons rt rr =>
      cases rr
      cases rx
      have ec := hcv _ rt
      subst ec
      obtain ⟨hget, _⟩ := I.pin (a, oe) (List.mem_append.mpr (.inl hp))
      obtain ⟨od, J⟩ : ∃ od, PySem.W.InstAt s.heap a oe D od := by
        have hn : PySem.W.notCls oe := by unfold PySem.W.notCls; rw [hv] <;> rfl
        cases hd' : oe.dict with
        | none => exact ⟨none, hget, hz.1, hn, by rw [hd']; trivial⟩
        | some dd =>
          obtain ⟨fs, e2⟩ := hd dd (by rw [← hz.2, hd'])
          have hx : ObjOk X.prog X.w H s.heap dd (.xd fs) := I.hok dd _ e2
          obtain ⟨mA, hns, hr⟩ := hx
          obtain ⟨od, ho, hl⟩ := lookIn_ns hns
          exact ⟨some od, hget, hz.1, hn, by rw [hd']; exact ho⟩
      have hcl : (PySem.W.clsIn X.K D).isSome = true := by
        obtain ⟨cd, hc, _⟩ := PySem.W.any_some C.hd
        rw [hc]; rfl
      exact PySem.W.kia_one (PySem.W.kitx_exc hcl C.hg C.hk C.hs C.ha C.hn C.ht C.hm) I.kIn J e (fun z => nomatch z) fun tk => ⟨.bl b, H, I.kept (t' := tk) fun _ _ z => z, rfl, q⟩
theorem pe_xfX {C : Addr} {e : Expr} {te : TE} {pos : Pos} {n : Str} (T : XfC X.K C) (hno : PySem.W.findIn X.K (.ref C) n = some none) (hx : HasEx X a cls d) (he : PE X e te) (hb : attributeBase e n X.env (eval e X.env) = eval e X.env := by rfl) :
    PE X (.Attribute e n pos) (tXf a cls d C n te) := by
  obtain ⟨oe, hp, hz, hf⟩ := hx
  refine ⟨fun pins s σ H Q I h => ?_⟩
  refine attr_of hb (thn (he.run pins s σ H _ I h) fun u s1 hh => ?_)
  obtain ⟨x, H1, I1, rx, ex, ec, dd, fs, v, ed, ea, l, q⟩ := hh
  subst ex
  obtain rfl : u = Value.ref a := rx
  subst ec
  subst ed
  obtain ⟨ha, _⟩ := I1.pin (a, oe) (List.mem_append_left _ hp)
  obtain ⟨vs, hd⟩ := hf
  have hx : ObjOk X.prog X.w H1 s1.heap dd (.xd fs) := I1.hok dd _ ea
  obtain ⟨mA, hns, hr⟩ := hx
  obtain ⟨od, ho, hl⟩ := lookIn_ns hns
  obtain ⟨u, hu, ru⟩ := RelO.some_of (v := v) (o := mA n) (by rw [← l]; exact hr n)
  have J : PySem.W.InstAt s1.heap a oe C (some od) := ⟨ha, hz.1, by unfold PySem.W.notCls; rw [hd] <;> rfl, by rw [hz.2]; exact ho⟩
  exact HandSPX.exc_get I1.kIn J T.ga T.gg T.exC (PySem.W.findObj_own T.hdC hno rfl (by rw [hl, hu])) (handed_of ru) ⟨v, H1, I1.tok _, ru, q⟩
end
/-! ### a def that gets the caught error -/
structure FnE (P : Program) (w : World) (K : PySem.W.Frag) (mg : Str → Option Value) (base : Heap) (k : Nat) (f : Addr) (fd : FuncData) (ps : List Str) (sp : Addr → Value → Option Addr → Sp) : Prop where
  len : ∀ a cls d vs H Q E, sp a cls d vs H Q E → vs.length = ps.length
  run : ∀ (A : Around) (outer : List Env) (s : Shared) (H : Hp) (args : Args) (us : List Value) (vs : List V) (Q : VK) (p : Addr × Obj) (cls : Value) (d : Option Addr), RoomH k A → PinOk outer H s p → Zc cls d p.2 → (∃ vs, p.2.data = .fields vs) → Env0 P w K mg base A outer s H → BindsTo s fd args (ps.zip us) → Vals vs us → sp p.1 cls d vs H Q E0 →
    codeAny (model P w) A (.call (.ref f) args) (CR CX0 outer P w H s Q E0) s
theorem fnE_of {P : Program} {w : World} {K : PySem.W.Frag} {mg : Str → Option Value} {base : Heap} {k : Nat} {f : Addr} {x qual : Str} {st : Stmt} {fd : FuncData} {N ps : List Str} {sp : Addr → Value → Option Addr → Sp} (F : Fun K x qual st f fd) (S : FnScope N ps (defScope st))
    (len : ∀ a cls d vs H Q E, sp a cls d vs H Q E → vs.length = ps.length)
    (hbody : ∀ (cdv : Value) (A : Around) (outer : List Env) (s : Shared) (H : Hp) (vs : List V) (Q : VK) (p : Addr × Obj) (cls : Value) (d : Option Addr), Zc cls d p.2 → (∃ vs, p.2.data = .fields vs) → RoomH k (A.deeper (envOfC qual (defScope st) s.heap.objs.size f cdv)) → sp p.1 cls d vs H Q E0 →
      ∃ t, PSs (cxH CX0 P w K mg base N qual (defScope st) f cdv A outer s H E0 p) (defBody st) t ∧ t { nx := fun _ H' => Q .non H', rt := Q } (L2.start N vs) H) :
    FnE P w K mg base (k + 1) f fd ps sp := by
  obtain ⟨oc, od, kV, doc, pm, an, cdv, ct, osl, rfl, lk, hcd⟩ := F.ex
  refine ⟨len, fun A outer s H args us vs Q p cls d hr hpin hz hf e0 hb r hsp => ?_⟩
  have hl := len _ _ _ _ _ _ _ hsp
  have KX : K.In s.heap := e0.mod.kin.keeps fun b o e => (e0.bs b o e).1
  have lim : s.heap.NoLimit := e0.mod.nolimit.keeps fun b o e => (e0.bs b o e).1
  have hkind : ∀ y ∈ ps.zip us, (defScope st).names.lookup y.1 = some .local ∨ ((defScope st).names.lookup y.1 = some .cell ∧ ((cellsFrom (s.heap.objs.size + 1) (defScope st).names []).lookup y.1).isSome = true) := fun ⟨n, v⟩ hy => by
    rcases S.par n (List.of_mem_zip hy).1 with q | q
    · exact .inl q
    · exact .inr ⟨q, PySem.W.cellsFrom_some _ _ _ (.inl q)⟩
  refine codeAny_call_function hr.depth (KX _ _ lk) rfl S.co S.gen rfl (PySem.W.codeRec_of KX hcd) (hb _ _ _ _ ?_)
  refine wpAny_newFunctionEnv_cells S.kind hkind fun env he s1 x => ?_
  subst he
  refine ⟨lim.keeps x.toInCall.keep, codeAny_func ?_⟩
  obtain ⟨t, ht, hq⟩ := hbody cdv A outer s H vs Q p cls d hz hf (hr.deeper _) hsp
  have I : Inv (cxH CX0 P w K mg base N qual (defScope st) f cdv A outer s H E0 p) [] (L2.start N vs) H s1 := inv_startH S hpin e0 hl r x
  refine wpAny_mono (ht.run [] s1 (L2.start N vs) H _ I hq) (fun fl s' hs => ?_) fun e s' hs => hs
  have fin : ∀ {σ' : St} {H' : Hp} {v : V} {u : Value}, Inv (cxH CX0 P w K mg base N qual (defScope st) f cdv A outer s H E0 p) [] σ' H' s' → RelV v u → Q v H' → CE outer P w H s Q u s' :=
    fun {σ' H' v u} J rv q => ⟨v, H', J.os, J.bare, J.base, J.hok, rv, q⟩
  cases fl with
  | ret u =>
    obtain ⟨v, σ', H', J, rv, q⟩ := hs
    exact fin J rv q
  | next =>
    obtain ⟨σ', H', J, q⟩ := hs
    exact fin (v := V.non) (u := Value.none) J rfl q
  | brk =>
    obtain ⟨_, _, _, q⟩ := hs
    exact False.elim q
  | cont =>
    obtain ⟨_, _, _, q⟩ := hs
    exact False.elim q
section
variable {X : Cx} {k : Nat} {f a : Addr} {fd : FuncData} {ps : List Str} {sp : Addr → Value → Option Addr → Sp} {x : Str} {q pos : Pos} {e : Expr} {es : List Expr} {t : TA} {cls : Value} {d : Option Addr}
theorem pe_callE (F : FnE X.prog X.w X.K X.mg X.base k f fd ps sp) (hr : RoomH k X.A) (hx : HasEx X a cls d) (hg : Gl X x) (hm : X.mg x = some (.ref f)) (hk : PySem.W.keepIn X.K (.ref f) = true) (hb : Binds X.K fd ps [])
    (ha : PA X (e :: es) t) (hdb : (x == ("__debug__" : Str)) = false := by decide) (he : starEach (e :: es) X.env = (false, eval e X.env) :: starEach es X.env := by rfl) (hpl : (backTo pos (starEach es X.env)).any (·.1) = false := by rfl) :
    PE X (.Call (.Name x q) (e :: es) [] pos) (tCall (sp a cls d) [] E0 t) := by
  refine ⟨fun pins s σ H Q I h => ?_⟩
  refine wpAny_Call_Name_kw (ld_glob I hg hm ?_ hdb)
  refine PySem.W.callWith_K (h₀ := X.base) I.ok.mod.kin hk (thn (ha.run pos pins s σ H _ I h) fun us s1 ⟨vs, H1, I1, r, q⟩ => ⟨I1.kIn, ?_⟩) he hpl
  have q : sp a cls d (vs ++ []) H1 Q E0 := q
  rw [List.append_nil] at q
  obtain ⟨oe, hp, hz, hf⟩ := hx
  have hl : us.length = ps.length := by rw [← r.length]; exact F.len _ _ _ _ _ _ _ q
  have b := hb s1 us I1.kIn (by rw [List.append_nil]; exact hl)
  rw [List.append_nil] at b
  have P1 := I1.pin (a, oe) (List.mem_append_left _ hp)
  have hpin : PinOk X.stack H1 s1 (a, oe) := ⟨P1.1, P1.2.1, fun hm => (List.mem_cons.mp (I1.stkSub a hm)).elim P1.2.2.1 P1.2.2.2.1, P1.2.2.2.2⟩
  refine wpAny_call (codeAny_mono (F.run X.A X.stack s1 H1 ⟨us, []⟩ us vs Q (a, oe) cls d hr hpin hz hf I1.env0 b r q) fun r s' hq => ?_)
  cases r with
  | error e => exact (show False from hq).elim
  | ok fl =>
    cases fl with
    | ret u => exact I1.after hq
    | next => exact False.elim hq
    | brk => exact False.elim hq
    | cont => exact False.elim hq
end
end L2
end
section
set_option Elab.async false
set_option linter.all false
set_option maxRecDepth 100000
set_option maxHeartbeats 2000000
/-! ### try: return ("told", a()) / except MakerError as e: return the word for it -/
namespace Mz
open PySem L2 L2H LamX
def err1a (A : Ad) : List (Addr × Str × Str) := [(A.BadField, "field", "index"), (A.BadModes, "modes", "modes"), (A.UnknownCall, "unknown", "name"), (A.BadPlace, "place", "place"), (A.BadText, "text", "line"), (A.BadRow, "row", "index")]
def err1b (A : Ad) : List (Addr × Str × Str) := [(A.BadWord, "word", "word"), (A.BadWish, "wish", "wish"), (A.BadRun, "run", "thing"), (A.BadCallers, "callers", "callers"), (A.BadKind, "kind", "kind"), (A.BadRule, "rule", "index")]
def err0 (A : Ad) : List (Addr × Str) := [(A.Refused, "refused"), (A.BadThing, "thing")]
def errCls (A : Ad) : List Addr := [A.BadField, A.BadModes, A.BadCall, A.UnknownCall, A.BadPlace, A.BadText, A.BadRow, A.BadWord, A.BadWish, A.BadRun, A.BadCallers, A.BadKind, A.BadRule, A.Refused, A.BadThing]
/-- what the written part says of the error classes -/
structure ErrK (K : PySem.W.Frag) (A : Ad) : Prop where
  exc : ∀ D ∈ errCls A, ExcC K D
  xf : ∀ D ∈ errCls A, XfC K D
  kit : ∀ (i j : Nat) (D C : Addr), (errCls A)[i]? = some D → (errCls A)[j]? = some C → PySem.W.kitOne K (.ref D) (.ref C) = some (decide (i = j))
  mkr : ∀ D ∈ errCls A, PySem.W.exmOne K (.ref D) (.ref A.MakerError) = some true
/-- the word for an error with one field -/
def Out1 (D : Addr) (w f : Str) (d : Option Addr) (H : Hp) (Q : VK) : Prop := ∃ (dd : Addr) (fs : List (Str × V)) (v : V), d = some dd ∧ H dd = some (.xd fs) ∧ fs.lookup f = some v ∧ ∀ p, H p = none → Q (.ref p) (upd H p (.tup [.str w, v]))
def Out2 (d : Option Addr) (H : Hp) (Q : VK) : Prop := ∃ (dd : Addr) (fs : List (Str × V)) (v u : V), d = some dd ∧ H dd = some (.xd fs) ∧ fs.lookup ("index" : Str) = some v ∧ fs.lookup ("reason" : Str) = some u ∧ ∀ p, H p = none → ∀ p', (upd H p (.tup [v, u])) p' = none → Q (.ref p') (upd (upd H p (.tup [v, u])) p' (.tup [.str "call", .ref p]))
def Out0 (w : Str) (d : Option Addr) (H : Hp) (Q : VK) : Prop := (∀ dd, d = some dd → ∃ fs, H dd = some (.xd fs)) ∧ ∀ p, H p = none → Q (.ref p) (upd H p (.tup [.str w, .non]))
def OutB (A : Ad) (D : Addr) (d : Option Addr) (H : Hp) (Q : VK) : Prop := (∃ w f, (D, w, f) ∈ err1b A ∧ Out1 D w f d H Q) ∨ ∃ w, (D, w) ∈ err0 A ∧ Out0 w d H Q
def OutA (A : Ad) (D : Addr) (d : Option Addr) (H : Hp) (Q : VK) : Prop := (∃ w f, (D, w, f) ∈ err1a A ∧ Out1 D w f d H Q) ∨ (D = A.BadCall ∧ Out2 d H Q) ∨ OutB A D d H Q
def spErr (A : Ad) (Out : Ad → Addr → Option Addr → Hp → VK → Prop) : Addr → Value → Option Addr → Sp := fun a cls d vs H Q _ => vs = [.ref a] ∧ ∃ D, cls = .ref D ∧ D ∈ errCls A ∧ Out A D d H Q
def TTried (K : PySem.W.Frag) (A : Ad) : (XK → Hp → VK → Prop) → Hp → VK → Prop := fun tl H Q =>
  tl (fun cls d H' => ∃ D, cls = .ref D ∧ D ∈ errCls A ∧ OutA A D d H' Q) H (fun v H' => ([.str "told", v] : List V).length ≤ sizeLine ∧ ∀ p, H' p = none → Q (.ref p) (upd H' p (.tup [.str "told", v])))
section
variable {X : Cx}
theorem roomH_mark {k : Nat} {A : Around} {h : Option Value} (r : RoomH k A) : RoomH k (A.mark h) := ⟨r.dp, r.un⟩
theorem roomH_unmark {k : Nat} {A : Around} (r : Room (k + 1) A) (env : Env) : RoomH k (A.deeper env) := (roomH_of r).deeper env
theorem Takes.len {W : WX} (tk : Takes X W) : Takes X (fun cls d σ H => σ.length = X.N.length → W cls d σ H) := fun u s' ⟨a, B, sI, pins, σ, H, cls, d, e, I, nb, up, sky, na, os, ag, w⟩ =>
  tk u s' ⟨a, B, sI, pins, σ, H, cls, d, e, I, nb, up, sky, na, os, ag, w I.len⟩
theorem tried_gives {Ng : List Str} {x a e n q le : Str} {sg : Scope} {g ge : Addr} {fde : FuncData} {cdg : Value} {j k i k0 : Nat} {A : Ad} {p1 p2 p3 p4 p5 p6 p7 p8 p9 p10 p11 p12 : Pos}
    (EK : ErrK X.K A) (hge : sg.names.lookup e = some .globalImplicit) (hme : X.mg e = some (.ref A.MakerError)) (hde : (e == ("__debug__" : Str)) = false)
    (FE : FnE X.prog X.w X.K X.mg X.base k ge fde ["_law_e"] (spErr A OutA)) (hr : Room (k + 1) X.A) (hgl : sg.names.lookup le = some .globalImplicit) (hml : X.mg le = some (.ref ge)) (hkl : PySem.W.keepIn X.K (.ref ge) = true) (hbl : Binds X.K fde ["_law_e"] []) (hdl : (le == ("__debug__" : Str)) = false)
    (hNd : Ng.Nodup) (hi : Ng[i]? = some n) (hln : sg.names.lookup n = some .local) (hdn : (n == ("__debug__" : Str)) = false) (hdn2 : (n == ("__classdict__" : Str)) = false)
    (h0 : ∀ f : Addr, (L2.start Ng [V.ref f])[0]? = some (some (V.ref f))) (hil : i < Ng.length) :
    GivesTo X Ng x sg g cdg [.Try [.Return (some (.Tuple [.Constant (.str "told") j p9, .Call (.Name a p1) [] [] p2] k0 p10)) p3] [.ExceptHandler (some (.Name e p4)) (some n) [.Return (some (.Call (.Name le p5) [.Name n p11] [] p12)) p6] p7] [] [] p8] a q (TTried X.K A) := by
  intro f c' s H Q tl act hc h
  have hglE : Gl (cxOf C8.CX0 X.prog X.w X.K X.mg X.base Ng x sg g cdg X.A X.stack s H C8.E0).nox e := hge
  refine ⟨_, pss_one (ps_try_as (X := (cxOf C8.CX0 X.prog X.w X.K X.mg X.base Ng x sg g cdg X.A X.stack s H C8.E0).nox) (c := .ref A.MakerError) (i := i)
      (tb := fun W D σ H => ∃ Ech : XK, (∀ cls d σ' H', σ'.length = Ng.length → Ech cls d H' → W cls d σ' H') ∧ σ[0]? = some (some (.ref f)) ∧ H c' = some (CodeO c' q) ∧ tl Ech H fun v H' => ([.str "told", v] : List V).length ≤ sizeLine ∧ ∀ p, H' p = none → D.rt (.ref p) (upd H' p (.tup [.str "told", v])))
      rfl rfl hNd hi hln ⟨hglE, hde, .inl hme⟩ LamX.takes0 (fun W pn xe tk _ => ?_) (fun a oe cls d pn hz hf => pss_one (ps_ret (pe_callE FE (roomH_mark (roomH_unmark hr _)) (HasEx.suite hz hf) hgl hml hkl hbl (pa_cons (pe_var (i := i) hi (.inl hln) hdn hdn2) pa_nil) hdl)))), ?_⟩
  · refine ⟨fun pins s' σ H' D I h' => ?_⟩
    obtain ⟨Ech, hW, h1, h2, h3⟩ := h'
    have hp := act _ pn xe Ech p1 p2 (Takes.len tk) (fun cls d σ' H' hE hl => hW cls d σ' H' hl hE)
    have hq := pss_one (ps_ret (pos := p3) (pe_tup (x1 := k0) (pos := p10) (pa_cons (pe_str (x := ("told" : Str)) (j := j) (pos := p9)) (pa_cons hp pa_nil))))
    refine hq.run pins s' σ H' D I ?_
    exact ⟨h1, h2, h3⟩
  · refine ⟨fun cls d H' => ∃ D, cls = .ref D ∧ D ∈ errCls A ∧ OutA A D d H' Q, fun cls d σ' H' hl hE => ?_, h0 f, hc, h⟩
    obtain ⟨D, rfl, hD, ho⟩ := hE
    refine ⟨true, EK.mkr D hD, fun _ a' ha' => ?_, fun z => by cases z⟩
    refine ⟨.ref a', by rw [List.getElem?_set_self (by rw [hl]; exact hil)], ?_⟩
    exact ⟨rfl, D, rfl, hD, ho⟩
end
end Mz
end
section
set_option Elab.async false
set_option linter.all false
set_option maxRecDepth 100000
set_option maxHeartbeats 2000000
/-! ### a lambda handed to a def: what the making of it changes, told exactly -/
namespace L2
open PySem PySem.Spec PyProof.Rows LamX
/-- the table at P has grown by a new code object, or nothing has changed -/
def LamStep (P : Addr) (q : Str) (H H1 : Hp) : Prop := TabS H1 P q ∧ (H1 = H ∨ ∃ (ps more : Array Value) (c : Addr), H P = some (.tbl ps) ∧ H c = none ∧ H1 = upd (upd H P (.tbl (ps ++ more))) c (CodeO c q) ∧ TriplesOk (ps ++ more).toList ∧ ∀ (pos : Pos) (cv : Value), codeAmong pos (ps ++ more).toList = some cv → codeAmong pos ps.toList = some cv ∨ cv = .ref c)
section
variable {X : Cx} {pins : List (Addr × Obj)} {σ : L2.St} {H : Hp} {s : Shared}
theorem lam_makeX {c P : Addr} {params : Arguments} {body : Expr} {scope : Scope} {pos : Pos} {E : Value → Shared → Prop} {Q : Value → Shared → Prop} (I : Inv X pins σ H s) (TB : TabB X.base X.mg c P) (hcode : X.env.code = .ref c)
    (hT : TabS H P (X.env.qual ++ "<lambda>")) (hdef : defaultsOf params X.env = ([], [])) (hfree : ∀ y ∈ scope.names, y.2 = .free → ∃ c, X.env.cells.lookup y.1 = some c)
    (h : ∀ (f c' : Addr) (pm ctv : Value) (H1 : Hp) (s' : Shared), Inv X pins σ H1 s' → LamStep P (X.env.qual ++ "<lambda>") H H1 →
      s'.heap.get? f = some (PySem.W.kla_obj "<lambda>" (X.env.qual ++ "<lambda>") params body scope (cloFrom X.env.cells scope.names []) pm c' ctv) → H1 f = none → f ∉ frs X.stack → H1 c' = some (CodeO c' (X.env.qual ++ "<lambda>")) → Q (.ref f) s') :
    wpAny (model X.prog X.w) X.A (eval (.Lambda params body scope pos) X.env) Q E s := by
  generalize hq : X.env.qual ++ ("<lambda>" : Str) = q at hT h
  obtain ⟨ps, hP, ht, ha⟩ := id hT
  have hbi : s.heap.BuiltinsAt X.mg P := TB.bm.keeps I.bk
  have hgP : s.heap.get? P = some { cls := .none, data := .fields ps } := I.hok P _ hP
  have far : ∀ f, s.heap.objs.size ≤ f → f ∉ frs X.stack := fun f hf z => (List.mem_cons.mp (I.stkSub _ z)).elim (fun e => absurd (e ▸ I.lt) (Nat.not_lt_of_le hf)) (fun e => I.nofs hf e)
  refine PySem.W.kla_eval hdef ?_
  rcases hc : codeAmong pos ps.toList with _ | cv
  · refine PySem.W.kla_makeFunction (mg := X.mg) (c := c) (P := P) (ps := ps) (closure_ok hfree) I.ok.glob (I.mod.glob.keeps I.bk) hcode (TB.code.keeps I.bk) hgP ht hc TB.gP hbi fun c' ctv h' tk hx hge hlt hrec htb => ?_
    rw [hq] at hrec ⊢
    obtain ⟨c2, oc, vs, t, e2, hoc, hd, hv⟩ := hrec
    cases e2
    have hsz := Nat.le_trans hge (Nat.le_of_lt hlt)
    have nC : H c' = none := I.hok.fresh hge
    have nPC := ne_of_none hP nC
    let ob := PySem.W.kla_obj "<lambda>" q params body scope (cloFrom X.env.cells scope.names []) ((X.mg "__name__").getD .none) c' ctv
    have J := inv_table (t' := tk) (q := q) (more := #[rawInt pos.line, rawInt pos.col, .ref c']) (h' := h'.push ob) I hP (fun b o hb e => Heap.get?_push_of_some _ (hx b o hb e)) (Heap.get?_push_of_some _ htb) hge ⟨oc, vs, t, Heap.get?_push_of_some _ hoc, hd, hv⟩
    have atP : upd (upd H P (.tbl (ps ++ #[rawInt pos.line, rawInt pos.col, .ref c']))) c' (CodeO c' q) P = some (.tbl (ps ++ #[rawInt pos.line, rawInt pos.col, .ref c'])) := by rw [upd_ne nPC, upd_same]
    have lst : (ps ++ #[rawInt pos.line, rawInt pos.col, .ref c']).toList = ps.toList ++ [rawInt pos.line, rawInt pos.col, .ref c'] := by simp
    have T1 : TabS (upd (upd H P (.tbl (ps ++ #[rawInt pos.line, rawInt pos.col, .ref c']))) c' (CodeO c' q)) P q := by
      refine ⟨_, atP, by rw [lst]; exact PySem.TriplesOk_snoc _ _ _ _ ht, fun p' cv hcv => ?_⟩
      rw [lst] at hcv
      rcases among_app _ ht hcv with z | z
      · obtain ⟨c0, e1, e2⟩ := ha p' cv z
        refine ⟨c0, e1, ?_⟩
        rw [upd_ne (ne_of_none e2 nC), upd_ne (fun y => codeO_ne ps (Option.some.inj ((y ▸ e2).symm.trans hP)))]
        exact e2
      · exact ⟨c', z, upd_same⟩
    refine h h'.objs.size c' _ ctv _ _ J ⟨T1, .inr ⟨ps, _, c', hP, nC, rfl, by rw [lst]; exact PySem.TriplesOk_snoc _ _ _ _ ht, fun p' cv hcv => among_app _ ht (by rw [lst] at hcv; exact hcv)⟩⟩ (Heap.get?_push_size _ rfl) ?_ (far _ hsz) upd_same
    rw [upd_ne (Nat.ne_of_gt hlt), upd_ne (Nat.ne_of_gt (Nat.lt_of_lt_of_le (Heap.lt_size hgP) hsz))]
    exact I.hok.fresh hsz
  · obtain ⟨c', rfl, hco⟩ := ha pos cv hc
    refine PySem.W.kla_makeFunctionHit (mg := X.mg) (c := c) (P := P) (ps := ps) (closure_ok hfree) I.ok.glob (I.mod.glob.keeps I.bk) hcode (TB.code.keeps I.bk) hgP ht hc hbi fun ctv h' tk hx hsz => ?_
    rw [hq]
    exact h h'.objs.size c' _ ctv H _ (I.kept (t' := tk) fun b o e => Heap.get?_push_of_some _ (hx b o e)) ⟨hT, .inl rfl⟩ (Heap.get?_push_size _ rfl) (I.hok.fresh hsz) (far _ hsz) hco
/-- x(lambda: body): the reading -/
def tLamX (P : Addr) (q : Str) (TT : (XK → Hp → VK → Prop) → Hp → VK → Prop) (t : XK → TE) : TE := fun σ H Q => TabS H P q ∧ ∀ H1, LamStep P q H H1 → TT (fun E H' Q' => t E σ H' Q') H1 Q
/-- x(lambda: body), x a def of the program that calls what it gets -/
theorem pe_lamX {TT : (XK → Hp → VK → Prop) → Hp → VK → Prop} {x a qual : Str} {g c P : Addr} {k : Nat} {st : Stmt} {fd : FuncData} {Ng : List Str} {params : Arguments} {body : Expr} {scope : Scope} {t : XK → TE} {p lpos pos : Pos}
    (hg : Gl X x) (hm : X.mg x = some (.ref g)) (F : Fun X.K x x st g fd) (hb : Binds X.K fd [a] []) (Sg : FnScope Ng [a] (defScope st)) (hNg : Ng[0]? = some a) (hva : Vis (defScope st) a)
    (hG : ∀ cdv, GivesTo X Ng x (defScope st) g cdv (defBody st) a (X.env.qual ++ "<lambda>") TT)
    (TB : TabB X.base X.mg c P) (hcode : X.env.code = .ref c) (hr : Room (k + 2) X.A) (L : LamS X.env.scope scope) (hdef : defaultsOf params X.env = ([], []))
    (hbind : ∀ (q : Str) (cl : List (Str × Addr)) (pm cv ctv : Value), bindArgs (PySem.W.kla_fn "<lambda>" q params body scope cl pm cv ctv) ⟨[], []⟩ = pure [])
    (hbody : ∀ (A : Around) (outer : List Env) (s : Shared) (H : Hp) (E : XK) (f c' : Addr), Room k (A.deeper (lamEnv X scope s.heap.objs.size f c')) → PE (lamCx X A outer s H E scope f c') body (t E))
    (hdb : (x == ("__debug__" : Str)) = false := by decide) (hd : (a == ("__debug__" : Str)) = false := by decide) (hcd : (a == ("__classdict__" : Str)) = false := by decide) :
    PE X (.Call (.Name x p) [.Lambda params body scope lpos] [] pos) (tLamX P (X.env.qual ++ "<lambda>") TT t) := by
  obtain ⟨oc, od, kV, doc, pm, an, cdv, ct, osl, rfl, lk, hcg⟩ := F.ex
  refine ⟨fun pins s σ H Q I ⟨hT, h⟩ => ?_⟩
  refine wpAny_Call_Name_kw (ld_glob I hg hm ?_ hdb)
  refine PySem.W.callWith_K (h₀ := X.base) I.ok.mod.kin F.kp ?_ (by rfl) (by rfl)
  show wpAny _ _ (spliced ((false, eval (.Lambda params body scope lpos) X.env) :: backTo pos (starEach [] X.env))) _ _ s
  refine Calls.spliced_cons (lam_makeX I TB hcode hT hdef (L.has I.ok) fun f c' pm' ctv H1 s' J hs hf hfn hfr hco => ?_)
  refine Calls.spliced_nil ⟨J.kIn, wpAny_call (codeAny_mono (run_ofS (N := Ng) (ps := [a]) (us := [.ref f]) (vs := [.ref f]) (CX := C8.CX0) (E := C8.E0) (Q := Q) lk hcg Sg hr J.env0 (hb s' [.ref f] J.kIn rfl) (.cons rfl .nil) rfl fun hr' => ?_) fun r s2 hq => ?_)⟩
  · obtain ⟨t', ht', hq'⟩ := hG cdv f c' s' H1 Q (fun E H' Q' => t E σ H' Q') (fun W pn xe E p1 p2 tk hW => pe_act (i := 0) J L hf hfn hfr (hbind _ _ _ _ _) tk hW hr' (fun A outer s H hr2 => hbody A outer s H E f c' hr2) hNg hva hd hcd) hco (h H1 hs)
    exact ⟨t', ht'.nox, hq'⟩
  · cases r with
    | error e => exact (show False from hq).elim
    | ok fl =>
      cases fl with
      | ret u => exact J.after hq
      | next => exact False.elim hq
      | brk => exact False.elim hq
      | cont => exact False.elim hq
end
end L2
end
section
set_option Elab.async false
set_option linter.all false
set_option maxRecDepth 100000
set_option maxHeartbeats 4000000
namespace Mz
open PySem L2
/-! ### data -/
inductive Da where
  | non | bl (b : Bool) | int (i : Int) | str (s : Str)
  | lst (xs : List Da) | tup (xs : List Da)
  | dct (kvs : List (Key × Da))
  | ins (C : Addr) (fs : List (Str × Da))
  | cls (a : Addr) | ty (n : String) | st
instance : Inhabited Da := ⟨.non⟩
/-- a value: data, a mutable object, a tuple with such in it -/
inductive Dv where
  | d (x : Da) | ob (n : Nat) | tp (xs : List Dv)
instance : Inhabited Dv := ⟨.d .non⟩
/-- a mutable object -/
inductive MO where
  | lst (ds : List Dv) | dct (kvs : List (Key × Dv)) | ins (C : Addr) (fs : List (Str × Dv)) | frz (d : Da) | lck (od : Obj) (kvs : List (Key × V)) (kds : List (Key × Dv)) | tb (P : Addr) (q : Str)
abbrev MS := List MO
/-- the fixed part -/
structure Cn where
  K : PySem.W.Frag
  st : Addr
mutual
inductive AtD (c : Cn) (G : Hp) : V → Da → Prop
  | non : AtD c G .non .non
  | bl (b : Bool) : AtD c G (.bl b) (.bl b)
  | int (i : Int) : AtD c G (.int i) (.int i)
  | str (s : Str) : AtD c G (.str s) (.str s)
  | lst {a : Addr} {vs : List V} {ds : List Da} : G a = some (.lst vs) → AtDs c G vs ds → AtD c G (.ref a) (.lst ds)
  | tup {a : Addr} {vs : List V} {ds : List Da} : SqT c.K G a vs → AtDs c G vs ds → AtD c G (.ref a) (.tup ds)
  | dct {a : Addr} {kvs : List (Key × V)} {kds : List (Key × Da)} : G a = some (.dK kvs) → kvs.map (·.1) = kds.map (·.1) → AtDs c G (kvs.map (·.2)) (kds.map (·.2)) → AtD c G (.ref a) (.dct kds)
  | ins {a C dx : Addr} {fvs : List (Str × V)} {fds : List (Str × Da)} : G a = some (.ins C dx fvs) → fvs.map (·.1) = fds.map (·.1) → AtDs c G (fvs.map (·.2)) (fds.map (·.2)) → AtD c G (.ref a) (.ins C fds)
  | cls (a : Addr) : AtD c G (.ref a) (.cls a)
  | ty (n : String) : AtD c G (.ty n) (.ty n)
  | st : AtD c G (.ref c.st) .st
inductive AtDs (c : Cn) (G : Hp) : List V → List Da → Prop
  | nil : AtDs c G [] []
  | cons {v : V} {vs : List V} {d : Da} {ds : List Da} : AtD c G v d → AtDs c G vs ds → AtDs c G (v :: vs) (d :: ds)
end
mutual
inductive At (c : Cn) (ρ : List Addr) (G : Hp) : V → Dv → Prop
  | d {v : V} {x : Da} : AtD c G v x → At c ρ G v (.d x)
  | ob {n : Nat} {a : Addr} : ρ[n]? = some a → At c ρ G (.ref a) (.ob n)
  | tp {a : Addr} {vs : List V} {ds : List Dv} : SqT c.K G a vs → AtAll c ρ G vs ds → At c ρ G (.ref a) (.tp ds)
inductive AtAll (c : Cn) (ρ : List Addr) (G : Hp) : List V → List Dv → Prop
  | nil : AtAll c ρ G [] []
  | cons {v : V} {vs : List V} {d : Dv} {ds : List Dv} : At c ρ G v d → AtAll c ρ G vs ds → AtAll c ρ G (v :: vs) (d :: ds)
end
section
variable {c : Cn} {ρ ρ' : List Addr} {G G' : Hp}
mutual
theorem AtD.mono (s : Same G G') : ∀ {v : V} {d : Da}, AtD c G v d → AtD c G' v d
  | _, _, .non => .non
  | _, _, .bl b => .bl b
  | _, _, .int i => .int i
  | _, _, .str x => .str x
  | _, _, .lst h hs => .lst (s _ _ h) (AtDs.mono s hs)
  | _, _, .tup h hs => .tup (Same.tup s h) (AtDs.mono s hs)
  | _, _, .dct h k hs => .dct (s _ _ h) k (AtDs.mono s hs)
  | _, _, .ins h k hs => .ins (s _ _ h) k (AtDs.mono s hs)
  | _, _, .cls a => .cls a
  | _, _, .ty n => .ty n
  | _, _, .st => .st
theorem AtDs.mono (s : Same G G') : ∀ {vs : List V} {ds : List Da}, AtDs c G vs ds → AtDs c G' vs ds
  | _, _, .nil => .nil
  | _, _, .cons h hs => .cons (AtD.mono s h) (AtDs.mono s hs)
end
mutual
theorem At.mono (s : Same G G') (p : ∃ l, ρ' = ρ ++ l) : ∀ {v : V} {d : Dv}, At c ρ G v d → At c ρ' G' v d
  | _, _, .d h => .d (h.mono s)
  | _, _, .ob h => .ob (by obtain ⟨l, rfl⟩ := p; rw [List.getElem?_append_left (List.getElem?_eq_some_iff.mp h).1]; exact h)
  | _, _, .tp h hs => .tp (Same.tup s h) (AtAll.mono s p hs)
theorem AtAll.mono (s : Same G G') (p : ∃ l, ρ' = ρ ++ l) : ∀ {vs : List V} {ds : List Dv}, AtAll c ρ G vs ds → AtAll c ρ' G' vs ds
  | _, _, .nil => .nil
  | _, _, .cons h hs => .cons (At.mono s p h) (AtAll.mono s p hs)
end
theorem AtDs.up : ∀ {vs : List V} {ds : List Da}, AtDs c G vs ds → AtAll c ρ G vs (ds.map Dv.d)
  | _, _, .nil => .nil
  | _, _, .cons h t => .cons (.d h) (AtDs.up t)
theorem AtAll.down : ∀ {vs : List V} {ds : List Da}, AtAll c ρ G vs (ds.map Dv.d) → AtDs c G vs ds
  | vs, [], h => by
    cases vs with
    | nil => exact .nil
    | cons _ _ => cases h
  | vs, d :: ds, h => by
    cases vs with
    | nil => cases h
    | cons v vs =>
      rw [List.map_cons] at h
      generalize e : Dv.d d = y at h
      cases h with
      | cons h1 h2 =>
        subst e
        cases h1 with
        | d h1 => exact .cons h1 (AtAll.down h2)
theorem AtDs.length : ∀ {vs : List V} {ds : List Da}, AtDs c G vs ds → vs.length = ds.length
  | _, _, .nil => rfl
  | _, _, .cons _ t => by simp [AtDs.length t]
theorem AtAll.get : ∀ {vs : List V} {ds : List Dv} {i : Nat} {v : V}, AtAll c ρ G vs ds → vs[i]? = some v → ∃ d, ds[i]? = some d ∧ At c ρ G v d
  | _, _, _, _, .nil, e => by simp at e
  | _, _, 0, _, .cons h _, e => by simp at e; subst e; exact ⟨_, rfl, h⟩
  | _, _, i + 1, v, .cons _ t, e => by
    obtain ⟨d, h1, h2⟩ := AtAll.get (i := i) (v := v) t (by simpa using e)
    exact ⟨d, by simpa using h1, h2⟩
theorem AtAll.getD : ∀ {vs : List V} {ds : List Dv} {i : Nat} {d : Dv}, AtAll c ρ G vs ds → ds[i]? = some d → ∃ v, vs[i]? = some v ∧ At c ρ G v d
  | _, _, _, _, .nil, e => by simp at e
  | _, _, 0, _, .cons h _, e => by simp at e; subst e; exact ⟨_, rfl, h⟩
  | _, _, i + 1, d, .cons _ t, e => by
    obtain ⟨v, h1, h2⟩ := AtAll.getD (i := i) (d := d) t (by simpa using e)
    exact ⟨v, by simpa using h1, h2⟩
theorem AtAll.length : ∀ {vs : List V} {ds : List Dv}, AtAll c ρ G vs ds → vs.length = ds.length
  | _, _, .nil => rfl
  | _, _, .cons _ t => by simp [AtAll.length t]
theorem AtAll.append : ∀ {vs ws : List V} {ds es : List Dv}, AtAll c ρ G vs ds → AtAll c ρ G ws es → AtAll c ρ G (vs ++ ws) (ds ++ es)
  | _, _, _, _, .nil, t => t
  | _, _, _, _, .cons h s, t => .cons h (AtAll.append s t)
theorem AtAll.one {v : V} {d : Dv} (h : At c ρ G v d) : AtAll c ρ G [v] [d] := .cons h .nil
theorem AtAll.take : ∀ {vs : List V} {ds : List Dv} (n : Nat), AtAll c ρ G vs ds → AtAll c ρ G (vs.take n) (ds.take n)
  | _, _, 0, _ => .nil
  | _, _, _ + 1, .nil => .nil
  | _, _, n + 1, .cons r t => .cons r (AtAll.take n t)
theorem AtAll.drop : ∀ {vs : List V} {ds : List Dv} (n : Nat), AtAll c ρ G vs ds → AtAll c ρ G (vs.drop n) (ds.drop n)
  | _, _, 0, r => r
  | _, _, _ + 1, .nil => .nil
  | _, _, n + 1, .cons _ t => AtAll.drop n t
theorem AtAll.set {v : V} {d : Dv} (r : At c ρ G v d) : ∀ {vs : List V} {ds : List Dv} (i : Nat), AtAll c ρ G vs ds → AtAll c ρ G (vs.set i v) (ds.set i d)
  | _, _, _, .nil => .nil
  | _, _, 0, .cons _ t => .cons r t
  | _, _, i + 1, .cons q t => .cons q (AtAll.set r i t)
theorem AtAll.erase : ∀ {vs : List V} {ds : List Dv} (i : Nat), AtAll c ρ G vs ds → AtAll c ρ G (vs.eraseIdx i) (ds.eraseIdx i)
  | _, _, _, .nil => .nil
  | _, _, 0, .cons _ t => t
  | _, _, i + 1, .cons q t => .cons q (AtAll.erase i t)
theorem AtAll.map {α : Type} {f : α → V} {g : α → Dv} (h : ∀ x, At c ρ G (f x) (g x)) : ∀ l : List α, AtAll c ρ G (l.map f) (l.map g)
  | [] => .nil
  | x :: r => .cons (h x) (AtAll.map h r)
theorem AtAll.flatten : ∀ {vss : List (List V)} {dss : List (List Dv)}, Paired (AtAll c ρ G) vss dss → AtAll c ρ G vss.flatten dss.flatten
  | _, _, .nil => .nil
  | _, _, .cons h t => by
    rw [List.flatten_cons, List.flatten_cons]
    exact h.append (AtAll.flatten t)
/-- slots -/
inductive EnvOk (c : Cn) (ρ : List Addr) (G : Hp) : St → List (Option Dv) → Prop
  | nil : EnvOk c ρ G [] []
  | no {σ : St} {α : List (Option Dv)} : EnvOk c ρ G σ α → EnvOk c ρ G (none :: σ) (none :: α)
  | un {v : Option V} {σ : St} {α : List (Option Dv)} : EnvOk c ρ G σ α → EnvOk c ρ G (v :: σ) (none :: α)
  | yes {v : V} {d : Dv} {σ : St} {α : List (Option Dv)} : At c ρ G v d → EnvOk c ρ G σ α → EnvOk c ρ G (some v :: σ) (some d :: α)
theorem EnvOk.mono (s : Same G G') (p : ∃ l, ρ' = ρ ++ l) : ∀ {σ : St} {α : List (Option Dv)}, EnvOk c ρ G σ α → EnvOk c ρ' G' σ α
  | _, _, .nil => .nil
  | _, _, .no t => .no (t.mono s p)
  | _, _, .un t => .un (t.mono s p)
  | _, _, .yes h t => .yes (h.mono s p) (t.mono s p)
theorem EnvOk.get : ∀ {σ : St} {α : List (Option Dv)} {i : Nat} {d : Dv}, EnvOk c ρ G σ α → α[i]? = some (some d) → ∃ v, σ[i]? = some (some v) ∧ At c ρ G v d
  | _, _, _, _, .nil, e => by simp at e
  | _, _, 0, _, .no _, e => by simp at e
  | _, _, 0, _, .un _, e => by simp at e
  | _, _, 0, _, .yes h _, e => by simp at e; subst e; exact ⟨_, rfl, h⟩
  | _, _, i + 1, d, .no t, e => by
    obtain ⟨v, h1, h2⟩ := EnvOk.get (i := i) (d := d) t (by simpa using e)
    exact ⟨v, by simpa using h1, h2⟩
  | _, _, i + 1, d, .un t, e => by
    obtain ⟨v, h1, h2⟩ := EnvOk.get (i := i) (d := d) t (by simpa using e)
    exact ⟨v, by simpa using h1, h2⟩
  | _, _, i + 1, d, .yes _ t, e => by
    obtain ⟨v, h1, h2⟩ := EnvOk.get (i := i) (d := d) t (by simpa using e)
    exact ⟨v, by simpa using h1, h2⟩
theorem EnvOk.set {v : V} {d : Dv} (r : At c ρ G v d) : ∀ {σ : St} {α : List (Option Dv)} (i : Nat), EnvOk c ρ G σ α → EnvOk c ρ G (σ.set i (some v)) (α.set i (some d))
  | _, _, _, .nil => .nil
  | _, _, 0, .no t => .yes r t
  | _, _, 0, .un t => .yes r t
  | _, _, 0, .yes _ t => .yes r t
  | _, _, i + 1, .no t => .no (EnvOk.set r i t)
  | _, _, i + 1, .un t => .un (EnvOk.set r i t)
  | _, _, i + 1, .yes h t => .yes h (EnvOk.set r i t)
theorem EnvOk.unset : ∀ {σ : St} {α : List (Option Dv)} (i : Nat), EnvOk c ρ G σ α → EnvOk c ρ G (σ.set i none) (α.set i none)
  | _, _, _, .nil => .nil
  | _, _, 0, .no t => .no t
  | _, _, 0, .un t => .no t
  | _, _, 0, .yes _ t => .no t
  | _, _, i + 1, .no t => .no (EnvOk.unset i t)
  | _, _, i + 1, .un t => .un (EnvOk.unset i t)
  | _, _, i + 1, .yes h t => .yes h (EnvOk.unset i t)
end
/-! ### the mutable objects -/
def ObAt (c : Cn) (ρ : List Addr) (G H : Hp) (a : Addr) : MO → Prop
  | .lst ds => G a = none ∧ ∃ vs, H a = some (.lst vs) ∧ AtAll c ρ G vs ds
  | .dct kds => G a = none ∧ ∃ kvs : List (Key × V), H a = some (.dK kvs) ∧ kvs.map (·.1) = kds.map (·.1) ∧ AtAll c ρ G (kvs.map (·.2)) (kds.map (·.2))
  | .ins C fds => G a = none ∧ ∃ dx fvs, H a = some (.ins C dx fvs) ∧ fvs.map (·.1) = fds.map (·.1) ∧ AtAll c ρ G (fvs.map (·.2)) (fds.map (·.2))
  | .frz d => G a ≠ none ∧ AtD c G (.ref a) d
  | .lck od kvs kds => G a = none ∧ H a = some (.frz od (.dK kvs)) ∧ kvs.map (·.1) = kds.map (·.1) ∧ AtAll c ρ G (kvs.map (·.2)) (kds.map (·.2))
  | .tb P q => G a = none ∧ a = P ∧ ∃ ps : Array Value, H a = some (.tbl ps) ∧ TriplesOk ps.toList ∧ ∀ (pos : Pos) (cv : Value), codeAmong pos ps.toList = some cv → ∃ z, cv = .ref z ∧ G z = some (LamX.CodeO z q)
structure Rel (c : Cn) (ρ : List Addr) (G H : Hp) (μ : MS) : Prop where
  gh : Same G H
  len : ρ.length = μ.length
  nd : ρ.Nodup
  ob : ∀ (n : Nat) (a : Addr) (o : MO), ρ[n]? = some a → μ[n]? = some o → ObAt c ρ G H a o
  so : StOk G H c.st
  sn : c.st ∉ ρ
structure Stp (st : Addr) (ρ : List Addr) (G H : Hp) (ρ' : List Addr) (G' H' : Hp) : Prop where
  pre : ∃ l, ρ' = ρ ++ l
  gg : Same G G'
  hh : ∀ b o, b ∉ ρ → b ≠ st → H b = some o → H' b = some o
  dm : ∀ b, H' b = none → H b = none
  fr : ∀ b o, G' b = some o → G b = none → H b = none ∨ b ∈ ρ
  nw : ∀ b, b ∈ ρ' → b ∈ ρ ∨ H b = none
section
variable {c : Cn} {st : Addr} {ρ ρ1 ρ2 : List Addr} {G H G1 H1 G2 H2 : Hp} {μ μ1 : MS}
theorem Stp.refl : Stp st ρ G H ρ G H := ⟨⟨[], by simp⟩, Same.refl _, fun _ _ _ _ e => e, fun _ e => e, fun b o e n => (by rw [e] at n; cases n), fun _ h => .inl h⟩
theorem Stp.trans (a : Stp st ρ G H ρ1 G1 H1) (b : Stp st ρ1 G1 H1 ρ2 G2 H2) : Stp st ρ G H ρ2 G2 H2 where
  pre := by
    obtain ⟨l, rfl⟩ := a.pre
    obtain ⟨m, rfl⟩ := b.pre
    exact ⟨l ++ m, by simp⟩
  gg := a.gg.trans b.gg
  hh := fun x o n1 n2 e => b.hh x o (fun z => by
    rcases a.nw x z with h | h
    · exact n1 h
    · rw [e] at h; cases h) n2 (a.hh x o n1 n2 e)
  dm := fun x e => a.dm x (b.dm x e)
  fr := fun x o e n => by
    cases q : G1 x with
    | none =>
      rcases b.fr x o e q with h | h
      · exact .inl (a.dm x h)
      · exact (a.nw x h).symm
    | some u => exact a.fr x u q n
  nw := fun x h => by
    rcases b.nw x h with h | h
    · exact a.nw x h
    · exact .inr (a.dm x h)
theorem ObAt.mono {a : Addr} {o : MO} (s : Same G G1) (p : ∃ l, ρ1 = ρ ++ l) (hg : G1 a = none ∨ ∃ d, o = .frz d) (hh : ∀ u, H a = some u → H1 a = some u) (h : ObAt c ρ G H a o) : ObAt c ρ1 G1 H1 a o := by
  cases o with
  | lst ds =>
    obtain ⟨g, vs, e, t⟩ := h
    rcases hg with hg | ⟨d, hg⟩
    · exact ⟨hg, vs, hh _ e, t.mono s p⟩
    · cases hg
  | dct kds =>
    obtain ⟨g, vs, e, k, t⟩ := h
    rcases hg with hg | ⟨d, hg⟩
    · exact ⟨hg, vs, hh _ e, k, t.mono s p⟩
    · cases hg
  | ins C fds =>
    obtain ⟨g, dx, vs, e, k, t⟩ := h
    rcases hg with hg | ⟨d, hg⟩
    · exact ⟨hg, dx, vs, hh _ e, k, t.mono s p⟩
    · cases hg
  | lck od vs kds =>
    obtain ⟨g, e, k, t⟩ := h
    rcases hg with hg | ⟨d, hg⟩
    · exact ⟨hg, hh _ e, k, t.mono s p⟩
    · cases hg
  | tb P q =>
    obtain ⟨g, eP, ps, e, k, t⟩ := h
    rcases hg with hg | ⟨d, hg⟩
    · exact ⟨hg, eP, ps, hh _ e, k, fun pos cv hc => by obtain ⟨z, e1, e2⟩ := t pos cv hc; exact ⟨z, e1, s _ _ e2⟩⟩
    · cases hg
  | frz d =>
    refine ⟨fun z => ?_, AtD.mono s h.2⟩
    cases q : G a with
    | none => exact h.1 q
    | some u => rw [s a u q] at z; cases z
theorem Rel.free (R : Rel c ρ G H μ) {a : Addr} (h : H a = none) : G a = none := by
  cases q : G a with
  | none => rfl
  | some u => rw [R.gh a u q] at h; cases h
theorem ObAt.there {a : Addr} {o : MO} (gh : Same G H) (h : ObAt c ρ G H a o) : H a ≠ none := by
  cases o with
  | lst ds => obtain ⟨g, vs, e, t⟩ := h; rw [e]; simp
  | dct ds => obtain ⟨g, vs, e, t⟩ := h; rw [e]; simp
  | ins C ds => obtain ⟨g, dx, vs, e, t⟩ := h; rw [e]; simp
  | lck od vs ds => obtain ⟨g, e, t⟩ := h; rw [e]; simp
  | tb P q => obtain ⟨g, eP, ps, e, t⟩ := h; rw [e]; simp
  | frz d =>
    cases q : G a with
    | none => exact absurd q h.1
    | some u => rw [gh a u q]; simp
theorem Rel.there (R : Rel c ρ G H μ) {a : Addr} (h : a ∈ ρ) : H a ≠ none := by
  obtain ⟨n, hn⟩ := List.getElem?_of_mem h
  have hl : n < μ.length := by rw [← R.len]; exact (List.getElem?_eq_some_iff.mp hn).1
  exact (R.ob n a _ hn (List.getElem?_eq_getElem hl)).there R.gh
theorem Rel.new (R : Rel c ρ G H μ) {a : Addr} (h : H a = none) : a ∉ ρ := fun z => R.there z h
theorem Rel.newst (R : Rel c ρ G H μ) {a : Addr} (h : H a = none) : a ≠ c.st := R.so.new h
theorem Stp.at_ (S : Stp st ρ G H ρ1 G1 H1) {v : V} {d : Dv} (h : At c ρ G v d) : At c ρ1 G1 v d := h.mono S.gg S.pre
theorem Stp.all (S : Stp st ρ G H ρ1 G1 H1) {v : List V} {d : List Dv} (h : AtAll c ρ G v d) : AtAll c ρ1 G1 v d := h.mono S.gg S.pre
theorem Stp.env (S : Stp st ρ G H ρ1 G1 H1) {σ : St} {α : List (Option Dv)} (h : EnvOk c ρ G σ α) : EnvOk c ρ1 G1 σ α := h.mono S.gg S.pre
theorem pre0 {ρ : List Addr} : ∃ l, ρ = ρ ++ l := ⟨[], by simp⟩
theorem pre1 {ρ : List Addr} {p : Addr} : ∃ l, ρ ++ [p] = ρ ++ l := ⟨[p], rfl⟩
/-- the objects stay as they are -/
theorem Rel.keep (R : Rel c ρ G H μ) (gg : Same G G1) (gh : Same G1 H1) (hh : ∀ b o, b ∈ ρ → H b = some o → H1 b = some o) (gn : ∀ b, b ∈ ρ → G b = none → G1 b = none) (so : StOk G1 H1 c.st) : Rel c ρ G1 H1 μ where
  gh := gh
  len := R.len
  nd := R.nd
  ob := fun n a o h1 h2 => by
    have hm : a ∈ ρ := List.mem_of_getElem? h1
    refine (R.ob n a o h1 h2).mono gg pre0 ?_ fun u e => hh a u hm e
    cases o with
    | frz d => exact .inr ⟨d, rfl⟩
    | lst ds => obtain ⟨g, _⟩ := R.ob n a _ h1 h2; exact .inl (gn a hm g)
    | dct ds => obtain ⟨g, _⟩ := R.ob n a _ h1 h2; exact .inl (gn a hm g)
    | ins C ds => obtain ⟨g, _⟩ := R.ob n a _ h1 h2; exact .inl (gn a hm g)
    | lck _ _ ds => obtain ⟨g, _⟩ := R.ob n a _ h1 h2; exact .inl (gn a hm g)
    | tb _ _ => obtain ⟨g, _⟩ := R.ob n a _ h1 h2; exact .inl (gn a hm g)
  so := so
  sn := R.sn
/-- something new that nobody looks at -/
theorem Rel.junk (R : Rel c ρ G H μ) {p : Addr} {u : HO} (hp : H p = none) : Rel c ρ G (upd H p u) μ ∧ Stp c.st ρ G H ρ G (upd H p u) := by
  have g := (Gr.refl (M := []) R.gh).newM (o := u) hp
  exact ⟨R.keep (Same.refl _) g.gh (fun b o _ e => get_new hp e) (fun _ _ h => h) (R.so.step g (by simp)), ⟨pre0, Same.refl _, fun b o _ _ e => get_new hp e, g.dm, fun b o e n => (by rw [e] at n; cases n), fun _ h => .inl h⟩⟩
/-- a new object that stays as it is -/
theorem Rel.newF (R : Rel c ρ G H μ) {p : Addr} {u : HO} (hp : H p = none) : Rel c ρ (upd G p u) (upd H p u) μ ∧ Stp c.st ρ G H ρ (upd G p u) (upd H p u) := by
  have g := (Gr.refl (M := []) R.gh).newF (o := u) hp
  refine ⟨R.keep g.gg g.gh (fun b o _ e => get_new hp e) (fun b hb h => ?_) (R.so.step g (by simp)), ⟨pre0, g.gg, fun b o _ _ e => get_new hp e, g.dm, fun b o e n => .inl (g.fr b o e n), fun _ h => .inl h⟩⟩
  rw [upd_ne (fun z => R.new hp (by rw [← z]; exact hb))]
  exact h
/-- a new object that may change -/
theorem Rel.alloc (R : Rel c ρ G H μ) {p : Addr} {u : HO} {o : MO} (hp : H p = none) (ho : ObAt c (ρ ++ [p]) G (upd H p u) p o) : Rel c (ρ ++ [p]) G (upd H p u) (μ ++ [o]) ∧ Stp c.st ρ G H (ρ ++ [p]) G (upd H p u) := by
  have g := (Gr.refl (M := []) R.gh).newM (o := u) hp
  have hn := R.new hp
  refine ⟨⟨g.gh, by simp [R.len], ?_, ?_, R.so.step g (by simp), ?_⟩, ⟨pre1, Same.refl _, fun b o _ _ e => get_new hp e, g.dm, fun b o e n => (by rw [e] at n; cases n), fun b h => ?_⟩⟩
  · exact List.nodup_append.mpr ⟨R.nd, by simp, fun a ha b hb z => hn (by
      have : b = p := by simpa using hb
      rw [← this, ← z]; exact ha)⟩
  · intro n a o' h1 h2
    by_cases hl : n < ρ.length
    · rw [List.getElem?_append_left hl] at h1
      rw [List.getElem?_append_left (by rw [← R.len]; exact hl)] at h2
      have hm : a ∈ ρ := List.mem_of_getElem? h1
      refine (R.ob n a o' h1 h2).mono (Same.refl _) pre1 ?_ fun w e => get_new hp e
      cases o' with
      | frz d => exact .inr ⟨d, rfl⟩
      | lst ds => obtain ⟨g, _⟩ := R.ob n a _ h1 h2; exact .inl g
      | dct ds => obtain ⟨g, _⟩ := R.ob n a _ h1 h2; exact .inl g
      | ins C ds => obtain ⟨g, _⟩ := R.ob n a _ h1 h2; exact .inl g
      | lck _ _ ds => obtain ⟨g, _⟩ := R.ob n a _ h1 h2; exact .inl g
      | tb _ _ => obtain ⟨g, _⟩ := R.ob n a _ h1 h2; exact .inl g
    · have hz : n = ρ.length := by
        have := (List.getElem?_eq_some_iff.mp h1).1
        simp at this
        omega
      subst hz
      have e1 : p = a := by simpa using h1
      have e2 : o = o' := by
        rw [R.len] at h2
        simpa using h2
      subst e1
      subst e2
      exact ho
  · intro z
    rcases List.mem_append.mp z with z | z
    · exact R.sn z
    · have : c.st = p := by simpa using z
      exact R.newst hp this.symm
  · rcases List.mem_append.mp h with h | h
    · exact .inl h
    · have : b = p := by simpa using h
      rw [this]; exact .inr hp
/-- an object is changed -/
theorem Rel.put (R : Rel c ρ G H μ) {n : Nat} {a : Addr} {u : HO} {o o' : MO} (hn : ρ[n]? = some a) (hm : μ[n]? = some o) (hz : ∀ d, o ≠ .frz d) (ho : ObAt c ρ G (upd H a u) a o') : Rel c ρ G (upd H a u) (μ.set n o') ∧ Stp c.st ρ G H ρ G (upd H a u) := by
  have ha : a ∈ ρ := List.mem_of_getElem? hn
  have hth := R.there ha
  have hg : G a = none := by
    have := R.ob n a o hn hm
    cases o with
    | lst ds => exact this.1
    | dct ds => exact this.1
    | ins C ds => exact this.1
    | lck _ _ ds => exact this.1
    | tb _ _ => exact this.1
    | frz d => exact absurd rfl (hz d)
  have g := (Gr.refl (M := [a]) R.gh).set (o := u) hg hth (.inr (by simp))
  have nst : a ≠ c.st := fun z => R.sn (by rw [← z]; exact ha)
  refine ⟨⟨g.gh, by simp [R.len], R.nd, ?_, R.so.set nst hg, R.sn⟩, ⟨pre0, Same.refl _, fun b o hb _ e => get_set (fun z => hb (by rw [z]; exact ha)) e, g.dm, fun b o e n => (by rw [e] at n; cases n), fun _ h => .inl h⟩⟩
  intro m b o1 h1 h2
  by_cases hmn : m = n
  · subst hmn
    rw [hn] at h1
    cases h1
    have hl := (List.getElem?_eq_some_iff.mp hm).1
    rw [List.getElem?_set_self hl] at h2
    cases h2
    exact ho
  · rw [List.getElem?_set_ne (Ne.symm hmn)] at h2
    have hba : b ≠ a := by
      rintro rfl
      exact hmn ((List.getElem?_inj (List.getElem?_eq_some_iff.mp h1).1 R.nd).mp (h1.trans hn.symm))
    refine (R.ob m b o1 h1 h2).mono (Same.refl _) pre0 ?_ fun w e => get_set hba e
    cases o1 with
    | frz d => exact .inr ⟨d, rfl⟩
    | lst ds => obtain ⟨g, _⟩ := R.ob m b _ h1 h2; exact .inl g
    | dct ds => obtain ⟨g, _⟩ := R.ob m b _ h1 h2; exact .inl g
    | ins C ds => obtain ⟨g, _⟩ := R.ob m b _ h1 h2; exact .inl g
    | lck _ _ ds => obtain ⟨g, _⟩ := R.ob m b _ h1 h2; exact .inl g
    | tb _ _ => obtain ⟨g, _⟩ := R.ob m b _ h1 h2; exact .inl g
/-- a draw -/
theorem Rel.draw (R : Rel c ρ G H μ) (g : Gr [c.st] G H G1 H1) (so : StOk G1 H1 c.st) : Rel c ρ G1 H1 μ ∧ Stp c.st ρ G H ρ G1 H1 := by
  have hh : ∀ b o, b ∈ ρ → H b = some o → H1 b = some o := fun b o hb e => g.hh b o (by
    intro z
    have : b = c.st := by simpa using z
    exact R.sn (by rw [← this]; exact hb)) e
  refine ⟨R.keep g.gg g.gh hh (fun b hb n => ?_) so, ⟨pre0, g.gg, fun b o _ n e => g.hh b o (by simpa using n) e, g.dm, fun b o e n => .inl (g.fr b o e n), fun _ h => .inl h⟩⟩
  cases e : H b with
  | none => exact absurd e (R.there hb)
  | some o => exact g.nog n e
end
end Mz
end
section
set_option Elab.async false
set_option linter.all false
set_option maxRecDepth 100000
set_option maxHeartbeats 4000000
namespace Mz
open PySem L2
/-! ### the mirror's forms -/
structure Ex where
  cls : Addr
  fs : List (Str × Da)
abbrev Env' := List (Option Dv)
abbrev DK := Dv → MS → Prop
abbrev XS := Ex → MS → Prop
abbrev ES := XS → Env' → MS → DK → Prop
abbrev AS := XS → Env' → MS → (List Dv → MS → Prop) → Prop
abbrev TS' := XS → Env' → MS → (Bool → MS → Prop) → Prop
def ExAt (c : Cn) (ρ : List Addr) (G H : Hp) (e : Ex) (cls : Value) (dd : Option Addr) : Prop := cls = .ref e.cls ∧ ((e.fs = [] ∧ dd = none) ∨ ∃ d fvs, dd = some d ∧ H d = some (.xd fvs) ∧ fvs.map (·.1) = e.fs.map (·.1) ∧ AtDs c G (fvs.map (·.2)) (e.fs.map (·.2)))
def PX (c : Cn) (ρ : List Addr) (G H : Hp) (E : XK) (E' : XS) : Prop := ∀ e μ', E' e μ' → ∀ cls dd ρ' G' H', Stp c.st ρ G H ρ' G' H' → Rel c ρ' G' H' μ' → ExAt c ρ' G' H' e cls dd → E cls dd H'
def PQ (c : Cn) (ρ : List Addr) (G H : Hp) (Q : VK) (Q' : DK) : Prop := ∀ d μ', Q' d μ' → ∀ v ρ' G' H', Stp c.st ρ G H ρ' G' H' → Rel c ρ' G' H' μ' → At c ρ' G' v d → Q v H'
def PQs (c : Cn) (ρ : List Addr) (G H : Hp) (Q : List V → Hp → Prop) (Q' : List Dv → MS → Prop) : Prop := ∀ d μ', Q' d μ' → ∀ v ρ' G' H', Stp c.st ρ G H ρ' G' H' → Rel c ρ' G' H' μ' → AtAll c ρ' G' v d → Q v H'
def PB (c : Cn) (ρ : List Addr) (G H : Hp) (Q : Bool → Hp → Prop) (Q' : Bool → MS → Prop) : Prop := ∀ b μ', Q' b μ' → ∀ ρ' G' H', Stp c.st ρ G H ρ' G' H' → Rel c ρ' G' H' μ' → Q b H'
structure SE (c : Cn) (E : XK) (te : TE) (me : ES)  : Prop where
  run : ∀ {ρ : List Addr} {G H : Hp} {σ : St} {α : Env'} {μ : MS} {Q : VK} {E' : XS} {Q' : DK}, Rel c ρ G H μ → EnvOk c ρ G σ α → PX c ρ G H E E' → PQ c ρ G H Q Q' → me E' α μ Q' → te σ H Q
instance (c : Cn) (E : XK) (te : TE) (me : ES)  : CoeFun (SE c E te me) fun _ => ∀ {ρ : List Addr} {G H : Hp} {σ : St} {α : Env'} {μ : MS} {Q : VK} {E' : XS} {Q' : DK}, Rel c ρ G H μ → EnvOk c ρ G σ α → PX c ρ G H E E' → PQ c ρ G H Q Q' → me E' α μ Q' → te σ H Q := ⟨fun h => h.run⟩
structure SA (c : Cn) (E : XK) (te : TA) (me : AS)  : Prop where
  run : ∀ {ρ : List Addr} {G H : Hp} {σ : St} {α : Env'} {μ : MS} {Q : List V → Hp → Prop} {E' : XS} {Q' : List Dv → MS → Prop}, Rel c ρ G H μ → EnvOk c ρ G σ α → PX c ρ G H E E' → PQs c ρ G H Q Q' → me E' α μ Q' → te σ H Q
instance (c : Cn) (E : XK) (te : TA) (me : AS)  : CoeFun (SA c E te me) fun _ => ∀ {ρ : List Addr} {G H : Hp} {σ : St} {α : Env'} {μ : MS} {Q : List V → Hp → Prop} {E' : XS} {Q' : List Dv → MS → Prop}, Rel c ρ G H μ → EnvOk c ρ G σ α → PX c ρ G H E E' → PQs c ρ G H Q Q' → me E' α μ Q' → te σ H Q := ⟨fun h => h.run⟩
structure ST (c : Cn) (E : XK) (te : TT) (me : TS')  : Prop where
  run : ∀ {ρ : List Addr} {G H : Hp} {σ : St} {α : Env'} {μ : MS} {Q : Bool → Hp → Prop} {E' : XS} {Q' : Bool → MS → Prop}, Rel c ρ G H μ → EnvOk c ρ G σ α → PX c ρ G H E E' → PB c ρ G H Q Q' → me E' α μ Q' → te σ H Q
instance (c : Cn) (E : XK) (te : TT) (me : TS')  : CoeFun (ST c E te me) fun _ => ∀ {ρ : List Addr} {G H : Hp} {σ : St} {α : Env'} {μ : MS} {Q : Bool → Hp → Prop} {E' : XS} {Q' : Bool → MS → Prop}, Rel c ρ G H μ → EnvOk c ρ G σ α → PX c ρ G H E E' → PB c ρ G H Q Q' → me E' α μ Q' → te σ H Q := ⟨fun h => h.run⟩
section
variable {c : Cn} {E : XK} {ρ ρ1 : List Addr} {G H G1 H1 : Hp} {Q : VK} {Q' : DK} {E' : XS} {μ : MS}
theorem PX.step (h : PX c ρ G H E E') (s : Stp c.st ρ G H ρ1 G1 H1) : PX c ρ1 G1 H1 E E' := fun e μ' x cls dd ρ' G' H' s' R' a => h e μ' x cls dd ρ' G' H' (s.trans s') R' a
theorem PQ.step (h : PQ c ρ G H Q Q') (s : Stp c.st ρ G H ρ1 G1 H1) : PQ c ρ1 G1 H1 Q Q' := fun d μ' x v ρ' G' H' s' R' a => h d μ' x v ρ' G' H' (s.trans s') R' a
theorem PQs.step {Q : List V → Hp → Prop} {Q' : List Dv → MS → Prop} (h : PQs c ρ G H Q Q') (s : Stp c.st ρ G H ρ1 G1 H1) : PQs c ρ1 G1 H1 Q Q' := fun d μ' x v ρ' G' H' s' R' a => h d μ' x v ρ' G' H' (s.trans s') R' a
theorem PB.step {Q : Bool → Hp → Prop} {Q' : Bool → MS → Prop} (h : PB c ρ G H Q Q') (s : Stp c.st ρ G H ρ1 G1 H1) : PB c ρ1 G1 H1 Q Q' := fun b μ' x ρ' G' H' s' R' => h b μ' x ρ' G' H' (s.trans s') R'
theorem PQ.here (h : PQ c ρ G H Q Q') (R : Rel c ρ G H μ) {v : V} {d : Dv} (a : At c ρ G v d) (q : Q' d μ) : Q v H := h d μ q v ρ G H Stp.refl R a
end
/-! ### names and constants -/
def mVar (i : Nat) : ES := fun _ α μ Q => ∃ d, α[i]? = some (some d) ∧ Q d μ
def mC (d : Dv) : ES := fun _ _ μ Q => Q d μ
section
variable {c : Cn} {E : XK}
theorem se_var (i : Nat) : SE c E (tVar i) (mVar i) := by
  refine ⟨?_⟩
  rintro ρ G H σ α μ Q E' Q' R e _ q ⟨d, h1, h2⟩
  obtain ⟨v, h3, h4⟩ := e.get h1
  exact ⟨v, h3, q.here R h4 h2⟩
theorem se_c {v : V} {x : Da} (h : ∀ G, AtD c G v x) : SE c E (tC v) (mC (.d x)) := ⟨fun R _ _ q k => q.here R (.d (h _)) k⟩
theorem se_int {i : Int} : SE c E (tC (.int i)) (mC (.d (.int i))) := se_c fun _ => .int _
theorem se_str {i : Str} : SE c E (tC (.str i)) (mC (.d (.str i))) := se_c fun _ => .str _
theorem se_bl {i : Bool} : SE c E (tC (.bl i)) (mC (.d (.bl i))) := se_c fun _ => .bl _
theorem se_non : SE c E (tC .non) (mC (.d .non)) := se_c fun _ => .non
theorem se_cls {a : Addr} : SE c E (tC (.ref a)) (mC (.d (.cls a))) := se_c fun _ => .cls _
theorem se_ty {n : String} : SE c E (tC (.ty n)) (mC (.d (.ty n))) := se_c fun _ => .ty _
end
/-! ### operators -/
abbrev O2 := Dv → Dv → MS → DK → Prop
structure SO (c : Cn) (r : R2) (o : O2)  : Prop where
  run : ∀ {ρ : List Addr} {G H : Hp} {μ : MS} {x y : V} {d1 d2 : Dv} {Q : VK} {Q' : DK}, Rel c ρ G H μ → At c ρ G x d1 → At c ρ G y d2 → PQ c ρ G H Q Q' → o d1 d2 μ Q' → r x y H Q
instance (c : Cn) (r : R2) (o : O2)  : CoeFun (SO c r o) fun _ => ∀ {ρ : List Addr} {G H : Hp} {μ : MS} {x y : V} {d1 d2 : Dv} {Q : VK} {Q' : DK}, Rel c ρ G H μ → At c ρ G x d1 → At c ρ G y d2 → PQ c ρ G H Q Q' → o d1 d2 μ Q' → r x y H Q := ⟨fun h => h.run⟩
def mOp (o : O2) (a b : ES) : ES := fun E α μ Q => a E α μ fun d1 μ1 => b E α μ1 fun d2 μ2 => o d1 d2 μ2 Q
section
variable {c : Cn} {E : XK}
theorem se_op {r : R2} {o : O2} {ta tb : TE} {a b : ES} (so : SO c r o) (ha : SE c E ta a) (hb : SE c E tb b) : SE c E (tOp r ta tb) (mOp o a b) := by
  refine ⟨?_⟩
  intro ρ G H σ α μ Q E' Q' R e px q h
  refine ha R e px ?_ h
  intro d1 μ1 h1 x ρ1 G1 H1 s1 R1 a1
  refine hb R1 (s1.env e) (px.step s1) ?_ h1
  intro d2 μ2 h2 y ρ2 G2 H2 s2 R2 a2
  exact so R2 (s2.at_ a1) a2 (q.step (s1.trans s2)) h2
def oI0 (g : Int → Int → Da) : O2
  | .d (.int i), .d (.int j), μ, Q => Q (.d (g i j)) μ
  | _, _, _, _ => False
theorem so_I0 {g : Int → Int → V} {g' : Int → Int → Da} (hg : ∀ (G : Hp) (i j : Int), AtD c G (g i j) (g' i j)) : SO c (rI0 g) (oI0 g') := by
  refine ⟨?_⟩
  intro ρ G H μ x y d1 d2 Q Q' R a1 a2 q h
  match d1, d2, a1, a2, h with
  | .d (.int i), .d (.int j), .d a1, .d a2, h =>
    cases a1
    cases a2
    exact ⟨i, j, rfl, rfl, q.here R (.d (hg _ _ _)) h⟩
abbrev oAdd : O2 := oI0 fun i j => .int (i + j)
abbrev oSub : O2 := oI0 fun i j => .int (i - j)
abbrev oLe : O2 := oI0 fun i j => .bl (decide (i ≤ j))
abbrev oGt : O2 := oI0 fun i j => .bl (decide (j < i))
theorem so_add : SO c rAddI oAdd := so_I0 fun _ _ _ => .int _
theorem so_sub : SO c rSubI oSub := so_I0 fun _ _ _ => .int _
theorem so_le : SO c rLeI oLe := so_I0 fun _ _ _ => .bl _
theorem so_gt : SO c rGtI oGt := so_I0 fun _ _ _ => .bl _
def mNeg (a : ES) : ES := fun E α μ Q => a E α μ fun d μ1 => ∃ i, d = .d (.int i) ∧ Q (.d (.int (-i))) μ1
theorem se_neg {ta : TE} {a : ES} (ha : SE c E ta a) : SE c E (tUn rNeg ta) (mNeg a) := by
  refine ⟨?_⟩
  intro ρ G H σ α μ Q E' Q' R e px q h
  refine ha R e px ?_ h
  rintro d1 μ1 ⟨i, rfl, h1⟩ x ρ1 G1 H1 s1 R1 a1
  cases a1 with
  | d a1 =>
    cases a1
    exact ⟨i, rfl, (q.step s1).here R1 (.d (.int _)) h1⟩
/-! texts -/
/-! == and != of plain values -/
/-- plain values as such -/
def pD : Da → Option V
  | .non => some .non
  | .bl b => some (.bl b)
  | .int i => some (.int i)
  | .str s => some (.str s)
  | _ => none
def pV : Dv → Option V
  | .d x => pD x
  | _ => none
theorem AtD.plain {G : Hp} {v w : V} {d : Da} (h : AtD c G v d) (e : pD d = some w) : v = w := by
  cases h <;> first | (cases e; rfl) | cases e
theorem At.plain {ρ : List Addr} {G : Hp} {v w : V} {d : Dv} (h : At c ρ G v d) (e : pV d = some w) : v = w := by
  cases h with
  | d h => exact h.plain e
  | _ => cases e
def oEq (neg : Bool) : O2 := fun d1 d2 μ Q => ∃ x y, pV d1 = some x ∧ pV d2 = some y ∧ scal x y = true ∧ Q (.d (.bl (if neg = true then !decide (x = y) else decide (x = y)))) μ
theorem so_eq : SO c rEq (oEq false) := by
  refine ⟨?_⟩
  rintro ρ G H μ x y d1 d2 Q Q' R a1 a2 q ⟨x', y', h1, h2, h3, h4⟩
  obtain rfl := a1.plain h1
  obtain rfl := a2.plain h2
  exact ⟨h3, q.here R (.d (.bl _)) h4⟩
theorem so_ne : SO c rNe (oEq true) := by
  refine ⟨?_⟩
  rintro ρ G H μ x y d1 d2 Q Q' R a1 a2 q ⟨x', y', h1, h2, h3, h4⟩
  obtain rfl := a1.plain h1
  obtain rfl := a2.plain h2
  exact ⟨h3, q.here R (.d (.bl _)) h4⟩
/-! is None -/
def isNon : Dv → Bool
  | .d .non => true
  | _ => false
theorem At.isNon {ρ : List Addr} {G : Hp} {v : V} {d : Dv} (h : At c ρ G v d) : decide (v = .non) = Mz.isNon d := by
  cases h with
  | d h => cases h <;> rfl
  | _ => rfl
def oIsN (neg : Bool) : O2 := fun d1 d2 μ Q => d2 = .d .non ∧ Q (.d (.bl (if neg = true then !isNon d1 else isNon d1))) μ
theorem at_non {ρ : List Addr} {G : Hp} {v : V} (h : At c ρ G v (.d .non)) : v = .non := by
  cases h with
  | d h => cases h; rfl
theorem at_bl {ρ : List Addr} {G : Hp} {v : V} {b : Bool} (h : At c ρ G v (.d (.bl b))) : v = .bl b := by
  cases h with
  | d h => cases h; rfl
theorem at_int {ρ : List Addr} {G : Hp} {v : V} {b : Int} (h : At c ρ G v (.d (.int b))) : v = .int b := by
  cases h with
  | d h => cases h; rfl
theorem at_str {ρ : List Addr} {G : Hp} {v : V} {b : Str} (h : At c ρ G v (.d (.str b))) : v = .str b := by
  cases h with
  | d h => cases h; rfl
theorem so_notN : SO c rNotN (oIsN true) := by
  refine ⟨?_⟩
  rintro ρ G H μ x y d1 d2 Q Q' R a1 a2 q ⟨rfl, h⟩
  refine ⟨at_non a2, ?_⟩
  rw [a1.isNon]
  exact q.here R (.d (.bl _)) h
end
/-! ### truth -/
def mNotV (a : ES) : ES := fun E α μ Q => a E α μ fun d μ1 => ∃ b, d = .d (.bl b) ∧ Q (.d (.bl (!b))) μ1
def mAndV (a b : ES) : ES := fun E α μ Q => a E α μ fun d μ1 => ∃ k, d = .d (.bl k) ∧ if k = true then b E α μ1 Q else Q (.d (.bl false)) μ1
def mOrV (a b : ES) : ES := fun E α μ Q => a E α μ fun d μ1 => ∃ k, d = .d (.bl k) ∧ if k = true then Q (.d (.bl true)) μ1 else b E α μ1 Q
def mT (a : ES) : TS' := fun E α μ Q => a E α μ fun d μ1 => ∃ k, d = .d (.bl k) ∧ Q k μ1
def mNotT (a : TS') : TS' := fun E α μ Q => a E α μ fun k μ1 => Q (!k) μ1
def mAndT (a b : TS') : TS' := fun E α μ Q => a E α μ fun k μ1 => if k = true then b E α μ1 Q else Q false μ1
def mOrT (a b : TS') : TS' := fun E α μ Q => a E α μ fun k μ1 => if k = true then Q true μ1 else b E α μ1 Q
def mIf (t : TS') (a b : ES) : ES := fun E α μ Q => t E α μ fun k μ1 => if k = true then a E α μ1 Q else b E α μ1 Q
def mChain (o o' : O2) (a b d : ES) : ES := fun E α μ Q => a E α μ fun x μ1 => b E α μ1 fun y μ2 => o x y μ2 fun z μ3 => ∃ k, z = .d (.bl k) ∧ if k = true then d E α μ3 fun w μ4 => o' y w μ4 Q else Q (.d (.bl false)) μ3
section
variable {c : Cn} {E : XK} {ta tb tc : TE} {a b d : ES} {tA tB' : TT} {ma mb : TS'}
theorem se_notV (ha : SE c E ta a) : SE c E (tNotV ta) (mNotV a) := by
  refine ⟨?_⟩
  intro ρ G H σ α μ Q E' Q' R e px q h
  refine ha R e px ?_ h
  rintro d1 μ1 ⟨k, rfl, h1⟩ x ρ1 G1 H1 s1 R1 a1
  obtain rfl := at_bl a1
  exact ⟨k, rfl, (q.step s1).here R1 (.d (.bl _)) h1⟩
theorem se_andV (ha : SE c E ta a) (hb : SE c E tb b) : SE c E (tAndV ta tb) (mAndV a b) := by
  refine ⟨?_⟩
  intro ρ G H σ α μ Q E' Q' R e px q h
  refine ha R e px ?_ h
  rintro d1 μ1 ⟨k, rfl, h1⟩ x ρ1 G1 H1 s1 R1 a1
  obtain rfl := at_bl a1
  refine ⟨k, rfl, ?_⟩
  cases k with
  | true => exact hb R1 (s1.env e) (px.step s1) (q.step s1) h1
  | false => exact (q.step s1).here R1 (.d (.bl _)) h1
theorem se_orV (ha : SE c E ta a) (hb : SE c E tb b) : SE c E (tOrV ta tb) (mOrV a b) := by
  refine ⟨?_⟩
  intro ρ G H σ α μ Q E' Q' R e px q h
  refine ha R e px ?_ h
  rintro d1 μ1 ⟨k, rfl, h1⟩ x ρ1 G1 H1 s1 R1 a1
  obtain rfl := at_bl a1
  refine ⟨k, rfl, ?_⟩
  cases k with
  | false => exact hb R1 (s1.env e) (px.step s1) (q.step s1) h1
  | true => exact (q.step s1).here R1 (.d (.bl _)) h1
theorem st_val (ha : SE c E ta a) : ST c E (tB ta) (mT a) := by
  refine ⟨?_⟩
  intro ρ G H σ α μ Q E' Q' R e px q h
  refine ha R e px ?_ h
  rintro d1 μ1 ⟨k, rfl, h1⟩ x ρ1 G1 H1 s1 R1 a1
  obtain rfl := at_bl a1
  exact ⟨k, rfl, q k μ1 h1 _ _ _ s1 R1⟩
theorem st_test (ha : SE c E ta a) : ST c E (tTest ta) (mT a) := by
  refine ⟨?_⟩
  intro ρ G H σ α μ Q E' Q' R e px q h
  refine ha R e px ?_ h
  rintro d1 μ1 ⟨k, rfl, h1⟩ x ρ1 G1 H1 s1 R1 a1
  obtain rfl := at_bl a1
  exact ⟨k, rfl, q k μ1 h1 _ _ _ s1 R1⟩
theorem st_not (ha : ST c E tA ma) : ST c E (tNot tA) (mNotT ma) := by
  refine ⟨?_⟩
  intro ρ G H σ α μ Q E' Q' R e px q h
  refine ha R e px ?_ h
  exact fun k μ1 h1 ρ1 G1 H1 s1 R1 => q _ μ1 h1 _ _ _ s1 R1
theorem st_and (ha : ST c E tA ma) (hb : ST c E tB' mb) : ST c E (tAnd tA tB') (mAndT ma mb) := by
  refine ⟨?_⟩
  intro ρ G H σ α μ Q E' Q' R e px q h
  refine ha R e px ?_ h
  intro k μ1 h1 ρ1 G1 H1 s1 R1
  cases k with
  | true => exact hb R1 (s1.env e) (px.step s1) (q.step s1) h1
  | false => exact q _ μ1 h1 _ _ _ s1 R1
theorem st_or (ha : ST c E tA ma) (hb : ST c E tB' mb) : ST c E (tOr tA tB') (mOrT ma mb) := by
  refine ⟨?_⟩
  intro ρ G H σ α μ Q E' Q' R e px q h
  refine ha R e px ?_ h
  intro k μ1 h1 ρ1 G1 H1 s1 R1
  cases k with
  | false => exact hb R1 (s1.env e) (px.step s1) (q.step s1) h1
  | true => exact q _ μ1 h1 _ _ _ s1 R1
theorem se_if (ht : ST c E tA ma) (ha : SE c E ta a) (hb : SE c E tb b) : SE c E (tIf tA ta tb) (mIf ma a b) := by
  refine ⟨?_⟩
  intro ρ G H σ α μ Q E' Q' R e px q h
  refine ht R e px ?_ h
  intro k μ1 h1 ρ1 G1 H1 s1 R1
  cases k with
  | true => exact ha R1 (s1.env e) (px.step s1) (q.step s1) h1
  | false => exact hb R1 (s1.env e) (px.step s1) (q.step s1) h1
theorem se_chain {r r' : R2} {o o' : O2} (so : SO c r o) (so' : SO c r' o') (ha : SE c E ta a) (hb : SE c E tb b) (hc : SE c E tc d) : SE c E (tChain r r' ta tb tc) (mChain o o' a b d) := by
  refine ⟨?_⟩
  intro ρ G H σ α μ Q E' Q' R e px q h
  refine ha R e px ?_ h
  intro d1 μ1 h1 x ρ1 G1 H1 s1 R1 a1
  refine hb R1 (s1.env e) (px.step s1) ?_ h1
  intro d2 μ2 h2 y ρ2 G2 H2 s2 R2 a2
  refine so R2 (s2.at_ a1) a2 ?_ h2
  rintro d3 μ3 ⟨k, rfl, h3⟩ z ρ3 G3 H3 s3 R3 a3
  obtain rfl := at_bl a3
  have s03 := (s1.trans s2).trans s3
  refine ⟨k, rfl, ?_⟩
  cases k with
  | true =>
    refine hc R3 (s03.env e) (px.step s03) ?_ h3
    intro d4 μ4 h4 w ρ4 G4 H4 s4 R4 a4
    exact so' R4 (s4.at_ (s3.at_ a2)) a4 (q.step (s03.trans s4)) h4
  | false => exact (q.step s03).here R3 (.d (.bl _)) h3
end
/-! ### arguments -/
def mNil : AS := fun _ _ μ Q => Q [] μ
def mCons (a : ES) (r : AS) : AS := fun E α μ Q => a E α μ fun d μ1 => r E α μ1 fun ds μ2 => Q (d :: ds) μ2
section
variable {c : Cn} {E : XK} {ta tb tc : TE} {a b d : ES} {tr : TA} {r : AS}
theorem sa_nil : SA c E tNil mNil := ⟨fun R _ _ q h => q _ _ h _ _ _ _ Stp.refl R .nil⟩
theorem sa_cons (ha : SE c E ta a) (hr : SA c E tr r) : SA c E (tCons ta tr) (mCons a r) := by
  refine ⟨?_⟩
  intro ρ G H σ α μ Q E' Q' R e px q h
  refine ha R e px ?_ h
  intro d1 μ1 h1 x ρ1 G1 H1 s1 R1 a1
  refine hr R1 (s1.env e) (px.step s1) ?_ h1
  intro ds μ2 h2 xs ρ2 G2 H2 s2 R2 a2
  exact q _ μ2 h2 _ _ _ _ (s1.trans s2) R2 (.cons (s2.at_ a1) a2)
/-! ### displays -/
/-- all of them data -/
def allD : List Dv → Option (List Da)
  | [] => some []
  | .d x :: r => (allD r).map (x :: ·)
  | _ => none
def mkTup (xs : List Dv) : Dv := match allD xs with
  | some ds => .d (.tup ds)
  | none => .tp xs
theorem allD_eq : ∀ {xs : List Dv} {ds : List Da}, allD xs = some ds → xs = ds.map Dv.d
  | [], _, e => by cases e; rfl
  | .d x :: r, ds, e => by
    simp only [allD] at e
    cases q : allD r with
    | none => rw [q] at e; cases e
    | some y =>
      rw [q] at e
      cases e
      rw [allD_eq q]; rfl
  | .ob _ :: _, _, e => by cases e
  | .tp _ :: _, _, e => by cases e
theorem allD_map : ∀ ds : List Da, allD (ds.map Dv.d) = some ds
  | [] => rfl
  | x :: r => by simp [allD, allD_map r]
theorem mkTup_map (ds : List Da) : mkTup (ds.map Dv.d) = .d (.tup ds) := by unfold mkTup; rw [allD_map]
theorem at_mk {ρ : List Addr} {G : Hp} {a : Addr} {vs : List V} {ds : List Dv} (h : SqT c.K G a vs) (t : AtAll c ρ G vs ds) : At c ρ G (.ref a) (mkTup ds) := by
  unfold mkTup
  cases q : allD ds with
  | none => exact .tp h t
  | some xs =>
    have := allD_eq q
    subst this
    exact .d (.tup h t.down)
def mTup (r : AS) : ES := fun E α μ Q => r E α μ fun ds μ1 => ds.length ≤ sizeLine ∧ Q (mkTup ds) μ1
def mLst (r : AS) : ES := fun E α μ Q => r E α μ fun ds μ1 => ds.length ≤ sizeLine ∧ Q (.ob μ1.length) (μ1 ++ [.lst ds])
theorem newTup {ρ : List Addr} {G H : Hp} {μ : MS} {Q : VK} {Q' : DK} {vs : List V} {ds : List Dv} (R : Rel c ρ G H μ) (q : PQ c ρ G H Q Q') (a : AtAll c ρ G vs ds) (h : Q' (mkTup ds) μ) {p : Addr} (hp : H p = none) : Q (.ref p) (upd H p (.tup vs)) := by
  obtain ⟨R1, s1⟩ := R.newF (u := .tup vs) hp
  exact q _ _ h _ _ _ _ s1 R1 (at_mk (SqT.of upd_same) (s1.all a))
theorem newLst {ρ : List Addr} {G H : Hp} {μ : MS} {Q : VK} {Q' : DK} {vs : List V} {ds : List Dv} (R : Rel c ρ G H μ) (q : PQ c ρ G H Q Q') (a : AtAll c ρ G vs ds) (h : Q' (.ob μ.length) (μ ++ [.lst ds])) {p : Addr} (hp : H p = none) : Q (.ref p) (upd H p (.lst vs)) := by
  obtain ⟨R1, s1⟩ := R.alloc (u := .lst vs) (o := .lst ds) hp ⟨R.free hp, vs, upd_same, a.mono (Same.refl _) pre1⟩
  refine q _ _ h _ _ _ _ s1 R1 (.ob ?_)
  rw [← R.len]; simp
theorem se_tup (hr : SA c E tr r) : SE c E (tTup tr) (mTup r) := by
  refine ⟨?_⟩
  intro ρ G H σ α μ Q E' Q' R e px q h
  refine hr R e px ?_ h
  rintro ds μ1 ⟨hl, h1⟩ vs ρ1 G1 H1 s1 R1 a1
  exact ⟨by rw [a1.length]; exact hl, fun p hp => newTup R1 (q.step s1) a1 h1 hp⟩
theorem se_lst (hr : SA c E tr r) : SE c E (tLst tr) (mLst r) := by
  refine ⟨?_⟩
  intro ρ G H σ α μ Q E' Q' R e px q h
  refine hr R e px ?_ h
  rintro ds μ1 ⟨hl, h1⟩ vs ρ1 G1 H1 s1 R1 a1
  exact ⟨by rw [a1.length]; exact hl, fun p hp => newLst R1 (q.step s1) a1 h1 hp⟩
end
end Mz
end
section
set_option Elab.async false
set_option linter.all false
set_option maxRecDepth 100000
set_option maxHeartbeats 4000000
namespace Mz
open PySem L2
/-! ### views -/
def eD {κ : Type} (p : κ × Da) : κ × Dv := (p.1, .d p.2)
def lsV (μ : MS) : Dv → Option (List Dv)
  | .d (.lst ds) => some (ds.map .d)
  | .ob n => match μ[n]? with
    | some (.lst ds) => some ds
    | some (.frz (.lst ds)) => some (ds.map .d)
    | _ => none
  | _ => none
def sqV (μ : MS) : Dv → Option (List Dv)
  | .d (.tup ds) => some (ds.map .d)
  | .d (.lst ds) => some (ds.map .d)
  | .tp ds => some ds
  | .ob n => lsV μ (.ob n)
  | _ => none
def tpV : Dv → Option (List Dv)
  | .d (.tup ds) => some (ds.map .d)
  | .tp ds => some ds
  | _ => none
def dcV (μ : MS) : Dv → Option (List (Key × Dv))
  | .d (.dct ds) => some (ds.map eD)
  | .ob n => match μ[n]? with
    | some (.dct ds) => some ds
    | some (.frz (.dct ds)) => some (ds.map eD)
    | _ => none
  | _ => none
def isV (μ : MS) : Dv → Option (Addr × List (Str × Dv))
  | .d (.ins C fs) => some (C, fs.map eD)
  | .ob n => match μ[n]? with
    | some (.ins C fs) => some (C, fs)
    | some (.frz (.ins C fs)) => some (C, fs.map eD)
    | _ => none
  | _ => none
section
variable {c : Cn} {E : XK} {ρ : List Addr} {G H : Hp} {μ : MS}
theorem Rel.at_ob (R : Rel c ρ G H μ) {v : V} {n : Nat} {o : MO} (a : At c ρ G v (.ob n)) (h : μ[n]? = some o) : ∃ p, v = .ref p ∧ ρ[n]? = some p ∧ ObAt c ρ G H p o := by
  cases a with
  | ob hn => exact ⟨_, rfl, hn, R.ob n _ o hn h⟩
theorem at_lst (gh : Same G H) {v : V} {ds : List Da} (a : AtD c G v (.lst ds)) : ∃ p vs, v = .ref p ∧ H p = some (.lst vs) ∧ AtAll c ρ G vs (ds.map .d) := by
  cases a with
  | lst h t => exact ⟨_, _, rfl, gh _ _ h, t.up⟩
theorem lsV_ok (R : Rel c ρ G H μ) {v : V} {d : Dv} {ds : List Dv} (a : At c ρ G v d) (e : lsV μ d = some ds) : ∃ p vs, v = .ref p ∧ H p = some (.lst vs) ∧ AtAll c ρ G vs ds := by
  cases d with
  | d x =>
    cases a with
    | d a =>
      cases x with
      | lst xs => cases e; exact at_lst R.gh a
      | _ => cases e
  | ob n =>
    simp only [lsV] at e
    split at e
    · rename_i hm
      cases e
      obtain ⟨p, rfl, hn, g, vs, h1, h2⟩ := R.at_ob a hm
      exact ⟨p, vs, rfl, h1, h2⟩
    · rename_i hm
      cases e
      obtain ⟨p, rfl, hn, g, h1⟩ := R.at_ob a hm
      exact at_lst R.gh h1
    · cases e
  | tp xs => cases e
theorem tpV_ok {v : V} {d : Dv} {ds : List Dv} (gh : Same G H) (a : At c ρ G v d) (e : tpV d = some ds) : ∃ p vs, v = .ref p ∧ SqT c.K H p vs ∧ AtAll c ρ G vs ds := by
  cases d with
  | d x =>
    cases a with
    | d a =>
      cases x with
      | tup xs =>
        cases e
        cases a with
        | tup h t => exact ⟨_, _, rfl, Same.tup gh h, t.up⟩
      | _ => cases e
  | tp xs =>
    cases e
    cases a with
    | tp h t => exact ⟨_, _, rfl, Same.tup gh h, t⟩
  | ob n => cases e
theorem sqV_or {d : Dv} {ds : List Dv} (e : sqV μ d = some ds) : lsV μ d = some ds ∨ tpV d = some ds := by
  cases d with
  | d x =>
    cases x with
    | lst xs => exact .inl e
    | tup xs => exact .inr e
    | _ => cases e
  | tp xs => exact .inr e
  | ob n => exact .inl e
theorem sqV_ok (R : Rel c ρ G H μ) {v : V} {d : Dv} {ds : List Dv} (a : At c ρ G v d) (e : sqV μ d = some ds) : ∃ p vs, v = .ref p ∧ (H p = some (.lst vs) ∨ SqT c.K H p vs) ∧ AtAll c ρ G vs ds := by
  rcases sqV_or e with e | e
  · obtain ⟨p, vs, h1, h2, h3⟩ := lsV_ok R a e
    exact ⟨p, vs, h1, .inl h2, h3⟩
  · obtain ⟨p, vs, h1, h2, h3⟩ := tpV_ok R.gh a e
    exact ⟨p, vs, h1, .inr h2, h3⟩
theorem eD_fst {κ : Type} (l : List (κ × Da)) : (l.map eD).map (·.1) = l.map (·.1) := by
  rw [List.map_map]; rfl
theorem eD_snd {κ : Type} (l : List (κ × Da)) : (l.map eD).map (·.2) = (l.map (·.2)).map Dv.d := by
  rw [List.map_map, List.map_map]; rfl
theorem dcV_ok (R : Rel c ρ G H μ) {v : V} {d : Dv} {kds : List (Key × Dv)} (a : At c ρ G v d) (e : dcV μ d = some kds) : ∃ p, ∃ kvs : List (Key × V), v = .ref p ∧ H p = some (.dK kvs) ∧ kvs.map (·.1) = kds.map (·.1) ∧ AtAll c ρ G (kvs.map (·.2)) (kds.map (·.2)) := by
  have dat : ∀ {v : V} {xs : List (Key × Da)}, AtD c G v (.dct xs) → ∃ p, ∃ kvs : List (Key × V), v = .ref p ∧ H p = some (.dK kvs) ∧ kvs.map (·.1) = (xs.map eD).map (·.1) ∧ AtAll c ρ G (kvs.map (·.2)) ((xs.map eD).map (·.2)) := by
    intro v xs a
    cases a with
    | dct h k t => exact ⟨_, _, rfl, R.gh _ _ h, by rw [eD_fst]; exact k, by rw [eD_snd]; exact t.up⟩
  cases d with
  | d x =>
    cases a with
    | d a =>
      cases x with
      | dct xs => cases e; exact dat a
      | _ => cases e
  | ob n =>
    simp only [dcV] at e
    split at e
    · rename_i hm
      cases e
      obtain ⟨p, rfl, hn, g, vs, h1, h2, h3⟩ := R.at_ob a hm
      exact ⟨p, vs, rfl, h1, h2, h3⟩
    · rename_i hm
      cases e
      obtain ⟨p, rfl, hn, g, h1⟩ := R.at_ob a hm
      exact dat h1
    · cases e
  | tp xs => cases e
theorem isV_ok (R : Rel c ρ G H μ) {v : V} {d : Dv} {C : Addr} {fds : List (Str × Dv)} (a : At c ρ G v d) (e : isV μ d = some (C, fds)) : ∃ p dx fvs, v = .ref p ∧ H p = some (.ins C dx fvs) ∧ fvs.map (·.1) = fds.map (·.1) ∧ AtAll c ρ G (fvs.map (·.2)) (fds.map (·.2)) := by
  have dat : ∀ {v : V} {C : Addr} {xs : List (Str × Da)}, AtD c G v (.ins C xs) → ∃ p dx fvs, v = .ref p ∧ H p = some (.ins C dx fvs) ∧ fvs.map (·.1) = (xs.map eD).map (·.1) ∧ AtAll c ρ G (fvs.map (·.2)) ((xs.map eD).map (·.2)) := by
    intro v C xs a
    cases a with
    | ins h k t => exact ⟨_, _, _, rfl, R.gh _ _ h, by rw [eD_fst]; exact k, by rw [eD_snd]; exact t.up⟩
  cases d with
  | d x =>
    cases a with
    | d a =>
      cases x with
      | ins C' xs => cases e; exact dat a
      | _ => cases e
  | ob n =>
    simp only [isV] at e
    split at e
    · rename_i hm
      cases e
      obtain ⟨p, rfl, hn, g, dx, vs, h1, h2, h3⟩ := R.at_ob a hm
      exact ⟨p, dx, vs, rfl, h1, h2, h3⟩
    · rename_i hm
      cases e
      obtain ⟨p, rfl, hn, g, h1⟩ := R.at_ob a hm
      exact dat h1
    · cases e
  | tp xs => cases e
/-! entries -/
theorem ents_get {κ : Type} [BEq κ] [LawfulBEq κ] {f : κ} : ∀ {fvs : List (κ × V)} {fds : List (κ × Dv)} {d : Dv}, fvs.map (·.1) = fds.map (·.1) → AtAll c ρ G (fvs.map (·.2)) (fds.map (·.2)) → fds.lookup f = some d → ∃ v, fvs.lookup f = some v ∧ At c ρ G v d
  | [], [], _, _, _, e => by cases e
  | [], _ :: _, _, hk, _, _ => by cases hk
  | _ :: _, [], _, hk, _, _ => by cases hk
  | (k, v) :: r, (k', d') :: r', d, hk, ha, e => by
    simp only [List.map_cons, List.cons.injEq] at hk
    obtain ⟨rfl, hk⟩ := hk
    cases ha with
    | cons h1 h2 =>
      simp only [List.lookup_cons] at e ⊢
      split at e
      · rename_i hb
        cases e
        exact ⟨v, by simp_all, h1⟩
      · rename_i hb
        obtain ⟨w, h3, h4⟩ := ents_get hk h2 e
        exact ⟨w, by simp_all, h4⟩
theorem ents_none {κ : Type} [BEq κ] [LawfulBEq κ] {f : κ} : ∀ {fvs : List (κ × V)} {fds : List (κ × Dv)}, fvs.map (·.1) = fds.map (·.1) → fds.lookup f = none → fvs.lookup f = none
  | [], [], _, _ => rfl
  | [], _ :: _, hk, _ => by cases hk
  | _ :: _, [], hk, _ => by cases hk
  | (k, v) :: r, (k', d') :: r', hk, e => by
    simp only [List.map_cons, List.cons.injEq] at hk
    obtain ⟨rfl, hk⟩ := hk
    simp only [List.lookup_cons] at e ⊢
    split at e
    · cases e
    · rename_i hb
      exact ents_none hk e
/-! ### subscripts -/
theorem AtAll.atI {vs : List V} {ds : List Dv} {i : Int} {d : Dv} (h : AtAll c ρ G vs ds) (e : L2.atI ds i = some d) : ∃ v, L2.atI vs i = some v ∧ At c ρ G v d := by
  unfold L2.atI at e ⊢
  rw [h.length]
  cases q : ixN ds.length i with
  | none => rw [q] at e; cases e
  | some j =>
    rw [q] at e
    exact h.getD e
def okS : Dv → Prop
  | .d (.str s) => s.length ≤ sizeLine
  | _ => True
def ixD (μ : MS) (d : Dv) : Dv → Option Dv
  | .d (.int i) => match d with
    | .d (.str z) => (atI z.cps.toList i).map fun k => .d (.str ⟨#[k]⟩)
    | d => (sqV μ d).bind fun ds => atI ds i
  | _ => none
def oIx : O2 := fun d i μ Q => okS d ∧ ∃ x, ixD μ d i = some x ∧ Q x μ
theorem so_ix : SO c (rIx c.K) oIx := by
  refine ⟨?_⟩
  rintro ρ G H μ x y d1 d2 Q Q' R a1 a2 q ⟨hs, z, e, h⟩
  have other : ∀ {i : Int} {ds}, At c ρ G y (.d (.int i)) → sqV μ d1 = some ds → L2.atI ds i = some z → rIx c.K x y H Q := by
    intro i ds a2 e1 e2
    obtain rfl := at_int a2
    obtain ⟨p, vs, rfl, h1, h2⟩ := sqV_ok R a1 e1
    obtain ⟨v, h3, h4⟩ := h2.atI e2
    rcases h1 with h1 | h1
    · exact .inl ⟨p, vs, i, v, rfl, rfl, SqL.of h1, h3, q.here R h4 h⟩
    · exact .inr (.inl ⟨p, vs, i, v, rfl, rfl, h1, h3, q.here R h4 h⟩)
  cases d2 with
  | d x2 =>
    cases x2 with
    | int i =>
      cases d1 with
      | d x1 =>
        cases x1 with
        | str s =>
          simp only [ixD] at e
          obtain rfl := at_int a2
          obtain rfl := at_str a1
          cases q2 : L2.atI s.cps.toList i with
          | none => rw [q2] at e; cases e
          | some k =>
            rw [q2] at e
            cases e
            exact .inr (.inr ⟨s, i, k, rfl, rfl, hs, q2, q.here R (.d (.str _)) h⟩)
        | lst xs => exact other a2 rfl e
        | tup xs => exact other a2 rfl e
        | _ => cases e
      | tp xs => exact other a2 rfl e
      | ob n =>
        simp only [ixD] at e
        cases q2 : sqV μ (.ob n) with
        | none => rw [q2] at e; cases e
        | some ds => rw [q2] at e; exact other a2 q2 e
    | _ => cases e
  | _ => cases e
/-! slices -/
def cutD (xs : List Dv) (lo hi : Option Int) : List Dv := (xs.drop (HT.sIx xs.length 0 lo)).take (HT.sIx xs.length xs.length hi - HT.sIx xs.length 0 lo)
theorem AtAll.cut {vs : List V} {ds : List Dv} (h : AtAll c ρ G vs ds) (lo hi : Option Int) : AtAll c ρ G (cutV vs lo hi) (cutD ds lo hi) := by
  unfold cutV cutD
  rw [h.length]
  exact (h.drop _).take _
abbrev OS := XS → Env' → MS → (Option Int → MS → Prop) → Prop
def mNoPart : OS := fun _ _ μ Q => Q none μ
def mPart (a : ES) : OS := fun E α μ Q => a E α μ fun d μ1 => ∃ i, d = .d (.int i) ∧ Q (some i) μ1
structure SOp (c : Cn) (E : XK) (te : TO) (me : OS)  : Prop where
  run : ∀ {ρ : List Addr} {G H : Hp} {σ : St} {α : Env'} {μ : MS} {Q : Option Int → Hp → Prop} {E' : XS} {Q' : Option Int → MS → Prop}, Rel c ρ G H μ → EnvOk c ρ G σ α → PX c ρ G H E E' → (∀ d μ', Q' d μ' → ∀ ρ' G' H', Stp c.st ρ G H ρ' G' H' → Rel c ρ' G' H' μ' → Q d H') → me E' α μ Q' → te σ H Q
instance (c : Cn) (E : XK) (te : TO) (me : OS)  : CoeFun (SOp c E te me) fun _ => ∀ {ρ : List Addr} {G H : Hp} {σ : St} {α : Env'} {μ : MS} {Q : Option Int → Hp → Prop} {E' : XS} {Q' : Option Int → MS → Prop}, Rel c ρ G H μ → EnvOk c ρ G σ α → PX c ρ G H E E' → (∀ d μ', Q' d μ' → ∀ ρ' G' H', Stp c.st ρ G H ρ' G' H' → Rel c ρ' G' H' μ' → Q d H') → me E' α μ Q' → te σ H Q := ⟨fun h => h.run⟩
theorem sp_none : SOp c E tNoPart mNoPart := ⟨fun R _ _ q h => q _ _ h _ _ _ Stp.refl R⟩
theorem sp_some {ta : TE} {a : ES} (ha : SE c E ta a) : SOp c E (tPart ta) (mPart a) := by
  refine ⟨?_⟩
  intro ρ G H σ α μ Q E' Q' R e px q h
  refine ha R e px ?_ h
  rintro d1 μ1 ⟨i, rfl, h1⟩ x ρ1 G1 H1 s1 R1 a1
  obtain rfl := at_int a1
  exact ⟨i, rfl, q _ μ1 h1 _ _ _ s1 R1⟩
abbrev O3 := Dv → Option Int → Option Int → MS → DK → Prop
structure SSl (c : Cn) (r : V → Option Int → Option Int → Hp → VK → Prop) (o : O3)  : Prop where
  run : ∀ {ρ : List Addr} {G H : Hp} {μ : MS} {x : V} {d : Dv} {lo hi : Option Int} {Q : VK} {Q' : DK}, Rel c ρ G H μ → At c ρ G x d → PQ c ρ G H Q Q' → o d lo hi μ Q' → r x lo hi H Q
instance (c : Cn) (r : V → Option Int → Option Int → Hp → VK → Prop) (o : O3)  : CoeFun (SSl c r o) fun _ => ∀ {ρ : List Addr} {G H : Hp} {μ : MS} {x : V} {d : Dv} {lo hi : Option Int} {Q : VK} {Q' : DK}, Rel c ρ G H μ → At c ρ G x d → PQ c ρ G H Q Q' → o d lo hi μ Q' → r x lo hi H Q := ⟨fun h => h.run⟩
def mSl (o : O3) (a : ES) (l u : OS) : ES := fun E α μ Q => a E α μ fun d μ1 => l E α μ1 fun lo μ2 => u E α μ2 fun hi μ3 => o d lo hi μ3 Q
theorem se_sl {r : V → Option Int → Option Int → Hp → VK → Prop} {o : O3} {ta : TE} {tl tu : TO} {a : ES} {l u : OS} (so : SSl c r o) (ha : SE c E ta a) (hl : SOp c E tl l) (hu : SOp c E tu u) : SE c E (tSl r ta tl tu) (mSl o a l u) := by
  refine ⟨?_⟩
  intro ρ G H σ α μ Q E' Q' R e px q h
  refine ha R e px ?_ h
  intro d1 μ1 h1 x ρ1 G1 H1 s1 R1 a1
  refine hl R1 (s1.env e) (px.step s1) ?_ h1
  intro lo μ2 h2 ρ2 G2 H2 s2 R2
  have s02 := s1.trans s2
  refine hu R2 (s02.env e) (px.step s02) ?_ h2
  intro hi μ3 h3 ρ3 G3 H3 s3 R3
  exact so R3 (s3.at_ (s2.at_ a1)) (q.step (s02.trans s3)) h3
def oSlL : O3 := fun d lo hi μ Q => ∃ ds, lsV μ d = some ds ∧ Q (.ob μ.length) (μ ++ [.lst (cutD ds lo hi)])
theorem ss_lst : SSl c (rSlL c.K) oSlL := by
  refine ⟨?_⟩
  rintro ρ G H μ x d lo hi Q Q' R a q ⟨ds, e, h⟩
  obtain ⟨p, vs, rfl, h1, h2⟩ := lsV_ok R a e
  exact ⟨p, vs, rfl, SqL.of h1, fun l hl => newLst R q (h2.cut lo hi) h hl⟩
def oSlT : O3 := fun d lo hi μ Q => ∃ ds, tpV d = some ds ∧ Q (mkTup (cutD ds lo hi)) μ
theorem cut_whole {α : Type} (xs : List α) (lo hi : Option Int) (h : HT.sIx xs.length 0 lo = 0 ∧ HT.sIx xs.length xs.length hi = xs.length) : (xs.drop (HT.sIx xs.length 0 lo)).take (HT.sIx xs.length xs.length hi - HT.sIx xs.length 0 lo) = xs := by
  rw [h.1, h.2]; simp
theorem tpV_at {v : V} {d : Dv} {ds : List Dv} (a : At c ρ G v d) (e : tpV d = some ds) : ∃ p vs, v = .ref p ∧ SqT c.K G p vs ∧ AtAll c ρ G vs ds := tpV_ok (Same.refl _) a e
theorem ss_tup : SSl c (rSlA c.K) oSlT := by
  refine ⟨?_⟩
  rintro ρ G H μ x d lo hi Q Q' R a q ⟨ds, e, h⟩
  obtain ⟨p, vs, rfl, h1, h2⟩ := tpV_at a e
  refine ⟨p, vs, rfl, Same.tup R.gh h1, fun hw => ?_, fun hw l hl => newTup R q (h2.cut lo hi) h hl⟩
  have e : cutD ds lo hi = ds := cut_whole ds lo hi (by rw [← h2.length]; exact hw)
  rw [e] at h
  exact q.here R (at_mk h1 h2) h
/-- a slice of a list or of a tuple -/
def oSlM : O3 := fun d lo hi μ Q => oSlL d lo hi μ Q ∨ oSlT d lo hi μ Q
theorem ss_M : SSl c (fun x lo hi H Q => rSlL c.K x lo hi H Q ∨ rSlA c.K x lo hi H Q) oSlM := by
  refine ⟨?_⟩
  rintro ρ G H μ x d lo hi Q Q' R a q (h | h)
  · exact .inl (ss_lst R a q h)
  · exact .inr (ss_tup R a q h)
/-! ### + and * of lists and tuples -/
def oCat : O2 := fun d1 d2 μ Q => ∃ xs ys, lsV μ d1 = some xs ∧ lsV μ d2 = some ys ∧ xs.length + ys.length ≤ sizeLine ∧ Q (.ob μ.length) (μ ++ [.lst (xs ++ ys)])
theorem so_cat : SO c rCat oCat := by
  refine ⟨?_⟩
  rintro ρ G H μ x y d1 d2 Q Q' R a1 a2 q ⟨xs, ys, e1, e2, hl, h⟩
  obtain ⟨p1, vs1, rfl, h1, t1⟩ := lsV_ok R a1 e1
  obtain ⟨p2, vs2, rfl, h2, t2⟩ := lsV_ok R a2 e2
  exact ⟨p1, p2, vs1, vs2, rfl, rfl, h1, h2, by rw [t1.length, t2.length]; exact hl, fun l hl => newLst R q (t1.append t2) h hl⟩
def oCatT : O2 := fun d1 d2 μ Q => ∃ xs ys, tpV d1 = some xs ∧ tpV d2 = some ys ∧ xs.length + ys.length ≤ sizeLine ∧ Q (mkTup (xs ++ ys)) μ
theorem so_catT : SO c (rCatA c.K) oCatT := by
  refine ⟨?_⟩
  rintro ρ G H μ x y d1 d2 Q Q' R a1 a2 q ⟨xs, ys, e1, e2, hl, h⟩
  obtain ⟨p1, vs1, rfl, h1, t1⟩ := tpV_at a1 e1
  obtain ⟨p2, vs2, rfl, h2, t2⟩ := tpV_at a2 e2
  refine ⟨p1, p2, vs1, vs2, rfl, rfl, Same.tup R.gh h1, Same.tup R.gh h2, by rw [t1.length, t2.length]; exact hl, fun e => ?_, fun _ e => ?_, fun _ _ l hl => newTup R q (t1.append t2) h hl⟩
  · have e1 : xs = [] := by have := t1.length; rw [e] at this; exact List.length_eq_zero_iff.mp this.symm
    rw [e1, List.nil_append] at h
    exact q.here R (at_mk h2 t2) h
  · have e1 : ys = [] := by have := t2.length; rw [e] at this; exact List.length_eq_zero_iff.mp this.symm
    rw [e1, List.append_nil] at h
    exact q.here R (at_mk h1 t1) h
theorem AtAll.rep {vs : List V} {ds : List Dv} (h : AtAll c ρ G vs ds) : ∀ n : Nat, AtAll c ρ G (List.replicate n vs).flatten (List.replicate n ds).flatten
  | 0 => .nil
  | n + 1 => by
    rw [List.replicate_succ, List.flatten_cons, List.replicate_succ, List.flatten_cons]
    exact h.append (h.rep n)
def oRep : O2 := fun d1 d2 μ Q => ∃ xs k, lsV μ d1 = some xs ∧ d2 = .d (.int k) ∧ (-(2 ^ 63) ≤ k ∧ k < 2 ^ 63) ∧ xs.length * k.toNat ≤ sizeLine ∧ Q (.ob μ.length) (μ ++ [.lst (List.replicate k.toNat xs).flatten])
theorem so_rep : SO c rRep oRep := by
  refine ⟨?_⟩
  rintro ρ G H μ x y d1 d2 Q Q' R a1 a2 q ⟨xs, k, e1, rfl, ⟨k1, k2⟩, hl, h⟩
  obtain ⟨p1, vs1, rfl, h1, t1⟩ := lsV_ok R a1 e1
  obtain rfl := at_int a2
  exact ⟨p1, k, vs1, rfl, rfl, h1, k1, k2, by rw [t1.length]; exact hl, fun l hl => newLst R q (t1.rep _) h hl⟩
/-! ### in -/
def pVs : List Dv → Option (List V)
  | [] => some []
  | d :: r => match pV d with
    | some v => (pVs r).map (v :: ·)
    | none => none
theorem pV_flat {d : Dv} {v : V} (h : pV d = some v) : flatV v = true := by
  cases d with
  | d x => cases x <;> first | (cases h; rfl) | cases h
  | _ => cases h
theorem pVs_ok : ∀ {ws : List V} {ds : List Dv} {vs : List V}, AtAll c ρ G ws ds → pVs ds = some vs → ws = vs ∧ vs.all flatV = true
  | _, _, _, .nil, e => by cases e; exact ⟨rfl, rfl⟩
  | _, _, _, .cons (d := d) (ds := ds) h t, e => by
    simp only [pVs] at e
    cases q : pV d with
    | none => rw [q] at e; cases e
    | some v =>
      rw [q] at e
      cases q2 : pVs ds with
      | none => rw [q2] at e; cases e
      | some r =>
        rw [q2] at e
        cases e
        obtain ⟨h1, h2⟩ := pVs_ok t q2
        obtain rfl := h.plain q
        refine ⟨by rw [h1], ?_⟩
        rw [List.all_cons, h2, Bool.and_true]
        exact pV_flat q
def oIn (neg : Bool) : O2 := fun d1 d2 μ Q => ∃ x ds vs, pV d1 = some x ∧ sqV μ d2 = some ds ∧ pVs ds = some vs ∧ Q (.d (.bl (if neg = true then !inV x vs else inV x vs))) μ
theorem so_in {neg : Bool} : SO c (rIn c.K neg) (oIn neg) := by
  refine ⟨?_⟩
  rintro ρ G H μ x y d1 d2 Q Q' R a1 a2 q ⟨x', ds, vs, e1, e2, e3, h⟩
  obtain ⟨p, ws, rfl, h1, t⟩ := sqV_ok R a2 e2
  obtain ⟨rfl, hf⟩ := pVs_ok t e3
  obtain rfl := a1.plain e1
  refine ⟨p, ws, rfl, ?_, pV_flat e1, hf, ?_⟩
  · rcases h1 with h1 | h1
    · exact .inl (SqL.of h1)
    · exact .inr h1
  · have := q.here R (.d (.bl _)) h
    cases neg <;> exact this
def oInS (neg : Bool) : O2 := fun d1 d2 μ Q => ∃ (k : Nat) (z : Str), d1 = .d (.str ⟨#[k]⟩) ∧ d2 = .d (.str z) ∧ Q (.d (.bl (if neg = true then !decide (k ∈ z.cps.toList) else decide (k ∈ z.cps.toList)))) μ
theorem so_inS : SO c rInSign (oInS false) := by
  refine ⟨?_⟩
  rintro ρ G H μ x y d1 d2 Q Q' R a1 a2 q ⟨k, z, rfl, rfl, h⟩
  obtain rfl := at_str a1
  obtain rfl := at_str a2
  exact ⟨k, z, rfl, rfl, q.here R (.d (.bl _)) h⟩
end
/-! ### == at any depth -/
mutual
def pyD : Da → Option PyData
  | .non => some .none
  | .bl b => some (.bool b)
  | .int i => some (.int i)
  | .str s => some (.str s)
  | .lst xs => (pyDs xs).map .list
  | .tup xs => (pyDs xs).map .tuple
  | _ => none
def pyDs : List Da → Option (List PyData)
  | [] => some []
  | x :: r => match pyD x, pyDs r with
    | some p, some ps => some (p :: ps)
    | _, _ => none
end
mutual
inductive PyAt (μ : MS) : Dv → PyData → Prop
  | d {x : Da} {p : PyData} : pyD x = some p → PyAt μ (.d x) p
  | lst {d : Dv} {ds : List Dv} {ps : List PyData} : lsV μ d = some ds → PyAll μ ds ps → PyAt μ d (.list ps)
  | tup {d : Dv} {ds : List Dv} {ps : List PyData} : tpV d = some ds → PyAll μ ds ps → PyAt μ d (.tuple ps)
inductive PyAll (μ : MS) : List Dv → List PyData → Prop
  | nil : PyAll μ [] []
  | cons {d : Dv} {ds : List Dv} {p : PyData} {ps : List PyData} : PyAt μ d p → PyAll μ ds ps → PyAll μ (d :: ds) (p :: ps)
end
section
variable {c : Cn} {E : XK} {ρ : List Addr} {G H : Hp} {μ : MS}
mutual
theorem pyD_dp (gh : Same G H) : ∀ {d : Da} {p : PyData} {v : V}, pyD d = some p → AtD c G v d → Dp c.K H v p
  | .non, _, _, e, a => by cases e; cases a; exact .non
  | .bl b, _, _, e, a => by cases e; cases a; exact .bl b
  | .int b, _, _, e, a => by cases e; cases a; exact .int b
  | .str b, _, _, e, a => by cases e; cases a; exact .str b
  | .lst xs, _, _, e, a => by
    simp only [pyD] at e
    cases q : pyDs xs with
    | none => rw [q] at e; cases e
    | some ps =>
      rw [q] at e
      cases e
      cases a with
      | lst h t => exact .lst (SqL.of (gh _ _ h)) (pyDs_dp gh q t)
  | .tup xs, _, _, e, a => by
    simp only [pyD] at e
    cases q : pyDs xs with
    | none => rw [q] at e; cases e
    | some ps =>
      rw [q] at e
      cases e
      cases a with
      | tup h t => exact .tup (Same.tup gh h) (pyDs_dp gh q t)
  | .dct _, _, _, e, _ => by cases e
  | .ins _ _, _, _, e, _ => by cases e
  | .cls _, _, _, e, _ => by cases e
  | .ty _, _, _, e, _ => by cases e
  | .st, _, _, e, _ => by cases e
theorem pyDs_dp (gh : Same G H) : ∀ {ds : List Da} {ps : List PyData} {vs : List V}, pyDs ds = some ps → AtDs c G vs ds → DpAll c.K H vs ps
  | [], _, _, e, a => by cases e; cases a; exact .nil
  | x :: r, _, _, e, a => by
    simp only [pyDs] at e
    cases q1 : pyD x with
    | none => rw [q1] at e; cases e
    | some p =>
      cases q2 : pyDs r with
      | none => rw [q1, q2] at e; cases e
      | some ps =>
        rw [q1, q2] at e
        cases e
        cases a with
        | cons h1 h2 => exact .cons (pyD_dp gh q1 h1) (pyDs_dp gh q2 h2)
end
mutual
theorem PyAt.dp (R : Rel c ρ G H μ) : ∀ {d : Dv} {p : PyData} {v : V}, PyAt μ d p → At c ρ G v d → Dp c.K H v p
  | _, _, _, .d e, a => by
    cases a with
    | d a => exact pyD_dp R.gh e a
  | _, _, _, .lst e t, a => by
    obtain ⟨q, vs, rfl, h1, h2⟩ := lsV_ok R a e
    exact .lst (SqL.of h1) (PyAll.dp R t h2)
  | _, _, _, .tup e t, a => by
    obtain ⟨q, vs, rfl, h1, h2⟩ := tpV_ok R.gh a e
    exact .tup h1 (PyAll.dp R t h2)
theorem PyAll.dp (R : Rel c ρ G H μ) : ∀ {ds : List Dv} {ps : List PyData} {vs : List V}, PyAll μ ds ps → AtAll c ρ G vs ds → DpAll c.K H vs ps
  | _, _, _, .nil, a => by cases a; exact .nil
  | _, _, _, .cons h t, a => by
    cases a with
    | cons h1 h2 => exact .cons (PyAt.dp R h h1) (PyAll.dp R t h2)
end
def oEqD (neg : Bool) : O2 := fun d1 d2 μ Q => ∃ p1 p2, PyAt μ d1 p1 ∧ PyAt μ d2 p2 ∧ SeqAt.shaped p1 = true ∧ SeqAt.shaped p2 = true ∧ Q (.d (.bl (if neg = true then !PyData.eqv p1 p2 else PyData.eqv p1 p2))) μ
theorem so_eqD : SO c (rEqD c.K) (oEqD false) := by
  refine ⟨?_⟩
  rintro ρ G H μ x y d1 d2 Q Q' R a1 a2 q ⟨p1, p2, h1, h2, s1, s2, h⟩
  exact ⟨p1, p2, h1.dp R a1, h2.dp R a2, s1, s2, q.here R (.d (.bl _)) h⟩
theorem so_neD : SO c (rNeD c.K) (oEqD true) := by
  refine ⟨?_⟩
  rintro ρ G H μ x y d1 d2 Q Q' R a1 a2 q ⟨p1, p2, h1, h2, s1, s2, h⟩
  exact ⟨p1, p2, h1.dp R a1, h2.dp R a2, s1, s2, q.here R (.d (.bl _)) h⟩
/-! ### builtins by values -/
abbrev OB := List Dv → MS → DK → Prop
structure SB (c : Cn) (r : List V → Hp → VK → Prop) (o : OB)  : Prop where
  run : ∀ {ρ : List Addr} {G H : Hp} {μ : MS} {vs : List V} {ds : List Dv} {Q : VK} {Q' : DK}, Rel c ρ G H μ → AtAll c ρ G vs ds → PQ c ρ G H Q Q' → o ds μ Q' → r vs H Q
instance (c : Cn) (r : List V → Hp → VK → Prop) (o : OB)  : CoeFun (SB c r o) fun _ => ∀ {ρ : List Addr} {G H : Hp} {μ : MS} {vs : List V} {ds : List Dv} {Q : VK} {Q' : DK}, Rel c ρ G H μ → AtAll c ρ G vs ds → PQ c ρ G H Q Q' → o ds μ Q' → r vs H Q := ⟨fun h => h.run⟩
def mCB (o : OB) (r : AS) : ES := fun E α μ Q => r E α μ fun ds μ1 => o ds μ1 Q
theorem se_cb {r : List V → Hp → VK → Prop} {o : OB} {ta : TA} {a : AS} (so : SB c r o) (ha : SA c E ta a) : SE c E (tCB r ta) (mCB o a) := by
  refine ⟨?_⟩
  intro ρ G H σ α μ Q E' Q' R e px q h
  refine ha R e px ?_ h
  intro ds μ1 h1 vs ρ1 G1 H1 s1 R1 a1
  exact so R1 a1 (q.step s1) h1
def lenD (μ : MS) (d : Dv) : Option Nat := match d with
  | .d (.str s) => some s.length
  | d => match sqV μ d with
    | some ds => some ds.length
    | none => (dcV μ d).map List.length
def oLen : OB := fun ds μ Q => ∃ d, ds = [d] ∧ okS d ∧ ∃ n : Nat, lenD μ d = some n ∧ Q (.d (.int n)) μ
theorem AtAll.sole {vs : List V} {d : Dv} (a : AtAll c ρ G vs [d]) : ∃ v, vs = [v] ∧ At c ρ G v d := by
  cases a with
  | cons h1 h =>
    cases h
    exact ⟨_, rfl, h1⟩
theorem AtAll.two {vs : List V} {d k : Dv} (a : AtAll c ρ G vs [d, k]) : ∃ v w, vs = [v, w] ∧ At c ρ G v d ∧ At c ρ G w k := by
  cases a with
  | cons h1 h =>
    obtain ⟨w, rfl, h2⟩ := h.sole
    exact ⟨_, _, rfl, h1, h2⟩
abbrev rLenAny (K : PySem.W.Frag) : List V → Hp → VK → Prop := fun xs H Q => (∃ x n, xs = [x] ∧ LenV K x H n ∧ Q (.int n) H) ∨ (∃ a kvs, xs = [V.ref a] ∧ H a = some (.dK kvs) ∧ Q (.int kvs.length) H)
theorem so_len : SB c (rLenAny c.K) oLen := by
  refine ⟨?_⟩
  rintro ρ G H μ vs ds Q Q' R a q ⟨d, rfl, hs, n, e, h⟩
  obtain ⟨v, rfl, b0⟩ := a.sole
  clear a
  have a := b0
  have gen : (match sqV μ d with | some ds => some ds.length | none => (dcV μ d).map List.length) = some n → rLenAny c.K [v] H Q := by
    intro e
    cases q1 : sqV μ d with
    | some xs =>
      rw [q1] at e
      cases e
      obtain ⟨p, vs, rfl, h1, t⟩ := sqV_ok R a q1
      refine .inl ⟨_, xs.length, rfl, ?_, q.here R (.d (.int _)) h⟩
      rcases h1 with h1 | h1
      · exact .inl ⟨vs, SqL.of h1, by rw [t.length]⟩
      · exact .inr ⟨vs, h1, by rw [t.length]⟩
    | none =>
      rw [q1] at e
      cases q2 : dcV μ d with
      | none => rw [q2] at e; cases e
      | some xs =>
        rw [q2] at e
        cases e
        obtain ⟨p, kvs, rfl, h1, hk, t⟩ := dcV_ok R a q2
        refine .inr ⟨p, kvs, rfl, h1, ?_⟩
        have e3 : kvs.length = xs.length := by have := congrArg List.length hk; simpa using this
        rw [e3]
        exact q.here R (.d (.int _)) h
  cases d with
  | d x =>
    cases x with
    | str s =>
      cases e
      obtain rfl := at_str a
      exact .inl ⟨_, _, rfl, ⟨hs, rfl⟩, q.here R (.d (.int _)) h⟩
    | _ => exact gen e
  | _ => exact gen e
def oInt : OB := fun ds μ Q => (∃ i, ds = [.d (.int i)] ∧ Q (.d (.int i)) μ) ∨ ∃ b : Bool, ds = [.d (.bl b)] ∧ Q (.d (.int (if b then 1 else 0))) μ
theorem so_int : SB c rInt1 oInt := by
  refine ⟨?_⟩
  rintro ρ G H μ vs ds Q Q' R a q (⟨i, rfl, h⟩ | ⟨i, rfl, h⟩)
  · obtain ⟨v, rfl, b0⟩ := a.sole
    clear a
    have a := b0
    obtain rfl := at_int a
    exact .inl ⟨i, rfl, q.here R (.d (.int _)) h⟩
  · obtain ⟨v, rfl, b0⟩ := a.sole
    clear a
    have a := b0
    obtain rfl := at_bl a
    exact .inr ⟨i, rfl, q.here R (.d (.int _)) h⟩
def oList : OB := fun ds μ Q => ∃ d xs, ds = [d] ∧ sqV μ d = some xs ∧ Q (.ob μ.length) (μ ++ [.lst xs])
theorem so_list : SB c (rListOf c.K) oList := by
  refine ⟨?_⟩
  rintro ρ G H μ vs ds Q Q' R a q ⟨d, xs, rfl, e, h⟩
  obtain ⟨v, rfl, b0⟩ := a.sole
  clear a
  have a := b0
  obtain ⟨p, vs, rfl, h1, t⟩ := sqV_ok R a e
  refine ⟨p, vs, rfl, ?_, fun l hl => newLst R q t h hl⟩
  rcases h1 with h1 | h1
  · exact .inl (SqL.of h1)
  · exact .inr h1
def oTuple : OB := fun ds μ Q => ∃ d xs, ds = [d] ∧ sqV μ d = some xs ∧ Q (mkTup xs) μ
theorem so_tuple : SB c (rTupleOf c.K) oTuple := by
  refine ⟨?_⟩
  rintro ρ G H μ vs ds Q Q' R a q ⟨d, xs, rfl, e, h⟩
  obtain ⟨v, rfl, b0⟩ := a.sole
  clear a
  have a := b0
  rcases sqV_or e with e | e
  · obtain ⟨p, vs, rfl, h1, t⟩ := lsV_ok R a e
    exact ⟨p, vs, rfl, .inl ⟨SqL.of h1, fun l hl => newTup R q t h hl⟩⟩
  · obtain ⟨p, vs, rfl, h1, t⟩ := tpV_at a e
    exact ⟨p, vs, rfl, .inr ⟨Same.tup R.gh h1, q.here R (at_mk h1 t) h⟩⟩
def bls : List Dv → Option (List Bool)
  | [] => some []
  | .d (.bl b) :: r => (bls r).map (b :: ·)
  | _ => none
theorem bls_map : ∀ bs : List Bool, bls (bs.map fun b => .d (.bl b)) = some bs
  | [] => rfl
  | b :: r => by simp [bls, bls_map r]
theorem bls_eq : ∀ {ds : List Dv} {bs : List Bool}, bls ds = some bs → ds = bs.map fun b => .d (.bl b)
  | [], _, e => by cases e; rfl
  | d :: ds, bs, e => by
    unfold bls at e
    split at e
    · rename_i h; cases h
    · rename_i b r h
      cases h
      cases q : bls ds with
      | none => rw [q] at e; cases e
      | some r =>
        rw [q] at e
        cases e
        rw [bls_eq q]; rfl
    · cases e
theorem bls_at : ∀ {vs : List V} {bs : List Bool}, AtAll c ρ G vs (bs.map fun b => .d (.bl b)) → vs = bs.map V.bl
  | vs, [], h => by
    cases vs with
    | nil => rfl
    | cons _ _ => cases h
  | vs, b :: bs, h => by
    cases vs with
    | nil => cases h
    | cons v vs =>
      rw [List.map_cons] at h
      cases h with
      | cons h1 h2 =>
        obtain rfl := at_bl h1
        rw [bls_at h2]; rfl
def oAll : OB := fun ds μ Q => ∃ d xs bs, ds = [d] ∧ lsV μ d = some xs ∧ bls xs = some bs ∧ Q (.d (.bl (bs.all id))) μ
theorem so_all : SB c (rAll c.K) oAll := by
  refine ⟨?_⟩
  rintro ρ G H μ vs ds Q Q' R a q ⟨d, xs, bs, rfl, e, e2, h⟩
  obtain ⟨v, rfl, b0⟩ := a.sole
  clear a
  have a := b0
  obtain ⟨p, vs, rfl, h1, t⟩ := lsV_ok R a e
  rw [bls_eq e2] at t
  have := bls_at t
  subst this
  exact ⟨p, bs, rfl, SqL.of h1, q.here R (.d (.bl _)) h⟩
/-! isinstance -/
/-- what isinstance asks of an own class -/
structure OwnI (K : PySem.W.Frag) (C : Addr) : Prop where
  cl : Cls K C
  ha : PySem.W.findIn K (.ref C) "__class__" = some (some (.builtin "object.__class__"))
  hn : PySem.W.specialIn K (.builtin "object.__class__") "__get__" = some (some (.builtin "getset_descriptor.__get__"))
  htk : PySem.W.takesIn K (.builtin "object.__class__") = some true
  hm : PySem.W.mroIn K C (.type "object") = some true
inductive TyD (K : PySem.W.Frag) (μ : MS) : Dv → Value → Prop
  | non : TyD K μ (.d .non) (.type "NoneType")
  | bl (b : Bool) : TyD K μ (.d (.bl b)) (.type "bool")
  | int (i : Int) : TyD K μ (.d (.int i)) (.type "int")
  | str (i : Str) : TyD K μ (.d (.str i)) (.type "str")
  | tup {d : Dv} {xs : List Dv} : tpV d = some xs → TyD K μ d (.type "tuple")
  | lst {d : Dv} {xs : List Dv} : lsV μ d = some xs → TyD K μ d (.type "list")
  | dct {d : Dv} {xs : List (Key × Dv)} : dcV μ d = some xs → TyD K μ d (.type "dict")
  | ins {d : Dv} {C : Addr} {fs : List (Str × Dv)} : isV μ d = some (C, fs) → OwnI K C → TyD K μ d (.ref C)
theorem TyD.ok (R : Rel c ρ G H μ) {v : V} {d : Dv} {t : Value} (a : At c ρ G v d) (h : TyD c.K μ d t) : TyX c.K H v t := by
  cases h with
  | non => obtain rfl := at_non a; exact .base .non
  | bl b => obtain rfl := at_bl a; exact .base (.bl b)
  | int b => obtain rfl := at_int a; exact .base (.int b)
  | str b => obtain rfl := at_str a; exact .base (.str b)
  | tup e =>
    obtain ⟨p, vs, rfl, h1, t⟩ := tpV_ok R.gh a e
    rcases h1 with (h1 | ⟨o, h1⟩) | ⟨o, its, n, h1, h2, _⟩
    · exact .base (.tup h1)
    · exact .fTuple h1
    · exact .kTuple h1 h2
  | lst e =>
    obtain ⟨p, vs, rfl, h1, t⟩ := lsV_ok R a e
    exact .base (.lst h1)
  | dct e =>
    obtain ⟨p, vs, rfl, h1, t⟩ := dcV_ok R a e
    exact .base (.dK h1)
  | ins e o =>
    obtain ⟨p, dx, vs, rfl, h1, t⟩ := isV_ok R a e
    exact .base (.ins h1 o.cl o.ha o.hn o.htk o.hm)
def clV : Dv → Option Value
  | .d (.ty n) => some (.type n)
  | .d (.cls a) => some (.ref a)
  | _ => none
theorem clV_ok {v : V} {d : Dv} {u : Value} (a : At c ρ G v d) (h : clV d = some u) : ClsV v u := by
  cases d with
  | d x =>
    cases a with
    | d a =>
      cases x with
      | ty n => cases h; cases a; exact .ty n
      | cls n => cases h; cases a; exact .own n
      | _ => cases h
  | _ => cases h
def oIsi (K : PySem.W.Frag) : OB := fun ds μ Q => ∃ d k, ds = [d, k] ∧ ∃ t u b, TyD K μ d t ∧ clV k = some u ∧ PySem.W.kitOne K t u = some b ∧ Q (.d (.bl b)) μ
theorem so_isi : SB c (rIsi c.K) (oIsi c.K) := by
  refine ⟨?_⟩
  rintro ρ G H μ vs ds Q Q' R a q ⟨d, k, rfl, t, u, b, h1, h2, h3, h⟩
  obtain ⟨v, w, rfl, a, a2⟩ := a.two
  exact ⟨_, _, t, u, b, rfl, clV_ok a2 h2, h1.ok R a, h3, q.here R (.d (.bl _)) h⟩
def clVs : List Dv → Option (List Value)
  | [] => some []
  | d :: r => match clV d with
    | some v => (clVs r).map (v :: ·)
    | none => none
theorem clVs_ok : ∀ {ws : List V} {ds : List Dv} {vs : List Value}, AtAll c ρ G ws ds → clVs ds = some vs → Paired ClsV ws vs
  | _, _, _, .nil, e => by cases e; exact .nil
  | _, _, _, .cons (d := d) (ds := ds) h t, e => by
    simp only [clVs] at e
    cases q : clV d with
    | none => rw [q] at e; cases e
    | some v =>
      rw [q] at e
      cases q2 : clVs ds with
      | none => rw [q2] at e; cases e
      | some r =>
        rw [q2] at e
        cases e
        exact .cons (clV_ok h q) (clVs_ok t q2)
/-- isinstance(x, (c1, c2)): the tuple is laid and forgotten -/
def mIsT (K : PySem.W.Frag) (a : ES) (ks : AS) : ES := fun E α μ Q => a E α μ fun d μ1 => ks E α μ1 fun cs μ2 => ∃ t us b, TyD K μ2 d t ∧ clVs cs = some us ∧ PySem.W.kitAny K t us = some b ∧ cs.length ≤ sizeLine ∧ Q (.d (.bl b)) μ2
theorem se_isT {ta : TE} {a : ES} {tk : TA} {ks : AS} (ha : SE c E ta a) (hk : SA c E tk ks) : SE c E (tCB (rIsiT c.K) (tCons ta (tCons (tTup tk) tNil))) (mIsT c.K a ks) := by
  refine ⟨?_⟩
  intro ρ G H σ α μ Q E' Q' R e px q h
  refine ha R e px ?_ h
  intro d μ1 h1 x ρ1 G1 H1 s1 R1 a1
  refine hk R1 (s1.env e) (px.step s1) ?_ h1
  rintro cs μ2 ⟨t, us, b, h2, h3, h4, hl, h5⟩ ws ρ2 G2 H2 s2 R2 a2
  refine ⟨by rw [a2.length]; exact hl, fun p hp => ?_⟩
  obtain ⟨R3, s3⟩ := R2.newF (u := .tup ws) hp
  exact ⟨x, p, ws, t, us, b, rfl, upd_same, clVs_ok a2 h3, h2.ok R3 (s3.at_ (s2.at_ a1)), h4, (q.step ((s1.trans s2).trans s3)).here R3 (.d (.bl _)) h5⟩
end
end Mz
end
section
set_option Elab.async false
set_option linter.all false
set_option maxRecDepth 100000
set_option maxHeartbeats 4000000
namespace Mz
open PySem L2
section
variable {c : Cn} {E : XK} {ρ : List Addr} {G H : Hp} {μ : MS}
/-! ### methods of lists -/
abbrev OM := Dv → List Dv → MS → DK → Prop
structure SM (c : Cn) (r : V → List V → Hp → VK → Prop) (o : OM)  : Prop where
  run : ∀ {ρ : List Addr} {G H : Hp} {μ : MS} {x : V} {d : Dv} {vs : List V} {ds : List Dv} {Q : VK} {Q' : DK}, Rel c ρ G H μ → At c ρ G x d → AtAll c ρ G vs ds → PQ c ρ G H Q Q' → o d ds μ Q' → r x vs H Q
instance (c : Cn) (r : V → List V → Hp → VK → Prop) (o : OM)  : CoeFun (SM c r o) fun _ => ∀ {ρ : List Addr} {G H : Hp} {μ : MS} {x : V} {d : Dv} {vs : List V} {ds : List Dv} {Q : VK} {Q' : DK}, Rel c ρ G H μ → At c ρ G x d → AtAll c ρ G vs ds → PQ c ρ G H Q Q' → o d ds μ Q' → r x vs H Q := ⟨fun h => h.run⟩
def mBM (o : OM) (a : ES) (r : AS) : ES := fun E α μ Q => a E α μ fun d μ1 => (lsV μ1 d).isSome = true ∧ r E α μ1 fun ds μ2 => o d ds μ2 Q
theorem tyL_ok (R : Rel c ρ G H μ) {v : V} {d : Dv} (a : At c ρ G v d) (e : (lsV μ d).isSome = true) : tyV c.K "list" v H := by
  cases q : lsV μ d with
  | none => rw [q] at e; cases e
  | some ds =>
    obtain ⟨p, vs, rfl, h1, t⟩ := lsV_ok R a q
    exact .inl ⟨rfl, vs, SqL.of h1⟩
theorem se_bm {r : V → List V → Hp → VK → Prop} {o : OM} {ta : TE} {a : ES} {tr : TA} {rr : AS} (so : SM c r o) (ha : SE c E ta a) (hr : SA c E tr rr) : SE c E (tBM c.K "list" r ta tr) (mBM o a rr) := by
  refine ⟨?_⟩
  intro ρ G H σ α μ Q E' Q' R e px q h
  refine ha R e px ?_ h
  rintro d1 μ1 ⟨hs, h1⟩ x ρ1 G1 H1 s1 R1 a1
  refine ⟨tyL_ok R1 a1 hs, ?_⟩
  refine hr R1 (s1.env e) (px.step s1) ?_ h1
  intro ds μ2 h2 vs ρ2 G2 H2 s2 R2 a2
  exact so R2 (s2.at_ a1) a2 (q.step (s1.trans s2)) h2
def oAppend : OM := fun d ds μ Q => ∃ n xs y, d = .ob n ∧ ds = [y] ∧ μ[n]? = some (.lst xs) ∧ xs.length < sizeLine ∧ Q (.d .non) (μ.set n (.lst (xs ++ [y])))
theorem sm_append : SM c rAppend oAppend := by
  refine ⟨?_⟩
  rintro ρ G H μ x d vs ds Q Q' R a1 a2 q ⟨n, xs, y, rfl, rfl, hn, hl, h⟩
  obtain ⟨w, rfl, b0⟩ := a2.sole
  obtain ⟨p, rfl, hp, g, ws, h1, h2⟩ := R.at_ob a1 hn
  obtain ⟨R1, s1⟩ := R.put (u := .lst (ws ++ [w])) (o' := .lst (xs ++ [y])) hp hn (fun _ z => by cases z) ⟨g, _, upd_same, h2.append (.one b0)⟩
  exact ⟨p, ws, w, rfl, rfl, h1, by rw [h2.length]; exact hl, q _ _ h _ _ _ _ s1 R1 (.d .non)⟩
def oPopAt : OM := fun d ds μ Q => ∃ n xs i k y, d = .ob n ∧ ds = [.d (.int i)] ∧ μ[n]? = some (.lst xs) ∧ (-(2 ^ 63) ≤ i ∧ i < 2 ^ 63) ∧ seqIndex? i xs.length = some k ∧ xs[k]? = some y ∧ Q y (μ.set n (.lst (xs.eraseIdx k)))
theorem sm_popAt : SM c rPopAt oPopAt := by
  refine ⟨?_⟩
  rintro ρ G H μ x d vs ds Q Q' R a1 a2 q ⟨n, xs, i, k, y, rfl, rfl, hn, ⟨i1, i2⟩, hk, hy, h⟩
  obtain ⟨w, rfl, b0⟩ := a2.sole
  obtain rfl := at_int b0
  obtain ⟨p, rfl, hp, g, ws, h1, h2⟩ := R.at_ob a1 hn
  obtain ⟨w, hw, aw⟩ := h2.getD hy
  obtain ⟨R1, s1⟩ := R.put (u := .lst (ws.eraseIdx k)) (o' := .lst (xs.eraseIdx k)) hp hn (fun _ z => by cases z) ⟨g, _, upd_same, h2.erase k⟩
  exact ⟨p, ws, i, k, w, rfl, rfl, h1, i1, i2, by rw [h2.length]; exact hk, hw, q _ _ h _ _ _ _ s1 R1 aw⟩
def oIndex : OM := fun d ds μ Q => ∃ xs vs y v j z, ds = [y] ∧ lsV μ d = some xs ∧ pVs xs = some vs ∧ pV y = some v ∧ vs[j]? = some z ∧ eqV z v = true ∧ (∀ (m : Nat) (z' : V), m < j → vs[m]? = some z' → eqV z' v = false) ∧ Q (.d (.int (j : Nat))) μ
theorem sm_index : SM c (rIndex c.K) oIndex := by
  refine ⟨?_⟩
  rintro ρ G H μ x d vs ds Q Q' R a1 a2 q ⟨xs, us, y, v, j, z, rfl, e1, e2, e3, e4, e5, e6, h⟩
  obtain ⟨w, rfl, b0⟩ := a2.sole
  obtain rfl := b0.plain e3
  obtain ⟨p, ws, rfl, h1, t⟩ := lsV_ok R a1 e1
  obtain ⟨rfl, hf⟩ := pVs_ok t e2
  exact ⟨p, ws, w, j, z, rfl, rfl, SqL.of h1, pV_flat e3, hf, e4, e5, e6, q.here R (.d (.int _)) h⟩
/-! ### methods of texts -/
def strsD (ys : List Str) : List Dv := ys.map fun s => .d (.str s)
/-! ### dicts -/
def keyD : Dv → Option Key
  | .d (.int i) => some (.inl i)
  | .d (.str s) => some (.inr s)
  | _ => none
theorem keyD_ok {v : V} {d : Dv} {k : Key} (a : At c ρ G v d) (e : keyD d = some k) : v = kV k := by
  cases d with
  | d x =>
    cases x with
    | int i => cases e; exact at_int a
    | str i => cases e; exact at_str a
    | _ => cases e
  | _ => cases e
def valD (kvs : List (Key × Dv)) (k : Key) : Option Dv := (kvs.find? fun kv => decide (kv.1 = k)).map (·.2)
def putD (kvs : List (Key × Dv)) (k : Key) (v : Dv) : List (Key × Dv) :=
  if (kvs.any fun kv => decide (kv.1 = k)) = true then kvs.map (fun kv => if kv.1 = k then (kv.1, v) else kv) else kvs ++ [(k, v)]
theorem val_some {k : Key} : ∀ {kvs : List (Key × V)} {kds : List (Key × Dv)} {d : Dv}, kvs.map (·.1) = kds.map (·.1) → AtAll c ρ G (kvs.map (·.2)) (kds.map (·.2)) → valD kds k = some d → ∃ v, valV kvs k = some v ∧ At c ρ G v d
  | [], [], _, _, _, e => by cases e
  | [], _ :: _, _, hk, _, _ => by cases hk
  | _ :: _, [], _, hk, _, _ => by cases hk
  | (k1, v) :: r, (k2, d') :: r', d, hk, ha, e => by
    simp only [List.map_cons, List.cons.injEq] at hk
    obtain ⟨rfl, hk⟩ := hk
    cases ha with
    | cons h1 h2 =>
      by_cases hh : k1 = k
      · have e1 : valD ((k1, d') :: r') k = some d' := by simp [valD, hh]
        rw [e1] at e
        cases e
        exact ⟨v, valV_pos hh, h1⟩
      · have e1 : valD ((k1, d') :: r') k = valD r' k := by simp [valD, hh]
        rw [e1] at e
        rw [valV_neg hh]
        exact val_some hk h2 e
theorem val_none {k : Key} : ∀ {kvs : List (Key × V)} {kds : List (Key × Dv)}, kvs.map (·.1) = kds.map (·.1) → valD kds k = none → valV kvs k = none
  | [], [], _, _ => rfl
  | [], _ :: _, hk, _ => by cases hk
  | _ :: _, [], hk, _ => by cases hk
  | (k1, v) :: r, (k2, d') :: r', hk, e => by
    simp only [List.map_cons, List.cons.injEq] at hk
    obtain ⟨rfl, hk⟩ := hk
    by_cases hh : k1 = k
    · have e1 : valD ((k1, d') :: r') k = some d' := by simp [valD, hh]
      rw [e1] at e
      cases e
    · have e1 : valD ((k1, d') :: r') k = valD r' k := by simp [valD, hh]
      rw [e1] at e
      rw [valV_neg hh]
      exact val_none hk e
theorem any_key {k : Key} : ∀ {kvs : List (Key × V)} {kds : List (Key × Dv)}, kvs.map (·.1) = kds.map (·.1) → (kvs.any fun kv => decide (kv.1 = k)) = kds.any fun kv => decide (kv.1 = k)
  | [], [], _ => rfl
  | [], _ :: _, hk => by cases hk
  | _ :: _, [], hk => by cases hk
  | (k1, v) :: r, (k2, d') :: r', hk => by
    simp only [List.map_cons, List.cons.injEq] at hk
    obtain ⟨rfl, hk⟩ := hk
    simp only [List.any_cons]
    rw [any_key hk]
theorem put_keys {kvs : List (Key × V)} {kds : List (Key × Dv)} {k : Key} {v : V} {d : Dv} (hk : kvs.map (·.1) = kds.map (·.1)) : (putK kvs k v).map (·.1) = (putD kds k d).map (·.1) := by
  unfold putK putD
  rw [any_key hk]
  by_cases h : (kds.any fun kv => decide (kv.1 = k)) = true
  · rw [if_pos h, if_pos h, List.map_map, List.map_map]
    have e1 : ((fun x : Key × V => x.1) ∘ fun kv : Key × V => if kv.1 = k then (kv.1, v) else kv) = fun x => x.1 := by
      funext x; simp only [Function.comp]; split <;> rfl
    have e2 : ((fun x : Key × Dv => x.1) ∘ fun kv : Key × Dv => if kv.1 = k then (kv.1, d) else kv) = fun x => x.1 := by
      funext x; simp only [Function.comp]; split <;> rfl
    rw [e1, e2]; exact hk
  · rw [if_neg h, if_neg h, List.map_append, List.map_append, hk]; rfl
theorem put_vals {k : Key} {v : V} {d : Dv} (hv : At c ρ G v d) {kvs : List (Key × V)} {kds : List (Key × Dv)} (hk : kvs.map (·.1) = kds.map (·.1)) (ha : AtAll c ρ G (kvs.map (·.2)) (kds.map (·.2))) : AtAll c ρ G ((putK kvs k v).map (·.2)) ((putD kds k d).map (·.2)) := by
  have aux : ∀ {kvs : List (Key × V)} {kds : List (Key × Dv)}, kvs.map (·.1) = kds.map (·.1) → AtAll c ρ G (kvs.map (·.2)) (kds.map (·.2)) → AtAll c ρ G ((kvs.map fun kv => if kv.1 = k then (kv.1, v) else kv).map (·.2)) ((kds.map fun kv => if kv.1 = k then (kv.1, d) else kv).map (·.2)) := by
    intro kvs
    induction kvs with
    | nil =>
      intro kds hk ha
      cases kds with
      | nil => exact .nil
      | cons _ _ => cases hk
    | cons p r ih =>
      intro kds hk ha
      cases kds with
      | nil => cases hk
      | cons p' r' =>
        obtain ⟨k1, w⟩ := p
        obtain ⟨k2, d'⟩ := p'
        simp only [List.map_cons, List.cons.injEq] at hk
        obtain ⟨rfl, hk⟩ := hk
        cases ha with
        | cons h1 h2 =>
          have := ih hk h2
          by_cases hh : k1 = k
          · simp only [List.map_cons, if_pos hh]
            exact .cons hv this
          · simp only [List.map_cons, if_neg hh]
            exact .cons h1 this
  unfold putK putD
  rw [any_key hk]
  by_cases h : (kds.any fun kv => decide (kv.1 = k)) = true
  · rw [if_pos h, if_pos h]
    exact aux hk ha
  · rw [if_neg h, if_neg h, List.map_append, List.map_append]
    exact ha.append (.one hv)
def mDGet (a b : ES) : ES := fun E α μ Q => a E α μ fun d μ1 => b E α μ1 fun y μ2 => ∃ kvs k x, dcV μ2 d = some kvs ∧ keyD y = some k ∧ valD kvs k = some x ∧ Q x μ2
theorem se_dget {ta tb : TE} {a b : ES} (ha : SE c E ta a) (hb : SE c E tb b) : SE c E (tDGet ta tb) (mDGet a b) := by
  refine ⟨?_⟩
  intro ρ G H σ α μ Q E' Q' R e px q h
  refine ha R e px ?_ h
  intro d1 μ1 h1 x ρ1 G1 H1 s1 R1 a1
  refine hb R1 (s1.env e) (px.step s1) ?_ h1
  rintro d2 μ2 ⟨kvs, k, z, e1, e2, e3, h2⟩ y ρ2 G2 H2 s2 R2 a2
  obtain ⟨p, ws, rfl, h3, hk, t⟩ := dcV_ok R2 (s2.at_ a1) e1
  obtain rfl := keyD_ok a2 e2
  obtain ⟨v, h4, h5⟩ := val_some hk t e3
  refine ⟨p, v, rfl, ?_, (q.step (s1.trans s2)).here R2 h5 h2⟩
  have := DGet.k (k := k) h3
  rw [h4] at this
  exact this
theorem val_opt {k : Key} {kvs : List (Key × V)} {kds : List (Key × Dv)} (hk : kvs.map (·.1) = kds.map (·.1)) (ha : AtAll c ρ G (kvs.map (·.2)) (kds.map (·.2))) : (valV kvs k).isSome = (valD kds k).isSome := by
  cases q : valD kds k with
  | none => rw [val_none hk q]; rfl
  | some d =>
    obtain ⟨v, h4, _⟩ := val_some hk ha q
    rw [h4]; rfl
def mDIn (neg : Bool) (b a : ES) : ES := fun E α μ Q => b E α μ fun y μ1 => a E α μ1 fun d μ2 => ∃ kvs k, dcV μ2 d = some kvs ∧ keyD y = some k ∧ Q (.d (.bl (if neg = true then !(valD kvs k).isSome else (valD kvs k).isSome))) μ2
theorem se_dnotin {ta tb : TE} {a b : ES} (hb : SE c E tb b) (ha : SE c E ta a) : SE c E (tDNotIn tb ta) (mDIn true b a) := by
  refine ⟨?_⟩
  intro ρ G H σ α μ Q E' Q' R e px q h
  refine hb R e px ?_ h
  intro d1 μ1 h1 y ρ1 G1 H1 s1 R1 a1
  refine ha R1 (s1.env e) (px.step s1) ?_ h1
  rintro d2 μ2 ⟨kvs, k, e1, e2, h2⟩ x ρ2 G2 H2 s2 R2 a2
  obtain ⟨p, ws, rfl, h3, hk, t⟩ := dcV_ok R2 a2 e1
  obtain rfl := keyD_ok a1 e2
  refine ⟨p, _, rfl, DGet.k (k := k) h3, ?_⟩
  rw [val_opt hk t]
  exact (q.step (s1.trans s2)).here R2 (.d (.bl _)) h2
/-- d.get(k) -/
def mDGet1 (a b : ES) : ES := fun E α μ Q => a E α μ fun d μ1 => (dcV μ1 d).isSome = true ∧ b E α μ1 fun y μ2 => ∃ kvs k, dcV μ2 d = some kvs ∧ keyD y = some k ∧ Q ((valD kvs k).getD (.d .non)) μ2
theorem se_dget1 {ta tb : TE} {a b : ES} (ha : SE c E ta a) (hb : SE c E tb b) : SE c E (tDGet1 ta tb) (mDGet1 a b) := by
  refine ⟨?_⟩
  intro ρ G H σ α μ Q E' Q' R e px q h
  refine ha R e px ?_ h
  rintro d1 μ1 ⟨hs, h1⟩ x ρ1 G1 H1 s1 R1 a1
  cases q0 : dcV μ1 d1 with
  | none => rw [q0] at hs; cases hs
  | some kk =>
    obtain ⟨p0, ws0, e0, h0, _⟩ := dcV_ok R1 a1 q0
    subst e0
    refine ⟨p0, rfl, .inl ⟨ws0, .inl h0⟩, ?_⟩
    refine hb R1 (s1.env e) (px.step s1) ?_ h1
    rintro d2 μ2 ⟨kvs, k, e1, e2, h2⟩ y ρ2 G2 H2 s2 R2 a2
    obtain ⟨p, ws, ep, h3, hk, t⟩ := dcV_ok R2 (s2.at_ a1) e1
    cases ep
    obtain rfl := keyD_ok a2 e2
    refine ⟨_, DGet.k (k := k) h3, ?_⟩
    cases q : valD kvs k with
    | none =>
      rw [q] at h2
      rw [val_none hk q]
      exact (PQ.step ‹_› (s1.trans s2)).here R2 (.d .non) h2
    | some d =>
      rw [q] at h2
      obtain ⟨v, h4, h5⟩ := val_some hk t q
      rw [h4]
      exact (PQ.step ‹_› (s1.trans s2)).here R2 h5 h2
end
end Mz
end
section
set_option Elab.async false
set_option linter.all false
set_option maxRecDepth 100000
set_option maxHeartbeats 4000000
namespace Mz
open PySem L2
/-! ### an object of one's own that is not yet told of -/
structure Ow (st : Addr) (ρ : List Addr) (G H : Hp) (D : Addr) (o : HO) : Prop where
  nr : D ∉ ρ
  ns : D ≠ st
  g : G D = none
  h : H D = some o
section
variable {c : Cn} {E : XK} {ρ ρ1 ρ0 : List Addr} {G H G1 H1 G0 H0 : Hp} {μ : MS} {D : Addr} {o o' : HO}
theorem Ow.step (w : Ow c.st ρ G H D o) (s : Stp c.st ρ G H ρ1 G1 H1) : Ow c.st ρ1 G1 H1 D o where
  nr := fun z => by
    rcases s.nw D z with h | h
    · exact w.nr h
    · rw [w.h] at h; cases h
  ns := w.ns
  g := by
    cases q : G1 D with
    | none => rfl
    | some u =>
      rcases s.fr D u q w.g with h | h
      · rw [w.h] at h; cases h
      · exact absurd h w.nr
  h := s.hh D o w.nr w.ns w.h
theorem Ow.new (R : Rel c ρ G H μ) (hD : H D = none) : Ow c.st ρ G (upd H D o) D o := ⟨R.new hD, R.newst hD, R.free hD, upd_same⟩
theorem Rel.owSet (R : Rel c ρ G H μ) (w : Ow c.st ρ G H D o) : Rel c ρ G (upd H D o') μ ∧ Ow c.st ρ G (upd H D o') D o' := by
  have g := (Gr.refl (M := [D]) R.gh).set (o := o') w.g (by rw [w.h]; simp) (.inr (by simp))
  exact ⟨R.keep (Same.refl _) g.gh (fun b u hb e => get_set (fun z => w.nr (by rw [← z]; exact hb)) e) (fun _ _ h => h) (R.so.set w.ns w.g), ⟨w.nr, w.ns, w.g, upd_same⟩⟩
/-- a step that began when D was free -/
theorem Stp.owSet (s : Stp c.st ρ0 G0 H0 ρ G H) (hD : H0 D = none) (w : Ow c.st ρ G H D o) : Stp c.st ρ0 G0 H0 ρ G (upd H D o') where
  pre := s.pre
  gg := s.gg
  hh := fun b u n1 n2 e => get_set (fun z => by rw [z, hD] at e; cases e) (s.hh b u n1 n2 e)
  dm := fun b e => by
    by_cases hb : b = D
    · rw [hb]; exact hD
    · rw [upd_ne hb] at e; exact s.dm b e
  fr := s.fr
  nw := s.nw
theorem Rel.adopt (R : Rel c ρ G H μ) {m : MO} (w : Ow c.st ρ G H D o) (h : ObAt c (ρ ++ [D]) G H D m) : Rel c (ρ ++ [D]) G H (μ ++ [m]) := by
  refine ⟨R.gh, by simp [R.len], ?_, ?_, R.so, ?_⟩
  · exact List.nodup_append.mpr ⟨R.nd, by simp, fun a ha b hb z => w.nr (by
      have : b = D := by simpa using hb
      rw [← this, ← z]; exact ha)⟩
  · intro n a o' h1 h2
    by_cases hl : n < ρ.length
    · rw [List.getElem?_append_left hl] at h1
      rw [List.getElem?_append_left (by rw [← R.len]; exact hl)] at h2
      refine (R.ob n a o' h1 h2).mono (Same.refl _) pre1 ?_ fun w e => e
      cases o' with
      | frz d => exact .inr ⟨d, rfl⟩
      | lst ds => obtain ⟨g, _⟩ := R.ob n a _ h1 h2; exact .inl g
      | dct ds => obtain ⟨g, _⟩ := R.ob n a _ h1 h2; exact .inl g
      | ins C ds => obtain ⟨g, _⟩ := R.ob n a _ h1 h2; exact .inl g
      | lck _ _ ds => obtain ⟨g, _⟩ := R.ob n a _ h1 h2; exact .inl g
      | tb _ _ => obtain ⟨g, _⟩ := R.ob n a _ h1 h2; exact .inl g
    · have hz : n = ρ.length := by
        have := (List.getElem?_eq_some_iff.mp h1).1
        simp at this
        omega
      subst hz
      have e1 : D = a := by simpa using h1
      have e2 : m = o' := by
        rw [R.len] at h2
        simpa using h2
      subst e1
      subst e2
      exact h
  · intro z
    rcases List.mem_append.mp z with z | z
    · exact R.sn z
    · have : c.st = D := by simpa using z
      exact w.ns this.symm
theorem Stp.adopt (s : Stp c.st ρ0 G0 H0 ρ G H) (hD : H0 D = none) : Stp c.st ρ0 G0 H0 (ρ ++ [D]) G H where
  pre := by
    obtain ⟨l, rfl⟩ := s.pre
    exact ⟨l ++ [D], by simp⟩
  gg := s.gg
  hh := s.hh
  dm := s.dm
  fr := s.fr
  nw := fun b h => by
    rcases List.mem_append.mp h with h | h
    · exact s.nw b h
    · have : b = D := by simpa using h
      rw [this]; exact .inr hD
theorem Rel.lastOb (R : Rel c ρ G H μ) : (ρ ++ [D])[μ.length]? = some D := by rw [← R.len]; simp
/-! ### a written dict -/
def mPairs : List (ES × ES) → XS → Env' → MS → (List (Dv × Dv) → MS → Prop) → Prop
  | [], _, _, μ, Q => Q [] μ
  | (k, v) :: r, E, α, μ, Q => k E α μ fun x μ1 => v E α μ1 fun y μ2 => mPairs r E α μ2 fun ps μ3 => Q ((x, y) :: ps) μ3
inductive SPr (c : Cn) (E : XK) : List (TE × TE) → List (ES × ES) → Prop
  | nil : SPr c E [] []
  | cons {tk tv : TE} {k v : ES} {tr : List (TE × TE)} {r : List (ES × ES)} : SE c E tk k → SE c E tv v → SPr c E tr r → SPr c E ((tk, tv) :: tr) ((k, v) :: r)
theorem pairs_ok : ∀ {trs : List (TE × TE)} {ps : List (ES × ES)}, SPr c E trs ps → ∀ {ρ : List Addr} {G H : Hp} {σ : St} {α : Env'} {μ : MS} {Q : List (V × V) → Hp → Prop} {E' : XS} {Q' : List (Dv × Dv) → MS → Prop}, Rel c ρ G H μ → EnvOk c ρ G σ α → PX c ρ G H E E' →
    (∀ ds μ', Q' ds μ' → ∀ vs ρ' G' H', Stp c.st ρ G H ρ' G' H' → Rel c ρ' G' H' μ' → AtAll c ρ' G' (vs.map (·.1)) (ds.map (·.1)) → AtAll c ρ' G' (vs.map (·.2)) (ds.map (·.2)) → Q vs H') → mPairs ps E' α μ Q' → tPairs trs σ H Q
  | _, _, .nil, _, _, _, _, _, _, _, _, _, R, e, px, q, h => q _ _ h [] _ _ _ Stp.refl R .nil .nil
  | _, _, .cons hk hv hr, _, _, _, _, _, _, _, _, _, R, e, px, q, h => by
    refine hk R e px ?_ h
    intro d1 μ1 h1 x ρ1 G1 H1 s1 R1 a1
    refine hv R1 (s1.env e) (px.step s1) ?_ h1
    intro d2 μ2 h2 y ρ2 G2 H2 s2 R2 a2
    have s02 := s1.trans s2
    refine pairs_ok hr R2 (s02.env e) (px.step s02) ?_ h2
    intro ds μ3 h3 vs ρ3 G3 H3 s3 R3 b1 b2
    exact q _ _ h3 _ _ _ _ (s02.trans s3) R3 (.cons ((s2.trans s3).at_ a1) b1) (.cons (s3.at_ a2) b2)
def keysD : List (Dv × Dv) → Option (List (Key × Dv))
  | [] => some []
  | (k, v) :: r => match keyD k, keysD r with
    | some k, some r => some ((k, v) :: r)
    | _, _ => none
def mergeD (kvs more : List (Key × Dv)) : List (Key × Dv) := more.foldl (fun acc kv => putD acc kv.1 kv.2) kvs
theorem keysD_ok : ∀ {vs : List (V × V)} {ds : List (Dv × Dv)} {kds : List (Key × Dv)}, keysD ds = some kds → AtAll c ρ G (vs.map (·.1)) (ds.map (·.1)) → AtAll c ρ G (vs.map (·.2)) (ds.map (·.2)) →
    ∃ kvs : List (Key × V), vs = kvs.map (fun kv => (kV kv.1, kv.2)) ∧ kvs.map (·.1) = kds.map (·.1) ∧ AtAll c ρ G (kvs.map (·.2)) (kds.map (·.2))
  | [], [], _, e, _, _ => by cases e; exact ⟨[], rfl, rfl, .nil⟩
  | [], _ :: _, _, _, h, _ => by cases h
  | _ :: _, [], _, _, h, _ => by cases h
  | (x, y) :: vs, (k, v) :: r, kds, e, h1, h2 => by
    simp only [keysD] at e
    cases q1 : keyD k with
    | none => rw [q1] at e; cases e
    | some k' =>
      cases q2 : keysD r with
      | none => rw [q1, q2] at e; cases e
      | some r' =>
        rw [q1, q2] at e
        cases e
        cases h1 with
        | cons a1 t1 =>
          cases h2 with
          | cons a2 t2 =>
            obtain ⟨kvs, e1, e2, e3⟩ := keysD_ok q2 t1 t2
            have := keyD_ok a1 q1
            refine ⟨(k', y) :: kvs, ?_, ?_, .cons a2 e3⟩
            · rw [e1]; simp only [List.map_cons]; rw [← this]
            · simp only [List.map_cons]; rw [e2]
theorem merge_ok : ∀ {more : List (Key × V)} {mored : List (Key × Dv)} {kvs : List (Key × V)} {kds : List (Key × Dv)}, kvs.map (·.1) = kds.map (·.1) → AtAll c ρ G (kvs.map (·.2)) (kds.map (·.2)) → more.map (·.1) = mored.map (·.1) → AtAll c ρ G (more.map (·.2)) (mored.map (·.2)) →
    (mergeK kvs more).map (·.1) = (mergeD kds mored).map (·.1) ∧ AtAll c ρ G ((mergeK kvs more).map (·.2)) ((mergeD kds mored).map (·.2))
  | [], [], _, _, h1, h2, _, _ => ⟨h1, h2⟩
  | [], _ :: _, _, _, _, _, h, _ => by cases h
  | _ :: _, [], _, _, _, _, h, _ => by cases h
  | (k, v) :: r, (k', d) :: r', kvs, kds, h1, h2, h3, h4 => by
    simp only [List.map_cons, List.cons.injEq] at h3
    obtain ⟨rfl, h3⟩ := h3
    cases h4 with
    | cons a t => exact merge_ok (kvs := putK kvs k v) (kds := putD kds k d) (put_keys h1) (put_vals a h1 h2) h3 t
def mDisp (ps : List (ES × ES)) : ES := fun E α μ Q => mPairs ps E α μ fun ds μ1 => ∃ kds, keysD ds = some kds ∧ kds.length ≤ 15 ∧ Q (.ob μ1.length) (μ1 ++ [.dct (mergeD [] kds)])
theorem se_disp {trs : List (TE × TE)} {ps : List (ES × ES)} (hp : SPr c E trs ps) : SE c E (tDisp trs) (mDisp ps) := by
  refine ⟨?_⟩
  intro ρ G H σ α μ Q E' Q' R e px q h p hpn
  obtain ⟨R0, s0⟩ := R.junk (u := .dK []) hpn
  have w0 : Ow c.st ρ G (upd H p (.dK [])) p (.dK []) := Ow.new R hpn
  refine pairs_ok hp R0 (s0.env e) (px.step s0) ?_ h
  rintro ds μ1 ⟨kds, e1, hl, h1⟩ vs ρ1 G1 H1 s1 R1 b1 b2
  obtain ⟨kvs, e2, e3, e4⟩ := keysD_ok e1 b1 b2
  have w1 := w0.step s1
  obtain ⟨m1, m2⟩ := merge_ok (c := c) (ρ := ρ1) (G := G1) (kvs := []) (kds := []) rfl .nil e3 e4
  obtain ⟨R2, w2⟩ := R1.owSet (o' := .dK (mergeK [] kvs)) w1
  have s2 : Stp c.st ρ G H ρ1 G1 (upd H1 p (.dK (mergeK [] kvs))) := (s0.trans s1).owSet hpn w1
  refine ⟨w1.h, kvs, e2, by have := congrArg List.length e3; simp at this; omega, ?_⟩
  refine q _ _ h1 _ _ _ _ (s2.adopt hpn) (R2.adopt w2 ⟨w2.g, _, w2.h, m1, m2.mono (Same.refl _) pre1⟩) (.ob R2.lastOb)
/-! ### attributes -/
def mFld (C : Addr) (f : Str) (a : ES) : ES := fun E α μ Q => a E α μ fun d μ1 => ∃ fs x, isV μ1 d = some (C, fs) ∧ fs.lookup f = some x ∧ Q x μ1
theorem se_fld {C : Addr} {f : Str} {ta : TE} {a : ES} (hC : Cls c.K C) (hN : NoAttr c.K C f) (ha : SE c E ta a) : SE c E (tFld c.K ta f) (mFld C f a) := by
  refine ⟨?_⟩
  intro ρ G H σ α μ Q E' Q' R e px q h
  refine ha R e px ?_ h
  rintro d1 μ1 ⟨fs, y, e1, e2, h1⟩ x ρ1 G1 H1 s1 R1 a1
  obtain ⟨p, dx, fvs, rfl, h2, hk, t⟩ := isV_ok R1 a1 e1
  obtain ⟨v, h3, h4⟩ := ents_get hk t e2
  exact ⟨p, C, dx, fvs, v, rfl, h2, hC, hN, h3, (q.step s1).here R1 h4 h1⟩
/-- o.f where o is of a class that is not known ahead -/
def putFD (f : Str) (v : Dv) : List (Str × Dv) → List (Str × Dv)
  | [] => [(f, v)]
  | (g, x) :: r => if g = f then (g, v) :: r else (g, x) :: putFD f v r
theorem putF_keys {f : Str} {v : V} {d : Dv} : ∀ {kvs : List (Str × V)} {kds : List (Str × Dv)}, kvs.map (·.1) = kds.map (·.1) → (putF f v kvs).map (·.1) = (putFD f d kds).map (·.1)
  | [], [], _ => rfl
  | [], _ :: _, hk => by cases hk
  | _ :: _, [], hk => by cases hk
  | (k1, w) :: r, (k2, d') :: r', hk => by
    simp only [List.map_cons, List.cons.injEq] at hk
    obtain ⟨rfl, hk⟩ := hk
    simp only [putF, putFD]
    by_cases h : k1 = f
    · rw [if_pos h, if_pos h]; simp only [List.map_cons]; rw [hk]
    · rw [if_neg h, if_neg h]; simp only [List.map_cons]; rw [putF_keys hk]
theorem putF_vals {f : Str} {v : V} {d : Dv} (hv : At c ρ G v d) : ∀ {kvs : List (Str × V)} {kds : List (Str × Dv)}, kvs.map (·.1) = kds.map (·.1) → AtAll c ρ G (kvs.map (·.2)) (kds.map (·.2)) → AtAll c ρ G ((putF f v kvs).map (·.2)) ((putFD f d kds).map (·.2))
  | [], [], _, _ => .cons hv .nil
  | [], _ :: _, hk, _ => by cases hk
  | _ :: _, [], hk, _ => by cases hk
  | (k1, w) :: r, (k2, d') :: r', hk, ha => by
    simp only [List.map_cons, List.cons.injEq] at hk
    obtain ⟨rfl, hk⟩ := hk
    cases ha with
    | cons h1 h2 =>
      simp only [putF, putFD]
      by_cases h : k1 = f
      · rw [if_pos h, if_pos h]; exact .cons hv h2
      · rw [if_neg h, if_neg h]; exact .cons h1 (putF_vals hv hk h2)
end
/-! ### statements -/
structure En where
  nx : Env' → MS → Prop
  rt : DK
  bk : Env' → MS → Prop := fun _ _ => False
  ct : Env' → MS → Prop := fun _ _ => False
  er : XS := fun _ _ => False
abbrev BS := En → Env' → MS → Prop
def PN (c : Cn) (ρ : List Addr) (G H : Hp) (N : St → Hp → Prop) (N' : Env' → MS → Prop) : Prop := ∀ α' μ', N' α' μ' → ∀ σ' ρ' G' H', Stp c.st ρ G H ρ' G' H' → Rel c ρ' G' H' μ' → EnvOk c ρ' G' σ' α' → N σ' H'
structure PD (c : Cn) (ρ : List Addr) (G H : Hp) (E : XK) (D : Ends) (D' : En) : Prop where
  nx : PN c ρ G H D.nx D'.nx
  rt : PQ c ρ G H D.rt D'.rt
  bk : PN c ρ G H D.bk D'.bk
  ct : PN c ρ G H D.ct D'.ct
  er : PX c ρ G H E D'.er
structure SS (c : Cn) (E : XK) (t : TS) (m : BS)  : Prop where
  run : ∀ {ρ : List Addr} {G H : Hp} {σ : St} {α : Env'} {μ : MS} {D : Ends} {D' : En}, Rel c ρ G H μ → EnvOk c ρ G σ α → PD c ρ G H E D D' → m D' α μ → t D σ H
instance (c : Cn) (E : XK) (t : TS) (m : BS)  : CoeFun (SS c E t m) fun _ => ∀ {ρ : List Addr} {G H : Hp} {σ : St} {α : Env'} {μ : MS} {D : Ends} {D' : En}, Rel c ρ G H μ → EnvOk c ρ G σ α → PD c ρ G H E D D' → m D' α μ → t D σ H := ⟨fun h => h.run⟩
section
variable {c : Cn} {E : XK} {ρ ρ1 : List Addr} {G H G1 H1 : Hp} {μ : MS}
theorem PN.step {N : St → Hp → Prop} {N' : Env' → MS → Prop} (h : PN c ρ G H N N') (s : Stp c.st ρ G H ρ1 G1 H1) : PN c ρ1 G1 H1 N N' := fun α' μ' x σ' ρ' G' H' s' R' e => h α' μ' x σ' ρ' G' H' (s.trans s') R' e
theorem PD.step {D : Ends} {D' : En} (h : PD c ρ G H E D D') (s : Stp c.st ρ G H ρ1 G1 H1) : PD c ρ1 G1 H1 E D D' := ⟨h.nx.step s, h.rt.step s, h.bk.step s, h.ct.step s, h.er.step s⟩
def bNext : BS := fun D α μ => D.nx α μ
def bSeq (a b : BS) : BS := fun D α μ => a { D with nx := b D } α μ
def bDrop (a : ES) : BS := fun D α μ => a D.er α μ fun _ μ1 => D.nx α μ1
def bRet (a : ES) : BS := fun D α μ => a D.er α μ D.rt
def bIf (t : TS') (a b : BS) : BS := fun D α μ => t D.er α μ fun k μ1 => if k = true then a D α μ1 else b D α μ1
theorem ss_next : SS c E tNext bNext := ⟨fun R e p h => p.nx _ _ h _ _ _ _ Stp.refl R e⟩
theorem ss_seq {t u : TS} {a b : BS} (ha : SS c E t a) (hb : SS c E u b) : SS c E (tSeq t u) (bSeq a b) := by
  refine ⟨?_⟩
  intro ρ G H σ α μ D D' R e p h
  refine ha.run (D := { D with nx := u D }) (D' := { D' with nx := b D' }) R e ⟨?_, p.rt, p.bk, p.ct, p.er⟩ h
  intro α' μ' x σ' ρ' G' H' s' R' e'
  exact hb R' e' (p.step s') x
theorem ss_drop {ta : TE} {a : ES} (ha : SE c E ta a) : SS c E (tDrop ta) (bDrop a) := by
  refine ⟨?_⟩
  intro ρ G H σ α μ D D' R e p h
  refine ha R e p.er ?_ h
  intro d μ1 h1 v ρ1 G1 H1 s1 R1 a1
  exact p.nx _ _ h1 _ _ _ _ s1 R1 (s1.env e)
theorem ss_ret {ta : TE} {a : ES} (ha : SE c E ta a) : SS c E (tRet ta) (bRet a) := ⟨fun R e p h => ha R e p.er p.rt h⟩
theorem ss_if {tt : TT} {t u : TS} {k : TS'} {a b : BS} (ht : ST c E tt k) (ha : SS c E t a) (hb : SS c E u b) : SS c E (tIfS tt t u) (bIf k a b) := by
  refine ⟨?_⟩
  intro ρ G H σ α μ D D' R e p h
  refine ht R e p.er ?_ h
  intro k μ1 h1 ρ1 G1 H1 s1 R1
  cases k with
  | true => exact ha R1 (s1.env e) (p.step s1) h1
  | false => exact hb R1 (s1.env e) (p.step s1) h1
/-! targets -/
abbrev GS := Dv → XS → Env' → MS → (Env' → MS → Prop) → Prop
abbrev GSs := List Dv → XS → Env' → MS → (Env' → MS → Prop) → Prop
structure SG (c : Cn) (E : XK) (t : TG) (g : GS)  : Prop where
  run : ∀ {ρ : List Addr} {G H : Hp} {σ : St} {α : Env'} {μ : MS} {v : V} {d : Dv} {N : St → Hp → Prop} {N' : Env' → MS → Prop} {E' : XS}, Rel c ρ G H μ → EnvOk c ρ G σ α → At c ρ G v d → PX c ρ G H E E' → PN c ρ G H N N' → g d E' α μ N' → t v σ H N
instance (c : Cn) (E : XK) (t : TG) (g : GS)  : CoeFun (SG c E t g) fun _ => ∀ {ρ : List Addr} {G H : Hp} {σ : St} {α : Env'} {μ : MS} {v : V} {d : Dv} {N : St → Hp → Prop} {N' : Env' → MS → Prop} {E' : XS}, Rel c ρ G H μ → EnvOk c ρ G σ α → At c ρ G v d → PX c ρ G H E E' → PN c ρ G H N N' → g d E' α μ N' → t v σ H N := ⟨fun h => h.run⟩
structure SGs (c : Cn) (E : XK) (t : TGs) (g : GSs)  : Prop where
  run : ∀ {ρ : List Addr} {G H : Hp} {σ : St} {α : Env'} {μ : MS} {v : List V} {d : List Dv} {N : St → Hp → Prop} {N' : Env' → MS → Prop} {E' : XS}, Rel c ρ G H μ → EnvOk c ρ G σ α → AtAll c ρ G v d → PX c ρ G H E E' → PN c ρ G H N N' → g d E' α μ N' → t v σ H N
instance (c : Cn) (E : XK) (t : TGs) (g : GSs)  : CoeFun (SGs c E t g) fun _ => ∀ {ρ : List Addr} {G H : Hp} {σ : St} {α : Env'} {μ : MS} {v : List V} {d : List Dv} {N : St → Hp → Prop} {N' : Env' → MS → Prop} {E' : XS}, Rel c ρ G H μ → EnvOk c ρ G σ α → AtAll c ρ G v d → PX c ρ G H E E' → PN c ρ G H N N' → g d E' α μ N' → t v σ H N := ⟨fun h => h.run⟩
def nName (i : Nat) : GS := fun d _ α μ N => N (α.set i (some d)) μ
def nNil : GSs := fun ds _ α μ N => ds = [] ∧ N α μ
def nCons (g : GS) (r : GSs) : GSs := fun ds E α μ N => ∃ d rest, ds = d :: rest ∧ g d E α μ fun α1 μ1 => r rest E α1 μ1 N
def nTup (n : Nat) (r : GSs) : GS := fun d E α μ N => ∃ ds, tpV d = some ds ∧ ds.length = n ∧ r ds E α μ N
def nSeq (n : Nat) (r : GSs) : GS := fun d E α μ N => ∃ ds, sqV μ d = some ds ∧ ds.length = n ∧ r ds E α μ N
theorem sg_name (i : Nat) : SG c E (gName i) (nName i) := ⟨fun R e a px p h => p _ _ h _ _ _ _ Stp.refl R (e.set a i)⟩
theorem sg_nil : SGs c E gNil nNil := by
  refine ⟨?_⟩
  rintro ρ G H σ α μ v d N N' E' R e a px p ⟨rfl, h⟩
  cases a
  exact ⟨rfl, p _ _ h _ _ _ _ Stp.refl R e⟩
theorem sg_cons {t : TG} {u : TGs} {g : GS} {r : GSs} (hg : SG c E t g) (hr : SGs c E u r) : SGs c E (gCons t u) (nCons g r) := by
  refine ⟨?_⟩
  rintro ρ G H σ α μ v d N N' E' R e a px p ⟨d1, rest, rfl, h⟩
  cases a with
  | cons a1 a2 =>
    refine ⟨_, _, rfl, ?_⟩
    refine hg R e a1 px ?_ h
    intro α' μ' x σ' ρ' G' H' s' R' e'
    exact hr R' e' (s'.all a2) (px.step s') (p.step s') x
theorem sg_tup {n : Nat} {u : TGs} {r : GSs} (hr : SGs c E u r) : SG c E (gTup c.K n u) (nTup n r) := by
  refine ⟨?_⟩
  rintro ρ G H σ α μ v d N N' E' R e a px p ⟨ds, e1, hl, h⟩
  obtain ⟨q, vs, rfl, h1, t⟩ := tpV_ok R.gh a e1
  exact ⟨q, vs, rfl, h1, by rw [t.length]; exact hl, hr R e t px p h⟩
theorem sg_seq {n : Nat} {u : TGs} {r : GSs} (hr : SGs c E u r) : SG c E (gSeq c.K n u) (nSeq n r) := by
  refine ⟨?_⟩
  rintro ρ G H σ α μ v d N N' E' R e a px p ⟨ds, e1, hl, h⟩
  obtain ⟨q, vs, rfl, h1, t⟩ := sqV_ok R a e1
  refine ⟨.mk, ?_⟩
  rcases h1 with h1 | h1
  · exact .inr ⟨q, vs, rfl, SqL.of h1, by rw [t.length]; exact hl, hr R e t px p h⟩
  · exact .inl ⟨q, vs, rfl, h1, by rw [t.length]; exact hl, hr R e t px p h⟩
def bAsg (a : ES) (g : GS) : BS := fun D α μ => a D.er α μ fun d μ1 => g d D.er α μ1 D.nx
theorem ss_asg {ta : TE} {tg : TG} {a : ES} {g : GS} (ha : SE c E ta a) (hg : SG c E tg g) : SS c E (tAsg ta tg) (bAsg a g) := by
  refine ⟨?_⟩
  intro ρ G H σ α μ D D' R e p h
  refine ha R e p.er ?_ h
  intro d μ1 h1 v ρ1 G1 H1 s1 R1 a1
  exact hg R1 (s1.env e) a1 (p.er.step s1) (p.nx.step s1) h1
def bPar (i j : Nat) (a : AS) : BS := fun D α μ => a D.er α μ fun ds μ1 => ∃ d1 d2, ds = [d1, d2] ∧ D.nx ((α.set i (some d1)).set j (some d2)) μ1
theorem ss_par {i j : Nat} {ta : TA} {a : AS} (ha : SA c E ta a) : SS c E (tPar i j ta) (bPar i j a) := by
  refine ⟨?_⟩
  intro ρ G H σ α μ D D' R e p h
  refine ha R e p.er ?_ h
  rintro ds μ1 ⟨d1, d2, rfl, h1⟩ vs ρ1 G1 H1 s1 R1 a1
  obtain ⟨v, w, rfl, b1, b2⟩ := a1.two
  exact ⟨v, w, rfl, p.nx _ _ h1 _ _ _ _ s1 R1 (((s1.env e).set b1 i).set b2 j)⟩
/-- o.f = e -/
def bFld (C : Addr) (f : Str) (o a : ES) : BS := fun D α μ => a D.er α μ fun y μ1 => o D.er α μ1 fun d μ2 => ∃ n fs, d = .ob n ∧ μ2[n]? = some (.ins C fs) ∧ fs.length < 1000 ∧ D.nx α (μ2.set n (.ins C (putFD f y fs)))
theorem ss_fld {C : Addr} {f : Str} {to ta : TE} {o a : ES} (hC : Cls c.K C) (hN : NoAttr c.K C f) (ho : SE c E to o) (ha : SE c E ta a) : SS c E (sFld c.K to ta f) (bFld C f o a) := by
  refine ⟨?_⟩
  intro ρ G H σ α μ D D' R e p h
  refine ha R e p.er ?_ h
  intro d μ1 h1 v ρ1 G1 H1 s1 R1 a1
  refine ho R1 (s1.env e) (p.er.step s1) ?_ h1
  rintro d2 μ2 ⟨n, fs, rfl, hn, hl, h2⟩ x ρ2 G2 H2 s2 R2 a2
  obtain ⟨q, rfl, hp, g, dx, ws, h3, hk, h4⟩ := R2.at_ob a2 hn
  have a1' := s2.at_ a1
  obtain ⟨R3, s3⟩ := R2.put (u := .ins C dx (putF f v ws)) (o' := .ins C (putFD f d fs)) hp hn (fun _ z => by cases z) ⟨g, dx, _, upd_same, putF_keys hk, putF_vals a1' hk h4⟩
  refine ⟨q, C, dx, ws, rfl, h3, hC, hN, ?_, ?_⟩
  · have := congrArg List.length hk
    simp at this
    omega
  · exact p.nx _ _ h2 _ _ _ _ ((s1.trans s2).trans s3) R3 (((s1.trans s2).trans s3).env e)
end
end Mz
end
section
set_option Elab.async false
set_option linter.all false
set_option maxRecDepth 100000
set_option maxHeartbeats 4000000
namespace Mz
open PySem L2
/-! ### what is walked -/
structure IW where
  items : List Dv
  gd : MS → Prop
structure WOk (c : Cn) (ρ0 : List Addr) (G0 H0 : Hp) (J : It) (w : IW) : Prop where
  goes : ∀ {ρ : List Addr} {G H : Hp} {μ : MS} (i : Nat), Stp c.st ρ0 G0 H0 ρ G H → Rel c ρ G H μ → w.gd μ → i < w.items.length → J.go i H
  stops : ∀ {ρ : List Addr} {G H : Hp} {μ : MS}, Stp c.st ρ0 G0 H0 ρ G H → Rel c ρ G H μ → w.gd μ → J.stop w.items.length H
  yields : ∀ {ρ : List Addr} {G H : Hp} {μ : MS} {i : Nat} {x : V} {H' : Hp}, Stp c.st ρ0 G0 H0 ρ G H → Rel c ρ G H μ → w.gd μ → i < w.items.length → J.yld i H x H' → ∃ d G', w.items[i]? = some d ∧ Rel c ρ G' H' μ ∧ Stp c.st ρ G H ρ G' H' ∧ At c ρ G' x d
abbrev IS := XS → Env' → MS → (IW → MS → Prop) → Prop
structure SI (c : Cn) (E : XK) (ti : TI) (mi : IS)  : Prop where
  run : ∀ {ρ : List Addr} {G H : Hp} {σ : St} {α : Env'} {μ : MS} {R : It → Hp → Prop} {E' : XS} {R' : IW → MS → Prop}, Rel c ρ G H μ → EnvOk c ρ G σ α → PX c ρ G H E E' →
  (∀ w μ', R' w μ' → ∀ J ρ' G' H', Stp c.st ρ G H ρ' G' H' → Rel c ρ' G' H' μ' → WOk c ρ' G' H' J w → R J H') → mi E' α μ R' → ti σ H R
instance (c : Cn) (E : XK) (ti : TI) (mi : IS)  : CoeFun (SI c E ti mi) fun _ => ∀ {ρ : List Addr} {G H : Hp} {σ : St} {α : Env'} {μ : MS} {R : It → Hp → Prop} {E' : XS} {R' : IW → MS → Prop}, Rel c ρ G H μ → EnvOk c ρ G σ α → PX c ρ G H E E' →
  (∀ w μ', R' w μ' → ∀ J ρ' G' H', Stp c.st ρ G H ρ' G' H' → Rel c ρ' G' H' μ' → WOk c ρ' G' H' J w → R J H') → mi E' α μ R' → ti σ H R := ⟨fun h => h.run⟩
section
variable {c : Cn} {E : XK} {ρ ρ0 : List Addr} {G H G0 H0 : Hp} {μ : MS}
/-- from a Walk -/
theorem WOk.of {J : It} {n : Nat} {Gd : Hp → Prop} {Y : Nat → Hp → V → Hp → Prop} {w : IW} (W : Walk J n Gd Y) (hn : n = w.items.length)
    (hg : ∀ {ρ : List Addr} {G H : Hp} {μ : MS}, Stp c.st ρ0 G0 H0 ρ G H → Rel c ρ G H μ → w.gd μ → Gd H)
    (hy : ∀ {ρ : List Addr} {G H : Hp} {μ : MS} {i : Nat} {x : V} {H' : Hp}, Stp c.st ρ0 G0 H0 ρ G H → Rel c ρ G H μ → w.gd μ → i < n → Y i H x H' → ∃ d G', w.items[i]? = some d ∧ Rel c ρ G' H' μ ∧ Stp c.st ρ G H ρ G' H' ∧ At c ρ G' x d) : WOk c ρ0 G0 H0 J w := by
  subst hn
  exact ⟨fun i s R g hi => W.goes i _ hi (hg s R g), fun s R g => W.stops _ (hg s R g), fun s R g hi y => hy s R g hi (W.yields _ _ _ _ hi (hg s R g) y)⟩
def iwSq (d : Dv) (ds : List Dv) : IW := ⟨ds, fun μ => sqV μ d = some ds⟩
def miSq (a : ES) : IS := fun E α μ R => a E α μ fun d μ1 => ∃ ds, sqV μ1 d = some ds ∧ R (iwSq d ds) μ1
theorem lsV_gd {d : Dv} {ds : List Dv} {μ μ' : MS} (h : lsV μ d = some ds) (h' : sqV μ' d = some ds) : lsV μ' d = some ds := by
  cases d with
  | d x =>
    cases x with
    | lst xs => exact h'
    | tup xs => cases h
    | _ => cases h
  | ob n => exact h'
  | tp xs => cases h
theorem Itl_go {K : PySem.W.Frag} {p : Addr} {vs : List V} {H : Hp} {i : Nat} (h : H p = some (.lst vs)) (hi : i < vs.length) : (Itl K p).go i H := ⟨vs, vs[i], SqL.of h, by simp [hi]⟩
theorem wok_sq {v : V} {d : Dv} {ds : List Dv} (a : At c ρ0 G0 v d) (e : lsV μ d = some ds) {p : Addr} (ep : v = .ref p) : WOk c ρ0 G0 H0 (Itl c.K p) (iwSq d ds) := by
  subst ep
  have at_ : ∀ {ρ : List Addr} {G H : Hp} {μ' : MS}, Stp c.st ρ0 G0 H0 ρ G H → Rel c ρ G H μ' → sqV μ' d = some ds → ∃ vs, H p = some (.lst vs) ∧ AtAll c ρ G vs ds := by
    intro ρ G H μ' s R g
    obtain ⟨q, vs, eq, h1, t⟩ := lsV_ok R (s.at_ a) (lsV_gd e g)
    cases eq
    exact ⟨vs, h1, t⟩
  refine ⟨fun i s R g hi => ?_, fun s R g => ?_, fun s R g hi y => ?_⟩
  · obtain ⟨vs, h1, t⟩ := at_ s R g
    exact Itl_go h1 (by rw [t.length]; exact hi)
  · obtain ⟨vs, h1, t⟩ := at_ s R g
    exact ⟨vs, SqL.of h1, by rw [t.length]; exact Nat.le_refl _⟩
  · obtain ⟨vs, h1, t⟩ := at_ s R g
    obtain ⟨rfl, hx⟩ := y
    obtain ⟨d', h2, h3⟩ := t.get (hx vs (SqL.of h1))
    exact ⟨d', _, h2, R, Stp.refl, h3⟩
theorem wok_tp {v : V} {d : Dv} {ds : List Dv} (a : At c ρ0 G0 v d) (e : tpV d = some ds) {p : Addr} (ep : v = .ref p) : WOk c ρ0 G0 H0 (Itt c.K p) (iwSq d ds) := by
  subst ep
  have at_ : ∀ {ρ : List Addr} {G H : Hp} {μ' : MS}, Stp c.st ρ0 G0 H0 ρ G H → Rel c ρ G H μ' → ∃ vs, SqT c.K H p vs ∧ AtAll c ρ G vs ds := by
    intro ρ G H μ' s R
    obtain ⟨q, vs, eq, h1, t⟩ := tpV_ok R.gh (s.at_ a) e
    cases eq
    exact ⟨vs, h1, t⟩
  refine ⟨fun i s R g hi => ?_, fun s R g => ?_, fun s R g hi y => ?_⟩
  · obtain ⟨vs, h1, t⟩ := at_ s R
    exact ⟨vs, vs[i]'(by rw [t.length]; exact hi), h1, by simp⟩
  · obtain ⟨vs, h1, t⟩ := at_ s R
    exact ⟨vs, h1, by rw [t.length]; exact Nat.le_refl _⟩
  · obtain ⟨vs, h1, t⟩ := at_ s R
    obtain ⟨rfl, hx⟩ := y
    obtain ⟨d', h2, h3⟩ := t.get (hx vs h1)
    exact ⟨d', _, h2, R, Stp.refl, h3⟩
theorem si_sq {ta : TE} {a : ES} (ha : SE c E ta a) : SI c E (iSq c.K ta) (miSq a) := by
  refine ⟨?_⟩
  intro ρ G H σ α μ R E' R' Rl e px r h
  refine ha Rl e px ?_ h
  rintro d μ1 ⟨ds, e1, h1⟩ v ρ1 G1 H1 s1 R1 a1
  refine ⟨.mk, ?_⟩
  rcases sqV_or e1 with e2 | e2
  · obtain ⟨p, vs, rfl, h2, t⟩ := lsV_ok R1 a1 e2
    exact ⟨p, rfl, .inl ⟨⟨vs, SqL.of h2⟩, r _ _ h1 _ _ _ _ s1 R1 (wok_sq a1 e2 rfl)⟩⟩
  · obtain ⟨p, vs, rfl, h2, t⟩ := tpV_ok R1.gh a1 e2
    exact ⟨p, rfl, .inr ⟨⟨vs, h2⟩, r _ _ h1 _ _ _ _ s1 R1 (wok_tp a1 e2 rfl)⟩⟩
/-! enumerate -/
def enumD (ds : List Dv) : List Dv := ds.zipIdx.map fun p => mkTup [.d (.int (p.2 : Nat)), p.1]
theorem enumD_len (ds : List Dv) : (enumD ds).length = ds.length := by unfold enumD; simp
theorem enumD_get {ds : List Dv} {i : Nat} {d : Dv} (h : ds[i]? = some d) : (enumD ds)[i]? = some (mkTup [.d (.int (i : Nat)), d]) := by
  unfold enumD
  rw [List.getElem?_map, List.getElem?_zipIdx, h]; simp
def iwEn (d : Dv) (ds : List Dv) : IW := ⟨enumD ds, fun μ => sqV μ d = some ds⟩
theorem new_pair {i : Nat} {x : V} {d : Dv} {T : Addr} (R : Rel c ρ G H μ) (hT : H T = none) (a : At c ρ G x d) : ∃ G', Rel c ρ G' (upd H T (.tup [.int (i : Nat), x])) μ ∧ Stp c.st ρ G H ρ G' (upd H T (.tup [.int (i : Nat), x])) ∧ At c ρ G' (.ref T) (mkTup [.d (.int (i : Nat)), d]) := by
  obtain ⟨R1, s1⟩ := R.newF (u := .tup [.int (i : Nat), x]) hT
  exact ⟨_, R1, s1, at_mk (SqT.of upd_same) (.cons (.d (.int _)) (.cons (s1.at_ a) .nil))⟩
theorem si_en {ta : TA} {a : ES} (ha : SA c E ta (mCons a mNil)) : SI c E (iEnSq c.K ta) (fun E α μ R => a E α μ fun d μ1 => ∃ ds, sqV μ1 d = some ds ∧ R (iwEn d ds) μ1) := by
  refine ⟨?_⟩
  intro ρ G H σ α μ R E' R' Rl e px r h
  refine ha.run (Q' := fun ds μ1 => ∃ d xs, ds = [d] ∧ sqV μ1 d = some xs ∧ R' (iwEn d xs) μ1) Rl e px ?_ ?_
  · rintro ds μ1 ⟨d, xs, rfl, e1, h1⟩ vs ρ1 G1 H1 s1 R1 a1
    obtain ⟨v, rfl, a1'⟩ := a1.sole
    refine ⟨.mk, ?_⟩
    rcases sqV_or e1 with e2 | e2
    · obtain ⟨p, vs, rfl, h2, t⟩ := lsV_ok R1 a1' e2
      refine ⟨p, vs, rfl, .inl ⟨SqL.of h2, r _ _ h1 _ _ _ _ s1 R1 ?_⟩⟩
      have at_ : ∀ {ρ : List Addr} {G H : Hp} {μ' : MS}, Stp c.st ρ1 G1 H1 ρ G H → Rel c ρ G H μ' → sqV μ' d = some xs → ∃ vs, H p = some (.lst vs) ∧ AtAll c ρ G vs xs := by
        intro ρ G H μ' s R g
        obtain ⟨q, vs, eq, h1, t⟩ := lsV_ok R (s.at_ a1') (lsV_gd e2 g)
        cases eq
        exact ⟨vs, h1, t⟩
      refine ⟨fun i s R g hi => ?_, fun s R g => ?_, fun s R g hi y => ?_⟩
      · obtain ⟨vs, h1, t⟩ := at_ s R g
        have : i < vs.length := by rw [t.length, ← enumD_len]; exact hi
        exact ⟨vs, vs[i], SqL.of h1, by simp [this]⟩
      · obtain ⟨vs, h1, t⟩ := at_ s R g
        exact ⟨vs, SqL.of h1, by rw [t.length]; show xs.length ≤ (enumD xs).length; rw [enumD_len]; exact Nat.le_refl _⟩
      · obtain ⟨vs, h1, t⟩ := at_ s R g
        obtain ⟨T, x, rfl, hT, rfl, hx⟩ := y
        obtain ⟨d', h2, h3⟩ := t.get (hx vs (SqL.of h1))
        obtain ⟨G', R2, s2, a2⟩ := new_pair R hT h3
        exact ⟨_, G', enumD_get h2, R2, s2, a2⟩
    · obtain ⟨p, vs, rfl, h2, t⟩ := tpV_ok R1.gh a1' e2
      refine ⟨p, vs, rfl, .inr ⟨h2, r _ _ h1 _ _ _ _ s1 R1 ?_⟩⟩
      have at_ : ∀ {ρ : List Addr} {G H : Hp} {μ' : MS}, Stp c.st ρ1 G1 H1 ρ G H → Rel c ρ G H μ' → ∃ vs, SqT c.K H p vs ∧ AtAll c ρ G vs xs := by
        intro ρ G H μ' s R
        obtain ⟨q, vs, eq, h1, t⟩ := tpV_ok R.gh (s.at_ a1') e2
        cases eq
        exact ⟨vs, h1, t⟩
      refine ⟨fun i s R g hi => ?_, fun s R g => ?_, fun s R g hi y => ?_⟩
      · obtain ⟨vs, h1, t⟩ := at_ s R
        have : i < vs.length := by rw [t.length, ← enumD_len]; exact hi
        exact ⟨vs, vs[i], h1, by simp [this]⟩
      · obtain ⟨vs, h1, t⟩ := at_ s R
        exact ⟨vs, h1, by rw [t.length]; show xs.length ≤ (enumD xs).length; rw [enumD_len]; exact Nat.le_refl _⟩
      · obtain ⟨vs, h1, t⟩ := at_ s R
        obtain ⟨T, x, rfl, hT, rfl, hx⟩ := y
        obtain ⟨d', h2, h3⟩ := t.get (hx vs h1)
        obtain ⟨G', R2, s2, a2⟩ := new_pair R hT h3
        exact ⟨_, G', enumD_get h2, R2, s2, a2⟩
  · show a E' α μ fun d μ1 => _
    have : (fun d μ1 => ∃ ds, sqV μ1 d = some ds ∧ R' (iwEn d ds) μ1) = fun d μ1 => ∃ d_1 xs, [d] = [d_1] ∧ sqV μ1 d_1 = some xs ∧ R' (iwEn d_1 xs) μ1 := by
      funext d μ1
      refine propext ⟨fun ⟨ds, h1, h2⟩ => ⟨d, ds, rfl, h1, h2⟩, fun ⟨d', xs, h0, h1, h2⟩ => ?_⟩
      have : d = d' := (List.cons.inj h0).1
      subst this
      exact ⟨xs, h1, h2⟩
    exact this ▸ h
def miEn (a : ES) : IS := fun E α μ R => a E α μ fun d μ1 => ∃ ds, sqV μ1 d = some ds ∧ R (iwEn d ds) μ1
/-! range -/
def rngD (lo : Int) (n : Nat) : List Dv := (List.range n).map fun i => .d (.int (lo + (i : Nat)))
def iwR (lo : Int) (n : Nat) : IW := ⟨rngD lo n, fun _ => True⟩
theorem wok_r {lo : Int} {n : Nat} : WOk c ρ0 G0 H0 (Itr lo n) (iwR lo n) := by
  refine WOk.of walk_range (by simp [iwR, rngD]) (fun _ _ _ => trivial) ?_
  rintro ρ G H μ i x H' s R g hi ⟨rfl, rfl⟩
  refine ⟨.d (.int (lo + (i : Nat))), G, ?_, R, Stp.refl, .d (.int _)⟩
  simp [iwR, rngD, hi]
def miR1 (a : AS) : IS := fun E α μ R => a E α μ fun ds μ1 => ∃ j : Int, ds = [.d (.int j)] ∧ (-(2 ^ 62) ≤ j ∧ j < 2 ^ 62) ∧ R (iwR 0 j.toNat) μ1
theorem si_r1 {ta : TA} {a : AS} (ha : SA c E ta a) : SI c E (iRng1 ta) (miR1 a) := by
  refine ⟨?_⟩
  intro ρ G H σ α μ R E' R' Rl e px r h
  refine ha Rl e px ?_ h
  rintro ds μ1 ⟨j, rfl, ⟨j1, j2⟩, h1⟩ vs ρ1 G1 H1 s1 R1 a1
  obtain ⟨v, rfl, b0⟩ := a1.sole
  obtain rfl := at_int b0
  exact ⟨j, rfl, j1, j2, r _ _ h1 _ _ _ _ s1 R1 wok_r⟩
/-! a text -/
def chrsD (s : Str) : List Dv := s.cps.toList.map fun k => .d (.str ⟨#[k]⟩)
def iwS (s : Str) : IW := ⟨chrsD s, fun _ => True⟩
def miStr (a : ES) : IS := fun E α μ R => a E α μ fun d μ1 => ∃ s, d = .d (.str s) ∧ R (iwS s) μ1
theorem si_str {ta : TE} {a : ES} (ha : SE c E ta a) : SI c E (iStr ta) (miStr a) := by
  refine ⟨?_⟩
  intro ρ G H σ α μ R E' R' Rl e px r h
  refine ha Rl e px ?_ h
  rintro d μ1 ⟨s, rfl, h1⟩ v ρ1 G1 H1 s1 R1 a1
  obtain rfl := at_str a1
  refine ⟨s, rfl, r _ _ h1 _ _ _ _ s1 R1 ?_⟩
  refine WOk.of walk_str (by simp [iwS, chrsD]) (fun _ _ _ => trivial) ?_
  rintro ρ G H μ i x H' s R g hi ⟨rfl, k, hk, rfl⟩
  refine ⟨.d (.str ⟨#[k]⟩), G, ?_, R, Stp.refl, .d (.str _)⟩
  have : (chrsD ‹Str›)[i]? = some (.d (.str ⟨#[k]⟩)) := by
    unfold chrsD
    rw [List.getElem?_map]
    simp [hk]
  exact this
/-! ### for -/
def mLoop (gd : MS → Prop) (g : GS) (b : BS) (D : En) : List Dv → Env' → MS → Prop
  | [], α, μ => D.nx α μ
  | d :: r, α, μ => g d D.er α μ fun α1 μ1 => b { D with nx := fun α2 μ2 => gd μ2 ∧ mLoop gd g b D r α2 μ2, ct := fun α2 μ2 => gd μ2 ∧ mLoop gd g b D r α2 μ2, bk := D.nx } α1 μ1
def bFor (mi : IS) (g : GS) (b : BS) : BS := fun D α μ => mi D.er α μ fun w μ1 => w.gd μ1 ∧ mLoop w.gd g b D w.items α μ1
theorem ss_for {ti : TI} {tg : TG} {tb : TS} {mi : IS} {g : GS} {b : BS} (hi : SI c E ti mi) (hg : SG c E tg g) (hb : SS c E tb b) : SS c E (tFor ti tg tb) (bFor mi g b) := by
  refine ⟨?_⟩
  intro ρ G H σ α μ D D' R e p h
  refine hi R e p.er ?_ h
  rintro w μ1 ⟨gd1, h1⟩ J ρ1 G1 H1 s1 R1 W
  refine ⟨fun i m σ H => m = w.items.length - i ∧ i ≤ w.items.length ∧ ∃ ρ' G' α' μ', Stp c.st ρ1 G1 H1 ρ' G' H ∧ Rel c ρ' G' H μ' ∧ EnvOk c ρ' G' σ α' ∧ w.gd μ' ∧ mLoop w.gd g b D' (w.items.drop i) α' μ',
    ⟨_, rfl, Nat.zero_le _, ρ1, G1, α, μ1, Stp.refl, R1, s1.env e, gd1, h1⟩, ?_⟩
  rintro i m σ2 H2 ⟨rfl, hi2, ρ2, G2, α2, μ2, s2, R2, e2, gd2, h2⟩
  have s02 := s1.trans s2
  by_cases hlt : i < w.items.length
  · refine .inr ⟨W.goes i s2 R2 gd2 hlt, _, fun σ' H' h' => ⟨_, by omega, rfl, hlt, h'⟩, fun x H' y => ?_⟩
    obtain ⟨d, G3, hd, R3, s3, a3⟩ := W.yields s2 R2 gd2 hlt y
    have ed : w.items.drop i = d :: w.items.drop (i + 1) := by
      rw [List.drop_eq_getElem_cons hlt]
      have := (List.getElem?_eq_some_iff.mp hd).2
      rw [this]
    rw [ed] at h2
    have s03 := s02.trans s3
    refine hg R3 (s3.env e2) a3 (p.er.step s03) ?_ h2
    intro α4 μ4 h4 σ4 ρ4 G4 H4 s4 R4 e4
    have s04 := s03.trans s4
    refine hb.run (D' := { D' with nx := fun α2 μ2 => w.gd μ2 ∧ mLoop w.gd g b D' (w.items.drop (i + 1)) α2 μ2, ct := fun α2 μ2 => w.gd μ2 ∧ mLoop w.gd g b D' (w.items.drop (i + 1)) α2 μ2, bk := D'.nx }) R4 e4 ⟨?_, p.rt.step s04, p.nx.step s04, ?_, p.er.step s04⟩ h4
    · rintro α5 μ5 ⟨gd5, h5⟩ σ5 ρ5 G5 H5 s5 R5 e5
      exact ⟨ρ5, G5, α5, μ5, ((s2.trans s3).trans s4).trans s5, R5, e5, gd5, h5⟩
    · rintro α5 μ5 ⟨gd5, h5⟩ σ5 ρ5 G5 H5 s5 R5 e5
      exact ⟨ρ5, G5, α5, μ5, ((s2.trans s3).trans s4).trans s5, R5, e5, gd5, h5⟩
  · have ei : i = w.items.length := by omega
    subst ei
    refine .inl ⟨W.stops s2 R2 gd2, ?_⟩
    rw [List.drop_length] at h2
    exact p.nx _ _ h2 _ _ _ _ s02 R2 e2
/-! ### while -/
def wh (t : TS') (b : BS) (D : En) : Nat → Env' → MS → Prop
  | 0, _, _ => False
  | n + 1, α, μ => t D.er α μ fun k μ1 => if k = true then b { D with nx := wh t b D n, ct := wh t b D n, bk := D.nx } α μ1 else D.nx α μ1
def bWhile (t : TS') (b : BS) : BS := fun D α μ => ∃ n, wh t b D n α μ
theorem ss_while {tt : TT} {tb : TS} {t : TS'} {b : BS} (ht : ST c E tt t) (hb : SS c E tb b) : SS c E (tWhile tt tb) (bWhile t b) := by
  refine ⟨?_⟩
  rintro ρ G H σ α μ D D' R e p ⟨n, h⟩
  refine ⟨fun m σ H2 => ∃ ρ' G' α' μ', Stp c.st ρ G H ρ' G' H2 ∧ Rel c ρ' G' H2 μ' ∧ EnvOk c ρ' G' σ α' ∧ wh t b D' m α' μ', ⟨n, ρ, G, α, μ, Stp.refl, R, e, h⟩, ?_⟩
  rintro m σ2 H2 ⟨ρ2, G2, α2, μ2, s2, R2, e2, h2⟩
  cases m with
  | zero => exact h2.elim
  | succ m =>
    refine ht R2 e2 (p.er.step s2) ?_ h2
    intro k μ3 h3 ρ3 G3 H3 s3 R3
    have s03 := s2.trans s3
    cases k with
    | true =>
      refine ⟨_, fun σ' H' h' => ⟨m, Nat.lt_succ_self m, h'⟩, ?_⟩
      refine hb.run (D' := { D' with nx := wh t b D' m, ct := wh t b D' m, bk := D'.nx }) R3 (s3.env e2) ⟨?_, p.rt.step s03, p.nx.step s03, ?_, p.er.step s03⟩ h3
      · intro α5 μ5 h5 σ5 ρ5 G5 H5 s5 R5 e5
        exact ⟨ρ5, G5, α5, μ5, s03.trans s5, R5, e5, h5⟩
      · intro α5 μ5 h5 σ5 ρ5 G5 H5 s5 R5 e5
        exact ⟨ρ5, G5, α5, μ5, s03.trans s5, R5, e5, h5⟩
    | false => exact p.nx _ _ h3 _ _ _ _ s03 R3 (s3.env e2)
/-! ### comprehensions -/
/-- alike but for some slots -/
def Ag (vs : List Nat) (σ σ2 : St) : Prop := σ2.length = σ.length ∧ ∀ i, i ∉ vs → σ2[i]? = σ[i]?
theorem wipe_in {σ : St} {i : Nat} : ∀ {vs : List Nat}, i ∈ vs → i < σ.length → (wipe σ vs)[i]? = some none
  | v :: vs, h, hl => by
    unfold wipe
    by_cases e : v = i
    · subst e
      rw [List.getElem?_set_self (by rw [wipe_length]; exact hl)]
    · rw [List.getElem?_set_ne e]
      exact wipe_in (by rcases List.mem_cons.mp h with h | h; exact absurd h.symm e; exact h) hl
theorem wipe_ag {vs : List Nat} {σ σ2 : St} (h : Ag vs σ σ2) : wipe σ2 vs = wipe σ vs := by
  refine List.ext_getElem? fun i => ?_
  by_cases hi : i ∈ vs
  · by_cases hl : i < σ.length
    · rw [wipe_in hi hl, wipe_in hi (by rw [h.1]; exact hl)]
    · rw [List.getElem?_eq_none (by rw [wipe_length, h.1]; omega), List.getElem?_eq_none (by rw [wipe_length]; omega)]
  · rw [wipe_out hi, wipe_out hi]
    exact h.2 i hi
theorem ag_wipe {vs : List Nat} {σ : St} : Ag vs σ (wipe σ vs) := ⟨wipe_length _ _, fun i hi => wipe_out hi⟩
theorem Ag.refl {vs : List Nat} {σ : St} : Ag vs σ σ := ⟨rfl, fun _ _ => rfl⟩
theorem Ag.trans {vs : List Nat} {σ σ2 σ3 : St} (a : Ag vs σ σ2) (b : Ag vs σ2 σ3) : Ag vs σ σ3 := ⟨b.1.trans a.1, fun i hi => (b.2 i hi).trans (a.2 i hi)⟩
theorem Ag.set {vs : List Nat} {σ : St} {i : Nat} {v : Option V} (h : i ∈ vs) : Ag vs σ (σ.set i v) := ⟨by simp, fun j hj => by rw [List.getElem?_set_ne (fun z => hj (by rw [← z]; exact h))]⟩
def wpD (α : Env') : List Nat → Env'
  | [] => α
  | v :: vs => (wpD α vs).set v none
theorem EnvOk.wipe {σ : St} {α : Env'} (h : EnvOk c ρ G σ α) : ∀ vs : List Nat, EnvOk c ρ G (wipe σ vs) (wpD α vs)
  | [] => h
  | v :: vs => (h.wipe vs).unset v
/-- a target that stores into vs alone -/
structure SGw (c : Cn) (E : XK) (vs : List Nat) (t : TG) (g : GS)  : Prop where
  run : ∀ {ρ : List Addr} {G H : Hp} {σ σ0 : St} {α : Env'} {μ : MS} {v : V} {d : Dv} {N : St → Hp → Prop} {N' : Env' → MS → Prop} {E' : XS}, Rel c ρ G H μ → EnvOk c ρ G σ α → At c ρ G v d → Ag vs σ0 σ → PN c ρ G H N N' → g d E' α μ N' → t v σ H fun σ2 H2 => wipe σ2 vs = wipe σ0 vs ∧ N σ2 H2
instance (c : Cn) (E : XK) (vs : List Nat) (t : TG) (g : GS)  : CoeFun (SGw c E vs t g) fun _ => ∀ {ρ : List Addr} {G H : Hp} {σ σ0 : St} {α : Env'} {μ : MS} {v : V} {d : Dv} {N : St → Hp → Prop} {N' : Env' → MS → Prop} {E' : XS}, Rel c ρ G H μ → EnvOk c ρ G σ α → At c ρ G v d → Ag vs σ0 σ → PN c ρ G H N N' → g d E' α μ N' → t v σ H fun σ2 H2 => wipe σ2 vs = wipe σ0 vs ∧ N σ2 H2 := ⟨fun h => h.run⟩
structure SGws (c : Cn) (E : XK) (vs : List Nat) (t : TGs) (g : GSs)  : Prop where
  run : ∀ {ρ : List Addr} {G H : Hp} {σ σ0 : St} {α : Env'} {μ : MS} {v : List V} {d : List Dv} {N : St → Hp → Prop} {N' : Env' → MS → Prop} {E' : XS}, Rel c ρ G H μ → EnvOk c ρ G σ α → AtAll c ρ G v d → Ag vs σ0 σ → PN c ρ G H N N' → g d E' α μ N' → t v σ H fun σ2 H2 => wipe σ2 vs = wipe σ0 vs ∧ N σ2 H2
instance (c : Cn) (E : XK) (vs : List Nat) (t : TGs) (g : GSs)  : CoeFun (SGws c E vs t g) fun _ => ∀ {ρ : List Addr} {G H : Hp} {σ σ0 : St} {α : Env'} {μ : MS} {v : List V} {d : List Dv} {N : St → Hp → Prop} {N' : Env' → MS → Prop} {E' : XS}, Rel c ρ G H μ → EnvOk c ρ G σ α → AtAll c ρ G v d → Ag vs σ0 σ → PN c ρ G H N N' → g d E' α μ N' → t v σ H fun σ2 H2 => wipe σ2 vs = wipe σ0 vs ∧ N σ2 H2 := ⟨fun h => h.run⟩
theorem sw_name {vs : List Nat} (i : Nat) (h : i ∈ vs) : SGw c E vs (gName i) (nName i) := ⟨fun R e a g p x => ⟨wipe_ag (g.trans (Ag.set h)), p _ _ x _ _ _ _ Stp.refl R (e.set a i)⟩⟩
theorem sw_nil {vs : List Nat} : SGws c E vs gNil nNil := by
  refine ⟨?_⟩
  rintro ρ G H σ σ0 α μ v d N N' E' R e a g p ⟨rfl, h⟩
  cases a
  exact ⟨rfl, wipe_ag g, p _ _ h _ _ _ _ Stp.refl R e⟩
theorem sw_cons {vs : List Nat} {i : Nat} {u : TGs} {r : GSs} (h : i ∈ vs) (hr : SGws c E vs u r) : SGws c E vs (gCons (gName i) u) (nCons (nName i) r) := by
  refine ⟨?_⟩
  rintro ρ G H σ σ0 α μ v d N N' E' R e a g p ⟨d1, rest, rfl, x⟩
  cases a with
  | cons a1 a2 => exact ⟨_, _, rfl, hr R (e.set a1 i) a2 (g.trans (Ag.set h)) p x⟩
theorem sw_tup {vs : List Nat} {n : Nat} {u : TGs} {r : GSs} (hr : SGws c E vs u r) : SGw c E vs (gTup c.K n u) (nTup n r) := by
  refine ⟨?_⟩
  rintro ρ G H σ σ0 α μ v d N N' E' R e a g p ⟨ds, e1, hl, h⟩
  obtain ⟨q, vs, rfl, h1, t⟩ := tpV_ok R.gh a e1
  exact ⟨q, vs, rfl, h1, by rw [t.length]; exact hl, hr R e t g p h⟩
def noX : XS := fun _ _ => False
theorem px_no : PX c ρ G H E noX := fun _ _ h => h.elim
def mLcL (gd : MS → Prop) (g : GS) (t : TS') (e : ES) (vs : List Nat) (α : Env') (Q : List Dv → MS → Prop) : List Dv → List Dv → MS → Prop
  | [], acc, μ => Q acc μ
  | d :: r, acc, μ => g d noX (wpD α vs) μ fun α2 μ2 => t noX α2 μ2 fun k μ3 => if k = true then e noX α2 μ3 fun y μ4 => acc.length < sizeLine ∧ gd μ4 ∧ mLcL gd g t e vs α Q r (acc ++ [y]) μ4 else gd μ3 ∧ mLcL gd g t e vs α Q r acc μ3
def mLc (mi : IS) (g : GS) (t : TS') (e : ES) (vs : List Nat) : ES := fun E α μ Q => mi E α μ fun w μ1 => w.gd μ1 ∧ mLcL w.gd g t e vs α (fun acc μ2 => Q (.ob μ2.length) (μ2 ++ [.lst acc])) w.items [] μ1
def mYes : TS' := fun _ _ μ Q => Q true μ
theorem st_yes : ST c E tYes mYes := ⟨fun R e px q h => q _ _ h _ _ _ Stp.refl R⟩
theorem se_lc {ti : TI} {tg : TG} {tt : TT} {te : TE} {mi : IS} {g : GS} {t : TS'} {e : ES} {vs : List Nat} (hi : SI c E ti mi) (hg : SGw c E vs tg g) (ht : ST c E0 tt t) (he : SE c E0 te e) : SE c E (tLc ti tg tt te vs) (mLc mi g t e vs) := by
  refine ⟨?_⟩
  intro ρ G H σ α μ Q E' Q' R en px q h
  refine hi R en px ?_ h
  rintro w μ1 ⟨gd1, h1⟩ J ρ1 G1 H1 s1 R1 W D hD
  have w0 : Ow c.st ρ1 G1 (upd H1 D (.lst [])) D (.lst []) := Ow.new R1 hD
  obtain ⟨R1', s1'⟩ := R1.junk (u := .lst []) hD
  refine ⟨fun i m H2 => m = w.items.length - i ∧ i ≤ w.items.length ∧ ∃ ρ2 G2 μ2 acc us, Stp c.st ρ1 G1 H1 ρ2 G2 H2 ∧ Rel c ρ2 G2 H2 μ2 ∧ Ow c.st ρ2 G2 H2 D (.lst us) ∧ AtAll c ρ2 G2 us acc ∧ w.gd μ2 ∧ mLcL w.gd g t e vs α (fun acc μ2 => Q' (.ob μ2.length) (μ2 ++ [.lst acc])) (w.items.drop i) acc μ2,
    ⟨_, rfl, Nat.zero_le _, ρ1, G1, μ1, [], [], s1', R1', w0, .nil, gd1, h1⟩, ?_⟩
  rintro i m H2 ⟨rfl, hi2, ρ2, G2, μ2, acc, us, s2, R2, w2, t2, gd2, h2⟩
  have s02 := s1.trans s2
  by_cases hlt : i < w.items.length
  · refine .inr ⟨W.goes i s2 R2 gd2 hlt, _, fun H' h' => ⟨_, by omega, rfl, hlt, h'⟩, fun x H' y => ?_⟩
    obtain ⟨d, G3, hd, R3, s3, a3⟩ := W.yields s2 R2 gd2 hlt y
    have ed : w.items.drop i = d :: w.items.drop (i + 1) := by
      rw [List.drop_eq_getElem_cons hlt]
      have := (List.getElem?_eq_some_iff.mp hd).2
      rw [this]
    rw [ed] at h2
    have s03 := s02.trans s3
    refine hg R3 ((s03.env en).wipe vs) a3 ag_wipe ?_ h2
    intro α4 μ4 h4 σ4 ρ4 G4 H4 s4 R4 e4
    refine ht R4 e4 px_no ?_ h4
    intro k μ5 h5 ρ5 G5 H5 s5 R5
    cases k with
    | true =>
      refine he R5 (s5.env e4) px_no ?_ h5
      rintro y μ6 ⟨hl, gd6, h6⟩ v ρ6 G6 H6 s6 R6 a6
      have s26 := ((s3.trans s4).trans s5).trans s6
      have w6 := w2.step s26
      obtain ⟨R7, w7⟩ := R6.owSet (o' := .lst (us ++ [v])) w6
      exact ⟨us, w6.h, by rw [t2.length]; exact hl, ρ6, G6, μ6, acc ++ [y], us ++ [v], (s2.trans s26).owSet hD w6, R7, w7, (s26.all t2).append (.one a6), gd6, h6⟩
    | false =>
      obtain ⟨gd5, h5⟩ := h5
      have s25 := (s3.trans s4).trans s5
      exact ⟨ρ5, G5, μ5, acc, us, s2.trans s25, R5, w2.step s25, s25.all t2, gd5, h5⟩
  · have ei : i = w.items.length := by omega
    subst ei
    refine .inl ⟨W.stops s2 R2 gd2, ?_⟩
    rw [List.drop_length] at h2
    exact q _ _ h2 _ _ _ _ (s1.trans (s2.adopt hD)) (R2.adopt w2 ⟨w2.g, us, w2.h, t2.mono (Same.refl _) pre1⟩) (.ob R2.lastOb)
end
end Mz
end
section
set_option Elab.async false
set_option linter.all false
set_option maxRecDepth 100000
set_option maxHeartbeats 4000000
namespace Mz
open PySem L2
section
variable {c : Cn} {E : XK} {ρ ρ0 : List Addr} {G H G0 H0 : Hp} {μ : MS}
/-! ### texts: slices, f-strings -/
/-! ### zip -/
def zipD (xs ys : List Dv) : List Dv := (xs.zip ys).map fun p => mkTup [p.1, p.2]
def iwZ (d1 d2 : Dv) (xs ys : List Dv) : IW := ⟨zipD xs ys, fun μ => sqV μ d1 = some xs ∧ sqV μ d2 = some ys⟩
theorem zipD_len (xs ys : List Dv) : (zipD xs ys).length = min xs.length ys.length := by unfold zipD; simp
theorem zipD_get {xs ys : List Dv} {i : Nat} {x y : Dv} (h1 : xs[i]? = some x) (h2 : ys[i]? = some y) : (zipD xs ys)[i]? = some (mkTup [x, y]) := by
  unfold zipD
  have : (xs.zip ys)[i]? = some (x, y) := List.getElem?_zip_eq_some.mpr ⟨h1, h2⟩
  rw [List.getElem?_map, this]; rfl
theorem new_two {x y : V} {d1 d2 : Dv} {T : Addr} (R : Rel c ρ G H μ) (hT : H T = none) (a : At c ρ G x d1) (b : At c ρ G y d2) : ∃ G', Rel c ρ G' (upd H T (.tup [x, y])) μ ∧ Stp c.st ρ G H ρ G' (upd H T (.tup [x, y])) ∧ At c ρ G' (.ref T) (mkTup [d1, d2]) := by
  obtain ⟨R1, s1⟩ := R.newF (u := .tup [x, y]) hT
  exact ⟨_, R1, s1, at_mk (SqT.of upd_same) (.cons (s1.at_ a) (.cons (s1.at_ b) .nil))⟩
def miZip (a : AS) : IS := fun E α μ R => a E α μ fun ds μ1 => ∃ d1 d2 xs ys, ds = [d1, d2] ∧ ((lsV μ1 d1 = some xs ∧ lsV μ1 d2 = some ys) ∨ (tpV d1 = some xs ∧ tpV d2 = some ys)) ∧ R (iwZ d1 d2 xs ys) μ1
theorem tpV_sq {d : Dv} {ds : List Dv} {μ : MS} (h : tpV d = some ds) : sqV μ d = some ds := by
  cases d with
  | d x => cases x <;> first | exact h | cases h
  | tp xs => exact h
  | ob n => cases h
theorem si_zip {ta : TA} {a : AS} (ha : SA c E ta a) : SI c E (RZ.iZipA c.K ta) (miZip a) := by
  refine ⟨?_⟩
  intro ρ G H σ α μ R E' R' Rl e px r h
  refine ha Rl e px ?_ h
  rintro ds μ1 ⟨d1, d2, xs, ys, rfl, hv, h1⟩ vs ρ1 G1 H1 s1 R1 a1
  obtain ⟨v, w, rfl, b1, b2⟩ := a1.two
  rcases hv with ⟨e1, e2⟩ | ⟨e1, e2⟩
  · obtain ⟨p, vs, rfl, h2, t2⟩ := lsV_ok R1 b1 e1
    obtain ⟨p', ws, rfl, h3, t3⟩ := lsV_ok R1 b2 e2
    refine ⟨p, p', vs, ws, rfl, .inl ⟨SqL.of h2, SqL.of h3, r _ _ h1 _ _ _ _ s1 R1 ?_⟩⟩
    have at_ : ∀ {ρ : List Addr} {G H : Hp} {μ' : MS}, Stp c.st ρ1 G1 H1 ρ G H → Rel c ρ G H μ' → (sqV μ' d1 = some xs ∧ sqV μ' d2 = some ys) → ∃ vs ws, H p = some (.lst vs) ∧ H p' = some (.lst ws) ∧ AtAll c ρ G vs xs ∧ AtAll c ρ G ws ys := by
      intro ρ G H μ' s R g
      obtain ⟨q, vs, eq, h1, t⟩ := lsV_ok R (s.at_ b1) (lsV_gd e1 g.1)
      cases eq
      obtain ⟨q, ws, eq, h2, t2⟩ := lsV_ok R (s.at_ b2) (lsV_gd e2 g.2)
      cases eq
      exact ⟨vs, ws, h1, h2, t, t2⟩
    refine ⟨fun i s R g hi => ?_, fun s R g => ?_, fun s R g hi y => ?_⟩
    · obtain ⟨vs, ws, h1, h2, t, t2⟩ := at_ s R g
      have hi' : i < min xs.length ys.length := by rw [← zipD_len]; exact hi
      have l1 : i < vs.length := by rw [t.length]; omega
      have l2 : i < ws.length := by rw [t2.length]; omega
      exact ⟨vs, ws, vs[i], ws[i], SqL.of h1, SqL.of h2, by simp [l1], by simp [l2]⟩
    · obtain ⟨vs, ws, h1, h2, t, t2⟩ := at_ s R g
      refine ⟨vs, ws, SqL.of h1, SqL.of h2, ?_⟩
      rw [t.length, t2.length]
      show xs.length ≤ (zipD xs ys).length ∨ ys.length ≤ (zipD xs ys).length
      rw [zipD_len]; omega
    · obtain ⟨vs, ws, h1, h2, t, t2⟩ := at_ s R g
      obtain ⟨T, x, z, rfl, hT, rfl, hx, hz⟩ := y
      obtain ⟨d', h4, h5⟩ := t.get (hx vs (SqL.of h1))
      obtain ⟨d'', h6, h7⟩ := t2.get (hz ws (SqL.of h2))
      obtain ⟨G', R2, s2, a2⟩ := new_two R hT h5 h7
      exact ⟨_, G', zipD_get h4 h6, R2, s2, a2⟩
  · obtain ⟨p, vs, rfl, h2, t2⟩ := tpV_ok R1.gh b1 e1
    obtain ⟨p', ws, rfl, h3, t3⟩ := tpV_ok R1.gh b2 e2
    refine ⟨p, p', vs, ws, rfl, .inr ⟨h2, h3, r _ _ h1 _ _ _ _ s1 R1 ?_⟩⟩
    have at_ : ∀ {ρ : List Addr} {G H : Hp} {μ' : MS}, Stp c.st ρ1 G1 H1 ρ G H → Rel c ρ G H μ' → ∃ vs ws, SqT c.K H p vs ∧ SqT c.K H p' ws ∧ AtAll c ρ G vs xs ∧ AtAll c ρ G ws ys := by
      intro ρ G H μ' s R
      obtain ⟨q, vs, eq, h1, t⟩ := tpV_ok R.gh (s.at_ b1) e1
      cases eq
      obtain ⟨q, ws, eq, h2, t2⟩ := tpV_ok R.gh (s.at_ b2) e2
      cases eq
      exact ⟨vs, ws, h1, h2, t, t2⟩
    refine ⟨fun i s R g hi => ?_, fun s R g => ?_, fun s R g hi y => ?_⟩
    · obtain ⟨vs, ws, h1, h2, t, t2⟩ := at_ s R
      have hi' : i < min xs.length ys.length := by rw [← zipD_len]; exact hi
      have l1 : i < vs.length := by rw [t.length]; omega
      have l2 : i < ws.length := by rw [t2.length]; omega
      exact ⟨vs, ws, vs[i], ws[i], h1, h2, by simp [l1], by simp [l2]⟩
    · obtain ⟨vs, ws, h1, h2, t, t2⟩ := at_ s R
      refine ⟨vs, ws, h1, h2, ?_⟩
      rw [t.length, t2.length]
      show xs.length ≤ (zipD xs ys).length ∨ ys.length ≤ (zipD xs ys).length
      rw [zipD_len]; omega
    · obtain ⟨vs, ws, h1, h2, t, t2⟩ := at_ s R
      obtain ⟨T, x, z, rfl, hT, rfl, hx, hz⟩ := y
      obtain ⟨d', h4, h5⟩ := t.get (hx vs h1)
      obtain ⟨d'', h6, h7⟩ := t2.get (hz ws h2)
      obtain ⟨G', R2, s2, a2⟩ := new_two R hT h5 h7
      exact ⟨_, G', zipD_get h4 h6, R2, s2, a2⟩
/-! ### dict comprehensions -/
def mDcL (gd : MS → Prop) (g : GS) (t : TS') (k e : ES) (vs : List Nat) (α : Env') (Q : List (Key × Dv) → MS → Prop) : List Dv → List (Key × Dv) → MS → Prop
  | [], acc, μ => Q acc μ
  | d :: r, acc, μ => g d noX (wpD α vs) μ fun α2 μ2 => t noX α2 μ2 fun b μ3 => if b = true then k noX α2 μ3 fun z μ4 => e noX α2 μ4 fun y μ5 => ∃ kk, keyD z = some kk ∧ acc.length < sizeLine ∧ gd μ5 ∧ mDcL gd g t k e vs α Q r (putD acc kk y) μ5 else gd μ3 ∧ mDcL gd g t k e vs α Q r acc μ3
def mDc (mi : IS) (g : GS) (t : TS') (k e : ES) (vs : List Nat) : ES := fun E α μ Q => mi E α μ fun w μ1 => w.gd μ1 ∧ mDcL w.gd g t k e vs α (fun acc μ2 => Q (.ob μ2.length) (μ2 ++ [.dct acc])) w.items [] μ1
theorem se_dc {ti : TI} {tg : TG} {tt : TT} {tk te : TE} {mi : IS} {g : GS} {t : TS'} {k e : ES} {vs : List Nat} (hi : SI c E ti mi) (hg : SGw c E vs tg g) (ht : ST c E0 tt t) (hk : SE c E0 tk k) (he : SE c E0 te e) : SE c E (tDc ti tg tt tk te vs) (mDc mi g t k e vs) := by
  refine ⟨?_⟩
  intro ρ G H σ α μ Q E' Q' R en px q h
  refine hi R en px ?_ h
  rintro w μ1 ⟨gd1, h1⟩ J ρ1 G1 H1 s1 R1 W D hD
  have w0 : Ow c.st ρ1 G1 (upd H1 D (.dK [])) D (.dK []) := Ow.new R1 hD
  obtain ⟨R1', s1'⟩ := R1.junk (u := .dK []) hD
  refine ⟨fun i m H2 => m = w.items.length - i ∧ i ≤ w.items.length ∧ ∃ ρ2 G2 μ2 acc, ∃ us : List (Key × V), Stp c.st ρ1 G1 H1 ρ2 G2 H2 ∧ Rel c ρ2 G2 H2 μ2 ∧ Ow c.st ρ2 G2 H2 D (.dK us) ∧ us.map (·.1) = acc.map (·.1) ∧ AtAll c ρ2 G2 (us.map (·.2)) (acc.map (·.2)) ∧ w.gd μ2 ∧ mDcL w.gd g t k e vs α (fun acc μ2 => Q' (.ob μ2.length) (μ2 ++ [.dct acc])) (w.items.drop i) acc μ2,
    ⟨_, rfl, Nat.zero_le _, ρ1, G1, μ1, [], [], s1', R1', w0, rfl, .nil, gd1, h1⟩, ?_⟩
  rintro i m H2 ⟨rfl, hi2, ρ2, G2, μ2, acc, us, s2, R2, w2, hk2, t2, gd2, h2⟩
  have s02 := s1.trans s2
  by_cases hlt : i < w.items.length
  · refine .inr ⟨W.goes i s2 R2 gd2 hlt, _, fun H' h' => ⟨_, by omega, rfl, hlt, h'⟩, fun x H' y => ?_⟩
    obtain ⟨d, G3, hd, R3, s3, a3⟩ := W.yields s2 R2 gd2 hlt y
    have ed : w.items.drop i = d :: w.items.drop (i + 1) := by
      rw [List.drop_eq_getElem_cons hlt]
      have := (List.getElem?_eq_some_iff.mp hd).2
      rw [this]
    rw [ed] at h2
    have s03 := s02.trans s3
    refine hg R3 ((s03.env en).wipe vs) a3 ag_wipe ?_ h2
    intro α4 μ4 h4 σ4 ρ4 G4 H4 s4 R4 e4
    refine ht R4 e4 px_no ?_ h4
    intro b μ5 h5 ρ5 G5 H5 s5 R5
    cases b with
    | true =>
      refine hk R5 (s5.env e4) px_no ?_ h5
      intro z μ6 h6 v6 ρ6 G6 H6 s6 R6 a6
      refine he R6 ((s5.trans s6).env e4) px_no ?_ h6
      rintro y μ7 ⟨kk, ekk, hl, gd7, h7⟩ v ρ7 G7 H7 s7 R7 a7
      have s27 := (((s3.trans s4).trans s5).trans s6).trans s7
      have w7 := w2.step s27
      have ev := keyD_ok a6 ekk
      obtain ⟨R8, w8⟩ := R7.owSet (o' := .dK (putK us kk v)) w7
      have hlen : us.length = acc.length := by have := congrArg List.length hk2; simpa using this
      exact ⟨us, kk, ev, w7.h, by rw [hlen]; exact hl, ρ7, G7, μ7, putD acc kk y, putK us kk v, (s2.trans s27).owSet hD w7, R8, w8, put_keys hk2, put_vals a7 hk2 (s27.all t2), gd7, h7⟩
    | false =>
      obtain ⟨gd5, h5⟩ := h5
      have s25 := (s3.trans s4).trans s5
      exact ⟨ρ5, G5, μ5, acc, us, s2.trans s25, R5, w2.step s25, hk2, s25.all t2, gd5, h5⟩
  · have ei : i = w.items.length := by omega
    subst ei
    refine .inl ⟨W.stops s2 R2 gd2, ?_⟩
    rw [List.drop_length] at h2
    exact q _ _ h2 _ _ _ _ (s1.trans (s2.adopt hD)) (R2.adopt w2 ⟨w2.g, us, w2.h, hk2, t2.mono (Same.refl _) pre1⟩) (.ob R2.lastOb)
end
/-! ### freezing -/
def pu (μ : MS) : Dv → Option Da
  | .d x => some x
  | .ob n => match μ[n]? with
    | some (.frz x) => some x
    | _ => none
  | .tp _ => none
def pus (μ : MS) : List Dv → Option (List Da)
  | [] => some []
  | y :: r => match pu μ y, pus μ r with
    | some x, some xs => some (x :: xs)
    | _, _ => none
theorem pus_map (μ : MS) : ∀ xs : List Da, pus μ (xs.map .d) = some xs
  | [] => rfl
  | x :: r => by simp [pus, pu, pus_map μ r]
def fz1 (μ : MS) : Dv → Option (MS × Da)
  | .d x => some (μ, x)
  | .ob n => match μ[n]? with
    | some (.frz x) => some (μ, x)
    | some (.lst ys) => (pus μ ys).map fun xs => (μ.set n (.frz (.lst xs)), .lst xs)
    | some (.dct ks) => (pus μ (ks.map (·.2))).map fun xs => (μ.set n (.frz (.dct ((ks.map (·.1)).zip xs))), .dct ((ks.map (·.1)).zip xs))
    | some (.ins C fs) => (pus μ (fs.map (·.2))).map fun xs => (μ.set n (.frz (.ins C ((fs.map (·.1)).zip xs))), .ins C ((fs.map (·.1)).zip xs))
    | _ => none
  | .tp ys => (pus μ ys).map fun xs => (μ, .tup xs)
def fzs (μ : MS) : List Dv → Option (MS × List Da)
  | [] => some (μ, [])
  | d :: r => match fz1 μ d with
    | some (μ1, x) => (fzs μ1 r).map fun p => (p.1, x :: p.2)
    | none => none
section
variable {c : Cn} {E : XK} {ρ ρ0 : List Addr} {G H G0 H0 : Hp} {μ : MS}
theorem pu_ok (R : Rel c ρ G H μ) {v : V} {y : Dv} {x : Da} (a : At c ρ G v y) (e : pu μ y = some x) : AtD c G v x := by
  cases y with
  | d z =>
    cases e
    cases a with
    | d a => exact a
  | ob n =>
    simp only [pu] at e
    split at e
    · rename_i hm
      cases e
      obtain ⟨p, rfl, hn, g, h1⟩ := R.at_ob a hm
      exact h1
    · cases e
  | tp _ => cases e
theorem pus_ok (R : Rel c ρ G H μ) : ∀ {vs : List V} {ys : List Dv} {xs : List Da}, AtAll c ρ G vs ys → pus μ ys = some xs → AtDs c G vs xs
  | _, _, _, .nil, e => by cases e; exact .nil
  | _, _, _, .cons (d := d) (ds := ds) a t, e => by
    simp only [pus] at e
    cases q1 : pu μ d with
    | none => rw [q1] at e; cases e
    | some x =>
      cases q2 : pus μ ds with
      | none => rw [q1, q2] at e; cases e
      | some xs =>
        rw [q1, q2] at e
        cases e
        exact .cons (pu_ok R a q1) (pus_ok R t q2)
theorem zip_fst {κ α : Type} {ks : List κ} {xs : List α} (h : ks.length = xs.length) : (ks.zip xs).map (·.1) = ks := by
  rw [List.map_fst_zip]; omega
theorem zip_snd {κ α : Type} {ks : List κ} {xs : List α} (h : ks.length = xs.length) : (ks.zip xs).map (·.2) = xs := by
  rw [List.map_snd_zip]; omega
/-- an object is frozen -/
theorem Rel.frz (R : Rel c ρ G H μ) {n : Nat} {a : Addr} {o : MO} {u : HO} {x : Da} (hn : ρ[n]? = some a) (hm : μ[n]? = some o) (hg : G a = none) (hu : H a = some u) (hx : AtD c (upd G a u) (.ref a) x) : Rel c ρ (upd G a u) H (μ.set n (.frz x)) ∧ Stp c.st ρ G H ρ (upd G a u) H := by
  have ha : a ∈ ρ := List.mem_of_getElem? hn
  have gg : Same G (upd G a u) := fun b w e => get_new hg e
  have nst : a ≠ c.st := fun z => R.sn (by rw [← z]; exact ha)
  refine ⟨⟨?_, by simp [R.len], R.nd, ?_, R.so.freeze nst hg, R.sn⟩, ⟨pre0, gg, fun _ _ _ _ e => e, fun _ e => e, fun b w e n => ?_, fun _ h => .inl h⟩⟩
  · intro b w e
    by_cases hb : b = a
    · subst hb; rw [upd_same] at e; rw [hu]; exact e
    · rw [upd_ne hb] at e; exact R.gh b w e
  · intro m b o1 h1 h2
    by_cases hmn : m = n
    · subst hmn
      rw [hn] at h1
      cases h1
      have hl := (List.getElem?_eq_some_iff.mp hm).1
      rw [List.getElem?_set_self hl] at h2
      cases h2
      exact ⟨by rw [upd_same]; simp, hx⟩
    · rw [List.getElem?_set_ne (Ne.symm hmn)] at h2
      have hba : b ≠ a := by
        rintro rfl
        exact hmn ((List.getElem?_inj (List.getElem?_eq_some_iff.mp h1).1 R.nd).mp (h1.trans hn.symm))
      refine (R.ob m b o1 h1 h2).mono gg pre0 ?_ fun w e => e
      cases o1 with
      | frz d => exact .inr ⟨d, rfl⟩
      | lst ds => obtain ⟨g, _⟩ := R.ob m b _ h1 h2; exact .inl (by rw [upd_ne hba]; exact g)
      | dct ds => obtain ⟨g, _⟩ := R.ob m b _ h1 h2; exact .inl (by rw [upd_ne hba]; exact g)
      | ins C ds => obtain ⟨g, _⟩ := R.ob m b _ h1 h2; exact .inl (by rw [upd_ne hba]; exact g)
      | lck _ _ ds => obtain ⟨g, _⟩ := R.ob m b _ h1 h2; exact .inl (by rw [upd_ne hba]; exact g)
      | tb _ _ => obtain ⟨g, _⟩ := R.ob m b _ h1 h2; exact .inl (by rw [upd_ne hba]; exact g)
  · by_cases hb : b = a
    · subst hb; exact .inr ha
    · rw [upd_ne hb] at e; rw [e] at n; cases n
theorem fz1_ok (R : Rel c ρ G H μ) {v : V} {y : Dv} {μ1 : MS} {x : Da} (a : At c ρ G v y) (e : fz1 μ y = some (μ1, x)) : ∃ G', Rel c ρ G' H μ1 ∧ Stp c.st ρ G H ρ G' H ∧ AtD c G' v x := by
  cases y with
  | d z =>
    cases e
    cases a with
    | d a => exact ⟨G, R, Stp.refl, a⟩
  | tp ys =>
    simp only [fz1] at e
    cases q : pus μ ys with
    | none => rw [q] at e; cases e
    | some xs =>
      rw [q] at e
      cases e
      cases a with
      | tp h t => exact ⟨G, R, Stp.refl, .tup h (pus_ok R t q)⟩
  | ob n =>
    simp only [fz1] at e
    split at e
    · rename_i hm
      cases e
      obtain ⟨p, rfl, hn, g, h1⟩ := R.at_ob a hm
      exact ⟨G, R, Stp.refl, h1⟩
    · rename_i ys hm
      cases q : pus μ ys with
      | none => rw [q] at e; cases e
      | some xs =>
        rw [q] at e
        cases e
        obtain ⟨p, rfl, hn, g, vs, h1, t⟩ := R.at_ob a hm
        have hx : AtD c (upd G p (.lst vs)) (.ref p) (.lst xs) := .lst upd_same ((pus_ok R t q).mono fun b w e => get_new g e)
        obtain ⟨R1, s1⟩ := R.frz hn hm g h1 hx
        exact ⟨_, R1, s1, hx⟩
    · rename_i ks hm
      cases q : pus μ (ks.map (·.2)) with
      | none => rw [q] at e; cases e
      | some xs =>
        rw [q] at e
        cases e
        obtain ⟨p, rfl, hn, g, vs, h1, hk, t⟩ := R.at_ob a hm
        have hd := pus_ok R t q
        have hl : (ks.map (·.1)).length = xs.length := by
          have l1 := hd.length
          have l2 := congrArg List.length hk
          simp at l1 l2 ⊢
          omega
        have hx : AtD c (upd G p (.dK vs)) (.ref p) (.dct ((ks.map (·.1)).zip xs)) := .dct upd_same (by rw [zip_fst hl]; exact hk) (by rw [zip_snd hl]; exact hd.mono fun b w e => get_new g e)
        obtain ⟨R1, s1⟩ := R.frz hn hm g h1 hx
        exact ⟨_, R1, s1, hx⟩
    · rename_i C fs hm
      cases q : pus μ (fs.map (·.2)) with
      | none => rw [q] at e; cases e
      | some xs =>
        rw [q] at e
        cases e
        obtain ⟨p, rfl, hn, g, dx, vs, h1, hk, t⟩ := R.at_ob a hm
        have hd := pus_ok R t q
        have hl : (fs.map (·.1)).length = xs.length := by
          have l1 := hd.length
          have l2 := congrArg List.length hk
          simp at l1 l2 ⊢
          omega
        have hx : AtD c (upd G p (.ins C dx vs)) (.ref p) (.ins C ((fs.map (·.1)).zip xs)) := .ins upd_same (by rw [zip_fst hl]; exact hk) (by rw [zip_snd hl]; exact hd.mono fun b w e => get_new g e)
        obtain ⟨R1, s1⟩ := R.frz hn hm g h1 hx
        exact ⟨_, R1, s1, hx⟩
    · cases e
theorem fzs_ok : ∀ {G : Hp} {μ : MS} {vs : List V} {ys : List Dv} {μ1 : MS} {xs : List Da}, Rel c ρ G H μ → AtAll c ρ G vs ys → fzs μ ys = some (μ1, xs) → ∃ G', Rel c ρ G' H μ1 ∧ Stp c.st ρ G H ρ G' H ∧ AtDs c G' vs xs
  | G, _, _, _, _, _, R, .nil, e => by cases e; exact ⟨G, R, Stp.refl, .nil⟩
  | G, μ, _, _, _, _, R, .cons (d := d) (ds := ds) a t, e => by
    simp only [fzs] at e
    cases q1 : fz1 μ d with
    | none => rw [q1] at e; cases e
    | some p =>
      obtain ⟨μ1, x⟩ := p
      rw [q1] at e
      cases q2 : fzs μ1 ds with
      | none => simp only [q2] at e; cases e
      | some p2 =>
        simp only [q2] at e
        cases e
        obtain ⟨G1, R1, s1, h1⟩ := fz1_ok R a q1
        obtain ⟨G2, R2, s2, h2⟩ := fzs_ok R1 (s1.all t) q2
        exact ⟨G2, R2, s1.trans s2, .cons (h1.mono s2.gg) h2⟩
end
end Mz
end
section
set_option Elab.async false
set_option linter.all false
set_option maxRecDepth 100000
set_option maxHeartbeats 4000000
namespace Mz
open PySem L2
/-! ### what a value is as data, at the end of a def -/
mutual
inductive Rz (μ : MS) : Dv → Da → Prop
  | d (x : Da) : Rz μ (.d x) x
  | frz {n : Nat} {x : Da} : μ[n]? = some (.frz x) → Rz μ (.ob n) x
  | lst {n : Nat} {ys : List Dv} {xs : List Da} : μ[n]? = some (.lst ys) → RzAll μ ys xs → Rz μ (.ob n) (.lst xs)
  | dct {n : Nat} {ks : List (Key × Dv)} {xs : List Da} : μ[n]? = some (.dct ks) → RzAll μ (ks.map (·.2)) xs → Rz μ (.ob n) (.dct ((ks.map (·.1)).zip xs))
  | ins {n : Nat} {C : Addr} {fs : List (Str × Dv)} {xs : List Da} : μ[n]? = some (.ins C fs) → RzAll μ (fs.map (·.2)) xs → Rz μ (.ob n) (.ins C ((fs.map (·.1)).zip xs))
  | tp {ys : List Dv} {xs : List Da} : RzAll μ ys xs → Rz μ (.tp ys) (.tup xs)
inductive RzAll (μ : MS) : List Dv → List Da → Prop
  | nil : RzAll μ [] []
  | cons {y : Dv} {ys : List Dv} {x : Da} {xs : List Da} : Rz μ y x → RzAll μ ys xs → RzAll μ (y :: ys) (x :: xs)
end
theorem RzAll.map (μ : MS) : ∀ xs : List Da, RzAll μ (xs.map .d) xs
  | [] => .nil
  | x :: r => .cons (.d x) (RzAll.map μ r)
theorem RzAll.length {μ : MS} : ∀ {ys : List Dv} {xs : List Da}, RzAll μ ys xs → ys.length = xs.length
  | _, _, .nil => rfl
  | _, _, .cons _ t => by simp [t.length]
/-- all one's own objects frozen -/
def frzG (ρ : List Addr) (G H : Hp) : Hp := fun b => if b ∈ ρ then H b else G b
section
variable {c : Cn} {E : XK} {ρ ρ0 : List Addr} {G H G0 H0 : Hp} {μ : MS}
theorem frzG_in {b : Addr} (h : b ∈ ρ) : frzG ρ G H b = H b := if_pos h
theorem frzG_out {b : Addr} (h : b ∉ ρ) : frzG ρ G H b = G b := if_neg h
theorem frzG_gg (R : Rel c ρ G H μ) : Same G (frzG ρ G H) := fun b o e => by
  by_cases h : b ∈ ρ
  · rw [frzG_in h]; exact R.gh b o e
  · rw [frzG_out h]; exact e
theorem frzG_gh (R : Rel c ρ G H μ) : Same (frzG ρ G H) H := fun b o e => by
  by_cases h : b ∈ ρ
  · rw [frzG_in h] at e; exact e
  · rw [frzG_out h] at e; exact R.gh b o e
theorem frzG_so (R : Rel c ρ G H μ) : StOk (frzG ρ G H) H c.st := by
  obtain ⟨cells, ns, nth, left, mx, SA, gc, gs⟩ := R.so
  exact ⟨cells, ns, nth, left, mx, SA, frzG_gg R _ _ gc, by rw [frzG_out R.sn]; exact gs⟩
mutual
theorem Rz.at_ (R : Rel c ρ G H μ) : ∀ {v : V} {y : Dv} {x : Da}, Rz μ y x → At c ρ G v y → AtD c (frzG ρ G H) v x
  | _, _, _, .d x, a => by
    cases a with
    | d a => exact a.mono (frzG_gg R)
  | _, _, _, .frz hm, a => by
    obtain ⟨p, rfl, hn, g, h1⟩ := R.at_ob a hm
    exact h1.mono (frzG_gg R)
  | _, _, _, .lst hm t, a => by
    obtain ⟨p, rfl, hn, g, vs, h1, h2⟩ := R.at_ob a hm
    exact .lst (by rw [frzG_in (List.mem_of_getElem? hn)]; exact h1) (RzAll.at_ R t h2)
  | _, _, _, .dct hm t, a => by
    obtain ⟨p, rfl, hn, g, vs, h1, hk, h2⟩ := R.at_ob a hm
    have hd := RzAll.at_ R t h2
    have hl := t.length
    simp only [List.length_map] at hl
    exact .dct (by rw [frzG_in (List.mem_of_getElem? hn)]; exact h1) (by rw [zip_fst (by simpa using hl)]; exact hk) (by rw [zip_snd (by simpa using hl)]; exact hd)
  | _, _, _, .ins hm t, a => by
    obtain ⟨p, rfl, hn, g, dx, vs, h1, hk, h2⟩ := R.at_ob a hm
    have hd := RzAll.at_ R t h2
    have hl := t.length
    simp only [List.length_map] at hl
    exact .ins (by rw [frzG_in (List.mem_of_getElem? hn)]; exact h1) (by rw [zip_fst (by simpa using hl)]; exact hk) (by rw [zip_snd (by simpa using hl)]; exact hd)
  | _, _, _, .tp t, a => by
    cases a with
    | tp h t2 => exact .tup (Same.tup (frzG_gg R) h) (RzAll.at_ R t t2)
theorem RzAll.at_ (R : Rel c ρ G H μ) : ∀ {vs : List V} {ys : List Dv} {xs : List Da}, RzAll μ ys xs → AtAll c ρ G vs ys → AtDs c (frzG ρ G H) vs xs
  | _, _, _, .nil, a => by cases a; exact .nil
  | _, _, _, .cons h t, a => by
    cases a with
    | cons a1 a2 => exact .cons (h.at_ R a1) (t.at_ R a2)
end
/-- behind a def that began with no objects of its own -/
theorem gr_of (R0 : Same G0 H0) (s : Stp c.st [] G0 H0 ρ G H) (R : Rel c ρ G H μ) : Gr [c.st] G0 H0 (frzG ρ G H) H where
  gg := fun b o e => by
    have hn : b ∉ ρ := fun z => by
      rcases s.nw b z with h | h
      · cases h
      · rw [R0 b o e] at h; cases h
    rw [frzG_out hn]; exact s.gg b o e
  hh := fun b o n e => s.hh b o (by simp) (by simpa using n) e
  dm := s.dm
  fr := fun b o e n => by
    by_cases h : b ∈ ρ
    · rcases s.nw b h with h | h
      · cases h
      · exact h
    · rw [frzG_out h] at e
      rcases s.fr b o e n with h | h
      · exact h
      · cases h
  gh := frzG_gh R
end
/-! ### defs that keep to themselves -/
abbrev PF := List Da → (Ex → Prop) → (Da → Prop) → Prop
def ExD (c : Cn) (G H : Hp) (e : Ex) (cls : Value) (dd : Option Addr) : Prop := cls = .ref e.cls ∧ ((e.fs = [] ∧ dd = none) ∨ ∃ d fvs, dd = some d ∧ H d = some (.xd fvs) ∧ fvs.map (·.1) = e.fs.map (·.1) ∧ AtDs c G (fvs.map (·.2)) (e.fs.map (·.2)))
def spP (K : PySem.W.Frag) (f : PF) : Sp := fun vs H Q E => ∃ (st : Addr) (G : Hp) (ds : List Da), StOk G H st ∧ Same G H ∧ AtDs ⟨K, st⟩ G vs ds ∧
  ∃ (E' : Ex → Prop) (Q' : Da → Prop), f ds E' Q' ∧ (∀ e, E' e → ∀ cls dd G' H', Gr [st] G H G' H' → StOk G' H' st → ExD ⟨K, st⟩ G' H' e cls dd → E cls dd H') ∧ (∀ d, Q' d → ∀ v G' H', Gr [st] G H G' H' → StOk G' H' st → AtD ⟨K, st⟩ G' v d → Q v H')
def startD (n : Nat) (ds : List Dv) : Env' := ds.map some ++ List.replicate (n - ds.length) none
def fPure (n k : Nat) (b : BS) : PF := fun ds E Q => ds.length = k ∧ b { nx := fun _ _ => Q .non, rt := fun d μ => ∃ x, Rz μ d x ∧ Q x, er := fun e _ => E e } (startD n (ds.map .d)) []
section
variable {K : PySem.W.Frag} {E : XK} {ρ ρ0 : List Addr} {G H G0 H0 : Hp} {μ : MS}
theorem env_none {c : Cn} : ∀ n : Nat, EnvOk c ρ G (List.replicate n none) (List.replicate n none)
  | 0 => .nil
  | n + 1 => .no (env_none n)
theorem env_start {c : Cn} {N : List Str} : ∀ {vs : List V} {ds : List Dv}, AtAll c ρ G vs ds → EnvOk c ρ G (L2.start N vs) (startD N.length ds) := by
  intro vs ds a
  unfold L2.start startD
  rw [a.length]
  generalize N.length - ds.length = k
  induction vs generalizing ds with
  | nil => cases a; exact env_none k
  | cons v vs ih =>
    cases a with
    | cons a1 a2 => exact .yes a1 (ih a2)
theorem rel0 {st : Addr} (so : StOk G H st) (gh : Same G H) : Rel ⟨K, st⟩ [] G H [] := ⟨gh, rfl, by simp, fun n a o h => by simp at h, so, by simp⟩
/-- the reading of such a def holds -/
theorem pure_ok {N : List Str} {k : Nat} {t : TS} {b : BS} (S : ∀ st, SS ⟨K, st⟩ E t b) {vs : List V} {H : Hp} {Q : VK} (h : spP K (fPure N.length k b) vs H Q E) : t { nx := fun _ H' => Q .non H', rt := Q } (L2.start N vs) H := by
  obtain ⟨st, G, ds, so, gh, a, E', Q', ⟨hl, h⟩, hE, hQ⟩ := h
  have R := rel0 (K := K) so gh
  refine S st R (env_start a.up) ⟨?_, ?_, ?_, ?_, ?_⟩ h
  · intro α' μ' x σ' ρ' G' H' s' R' e'
    exact hQ _ x .non _ _ (gr_of gh s' R') (frzG_so R') .non
  · rintro d μ' ⟨x, hz, q⟩ v ρ' G' H' s' R' a'
    exact hQ _ q v _ _ (gr_of gh s' R') (frzG_so R') (hz.at_ R' a')
  · intro α' μ' x; exact x.elim
  · intro α' μ' x; exact x.elim
  · rintro e μ' x cls dd ρ' G' H' s' R' ⟨e1, ez⟩
    refine hE _ x cls dd _ _ (gr_of gh s' R') (frzG_so R') ⟨e1, ?_⟩
    rcases ez with ez | ⟨d, fvs, e2, e3, e4, e5⟩
    · exact .inl ez
    · exact .inr ⟨d, fvs, e2, e3, e4, e5.mono (frzG_gg R')⟩
theorem pure_len {n k : Nat} {b : BS} {vs : List V} {H : Hp} {Q : VK} (h : spP K (fPure n k b) vs H Q E) : vs.length = k := by
  obtain ⟨st, G, ds, so, gh, a, E', Q', ⟨hl, h⟩, hE, hQ⟩ := h
  rw [a.length]; exact hl
/-- nothing is raised -/
def fNo (f : PF) : PF := fun ds _ Q => f ds (fun _ => False) Q
theorem pure_ok0 {N : List Str} {k : Nat} {t : TS} {b : BS} (S : ∀ st, SS ⟨K, st⟩ E0 t b) {vs : List V} {H : Hp} {Q : VK} (h : spP K (fNo (fPure N.length k b)) vs H Q E) : t { nx := fun _ H' => Q .non H', rt := Q } (L2.start N vs) H := by
  obtain ⟨st, G, ds, so, gh, a, E', Q', ⟨hl, h⟩, hE, hQ⟩ := h
  have R := rel0 (K := K) so gh
  refine S st R (env_start a.up) ⟨?_, ?_, ?_, ?_, ?_⟩ h
  · intro α' μ' x σ' ρ' G' H' s' R' e'
    exact hQ _ x .non _ _ (gr_of gh s' R') (frzG_so R') .non
  · rintro d μ' ⟨x, hz, q⟩ v ρ' G' H' s' R' a'
    exact hQ _ q v _ _ (gr_of gh s' R') (frzG_so R') (hz.at_ R' a')
  · intro α' μ' x; exact x.elim
  · intro α' μ' x; exact x.elim
  · intro e μ' x; exact x.elim
theorem pure_len0 {n k : Nat} {b : BS} {vs : List V} {H : Hp} {Q : VK} (h : spP K (fNo (fPure n k b)) vs H Q E) : vs.length = k := by
  obtain ⟨st, G, ds, so, gh, a, E', Q', ⟨hl, h⟩, hE, hQ⟩ := h
  rw [a.length]; exact hl
/-! ### defs that work on objects -/
abbrev OF := List Dv → XS → MS → DK → Prop
def spO (K : PySem.W.Frag) (f : OF) : Sp := fun vs H Q E => ∃ (st : Addr) (ρ : List Addr) (G : Hp) (μ : MS) (ds : List Dv), Rel ⟨K, st⟩ ρ G H μ ∧ AtAll ⟨K, st⟩ ρ G vs ds ∧
  ∃ (E' : XS) (Q' : DK), f ds E' μ Q' ∧ PX ⟨K, st⟩ ρ G H E E' ∧ PQ ⟨K, st⟩ ρ G H Q Q'
def fOpen (n k : Nat) (b : BS) : OF := fun ds E μ Q => ds.length = k ∧ b { nx := fun _ μ' => Q (.d .non) μ', rt := Q, er := E } (startD n ds) μ
def fNoO (f : OF) : OF := fun ds _ μ Q => f ds noX μ Q
theorem open_ok0 {N : List Str} {k : Nat} {t : TS} {b : BS} (S : ∀ st, SS ⟨K, st⟩ E0 t b) {vs : List V} {H : Hp} {Q : VK} (h : spO K (fNoO (fOpen N.length k b)) vs H Q E) : t { nx := fun _ H' => Q .non H', rt := Q } (L2.start N vs) H := by
  obtain ⟨st, ρ, G, μ, ds, R, a, E', Q', ⟨hl, h⟩, px, q⟩ := h
  refine (S st).run (D' := { nx := fun _ μ' => Q' (.d .non) μ', rt := Q', er := noX }) R (env_start a) ⟨?_, q, ?_, ?_, px_no⟩ h
  · intro α' μ' x σ' ρ' G' H' s' R' e'
    exact q _ _ x _ _ _ _ s' R' (.d .non)
  · intro α' μ' x; exact x.elim
  · intro α' μ' x; exact x.elim
theorem open_len0 {n k : Nat} {b : BS} {vs : List V} {H : Hp} {Q : VK} (h : spO K (fNoO (fOpen n k b)) vs H Q E) : vs.length = k := by
  obtain ⟨st, ρ, G, μ, ds, R, a, E', Q', ⟨hl, h⟩, px, q⟩ := h
  rw [a.length]; exact hl
end
/-! ### calls -/
section
variable {c : Cn} {E : XK} {ρ ρ0 : List Addr} {G H G0 H0 : Hp} {μ : MS}
/-- what a call does, by values -/
abbrev CF := List Dv → XS → MS → DK → Prop
def cP (f : PF) : CF := fun ds E μ Q => ∃ μ2 xs, fzs μ ds = some (μ2, xs) ∧ f xs (fun e => E e μ2) (fun x => Q (.d x) μ2)
def cO (f : OF) : CF := fun ds E μ Q => f ds E μ Q
/-- sp serves the call: for what is raised Ex is wished -/
structure SC (c : Cn) (E Ex : XK) (sp : Sp) (f : CF)  : Prop where
  run : ∀ {ρ : List Addr} {G H : Hp} {μ : MS} {vs : List V} {ds : List Dv} {Q : VK} {E' : XS} {Q' : DK}, Rel c ρ G H μ → AtAll c ρ G vs ds → PX c ρ G H E E' → PQ c ρ G H Q Q' → f ds E' μ Q' → sp vs H Q Ex
instance (c : Cn) (E Ex : XK) (sp : Sp) (f : CF)  : CoeFun (SC c E Ex sp f) fun _ => ∀ {ρ : List Addr} {G H : Hp} {μ : MS} {vs : List V} {ds : List Dv} {Q : VK} {E' : XS} {Q' : DK}, Rel c ρ G H μ → AtAll c ρ G vs ds → PX c ρ G H E E' → PQ c ρ G H Q Q' → f ds E' μ Q' → sp vs H Q Ex := ⟨fun h => h.run⟩
theorem Rel.after (R : Rel c ρ G H μ) {G1 H1 : Hp} (g : Gr [c.st] G H G1 H1) (so : StOk G1 H1 c.st) : Rel c ρ G1 H1 μ ∧ Stp c.st ρ G H ρ G1 H1 := R.draw g so
theorem sc_P {f : PF} : SC c E E (spP c.K f) (cP f) := by
  refine ⟨?_⟩
  rintro ρ G H μ vs ds Q E' Q' R a px q ⟨μ2, xs, e, h⟩
  obtain ⟨G', R', s', a'⟩ := fzs_ok R a e
  refine ⟨c.st, G', xs, R'.so, R'.gh, a', _, _, h, ?_, ?_⟩
  · rintro ex hx cls dd G2 H2 g so ez
    obtain ⟨R2, s2⟩ := R'.draw g so
    exact px _ _ hx _ _ _ _ _ (s'.trans s2) R2 ez
  · intro d hd v G2 H2 g so a2
    obtain ⟨R2, s2⟩ := R'.draw g so
    exact q _ _ hd _ _ _ _ (s'.trans s2) R2 (.d a2)
/-- nothing is raised by it -/
def NoE (f : PF) : Prop := ∀ ds E Q, f ds E Q → f ds (fun _ => False) Q
def NoEO (f : OF) : Prop := ∀ ds E μ Q, f ds E μ Q → f ds noX μ Q
theorem sc_P0 {f : PF} (hf : NoE f) : SC c E E0 (spP c.K f) (cP f) := by
  refine ⟨?_⟩
  rintro ρ G H μ vs ds Q E' Q' R a px q ⟨μ2, xs, e, h⟩
  obtain ⟨G', R', s', a'⟩ := fzs_ok R a e
  refine ⟨c.st, G', xs, R'.so, R'.gh, a', fun _ => False, _, hf _ _ _ h, fun _ x => x.elim, ?_⟩
  intro d hd v G2 H2 g so a2
  obtain ⟨R2, s2⟩ := R'.draw g so
  exact q _ _ hd _ _ _ _ (s'.trans s2) R2 (.d a2)
/-- a def that may raise, where it does not -/
theorem sc_PN {f : PF} : SC c E E0 (spP c.K f) (cP (fNo f)) := by
  refine ⟨?_⟩
  rintro ρ G H μ vs ds Q E' Q' R a px q ⟨μ2, xs, e, h⟩
  obtain ⟨G', R', s', a'⟩ := fzs_ok R a e
  refine ⟨c.st, G', xs, R'.so, R'.gh, a', fun _ => False, _, h, fun _ x => x.elim, ?_⟩
  intro d hd v G2 H2 g so a2
  obtain ⟨R2, s2⟩ := R'.draw g so
  exact q _ _ hd _ _ _ _ (s'.trans s2) R2 (.d a2)
theorem sc_O0 {f : OF} (hf : NoEO f) : SC c E E0 (spO c.K f) (cO f) := ⟨fun R a px q h => ⟨c.st, _, _, _, _, R, a, noX, _, hf _ _ _ _ h, px_no, q⟩⟩
/-! the forms of calls -/
def mCall (f : CF) (r : AS) : ES := fun E α μ Q => r E α μ fun ds μ1 => f ds E μ1 Q
theorem se_call {E1 : XK} {sp : Sp} {f : CF} {ta : TA} {r : AS} (hs : SC c E E1 sp f) (ha : SA c E ta r) : SE c E (tCall sp [] E1 ta) (mCall f r) := by
  refine ⟨?_⟩
  intro ρ G H σ α μ Q E' Q' R e px q h
  refine ha R e px ?_ h
  intro ds μ1 h1 vs ρ1 G1 H1 s1 R1 a1
  have := hs R1 a1 (px.step s1) (q.step s1) h1
  rw [List.append_nil]
  exact this
def mMeth (C : Addr) (m : Str) (f : CF) (a : ES) (r : AS) : ES := fun E α μ Q => a E α μ fun d μ1 => ∃ fs, isV μ1 d = some (C, fs) ∧ fs.lookup m = none ∧ r E α μ1 fun ds μ2 => f (d :: ds) E μ2 Q
theorem se_meth {E1 : XK} {C : Addr} {m : Str} {sp : Sp} {f : CF} {ta : TE} {tr : TA} {a : ES} {r : AS} (hs : SC c E E1 sp f) (ha : SE c E ta a) (hr : SA c E tr r) : SE c E (tMeth C m sp [] E1 ta tr) (mMeth C m f a r) := by
  refine ⟨?_⟩
  intro ρ G H σ α μ Q E' Q' R e px q h
  refine ha R e px ?_ h
  rintro d μ1 ⟨fs, e1, e2, h1⟩ x ρ1 G1 H1 s1 R1 a1
  obtain ⟨p, dx, fvs, rfl, h2, hk, t⟩ := isV_ok R1 a1 e1
  refine ⟨p, dx, fvs, rfl, h2, ents_none hk e2, ?_⟩
  refine hr R1 (s1.env e) (px.step s1) ?_ h1
  intro ds μ2 h3 vs ρ2 G2 H2 s2 R2 a2
  have s02 := s1.trans s2
  have := hs R2 (.cons (s2.at_ a1) a2) (px.step s02) (q.step s02) h3
  rw [List.append_nil]
  exact this
theorem make_step {sp : Sp} {E1 : XK} {f : CF} {C : Addr} (hs : SC c E E1 sp f) {vs : List V} {ds : List Dv} {Q : VK} {Q' : DK} {E' : XS} (R : Rel c ρ G H μ) (a : AtAll c ρ G vs ds) (px : PX c ρ G H E E') (q : PQ c ρ G H Q Q')
    (h : f (.ob μ.length :: ds) E' (μ ++ [.ins C []]) fun d μ2 => d = .d .non ∧ Q' (.ob μ.length) μ2) {x dx : Addr} (hx : H x = none) (hdx : H dx = none) (hxd : dx ≠ x) :
    sp (.ref x :: vs) (upd (upd H dx (.own x)) x (.ins C dx [])) (fun v H2 => v = .non ∧ Q (.ref x) H2) E1 := by
  obtain ⟨R1, s1⟩ := R.junk (u := .own x) hdx
  have hx1 : (upd H dx (.own x)) x = none := by rw [upd_ne (Ne.symm hxd)]; exact hx
  obtain ⟨R2, s2⟩ := R1.alloc (u := .ins C dx []) (o := .ins C []) hx1 ⟨R1.free hx1, dx, [], upd_same, rfl, .nil⟩
  have s02 := s1.trans s2
  have hob : (ρ ++ [x])[μ.length]? = some x := by rw [← R.len]; simp
  refine hs R2 (.cons (.ob hob) (s02.all a)) (px.step s02) ?_ h
  rintro d μ3 ⟨rfl, h3⟩ v ρ3 G3 H3 s3 R3 a3
  exact ⟨at_non a3, q _ _ h3 _ _ _ _ (s02.trans s3) R3 (s3.at_ (.ob hob))⟩
def mMakeK (C : Addr) (n m : Nat) (f : CF) (r rk : AS) : ES := fun E α μ Q => r E α μ fun ds μ1 => rk E α μ1 fun zs μ2 => ds.length = n ∧ zs.length = m ∧ f (.ob μ2.length :: (ds ++ zs)) E (μ2 ++ [.ins C []]) fun d μ3 => d = .d .non ∧ Q (.ob μ2.length) μ3
theorem se_makeK {E1 : XK} {C : Addr} {n m : Nat} {sp : Sp} {f : CF} {tr tk : TA} {r rk : AS} (hs : SC c E E1 sp f) (hr : SA c E tr r) (hk : SA c E tk rk) : SE c E (tMakeK C n m sp (fun a b => a ++ b) E1 tr tk) (mMakeK C n m f r rk) := by
  refine ⟨?_⟩
  intro ρ G H σ α μ Q E' Q' R e px q h
  refine hr R e px ?_ h
  intro ds μ1 h1 vs ρ1 G1 H1 s1 R1 a1
  refine hk R1 (s1.env e) (px.step s1) ?_ h1
  rintro zs μ2 ⟨hl1, hl2, h2⟩ ws ρ2 G2 H2 s2 R2 a2
  have s02 := s1.trans s2
  refine ⟨by rw [a1.length]; exact hl1, by rw [a2.length]; exact hl2, fun x dx hx hdx hxd => ?_⟩
  exact make_step hs R2 ((s2.all a1).append a2) (px.step s02) (q.step s02) h2 hx hdx hxd
theorem at_cls {v : V} {a : Addr} (h : At c ρ G v (.d (.cls a))) : v = .ref a := by
  cases h with
  | d h => cases h; rfl
/-- == and != by an own __eq__ -/
def oOwn (neg : Bool) (C : Addr) (f : CF) : O2 := fun d1 d2 μ Q => (∃ fs, isV μ d1 = some (C, fs)) ∧ (∃ fs, isV μ d2 = some (C, fs)) ∧ f [d1, d2] noX μ fun d μ2 => ∃ r, d = .d (.bl r) ∧ Q (.d (.bl (if neg = true then !r else r))) μ2
theorem so_own {neg : Bool} {C : Addr} {sp : Sp} {f : CF} (hs : SC c E0 E0 sp f) : SO c (rOwn neg C sp E0) (oOwn neg C f) := by
  refine ⟨?_⟩
  rintro ρ G H μ x y d1 d2 Q Q' R a1 a2 q ⟨⟨fs, e1⟩, ⟨gs, e2⟩, h⟩
  obtain ⟨p, dx, fvs, rfl, h2, _⟩ := isV_ok R a1 e1
  obtain ⟨p', dy, gvs, rfl, h3, _⟩ := isV_ok R a2 e2
  refine ⟨.mk, p, p', dx, dy, fvs, gvs, rfl, rfl, h2, h3, ?_⟩
  refine hs R (.cons a1 (.cons a2 .nil)) px_no ?_ h
  rintro d μ2 ⟨r, rfl, h4⟩ v ρ2 G2 H2 s2 R2 a4
  obtain rfl := at_bl a4
  exact ⟨r, rfl, (q.step s2).here R2 (.d (.bl _)) h4⟩
/-- the written dict of two texts -/
def oKD2 (a : Addr) (k1 k2 : Str) (x1 x2 : Da) : O2 := fun d1 d2 μ Q => d1 = .d (.cls a) ∧ ((d2 = .d (.str k1) ∧ Q (.d x1) μ) ∨ (d2 = .d (.str k2) ∧ Q (.d x2) μ))
theorem so_kd2 {a : Addr} {k1 k2 : Str} {v1 v2 : V} {x1 x2 : Da} (h1 : ∀ G, AtD c G v1 x1) (h2 : ∀ G, AtD c G v2 x2) : SO c (rKD2 a k1 k2 v1 v2) (oKD2 a k1 k2 x1 x2) := by
  refine ⟨?_⟩
  rintro ρ G H μ x y d1 d2 Q Q' R a1 a2 q ⟨rfl, ⟨rfl, h⟩ | ⟨rfl, h⟩⟩
  · exact ⟨k1, at_cls a1, at_str a2, .inl ⟨rfl, q.here R (.d (h1 _)) h⟩⟩
  · exact ⟨k2, at_cls a1, at_str a2, .inr ⟨rfl, q.here R (.d (h2 _)) h⟩⟩
/-! ### draws -/
def fTake : PF := fun ds _ Q => ∃ m : Int, ds = [.st, .int m] ∧ 0 < m ∧ m < 1048576 ∧ ∀ d : Int, 0 ≤ d → d < m → Q (.int d)
theorem take_of {A : Ad} {K : PySem.W.Frag} {vs : List V} {H : Hp} {Q : VK} {E : XK} (h : spP K (fNo fTake) vs H Q E) : sp_law_take A K vs H Q E := by
  obtain ⟨st, G, ds, so, gh, a, E', Q', ⟨m, rfl, m0, m1, hd⟩, hE, hQ⟩ := h
  cases a with
  | cons a1 t =>
    cases t with
    | cons a2 t =>
      cases t
      cases a1
      cases a2
      exact ⟨G, st, m, rfl, gh, so, m0, m1, fun d G' H' d0 d1 g s => hQ _ (hd d d0 d1) _ _ _ g s (.int _)⟩
end
end Mz
end
section
set_option Elab.async false
set_option linter.all false
set_option maxRecDepth 100000
set_option maxHeartbeats 4000000
namespace Mz
open PySem L2
section
variable {c : Cn} {E : XK} {ρ ρ0 : List Addr} {G H G0 H0 : Hp} {μ : MS}
def bNever : BS := fun _ _ _ => False
theorem ss_never : SS c E tNever bNever := ⟨fun _ _ _ h => h.elim⟩
/-- list(range(n)) -/
def mLstR (a : ES) : ES := fun E α μ Q => a E α μ fun d μ1 => ∃ n : Int, d = .d (.int n) ∧ RgOk 0 n ∧ Q (.ob μ1.length) (μ1 ++ [.lst (rngD 0 n.toNat)])
theorem se_lstR {ta : TE} {a : ES} (ha : SE c E ta a) : SE c E (tLstRg (tRg1 ta)) (mLstR a) := by
  refine ⟨?_⟩
  intro ρ G H σ α μ Q E' Q' R e px q h
  refine ha R e px ?_ h
  rintro d μ1 ⟨n, rfl, hr, h1⟩ x ρ1 G1 H1 s1 R1 a1
  obtain rfl := at_int a1
  refine ⟨n, rfl, hr, fun p hp => newLst R1 (q.step s1) ?_ h1 hp⟩
  unfold rgV rngD
  rw [Int.sub_zero]
  exact AtAll.map (fun i => .d (.int _)) _
end
theorem call_lenAny {X : Cx} : CallR X (.builtin "len") (rLenAny X.K) := CallR.or call_len call_lenD
theorem sl_MA {X : Cx} : SlR X (fun x lo hi H Q => rSlL X.K x lo hi H Q ∨ rSlA X.K x lo hi H Q) := SlR.or sl_list sl_tupA
end Mz
namespace Mz
open PySem L2
end Mz
end
section
set_option Elab.async false
set_option linter.all false
set_option maxRecDepth 100000
set_option maxHeartbeats 4000000
namespace L2
open PySem PySem.Spec PyProof.Rows Mz
section
variable {X : Cx}
theorem ix_seqK (K : PySem.W.Frag) (h : X.K = K := by rfl) : IxR X (rIx K) := by subst h; exact ix_seq
theorem op_catAK (K : PySem.W.Frag) (h : X.K = K := by rfl) : OpR X (binaryOp .Add) (rCatA K) := by subst h; exact op_catA
theorem op_eqDK (K : PySem.W.Frag) (hu : X.A.units + 64 < cLine) (h : X.K = K := by rfl) : OpR X (compareOp .Eq) (rEqD K) := by subst h; exact op_eqD hu
theorem op_neDK (K : PySem.W.Frag) (hu : X.A.units + 64 < cLine) (h : X.K = K := by rfl) : OpR X (compareOp .NotEq) (rNeD K) := by subst h; exact op_neD hu
theorem op_in_seqK (K : PySem.W.Frag) (h : X.K = K := by rfl) : OpR X (compareOp .In) (rIn K false) := by subst h; exact op_in_seq
theorem op_notIn_seqK (K : PySem.W.Frag) (h : X.K = K := by rfl) : OpR X (compareOp .NotIn) (rIn K true) := by subst h; exact op_notIn_seq
theorem sl_listK (K : PySem.W.Frag) (h : X.K = K := by rfl) : SlR X (rSlL K) := by subst h; exact sl_list
theorem sl_tupAK (K : PySem.W.Frag) (h : X.K = K := by rfl) : SlR X (rSlA K) := by subst h; exact sl_tupA
theorem sl_MAK (K : PySem.W.Frag) (h : X.K = K := by rfl) : SlR X (fun x lo hi H Q => rSlL K x lo hi H Q ∨ rSlA K x lo hi H Q) := by subst h; exact sl_MA
theorem call_lenAnyK (K : PySem.W.Frag) (h : X.K = K := by rfl) : CallR X (.builtin "len") (rLenAny K) := by subst h; exact call_lenAny
theorem call_list_ofK (K : PySem.W.Frag) (h : X.K = K := by rfl) : CallR X (.type "list") (rListOf K) := by subst h; exact call_list_of
theorem call_tuple_ofK (K : PySem.W.Frag) (h : X.K = K := by rfl) : CallR X (.type "tuple") (rTupleOf K) := by subst h; exact call_tuple_of
theorem cr_allK (K : PySem.W.Frag) (hc : X.calm = true) (h : X.K = K := by rfl) : CallR X (.builtin "all") (rAll K) := by subst h; exact cr_all hc
theorem call_isiKK (K : PySem.W.Frag) (h : X.K = K := by rfl) : CallR X (.builtin "isinstance") (rIsi K) := by subst h; exact call_isi
theorem call_isiTK (K : PySem.W.Frag) (h : X.K = K := by rfl) : CallR X (.builtin "isinstance") (rIsiT K) := by subst h; exact call_isiT
theorem mt_indexK (K : PySem.W.Frag) (h : X.K = K := by rfl) : MtR X "list.index" (rIndex K) := by subst h; exact mt_index
theorem pe_fldK (K : PySem.W.Frag) {e : Expr} {ta : TE} {f : Str} {pos : Pos} (he : PE X e ta) (hb : attributeBase e f X.env (eval e X.env) = eval e X.env) (h : X.K = K := by rfl) : PE X (.Attribute e f pos) (tFld K ta f) := by subst h; exact pe_fld he hb
theorem pi_sqK (K : PySem.W.Frag) {tg l : Expr} {tl : TE} (hl : PE X l tl) (h : X.K = K := by rfl) : PI X tg l (iSq K tl) := by subst h; exact pi_sq hl
end
end L2
end
section
set_option Elab.async false
set_option linter.all false
set_option maxRecDepth 100000
set_option maxHeartbeats 4000000
namespace Mz
open PySem L2
/-! ### freezing at will: lists whose items are frozen, through tuples -/
mutual
inductive Pu (μ : MS) : Dv → Da → Prop
  | d (x : Da) : Pu μ (.d x) x
  | frz {n : Nat} {x : Da} : μ[n]? = some (.frz x) → Pu μ (.ob n) x
  | tp {ys : List Dv} {xs : List Da} : PuAll μ ys xs → Pu μ (.tp ys) (.tup xs)
inductive PuAll (μ : MS) : List Dv → List Da → Prop
  | nil : PuAll μ [] []
  | cons {y : Dv} {ys : List Dv} {x : Da} {xs : List Da} : Pu μ y x → PuAll μ ys xs → PuAll μ (y :: ys) (x :: xs)
end
theorem PuAll.map (μ : MS) : ∀ xs : List Da, PuAll μ (xs.map .d) xs
  | [] => .nil
  | x :: r => .cons (.d x) (PuAll.map μ r)
inductive Fz : MS → MS → Prop
  | refl (μ : MS) : Fz μ μ
  | lst {μ μ' : MS} {n : Nat} {ys : List Dv} {xs : List Da} : μ[n]? = some (.lst ys) → PuAll μ ys xs → Fz (μ.set n (.frz (.lst xs))) μ' → Fz μ μ'
theorem Fz.trans {μ1 μ2 μ3 : MS} (h : Fz μ1 μ2) (g : Fz μ2 μ3) : Fz μ1 μ3 := by
  induction h with
  | refl => exact g
  | lst h1 h2 _ ih => exact .lst h1 h2 (ih g)
section
variable {c : Cn} {E : XK} {ρ : List Addr} {H : Hp}
mutual
theorem Pu.ok {G : Hp} {μ : MS} (R : Rel c ρ G H μ) : ∀ {v : V} {y : Dv} {x : Da}, At c ρ G v y → Pu μ y x → AtD c G v x
  | _, _, _, a, .d _ => by cases a with | d a => exact a
  | _, _, _, a, .frz hm => by
    obtain ⟨p, rfl, hn, g, h1⟩ := R.at_ob a hm
    exact h1
  | _, _, _, a, .tp t => by cases a with | tp h t' => exact .tup h (PuAll.ok R t' t)
theorem PuAll.ok {G : Hp} {μ : MS} (R : Rel c ρ G H μ) : ∀ {vs : List V} {ys : List Dv} {xs : List Da}, AtAll c ρ G vs ys → PuAll μ ys xs → AtDs c G vs xs
  | _, _, _, a, .nil => by cases a; exact .nil
  | _, _, _, a, .cons h t => by cases a with | cons a1 a2 => exact .cons (Pu.ok R a1 h) (PuAll.ok R a2 t)
end
theorem Fz.ok {μ μ1 : MS} (h : Fz μ μ1) : ∀ {G : Hp}, Rel c ρ G H μ → ∃ G', Rel c ρ G' H μ1 ∧ Stp c.st ρ G H ρ G' H := by
  induction h with
  | refl μ => intro G R; exact ⟨G, R, Stp.refl⟩
  | @lst μ μ' n ys xs hm t _ ih =>
    intro G R
    have hl : n < ρ.length := by rw [R.len]; exact (List.getElem?_eq_some_iff.mp hm).1
    obtain ⟨p, ep, hn, g, vs, h1, t1⟩ := R.at_ob (.ob (List.getElem?_eq_getElem hl)) hm
    have hx : AtD c (upd G p (.lst vs)) (.ref p) (.lst xs) := .lst upd_same ((PuAll.ok R t1 t).mono fun b w e => get_new g e)
    obtain ⟨R1, s1⟩ := R.frz hn hm g h1 hx
    obtain ⟨G2, R2, s2⟩ := ih R1
    exact ⟨G2, R2, s1.trans s2⟩
end
section
variable {c : Cn}
/-! ### is True, is False -/
def oIsB (neg : Bool) : O2 := fun d1 d2 μ Q => ∃ a b, d1 = .d (.bl a) ∧ d2 = .d (.bl b) ∧ Q (.d (.bl (if neg = true then !decide (a = b) else decide (a = b)))) μ
theorem so_isB : SO c rIsB (oIsB false) := by
  refine ⟨?_⟩
  rintro ρ G H μ x y d1 d2 Q Q' R a1 a2 q ⟨a, b, rfl, rfl, h⟩
  exact ⟨a, b, at_bl a1, at_bl a2, q.here R (.d (.bl _)) h⟩
end
end Mz
end
section
set_option Elab.async false
set_option linter.all false
set_option maxRecDepth 100000
set_option maxHeartbeats 4000000
namespace Mz
open PySem L2
/-! ### the law itself: a state is made, the rest runs over data -/
end Mz
end
section
set_option Elab.async false
set_option linter.all false
set_option maxRecDepth 100000
set_option maxHeartbeats 4000000
namespace Mz
open PySem L2
end Mz
end
section
set_option Elab.async false
set_option linter.all false
set_option maxRecDepth 100000
set_option maxHeartbeats 4000000
namespace Mz
open PySem L2
end Mz
end
section
set_option Elab.async false
set_option linter.all false
set_option maxRecDepth 100000
set_option maxHeartbeats 4000000
namespace Mz
open PySem L2
theorem fn_badO {P : Program} {w : World} {K : PySem.W.Frag} {mg : Str → Option Value} {base : Heap} {k : Nat} {f : Addr} {fd : FuncData} {ps : List Str} : FnOk P w K mg base CX0 k f fd ps (spO K fun _ _ _ _ => False) :=
  ⟨fun vs H Q E h => by obtain ⟨_, _, _, _, _, _, _, _, _, h, _⟩ := h; exact h.elim, fun A outer s H args us vs Q E _ _ _ _ h => by obtain ⟨_, _, _, _, _, _, _, _, _, h, _⟩ := h; exact h.elim⟩
end Mz
end
section
set_option Elab.async false
set_option linter.all false
set_option maxRecDepth 100000
set_option maxHeartbeats 4000000
namespace Mz
open PySem L2
end Mz
end
section
set_option Elab.async false
set_option linter.all false
set_option maxRecDepth 100000
set_option maxHeartbeats 4000000
namespace L2
open PySem
end L2
namespace Mz
open PySem L2
end Mz
end
section
set_option Elab.async false
set_option linter.all false
set_option maxRecDepth 100000
set_option maxHeartbeats 4000000
namespace Mz
open PySem L2 LamX
/-! ### raise -/
section
variable {c : Cn} {E : XK}
def bRaise1 (C : Addr) (f : Str) (r : AS) : BS := fun D α μ => r D.er α μ fun ds μ1 => ∃ μ2 x, fzs μ1 ds = some (μ2, [x]) ∧ D.er ⟨C, [(f, x)]⟩ μ2
def tRaise (C : Addr) (sp : Sp) (E : XK) (ta : TA) : TS := fun _ σ H => tMkO C sp [] ta σ H fun cls d H' => E cls d H'
theorem AtDs.two {G : Hp} {vs : List V} {x y : Da} (h : AtDs c G vs [x, y]) : ∃ v u, vs = [v, u] ∧ AtD c G v x ∧ AtD c G u y := by
  match vs, h with
  | [v, u], .cons h1 (.cons h2 .nil) => exact ⟨v, u, rfl, h1, h2⟩
theorem AtDs.one_ {G : Hp} {vs : List V} {x : Da} (h : AtDs c G vs [x]) : ∃ v, vs = [v] ∧ AtD c G v x := by
  match vs, h with
  | [v], .cons h1 .nil => exact ⟨v, rfl, h1⟩
theorem ss_raise1 {C : Addr} {f : Str} {ta : TA} {r : AS} (T : OexC c.K C) (hf : PySem.W.findIn c.K (.ref C) f = some none) (ha : SA c E ta r) : SS c E (tRaise C (spI1 c.K C f) E ta) (bRaise1 C f r) := by
  refine ⟨?_⟩
  intro ρ G H σ α μ D D' R e pd h
  refine ha R e pd.er ?_ h
  rintro ds μ1 ⟨μ2, x, hz, hE⟩ vs ρ1 G1 H1 s1 R1 a1
  obtain ⟨G2, R2, s2, a2⟩ := fzs_ok R1 a1 hz
  obtain ⟨v, rfl, hv⟩ := a2.one_
  refine ⟨by simp, fun p hp => mk1_ok T hf hp fun dd hd => ?_⟩
  obtain ⟨R3, s3⟩ := R2.junk (u := .xd [(f, v)]) hd
  exact pd.er _ _ hE _ _ _ _ _ ((s1.trans s2).trans s3) R3 ⟨rfl, .inr ⟨dd, [(f, v)], rfl, upd_same, rfl, .cons (hv.mono s3.gg) .nil⟩⟩
end
/-! ### tried -/
/-- the word for an error, as data -/
def errDa (A : Ad) (e : Ex) (r : Da) : Prop := (e.cls ∈ errCls A) ∧ ((∃ w f x, ((e.cls, w, f) ∈ err1a A ∨ (e.cls, w, f) ∈ err1b A) ∧ e.fs = [(f, x)] ∧ r = .tup [.str w, x]) ∨ (e.cls = A.BadCall ∧ ∃ x y, e.fs = [(("reason" : Str), y), (("index" : Str), x)] ∧ r = .tup [.str "call", .tup [x, y]]) ∨ ∃ w, (e.cls, w) ∈ err0 A ∧ e.fs = [] ∧ r = .tup [.str w, .non])
abbrev lamQ : Str := "law.<locals>.<lambda>"
def mTried (A : Ad) (a : ES) : ES := fun E α μ Q => μ[0]? = some (.tb A.lawT lamQ) ∧ a (fun e μ' => ∃ r, errDa A e r ∧ Q (.d r) μ') α μ fun d μ' => Q (mkTup [.d (.str "told"), d]) μ'
section
variable {c : Cn} {E : XK} {A : Ad}
theorem out_of {ρ : List Addr} {G H : Hp} {μ : MS} {e : Ex} {r : Da} {cls : Value} {dd : Option Addr} {Q : VK} {Q' : DK} (R : Rel c ρ G H μ) (q : PQ c ρ G H Q Q') (he : errDa A e r) (hq : Q' (.d r) μ) (a : ExAt c ρ G H e cls dd) :
    ∃ D, cls = .ref D ∧ D ∈ errCls A ∧ OutA A D dd H Q := by
  obtain ⟨ecls, fs⟩ := e
  obtain ⟨rfl, a⟩ := a
  obtain ⟨hm, he⟩ := he
  refine ⟨_, rfl, hm, ?_⟩
  have one : ∀ {w f : Str} {x : Da}, fs = [(f, x)] → r = .tup [.str w, x] → Out1 ecls w f dd H Q := by
    rintro w f x rfl rfl
    rcases a with ⟨z, _⟩ | ⟨d, fvs, rfl, e1, e2, e3⟩
    · cases z
    · obtain ⟨v, ev, hv⟩ := AtDs.one_ e3
      match fvs, e2, ev with
      | [(f', v')], e2, ev =>
        have h1 : f' = f := by simpa using e2
        have h2 : v' = v := by simpa using ev
        subst h1 h2
        refine ⟨d, _, v', rfl, e1, by simp [List.lookup], fun p hp => ?_⟩
        obtain ⟨R1, s1⟩ := R.newF (u := .tup [.str w, v']) hp
        exact q _ _ hq _ _ _ _ s1 R1 (.d (.tup (SqT.of upd_same) (.cons (.str w) (.cons (hv.mono s1.gg) .nil))))
  rcases he with ⟨w, f, x, hw, h1, h2⟩ | ⟨h0, x, y, h1, h2⟩ | ⟨w, hw, h1, h2⟩
  · rcases hw with hw | hw
    · exact .inl ⟨w, f, hw, one h1 h2⟩
    · exact .inr (.inr (.inl ⟨w, f, hw, one h1 h2⟩))
  · refine .inr (.inl ⟨h0, ?_⟩)
    have h1 : fs = _ := h1
    subst h1 h2
    rcases a with ⟨z, _⟩ | ⟨d, fvs, rfl, e1, e2, e3⟩
    · cases z
    · obtain ⟨u, v, ev, hu, hv⟩ := AtDs.two e3
      match fvs, e2, ev with
      | [(f', v'), (g', u')], e2, ev =>
        have h1 : f' = "reason" ∧ g' = "index" := by simpa using e2
        have h2 : v' = u ∧ u' = v := by simpa using ev
        obtain ⟨rfl, rfl⟩ := h1
        obtain ⟨rfl, rfl⟩ := h2
        refine ⟨d, _, u', v', rfl, e1, rfl, rfl, fun p hp p' hp' => ?_⟩
        obtain ⟨R1, s1⟩ := R.newF (u := .tup [u', v']) hp
        obtain ⟨R2, s2⟩ := R1.newF (u := .tup [.str "call", .ref p]) hp'
        have ht : AtD c (upd G p (.tup [u', v'])) (.ref p) (.tup [x, y]) := .tup (SqT.of upd_same) (.cons (hv.mono s1.gg) (.cons (hu.mono s1.gg) .nil))
        exact q _ _ hq _ _ _ _ (s1.trans s2) R2 (.d (.tup (SqT.of upd_same) (.cons (.str _) (.cons (ht.mono s2.gg) .nil))))
  · have h1 : fs = _ := h1
    subst h1 h2
    refine .inr (.inr (.inr ⟨w, hw, ?_, fun p hp => ?_⟩))
    · rintro d rfl
      rcases a with ⟨_, z⟩ | ⟨d, fvs, ez, e1, e2, e3⟩
      · cases z
      · cases ez; exact ⟨_, e1⟩
    · obtain ⟨R1, s1⟩ := R.newF (u := .tup [.str w, .non]) hp
      exact q _ _ hq _ _ _ _ s1 R1 (.d (.tup (SqT.of upd_same) (.cons (.str w) (.cons .non .nil))))
/-- the making of a lambda, by the objects -/
theorem lam_rel {ρ : List Addr} {G H H1 : Hp} {μ : MS} {P : Addr} {q : Str} (R : Rel c ρ G H μ) (h0 : μ[0]? = some (.tb P q)) : TabS H P q ∧ (LamStep P q H H1 → ∃ G1, Rel c ρ G1 H1 μ ∧ Stp c.st ρ G H ρ G1 H1) := by
  have hl : 0 < ρ.length := by rw [R.len]; exact (List.getElem?_eq_some_iff.mp h0).1
  have hn := List.getElem?_eq_getElem hl
  obtain ⟨g, eP, ps, e1, e2, e3⟩ := R.ob 0 _ _ hn h0
  rw [eP] at hn g e1
  refine ⟨⟨ps, e1, e2, fun pos cv hc => ?_⟩, fun hs => ?_⟩
  · obtain ⟨z, h1, h2⟩ := e3 pos cv hc
    exact ⟨z, h1, R.gh _ _ h2⟩
  · rcases hs.2 with rfl | ⟨ps', more, k, hP, hk, rfl, ht, hc⟩
    · exact ⟨G, R, Stp.refl⟩
    · rw [e1] at hP
      have hps : ps = ps' := by
        have z := Option.some.inj hP
        cases z
        rfl
      subst hps
      have hkP : P ≠ k := ne_of_none e1 hk
      obtain ⟨R1, s1⟩ := R.newF (u := CodeO k q) hk
      have eq1 : upd (upd H P (.tbl (ps ++ more))) k (CodeO k q) = upd (upd H k (CodeO k q)) P (.tbl (ps ++ more)) := by
        funext b
        by_cases h1 : b = k
        · subst h1; rw [upd_same, upd_ne (Ne.symm hkP), upd_same]
        · rw [upd_ne h1]
          by_cases h2 : b = P
          · subst h2; rw [upd_same, upd_same]
          · rw [upd_ne h2, upd_ne h2, upd_ne h1]
      have gP : upd G k (CodeO k q) P = none := by rw [upd_ne hkP]; exact g
      obtain ⟨R2, s2⟩ := R1.put (u := .tbl (ps ++ more)) (o' := .tb P q) hn h0 (fun d z => by cases z) ⟨gP, rfl, ps ++ more, upd_same, ht, fun pos cv hcv => by
        rcases hc pos cv hcv with z | z
        · obtain ⟨y, y1, y2⟩ := e3 pos cv z
          exact ⟨y, y1, s1.gg _ _ y2⟩
        · exact ⟨k, z, upd_same⟩⟩
      have hset : μ.set 0 (.tb P q) = μ := by
        refine List.ext_getElem? fun i => ?_
        by_cases hi : 0 = i
        · subst hi
          rw [List.getElem?_set_self (List.getElem?_eq_some_iff.mp h0).1, h0]
        · rw [List.getElem?_set_ne hi]
      rw [hset] at R2
      rw [eq1]
      exact ⟨_, R2, s1.trans s2⟩
theorem se_tried {ta : XK → TE} {a : ES} (ha : ∀ E', SE c E' (ta E') a) : SE c E (tLamX A.lawT lamQ (TTried c.K A) ta) (mTried A a) := by
  refine ⟨?_⟩
  rintro ρ G H σ α μ Q E' Q' R e px q ⟨h0, h⟩
  refine ⟨(lam_rel (H1 := H) R h0).1, fun H1 hs => ?_⟩
  obtain ⟨G1, R1, s1⟩ := (lam_rel R h0).2 hs
  refine (ha _).run R1 (s1.env e) ?_ ?_ h
  · rintro ex μ' ⟨r, he, hr⟩ cls dd ρ2 G2 H2 s2 R2 hx
    exact out_of R2 (q.step (s1.trans s2)) he hr hx
  · intro d μ' hd v ρ2 G2 H2 s2 R2 hv
    exact ⟨by show 2 ≤ sizeLine; decide, fun p hp => newTup R2 (q.step (s1.trans s2)) (.cons (.d (.str _)) (.cons hv .nil)) hd hp⟩
end
end Mz
end
section
set_option Elab.async false
set_option linter.all false
set_option maxRecDepth 100000
set_option maxHeartbeats 4000000
namespace L2
open PySem PySem.Spec PyProof.Rows LamX
/-- THE RULE for the law, its code object told -/
theorem Fun.okT {P : Program} {w : World} {K : PySem.W.Frag} {mg : Str → Option Value} {base : Heap} {x qual : Str} {st : Stmt} {f : Addr} {fd : FuncData} {N ps : List Str} {k : Nat} {sp : Sp} (F : Fun K x qual st f fd) (S : FnScope N ps (defScope st)) (len : ∀ vs H Q E, sp vs H Q E → vs.length = ps.length)
    (hbody : ∀ (c : Addr), fd.code = .ref c → ∀ (A : Around) (outer : List Env) (s : Shared) (H : Hp) (vs : List V) (Q : VK) (E : XK), Room k (A.deeper (envOfC qual (defScope st) s.heap.objs.size f (.ref c))) → sp vs H Q E →
      ∃ t, PSs (cxOf CX0 P w K mg base N qual (defScope st) f (.ref c) A outer s H E).nox (defBody st) t ∧ t { nx := fun _ H' => Q .non H', rt := Q } (start N vs) H) : FnOk P w K mg base CX0 (k + 1) f fd ps sp := by
  obtain ⟨oc, od, kV, doc, pm, an, cdv, ct, osl, rfl, lk, hcd⟩ := F.ex
  obtain ⟨c, rfl⟩ := He.codeIn_ref hcd
  refine fn_of lk hcd S len fun A outer s H vs Q E hr hsp => ?_
  obtain ⟨t, h, q⟩ := hbody c rfl A outer s H vs Q E hr hsp
  exact ⟨t, h.nox, q⟩
end L2
namespace Mz
open PySem L2 LamX
def spLawT (K : PySem.W.Frag) (P : Addr) : Sp := fun vs H Q _ => ∃ (a : Addr) (ns : List Int), vs = [.ref a] ∧ SqL K H a (ns.map V.int) ∧ ns.length ≤ 63 ∧ H P = some (.tbl #[]) ∧ ∀ H', Q (.bl true) H'
theorem relT {K : PySem.W.Frag} {st P : Addr} {G H : Hp} {q : Str} (so : StOk G H st) (gh : Same G H) (hP : H P = some (.tbl #[])) (gP : G P = none) (hst : st ≠ P) : Rel ⟨K, st⟩ [P] G H [.tb P q] where
  gh := gh
  len := rfl
  nd := by simp
  ob := fun n a o h1 h2 => by
    match n, h1, h2 with
    | 0, h1, h2 =>
      cases h1
      cases h2
      exact ⟨gP, rfl, #[], hP, True.intro, fun pos cv hc => by simp [codeAmong] at hc⟩
    | n + 1, h1, h2 => simp at h1
  so := so
  sn := by simpa using hst
theorem law_okT {A : Ad} {K : PySem.W.Frag} {m : Nat} {t : TS} {b : BS} {N : List Str} (S : ∀ st, SS ⟨K, st⟩ E0 t b) (hN : N.length = m + 2)
    (hb : ∀ D : En, (∀ μ, D.rt (.d (.bl true)) μ) → D.er = noX → b D (none :: some (.d .st) :: List.replicate m none) [.tb A.lawT lamQ]) {vs : List V} {H : Hp} {Q : VK} {E : XK} (h : spLawT K A.lawT vs H Q E) :
    tSeq (tAsg (tCall (sp_law_fresh A K) [] E0 (tCons (tVar 0) tNil)) (gName 1)) t { nx := fun _ H' => Q .non H', rt := Q } (L2.start N vs) H := by
  obtain ⟨a, ns, rfl, hS, hl, hT, k⟩ := h
  have e : L2.start N [V.ref a] = some (.ref a) :: none :: List.replicate m none := by
    unfold L2.start
    rw [hN]
    rfl
  rw [e]
  refine ⟨.ref a, rfl, fun _ => none, a, ns, rfl, fun _ _ z => (by cases z), hS, fun st G' H' hn g so => ?_⟩
  have hP : H' A.lawT = some (.tbl #[]) := g.hh _ _ (by simp) hT
  have gP : G' A.lawT = none := by
    cases e2 : G' A.lawT with
    | none => rfl
    | some o =>
      have := g.fr _ _ e2 rfl
      rw [hT] at this
      cases this
  have hst : st ≠ A.lawT := fun z => by rw [z, hT] at hn; cases hn
  refine (S st).run (relT so g.gh hP gP hst) (α := none :: some (.d .st) :: List.replicate m none) (D' := { nx := fun _ _ => False, rt := fun d _ => d = .d (.bl true), er := noX, bk := fun _ _ => False, ct := fun _ _ => False }) (.un (.yes (.d .st) (env_none m))) ⟨?_, ?_, ?_, ?_, ?_⟩ (hb _ (fun _ => rfl) rfl)
  · intro α' μ' x; exact x.elim
  · rintro d μ' rfl v ρ' G1 H1 s' R' a'
    obtain rfl := at_bl a'
    exact k H1
  · intro α' μ' x; exact x.elim
  · intro α' μ' x; exact x.elim
  · intro e μ' x; exact x.elim
/-! ### the words for errors: what the two defs of the law tell -/
abbrev tIsC (K : PySem.W.Frag) (D a : Addr) (d : Option Addr) (C : Addr) : TT := tB (tCB (rIsX K D a d) (tCons (tVar 0) (tCons (tC (.ref C)) tNil)))
theorem isC {K : PySem.W.Frag} {D a C : Addr} {d : Option Addr} {σ : L2.St} {H : Hp} {Q : Bool → Hp → Prop} {b : Bool} (hσ : σ[0]? = some (some (.ref a))) (hk : PySem.W.kitOne K (.ref D) (.ref C) = some b) (hd : ∀ dd, d = some dd → ∃ fs, H dd = some (.xd fs)) (h : Q b H) : tIsC K D a d C σ H Q :=
  ⟨.ref a, hσ, .ref C, .ref C, b, rfl, fun _ z => z, hk, hd, b, rfl, h⟩
theorem chk_no {K : PySem.W.Frag} {D a C : Addr} {d : Option Addr} {r t : TS} {E : Ends} {σ : L2.St} {H : Hp} (hσ : σ[0]? = some (some (.ref a))) (hk : PySem.W.kitOne K (.ref D) (.ref C) = some false) (hd : ∀ dd, d = some dd → ∃ fs, H dd = some (.xd fs)) (h : t E σ H) : tSeq (tIfS (tIsC K D a d C) r tNext) t E σ H :=
  isC hσ hk hd h
theorem chk_yes {K : PySem.W.Frag} {D a C : Addr} {d : Option Addr} {te : TE} {t : TS} {E : Ends} {σ : L2.St} {H : Hp} (hσ : σ[0]? = some (some (.ref a))) (hk : PySem.W.kitOne K (.ref D) (.ref C) = some true) (hd : ∀ dd, d = some dd → ∃ fs, H dd = some (.xd fs)) (h : te σ H E.rt) : tSeq (tIfS (tIsC K D a d C) (tRet te) tNext) t E σ H :=
  isC hσ hk hd h
theorem Out1.dd {D : Addr} {w f : Str} {d : Option Addr} {H : Hp} {Q : VK} (h : Out1 D w f d H Q) : ∀ dd, d = some dd → ∃ fs, H dd = some (.xd fs) := by
  obtain ⟨dd, fs, v, rfl, h1, _⟩ := h
  intro x hx
  cases hx
  exact ⟨fs, h1⟩
theorem Out2.dd {d : Option Addr} {H : Hp} {Q : VK} (h : Out2 d H Q) : ∀ dd, d = some dd → ∃ fs, H dd = some (.xd fs) := by
  obtain ⟨dd, fs, v, u, rfl, h1, _⟩ := h
  intro x hx
  cases hx
  exact ⟨fs, h1⟩
theorem OutB.dd {A : Ad} {D : Addr} {d : Option Addr} {H : Hp} {Q : VK} (h : OutB A D d H Q) : ∀ dd, d = some dd → ∃ fs, H dd = some (.xd fs) := by
  rcases h with ⟨w, f, _, h⟩ | ⟨w, _, h⟩
  · exact h.dd
  · exact h.1
theorem OutB.ix {A : Ad} {D : Addr} {d : Option Addr} {H : Hp} {Q : VK} (h : OutB A D d H Q) : ∃ i, 7 ≤ i ∧ (errCls A)[i]? = some D := by
  rcases h with ⟨w, f, hm, _⟩ | ⟨w, hm, _⟩
  · simp only [err1b, List.mem_cons, List.not_mem_nil, or_false, Prod.mk.injEq] at hm
    rcases hm with ⟨rfl, _⟩ | ⟨rfl, _⟩ | ⟨rfl, _⟩ | ⟨rfl, _⟩ | ⟨rfl, _⟩ | ⟨rfl, _⟩
    · exact ⟨7, by decide, rfl⟩
    · exact ⟨8, by decide, rfl⟩
    · exact ⟨9, by decide, rfl⟩
    · exact ⟨10, by decide, rfl⟩
    · exact ⟨11, by decide, rfl⟩
    · exact ⟨12, by decide, rfl⟩
  · simp only [err0, List.mem_cons, List.not_mem_nil, or_false, Prod.mk.injEq] at hm
    rcases hm with ⟨rfl, _⟩ | ⟨rfl, _⟩
    · exact ⟨13, by decide, rfl⟩
    · exact ⟨14, by decide, rfl⟩
theorem one_tup {D a : Addr} {w f : Str} {d : Option Addr} {H : Hp} {Q : VK} {σ : L2.St} (hσ : σ[0]? = some (some (.ref a))) (h : Out1 D w f d H Q) : tTup (tCons (tC (.str w)) (tCons (tXf a (.ref D) d D f (tVar 0)) tNil)) σ H Q := by
  obtain ⟨dd, fs, v, e1, e2, e3, k⟩ := h
  exact ⟨.ref a, hσ, rfl, rfl, dd, fs, v, e1, e2, e3, by show 2 ≤ sizeLine; decide, k⟩
theorem two_tup {D a : Addr} {d : Option Addr} {H : Hp} {Q : VK} {σ : L2.St} (hσ : σ[0]? = some (some (.ref a))) (h : Out2 d H Q) : tTup (tCons (tC (.str "call")) (tCons (tTup (tCons (tXf a (.ref D) d D "index" (tVar 0)) (tCons (tXf a (.ref D) d D "reason" (tVar 0)) tNil))) tNil)) σ H Q := by
  obtain ⟨dd, fs, v, u, e1, e2, e3, e4, k⟩ := h
  exact ⟨.ref a, hσ, rfl, rfl, dd, fs, v, e1, e2, e3, .ref a, hσ, rfl, rfl, dd, fs, u, e1, e2, e4, by show 2 ≤ sizeLine; decide, fun p hp => ⟨by show 2 ≤ sizeLine; decide, k p hp⟩⟩
theorem no_tup {d : Option Addr} {w : Str} {H : Hp} {Q : VK} {σ : L2.St} (h : Out0 w d H Q) : tTup (tCons (tC (.str w)) (tCons (tC .non) tNil)) σ H Q := ⟨by show 2 ≤ sizeLine; decide, h.2⟩
theorem ErrK.no {K : PySem.W.Frag} {A : Ad} (E : ErrK K A) {i j : Nat} {D C : Addr} (hi : (errCls A)[i]? = some D) (hj : (errCls A)[j]? = some C) (n : i ≠ j) : PySem.W.kitOne K (.ref D) (.ref C) = some false := by
  rw [E.kit i j D C hi hj, decide_eq_false n]
theorem ErrK.yes {K : PySem.W.Frag} {A : Ad} (E : ErrK K A) {i : Nat} {D : Addr} (hi : (errCls A)[i]? = some D) : PySem.W.kitOne K (.ref D) (.ref D) = some true := by
  rw [E.kit i i D D hi hi, decide_eq_true rfl]
end Mz
end
section
set_option Elab.async false
set_option linter.all false
set_option maxRecDepth 100000
set_option maxHeartbeats 1000000
namespace Mz
open PySem L2 TL
local macro_rules | `(tactic| row_cond sd) => `(tactic| first | with_reducible assumption | with_reducible exact rfl | exact rfl | exact True.intro | assumption | decide)
local macro_rules | `(tactic| row_cond st) => `(tactic| first
  | refine And.intro (by row_cond sd) ?_
  | refine ⟨_, by row_cond sd, ?_⟩
  | refine ⟨_, _, by row_cond sd, ?_⟩
  | refine ⟨_, _, by row_cond sd, by row_cond sd, ?_⟩
  | refine ⟨_, _, _, by row_cond sd, ?_⟩
  | refine ⟨_, _, _, by row_cond sd, by row_cond sd, ?_⟩
  | refine ⟨_, _, _, by row_cond sd, by row_cond sd, by row_cond sd, ?_⟩
  | refine ⟨_, _, _, _, by row_cond sd, ?_⟩
  | refine ⟨_, _, _, _, by row_cond sd, by row_cond sd, by row_cond sd, ?_⟩
  | refine ⟨_, _, _, _, by row_cond sd, by row_cond sd, by row_cond sd, by row_cond sd, ?_⟩
  | refine iteT ?_
  | refine iteF ?_)
local macro_rules | `(tactic| row_cond go) => `(tactic| repeat (row_cond st))
/-! ### lists and dicts that are never changed; {} == {} -/
section
variable {c : Cn} {E : XK}
theorem atAll_data {ρ : List Addr} {G : Hp} : ∀ {vs : List V} {xs : List Da}, AtAll c ρ G vs (xs.map .d) → AtDs c G vs xs
  | _, [], h => by cases h; exact .nil
  | _, x :: xs, h => by
    cases h with
    | cons a t => cases a with
      | d a => exact .cons a (atAll_data t)
/-- a written list of data that stays as it is -/
def mLstF (r : AS) : ES := fun E α μ Q => r E α μ fun ds μ1 => ds.length ≤ sizeLine ∧ ∃ xs, allD ds = some xs ∧ Q (.d (.lst xs)) μ1
theorem se_lstF {tr : TA} {r : AS} (hr : SA c E tr r) : SE c E (tLst tr) (mLstF r) := by
  refine ⟨?_⟩
  intro ρ G H σ α μ Q E' Q' R e px q h
  refine hr R e px ?_ h
  rintro ds μ1 ⟨hl, xs, he, h1⟩ vs ρ1 G1 H1 s1 R1 a1
  refine ⟨by rw [a1.length]; exact hl, fun p hp => ?_⟩
  obtain ⟨R2, s2⟩ := R1.newF (u := .lst vs) hp
  rw [allD_eq he] at a1
  exact (q.step s1) _ _ h1 _ _ _ _ s2 R2 (.d (.lst upd_same (atAll_data (s2.all a1))))
/-- {} that stays as it is -/
def mDF : ES := fun _ _ μ Q => Q (.d (.dct [])) μ
theorem se_dF : SE c E tDNewK mDF := by
  refine ⟨fun {ρ G H σ α μ Q E' Q'} R e px q h p hp => ?_⟩
  obtain ⟨R2, s2⟩ := R.newF (u := .dK []) hp
  exact q _ _ h _ _ _ _ s2 R2 (.d (.dct (kvs := []) upd_same rfl .nil))
end
def rEqX (K : PySem.W.Frag) : R2 := fun x y H Q => rEqD K x y H Q ∨ rEqDA x y H Q
theorem op_eqXK {X : Cx} (K : PySem.W.Frag) (hu : X.A.units + 64 < cLine) (h : X.K = K := by rfl) : OpR X (compareOp .Eq) (rEqX K) := by
  intro pins s σ H x y v u Q I rx ry hh
  rcases hh with hh | hh
  · exact op_eqDK K hu h pins s σ H x y v u Q I rx ry hh
  · exact op_eq_dictA (by omega) pins s σ H x y v u Q I rx ry hh
def oEqX : O2 := fun d1 d2 μ Q => oEqD false d1 d2 μ Q ∨ (d1 = .d (.dct []) ∧ d2 = .d (.dct []) ∧ Q (.d (.bl true)) μ)
theorem so_eqX {c : Cn} : SO c (rEqX c.K) oEqX := by
  refine ⟨?_⟩
  rintro ρ G H μ x y d1 d2 Q Q' R a1 a2 q (h | ⟨rfl, rfl, h⟩)
  · exact .inl (so_eqD.run R a1 a2 q h)
  · cases a1 with
    | d a1 => cases a2 with
      | d a2 =>
        cases a1 with
        | dct e1 k1 t1 => cases a2 with
          | dct e2 k2 t2 =>
            rename_i a kvs b kvs2
            have z1 : kvs = [] := List.map_eq_nil_iff.mp k1
            have z2 : kvs2 = [] := List.map_eq_nil_iff.mp k2
            subst z1 z2
            exact .inr ⟨a, b, [], [], rfl, rfl, R.gh _ _ e1, R.gh _ _ e2, rfl, by simp, q.here R (.d (.bl _)) h⟩
end Mz
end
section
set_option Elab.async false
set_option linter.all false
set_option maxRecDepth 100000
set_option maxHeartbeats 1000000
namespace Mz
open PySem L2 TL
local macro_rules | `(tactic| row_cond sd) => `(tactic| first | with_reducible assumption | with_reducible exact rfl | exact rfl | exact True.intro | assumption | decide)
local macro_rules | `(tactic| row_cond st) => `(tactic| first
  | refine And.intro (by row_cond sd) ?_
  | refine ⟨_, by row_cond sd, ?_⟩
  | refine ⟨_, _, by row_cond sd, ?_⟩
  | refine ⟨_, _, by row_cond sd, by row_cond sd, ?_⟩
  | refine ⟨_, _, _, by row_cond sd, ?_⟩
  | refine ⟨_, _, _, by row_cond sd, by row_cond sd, ?_⟩
  | refine ⟨_, _, _, by row_cond sd, by row_cond sd, by row_cond sd, ?_⟩
  | refine ⟨_, _, _, _, by row_cond sd, ?_⟩
  | refine ⟨_, _, _, _, by row_cond sd, by row_cond sd, by row_cond sd, ?_⟩
  | refine ⟨_, _, _, _, by row_cond sd, by row_cond sd, by row_cond sd, by row_cond sd, ?_⟩
  | refine iteT ?_
  | refine iteF ?_)
local macro_rules | `(tactic| row_cond go) => `(tactic| repeat (row_cond st))
/-! ### the own == against anything -/
end Mz
end
section
set_option Elab.async false
set_option linter.all false
set_option maxRecDepth 100000
set_option maxHeartbeats 1000000
namespace Mz
open PySem L2 TL
local macro_rules | `(tactic| row_cond sd) => `(tactic| first | with_reducible assumption | with_reducible exact rfl | exact rfl | exact True.intro | assumption | decide)
local macro_rules | `(tactic| row_cond st) => `(tactic| first
  | refine And.intro (by row_cond sd) ?_
  | refine ⟨_, by row_cond sd, ?_⟩
  | refine ⟨_, _, by row_cond sd, ?_⟩
  | refine ⟨_, _, by row_cond sd, by row_cond sd, ?_⟩
  | refine ⟨_, _, _, by row_cond sd, ?_⟩
  | refine ⟨_, _, _, by row_cond sd, by row_cond sd, ?_⟩
  | refine ⟨_, _, _, by row_cond sd, by row_cond sd, by row_cond sd, ?_⟩
  | refine ⟨_, _, _, _, by row_cond sd, ?_⟩
  | refine ⟨_, _, _, _, by row_cond sd, by row_cond sd, by row_cond sd, ?_⟩
  | refine ⟨_, _, _, _, by row_cond sd, by row_cond sd, by row_cond sd, by row_cond sd, ?_⟩
  | refine iteT ?_
  | refine iteF ?_)
local macro_rules | `(tactic| row_cond go) => `(tactic| repeat (row_cond st))
/-! ### an instance made apart, read off as data -/
section
variable {c : Cn} {E : XK}
def mMakeF (C : Addr) (n m : Nat) (f : CF) (r rk : AS) : ES := fun E α μ Q => r E α μ fun ds μ1 => rk E α μ1 fun zs μ2 => ds.length = n ∧ zs.length = m ∧ ∃ μ3 xs, fzs μ2 (ds ++ zs) = some (μ3, xs) ∧
  f (.ob 0 :: xs.map .d) (fun e _ => E e μ3) [.ins C []] fun d μ4 => d = .d .non ∧ ∃ x, Rz μ4 (.ob 0) x ∧ Q (.d x) μ3
theorem se_makeF {E1 : XK} {C : Addr} {n m : Nat} {sp : Sp} {f : CF} {tr tk : TA} {r rk : AS} (hs : SC c E E1 sp f) (hr : SA c E tr r) (hk : SA c E tk rk) : SE c E (tMakeK C n m sp (fun a b => a ++ b) E1 tr tk) (mMakeF C n m f r rk) := by
  refine ⟨?_⟩
  intro ρ G H σ α μ Q E' Q' R e px q h
  refine hr R e px ?_ h
  intro ds μ1 h1 vs ρ1 G1 H1 s1 R1 a1
  refine hk R1 (s1.env e) (px.step s1) ?_ h1
  rintro zs μ2 ⟨hl1, hl2, μ3, xs, hz, h2⟩ ws ρ2 G2 H2 s2 R2 a2
  have s02 := s1.trans s2
  obtain ⟨G3, R3, s3, a3⟩ := fzs_ok R2 ((s2.all a1).append a2) hz
  refine ⟨by rw [a1.length]; exact hl1, by rw [a2.length]; exact hl2, fun x dx hx hdx hxd => ?_⟩
  have R0 : Rel c [] G3 H2 [] := rel0 (K := c.K) (st := c.st) R3.so R3.gh
  refine make_step (ρ := []) (μ := []) (E' := fun e _ => E' e μ3) (Q' := fun d μ4 => ∃ z, Rz μ4 d z ∧ Q' (.d z) μ3) hs R0 a3.up ?_ ?_ h2 hx hdx hxd
  · rintro ex μ' hx cls dd ρ4 G4 H4 s4 R4 ⟨e1, ez⟩
    obtain ⟨R5, s5⟩ := R3.draw (gr_of R3.gh s4 R4) (frzG_so R4)
    refine px ex μ3 hx cls dd _ _ _ (s02.trans (s3.trans s5)) R5 ⟨e1, ?_⟩
    rcases ez with ez | ⟨d, fvs, e2, e3, e4, e5⟩
    · exact .inl ez
    · exact .inr ⟨d, fvs, e2, e3, e4, e5.mono (frzG_gg R4)⟩
  · rintro d μ' ⟨z, hz, hq⟩ v ρ4 G4 H4 s4 R4 a4
    obtain ⟨R5, s5⟩ := R3.draw (gr_of R3.gh s4 R4) (frzG_so R4)
    exact q _ _ hq _ _ _ _ (s02.trans (s3.trans s5)) R5 (.d (hz.at_ R4 a4))
end
end Mz
end
section
set_option Elab.async false
set_option linter.all false
set_option maxRecDepth 100000
set_option maxHeartbeats 1000000
namespace Mz
open PySem L2 TL
local macro_rules | `(tactic| row_cond sd) => `(tactic| first | with_reducible assumption | with_reducible exact rfl | exact rfl | exact True.intro | assumption | decide)
local macro_rules | `(tactic| row_cond st) => `(tactic| first
  | refine And.intro (by row_cond sd) ?_
  | refine ⟨_, by row_cond sd, ?_⟩
  | refine ⟨_, _, by row_cond sd, ?_⟩
  | refine ⟨_, _, by row_cond sd, by row_cond sd, ?_⟩
  | refine ⟨_, _, _, by row_cond sd, ?_⟩
  | refine ⟨_, _, _, by row_cond sd, by row_cond sd, ?_⟩
  | refine ⟨_, _, _, by row_cond sd, by row_cond sd, by row_cond sd, ?_⟩
  | refine ⟨_, _, _, _, by row_cond sd, ?_⟩
  | refine ⟨_, _, _, _, by row_cond sd, by row_cond sd, by row_cond sd, ?_⟩
  | refine ⟨_, _, _, _, by row_cond sd, by row_cond sd, by row_cond sd, by row_cond sd, ?_⟩
  | refine iteT ?_
  | refine iteF ?_)
local macro_rules | `(tactic| row_cond go) => `(tactic| repeat (row_cond st))
/-! ### a value that will not be changed any more -/
section
variable {c : Cn} {E : XK}
def mFz (a : ES) : ES := fun E α μ Q => a E α μ fun d μ1 => ∃ μ2 x, fz1 μ1 d = some (μ2, x) ∧ Q (.d x) μ2
theorem se_fz {te : TE} {a : ES} (ha : SE c E te a) : SE c E te (mFz a) := by
  refine ⟨?_⟩
  intro ρ G H σ α μ Q E' Q' R e px q h
  refine ha R e px ?_ h
  rintro d μ1 ⟨μ2, x, hz, h1⟩ v ρ1 G1 H1 s1 R1 a1
  obtain ⟨G2, R2, s2, a2⟩ := fzs_ok (ys := [d]) (xs := [x]) (μ1 := μ2) R1 (.cons a1 .nil) (by simp [fzs, hz])
  obtain ⟨u, hu, hx⟩ := a2.one_
  obtain rfl : v = u := by simpa using hu
  exact q _ _ h1 _ _ _ _ (s1.trans s2) R2 (.d hx)
end
end Mz
end
section
set_option Elab.async false
set_option linter.all false
set_option maxRecDepth 100000
set_option maxHeartbeats 4000000
namespace Mz
open PySem L2
def strT (ss : List Str) : Da := .tup (ss.map Da.str)
abbrev w_HANDS : Da := strT ["self", "new", "last"]
abbrev w_DEEDS_one : Da := strT ["set", "clear"]
abbrev w_DEEDS_many : Da := strT ["add", "strike", "fresh", "clear"]
@[irreducible] def m_law_take (A : Ad) (K : PySem.W.Frag) : PF := fNo fTake
theorem ne_law_take {A : Ad} {K : PySem.W.Frag} : NoE (m_law_take A K) := by unfold m_law_take; exact fun _ _ _ h => h
def b_law_one (A : Ad) (K : PySem.W.Frag) : BS :=
 (bRet (mOp oIx (mVar 1) (mCall (cP (m_law_take A K)) (mCons (mVar 0) (mCons (mCB oLen (mCons (mVar 1) mNil)) mNil)))))
@[irreducible] def m_law_one (A : Ad) (K : PySem.W.Frag) : PF := fNo (fPure 2 2 (b_law_one A K))
theorem ne_law_one {A : Ad} {K : PySem.W.Frag} : NoE (m_law_one A K) := by unfold m_law_one; exact fun _ _ _ h => h
def w_law_mix_1 (A : Ad) (K : PySem.W.Frag) : BS := (bDrop (mBM oAppend (mVar 3) (mCons (mBM oPopAt (mVar 2) (mCons (mCall (cP (m_law_take A K)) (mCons (mVar 0) (mCons (mCB oLen (mCons (mVar 2) mNil)) mNil))) mNil)) mNil)))
def k_law_mix_2 (A : Ad) (K : PySem.W.Frag) : BS := (bRet (mVar 3))
def b_law_mix (A : Ad) (K : PySem.W.Frag) : BS :=
 (bSeq (bPar 2 3 (mCons (mCB oList (mCons (mVar 1) mNil)) (mCons (mLst mNil) mNil)))
 (bSeq (bWhile (mT (mOp (oEqD true) (mVar 2) (mLst mNil))) (w_law_mix_1 A K))
 (k_law_mix_2 A K)))
@[irreducible] def m_law_mix (A : Ad) (K : PySem.W.Frag) : PF := fNo (fPure 4 2 (b_law_mix A K))
theorem ne_law_mix {A : Ad} {K : PySem.W.Frag} : NoE (m_law_mix A K) := by unfold m_law_mix; exact fun _ _ _ h => h
def b_is_integer (A : Ad) (K : PySem.W.Frag) : BS :=
 (bRet (mAndV (mCB (oIsi K) (mCons (mVar 0) (mCons (mC (.d (.ty "int"))) mNil))) (mNotV (mCB (oIsi K) (mCons (mVar 0) (mCons (mC (.d (.ty "bool"))) mNil))))))
@[irreducible] def m_is_integer (A : Ad) (K : PySem.W.Frag) : PF := fNo (fPure 1 1 (b_is_integer A K))
theorem ne_is_integer {A : Ad} {K : PySem.W.Frag} : NoE (m_is_integer A K) := by unfold m_is_integer; exact fun _ _ _ h => h
def b_is_between (A : Ad) (K : PySem.W.Frag) : BS :=
 (bRet (mAndV (mCall (cP (m_is_integer A K)) (mCons (mVar 0) mNil)) (mChain oLe oLe (mVar 1) (mVar 0) (mVar 2))))
@[irreducible] def m_is_between (A : Ad) (K : PySem.W.Frag) : PF := fNo (fPure 3 3 (b_is_between A K))
theorem ne_is_between {A : Ad} {K : PySem.W.Frag} : NoE (m_is_between A K) := by unfold m_is_between; exact fun _ _ _ h => h
def b_is_list (A : Ad) (K : PySem.W.Frag) : BS :=
 (bRet (mIsT K (mVar 0) (mCons (mC (.d (.ty "list"))) (mCons (mC (.d (.ty "tuple"))) mNil))))
@[irreducible] def m_is_list (A : Ad) (K : PySem.W.Frag) : PF := fNo (fPure 1 1 (b_is_list A K))
theorem ne_is_list {A : Ad} {K : PySem.W.Frag} : NoE (m_is_list A K) := by unfold m_is_list; exact fun _ _ _ h => h
def b_is_row (A : Ad) (K : PySem.W.Frag) : BS :=
 (bRet (mAndV (mCall (cP (m_is_list A K)) (mCons (mVar 0) mNil)) (mOp (oEq false) (mCB oLen (mCons (mVar 0) mNil)) (mVar 1))))
@[irreducible] def m_is_row (A : Ad) (K : PySem.W.Frag) : PF := fNo (fPure 2 2 (b_is_row A K))
theorem ne_is_row {A : Ad} {K : PySem.W.Frag} : NoE (m_is_row A K) := by unfold m_is_row; exact fun _ _ _ h => h
def b_is_word (A : Ad) (K : PySem.W.Frag) : BS :=
 (bSeq (bIf (mOrT (mNotT (mT (mCB (oIsi K) (mCons (mVar 0) (mCons (mC (.d (.ty "str"))) mNil))))) (mNotT (mT (mChain oLe oLe (mC (.d (.int 1))) (mCB oLen (mCons (mVar 0) mNil)) (mC (.d (.int 8)))))))
 (bRet (mC (.d (.bl false))))
 bNext)
 (bRet (mCB oAll (mCons (mLc (miStr (mVar 0)) (nName 1) mYes (mOp (oInS false) (mVar 1) (mC (.d (.str "abcdefghijklmnopqrstuvwxyz")))) [1]) mNil))))
@[irreducible] def m_is_word (A : Ad) (K : PySem.W.Frag) : PF := fNo (fPure 2 1 (b_is_word A K))
theorem ne_is_word {A : Ad} {K : PySem.W.Frag} : NoE (m_is_word A K) := by unfold m_is_word; exact fun _ _ _ h => h
def b_are_unlike (A : Ad) (K : PySem.W.Frag) : BS :=
 (bRet (mOp (oEq false) (mCB oLen (mCons (mDc (miSq (mVar 0)) (nName 1) mYes (mVar 1) (mC (.d (.bl true))) [1]) mNil)) (mCB oLen (mCons (mVar 0) mNil))))
@[irreducible] def m_are_unlike (A : Ad) (K : PySem.W.Frag) : PF := fNo (fPure 2 1 (b_are_unlike A K))
theorem ne_are_unlike {A : Ad} {K : PySem.W.Frag} : NoE (m_are_unlike A K) := by unfold m_are_unlike; exact fun _ _ _ h => h
def l_checked_fields_1 (A : Ad) (K : PySem.W.Frag) : BS := (bSeq (bAsg (mAndV (mCall (cP (m_is_row A K)) (mCons (mVar 3) (mCons (mC (.d (.int 3))) mNil))) (mAndV (mCall (cP (m_is_word A K)) (mCons (mOp oIx (mVar 3) (mC (.d (.int 0)))) mNil)) (mCB (oIsi K) (mCons (mOp oIx (mVar 3) (mC (.d (.int 2)))) (mCons (mC (.d (.ty "bool"))) mNil))))) (nName 4))
 (bSeq (bIf (mOrT (mT (mOp (oEq false) (mVar 2) (mC (.d (.int 3))))) (mOrT (mNotT (mT (mVar 4))) (mT (mOp (oIn true) (mOp oIx (mVar 3) (mC (.d (.int 1)))) (mTup (mCons (mC (.d (.str "one"))) (mCons (mC (.d (.str "many"))) mNil)))))))
 bNever
 bNext)
 (bSeq (bIf (mT (mOp (oIn false) (mOp oIx (mVar 3) (mC (.d (.int 0)))) (mLc (miSq (mVar 1)) (nName 5) mYes (mOp oIx (mVar 5) (mC (.d (.int 0)))) [5])))
 bNever
 bNext)
 (bDrop (mBM oAppend (mVar 1) (mCons (mCB oTuple (mCons (mVar 3) mNil)) mNil))))))
def k_checked_fields_2 (A : Ad) (K : PySem.W.Frag) : BS := (bRet (mVar 1))
def b_checked_fields (A : Ad) (K : PySem.W.Frag) : BS :=
 (bSeq (bIf (mOrT (mNotT (mT (mCall (cP (m_is_list A K)) (mCons (mVar 0) mNil)))) (mT (mOp (oEq false) (mCB oLen (mCons (mVar 0) mNil)) (mC (.d (.int 0))))))
 bNever
 bNext)
 (bSeq (bAsg (mLst mNil) (nName 1))
 (bSeq (bFor (miEn (mVar 0)) (nTup 2 (nCons (nName 2) (nCons (nName 3) nNil))) (l_checked_fields_1 A K))
 (k_checked_fields_2 A K))))
@[irreducible] def m_checked_fields (A : Ad) (K : PySem.W.Frag) : PF := fNo (fPure 6 1 (b_checked_fields A K))
theorem ne_checked_fields {A : Ad} {K : PySem.W.Frag} : NoE (m_checked_fields A K) := by unfold m_checked_fields; exact fun _ _ _ h => h
def b_is_deed (A : Ad) (K : PySem.W.Frag) : BS :=
 (bSeq (bIf (mOrT (mNotT (mT (mCall (cP (m_is_row A K)) (mCons (mVar 0) (mCons (mC (.d (.int 2))) mNil))))) (mOrT (mNotT (mT (mCB (oIsi K) (mCons (mOp oIx (mVar 0) (mC (.d (.int 1)))) (mCons (mC (.d (.ty "str"))) mNil))))) (mT (mDIn true (mOp oIx (mVar 0) (mC (.d (.int 1)))) (mVar 1)))))
 (bRet (mC (.d (.bl false))))
 bNext)
 (bRet (mAndV (mCB (oIsi K) (mCons (mOp oIx (mVar 0) (mC (.d (.int 0)))) (mCons (mC (.d (.ty "str"))) mNil))) (mOp (oIn false) (mOp oIx (mVar 0) (mC (.d (.int 0)))) (mOp (oKD2 A.DEEDS "one" "many" w_DEEDS_one w_DEEDS_many) (mC (.d (.cls A.DEEDS))) (mDGet (mVar 1) (mOp oIx (mVar 0) (mC (.d (.int 1))))))))))
@[irreducible] def m_is_deed (A : Ad) (K : PySem.W.Frag) : PF := fNo (fPure 2 2 (b_is_deed A K))
theorem ne_is_deed {A : Ad} {K : PySem.W.Frag} : NoE (m_is_deed A K) := by unfold m_is_deed; exact fun _ _ _ h => h
def b_is_same (A : Ad) (K : PySem.W.Frag) : BS :=
 (bSeq (bIf (mNotT (mT (mCB oAll (mCons (mLc (miSq (mVar 0)) (nName 3) mYes (mAndV (mCB (oIsi K) (mCons (mVar 3) (mCons (mC (.d (.ty "str"))) mNil))) (mOp (oEq false) (mDGet1 (mVar 2) (mVar 3)) (mC (.d (.str "many"))))) [3]) mNil))))
 (bRet (mC (.d (.bl false))))
 bNext)
 (bRet (mAndV (mCall (cP (m_are_unlike A K)) (mCons (mVar 0) mNil)) (mOrV (mOp (oEq true) (mVar 1) (mC (.d (.str "self")))) (mOp (oEq false) (mCB oLen (mCons (mVar 0) mNil)) (mC (.d (.int 0))))))))
@[irreducible] def m_is_same (A : Ad) (K : PySem.W.Frag) : PF := fNo (fPure 4 3 (b_is_same A K))
theorem ne_is_same {A : Ad} {K : PySem.W.Frag} : NoE (m_is_same A K) := by unfold m_is_same; exact fun _ _ _ h => h
def b_reason_against (A : Ad) (K : PySem.W.Frag) : BS :=
 (bSeq (bIf (mOrT (mNotT (mT (mCall (cP (m_is_row A K)) (mCons (mVar 0) (mCons (mC (.d (.int 5))) mNil))))) (mNotT (mT (mCB oAll (mCons (mLc (miSq (mSl oSlM (mVar 0) mNoPart (mPart (mC (.d (.int 2)))))) (nName 4) mYes (mCB (oIsi K) (mCons (mVar 4) (mCons (mC (.d (.ty "str"))) mNil))) [4]) mNil)))))
 (bRet (mC (.d (.str "call"))))
 bNext)
 (bSeq (bIf (mNotT (mT (mCB oAll (mCons (mLc (miSq (mSl oSlM (mVar 0) (mPart (mC (.d (.int 2)))) mNoPart)) (nName 4) mYes (mCall (cP (m_is_list A K)) (mCons (mVar 4) mNil)) [4]) mNil))))
 (bRet (mC (.d (.str "call"))))
 bNext)
 (bSeq (bAsg (mVar 0) (nSeq 5 (nCons (nName 5) (nCons (nName 6) (nCons (nName 7) (nCons (nName 8) (nCons (nName 9) nNil)))))))
 (bSeq (bIf (mOrT (mNotT (mT (mCall (cP (m_is_word A K)) (mCons (mVar 5) mNil)))) (mT (mOp (oIn false) (mVar 5) (mVar 3))))
 (bRet (mC (.d (.str "name"))))
 bNext)
 (bSeq (bIf (mT (mOp (oIn true) (mVar 6) (mC (.d w_HANDS))))
 (bRet (mC (.d (.str "hand"))))
 bNext)
 (bSeq (bIf (mOrT (mT (mOp (oEq true) (mCB oLen (mCons (mVar 7) mNil)) (mVar 2))) (mNotT (mT (mCB oAll (mCons (mLc (miSq (mVar 7)) (nName 10) mYes (mCall (cP (m_is_between A K)) (mCons (mVar 10) (mCons (mNeg (mC (.d (.int 1)))) (mCons (mOp oSub (mVar 2) (mC (.d (.int 1)))) mNil)))) [10]) mNil)))))
 (bRet (mC (.d (.str "moves"))))
 bNext)
 (bSeq (bIf (mOrT (mT (mOp oGt (mCB oLen (mCons (mVar 8) mNil)) (mC (.d (.int 4))))) (mNotT (mT (mCB oAll (mCons (mLc (miSq (mVar 8)) (nName 11) mYes (mCall (cP (m_is_deed A K)) (mCons (mVar 11) (mCons (mVar 1) mNil))) [11]) mNil)))))
 (bRet (mC (.d (.str "deed"))))
 bNext)
 (bSeq (bIf (mNotT (mT (mCall (cP (m_are_unlike A K)) (mCons (mLc (miSq (mVar 8)) (nName 11) (mT (mOp (oIn false) (mOp oIx (mVar 11) (mC (.d (.int 0)))) (mTup (mCons (mC (.d (.str "add"))) (mCons (mC (.d (.str "strike"))) mNil))))) (mOp oIx (mVar 11) (mC (.d (.int 1)))) [11]) mNil))))
 (bRet (mC (.d (.str "deed"))))
 bNext)
 (bRet (mIf (mT (mCall (cP (m_is_same A K)) (mCons (mVar 9) (mCons (mVar 6) (mCons (mVar 1) mNil))))) (mC (.d .non)) (mC (.d (.str "same")))))))))))))
@[irreducible] def m_reason_against (A : Ad) (K : PySem.W.Frag) : PF := fNo (fPure 12 4 (b_reason_against A K))
theorem ne_reason_against {A : Ad} {K : PySem.W.Frag} : NoE (m_reason_against A K) := by unfold m_reason_against; exact fun _ _ _ h => h
def l_checked_calls_1 (A : Ad) (K : PySem.W.Frag) : BS := (bSeq (bAsg (mIf (mT (mOp (oEq false) (mVar 4) (mC (.d (.int 6))))) (mC (.d (.str "call"))) (mCall (cP (m_reason_against A K)) (mCons (mVar 5) (mCons (mVar 1) (mCons (mVar 2) (mCons (mLc (miSq (mVar 3)) (nName 7) mYes (mOp oIx (mVar 7) (mC (.d (.int 0)))) [7]) mNil)))))) (nName 6))
 (bSeq (bIf (mT (mOp (oIsN true) (mVar 6) (mC (.d .non))))
 bNever
 bNext)
 (bSeq (bAsg (mVar 5) (nSeq 5 (nCons (nName 8) (nCons (nName 9) (nCons (nName 10) (nCons (nName 11) (nCons (nName 12) nNil)))))))
 (bDrop (mBM oAppend (mVar 3) (mCons (mTup (mCons (mVar 8) (mCons (mVar 9) (mCons (mCB oTuple (mCons (mVar 10) mNil)) (mCons (mCB oTuple (mCons (mLc (miSq (mVar 11)) (nName 13) mYes (mCB oTuple (mCons (mVar 13) mNil)) [13]) mNil)) (mCons (mCB oTuple (mCons (mVar 12) mNil)) mNil)))))) mNil))))))
def k_checked_calls_2 (A : Ad) (K : PySem.W.Frag) : BS := (bRet (mVar 3))
def b_checked_calls (A : Ad) (K : PySem.W.Frag) : BS :=
 (bSeq (bIf (mOrT (mNotT (mT (mCall (cP (m_is_list A K)) (mCons (mVar 0) mNil)))) (mT (mOp (oEq false) (mCB oLen (mCons (mVar 0) mNil)) (mC (.d (.int 0))))))
 bNever
 bNext)
 (bSeq (bAsg (mLst mNil) (nName 3))
 (bSeq (bFor (miEn (mVar 0)) (nTup 2 (nCons (nName 4) (nCons (nName 5) nNil))) (l_checked_calls_1 A K))
 (k_checked_calls_2 A K))))
@[irreducible] def m_checked_calls (A : Ad) (K : PySem.W.Frag) : PF := fNo (fPure 14 3 (b_checked_calls A K))
theorem ne_checked_calls {A : Ad} {K : PySem.W.Frag} : NoE (m_checked_calls A K) := by unfold m_checked_calls; exact fun _ _ _ h => h
def b_Kind___init__ (A : Ad) (K : PySem.W.Frag) : BS :=
 (bSeq (bFld A.Kind "field_rows" (mVar 0) (mCall (cP (m_checked_fields A K)) (mCons (mVar 1) mNil)))
 (bSeq (bIf (mNotT (mT (mCall (cP (m_is_between A K)) (mCons (mVar 3) (mCons (mC (.d (.int 1))) (mCons (mC (.d (.int 4))) mNil))))))
 bNever
 bNext)
 (bSeq (bFld A.Kind "modes" (mVar 0) (mVar 3))
 (bSeq (bFld A.Kind "sorts" (mVar 0) (mDc (miSq (mFld A.Kind "field_rows" (mVar 0))) (nTup 3 (nCons (nName 4) (nCons (nName 5) (nCons (nName 6) nNil)))) mYes (mVar 4) (mVar 5) [4, 5, 6]))
 (bSeq (bFld A.Kind "call_rows" (mVar 0) (mCall (cP (m_checked_calls A K)) (mCons (mVar 2) (mCons (mFld A.Kind "sorts" (mVar 0)) (mCons (mVar 3) mNil)))))
 (bFld A.Kind "name_list" (mVar 0) (mLc (miSq (mFld A.Kind "call_rows" (mVar 0))) (nName 7) mYes (mOp oIx (mVar 7) (mC (.d (.int 0)))) [7])))))))
@[irreducible] def m_Kind___init__ (A : Ad) (K : PySem.W.Frag) : OF := fNoO (fOpen 8 4 (b_Kind___init__ A K))
theorem ne_Kind___init__ {A : Ad} {K : PySem.W.Frag} : NoEO (m_Kind___init__ A K) := by unfold m_Kind___init__; exact fun _ _ _ _ h => h
def b_Kind___eq__ (A : Ad) (K : PySem.W.Frag) : BS :=
 (bSeq (bIf (mOrT (mNotT (mT (mCB (oIsi K) (mCons (mVar 1) (mCons (mC (.d (.cls A.Kind))) mNil))))) (mT (mOp (oEq true) (mFld A.Kind "modes" (mVar 0)) (mFld A.Kind "modes" (mVar 1)))))
 (bRet (mC (.d (.bl false))))
 bNext)
 (bRet (mAndV (mOp (oEqD false) (mFld A.Kind "field_rows" (mVar 0)) (mFld A.Kind "field_rows" (mVar 1))) (mOp (oEqD false) (mFld A.Kind "call_rows" (mVar 0)) (mFld A.Kind "call_rows" (mVar 1))))))
@[irreducible] def m_Kind___eq__ (A : Ad) (K : PySem.W.Frag) : PF := fNo (fPure 2 2 (b_Kind___eq__ A K))
theorem ne_Kind___eq__ {A : Ad} {K : PySem.W.Frag} : NoE (m_Kind___eq__ A K) := by unfold m_Kind___eq__; exact fun _ _ _ h => h
def b_law_plan (A : Ad) (K : PySem.W.Frag) : BS :=
 (bRet (mDisp [((mC (.d (.str "fields"))), (mVar 0)), ((mC (.d (.str "calls"))), (mVar 1)), ((mC (.d (.str "modes"))), (mVar 2)), ((mC (.d (.str "known"))), (mMakeK A.Kind 2 1 (cO (m_Kind___init__ A K)) (mCons (mVar 0) (mCons (mVar 1) mNil)) (mCons (mVar 2) mNil)))]))
@[irreducible] def m_law_plan (A : Ad) (K : PySem.W.Frag) : PF := fNo (fPure 3 3 (b_law_plan A K))
theorem ne_law_plan {A : Ad} {K : PySem.W.Frag} : NoE (m_law_plan A K) := by unfold m_law_plan; exact fun _ _ _ h => h
def l_law_deeds_1 (A : Ad) (K : PySem.W.Frag) : BS := (bSeq (bAsg (mCall (cP (m_law_one A K)) (mCons (mVar 0) (mCons (mVar 1) mNil))) (nTup 3 (nCons (nName 6) (nCons (nName 7) (nCons (nName 8) nNil)))))
 (bSeq (bAsg (mIf (mT (mOp (oEq false) (mVar 7) (mC (.d (.str "one"))))) (mLst (mCons (mC (.d (.str "set"))) (mCons (mC (.d (.str "clear"))) mNil))) (mLst (mCons (mC (.d (.str "add"))) (mCons (mC (.d (.str "add"))) (mCons (mC (.d (.str "strike"))) (mCons (mC (.d (.str "clear"))) (mCons (mC (.d (.str "fresh"))) mNil))))))) (nName 9))
 (bSeq (bAsg (mCall (cP (m_law_one A K)) (mCons (mVar 0) (mCons (mVar 9) mNil))) (nName 10))
 (bIf (mOrT (mT (mOp (oIn true) (mVar 10) (mTup (mCons (mC (.d (.str "add"))) (mCons (mC (.d (.str "strike"))) mNil))))) (mT (mOp (oIn true) (mVar 6) (mVar 4))))
 (bSeq (bAsg (mOp oCat (mVar 4) (mOp oRep (mLst (mCons (mVar 6) mNil)) (mCB oInt (mCons (mOp (oIn false) (mVar 10) (mTup (mCons (mC (.d (.str "add"))) (mCons (mC (.d (.str "strike"))) mNil)))) mNil)))) (nName 4))
 (bDrop (mBM oAppend (mVar 3) (mCons (mTup (mCons (mVar 10) (mCons (mVar 6) mNil))) mNil))))
 bNext))))
def k_law_deeds_2 (A : Ad) (K : PySem.W.Frag) : BS := (bRet (mVar 3))
def b_law_deeds (A : Ad) (K : PySem.W.Frag) : BS :=
 (bSeq (bPar 3 4 (mCons (mLst mNil) (mCons (mLst mNil) mNil)))
 (bSeq (bFor (miR1 (mCons (mCall (cP (m_law_take A K)) (mCons (mVar 0) (mCons (mOp oAdd (mVar 2) (mC (.d (.int 1)))) mNil))) mNil)) (nName 5) (l_law_deeds_1 A K))
 (k_law_deeds_2 A K)))
@[irreducible] def m_law_deeds (A : Ad) (K : PySem.W.Frag) : PF := fNo (fPure 11 3 (b_law_deeds A K))
theorem ne_law_deeds {A : Ad} {K : PySem.W.Frag} : NoE (m_law_deeds A K) := by unfold m_law_deeds; exact fun _ _ _ h => h
def b_law_call (A : Ad) (K : PySem.W.Frag) : BS :=
 (bSeq (bAsg (mOp oCat (mOp oRep (mLstR (mVar 4)) (mC (.d (.int 3)))) (mOp oRep (mLst (mCons (mNeg (mC (.d (.int 1)))) mNil)) (mCB oInt (mCons (mOp oGt (mVar 4) (mC (.d (.int 1)))) mNil)))) (nName 5))
 (bSeq (bAsg (mLc (miR1 (mCons (mVar 4) mNil)) (nName 7) mYes (mCall (cP (m_law_one A K)) (mCons (mVar 0) (mCons (mVar 5) mNil))) [7]) (nName 6))
 (bSeq (bAsg (mLc (miSq (mVar 3)) (nName 9) (mAndT (mT (mOp (oEq false) (mOp oIx (mVar 9) (mC (.d (.int 1)))) (mC (.d (.str "many"))))) (mT (mOp (oEq false) (mCall (cP (m_law_take A K)) (mCons (mVar 0) (mCons (mC (.d (.int 2))) mNil))) (mC (.d (.int 0)))))) (mOp oIx (mVar 9) (mC (.d (.int 0)))) [9]) (nName 8))
 (bSeq (bAsg (mCall (cP (m_law_deeds A K)) (mCons (mVar 0) (mCons (mVar 3) (mCons (mCall (cP (m_law_one A K)) (mCons (mVar 0) (mCons (mLst (mCons (mC (.d (.int 1))) (mCons (mC (.d (.int 2))) (mCons (mC (.d (.int 2))) (mCons (mC (.d (.int 4))) mNil))))) mNil))) mNil)))) (nName 10))
 (bRet (mTup (mCons (mVar 1) (mCons (mVar 2) (mCons (mVar 6) (mCons (mVar 10) (mCons (mIf (mT (mOp (oEq true) (mVar 2) (mC (.d (.str "self"))))) (mVar 8) (mLst mNil)) mNil)))))))))))
@[irreducible] def m_law_call (A : Ad) (K : PySem.W.Frag) : PF := fNo (fPure 11 5 (b_law_call A K))
theorem ne_law_call {A : Ad} {K : PySem.W.Frag} : NoE (m_law_call A K) := by unfold m_law_call; exact fun _ _ _ h => h
def l_law_kind_1 (A : Ad) (K : PySem.W.Frag) : BS := (bDrop (mBM oAppend (mVar 4) (mCons (mTup (mCons (mOp oIx (mVar 5) (mVar 6)) (mCons (mCall (cP (m_law_one A K)) (mCons (mVar 0) (mCons (mLst (mCons (mC (.d (.str "many"))) (mCons (mC (.d (.str "many"))) (mCons (mC (.d (.str "one"))) mNil)))) mNil))) (mCons (mOp (oEq false) (mCall (cP (m_law_take A K)) (mCons (mVar 0) (mCons (mC (.d (.int 2))) mNil))) (mC (.d (.int 0)))) mNil)))) mNil)))
def l_law_kind_2 (A : Ad) (K : PySem.W.Frag) : BS := (bDrop (mBM oAppend (mVar 8) (mCons (mCall (cP (m_law_call A K)) (mCons (mVar 0) (mCons (mVar 9) (mCons (mCall (cP (m_law_one A K)) (mCons (mVar 0) (mCons (mLst (mCons (mC (.d (.str "self"))) (mCons (mC (.d (.str "new"))) (mCons (mC (.d (.str "self"))) (mCons (mC (.d (.str "new"))) (mCons (mC (.d (.str "last"))) mNil)))))) mNil))) (mCons (mVar 4) (mCons (mVar 7) mNil)))))) mNil)))
def k_law_kind_3 (A : Ad) (K : PySem.W.Frag) : BS := (bSeq (bDrop (mBM oAppend (mVar 8) (mCons (mCall (cP (m_law_call A K)) (mCons (mVar 0) (mCons (mC (.d (.str "build"))) (mCons (mC (.d (.str "last"))) (mCons (mVar 4) (mCons (mVar 7) mNil)))))) mNil)))
 (bRet (mCall (cP (m_law_plan A K)) (mCons (mVar 4) (mCons (mVar 8) (mCons (mVar 7) mNil))))))
def k_law_kind_4 (A : Ad) (K : PySem.W.Frag) : BS := (bSeq (bPar 7 8 (mCons (mOp oAdd (mC (.d (.int 1))) (mCall (cP (m_law_take A K)) (mCons (mVar 0) (mCons (mVar 3) mNil)))) (mCons (mLst mNil) mNil)))
 (bSeq (bFor (miSq (mSl oSlL (mLst (mCons (mC (.d (.str "add"))) (mCons (mC (.d (.str "put"))) (mCons (mC (.d (.str "cut"))) (mCons (mC (.d (.str "make"))) (mCons (mC (.d (.str "jqzxvkgw"))) mNil)))))) mNoPart (mPart (mOp oAdd (mC (.d (.int 1))) (mCall (cP (m_law_take A K)) (mCons (mVar 0) (mCons (mOp oSub (mVar 2) (mC (.d (.int 1)))) mNil))))))) (nName 9) (l_law_kind_2 A K))
 (k_law_kind_3 A K)))
def b_law_kind (A : Ad) (K : PySem.W.Frag) : BS :=
 (bSeq (bPar 4 5 (mCons (mLst mNil) (mCons (mCall (cP (m_law_mix A K)) (mCons (mVar 0) (mCons (mLst (mCons (mC (.d (.str "a"))) (mCons (mC (.d (.str "need"))) (mCons (mC (.d (.str "many"))) (mCons (mC (.d (.str "do"))) (mCons (mC (.d (.str "quantity"))) mNil)))))) mNil))) mNil)))
 (bSeq (bFor (miR1 (mCons (mOp oAdd (mC (.d (.int 1))) (mCall (cP (m_law_take A K)) (mCons (mVar 0) (mCons (mVar 1) mNil)))) mNil)) (nName 6) (l_law_kind_1 A K))
 (k_law_kind_4 A K)))
@[irreducible] def m_law_kind (A : Ad) (K : PySem.W.Frag) : PF := fNo (fPure 10 4 (b_law_kind A K))
theorem ne_law_kind {A : Ad} {K : PySem.W.Frag} : NoE (m_law_kind A K) := by unfold m_law_kind; exact fun _ _ _ h => h
def b_law_same (self : PF) (A : Ad) (K : PySem.W.Frag) : BS :=
 (bSeq (bIf (mT (mIsT K (mVar 1) (mCons (mC (.d (.ty "list"))) (mCons (mC (.d (.ty "tuple"))) mNil))))
 (bSeq (bIf (mOrT (mT (mOp (oEq true) (mCB (oIsi K) (mCons (mVar 0) (mCons (mC (.d (.ty "list"))) mNil))) (mCB (oIsi K) (mCons (mVar 1) (mCons (mC (.d (.ty "list"))) mNil))))) (mT (mOp (oEq true) (mCB (oIsi K) (mCons (mVar 0) (mCons (mC (.d (.ty "tuple"))) mNil))) (mCB (oIsi K) (mCons (mVar 1) (mCons (mC (.d (.ty "tuple"))) mNil))))))
 (bRet (mC (.d (.bl false))))
 bNext)
 (bRet (mAndV (mOp (oEq false) (mCB oLen (mCons (mVar 0) mNil)) (mCB oLen (mCons (mVar 1) mNil))) (mCB oAll (mCons (mLc (miZip (mCons (mVar 0) (mCons (mVar 1) mNil))) (nTup 2 (nCons (nName 2) (nCons (nName 3) nNil))) mYes (mCall (cP self) (mCons (mVar 2) (mCons (mVar 3) mNil))) [2, 3]) mNil)))))
 bNext)
 (bSeq (bIf (mT (mCB (oIsi K) (mCons (mVar 1) (mCons (mC (.d (.ty "int"))) mNil))))
 (bRet (mAndV (mCB (oIsi K) (mCons (mVar 0) (mCons (mC (.d (.ty "int"))) mNil))) (mAndV (mOp (oEq false) (mCB (oIsi K) (mCons (mVar 0) (mCons (mC (.d (.ty "bool"))) mNil))) (mCB (oIsi K) (mCons (mVar 1) (mCons (mC (.d (.ty "bool"))) mNil)))) (mOp (oEqD false) (mVar 0) (mVar 1)))))
 bNext)
 (bRet (mAndV (mOp (oIsB false) (mIsT K (mVar 0) (mCons (mC (.d (.ty "bool"))) (mCons (mC (.d (.ty "int"))) (mCons (mC (.d (.ty "list"))) (mCons (mC (.d (.ty "tuple"))) mNil))))) (mC (.d (.bl false)))) (mOp (oEqD false) (mVar 0) (mVar 1))))))
@[irreducible] def ms_law_same (self : PF) (A : Ad) (K : PySem.W.Frag) : PF := fNo (fPure 4 2 (b_law_same self A K))
def m_law_same (A : Ad) (K : PySem.W.Frag) : Nat → PF
  | 0 => fun _ _ _ => False
  | n + 1 => ms_law_same (m_law_same A K n) A K
end Mz
end
section
set_option Elab.async false
set_option linter.all false
set_option maxRecDepth 100000
set_option maxHeartbeats 4000000
namespace Mz
open PySem L2
end Mz
end
section
set_option Elab.async false
set_option linter.all false
set_option maxRecDepth 100000
set_option maxHeartbeats 4000000
namespace Mz
open PySem L2
end Mz
end
section
set_option Elab.async false
set_option linter.all false
set_option maxRecDepth 100000
set_option maxHeartbeats 4000000
namespace Mz
open PySem L2
end Mz
end
section
set_option Elab.async false
set_option linter.all false
set_option maxRecDepth 100000
set_option maxHeartbeats 4000000
namespace Mz
open PySem L2
end Mz
end
section
set_option Elab.async false
set_option linter.all false
set_option maxRecDepth 100000
set_option maxHeartbeats 4000000
namespace Mz
open PySem L2
end Mz
end
section
set_option Elab.async false
set_option linter.all false
set_option maxRecDepth 100000
set_option maxHeartbeats 4000000
namespace Mz
open PySem L2
def b_law_same_e (self : OF) (A : Ad) (K : PySem.W.Frag) : BS :=
 (bSeq (bIf (mT (mIsT K (mVar 1) (mCons (mC (.d (.ty "list"))) (mCons (mC (.d (.ty "tuple"))) mNil))))
 (bSeq (bIf (mOrT (mT (mOp (oEq true) (mCB (oIsi K) (mCons (mVar 0) (mCons (mC (.d (.ty "list"))) mNil))) (mCB (oIsi K) (mCons (mVar 1) (mCons (mC (.d (.ty "list"))) mNil))))) (mT (mOp (oEq true) (mCB (oIsi K) (mCons (mVar 0) (mCons (mC (.d (.ty "tuple"))) mNil))) (mCB (oIsi K) (mCons (mVar 1) (mCons (mC (.d (.ty "tuple"))) mNil))))))
 (bRet (mC (.d (.bl false))))
 bNext)
 (bRet (mAndV (mOp (oEq false) (mCB oLen (mCons (mVar 0) mNil)) (mCB oLen (mCons (mVar 1) mNil))) (mCB oAll (mCons (mLc (miZip (mCons (mVar 0) (mCons (mVar 1) mNil))) (nTup 2 (nCons (nName 2) (nCons (nName 3) nNil))) mYes (mCall (cO self) (mCons (mVar 2) (mCons (mVar 3) mNil))) [2, 3]) mNil)))))
 bNext)
 (bSeq (bIf (mT (mCB (oIsi K) (mCons (mVar 1) (mCons (mC (.d (.ty "int"))) mNil))))
 (bRet (mAndV (mCB (oIsi K) (mCons (mVar 0) (mCons (mC (.d (.ty "int"))) mNil))) (mAndV (mOp (oEq false) (mCB (oIsi K) (mCons (mVar 0) (mCons (mC (.d (.ty "bool"))) mNil))) (mCB (oIsi K) (mCons (mVar 1) (mCons (mC (.d (.ty "bool"))) mNil)))) (mOp oEqX (mVar 0) (mVar 1)))))
 bNext)
 (bRet (mAndV (mOp (oIsB false) (mIsT K (mVar 0) (mCons (mC (.d (.ty "bool"))) (mCons (mC (.d (.ty "int"))) (mCons (mC (.d (.ty "list"))) (mCons (mC (.d (.ty "tuple"))) mNil))))) (mC (.d (.bl false)))) (mOp oEqX (mVar 0) (mVar 1))))))
@[irreducible] def ms_law_same_e (self : OF) (A : Ad) (K : PySem.W.Frag) : OF := fNoO (fOpen 4 2 (b_law_same_e self A K))
theorem nes_law_same_e {self : OF} {A : Ad} {K : PySem.W.Frag} : NoEO (ms_law_same_e self A K) := by unfold ms_law_same_e; exact fun _ _ _ _ h => h
def m_law_same_e (A : Ad) (K : PySem.W.Frag) : Nat → OF
  | 0 => fun _ _ _ _ => False
  | n + 1 => ms_law_same_e (m_law_same_e A K n) A K
theorem ne_law_same_e {A : Ad} {K : PySem.W.Frag} : ∀ n, NoEO (m_law_same_e A K n)
  | 0 => fun _ _ _ _ h => h
  | n + 1 => nes_law_same_e
end Mz
end
section
set_option Elab.async false
set_option linter.all false
set_option maxRecDepth 100000
set_option maxHeartbeats 4000000
namespace Mz
open PySem L2
def b_Kind_number_of_x (A : Ad) (K : PySem.W.Frag) : BS :=
 (bSeq (bIf (mOrT (mNotT (mT (mCB (oIsi K) (mCons (mVar 1) (mCons (mC (.d (.ty "str"))) mNil))))) (mT (mOp (oIn true) (mVar 1) (mFld A.Kind "name_list" (mVar 0)))))
 (bRaise1 A.UnknownCall "name" (mCons (mVar 1) mNil))
 bNext)
 (bRet (mBM oIndex (mFld A.Kind "name_list" (mVar 0)) (mCons (mVar 1) mNil))))
@[irreducible] def m_Kind_number_of_x (A : Ad) (K : PySem.W.Frag) : PF := fPure 2 2 (b_Kind_number_of_x A K)
def b_Kind_own (A : Ad) (K : PySem.W.Frag) : BS :=
 (bSeq (bAsg (mMeth A.Kind "number_of" (cP (m_Kind_number_of_x A K)) (mVar 0) (mCons (mVar 1) mNil)) (nName 3))
 (bSeq (bAsg (mOp oIx (mFld A.Kind "call_rows" (mVar 0)) (mVar 3)) (nName 4))
 (bSeq (bIf (mOrT (mNotT (mT (mCB (oIsi K) (mCons (mVar 2) (mCons (mC (.d (.ty "str"))) mNil))))) (mT (mOp (oIn true) (mVar 2) (mOp oIx (mVar 4) (mC (.d (.int 4)))))))
 (bRaise1 A.BadPlace "place" (mCons (mVar 2) mNil))
 bNext)
 (bSeq (bAsg (mOp oCatT (mSl oSlT (mVar 4) mNoPart (mPart (mC (.d (.int 4))))) (mTup (mCons (mCB oTuple (mCons (mLc (miSq (mOp oIx (mVar 4) (mC (.d (.int 4))))) (nName 6) (mT (mOp (oEq true) (mVar 6) (mVar 2))) (mVar 6) [6]) mNil)) mNil))) (nName 5))
 (bSeq (bAsg (mOp oCat (mOp oCat (mSl oSlL (mFld A.Kind "call_rows" (mVar 0)) mNoPart (mPart (mVar 3))) (mLst (mCons (mVar 5) mNil))) (mSl oSlL (mFld A.Kind "call_rows" (mVar 0)) (mPart (mOp oAdd (mVar 3) (mC (.d (.int 1))))) mNoPart)) (nName 7))
 (bRet (mMakeF A.Kind 2 1 (cO (m_Kind___init__ A K)) (mCons (mFld A.Kind "field_rows" (mVar 0)) (mCons (mVar 7) mNil)) (mCons (mFld A.Kind "modes" (mVar 0)) mNil))))))))
@[irreducible] def m_Kind_own (A : Ad) (K : PySem.W.Frag) : PF := fPure 8 3 (b_Kind_own A K)
def l_law_1_k04 (A : Ad) (K : PySem.W.Frag) : BS := (bSeq (bAsg (mOp oCatT (mSl oSlT (mVar 6) mNoPart (mPart (mC (.d (.int 4))))) (mTup (mCons (mFz (mLc (miSq (mOp oIx (mVar 6) (mC (.d (.int 4))))) (nName 9) (mT (mOp (oEq true) (mVar 9) (mVar 7))) (mVar 9) [9])) mNil))) (nName 8))
 (bSeq (bAsg (mMakeF A.Kind 2 1 (cO (m_Kind___init__ A K)) (mCons (mDGet (mVar 3) (mC (.d (.str "fields")))) (mCons (mOp oCat (mOp oCat (mSl oSlL (mDGet (mVar 3) (mC (.d (.str "calls")))) mNoPart (mPart (mVar 5))) (mLst (mCons (mVar 8) mNil))) (mSl oSlL (mDGet (mVar 3) (mC (.d (.str "calls")))) (mPart (mOp oAdd (mVar 5) (mC (.d (.int 1))))) mNoPart)) mNil)) (mCons (mDGet (mVar 3) (mC (.d (.str "modes")))) mNil)) (nName 10))
 (bIf (mT (mOp (oOwn true A.Kind (cP (m_Kind___eq__ A K))) (mMeth A.Kind "own" (cP (fNo (m_Kind_own A K))) (mVar 4) (mCons (mOp oIx (mVar 6) (mC (.d (.int 0)))) (mCons (mVar 7) mNil))) (mVar 10)))
 (bRet (mC (.d (.bl false))))
 bNext)))
def k_law_2_k04 (A : Ad) (K : PySem.W.Frag) : BS := (bSeq (bAsg (mCall (cP (m_law_one A K)) (mCons (mVar 1) (mCons (mOp oCat (mLc (miSq (mDGet (mVar 3) (mC (.d (.str "fields"))))) (nName 9) mYes (mOp oIx (mVar 9) (mC (.d (.int 0)))) [9]) (mLstF (mCons (mC (.d .non)) (mCons (mC (.d (.int 5))) (mCons (mC (.d (.str "zz"))) (mCons mDF (mCons (mLstF (mCons (mOp oIx (mVar 6) (mC (.d (.int 0)))) mNil)) mNil))))))) mNil))) (nName 7))
 (bSeq (bIf (mNotT (mAndT (mT (mCB (oIsi K) (mCons (mVar 7) (mCons (mC (.d (.ty "str"))) mNil)))) (mT (mOp (oIn false) (mVar 7) (mOp oIx (mVar 6) (mC (.d (.int 4))))))))
 (bIf (mNotT (mT (mCall (cO (m_law_same_e A K 6)) (mCons (mTried A (mMeth A.Kind "own" (cP (m_Kind_own A K)) (mVar 4) (mCons (mOp oIx (mVar 6) (mC (.d (.int 0)))) (mCons (mVar 7) mNil)))) (mCons (mTup (mCons (mC (.d (.str "place"))) (mCons (mVar 7) mNil))) mNil)))))
 (bRet (mC (.d (.bl false))))
 bNext)
 bNext)
 (bSeq (bAsg (mCall (cP (m_law_one A K)) (mCons (mVar 1) (mCons (mLstF (mCons (mC (.d .non)) (mCons (mC (.d (.int 5))) (mCons (mC (.d (.str "zz"))) (mCons (mLstF (mCons (mOp oIx (mVar 6) (mC (.d (.int 0)))) mNil)) (mCons mDF (mCons (mC (.d (.bl true))) mNil))))))) mNil))) (nName 11))
 (bIf (mNotT (mT (mCall (cO (m_law_same_e A K 6)) (mCons (mTried A (mMeth A.Kind "own" (cP (m_Kind_own A K)) (mVar 4) (mCons (mVar 11) (mCons (mVar 7) mNil)))) (mCons (mTup (mCons (mC (.d (.str "unknown"))) (mCons (mVar 11) mNil))) mNil)))))
 (bRet (mC (.d (.bl false))))
 bNext))))
def l_law_3_k04 (A : Ad) (K : PySem.W.Frag) : BS := (bSeq (bFor (miSq (mOp oIx (mVar 6) (mC (.d (.int 4))))) (nName 7) (l_law_1_k04 A K))
 (k_law_2_k04 A K))
def k_law_4_k04 (A : Ad) (K : PySem.W.Frag) : BS := (bIf (mT (mOp (oOwn true A.Kind (cP (m_Kind___eq__ A K))) (mVar 4) (mMakeF A.Kind 2 1 (cO (m_Kind___init__ A K)) (mCons (mDGet (mVar 3) (mC (.d (.str "fields")))) (mCons (mDGet (mVar 3) (mC (.d (.str "calls")))) mNil)) (mCons (mDGet (mVar 3) (mC (.d (.str "modes")))) mNil))))
 (bRet (mC (.d (.bl false))))
 bNext)
def l_law_5_k04 (A : Ad) (K : PySem.W.Frag) : BS := (bSeq (bAsg (mCall (cP (m_law_kind A K)) (mCons (mVar 1) (mCons (mC (.d (.int 3))) (mCons (mC (.d (.int 6))) (mCons (mC (.d (.int 2))) mNil))))) (nName 3))
 (bSeq (bAsg (mDGet (mVar 3) (mC (.d (.str "known")))) (nName 4))
 (bSeq (bFor (miEn (mDGet (mVar 3) (mC (.d (.str "calls"))))) (nTup 2 (nCons (nName 5) (nCons (nName 6) nNil))) (l_law_3_k04 A K))
 (k_law_4_k04 A K))))
def k_law_6_k04 (A : Ad) (K : PySem.W.Frag) : BS := (bRet (mC (.d (.bl true))))
def b_law_k04 (A : Ad) (K : PySem.W.Frag) : BS :=
 (bSeq (bFor (miR1 (mCons (mC (.d (.int 4))) mNil)) (nName 2) (l_law_5_k04 A K))
 (k_law_6_k04 A K))
end Mz
end
section
set_option Elab.async false
set_option linter.all false
set_option maxRecDepth 100000
set_option maxHeartbeats 4000000
namespace Mz
open PySem L2
/-- a tuple of texts that the top has written -/
theorem at_strs {c : Cn} {G : Hp} : ∀ {ss : List Str}, AtDs c G (ss.map V.str) (ss.map Da.str)
  | [] => .nil
  | s :: _ => .cons (.str s) at_strs
theorem at_strT {K : PySem.W.Frag} {st a : Addr} {G : Hp} {ss : List Str} {cl : Value} {od : Option Addr} {its : Array Value} {n : Nat} {sl : Array (Option Value)} (l : K.lookup a = some ⟨cl, od, .seq its n, sl⟩) (hc : cl = .type "tuple") (hz : its.size ≤ sizeLine) (hv : Vals (ss.map V.str) its.toList) : AtD ⟨K, st⟩ G (.ref a) (.tup (ss.map Da.str)) :=
  .tup (.inr ⟨_, its, n, l, hc, rfl, hz, hv⟩) at_strs
end Mz
end
section
set_option Elab.async false
set_option linter.all false
set_option maxRecDepth 100000
set_option maxHeartbeats 4000000
/-! ### the head by one run -/
namespace Mz
open PySem L2
theorem fun_of {K : PySem.W.Frag} {x qual : Str} {st : Stmt} {f : Addr} {fd : FuncData} (F : FunD K x qual (defArgs st) (defBody st) (defScope st) [] [] f fd) : Fun K x qual st f fd := by
  obtain ⟨oc, od, dV, kV, doc, pm, an, cdv, ct, osl, e, lk, hc, hd, hk⟩ := F.ex
  rcases hd with ⟨_, rfl⟩ | ⟨h, _⟩
  · exact ⟨⟨oc, od, kV, doc, pm, an, cdv, ct, osl, e, lk, hc⟩, F.kp⟩
  · exact absurd rfl h
/-- a tuple of texts at an address -/
def tupA (K : PySem.W.Frag) (a : Addr) (ss : List Str) : Bool := match K.lookup a with
  | some ⟨.type c, _, .seq its _, _⟩ => decide (c = "tuple") && (decide (its.size ≤ sizeLine) && He.relAll (ss.map V.str) its.toList)
  | _ => false
theorem tupA_ok {K : PySem.W.Frag} {a : Addr} {ss : List Str} (h : tupA K a ss = true) (st : Addr) (G : Hp) : AtD ⟨K, st⟩ G (.ref a) (.tup (ss.map Da.str)) := by
  unfold tupA at h
  split at h
  · rename_i c x its n sl e
    simp only [Bool.and_eq_true, decide_eq_true_eq] at h
    exact at_strT e (by rw [h.1]) h.2.1 (He.relAll_ok h.2.2)
  · cases h
/-- what a table of the top holds at a key, if it is an object -/
def dkA (K : PySem.W.Frag) (x k : Str) : Addr := match PySem.W.nsIn K (He.ga K x) k with
  | some (some (.ref a)) => a
  | _ => 0
def dkB (x k : Str) (K : PySem.W.Frag) : Bool := He.eqO (PySem.W.nsIn K (He.ga K x) k) (some (some (.ref (dkA K x k))))
theorem dk_ok {K : PySem.W.Frag} {w : World} {x k : Str} {es : Array DictEntry} {n : Nat} (h : KDict K w (He.ga K x) es n) (hk : dkB x k K = true) : KDct K w (He.ga K x) k (.ref (dkA K x k)) := ⟨es, n, _, h.at_, h.lit, He.eqO_ok hk, rfl⟩
def onB (C m : Str) (K : PySem.W.Frag) : Bool := He.eqO (PySem.W.findIn K (.ref (He.ga K C)) m) (some (some (.ref (He.ma K (He.ga K C) m)))) && PySem.W.isFn K (.ref (He.ma K (He.ga K C) m))
def ocB (C : Str) (K : PySem.W.Frag) : Bool := onB C "__eq__" K && (He.eqO (PySem.W.findIn K (.ref (He.ga K C)) "__ne__") (some (some (.builtin "object.__ne__"))) && decide (PySem.W.subIn K (.ref (He.ga K C)) (.type "object") = some true))
theorem ocB_ok {C : Str} {K : PySem.W.Frag} (h : ocB C K = true) : OwnC K (He.ga K C) (He.ma K (He.ga K C) "__eq__") := by
  obtain ⟨h1, h⟩ := He.ba h
  obtain ⟨h2, h3⟩ := He.ba h
  obtain ⟨h4, h5⟩ := He.ba h1
  exact ⟨He.eqO_ok h4, h5, He.eqO_ok h2, of_decide_eq_true h3⟩
def oiB (C : Str) (K : PySem.W.Frag) : Bool := He.eqO (PySem.W.findIn K (.ref (He.ga K C)) "__class__") (some (some (.builtin "object.__class__"))) && (He.eqO (PySem.W.specialIn K (.builtin "object.__class__") "__get__") (some (some (.builtin "getset_descriptor.__get__"))) && (decide (PySem.W.takesIn K (.builtin "object.__class__") = some true) && decide (PySem.W.mroIn K (He.ga K C) (.type "object") = some true)))
theorem oiB_ok {C : Str} {K : PySem.W.Frag} (hc : Cls K (He.ga K C)) (h : oiB C K = true) : OwnI K (He.ga K C) := by
  obtain ⟨h1, h⟩ := He.ba h
  obtain ⟨h2, h⟩ := He.ba h
  obtain ⟨h3, h4⟩ := He.ba h
  exact ⟨hc, He.eqO_ok h1, He.eqO_ok h2, of_decide_eq_true h3, of_decide_eq_true h4⟩
theorem ex_at {l : List (PySem.W.Frag → Bool)} {K : PySem.W.Frag} (h : (l.all fun f => f K) = true) (i : Nat) {f : PySem.W.Frag → Bool} (hi : l[i]? = some f) : f K = true := List.all_eq_true.mp h f (List.mem_of_getElem? hi)
end Mz
end
section
set_option Elab.async false
set_option linter.all false
set_option maxRecDepth 100000
set_option maxHeartbeats 4000000
namespace Mz
open PySem L2
end Mz
end
section
set_option Elab.async false
set_option linter.all false
set_option maxRecDepth 100000
set_option maxHeartbeats 1000000
namespace Mz
open PySem L2 TL
local macro_rules | `(tactic| row_cond sd) => `(tactic| first | with_reducible assumption | with_reducible exact rfl | exact rfl | exact True.intro | assumption | decide)
local macro_rules | `(tactic| row_cond st) => `(tactic| first
  | refine And.intro (by row_cond sd) ?_
  | refine ⟨_, by row_cond sd, ?_⟩
  | refine ⟨_, _, by row_cond sd, ?_⟩
  | refine ⟨_, _, by row_cond sd, by row_cond sd, ?_⟩
  | refine ⟨_, _, _, by row_cond sd, ?_⟩
  | refine ⟨_, _, _, by row_cond sd, by row_cond sd, ?_⟩
  | refine ⟨_, _, _, by row_cond sd, by row_cond sd, by row_cond sd, ?_⟩
  | refine ⟨_, _, _, _, by row_cond sd, ?_⟩
  | refine ⟨_, _, _, _, by row_cond sd, by row_cond sd, by row_cond sd, ?_⟩
  | refine ⟨_, _, _, _, by row_cond sd, by row_cond sd, by row_cond sd, by row_cond sd, ?_⟩
  | refine iteT ?_
  | refine iteF ?_)
local macro_rules | `(tactic| row_cond go) => `(tactic| repeat (row_cond st))
/-! ### the head of a law with own errors and a lambda -/
open LamX
/-- an own error class -/
def clsZ (C : Addr) (cd : ClassData) : Bool := (match cd.mro with
  | .ref D :: bm => decide (D = C) && PySem.HandSPX.refsVE bm
  | _ => false) && (cd.hasDict && !cd.hasDel)
def slZ (sl : Array (Option Value)) : Bool := match sl.toList with
  | [_, _, _, _, some (.builtin b), _] => decide (b = "ValueError.__new__")
  | _ => false
def oexZ (K : PySem.W.Frag) (C : Addr) : Bool := match K.lookup C with
  | some ⟨.type c, _, .cls cd, sl⟩ => decide (c = "type") && (clsZ C cd && slZ sl)
  | _ => false
theorem slZ_ok {sl : Array (Option Value)} (h : slZ sl = true) : ∃ k0 k1 k2 k3 k5, sl = #[k0, k1, k2, k3, some (.builtin "ValueError.__new__"), k5] := by
  unfold slZ at h
  split at h
  · rename_i k0 k1 k2 k3 b k5 e
    have hb := of_decide_eq_true h
    subst hb
    exact ⟨k0, k1, k2, k3, k5, by rw [← Array.toList_inj, e]⟩
  · cases h
theorem oexZ_ok {K : PySem.W.Frag} {C : Addr} (h : oexZ K C = true) : ∃ nm q N bs bm sn sub ab col dd k0 k1 k2 k3 k5, K.lookup C = some (excClassObj nm q C N bs bm true sn sub ab col dd k0 k1 k2 k3 k5 "ValueError.__new__") ∧ PySem.HandSPX.refsVE bm = true := by
  unfold oexZ at h
  split at h
  · rename_i c dd cd sl e
    obtain ⟨h1, h⟩ := He.ba h
    obtain ⟨h2, h3⟩ := He.ba h
    have hc := of_decide_eq_true h1
    subst hc
    obtain ⟨k0, k1, k2, k3, k5, rfl⟩ := slZ_ok h3
    obtain ⟨nm, bs, mro, N, q, hd, sn, sub, ab, col, hdel⟩ := cd
    unfold clsZ at h2
    obtain ⟨h4, h5⟩ := He.ba h2
    obtain ⟨h6, h7⟩ := He.ba h5
    dsimp only at h4 h6 h7
    split at h4
    · rename_i D bm _
      obtain ⟨h8, h9⟩ := He.ba h4
      have hD := of_decide_eq_true h8
      subst hD h6
      have h7' : hdel = false := by cases hdel <;> simp_all
      subst h7'
      exact ⟨nm, q, N, bs, bm, sn, sub, ab, col, dd, k0, k1, k2, k3, k5, e, h9⟩
    · cases h4
  · cases h
abbrev FnZ : Type := Option (Str × Str × Arguments × FuncBody × Scope × Addr × Addr)
def iniA (K : PySem.W.Frag) (C : Str) : Addr := He.ma K (He.ga K C) "__init__"
def fnZ (K : PySem.W.Frag) (C : Str) : FnZ := match K.lookup (iniA K C) with
  | some ⟨_, _, .func fd, _⟩ => some (fd.name, fd.qualname, fd.params, fd.body, fd.scope, fd.globals, fd.builtins)
  | _ => none
/-- an own error class with its own __init__ -/
structure EnD where
  C : Str
  st : Stmt
  qual : Str
  ps : List Str
def EnD.val (e : EnD) : FnZ := some ("__init__", e.qual, defArgs e.st, .stmts (defBody e.st), defScope e.st, mainGlobals, builtinsNs)
def codeZ (file qual : Str) (K : PySem.W.Frag) : Value → Bool
  | .ref c => PySem.W.codeIn K (.ref c) qual && (match K.lookup c with
    | some ⟨_, _, .fields vs, _⟩ => (match (vs[2]? : Option Value) with
      | some (.str f _) => decide (f = file)
      | _ => false)
    | _ => false)
  | _ => false
def cloZ (C : Addr) (K : PySem.W.Frag) : List (Str × Addr) → Bool
  | [(y, cc)] => decide (y = "__class__") && (match K.lookup cc with
    | some ⟨_, _, .cell (some (.ref D)), _⟩ => decide (D = C)
    | _ => false)
  | _ => false
def dflZ : Value → Value → Option Addr → Bool
  | .none, .none, none => true
  | _, _, _ => false
def iniZ (file : Str) (e : EnD) (K : PySem.W.Frag) : Bool := match K.lookup (iniA K e.C) with
  | some ⟨_, _, .func fd, _⟩ => cloZ (He.ga K e.C) K fd.closure && (dflZ fd.defaults fd.kwdefaults fd.annotations && codeZ file e.qual K fd.code)
  | _ => false
theorem iniZ_ok {file : Str} {e : EnD} {K : PySem.W.Frag} (hv : fnZ K e.C = e.val) (h : iniZ file e K = true) : ∃ (cc cda : Addr) (oc : Value) (od : Option Addr) (osl : Array (Option Value)) (doc pm ctv : Value),
    K.lookup (iniA K e.C) = some ⟨oc, od, .func ((nfI e.st e.qual cc cda).fd doc pm ctv), osl⟩ ∧ PySem.W.codeIn K (.ref cda) e.qual = true ∧ (∃ ccl cdd vs ccs tf, K.lookup cda = some ⟨ccl, cdd, .fields vs, ccs⟩ ∧ vs[2]? = some (.str file tf)) ∧ ∃ cl cld csl, K.lookup cc = some ⟨cl, cld, .cell (some (.ref (He.ga K e.C))), csl⟩ := by
  unfold iniZ at h
  unfold fnZ EnD.val at hv
  split at h
  · rename_i oc od fd osl lk
    rw [lk] at hv
    obtain ⟨n1, n2, n3, n4, n5, n6, n7, n8, n9, n10, n11, n12, n13, n14, n15⟩ := fd
    simp only [Option.some.injEq, Prod.mk.injEq] at hv
    obtain ⟨h1, h2, h3, h4, h5, h6, h7⟩ := hv
    subst h1 h2 h3 h4 h5 h6 h7
    obtain ⟨c1, c0⟩ := He.ba h
    obtain ⟨c2, c3⟩ := He.ba c0
    dsimp only at c1 c2 c3
    unfold cloZ at c1
    unfold dflZ at c2
    unfold codeZ at c3
    split at c1
    · rename_i y cc
      obtain ⟨c4, c5⟩ := He.ba c1
      have hy := of_decide_eq_true c4
      subst hy
      split at c5
      · rename_i cl cld D csl lc
        have hD := of_decide_eq_true c5
        subst hD
        split at c2
        · split at c3
          · rename_i cda
            obtain ⟨c6, c7⟩ := He.ba c3
            split at c7
            · rename_i ccl cdd vs ccs lcc
              split at c7
              · rename_i f tf hf
                have hfi := of_decide_eq_true c7
                subst hfi
                exact ⟨cc, cda, oc, od, osl, _, _, _, lk, c6, ⟨ccl, cdd, vs, ccs, tf, lcc, hf⟩, cl, cld, csl, lc⟩
              · cases c7
            · cases c7
          · cases c3
        · cases c2
      · cases c5
    · cases c1
  · cases h
/-- all that an own error class must say -/
def errZ (file : Str) (e : EnD) (K : PySem.W.Frag) : Bool :=
  oexZ K (He.ga K e.C) && (He.eqO (PySem.W.findIn K (.ref (He.ga K e.C)) "__setattr__") (some (some (.builtin "object.__setattr__"))) && (decide (PySem.W.subIn K (.ref (He.ga K e.C)) (.type "BaseException") = some true) && (decide (PySem.W.typeIn K (.ref (He.ga K e.C)) = some (.type "type")) && (PySem.W.keepIn K (.ref (He.ga K e.C)) &&
  (He.eqO (PySem.W.findIn K (.ref (He.ga K e.C)) "__init__") (some (some (.ref (iniA K e.C)))) && (decide (PySem.W.typeIn K (.ref (iniA K e.C)) = some (.type "function")) && (iniZ file e K && (He.eqO (PySem.W.nsIn K cStatics "thirdparty.any") (some none) && (He.eqO (PySem.W.ks_superIn K (He.ga K e.C) (He.ga K e.C) "__init__") (some (some (.builtin "ValueError.__init__"))) &&
  (decide (PySem.W.mroIn K (He.ga K e.C) (.ref (He.ga K e.C)) = some true) && (decide (PySem.W.subIn K (.ref (He.ga K e.C)) (.type "ValueError") = some true) && (e.ps.all fun f => He.eqO (PySem.W.findIn K (.ref (He.ga K e.C)) f) (some none)))))))))))))
theorem errZ_ok {file : Str} {e : EnD} {K : PySem.W.Frag} {mg : Str → Option Value} (hs : mg "super" = none) (hv : fnZ K e.C = e.val) (h : errZ file e K = true) : ErrT K mg (He.ga K e.C) e.st e.qual e.ps file := by
  obtain ⟨h1, h⟩ := He.ba h
  obtain ⟨h2, h⟩ := He.ba h
  obtain ⟨h3, h⟩ := He.ba h
  obtain ⟨h4, h⟩ := He.ba h
  obtain ⟨h5, h⟩ := He.ba h
  obtain ⟨h6, h⟩ := He.ba h
  obtain ⟨h7, h⟩ := He.ba h
  obtain ⟨h8, h⟩ := He.ba h
  obtain ⟨h9, h⟩ := He.ba h
  obtain ⟨h10, h⟩ := He.ba h
  obtain ⟨h11, h⟩ := He.ba h
  obtain ⟨h12, h13⟩ := He.ba h
  obtain ⟨cc, cda, oc, od, osl, doc, pm, ctv, lk, hcd, hcode, hcell⟩ := iniZ_ok hv h8
  exact ⟨⟨oexZ_ok h1, He.eqO_ok h2, of_decide_eq_true h3, of_decide_eq_true h4, h5⟩, ⟨iniA K e.C, cc, cda, oc, od, osl, doc, pm, ctv, He.eqO_ok h6, of_decide_eq_true h7, lk, hcd, ⟨hcode, hcell, hs, He.eqO_ok h9, He.eqO_ok h10, of_decide_eq_true h11, of_decide_eq_true h12⟩⟩, fun f hf => He.eqO_ok (List.all_eq_true.mp h13 f hf)⟩
/-- the error classes, by name -/
def errN : List Str := ["BadField", "BadModes", "BadCall", "UnknownCall", "BadPlace", "BadText", "BadRow", "BadWord", "BadWish", "BadRun", "BadCallers", "BadKind", "BadRule", "Refused", "BadThing"]
def excZ (K : PySem.W.Frag) (D : Addr) : Bool :=
  He.eqO (PySem.W.findIn K (.ref D) "__getattribute__") (some (some (.builtin "BaseException.__getattribute__"))) && (He.eqO (PySem.W.findIn K (.ref D) "__getattr__") (some none) && (decide (PySem.W.subIn K (.ref D) (.type "BaseException") = some true) && (PySem.W.hasDictIn K D &&
  (He.eqO (PySem.W.findIn K (.ref D) "__class__") (some (some (.builtin "object.__class__"))) && (He.eqO (PySem.W.specialIn K (.builtin "object.__class__") "__get__") (some (some (.builtin "getset_descriptor.__get__"))) && (decide (PySem.W.takesIn K (.builtin "object.__class__") = some true) && decide (PySem.W.mroIn K D (.type "object") = some true)))))))
theorem excZ_ok {K : PySem.W.Frag} {D : Addr} (h : excZ K D = true) : ExcC K D ∧ XfC K D := by
  obtain ⟨h1, h⟩ := He.ba h
  obtain ⟨h2, h⟩ := He.ba h
  obtain ⟨h3, h⟩ := He.ba h
  obtain ⟨h4, h⟩ := He.ba h
  obtain ⟨h5, h⟩ := He.ba h
  obtain ⟨h6, h⟩ := He.ba h
  obtain ⟨h7, h8⟩ := He.ba h
  exact ⟨⟨He.eqO_ok h1, He.eqO_ok h2, of_decide_eq_true h3, h4, He.eqO_ok h5, He.eqO_ok h6, of_decide_eq_true h7, of_decide_eq_true h8⟩, ⟨He.eqO_ok h1, He.eqO_ok h2, of_decide_eq_true h3, h4⟩⟩
def kitZ (K : PySem.W.Frag) (as : List Addr) : Bool := (List.range as.length).all fun i => (List.range as.length).all fun j => decide (PySem.W.kitOne K (.ref (as.getD i 0)) (.ref (as.getD j 0)) = some (decide (i = j)))
def errKZ (K : PySem.W.Frag) : Bool := (errN.map (He.ga K)).all (excZ K) && (kitZ K (errN.map (He.ga K)) && (errN.map (He.ga K)).all fun D => decide (PySem.W.exmOne K (.ref D) (.ref (He.ga K "MakerError")) = some true))
theorem errKZ_ok {K : PySem.W.Frag} {A : Ad} (h : errKZ K = true) (e : errCls A = errN.map (He.ga K)) (em : A.MakerError = He.ga K "MakerError") : ErrK K A := by
  obtain ⟨h1, h⟩ := He.ba h
  obtain ⟨h2, h3⟩ := He.ba h
  refine ⟨fun D hD => (excZ_ok (List.all_eq_true.mp h1 D (e ▸ hD))).1, fun D hD => (excZ_ok (List.all_eq_true.mp h1 D (e ▸ hD))).2, fun i j D C hi hj => ?_, fun D hD => ?_⟩
  · rw [e] at hi hj
    have li := (List.getElem?_eq_some_iff.mp hi).1
    have lj := (List.getElem?_eq_some_iff.mp hj).1
    have q := List.all_eq_true.mp (List.all_eq_true.mp h2 i (List.mem_range.mpr li)) j (List.mem_range.mpr lj)
    have q2 := of_decide_eq_true q
    rw [List.getD_eq_getElem?_getD, List.getD_eq_getElem?_getD, hi, hj] at q2
    exact q2
  · rw [em]
    exact of_decide_eq_true (List.all_eq_true.mp h3 D (e ▸ hD))
/-! ### the Hook -/
def selZ (o : Obj) : List Addr := match o.data with
  | .func fd => He.refV fd.code ++ (He.refV fd.defaults ++ (He.refV fd.kwdefaults ++ fd.closure.map (·.2)))
  | .cls cd => [cd.ns]
  | .dict es _ => es.toList.flatMap fun e => He.refV e.val
  | .seq its _ => its.toList.flatMap He.refV
  | _ => []
def lvlZ (g : Addr → Option Obj) (as : List Addr) : List Addr := as.flatMap fun a => match g a with
  | some o => selZ o
  | none => []
def asZ (g : Addr → Option Obj) : Nat → List Addr → List Addr
  | 0, as => as
  | n + 1, as => as ++ asZ g n (lvlZ g as)
def frZ (g : Addr → Option Obj) : PySem.W.Frag := He.frT g (cStatics :: asZ g 5 [mainGlobals])
abbrev AlZ : Type := (He.AlT × List FnZ) × Bool
structure SaysZ (fa : List He.Fa) (fn : List He.DefD) (ts : List He.Tab) (en : List EnD) (tf : List He.Defn) (ex : PySem.W.Frag → Bool) (w : World) (h : Heap) (K : PySem.W.Frag) : Prop where
  t : He.SaysT fa fn ts w K
  en : (en.map fun e => fnZ K e.C) = en.map EnD.val
  more : ex K = true
  hd : ∀ p ∈ tf, PySem.W.codeHdIn K (He.cT K p).1 (He.cT K p).2 = true
  out : ∀ p ∈ tf, K.lookup (He.cT K p).2 = none
  empty : ∀ p ∈ tf, h.get? (He.cT K p).2 = some { cls := .none, data := .fields #[] }
def obsZ (fa : List He.Fa) (fn : List He.DefD) (ts : List He.Tab) (en : List EnD) (tf : List He.Defn) (ex : PySem.W.Frag → Bool) (g : Addr → Option Obj) : AlZ := ((He.obsT fa fn ts (frZ g), en.map fun e => fnZ (frZ g) e.C), ex (frZ g) && He.tabsB g tf (frZ g))
def valZ (fn : List He.DefD) (ts : List He.Tab) (en : List EnD) (w : World) : AlZ := ((He.valT fn ts w, en.map EnD.val), true)
theorem saysZ_of {fa : List He.Fa} {fn : List He.DefD} {ts : List He.Tab} {en : List EnD} {tf : List He.Defn} {ex : PySem.W.Frag → Bool} {w : World} {h : Heap} (e : obsZ fa fn ts en tf ex h.get? = valZ fn ts en w) : SaysZ fa fn ts en tf ex w h (frZ h.get?) := by
  have e1 := congrArg (fun z : AlZ => z.1) e
  have e2 : (ex (frZ h.get?) && He.tabsB h.get? tf (frZ h.get?)) = true := congrArg (fun z : AlZ => z.2) e
  obtain ⟨h1, h2⟩ := He.ba e2
  have key : ∀ p ∈ tf, PySem.W.codeHdIn (frZ h.get?) (He.cT (frZ h.get?) p).1 (He.cT (frZ h.get?) p).2 = true ∧ ∃ o, h.get? (He.cT (frZ h.get?) p).2 = some o ∧ He.emptyTab o = true := fun p hp => by
    obtain ⟨h3, h4⟩ := He.ba (List.all_eq_true.mp h2 p hp)
    refine ⟨h3, ?_⟩
    cases q : h.get? (He.cT (frZ h.get?) p).2 with
    | none => rw [q] at h4; cases h4
    | some o => rw [q] at h4; exact ⟨o, rfl, h4⟩
  exact ⟨congrArg (fun z : He.AlT × List FnZ => z.1) e1, congrArg (fun z : He.AlT × List FnZ => z.2) e1, h1, fun p hp => (key p hp).1, fun p hp => by
    obtain ⟨_, o, q, z⟩ := key p hp
    exact He.frT_none q z, fun p hp => by
    obtain ⟨_, o, q, z⟩ := key p hp
    rw [q, He.emptyTab_eq z]⟩
def hookZ (fa : List He.Fa) (fn : List He.DefD) (ts : List He.Tab) (en : List EnD) (tf : List He.Defn) (ex : PySem.W.Frag → Bool) : PySem.W.Hook where
  α := AlZ
  obs := fun s => obsZ fa fn ts en tf ex s.heap.get?
  val := fun w => valZ fn ts en w
  says := fun w h => ∃ K : PySem.W.Frag, K.In h ∧ SaysZ fa fn ts en tf ex w h K
  of := fun _ _ e => ⟨_, He.frT_in, saysZ_of e⟩
  keeps := fun _ _ _ ⟨K, hK, c⟩ k => ⟨K, PySem.W.Frag.In.keeps hK k, ⟨c.t, c.en, c.more, c.hd, c.out, fun p hp => k _ _ (c.empty p hp)⟩⟩
theorem obsZ_eq {fa : List He.Fa} {fn : List He.DefD} {ts : List He.Tab} {en : List EnD} {tf : List He.Defn} {ex : PySem.W.Frag → Bool} {g : Addr → Option Obj} {s : Shared} (h : ∀ a, g a = s.heap.get? a) : obsZ fa fn ts en tf ex g = (hookZ fa fn ts en tf ex).obs s := by
  have e : g = s.heap.get? := funext h
  rw [e] <;> rfl
theorem en_at {K : PySem.W.Frag} {en : List EnD} (h : (en.map fun e => fnZ K e.C) = en.map EnD.val) (i : Nat) {e : EnD} (hi : en[i]? = some e) : fnZ K e.C = e.val := by
  have q := congrArg (fun l : List FnZ => l[i]?) h
  simp only [List.getElem?_map, hi, Option.map_some] at q
  exact Option.some.inj q
/-- the law's code object and its table -/
theorem lawT_of {K : PySem.W.Frag} {h : Heap} {fa : List He.Fa} {fn : List He.DefD} {ts : List He.Tab} {en : List EnD} {ex : PySem.W.Frag → Bool} {w : World} {mg : Str → Option Value} {CX : CXT} {l : PySem.W.OpenLaw} {lv n : Nat} {fd : FuncData} {st : Stmt}
    (X : K.In h) (c : SaysZ fa fn ts en [("law", none)] ex w h K) (F : Fun K "law" "law" st (He.ga K "law") fd) (hb : ∀ (s : Shared) (v : Value), BindsTo s fd ⟨[v], []⟩ [("_law_script", v)])
    (hF : ∀ base : Heap, K.In base → base.Ns mainGlobals mg → (∀ cd, fd.code = .ref cd → TabB base mg cd (He.cT K ("law", none)).2) → FnOk l.prog w K mg base CX lv (He.ga K "law") fd ["_law_script"] (spLawT K (He.cT K ("law", none)).2)) (hn : n ≤ 63) :
    LawAtS l w K CX lv n "_law_script" mg (He.ga K "law") h := by
  have m : (("law", none) : He.Defn) ∈ [(("law", none) : He.Defn)] := List.mem_singleton.mpr rfl
  refine ⟨fd, [He.cT K ("law", none)], spLawT K (He.cT K ("law", none)).2, fun p hp => ?_, fun p hp => ?_, fun p hp => ?_, hb, fun H a ns hl _ hT hS => ?_, fun base hK hG hTB => hF base hK hG fun cd hcd => ?_⟩
  · rw [List.mem_singleton.mp hp]; exact c.empty _ m
  · rw [List.mem_singleton.mp hp]; exact c.out _ m
  · rw [List.mem_singleton.mp hp]; exact PySem.W.codeHd_of_K X (c.hd _ m)
  · exact ⟨a, ns, rfl, hS, Nat.le_trans hl hn, hT _ (List.mem_singleton.mpr rfl), fun _ => rfl⟩
  · obtain ⟨oc, od, kV, doc, pm, an, cdv, ct, osl, rfl, lk, hcg⟩ := F.ex
    have e := He.codeOf_eq (p := ("law", none)) lk hcd
    have t := hTB _ (List.mem_singleton.mpr rfl)
    have e2 : (He.cT K ("law", none)).1 = cd := e
    rw [← e2]
    exact t
end Mz
end
section
set_option Elab.async false
set_option linter.all false
set_option maxRecDepth 100000
set_option maxHeartbeats 4000000
namespace Mz
open PySem L2
def top (i : Nat) : Stmt := PySem.Challenge.pw_makerlines_k04_places_owned.main.body.getD i (.Pass ⟨0, 0, 0, 0⟩)
abbrev s_law_fill : Stmt := top 44
abbrev N_law_fill : List Str := ["_law_state", "_law_cells", "_law_nth", "_law_seed", "_law_k", "_law_prime", "_law_far"]
theorem sc_law_fill : FnScope N_law_fill ["_law_state"] (defScope s_law_fill) := ⟨rfl, rfl, rfl, by decide +kernel, rfl, by decide +kernel, by decide +kernel⟩
abbrev s_law_take : Stmt := top 45
abbrev N_law_take : List Str := ["_law_state", "_law_many", "_law_laps", "_law_digit"]
theorem sc_law_take : FnScope N_law_take ["_law_state", "_law_many"] (defScope s_law_take) := ⟨rfl, rfl, rfl, by decide +kernel, rfl, by decide +kernel, by decide +kernel⟩
abbrev s_law_fresh : Stmt := top 43
abbrev N_law_fresh : List Str := ["_law_script"]
theorem sc_law_fresh : FnScope N_law_fresh ["_law_script"] (defScope s_law_fresh) := ⟨rfl, rfl, rfl, by decide +kernel, rfl, by decide +kernel, by decide +kernel⟩
abbrev s_law_other_error : Stmt := top 51
abbrev N_law_other_error : List Str := ["_law_e"]
theorem sc_law_other_error : FnScope N_law_other_error ["_law_e"] (defScope s_law_other_error) := ⟨rfl, rfl, rfl, by decide +kernel, rfl, by decide +kernel, by decide +kernel⟩
abbrev s_law_error : Stmt := top 50
abbrev N_law_error : List Str := ["_law_e"]
theorem sc_law_error : FnScope N_law_error ["_law_e"] (defScope s_law_error) := ⟨rfl, rfl, rfl, by decide +kernel, rfl, by decide +kernel, by decide +kernel⟩
abbrev s_law_tried : Stmt := top 49
abbrev N_law_tried : List Str := ["_law_deed", "_law_e"]
theorem sc_law_tried : FnScope N_law_tried ["_law_deed"] (defScope s_law_tried) := ⟨rfl, rfl, rfl, by decide +kernel, rfl, by decide +kernel, by decide +kernel⟩
abbrev s_law_one : Stmt := top 46
abbrev N_law_one : List Str := ["_law_state", "_law_things"]
theorem sc_law_one : FnScope N_law_one ["_law_state", "_law_things"] (defScope s_law_one) := ⟨rfl, rfl, rfl, by decide +kernel, rfl, by decide +kernel, by decide +kernel⟩
abbrev s_law_mix : Stmt := top 47
abbrev N_law_mix : List Str := ["_law_state", "_law_things", "_law_left", "_law_found"]
theorem sc_law_mix : FnScope N_law_mix ["_law_state", "_law_things"] (defScope s_law_mix) := ⟨rfl, rfl, rfl, by decide +kernel, rfl, by decide +kernel, by decide +kernel⟩
abbrev s_is_integer : Stmt := top 4
abbrev N_is_integer : List Str := ["thing"]
theorem sc_is_integer : FnScope N_is_integer ["thing"] (defScope s_is_integer) := ⟨rfl, rfl, rfl, by decide +kernel, rfl, by decide +kernel, by decide +kernel⟩
abbrev s_is_between : Stmt := top 5
abbrev N_is_between : List Str := ["thing", "least", "greatest"]
theorem sc_is_between : FnScope N_is_between ["thing", "least", "greatest"] (defScope s_is_between) := ⟨rfl, rfl, rfl, by decide +kernel, rfl, by decide +kernel, by decide +kernel⟩
abbrev s_is_list : Stmt := top 6
abbrev N_is_list : List Str := ["thing"]
theorem sc_is_list : FnScope N_is_list ["thing"] (defScope s_is_list) := ⟨rfl, rfl, rfl, by decide +kernel, rfl, by decide +kernel, by decide +kernel⟩
abbrev s_is_row : Stmt := top 7
abbrev N_is_row : List Str := ["thing", "many"]
theorem sc_is_row : FnScope N_is_row ["thing", "many"] (defScope s_is_row) := ⟨rfl, rfl, rfl, by decide +kernel, rfl, by decide +kernel, by decide +kernel⟩
abbrev s_is_word : Stmt := top 8
abbrev N_is_word : List Str := ["thing", "letter"]
theorem sc_is_word : FnScope N_is_word ["thing"] (defScope s_is_word) := ⟨rfl, rfl, rfl, by decide +kernel, rfl, by decide +kernel, by decide +kernel⟩
abbrev s_are_unlike : Stmt := top 9
abbrev N_are_unlike : List Str := ["things", "thing"]
theorem sc_are_unlike : FnScope N_are_unlike ["things"] (defScope s_are_unlike) := ⟨rfl, rfl, rfl, by decide +kernel, rfl, by decide +kernel, by decide +kernel⟩
abbrev s_checked_fields : Stmt := top 35
abbrev N_checked_fields : List Str := ["fields", "found", "index", "thing", "is_field", "row"]
theorem sc_checked_fields : FnScope N_checked_fields ["fields"] (defScope s_checked_fields) := ⟨rfl, rfl, rfl, by decide +kernel, rfl, by decide +kernel, by decide +kernel⟩
abbrev s_is_deed : Stmt := top 36
abbrev N_is_deed : List Str := ["thing", "sorts"]
theorem sc_is_deed : FnScope N_is_deed ["thing", "sorts"] (defScope s_is_deed) := ⟨rfl, rfl, rfl, by decide +kernel, rfl, by decide +kernel, by decide +kernel⟩
abbrev s_is_same : Stmt := top 37
abbrev N_is_same : List Str := ["thing", "hand", "sorts", "name"]
theorem sc_is_same : FnScope N_is_same ["thing", "hand", "sorts"] (defScope s_is_same) := ⟨rfl, rfl, rfl, by decide +kernel, rfl, by decide +kernel, by decide +kernel⟩
abbrev s_reason_against : Stmt := top 38
abbrev N_reason_against : List Str := ["thing", "sorts", "modes", "names", "part", "name", "hand", "moves", "deeds", "same", "move", "deed"]
theorem sc_reason_against : FnScope N_reason_against ["thing", "sorts", "modes", "names"] (defScope s_reason_against) := ⟨rfl, rfl, rfl, by decide +kernel, rfl, by decide +kernel, by decide +kernel⟩
abbrev s_checked_calls : Stmt := top 39
abbrev N_checked_calls : List Str := ["calls", "sorts", "modes", "found", "index", "thing", "reason", "row", "name", "hand", "moves", "deeds", "same", "deed"]
theorem sc_checked_calls : FnScope N_checked_calls ["calls", "sorts", "modes"] (defScope s_checked_calls) := ⟨rfl, rfl, rfl, by decide +kernel, rfl, by decide +kernel, by decide +kernel⟩
abbrev s_Kind___init__ : Stmt := inClass (top 40) 0
abbrev N_Kind___init__ : List Str := ["self", "fields", "calls", "modes", "name", "sort", "need", "row"]
theorem sc_Kind___init__ : FnScope N_Kind___init__ ["self", "fields", "calls", "modes"] (defScope s_Kind___init__) := ⟨rfl, rfl, rfl, by decide +kernel, rfl, by decide +kernel, by decide +kernel⟩
abbrev s_law_plan : Stmt := top 52
abbrev N_law_plan : List Str := ["_law_fields", "_law_calls", "_law_far"]
theorem sc_law_plan : FnScope N_law_plan ["_law_fields", "_law_calls", "_law_far"] (defScope s_law_plan) := ⟨rfl, rfl, rfl, by decide +kernel, rfl, by decide +kernel, by decide +kernel⟩
abbrev s_law_deeds : Stmt := top 53
abbrev N_law_deeds : List Str := ["_law_state", "_law_fields", "_law_many", "_law_found", "_law_busy", "_law_k", "_law_name", "_law_sort", "_law_need", "_law_some", "_law_deed"]
theorem sc_law_deeds : FnScope N_law_deeds ["_law_state", "_law_fields", "_law_many"] (defScope s_law_deeds) := ⟨rfl, rfl, rfl, by decide +kernel, rfl, by decide +kernel, by decide +kernel⟩
abbrev s_law_call : Stmt := top 54
abbrev N_law_call : List Str := ["_law_state", "_law_name", "_law_hand", "_law_fields", "_law_far", "_law_some", "_law_moves", "_law_k", "_law_lists", "_law_x", "_law_deeds_here"]
theorem sc_law_call : FnScope N_law_call ["_law_state", "_law_name", "_law_hand", "_law_fields", "_law_far"] (defScope s_law_call) := ⟨rfl, rfl, rfl, by decide +kernel, rfl, by decide +kernel, by decide +kernel⟩
abbrev s_law_kind : Stmt := top 55
abbrev N_law_kind : List Str := ["_law_state", "_law_wide", "_law_many", "_law_far", "_law_fields", "_law_names", "_law_k", "_law_top", "_law_calls", "_law_name"]
theorem sc_law_kind : FnScope N_law_kind ["_law_state", "_law_wide", "_law_many", "_law_far"] (defScope s_law_kind) := ⟨rfl, rfl, rfl, by decide +kernel, rfl, by decide +kernel, by decide +kernel⟩
abbrev s_law_same : Stmt := top 48
abbrev s_Kind_number_of_x : Stmt := inClass (top 40) 9
abbrev N_Kind_number_of_x : List Str := ["self", "name"]
theorem sc_Kind_number_of_x : FnScope N_Kind_number_of_x ["self", "name"] (defScope s_Kind_number_of_x) := ⟨rfl, rfl, rfl, by decide +kernel, rfl, by decide +kernel, by decide +kernel⟩
abbrev s_Kind_own : Stmt := inClass (top 40) 11
abbrev N_Kind_own : List Str := ["self", "name", "field", "at", "row", "changed", "one", "calls"]
theorem sc_Kind_own : FnScope N_Kind_own ["self", "name", "field"] (defScope s_Kind_own) := ⟨rfl, rfl, rfl, by decide +kernel, rfl, by decide +kernel, by decide +kernel⟩
abbrev s_Kind___eq__ : Stmt := inClass (top 40) 5
abbrev N_Kind___eq__ : List Str := ["self", "other"]
theorem sc_Kind___eq__ : FnScope N_Kind___eq__ ["self", "other"] (defScope s_Kind___eq__) := ⟨rfl, rfl, rfl, by decide +kernel, rfl, by decide +kernel, by decide +kernel⟩
abbrev s_law_same_e : Stmt := top 48
abbrev N_law_same_e : List Str := ["_law_found", "_law_due", "_law_a", "_law_b"]
theorem sc_law_same_e : FnScope N_law_same_e ["_law_found", "_law_due"] (defScope s_law_same_e) := ⟨rfl, rfl, rfl, by decide +kernel, rfl, by decide +kernel, by decide +kernel⟩
abbrev s_law : Stmt := top 56
abbrev N_law : List Str := ["_law_script", "_law_state", "_law_turn", "_law_p", "_law_known", "_law_at", "_law_row", "_law_name", "_law_left", "_law_x", "_law_due", "_law_odd"]
theorem sc_law : FnScope N_law ["_law_script"] (defScope s_law) := ⟨rfl, rfl, rfl, by decide +kernel, rfl, by decide +kernel, by decide +kernel⟩
abbrev lawFile : Str := "/claim/cut.py"
abbrev s_BadPlace___init__ : Stmt := inClass (top 16) 0
abbrev s_UnknownCall___init__ : Stmt := inClass (top 15) 0
structure Bd where
  tk_LETTERS : Tok
  tk_LONGEST : Tok
  tk_MOST_CALLS : Tok
  tk_MOST_DEEDS : Tok
  tk_MOST_FIELDS : Tok
  tk_MOST_MODES : Tok
  f_law_fill : Addr
  d_law_fill : FuncData
  f_law_take : Addr
  d_law_take : FuncData
  f_law_fresh : Addr
  d_law_fresh : FuncData
  f_law_other_error : Addr
  d_law_other_error : FuncData
  f_law_error : Addr
  d_law_error : FuncData
  f_law_tried : Addr
  d_law_tried : FuncData
  f_law_one : Addr
  d_law_one : FuncData
  f_law_mix : Addr
  d_law_mix : FuncData
  f_is_integer : Addr
  d_is_integer : FuncData
  f_is_between : Addr
  d_is_between : FuncData
  f_is_list : Addr
  d_is_list : FuncData
  f_is_row : Addr
  d_is_row : FuncData
  f_is_word : Addr
  d_is_word : FuncData
  f_are_unlike : Addr
  d_are_unlike : FuncData
  f_checked_fields : Addr
  d_checked_fields : FuncData
  f_is_deed : Addr
  d_is_deed : FuncData
  f_is_same : Addr
  d_is_same : FuncData
  f_reason_against : Addr
  d_reason_against : FuncData
  f_checked_calls : Addr
  d_checked_calls : FuncData
  f_Kind___init__ : Addr
  d_Kind___init__ : FuncData
  f_law_plan : Addr
  d_law_plan : FuncData
  f_law_deeds : Addr
  d_law_deeds : FuncData
  f_law_call : Addr
  d_law_call : FuncData
  f_law_kind : Addr
  d_law_kind : FuncData
  f_law_same : Addr
  d_law_same : FuncData
  f_Kind_number_of_x : Addr
  d_Kind_number_of_x : FuncData
  f_Kind_own : Addr
  d_Kind_own : FuncData
  f_Kind___eq__ : Addr
  d_Kind___eq__ : FuncData
  f_law_same_e : Addr
  d_law_same_e : FuncData
  f_law : Addr
  d_law : FuncData
structure Tx (w : World) (K : PySem.W.Frag) (mg : Str → Option Value) (A : Ad) (B : Bd) : Prop where
  xk : ErrK K A
  xe_BadPlace : ErrT K mg A.BadPlace s_BadPlace___init__ "BadPlace.__init__" ["place"] lawFile
  xe_UnknownCall : ErrT K mg A.UnknownCall s_UnknownCall___init__ "UnknownCall.__init__" ["name"] lawFile
  n_len : mg "len" = none
  n_int : mg "int" = none
  n_str : mg "str" = none
  n_bool : mg "bool" = none
  n_list : mg "list" = none
  n_tuple : mg "tuple" = none
  n_range : mg "range" = none
  n_enumerate : mg "enumerate" = none
  n_zip : mg "zip" = none
  n_isinstance : mg "isinstance" = none
  n_all : mg "all" = none
  cl_Kind : Cls K A.Kind
  g_BadCall : mg "BadCall" = some (.ref A.BadCall)
  g_BadCallers : mg "BadCallers" = some (.ref A.BadCallers)
  g_BadField : mg "BadField" = some (.ref A.BadField)
  g_BadKind : mg "BadKind" = some (.ref A.BadKind)
  g_BadModes : mg "BadModes" = some (.ref A.BadModes)
  g_BadPlace : mg "BadPlace" = some (.ref A.BadPlace)
  g_BadRow : mg "BadRow" = some (.ref A.BadRow)
  g_BadRule : mg "BadRule" = some (.ref A.BadRule)
  g_BadRun : mg "BadRun" = some (.ref A.BadRun)
  g_BadText : mg "BadText" = some (.ref A.BadText)
  g_BadThing : mg "BadThing" = some (.ref A.BadThing)
  g_BadWish : mg "BadWish" = some (.ref A.BadWish)
  g_BadWord : mg "BadWord" = some (.ref A.BadWord)
  g_DEEDS : mg "DEEDS" = some (.ref A.DEEDS)
  g_HANDS : mg "HANDS" = some (.ref A.HANDS)
  g_Kind : mg "Kind" = some (.ref A.Kind)
  g_LETTERS : mg "LETTERS" = some (.str "abcdefghijklmnopqrstuvwxyz" B.tk_LETTERS)
  g_LONGEST : mg "LONGEST" = some (.int 8 B.tk_LONGEST)
  g_MOST_CALLS : mg "MOST_CALLS" = some (.int 6 B.tk_MOST_CALLS)
  g_MOST_DEEDS : mg "MOST_DEEDS" = some (.int 4 B.tk_MOST_DEEDS)
  g_MOST_FIELDS : mg "MOST_FIELDS" = some (.int 3 B.tk_MOST_FIELDS)
  g_MOST_MODES : mg "MOST_MODES" = some (.int 4 B.tk_MOST_MODES)
  g_MakerError : mg "MakerError" = some (.ref A.MakerError)
  g_Refused : mg "Refused" = some (.ref A.Refused)
  g_UnknownCall : mg "UnknownCall" = some (.ref A.UnknownCall)
  kd_many : KDct K w A.DEEDS "many" (.ref A.DEEDS_many)
  kd_one : KDct K w A.DEEDS "one" (.ref A.DEEDS_one)
  mk_Kind : Mk K A.Kind B.f_Kind___init__
  na_BadCall_index : NoAttr K A.BadCall "index"
  na_BadCall_reason : NoAttr K A.BadCall "reason"
  na_BadCallers_callers : NoAttr K A.BadCallers "callers"
  na_BadField_index : NoAttr K A.BadField "index"
  na_BadKind_kind : NoAttr K A.BadKind "kind"
  na_BadModes_modes : NoAttr K A.BadModes "modes"
  na_BadPlace_place : NoAttr K A.BadPlace "place"
  na_BadRow_index : NoAttr K A.BadRow "index"
  na_BadRule_index : NoAttr K A.BadRule "index"
  na_BadRun_thing : NoAttr K A.BadRun "thing"
  na_BadText_line : NoAttr K A.BadText "line"
  na_BadWish_wish : NoAttr K A.BadWish "wish"
  na_BadWord_word : NoAttr K A.BadWord "word"
  na_Kind_call_rows : NoAttr K A.Kind "call_rows"
  na_Kind_field_rows : NoAttr K A.Kind "field_rows"
  na_Kind_modes : NoAttr K A.Kind "modes"
  na_Kind_name_list : NoAttr K A.Kind "name_list"
  na_Kind_sorts : NoAttr K A.Kind "sorts"
  na_UnknownCall_name : NoAttr K A.UnknownCall "name"
  oc_Kind : OwnC K A.Kind B.f_Kind___eq__
  w_DEEDS_many : ∀ (st : Addr) (G : Hp), AtD ⟨K, st⟩ G (.ref A.DEEDS_many) w_DEEDS_many
  w_DEEDS_one : ∀ (st : Addr) (G : Hp), AtD ⟨K, st⟩ G (.ref A.DEEDS_one) w_DEEDS_one
  w_HANDS : ∀ (st : Addr) (G : Hp), AtD ⟨K, st⟩ G (.ref A.HANDS) w_HANDS
  F_law_fill : Fun K "_law_fill" "_law_fill" s_law_fill B.f_law_fill B.d_law_fill
  m_law_fill : mg "_law_fill" = some (.ref B.f_law_fill)
  b_law_fill : Binds K B.d_law_fill ["_law_state"] []
  F_law_take : Fun K "_law_take" "_law_take" s_law_take B.f_law_take B.d_law_take
  m_law_take : mg "_law_take" = some (.ref B.f_law_take)
  b_law_take : Binds K B.d_law_take ["_law_state", "_law_many"] []
  F_law_fresh : Fun K "_law_fresh" "_law_fresh" s_law_fresh B.f_law_fresh B.d_law_fresh
  m_law_fresh : mg "_law_fresh" = some (.ref B.f_law_fresh)
  b_law_fresh : Binds K B.d_law_fresh ["_law_script"] []
  F_law_other_error : Fun K "_law_other_error" "_law_other_error" s_law_other_error B.f_law_other_error B.d_law_other_error
  m_law_other_error : mg "_law_other_error" = some (.ref B.f_law_other_error)
  b_law_other_error : Binds K B.d_law_other_error ["_law_e"] []
  F_law_error : Fun K "_law_error" "_law_error" s_law_error B.f_law_error B.d_law_error
  m_law_error : mg "_law_error" = some (.ref B.f_law_error)
  b_law_error : Binds K B.d_law_error ["_law_e"] []
  F_law_tried : Fun K "_law_tried" "_law_tried" s_law_tried B.f_law_tried B.d_law_tried
  m_law_tried : mg "_law_tried" = some (.ref B.f_law_tried)
  b_law_tried : Binds K B.d_law_tried ["_law_deed"] []
  F_law_one : Fun K "_law_one" "_law_one" s_law_one B.f_law_one B.d_law_one
  m_law_one : mg "_law_one" = some (.ref B.f_law_one)
  b_law_one : Binds K B.d_law_one ["_law_state", "_law_things"] []
  F_law_mix : Fun K "_law_mix" "_law_mix" s_law_mix B.f_law_mix B.d_law_mix
  m_law_mix : mg "_law_mix" = some (.ref B.f_law_mix)
  b_law_mix : Binds K B.d_law_mix ["_law_state", "_law_things"] []
  F_is_integer : Fun K "is_integer" "is_integer" s_is_integer B.f_is_integer B.d_is_integer
  m_is_integer : mg "is_integer" = some (.ref B.f_is_integer)
  b_is_integer : Binds K B.d_is_integer ["thing"] []
  F_is_between : Fun K "is_between" "is_between" s_is_between B.f_is_between B.d_is_between
  m_is_between : mg "is_between" = some (.ref B.f_is_between)
  b_is_between : Binds K B.d_is_between ["thing", "least", "greatest"] []
  F_is_list : Fun K "is_list" "is_list" s_is_list B.f_is_list B.d_is_list
  m_is_list : mg "is_list" = some (.ref B.f_is_list)
  b_is_list : Binds K B.d_is_list ["thing"] []
  F_is_row : Fun K "is_row" "is_row" s_is_row B.f_is_row B.d_is_row
  m_is_row : mg "is_row" = some (.ref B.f_is_row)
  b_is_row : Binds K B.d_is_row ["thing", "many"] []
  F_is_word : Fun K "is_word" "is_word" s_is_word B.f_is_word B.d_is_word
  m_is_word : mg "is_word" = some (.ref B.f_is_word)
  b_is_word : Binds K B.d_is_word ["thing"] []
  F_are_unlike : Fun K "are_unlike" "are_unlike" s_are_unlike B.f_are_unlike B.d_are_unlike
  m_are_unlike : mg "are_unlike" = some (.ref B.f_are_unlike)
  b_are_unlike : Binds K B.d_are_unlike ["things"] []
  F_checked_fields : Fun K "checked_fields" "checked_fields" s_checked_fields B.f_checked_fields B.d_checked_fields
  m_checked_fields : mg "checked_fields" = some (.ref B.f_checked_fields)
  b_checked_fields : Binds K B.d_checked_fields ["fields"] []
  F_is_deed : Fun K "is_deed" "is_deed" s_is_deed B.f_is_deed B.d_is_deed
  m_is_deed : mg "is_deed" = some (.ref B.f_is_deed)
  b_is_deed : Binds K B.d_is_deed ["thing", "sorts"] []
  F_is_same : Fun K "is_same" "is_same" s_is_same B.f_is_same B.d_is_same
  m_is_same : mg "is_same" = some (.ref B.f_is_same)
  b_is_same : Binds K B.d_is_same ["thing", "hand", "sorts"] []
  F_reason_against : Fun K "reason_against" "reason_against" s_reason_against B.f_reason_against B.d_reason_against
  m_reason_against : mg "reason_against" = some (.ref B.f_reason_against)
  b_reason_against : Binds K B.d_reason_against ["thing", "sorts", "modes", "names"] []
  F_checked_calls : Fun K "checked_calls" "checked_calls" s_checked_calls B.f_checked_calls B.d_checked_calls
  m_checked_calls : mg "checked_calls" = some (.ref B.f_checked_calls)
  b_checked_calls : Binds K B.d_checked_calls ["calls", "sorts", "modes"] []
  F_Kind___init__ : Fun K "__init__" "Kind.__init__" s_Kind___init__ B.f_Kind___init__ B.d_Kind___init__
  kb_Kind___init__ : KBn K B.d_Kind___init__ ["self", "fields", "calls", "modes"] 3 ["modes"] (fun a b => a ++ b) (fun a b => a ++ b)
  F_law_plan : Fun K "_law_plan" "_law_plan" s_law_plan B.f_law_plan B.d_law_plan
  m_law_plan : mg "_law_plan" = some (.ref B.f_law_plan)
  b_law_plan : Binds K B.d_law_plan ["_law_fields", "_law_calls", "_law_far"] []
  F_law_deeds : Fun K "_law_deeds" "_law_deeds" s_law_deeds B.f_law_deeds B.d_law_deeds
  m_law_deeds : mg "_law_deeds" = some (.ref B.f_law_deeds)
  b_law_deeds : Binds K B.d_law_deeds ["_law_state", "_law_fields", "_law_many"] []
  F_law_call : Fun K "_law_call" "_law_call" s_law_call B.f_law_call B.d_law_call
  m_law_call : mg "_law_call" = some (.ref B.f_law_call)
  b_law_call : Binds K B.d_law_call ["_law_state", "_law_name", "_law_hand", "_law_fields", "_law_far"] []
  F_law_kind : Fun K "_law_kind" "_law_kind" s_law_kind B.f_law_kind B.d_law_kind
  m_law_kind : mg "_law_kind" = some (.ref B.f_law_kind)
  b_law_kind : Binds K B.d_law_kind ["_law_state", "_law_wide", "_law_many", "_law_far"] []
  F_law_same : Fun K "_law_same" "_law_same" s_law_same B.f_law_same B.d_law_same
  m_law_same : mg "_law_same" = some (.ref B.f_law_same)
  b_law_same : Binds K B.d_law_same ["_law_found", "_law_due"] []
  F_Kind_number_of_x : Fun K "number_of" "Kind.number_of" s_Kind_number_of_x B.f_Kind_number_of_x B.d_Kind_number_of_x
  b_Kind_number_of_x : Binds K B.d_Kind_number_of_x ["self", "name"] []
  me_Kind_number_of_x : Meth K A.Kind "number_of" B.f_Kind_number_of_x
  F_Kind_own : Fun K "own" "Kind.own" s_Kind_own B.f_Kind_own B.d_Kind_own
  b_Kind_own : Binds K B.d_Kind_own ["self", "name", "field"] []
  me_Kind_own : Meth K A.Kind "own" B.f_Kind_own
  F_Kind___eq__ : Fun K "__eq__" "Kind.__eq__" s_Kind___eq__ B.f_Kind___eq__ B.d_Kind___eq__
  b_Kind___eq__ : Binds K B.d_Kind___eq__ ["self", "other"] []
  F_law_same_e : Fun K "_law_same" "_law_same" s_law_same_e B.f_law_same_e B.d_law_same_e
  m_law_same_e : mg "_law_same" = some (.ref B.f_law_same_e)
  b_law_same_e : Binds K B.d_law_same_e ["_law_found", "_law_due"] []
  F_law : Fun K "law" "law" s_law B.f_law B.d_law
  m_law : mg "law" = some (.ref B.f_law)
end Mz
end
section
set_option Elab.async false
set_option linter.all false
set_option maxRecDepth 100000
set_option maxHeartbeats 4000000
set_option maxHeartbeats 0
namespace Mz
open PySem L2
def hd_law_fill : He.DefD := ⟨("_law_fill", none), "_law_fill", "_law_fill", defArgs s_law_fill, defBody s_law_fill, defScope s_law_fill, [], []⟩
def hd_law_take : He.DefD := ⟨("_law_take", none), "_law_take", "_law_take", defArgs s_law_take, defBody s_law_take, defScope s_law_take, [], []⟩
def hd_law_fresh : He.DefD := ⟨("_law_fresh", none), "_law_fresh", "_law_fresh", defArgs s_law_fresh, defBody s_law_fresh, defScope s_law_fresh, [], []⟩
def hd_law_other_error : He.DefD := ⟨("_law_other_error", none), "_law_other_error", "_law_other_error", defArgs s_law_other_error, defBody s_law_other_error, defScope s_law_other_error, [], []⟩
def hd_law_error : He.DefD := ⟨("_law_error", none), "_law_error", "_law_error", defArgs s_law_error, defBody s_law_error, defScope s_law_error, [], []⟩
def hd_law_tried : He.DefD := ⟨("_law_tried", none), "_law_tried", "_law_tried", defArgs s_law_tried, defBody s_law_tried, defScope s_law_tried, [], []⟩
def hd_law_one : He.DefD := ⟨("_law_one", none), "_law_one", "_law_one", defArgs s_law_one, defBody s_law_one, defScope s_law_one, [], []⟩
def hd_law_mix : He.DefD := ⟨("_law_mix", none), "_law_mix", "_law_mix", defArgs s_law_mix, defBody s_law_mix, defScope s_law_mix, [], []⟩
def hd_is_integer : He.DefD := ⟨("is_integer", none), "is_integer", "is_integer", defArgs s_is_integer, defBody s_is_integer, defScope s_is_integer, [], []⟩
def hd_is_between : He.DefD := ⟨("is_between", none), "is_between", "is_between", defArgs s_is_between, defBody s_is_between, defScope s_is_between, [], []⟩
def hd_is_list : He.DefD := ⟨("is_list", none), "is_list", "is_list", defArgs s_is_list, defBody s_is_list, defScope s_is_list, [], []⟩
def hd_is_row : He.DefD := ⟨("is_row", none), "is_row", "is_row", defArgs s_is_row, defBody s_is_row, defScope s_is_row, [], []⟩
def hd_is_word : He.DefD := ⟨("is_word", none), "is_word", "is_word", defArgs s_is_word, defBody s_is_word, defScope s_is_word, [], []⟩
def hd_are_unlike : He.DefD := ⟨("are_unlike", none), "are_unlike", "are_unlike", defArgs s_are_unlike, defBody s_are_unlike, defScope s_are_unlike, [], []⟩
def hd_checked_fields : He.DefD := ⟨("checked_fields", none), "checked_fields", "checked_fields", defArgs s_checked_fields, defBody s_checked_fields, defScope s_checked_fields, [], []⟩
def hd_is_deed : He.DefD := ⟨("is_deed", none), "is_deed", "is_deed", defArgs s_is_deed, defBody s_is_deed, defScope s_is_deed, [], []⟩
def hd_is_same : He.DefD := ⟨("is_same", none), "is_same", "is_same", defArgs s_is_same, defBody s_is_same, defScope s_is_same, [], []⟩
def hd_reason_against : He.DefD := ⟨("reason_against", none), "reason_against", "reason_against", defArgs s_reason_against, defBody s_reason_against, defScope s_reason_against, [], []⟩
def hd_checked_calls : He.DefD := ⟨("checked_calls", none), "checked_calls", "checked_calls", defArgs s_checked_calls, defBody s_checked_calls, defScope s_checked_calls, [], []⟩
def hd_Kind___init__ : He.DefD := ⟨("Kind", some "__init__"), "__init__", "Kind.__init__", defArgs s_Kind___init__, defBody s_Kind___init__, defScope s_Kind___init__, [], []⟩
def hd_law_plan : He.DefD := ⟨("_law_plan", none), "_law_plan", "_law_plan", defArgs s_law_plan, defBody s_law_plan, defScope s_law_plan, [], []⟩
def hd_law_deeds : He.DefD := ⟨("_law_deeds", none), "_law_deeds", "_law_deeds", defArgs s_law_deeds, defBody s_law_deeds, defScope s_law_deeds, [], []⟩
def hd_law_call : He.DefD := ⟨("_law_call", none), "_law_call", "_law_call", defArgs s_law_call, defBody s_law_call, defScope s_law_call, [], []⟩
def hd_law_kind : He.DefD := ⟨("_law_kind", none), "_law_kind", "_law_kind", defArgs s_law_kind, defBody s_law_kind, defScope s_law_kind, [], []⟩
def hd_law_same : He.DefD := ⟨("_law_same", none), "_law_same", "_law_same", defArgs s_law_same, defBody s_law_same, defScope s_law_same, [], []⟩
def hd_Kind_own : He.DefD := ⟨("Kind", some "own"), "own", "Kind.own", defArgs s_Kind_own, defBody s_Kind_own, defScope s_Kind_own, [], []⟩
def hd_Kind___eq__ : He.DefD := ⟨("Kind", some "__eq__"), "__eq__", "Kind.__eq__", defArgs s_Kind___eq__, defBody s_Kind___eq__, defScope s_Kind___eq__, [], []⟩
def hd_law : He.DefD := ⟨("law", none), "law", "law", defArgs s_law, defBody s_law, defScope s_law, [], []⟩
def hd_Kind_number_of_x : He.DefD := ⟨("Kind", some "number_of"), "number_of", "Kind.number_of", defArgs s_Kind_number_of_x, defBody s_Kind_number_of_x, defScope s_Kind_number_of_x, [], []⟩
def ed_BadPlace : EnD := ⟨"BadPlace", s_BadPlace___init__, "BadPlace.__init__", ["place"]⟩
def ed_UnknownCall : EnD := ⟨"UnknownCall", s_UnknownCall___init__, "UnknownCall.__init__", ["name"]⟩
def hk_en : List EnD := [ed_BadPlace, ed_UnknownCall]
def hk_fa0 : List (He.Fa) := [.glo "_law_fill", .glo "_law_take", .glo "_law_fresh", .glo "_law_other_error", .glo "_law_error", .glo "_law_tried", .glo "_law_one", .glo "_law_mix", .glo "is_integer", .glo "is_between", .glo "is_list", .glo "is_row", .glo "is_word", .glo "are_unlike", .glo "checked_fields", .glo "is_deed", .glo "is_same", .glo "reason_against", .glo "checked_calls", .glo "_law_plan", .glo "_law_deeds", .glo "_law_call", .glo "_law_kind", .glo "_law_same", .meth "Kind" "own", .glo "law", .meth "Kind" "number_of", .free "super", .free "len", .free "int"]
def hk_fa1 : List (He.Fa) := [.free "str", .free "bool", .free "list", .free "tuple", .free "range", .free "enumerate", .free "zip", .free "isinstance", .free "all", .cls "Kind", .glo "BadCall", .glo "BadCallers", .glo "BadField", .glo "BadKind", .glo "BadModes", .glo "BadPlace", .glo "BadRow", .glo "BadRule", .glo "BadRun", .glo "BadText", .glo "BadThing", .glo "BadWish", .glo "BadWord", .glo "DEEDS", .glo "HANDS", .glo "Kind", .str "LETTERS" "abcdefghijklmnopqrstuvwxyz", .int "LONGEST" 8, .int "MOST_CALLS" 6, .int "MOST_DEEDS" 4]
def hk_fa2 : List (He.Fa) := [.int "MOST_FIELDS" 3, .int "MOST_MODES" 4, .glo "MakerError", .glo "Refused", .glo "UnknownCall", .mkr "Kind", .noat "BadCall" "index", .noat "BadCall" "reason", .noat "BadCallers" "callers", .noat "BadField" "index", .noat "BadKind" "kind", .noat "BadModes" "modes", .noat "BadPlace" "place", .noat "BadRow" "index", .noat "BadRule" "index", .noat "BadRun" "thing", .noat "BadText" "line", .noat "BadWish" "wish", .noat "BadWord" "word", .noat "Kind" "call_rows", .noat "Kind" "field_rows", .noat "Kind" "modes", .noat "Kind" "name_list", .noat "Kind" "sorts", .noat "UnknownCall" "name"]
def hk_fa : List (He.Fa) := hk_fa0 ++ hk_fa1 ++ hk_fa2
def hk_fn0 : List (He.DefD) := [hd_law_fill, hd_law_take, hd_law_fresh, hd_law_other_error, hd_law_error, hd_law_tried, hd_law_one, hd_law_mix, hd_is_integer, hd_is_between, hd_is_list, hd_is_row, hd_is_word, hd_are_unlike, hd_checked_fields, hd_is_deed, hd_is_same, hd_reason_against, hd_checked_calls, hd_Kind___init__, hd_law_plan, hd_law_deeds, hd_law_call, hd_law_kind, hd_law_same, hd_Kind_own, hd_Kind___eq__, hd_law, hd_Kind_number_of_x]
def hk_fn : List (He.DefD) := hk_fn0
def hk_ts0 : List (He.Tab) := [(fun K => He.ga K "DEEDS", ["one", "many"])]
def hk_ts : List (He.Tab) := hk_ts0
def hk_ex0 : List (PySem.W.Frag → Bool) := [errKZ, errZ lawFile ed_BadPlace, errZ lawFile ed_UnknownCall, dkB "DEEDS" "many", dkB "DEEDS" "one", ocB "Kind", fun K => tupA K (dkA K "DEEDS" "many") ["add", "strike", "fresh", "clear"], fun K => tupA K (dkA K "DEEDS" "one") ["set", "clear"], fun K => tupA K (He.ga K "HANDS") ["self", "new", "last"], oiB "Kind"]
def hk_ex : List (PySem.W.Frag → Bool) := hk_ex0
def hk_nm0 : List (Str) := ["_wall", "LETTERS", "LONGEST", "is_integer", "is_between", "is_list", "is_row", "is_word", "are_unlike", "MakerError", "BadField", "BadModes", "BadCall", "UnknownCall", "BadPlace", "BadText", "BadRow", "BadWord", "Refused", "BadThing", "BadWish", "BadRun", "BadCallers", "BadKind", "BadRule", "MOST_FIELDS", "MOST_MODES", "MOST_CALLS", "MOST_DEEDS", "HANDS"]
def hk_nm1 : List (Str) := ["DEEDS", "TAKING", "checked_fields", "is_deed", "is_same", "reason_against", "checked_calls", "Kind", "does_take", "_law_fresh", "_law_fill", "_law_take", "_law_one", "_law_mix", "_law_same", "_law_tried", "_law_error", "_law_other_error", "_law_plan", "_law_deeds", "_law_call", "_law_kind"]
def hk_nm : List (Str) := hk_nm0 ++ hk_nm1
abbrev hk_x (K : PySem.W.Frag) : Bool := hk_ex.all fun f => f K
abbrev hkR : PySem.W.OpenRow := PySem.W.OpenLaw.row PySem.Challenge.rw_makerlines_k04_places_owned
abbrev hk : PySem.W.Hook := hookZ hk_fa hk_fn hk_ts hk_en [("law", none)] hk_x
def hk_ob (s : PySem.W.SharedT) : AlZ := obsZ hk_fa hk_fn hk_ts hk_en [("law", none)] hk_x (HandSHeadRun.getT s)
theorem hk_ob_eq (s : PySem.W.SharedT) : hk_ob s = hk.obs s.abs := obsZ_eq (HandSHeadRun.getT_eq s)
theorem hk_run_false (w : World) : HandSHeadRun.RunEq hkR (PySem.W.view hkR.prog [56]) hk hk_ob 9000 hk_nm (w.withFollow "special-get-raises" false) := by
  intro os
  kernel_rfl
theorem hk_run_true (w : World) : HandSHeadRun.RunEq hkR (PySem.W.view hkR.prog [56]) hk hk_ob 9000 hk_nm (w.withFollow "special-get-raises" true) := by
  intro os
  kernel_rfl
theorem hk_run (w : World) : HandSHeadRun.RunEq hkR (PySem.W.view hkR.prog [56]) hk hk_ob 9000 hk_nm w := PySem.W.byRow2 "special-get-raises" hk_run_false hk_run_true w
end Mz
end
section
set_option Elab.async false
set_option linter.all false
set_option maxRecDepth 100000
set_option maxHeartbeats 1000000
namespace Mz
open PySem L2
/-! ### a stepper for mirrors -/
local macro_rules | `(tactic| row_cond sd) => `(tactic| first | with_reducible assumption | with_reducible exact rfl | exact rfl | exact True.intro | assumption | decide)
local macro_rules | `(tactic| row_cond st) => `(tactic| first
  | refine And.intro (by row_cond sd) ?_
  | refine ⟨_, by row_cond sd, ?_⟩
  | refine ⟨_, _, by row_cond sd, ?_⟩
  | refine ⟨_, _, by row_cond sd, by row_cond sd, ?_⟩
  | refine ⟨_, _, _, by row_cond sd, ?_⟩
  | refine ⟨_, _, _, by row_cond sd, by row_cond sd, ?_⟩
  | refine ⟨_, _, _, by row_cond sd, by row_cond sd, by row_cond sd, ?_⟩
  | refine ⟨_, _, _, _, by row_cond sd, ?_⟩
  | refine ⟨_, _, _, _, by row_cond sd, by row_cond sd, by row_cond sd, ?_⟩
  | refine ⟨_, _, _, _, by row_cond sd, by row_cond sd, by row_cond sd, by row_cond sd, ?_⟩
  | refine iteT ?_
  | refine iteF ?_)
local macro_rules | `(tactic| row_cond go) => `(tactic| repeat (row_cond st))
/-! ### isinstance -/
/-- data that is no class, no object -/
def Da.pl : Da → Bool
  | .ins _ _ => false
  | .cls _ => false
  | .ty _ => false
  | .st => false
  | _ => true
inductive Kn | non | bl | int | str | lst | tup | dct
inductive Ty5 | int | bool | str | list | tuple
def Kn.nm : Kn → String
  | .non => "NoneType"
  | .bl => "bool"
  | .int => "int"
  | .str => "str"
  | .lst => "list"
  | .tup => "tuple"
  | .dct => "dict"
def Ty5.nm : Ty5 → String
  | .int => "int"
  | .bool => "bool"
  | .str => "str"
  | .list => "list"
  | .tuple => "tuple"
def Kn.isA : Kn → Ty5 → Bool
  | .bl, .int => true
  | .bl, .bool => true
  | .int, .int => true
  | .str, .str => true
  | .lst, .list => true
  | .tup, .tuple => true
  | _, _ => false
def Da.kn : Da → Kn
  | .bl _ => .bl
  | .int _ => .int
  | .str _ => .str
  | .lst _ => .lst
  | .tup _ => .tup
  | .dct _ => .dct
  | _ => .non
def Da.isA (d : Da) (T : Ty5) : Bool := d.kn.isA T
theorem kit_all (k : Kn) (T : Ty5) : kitB k.nm T.nm = some (k.isA T) := by
  cases k <;> cases T <;> decide +kernel
theorem tyD_kn {K : PySem.W.Frag} {μ : MS} {d : Da} (hd : d.pl = true) : TyD K μ (.d d) (.type d.kn.nm) := by
  cases d with
  | non => exact .non
  | bl b => exact .bl _
  | int b => exact .int _
  | str b => exact .str _
  | lst b => exact .lst rfl
  | tup b => exact .tup rfl
  | dct b => exact .dct rfl
  | _ => cases hd
theorem isT_data {K : PySem.W.Frag} {d : Da} : PySem.W.kitAny K (.type d.kn.nm) [.type "list", .type "tuple"] = some (d.isA .list || d.isA .tuple) := by
  have k1 := kit_all d.kn .list
  have k2 := kit_all d.kn .tuple
  refine kitAny_cons (kit_ty k1) (fun e => ?_) (fun e => ?_)
  · refine kitAny_cons (kit_ty k2) (fun e2 => ?_) (fun e2 => ?_)
    · unfold Da.isA; rw [e, e2]; exact kitAny_nil
    · unfold Da.isA; rw [e, e2]; rfl
  · unfold Da.isA; rw [e]; rfl
section
variable {A : Ad} {K : PySem.W.Frag} {E : Ex → Prop} {Q : Da → Prop}
def Da.isInt (d : Da) : Bool := d.isA .int && !d.isA .bool
theorem x_is_integer {d : Da} (hd : d.pl = true) (h : Q (.bl d.isInt)) : m_is_integer A K [d] E Q := by
  unfold m_is_integer
  refine ⟨rfl, ?_⟩
  unfold b_is_integer
  row_cond go
  refine ⟨_, _, _, tyD_kn hd, rfl, kit_ty (kit_all _ .int), ?_⟩
  refine ⟨_, rfl, ?_⟩
  unfold Da.isInt at h
  show (if d.isA .int = true then _ else _)
  cases e : d.isA .int with
  | false => rw [e] at h; exact iteF ⟨_, .d _, h⟩
  | true =>
    rw [e] at h
    refine iteT ?_
    row_cond go
    refine ⟨_, _, _, tyD_kn hd, rfl, kit_ty (kit_all _ .bool), ?_⟩
    row_cond go
    exact ⟨_, .d _, h⟩
def Da.isBet (d : Da) (lo hi : Int) : Bool := match d with
  | .int i => decide (lo ≤ i) && decide (i ≤ hi)
  | _ => false
theorem x_is_between {d : Da} {lo hi : Int} (hd : d.pl = true) (h : Q (.bl (d.isBet lo hi))) : m_is_between A K [d, .int lo, .int hi] E Q := by
  unfold m_is_between
  refine ⟨rfl, ?_⟩
  unfold b_is_between
  row_cond go
  refine x_is_integer hd ?_
  refine ⟨_, rfl, ?_⟩
  cases d with
  | int i =>
    row_cond go
    by_cases c : lo ≤ i
    · rw [decide_eq_true c]
      row_cond go
      have e : (Da.int i).isBet lo hi = decide (i ≤ hi) := by simp [Da.isBet, c]
      rw [e] at h
      exact ⟨_, .d _, h⟩
    · rw [decide_eq_false c]
      row_cond go
      have e : (Da.int i).isBet lo hi = false := by simp [Da.isBet, c]
      rw [e] at h
      exact ⟨_, .d _, h⟩
  | _ => exact ⟨_, .d _, h⟩
def Da.isSq (d : Da) : Bool := d.isA .list || d.isA .tuple
theorem x_is_list {d : Da} (hd : d.pl = true) (h : Q (.bl d.isSq)) : m_is_list A K [d] E Q := by
  unfold m_is_list
  refine ⟨rfl, ?_⟩
  unfold b_is_list
  row_cond go
  exact ⟨_, _, _, tyD_kn hd, rfl, isT_data, (by decide), _, .d _, h⟩
/-- the items of a list or a tuple -/
def Da.items : Da → Option (List Da)
  | .lst xs => some xs
  | .tup xs => some xs
  | _ => none
theorem items_sq {d : Da} {xs : List Da} (h : d.items = some xs) : d.isSq = true ∧ d.pl = true ∧ ∀ μ, sqV μ (.d d) = some (xs.map .d) := by
  cases d with
  | lst ys => cases h; exact ⟨rfl, rfl, fun _ => rfl⟩
  | tup ys => cases h; exact ⟨rfl, rfl, fun _ => rfl⟩
  | _ => cases h
theorem items_len {d : Da} {xs : List Da} (h : d.items = some xs) (μ : MS) : lenD μ (.d d) = some xs.length ∧ okS (.d d) := by
  cases d with
  | lst ys => cases h; exact ⟨by simp [lenD, sqV], trivial⟩
  | tup ys => cases h; exact ⟨by simp [lenD, sqV], trivial⟩
  | _ => cases h
theorem okS_items {d : Da} {xs : List Da} (h : d.items = some xs) : okS (.d d) := (items_len h []).2
theorem len_items {d : Da} {xs : List Da} (h : d.items = some xs) (μ : MS) : lenD μ (.d d) = some xs.length := (items_len h μ).1
theorem x_is_row {d : Da} {xs : List Da} {n : Nat} (hd : d.items = some xs) (h : Q (.bl (decide (xs.length = n)))) : m_is_row A K [d, .int n] E Q := by
  obtain ⟨h1, h2, h3⟩ := items_sq hd
  unfold m_is_row
  refine ⟨rfl, ?_⟩
  unfold b_is_row
  row_cond go
  refine x_is_list h2 ?_
  rw [h1]
  row_cond go
  refine ⟨okS_items hd, _, len_items hd _, ?_⟩
  row_cond go
  refine ⟨_, .d _, ?_⟩
  have e : decide (V.int xs.length = V.int n) = decide (xs.length = n) := by
    rw [int_eq_dec]
    by_cases h : xs.length = n <;> simp [h] <;> omega
  show Q (.bl (decide (V.int xs.length = V.int n)))
  rw [e]
  exact h
/-! ### words -/
abbrev LET : Str := "abcdefghijklmnopqrstuvwxyz"
def lowS (s : Str) : Bool := (s.cps.toList.map fun k => decide (k ∈ LET.cps.toList)).all id
def Da.isWord : Da → Bool
  | .str s => decide (1 ≤ s.length) && decide (s.length ≤ 8) && lowS s
  | _ => false
/-- texts are not too long -/
def Da.short : Da → Prop
  | .str s => s.length ≤ 100000
  | _ => True
/-- [e for i in ..], the items inj x, the element f x -/
theorem lc_name {β : Type} (inj f : β → Dv) {gd : MS → Prop} {e : ES} {i : Nat} {α : Env'} {Q : List Dv → MS → Prop} {μ : MS} (hg : gd μ) :
    ∀ (l : List β) (acc : List Dv), (∀ x ∈ l, ∀ P : DK, P (f x) μ → e noX ((wpD α [i]).set i (some (inj x))) μ P) → l.length + acc.length < 1000000 → Q (acc ++ l.map f) μ → mLcL gd (nName i) mYes e [i] α Q (l.map inj) acc μ
  | [], acc, _, _, h => by
    rw [List.map_nil, List.append_nil] at h
    exact h
  | x :: r, acc, hd, hl, h => by
    show (if true = true then e noX ((wpD α [i]).set i (some (inj x))) μ fun y μ4 => acc.length < sizeLine ∧ gd μ4 ∧ mLcL gd (nName i) mYes e [i] α Q (r.map inj) (acc ++ [y]) μ4 else gd μ ∧ mLcL gd (nName i) mYes e [i] α Q (r.map inj) acc μ)
    refine iteT ?_
    refine hd x (by simp) _ ⟨Nat.lt_of_lt_of_le (m := 1000000) (by simp at hl; omega) (by decide), hg, ?_⟩
    refine lc_name inj f hg r (acc ++ [f x]) (fun y hy => hd y (by simp [hy])) (by simp at hl ⊢; omega) ?_
    rw [List.append_assoc]
    exact h
theorem bls_of {α : Type} (f : α → Bool) (l : List α) : bls (l.map fun x => .d (.bl (f x))) = some (l.map f) := by
  rw [← bls_map, List.map_map]; rfl
theorem x_is_word {d : Da} (hd : d.pl = true) (hs : d.short) (h : Q (.bl d.isWord)) : m_is_word A K [d] E Q := by
  unfold m_is_word
  refine ⟨rfl, ?_⟩
  unfold b_is_word
  row_cond go
  refine ⟨_, _, _, tyD_kn hd, rfl, kit_ty (kit_all _ .str), ?_⟩
  refine ⟨_, rfl, ?_⟩
  cases d with
  | str s =>
    have hs' : s.length ≤ 100000 := hs
    have hl : okS (.d (.str s)) := Nat.le_trans hs' (by decide)
    row_cond go
    by_cases c1 : 1 ≤ s.length
    · rw [decide_eq_true (by omega : (1 : Int) ≤ (s.length : Int))]
      row_cond go
      by_cases c2 : s.length ≤ 8
      · rw [decide_eq_true (by omega : (s.length : Int) ≤ 8)]
        row_cond go
        refine lc_name (fun k => .d (.str ⟨#[k]⟩)) (fun k => .d (.bl (decide (k ∈ LET.cps.toList)))) trivial s.cps.toList [] (fun k _ P hP => ?_) ?_ ?_
        · row_cond go
          exact hP
        · have : s.cps.toList.length = s.length := by unfold Str.length; simp
          rw [this]; show s.length + 0 < 1000000; omega
        · refine ⟨_, _, _, rfl, rfl, bls_of _ _, ?_⟩
          have e : (Da.str s).isWord = lowS s := by simp [Da.isWord, c1, c2]
          rw [e] at h
          exact ⟨_, .d _, h⟩
      · rw [decide_eq_false (by omega : ¬ (s.length : Int) ≤ 8)]
        row_cond go
        have e : (Da.str s).isWord = false := by simp [Da.isWord, c2]
        rw [e] at h
        exact ⟨_, .d _, h⟩
    · rw [decide_eq_false (by omega : ¬ (1 : Int) ≤ (s.length : Int))]
      row_cond go
      have e : (Da.str s).isWord = false := by simp [Da.isWord, c1]
      rw [e] at h
      exact ⟨_, .d _, h⟩
  | _ => exact ⟨_, .d _, h⟩
/-! ### no two alike -/
def trueD (ss : List Str) : List (Key × Dv) := ss.map fun s => (Sum.inr s, .d (.bl true))
theorem putD_new {ss : List Str} {s : Str} (h : s ∉ ss) : putD (trueD ss) (Sum.inr s) (.d (.bl true)) = trueD (ss ++ [s]) := by
  unfold putD
  rw [if_neg]
  · simp [trueD]
  · intro z
    obtain ⟨kv, h1, h2⟩ := List.any_eq_true.mp z
    obtain ⟨t, ht, rfl⟩ := List.mem_map.mp h1
    have : Sum.inr t = (Sum.inr s : Key) := of_decide_eq_true h2
    exact h (by rw [← Sum.inr.inj this]; exact ht)
theorem dc_unlike {gd : MS → Prop} {i : Nat} {α : Env'} {Q : List (Key × Dv) → MS → Prop} {μ : MS} (hg : gd μ) (hi : i < α.length) :
    ∀ (l acc : List Str), (acc ++ l).Nodup → (acc ++ l).length < 1000000 → Q (trueD (acc ++ l)) μ → mDcL gd (nName i) mYes (mVar i) (mC (.d (.bl true))) [i] α Q (l.map fun s => .d (.str s)) (trueD acc) μ
  | [], acc, _, _, h => by
    rw [List.append_nil] at h
    exact h
  | s :: r, acc, nd, hl, h => by
    have hs : s ∉ acc := fun z => (List.nodup_append.mp nd).2.2 s z s (by simp) rfl
    have e1 : ((wpD α [i]).set i (some (Dv.d (.str s))))[i]? = some (some (.d (.str s))) := by
      rw [List.getElem?_set_self]
      show i < (α.set i none).length
      rw [List.length_set]; exact hi
    rw [List.map_cons]
    unfold mDcL
    refine ⟨_, e1, _, rfl, ?_, hg, ?_⟩
    · refine Nat.lt_of_lt_of_le (m := 1000000) ?_ (by decide)
      simp [trueD] at hl ⊢; omega
    · rw [putD_new hs]
      refine dc_unlike hg hi r (acc ++ [s]) (by rw [List.append_assoc]; exact nd) (by rw [List.append_assoc]; exact hl) ?_
      rw [List.append_assoc]
      exact h
theorem x_are_unlike {d : Da} {ss : List Str} (hd : d.items = some (ss.map Da.str)) (nd : ss.Nodup) (hl : ss.length < 1000000) (h : Q (.bl true)) : m_are_unlike A K [d] E Q := by
  obtain ⟨h1, h2, h3⟩ := items_sq hd
  unfold m_are_unlike
  refine ⟨rfl, ?_⟩
  unfold b_are_unlike
  row_cond go
  have h4 : ∀ μ, sqV μ (.d d) = some (ss.map fun s => .d (.str s)) := fun μ => by
    rw [h3 μ, List.map_map]; rfl
  refine ⟨_, h4 _, h4 _, ?_⟩
  refine dc_unlike (h4 _) ?_ ss [] nd hl ?_
  · show 1 < 2; decide
  row_cond go
  refine ⟨okS_items hd, _, len_items hd _, ?_⟩
  row_cond go
  refine ⟨_, .d _, ?_⟩
  show Q (.bl (decide (V.int ((trueD ([] ++ ss)).length : Nat) = V.int ((ss.map Da.str).length : Nat))))
  rw [int_eq_dec, decide_eq_true (by simp [trueD])]
  exact h
end
end Mz
end
section
set_option Elab.async false
set_option linter.all false
set_option maxRecDepth 100000
set_option maxHeartbeats 1000000
namespace Mz
open PySem L2
local macro_rules | `(tactic| row_cond sd) => `(tactic| first | with_reducible assumption | with_reducible exact rfl | exact rfl | exact True.intro | assumption | decide)
local macro_rules | `(tactic| row_cond st) => `(tactic| first
  | refine And.intro (by row_cond sd) ?_
  | refine ⟨_, by row_cond sd, ?_⟩
  | refine ⟨_, _, by row_cond sd, ?_⟩
  | refine ⟨_, _, by row_cond sd, by row_cond sd, ?_⟩
  | refine ⟨_, _, _, by row_cond sd, ?_⟩
  | refine ⟨_, _, _, by row_cond sd, by row_cond sd, ?_⟩
  | refine ⟨_, _, _, by row_cond sd, by row_cond sd, by row_cond sd, ?_⟩
  | refine ⟨_, _, _, _, by row_cond sd, ?_⟩
  | refine ⟨_, _, _, _, by row_cond sd, by row_cond sd, by row_cond sd, ?_⟩
  | refine ⟨_, _, _, _, by row_cond sd, by row_cond sd, by row_cond sd, by row_cond sd, ?_⟩
  | refine iteT ?_
  | refine iteF ?_)
local macro_rules | `(tactic| row_cond go) => `(tactic| repeat (row_cond st))
/-! ### loops -/
theorem loop_by {gd : MS → Prop} {g : GS} {b : BS} {D : En} (P : Nat → Env' → MS → Prop) {items : List Dv}
    (hs : ∀ (i : Nat) (d : Dv) (α : Env') (μ : MS) (N : Env' → MS → Prop), items[i]? = some d → P i α μ → (∀ α' μ', P (i + 1) α' μ' → N α' μ') → g d D.er α μ fun α1 μ1 => b { D with nx := fun α2 μ2 => gd μ2 ∧ N α2 μ2, ct := fun α2 μ2 => gd μ2 ∧ N α2 μ2, bk := D.nx } α1 μ1)
    (he : ∀ α μ, P items.length α μ → D.nx α μ) {α : Env'} {μ : MS} (h0 : P 0 α μ) : mLoop gd g b D items α μ := by
  have key : ∀ (k i : Nat) (α : Env') (μ : MS), items.length - i = k → i ≤ items.length → P i α μ → mLoop gd g b D (items.drop i) α μ := by
    intro k
    induction k with
    | zero =>
      intro i α μ e hi p
      have : i = items.length := by omega
      subst this
      rw [List.drop_length]
      exact he α μ p
    | succ k ih =>
      intro i α μ e hi p
      have hlt : i < items.length := by omega
      rw [List.drop_eq_getElem_cons hlt]
      exact hs i _ α μ _ (List.getElem?_eq_getElem hlt) p fun α' μ' p' => ih (i + 1) α' μ' (by omega) hlt p'
  have := key _ 0 α μ rfl (Nat.zero_le _) h0
  rwa [List.drop_zero] at this
/-! ### fields and calls as data -/
structure Fld where
  nm : Str
  many : Bool
  need : Bool
def Fld.sort (f : Fld) : Str := if f.many then "many" else "one"
def Fld.da (f : Fld) : Da := .tup [.str f.nm, .str f.sort, .bl f.need]
def isFld (x : Da) (f : Fld) : Prop := x.items = some [.str f.nm, .str f.sort, .bl f.need]
structure FldsOk (fs : List Fld) : Prop where
  ne : 0 < fs.length
  le : fs.length ≤ 3
  wd : ∀ f ∈ fs, (Da.str f.nm).isWord = true
  nd : (fs.map Fld.nm).Nodup
theorem word_len {s : Str} (h : (Da.str s).isWord = true) : s.length ≤ 8 := by
  simp [Da.isWord] at h
  exact h.1.2
theorem word_short {s : Str} (h : (Da.str s).isWord = true) : (Da.str s).short := Nat.le_trans (word_len h) (by decide)
theorem Paired.getL {α β : Type} {R : α → β → Prop} : ∀ {l : List α} {m : List β} {i : Nat} {x : α}, Paired R l m → l[i]? = some x → ∃ y, m[i]? = some y ∧ R x y
  | _, _, _, _, .nil, e => by simp at e
  | _, _, 0, _, .cons h _, e => by simp at e; subst e; exact ⟨_, rfl, h⟩
  | _, _, i + 1, x, .cons _ t, e => by
    obtain ⟨y, h1, h2⟩ := Paired.getL (i := i) (x := x) t (by simpa using e)
    exact ⟨y, by simpa using h1, h2⟩
theorem take_snoc {α : Type} {l : List α} {i : Nat} {x : α} (h : l[i]? = some x) : l.take (i + 1) = l.take i ++ [x] := by
  rw [List.take_succ, h]; rfl
theorem inV_strs {s : Str} {ss : List Str} : inV (.str s) (ss.map V.str) = decide (s ∈ ss) := by
  unfold inV
  rw [List.any_map]
  by_cases h : s ∈ ss
  · rw [decide_eq_true h, List.any_eq_true]
    exact ⟨s, h, by simp [eqV]⟩
  · rw [decide_eq_false h, List.any_eq_false]
    intro x hx
    simp only [Function.comp, eqV]
    intro z
    exact h (by have : x = s := by simpa using z
                rw [← this]; exact hx)
theorem pVs_strs : ∀ ss : List Str, pVs (ss.map fun s => .d (.str s)) = some (ss.map V.str)
  | [] => rfl
  | s :: r => by simp [pVs, pV, pD, pVs_strs r]
theorem pVs_of {α : Type} (f : α → Str) {l : List α} : pVs ([] ++ l.map fun x => .d (.str (f x))) = some ((l.map f).map V.str) := by
  rw [← pVs_strs (l.map f), List.map_map]; rfl
theorem not_earlier {α : Type} {f : α → Str} {l : List α} {i : Nat} {x : α} (nd : (l.map f).Nodup) (h : l[i]? = some x) : ¬ f x ∈ (l.take i).map f := by
  intro hm
  have e1 : l.map f = (l.take i).map f ++ (l.drop i).map f := by rw [← List.map_append, List.take_append_drop]
  rw [e1] at nd
  have h2 : f x ∈ (l.drop i).map f := by
    refine List.mem_map.mpr ⟨x, ?_, rfl⟩
    refine List.mem_of_getElem? (i := 0) ?_
    rw [List.getElem?_drop]
    simpa using h
  exact (List.nodup_append.mp nd).2.2 _ hm _ h2 rfl
theorem sqV_last {μ : MS} {ys : List Dv} : sqV (μ ++ [.lst ys]) (.ob μ.length) = some ys := by simp [sqV, lsV]
theorem lsV_last {μ : MS} {ys : List Dv} : lsV (μ ++ [.lst ys]) (.ob μ.length) = some ys := by simp [lsV]
theorem get_last {μ : MS} {o : MO} : (μ ++ [o])[μ.length]? = some o := by simp
/-- an item of a list or tuple -/
theorem ix_items {d : Da} {xs : List Da} {x : Da} {j : Nat} {i : Int} (hd : d.items = some xs) (hi : i = (j : Nat)) (h : xs[j]? = some x) (μ : MS) : ixD μ (.d d) (.d (.int i)) = some (.d x) := by
  subst hi
  have e : atI (xs.map Dv.d) (j : Int) = some (.d x) := atI_nat (by rw [List.getElem?_map, h]; rfl)
  cases d with
  | lst ys => cases hd; exact e
  | tup ys => cases hd; exact e
  | _ => cases hd
theorem en_get {ds : List Dv} {i : Nat} {d : Dv} (h : (enumD ds)[i]? = some d) : ∃ x, ds[i]? = some x ∧ d = mkTup [.d (.int (i : Nat)), x] := by
  have hl : i < ds.length := by rw [← enumD_len]; exact (List.getElem?_eq_some_iff.mp h).1
  refine ⟨ds[i], List.getElem?_eq_getElem hl, ?_⟩
  rw [enumD_get (List.getElem?_eq_getElem hl)] at h
  exact (Option.some.inj h).symm
theorem map_get {α : Type} {f : α → Dv} {l : List α} {i : Nat} {d : Dv} (h : (l.map f)[i]? = some d) : ∃ x, l[i]? = some x ∧ d = f x := by
  rw [List.getElem?_map] at h
  cases q : l[i]? with
  | none => rw [q] at h; cases h
  | some x => rw [q] at h; exact ⟨x, rfl, (Option.some.inj h).symm⟩
section
variable {A : Ad} {K : PySem.W.Frag} {E : Ex → Prop} {Q : Da → Prop}
theorem x_checked_fields {d : Da} {xs : List Da} {fs : List Fld} (hd : d.items = some xs) (hp : Paired isFld xs fs) (ok : FldsOk fs) (h : Q (.lst (fs.map Fld.da))) : m_checked_fields A K [d] E Q := by
  obtain ⟨h1, h2, h3⟩ := items_sq hd
  have hlen := Paired.length hp
  have hne := ok.ne
  have hle := ok.le
  unfold m_checked_fields
  refine ⟨rfl, ?_⟩
  unfold b_checked_fields
  row_cond go
  refine x_is_list h2 ?_
  rw [h1]
  row_cond go
  refine ⟨okS_items hd, _, len_items hd _, ?_⟩
  row_cond go
  rw [show decide (V.int (xs.length : Nat) = V.int 0) = false by rw [int_eq_dec]; exact decide_eq_false (by omega)]
  row_cond go
  refine ⟨_, h3 _, h3 _, ?_⟩
  refine loop_by (fun i α μ => ∃ (s2 s3 s4 : Option Dv) (g : MS), α = [some (.d d), some (.ob 0), s2, s3, s4, none] ∧ μ = .lst ((fs.take i).map fun f => .d f.da) :: g) ?_ ?_ ⟨none, none, none, [], rfl, rfl⟩
  · rintro i y α μ N hy ⟨s2, s3, s4, g, rfl, rfl⟩ hN
    obtain ⟨z, hz, rfl⟩ := en_get hy
    obtain ⟨x, hx, rfl⟩ := map_get hz
    obtain ⟨f, hf, hxf⟩ := Mz.Paired.getL hp hx
    have hfm := List.mem_of_getElem? hf
    have hi3 : i < 3 := by
      have := (List.getElem?_eq_some_iff.mp hf).1
      omega
    unfold l_checked_fields_1
    row_cond go
    refine x_is_row hxf ?_
    row_cond go
    refine ⟨okS_items hxf, _, ix_items hxf rfl rfl _, ?_⟩
    row_cond go
    refine x_is_word rfl (word_short (ok.wd f hfm)) ?_
    rw [ok.wd f hfm]
    row_cond go
    refine ⟨okS_items hxf, _, ix_items hxf (j := 2) rfl rfl _, ?_⟩
    row_cond go
    refine ⟨_, _, _, tyD_kn (d := .bl f.need) rfl, rfl, kit_ty (kit_all .bl .bool), ?_⟩
    row_cond go
    rw [show decide (V.int (i : Nat) = V.int 3) = false by rw [int_eq_dec]; exact decide_eq_false (by omega)]
    row_cond go
    refine ⟨okS_items hxf, _, ix_items hxf (j := 1) rfl rfl _, ?_⟩
    row_cond go
    rw [show inV (V.str f.sort) [V.str "one", V.str "many"] = true by unfold Fld.sort; cases f.many <;> decide]
    row_cond go
    refine ⟨okS_items hxf, _, ix_items hxf (j := 0) rfl rfl _, ?_⟩
    row_cond go
    refine lc_name (fun f : Fld => .d f.da) (fun f : Fld => .d (.str f.nm)) (by exact rfl) (fs.take i) [] (fun k _ P hP => ?_) ?_ ?_
    · row_cond go
      exact hP
    · simp; omega
    · refine ⟨_, _, _, rfl, sqV_last, pVs_of fun f : Fld => f.nm, ?_⟩
      refine ⟨_, rfl, ?_⟩
      rw [show inV (V.str f.nm) (((fs.take i).map Fld.nm).map V.str) = false by rw [inV_strs]; exact decide_eq_false (not_earlier ok.nd hf)]
      row_cond go
      refine ⟨_, _, rfl, (items_sq hxf).2.2 _, ?_⟩
      rw [mkTup_map]
      refine ⟨_, _, _, rfl, rfl, rfl, ?_, ?_⟩
      · rw [List.length_map, List.length_take]; exact Nat.lt_of_le_of_lt (Nat.min_le_left _ _) (Nat.lt_of_lt_of_le hi3 (by decide))
      exact ⟨h3 _, hN _ _ ⟨_, _, _, _, rfl, by rw [take_snoc hf, List.map_append]; rfl⟩⟩
  · rintro α μ ⟨s2, s3, s4, g, rfl, rfl⟩
    unfold k_checked_fields_2
    refine ⟨_, rfl, ?_⟩
    refine ⟨_, .lst rfl ?_, h⟩
    have e : (iwEn (.d d) (xs.map .d)).items.length = fs.length := by
      show (enumD _).length = _
      rw [enumD_len, List.length_map, hlen]
    rw [e, List.take_length]
    have := RzAll.map (.lst (fs.map fun f => .d f.da) :: g) (fs.map Fld.da)
    rwa [List.map_map] at this
end
end Mz
end
section
set_option Elab.async false
set_option linter.all false
set_option maxRecDepth 100000
set_option maxHeartbeats 1000000
namespace Mz
open PySem L2
local macro_rules | `(tactic| row_cond sd) => `(tactic| first | with_reducible assumption | with_reducible exact rfl | exact rfl | exact True.intro | assumption | decide)
local macro_rules | `(tactic| row_cond st) => `(tactic| first
  | refine And.intro (by row_cond sd) ?_
  | refine ⟨_, by row_cond sd, ?_⟩
  | refine ⟨_, _, by row_cond sd, ?_⟩
  | refine ⟨_, _, by row_cond sd, by row_cond sd, ?_⟩
  | refine ⟨_, _, _, by row_cond sd, ?_⟩
  | refine ⟨_, _, _, by row_cond sd, by row_cond sd, ?_⟩
  | refine ⟨_, _, _, by row_cond sd, by row_cond sd, by row_cond sd, ?_⟩
  | refine ⟨_, _, _, _, by row_cond sd, ?_⟩
  | refine ⟨_, _, _, _, by row_cond sd, by row_cond sd, by row_cond sd, ?_⟩
  | refine ⟨_, _, _, _, by row_cond sd, by row_cond sd, by row_cond sd, by row_cond sd, ?_⟩
  | refine iteT ?_
  | refine iteF ?_)
local macro_rules | `(tactic| row_cond go) => `(tactic| repeat (row_cond st))
/-! ### comprehensions -/
theorem lc_by {gd : MS → Prop} {g : GS} {t : TS'} {e : ES} {vs : List Nat} {α : Env'} {Q : List Dv → MS → Prop} (P : Nat → List Dv → MS → Prop) {items : List Dv}
    (hs : ∀ (i : Nat) (d : Dv) (acc : List Dv) (μ : MS) (N : List Dv → MS → Prop), items[i]? = some d → P i acc μ → (∀ acc' μ', P (i + 1) acc' μ' → N acc' μ') → g d noX (wpD α vs) μ fun α2 μ2 => t noX α2 μ2 fun k μ3 => if k = true then e noX α2 μ3 fun y μ4 => acc.length < sizeLine ∧ gd μ4 ∧ N (acc ++ [y]) μ4 else gd μ3 ∧ N acc μ3)
    (he : ∀ acc μ, P items.length acc μ → Q acc μ) {μ : MS} (h0 : P 0 [] μ) : mLcL gd g t e vs α Q items [] μ := by
  have key : ∀ (k i : Nat) (acc : List Dv) (μ : MS), items.length - i = k → i ≤ items.length → P i acc μ → mLcL gd g t e vs α Q (items.drop i) acc μ := by
    intro k
    induction k with
    | zero =>
      intro i acc μ e hi p
      have : i = items.length := by omega
      subst this
      rw [List.drop_length]
      exact he acc μ p
    | succ k ih =>
      intro i acc μ e hi p
      have hlt : i < items.length := by omega
      rw [List.drop_eq_getElem_cons hlt]
      exact hs i _ acc μ _ (List.getElem?_eq_getElem hlt) p fun acc' μ' p' => ih (i + 1) acc' μ' (by omega) hlt p'
  have := key _ 0 [] μ rfl (Nat.zero_le _) h0
  rwa [List.drop_zero] at this
theorem dc_by {gd : MS → Prop} {g : GS} {t : TS'} {ek ev : ES} {vs : List Nat} {α : Env'} {Q : List (Key × Dv) → MS → Prop} (P : Nat → List (Key × Dv) → MS → Prop) {items : List Dv}
    (hs : ∀ (i : Nat) (d : Dv) (acc : List (Key × Dv)) (μ : MS) (N : List (Key × Dv) → MS → Prop), items[i]? = some d → P i acc μ → (∀ acc' μ', P (i + 1) acc' μ' → N acc' μ') → (∀ acc' μ', mDcL gd g t ek ev vs α Q (items.drop (i + 1)) acc' μ' = N acc' μ') → mDcL gd g t ek ev vs α Q (d :: items.drop (i + 1)) acc μ)
    (he : ∀ acc μ, P items.length acc μ → Q acc μ) {μ : MS} (h0 : P 0 [] μ) : mDcL gd g t ek ev vs α Q items [] μ := by
  have key : ∀ (k i : Nat) (acc : List (Key × Dv)) (μ : MS), items.length - i = k → i ≤ items.length → P i acc μ → mDcL gd g t ek ev vs α Q (items.drop i) acc μ := by
    intro k
    induction k with
    | zero =>
      intro i acc μ e hi p
      have : i = items.length := by omega
      subst this
      rw [List.drop_length]
      exact he acc μ p
    | succ k ih =>
      intro i acc μ e hi p
      have hlt : i < items.length := by omega
      rw [List.drop_eq_getElem_cons hlt]
      exact hs i _ acc μ _ (List.getElem?_eq_getElem hlt) p (fun acc' μ' p' => ih (i + 1) acc' μ' (by omega) hlt p') fun _ _ => rfl
  have := key _ 0 [] μ rfl (Nat.zero_le _) h0
  rwa [List.drop_zero] at this
/-! ### the sorts of fields -/
def sortsD (fs : List Fld) : List (Key × Da) := fs.map fun f => (Sum.inr f.nm, .str f.sort)
def sortOf (fs : List Fld) (s : Str) : Option Str := (fs.find? fun f => decide (f.nm = s)).map Fld.sort
theorem val_sorts (s : Str) : ∀ fs : List Fld, valD ((sortsD fs).map eD) (Sum.inr s) = (sortOf fs s).map fun t => .d (.str t)
  | [] => rfl
  | f :: r => by
    have ih := val_sorts s r
    unfold valD sortOf at ih ⊢
    by_cases h : f.nm = s
    · simp [sortsD, h, eD]
    · have h' : ¬ (Sum.inr f.nm = (Sum.inr s : Key)) := fun z => h (Sum.inr.inj z)
      simp only [sortsD, List.map_cons, eD, List.find?_cons, h, h', decide_false] at ih ⊢
      exact ih
theorem val_sort1 {fs : List Fld} {s t : Str} (h : sortOf fs s = some t) : valD ((sortsD fs).map eD) (Sum.inr s) = some (.d (.str t)) := by rw [val_sorts, h]; rfl
abbrev deedsOf (s : Str) : List Str := if s = "many" then ["add", "strike", "fresh", "clear"] else ["set", "clear"]
def DeedOk (fs : List Fld) (p : Str × Str) : Prop := ∃ t, sortOf fs p.2 = some t ∧ p.1 ∈ deedsOf t
theorem sort_two {fs : List Fld} {s t : Str} (h : sortOf fs s = some t) : t = "one" ∨ t = "many" := by
  unfold sortOf at h
  cases e : fs.find? fun f => decide (f.nm = s) with
  | none => rw [e] at h; cases h
  | some f =>
    rw [e] at h
    cases h
    unfold Fld.sort
    cases f.many
    · exact .inl rfl
    · exact .inr rfl
theorem all_true {α : Type} (l : List α) : (l.map fun _ => true).all id = true := by simp
def isPair (x : Da) (p : Str × Str) : Prop := x.items = some [.str p.1, .str p.2]
theorem inV_lit {s : Str} {ss : List Str} (h : s ∈ ss) : inV (.str s) (ss.map V.str) = true := by rw [inV_strs]; exact decide_eq_true h
theorem oIn_b {s : Str} {ss : List Str} (b : Bool) (hb : decide (s ∈ ss) = b) {neg : Bool} {d2 : Dv} {μ : MS} (hd : sqV μ d2 = some (ss.map fun s => .d (.str s))) {Q : DK} (h : Q (.d (.bl (neg != b))) μ) : oIn neg (.d (.str s)) d2 μ Q := by
  refine ⟨_, _, _, rfl, hd, pVs_strs _, ?_⟩
  rw [inV_strs, hb]
  cases neg
  · cases b <;> exact h
  · cases b <;> exact h
section
variable {A : Ad} {K : PySem.W.Frag} {E : Ex → Prop} {Q : Da → Prop}
theorem x_is_deed {d : Da} {fs : List Fld} {p : Str × Str} (hi : isPair d p) (hk : DeedOk fs p) (h : Q (.bl true)) : m_is_deed A K [d, .dct (sortsD fs)] E Q := by
  obtain ⟨t, ht, hm⟩ := hk
  unfold m_is_deed
  refine ⟨rfl, ?_⟩
  unfold b_is_deed
  row_cond go
  refine x_is_row hi ?_
  row_cond go
  refine ⟨okS_items hi, _, ix_items hi (j := 1) rfl rfl _, ?_⟩
  row_cond go
  refine ⟨_, _, _, tyD_kn (d := .str p.2) rfl, rfl, kit_ty (kit_all .str .str), ?_⟩
  row_cond go
  refine ⟨okS_items hi, _, ix_items hi (j := 1) rfl rfl _, ?_⟩
  row_cond go
  rw [val_sort1 ht]
  row_cond go
  refine ⟨okS_items hi, _, ix_items hi (j := 0) rfl rfl _, ?_⟩
  row_cond go
  refine ⟨_, _, _, tyD_kn (d := .str p.1) rfl, rfl, kit_ty (kit_all .str .str), ?_⟩
  row_cond go
  refine ⟨okS_items hi, _, ix_items hi (j := 0) rfl rfl _, ?_⟩
  row_cond go
  refine ⟨okS_items hi, _, ix_items hi (j := 1) rfl rfl _, ?_⟩
  refine ⟨_, _, _, rfl, rfl, val_sort1 ht, ?_⟩
  refine ⟨rfl, ?_⟩
  rcases sort_two ht with rfl | rfl
  · refine .inl ⟨rfl, ?_⟩
    refine oIn_b (ss := ["set", "clear"]) true (decide_eq_true hm) rfl ?_
    exact ⟨_, .d _, h⟩
  · refine .inr ⟨rfl, ?_⟩
    refine oIn_b (ss := ["add", "strike", "fresh", "clear"]) true (decide_eq_true hm) rfl ?_
    exact ⟨_, .d _, h⟩
theorem x_is_same {d : Da} {fs : List Fld} {ss : List Str} {hand : Str} (hd : d.items = some (ss.map Da.str)) (hm : ∀ s ∈ ss, sortOf fs s = some "many") (nd : ss.Nodup) (hl : ss.length ≤ 1000) (hs : hand = "self" → ss = []) (h : Q (.bl true)) : m_is_same A K [d, .str hand, .dct (sortsD fs)] E Q := by
  obtain ⟨h1, h2, h3⟩ := items_sq hd
  unfold m_is_same
  refine ⟨rfl, ?_⟩
  unfold b_is_same
  row_cond go
  refine ⟨_, h3 _, h3 _, ?_⟩
  rw [List.map_map]
  refine lc_name (fun s : Str => .d (.str s)) (fun _ => .d (.bl true)) (by rw [List.map_map] at h3; exact h3 _) ss [] (fun s hs P hP => ?_) (by simp; omega) ?_
  · row_cond go
    refine ⟨_, _, _, tyD_kn (d := .str s) rfl, rfl, kit_ty (kit_all .str .str), ?_⟩
    row_cond go
    rw [val_sort1 (hm s hs)]
    row_cond go
    exact hP
  · refine ⟨_, _, _, rfl, lsV_last, bls_of _ _, ?_⟩
    refine ⟨_, rfl, ?_⟩
    rw [all_true]
    row_cond go
    refine x_are_unlike hd nd (by omega) ?_
    row_cond go
    by_cases c : hand = "self"
    · rw [show decide (V.str hand = V.str "self") = true from decide_eq_true (by rw [c])]
      row_cond go
      refine ⟨okS_items hd, _, len_items hd _, ?_⟩
      row_cond go
      rw [hs c]
      exact ⟨_, .d _, h⟩
    · rw [show decide (V.str hand = V.str "self") = false from decide_eq_false (by intro z; cases z; exact c rfl)]
      row_cond go
      exact ⟨_, .d _, h⟩
structure Cal where
  nm : Str
  hand : Str
  moves : List Int
  deeds : List (Str × Str)
  same : List Str
def isCal (d : Da) (c : Cal) : Prop := ∃ mv dd ds sm, d.items = some [.str c.nm, .str c.hand, mv, dd, sm] ∧ mv.items = some (c.moves.map Da.int) ∧ dd.items = some ds ∧ Paired isPair ds c.deeds ∧ sm.items = some (c.same.map Da.str)
abbrev addish : List Str := ["add", "strike"]
structure CalOk (fs : List Fld) (md : Int) (c : Cal) : Prop where
  wd : (Da.str c.nm).isWord = true
  hd : c.hand ∈ (["self", "new", "last"] : List Str)
  ml : (c.moves.length : Int) = md
  m4 : md ≤ 4
  mv : ∀ m ∈ c.moves, -1 ≤ m ∧ m ≤ md - 1
  dl : c.deeds.length ≤ 4
  dd : ∀ p ∈ c.deeds, DeedOk fs p
  un : ((c.deeds.filter fun p => decide (p.1 ∈ addish)).map (·.2)).Nodup
  sm : ∀ s ∈ c.same, sortOf fs s = some "many"
  sn : c.same.Nodup
  sl : c.same.length ≤ 3
  ss : c.hand = "self" → c.same = []
theorem filt_snoc {α : Type} {p : α → Bool} {l : List α} {n : Nat} {x : α} (h : l[n]? = some x) : (l.take (n + 1)).filter p = (l.take n).filter p ++ (if p x then [x] else []) := by
  rw [take_snoc h, List.filter_append]
  cases e : p x <;> simp [e]
theorem slM_items {d : Da} {xs : List Da} (hd : d.items = some xs) {lo hi : Option Int} {μ : MS} {Q : DK} (h : ∀ v μ', sqV μ' v = some (cutD (xs.map .d) lo hi) → Q v μ') : oSlM (.d d) lo hi μ Q := by
  have e : cutD (xs.map Dv.d) lo hi = (((xs.drop (HT.sIx xs.length 0 lo)).take (HT.sIx xs.length xs.length hi - HT.sIx xs.length 0 lo)).map .d) := by unfold cutD; simp
  cases d with
  | lst ys =>
    cases hd
    refine .inl ⟨_, rfl, h _ _ ?_⟩
    rw [sqV_last]
  | tup ys =>
    cases hd
    refine .inr ⟨_, rfl, h _ _ ?_⟩
    rw [e, mkTup_map]
    rfl
  | _ => cases hd
theorem fz1_lst {μ : MS} {n : Nat} {xs : List Da} (h : μ[n]? = some (.lst (xs.map .d))) : fz1 μ (.ob n) = some (μ.set n (.frz (.lst xs)), .lst xs) := by
  unfold fz1
  simp only [h, pus_map, Option.map_some]
theorem fzs_cons {μ μ1 μ2 : MS} {d : Dv} {x : Da} {r : List Dv} {xs : List Da} (h : fz1 μ d = some (μ1, x)) (h2 : fzs μ1 r = some (μ2, xs)) : fzs μ (d :: r) = some (μ2, x :: xs) := by
  unfold fzs
  rw [h]
  simp only [h2, Option.map_some]
theorem fz1_last {μ : MS} {xs : List Da} : fz1 (μ ++ [.lst (xs.map .d)]) (.ob μ.length) = some (μ ++ [.frz (.lst xs)], .lst xs) := by
  rw [fz1_lst get_last]; simp
theorem Paired.mem {α β : Type} {R : α → β → Prop} {l : List α} {m : List β} {x : α} (h : Paired R l m) (hx : x ∈ l) : ∃ y, y ∈ m ∧ R x y := by
  obtain ⟨i, hi⟩ := List.getElem?_of_mem hx
  obtain ⟨y, h1, h2⟩ := Paired.getL h hi
  exact ⟨y, List.mem_of_getElem? h1, h2⟩
theorem x_reason_against {d : Da} {fs : List Fld} {md : Int} {ns : List Str} {c : Cal} (hc : isCal d c) (hn : ¬ c.nm ∈ ns) (ok : CalOk fs md c) (h : Q .non) : m_reason_against A K [d, .dct (sortsD fs), .int md, .lst (ns.map Da.str)] E Q := by
  obtain ⟨mv, dd, ds, sm, hi, hmv, hdd, hds, hsm⟩ := hc
  obtain ⟨h1, h2, h3⟩ := items_sq hi
  unfold m_reason_against
  refine ⟨rfl, ?_⟩
  unfold b_reason_against
  row_cond go
  refine x_is_row hi ?_
  row_cond go
  refine slM_items hi fun v μ' hv => ?_
  row_cond go
  refine ⟨_, _, _, tyD_kn (d := .str c.nm) rfl, rfl, kit_ty (kit_all .str .str), ?_⟩
  row_cond go
  refine ⟨_, _, _, tyD_kn (d := .str c.hand) rfl, rfl, kit_ty (kit_all .str .str), ?_⟩
  row_cond go
  refine ⟨_, _, _, rfl, lsV_last, rfl, ?_⟩
  row_cond go
  refine slM_items hi fun v μ' hv => ?_
  row_cond go
  refine x_is_list (items_sq hmv).2.1 ?_
  rw [(items_sq hmv).1]
  row_cond go
  refine x_is_list (items_sq hdd).2.1 ?_
  rw [(items_sq hdd).1]
  row_cond go
  refine x_is_list (items_sq hsm).2.1 ?_
  rw [(items_sq hsm).1]
  row_cond go
  refine ⟨_, _, _, rfl, lsV_last, rfl, ?_⟩
  row_cond go
  refine ⟨_, h3 _, rfl, ?_⟩
  row_cond go
  refine x_is_word rfl (word_short ok.wd) ?_
  rw [ok.wd]
  row_cond go
  refine oIn_b (ss := ns) false (decide_eq_false hn) (by show some _ = _; rw [List.map_map]; rfl) ?_
  row_cond go
  have eh : inV (V.str c.hand) [V.str "self", V.str "new", V.str "last"] = true := inV_lit (ss := ["self", "new", "last"]) ok.hd
  rw [eh]
  row_cond go
  refine ⟨okS_items hmv, _, len_items hmv _, ?_⟩
  row_cond go
  rw [show decide (V.int ((c.moves.map Da.int).length : Nat) = V.int md) = true by rw [int_eq_dec]; exact decide_eq_true (by rw [List.length_map]; exact ok.ml)]
  row_cond go
  have hqm : ∀ μ, sqV μ (.d mv) = some (c.moves.map fun m => .d (.int m)) := fun μ => by rw [(items_sq hmv).2.2 μ, List.map_map]; rfl
  refine ⟨_, hqm _, hqm _, ?_⟩
  have hml := ok.ml
  have hm4 := ok.m4
  refine lc_name (fun m : Int => .d (.int m)) (fun _ => .d (.bl true)) (hqm _) c.moves [] (fun m hm P hP => ?_) (by simp; omega) ?_
  · row_cond go
    have hm2 := ok.mv m hm
    refine x_is_between rfl ?_
    have e : (Da.int m).isBet (-1) (md - 1) = true := by simp [Da.isBet]; omega
    rw [e]
    exact hP
  refine ⟨_, _, _, rfl, lsV_last, bls_of _ _, ?_⟩
  refine ⟨_, rfl, ?_⟩
  rw [all_true]
  row_cond go
  refine ⟨okS_items hdd, _, len_items hdd _, ?_⟩
  have hdl := ok.dl
  have hlds := Paired.length hds
  row_cond go
  rw [show decide ((4 : Int) < (ds.length : Nat)) = false from decide_eq_false (by omega)]
  row_cond go
  have hqd := (items_sq hdd).2.2
  refine ⟨_, hqd _, hqd _, ?_⟩
  refine lc_name Dv.d (fun _ => .d (.bl true)) (hqd _) ds [] (fun x hx P hP => ?_) (by simp; omega) ?_
  · obtain ⟨p, hp1, hp2⟩ := Paired.mem hds hx
    row_cond go
    exact x_is_deed hp2 (ok.dd p hp1) hP
  refine ⟨_, _, _, rfl, lsV_last, bls_of _ _, ?_⟩
  refine ⟨_, rfl, ?_⟩
  rw [all_true]
  row_cond go
  refine ⟨_, hqd _, hqd _, ?_⟩
  generalize _ ++ [MO.lst _] = μ0
  refine lc_by (fun i acc μ => μ = μ0 ∧ acc = (((c.deeds.take i).filter fun p => decide (p.1 ∈ addish)).map fun p => .d (.str p.2))) ?_ ?_ ⟨rfl, rfl⟩
  · rintro i y acc μ N hy ⟨rfl, rfl⟩ hN
    obtain ⟨x, hx, rfl⟩ := map_get hy
    obtain ⟨p, hp1, hp2⟩ := Paired.getL hds hx
    row_cond go
    refine ⟨okS_items hp2, _, ix_items hp2 (j := 0) rfl rfl _, ?_⟩
    row_cond go
    rw [show inV (V.str p.1) [V.str "add", V.str "strike"] = decide (p.1 ∈ addish) from inV_strs (ss := addish)]
    have hlen : (((c.deeds.take i).filter fun p => decide (p.1 ∈ addish)).map fun p => Dv.d (.str p.2)).length < sizeLine := by
      refine Nat.lt_of_le_of_lt (m := 4) ?_ (by decide)
      rw [List.length_map]
      refine Nat.le_trans (List.length_filter_le _ _) ?_
      rw [List.length_take]
      exact Nat.le_trans (Nat.min_le_right _ _) hdl
    by_cases cc : p.1 ∈ addish
    · rw [decide_eq_true cc]
      row_cond go
      refine ⟨okS_items hp2, _, ix_items hp2 (j := 1) rfl rfl _, ?_⟩
      refine ⟨hlen, hqd _, hN _ _ ⟨rfl, ?_⟩⟩
      rw [filt_snoc hp1, if_pos (decide_eq_true cc), List.map_append]
      rfl
    · rw [decide_eq_false cc]
      row_cond go
      refine ⟨hqd _, hN _ _ ⟨rfl, ?_⟩⟩
      rw [filt_snoc hp1, if_neg (by simp [cc]), List.append_nil]
  · rintro acc μ ⟨rfl, rfl⟩
    have e : (iwSq (.d dd) (ds.map .d)).items.length = c.deeds.length := by
      show (ds.map Dv.d).length = _
      rw [List.length_map, hlds]
    rw [e, List.take_length]
    refine ⟨_, _, fzs_cons (xs := []) (x := .lst ((((c.deeds.filter fun p => decide (p.1 ∈ addish)).map (·.2))).map Da.str)) (by rw [← fz1_last, List.map_map, List.map_map]; rfl) rfl, ?_⟩
    refine x_are_unlike rfl ok.un ?_ ?_
    · have := List.length_filter_le (fun p : Str × Str => decide (p.1 ∈ addish)) c.deeds
      rw [List.length_map]
      omega
    row_cond go
    refine x_is_same hsm ok.sm ok.sn (Nat.le_trans ok.sl (by decide)) ok.ss ?_
    row_cond go
    exact ⟨_, .d _, h⟩
end
end Mz
end
section
set_option Elab.async false
set_option linter.all false
set_option maxRecDepth 100000
set_option maxHeartbeats 1000000
namespace Mz
open PySem L2
local macro_rules | `(tactic| row_cond sd) => `(tactic| first | with_reducible assumption | with_reducible exact rfl | exact rfl | exact True.intro | assumption | decide)
local macro_rules | `(tactic| row_cond st) => `(tactic| first
  | refine And.intro (by row_cond sd) ?_
  | refine ⟨_, by row_cond sd, ?_⟩
  | refine ⟨_, _, by row_cond sd, ?_⟩
  | refine ⟨_, _, by row_cond sd, by row_cond sd, ?_⟩
  | refine ⟨_, _, _, by row_cond sd, ?_⟩
  | refine ⟨_, _, _, by row_cond sd, by row_cond sd, ?_⟩
  | refine ⟨_, _, _, by row_cond sd, by row_cond sd, by row_cond sd, ?_⟩
  | refine ⟨_, _, _, _, by row_cond sd, ?_⟩
  | refine ⟨_, _, _, _, by row_cond sd, by row_cond sd, by row_cond sd, ?_⟩
  | refine ⟨_, _, _, _, by row_cond sd, by row_cond sd, by row_cond sd, by row_cond sd, ?_⟩
  | refine iteT ?_
  | refine iteF ?_)
local macro_rules | `(tactic| row_cond go) => `(tactic| repeat (row_cond st))
def pairDa (p : Str × Str) : Da := .tup [.str p.1, .str p.2]
def Cal.row (c : Cal) : Da := .tup [.str c.nm, .str c.hand, .tup (c.moves.map Da.int), .tup (c.deeds.map pairDa), .tup (c.same.map Da.str)]
section
variable {A : Ad} {K : PySem.W.Frag} {E : Ex → Prop} {Q : Da → Prop}
theorem x_checked_calls {d : Da} {xs : List Da} {cs : List Cal} {fs : List Fld} {md : Int} (hd : d.items = some xs) (hp : Paired isCal xs cs) (l0 : 0 < cs.length) (l6 : cs.length ≤ 6) (ok : ∀ c ∈ cs, CalOk fs md c) (nd : (cs.map Cal.nm).Nodup) (h : Q (.lst (cs.map Cal.row))) : m_checked_calls A K [d, .dct (sortsD fs), .int md] E Q := by
  obtain ⟨h1, h2, h3⟩ := items_sq hd
  have hlen := Paired.length hp
  unfold m_checked_calls
  refine ⟨rfl, ?_⟩
  unfold b_checked_calls
  row_cond go
  refine x_is_list h2 ?_
  rw [h1]
  row_cond go
  refine ⟨okS_items hd, _, len_items hd _, ?_⟩
  row_cond go
  rw [show decide (V.int (xs.length : Nat) = V.int 0) = false by rw [int_eq_dec]; exact decide_eq_false (by omega)]
  row_cond go
  refine ⟨_, h3 _, h3 _, ?_⟩
  refine loop_by (fun i α μ => ∃ (s4 s5 s6 s8 s9 s10 s11 s12 : Option Dv) (g : MS), α = [some (.d d), some (.d (.dct (sortsD fs))), some (.d (.int md)), some (.ob 0), s4, s5, s6, none, s8, s9, s10, s11, s12, none] ∧ μ = .lst ((cs.take i).map fun c => .d c.row) :: g) ?_ ?_ ⟨none, none, none, none, none, none, none, none, [], rfl, rfl⟩
  · rintro i y α μ N hy ⟨s4, s5, s6, s8, s9, s10, s11, s12, g, rfl, rfl⟩ hN
    obtain ⟨z, hz, rfl⟩ := en_get hy
    obtain ⟨x, hx, rfl⟩ := map_get hz
    obtain ⟨c, hc, hxc⟩ := Mz.Paired.getL hp hx
    have hcm := List.mem_of_getElem? hc
    have okc := ok c hcm
    have hi6 : i < 6 := by
      have := (List.getElem?_eq_some_iff.mp hc).1
      omega
    unfold l_checked_calls_1
    row_cond go
    rw [show decide (V.int (i : Nat) = V.int 6) = false by rw [int_eq_dec]; exact decide_eq_false (by omega)]
    row_cond go
    refine lc_name (fun c : Cal => .d c.row) (fun c : Cal => .d (.str c.nm)) (by exact rfl) (cs.take i) [] (fun k _ P hP => ?_) (by simp; omega) ?_
    · row_cond go
      exact hP
    refine ⟨_, _, fzs_cons rfl (fzs_cons rfl (fzs_cons rfl (fzs_cons (x := .lst (((cs.take i).map Cal.nm).map Da.str)) (xs := []) (by rw [← fz1_last, List.map_map, List.map_map]; rfl) rfl))), ?_⟩
    refine x_reason_against hxc (not_earlier nd hc) okc ?_
    row_cond go
    obtain ⟨mv, dd, ds, sm, hi, hmv, hdd, hds, hsm⟩ := hxc
    refine ⟨_, (items_sq hi).2.2 _, rfl, ?_⟩
    row_cond go
    have hqd := (items_sq hdd).2.2
    have hlds := Paired.length hds
    have hdl := okc.dl
    refine ⟨_, _, rfl, (items_sq hmv).2.2 _, ?_⟩
    rw [mkTup_map]
    row_cond go
    refine ⟨_, hqd _, hqd _, ?_⟩
    generalize e0 : _ ++ [MO.frz _] = μ0
    refine lc_by (fun i acc μ => μ = μ0 ∧ acc = ((c.deeds.take i).map fun p => .d (pairDa p))) ?_ ?_ ⟨rfl, rfl⟩
    · rintro i y acc μ N hy ⟨rfl, rfl⟩ hN
      obtain ⟨x, hx, rfl⟩ := map_get hy
      obtain ⟨p, hp1, hp2⟩ := Paired.getL hds hx
      row_cond go
      refine ⟨_, _, rfl, (items_sq hp2).2.2 _, ?_⟩
      rw [mkTup_map]
      refine ⟨?_, hqd _, hN _ _ ⟨rfl, ?_⟩⟩
      · refine Nat.lt_of_le_of_lt (m := 4) ?_ (by decide)
        rw [List.length_map, List.length_take]
        exact Nat.le_trans (Nat.min_le_right _ _) hdl
      rw [take_snoc hp1, List.map_append]
      rfl
    · rintro acc μ ⟨rfl, rfl⟩
      have e : (iwSq (.d dd) (ds.map .d)).items.length = c.deeds.length := by
        show (ds.map Dv.d).length = _
        rw [List.length_map, hlds]
      rw [e, List.take_length]
      refine ⟨_, _, rfl, sqV_last, ?_⟩
      rw [show mkTup (c.deeds.map fun p => .d (pairDa p)) = .d (.tup (c.deeds.map pairDa)) by rw [← mkTup_map, List.map_map]; rfl]
      row_cond go
      refine ⟨_, _, rfl, (items_sq hsm).2.2 _, ?_⟩
      rw [mkTup_map]
      row_cond go
      subst e0
      refine ⟨show 5 ≤ sizeLine by decide, ?_⟩
      refine ⟨_, _, _, rfl, rfl, rfl, ?_, ?_⟩
      · rw [List.length_map, List.length_take]; exact Nat.lt_of_le_of_lt (Nat.min_le_left _ _) (Nat.lt_of_lt_of_le hi6 (by decide))
      exact ⟨h3 _, hN _ _ ⟨_, _, _, _, _, _, _, _, _, rfl, by rw [take_snoc hc, List.map_append]; rfl⟩⟩
  · rintro α μ ⟨s4, s5, s6, s8, s9, s10, s11, s12, g, rfl, rfl⟩
    unfold k_checked_calls_2
    refine ⟨_, rfl, ?_⟩
    refine ⟨_, .lst rfl ?_, h⟩
    have e : (iwEn (.d d) (xs.map .d)).items.length = cs.length := by
      show (enumD _).length = _
      rw [enumD_len, List.length_map, hlen]
    rw [e, List.take_length]
    have := RzAll.map (.lst (cs.map fun c => .d c.row) :: g) (cs.map Cal.row)
    rwa [List.map_map] at this
end
end Mz
end
section
set_option Elab.async false
set_option linter.all false
set_option maxRecDepth 100000
set_option maxHeartbeats 1000000
namespace Mz
open PySem L2
local macro_rules | `(tactic| row_cond sd) => `(tactic| first | with_reducible assumption | with_reducible exact rfl | exact rfl | exact True.intro | assumption | decide)
local macro_rules | `(tactic| row_cond st) => `(tactic| first
  | refine And.intro (by row_cond sd) ?_
  | refine ⟨_, by row_cond sd, ?_⟩
  | refine ⟨_, _, by row_cond sd, ?_⟩
  | refine ⟨_, _, by row_cond sd, by row_cond sd, ?_⟩
  | refine ⟨_, _, _, by row_cond sd, ?_⟩
  | refine ⟨_, _, _, by row_cond sd, by row_cond sd, ?_⟩
  | refine ⟨_, _, _, by row_cond sd, by row_cond sd, by row_cond sd, ?_⟩
  | refine ⟨_, _, _, _, by row_cond sd, ?_⟩
  | refine ⟨_, _, _, _, by row_cond sd, by row_cond sd, by row_cond sd, ?_⟩
  | refine ⟨_, _, _, _, by row_cond sd, by row_cond sd, by row_cond sd, by row_cond sd, ?_⟩
  | refine iteT ?_
  | refine iteF ?_)
local macro_rules | `(tactic| row_cond go) => `(tactic| repeat (row_cond st))
theorem dc_on {gd : MS → Prop} {g : GS} {t : TS'} {k e : ES} {vs : List Nat} {α : Env'} {Q : List (Key × Dv) → MS → Prop} (P : Nat → List (Key × Dv) → MS → Prop) {items : List Dv}
    (hs : ∀ (i : Nat) (d : Dv) (acc : List (Key × Dv)) (μ : MS) (N : List (Key × Dv) → MS → Prop), items[i]? = some d → P i acc μ → (∀ acc' μ', P (i + 1) acc' μ' → N acc' μ') → g d noX (wpD α vs) μ fun α2 μ2 => t noX α2 μ2 fun b μ3 => if b = true then k noX α2 μ3 fun z μ4 => e noX α2 μ4 fun y μ5 => ∃ kk, keyD z = some kk ∧ acc.length < sizeLine ∧ gd μ5 ∧ N (putD acc kk y) μ5 else gd μ3 ∧ N acc μ3)
    (he : ∀ acc μ, P items.length acc μ → Q acc μ) {μ : MS} (h0 : P 0 [] μ) : mDcL gd g t k e vs α Q items [] μ := by
  refine dc_by P ?_ he h0
  intro i d acc μ N h1 h2 h3 h4
  have := hs i d acc μ N h1 h2 h3
  rw [← (funext fun a => funext fun m => h4 a m : mDcL gd g t k e vs α Q (items.drop (i + 1)) = N)] at this
  exact this
theorem putD_old {kvs : List (Key × Dv)} {s : Str} {v : Dv} (h : ∀ p ∈ kvs, p.1 ≠ Sum.inr s) : putD kvs (Sum.inr s) v = kvs ++ [(Sum.inr s, v)] := by
  unfold putD
  rw [if_neg]
  intro z
  obtain ⟨kv, h1, h2⟩ := List.any_eq_true.mp z
  exact h kv h1 (of_decide_eq_true h2)
structure KD where
  fs : List Fld
  cs : List Cal
  md : Int
structure KDOk (kd : KD) : Prop where
  f : FldsOk kd.fs
  m1 : 1 ≤ kd.md
  m4 : kd.md ≤ 4
  c0 : 0 < kd.cs.length
  c6 : kd.cs.length ≤ 6
  c : ∀ c ∈ kd.cs, CalOk kd.fs kd.md c
  nd : (kd.cs.map Cal.nm).Nodup
def isFlds (d : Da) (fs : List Fld) : Prop := ∃ xs, d.items = some xs ∧ Paired isFld xs fs
def isCals (d : Da) (cs : List Cal) : Prop := ∃ xs, d.items = some xs ∧ Paired isCal xs cs
theorem set_mid {α : Type} {l r : List α} {o o' : α} : (l ++ o :: r).set l.length o' = l ++ o' :: r := by simp
theorem app2 {α : Type} {l r : List α} {o : α} : (l ++ [o]) ++ r = l ++ o :: r := by simp
theorem get_mid {α : Type} {l r : List α} {o : α} : (l ++ o :: r)[l.length]? = some o := by simp
theorem get_mid1 {α : Type} {l r : List α} {o o' x : α} : (l ++ o :: x :: r)[(l ++ [o']).length]? = some x := by
  rw [show l ++ o :: x :: r = (l ++ [o]) ++ x :: r by simp, show (l ++ [o']).length = (l ++ [o]).length by simp]
  exact get_mid
theorem get_mid2 {α : Type} {l r : List α} {a b a' b' x : α} : (l ++ a :: b :: x :: r)[(l ++ [a', b']).length]? = some x := by
  rw [show l ++ a :: b :: x :: r = (l ++ [a, b]) ++ x :: r by simp, show (l ++ [a', b']).length = (l ++ [a, b]).length by simp]
  exact get_mid
theorem set_mid1 {α : Type} {l r : List α} {o o' x y : α} : (l ++ o :: x :: r).set (l ++ [o']).length y = l ++ o :: y :: r := by
  rw [show l ++ o :: x :: r = (l ++ [o]) ++ x :: r by simp, show (l ++ [o']).length = (l ++ [o]).length by simp, set_mid]
  simp
theorem zip_eD {κ : Type} : ∀ kvs : List (κ × Da), ((kvs.map eD).map (·.1)).zip (kvs.map (·.2)) = kvs
  | [] => rfl
  | (k, v) :: r => by simp only [List.map_cons, eD, List.zip_cons_cons]; rw [zip_eD r]
theorem fz1_dct {μ : MS} {n : Nat} {kvs : List (Key × Da)} (h : μ[n]? = some (.dct (kvs.map eD))) : fz1 μ (.ob n) = some (μ.set n (.frz (.dct kvs)), .dct kvs) := by
  have e : (kvs.map eD).map (·.2) = (kvs.map (·.2)).map Dv.d := by rw [List.map_map, List.map_map]; rfl
  unfold fz1
  simp only [h, e, pus_map, Option.map_some, zip_eD]
theorem isV_mid {μ r : MS} {C : Addr} {fs : List (Str × Dv)} : isV (μ ++ .ins C fs :: r) (.ob μ.length) = some (C, fs) := by
  show (match (μ ++ .ins C fs :: r)[μ.length]? with
    | some (.ins C fs) => some (C, fs)
    | some (.frz (.ins C fs)) => some (C, fs.map eD)
    | _ => none) = _
  rw [get_mid]
theorem pu_app {μ r : MS} {y : Dv} {d : Da} (h : pu μ y = some d) : pu (μ ++ r) y = some d := by
  cases y with
  | d x => exact h
  | tp ys => cases h
  | ob n =>
    simp only [pu] at h ⊢
    split at h
    · rename_i hm
      have hl := (List.getElem?_eq_some_iff.mp hm).1
      rw [List.getElem?_append_left hl, hm]
      exact h
    · cases h
theorem fz1_pu {μ : MS} {y : Dv} {d : Da} (h : pu μ y = some d) : fz1 μ y = some (μ, d) := by
  cases y with
  | d x => cases h; rfl
  | tp ys => cases h
  | ob n =>
    simp only [pu] at h
    split at h
    · rename_i hm
      cases h
      unfold fz1
      simp only [hm]
    · cases h
section
variable {A : Ad} {K : PySem.W.Frag}
/-- what a kind is as data -/
def kindDa (A : Ad) (kd : KD) : Da := .ins A.Kind [("field_rows", .lst (kd.fs.map Fld.da)), ("modes", .int kd.md), ("sorts", .dct (sortsD kd.fs)), ("call_rows", .lst (kd.cs.map Cal.row)), ("name_list", .lst ((kd.cs.map Cal.nm).map Da.str))]
theorem x_Kind_init {μ : MS} {y1 y2 : Dv} {d1 d2 : Da} {kd : KD} {E : XS} {Q : DK} (h1 : pu μ y1 = some d1) (h2 : pu μ y2 = some d2) (hf : isFlds d1 kd.fs) (hc : isCals d2 kd.cs) (ok : KDOk kd)
    (h : ∀ r, Rz (μ ++ r) (.ob μ.length) (kindDa A kd) → Q (.d .non) (μ ++ r)) : m_Kind___init__ A K [.ob μ.length, y1, y2, .d (.int kd.md)] E (μ ++ [.ins A.Kind []]) Q := by
  obtain ⟨xs1, i1, p1⟩ := hf
  obtain ⟨xs2, i2, p2⟩ := hc
  unfold m_Kind___init__
  refine ⟨rfl, ?_⟩
  unfold b_Kind___init__
  row_cond go
  refine ⟨_, _, fzs_cons (fz1_pu (pu_app h1)) rfl, ?_⟩
  refine x_checked_fields i1 p1 ok.f ?_
  row_cond go
  refine ⟨_, _, rfl, get_mid, ?_⟩
  refine ⟨by decide, ?_⟩
  rw [set_mid]
  row_cond go
  refine x_is_between rfl ?_
  have m1 := ok.m1
  have m4 := ok.m4
  rw [show (Da.int kd.md).isBet 1 4 = true by simp [Da.isBet]; omega]
  row_cond go
  refine ⟨_, _, rfl, get_mid, ?_⟩
  refine ⟨show 1 < 1000 by decide, ?_⟩
  rw [set_mid]
  row_cond go
  refine ⟨_, _, isV_mid, rfl, ?_⟩
  row_cond go
  have hfl := ok.f.le
  generalize e0 : _ ++ [MO.ins _ _] = μ0
  refine dc_on (fun i acc μ => μ = μ0 ∧ acc = (sortsD (kd.fs.take i)).map eD) ?_ ?_ ⟨rfl, rfl⟩
  · rintro i y acc μ N hy ⟨rfl, rfl⟩ hN
    obtain ⟨x, hx, rfl⟩ := map_get hy
    rw [List.getElem?_map] at hx
    cases hf : kd.fs[i]? with
    | none => rw [hf] at hx; cases hx
    | some f =>
      rw [hf] at hx
      cases hx
      row_cond go
      refine ⟨?_, rfl, hN _ _ ⟨rfl, ?_⟩⟩
      · refine Nat.lt_of_le_of_lt (m := 3) ?_ (by decide)
        rw [List.length_map, sortsD, List.length_map, List.length_take]
        omega
      rw [putD_old]
      · rw [take_snoc hf]
        simp [sortsD, eD]
      · intro q hq z
        obtain ⟨q1, hq1, rfl⟩ := List.mem_map.mp hq
        obtain ⟨f1, hf1, rfl⟩ := List.mem_map.mp hq1
        exact not_earlier ok.f.nd hf (List.mem_map.mpr ⟨f1, hf1, Sum.inr.inj z⟩)
  · rintro acc μ ⟨rfl, rfl⟩
    have e : (iwSq (Dv.d (Da.lst (kd.fs.map Fld.da))) ((kd.fs.map Fld.da).map Dv.d)).items.length = kd.fs.length := by
      show ((kd.fs.map Fld.da).map Dv.d).length = _
      simp
    rw [e, List.take_length]
    subst e0
    rw [app2]
    row_cond go
    refine ⟨_, _, rfl, get_mid, ?_⟩
    refine ⟨show 2 < 1000 by decide, ?_⟩
    rw [set_mid]
    row_cond go
    refine ⟨_, _, isV_mid, rfl, ?_⟩
    row_cond go
    refine ⟨_, _, fzs_cons (fz1_pu (pu_app h2)) (fzs_cons (fz1_dct get_mid1) (by rfl)), ?_⟩
    refine x_checked_calls i2 p2 ok.c0 ok.c6 ok.c ok.nd ?_
    dsimp only
    rw [set_mid1]
    row_cond go
    refine ⟨_, _, rfl, get_mid, ?_⟩
    refine ⟨show 3 < 1000 by decide, ?_⟩
    rw [set_mid]
    row_cond go
    refine ⟨_, _, isV_mid, rfl, ?_⟩
    row_cond go
    have hc6 := ok.c6
    rw [List.map_map]
    refine lc_name (fun c : Cal => .d c.row) (fun c : Cal => .d (.str c.nm)) (by show some _ = _; rw [List.map_map]) kd.cs [] (fun k _ P hP => ?_) (by simp; omega) ?_
    · row_cond go
      exact hP
    row_cond go
    refine ⟨_, _, rfl, by rw [List.append_assoc]; exact get_mid, ?_⟩
    refine ⟨show 4 < 1000 by decide, ?_⟩
    rw [List.append_assoc]
    show Q _ ((μ ++ _ :: _).set μ.length _)
    rw [set_mid]
    refine h _ ?_
    refine .ins (xs := [.lst (kd.fs.map Fld.da), .int kd.md, .dct (sortsD kd.fs), .lst (kd.cs.map Cal.row), .lst ((kd.cs.map Cal.nm).map Da.str)]) get_mid ?_
    refine .cons (.d _) (.cons (.d _) (.cons (.frz get_mid1) (.cons (.d _) (.cons (.lst (ys := kd.cs.map fun c => .d (.str c.nm)) get_mid2 ?_) .nil))))
    have := fun μ' => RzAll.map μ' ((kd.cs.map Cal.nm).map Da.str)
    rw [List.map_map, List.map_map] at this
    exact this _
end
end Mz
end
section
set_option Elab.async false
set_option linter.all false
set_option maxRecDepth 100000
set_option maxHeartbeats 1000000
namespace Mz
open PySem L2
local macro_rules | `(tactic| row_cond sd) => `(tactic| first | with_reducible assumption | with_reducible exact rfl | exact rfl | exact True.intro | assumption | decide)
local macro_rules | `(tactic| row_cond st) => `(tactic| first
  | refine And.intro (by row_cond sd) ?_
  | refine ⟨_, by row_cond sd, ?_⟩
  | refine ⟨_, _, by row_cond sd, ?_⟩
  | refine ⟨_, _, by row_cond sd, by row_cond sd, ?_⟩
  | refine ⟨_, _, _, by row_cond sd, ?_⟩
  | refine ⟨_, _, _, by row_cond sd, by row_cond sd, ?_⟩
  | refine ⟨_, _, _, by row_cond sd, by row_cond sd, by row_cond sd, ?_⟩
  | refine ⟨_, _, _, _, by row_cond sd, ?_⟩
  | refine ⟨_, _, _, _, by row_cond sd, by row_cond sd, by row_cond sd, ?_⟩
  | refine ⟨_, _, _, _, by row_cond sd, by row_cond sd, by row_cond sd, by row_cond sd, ?_⟩
  | refine iteT ?_
  | refine iteF ?_)
local macro_rules | `(tactic| row_cond go) => `(tactic| repeat (row_cond st))
theorem shaped_strs {ss : List Str} (h : ∀ s ∈ ss, PyData.canLay0 (.str s) = true) : SeqAt.shaped (.list (ss.map PyData.str)) = true := by
  have h1 : PyData.canLayAll0 (ss.map PyData.str) = true := by
    induction ss with
    | nil => simp [PyData.canLayAll0]
    | cons s r ih =>
      simp only [List.map_cons, PyData.canLayAll0]
      rw [h s (by simp), ih fun t ht => h t (by simp [ht])]
      rfl
  have h2 : PyData.depthAll (ss.map PyData.str) = 0 := by
    clear h h1
    induction ss with
    | nil => simp [PyData.depthAll]
    | cons s r ih => simp [PyData.depthAll, PyData.depth, ih]
  simp [SeqAt.shaped, PyData.canLay0, PyData.depth, h1, h2]
theorem eqv_nil (xs : List PyData) : PyData.eqv (.list xs) (.list []) = xs.isEmpty := by
  cases xs <;> simp [PyData.eqv, PyData.eqvAll]
theorem seq_nat {j n : Nat} (h : j < n) : seqIndex? (j : Int) n = some j := by
  have : ixN n (j : Int) = some j := by
    unfold ixN
    rw [if_pos (by omega), if_pos (by omega)]
    simp
  exact (ixN_seq this).1
theorem map_erase {α β : Type} (f : α → β) : ∀ (l : List α) (j : Nat), (l.map f).eraseIdx j = (l.eraseIdx j).map f
  | [], _ => rfl
  | _ :: _, 0 => rfl
  | x :: r, j + 1 => by
    show f x :: (r.map f).eraseIdx j = f x :: (r.eraseIdx j).map f
    rw [map_erase f r j]
theorem perm_erase {α : Type} : ∀ (l : List α) (j : Nat) (h : j < l.length), (l[j] :: l.eraseIdx j).Perm l
  | x :: r, 0, _ => List.Perm.refl _
  | x :: r, j + 1, h => by
    have hj : j < r.length := by simpa using h
    have ih := perm_erase r j hj
    show (r[j] :: x :: r.eraseIdx j).Perm (x :: r)
    exact (List.Perm.swap x _ _).trans (List.Perm.cons x ih)
mutual
theorem Rz.app {μ r : MS} : ∀ {d : Dv} {x : Da}, Rz μ d x → Rz (μ ++ r) d x
  | _, _, .d x => .d x
  | _, _, .frz h => .frz (by rw [List.getElem?_append_left (List.getElem?_eq_some_iff.mp h).1]; exact h)
  | _, _, .lst h t => .lst (by rw [List.getElem?_append_left (List.getElem?_eq_some_iff.mp h).1]; exact h) (RzAll.app t)
  | _, _, .dct h t => .dct (by rw [List.getElem?_append_left (List.getElem?_eq_some_iff.mp h).1]; exact h) (RzAll.app t)
  | _, _, .ins h t => .ins (by rw [List.getElem?_append_left (List.getElem?_eq_some_iff.mp h).1]; exact h) (RzAll.app t)
  | _, _, .tp t => .tp (RzAll.app t)
theorem RzAll.app {μ r : MS} : ∀ {d : List Dv} {x : List Da}, RzAll μ d x → RzAll (μ ++ r) d x
  | _, _, .nil => .nil
  | _, _, .cons h t => .cons (Rz.app h) (RzAll.app t)
end
theorem while_by {t : TS'} {b : BS} {D : En} (P : Nat → Env' → MS → Prop)
    (hs : ∀ (n : Nat) (α : Env') (μ : MS) (N : Env' → MS → Prop), P (n + 1) α μ → (∀ α' μ', P n α' μ' → N α' μ') → t D.er α μ fun k μ1 => if k = true then b { D with nx := N, ct := N, bk := D.nx } α μ1 else D.nx α μ1)
    (h0 : ∀ (α : Env') (μ : MS) (N : Env' → MS → Prop), P 0 α μ → t D.er α μ fun k μ1 => if k = true then b { D with nx := N, ct := N, bk := D.nx } α μ1 else D.nx α μ1) {n : Nat} {α : Env'} {μ : MS} (h : P n α μ) : bWhile t b D α μ := by
  refine ⟨n + 1, ?_⟩
  induction n generalizing α μ with
  | zero => exact h0 α μ _ h
  | succ n ih => exact hs n α μ _ h fun α' μ' p => ih p
theorem pyAll_strs {μ : MS} : ∀ ss : List Str, PyAll μ (ss.map fun s => .d (.str s)) (ss.map PyData.str)
  | [] => .nil
  | s :: r => .cons (.d rfl) (pyAll_strs r)
section
variable {A : Ad} {K : PySem.W.Frag} {E : Ex → Prop} {Q : Da → Prop}
theorem x_law_take {m : Int} (h0 : 0 < m) (h1 : m < 1048576) (h : ∀ k : Int, 0 ≤ k → k < m → Q (.int k)) : m_law_take A K [.st, .int m] E Q := by
  unfold m_law_take
  exact ⟨m, rfl, h0, h1, h⟩
theorem x_law_one {xs : List Da} (h0 : 0 < xs.length) (h1 : xs.length < 1048576) (h : ∀ x ∈ xs, Q x) : m_law_one A K [.st, .lst xs] E Q := by
  unfold m_law_one
  refine ⟨rfl, ?_⟩
  unfold b_law_one
  row_cond go
  refine x_law_take (by simp; omega) (by simp; omega) fun k k0 k1 => ?_
  row_cond go
  simp only [List.length_map] at k1
  obtain ⟨j, rfl⟩ : ∃ j : Nat, k = (j : Int) := ⟨k.toNat, by omega⟩
  have hj : j < xs.length := by omega
  refine ⟨_, ix_items (d := .lst xs) rfl rfl (List.getElem?_eq_getElem hj) _, ?_⟩
  exact ⟨_, .d _, h _ (List.getElem_mem hj)⟩
theorem x_law_plan {kd : KD} {d1 d2 : Da} (hf : isFlds d1 kd.fs) (hc : isCals d2 kd.cs) (ok : KDOk kd) (h : Q (.dct [(.inr "fields", d1), (.inr "calls", d2), (.inr "modes", .int kd.md), (.inr "known", kindDa A kd)])) : m_law_plan A K [d1, d2, .int kd.md] E Q := by
  unfold m_law_plan
  refine ⟨rfl, ?_⟩
  unfold b_law_plan
  row_cond go
  refine x_Kind_init (μ := []) rfl rfl hf hc ok fun r hr => ?_
  row_cond go
  refine ⟨show 4 ≤ 15 by decide, _, .dct (xs := [d1, d2, .int kd.md, kindDa A kd]) get_last ?_, h⟩
  exact .cons (.d _) (.cons (.d _) (.cons (.d _) (.cons (Rz.app hr) .nil)))
theorem x_law_mix {ss : List Str} (hl : ss.length ≤ 1000) (hs : ∀ s ∈ ss, PyData.canLay0 (.str s) = true) (h : ∀ ys : List Str, ys.Perm ss → Q (.lst (ys.map Da.str))) : m_law_mix A K [.st, .lst (ss.map Da.str)] E Q := by
  unfold m_law_mix
  refine ⟨rfl, ?_⟩
  unfold b_law_mix
  row_cond go
  refine while_by (fun n α μ => ∃ (left out : List Str) (g : MS), α = [some (.d .st), some (.d (.lst (ss.map Da.str))), some (.ob 0), some (.ob 1)] ∧ μ = .lst (left.map fun s => .d (.str s)) :: .lst (out.map fun s => .d (.str s)) :: g ∧ left.length = n ∧ (out ++ left).Perm ss) ?_ ?_ (n := ss.length) ⟨ss, [], [], rfl, by simp, rfl, by simp⟩
  · rintro n α μ N ⟨left, out, g, rfl, rfl, hn, hp⟩ hN
    row_cond go
    refine ⟨_, _, .lst rfl (pyAll_strs left), .lst (lsV_last (μ := _ :: _ :: g)) .nil, shaped_strs fun s hm => hs s (hp.mem_iff.mp (by simp [hm])), by decide, ?_⟩
    row_cond go
    rw [eqv_nil]
    rw [show (left.map PyData.str).isEmpty = false by cases left with
      | nil => cases hn
      | cons => rfl]
    have hle : left.length ≤ ss.length := by rw [← hp.length_eq]; simp
    row_cond go
    refine x_law_take (by simp; omega) (by simp; omega) fun k k0 k1 => ?_
    simp only [List.length_map] at k1
    obtain ⟨j, rfl⟩ : ∃ j : Nat, k = (j : Int) := ⟨k.toNat, by omega⟩
    have hj : j < left.length := by omega
    row_cond go
    refine ⟨_, _, _, j, .d (.str left[j]), rfl, rfl, rfl, by omega, seq_nat (by simpa using hj), by simp, ?_⟩
    row_cond go
    have hlo : out.length ≤ ss.length := by rw [← hp.length_eq]; simp
    refine ⟨Nat.lt_of_le_of_lt (m := 1000) (by rw [List.length_map]; omega) (by decide), ?_⟩
    refine hN _ _ ⟨left.eraseIdx j, out ++ [left[j]], g ++ [.lst []], rfl, ?_, by rw [List.length_eraseIdx, if_pos hj]; omega, ?_⟩
    · rw [map_erase, List.map_append]; rfl
    · rw [List.append_assoc]
      exact (List.Perm.append_left out (perm_erase left j hj)).trans hp
  · rintro α μ N ⟨left, out, g, rfl, rfl, hn, hp⟩
    cases left with
    | cons => cases hn
    | nil =>
      row_cond go
      refine ⟨_, _, .lst rfl .nil, .lst (lsV_last (μ := _ :: _ :: g)) .nil, by decide, by decide, ?_⟩
      row_cond go
      rw [List.append_nil] at hp
      refine ⟨_, .lst rfl ?_, h out hp⟩
      have := fun μ' => RzAll.map μ' (out.map Da.str)
      rw [List.map_map] at this
      exact this _
end
theorem sort_mem {f : Fld} : ∀ {fs : List Fld}, (fs.map Fld.nm).Nodup → f ∈ fs → sortOf fs f.nm = some f.sort
  | g :: r, nd, h => by
    by_cases e : g.nm = f.nm
    · rcases List.mem_cons.mp h with rfl | h
      · simp [sortOf]
      · exfalso
        have := (List.nodup_cons.mp nd).1
        exact this (List.mem_map.mpr ⟨f, h, e.symm⟩)
    · rcases List.mem_cons.mp h with rfl | h
      · exact absurd rfl e
      · have ih := sort_mem (List.nodup_cons.mp nd).2 h
        simpa [sortOf, e] using ih
def adds (ds : List (Str × Str)) : List Str := (ds.filter fun p => decide (p.1 ∈ addish)).map (·.2)
theorem adds_snoc (ds : List (Str × Str)) (p : Str × Str) : adds (ds ++ [p]) = adds ds ++ (if p.1 ∈ addish then [p.2] else []) := by
  unfold adds
  rw [List.filter_append, List.map_append]
  by_cases h : p.1 ∈ addish
  · rw [if_pos h, List.filter_cons, if_pos (decide_eq_true h)]; rfl
  · rw [if_neg h, List.filter_cons, if_neg (by simp only [decide_eq_false h]; simp)]; rfl
theorem nodup_snoc {α : Type} {l : List α} {x : α} (nd : l.Nodup) (h : x ∉ l) : (l ++ [x]).Nodup := by
  rw [List.nodup_append]
  refine ⟨nd, by simp, ?_⟩
  intro a ha b hb
  rw [List.mem_singleton] at hb
  subst hb
  rintro rfl
  exact h ha
def addPart : BS := (bSeq (bAsg (mOp oCat (mVar 4) (mOp oRep (mLst (mCons (mVar 6) mNil)) (mCB oInt (mCons (mOp (oIn false) (mVar 10) (mTup (mCons (mC (.d (.str "add"))) (mCons (mC (.d (.str "strike"))) mNil)))) mNil)))) (nName 4))
 (bDrop (mBM oAppend (mVar 3) (mCons (mTup (mCons (mVar 10) (mCons (mVar 6) mNil))) mNil))))
theorem t_add {D : En} {fs : List Fld} {f : Fld} {d : Str} {many : Nat} {ds : List (Str × Str)} {bq : Nat} {s5 s7 s8 s9 : Option Dv} {g : MS} (hl : ds.length ≤ 2000) (hb : g[bq]? = some (.lst ((adds ds).map fun s => .d (.str s)))) (hd : ∀ p ∈ ds, DeedOk fs p) (nd : (adds (ds ++ [(d, f.nm)])).Nodup) (hok : DeedOk fs (d, f.nm))
    (hN : ∀ (ds' : List (Str × Str)) (bq' : Nat) (g' : MS), g'[bq']? = some (.lst ((adds ds').map fun s => .d (.str s))) → ds'.length ≤ ds.length + 1 → (∀ p ∈ ds', DeedOk fs p) → (adds ds').Nodup → D.nx [some (.d .st), some (.d (.lst (fs.map Fld.da))), some (.d (.int many)), some (.ob 0), some (.ob (bq' + 1)), s5, some (.d (.str f.nm)), s7, s8, s9, some (.d (.str d))] (.lst (ds'.map fun p => .d (pairDa p)) :: g')) :
    addPart D [some (.d .st), some (.d (.lst (fs.map Fld.da))), some (.d (.int many)), some (.ob 0), some (.ob (bq + 1)), s5, some (.d (.str f.nm)), s7, s8, s9, some (.d (.str d))] (.lst (ds.map fun p => .d (pairDa p)) :: g) := by
  have ein : inV (V.str d) [V.str "add", V.str "strike"] = decide (d ∈ addish) := inV_strs (ss := addish)
  have hla : (adds ds).length ≤ 2000 := Nat.le_trans (by unfold adds; rw [List.length_map]; exact List.length_filter_le _ _) hl
  have hbl := (List.getElem?_eq_some_iff.mp hb).1
  have hbr : ∀ r : MS, (g ++ r)[bq]? = some (.lst ((adds ds).map fun s => .d (.str s))) := fun r => by rw [List.getElem?_append_left hbl]; exact hb
  have hbr2 : ∀ r1 r2 : MS, ((g ++ r1) ++ r2)[bq]? = some (.lst ((adds ds).map fun s => .d (.str s))) := fun r1 r2 => by rw [List.append_assoc]; exact hbr _
  have hv : ∀ (x : MO) (g' : MS), g'[bq]? = some (.lst ((adds ds).map fun s => .d (.str s))) → lsV (x :: g') (.ob (bq + 1)) = some ((adds ds).map fun s => .d (.str s)) := fun x g' e => by
    show (match (x :: g')[bq + 1]? with
      | some (.lst ds) => some ds
      | some (.frz (.lst ds)) => some (ds.map .d)
      | _ => none) = _
    rw [List.getElem?_cons_succ, e]
  unfold addPart
  row_cond go
  refine ⟨show 1 ≤ sizeLine by decide, ?_⟩
  row_cond go
  rw [ein]
  refine .inr ⟨_, rfl, ?_⟩
  refine ⟨_, _, lsV_last, rfl, ?_, ?_, ?_⟩
  · by_cases c : d ∈ addish <;> simp [c]
  · by_cases c : d ∈ addish <;> simp [c] <;> decide
  have er : (List.replicate (if (if false = true then !decide (d ∈ addish) else decide (d ∈ addish)) = true then (1 : Int) else 0).toNat [Dv.d (Da.str f.nm)]).flatten = ((if d ∈ addish then [f.nm] else []).map fun s => .d (.str s)) := by
    by_cases c : d ∈ addish <;> simp [c]
  rw [er]
  refine ⟨_, _, hv _ _ (hbr2 _ _), lsV_last, ?_, ?_⟩
  · refine Nat.le_trans (m := 2001) ?_ (by decide)
    rw [List.length_map, List.length_map]
    have : (if d ∈ addish then [f.nm] else []).length ≤ 1 := by by_cases c : d ∈ addish <;> simp [c]
    omega
  row_cond go
  refine ⟨show 2 ≤ sizeLine by decide, ?_⟩
  refine ⟨_, _, _, rfl, rfl, rfl, Nat.lt_of_le_of_lt (m := 2000) (by rw [List.length_map]; exact hl) (by decide), ?_⟩
  have key := hN (ds ++ [(d, f.nm)]) (g ++ [MO.lst [Dv.d (Da.str f.nm)]] ++ [MO.lst ((if d ∈ addish then [f.nm] else []).map fun s => Dv.d (Da.str s))]).length ((g ++ [MO.lst [Dv.d (Da.str f.nm)]] ++ [MO.lst ((if d ∈ addish then [f.nm] else []).map fun s => Dv.d (Da.str s))]) ++ [MO.lst ((adds (ds ++ [(d, f.nm)])).map fun s => Dv.d (Da.str s))]) get_last (by simp) (by
    intro p hp
    rcases List.mem_append.mp hp with hp | hp
    · exact hd p hp
    · rw [List.mem_singleton.mp hp]; exact hok) nd
  rw [adds_snoc, List.map_append, List.map_append] at key
  exact key
def deedTail : BS := (bIf (mOrT (mT (mOp (oIn true) (mVar 10) (mTup (mCons (mC (.d (.str "add"))) (mCons (mC (.d (.str "strike"))) mNil))))) (mT (mOp (oIn true) (mVar 6) (mVar 4))))
 (bSeq (bAsg (mOp oCat (mVar 4) (mOp oRep (mLst (mCons (mVar 6) mNil)) (mCB oInt (mCons (mOp (oIn false) (mVar 10) (mTup (mCons (mC (.d (.str "add"))) (mCons (mC (.d (.str "strike"))) mNil)))) mNil)))) (nName 4))
 (bDrop (mBM oAppend (mVar 3) (mCons (mTup (mCons (mVar 10) (mCons (mVar 6) mNil))) mNil))))
 bNext)
theorem t_deed {D : En} {fs : List Fld} {f : Fld} {d : Str} {many : Nat} {ds : List (Str × Str)} {bq : Nat} {s5 s7 s8 s9 : Option Dv} {g : MS} (ok : FldsOk fs) (hf : f ∈ fs) (hdm : d ∈ deedsOf f.sort) (hl : ds.length ≤ 2000) (hb : g[bq]? = some (.lst ((adds ds).map fun s => .d (.str s)))) (hd : ∀ p ∈ ds, DeedOk fs p) (nd : (adds ds).Nodup)
    (hN : ∀ (ds' : List (Str × Str)) (bq' : Nat) (g' : MS), g'[bq']? = some (.lst ((adds ds').map fun s => .d (.str s))) → ds'.length ≤ ds.length + 1 → (∀ p ∈ ds', DeedOk fs p) → (adds ds').Nodup → D.nx [some (.d .st), some (.d (.lst (fs.map Fld.da))), some (.d (.int many)), some (.ob 0), some (.ob (bq' + 1)), s5, some (.d (.str f.nm)), s7, s8, s9, some (.d (.str d))] (.lst (ds'.map fun p => .d (pairDa p)) :: g')) :
    deedTail D [some (.d .st), some (.d (.lst (fs.map Fld.da))), some (.d (.int many)), some (.ob 0), some (.ob (bq + 1)), s5, some (.d (.str f.nm)), s7, s8, s9, some (.d (.str d))] (.lst (ds.map fun p => .d (pairDa p)) :: g) := by
  have hok : DeedOk fs (d, f.nm) := ⟨_, sort_mem ok.nd hf, hdm⟩
  have ein : inV (V.str d) [V.str "add", V.str "strike"] = decide (d ∈ addish) := inV_strs (ss := addish)
  have hv : sqV (.lst (ds.map fun p => .d (pairDa p)) :: g) (.ob (bq + 1)) = some ((adds ds).map fun s => .d (.str s)) := by
    show (match (MO.lst (ds.map fun p => .d (pairDa p)) :: g)[bq + 1]? with
      | some (.lst ds) => some ds
      | some (.frz (.lst ds)) => some (ds.map .d)
      | _ => none) = _
    rw [List.getElem?_cons_succ, hb]
  unfold deedTail
  row_cond go
  rw [ein]
  by_cases ca : d ∈ addish
  · rw [decide_eq_true ca]
    row_cond go
    by_cases cb : f.nm ∈ adds ds
    · refine oIn_b true (decide_eq_true cb) hv ?_
      row_cond go
      exact hN _ _ _ hb (by omega) hd nd
    · refine oIn_b false (decide_eq_false cb) hv ?_
      refine ⟨_, rfl, iteT ?_⟩
      refine t_add hl hb hd ?_ hok hN
      rw [adds_snoc, if_pos ca]
      exact nodup_snoc nd cb
  · rw [decide_eq_false ca]
    refine iteT (iteT ?_)
    refine t_add hl hb hd ?_ hok hN
    rw [adds_snoc, if_neg ca, List.append_nil]
    exact nd
section
variable {A : Ad} {K : PySem.W.Frag} {E : Ex → Prop} {Q : Da → Prop}
theorem x_law_deeds {fs : List Fld} {many : Nat} (ok : FldsOk fs) (hm : many ≤ 1000) (h : ∀ ds : List (Str × Str), ds.length ≤ many → (∀ p ∈ ds, DeedOk fs p) → (adds ds).Nodup → Q (.lst (ds.map pairDa))) : m_law_deeds A K [.st, .lst (fs.map Fld.da), .int many] E Q := by
  unfold m_law_deeds
  refine ⟨rfl, ?_⟩
  unfold b_law_deeds
  row_cond go
  refine x_law_take (by omega) (by omega) fun k k0 k1 => ?_
  row_cond go
  refine ⟨by omega, ?_⟩
  row_cond go
  refine loop_by (fun i α μ => ∃ (ds : List (Str × Str)) (bq : Nat) (s5 s6 s7 s8 s9 s10 : Option Dv) (g : MS), α = [some (.d .st), some (.d (.lst (fs.map Fld.da))), some (.d (.int many)), some (.ob 0), some (.ob (bq + 1)), s5, s6, s7, s8, s9, s10] ∧ μ = .lst (ds.map fun p => .d (pairDa p)) :: g ∧ g[bq]? = some (.lst ((adds ds).map fun s => .d (.str s))) ∧ ds.length ≤ i ∧ (∀ p ∈ ds, DeedOk fs p) ∧ (adds ds).Nodup) ?_ ?_ ⟨[], 0, none, none, none, none, none, none, [.lst []], rfl, rfl, rfl, by simp, by simp, by simp [adds]⟩
  · rintro i y α μ N hy ⟨ds, bq, s5, s6, s7, s8, s9, s10, g, rfl, rfl, hb, hl, hd, nd⟩ hN
    have hi : i < many + 1 := by
      have := (List.getElem?_eq_some_iff.mp hy).1
      simp [iwR, rngD] at this
      omega
    row_cond go
    refine x_law_one (by simp; exact ok.ne) (by have := ok.le; simp; omega) fun x hx => ?_
    obtain ⟨f, hf, rfl⟩ := List.mem_map.mp hx
    row_cond go
    have hN' : ∀ (ds' : List (Str × Str)) (bq' : Nat) (g' : MS) (s5 s6 s7 s8 s9 s10 : Option Dv), g'[bq']? = some (.lst ((adds ds').map fun s => .d (.str s))) → ds'.length ≤ ds.length + 1 → (∀ p ∈ ds', DeedOk fs p) → (adds ds').Nodup → N [some (.d .st), some (.d (.lst (fs.map Fld.da))), some (.d (.int many)), some (.ob 0), some (.ob (bq' + 1)), s5, s6, s7, s8, s9, s10] (.lst (ds'.map fun p => .d (pairDa p)) :: g') :=
      fun ds' bq' g' s5 s6 s7 s8 s9 s10 h1 h2 h3 h4 => hN _ _ ⟨ds', bq', s5, s6, s7, s8, s9, s10, g', rfl, rfl, h1, by omega, h3, h4⟩
    have hbl := (List.getElem?_eq_some_iff.mp hb).1
    have hbr : ∀ r : MS, (g ++ r)[bq]? = some (.lst ((adds ds).map fun s => .d (.str s))) := fun r => by rw [List.getElem?_append_left hbl]; exact hb
    cases hmany : f.many with
    | false =>
      have hso : f.sort = "one" := by unfold Fld.sort; rw [hmany]; rfl
      rw [show decide (V.str f.sort = V.str "one") = true from decide_eq_true (by rw [hso])]
      row_cond go
      refine ⟨_, _, fzs_cons rfl (fzs_cons (fz1_last (xs := [.str "set", .str "clear"])) (by rfl)), ?_⟩
      refine x_law_one (by decide) (by decide) fun x hx => ?_
      obtain ⟨d, hdm, rfl⟩ : ∃ d, d ∈ deedsOf f.sort ∧ x = .str d := by
        rw [hso]
        simp only [List.mem_cons, List.not_mem_nil, or_false] at hx
        rcases hx with rfl | rfl
        · exact ⟨_, by decide, rfl⟩
        · exact ⟨_, by decide, rfl⟩
      exact t_deed (g := g ++ _) ok hf hdm (by omega) (hbr _) hd nd fun ds' bq' g' h1 h2 h3 h4 => ⟨trivial, hN' _ _ _ _ _ _ _ _ _ h1 h2 h3 h4⟩
    | true =>
      have hso : f.sort = "many" := by unfold Fld.sort; rw [hmany]; rfl
      rw [show decide (V.str f.sort = V.str "one") = false from decide_eq_false (by rw [hso]; decide)]
      row_cond go
      refine ⟨_, _, fzs_cons rfl (fzs_cons (fz1_last (xs := [.str "add", .str "add", .str "strike", .str "clear", .str "fresh"])) (by rfl)), ?_⟩
      refine x_law_one (by decide) (by decide) fun x hx => ?_
      obtain ⟨d, hdm, rfl⟩ : ∃ d, d ∈ deedsOf f.sort ∧ x = .str d := by
        rw [hso]
        simp only [List.mem_cons, List.not_mem_nil, or_false] at hx
        rcases hx with rfl | rfl | rfl | rfl | rfl
        all_goals exact ⟨_, by decide, rfl⟩
      exact t_deed (g := g ++ _) ok hf hdm (by omega) (hbr _) hd nd fun ds' bq' g' h1 h2 h3 h4 => ⟨trivial, hN' _ _ _ _ _ _ _ _ _ h1 h2 h3 h4⟩
  · rintro α μ ⟨ds, bq, s5, s6, s7, s8, s9, s10, g, rfl, rfl, hb, hl, hd, nd⟩
    row_cond go
    refine ⟨_, .lst rfl ?_, h ds ?_ hd nd⟩
    · have := fun μ' => RzAll.map μ' (ds.map pairDa)
      rw [List.map_map] at this
      exact this _
    · refine Nat.le_trans hl ?_
      simp [iwR, rngD]
      omega
end
end Mz
end
section
set_option Elab.async false
set_option linter.all false
set_option maxRecDepth 100000
set_option maxHeartbeats 1000000
namespace Mz
open PySem L2
local macro_rules | `(tactic| row_cond sd) => `(tactic| first | with_reducible assumption | with_reducible exact rfl | exact rfl | exact True.intro | assumption | decide)
local macro_rules | `(tactic| row_cond st) => `(tactic| first
  | refine And.intro (by row_cond sd) ?_
  | refine ⟨_, by row_cond sd, ?_⟩
  | refine ⟨_, _, by row_cond sd, ?_⟩
  | refine ⟨_, _, by row_cond sd, by row_cond sd, ?_⟩
  | refine ⟨_, _, _, by row_cond sd, ?_⟩
  | refine ⟨_, _, _, by row_cond sd, by row_cond sd, ?_⟩
  | refine ⟨_, _, _, by row_cond sd, by row_cond sd, by row_cond sd, ?_⟩
  | refine ⟨_, _, _, _, by row_cond sd, ?_⟩
  | refine ⟨_, _, _, _, by row_cond sd, by row_cond sd, by row_cond sd, ?_⟩
  | refine ⟨_, _, _, _, by row_cond sd, by row_cond sd, by row_cond sd, by row_cond sd, ?_⟩
  | refine iteT ?_
  | refine iteF ?_)
local macro_rules | `(tactic| row_cond go) => `(tactic| repeat (row_cond st))
def Cal.drawn (c : Cal) : Da := .tup [.str c.nm, .str c.hand, .lst (c.moves.map Da.int), .lst (c.deeds.map pairDa), .lst (c.same.map Da.str)]
theorem pairs_are : ∀ ds : List (Str × Str), Paired isPair (ds.map pairDa) ds
  | [] => .nil
  | _ :: r => .cons rfl (pairs_are r)
theorem drawn_is (c : Cal) : isCal c.drawn c := ⟨_, _, _, _, rfl, rfl, rfl, pairs_are _, rfl⟩
theorem some_moves (far : Int) (h1 : 1 ≤ far) (h4 : far ≤ 4) : ∃ ms : List Int, (List.replicate (3 : Int).toNat (rngD 0 far.toNat)).flatten ++ (List.replicate (if decide (1 < far) = true then (1 : Int) else 0).toNat [Dv.d (.int (-1))]).flatten = (ms.map Da.int).map .d ∧ 0 < ms.length ∧ ms.length ≤ 13 ∧ ∀ m ∈ ms, -1 ≤ m ∧ m ≤ far - 1 := by
  have : far = 1 ∨ far = 2 ∨ far = 3 ∨ far = 4 := by omega
  rcases this with rfl | rfl | rfl | rfl
  · exact ⟨[0, 0, 0], rfl, by decide, by decide, by decide⟩
  · exact ⟨[0, 1, 0, 1, 0, 1, -1], rfl, by decide, by decide, by decide⟩
  · exact ⟨[0, 1, 2, 0, 1, 2, 0, 1, 2, -1], rfl, by decide, by decide, by decide⟩
  · exact ⟨[0, 1, 2, 3, 0, 1, 2, 3, 0, 1, 2, 3, -1], rfl, by decide, by decide, by decide⟩
theorem rg_ok {far : Int} (h1 : 1 ≤ far) (h4 : far ≤ 4) : RgOk 0 far := by
  unfold RgOk
  refine ⟨by decide, by decide, by omega, by omega, by omega⟩
section
variable {A : Ad} {K : PySem.W.Frag} {E : Ex → Prop} {Q : Da → Prop}
theorem x_law_call {fs : List Fld} {nm hand : Str} {far : Int} (ok : FldsOk fs) (hw : (Da.str nm).isWord = true) (hh : hand ∈ (["self", "new", "last"] : List Str)) (h1 : 1 ≤ far) (h4 : far ≤ 4)
    (h : ∀ c : Cal, c.nm = nm → c.hand = hand → CalOk fs far c → Q c.drawn) : m_law_call A K [.st, .str nm, .str hand, .lst (fs.map Fld.da), .int far] E Q := by
  unfold m_law_call
  refine ⟨rfl, ?_⟩
  unfold b_law_call
  row_cond go
  refine ⟨rg_ok h1 h4, ?_⟩
  row_cond go
  refine ⟨?_, ?_⟩
  · simp [rngD]; exact Nat.le_trans (m := 12) (by omega) (by decide)
  row_cond go
  refine .inr ⟨_, rfl, ?_⟩
  refine ⟨_, _, rfl, rfl, ?_, ?_, ?_⟩
  · by_cases c : 1 < far <;> simp [c]
  · by_cases c : 1 < far <;> simp [c] <;> decide
  obtain ⟨ms, hms, hm0, hm13, hmr⟩ := some_moves far h1 h4
  refine ⟨_, _, rfl, rfl, ?_, ?_⟩
  · have := congrArg List.length hms
    rw [List.length_append] at this
    rw [this]
    simp
    exact Nat.le_trans hm13 (by decide)
  rw [hms]
  generalize ([] ++ [MO.lst _] ++ [MO.lst _] ++ [MO.lst _] ++ [MO.lst _] : MS) = μ0
  row_cond go
  refine ⟨by omega, ?_⟩
  row_cond go
  have hfz : ∀ o : MO, o = .lst ((ms.map Da.int).map .d) ∨ o = .frz (.lst (ms.map Da.int)) → fz1 (μ0 ++ [o]) (.ob μ0.length) = some (μ0 ++ [.frz (.lst (ms.map Da.int))], .lst (ms.map Da.int)) := by
    rintro o (rfl | rfl)
    · exact fz1_last
    · refine fz1_pu ?_
      simp [pu]
  refine lc_by (fun i acc μ => ∃ (o : MO) (vs : List Int), (o = .lst ((ms.map Da.int).map .d) ∨ o = .frz (.lst (ms.map Da.int))) ∧ μ = μ0 ++ [o] ∧ acc = (vs.map Da.int).map .d ∧ vs.length = i ∧ ∀ m ∈ vs, -1 ≤ m ∧ m ≤ far - 1) ?_ ?_ ⟨_, [], .inl rfl, rfl, rfl, rfl, by simp⟩
  · rintro i y acc μ N hy ⟨o, vs, ho, rfl, rfl, hvl, hvr⟩ hN
    have hi : i < far.toNat := by
      have := (List.getElem?_eq_some_iff.mp hy).1
      simpa [iwR, rngD] using this
    row_cond go
    refine ⟨_, _, fzs_cons rfl (fzs_cons (hfz o ho) (by rfl)), ?_⟩
    refine x_law_one (by simpa using hm0) (by simp; omega) fun x hx => ?_
    obtain ⟨m, hm, rfl⟩ := List.mem_map.mp hx
    refine ⟨?_, trivial, hN _ _ ⟨_, vs ++ [m], .inr rfl, rfl, by simp, by simp [hvl], ?_⟩⟩
    · refine Nat.lt_of_le_of_lt (m := 4) ?_ (by decide)
      simp; omega
    · intro k hk
      rcases List.mem_append.mp hk with hk | hk
      · exact hvr k hk
      · rw [List.mem_singleton.mp hk]; exact hmr m hm
  rintro acc μ ⟨o, vs, ho, rfl, rfl, hvl, hvr⟩
  have hvl' : (vs.length : Int) = far := by
    rw [hvl]; simp [iwR, rngD]; omega
  generalize μ0 ++ [o] = μ1
  row_cond go
  have hfl := ok.le
  refine lc_by (fun i acc μ => ∃ sub : List Str, μ = μ1 ++ [.lst ([] ++ (vs.map Da.int).map .d)] ∧ acc = (sub.map Da.str).map .d ∧ sub.Sublist ((fs.take i).map Fld.nm) ∧ ∀ s ∈ sub, sortOf fs s = some "many") ?_ ?_ ⟨[], rfl, rfl, by simp, by simp⟩
  · rintro i y acc μ N hy ⟨sub, rfl, rfl, hsub, hmany⟩ hN
    obtain ⟨x, hx, rfl⟩ := map_get hy
    rw [List.getElem?_map] at hx
    cases hf : fs[i]? with
    | none => rw [hf] at hx; cases hx
    | some f =>
      rw [hf] at hx
      cases hx
      have hfm := List.mem_of_getElem? hf
      have hsl := hsub.length_le
      rw [List.length_map, List.length_take] at hsl
      have hskip : N ((sub.map Da.str).map .d) (μ1 ++ [.lst ([] ++ (vs.map Da.int).map .d)]) := hN _ _ ⟨sub, rfl, rfl, by rw [take_snoc hf, List.map_append]; exact hsub.trans (List.sublist_append_left _ _), hmany⟩
      row_cond go
      cases hmy : f.many with
      | false =>
        have hso : f.sort = "one" := by unfold Fld.sort; rw [hmy]; rfl
        rw [show decide (V.str f.sort = V.str "many") = false from decide_eq_false (by rw [hso]; decide)]
        row_cond go
        exact hskip
      | true =>
        have hso : f.sort = "many" := by unfold Fld.sort; rw [hmy]; rfl
        rw [show decide (V.str f.sort = V.str "many") = true from decide_eq_true (by rw [hso])]
        row_cond go
        refine x_law_take (by decide) (by decide) fun k k0 k1 => ?_
        row_cond go
        by_cases ck : k = 0
        · rw [show decide (V.int k = V.int 0) = true by rw [int_eq_dec]; exact decide_eq_true ck]
          row_cond go
          refine ⟨Nat.lt_of_le_of_lt (m := 3) (by simp; omega) (by decide), rfl, hN _ _ ⟨sub ++ [f.nm], rfl, by simp, ?_, ?_⟩⟩
          · rw [take_snoc hf, List.map_append]
            exact List.Sublist.append hsub (List.Sublist.refl _)
          · intro s hs
            rcases List.mem_append.mp hs with hs | hs
            · exact hmany s hs
            · rw [List.mem_singleton.mp hs, sort_mem ok.nd hfm, hso]; rfl
        · rw [show decide (V.int k = V.int 0) = false by rw [int_eq_dec]; exact decide_eq_false ck]
          row_cond go
          exact hskip
  rintro acc μ ⟨sub, rfl, rfl, hsub, hmany⟩
  have e : (iwSq (Dv.d (Da.lst (fs.map Fld.da))) ((fs.map Fld.da).map Dv.d)).items.length = fs.length := by
    show ((fs.map Fld.da).map Dv.d).length = _
    simp
  rw [e, List.take_length] at hsub
  have hsl : sub.length ≤ 3 := by
    have := hsub.length_le
    rw [List.length_map] at this
    omega
  have hsn : sub.Nodup := hsub.nodup ok.nd
  generalize eμ : μ1 ++ [MO.lst ([] ++ (vs.map Da.int).map .d)] = μ2
  have g6 : ∀ r : MS, (μ2 ++ r)[μ1.length]? = some (.lst ((vs.map Da.int).map .d)) := by
    intro r
    rw [← eμ]
    simp
  row_cond go
  refine ⟨_, _, fzs_cons rfl (fzs_cons (fz1_last (xs := [.int 1, .int 2, .int 2, .int 4])) (by rfl)), ?_⟩
  refine x_law_one (by decide) (by decide) fun x hx => ?_
  obtain ⟨m, hm, rfl⟩ : ∃ m : Nat, m ≤ 4 ∧ x = .int m := by
    simp only [List.mem_cons, List.not_mem_nil, or_false] at hx
    rcases hx with rfl | rfl | rfl | rfl
    · exact ⟨1, by decide, rfl⟩
    · exact ⟨2, by decide, rfl⟩
    · exact ⟨2, by decide, rfl⟩
    · exact ⟨4, by decide, rfl⟩
  row_cond go
  refine x_law_deeds ok (by omega) fun ds hdl hdd hdn => ?_
  row_cond go
  by_cases cs : hand = "self"
  · rw [show decide (V.str hand = V.str "self") = true from decide_eq_true (by rw [cs])]
    row_cond go
    refine ⟨show 5 ≤ sizeLine by decide, ?_⟩
    refine ⟨_, .tp (.cons (.d _) (.cons (.d _) (.cons (.lst (by rw [List.append_assoc, List.append_assoc]; exact g6 _) (RzAll.map _ _)) (.cons (.d _) (.cons (.lst get_last .nil) .nil))))), ?_⟩
    exact h ⟨nm, hand, vs, ds, []⟩ rfl rfl ⟨hw, hh, hvl', h4, hvr, Nat.le_trans hdl hm, hdd, hdn, by simp, by simp, by simp, fun _ => rfl⟩
  · rw [show decide (V.str hand = V.str "self") = false from decide_eq_false (by intro z; cases z; exact cs rfl)]
    row_cond go
    refine ⟨show 5 ≤ sizeLine by decide, ?_⟩
    refine ⟨_, .tp (.cons (.d _) (.cons (.d _) (.cons (.lst (by rw [List.append_assoc]; exact g6 _) (RzAll.map _ _)) (.cons (.d _) (.cons (.lst (by rw [List.append_assoc]; exact get_mid) (RzAll.map _ _)) .nil))))), ?_⟩
    exact h ⟨nm, hand, vs, ds, sub⟩ rfl rfl ⟨hw, hh, hvl', h4, hvr, Nat.le_trans hdl hm, hdd, hdn, hmany, hsn, hsl, fun z => absurd z cs⟩
end
end Mz
end
section
set_option Elab.async false
set_option linter.all false
set_option maxRecDepth 100000
set_option maxHeartbeats 1000000
namespace Mz
open PySem L2
local macro_rules | `(tactic| row_cond sd) => `(tactic| first | with_reducible assumption | with_reducible exact rfl | exact rfl | exact True.intro | assumption | decide)
local macro_rules | `(tactic| row_cond st) => `(tactic| first
  | refine And.intro (by row_cond sd) ?_
  | refine ⟨_, by row_cond sd, ?_⟩
  | refine ⟨_, _, by row_cond sd, ?_⟩
  | refine ⟨_, _, by row_cond sd, by row_cond sd, ?_⟩
  | refine ⟨_, _, _, by row_cond sd, ?_⟩
  | refine ⟨_, _, _, by row_cond sd, by row_cond sd, ?_⟩
  | refine ⟨_, _, _, by row_cond sd, by row_cond sd, by row_cond sd, ?_⟩
  | refine ⟨_, _, _, _, by row_cond sd, ?_⟩
  | refine ⟨_, _, _, _, by row_cond sd, by row_cond sd, by row_cond sd, ?_⟩
  | refine ⟨_, _, _, _, by row_cond sd, by row_cond sd, by row_cond sd, by row_cond sd, ?_⟩
  | refine iteT ?_
  | refine iteF ?_)
local macro_rules | `(tactic| row_cond go) => `(tactic| repeat (row_cond st))
abbrev FIVE : List Str := ["a", "need", "many", "do", "quantity"]
abbrev NAMES : List Str := ["add", "put", "cut", "make", "jqzxvkgw"]
def planDa (A : Ad) (kd : KD) : Da := .dct [(.inr "fields", .lst (kd.fs.map Fld.da)), (.inr "calls", .lst (kd.cs.map Cal.drawn)), (.inr "modes", .int kd.md), (.inr "known", kindDa A kd)]
theorem five_words : ∀ s ∈ FIVE, (Da.str s).isWord = true := by decide +kernel
theorem names_words : ∀ s ∈ NAMES, (Da.str s).isWord = true := by decide +kernel
theorem build_word : (Da.str "build").isWord = true := by decide +kernel
theorem flds_are : ∀ fs : List Fld, Paired isFld (fs.map Fld.da) fs
  | [] => .nil
  | _ :: r => .cons rfl (flds_are r)
theorem cals_are : ∀ cs : List Cal, Paired isCal (cs.map Cal.drawn) cs
  | [] => .nil
  | c :: r => .cons (drawn_is c) (cals_are r)
structure Drawn (kd : KD) (wide many far : Int) : Prop where
  ok : KDOk kd
  fl : (kd.fs.length : Int) ≤ wide
  fn : ∀ f ∈ kd.fs, f.nm ∈ FIVE
  md : kd.md ≤ far
  cs : ∃ n : Nat, 1 ≤ n ∧ (n : Int) ≤ many - 1 ∧ kd.cs.map Cal.nm = NAMES.take n ++ [("build" : Str)]
  bl : ∀ c ∈ kd.cs, c.nm = "build" → c.hand = "last"
theorem sq_at {μ : MS} {n : Nat} {ys : List Dv} (h : μ[n]? = some (.lst ys)) : sqV μ (.ob n) = some ys := by
  show (match μ[n]? with
    | some (.lst ds) => some ds
    | some (.frz (.lst ds)) => some (ds.map .d)
    | _ => none) = _
  rw [h]
theorem ls_at {μ : MS} {n : Nat} {ys : List Dv} (h : μ[n]? = some (.lst ys)) : lsV μ (.ob n) = some ys := sq_at h
theorem ls_some {μ : MS} {d : Dv} {ys : List Dv} (h : lsV μ d = some ys) : (lsV μ d).isSome = true := by rw [h]; rfl
theorem cut_names {n : Nat} (h1 : 1 ≤ n) (h5 : n ≤ 5) : cutD [Dv.d (Da.str "add"), Dv.d (Da.str "put"), Dv.d (Da.str "cut"), Dv.d (Da.str "make"), Dv.d (Da.str "jqzxvkgw")] none (some (n : Int)) = (NAMES.take n).map fun s => .d (.str s) := by
  have : n = 1 ∨ n = 2 ∨ n = 3 ∨ n = 4 ∨ n = 5 := by omega
  rcases this with rfl | rfl | rfl | rfl | rfl <;> rfl
section
variable {A : Ad} {K : PySem.W.Frag} {E : Ex → Prop} {Q : Da → Prop}
theorem x_law_kind {wide many far : Int} (w1 : 1 ≤ wide) (w3 : wide ≤ 3) (n2 : 2 ≤ many) (n6 : many ≤ 6) (f1 : 1 ≤ far) (f4 : far ≤ 4)
    (h : ∀ kd : KD, Drawn kd wide many far → Q (planDa A kd)) : m_law_kind A K [.st, .int wide, .int many, .int far] E Q := by
  unfold m_law_kind
  refine ⟨rfl, ?_⟩
  unfold b_law_kind
  row_cond go
  refine x_law_mix (ss := FIVE) (by decide) (by decide +kernel) fun ys hys => ?_
  row_cond go
  refine x_law_take (by omega) (by omega) fun k k0 k1 => ?_
  row_cond go
  refine ⟨by omega, ?_⟩
  row_cond go
  have hyl : ys.length = 5 := hys.length_eq
  refine loop_by (fun i α μ => ∃ (fs : List Fld) (s6 : Option Dv) (g : MS), α = [some (.d .st), some (.d (.int wide)), some (.d (.int many)), some (.d (.int far)), some (.ob 0), some (.d (.lst (ys.map Da.str))), s6, none, none, none] ∧ μ = .lst ((fs.map Fld.da).map .d) :: g ∧ fs.map Fld.nm = ys.take i ∧ fs.length = i) ?_ ?_ ⟨[], none, _, rfl, rfl, rfl, rfl⟩
  · rintro i y α μ N hy ⟨fs, s6, g, rfl, rfl, hfn, hfl⟩ hN
    have hi : i < 3 := by
      have := (List.getElem?_eq_some_iff.mp hy).1
      simp [iwR, rngD] at this
      omega
    obtain rfl : y = .d (.int (i : Nat)) := by
      have := (List.getElem?_eq_some_iff.mp hy).2
      rw [← this]
      simp [iwR, rngD]
    row_cond go
    have hiy : i < ys.length := by omega
    refine ⟨_, ix_items (d := .lst (ys.map Da.str)) (x := .str ys[i]) rfl rfl (by simp) _, ?_⟩
    row_cond go
    refine ⟨_, _, fzs_cons rfl (fzs_cons (fz1_last (μ := _ :: g) (xs := [.str "many", .str "many", .str "one"])) (by rfl)), ?_⟩
    refine x_law_one (by decide) (by decide) fun x hx => ?_
    obtain ⟨b, rfl⟩ : ∃ b : Bool, x = .str (if b then "many" else "one") := by
      simp only [List.mem_cons, List.not_mem_nil, or_false] at hx
      rcases hx with rfl | rfl | rfl
      · exact ⟨true, rfl⟩
      · exact ⟨true, rfl⟩
      · exact ⟨false, rfl⟩
    row_cond go
    refine x_law_take (by decide) (by decide) fun k2 _ _ => ?_
    row_cond go
    refine ⟨show 3 ≤ sizeLine by decide, ?_⟩
    refine ⟨_, _, _, rfl, rfl, rfl, Nat.lt_of_le_of_lt (m := 3) (by simp; omega) (by decide), ?_⟩
    refine ⟨trivial, hN _ _ ⟨fs ++ [⟨ys[i], b, decide (V.int k2 = V.int 0)⟩], _, _, rfl, by rw [List.map_append, List.map_append]; rfl, ?_, by simp [hfl]⟩⟩
    rw [List.map_append, hfn, take_snoc (List.getElem?_eq_getElem hiy)]
    rfl
  rintro α μ ⟨fs, s6, g, rfl, rfl, hfn, hfl⟩
  have hnf : (fs.map Fld.nm).Nodup := by
    rw [hfn]
    exact (List.take_sublist _ _).nodup (hys.nodup_iff.mpr (by decide))
  have hfl' : fs.length = (1 + k).toNat := by rw [hfl]; simp [iwR, rngD]
  have hfi : ∀ f ∈ fs, f.nm ∈ FIVE := by
    intro f hf
    have : f.nm ∈ fs.map Fld.nm := List.mem_map.mpr ⟨f, hf, rfl⟩
    rw [hfn] at this
    exact hys.mem_iff.mp (List.mem_of_mem_take this)
  have okf : FldsOk fs := ⟨by omega, by omega, fun f hf => five_words _ (hfi f hf), hnf⟩
  row_cond go
  refine x_law_take (by omega) (by omega) fun md md0 md1 => ?_
  row_cond go
  refine x_law_take (by omega) (by omega) fun kn kn0 kn1 => ?_
  row_cond go
  refine ⟨_, lsV_last, ?_⟩
  refine ⟨_, sqV_last, sqV_last, ?_⟩
  dsimp only
  obtain ⟨n, hn⟩ : ∃ n : Nat, 1 + kn = (n : Int) := ⟨(1 + kn).toNat, by omega⟩
  have hn1 : 1 ≤ n := by omega
  have hn5 : n ≤ 5 := by omega
  rw [hn, cut_names hn1 hn5]
  generalize hL : MO.lst [Dv.d (Da.str "add"), Dv.d (Da.str "put"), Dv.d (Da.str "cut"), Dv.d (Da.str "make"), Dv.d (Da.str "jqzxvkgw")] = L
  generalize hq : List.length (MO.lst ((fs.map Fld.da).map .d) :: g ++ [MO.lst []] ++ [L]) = q
  have hq' : ∀ o0 a b : MO, q = ((o0 :: g) ++ [a, b]).length := by intro o0 a b; rw [← hq]; simp
  generalize hSL : ((NAMES.take n).map fun s => Dv.d (.str s)) = SL
  have hgd : ∀ (o0 c : MO) (r : MS), sqV ((o0 :: g) ++ c :: L :: .lst SL :: r) (.ob q) = some SL := by
    intro o0 c r
    refine sq_at ?_
    rw [hq' o0 c L]
    exact get_mid2
  have hf0 : ∀ (o0 : MO) (r : MS), (o0 = .lst ((fs.map Fld.da).map .d) ∨ o0 = .frz (.lst (fs.map Fld.da))) → fz1 (o0 :: g ++ r) (.ob 0) = some (.frz (.lst (fs.map Fld.da)) :: g ++ r, .lst (fs.map Fld.da)) := by
    rintro o0 r (rfl | rfl)
    · exact fz1_lst rfl
    · exact fz1_pu rfl
  have hset : ∀ (o x y : MO) (r : MS), (o :: g ++ x :: r).set (g.length + 1) y = o :: g ++ y :: r := fun o x y r => set_mid (l := o :: g)
  refine loop_by (fun i α μ => ∃ (cs : List Cal) (o0 : MO) (s9 : Option Dv) (r : MS), α = [some (.d .st), some (.d (.int wide)), some (.d (.int many)), some (.d (.int far)), some (.ob 0), some (.d (.lst (ys.map Da.str))), s6, some (.d (.int (1 + md))), some (.ob (g.length + 1)), s9] ∧ (o0 = .lst ((fs.map Fld.da).map .d) ∨ o0 = .frz (.lst (fs.map Fld.da))) ∧ μ = (o0 :: g) ++ .lst ((cs.map Cal.drawn).map .d) :: L :: .lst SL :: r ∧ cs.map Cal.nm = NAMES.take i ∧ cs.length = i ∧ (∀ c ∈ cs, CalOk fs (1 + md) c)) ?_ ?_ ⟨[], _, none, [], rfl, .inl rfl, by simp, rfl, rfl, by simp⟩
  · rintro i y α μ N hy ⟨cs, o0, s9, r, rfl, ho, rfl, hcn, hcl, hck⟩ hN
    have hiN : i < n ∧ i < 5 := by
      have := (List.getElem?_eq_some_iff.mp hy).1
      rw [show (iwSq (Dv.ob q) SL).items = SL from rfl, ← hSL] at this
      simp at this
      omega
    obtain ⟨s, hs1, rfl⟩ : ∃ s, NAMES[i]? = some s ∧ y = .d (.str s) := by
      rw [show (iwSq (Dv.ob q) SL).items = SL from rfl, ← hSL] at hy
      obtain ⟨s, hs, e⟩ := map_get hy
      rw [List.getElem?_take] at hs
      rw [if_pos hiN.1] at hs
      exact ⟨s, hs, e⟩
    row_cond go
    refine ⟨ls_some (ls_at (get_mid (l := o0 :: g))), ?_⟩
    row_cond go
    refine ⟨_, _, fzs_cons rfl (fzs_cons (fz1_last (xs := [.str "self", .str "new", .str "self", .str "new", .str "last"])) (by rfl)), ?_⟩
    refine x_law_one (by decide) (by decide) fun x hx => ?_
    obtain ⟨hand, hh, rfl⟩ : ∃ hand, hand ∈ (["self", "new", "last"] : List Str) ∧ x = .str hand := by
      simp only [List.mem_cons, List.not_mem_nil, or_false] at hx
      rcases hx with rfl | rfl | rfl | rfl | rfl
      all_goals exact ⟨_, by decide, rfl⟩
    dsimp only
    rw [List.append_assoc]
    row_cond go
    refine ⟨_, _, fzs_cons rfl (fzs_cons rfl (fzs_cons rfl (fzs_cons (hf0 o0 _ ho) (by rfl)))), ?_⟩
    refine x_law_call okf (names_words s (List.mem_of_getElem? hs1)) hh (by omega) (by omega) fun c ec1 ec2 okc => ?_
    row_cond go
    refine ⟨_, _, _, rfl, rfl, get_mid (l := _ :: g), Nat.lt_of_le_of_lt (m := 5) (by simp; omega) (by decide), ?_⟩
    show (iwSq (Dv.ob q) SL).gd (List.set (_ :: g ++ _ :: _) (g.length + 1) _) ∧ N _ (List.set (_ :: g ++ _ :: _) (g.length + 1) _)
    rw [hset]
    refine ⟨hgd _ _ _, hN _ _ ⟨cs ++ [c], _, _, r ++ _, rfl, .inr rfl, by rw [List.map_append, List.map_append]; rfl, ?_, by simp [hcl], ?_⟩⟩
    · rw [List.map_append, hcn, take_snoc hs1]
      show _ ++ [c.nm] = _
      rw [ec1]
    · intro c' hc'
      rcases List.mem_append.mp hc' with hc' | hc'
      · exact hck c' hc'
      · rw [List.mem_singleton.mp hc']; exact okc
  rintro α μ ⟨cs, o0, s9, r, rfl, ho, rfl, hcn, hcl, hck⟩
  have hSl : (iwSq (Dv.ob q) SL).items.length = n := by
    show SL.length = n
    rw [← hSL]
    simp
    omega
  rw [hSl] at hcl hcn
  row_cond go
  refine ⟨ls_some (ls_at (get_mid (l := o0 :: g))), ?_⟩
  row_cond go
  refine ⟨_, _, fzs_cons rfl (fzs_cons rfl (fzs_cons rfl (fzs_cons (hf0 o0 _ ho) (by rfl)))), ?_⟩
  refine x_law_call okf build_word (by decide) (by omega) (by omega) fun c ec1 ec2 okc => ?_
  row_cond go
  refine ⟨_, _, _, rfl, rfl, get_mid (l := _ :: g), Nat.lt_of_le_of_lt (m := 5) (by simp; omega) (by decide), ?_⟩
  dsimp only
  rw [hset, show (cs.map Cal.drawn).map Dv.d ++ [Dv.d c.drawn] = ((cs ++ [c]).map Cal.drawn).map .d by simp]
  row_cond go
  refine ⟨_, _, fzs_cons (fz1_pu rfl) (fzs_cons (fz1_lst (get_mid (l := _ :: g))) (by rfl)), ?_⟩
  have hcs : ∀ c' ∈ cs ++ [c], CalOk fs (1 + md) c' := by
    intro c' hc'
    rcases List.mem_append.mp hc' with hc' | hc'
    · exact hck c' hc'
    · rw [List.mem_singleton.mp hc']; exact okc
  have hnm : (cs ++ [c]).map Cal.nm = NAMES.take n ++ [("build" : Str)] := by
    rw [List.map_append, hcn]
    show _ ++ [c.nm] = _
    rw [ec1]
  have hnd : ((cs ++ [c]).map Cal.nm).Nodup := by
    rw [hnm]
    have : n = 1 ∨ n = 2 ∨ n = 3 ∨ n = 4 ∨ n = 5 := by omega
    rcases this with e | e | e | e | e <;> rw [e] <;> decide +kernel
  have okd : KDOk ⟨fs, cs ++ [c], 1 + md⟩ := ⟨okf, by show 1 ≤ 1 + md; omega, by show 1 + md ≤ 4; omega, by simp, by simp; omega, hcs, hnd⟩
  refine x_law_plan (kd := ⟨fs, cs ++ [c], 1 + md⟩) ⟨_, rfl, flds_are _⟩ ⟨_, rfl, cals_are _⟩ okd ?_
  refine ⟨_, .d _, h ⟨fs, cs ++ [c], 1 + md⟩ ⟨okd, ?_, hfi, ?_, ⟨n, hn1, by omega, hnm⟩, ?_⟩⟩
  · show (fs.length : Int) ≤ wide
    omega
  · show 1 + md ≤ far
    omega
  · intro c' hc' eb
    rcases List.mem_append.mp hc' with hc' | hc'
    · exfalso
      have : c'.nm ∈ cs.map Cal.nm := List.mem_map.mpr ⟨c', hc', rfl⟩
      rw [hcn, eb] at this
      exact absurd (List.mem_of_mem_take this) (by decide +kernel)
    · rw [List.mem_singleton.mp hc']; exact ec2
end
end Mz
end
section
set_option Elab.async false
set_option linter.all false
set_option maxRecDepth 100000
set_option maxHeartbeats 1000000
namespace Mz
open PySem L2
open TL
/-! ### lines, plain -/
inductive Ln where
  | modes (m : Int) | fld (f : Fld) | cal (nm hand : Str) (ms : List Int) | deed (p : Str × Str) | same (s : Str)
abbrev toS (m : Int) : Str := Str.ofString (toString m)
def Ln.words : Ln → List Str
  | .modes m => ["modes", toS m]
  | .fld f => ([("field" : Str), f.nm, f.sort] : List Str) ++ (if f.need = true then [("need" : Str)] else [])
  | .cal nm hand ms => ([("call" : Str), nm, hand] : List Str) ++ ms.map toS
  | .deed p => ["do", p.1, p.2]
  | .same s => ["same", s]
def Ln.line (l : Ln) : Str := Txt.join " " l.words
def calLns (c : Cal) : List Ln := .cal c.nm c.hand c.moves :: (c.deeds.map .deed ++ c.same.map .same)
def Num (m : Int) : Prop := -1 ≤ m ∧ m ≤ 4
def LnOk : Ln → Prop
  | .modes m => Num m ∧ 1 ≤ m
  | .fld f => (Da.str f.nm).isWord = true
  | .cal nm hand ms => (Da.str nm).isWord = true ∧ (Da.str hand).isWord = true ∧ ms.length ≤ 4 ∧ ∀ m ∈ ms, Num m
  | .deed p => (Da.str p.1).isWord = true ∧ (Da.str p.2).isWord = true
  | .same s => (Da.str s).isWord = true
theorem len_tl (s : Str) : s.length = (tl s).length := by
  unfold Str.length tl; simp
theorem deeds_words {t d : Str} (h : d ∈ deedsOf t) : (Da.str d).isWord = true := by
  unfold deedsOf at h
  by_cases c : t = "many"
  · rw [if_pos c] at h
    simp only [List.mem_cons, List.not_mem_nil, or_false] at h
    rcases h with rfl | rfl | rfl | rfl <;> decide
  · rw [if_neg c] at h
    simp only [List.mem_cons, List.not_mem_nil, or_false] at h
    rcases h with rfl | rfl <;> decide
theorem sortOf_mem {fs : List Fld} {s t : Str} (h : sortOf fs s = some t) : ∃ f ∈ fs, f.nm = s := by
  unfold sortOf at h
  cases e : fs.find? fun f => decide (f.nm = s) with
  | none => rw [e] at h; cases h
  | some f => exact ⟨f, List.mem_of_find?_eq_some e, by simpa using List.find?_some e⟩
theorem calLns_ok {fs : List Fld} {md : Int} {c : Cal} (fok : FldsOk fs) (ok : CalOk fs md c) : ∀ l ∈ calLns c, LnOk l := by
  intro l hl
  unfold calLns at hl
  rcases List.mem_cons.mp hl with rfl | hl
  · refine ⟨ok.wd, ?_, ?_, fun m hm => ⟨(ok.mv m hm).1, ?_⟩⟩
    · have := ok.hd
      simp only [List.mem_cons, List.not_mem_nil, or_false] at this
      rcases this with e | e | e <;> (rw [e]; decide)
    · have h1 := ok.ml
      have h2 := ok.m4
      omega
    · have h1 := (ok.mv m hm).2
      have h2 := ok.m4
      omega
  · rcases List.mem_append.mp hl with hl | hl
    · obtain ⟨p, hp, rfl⟩ := List.mem_map.mp hl
      obtain ⟨t, ht, hd⟩ := ok.dd p hp
      obtain ⟨f, hf, e⟩ := sortOf_mem ht
      exact ⟨deeds_words hd, by rw [← e]; exact fok.wd f hf⟩
    · obtain ⟨s, hs, rfl⟩ := List.mem_map.mp hl
      obtain ⟨f, hf, e⟩ := sortOf_mem (ok.sm s hs)
      show (Da.str s).isWord = true
      rw [← e]; exact fok.wd f hf
/-! ### what the lines, read one by one, make -/
def onLast (f : Cal → Cal) : List Cal → List Cal
  | [] => []
  | [c] => [f c]
  | c :: z :: r => c :: onLast f (z :: r)
def rdLn (r : KD) : Ln → KD
  | .modes m => ⟨r.fs, r.cs, m⟩
  | .fld f => ⟨r.fs ++ [f], r.cs, r.md⟩
  | .cal nm hand ms => ⟨r.fs, r.cs ++ [⟨nm, hand, ms, [], []⟩], r.md⟩
  | .deed p => ⟨r.fs, onLast (fun c => { c with deeds := c.deeds ++ [p] }) r.cs, r.md⟩
  | .same s => ⟨r.fs, onLast (fun c => { c with same := c.same ++ [s] }) r.cs, r.md⟩
def Fits (r : KD) (j : Nat) : Ln → Prop
  | .modes _ => j = 0
  | .fld _ => j ≠ 0 ∧ r.cs = []
  | .cal _ _ _ => j ≠ 0
  | .deed _ => j ≠ 0 ∧ ∃ cs0 c, r.cs = cs0 ++ [c] ∧ c.same = []
  | .same _ => j ≠ 0 ∧ ∃ cs0 c, r.cs = cs0 ++ [c]
def Reads : KD → Nat → List Ln → KD → Prop
  | r, _, [], r' => r = r'
  | r, j, l :: ls, r' => Fits r j l ∧ LnOk l ∧ Reads (rdLn r l) (j + 1) ls r'
theorem Reads.app : ∀ {r r' r'' : KD} {j : Nat} {a b : List Ln}, Reads r j a r' → Reads r' (j + a.length) b r'' → Reads r j (a ++ b) r''
  | _, _, _, _, [], _, h, k => by
    obtain rfl : _ = _ := h
    exact k
  | _, _, _, j, l :: ls, b, h, k => ⟨h.1, h.2.1, Reads.app h.2.2 (by
      have e : j + 1 + ls.length = j + (l :: ls).length := by simp; omega
      rw [e]; exact k)⟩
/-! ### the lines as they are written -/
end Mz
end
section
set_option Elab.async false
set_option linter.all false
set_option maxRecDepth 100000
set_option maxHeartbeats 1000000
namespace Mz
open PySem L2 TL
local macro_rules | `(tactic| row_cond sd) => `(tactic| first | with_reducible assumption | with_reducible exact rfl | exact rfl | exact True.intro | assumption | decide)
local macro_rules | `(tactic| row_cond st) => `(tactic| first
  | refine And.intro (by row_cond sd) ?_
  | refine ⟨_, by row_cond sd, ?_⟩
  | refine ⟨_, _, by row_cond sd, ?_⟩
  | refine ⟨_, _, by row_cond sd, by row_cond sd, ?_⟩
  | refine ⟨_, _, _, by row_cond sd, ?_⟩
  | refine ⟨_, _, _, by row_cond sd, by row_cond sd, ?_⟩
  | refine ⟨_, _, _, by row_cond sd, by row_cond sd, by row_cond sd, ?_⟩
  | refine ⟨_, _, _, _, by row_cond sd, ?_⟩
  | refine ⟨_, _, _, _, by row_cond sd, by row_cond sd, by row_cond sd, ?_⟩
  | refine ⟨_, _, _, _, by row_cond sd, by row_cond sd, by row_cond sd, by row_cond sd, ?_⟩
  | refine iteT ?_
  | refine iteF ?_)
local macro_rules | `(tactic| row_cond go) => `(tactic| repeat (row_cond st))
theorem app_len (a b : Str) : (a ++ b).length = a.length + b.length := by
  rw [len_tl, len_tl, len_tl, tl_append, List.length_append]
theorem lt_emp : Str.empty.length = 0 := rfl
theorem lt_modes : (Str.ofString "modes ").length = 6 := by decide
theorem lt_field : (Str.ofString "field ").length = 6 := by decide
theorem lt_do : (Str.ofString "do ").length = 3 := by decide
theorem lt_same : (Str.ofString "same ").length = 5 := by decide
theorem lt_sp : (Str.ofString " ").length = 1 := by decide
theorem lt_nl : (Str.ofString "\n").length = 1 := by decide
theorem lt_need : (Str.ofString " need").length = 5 := by decide
theorem lt_none : (Str.ofString "").length = 0 := by decide
theorem line_k : (1000 : Nat) ≤ sizeLine := by decide
local macro_rules | `(tactic| row_cond ln) => `(tactic| (refine Nat.le_trans (m := 1000) ?_ line_k; (try simp only [app_len, lt_emp, lt_modes, lt_field, lt_do, lt_same, lt_sp, lt_nl, lt_need, lt_none]); omega))
end Mz
end
section
set_option Elab.async false
set_option linter.all false
set_option maxRecDepth 100000
set_option maxHeartbeats 1000000
namespace Mz
open PySem L2 TL
local macro_rules | `(tactic| row_cond sd) => `(tactic| first | with_reducible assumption | with_reducible exact rfl | exact rfl | exact True.intro | assumption | decide)
local macro_rules | `(tactic| row_cond st) => `(tactic| first
  | refine And.intro (by row_cond sd) ?_
  | refine ⟨_, by row_cond sd, ?_⟩
  | refine ⟨_, _, by row_cond sd, ?_⟩
  | refine ⟨_, _, by row_cond sd, by row_cond sd, ?_⟩
  | refine ⟨_, _, _, by row_cond sd, ?_⟩
  | refine ⟨_, _, _, by row_cond sd, by row_cond sd, ?_⟩
  | refine ⟨_, _, _, by row_cond sd, by row_cond sd, by row_cond sd, ?_⟩
  | refine ⟨_, _, _, _, by row_cond sd, ?_⟩
  | refine ⟨_, _, _, _, by row_cond sd, by row_cond sd, by row_cond sd, ?_⟩
  | refine ⟨_, _, _, _, by row_cond sd, by row_cond sd, by row_cond sd, by row_cond sd, ?_⟩
  | refine iteT ?_
  | refine iteF ?_)
local macro_rules | `(tactic| row_cond go) => `(tactic| repeat (row_cond st))
local macro_rules | `(tactic| row_cond ln) => `(tactic| (refine Nat.le_trans (m := 1000) ?_ line_k; (try simp only [app_len, lt_emp, lt_modes, lt_field, lt_do, lt_same, lt_sp, lt_nl, lt_need, lt_none]); omega))
end Mz
end
section
set_option Elab.async false
set_option linter.all false
set_option maxRecDepth 100000
set_option maxHeartbeats 1000000
namespace Mz
open PySem L2 TL
local macro_rules | `(tactic| row_cond sd) => `(tactic| first | with_reducible assumption | with_reducible exact rfl | exact rfl | exact True.intro | assumption | decide)
local macro_rules | `(tactic| row_cond st) => `(tactic| first
  | refine And.intro (by row_cond sd) ?_
  | refine ⟨_, by row_cond sd, ?_⟩
  | refine ⟨_, _, by row_cond sd, ?_⟩
  | refine ⟨_, _, by row_cond sd, by row_cond sd, ?_⟩
  | refine ⟨_, _, _, by row_cond sd, ?_⟩
  | refine ⟨_, _, _, by row_cond sd, by row_cond sd, ?_⟩
  | refine ⟨_, _, _, by row_cond sd, by row_cond sd, by row_cond sd, ?_⟩
  | refine ⟨_, _, _, _, by row_cond sd, ?_⟩
  | refine ⟨_, _, _, _, by row_cond sd, by row_cond sd, by row_cond sd, ?_⟩
  | refine ⟨_, _, _, _, by row_cond sd, by row_cond sd, by row_cond sd, by row_cond sd, ?_⟩
  | refine iteT ?_
  | refine iteF ?_)
local macro_rules | `(tactic| row_cond go) => `(tactic| repeat (row_cond st))
end Mz
end
section
set_option Elab.async false
set_option linter.all false
set_option maxRecDepth 100000
set_option maxHeartbeats 1000000
namespace Mz
open PySem L2 TL
local macro_rules | `(tactic| row_cond sd) => `(tactic| first | with_reducible assumption | with_reducible exact rfl | exact rfl | exact True.intro | assumption | decide)
local macro_rules | `(tactic| row_cond st) => `(tactic| first
  | refine And.intro (by row_cond sd) ?_
  | refine ⟨_, by row_cond sd, ?_⟩
  | refine ⟨_, _, by row_cond sd, ?_⟩
  | refine ⟨_, _, by row_cond sd, by row_cond sd, ?_⟩
  | refine ⟨_, _, _, by row_cond sd, ?_⟩
  | refine ⟨_, _, _, by row_cond sd, by row_cond sd, ?_⟩
  | refine ⟨_, _, _, by row_cond sd, by row_cond sd, by row_cond sd, ?_⟩
  | refine ⟨_, _, _, _, by row_cond sd, ?_⟩
  | refine ⟨_, _, _, _, by row_cond sd, by row_cond sd, by row_cond sd, ?_⟩
  | refine ⟨_, _, _, _, by row_cond sd, by row_cond sd, by row_cond sd, by row_cond sd, ?_⟩
  | refine iteT ?_
  | refine iteF ?_)
local macro_rules | `(tactic| row_cond go) => `(tactic| repeat (row_cond st))
/-! ### all lists of data frozen -/
/-! ### what the reader has read -/
abbrev calTp (c : Cal) (m d s : Nat) : Dv := .tp [.d (.str c.nm), .d (.str c.hand), .ob (m + 5), .ob (d + 5), .ob (s + 5)]
structure CalAt (g : MS) (c : Cal) (m d s : Nat) : Prop where
  m : g[m]? = some (.lst ((c.moves.map Da.int).map .d))
  d : g[d]? = some (.lst ((c.deeds.map pairDa).map .d))
  s : g[s]? = some (.lst ((c.same.map Da.str).map .d))
def OldAt (g : MS) (b : Nat) (cs : List Cal) (items : List Dv) : Prop := Paired (fun c x => ∃ m d s, m < b ∧ d < b ∧ s < b ∧ x = calTp c m d s ∧ CalAt g c m d s) cs items
def RdC (g : MS) (cs : List Cal) (items : List Dv) : Prop := (cs = [] ∧ items = []) ∨ ∃ cs0 c items0 b m d s, cs = cs0 ++ [c] ∧ items = items0 ++ [calTp c m d s] ∧ OldAt g b cs0 items0 ∧ b ≤ m ∧ m < d ∧ d < s ∧ CalAt g c m d s
abbrev rdIns (A : Ad) (md : Int) : MO := .ins A.TextReader [("modes_read", .d (.int md)), ("fields_read", .ob 1), ("calls_read", .ob 2)]
def RdSt (A : Ad) (L S : MO) (r : KD) (μ : MS) : Prop := ∃ items g, μ = rdIns A r.md :: .lst ((r.fs.map Fld.da).map .d) :: .lst items :: L :: S :: g ∧ RdC g r.cs items
theorem CalAt.app {g r : MS} {c : Cal} {m d s : Nat} (h : CalAt g c m d s) : CalAt (g ++ r) c m d s :=
  ⟨by rw [List.getElem?_append_left (List.getElem?_eq_some_iff.mp h.m).1]; exact h.m, by rw [List.getElem?_append_left (List.getElem?_eq_some_iff.mp h.d).1]; exact h.d, by rw [List.getElem?_append_left (List.getElem?_eq_some_iff.mp h.s).1]; exact h.s⟩
theorem OldAt.app {g r : MS} {b : Nat} : ∀ {cs : List Cal} {items : List Dv}, OldAt g b cs items → OldAt (g ++ r) b cs items
  | _, _, .nil => .nil
  | _, _, .cons ⟨m, d, s, h1, h2, h3, h4, h5⟩ t => .cons ⟨m, d, s, h1, h2, h3, h4, h5.app⟩ (OldAt.app t)
theorem RdC.app {g r : MS} {cs : List Cal} {items : List Dv} (h : RdC g cs items) : RdC (g ++ r) cs items := by
  rcases h with h | ⟨cs0, c, items0, b, m, d, s, h1, h2, h3, h4, h5, h6, h7⟩
  · exact .inl h
  · exact .inr ⟨cs0, c, items0, b, m, d, s, h1, h2, h3.app, h4, h5, h6, h7.app⟩
end Mz
end
section
set_option Elab.async false
set_option linter.all false
set_option maxRecDepth 100000
set_option maxHeartbeats 1000000
namespace Mz
open PySem L2 TL
local macro_rules | `(tactic| row_cond sd) => `(tactic| first | with_reducible assumption | with_reducible exact rfl | exact rfl | exact True.intro | assumption | decide)
local macro_rules | `(tactic| row_cond st) => `(tactic| first
  | refine And.intro (by row_cond sd) ?_
  | refine ⟨_, by row_cond sd, ?_⟩
  | refine ⟨_, _, by row_cond sd, ?_⟩
  | refine ⟨_, _, by row_cond sd, by row_cond sd, ?_⟩
  | refine ⟨_, _, _, by row_cond sd, ?_⟩
  | refine ⟨_, _, _, by row_cond sd, by row_cond sd, ?_⟩
  | refine ⟨_, _, _, by row_cond sd, by row_cond sd, by row_cond sd, ?_⟩
  | refine ⟨_, _, _, _, by row_cond sd, ?_⟩
  | refine ⟨_, _, _, _, by row_cond sd, by row_cond sd, by row_cond sd, ?_⟩
  | refine ⟨_, _, _, _, by row_cond sd, by row_cond sd, by row_cond sd, by row_cond sd, ?_⟩
  | refine iteT ?_
  | refine iteF ?_)
local macro_rules | `(tactic| row_cond go) => `(tactic| repeat (row_cond st))
section
variable {A : Ad} {K : PySem.W.Frag} {E : XS} {Q : DK} {L S : MO} {r : KD} {μ : MS}
theorem len_ob {w : Nat} {ys : List Dv} (h : sqV μ (.ob w) = some ys) : lenD μ (.ob w) = some ys.length := by
  show (match sqV μ (.ob w) with
    | some ds => some ds.length
    | none => (dcV μ (.ob w)).map List.length) = _
  rw [h]
/-! ### shapes of data for == -/
def Sh (n : Nat) (p : PyData) : Prop := p.canLay0 = true ∧ p.depth ≤ n
theorem Sh.ok {n : Nat} {p : PyData} (h : Sh n p) (hn : n ≤ 64) : SeqAt.shaped p = true := by
  unfold SeqAt.shaped
  rw [h.1]
  have := h.2
  simp; omega
theorem sh_str {n : Nat} {s : Str} (h : (Da.str s).isWord = true) : Sh n (.str s) := by
  refine ⟨?_, by simp [PyData.depth]⟩
  simp only [Da.isWord, lowS, Bool.and_eq_true, decide_eq_true_eq, List.all_map, List.all_eq_true] at h
  obtain ⟨_, h3⟩ := h
  show PyData.canLay0 (.str s) = true
  simp only [PyData.canLay0, PyData.strOk]
  rw [← Array.all_toList, List.all_eq_true]
  intro x hx
  have := h3 x hx
  simp only [Function.comp, id, decide_eq_true_eq] at this ⊢
  have hl : ∀ y ∈ LET.cps.toList, y < 1114112 := by decide
  exact hl x this
theorem sh_int {n : Nat} {i : Int} : Sh n (.int i) := ⟨by simp [PyData.canLay0], by simp [PyData.depth]⟩
theorem sh_bl {n : Nat} {i : Bool} : Sh n (.bool i) := ⟨by simp [PyData.canLay0], by simp [PyData.depth]⟩
theorem sh_all {n : Nat} : ∀ {ps : List PyData}, (∀ p ∈ ps, Sh n p) → PyData.canLayAll0 ps = true ∧ PyData.depthAll ps ≤ n
  | [], _ => ⟨by simp [PyData.canLayAll0], by simp [PyData.depthAll]⟩
  | p :: ps, h => by
    obtain ⟨h1, h2⟩ := h p (by simp)
    obtain ⟨h3, h4⟩ := sh_all (ps := ps) fun q hq => h q (by simp [hq])
    refine ⟨by simp [PyData.canLayAll0, h1, h3], ?_⟩
    simp only [PyData.depthAll]
    omega
theorem sh_list {n : Nat} {ps : List PyData} (h : ∀ p ∈ ps, Sh n p) : Sh (n + 1) (.list ps) := by
  obtain ⟨h1, h2⟩ := sh_all h
  refine ⟨by simp [PyData.canLay0, h1], ?_⟩
  simp only [PyData.depth]
  omega
theorem sh_tup {n : Nat} {ps : List PyData} (h : ∀ p ∈ ps, Sh n p) : Sh (n + 1) (.tuple ps) := by
  obtain ⟨h1, h2⟩ := sh_all h
  refine ⟨by simp [PyData.canLay0, h1], ?_⟩
  simp only [PyData.depth]
  omega
theorem pyDs_map {β : Type} {f : β → Da} {g : β → PyData} (h : ∀ x, pyD (f x) = some (g x)) : ∀ l : List β, pyDs (l.map f) = some (l.map g)
  | [] => rfl
  | x :: r => by simp [pyDs, h x, pyDs_map h r]
theorem pyAll_map {μ : MS} {β : Type} {f : β → Da} {g : β → PyData} (h : ∀ x, pyD (f x) = some (g x)) : ∀ l : List β, PyAll μ ((l.map f).map .d) (l.map g)
  | [] => .nil
  | x :: r => .cons (.d (h x)) (pyAll_map h r)
def pairPy (p : Str × Str) : PyData := .tuple [.str p.1, .str p.2]
theorem pyD_pair (p : Str × Str) : pyD (pairDa p) = some (pairPy p) := rfl
/-- a call as read: words all through -/
structure CalW (c : Cal) : Prop where
  nm : (Da.str c.nm).isWord = true
  hd : (Da.str c.hand).isWord = true
  dd : ∀ p ∈ c.deeds, (Da.str p.1).isWord = true ∧ (Da.str p.2).isWord = true
  sm : ∀ s ∈ c.same, (Da.str s).isWord = true
def Cal.py (c : Cal) : PyData := .tuple [.str c.nm, .str c.hand, .list (c.moves.map PyData.int), .list (c.deeds.map pairPy), .list (c.same.map PyData.str)]
theorem sh_pair {p : Str × Str} (h : (Da.str p.1).isWord = true ∧ (Da.str p.2).isWord = true) : Sh 1 (pairPy p) := by
  refine sh_tup fun q hq => ?_
  simp only [List.mem_cons, List.not_mem_nil, or_false] at hq
  rcases hq with rfl | rfl
  · exact sh_str h.1
  · exact sh_str h.2
theorem Sh.mono {n m : Nat} {p : PyData} (h : Sh n p) (hn : n ≤ m) : Sh m p := ⟨h.1, Nat.le_trans h.2 hn⟩
theorem sh_cal {c : Cal} (h : CalW c) : Sh 3 c.py := by
  refine sh_tup fun q hq => ?_
  simp only [List.mem_cons, List.not_mem_nil, or_false] at hq
  rcases hq with rfl | rfl | rfl | rfl | rfl
  · exact sh_str h.nm
  · exact sh_str h.hd
  · refine sh_list fun q hq => ?_
    obtain ⟨i, _, rfl⟩ := List.mem_map.mp hq
    exact sh_int
  · refine sh_list fun q hq => ?_
    obtain ⟨p, hp, rfl⟩ := List.mem_map.mp hq
    exact sh_pair (h.dd p hp)
  · refine sh_list fun q hq => ?_
    obtain ⟨p, hp, rfl⟩ := List.mem_map.mp hq
    exact sh_str (h.sm p hp)
theorem at5 {μ g : MS} {a b x y z : MO} {m : Nat} {o : MO} (e : μ = a :: b :: x :: y :: z :: g) (h : g[m]? = some o) : μ[m + 5]? = some o := by rw [e]; exact h
theorem calAt_py {μ g : MS} {a b x y z : MO} {c : Cal} {m d s : Nat} (e : μ = a :: b :: x :: y :: z :: g) (h : CalAt g c m d s) : PyAt μ (calTp c m d s) c.py :=
  .tup rfl (.cons (.d rfl) (.cons (.d rfl) (.cons (.lst (ls_at (at5 e h.m)) (pyAll_map (fun _ => rfl) _)) (.cons (.lst (ls_at (at5 e h.d)) (pyAll_map pyD_pair _)) (.cons (.lst (ls_at (at5 e h.s)) (pyAll_map (fun _ => rfl) _)) .nil)))))
theorem PyAll.app {μ : MS} : ∀ {xs ys : List Dv} {ps qs : List PyData}, PyAll μ xs ps → PyAll μ ys qs → PyAll μ (xs ++ ys) (ps ++ qs)
  | _, _, _, _, .nil, h => h
  | _, _, _, _, .cons a b, h => .cons a (PyAll.app b h)
theorem oldAt_py {μ g : MS} {a b x y z : MO} (e : μ = a :: b :: x :: y :: z :: g) {k : Nat} : ∀ {cs : List Cal} {items : List Dv}, OldAt g k cs items → PyAll μ items (cs.map Cal.py)
  | _, _, .nil => .nil
  | _, _, .cons ⟨m, d, s, _, _, _, h4, h5⟩ t => .cons (by rw [h4]; exact calAt_py e h5) (oldAt_py e t)
theorem rdC_py {μ g : MS} {a b x y z : MO} (e : μ = a :: b :: x :: y :: z :: g) {cs : List Cal} {items : List Dv} (h : RdC g cs items) : PyAll μ items (cs.map Cal.py) := by
  rcases h with ⟨rfl, rfl⟩ | ⟨cs0, c, items0, b, m, d, s, rfl, rfl, h3, _, _, _, h7⟩
  · exact .nil
  · rw [List.map_append]
    exact (oldAt_py e h3).app (.cons (calAt_py e h7) .nil)
/-! ### the reader's state -/
theorem RdSt.app {r' : MS} (st : RdSt A L S r μ) : RdSt A L S r (μ ++ r') := by
  obtain ⟨items, g, rfl, hc⟩ := st
  exact ⟨items, g ++ r', rfl, hc.app⟩
theorem RdSt.py (st : RdSt A L S r μ) : PyAt μ (.ob 2) (.list (r.cs.map Cal.py)) := by
  obtain ⟨items, g, e, hc⟩ := st
  refine .lst (ds := items) ?_ (rdC_py e hc)
  rw [e]; rfl
theorem RdSt.sh (hw : ∀ c ∈ r.cs, CalW c) : SeqAt.shaped (.list (r.cs.map Cal.py)) = true := by
  refine Sh.ok (n := 4) (sh_list fun p hp => ?_) (by decide)
  obtain ⟨c, hc, rfl⟩ := List.mem_map.mp hp
  exact sh_cal (hw c hc)
end
end Mz
end
section
set_option Elab.async false
set_option linter.all false
set_option maxRecDepth 100000
set_option maxHeartbeats 1000000
namespace Mz
open PySem L2 TL
local macro_rules | `(tactic| row_cond sd) => `(tactic| first | with_reducible assumption | with_reducible exact rfl | exact rfl | exact True.intro | assumption | decide)
local macro_rules | `(tactic| row_cond st) => `(tactic| first
  | refine And.intro (by row_cond sd) ?_
  | refine ⟨_, by row_cond sd, ?_⟩
  | refine ⟨_, _, by row_cond sd, ?_⟩
  | refine ⟨_, _, by row_cond sd, by row_cond sd, ?_⟩
  | refine ⟨_, _, _, by row_cond sd, ?_⟩
  | refine ⟨_, _, _, by row_cond sd, by row_cond sd, ?_⟩
  | refine ⟨_, _, _, by row_cond sd, by row_cond sd, by row_cond sd, ?_⟩
  | refine ⟨_, _, _, _, by row_cond sd, ?_⟩
  | refine ⟨_, _, _, _, by row_cond sd, by row_cond sd, by row_cond sd, ?_⟩
  | refine ⟨_, _, _, _, by row_cond sd, by row_cond sd, by row_cond sd, by row_cond sd, ?_⟩
  | refine iteT ?_
  | refine iteF ?_)
local macro_rules | `(tactic| row_cond go) => `(tactic| repeat (row_cond st))
section
variable {A : Ad} {K : PySem.W.Frag} {E : XS} {Q : DK} {L S : MO} {r : KD} {μ : MS}
theorem sort_word (f : Fld) : (Da.str f.sort).isWord = true := by
  unfold Fld.sort
  cases f.many <;> decide
end
end Mz
end
section
set_option Elab.async false
set_option linter.all false
set_option maxRecDepth 100000
set_option maxHeartbeats 1000000
namespace Mz
open PySem L2 TL
local macro_rules | `(tactic| row_cond sd) => `(tactic| first | with_reducible assumption | with_reducible exact rfl | exact rfl | exact True.intro | assumption | decide)
local macro_rules | `(tactic| row_cond st) => `(tactic| first
  | refine And.intro (by row_cond sd) ?_
  | refine ⟨_, by row_cond sd, ?_⟩
  | refine ⟨_, _, by row_cond sd, ?_⟩
  | refine ⟨_, _, by row_cond sd, by row_cond sd, ?_⟩
  | refine ⟨_, _, _, by row_cond sd, ?_⟩
  | refine ⟨_, _, _, by row_cond sd, by row_cond sd, ?_⟩
  | refine ⟨_, _, _, by row_cond sd, by row_cond sd, by row_cond sd, ?_⟩
  | refine ⟨_, _, _, _, by row_cond sd, ?_⟩
  | refine ⟨_, _, _, _, by row_cond sd, by row_cond sd, by row_cond sd, ?_⟩
  | refine ⟨_, _, _, _, by row_cond sd, by row_cond sd, by row_cond sd, by row_cond sd, ?_⟩
  | refine iteT ?_
  | refine iteF ?_)
local macro_rules | `(tactic| row_cond go) => `(tactic| repeat (row_cond st))
section
variable {A : Ad} {K : PySem.W.Frag} {E : XS} {Q : DK} {L S : MO} {r : KD} {μ : MS}
theorem CalAt.lt {g : MS} {c : Cal} {m d s : Nat} (h : CalAt g c m d s) : m < g.length ∧ d < g.length ∧ s < g.length :=
  ⟨(List.getElem?_eq_some_iff.mp h.m).1, (List.getElem?_eq_some_iff.mp h.d).1, (List.getElem?_eq_some_iff.mp h.s).1⟩
theorem OldAt.mono {g : MS} {b b' : Nat} (hb : b ≤ b') : ∀ {cs : List Cal} {items : List Dv}, OldAt g b cs items → OldAt g b' cs items
  | _, _, .nil => .nil
  | _, _, .cons ⟨m, d, s, h1, h2, h3, h4, h5⟩ t => .cons ⟨m, d, s, by omega, by omega, by omega, h4, h5⟩ (OldAt.mono hb t)
end
end Mz
end
section
set_option Elab.async false
set_option linter.all false
set_option maxRecDepth 100000
set_option maxHeartbeats 1000000
namespace Mz
open PySem L2 TL
local macro_rules | `(tactic| row_cond sd) => `(tactic| first | with_reducible assumption | with_reducible exact rfl | exact rfl | exact True.intro | assumption | decide)
local macro_rules | `(tactic| row_cond st) => `(tactic| first
  | refine And.intro (by row_cond sd) ?_
  | refine ⟨_, by row_cond sd, ?_⟩
  | refine ⟨_, _, by row_cond sd, ?_⟩
  | refine ⟨_, _, by row_cond sd, by row_cond sd, ?_⟩
  | refine ⟨_, _, _, by row_cond sd, ?_⟩
  | refine ⟨_, _, _, by row_cond sd, by row_cond sd, ?_⟩
  | refine ⟨_, _, _, by row_cond sd, by row_cond sd, by row_cond sd, ?_⟩
  | refine ⟨_, _, _, _, by row_cond sd, ?_⟩
  | refine ⟨_, _, _, _, by row_cond sd, by row_cond sd, by row_cond sd, ?_⟩
  | refine ⟨_, _, _, _, by row_cond sd, by row_cond sd, by row_cond sd, by row_cond sd, ?_⟩
  | refine iteT ?_
  | refine iteF ?_)
local macro_rules | `(tactic| row_cond go) => `(tactic| repeat (row_cond st))
end Mz
end
section
set_option Elab.async false
set_option linter.all false
set_option maxRecDepth 100000
set_option maxHeartbeats 1000000
namespace Mz
open PySem L2 TL
local macro_rules | `(tactic| row_cond sd) => `(tactic| first | with_reducible assumption | with_reducible exact rfl | exact rfl | exact True.intro | assumption | decide)
local macro_rules | `(tactic| row_cond st) => `(tactic| first
  | refine And.intro (by row_cond sd) ?_
  | refine ⟨_, by row_cond sd, ?_⟩
  | refine ⟨_, _, by row_cond sd, ?_⟩
  | refine ⟨_, _, by row_cond sd, by row_cond sd, ?_⟩
  | refine ⟨_, _, _, by row_cond sd, ?_⟩
  | refine ⟨_, _, _, by row_cond sd, by row_cond sd, ?_⟩
  | refine ⟨_, _, _, by row_cond sd, by row_cond sd, by row_cond sd, ?_⟩
  | refine ⟨_, _, _, _, by row_cond sd, ?_⟩
  | refine ⟨_, _, _, _, by row_cond sd, by row_cond sd, by row_cond sd, ?_⟩
  | refine ⟨_, _, _, _, by row_cond sd, by row_cond sd, by row_cond sd, by row_cond sd, ?_⟩
  | refine iteT ?_
  | refine iteF ?_)
local macro_rules | `(tactic| row_cond go) => `(tactic| repeat (row_cond st))
section
variable {A : Ad} {K : PySem.W.Frag} {E : XS} {Q : DK} {L S : MO} {r : KD} {μ : MS}
structure RdOk (n : Nat) (r : KD) : Prop where
  f : r.fs.length ≤ n
  c : r.cs.length ≤ n
  w : ∀ c ∈ r.cs, CalW c ∧ c.deeds.length ≤ n ∧ c.same.length ≤ n
theorem onLast_mem {f : Cal → Cal} {x : Cal} : ∀ {cs : List Cal}, x ∈ onLast f cs → x ∈ cs ∨ ∃ c ∈ cs, x = f c
  | [], h => by cases h
  | [c], h => by
    have : x = f c := by simpa [onLast] using h
    exact .inr ⟨c, by simp, this⟩
  | c :: z :: r, h => by
    rcases List.mem_cons.mp (show x ∈ c :: onLast f (z :: r) from h) with rfl | h
    · exact .inl (by simp)
    · rcases onLast_mem h with h | ⟨y, hy, e⟩
      · exact .inl (List.mem_cons_of_mem _ h)
      · exact .inr ⟨y, List.mem_cons_of_mem _ hy, e⟩
theorem onLast_len {f : Cal → Cal} : ∀ cs : List Cal, (onLast f cs).length = cs.length
  | [] => rfl
  | [c] => rfl
  | c :: z :: r => by
    show (onLast f (z :: r)).length + 1 = _
    rw [onLast_len (z :: r)]; rfl
theorem RdOk.step {n : Nat} (k : RdOk n r) {l : Ln} (ok : LnOk l) : RdOk (n + 1) (rdLn r l) := by
  have up : ∀ c ∈ r.cs, CalW c ∧ c.deeds.length ≤ n + 1 ∧ c.same.length ≤ n + 1 := fun c hc => by
    obtain ⟨h1, h2, h3⟩ := k.w c hc
    exact ⟨h1, by omega, by omega⟩
  have kf := k.f
  have kc := k.c
  cases l with
  | modes m => exact ⟨by show r.fs.length ≤ _; omega, by show r.cs.length ≤ _; omega, up⟩
  | fld f => exact ⟨by show (r.fs ++ [f]).length ≤ _; simp; omega, by show r.cs.length ≤ _; omega, up⟩
  | cal nm hand ms =>
    refine ⟨by show r.fs.length ≤ _; omega, by show (r.cs ++ [_]).length ≤ _; simp; omega, fun c hc => ?_⟩
    rcases List.mem_append.mp (show c ∈ r.cs ++ [_] from hc) with hc | hc
    · exact up c hc
    · obtain rfl : c = _ := by simpa using hc
      exact ⟨⟨ok.1, ok.2.1, by simp, by simp⟩, by simp, by simp⟩
  | deed p =>
    refine ⟨by show r.fs.length ≤ _; omega, by show (onLast _ r.cs).length ≤ _; rw [onLast_len]; omega, fun c hc => ?_⟩
    rcases onLast_mem (show c ∈ onLast _ r.cs from hc) with hc | ⟨y, hy, rfl⟩
    · exact up c hc
    · obtain ⟨h1, h2, h3⟩ := k.w y hy
      refine ⟨⟨h1.nm, h1.hd, fun q hq => ?_, h1.sm⟩, by simp; omega, by show y.same.length ≤ _; omega⟩
      rcases List.mem_append.mp hq with hq | hq
      · exact h1.dd q hq
      · obtain rfl : q = p := by simpa using hq
        exact ok
  | same p =>
    refine ⟨by show r.fs.length ≤ _; omega, by show (onLast _ r.cs).length ≤ _; rw [onLast_len]; omega, fun c hc => ?_⟩
    rcases onLast_mem (show c ∈ onLast _ r.cs from hc) with hc | ⟨y, hy, rfl⟩
    · exact up c hc
    · obtain ⟨h1, h2, h3⟩ := k.w y hy
      refine ⟨⟨h1.nm, h1.hd, h1.dd, fun q hq => ?_⟩, by show y.deeds.length ≤ _; omega, by simp; omega⟩
      rcases List.mem_append.mp hq with hq | hq
      · exact h1.sm q hq
      · obtain rfl : q = p := by simpa using hq
        exact ok
end
end Mz
end
section
set_option Elab.async false
set_option linter.all false
set_option maxRecDepth 100000
set_option maxHeartbeats 1000000
namespace Mz
open PySem L2 TL
local macro_rules | `(tactic| row_cond sd) => `(tactic| first | with_reducible assumption | with_reducible exact rfl | exact rfl | exact True.intro | assumption | decide)
local macro_rules | `(tactic| row_cond st) => `(tactic| first
  | refine And.intro (by row_cond sd) ?_
  | refine ⟨_, by row_cond sd, ?_⟩
  | refine ⟨_, _, by row_cond sd, ?_⟩
  | refine ⟨_, _, by row_cond sd, by row_cond sd, ?_⟩
  | refine ⟨_, _, _, by row_cond sd, ?_⟩
  | refine ⟨_, _, _, by row_cond sd, by row_cond sd, ?_⟩
  | refine ⟨_, _, _, by row_cond sd, by row_cond sd, by row_cond sd, ?_⟩
  | refine ⟨_, _, _, _, by row_cond sd, ?_⟩
  | refine ⟨_, _, _, _, by row_cond sd, by row_cond sd, by row_cond sd, ?_⟩
  | refine ⟨_, _, _, _, by row_cond sd, by row_cond sd, by row_cond sd, by row_cond sd, ?_⟩
  | refine iteT ?_
  | refine iteF ?_)
local macro_rules | `(tactic| row_cond go) => `(tactic| repeat (row_cond st))
end Mz
end
section
set_option Elab.async false
set_option linter.all false
set_option maxRecDepth 100000
set_option maxHeartbeats 1000000
namespace Mz
open PySem L2 TL
local macro_rules | `(tactic| row_cond sd) => `(tactic| first | with_reducible assumption | with_reducible exact rfl | exact rfl | exact True.intro | assumption | decide)
local macro_rules | `(tactic| row_cond st) => `(tactic| first
  | refine And.intro (by row_cond sd) ?_
  | refine ⟨_, by row_cond sd, ?_⟩
  | refine ⟨_, _, by row_cond sd, ?_⟩
  | refine ⟨_, _, by row_cond sd, by row_cond sd, ?_⟩
  | refine ⟨_, _, _, by row_cond sd, ?_⟩
  | refine ⟨_, _, _, by row_cond sd, by row_cond sd, ?_⟩
  | refine ⟨_, _, _, by row_cond sd, by row_cond sd, by row_cond sd, ?_⟩
  | refine ⟨_, _, _, _, by row_cond sd, ?_⟩
  | refine ⟨_, _, _, _, by row_cond sd, by row_cond sd, by row_cond sd, ?_⟩
  | refine ⟨_, _, _, _, by row_cond sd, by row_cond sd, by row_cond sd, by row_cond sd, ?_⟩
  | refine iteT ?_
  | refine iteF ?_)
local macro_rules | `(tactic| row_cond go) => `(tactic| repeat (row_cond st))
section
variable {A : Ad} {K : PySem.W.Frag} {E : Ex → Prop} {Q : Da → Prop}
def Fld.py (f : Fld) : PyData := .tuple [.str f.nm, .str f.sort, .bool f.need]
def Cal.rowPy (c : Cal) : PyData := .tuple [.str c.nm, .str c.hand, .tuple (c.moves.map PyData.int), .tuple (c.deeds.map pairPy), .tuple (c.same.map PyData.str)]
theorem pyD_fld (f : Fld) : pyD f.da = some f.py := rfl
theorem pyD_row (c : Cal) : pyD c.row = some c.rowPy := by
  unfold Cal.row Cal.rowPy
  simp only [pyD, pyDs]
  rw [pyDs_map (fun _ => rfl) c.moves, pyDs_map pyD_pair c.deeds, pyDs_map (fun _ => rfl) c.same]
  rfl
theorem sh_fld {f : Fld} (h : (Da.str f.nm).isWord = true) : Sh 1 f.py := by
  refine sh_tup fun q hq => ?_
  simp only [List.mem_cons, List.not_mem_nil, or_false] at hq
  rcases hq with rfl | rfl | rfl
  · exact sh_str h
  · exact sh_str (sort_word f)
  · exact sh_bl
theorem calW_of {fs : List Fld} {md : Int} {c : Cal} (fok : FldsOk fs) (ok : CalOk fs md c) : CalW c := by
  have h := calLns_ok fok ok
  have h1 := h (.cal c.nm c.hand c.moves) (by simp [calLns])
  exact ⟨h1.1, h1.2.1, fun p hp => h (.deed p) (by simp [calLns, hp]), fun s hs => h (.same s) (by simp [calLns, hs])⟩
theorem sh_row {c : Cal} (h : CalW c) : Sh 3 c.rowPy := by
  refine sh_tup fun q hq => ?_
  simp only [List.mem_cons, List.not_mem_nil, or_false] at hq
  rcases hq with rfl | rfl | rfl | rfl | rfl
  · exact sh_str h.nm
  · exact sh_str h.hd
  · refine sh_tup fun q hq => ?_
    obtain ⟨i, _, rfl⟩ := List.mem_map.mp hq
    exact sh_int
  · refine sh_tup fun q hq => ?_
    obtain ⟨p, hp, rfl⟩ := List.mem_map.mp hq
    exact sh_pair (h.dd p hp)
  · refine sh_tup fun q hq => ?_
    obtain ⟨p, hp, rfl⟩ := List.mem_map.mp hq
    exact sh_str (h.sm p hp)
theorem pyAt_flds {μ : MS} (fs : List Fld) : PyAt μ (.d (.lst (fs.map Fld.da))) (.list (fs.map Fld.py)) := .d (by simp only [pyD]; rw [pyDs_map pyD_fld]; rfl)
theorem pyAt_rows {μ : MS} (cs : List Cal) : PyAt μ (.d (.lst (cs.map Cal.row))) (.list (cs.map Cal.rowPy)) := .d (by simp only [pyD]; rw [pyDs_map pyD_row]; rfl)
theorem kit_self {K : PySem.W.Frag} {C : Addr} : PySem.W.kitOne K (.ref C) (.ref C) = some true := by
  unfold PySem.W.kitOne
  rw [if_pos (by simp)]
theorem x_Kind_eq {kd : KD} (oi : OwnI K A.Kind) (ok : KDOk kd) (h : Q (.bl true)) : m_Kind___eq__ A K [kindDa A kd, kindDa A kd] E Q := by
  have s1 : Sh 2 (.list (kd.fs.map Fld.py)) := sh_list fun p hp => by
    obtain ⟨f, hf, rfl⟩ := List.mem_map.mp hp
    exact sh_fld (ok.f.wd f hf)
  have s2 : Sh 4 (.list (kd.cs.map Cal.rowPy)) := sh_list fun p hp => by
    obtain ⟨c, hc, rfl⟩ := List.mem_map.mp hp
    exact sh_row (calW_of ok.f (ok.c c hc))
  unfold m_Kind___eq__
  refine ⟨rfl, ?_⟩
  unfold b_Kind___eq__
  row_cond go
  refine ⟨_, _, _, .ins rfl oi, rfl, kit_self, ?_⟩
  row_cond go
  rw [show decide (V.int kd.md = V.int kd.md) = true from decide_eq_true rfl]
  row_cond go
  refine ⟨_, _, pyAt_flds _, pyAt_flds _, s1.ok (by decide), s1.ok (by decide), ?_⟩
  rw [SeqAt.eqv_refl _ s1.1]
  row_cond go
  refine ⟨_, _, pyAt_rows _, pyAt_rows _, s2.ok (by decide), s2.ok (by decide), ?_⟩
  rw [SeqAt.eqv_refl _ s2.1]
  exact ⟨_, .d _, h⟩
/-! ### signs of the text -/
def Sg (s : Str) : Prop := ∀ k ∈ tl s, k < 1114112
theorem sg_word {s : Str} (h : (Da.str s).isWord = true) : Sg s := by
  simp only [Da.isWord, lowS, Bool.and_eq_true, decide_eq_true_eq, List.all_map, List.all_eq_true] at h
  obtain ⟨_, h3⟩ := h
  intro x hx
  have := h3 x hx
  simp only [Function.comp, id, decide_eq_true_eq] at this
  have hl : ∀ y ∈ LET.cps.toList, y < 1114112 := by decide
  exact hl x this
theorem sh_sg {n : Nat} {s : Str} (h : Sg s) : Sh n (.str s) := by
  refine ⟨?_, by simp [PyData.depth]⟩
  show PyData.canLay0 (.str s) = true
  simp only [PyData.canLay0, PyData.strOk]
  rw [← Array.all_toList, List.all_eq_true]
  intro x hx
  simp only [decide_eq_true_eq]
  exact h x hx
theorem kitS2 {K : PySem.W.Frag} : PySem.W.kitAny K (.type "str") [.type "list", .type "tuple"] = some false := isT_data (K := K) (d := .str "")
theorem kitS4 {K : PySem.W.Frag} : PySem.W.kitAny K (.type "str") [.type "bool", .type "int", .type "list", .type "tuple"] = some false := by
  refine kitAny_cons (kit_ty (kit_all .str .bool)) (fun e => ?_) (fun e => by cases e)
  refine kitAny_cons (kit_ty (kit_all .str .int)) (fun e => ?_) (fun e => by cases e)
  exact kitS2
end
end Mz
end
section
set_option Elab.async false
set_option linter.all false
set_option maxRecDepth 100000
set_option maxHeartbeats 1000000
namespace Mz
open PySem L2 TL
local macro_rules | `(tactic| row_cond sd) => `(tactic| first | with_reducible assumption | with_reducible exact rfl | exact rfl | exact True.intro | assumption | decide)
local macro_rules | `(tactic| row_cond st) => `(tactic| first
  | refine And.intro (by row_cond sd) ?_
  | refine ⟨_, by row_cond sd, ?_⟩
  | refine ⟨_, _, by row_cond sd, ?_⟩
  | refine ⟨_, _, by row_cond sd, by row_cond sd, ?_⟩
  | refine ⟨_, _, _, by row_cond sd, ?_⟩
  | refine ⟨_, _, _, by row_cond sd, by row_cond sd, ?_⟩
  | refine ⟨_, _, _, by row_cond sd, by row_cond sd, by row_cond sd, ?_⟩
  | refine ⟨_, _, _, _, by row_cond sd, ?_⟩
  | refine ⟨_, _, _, _, by row_cond sd, by row_cond sd, by row_cond sd, ?_⟩
  | refine ⟨_, _, _, _, by row_cond sd, by row_cond sd, by row_cond sd, by row_cond sd, ?_⟩
  | refine iteT ?_
  | refine iteF ?_)
local macro_rules | `(tactic| row_cond go) => `(tactic| repeat (row_cond st))
local macro_rules | `(tactic| row_cond ln) => `(tactic| (refine Nat.le_trans (m := 1000) ?_ line_k; (try simp only [app_len, lt_emp, lt_modes, lt_field, lt_do, lt_same, lt_sp, lt_nl, lt_need, lt_none]); omega))
end Mz
end
section
set_option Elab.async false
set_option linter.all false
set_option maxRecDepth 100000
set_option maxHeartbeats 1000000
namespace Mz
open PySem L2 TL
local macro_rules | `(tactic| row_cond sd) => `(tactic| first | with_reducible assumption | with_reducible exact rfl | exact rfl | exact True.intro | assumption | decide)
local macro_rules | `(tactic| row_cond st) => `(tactic| first
  | refine And.intro (by row_cond sd) ?_
  | refine ⟨_, by row_cond sd, ?_⟩
  | refine ⟨_, _, by row_cond sd, ?_⟩
  | refine ⟨_, _, by row_cond sd, by row_cond sd, ?_⟩
  | refine ⟨_, _, _, by row_cond sd, ?_⟩
  | refine ⟨_, _, _, by row_cond sd, by row_cond sd, ?_⟩
  | refine ⟨_, _, _, by row_cond sd, by row_cond sd, by row_cond sd, ?_⟩
  | refine ⟨_, _, _, _, by row_cond sd, ?_⟩
  | refine ⟨_, _, _, _, by row_cond sd, by row_cond sd, by row_cond sd, ?_⟩
  | refine ⟨_, _, _, _, by row_cond sd, by row_cond sd, by row_cond sd, by row_cond sd, ?_⟩
  | refine iteT ?_
  | refine iteF ?_)
local macro_rules | `(tactic| row_cond go) => `(tactic| repeat (row_cond st))
/-! ### rows of programs, plain -/
inductive Row where
  | make
  | call (nm : Str) (k : Nat) (w : Option Str)
def Row.das : Row → List Da
  | .make => [.str "make"]
  | .call nm k none => [.str nm, .int k]
  | .call nm k (some w) => [.str nm, .int k, .str w]
def Row.da (r : Row) : Da := .tup r.das
def calOf (kd : KD) (nm : Str) : Option Cal := kd.cs.find? fun c => decide (c.nm = nm)
abbrev takish : List Str := ["set", "add", "strike"]
def Cal.tk (c : Cal) : Bool := c.deeds.any fun p => decide (p.1 ∈ takish)
def Row.isLast (kd : KD) : Row → Bool
  | .make => false
  | .call nm _ _ => match calOf kd nm with
    | some c => decide (c.hand = "last")
    | none => false
/-- a row that may stand behind rs -/
def RowOk (kd : KD) (rs : List Row) : Row → Prop
  | .make => True
  | .call nm k w => ∃ c r, calOf kd nm = some c ∧ rs[k]? = some r ∧ r.isLast kd = false ∧ c.tk = w.isSome ∧ ∀ x, w = some x → (Da.str x).isWord = true
def Prog (kd : KD) (rs : List Row) : Prop := ∀ i r, rs[i]? = some r → RowOk kd (rs.take i) r
theorem calOf_nm {kd : KD} {nm : Str} {c : Cal} (h : calOf kd nm = some c) : c.nm = nm ∧ c ∈ kd.cs := by
  unfold calOf at h
  exact ⟨by simpa using List.find?_some h, List.mem_of_find?_eq_some h⟩
/-- a comprehension that changes nothing -/
theorem lc_fm {β : Type} (inj : β → Dv) (p : β → Bool) (f : β → Dv) {gd : MS → Prop} {g : GS} {t : TS'} {e : ES} {vs : List Nat} {α : Env'} {Q : List Dv → MS → Prop} {μ : MS} (hg : gd μ) (l : List β) (hl : l.length < 100000)
    (hs : ∀ (i : Nat) (x : β), l[i]? = some x → ∀ (P1 : DK) (P0 : MS → Prop), (p x = true → P1 (f x) μ) → (p x = false → P0 μ) → g (inj x) noX (wpD α vs) μ fun α2 μ2 => t noX α2 μ2 fun k μ3 => if k = true then e noX α2 μ3 P1 else P0 μ3)
    (h : Q ((l.filter p).map f) μ) : mLcL gd g t e vs α Q (l.map inj) [] μ := by
  refine lc_by (fun i acc μ' => acc = ((l.take i).filter p).map f ∧ μ' = μ) ?_ ?_ ⟨by simp, rfl⟩
  · rintro i d acc μ' N hi ⟨rfl, rfl⟩ hN
    obtain ⟨x, hx, rfl⟩ := map_get hi
    have hil := (List.getElem?_eq_some_iff.mp hx).1
    have e1 : l.take (i + 1) = l.take i ++ [x] := by rw [List.take_succ, hx]; rfl
    refine hs i x hx (fun y μ4 => (((l.take i).filter p).map f).length < sizeLine ∧ gd μ4 ∧ N (((l.take i).filter p).map f ++ [y]) μ4) (fun μ3 => gd μ3 ∧ N (((l.take i).filter p).map f) μ3) (fun hp => ⟨?_, hg, hN _ _ ⟨?_, rfl⟩⟩) (fun hp => ⟨hg, hN _ _ ⟨?_, rfl⟩⟩)
    · rw [List.length_map]
      have := List.length_filter_le p (l.take i)
      rw [List.length_take] at this
      exact Nat.lt_of_lt_of_le (m := 100000) (by omega) (by decide)
    · rw [e1, List.filter_append, List.map_append]; simp [hp]
    · rw [e1, List.filter_append, List.map_append]; simp [hp]
  · rintro acc μ' ⟨rfl, rfl⟩
    rw [List.length_map, List.take_length]; exact h
section
variable {A : Ad} {K : PySem.W.Frag} {E : Ex → Prop} {Q : Da → Prop}
theorem str_dec {a b : Str} : decide (V.str a = V.str b) = decide (a = b) := decide_eq_decide.mpr ⟨V.str.inj, congrArg V.str⟩
end
end Mz
end
section
set_option Elab.async false
set_option linter.all false
set_option maxRecDepth 100000
set_option maxHeartbeats 1000000
namespace Mz
open PySem L2 TL
local macro_rules | `(tactic| row_cond sd) => `(tactic| first | with_reducible assumption | with_reducible exact rfl | exact rfl | exact True.intro | assumption | decide)
local macro_rules | `(tactic| row_cond st) => `(tactic| first
  | refine And.intro (by row_cond sd) ?_
  | refine ⟨_, by row_cond sd, ?_⟩
  | refine ⟨_, _, by row_cond sd, ?_⟩
  | refine ⟨_, _, by row_cond sd, by row_cond sd, ?_⟩
  | refine ⟨_, _, _, by row_cond sd, ?_⟩
  | refine ⟨_, _, _, by row_cond sd, by row_cond sd, ?_⟩
  | refine ⟨_, _, _, by row_cond sd, by row_cond sd, by row_cond sd, ?_⟩
  | refine ⟨_, _, _, _, by row_cond sd, ?_⟩
  | refine ⟨_, _, _, _, by row_cond sd, by row_cond sd, by row_cond sd, ?_⟩
  | refine ⟨_, _, _, _, by row_cond sd, by row_cond sd, by row_cond sd, by row_cond sd, ?_⟩
  | refine iteT ?_
  | refine iteF ?_)
local macro_rules | `(tactic| row_cond go) => `(tactic| repeat (row_cond st))
section
variable {A : Ad} {K : PySem.W.Frag} {E : XS} {Q : DK} {μ : MS}
abbrev rowsD (rs : List Row) : List Dv := rs.map fun x => .d x.da
theorem Prog.take {kd : KD} {rs : List Row} (h : Prog kd rs) (n : Nat) : Prog kd (rs.take n) := by
  intro i r hi
  have hi2 : i < n ∧ rs[i]? = some r := by
    rw [List.getElem?_take] at hi
    split at hi
    · exact ⟨by assumption, hi⟩
    · cases hi
  have := h i r hi2.2
  rw [List.take_take, Nat.min_eq_left (by omega)]
  exact this
end
end Mz
end
section
set_option Elab.async false
set_option linter.all false
set_option maxRecDepth 100000
set_option maxHeartbeats 1000000
namespace Mz
open PySem L2 TL
local macro_rules | `(tactic| row_cond sd) => `(tactic| first | with_reducible assumption | with_reducible exact rfl | exact rfl | exact True.intro | assumption | decide)
local macro_rules | `(tactic| row_cond st) => `(tactic| first
  | refine And.intro (by row_cond sd) ?_
  | refine ⟨_, by row_cond sd, ?_⟩
  | refine ⟨_, _, by row_cond sd, ?_⟩
  | refine ⟨_, _, by row_cond sd, by row_cond sd, ?_⟩
  | refine ⟨_, _, _, by row_cond sd, ?_⟩
  | refine ⟨_, _, _, by row_cond sd, by row_cond sd, ?_⟩
  | refine ⟨_, _, _, by row_cond sd, by row_cond sd, by row_cond sd, ?_⟩
  | refine ⟨_, _, _, _, by row_cond sd, ?_⟩
  | refine ⟨_, _, _, _, by row_cond sd, by row_cond sd, by row_cond sd, ?_⟩
  | refine ⟨_, _, _, _, by row_cond sd, by row_cond sd, by row_cond sd, by row_cond sd, ?_⟩
  | refine iteT ?_
  | refine iteF ?_)
local macro_rules | `(tactic| row_cond go) => `(tactic| repeat (row_cond st))
/-! ### stores, plain -/
inductive Slot where
  | no
  | wd (w : Str)
  | ls (n : Nat)
def Slot.dv : Slot → Dv
  | .no => .d .non
  | .wd w => .d (.str w)
  | .ls n => .d (.int n)
structure Mkr where
  mode : Int
  slots : List Slot
structure Sto where
  ls : List (List Str)
  mks : List Mkr
abbrev mkO (A : Ad) (md : Int) (s : Nat) : MO := .ins A.Maker [("mode", .d (.int md)), ("slots", .ob s)]
abbrev slD (ss : List Slot) : MO := .lst (ss.map Slot.dv)
/-- what tells the objects of a store apart -/
structure Shp (so_ : MO) (mf : Nat → Int → Nat → MO) : Prop where
  o1 : ∀ l, so_ ≠ .lst l
  o2 : ∀ k md s, mf k md s ≠ so_
  m1 : ∀ k md s ws, mf k md s ≠ .lst (strsD ws)
  m2 : ∀ k md s (la : List Nat), mf k md s ≠ .lst (la.map .ob)
  m3 : ∀ k md s ss, mf k md s ≠ slD ss
/-- a store and its makers among the objects; fx: other objects that stay as they are -/
structure HpAt (so_ : MO) (mf : Nat → Int → Nat → MO) (b : Nat) (fx : List (Nat × MO)) (so lo : Nat) (la : List Nat) (ms : List (Nat × Nat)) (S : Sto) (μ : MS) : Prop where
  sh : Shp so_ mf
  st : μ[so]? = some so_
  ll : μ[lo]? = some (.lst (la.map .ob))
  ln : la.length = S.ls.length
  l : ∀ (k i : Nat) (ws : List Str), la[k]? = some i → S.ls[k]? = some ws → μ[i]? = some (.lst (strsD ws))
  mn : ms.length = S.mks.length
  m : ∀ (k : Nat) (p : Nat × Nat) (mk : Mkr), ms[k]? = some p → S.mks[k]? = some mk → μ[p.1]? = some (mf k mk.mode p.2) ∧ μ[p.2]? = some (slD mk.slots)
  nl : ∀ j k i : Nat, la[j]? = some i → la[k]? = some i → j = k
  nm : ∀ (j k : Nat) (p q : Nat × Nat), ms[j]? = some p → ms[k]? = some q → p.1 = q.1 → j = k
  ns : ∀ (j k : Nat) (p q : Nat × Nat), ms[j]? = some p → ms[k]? = some q → p.2 = q.2 → j = k
  d1 : ∀ i ∈ la, ∀ p ∈ ms, i ≠ p.2
  d2 : ∀ i ∈ la, i ≠ lo
  d3 : ∀ p ∈ ms, p.2 ≠ lo
  f : ∀ p ∈ fx, μ[p.1]? = some p.2 ∧ p.1 ∉ la ∧ (∀ q ∈ ms, p.1 ≠ q.1 ∧ p.1 ≠ q.2) ∧ p.1 ≠ lo
  bl : b ≤ lo ∧ (∀ i ∈ la, b ≤ i) ∧ ∀ p ∈ ms, b ≤ p.1 ∧ b ≤ p.2
abbrev stO (A : Ad) (kd : KD) (lo : Nat) : MO := .ins A.Store [("kind", .d (kindDa A kd)), ("lists", .ob lo)]
/-- the store of a run -/
abbrev StoAt (A : Ad) (kd : KD) (b : Nat) (fx : List (Nat × MO)) (so lo : Nat) (la : List Nat) (ms : List (Nat × Nat)) (S : Sto) (μ : MS) : Prop := HpAt (stO A kd lo) (fun _ => mkO A) b fx so lo la ms S μ
theorem lt_of_get {α : Type} {l : List α} {i : Nat} {x : α} (h : l[i]? = some x) : i < l.length := (List.getElem?_eq_some_iff.mp h).1
theorem get_app {α : Type} {l r : List α} {i : Nat} {x : α} (h : l[i]? = some x) : (l ++ r)[i]? = some x := by rw [List.getElem?_append_left (lt_of_get h)]; exact h
theorem mem_get {α : Type} {l : List α} {i : Nat} {x : α} (h : l[i]? = some x) : x ∈ l := List.mem_of_getElem? h
section
variable {so_ : MO} {mf : Nat → Int → Nat → MO} {b : Nat} {fx : List (Nat × MO)} {so lo : Nat} {la : List Nat} {ms : List (Nat × Nat)} {S : Sto} {μ : MS}
theorem HpAt.lget (h : HpAt so_ mf b fx so lo la ms S μ) {k i : Nat} (hi : la[k]? = some i) : ∃ ws, S.ls[k]? = some ws ∧ μ[i]? = some (.lst (strsD ws)) := by
  have hk : k < S.ls.length := by rw [← h.ln]; exact lt_of_get hi
  exact ⟨_, List.getElem?_eq_getElem hk, h.l k i _ hi (List.getElem?_eq_getElem hk)⟩
theorem HpAt.mget (h : HpAt so_ mf b fx so lo la ms S μ) {k : Nat} {p : Nat × Nat} (hi : ms[k]? = some p) : ∃ mk, S.mks[k]? = some mk ∧ μ[p.1]? = some (mf k mk.mode p.2) ∧ μ[p.2]? = some (slD mk.slots) := by
  have hk : k < S.mks.length := by rw [← h.mn]; exact lt_of_get hi
  exact ⟨_, List.getElem?_eq_getElem hk, h.m k p _ hi (List.getElem?_eq_getElem hk)⟩
theorem HpAt.lmem (h : HpAt so_ mf b fx so lo la ms S μ) {i : Nat} (hi : i ∈ la) : ∃ ws, μ[i]? = some (.lst (strsD ws)) := by
  obtain ⟨k, hk⟩ := List.getElem?_of_mem hi
  obtain ⟨ws, _, h2⟩ := h.lget hk
  exact ⟨ws, h2⟩
theorem HpAt.mmem (h : HpAt so_ mf b fx so lo la ms S μ) {p : Nat × Nat} (hp : p ∈ ms) : ∃ (k : Nat) (mk : Mkr), μ[p.1]? = some (mf k mk.mode p.2) ∧ μ[p.2]? = some (slD mk.slots) := by
  obtain ⟨k, hk⟩ := List.getElem?_of_mem hp
  obtain ⟨mk, _, h2⟩ := h.mget hk
  exact ⟨k, mk, h2⟩
/-- new objects behind -/
theorem HpAt.app (h : HpAt so_ mf b fx so lo la ms S μ) (r : MS) : HpAt so_ mf b fx so lo la ms S (μ ++ r) :=
  { h with st := get_app h.st, ll := get_app h.ll, l := fun k i ws h1 h2 => get_app (h.l k i ws h1 h2), m := fun k p mk h1 h2 => ⟨get_app (h.m k p mk h1 h2).1, get_app (h.m k p mk h1 h2).2⟩, f := fun p hp => ⟨get_app (h.f p hp).1, (h.f p hp).2⟩ }
theorem len_out (h : HpAt so_ mf b fx so lo la ms S μ) : μ.length ∉ la ∧ (∀ p ∈ ms, μ.length ≠ p.1 ∧ μ.length ≠ p.2) ∧ μ.length ≠ lo ∧ ∀ p ∈ fx, p.1 ≠ μ.length := by
  refine ⟨fun hm => ?_, fun p hp => ?_, ?_, fun p hp => ?_⟩
  · obtain ⟨ws, e⟩ := h.lmem hm
    exact absurd (lt_of_get e) (by omega)
  · obtain ⟨_, mk, e1, e2⟩ := h.mmem hp
    have := lt_of_get e1
    have := lt_of_get e2
    exact ⟨by omega, by omega⟩
  · have := lt_of_get h.ll
    omega
  · have := lt_of_get (h.f p hp).1
    omega
/-- a new maker, its slots in a list of nobody -/
theorem HpAt.newM (h : HpAt so_ mf b fx so lo la ms S μ) (hb : b ≤ μ.length) {s : Nat} {ss : List Slot} (md : Int) (hs : μ[s]? = some (slD ss)) (n1 : s ∉ la) (n2 : ∀ p ∈ ms, s ≠ p.2) (n3 : s ≠ lo) (n4 : ∀ p ∈ fx, p.1 ≠ s) (n5 : b ≤ s) : HpAt so_ mf b fx so lo la (ms ++ [(μ.length, s)]) ⟨S.ls, S.mks ++ [⟨md, ss⟩]⟩ (μ ++ [mf ms.length md s]) := by
  obtain ⟨o1, o2, o3, o4⟩ := len_out h
  have hsl := lt_of_get hs
  have key : ∀ (j : Nat) (p : Nat × Nat), (ms ++ [(μ.length, s)])[j]? = some p → (ms[j]? = some p ∧ j < ms.length ∧ p ∈ ms) ∨ (j = ms.length ∧ p = (μ.length, s)) := fun j p e => by
    rcases Nat.lt_trichotomy j ms.length with hk | hk | hk
    · rw [List.getElem?_append_left hk] at e
      exact .inl ⟨e, hk, mem_get e⟩
    · subst hk
      exact .inr ⟨rfl, by simpa using e.symm⟩
    · rw [List.getElem?_eq_none (by simp; omega)] at e
      cases e
  have hmem : ∀ p, p ∈ ms ++ [(μ.length, s)] → p ∈ ms ∨ p = (μ.length, s) := fun p hp => by
    rcases List.mem_append.mp hp with hp | hp
    · exact .inl hp
    · exact .inr (by simpa using hp)
  refine { sh := h.sh, st := get_app h.st, ll := get_app h.ll, ln := h.ln, l := fun k i w e1 e2 => get_app (h.l k i w e1 e2), mn := by simp [h.mn], m := fun k p mk e1 e2 => ?_, nl := h.nl, nm := fun j k p q e1 e2 e3 => ?_, ns := fun j k p q e1 e2 e3 => ?_, d1 := fun i hi p hp => ?_, d2 := h.d2, d3 := fun p hp => ?_, f := fun p hp => ⟨get_app (h.f p hp).1, (h.f p hp).2.1, fun q hq => ?_, (h.f p hp).2.2.2⟩, bl := ⟨h.bl.1, h.bl.2.1, fun p hp => ?_⟩ }
  · simp only at e2
    rcases key k p e1 with ⟨a1, a2, a3⟩ | ⟨rfl, rfl⟩
    · rw [List.getElem?_append_left (by rw [← h.mn]; exact a2)] at e2
      exact ⟨get_app (h.m k p mk a1 e2).1, get_app (h.m k p mk a1 e2).2⟩
    · rw [h.mn] at e2
      obtain rfl : (⟨md, ss⟩ : Mkr) = mk := by simpa using e2
      exact ⟨by simp, get_app hs⟩
  · rcases key j p e1 with ⟨a1, a2, a3⟩ | ⟨rfl, rfl⟩ <;> rcases key k q e2 with ⟨b1, b2, b3⟩ | ⟨rfl, rfl⟩
    · exact h.nm j k p q a1 b1 e3
    · exact absurd e3.symm (o2 p a3).1
    · exact absurd e3 (o2 q b3).1
    · rfl
  · rcases key j p e1 with ⟨a1, a2, a3⟩ | ⟨rfl, rfl⟩ <;> rcases key k q e2 with ⟨b1, b2, b3⟩ | ⟨rfl, rfl⟩
    · exact h.ns j k p q a1 b1 e3
    · exact absurd e3.symm (n2 p a3)
    · exact absurd e3 (n2 q b3)
    · rfl
  · rcases hmem p hp with hp | rfl
    · exact h.d1 i hi p hp
    · exact fun e => n1 (by have e' : i = s := e; rw [← e']; exact hi)
  · rcases hmem p hp with hp | rfl
    · exact h.d3 p hp
    · exact n3
  · rcases hmem q hq with hq | rfl
    · exact (h.f p hp).2.2.1 q hq
    · exact ⟨o4 p hp, n4 p hp⟩
  · rcases hmem p hp with hp | rfl
    · exact h.bl.2.2 p hp
    · exact ⟨hb, n5⟩
/-- fewer objects that are looked at -/
theorem HpAt.sub (h : HpAt so_ mf b fx so lo la ms S μ) {fx' : List (Nat × MO)} (hs : ∀ p ∈ fx', p ∈ fx) : HpAt so_ mf b fx' so lo la ms S μ := { h with f := fun p hp => h.f p (hs p hp) }
end
end Mz
end
section
set_option Elab.async false
set_option linter.all false
set_option maxRecDepth 100000
set_option maxHeartbeats 1000000
namespace Mz
open PySem L2 TL
local macro_rules | `(tactic| row_cond sd) => `(tactic| first | with_reducible assumption | with_reducible exact rfl | exact rfl | exact True.intro | assumption | decide)
local macro_rules | `(tactic| row_cond st) => `(tactic| first
  | refine And.intro (by row_cond sd) ?_
  | refine ⟨_, by row_cond sd, ?_⟩
  | refine ⟨_, _, by row_cond sd, ?_⟩
  | refine ⟨_, _, by row_cond sd, by row_cond sd, ?_⟩
  | refine ⟨_, _, _, by row_cond sd, ?_⟩
  | refine ⟨_, _, _, by row_cond sd, by row_cond sd, ?_⟩
  | refine ⟨_, _, _, by row_cond sd, by row_cond sd, by row_cond sd, ?_⟩
  | refine ⟨_, _, _, _, by row_cond sd, ?_⟩
  | refine ⟨_, _, _, _, by row_cond sd, by row_cond sd, by row_cond sd, ?_⟩
  | refine ⟨_, _, _, _, by row_cond sd, by row_cond sd, by row_cond sd, by row_cond sd, ?_⟩
  | refine iteT ?_
  | refine iteF ?_)
local macro_rules | `(tactic| row_cond go) => `(tactic| repeat (row_cond st))
section
variable {A : Ad} {K : PySem.W.Frag} {kd : KD} {b : Nat} {fx : List (Nat × MO)} {so lo : Nat} {la : List Nat} {ms : List (Nat × Nat)} {S : Sto} {μ : MS} {E : XS} {Q : DK}
theorem big {n : Nat} (h : n < 100000) : n < sizeLine := Nat.lt_of_lt_of_le h (by decide)
def fStep (x : List Slot × List (List Str)) (f : Fld) : List Slot × List (List Str) := if f.many = true then (x.1 ++ [.ls x.2.length], x.2 ++ [[]]) else (x.1 ++ [.no], x.2)
def firstOf (fs : List Fld) (ls : List (List Str)) : List Slot × List (List Str) := fs.foldl fStep ([], ls)
theorem first_len (fs : List Fld) : ∀ x : List Slot × List (List Str), (fs.foldl fStep x).2.length ≤ x.2.length + fs.length := by
  induction fs with
  | nil => intro x; simp
  | cons f r ih =>
    intro x
    have := ih (fStep x f)
    have h1 : (fStep x f).2.length ≤ x.2.length + 1 := by unfold fStep; split <;> simp
    simp only [List.foldl_cons, List.length_cons]
    omega
end
end Mz
end
section
set_option Elab.async false
set_option linter.all false
set_option maxRecDepth 100000
set_option maxHeartbeats 1000000
namespace Mz
open PySem L2 TL
local macro_rules | `(tactic| row_cond sd) => `(tactic| first | with_reducible assumption | with_reducible exact rfl | exact rfl | exact True.intro | assumption | decide)
local macro_rules | `(tactic| row_cond st) => `(tactic| first
  | refine And.intro (by row_cond sd) ?_
  | refine ⟨_, by row_cond sd, ?_⟩
  | refine ⟨_, _, by row_cond sd, ?_⟩
  | refine ⟨_, _, by row_cond sd, by row_cond sd, ?_⟩
  | refine ⟨_, _, _, by row_cond sd, ?_⟩
  | refine ⟨_, _, _, by row_cond sd, by row_cond sd, ?_⟩
  | refine ⟨_, _, _, by row_cond sd, by row_cond sd, by row_cond sd, ?_⟩
  | refine ⟨_, _, _, _, by row_cond sd, ?_⟩
  | refine ⟨_, _, _, _, by row_cond sd, by row_cond sd, by row_cond sd, ?_⟩
  | refine ⟨_, _, _, _, by row_cond sd, by row_cond sd, by row_cond sd, by row_cond sd, ?_⟩
  | refine iteT ?_
  | refine iteF ?_)
local macro_rules | `(tactic| row_cond go) => `(tactic| repeat (row_cond st))
section
variable {A : Ad} {K : PySem.W.Frag} {kd : KD} {b : Nat} {fx : List (Nat × MO)} {so lo : Nat} {la : List Nat} {ms : List (Nat × Nat)} {S : Sto} {μ : MS} {E : XS} {Q : DK}
/-- a new object that is nobody's -/
def copyStep (same : List Str) (x : List Slot × List (List Str)) (q : Fld × Slot) : List Slot × List (List Str) :=
  if q.1.many = false ∨ q.1.nm ∈ same then (x.1 ++ [q.2], x.2) else match q.2 with
    | .ls n => (x.1 ++ [.ls x.2.length], x.2 ++ [x.2.getD n []])
    | s => (x.1 ++ [s], x.2)
def copyOf (fs : List Fld) (same : List Str) (ss : List Slot) (ls : List (List Str)) : List Slot × List (List Str) := (fs.zip ss).foldl (copyStep same) ([], ls)
/-- each slot fits its field -/
def SlotOk (n : Nat) (f : Fld) (s : Slot) : Prop := f.many = true → ∃ k, s = .ls k ∧ k < n
structure MkrOk (fs : List Fld) (n : Nat) (ss : List Slot) : Prop where
  ln : ss.length = fs.length
  ok : ∀ (j : Nat) (f : Fld) (s : Slot), fs[j]? = some f → ss[j]? = some s → SlotOk n f s
theorem copy_len (same : List Str) (l : List (Fld × Slot)) : ∀ x : List Slot × List (List Str), x.2.length ≤ (l.foldl (copyStep same) x).2.length ∧ (l.foldl (copyStep same) x).2.length ≤ x.2.length + l.length ∧ (l.foldl (copyStep same) x).1.length = x.1.length + l.length := by
  induction l with
  | nil => intro x; simp
  | cons q r ih =>
    intro x
    obtain ⟨i0, i1, i2⟩ := ih (copyStep same x q)
    have h1 : x.2.length ≤ (copyStep same x q).2.length ∧ (copyStep same x q).2.length ≤ x.2.length + 1 ∧ (copyStep same x q).1.length = x.1.length + 1 := by
      unfold copyStep
      split
      · simp
      · split <;> simp
    simp only [List.foldl_cons, List.length_cons]
    omega
end
end Mz
end
section
set_option Elab.async false
set_option linter.all false
set_option maxRecDepth 100000
set_option maxHeartbeats 1000000
namespace Mz
open PySem L2 TL
local macro_rules | `(tactic| row_cond sd) => `(tactic| first | with_reducible assumption | with_reducible exact rfl | exact rfl | exact True.intro | assumption | decide)
local macro_rules | `(tactic| row_cond st) => `(tactic| first
  | refine And.intro (by row_cond sd) ?_
  | refine ⟨_, by row_cond sd, ?_⟩
  | refine ⟨_, _, by row_cond sd, ?_⟩
  | refine ⟨_, _, by row_cond sd, by row_cond sd, ?_⟩
  | refine ⟨_, _, _, by row_cond sd, ?_⟩
  | refine ⟨_, _, _, by row_cond sd, by row_cond sd, ?_⟩
  | refine ⟨_, _, _, by row_cond sd, by row_cond sd, by row_cond sd, ?_⟩
  | refine ⟨_, _, _, _, by row_cond sd, ?_⟩
  | refine ⟨_, _, _, _, by row_cond sd, by row_cond sd, by row_cond sd, ?_⟩
  | refine ⟨_, _, _, _, by row_cond sd, by row_cond sd, by row_cond sd, by row_cond sd, ?_⟩
  | refine iteT ?_
  | refine iteF ?_)
local macro_rules | `(tactic| row_cond go) => `(tactic| repeat (row_cond st))
def wdS : Option Str → Slot
  | some w => .wd w
  | none => .no
def fAt (fs : List Fld) (nm : Str) : Nat := fs.findIdx fun f => decide (f.nm = nm)
def deedStep (fs : List Fld) (w : Option Str) (x : List Slot × List (List Str)) (d : Str × Str) : List Slot × List (List Str) :=
  if d.1 = "set" then (x.1.set (fAt fs d.2) (wdS w), x.2)
  else if d.1 = "clear" ∧ sortOf fs d.2 = some ("one" : Str) then (x.1.set (fAt fs d.2) .no, x.2)
  else match x.1.getD (fAt fs d.2) .no with
    | .ls n =>
      if d.1 = "clear" then (x.1, x.2.set n [])
      else if d.1 = "add" then (x.1, x.2.set n (x.2.getD n [] ++ [w.getD ""]))
      else if d.1 = "strike" then (x.1, x.2.set n ((x.2.getD n []).filter fun y => !decide (y = w.getD "")))
      else (x.1.set (fAt fs d.2) (.ls x.2.length), x.2 ++ [x.2.getD n []])
    | _ => x
def doesOf (fs : List Fld) (w : Option Str) (ds : List (Str × Str)) (ss : List Slot) (ls : List (List Str)) : List Slot × List (List Str) := ds.foldl (deedStep fs w) (ss, ls)
theorem fAt_get {fs : List Fld} {s t : Str} (h : sortOf fs s = some t) : ∃ f, fs[fAt fs s]? = some f ∧ f.nm = s ∧ f.sort = t ∧ ∀ (m : Nat) (g : Fld), m < fAt fs s → fs[m]? = some g → g.nm ≠ s := by
  unfold sortOf at h
  cases q : fs.find? fun f => decide (f.nm = s) with
  | none => rw [q] at h; cases h
  | some f =>
    rw [q] at h
    have e1 : f.sort = t := Option.some.inj h
    have e2 : f.nm = s := by simpa using List.find?_some q
    have hlt : fAt fs s < fs.length := List.findIdx_lt_length_of_exists ⟨f, List.mem_of_find?_eq_some q, by simpa using e2⟩
    refine ⟨f, ?_, e2, e1, fun m g hm hg => ?_⟩
    · have := List.find?_eq_getElem?_findIdx (p := fun f : Fld => decide (f.nm = s)) (xs := fs)
      rw [q] at this
      exact this.symm
    · have := List.not_of_lt_findIdx hm
      rw [List.getElem?_eq_getElem (by omega)] at hg
      obtain rfl := Option.some.inj hg
      simpa using this
section
variable {A : Ad} {K : PySem.W.Frag} {kd : KD} {b : Nat} {fx : List (Nat × MO)} {so lo : Nat} {la : List Nat} {ms : List (Nat × Nat)} {S : Sto} {μ : MS} {E : XS} {Q : DK}
theorem sn_cs : (("clear" : Str) = "set") = False := eq_false (by decide)
theorem sn_as : (("add" : Str) = "set") = False := eq_false (by decide)
theorem sn_ac : (("add" : Str) = "clear") = False := eq_false (by decide)
theorem sn_ss : (("strike" : Str) = "set") = False := eq_false (by decide)
theorem sn_sc : (("strike" : Str) = "clear") = False := eq_false (by decide)
theorem sn_sa : (("strike" : Str) = "add") = False := eq_false (by decide)
theorem sn_fs : (("fresh" : Str) = "set") = False := eq_false (by decide)
theorem sn_fc : (("fresh" : Str) = "clear") = False := eq_false (by decide)
theorem sn_fa : (("fresh" : Str) = "add") = False := eq_false (by decide)
theorem sn_fk : (("fresh" : Str) = "strike") = False := eq_false (by decide)
theorem deed_add {fs : List Fld} {w : Option Str} {x : List Slot × List (List Str)} {df : Str} {n : Nat} (h : x.1.getD (fAt fs df) .no = .ls n) : deedStep fs w x ("add", df) = (x.1, x.2.set n (x.2.getD n [] ++ [w.getD ""])) := by
  simp only [deedStep, sn_as, sn_ac, h, if_false, false_and, if_true]
theorem deed_strike {fs : List Fld} {w : Option Str} {x : List Slot × List (List Str)} {df : Str} {n : Nat} (h : x.1.getD (fAt fs df) .no = .ls n) : deedStep fs w x ("strike", df) = (x.1, x.2.set n ((x.2.getD n []).filter fun y => !decide (y = w.getD ""))) := by
  simp only [deedStep, sn_ss, sn_sc, sn_sa, h, if_false, false_and, if_true]
theorem deed_fresh {fs : List Fld} {w : Option Str} {x : List Slot × List (List Str)} {df : Str} {n : Nat} (h : x.1.getD (fAt fs df) .no = .ls n) : deedStep fs w x ("fresh", df) = (x.1.set (fAt fs df) (.ls x.2.length), x.2 ++ [x.2.getD n []]) := by
  simp only [deedStep, sn_fs, sn_fc, sn_fa, sn_fk, h, if_false, false_and]
theorem deed_clear {fs : List Fld} {w : Option Str} {x : List Slot × List (List Str)} {df : Str} {n : Nat} (h : x.1.getD (fAt fs df) .no = .ls n) (hm : sortOf fs df = some ("many" : Str)) : deedStep fs w x ("clear", df) = (x.1, x.2.set n []) := by
  simp only [deedStep, sn_cs, h, if_false]
  rw [if_neg (fun z => absurd (Option.some.inj (hm.symm.trans z.2)) (by decide))]
  simp
end
end Mz
end
section
set_option Elab.async false
set_option linter.all false
set_option maxRecDepth 100000
set_option maxHeartbeats 1000000
namespace Mz
open PySem L2 TL
local macro_rules | `(tactic| row_cond sd) => `(tactic| first | with_reducible assumption | with_reducible exact rfl | exact rfl | exact True.intro | assumption | decide)
local macro_rules | `(tactic| row_cond st) => `(tactic| first
  | refine And.intro (by row_cond sd) ?_
  | refine ⟨_, by row_cond sd, ?_⟩
  | refine ⟨_, _, by row_cond sd, ?_⟩
  | refine ⟨_, _, by row_cond sd, by row_cond sd, ?_⟩
  | refine ⟨_, _, _, by row_cond sd, ?_⟩
  | refine ⟨_, _, _, by row_cond sd, by row_cond sd, ?_⟩
  | refine ⟨_, _, _, by row_cond sd, by row_cond sd, by row_cond sd, ?_⟩
  | refine ⟨_, _, _, _, by row_cond sd, ?_⟩
  | refine ⟨_, _, _, _, by row_cond sd, by row_cond sd, by row_cond sd, ?_⟩
  | refine ⟨_, _, _, _, by row_cond sd, by row_cond sd, by row_cond sd, by row_cond sd, ?_⟩
  | refine iteT ?_
  | refine iteF ?_)
local macro_rules | `(tactic| row_cond go) => `(tactic| repeat (row_cond st))
theorem MkrOk.mono {fs : List Fld} {n m : Nat} {ss : List Slot} (h : MkrOk fs n ss) (hn : n ≤ m) : MkrOk fs m ss := ⟨h.ln, fun j f s h1 h2 hm => by
  obtain ⟨k, e, hk⟩ := h.ok j f s h1 h2 hm
  exact ⟨k, e, by omega⟩⟩
theorem MkrOk.set {fs : List Fld} {n : Nat} {ss : List Slot} (h : MkrOk fs n ss) {i : Nat} {f : Fld} (hf : fs[i]? = some f) {s : Slot} (hs : SlotOk n f s) : MkrOk fs n (ss.set i s) := by
  refine ⟨by rw [List.length_set]; exact h.ln, fun j g t h1 h2 => ?_⟩
  by_cases e : i = j
  · subst e
    rw [hf] at h1
    cases h1
    rw [List.getElem?_set_self (by rw [h.ln]; exact lt_of_get hf)] at h2
    cases h2
    exact hs
  · rw [List.getElem?_set_ne e] at h2
    exact h.ok j g t h1 h2
theorem mem_setL {α : Type} {l : List α} {n : Nat} {x y : α} (h : y ∈ l.set n x) : y ∈ l ∨ y = x := List.mem_or_eq_of_mem_set h
theorem deed_keep {fs : List Fld} {w : Option Str} {x : List Slot × List (List Str)} {d : Str × Str} {n : Nat} (hd : DeedOk fs d) (hm : MkrOk fs x.2.length x.1) (hL : ∀ ws ∈ x.2, ws.length ≤ n) :
    MkrOk fs (deedStep fs w x d).2.length (deedStep fs w x d).1 ∧ x.2.length ≤ (deedStep fs w x d).2.length ∧ (deedStep fs w x d).2.length ≤ x.2.length + 1 ∧ ∀ ws ∈ (deedStep fs w x d).2, ws.length ≤ n + 1 := by
  obtain ⟨dn, df⟩ := d
  obtain ⟨t, ht, hdt⟩ := hd
  simp only at ht hdt
  obtain ⟨f, hf, e1, e2, _⟩ := fAt_get ht
  have hal : fAt fs df < x.1.length := by rw [hm.ln]; exact lt_of_get hf
  obtain ⟨s, hs⟩ : ∃ s, x.1[fAt fs df]? = some s := ⟨_, List.getElem?_eq_getElem hal⟩
  have hat : x.1.getD (fAt fs df) .no = s := by rw [List.getD_eq_getElem?_getD, hs]; rfl
  have hL1 : ∀ ws ∈ x.2, ws.length ≤ n + 1 := fun ws h => by have := hL ws h; omega
  rcases sort_two ht with rfl | rfl
  · have hone : f.many = false := by
      cases hq : f.many with
      | false => rfl
      | true => simp only [Fld.sort, hq, if_true] at e2; exact absurd e2 (by decide)
    have hso : ∀ s', SlotOk x.2.length f s' := fun s' hmm => by rw [hone] at hmm; cases hmm
    simp only [deedsOf, show ¬ (("one" : Str) = "many") by decide, if_false, List.mem_cons, List.not_mem_nil, or_false] at hdt
    rcases hdt with rfl | rfl
    · rw [show deedStep fs w x ("set", df) = (x.1.set (fAt fs df) (wdS w), x.2) by simp [deedStep]]
      exact ⟨hm.set hf (hso _), by simp, by simp, hL1⟩
    · rw [show deedStep fs w x ("clear", df) = (x.1.set (fAt fs df) .no, x.2) by
        simp only [deedStep, sn_cs, if_false]
        exact if_pos ⟨trivial, ht⟩]
      exact ⟨hm.set hf (hso _), by simp, by simp, hL1⟩
  · have hmany : f.many = true := by
      cases hq : f.many with
      | true => rfl
      | false => simp only [Fld.sort, hq] at e2; exact absurd e2 (by decide)
    obtain ⟨nn, rfl, hnn⟩ := hm.ok _ f s hf hs hmany
    have hg : x.2.getD nn [] ∈ x.2 := by
      rw [List.getD_eq_getElem?_getD, List.getElem?_eq_getElem hnn]
      exact List.getElem_mem hnn
    have hgl := hL _ hg
    simp only [deedsOf, if_true, List.mem_cons, List.not_mem_nil, or_false] at hdt
    rcases hdt with rfl | rfl | rfl | rfl
    · rw [deed_add hat]
      refine ⟨by simpa using hm, by simp, by simp, fun ws hws => ?_⟩
      rcases mem_setL hws with hws | rfl
      · exact hL1 ws hws
      · rw [List.length_append, List.length_singleton]; omega
    · rw [deed_strike hat]
      refine ⟨by simpa using hm, by simp, by simp, fun ws hws => ?_⟩
      rcases mem_setL hws with hws | rfl
      · exact hL1 ws hws
      · have := List.length_filter_le (fun y => !decide (y = w.getD "")) (x.2.getD nn [])
        omega
    · rw [deed_fresh hat]
      refine ⟨?_, by simp, by simp, fun ws hws => ?_⟩
      · have h2 := hm.mono (m := x.2.length + 1) (by omega)
        rw [show (x.2 ++ [x.2.getD nn []]).length = x.2.length + 1 by simp]
        exact h2.set hf fun _ => ⟨_, rfl, by omega⟩
      · rcases List.mem_append.mp hws with hws | hws
        · exact hL1 ws hws
        · obtain rfl := List.mem_singleton.mp hws
          omega
    · rw [deed_clear hat ht]
      refine ⟨by simpa using hm, by simp, by simp, fun ws hws => ?_⟩
      rcases mem_setL hws with hws | rfl
      · exact hL1 ws hws
      · simp
theorem does_keep {fs : List Fld} {w : Option Str} : ∀ {ds : List (Str × Str)} {x : List Slot × List (List Str)} {n : Nat}, (∀ d ∈ ds, DeedOk fs d) → MkrOk fs x.2.length x.1 → (∀ ws ∈ x.2, ws.length ≤ n) →
    MkrOk fs (ds.foldl (deedStep fs w) x).2.length (ds.foldl (deedStep fs w) x).1 ∧ x.2.length ≤ (ds.foldl (deedStep fs w) x).2.length ∧ (ds.foldl (deedStep fs w) x).2.length ≤ x.2.length + ds.length ∧ ∀ ws ∈ (ds.foldl (deedStep fs w) x).2, ws.length ≤ n + ds.length
  | [], x, n, _, hm, hL => ⟨hm, by simp, by simp, by simpa using hL⟩
  | d :: r, x, n, hd, hm, hL => by
    obtain ⟨a1, a2, a3, a4⟩ := deed_keep (w := w) (hd d (by simp)) hm hL
    obtain ⟨b1, b2, b3, b4⟩ := does_keep (w := w) (ds := r) (fun e he => hd e (List.mem_cons_of_mem _ he)) a1 a4
    simp only [List.foldl_cons, List.length_cons]
    exact ⟨b1, by omega, by omega, fun ws hws => by have := b4 ws hws; omega⟩
end Mz
end
section
set_option Elab.async false
set_option linter.all false
set_option maxRecDepth 100000
set_option maxHeartbeats 1000000
namespace Mz
open PySem L2 TL
local macro_rules | `(tactic| row_cond sd) => `(tactic| first | with_reducible assumption | with_reducible exact rfl | exact rfl | exact True.intro | assumption | decide)
local macro_rules | `(tactic| row_cond st) => `(tactic| first
  | refine And.intro (by row_cond sd) ?_
  | refine ⟨_, by row_cond sd, ?_⟩
  | refine ⟨_, _, by row_cond sd, ?_⟩
  | refine ⟨_, _, by row_cond sd, by row_cond sd, ?_⟩
  | refine ⟨_, _, _, by row_cond sd, ?_⟩
  | refine ⟨_, _, _, by row_cond sd, by row_cond sd, ?_⟩
  | refine ⟨_, _, _, by row_cond sd, by row_cond sd, by row_cond sd, ?_⟩
  | refine ⟨_, _, _, _, by row_cond sd, ?_⟩
  | refine ⟨_, _, _, _, by row_cond sd, by row_cond sd, by row_cond sd, ?_⟩
  | refine ⟨_, _, _, _, by row_cond sd, by row_cond sd, by row_cond sd, by row_cond sd, ?_⟩
  | refine iteT ?_
  | refine iteF ?_)
local macro_rules | `(tactic| row_cond go) => `(tactic| repeat (row_cond st))
def Row.py : Row → PyData
  | .make => .tuple [.str "make"]
  | .call nm k none => .tuple [.str nm, .int k]
  | .call nm k (some w) => .tuple [.str nm, .int k, .str w]
end Mz
end
section
set_option Elab.async false
set_option linter.all false
set_option maxRecDepth 100000
set_option maxHeartbeats 1000000
namespace Mz
open PySem L2 TL
local macro_rules | `(tactic| row_cond sd) => `(tactic| first | with_reducible assumption | with_reducible exact rfl | exact rfl | exact True.intro | assumption | decide)
local macro_rules | `(tactic| row_cond st) => `(tactic| first
  | refine And.intro (by row_cond sd) ?_
  | refine ⟨_, by row_cond sd, ?_⟩
  | refine ⟨_, _, by row_cond sd, ?_⟩
  | refine ⟨_, _, by row_cond sd, by row_cond sd, ?_⟩
  | refine ⟨_, _, _, by row_cond sd, ?_⟩
  | refine ⟨_, _, _, by row_cond sd, by row_cond sd, ?_⟩
  | refine ⟨_, _, _, by row_cond sd, by row_cond sd, by row_cond sd, ?_⟩
  | refine ⟨_, _, _, _, by row_cond sd, ?_⟩
  | refine ⟨_, _, _, _, by row_cond sd, by row_cond sd, by row_cond sd, ?_⟩
  | refine ⟨_, _, _, _, by row_cond sd, by row_cond sd, by row_cond sd, by row_cond sd, ?_⟩
  | refine iteT ?_
  | refine iteF ?_)
local macro_rules | `(tactic| row_cond go) => `(tactic| repeat (row_cond st))
end Mz
end
section
set_option Elab.async false
set_option linter.all false
set_option maxRecDepth 100000
set_option maxHeartbeats 1000000
namespace Mz
open PySem L2 TL
local macro_rules | `(tactic| row_cond sd) => `(tactic| first | with_reducible assumption | with_reducible exact rfl | exact rfl | exact True.intro | assumption | decide)
local macro_rules | `(tactic| row_cond st) => `(tactic| first
  | refine And.intro (by row_cond sd) ?_
  | refine ⟨_, by row_cond sd, ?_⟩
  | refine ⟨_, _, by row_cond sd, ?_⟩
  | refine ⟨_, _, by row_cond sd, by row_cond sd, ?_⟩
  | refine ⟨_, _, _, by row_cond sd, ?_⟩
  | refine ⟨_, _, _, by row_cond sd, by row_cond sd, ?_⟩
  | refine ⟨_, _, _, by row_cond sd, by row_cond sd, by row_cond sd, ?_⟩
  | refine ⟨_, _, _, _, by row_cond sd, ?_⟩
  | refine ⟨_, _, _, _, by row_cond sd, by row_cond sd, by row_cond sd, ?_⟩
  | refine ⟨_, _, _, _, by row_cond sd, by row_cond sd, by row_cond sd, by row_cond sd, ?_⟩
  | refine iteT ?_
  | refine iteF ?_)
local macro_rules | `(tactic| row_cond go) => `(tactic| repeat (row_cond st))
/-! ### makers stay in order -/
theorem first_go (n0 : Nat) : ∀ (fs : List Fld) (x : List Slot × List (List Str)), ∃ t, (fs.foldl fStep x).1 = x.1 ++ t ∧ t.length = fs.length ∧ (∀ (i : Nat) (f : Fld) (s : Slot), fs[i]? = some f → t[i]? = some s → SlotOk (fs.foldl fStep x).2.length f s) ∧ x.2.length ≤ (fs.foldl fStep x).2.length ∧ ((∀ ws ∈ x.2, ws.length ≤ n0) → ∀ ws ∈ (fs.foldl fStep x).2, ws.length ≤ n0)
  | [], x => ⟨[], by simp, rfl, by simp, Nat.le_refl _, fun h => h⟩
  | f :: r, x => by
    obtain ⟨t, h1, h2, h3, h4, h5⟩ := first_go n0 r (fStep x f)
    have hs : ∃ s, (fStep x f).1 = x.1 ++ [s] ∧ x.2.length ≤ (fStep x f).2.length ∧ SlotOk (fStep x f).2.length f s ∧ ((∀ ws ∈ x.2, ws.length ≤ n0) → ∀ ws ∈ (fStep x f).2, ws.length ≤ n0) := by
      unfold fStep
      split
      · rename_i hm
        refine ⟨_, rfl, by simp, fun _ => ⟨_, rfl, by simp⟩, fun h ws hws => ?_⟩
        rcases List.mem_append.mp hws with hws | hws
        · exact h ws hws
        · obtain rfl := List.mem_singleton.mp hws
          simp
      · rename_i hm
        exact ⟨_, rfl, Nat.le_refl _, fun z => absurd z hm, fun h => h⟩
    obtain ⟨s, e1, e2, e3, e4⟩ := hs
    refine ⟨s :: t, ?_, by simp [h2], fun i g s' hg ht => ?_, by simp only [List.foldl_cons]; omega, fun h => h5 (e4 h)⟩
    · simp only [List.foldl_cons]; rw [h1, e1]; simp
    · cases i with
      | zero =>
        simp at hg ht
        subst hg; subst ht
        intro hm
        obtain ⟨k, e, hk⟩ := e3 hm
        exact ⟨k, e, Nat.lt_of_lt_of_le hk h4⟩
      | succ i => exact h3 i g s' (by simpa using hg) (by simpa using ht)
theorem first_ok (fs : List Fld) (ls : List (List Str)) : MkrOk fs (firstOf fs ls).2.length (firstOf fs ls).1 := by
  obtain ⟨t, h1, h2, h3, _⟩ := first_go 0 fs ([], ls)
  unfold firstOf
  rw [h1, List.nil_append]
  exact ⟨h2, h3⟩
theorem copy_go (same : List Str) (n0 : Nat) : ∀ (l : List (Fld × Slot)) (x : List Slot × List (List Str)), (∀ q ∈ l, SlotOk x.2.length q.1 q.2) → ∃ t, (l.foldl (copyStep same) x).1 = x.1 ++ t ∧ t.length = l.length ∧ (∀ (i : Nat) (q : Fld × Slot) (s : Slot), l[i]? = some q → t[i]? = some s → SlotOk (l.foldl (copyStep same) x).2.length q.1 s) ∧ x.2.length ≤ (l.foldl (copyStep same) x).2.length ∧ ((∀ ws ∈ x.2, ws.length ≤ n0) → ∀ ws ∈ (l.foldl (copyStep same) x).2, ws.length ≤ n0)
  | [], x, _ => ⟨[], by simp, rfl, by simp, Nat.le_refl _, fun h => h⟩
  | q :: r, x, hq => by
    have hq0 := hq q (by simp)
    have hs : ∃ s, (copyStep same x q).1 = x.1 ++ [s] ∧ x.2.length ≤ (copyStep same x q).2.length ∧ SlotOk (copyStep same x q).2.length q.1 s ∧ ((∀ ws ∈ x.2, ws.length ≤ n0) → ∀ ws ∈ (copyStep same x q).2, ws.length ≤ n0) := by
      unfold copyStep
      split
      · exact ⟨_, rfl, Nat.le_refl _, hq0, fun h => h⟩
      · rename_i hm
        have hmany : q.1.many = true := by
          cases e : q.1.many with
          | true => rfl
          | false => exact absurd (.inl e) hm
        obtain ⟨k, e, hk⟩ := hq0 hmany
        rw [e]
        refine ⟨_, rfl, by simp, fun _ => ⟨_, rfl, by simp⟩, fun h ws hws => ?_⟩
        rcases List.mem_append.mp hws with hws | hws
        · exact h ws hws
        · obtain rfl := List.mem_singleton.mp hws
          rw [List.getD_eq_getElem?_getD, List.getElem?_eq_getElem hk]
          exact h _ (List.getElem_mem hk)
    obtain ⟨s, e1, e2, e3, e4⟩ := hs
    obtain ⟨t, h1, h2, h3, h4, h5⟩ := copy_go same n0 r (copyStep same x q) fun z hz hm => by
      obtain ⟨k, e, hk⟩ := hq z (List.mem_cons_of_mem _ hz) hm
      exact ⟨k, e, by omega⟩
    refine ⟨s :: t, ?_, by simp [h2], fun i g s' hg ht => ?_, by simp only [List.foldl_cons]; omega, fun h => h5 (e4 h)⟩
    · simp only [List.foldl_cons]; rw [h1, e1]; simp
    · cases i with
      | zero =>
        simp at hg ht
        subst hg; subst ht
        intro hm
        obtain ⟨k, e, hk⟩ := e3 hm
        exact ⟨k, e, Nat.lt_of_lt_of_le hk h4⟩
      | succ i => exact h3 i g s' (by simpa using hg) (by simpa using ht)
theorem copy_ok {fs : List Fld} {same : List Str} {ss : List Slot} {ls : List (List Str)} (hm : MkrOk fs ls.length ss) : MkrOk fs (copyOf fs same ss ls).2.length (copyOf fs same ss ls).1 := by
  obtain ⟨t, h1, h2, h3, _⟩ := copy_go same 0 (fs.zip ss) ([], ls) fun q hq => by
    obtain ⟨i, hi⟩ := List.getElem?_of_mem hq
    obtain ⟨a, c⟩ := List.getElem?_zip_eq_some.mp hi
    exact hm.ok i q.1 q.2 a c
  unfold copyOf
  rw [h1, List.nil_append]
  have hl := hm.ln
  refine ⟨by rw [h2, List.length_zip]; omega, fun i f s hf hs => ?_⟩
  have hi : i < ss.length := by rw [hl]; exact lt_of_get hf
  exact h3 i (f, ss[i]) s (List.getElem?_zip_eq_some.mpr ⟨hf, List.getElem?_eq_getElem hi⟩) hs
theorem copy_lens {fs : List Fld} {same : List Str} {ss : List Slot} {ls : List (List Str)} {n0 : Nat} (hm : MkrOk fs ls.length ss) (hL : ∀ ws ∈ ls, ws.length ≤ n0) : ls.length ≤ (copyOf fs same ss ls).2.length ∧ (copyOf fs same ss ls).2.length ≤ ls.length + fs.length ∧ ∀ ws ∈ (copyOf fs same ss ls).2, ws.length ≤ n0 := by
  obtain ⟨t, h1, h2, h3, h4, h5⟩ := copy_go same n0 (fs.zip ss) ([], ls) fun q hq => by
    obtain ⟨i, hi⟩ := List.getElem?_of_mem hq
    obtain ⟨a, c⟩ := List.getElem?_zip_eq_some.mp hi
    exact hm.ok i q.1 q.2 a c
  have hc := copy_len same (fs.zip ss) ([], ls)
  rw [List.length_zip] at hc
  unfold copyOf
  exact ⟨h4, by simp only at hc; omega, h5 hL⟩
theorem first_lens {fs : List Fld} {ls : List (List Str)} {n0 : Nat} (hL : ∀ ws ∈ ls, ws.length ≤ n0) : ls.length ≤ (firstOf fs ls).2.length ∧ (firstOf fs ls).2.length ≤ ls.length + fs.length ∧ ∀ ws ∈ (firstOf fs ls).2, ws.length ≤ n0 := by
  obtain ⟨t, h1, h2, h3, h4, h5⟩ := first_go n0 fs ([], ls)
  have hc := first_len fs ([], ls)
  unfold firstOf
  exact ⟨h4, hc, h5 hL⟩
/-! ### contents, told -/
inductive Cnt where
  | no
  | wd (w : Str)
  | nm (n : Nat)
  | ws (l : List Str)
def cntOf (ls : List (List Str)) (q : Fld × Slot) : Cnt :=
  if q.1.many = true then (match q.2 with | .ls n => .ws (ls.getD n []) | _ => .no) else (match q.2 with | .no => .no | .wd w => .wd w | .ls n => .nm n)
def toldOf (fs : List Fld) (ls : List (List Str)) (ss : List Slot) : List Cnt := (fs.zip ss).map (cntOf ls)
inductive CntAt (fx : List (Nat × MO)) : Dv → Cnt → Prop
  | no : CntAt fx (.d .non) .no
  | wd (w : Str) : CntAt fx (.d (.str w)) (.wd w)
  | nm (n : Nat) : CntAt fx (.d (.int n)) (.nm n)
  | ws {a : Nat} {l : List Str} : (a, MO.lst (strsD l)) ∈ fx → CntAt fx (.ob a) (.ws l)
theorem CntAt.mono {fx fx' : List (Nat × MO)} (hs : ∀ p ∈ fx, p ∈ fx') {d : Dv} {c : Cnt} (h : CntAt fx d c) : CntAt fx' d c := by
  cases h with
  | no => exact .no
  | wd w => exact .wd w
  | nm n => exact .nm n
  | ws h => exact .ws (hs _ h)
def CntsAt (fx : List (Nat × MO)) (items : List Dv) (cs : List Cnt) : Prop := items.length = cs.length ∧ ∀ (j : Nat) (d : Dv) (c : Cnt), items[j]? = some d → cs[j]? = some c → CntAt fx d c
def ToldAt (fx : List (Nat × MO)) (n : Nat) (cs : List Cnt) : Prop := ∃ items, (n, MO.lst items) ∈ fx ∧ CntsAt fx items cs
theorem CntsAt.mono {fx fx' : List (Nat × MO)} (hs : ∀ p ∈ fx, p ∈ fx') {its : List Dv} {cs : List Cnt} (h : CntsAt fx its cs) : CntsAt fx' its cs := ⟨h.1, fun j d c h1 h2 => (h.2 j d c h1 h2).mono hs⟩
theorem ToldAt.mono {fx fx' : List (Nat × MO)} (hs : ∀ p ∈ fx, p ∈ fx') {n : Nat} {cs : List Cnt} (h : ToldAt fx n cs) : ToldAt fx' n cs := by
  obtain ⟨its, h1, h2⟩ := h
  exact ⟨its, hs _ h1, h2.mono hs⟩
theorem CntsAt.nil {fx : List (Nat × MO)} : CntsAt fx [] [] := ⟨rfl, fun j d c h => by simp at h⟩
theorem told_get {fs : List Fld} {ls : List (List Str)} {ss : List Slot} {i : Nat} {f : Fld} {s : Slot} (hf : fs[i]? = some f) (hs : ss[i]? = some s) : (toldOf fs ls ss)[i]? = some (cntOf ls (f, s)) := by
  unfold toldOf
  rw [List.getElem?_map, List.getElem?_zip_eq_some (z := (f, s)) |>.mpr ⟨hf, hs⟩]
  rfl
end Mz
end
section
set_option Elab.async false
set_option linter.all false
set_option maxRecDepth 100000
set_option maxHeartbeats 1000000
namespace Mz
open PySem L2 TL
local macro_rules | `(tactic| row_cond sd) => `(tactic| first | with_reducible assumption | with_reducible exact rfl | exact rfl | exact True.intro | assumption | decide)
local macro_rules | `(tactic| row_cond st) => `(tactic| first
  | refine And.intro (by row_cond sd) ?_
  | refine ⟨_, by row_cond sd, ?_⟩
  | refine ⟨_, _, by row_cond sd, ?_⟩
  | refine ⟨_, _, by row_cond sd, by row_cond sd, ?_⟩
  | refine ⟨_, _, _, by row_cond sd, ?_⟩
  | refine ⟨_, _, _, by row_cond sd, by row_cond sd, ?_⟩
  | refine ⟨_, _, _, by row_cond sd, by row_cond sd, by row_cond sd, ?_⟩
  | refine ⟨_, _, _, _, by row_cond sd, ?_⟩
  | refine ⟨_, _, _, _, by row_cond sd, by row_cond sd, by row_cond sd, ?_⟩
  | refine ⟨_, _, _, _, by row_cond sd, by row_cond sd, by row_cond sd, by row_cond sd, ?_⟩
  | refine iteT ?_
  | refine iteF ?_)
local macro_rules | `(tactic| row_cond go) => `(tactic| repeat (row_cond st))
abbrev runO (A : Ad) (kd : KD) (rl so hd mc : Nat) : MO := .ins A.Run [("kind", .d (kindDa A kd)), ("row_list", .ob rl), ("store", .ob so), ("handed", .ob hd), ("made_contents", .ob mc)]
def hD (ms : List (Nat × Nat)) : Option (Bool × Nat) → Dv
  | none => .d .non
  | some (pr, j) => .tp [.d (.str (if pr = true then "product" else "maker")), .ob (ms.getD j (0, 0)).1]
abbrev runFx (A : Ad) (kd : KD) (rn rl so hd mc : Nat) (rs : List Row) (hs : List Dv) (kvs : List (Key × Dv)) (ex : List (Nat × MO)) : List (Nat × MO) := (mc, .dct kvs) :: (rn, runO A kd rl so hd mc) :: (rl, .lst (rowsD rs)) :: (hd, .lst hs) :: ex
/-- what a row does, plain -/
def rowStep (kd : KD) (S : Sto) (hs : List (Option (Bool × Nat))) : Row → Sto × Option (Bool × Nat)
  | .make => (⟨(firstOf kd.fs S.ls).2, S.mks ++ [⟨0, (firstOf kd.fs S.ls).1⟩]⟩, some (false, S.mks.length))
  | .call nm k w => match calOf kd nm, hs.getD k none with
    | some c, some (pr, j) =>
      if c.moves.getD (S.mks.getD j ⟨0, []⟩).mode.toNat (-1) = -1 then (S, none)
      else if c.hand = "new" then
        (⟨(doesOf kd.fs w c.deeds (copyOf kd.fs c.same (S.mks.getD j ⟨0, []⟩).slots S.ls).1 (copyOf kd.fs c.same (S.mks.getD j ⟨0, []⟩).slots S.ls).2).2, S.mks ++ [⟨c.moves.getD (S.mks.getD j ⟨0, []⟩).mode.toNat (-1), (doesOf kd.fs w c.deeds (copyOf kd.fs c.same (S.mks.getD j ⟨0, []⟩).slots S.ls).1 (copyOf kd.fs c.same (S.mks.getD j ⟨0, []⟩).slots S.ls).2).1⟩]⟩, some (false, S.mks.length))
      else if c.hand = "self" then
        (⟨(doesOf kd.fs w c.deeds (S.mks.getD j ⟨0, []⟩).slots S.ls).2, S.mks.set j ⟨c.moves.getD (S.mks.getD j ⟨0, []⟩).mode.toNat (-1), (doesOf kd.fs w c.deeds (S.mks.getD j ⟨0, []⟩).slots S.ls).1⟩⟩, some (pr, j))
      else
        (⟨(copyOf kd.fs c.same (doesOf kd.fs w c.deeds (S.mks.getD j ⟨0, []⟩).slots S.ls).1 (doesOf kd.fs w c.deeds (S.mks.getD j ⟨0, []⟩).slots S.ls).2).2, S.mks.set j ⟨c.moves.getD (S.mks.getD j ⟨0, []⟩).mode.toNat (-1), (doesOf kd.fs w c.deeds (S.mks.getD j ⟨0, []⟩).slots S.ls).1⟩ ++ [⟨0, (copyOf kd.fs c.same (doesOf kd.fs w c.deeds (S.mks.getD j ⟨0, []⟩).slots S.ls).1 (doesOf kd.fs w c.deeds (S.mks.getD j ⟨0, []⟩).slots S.ls).2).1⟩]⟩, some (true, S.mks.length))
    | _, _ => (S, none)
/-- all makers in order, n rows done -/
structure StoOk (kd : KD) (n : Nat) (S : Sto) : Prop where
  mk_ : ∀ mk ∈ S.mks, MkrOk kd.fs S.ls.length mk.slots ∧ 0 ≤ mk.mode ∧ mk.mode < kd.md
  ll : S.ls.length ≤ 10 * n
  wl : ∀ ws ∈ S.ls, ws.length ≤ 10 * n
end Mz
end
section
set_option Elab.async false
set_option linter.all false
set_option maxRecDepth 100000
set_option maxHeartbeats 1000000
namespace Mz
open PySem L2 TL
local macro_rules | `(tactic| row_cond sd) => `(tactic| first | with_reducible assumption | with_reducible exact rfl | exact rfl | exact True.intro | assumption | decide)
local macro_rules | `(tactic| row_cond st) => `(tactic| first
  | refine And.intro (by row_cond sd) ?_
  | refine ⟨_, by row_cond sd, ?_⟩
  | refine ⟨_, _, by row_cond sd, ?_⟩
  | refine ⟨_, _, by row_cond sd, by row_cond sd, ?_⟩
  | refine ⟨_, _, _, by row_cond sd, ?_⟩
  | refine ⟨_, _, _, by row_cond sd, by row_cond sd, ?_⟩
  | refine ⟨_, _, _, by row_cond sd, by row_cond sd, by row_cond sd, ?_⟩
  | refine ⟨_, _, _, _, by row_cond sd, ?_⟩
  | refine ⟨_, _, _, _, by row_cond sd, by row_cond sd, by row_cond sd, ?_⟩
  | refine ⟨_, _, _, _, by row_cond sd, by row_cond sd, by row_cond sd, by row_cond sd, ?_⟩
  | refine iteT ?_
  | refine iteF ?_)
local macro_rules | `(tactic| row_cond go) => `(tactic| repeat (row_cond st))
/-- a program's run, plain -/
structure RSt where
  S : Sto
  hs : List (Option (Bool × Nat))
  md : List (Nat × List Cnt)
def mdNext (kd : KD) (n : Nat) (md : List (Nat × List Cnt)) (q : Sto × Option (Bool × Nat)) : List (Nat × List Cnt) := match q.2 with
  | some (true, j) => md ++ [(n, toldOf kd.fs q.1.ls (q.1.mks.getD j ⟨0, []⟩).slots)]
  | _ => md
def rowNext (kd : KD) (R : RSt) (r : Row) : RSt := ⟨(rowStep kd R.S R.hs r).1, R.hs ++ [(rowStep kd R.S R.hs r).2], mdNext kd R.hs.length R.md (rowStep kd R.S R.hs r)⟩
/-- what is kept of products -/
def MdAt (fx : List (Nat × MO)) (kvs : List (Key × Dv)) (md : List (Nat × List Cnt)) : Prop := kvs.map (·.1) = md.map (fun p => (.inl (p.1 : Int) : Key)) ∧ ∀ (i : Nat) (q : Key × Dv) (m : Nat × List Cnt), kvs[i]? = some q → md[i]? = some m → ∃ n, q.2 = .ob n ∧ ToldAt fx n m.2
theorem MdAt.mono {fx fx' : List (Nat × MO)} (hs : ∀ p ∈ fx, p ∈ fx') {kvs : List (Key × Dv)} {md : List (Nat × List Cnt)} (h : MdAt fx kvs md) : MdAt fx' kvs md := ⟨h.1, fun i q m h1 h2 => by
  obtain ⟨n, e, t⟩ := h.2 i q m h1 h2
  exact ⟨n, e, t.mono hs⟩⟩
theorem MdAt.len {fx : List (Nat × MO)} {kvs : List (Key × Dv)} {md : List (Nat × List Cnt)} (h : MdAt fx kvs md) : kvs.length = md.length := by
  have := congrArg List.length h.1
  simpa using this
/-- what rows have handed fits their calls -/
def HsOk (kd : KD) (rs : List Row) (hs : List (Option (Bool × Nat))) : Prop := ∀ (k : Nat) (pr : Bool) (j : Nat) (r : Row), hs[k]? = some (some (pr, j)) → rs[k]? = some r → pr = r.isLast kd
end Mz
end
section
set_option Elab.async false
set_option linter.all false
set_option maxRecDepth 100000
set_option maxHeartbeats 1000000
namespace Mz
open PySem L2 TL
local macro_rules | `(tactic| row_cond sd) => `(tactic| first | with_reducible assumption | with_reducible exact rfl | exact rfl | exact True.intro | assumption | decide)
local macro_rules | `(tactic| row_cond st) => `(tactic| first
  | refine And.intro (by row_cond sd) ?_
  | refine ⟨_, by row_cond sd, ?_⟩
  | refine ⟨_, _, by row_cond sd, ?_⟩
  | refine ⟨_, _, by row_cond sd, by row_cond sd, ?_⟩
  | refine ⟨_, _, _, by row_cond sd, ?_⟩
  | refine ⟨_, _, _, by row_cond sd, by row_cond sd, ?_⟩
  | refine ⟨_, _, _, by row_cond sd, by row_cond sd, by row_cond sd, ?_⟩
  | refine ⟨_, _, _, _, by row_cond sd, ?_⟩
  | refine ⟨_, _, _, _, by row_cond sd, by row_cond sd, by row_cond sd, ?_⟩
  | refine ⟨_, _, _, _, by row_cond sd, by row_cond sd, by row_cond sd, by row_cond sd, ?_⟩
  | refine iteT ?_
  | refine iteF ?_)
local macro_rules | `(tactic| row_cond go) => `(tactic| repeat (row_cond st))
theorem row_keep {kd : KD} {S : Sto} {hs : List (Option (Bool × Nat))} {rs : List Row} {r : Row} {i : Nat} (ok : KDOk kd) (so_ : StoOk kd i S) (hsk : ∀ pr j, some (pr, j) ∈ hs → j < S.mks.length) (hrow : RowOk kd rs r) :
    StoOk kd (i + 1) (rowStep kd S hs r).1 ∧ S.mks.length ≤ (rowStep kd S hs r).1.mks.length ∧ ∀ pr j, (rowStep kd S hs r).2 = some (pr, j) → j < (rowStep kd S hs r).1.mks.length := by
  have hll := so_.ll
  have hwl := so_.wl
  have hfl := ok.f.le
  have hbase : StoOk kd (i + 1) S := ⟨so_.mk_, by omega, fun ws h => by have := hwl ws h; omega⟩
  cases r with
  | make =>
    obtain ⟨f1, f2, f3⟩ := first_lens (fs := kd.fs) hwl
    refine ⟨⟨fun mk hmk => ?_, ?_, fun ws h => ?_⟩, by simp [rowStep], fun pr j e => ?_⟩
    · simp only [rowStep] at hmk ⊢
      rcases List.mem_append.mp hmk with hmk | hmk
      · obtain ⟨a, c⟩ := so_.mk_ mk hmk
        exact ⟨a.mono f1, c⟩
      · obtain rfl := List.mem_singleton.mp hmk
        have := ok.m1
        exact ⟨first_ok _ _, by simp, by show (0 : Int) < kd.md; omega⟩
    · simp only [rowStep]; omega
    · simp only [rowStep] at h
      have := f3 ws h
      omega
    · simp only [rowStep] at e ⊢
      cases e
      simp
  | call nm k w =>
    obtain ⟨c, r0, hc, hr0, _, _, _⟩ := hrow
    have okc := ok.c c (calOf_nm hc).2
    have hdl := okc.dl
    cases hx : hs.getD k none with
    | none =>
      have e : rowStep kd S hs (.call nm k w) = (S, none) := by simp only [rowStep, hc, hx]
      rw [e]
      exact ⟨hbase, Nat.le_refl _, fun pr j z => by cases z⟩
    | some pj =>
      obtain ⟨pr, j⟩ := pj
      have hxm : some (pr, j) ∈ hs := by
        rw [List.getD_eq_getElem?_getD] at hx
        cases q : hs[k]? with
        | none => rw [q] at hx; cases hx
        | some z =>
          rw [q] at hx
          have : z = some (pr, j) := hx
          rw [← this]; exact mem_get q
      have hj := hsk pr j hxm
      obtain ⟨mk, hk⟩ : ∃ mk, S.mks[j]? = some mk := ⟨_, List.getElem?_eq_getElem hj⟩
      have hkg : S.mks.getD j ⟨0, []⟩ = mk := by rw [List.getD_eq_getElem?_getD, hk]; rfl
      obtain ⟨hmk, hm1, hm2⟩ := so_.mk_ mk (mem_get hk)
      have hml := okc.ml
      obtain ⟨mv, hmv⟩ : ∃ mv, c.moves[mk.mode.toNat]? = some mv := ⟨_, List.getElem?_eq_getElem (by omega)⟩
      have hmg : c.moves.getD mk.mode.toNat (-1) = mv := by rw [List.getD_eq_getElem?_getD, hmv]; rfl
      have hmr := okc.mv mv (mem_get hmv)
      by_cases hm0 : mv = -1
      · have e : rowStep kd S hs (.call nm k w) = (S, none) := by simp only [rowStep, hc, hx, hkg, hmg, hm0, if_true]
        rw [e]
        exact ⟨hbase, Nat.le_refl _, fun pr j z => by cases z⟩
      · have hmv0 : 0 ≤ mv := by omega
        have hmv1 : mv < kd.md := by omega
        obtain ⟨dk1, dk2, dk3, dk4⟩ := does_keep (w := w) (ds := c.deeds) (x := (mk.slots, S.ls)) okc.dd hmk hwl
        have hhd := okc.hd
        simp only [List.mem_cons, List.not_mem_nil, or_false] at hhd
        rcases hhd with hh | hh | hh
        · have e : rowStep kd S hs (.call nm k w) = (⟨(doesOf kd.fs w c.deeds mk.slots S.ls).2, S.mks.set j ⟨mv, (doesOf kd.fs w c.deeds mk.slots S.ls).1⟩⟩, some (pr, j)) := by
            simp only [rowStep, hc, hx, hkg, hmg, hm0, hh, if_false, show (("self" : Str) = "new") = False from eq_false (by decide), if_true]
          rw [e]
          refine ⟨⟨fun m hm => ?_, ?_, fun ws h => ?_⟩, by simp, fun pr' j' z => ?_⟩
          · rcases mem_setL hm with hm | rfl
            · obtain ⟨a, b⟩ := so_.mk_ m hm
              exact ⟨a.mono dk2, b⟩
            · exact ⟨dk1, hmv0, hmv1⟩
          · show (doesOf kd.fs w c.deeds mk.slots S.ls).2.length ≤ _
            unfold doesOf; simp only at dk3; omega
          · have := dk4 ws h; omega
          · cases z; simpa using hj
        · obtain ⟨c1, c2, c3⟩ := copy_lens (same := c.same) hmk hwl
          have hcok := copy_ok (same := c.same) hmk
          obtain ⟨ek1, ek2, ek3, ek4⟩ := does_keep (w := w) (ds := c.deeds) (x := copyOf kd.fs c.same mk.slots S.ls) okc.dd hcok c3
          have e : rowStep kd S hs (.call nm k w) = (⟨(doesOf kd.fs w c.deeds (copyOf kd.fs c.same mk.slots S.ls).1 (copyOf kd.fs c.same mk.slots S.ls).2).2, S.mks ++ [⟨mv, (doesOf kd.fs w c.deeds (copyOf kd.fs c.same mk.slots S.ls).1 (copyOf kd.fs c.same mk.slots S.ls).2).1⟩]⟩, some (false, S.mks.length)) := by
            simp only [rowStep, hc, hx, hkg, hmg, hm0, hh, if_false, if_true]
          rw [e]
          refine ⟨⟨fun m hm => ?_, ?_, fun ws h => ?_⟩, by simp, fun pr' j' z => ?_⟩
          · rcases List.mem_append.mp hm with hm | hm
            · obtain ⟨a, b⟩ := so_.mk_ m hm
              exact ⟨a.mono (Nat.le_trans c1 ek2), b⟩
            · obtain rfl := List.mem_singleton.mp hm
              exact ⟨ek1, hmv0, hmv1⟩
          · exact Nat.le_trans (show _ ≤ _ from ek3) (by omega)
          · have := ek4 ws h; omega
          · cases z; simp
        · obtain ⟨c1, c2, c3⟩ := copy_lens (same := c.same) dk1 dk4
          have hcok := copy_ok (same := c.same) dk1
          have e : rowStep kd S hs (.call nm k w) = (⟨(copyOf kd.fs c.same (doesOf kd.fs w c.deeds mk.slots S.ls).1 (doesOf kd.fs w c.deeds mk.slots S.ls).2).2, S.mks.set j ⟨mv, (doesOf kd.fs w c.deeds mk.slots S.ls).1⟩ ++ [⟨0, (copyOf kd.fs c.same (doesOf kd.fs w c.deeds mk.slots S.ls).1 (doesOf kd.fs w c.deeds mk.slots S.ls).2).1⟩]⟩, some (true, S.mks.length)) := by
            simp only [rowStep, hc, hx, hkg, hmg, hm0, hh, if_false, show (("last" : Str) = "new") = False from eq_false (by decide), show (("last" : Str) = "self") = False from eq_false (by decide)]
          rw [e]
          have hm1' := ok.m1
          refine ⟨⟨fun m hm => ?_, ?_, fun ws h => ?_⟩, by simp, fun pr' j' z => ?_⟩
          · rcases List.mem_append.mp hm with hm | hm
            · rcases mem_setL hm with hm | rfl
              · obtain ⟨a, b⟩ := so_.mk_ m hm
                exact ⟨a.mono (Nat.le_trans dk2 c1), b⟩
              · exact ⟨dk1.mono c1, hmv0, hmv1⟩
            · obtain rfl := List.mem_singleton.mp hm
              exact ⟨hcok, by simp, by show (0 : Int) < kd.md; omega⟩
          · simp only at dk3
            exact Nat.le_trans (show _ ≤ _ from c2) (by omega)
          · have := c3 ws h; omega
          · cases z; simp
end Mz
end
section
set_option Elab.async false
set_option linter.all false
set_option maxRecDepth 100000
set_option maxHeartbeats 1000000
namespace Mz
open PySem L2 TL
local macro_rules | `(tactic| row_cond sd) => `(tactic| first | with_reducible assumption | with_reducible exact rfl | exact rfl | exact True.intro | assumption | decide)
local macro_rules | `(tactic| row_cond st) => `(tactic| first
  | refine And.intro (by row_cond sd) ?_
  | refine ⟨_, by row_cond sd, ?_⟩
  | refine ⟨_, _, by row_cond sd, ?_⟩
  | refine ⟨_, _, by row_cond sd, by row_cond sd, ?_⟩
  | refine ⟨_, _, _, by row_cond sd, ?_⟩
  | refine ⟨_, _, _, by row_cond sd, by row_cond sd, ?_⟩
  | refine ⟨_, _, _, by row_cond sd, by row_cond sd, by row_cond sd, ?_⟩
  | refine ⟨_, _, _, _, by row_cond sd, ?_⟩
  | refine ⟨_, _, _, _, by row_cond sd, by row_cond sd, by row_cond sd, ?_⟩
  | refine ⟨_, _, _, _, by row_cond sd, by row_cond sd, by row_cond sd, by row_cond sd, ?_⟩
  | refine iteT ?_
  | refine iteF ?_)
local macro_rules | `(tactic| row_cond go) => `(tactic| repeat (row_cond st))
/-! ### words in stores -/
abbrev Wo (w : Str) : Prop := (Da.str w).isWord = true
def SlW (f : Fld) : Slot → Prop
  | .no => True
  | .wd w => f.many = false ∧ Wo w
  | .ls _ => f.many = true
def LsW (ls : List (List Str)) : Prop := ∀ ws ∈ ls, ∀ w ∈ ws, Wo w
def SsW (fs : List Fld) (ss : List Slot) : Prop := ∀ (i : Nat) (f : Fld) (s : Slot), fs[i]? = some f → ss[i]? = some s → SlW f s
theorem LsW.app {ls : List (List Str)} (h : LsW ls) {ws : List Str} (hw : ∀ w ∈ ws, Wo w) : LsW (ls ++ [ws]) := fun z hz w hw' => by
  rcases List.mem_append.mp hz with hz | hz
  · exact h z hz w hw'
  · rw [List.mem_singleton.mp hz] at hw'
    exact hw w hw'
theorem LsW.set {ls : List (List Str)} (h : LsW ls) {ws : List Str} {n : Nat} (hw : ∀ w ∈ ws, Wo w) : LsW (ls.set n ws) := fun z hz w hw' => by
  rcases mem_setL hz with hz | rfl
  · exact h z hz w hw'
  · exact hw w hw'
theorem LsW.get {ls : List (List Str)} (h : LsW ls) (n : Nat) : ∀ w ∈ ls.getD n [], Wo w := fun w hw => by
  rw [List.getD_eq_getElem?_getD] at hw
  cases q : ls[n]? with
  | none => rw [q] at hw; simp at hw
  | some z =>
    rw [q] at hw
    exact h z (mem_get q) w hw
theorem SsW.set {fs : List Fld} {ss : List Slot} (h : SsW fs ss) {n : Nat} {f : Fld} {s : Slot} (hf : fs[n]? = some f) (hs : SlW f s) : SsW fs (ss.set n s) := fun i f' s' h1 h2 => by
  by_cases e : n = i
  · subst e
    rw [hf] at h1
    cases h1
    rw [List.getElem?_set_self (by
      have := lt_of_get h2
      simpa using this)] at h2
    cases h2
    exact hs
  · rw [List.getElem?_set_ne e] at h2
    exact h i f' s' h1 h2
theorem first_w : ∀ (fs done : List Fld) (x : List Slot × List (List Str)), x.1.length = done.length → SsW done x.1 → LsW x.2 → SsW (done ++ fs) (fs.foldl fStep x).1 ∧ LsW (fs.foldl fStep x).2
  | [], done, x, _, h1, h2 => by simpa using ⟨h1, h2⟩
  | f :: r, done, x, hl, h1, h2 => by
    have key : (fStep x f).1.length = (done ++ [f]).length ∧ SsW (done ++ [f]) (fStep x f).1 ∧ LsW (fStep x f).2 := by
      have hs : ∀ s : Slot, SlW f s → SsW (done ++ [f]) (x.1 ++ [s]) := fun s hs i f' s' e1 e2 => by
        rcases Nat.lt_trichotomy i done.length with hi | hi | hi
        · rw [List.getElem?_append_left hi] at e1
          rw [List.getElem?_append_left (by omega)] at e2
          exact h1 i f' s' e1 e2
        · subst hi
          have a1 : f = f' := by simpa using e1
          rw [← hl] at e2
          have a2 : s = s' := by simpa using e2
          rw [← a1, ← a2]; exact hs
        · rw [List.getElem?_eq_none (by simp; omega)] at e1
          cases e1
      unfold fStep
      split
      · rename_i hm
        exact ⟨by simp [hl], hs _ hm, h2.app (by simp)⟩
      · exact ⟨by simp [hl], hs _ trivial, h2⟩
    have := first_w r (done ++ [f]) (fStep x f) key.1 key.2.1 key.2.2
    simpa using this
theorem copy_w (same : List Str) : ∀ (l : List (Fld × Slot)) (done : List Fld) (x : List Slot × List (List Str)), (∀ q ∈ l, SlW q.1 q.2) → x.1.length = done.length → SsW done x.1 → LsW x.2 → SsW (done ++ l.map (·.1)) (l.foldl (copyStep same) x).1 ∧ LsW (l.foldl (copyStep same) x).2
  | [], done, x, _, _, h1, h2 => by simpa using ⟨h1, h2⟩
  | (f, s0) :: r, done, x, hq, hl, h1, h2 => by
    have hs : ∀ s : Slot, SlW f s → SsW (done ++ [f]) (x.1 ++ [s]) := fun s hs i f' s' e1 e2 => by
      rcases Nat.lt_trichotomy i done.length with hi | hi | hi
      · rw [List.getElem?_append_left hi] at e1
        rw [List.getElem?_append_left (by omega)] at e2
        exact h1 i f' s' e1 e2
      · subst hi
        have a1 : f = f' := by simpa using e1
        rw [← hl] at e2
        have a2 : s = s' := by simpa using e2
        rw [← a1, ← a2]; exact hs
      · rw [List.getElem?_eq_none (by simp; omega)] at e1
        cases e1
    have h0 := hq (f, s0) (by simp)
    have key : (copyStep same x (f, s0)).1.length = (done ++ [f]).length ∧ SsW (done ++ [f]) (copyStep same x (f, s0)).1 ∧ LsW (copyStep same x (f, s0)).2 := by
      unfold copyStep
      split
      · exact ⟨by simp [hl], hs _ h0, h2⟩
      · cases s0 with
        | no => exact ⟨by simp [hl], hs _ h0, h2⟩
        | wd w => exact ⟨by simp [hl], hs _ h0, h2⟩
        | ls n => exact ⟨by simp [hl], hs (.ls x.2.length) h0, h2.app (h2.get n)⟩
    have := copy_w same r (done ++ [f]) (copyStep same x (f, s0)) (fun q hq' => hq q (List.mem_cons_of_mem _ hq')) key.1 key.2.1 key.2.2
    simpa using this
theorem copyOf_w {fs : List Fld} {same : List Str} {ss : List Slot} {ls : List (List Str)} (hl : ss.length = fs.length) (h1 : SsW fs ss) (h2 : LsW ls) : SsW fs (copyOf fs same ss ls).1 ∧ LsW (copyOf fs same ss ls).2 := by
  have := copy_w same (fs.zip ss) [] ([], ls) (fun q hq => by
    obtain ⟨i, hi⟩ := List.getElem?_of_mem hq
    obtain ⟨a, c⟩ := List.getElem?_zip_eq_some.mp hi
    exact h1 i q.1 q.2 a c) rfl (fun i f s h => by simp at h) h2
  rw [List.nil_append, List.map_fst_zip (by omega)] at this
  exact this
theorem deed_w {fs : List Fld} {w : Option Str} {x : List Slot × List (List Str)} {d : Str × Str} (hd : DeedOk fs d) (hw : d.1 ∈ takish → ∃ y, w = some y ∧ Wo y) (h1 : SsW fs x.1) (h2 : LsW x.2) : SsW fs (deedStep fs w x d).1 ∧ LsW (deedStep fs w x d).2 := by
  obtain ⟨dn, df⟩ := d
  obtain ⟨t, ht, hdt⟩ := hd
  simp only at ht hdt hw
  obtain ⟨f, hf, e1, e2, _⟩ := fAt_get ht
  rcases sort_two ht with rfl | rfl
  · have hone : f.many = false := by
      cases hq : f.many with
      | false => rfl
      | true => simp only [Fld.sort, hq, if_true] at e2; exact absurd e2 (by decide)
    simp only [deedsOf, show ¬ (("one" : Str) = "many") by decide, if_false, List.mem_cons, List.not_mem_nil, or_false] at hdt
    rcases hdt with rfl | rfl
    · obtain ⟨y, rfl, hy⟩ := hw (by decide)
      rw [show deedStep fs (some y) x ("set", df) = (x.1.set (fAt fs df) (.wd y), x.2) by simp [deedStep, wdS]]
      exact ⟨h1.set hf ⟨hone, hy⟩, h2⟩
    · rw [show deedStep fs w x ("clear", df) = (x.1.set (fAt fs df) .no, x.2) by
        simp only [deedStep, sn_cs, if_false]
        exact if_pos ⟨trivial, ht⟩]
      exact ⟨h1.set hf trivial, h2⟩
  · have hmany : f.many = true := by
      cases hq : f.many with
      | true => rfl
      | false => simp only [Fld.sort, hq] at e2; exact absurd e2 (by decide)
    cases hat : x.1.getD (fAt fs df) .no with
    | no =>
      have e : deedStep fs w x (dn, df) = x ∨ deedStep fs w x (dn, df) = x := by
        left
        simp only [deedsOf, if_true, List.mem_cons, List.not_mem_nil, or_false] at hdt
        have hns : ¬ dn = "set" := by rcases hdt with rfl | rfl | rfl | rfl <;> decide
        have hnc : ¬ (dn = "clear" ∧ sortOf fs df = some ("one" : Str)) := fun z => absurd (Option.some.inj (ht.symm.trans z.2)) (by decide)
        simp only [deedStep, hns, hnc, hat, if_false]
      rcases e with e | e <;> (rw [e]; exact ⟨h1, h2⟩)
    | wd y =>
      have e : deedStep fs w x (dn, df) = x := by
        simp only [deedsOf, if_true, List.mem_cons, List.not_mem_nil, or_false] at hdt
        have hns : ¬ dn = "set" := by rcases hdt with rfl | rfl | rfl | rfl <;> decide
        have hnc : ¬ (dn = "clear" ∧ sortOf fs df = some ("one" : Str)) := fun z => absurd (Option.some.inj (ht.symm.trans z.2)) (by decide)
        simp only [deedStep, hns, hnc, hat, if_false]
      rw [e]; exact ⟨h1, h2⟩
    | ls nn =>
      simp only [deedsOf, if_true, List.mem_cons, List.not_mem_nil, or_false] at hdt
      rcases hdt with rfl | rfl | rfl | rfl
      · obtain ⟨y, rfl, hy⟩ := hw (by decide)
        rw [deed_add hat]
        refine ⟨h1, h2.set fun z hz => ?_⟩
        rcases List.mem_append.mp hz with hz | hz
        · exact h2.get nn z hz
        · rw [List.mem_singleton.mp hz]; exact hy
      · rw [deed_strike hat]
        exact ⟨h1, h2.set fun z hz => h2.get nn z (List.mem_filter.mp hz).1⟩
      · rw [deed_fresh hat]
        exact ⟨h1.set hf hmany, h2.app (h2.get nn)⟩
      · rw [deed_clear hat ht]
        exact ⟨h1, h2.set (by simp)⟩
theorem does_w {fs : List Fld} {w : Option Str} : ∀ {ds : List (Str × Str)} {x : List Slot × List (List Str)}, (∀ d ∈ ds, DeedOk fs d) → (∀ d ∈ ds, d.1 ∈ takish → ∃ y, w = some y ∧ Wo y) → SsW fs x.1 → LsW x.2 → SsW fs (ds.foldl (deedStep fs w) x).1 ∧ LsW (ds.foldl (deedStep fs w) x).2
  | [], x, _, _, h1, h2 => ⟨h1, h2⟩
  | d :: r, x, hd, hw, h1, h2 => by
    obtain ⟨a, c⟩ := deed_w (hd d (by simp)) (hw d (by simp)) h1 h2
    exact does_w (ds := r) (fun e he => hd e (List.mem_cons_of_mem _ he)) (fun e he => hw e (List.mem_cons_of_mem _ he)) a c
structure StW (kd : KD) (S : Sto) : Prop where
  l : LsW S.ls
  m : ∀ mk ∈ S.mks, SsW kd.fs mk.slots
end Mz
end
section
set_option Elab.async false
set_option linter.all false
set_option maxRecDepth 100000
set_option maxHeartbeats 1000000
namespace Mz
open PySem L2 TL
local macro_rules | `(tactic| row_cond sd) => `(tactic| first | with_reducible assumption | with_reducible exact rfl | exact rfl | exact True.intro | assumption | decide)
local macro_rules | `(tactic| row_cond st) => `(tactic| first
  | refine And.intro (by row_cond sd) ?_
  | refine ⟨_, by row_cond sd, ?_⟩
  | refine ⟨_, _, by row_cond sd, ?_⟩
  | refine ⟨_, _, by row_cond sd, by row_cond sd, ?_⟩
  | refine ⟨_, _, _, by row_cond sd, ?_⟩
  | refine ⟨_, _, _, by row_cond sd, by row_cond sd, ?_⟩
  | refine ⟨_, _, _, by row_cond sd, by row_cond sd, by row_cond sd, ?_⟩
  | refine ⟨_, _, _, _, by row_cond sd, ?_⟩
  | refine ⟨_, _, _, _, by row_cond sd, by row_cond sd, by row_cond sd, ?_⟩
  | refine ⟨_, _, _, _, by row_cond sd, by row_cond sd, by row_cond sd, by row_cond sd, ?_⟩
  | refine iteT ?_
  | refine iteF ?_)
local macro_rules | `(tactic| row_cond go) => `(tactic| repeat (row_cond st))
abbrev dCopy (kd : KD) (c : Cal) (w : Option Str) (same : List Str) (mk : Mkr) (S : Sto) : List Slot × List (List Str) := doesOf kd.fs w c.deeds (copyOf kd.fs same mk.slots S.ls).1 (copyOf kd.fs same mk.slots S.ls).2
abbrev dOn (kd : KD) (c : Cal) (w : Option Str) (mk : Mkr) (S : Sto) : List Slot × List (List Str) := doesOf kd.fs w c.deeds mk.slots S.ls
abbrev dLast (kd : KD) (c : Cal) (w : Option Str) (mk : Mkr) (S : Sto) : List Slot × List (List Str) := copyOf kd.fs c.same (dOn kd c w mk S).1 (dOn kd c w mk S).2
/-- what a call finds -/
structure Found (kd : KD) (S : Sto) (hs : List (Option (Bool × Nat))) (nm : Str) (k : Nat) (w : Option Str) (c : Cal) (pr : Bool) (j : Nat) (mk : Mkr) (mv : Int) : Prop where
  c_ : calOf kd nm = some c
  ok : CalOk kd.fs kd.md c
  h : hs[k]? = some (some (pr, j))
  jl : j < S.mks.length
  mk_ : S.mks[j]? = some mk
  mo : MkrOk kd.fs S.ls.length mk.slots
  mv_ : c.moves[mk.mode.toNat]? = some mv
  m0 : 0 ≤ mv
  m1 : mv < kd.md
  w_ : ∀ d ∈ c.deeds, d.1 ∈ takish → ∃ y, w = some y ∧ Wo y
theorem row_cases {kd : KD} {S : Sto} {hs : List (Option (Bool × Nat))} {rs : List Row} {r : Row} {i : Nat} (ok : KDOk kd) (so_ : StoOk kd i S) (hsk : ∀ pr j, some (pr, j) ∈ hs → j < S.mks.length) (hrow : RowOk kd rs r) :
    rowStep kd S hs r = (S, none) ∨ (r = .make ∧ rowStep kd S hs r = (⟨(firstOf kd.fs S.ls).2, S.mks ++ [⟨0, (firstOf kd.fs S.ls).1⟩]⟩, some (false, S.mks.length))) ∨
    ∃ nm k w c pr j mk mv, r = .call nm k w ∧ Found kd S hs nm k w c pr j mk mv ∧ (
      (c.hand = "new" ∧ rowStep kd S hs r = (⟨(dCopy kd c w c.same mk S).2, S.mks ++ [⟨mv, (dCopy kd c w c.same mk S).1⟩]⟩, some (false, S.mks.length))) ∨
      (c.hand = "self" ∧ rowStep kd S hs r = (⟨(dOn kd c w mk S).2, S.mks.set j ⟨mv, (dOn kd c w mk S).1⟩⟩, some (pr, j))) ∨
      (c.hand = "last" ∧ rowStep kd S hs r = (⟨(dLast kd c w mk S).2, S.mks.set j ⟨mv, (dOn kd c w mk S).1⟩ ++ [⟨0, (dLast kd c w mk S).1⟩]⟩, some (true, S.mks.length)))) := by
  cases r with
  | make => exact .inr (.inl ⟨rfl, rfl⟩)
  | call nm k w =>
    obtain ⟨c, r0, hc, hr0, _, htk, hwd⟩ := hrow
    have okc := ok.c c (calOf_nm hc).2
    have hw1 : ∀ d ∈ c.deeds, d.1 ∈ takish → ∃ y, w = some y ∧ Wo y := fun d hd' ht => by
      have h1 : c.tk = true := List.any_eq_true.mpr ⟨d, hd', decide_eq_true ht⟩
      rw [h1] at htk
      cases w with
      | none => cases htk
      | some y => exact ⟨y, rfl, hwd y rfl⟩
    cases hx : hs[k]? with
    | none =>
      have hxg : hs.getD k none = none := by rw [List.getD_eq_getElem?_getD, hx]; rfl
      exact .inl (by simp only [rowStep, hc, hxg])
    | some x =>
      have hxg : hs.getD k none = x := by rw [List.getD_eq_getElem?_getD, hx]; rfl
      cases x with
      | none => exact .inl (by simp only [rowStep, hc, hxg])
      | some pj =>
        obtain ⟨pr, j⟩ := pj
        have hj := hsk pr j (mem_get hx)
        obtain ⟨mk, hk⟩ : ∃ mk, S.mks[j]? = some mk := ⟨_, List.getElem?_eq_getElem hj⟩
        have hkg : S.mks.getD j ⟨0, []⟩ = mk := by rw [List.getD_eq_getElem?_getD, hk]; rfl
        obtain ⟨hmk, hm1, hm2⟩ := so_.mk_ mk (mem_get hk)
        have hml := okc.ml
        obtain ⟨mv, hmv⟩ : ∃ mv, c.moves[mk.mode.toNat]? = some mv := ⟨_, List.getElem?_eq_getElem (by omega)⟩
        have hmg : c.moves.getD mk.mode.toNat (-1) = mv := by rw [List.getD_eq_getElem?_getD, hmv]; rfl
        have hmr := okc.mv mv (mem_get hmv)
        by_cases hm0 : mv = -1
        · exact .inl (by simp only [rowStep, hc, hxg, hkg, hmg, hm0, if_true])
        · refine .inr (.inr ⟨nm, k, w, c, pr, j, mk, mv, rfl, ⟨hc, okc, hx, hj, hk, hmk, hmv, by omega, by omega, hw1⟩, ?_⟩)
          have hhd := okc.hd
          simp only [List.mem_cons, List.not_mem_nil, or_false] at hhd
          rcases hhd with hh | hh | hh
          · exact .inr (.inl ⟨hh, by simp only [rowStep, hc, hxg, hkg, hmg, hm0, hh, if_false, show (("self" : Str) = "new") = False from eq_false (by decide), if_true]⟩)
          · exact .inl ⟨hh, by simp only [rowStep, hc, hxg, hkg, hmg, hm0, hh, if_false, if_true]⟩
          · exact .inr (.inr ⟨hh, by simp only [rowStep, hc, hxg, hkg, hmg, hm0, hh, if_false, show (("last" : Str) = "new") = False from eq_false (by decide), show (("last" : Str) = "self") = False from eq_false (by decide)]⟩)
def isProd : Option (Bool × Nat) → Bool
  | some (true, _) => true
  | _ => false
def prodOf (hs : List (Option (Bool × Nat))) : List Nat := (hs.zipIdx.filter fun p => isProd p.1).map (·.2)
theorem prodOf_snoc {hs : List (Option (Bool × Nat))} {x : Option (Bool × Nat)} : prodOf (hs ++ [x]) = prodOf hs ++ (if isProd x = true then [hs.length] else []) := by
  unfold prodOf
  rw [List.zipIdx_append, List.filter_append, List.map_append, List.zipIdx_singleton, Nat.zero_add]
  congr 1
  by_cases h : isProd x = true <;> simp [h]
def CtW (f : Fld) : Cnt → Prop
  | .no => True
  | .wd w => f.many = false ∧ Wo w
  | .nm _ => False
  | .ws l => f.many = true ∧ ∀ w ∈ l, Wo w
def CsW (fs : List Fld) (cs : List Cnt) : Prop := cs.length = fs.length ∧ ∀ (i : Nat) (f : Fld) (c : Cnt), fs[i]? = some f → cs[i]? = some c → CtW f c
theorem told_w {fs : List Fld} {ls : List (List Str)} {ss : List Slot} (hl : ss.length = fs.length) (h1 : SsW fs ss) (h2 : LsW ls) : CsW fs (toldOf fs ls ss) := by
  refine ⟨by simp [toldOf, hl], fun i f c hf hc => ?_⟩
  have hi : i < ss.length := by rw [hl]; exact lt_of_get hf
  have hs := List.getElem?_eq_getElem hi
  rw [told_get hf hs] at hc
  obtain rfl := Option.some.inj hc
  have hw := h1 i f _ hf hs
  generalize ss[i] = s at hw
  unfold cntOf
  cases s with
  | no => split <;> trivial
  | wd w =>
    rw [if_neg (by simp [hw.1])]
    exact hw
  | ls n =>
    have hw' : f.many = true := hw
    rw [if_pos hw']
    exact ⟨hw', h2.get n⟩
/-- a run behind some rows -/
structure ROk (kd : KD) (rs : List Row) (R : RSt) : Prop where
  so_ : StoOk kd rs.length R.S
  w : StW kd R.S
  hl : R.hs.length = rs.length
  hk : ∀ pr j, some (pr, j) ∈ R.hs → j < R.S.mks.length
  ho : HsOk kd rs R.hs
  mk_ : ∀ m ∈ R.md, m.1 < R.hs.length
  mp : R.md.map (·.1) = prodOf R.hs
  mw : ∀ m ∈ R.md, CsW kd.fs m.2
theorem stw_app {kd : KD} {S : Sto} {ls : List (List Str)} {mk : Mkr} (h : StW kd S) (hl : LsW ls) (hm : SsW kd.fs mk.slots) : StW kd ⟨ls, S.mks ++ [mk]⟩ := ⟨hl, fun m hm' => by
  rcases List.mem_append.mp hm' with hm' | hm'
  · exact h.m m hm'
  · rw [List.mem_singleton.mp hm']; exact hm⟩
theorem stw_set {kd : KD} {S : Sto} {ls : List (List Str)} {mk : Mkr} {j : Nat} (h : StW kd S) (hl : LsW ls) (hm : SsW kd.fs mk.slots) : StW kd ⟨ls, S.mks.set j mk⟩ := ⟨hl, fun m hm' => by
  rcases mem_setL hm' with hm' | rfl
  · exact h.m m hm'
  · exact hm⟩
theorem getD_snoc {α : Type} {l : List α} {x d : α} {n : Nat} (h : n = l.length) : (l ++ [x]).getD n d = x := by
  subst h
  rw [List.getD_eq_getElem?_getD]; simp
theorem hsok_snoc {kd : KD} {rs : List Row} {hs : List (Option (Bool × Nat))} {r : Row} {x : Option (Bool × Nat)} (h : HsOk kd rs hs) (hl : hs.length = rs.length) (hx : ∀ pr j, x = some (pr, j) → pr = r.isLast kd) : HsOk kd (rs ++ [r]) (hs ++ [x]) := fun k pr j r' h1 h2 => by
  rcases Nat.lt_trichotomy k hs.length with hk | hk | hk
  · rw [List.getElem?_append_left hk] at h1
    rw [List.getElem?_append_left (by omega)] at h2
    exact h k pr j r' h1 h2
  · subst hk
    have e1 : x = some (pr, j) := by simpa using h1
    rw [hl] at h2
    have e2 : r = r' := by simpa using h2
    rw [← e2]; exact hx pr j e1
  · rw [List.getElem?_eq_none (by simp; omega)] at h1
    cases h1
theorem ROk.next {kd : KD} {rs : List Row} {R : RSt} {r : Row} (ok : KDOk kd) (h : ROk kd rs R) (hrow : RowOk kd rs r) : ROk kd (rs ++ [r]) (rowNext kd R r) := by
  obtain ⟨k1, k2, k3⟩ := row_keep ok h.so_ h.hk hrow
  have hkn : ∀ pr j, some (pr, j) ∈ R.hs ++ [(rowStep kd R.S R.hs r).2] → j < (rowStep kd R.S R.hs r).1.mks.length := fun pr j hj => by
    rcases List.mem_append.mp hj with hj | hj
    · exact Nat.lt_of_lt_of_le (h.hk pr j hj) k2
    · exact k3 pr j (List.mem_singleton.mp hj).symm
  have main : StW kd (rowStep kd R.S R.hs r).1 ∧ (∀ pr j, (rowStep kd R.S R.hs r).2 = some (pr, j) → pr = r.isLast kd) ∧ ((∃ j, (rowStep kd R.S R.hs r).2 = some (true, j) ∧ CsW kd.fs (toldOf kd.fs (rowStep kd R.S R.hs r).1.ls ((rowStep kd R.S R.hs r).1.mks.getD j ⟨0, []⟩).slots)) ∨ isProd (rowStep kd R.S R.hs r).2 = false) := by
    rcases row_cases ok h.so_ h.hk hrow with e | ⟨rfl, e⟩ | ⟨nm, k, w, c, pr, j, mk, mv, rfl, F, hh⟩
    · rw [e]
      exact ⟨h.w, ⟨fun pr j z => (by cases z), .inr rfl⟩⟩
    · rw [e]
      have := first_w kd.fs [] ([], R.S.ls) rfl (fun i f s h => by simp at h) h.w.l
      rw [List.nil_append] at this
      exact ⟨stw_app h.w this.2 this.1, ⟨fun pr j z => (by cases z; rfl), .inr rfl⟩⟩
    · have hmw := h.w.m mk (mem_get F.mk_)
      have hil : (Row.call nm k w).isLast kd = decide (c.hand = "last") := by simp only [Row.isLast, F.c_]
      obtain ⟨r0, hr0, hr0l⟩ : ∃ r0, rs[k]? = some r0 ∧ r0.isLast kd = false := by
        obtain ⟨_, r0, _, hr0, hr0l, _⟩ := hrow
        exact ⟨r0, hr0, hr0l⟩
      have hpf : pr = false := by rw [h.ho k pr j r0 F.h hr0, hr0l]
      rcases hh with ⟨hh, e⟩ | ⟨hh, e⟩ | ⟨hh, e⟩
      · rw [e]
        obtain ⟨c1, c2⟩ := copyOf_w (same := c.same) F.mo.ln hmw h.w.l
        obtain ⟨d1, d2⟩ := does_w (ds := c.deeds) (w := w) (x := copyOf kd.fs c.same mk.slots R.S.ls) F.ok.dd F.w_ c1 c2
        refine ⟨stw_app h.w d2 d1, fun pr j z => ?_, .inr rfl⟩
        cases z
        rw [hil, hh]; decide
      · rw [e]
        obtain ⟨d1, d2⟩ := does_w (ds := c.deeds) (w := w) (x := (mk.slots, R.S.ls)) F.ok.dd F.w_ hmw h.w.l
        refine ⟨stw_set h.w d2 d1, fun pr' j' z => ?_, .inr (by rw [hpf]; rfl)⟩
        cases z
        rw [hil, hh, hpf]; decide
      · rw [e]
        obtain ⟨d1, d2⟩ := does_w (ds := c.deeds) (w := w) (x := (mk.slots, R.S.ls)) F.ok.dd F.w_ hmw h.w.l
        obtain ⟨dk1, dk2, dk3, dk4⟩ := does_keep (w := w) (ds := c.deeds) (x := (mk.slots, R.S.ls)) F.ok.dd F.mo h.so_.wl
        obtain ⟨c1, c2⟩ := copyOf_w (same := c.same) dk1.ln d1 d2
        have hst : StW kd ⟨(dLast kd c w mk R.S).2, R.S.mks.set j ⟨mv, (dOn kd c w mk R.S).1⟩⟩ := stw_set h.w c2 d1
        refine ⟨stw_app hst c2 c1, fun pr' j' z => ?_, .inl ⟨_, rfl, ?_⟩⟩
        · cases z
          rw [hil, hh]; decide
        · rw [getD_snoc (by simp)]
          exact told_w (copy_ok dk1).ln c1 c2
  obtain ⟨m1, m2, m3⟩ := main
  have hln : (rs ++ [r]).length = rs.length + 1 := by simp
  refine ⟨by rw [hln]; exact k1, m1, by simp [rowNext, h.hl], hkn, hsok_snoc h.ho h.hl m2, ?_, ?_, ?_⟩
  · intro m hm
    have hl2 : (rowNext kd R r).hs.length = R.hs.length + 1 := by simp [rowNext]
    rw [hl2]
    rcases m3 with ⟨j, e, _⟩ | e
    · simp only [rowNext, mdNext, e] at hm
      rcases List.mem_append.mp hm with hm | hm
      · have := h.mk_ m hm; omega
      · rw [List.mem_singleton.mp hm]; simp
    · have e2 : (rowNext kd R r).md = R.md := by
        simp only [rowNext, mdNext]
        split
        · rename_i q; rw [q] at e; cases e
        · rfl
      rw [e2] at hm
      have := h.mk_ m hm; omega
  · show (mdNext kd R.hs.length R.md (rowStep kd R.S R.hs r)).map (·.1) = prodOf (R.hs ++ [(rowStep kd R.S R.hs r).2])
    rw [prodOf_snoc, ← h.mp]
    rcases m3 with ⟨j, e, _⟩ | e
    · simp only [mdNext, e]
      rw [if_pos (by rfl)]; simp
    · rw [e]
      have e2 : mdNext kd R.hs.length R.md (rowStep kd R.S R.hs r) = R.md := by
        unfold mdNext
        split
        · rename_i q; rw [q] at e; cases e
        · rfl
      rw [e2]; simp
  · intro m hm
    rcases m3 with ⟨j, e, hw⟩ | e
    · simp only [rowNext, mdNext, e] at hm
      rcases List.mem_append.mp hm with hm | hm
      · exact h.mw m hm
      · rw [List.mem_singleton.mp hm]; exact hw
    · have e2 : (rowNext kd R r).md = R.md := by
        simp only [rowNext, mdNext]
        split
        · rename_i q; rw [q] at e; cases e
        · rfl
      rw [e2] at hm
      exact h.mw m hm
end Mz
end
section
set_option Elab.async false
set_option linter.all false
set_option maxRecDepth 100000
set_option maxHeartbeats 1000000
namespace Mz
open PySem L2 TL
local macro_rules | `(tactic| row_cond sd) => `(tactic| first | with_reducible assumption | with_reducible exact rfl | exact rfl | exact True.intro | assumption | decide)
local macro_rules | `(tactic| row_cond st) => `(tactic| first
  | refine And.intro (by row_cond sd) ?_
  | refine ⟨_, by row_cond sd, ?_⟩
  | refine ⟨_, _, by row_cond sd, ?_⟩
  | refine ⟨_, _, by row_cond sd, by row_cond sd, ?_⟩
  | refine ⟨_, _, _, by row_cond sd, ?_⟩
  | refine ⟨_, _, _, by row_cond sd, by row_cond sd, ?_⟩
  | refine ⟨_, _, _, by row_cond sd, by row_cond sd, by row_cond sd, ?_⟩
  | refine ⟨_, _, _, _, by row_cond sd, ?_⟩
  | refine ⟨_, _, _, _, by row_cond sd, by row_cond sd, by row_cond sd, ?_⟩
  | refine ⟨_, _, _, _, by row_cond sd, by row_cond sd, by row_cond sd, by row_cond sd, ?_⟩
  | refine iteT ?_
  | refine iteF ?_)
local macro_rules | `(tactic| row_cond go) => `(tactic| repeat (row_cond st))
section
variable {A : Ad} {K : PySem.W.Frag} {kd : KD} {μ : MS} {E : XS} {Q : DK}
/-- a run among the objects -/
def RunAt (A : Ad) (kd : KD) (rs : List Row) (b : Nat) (R : RSt) (μ : MS) : Prop := ∃ b0 rl so hd mc lo la ms kvs ex, StoAt A kd b0 (runFx A kd b rl so hd mc rs (R.hs.map (hD ms)) kvs ex) so lo la ms R.S μ ∧ MdAt ex kvs R.md
theorem RunAt.app {rs : List Row} {b : Nat} {R : RSt} (h : RunAt A kd rs b R μ) (g : MS) : RunAt A kd rs b R (μ ++ g) := by
  obtain ⟨b0, rl, so, hd, mc, lo, la, ms, kvs, ex, h1, h2⟩ := h
  exact ⟨b0, rl, so, hd, mc, lo, la, ms, kvs, ex, h1.app g, h2⟩
end
end Mz
end
section
set_option Elab.async false
set_option linter.all false
set_option maxRecDepth 100000
set_option maxHeartbeats 1000000
namespace Mz
open PySem L2 TL
local macro_rules | `(tactic| row_cond sd) => `(tactic| first | with_reducible assumption | with_reducible exact rfl | exact rfl | exact True.intro | assumption | decide)
local macro_rules | `(tactic| row_cond st) => `(tactic| first
  | refine And.intro (by row_cond sd) ?_
  | refine ⟨_, by row_cond sd, ?_⟩
  | refine ⟨_, _, by row_cond sd, ?_⟩
  | refine ⟨_, _, by row_cond sd, by row_cond sd, ?_⟩
  | refine ⟨_, _, _, by row_cond sd, ?_⟩
  | refine ⟨_, _, _, by row_cond sd, by row_cond sd, ?_⟩
  | refine ⟨_, _, _, by row_cond sd, by row_cond sd, by row_cond sd, ?_⟩
  | refine ⟨_, _, _, _, by row_cond sd, ?_⟩
  | refine ⟨_, _, _, _, by row_cond sd, by row_cond sd, by row_cond sd, ?_⟩
  | refine ⟨_, _, _, _, by row_cond sd, by row_cond sd, by row_cond sd, by row_cond sd, ?_⟩
  | refine iteT ?_
  | refine iteF ?_)
local macro_rules | `(tactic| row_cond go) => `(tactic| repeat (row_cond st))
/-! ### comprehensions that only make new objects -/
inductive ShownAt (fx : List (Nat × MO)) : Dv → Option (Bool × Int × List Cnt) → Prop
  | no : ShownAt fx (.d .non) none
  | pr {t : Nat} {m : Int} {cs : List Cnt} : ToldAt fx t cs → ShownAt fx (.tp [.d (.str "product"), .ob t]) (some (true, m, cs))
  | mk {t : Nat} {m : Int} {cs : List Cnt} : ToldAt fx t cs → ShownAt fx (.tp [.d (.str "maker"), .d (.int m), .ob t]) (some (false, m, cs))
theorem ShownAt.mono {fx fx' : List (Nat × MO)} {d : Dv} {c : Option (Bool × Int × List Cnt)} (hs : ∀ p ∈ fx, p ∈ fx') (h : ShownAt fx d c) : ShownAt fx' d c := by
  cases h with
  | no => exact .no
  | pr t => exact .pr (t.mono hs)
  | mk t => exact .mk (t.mono hs)
/-- a list of things, told -/
def ThAt (fx : List (Nat × MO)) (n : Nat) (l : List (Option (Bool × Int × List Cnt))) : Prop := ∃ items, (n, MO.lst items) ∈ fx ∧ items.length = l.length ∧ ∀ (j : Nat) (d : Dv) (c : Option (Bool × Int × List Cnt)), items[j]? = some d → l[j]? = some c → ShownAt fx d c
theorem ThAt.mono {fx fx' : List (Nat × MO)} {n : Nat} {l : List (Option (Bool × Int × List Cnt))} (hs : ∀ p ∈ fx, p ∈ fx') (h : ThAt fx n l) : ThAt fx' n l := by
  obtain ⟨its, h1, h2, h3⟩ := h
  exact ⟨its, hs _ h1, h2, fun j d c a b => (h3 j d c a b).mono hs⟩
end Mz
end
section
set_option Elab.async false
set_option linter.all false
set_option maxRecDepth 100000
set_option maxHeartbeats 1000000
namespace Mz
open PySem L2 TL
local macro_rules | `(tactic| row_cond sd) => `(tactic| first | with_reducible assumption | with_reducible exact rfl | exact rfl | exact True.intro | assumption | decide)
local macro_rules | `(tactic| row_cond st) => `(tactic| first
  | refine And.intro (by row_cond sd) ?_
  | refine ⟨_, by row_cond sd, ?_⟩
  | refine ⟨_, _, by row_cond sd, ?_⟩
  | refine ⟨_, _, by row_cond sd, by row_cond sd, ?_⟩
  | refine ⟨_, _, _, by row_cond sd, ?_⟩
  | refine ⟨_, _, _, by row_cond sd, by row_cond sd, ?_⟩
  | refine ⟨_, _, _, by row_cond sd, by row_cond sd, by row_cond sd, ?_⟩
  | refine ⟨_, _, _, _, by row_cond sd, ?_⟩
  | refine ⟨_, _, _, _, by row_cond sd, by row_cond sd, by row_cond sd, ?_⟩
  | refine ⟨_, _, _, _, by row_cond sd, by row_cond sd, by row_cond sd, by row_cond sd, ?_⟩
  | refine iteT ?_
  | refine iteF ?_)
local macro_rules | `(tactic| row_cond go) => `(tactic| repeat (row_cond st))
/-! ### contents as data -/
def Cnt.py : Cnt → PyData
  | .no => .none
  | .wd w => .str w
  | .nm n => .int n
  | .ws l => .list (l.map .str)
end Mz
end
section
set_option Elab.async false
set_option linter.all false
set_option maxRecDepth 100000
set_option maxHeartbeats 1000000
namespace Mz
open PySem L2 TL
local macro_rules | `(tactic| row_cond sd) => `(tactic| first | with_reducible assumption | with_reducible exact rfl | exact rfl | exact True.intro | assumption | decide)
local macro_rules | `(tactic| row_cond st) => `(tactic| first
  | refine And.intro (by row_cond sd) ?_
  | refine ⟨_, by row_cond sd, ?_⟩
  | refine ⟨_, _, by row_cond sd, ?_⟩
  | refine ⟨_, _, by row_cond sd, by row_cond sd, ?_⟩
  | refine ⟨_, _, _, by row_cond sd, ?_⟩
  | refine ⟨_, _, _, by row_cond sd, by row_cond sd, ?_⟩
  | refine ⟨_, _, _, by row_cond sd, by row_cond sd, by row_cond sd, ?_⟩
  | refine ⟨_, _, _, _, by row_cond sd, ?_⟩
  | refine ⟨_, _, _, _, by row_cond sd, by row_cond sd, by row_cond sd, ?_⟩
  | refine ⟨_, _, _, _, by row_cond sd, by row_cond sd, by row_cond sd, by row_cond sd, ?_⟩
  | refine iteT ?_
  | refine iteF ?_)
local macro_rules | `(tactic| row_cond go) => `(tactic| repeat (row_cond st))
end Mz
end
section
set_option Elab.async false
set_option linter.all false
set_option maxRecDepth 100000
set_option maxHeartbeats 1000000
namespace Mz
open PySem L2 TL
local macro_rules | `(tactic| row_cond sd) => `(tactic| first | with_reducible assumption | with_reducible exact rfl | exact rfl | exact True.intro | assumption | decide)
local macro_rules | `(tactic| row_cond st) => `(tactic| first
  | refine And.intro (by row_cond sd) ?_
  | refine ⟨_, by row_cond sd, ?_⟩
  | refine ⟨_, _, by row_cond sd, ?_⟩
  | refine ⟨_, _, by row_cond sd, by row_cond sd, ?_⟩
  | refine ⟨_, _, _, by row_cond sd, ?_⟩
  | refine ⟨_, _, _, by row_cond sd, by row_cond sd, ?_⟩
  | refine ⟨_, _, _, by row_cond sd, by row_cond sd, by row_cond sd, ?_⟩
  | refine ⟨_, _, _, _, by row_cond sd, ?_⟩
  | refine ⟨_, _, _, _, by row_cond sd, by row_cond sd, by row_cond sd, ?_⟩
  | refine ⟨_, _, _, _, by row_cond sd, by row_cond sd, by row_cond sd, by row_cond sd, ?_⟩
  | refine iteT ?_
  | refine iteF ?_)
local macro_rules | `(tactic| row_cond go) => `(tactic| repeat (row_cond st))
theorem mapN_get {β γ : Type} {f : β → γ} {l : List β} {i : Nat} {y : γ} (h : (l.map f)[i]? = some y) : ∃ x, l[i]? = some x ∧ y = f x := by
  rw [List.getElem?_map] at h
  cases q : l[i]? with
  | none => rw [q] at h; cases h
  | some x =>
    rw [q] at h
    exact ⟨x, rfl, (Option.some.inj h).symm⟩
end Mz
end
section
set_option Elab.async false
set_option linter.all false
set_option maxRecDepth 100000
set_option maxHeartbeats 1000000
namespace Mz
open PySem L2 TL
local macro_rules | `(tactic| row_cond sd) => `(tactic| first | with_reducible assumption | with_reducible exact rfl | exact rfl | exact True.intro | assumption | decide)
local macro_rules | `(tactic| row_cond st) => `(tactic| first
  | refine And.intro (by row_cond sd) ?_
  | refine ⟨_, by row_cond sd, ?_⟩
  | refine ⟨_, _, by row_cond sd, ?_⟩
  | refine ⟨_, _, by row_cond sd, by row_cond sd, ?_⟩
  | refine ⟨_, _, _, by row_cond sd, ?_⟩
  | refine ⟨_, _, _, by row_cond sd, by row_cond sd, ?_⟩
  | refine ⟨_, _, _, by row_cond sd, by row_cond sd, by row_cond sd, ?_⟩
  | refine ⟨_, _, _, _, by row_cond sd, ?_⟩
  | refine ⟨_, _, _, _, by row_cond sd, by row_cond sd, by row_cond sd, ?_⟩
  | refine ⟨_, _, _, _, by row_cond sd, by row_cond sd, by row_cond sd, by row_cond sd, ?_⟩
  | refine iteT ?_
  | refine iteF ?_)
local macro_rules | `(tactic| row_cond go) => `(tactic| repeat (row_cond st))
/-! ### the own reading, plain -/
def ownStep (kd : KD) (S : Sto) (hs : List (Option (Bool × Nat))) : Row → Sto × Option (Bool × Nat)
  | .make => (⟨(firstOf kd.fs S.ls).2, S.mks ++ [⟨0, (firstOf kd.fs S.ls).1⟩]⟩, some (false, S.mks.length))
  | .call nm k w => match calOf kd nm, hs.getD k none with
    | some c, some (_, j) =>
      if c.moves.getD (S.mks.getD j ⟨0, []⟩).mode.toNat (-1) = -1 then (S, none)
      else (⟨(dCopy kd c w [] (S.mks.getD j ⟨0, []⟩) S).2, S.mks ++ [⟨c.moves.getD (S.mks.getD j ⟨0, []⟩).mode.toNat (-1), (dCopy kd c w [] (S.mks.getD j ⟨0, []⟩) S).1⟩]⟩, some (decide (c.hand = "last"), S.mks.length))
    | _, _ => (S, none)
structure OSt where
  S : Sto
  hs : List (Option (Bool × Nat))
def ownNext (kd : KD) (O : OSt) (r : Row) : OSt := ⟨(ownStep kd O.S O.hs r).1, O.hs ++ [(ownStep kd O.S O.hs r).2]⟩
theorem own_cases {kd : KD} {S : Sto} {hs : List (Option (Bool × Nat))} {rs : List Row} {r : Row} {i : Nat} (ok : KDOk kd) (so_ : StoOk kd i S) (hsk : ∀ pr j, some (pr, j) ∈ hs → j < S.mks.length) (hrow : RowOk kd rs r) :
    (∃ nm k w c, r = .call nm k w ∧ calOf kd nm = some c ∧ ownStep kd S hs r = (S, none) ∧ (hs.getD k none = none ∨ ∃ pr j mk, hs.getD k none = some (pr, j) ∧ S.mks[j]? = some mk ∧ c.moves[mk.mode.toNat]? = some (-1) ∧ 0 ≤ mk.mode)) ∨ (r = .make ∧ ownStep kd S hs r = (⟨(firstOf kd.fs S.ls).2, S.mks ++ [⟨0, (firstOf kd.fs S.ls).1⟩]⟩, some (false, S.mks.length))) ∨
    ∃ nm k w c pr j mk mv, r = .call nm k w ∧ Found kd S hs nm k w c pr j mk mv ∧ 0 ≤ mk.mode ∧ ownStep kd S hs r = (⟨(dCopy kd c w [] mk S).2, S.mks ++ [⟨mv, (dCopy kd c w [] mk S).1⟩]⟩, some (decide (c.hand = "last"), S.mks.length)) := by
  cases r with
  | make => exact .inr (.inl ⟨rfl, rfl⟩)
  | call nm k w =>
    obtain ⟨c, r0, hc, hr0, _, htk, hwd⟩ := hrow
    have okc := ok.c c (calOf_nm hc).2
    have hw1 : ∀ d ∈ c.deeds, d.1 ∈ takish → ∃ y, w = some y ∧ Wo y := fun d hd' ht => by
      have h1 : c.tk = true := List.any_eq_true.mpr ⟨d, hd', decide_eq_true ht⟩
      rw [h1] at htk
      cases w with
      | none => cases htk
      | some y => exact ⟨y, rfl, hwd y rfl⟩
    cases hx : hs[k]? with
    | none =>
      have hxg : hs.getD k none = none := by rw [List.getD_eq_getElem?_getD, hx]; rfl
      exact .inl ⟨nm, k, w, c, rfl, hc, by simp only [ownStep, hc, hxg], .inl hxg⟩
    | some x =>
      have hxg : hs.getD k none = x := by rw [List.getD_eq_getElem?_getD, hx]; rfl
      cases x with
      | none => exact .inl ⟨nm, k, w, c, rfl, hc, by simp only [ownStep, hc, hxg], .inl hxg⟩
      | some pj =>
        obtain ⟨pr, j⟩ := pj
        have hj := hsk pr j (mem_get hx)
        obtain ⟨mk, hk⟩ : ∃ mk, S.mks[j]? = some mk := ⟨_, List.getElem?_eq_getElem hj⟩
        have hkg : S.mks.getD j ⟨0, []⟩ = mk := by rw [List.getD_eq_getElem?_getD, hk]; rfl
        obtain ⟨hmk, hm1, hm2⟩ := so_.mk_ mk (mem_get hk)
        have hml := okc.ml
        obtain ⟨mv, hmv⟩ : ∃ mv, c.moves[mk.mode.toNat]? = some mv := ⟨_, List.getElem?_eq_getElem (by omega)⟩
        have hmg : c.moves.getD mk.mode.toNat (-1) = mv := by rw [List.getD_eq_getElem?_getD, hmv]; rfl
        have hmr := okc.mv mv (mem_get hmv)
        by_cases hm0 : mv = -1
        · refine .inl ⟨nm, k, w, c, rfl, hc, by simp only [ownStep, hc, hxg, hkg, hmg, hm0, if_true], .inr ⟨pr, j, mk, hxg, hk, by rw [hmv, hm0], hm1⟩⟩
        · exact .inr (.inr ⟨nm, k, w, c, pr, j, mk, mv, rfl, ⟨hc, okc, hx, hj, hk, hmk, hmv, by omega, by omega, hw1⟩, hm1, by simp only [ownStep, hc, hxg, hkg, hmg, hm0, if_false]⟩)
/-- the own reading behind some rows -/
structure OOk (kd : KD) (rs : List Row) (O : OSt) : Prop where
  so_ : StoOk kd rs.length O.S
  w : StW kd O.S
  hl : O.hs.length = rs.length
  hk : ∀ pr j, some (pr, j) ∈ O.hs → j < O.S.mks.length
  ho : HsOk kd rs O.hs
theorem OOk.next {kd : KD} {rs : List Row} {O : OSt} {r : Row} (ok : KDOk kd) (h : OOk kd rs O) (hrow : RowOk kd rs r) : OOk kd (rs ++ [r]) (ownNext kd O r) := by
  have hll := h.so_.ll
  have hwl := h.so_.wl
  have hfl := ok.f.le
  have main : StoOk kd (rs.length + 1) (ownStep kd O.S O.hs r).1 ∧ StW kd (ownStep kd O.S O.hs r).1 ∧ O.S.mks.length ≤ (ownStep kd O.S O.hs r).1.mks.length ∧ ∀ pr j, (ownStep kd O.S O.hs r).2 = some (pr, j) → pr = r.isLast kd ∧ j < (ownStep kd O.S O.hs r).1.mks.length := by
    rcases own_cases ok h.so_ h.hk hrow with ⟨_, _, _, _, _, _, e, _⟩ | ⟨rfl, e⟩ | ⟨nm, k, w, c, pr, j, mk, mv, rfl, F, _, e⟩
    · rw [e]
      exact ⟨⟨h.so_.mk_, by show O.S.ls.length ≤ _; omega, fun ws hw => by have := hwl ws hw; omega⟩, h.w, Nat.le_refl _, fun pr j z => by cases z⟩
    · rw [e]
      obtain ⟨f1, f2, f3⟩ := first_lens (fs := kd.fs) hwl
      have := first_w kd.fs [] ([], O.S.ls) rfl (fun i f s h => by simp at h) h.w.l
      rw [List.nil_append] at this
      refine ⟨⟨fun mk hmk => ?_, by show (firstOf kd.fs O.S.ls).2.length ≤ _; omega, fun ws hw => by have := f3 ws hw; omega⟩, stw_app h.w this.2 this.1, by simp, fun pr j z => ?_⟩
      · rcases List.mem_append.mp hmk with hmk | hmk
        · obtain ⟨a, c⟩ := h.so_.mk_ mk hmk
          exact ⟨a.mono f1, c⟩
        · obtain rfl := List.mem_singleton.mp hmk
          have := ok.m1
          exact ⟨first_ok _ _, by simp, by show (0 : Int) < kd.md; omega⟩
      · cases z
        exact ⟨rfl, by simp⟩
    · rw [e]
      have hmw := h.w.m mk (mem_get F.mk_)
      have hdl := F.ok.dl
      obtain ⟨c1, c2, c3⟩ := copy_lens (same := []) F.mo hwl
      have hcok := copy_ok (same := []) F.mo
      obtain ⟨ek1, ek2, ek3, ek4⟩ := does_keep (w := w) (ds := c.deeds) (x := copyOf kd.fs [] mk.slots O.S.ls) F.ok.dd hcok c3
      obtain ⟨w1, w2⟩ := copyOf_w (same := []) F.mo.ln hmw h.w.l
      obtain ⟨d1, d2⟩ := does_w (ds := c.deeds) (w := w) (x := copyOf kd.fs [] mk.slots O.S.ls) F.ok.dd F.w_ w1 w2
      refine ⟨⟨fun m hm => ?_, ?_, fun ws hw => ?_⟩, stw_app h.w d2 d1, by simp, fun pr j z => ?_⟩
      · rcases List.mem_append.mp hm with hm | hm
        · obtain ⟨a, b⟩ := h.so_.mk_ m hm
          exact ⟨a.mono (Nat.le_trans c1 ek2), b⟩
        · obtain rfl := List.mem_singleton.mp hm
          exact ⟨ek1, F.m0, F.m1⟩
      · exact Nat.le_trans (show _ ≤ _ from ek3) (by omega)
      · have := ek4 ws hw; omega
      · cases z
        exact ⟨by simp only [Row.isLast, F.c_], by simp⟩
  obtain ⟨m1, m2, m3, m4⟩ := main
  have hln : (rs ++ [r]).length = rs.length + 1 := by simp
  refine ⟨by rw [hln]; exact m1, m2, by simp [ownNext, h.hl], fun pr j hj => ?_, hsok_snoc h.ho h.hl fun pr j e => (m4 pr j e).1⟩
  rcases List.mem_append.mp hj with hj | hj
  · exact Nat.lt_of_lt_of_le (h.hk pr j hj) m3
  · exact (m4 pr j (List.mem_singleton.mp hj).symm).2
end Mz
end
section
set_option Elab.async false
set_option linter.all false
set_option maxRecDepth 100000
set_option maxHeartbeats 1000000
namespace Mz
open PySem L2 TL
local macro_rules | `(tactic| row_cond sd) => `(tactic| first | with_reducible assumption | with_reducible exact rfl | exact rfl | exact True.intro | assumption | decide)
local macro_rules | `(tactic| row_cond st) => `(tactic| first
  | refine And.intro (by row_cond sd) ?_
  | refine ⟨_, by row_cond sd, ?_⟩
  | refine ⟨_, _, by row_cond sd, ?_⟩
  | refine ⟨_, _, by row_cond sd, by row_cond sd, ?_⟩
  | refine ⟨_, _, _, by row_cond sd, ?_⟩
  | refine ⟨_, _, _, by row_cond sd, by row_cond sd, ?_⟩
  | refine ⟨_, _, _, by row_cond sd, by row_cond sd, by row_cond sd, ?_⟩
  | refine ⟨_, _, _, _, by row_cond sd, ?_⟩
  | refine ⟨_, _, _, _, by row_cond sd, by row_cond sd, by row_cond sd, ?_⟩
  | refine ⟨_, _, _, _, by row_cond sd, by row_cond sd, by row_cond sd, by row_cond sd, ?_⟩
  | refine iteT ?_
  | refine iteF ?_)
local macro_rules | `(tactic| row_cond go) => `(tactic| repeat (row_cond st))
end Mz
end
section
set_option Elab.async false
set_option linter.all false
set_option maxRecDepth 100000
set_option maxHeartbeats 1000000
namespace Mz
open PySem L2 TL
local macro_rules | `(tactic| row_cond sd) => `(tactic| first | with_reducible assumption | with_reducible exact rfl | exact rfl | exact True.intro | assumption | decide)
local macro_rules | `(tactic| row_cond st) => `(tactic| first
  | refine And.intro (by row_cond sd) ?_
  | refine ⟨_, by row_cond sd, ?_⟩
  | refine ⟨_, _, by row_cond sd, ?_⟩
  | refine ⟨_, _, by row_cond sd, by row_cond sd, ?_⟩
  | refine ⟨_, _, _, by row_cond sd, ?_⟩
  | refine ⟨_, _, _, by row_cond sd, by row_cond sd, ?_⟩
  | refine ⟨_, _, _, by row_cond sd, by row_cond sd, by row_cond sd, ?_⟩
  | refine ⟨_, _, _, _, by row_cond sd, ?_⟩
  | refine ⟨_, _, _, _, by row_cond sd, by row_cond sd, by row_cond sd, ?_⟩
  | refine ⟨_, _, _, _, by row_cond sd, by row_cond sd, by row_cond sd, by row_cond sd, ?_⟩
  | refine iteT ?_
  | refine iteF ?_)
local macro_rules | `(tactic| row_cond go) => `(tactic| repeat (row_cond st))
end Mz
end
section
set_option Elab.async false
set_option linter.all false
set_option maxRecDepth 100000
set_option maxHeartbeats 1000000
namespace Mz
open PySem L2 TL
local macro_rules | `(tactic| row_cond sd) => `(tactic| first | with_reducible assumption | with_reducible exact rfl | exact rfl | exact True.intro | assumption | decide)
local macro_rules | `(tactic| row_cond st) => `(tactic| first
  | refine And.intro (by row_cond sd) ?_
  | refine ⟨_, by row_cond sd, ?_⟩
  | refine ⟨_, _, by row_cond sd, ?_⟩
  | refine ⟨_, _, by row_cond sd, by row_cond sd, ?_⟩
  | refine ⟨_, _, _, by row_cond sd, ?_⟩
  | refine ⟨_, _, _, by row_cond sd, by row_cond sd, ?_⟩
  | refine ⟨_, _, _, by row_cond sd, by row_cond sd, by row_cond sd, ?_⟩
  | refine ⟨_, _, _, _, by row_cond sd, ?_⟩
  | refine ⟨_, _, _, _, by row_cond sd, by row_cond sd, by row_cond sd, ?_⟩
  | refine ⟨_, _, _, _, by row_cond sd, by row_cond sd, by row_cond sd, by row_cond sd, ?_⟩
  | refine iteT ?_
  | refine iteF ?_)
local macro_rules | `(tactic| row_cond go) => `(tactic| repeat (row_cond st))
/-! ### rows that hand something other than by the own reading -/
end Mz
end
section
set_option Elab.async false
set_option linter.all false
set_option maxRecDepth 100000
set_option maxHeartbeats 1000000
namespace Mz
open PySem L2 TL
local macro_rules | `(tactic| row_cond sd) => `(tactic| first | with_reducible assumption | with_reducible exact rfl | exact rfl | exact True.intro | assumption | decide)
local macro_rules | `(tactic| row_cond st) => `(tactic| first
  | refine And.intro (by row_cond sd) ?_
  | refine ⟨_, by row_cond sd, ?_⟩
  | refine ⟨_, _, by row_cond sd, ?_⟩
  | refine ⟨_, _, by row_cond sd, by row_cond sd, ?_⟩
  | refine ⟨_, _, _, by row_cond sd, ?_⟩
  | refine ⟨_, _, _, by row_cond sd, by row_cond sd, ?_⟩
  | refine ⟨_, _, _, by row_cond sd, by row_cond sd, by row_cond sd, ?_⟩
  | refine ⟨_, _, _, _, by row_cond sd, ?_⟩
  | refine ⟨_, _, _, _, by row_cond sd, by row_cond sd, by row_cond sd, ?_⟩
  | refine ⟨_, _, _, _, by row_cond sd, by row_cond sd, by row_cond sd, by row_cond sd, ?_⟩
  | refine iteT ?_
  | refine iteF ?_)
local macro_rules | `(tactic| row_cond go) => `(tactic| repeat (row_cond st))
/-! ### the law's own heap -/
abbrev hpO (lo th mc : Nat) : MO := .dct [(.inr "lists", .ob lo), (.inr "things", .ob th), (.inr "made", .ob mc)]
abbrev sortS (pr : Bool) : Str := if pr = true then "product" else "maker"
abbrev lmk (tg : List Bool) (k : Nat) (md : Int) (s : Nat) : MO := .lst [.d (.str (sortS (tg.getD k false))), .d (.int md), .ob s]
abbrev LhAt (tg : List Bool) (b : Nat) (fx : List (Nat × MO)) (so lo th mc : Nat) (la : List Nat) (ms : List (Nat × Nat)) (S : Sto) (μ : MS) : Prop := HpAt (hpO lo th mc) (lmk tg) b fx so lo la ms S μ
end Mz
end
section
set_option Elab.async false
set_option linter.all false
set_option maxRecDepth 100000
set_option maxHeartbeats 1000000
namespace Mz
open PySem L2 TL
local macro_rules | `(tactic| row_cond sd) => `(tactic| first | with_reducible assumption | with_reducible exact rfl | exact rfl | exact True.intro | assumption | decide)
local macro_rules | `(tactic| row_cond st) => `(tactic| first
  | refine And.intro (by row_cond sd) ?_
  | refine ⟨_, by row_cond sd, ?_⟩
  | refine ⟨_, _, by row_cond sd, ?_⟩
  | refine ⟨_, _, by row_cond sd, by row_cond sd, ?_⟩
  | refine ⟨_, _, _, by row_cond sd, ?_⟩
  | refine ⟨_, _, _, by row_cond sd, by row_cond sd, ?_⟩
  | refine ⟨_, _, _, by row_cond sd, by row_cond sd, by row_cond sd, ?_⟩
  | refine ⟨_, _, _, _, by row_cond sd, ?_⟩
  | refine ⟨_, _, _, _, by row_cond sd, by row_cond sd, by row_cond sd, ?_⟩
  | refine ⟨_, _, _, _, by row_cond sd, by row_cond sd, by row_cond sd, by row_cond sd, ?_⟩
  | refine iteT ?_
  | refine iteF ?_)
local macro_rules | `(tactic| row_cond go) => `(tactic| repeat (row_cond st))
section
variable {A : Ad} {K : PySem.W.Frag} {kd : KD} {tg : List Bool} {b : Nat} {fx : List (Nat × MO)} {so lo th mc : Nat} {la : List Nat} {ms : List (Nat × Nat)} {S : Sto} {μ : MS} {E : XS} {Q : DK}
/-- a handed thing of the law's heap -/
def lD (ms : List (Nat × Nat)) : Option (Bool × Nat) → Dv
  | none => .d .non
  | some (_, j) => .ob (ms.getD j (0, 0)).1
end
end Mz
end
section
set_option Elab.async false
set_option linter.all false
set_option maxRecDepth 100000
set_option maxHeartbeats 1000000
namespace Mz
open PySem L2 TL
local macro_rules | `(tactic| row_cond sd) => `(tactic| first | with_reducible assumption | with_reducible exact rfl | exact rfl | exact True.intro | assumption | decide)
local macro_rules | `(tactic| row_cond st) => `(tactic| first
  | refine And.intro (by row_cond sd) ?_
  | refine ⟨_, by row_cond sd, ?_⟩
  | refine ⟨_, _, by row_cond sd, ?_⟩
  | refine ⟨_, _, by row_cond sd, by row_cond sd, ?_⟩
  | refine ⟨_, _, _, by row_cond sd, ?_⟩
  | refine ⟨_, _, _, by row_cond sd, by row_cond sd, ?_⟩
  | refine ⟨_, _, _, by row_cond sd, by row_cond sd, by row_cond sd, ?_⟩
  | refine ⟨_, _, _, _, by row_cond sd, ?_⟩
  | refine ⟨_, _, _, _, by row_cond sd, by row_cond sd, by row_cond sd, ?_⟩
  | refine ⟨_, _, _, _, by row_cond sd, by row_cond sd, by row_cond sd, by row_cond sd, ?_⟩
  | refine iteT ?_
  | refine iteF ?_)
local macro_rules | `(tactic| row_cond go) => `(tactic| repeat (row_cond st))
/-! ### a row of a program, on the law's heap -/
abbrev lhFx (th mc : Nat) (hs : List Dv) (kvs : List (Key × Dv)) (ex : List (Nat × MO)) : List (Nat × MO) := (mc, .dct kvs) :: (th, .lst hs) :: ex
end Mz
end
section
set_option Elab.async false
set_option linter.all false
set_option maxRecDepth 100000
set_option maxHeartbeats 1000000
namespace Mz
open PySem L2 TL
local macro_rules | `(tactic| row_cond sd) => `(tactic| first | with_reducible assumption | with_reducible exact rfl | exact rfl | exact True.intro | assumption | decide)
local macro_rules | `(tactic| row_cond st) => `(tactic| first
  | refine And.intro (by row_cond sd) ?_
  | refine ⟨_, by row_cond sd, ?_⟩
  | refine ⟨_, _, by row_cond sd, ?_⟩
  | refine ⟨_, _, by row_cond sd, by row_cond sd, ?_⟩
  | refine ⟨_, _, _, by row_cond sd, ?_⟩
  | refine ⟨_, _, _, by row_cond sd, by row_cond sd, ?_⟩
  | refine ⟨_, _, _, by row_cond sd, by row_cond sd, by row_cond sd, ?_⟩
  | refine ⟨_, _, _, _, by row_cond sd, ?_⟩
  | refine ⟨_, _, _, _, by row_cond sd, by row_cond sd, by row_cond sd, ?_⟩
  | refine ⟨_, _, _, _, by row_cond sd, by row_cond sd, by row_cond sd, by row_cond sd, ?_⟩
  | refine iteT ?_
  | refine iteF ?_)
local macro_rules | `(tactic| row_cond go) => `(tactic| repeat (row_cond st))
section
variable {A : Ad} {K : PySem.W.Frag} {kd : KD} {tg : List Bool} {b : Nat} {so lo th mc : Nat} {la : List Nat} {ms : List (Nat × Nat)} {S : Sto} {μ : MS} {E : XS} {Q : DK}
/-- what is known behind a row -/
structure LhOk (kd : KD) (tg : List Bool) (S : Sto) (hs : List (Option (Bool × Nat))) : Prop where
  tl : tg.length = S.mks.length
  tg_ : ∀ pr j, some (pr, j) ∈ hs → tg.getD j false = pr
  hk : ∀ pr j, some (pr, j) ∈ hs → j < S.mks.length
end
end Mz
end
section
set_option Elab.async false
set_option linter.all false
set_option maxRecDepth 100000
set_option maxHeartbeats 1000000
namespace Mz
open PySem L2 TL
local macro_rules | `(tactic| row_cond sd) => `(tactic| first | with_reducible assumption | with_reducible exact rfl | exact rfl | exact True.intro | assumption | decide)
local macro_rules | `(tactic| row_cond st) => `(tactic| first
  | refine And.intro (by row_cond sd) ?_
  | refine ⟨_, by row_cond sd, ?_⟩
  | refine ⟨_, _, by row_cond sd, ?_⟩
  | refine ⟨_, _, by row_cond sd, by row_cond sd, ?_⟩
  | refine ⟨_, _, _, by row_cond sd, ?_⟩
  | refine ⟨_, _, _, by row_cond sd, by row_cond sd, ?_⟩
  | refine ⟨_, _, _, by row_cond sd, by row_cond sd, by row_cond sd, ?_⟩
  | refine ⟨_, _, _, _, by row_cond sd, ?_⟩
  | refine ⟨_, _, _, _, by row_cond sd, by row_cond sd, by row_cond sd, ?_⟩
  | refine ⟨_, _, _, _, by row_cond sd, by row_cond sd, by row_cond sd, by row_cond sd, ?_⟩
  | refine iteT ?_
  | refine iteF ?_)
local macro_rules | `(tactic| row_cond go) => `(tactic| repeat (row_cond st))
section
variable {A : Ad} {K : PySem.W.Frag} {kd : KD} {μ : MS} {E : XS} {Q : DK}
/-- the law's heap behind a program -/
def LawAt (kd : KD) (rs : List Row) (so : Nat) (R : RSt) (μ : MS) : Prop := ∃ tg b lo th mc la ms kvs ex, LhAt tg b (lhFx th mc (R.hs.map (lD ms)) kvs ex) so lo th mc la ms R.S μ ∧ MdAt ex kvs R.md ∧ LhOk kd tg R.S R.hs
def LawAtM (lb : Nat) (kd : KD) (rs : List Row) (so : Nat) (R : RSt) (μ : MS) : Prop := ∃ tg b lo th mc la ms kvs ex, LhAt tg b (lhFx th mc (R.hs.map (lD ms)) kvs ex) so lo th mc la ms R.S μ ∧ MdAt ex kvs R.md ∧ LhOk kd tg R.S R.hs ∧ lb ≤ mc
theorem LawAtM.at_ {lb : Nat} {rs : List Row} {so : Nat} {R : RSt} (h : LawAtM lb kd rs so R μ) : LawAt kd rs so R μ := by
  obtain ⟨tg, b, lo, th, mc, la, ms, kvs, ex, h1, h2, h3, _⟩ := h
  exact ⟨tg, b, lo, th, mc, la, ms, kvs, ex, h1, h2, h3⟩
end
end Mz
end
section
set_option Elab.async false
set_option linter.all false
set_option maxRecDepth 100000
set_option maxHeartbeats 1000000
namespace Mz
open PySem L2 TL
local macro_rules | `(tactic| row_cond sd) => `(tactic| first | with_reducible assumption | with_reducible exact rfl | exact rfl | exact True.intro | assumption | decide)
local macro_rules | `(tactic| row_cond st) => `(tactic| first
  | refine And.intro (by row_cond sd) ?_
  | refine ⟨_, by row_cond sd, ?_⟩
  | refine ⟨_, _, by row_cond sd, ?_⟩
  | refine ⟨_, _, by row_cond sd, by row_cond sd, ?_⟩
  | refine ⟨_, _, _, by row_cond sd, ?_⟩
  | refine ⟨_, _, _, by row_cond sd, by row_cond sd, ?_⟩
  | refine ⟨_, _, _, by row_cond sd, by row_cond sd, by row_cond sd, ?_⟩
  | refine ⟨_, _, _, _, by row_cond sd, ?_⟩
  | refine ⟨_, _, _, _, by row_cond sd, by row_cond sd, by row_cond sd, ?_⟩
  | refine ⟨_, _, _, _, by row_cond sd, by row_cond sd, by row_cond sd, by row_cond sd, ?_⟩
  | refine iteT ?_
  | refine iteF ?_)
local macro_rules | `(tactic| row_cond go) => `(tactic| repeat (row_cond st))
/-! ### the own reading, on the law's heap -/
end Mz
end
section
set_option Elab.async false
set_option linter.all false
set_option maxRecDepth 100000
set_option maxHeartbeats 1000000
namespace Mz
open PySem L2 TL
local macro_rules | `(tactic| row_cond sd) => `(tactic| first | with_reducible assumption | with_reducible exact rfl | exact rfl | exact True.intro | assumption | decide)
local macro_rules | `(tactic| row_cond st) => `(tactic| first
  | refine And.intro (by row_cond sd) ?_
  | refine ⟨_, by row_cond sd, ?_⟩
  | refine ⟨_, _, by row_cond sd, ?_⟩
  | refine ⟨_, _, by row_cond sd, by row_cond sd, ?_⟩
  | refine ⟨_, _, _, by row_cond sd, ?_⟩
  | refine ⟨_, _, _, by row_cond sd, by row_cond sd, ?_⟩
  | refine ⟨_, _, _, by row_cond sd, by row_cond sd, by row_cond sd, ?_⟩
  | refine ⟨_, _, _, _, by row_cond sd, ?_⟩
  | refine ⟨_, _, _, _, by row_cond sd, by row_cond sd, by row_cond sd, ?_⟩
  | refine ⟨_, _, _, _, by row_cond sd, by row_cond sd, by row_cond sd, by row_cond sd, ?_⟩
  | refine iteT ?_
  | refine iteF ?_)
local macro_rules | `(tactic| row_cond go) => `(tactic| repeat (row_cond st))
end Mz
end
section
set_option Elab.async false
set_option linter.all false
set_option maxRecDepth 100000
set_option maxHeartbeats 1000000
namespace Mz
open PySem L2 TL
local macro_rules | `(tactic| row_cond sd) => `(tactic| first | with_reducible assumption | with_reducible exact rfl | exact rfl | exact True.intro | assumption | decide)
local macro_rules | `(tactic| row_cond st) => `(tactic| first
  | refine And.intro (by row_cond sd) ?_
  | refine ⟨_, by row_cond sd, ?_⟩
  | refine ⟨_, _, by row_cond sd, ?_⟩
  | refine ⟨_, _, by row_cond sd, by row_cond sd, ?_⟩
  | refine ⟨_, _, _, by row_cond sd, ?_⟩
  | refine ⟨_, _, _, by row_cond sd, by row_cond sd, ?_⟩
  | refine ⟨_, _, _, by row_cond sd, by row_cond sd, by row_cond sd, ?_⟩
  | refine ⟨_, _, _, _, by row_cond sd, ?_⟩
  | refine ⟨_, _, _, _, by row_cond sd, by row_cond sd, by row_cond sd, ?_⟩
  | refine ⟨_, _, _, _, by row_cond sd, by row_cond sd, by row_cond sd, by row_cond sd, ?_⟩
  | refine iteT ?_
  | refine iteF ?_)
local macro_rules | `(tactic| row_cond go) => `(tactic| repeat (row_cond st))
end Mz
end
section
set_option Elab.async false
set_option linter.all false
set_option maxRecDepth 100000
set_option maxHeartbeats 1000000
namespace Mz
open PySem L2 TL
local macro_rules | `(tactic| row_cond sd) => `(tactic| first | with_reducible assumption | with_reducible exact rfl | exact rfl | exact True.intro | assumption | decide)
local macro_rules | `(tactic| row_cond st) => `(tactic| first
  | refine And.intro (by row_cond sd) ?_
  | refine ⟨_, by row_cond sd, ?_⟩
  | refine ⟨_, _, by row_cond sd, ?_⟩
  | refine ⟨_, _, by row_cond sd, by row_cond sd, ?_⟩
  | refine ⟨_, _, _, by row_cond sd, ?_⟩
  | refine ⟨_, _, _, by row_cond sd, by row_cond sd, ?_⟩
  | refine ⟨_, _, _, by row_cond sd, by row_cond sd, by row_cond sd, ?_⟩
  | refine ⟨_, _, _, _, by row_cond sd, ?_⟩
  | refine ⟨_, _, _, _, by row_cond sd, by row_cond sd, by row_cond sd, ?_⟩
  | refine ⟨_, _, _, _, by row_cond sd, by row_cond sd, by row_cond sd, by row_cond sd, ?_⟩
  | refine iteT ?_
  | refine iteF ?_)
local macro_rules | `(tactic| row_cond go) => `(tactic| repeat (row_cond st))
end Mz
end
section
set_option Elab.async false
set_option linter.all false
set_option maxRecDepth 100000
set_option maxHeartbeats 1000000
namespace Mz
open PySem L2 TL
local macro_rules | `(tactic| row_cond sd) => `(tactic| first | with_reducible assumption | with_reducible exact rfl | exact rfl | exact True.intro | assumption | decide)
local macro_rules | `(tactic| row_cond st) => `(tactic| first
  | refine And.intro (by row_cond sd) ?_
  | refine ⟨_, by row_cond sd, ?_⟩
  | refine ⟨_, _, by row_cond sd, ?_⟩
  | refine ⟨_, _, by row_cond sd, by row_cond sd, ?_⟩
  | refine ⟨_, _, _, by row_cond sd, ?_⟩
  | refine ⟨_, _, _, by row_cond sd, by row_cond sd, ?_⟩
  | refine ⟨_, _, _, by row_cond sd, by row_cond sd, by row_cond sd, ?_⟩
  | refine ⟨_, _, _, _, by row_cond sd, ?_⟩
  | refine ⟨_, _, _, _, by row_cond sd, by row_cond sd, by row_cond sd, ?_⟩
  | refine ⟨_, _, _, _, by row_cond sd, by row_cond sd, by row_cond sd, by row_cond sd, ?_⟩
  | refine iteT ?_
  | refine iteF ?_)
local macro_rules | `(tactic| row_cond go) => `(tactic| repeat (row_cond st))
/-! ### the law's own equality, on equal data -/
theorem kitN2 {K : PySem.W.Frag} : PySem.W.kitAny K (.type "NoneType") [.type "list", .type "tuple"] = some false := isT_data (K := K) (d := .non)
theorem kitN4 {K : PySem.W.Frag} : PySem.W.kitAny K (.type "NoneType") [.type "bool", .type "int", .type "list", .type "tuple"] = some false := by
  refine kitAny_cons (kit_ty (kit_all .non .bool)) (fun e => ?_) (fun e => by cases e)
  refine kitAny_cons (kit_ty (kit_all .non .int)) (fun e => ?_) (fun e => by cases e)
  exact kitN2
end Mz
end
section
set_option Elab.async false
set_option linter.all false
set_option maxRecDepth 100000
set_option maxHeartbeats 1000000
namespace Mz
open PySem L2 TL
local macro_rules | `(tactic| row_cond sd) => `(tactic| first | with_reducible assumption | with_reducible exact rfl | exact rfl | exact True.intro | assumption | decide)
local macro_rules | `(tactic| row_cond st) => `(tactic| first
  | refine And.intro (by row_cond sd) ?_
  | refine ⟨_, by row_cond sd, ?_⟩
  | refine ⟨_, _, by row_cond sd, ?_⟩
  | refine ⟨_, _, by row_cond sd, by row_cond sd, ?_⟩
  | refine ⟨_, _, _, by row_cond sd, ?_⟩
  | refine ⟨_, _, _, by row_cond sd, by row_cond sd, ?_⟩
  | refine ⟨_, _, _, by row_cond sd, by row_cond sd, by row_cond sd, ?_⟩
  | refine ⟨_, _, _, _, by row_cond sd, ?_⟩
  | refine ⟨_, _, _, _, by row_cond sd, by row_cond sd, by row_cond sd, ?_⟩
  | refine ⟨_, _, _, _, by row_cond sd, by row_cond sd, by row_cond sd, by row_cond sd, ?_⟩
  | refine iteT ?_
  | refine iteF ?_)
local macro_rules | `(tactic| row_cond go) => `(tactic| repeat (row_cond st))
end Mz
end
section
set_option Elab.async false
set_option linter.all false
set_option maxRecDepth 100000
set_option maxHeartbeats 1000000
namespace Mz
open PySem L2 TL
local macro_rules | `(tactic| row_cond sd) => `(tactic| first | with_reducible assumption | with_reducible exact rfl | exact rfl | exact True.intro | assumption | decide)
local macro_rules | `(tactic| row_cond st) => `(tactic| first
  | refine And.intro (by row_cond sd) ?_
  | refine ⟨_, by row_cond sd, ?_⟩
  | refine ⟨_, _, by row_cond sd, ?_⟩
  | refine ⟨_, _, by row_cond sd, by row_cond sd, ?_⟩
  | refine ⟨_, _, _, by row_cond sd, ?_⟩
  | refine ⟨_, _, _, by row_cond sd, by row_cond sd, ?_⟩
  | refine ⟨_, _, _, by row_cond sd, by row_cond sd, by row_cond sd, ?_⟩
  | refine ⟨_, _, _, _, by row_cond sd, ?_⟩
  | refine ⟨_, _, _, _, by row_cond sd, by row_cond sd, by row_cond sd, ?_⟩
  | refine ⟨_, _, _, _, by row_cond sd, by row_cond sd, by row_cond sd, by row_cond sd, ?_⟩
  | refine iteT ?_
  | refine iteF ?_)
local macro_rules | `(tactic| row_cond go) => `(tactic| repeat (row_cond st))
/-! ### the law's own equality, on trees with objects -/
def leafOk : Da → Prop
  | .non => True
  | .bl _ => True
  | .int _ => True
  | .str s => Sg s
  | _ => False
def Tr (μ : MS) : Nat → Dv → Da → Prop
  | 0, _, _ => False
  | n + 1, d, t => (d = .d t ∧ leafOk t) ∨ (∃ xs ts, t = .lst ts ∧ lsV μ d = some xs ∧ xs.length = ts.length ∧ ts.length < 10000 ∧ ∀ (i : Nat) (x : Dv) (u : Da), xs[i]? = some x → ts[i]? = some u → Tr μ n x u) ∨ (∃ xs ts, t = .tup ts ∧ tpV d = some xs ∧ xs.length = ts.length ∧ ts.length < 10000 ∧ ∀ (i : Nat) (x : Dv) (u : Da), xs[i]? = some x → ts[i]? = some u → Tr μ n x u)
theorem lsD_app {μ r : MS} {d : Dv} {xs : List Dv} (h : lsV μ d = some xs) : lsV (μ ++ r) d = some xs := by
  cases d with
  | d x => cases x <;> exact h
  | tp ys => exact h
  | ob n =>
    simp only [lsV] at h ⊢
    cases q : μ[n]? with
    | none => rw [q] at h; cases h
    | some o => rw [get_app q]; rw [q] at h; exact h
theorem Tr.app {μ : MS} (g : MS) : ∀ {n : Nat} {d : Dv} {t : Da}, Tr μ n d t → Tr (μ ++ g) n d t
  | 0, _, _, h => h
  | n + 1, d, t, h => by
    rcases h with h | ⟨xs, ts, e, h1, h2, h3, h4⟩ | ⟨xs, ts, e, h1, h2, h3, h4⟩
    · exact .inl h
    · exact .inr (.inl ⟨xs, ts, e, lsD_app h1, h2, h3, fun i x u a b => (h4 i x u a b).app g⟩)
    · exact .inr (.inr ⟨xs, ts, e, h1, h2, h3, fun i x u a b => (h4 i x u a b).app g⟩)
theorem lsD_sq {μ : MS} {d : Dv} {xs : List Dv} (h : lsV μ d = some xs) : sqV μ d = some xs := by
  cases d with
  | d x => cases x <;> first | exact h | cases h
  | tp ys => cases h
  | ob n => exact h
theorem len_sq {μ : MS} {d : Dv} {xs : List Dv} (h : sqV μ d = some xs) : lenD μ d = some xs.length := by
  cases d with
  | d x => cases x <;> first | (cases h; rfl) | cases h
  | tp ys => cases h; rfl
  | ob n => exact len_ob h
theorem ok_sq {μ : MS} {d : Dv} {xs : List Dv} (h : sqV μ d = some xs) : okS d := by
  cases d with
  | d x => cases x <;> first | trivial | cases h
  | tp ys => trivial
  | ob n => trivial
theorem tp_mk {x y : Dv} : tpV (mkTup [x, y]) = some [x, y] := by cases x <;> cases y <;> rfl
end Mz
end
section
set_option Elab.async false
set_option linter.all false
set_option maxRecDepth 100000
set_option maxHeartbeats 1000000
namespace Mz
open PySem L2 TL
local macro_rules | `(tactic| row_cond sd) => `(tactic| first | with_reducible assumption | with_reducible exact rfl | exact rfl | exact True.intro | assumption | decide)
local macro_rules | `(tactic| row_cond st) => `(tactic| first
  | refine And.intro (by row_cond sd) ?_
  | refine ⟨_, by row_cond sd, ?_⟩
  | refine ⟨_, _, by row_cond sd, ?_⟩
  | refine ⟨_, _, by row_cond sd, by row_cond sd, ?_⟩
  | refine ⟨_, _, _, by row_cond sd, ?_⟩
  | refine ⟨_, _, _, by row_cond sd, by row_cond sd, ?_⟩
  | refine ⟨_, _, _, by row_cond sd, by row_cond sd, by row_cond sd, ?_⟩
  | refine ⟨_, _, _, _, by row_cond sd, ?_⟩
  | refine ⟨_, _, _, _, by row_cond sd, by row_cond sd, by row_cond sd, ?_⟩
  | refine ⟨_, _, _, _, by row_cond sd, by row_cond sd, by row_cond sd, by row_cond sd, ?_⟩
  | refine iteT ?_
  | refine iteF ?_)
local macro_rules | `(tactic| row_cond go) => `(tactic| repeat (row_cond st))
/-! ### told things as trees -/
def Cnt.da : Cnt → Da
  | .no => .non
  | .wd w => .str w
  | .nm n => .int n
  | .ws l => .lst (l.map .str)
end Mz
end
section
set_option Elab.async false
set_option linter.all false
set_option maxRecDepth 100000
set_option maxHeartbeats 1000000
namespace Mz
open PySem L2 TL
local macro_rules | `(tactic| row_cond sd) => `(tactic| first | with_reducible assumption | with_reducible exact rfl | exact rfl | exact True.intro | assumption | decide)
local macro_rules | `(tactic| row_cond st) => `(tactic| first
  | refine And.intro (by row_cond sd) ?_
  | refine ⟨_, by row_cond sd, ?_⟩
  | refine ⟨_, _, by row_cond sd, ?_⟩
  | refine ⟨_, _, by row_cond sd, by row_cond sd, ?_⟩
  | refine ⟨_, _, _, by row_cond sd, ?_⟩
  | refine ⟨_, _, _, by row_cond sd, by row_cond sd, ?_⟩
  | refine ⟨_, _, _, by row_cond sd, by row_cond sd, by row_cond sd, ?_⟩
  | refine ⟨_, _, _, _, by row_cond sd, ?_⟩
  | refine ⟨_, _, _, _, by row_cond sd, by row_cond sd, by row_cond sd, ?_⟩
  | refine ⟨_, _, _, _, by row_cond sd, by row_cond sd, by row_cond sd, by row_cond sd, ?_⟩
  | refine iteT ?_
  | refine iteF ?_)
local macro_rules | `(tactic| row_cond go) => `(tactic| repeat (row_cond st))
end Mz
end
section
set_option Elab.async false
set_option linter.all false
set_option maxRecDepth 100000
set_option maxHeartbeats 1000000
namespace Mz
open PySem L2 TL
local macro_rules | `(tactic| row_cond sd) => `(tactic| first | with_reducible assumption | with_reducible exact rfl | exact rfl | exact True.intro | assumption | decide)
local macro_rules | `(tactic| row_cond st) => `(tactic| first
  | refine And.intro (by row_cond sd) ?_
  | refine ⟨_, by row_cond sd, ?_⟩
  | refine ⟨_, _, by row_cond sd, ?_⟩
  | refine ⟨_, _, by row_cond sd, by row_cond sd, ?_⟩
  | refine ⟨_, _, _, by row_cond sd, ?_⟩
  | refine ⟨_, _, _, by row_cond sd, by row_cond sd, ?_⟩
  | refine ⟨_, _, _, by row_cond sd, by row_cond sd, by row_cond sd, ?_⟩
  | refine ⟨_, _, _, _, by row_cond sd, ?_⟩
  | refine ⟨_, _, _, _, by row_cond sd, by row_cond sd, by row_cond sd, ?_⟩
  | refine ⟨_, _, _, _, by row_cond sd, by row_cond sd, by row_cond sd, by row_cond sd, ?_⟩
  | refine iteT ?_
  | refine iteF ?_)
local macro_rules | `(tactic| row_cond go) => `(tactic| repeat (row_cond st))
/-! ### trees of lists that stand apart: intervals of object numbers -/
def Sp (μ : MS) : Nat → Nat → Nat → Dv → Prop
  | 0, _, _, _ => False
  | n + 1, lo, hi, d => (∃ t, d = .d t ∧ leafOk t ∧ lo ≤ hi)
    ∨ (∃ (k : Nat) (xs : List Dv) (c e : Nat → Nat), d = .ob k ∧ μ[k]? = some (.lst xs) ∧ xs.length < 10000 ∧ (∀ (i : Nat) (x : Dv), xs[i]? = some x → Sp μ n (c i) (e i) x ∧ lo ≤ c i ∧ e i ≤ hi ∧ (k < c i ∨ e i ≤ k)) ∧ (∀ i j, i < j → j < xs.length → e i ≤ c j ∨ e j ≤ c i) ∧ lo ≤ k ∧ k < hi)
    ∨ (∃ (xs : List Dv) (c e : Nat → Nat), tpV d = some xs ∧ (∀ (i : Nat) (x : Dv), xs[i]? = some x → Sp μ n (c i) (e i) x ∧ lo ≤ c i ∧ e i ≤ hi) ∧ (∀ i j, i < j → j < xs.length → e i ≤ c j ∨ e j ≤ c i) ∧ lo ≤ hi)
theorem mono_c {c : Nat → Nat} (h : ∀ i, c i ≤ c (i + 1)) : ∀ {i j : Nat}, i ≤ j → c i ≤ c j := by
  intro i j hij
  induction j with
  | zero => have : i = 0 := by omega
            subst this; exact Nat.le_refl _
  | succ j ih =>
    rcases Nat.lt_or_ge i (j + 1) with q | q
    · exact Nat.le_trans (ih (by omega)) (h j)
    · have : i = j + 1 := by omega
      subst this; exact Nat.le_refl _
theorem Sp.le {μ : MS} : ∀ {n lo hi : Nat} {d : Dv}, Sp μ n lo hi d → lo ≤ hi
  | 0, _, _, _, h => absurd h id
  | n + 1, lo, hi, d, h => by
    rcases h with ⟨t, _, _, h⟩ | ⟨k, xs, c, e, _, _, _, _, _, h1, h2⟩ | ⟨xs, c, e, _, _, _, h⟩
    · exact h
    · omega
    · exact h
/-- only the objects of the interval matter -/
theorem Sp.keep {μ ν : MS} : ∀ {n lo hi : Nat} {d : Dv}, Sp μ n lo hi d → (∀ i, lo ≤ i → i < hi → ν[i]? = μ[i]?) → Sp ν n lo hi d
  | 0, _, _, _, h, _ => absurd h id
  | n + 1, lo, hi, d, h, q => by
    rcases h with h | ⟨k, xs, c, e, h0, h1, hl, hx, hd, h2, h3⟩ | ⟨xs, c, e, h1, hx, hd, h2⟩
    · exact .inl h
    · refine .inr (.inl ⟨k, xs, c, e, h0, by rw [q k h2 h3]; exact h1, hl, fun i x hi => ?_, hd, h2, h3⟩)
      obtain ⟨a1, a2, a3, a4⟩ := hx i x hi
      exact ⟨a1.keep fun j q1 q2 => q j (by omega) (by omega), a2, a3, a4⟩
    · refine .inr (.inr ⟨xs, c, e, h1, fun i x hi => ?_, hd, h2⟩)
      obtain ⟨a1, a2, a3⟩ := hx i x hi
      exact ⟨a1.keep fun j q1 q2 => q j (by omega) (by omega), a2, a3⟩
theorem Sp.deep {μ : MS} : ∀ {n lo hi : Nat} {d : Dv}, Sp μ n lo hi d → Sp μ (n + 1) lo hi d
  | 0, _, _, _, h => absurd h id
  | n + 1, lo, hi, d, h => by
    rcases h with h | ⟨k, xs, c, e, h0, h1, hl, hx, hd, h2, h3⟩ | ⟨xs, c, e, h1, hx, hd, h2⟩
    · exact .inl h
    · exact .inr (.inl ⟨k, xs, c, e, h0, h1, hl, fun i x hi => ⟨(hx i x hi).1.deep, (hx i x hi).2⟩, hd, h2, h3⟩)
    · exact .inr (.inr ⟨xs, c, e, h1, fun i x hi => ⟨(hx i x hi).1.deep, (hx i x hi).2⟩, hd, h2⟩)
theorem Sp.deeper {μ : MS} {n lo hi : Nat} {d : Dv} (h : Sp μ n lo hi d) : ∀ m, Sp μ (n + m) lo hi d
  | 0 => h
  | m + 1 => (h.deeper m).deep
/-- a list whose items stand in increasing intervals -/
theorem Sp.list {μ : MS} {n lo hi k : Nat} {xs : List Dv} {c : Nat → Nat} (h1 : μ[k]? = some (.lst xs)) (hl : xs.length < 10000) (hc : ∀ i, c i ≤ c (i + 1)) (hx : ∀ (i : Nat) (x : Dv), xs[i]? = some x → Sp μ n (c i) (c (i + 1)) x) (h2 : lo ≤ k) (h3 : k < hi) (h4 : lo ≤ c 0) (h5 : c xs.length ≤ hi) (h6 : k < c 0 ∨ c xs.length ≤ k) : Sp μ (n + 1) lo hi (.ob k) := by
  refine .inr (.inl ⟨k, xs, c, fun i => c (i + 1), rfl, h1, hl, fun i x hi => ?_, fun i j hij hj => .inl (mono_c hc hij), h2, h3⟩)
  have a1 := mono_c hc (Nat.zero_le i)
  have a2 := mono_c hc (show i + 1 ≤ xs.length from lt_of_get hi)
  exact ⟨hx i x hi, Nat.le_trans h4 a1, Nat.le_trans a2 h5, by show k < c i ∨ c (i + 1) ≤ k; omega⟩
theorem Sp.tuple {μ : MS} {n lo hi : Nat} {d : Dv} {xs : List Dv} {c : Nat → Nat} (h1 : tpV d = some xs) (hc : ∀ i, c i ≤ c (i + 1)) (hx : ∀ (i : Nat) (x : Dv), xs[i]? = some x → Sp μ n (c i) (c (i + 1)) x) (h4 : lo ≤ c 0) (h5 : c xs.length ≤ hi) : Sp μ (n + 1) lo hi d := by
  have a0 := mono_c hc (Nat.zero_le xs.length)
  refine .inr (.inr ⟨xs, c, fun i => c (i + 1), h1, fun i x hi => ?_, fun i j hij hj => .inl (mono_c hc hij), by omega⟩)
  have a1 := mono_c hc (Nat.zero_le i)
  have a2 := mono_c hc (show i + 1 ≤ xs.length from lt_of_get hi)
  exact ⟨hx i x hi, Nat.le_trans h4 a1, Nat.le_trans a2 h5⟩
end Mz
end
section
set_option Elab.async false
set_option linter.all false
set_option maxRecDepth 100000
set_option maxHeartbeats 1000000
namespace Mz
open PySem L2 TL
local macro_rules | `(tactic| row_cond sd) => `(tactic| first | with_reducible assumption | with_reducible exact rfl | exact rfl | exact True.intro | assumption | decide)
local macro_rules | `(tactic| row_cond st) => `(tactic| first
  | refine And.intro (by row_cond sd) ?_
  | refine ⟨_, by row_cond sd, ?_⟩
  | refine ⟨_, _, by row_cond sd, ?_⟩
  | refine ⟨_, _, by row_cond sd, by row_cond sd, ?_⟩
  | refine ⟨_, _, _, by row_cond sd, ?_⟩
  | refine ⟨_, _, _, by row_cond sd, by row_cond sd, ?_⟩
  | refine ⟨_, _, _, by row_cond sd, by row_cond sd, by row_cond sd, ?_⟩
  | refine ⟨_, _, _, _, by row_cond sd, ?_⟩
  | refine ⟨_, _, _, _, by row_cond sd, by row_cond sd, by row_cond sd, ?_⟩
  | refine ⟨_, _, _, _, by row_cond sd, by row_cond sd, by row_cond sd, by row_cond sd, ?_⟩
  | refine iteT ?_
  | refine iteF ?_)
local macro_rules | `(tactic| row_cond go) => `(tactic| repeat (row_cond st))
/-! ### rows as they are passed: lists or tuples -/
end Mz
end
section
set_option Elab.async false
set_option linter.all false
set_option maxRecDepth 100000
set_option maxHeartbeats 1000000
namespace Mz
open PySem L2 TL
local macro_rules | `(tactic| row_cond sd) => `(tactic| first | with_reducible assumption | with_reducible exact rfl | exact rfl | exact True.intro | assumption | decide)
local macro_rules | `(tactic| row_cond st) => `(tactic| first
  | refine And.intro (by row_cond sd) ?_
  | refine ⟨_, by row_cond sd, ?_⟩
  | refine ⟨_, _, by row_cond sd, ?_⟩
  | refine ⟨_, _, by row_cond sd, by row_cond sd, ?_⟩
  | refine ⟨_, _, _, by row_cond sd, ?_⟩
  | refine ⟨_, _, _, by row_cond sd, by row_cond sd, ?_⟩
  | refine ⟨_, _, _, by row_cond sd, by row_cond sd, by row_cond sd, ?_⟩
  | refine ⟨_, _, _, _, by row_cond sd, ?_⟩
  | refine ⟨_, _, _, _, by row_cond sd, by row_cond sd, by row_cond sd, ?_⟩
  | refine ⟨_, _, _, _, by row_cond sd, by row_cond sd, by row_cond sd, by row_cond sd, ?_⟩
  | refine iteT ?_
  | refine iteF ?_)
local macro_rules | `(tactic| row_cond go) => `(tactic| repeat (row_cond st))
/-! ### a program as it is passed -/
def PRow (μ : MS) (lo hi : Nat) (x : Dv) (r : Row) : Prop := (x = .ob lo ∧ lo < hi ∧ μ[lo]? = some (.lst (r.das.map .d))) ∨ (x = .d r.da ∧ lo ≤ hi)
theorem PRow.app {μ : MS} (g : MS) {lo hi : Nat} {x : Dv} {r : Row} (h : PRow μ lo hi x r) : PRow (μ ++ g) lo hi x r := by
  rcases h with ⟨h1, h2, h3⟩ | h
  · exact .inl ⟨h1, h2, get_app h3⟩
  · exact .inr h
end Mz
end
section
set_option Elab.async false
set_option linter.all false
set_option maxRecDepth 100000
set_option maxHeartbeats 1000000
namespace Mz
open PySem L2 TL
local macro_rules | `(tactic| row_cond sd) => `(tactic| first | with_reducible assumption | with_reducible exact rfl | exact rfl | exact True.intro | assumption | decide)
local macro_rules | `(tactic| row_cond st) => `(tactic| first
  | refine And.intro (by row_cond sd) ?_
  | refine ⟨_, by row_cond sd, ?_⟩
  | refine ⟨_, _, by row_cond sd, ?_⟩
  | refine ⟨_, _, by row_cond sd, by row_cond sd, ?_⟩
  | refine ⟨_, _, _, by row_cond sd, ?_⟩
  | refine ⟨_, _, _, by row_cond sd, by row_cond sd, ?_⟩
  | refine ⟨_, _, _, by row_cond sd, by row_cond sd, by row_cond sd, ?_⟩
  | refine ⟨_, _, _, _, by row_cond sd, ?_⟩
  | refine ⟨_, _, _, _, by row_cond sd, by row_cond sd, by row_cond sd, ?_⟩
  | refine ⟨_, _, _, _, by row_cond sd, by row_cond sd, by row_cond sd, by row_cond sd, ?_⟩
  | refine iteT ?_
  | refine iteF ?_)
local macro_rules | `(tactic| row_cond go) => `(tactic| repeat (row_cond st))
/-! ### what is passed can be spoiled -/
end Mz
end
section
set_option Elab.async false
set_option linter.all false
set_option maxRecDepth 100000
set_option maxHeartbeats 1000000
namespace Mz
open PySem L2 TL
local macro_rules | `(tactic| row_cond sd) => `(tactic| first | with_reducible assumption | with_reducible exact rfl | exact rfl | exact True.intro | assumption | decide)
local macro_rules | `(tactic| row_cond st) => `(tactic| first
  | refine And.intro (by row_cond sd) ?_
  | refine ⟨_, by row_cond sd, ?_⟩
  | refine ⟨_, _, by row_cond sd, ?_⟩
  | refine ⟨_, _, by row_cond sd, by row_cond sd, ?_⟩
  | refine ⟨_, _, _, by row_cond sd, ?_⟩
  | refine ⟨_, _, _, by row_cond sd, by row_cond sd, ?_⟩
  | refine ⟨_, _, _, by row_cond sd, by row_cond sd, by row_cond sd, ?_⟩
  | refine ⟨_, _, _, _, by row_cond sd, ?_⟩
  | refine ⟨_, _, _, _, by row_cond sd, by row_cond sd, by row_cond sd, ?_⟩
  | refine ⟨_, _, _, _, by row_cond sd, by row_cond sd, by row_cond sd, by row_cond sd, ?_⟩
  | refine iteT ?_
  | refine iteF ?_)
local macro_rules | `(tactic| row_cond go) => `(tactic| repeat (row_cond st))
end Mz
end
section
set_option Elab.async false
set_option linter.all false
set_option maxRecDepth 100000
set_option maxHeartbeats 1000000
namespace Mz
open PySem L2 TL
local macro_rules | `(tactic| row_cond sd) => `(tactic| first | with_reducible assumption | with_reducible exact rfl | exact rfl | exact True.intro | assumption | decide)
local macro_rules | `(tactic| row_cond st) => `(tactic| first
  | refine And.intro (by row_cond sd) ?_
  | refine ⟨_, by row_cond sd, ?_⟩
  | refine ⟨_, _, by row_cond sd, ?_⟩
  | refine ⟨_, _, by row_cond sd, by row_cond sd, ?_⟩
  | refine ⟨_, _, _, by row_cond sd, ?_⟩
  | refine ⟨_, _, _, by row_cond sd, by row_cond sd, ?_⟩
  | refine ⟨_, _, _, by row_cond sd, by row_cond sd, by row_cond sd, ?_⟩
  | refine ⟨_, _, _, _, by row_cond sd, ?_⟩
  | refine ⟨_, _, _, _, by row_cond sd, by row_cond sd, by row_cond sd, ?_⟩
  | refine ⟨_, _, _, _, by row_cond sd, by row_cond sd, by row_cond sd, by row_cond sd, ?_⟩
  | refine iteT ?_
  | refine iteF ?_)
local macro_rules | `(tactic| row_cond go) => `(tactic| repeat (row_cond st))
end Mz
end
section
set_option Elab.async false
set_option linter.all false
set_option maxRecDepth 100000
set_option maxHeartbeats 1000000
namespace Mz
open PySem L2 TL
local macro_rules | `(tactic| row_cond sd) => `(tactic| first | with_reducible assumption | with_reducible exact rfl | exact rfl | exact True.intro | assumption | decide)
local macro_rules | `(tactic| row_cond st) => `(tactic| first
  | refine And.intro (by row_cond sd) ?_
  | refine ⟨_, by row_cond sd, ?_⟩
  | refine ⟨_, _, by row_cond sd, ?_⟩
  | refine ⟨_, _, by row_cond sd, by row_cond sd, ?_⟩
  | refine ⟨_, _, _, by row_cond sd, ?_⟩
  | refine ⟨_, _, _, by row_cond sd, by row_cond sd, ?_⟩
  | refine ⟨_, _, _, by row_cond sd, by row_cond sd, by row_cond sd, ?_⟩
  | refine ⟨_, _, _, _, by row_cond sd, ?_⟩
  | refine ⟨_, _, _, _, by row_cond sd, by row_cond sd, by row_cond sd, ?_⟩
  | refine ⟨_, _, _, _, by row_cond sd, by row_cond sd, by row_cond sd, by row_cond sd, ?_⟩
  | refine iteT ?_
  | refine iteF ?_)
local macro_rules | `(tactic| row_cond go) => `(tactic| repeat (row_cond st))
/-! ### a run all of whose objects stand in [rn, hi) -/
section
variable {A : Ad} {K : PySem.W.Frag} {kd : KD} {μ : MS} {E : XS} {Q : DK}
/-- a store all of whose objects stand from b on looks at these alone -/
theorem HpAt.from_ {so_ : MO} {mf : Nat → Int → Nat → MO} {b so lo : Nat} {fx : List (Nat × MO)} {la : List Nat} {ms : List (Nat × Nat)} {S : Sto} {μ ν : MS} (h : HpAt so_ mf b fx so lo la ms S μ) (hs : b ≤ so) (hf : ∀ z ∈ fx, b ≤ z.1) (e : ∀ i, b ≤ i → i < μ.length → ν[i]? = μ[i]?) : HpAt so_ mf b fx so lo la ms S ν := by
  have g : ∀ {i : Nat} {o : MO}, μ[i]? = some o → b ≤ i → ν[i]? = some o := fun {i o} h1 h2 => by rw [e i h2 (lt_of_get h1)]; exact h1
  exact { h with st := g h.st hs, ll := g h.ll h.bl.1, l := fun k i ws h1 h2 => g (h.l k i ws h1 h2) (h.bl.2.1 i (mem_get h1)), m := fun k p mk h1 h2 => ⟨g (h.m k p mk h1 h2).1 (h.bl.2.2 p (mem_get h1)).1, g (h.m k p mk h1 h2).2 (h.bl.2.2 p (mem_get h1)).2⟩, f := fun p hp => ⟨g (h.f p hp).1 (hf p hp), (h.f p hp).2⟩ }
def RunB (A : Ad) (kd : KD) (rs : List Row) (rn hi : Nat) (R : RSt) (μ : MS) : Prop := hi ≤ μ.length ∧ ∃ rl so hd mc lo la ms kvs ex, StoAt A kd rn (runFx A kd rn rl so hd mc rs (R.hs.map (hD ms)) kvs ex) so lo la ms R.S (μ.take hi) ∧ MdAt ex kvs R.md ∧ rn ≤ so ∧ rn ≤ rl ∧ rn ≤ hd ∧ rn ≤ mc ∧ ∀ z ∈ ex, rn ≤ z.1
theorem RunB.run {rs : List Row} {rn hi : Nat} {R : RSt} (h : RunB A kd rs rn hi R μ) : RunAt A kd rs rn R μ := by
  obtain ⟨_, rl, so, hd, mc, lo, la, ms, kvs, ex, h1, h2, _⟩ := h
  have := h1.app (μ.drop hi)
  rw [List.take_append_drop] at this
  exact ⟨_, rl, so, hd, mc, lo, la, ms, kvs, ex, this, h2⟩
theorem RunB.keep {rs : List Row} {rn hi : Nat} {R : RSt} {ν : MS} (h : RunB A kd rs rn hi R μ) (hl : μ.length ≤ ν.length) (e : ∀ i, rn ≤ i → i < hi → ν[i]? = μ[i]?) : RunB A kd rs rn hi R ν := by
  obtain ⟨h0, rl, so, hd, mc, lo, la, ms, kvs, ex, h1, h2, a1, a2, a3, a4, a5⟩ := h
  refine ⟨by omega, rl, so, hd, mc, lo, la, ms, kvs, ex, h1.from_ a1 (fun z hz => ?_) fun i hi1 hi2 => ?_, h2, a1, a2, a3, a4, a5⟩
  · simp only [List.mem_cons] at hz
    rcases hz with rfl | rfl | rfl | rfl | hz
    · exact a4
    · exact Nat.le_refl _
    · exact a2
    · exact a3
    · exact a5 z hz
  · have : i < hi := by rw [List.length_take] at hi2; omega
    rw [List.getElem?_take_of_lt this, List.getElem?_take_of_lt this]
    exact e i hi1 this
theorem RunB.app {rs : List Row} {rn hi : Nat} {R : RSt} (h : RunB A kd rs rn hi R μ) (g : MS) : RunB A kd rs rn hi R (μ ++ g) := h.keep (by simp) fun i _ hi => List.getElem?_append_left (by have := h.1; omega)
end
end Mz
end
section
set_option Elab.async false
set_option linter.all false
set_option maxRecDepth 100000
set_option maxHeartbeats 1000000
namespace Mz
open PySem L2 TL
local macro_rules | `(tactic| row_cond sd) => `(tactic| first | with_reducible assumption | with_reducible exact rfl | exact rfl | exact True.intro | assumption | decide)
local macro_rules | `(tactic| row_cond st) => `(tactic| first
  | refine And.intro (by row_cond sd) ?_
  | refine ⟨_, by row_cond sd, ?_⟩
  | refine ⟨_, _, by row_cond sd, ?_⟩
  | refine ⟨_, _, by row_cond sd, by row_cond sd, ?_⟩
  | refine ⟨_, _, _, by row_cond sd, ?_⟩
  | refine ⟨_, _, _, by row_cond sd, by row_cond sd, ?_⟩
  | refine ⟨_, _, _, by row_cond sd, by row_cond sd, by row_cond sd, ?_⟩
  | refine ⟨_, _, _, _, by row_cond sd, ?_⟩
  | refine ⟨_, _, _, _, by row_cond sd, by row_cond sd, by row_cond sd, ?_⟩
  | refine ⟨_, _, _, _, by row_cond sd, by row_cond sd, by row_cond sd, by row_cond sd, ?_⟩
  | refine iteT ?_
  | refine iteF ?_)
local macro_rules | `(tactic| row_cond go) => `(tactic| repeat (row_cond st))
/-! ### items in increasing intervals -/
def SpL (μ : MS) (n lo : Nat) (items : List Dv) : Prop := ∃ c : Nat → Nat, (∀ j, c j ≤ c (j + 1)) ∧ lo ≤ c 0 ∧ (∀ j, items.length ≤ j → c j = μ.length) ∧ ∀ (j : Nat) (x : Dv), items[j]? = some x → Sp μ n (c j) (c (j + 1)) x
theorem SpL.nil {μ : MS} {n lo : Nat} (h : lo ≤ μ.length) : SpL μ n lo [] := ⟨fun _ => μ.length, fun _ => Nat.le_refl _, h, fun _ _ => rfl, fun j x h => by simp at h⟩
theorem Sp.app {μ : MS} (g : MS) {n lo hi : Nat} {d : Dv} (h : Sp μ n lo hi d) (hh : hi ≤ μ.length) : Sp (μ ++ g) n lo hi d := h.keep fun i _ h2 => List.getElem?_append_left (by omega)
theorem SpL.keep {μ ν : MS} {n lo : Nat} {items : List Dv} (h : SpL μ n lo items) (hl : ν.length = μ.length) (e : ∀ i, lo ≤ i → ν[i]? = μ[i]?) : SpL ν n lo items := by
  obtain ⟨c, hc, h0, h1, h2⟩ := h
  refine ⟨c, hc, h0, fun j hj => by rw [h1 j hj, hl], fun j x hx => (h2 j x hx).keep fun i q1 q2 => e i ?_⟩
  have := mono_c hc (Nat.zero_le j)
  omega
end Mz
end
section
set_option Elab.async false
set_option linter.all false
set_option maxRecDepth 100000
set_option maxHeartbeats 1000000
namespace Mz
open PySem L2 TL
local macro_rules | `(tactic| row_cond sd) => `(tactic| first | with_reducible assumption | with_reducible exact rfl | exact rfl | exact True.intro | assumption | decide)
local macro_rules | `(tactic| row_cond st) => `(tactic| first
  | refine And.intro (by row_cond sd) ?_
  | refine ⟨_, by row_cond sd, ?_⟩
  | refine ⟨_, _, by row_cond sd, ?_⟩
  | refine ⟨_, _, by row_cond sd, by row_cond sd, ?_⟩
  | refine ⟨_, _, _, by row_cond sd, ?_⟩
  | refine ⟨_, _, _, by row_cond sd, by row_cond sd, ?_⟩
  | refine ⟨_, _, _, by row_cond sd, by row_cond sd, by row_cond sd, ?_⟩
  | refine ⟨_, _, _, _, by row_cond sd, ?_⟩
  | refine ⟨_, _, _, _, by row_cond sd, by row_cond sd, by row_cond sd, ?_⟩
  | refine ⟨_, _, _, _, by row_cond sd, by row_cond sd, by row_cond sd, by row_cond sd, ?_⟩
  | refine iteT ?_
  | refine iteF ?_)
local macro_rules | `(tactic| row_cond go) => `(tactic| repeat (row_cond st))
/-! ### equality of equal trees -/
/-! ### the law's own copy -/
end Mz
end
section
set_option Elab.async false
set_option linter.all false
set_option maxRecDepth 100000
set_option maxHeartbeats 1000000
namespace Mz
open PySem L2 TL
local macro_rules | `(tactic| row_cond sd) => `(tactic| first | with_reducible assumption | with_reducible exact rfl | exact rfl | exact True.intro | assumption | decide)
local macro_rules | `(tactic| row_cond st) => `(tactic| first
  | refine And.intro (by row_cond sd) ?_
  | refine ⟨_, by row_cond sd, ?_⟩
  | refine ⟨_, _, by row_cond sd, ?_⟩
  | refine ⟨_, _, by row_cond sd, by row_cond sd, ?_⟩
  | refine ⟨_, _, _, by row_cond sd, ?_⟩
  | refine ⟨_, _, _, by row_cond sd, by row_cond sd, ?_⟩
  | refine ⟨_, _, _, by row_cond sd, by row_cond sd, by row_cond sd, ?_⟩
  | refine ⟨_, _, _, _, by row_cond sd, ?_⟩
  | refine ⟨_, _, _, _, by row_cond sd, by row_cond sd, by row_cond sd, ?_⟩
  | refine ⟨_, _, _, _, by row_cond sd, by row_cond sd, by row_cond sd, by row_cond sd, ?_⟩
  | refine iteT ?_
  | refine iteF ?_)
local macro_rules | `(tactic| row_cond go) => `(tactic| repeat (row_cond st))
end Mz
end
section
set_option Elab.async false
set_option linter.all false
set_option maxRecDepth 100000
set_option maxHeartbeats 1000000
namespace Mz
open PySem L2 TL
local macro_rules | `(tactic| row_cond sd) => `(tactic| first | with_reducible assumption | with_reducible exact rfl | exact rfl | exact True.intro | assumption | decide)
local macro_rules | `(tactic| row_cond st) => `(tactic| first
  | refine And.intro (by row_cond sd) ?_
  | refine ⟨_, by row_cond sd, ?_⟩
  | refine ⟨_, _, by row_cond sd, ?_⟩
  | refine ⟨_, _, by row_cond sd, by row_cond sd, ?_⟩
  | refine ⟨_, _, _, by row_cond sd, ?_⟩
  | refine ⟨_, _, _, by row_cond sd, by row_cond sd, ?_⟩
  | refine ⟨_, _, _, by row_cond sd, by row_cond sd, by row_cond sd, ?_⟩
  | refine ⟨_, _, _, _, by row_cond sd, ?_⟩
  | refine ⟨_, _, _, _, by row_cond sd, by row_cond sd, by row_cond sd, ?_⟩
  | refine ⟨_, _, _, _, by row_cond sd, by row_cond sd, by row_cond sd, by row_cond sd, ?_⟩
  | refine iteT ?_
  | refine iteF ?_)
local macro_rules | `(tactic| row_cond go) => `(tactic| repeat (row_cond st))
end Mz
end
section
set_option Elab.async false
set_option linter.all false
set_option maxRecDepth 100000
set_option maxHeartbeats 1000000
namespace Mz
open PySem L2 TL
local macro_rules | `(tactic| row_cond sd) => `(tactic| first | with_reducible assumption | with_reducible exact rfl | exact rfl | exact True.intro | assumption | decide)
local macro_rules | `(tactic| row_cond st) => `(tactic| first
  | refine And.intro (by row_cond sd) ?_
  | refine ⟨_, by row_cond sd, ?_⟩
  | refine ⟨_, _, by row_cond sd, ?_⟩
  | refine ⟨_, _, by row_cond sd, by row_cond sd, ?_⟩
  | refine ⟨_, _, _, by row_cond sd, ?_⟩
  | refine ⟨_, _, _, by row_cond sd, by row_cond sd, ?_⟩
  | refine ⟨_, _, _, by row_cond sd, by row_cond sd, by row_cond sd, ?_⟩
  | refine ⟨_, _, _, _, by row_cond sd, ?_⟩
  | refine ⟨_, _, _, _, by row_cond sd, by row_cond sd, by row_cond sd, ?_⟩
  | refine ⟨_, _, _, _, by row_cond sd, by row_cond sd, by row_cond sd, by row_cond sd, ?_⟩
  | refine iteT ?_
  | refine iteF ?_)
local macro_rules | `(tactic| row_cond go) => `(tactic| repeat (row_cond st))
end Mz
end
section
set_option Elab.async false
set_option linter.all false
set_option maxRecDepth 100000
set_option maxHeartbeats 1000000
namespace Mz
open PySem L2 TL
local macro_rules | `(tactic| row_cond sd) => `(tactic| first | with_reducible assumption | with_reducible exact rfl | exact rfl | exact True.intro | assumption | decide)
local macro_rules | `(tactic| row_cond st) => `(tactic| first
  | refine And.intro (by row_cond sd) ?_
  | refine ⟨_, by row_cond sd, ?_⟩
  | refine ⟨_, _, by row_cond sd, ?_⟩
  | refine ⟨_, _, by row_cond sd, by row_cond sd, ?_⟩
  | refine ⟨_, _, _, by row_cond sd, ?_⟩
  | refine ⟨_, _, _, by row_cond sd, by row_cond sd, ?_⟩
  | refine ⟨_, _, _, by row_cond sd, by row_cond sd, by row_cond sd, ?_⟩
  | refine ⟨_, _, _, _, by row_cond sd, ?_⟩
  | refine ⟨_, _, _, _, by row_cond sd, by row_cond sd, by row_cond sd, ?_⟩
  | refine ⟨_, _, _, _, by row_cond sd, by row_cond sd, by row_cond sd, by row_cond sd, ?_⟩
  | refine iteT ?_
  | refine iteF ?_)
local macro_rules | `(tactic| row_cond go) => `(tactic| repeat (row_cond st))
/-! ### things that are no rows -/
end Mz
end
section
set_option Elab.async false
set_option linter.all false
set_option maxRecDepth 100000
set_option maxHeartbeats 1000000
namespace Mz
open PySem L2 TL
local macro_rules | `(tactic| row_cond sd) => `(tactic| first | with_reducible assumption | with_reducible exact rfl | exact rfl | exact True.intro | assumption | decide)
local macro_rules | `(tactic| row_cond st) => `(tactic| first
  | refine And.intro (by row_cond sd) ?_
  | refine ⟨_, by row_cond sd, ?_⟩
  | refine ⟨_, _, by row_cond sd, ?_⟩
  | refine ⟨_, _, by row_cond sd, by row_cond sd, ?_⟩
  | refine ⟨_, _, _, by row_cond sd, ?_⟩
  | refine ⟨_, _, _, by row_cond sd, by row_cond sd, ?_⟩
  | refine ⟨_, _, _, by row_cond sd, by row_cond sd, by row_cond sd, ?_⟩
  | refine ⟨_, _, _, _, by row_cond sd, ?_⟩
  | refine ⟨_, _, _, _, by row_cond sd, by row_cond sd, by row_cond sd, ?_⟩
  | refine ⟨_, _, _, _, by row_cond sd, by row_cond sd, by row_cond sd, by row_cond sd, ?_⟩
  | refine iteT ?_
  | refine iteF ?_)
local macro_rules | `(tactic| row_cond go) => `(tactic| repeat (row_cond st))
/-! ### own_things with a thing that is no row; the kinds that are pure -/
end Mz
end
section
set_option Elab.async false
set_option linter.all false
set_option maxRecDepth 100000
set_option maxHeartbeats 1000000
namespace Mz
open PySem L2 TL
local macro_rules | `(tactic| row_cond sd) => `(tactic| first | with_reducible assumption | with_reducible exact rfl | exact rfl | exact True.intro | assumption | decide)
local macro_rules | `(tactic| row_cond st) => `(tactic| first
  | refine And.intro (by row_cond sd) ?_
  | refine ⟨_, by row_cond sd, ?_⟩
  | refine ⟨_, _, by row_cond sd, ?_⟩
  | refine ⟨_, _, by row_cond sd, by row_cond sd, ?_⟩
  | refine ⟨_, _, _, by row_cond sd, ?_⟩
  | refine ⟨_, _, _, by row_cond sd, by row_cond sd, ?_⟩
  | refine ⟨_, _, _, by row_cond sd, by row_cond sd, by row_cond sd, ?_⟩
  | refine ⟨_, _, _, _, by row_cond sd, ?_⟩
  | refine ⟨_, _, _, _, by row_cond sd, by row_cond sd, by row_cond sd, ?_⟩
  | refine ⟨_, _, _, _, by row_cond sd, by row_cond sd, by row_cond sd, by row_cond sd, ?_⟩
  | refine iteT ?_
  | refine iteF ?_)
local macro_rules | `(tactic| row_cond go) => `(tactic| repeat (row_cond st))
/-! ### kinds without common lists, whose products' calls do nothing: the own reading is the run -/
end Mz
end
section
set_option Elab.async false
set_option linter.all false
set_option maxRecDepth 100000
set_option maxHeartbeats 1000000
namespace Mz
open PySem L2 TL
local macro_rules | `(tactic| row_cond sd) => `(tactic| first | with_reducible assumption | with_reducible exact rfl | exact rfl | exact True.intro | assumption | decide)
local macro_rules | `(tactic| row_cond st) => `(tactic| first
  | refine And.intro (by row_cond sd) ?_
  | refine ⟨_, by row_cond sd, ?_⟩
  | refine ⟨_, _, by row_cond sd, ?_⟩
  | refine ⟨_, _, by row_cond sd, by row_cond sd, ?_⟩
  | refine ⟨_, _, _, by row_cond sd, ?_⟩
  | refine ⟨_, _, _, by row_cond sd, by row_cond sd, ?_⟩
  | refine ⟨_, _, _, by row_cond sd, by row_cond sd, by row_cond sd, ?_⟩
  | refine ⟨_, _, _, _, by row_cond sd, ?_⟩
  | refine ⟨_, _, _, _, by row_cond sd, by row_cond sd, by row_cond sd, ?_⟩
  | refine ⟨_, _, _, _, by row_cond sd, by row_cond sd, by row_cond sd, by row_cond sd, ?_⟩
  | refine iteT ?_
  | refine iteF ?_)
local macro_rules | `(tactic| row_cond go) => `(tactic| repeat (row_cond st))
/-! ### a kind made pure -/
/-- a call of a kind made pure, on its way -/
def PC (cl : Nat) (ν : MS) (d : Dv) (c : Cal) : Prop := ∃ (dd : Dv) (s : Nat), d = .tp [.d (.str c.nm), .d (.str c.hand), .d (.lst (c.moves.map Da.int)), dd, .ob s] ∧ (dd = .d (.lst (c.deeds.map pairDa)) ∨ ∃ e, dd = .ob e ∧ cl < e ∧ ν[e]? = some (.lst []) ∧ c.deeds = []) ∧ cl < s ∧ ν[s]? = some (.lst []) ∧ c.same = []
theorem PC.keep {cl : Nat} {ν ν' : MS} {d : Dv} {c : Cal} (h : PC cl ν d c) (k : ∀ j, cl < j → ν[j]? = some (.lst []) → ν'[j]? = some (.lst [])) : PC cl ν' d c := by
  obtain ⟨dd, s, e, h1, h2, h3, h4⟩ := h
  refine ⟨dd, s, e, ?_, h2, k _ h2 h3, h4⟩
  rcases h1 with h1 | ⟨e, h1, h5, h6, h7⟩
  · exact .inl h1
  · exact .inr ⟨e, h1, h5, k _ h5 h6, h7⟩
end Mz
end
section
set_option Elab.async false
set_option linter.all false
set_option maxRecDepth 100000
set_option maxHeartbeats 1000000
namespace Mz
open PySem L2 TL
local macro_rules | `(tactic| row_cond sd) => `(tactic| first | with_reducible assumption | with_reducible exact rfl | exact rfl | exact True.intro | assumption | decide)
local macro_rules | `(tactic| row_cond st) => `(tactic| first
  | refine And.intro (by row_cond sd) ?_
  | refine ⟨_, by row_cond sd, ?_⟩
  | refine ⟨_, _, by row_cond sd, ?_⟩
  | refine ⟨_, _, by row_cond sd, by row_cond sd, ?_⟩
  | refine ⟨_, _, _, by row_cond sd, ?_⟩
  | refine ⟨_, _, _, by row_cond sd, by row_cond sd, ?_⟩
  | refine ⟨_, _, _, by row_cond sd, by row_cond sd, by row_cond sd, ?_⟩
  | refine ⟨_, _, _, _, by row_cond sd, ?_⟩
  | refine ⟨_, _, _, _, by row_cond sd, by row_cond sd, by row_cond sd, ?_⟩
  | refine ⟨_, _, _, _, by row_cond sd, by row_cond sd, by row_cond sd, by row_cond sd, ?_⟩
  | refine iteT ?_
  | refine iteF ?_)
local macro_rules | `(tactic| row_cond go) => `(tactic| repeat (row_cond st))
end Mz
end
section
set_option Elab.async false
set_option linter.all false
set_option maxRecDepth 100000
set_option maxHeartbeats 1000000
namespace Mz
open PySem L2 TL
local macro_rules | `(tactic| row_cond sd) => `(tactic| first | with_reducible assumption | with_reducible exact rfl | exact rfl | exact True.intro | assumption | decide)
local macro_rules | `(tactic| row_cond st) => `(tactic| first
  | refine And.intro (by row_cond sd) ?_
  | refine ⟨_, by row_cond sd, ?_⟩
  | refine ⟨_, _, by row_cond sd, ?_⟩
  | refine ⟨_, _, by row_cond sd, by row_cond sd, ?_⟩
  | refine ⟨_, _, _, by row_cond sd, ?_⟩
  | refine ⟨_, _, _, by row_cond sd, by row_cond sd, ?_⟩
  | refine ⟨_, _, _, by row_cond sd, by row_cond sd, by row_cond sd, ?_⟩
  | refine ⟨_, _, _, _, by row_cond sd, ?_⟩
  | refine ⟨_, _, _, _, by row_cond sd, by row_cond sd, by row_cond sd, ?_⟩
  | refine ⟨_, _, _, _, by row_cond sd, by row_cond sd, by row_cond sd, by row_cond sd, ?_⟩
  | refine iteT ?_
  | refine iteF ?_)
local macro_rules | `(tactic| row_cond go) => `(tactic| repeat (row_cond st))
end Mz
end
section
set_option Elab.async false
set_option linter.all false
set_option maxRecDepth 100000
set_option maxHeartbeats 1000000
namespace Mz
open PySem L2 TL
local macro_rules | `(tactic| row_cond sd) => `(tactic| first | with_reducible assumption | with_reducible exact rfl | exact rfl | exact True.intro | assumption | decide)
local macro_rules | `(tactic| row_cond st) => `(tactic| first
  | refine And.intro (by row_cond sd) ?_
  | refine ⟨_, by row_cond sd, ?_⟩
  | refine ⟨_, _, by row_cond sd, ?_⟩
  | refine ⟨_, _, by row_cond sd, by row_cond sd, ?_⟩
  | refine ⟨_, _, _, by row_cond sd, ?_⟩
  | refine ⟨_, _, _, by row_cond sd, by row_cond sd, ?_⟩
  | refine ⟨_, _, _, by row_cond sd, by row_cond sd, by row_cond sd, ?_⟩
  | refine ⟨_, _, _, _, by row_cond sd, ?_⟩
  | refine ⟨_, _, _, _, by row_cond sd, by row_cond sd, by row_cond sd, ?_⟩
  | refine ⟨_, _, _, _, by row_cond sd, by row_cond sd, by row_cond sd, by row_cond sd, ?_⟩
  | refine iteT ?_
  | refine iteF ?_)
local macro_rules | `(tactic| row_cond go) => `(tactic| repeat (row_cond st))
end Mz
end
section
set_option Elab.async false
set_option linter.all false
set_option maxRecDepth 100000
set_option maxHeartbeats 1000000
namespace Mz
open PySem L2 TL
local macro_rules | `(tactic| row_cond sd) => `(tactic| first | with_reducible assumption | with_reducible exact rfl | exact rfl | exact True.intro | assumption | decide)
local macro_rules | `(tactic| row_cond st) => `(tactic| first
  | refine And.intro (by row_cond sd) ?_
  | refine ⟨_, by row_cond sd, ?_⟩
  | refine ⟨_, _, by row_cond sd, ?_⟩
  | refine ⟨_, _, by row_cond sd, by row_cond sd, ?_⟩
  | refine ⟨_, _, _, by row_cond sd, ?_⟩
  | refine ⟨_, _, _, by row_cond sd, by row_cond sd, ?_⟩
  | refine ⟨_, _, _, by row_cond sd, by row_cond sd, by row_cond sd, ?_⟩
  | refine ⟨_, _, _, _, by row_cond sd, ?_⟩
  | refine ⟨_, _, _, _, by row_cond sd, by row_cond sd, by row_cond sd, ?_⟩
  | refine ⟨_, _, _, _, by row_cond sd, by row_cond sd, by row_cond sd, by row_cond sd, ?_⟩
  | refine iteT ?_
  | refine iteF ?_)
local macro_rules | `(tactic| row_cond go) => `(tactic| repeat (row_cond st))
/-! ### the law's own equality, on trees with objects and {} -/
theorem kitD2 {K : PySem.W.Frag} : PySem.W.kitAny K (.type "dict") [.type "list", .type "tuple"] = some false := isT_data (K := K) (d := .dct [])
theorem kitD4 {K : PySem.W.Frag} : PySem.W.kitAny K (.type "dict") [.type "bool", .type "int", .type "list", .type "tuple"] = some false := by
  refine kitAny_cons (kit_ty (kit_all .dct .bool)) (fun e => ?_) (fun e => by cases e)
  refine kitAny_cons (kit_ty (kit_all .dct .int)) (fun e => ?_) (fun e => by cases e)
  exact kitD2
def leafOkE : Da → Prop
  | .non => True
  | .bl _ => True
  | .int _ => True
  | .str s => Sg s
  | .dct [] => True
  | _ => False
def TrE (μ : MS) : Nat → Dv → Da → Prop
  | 0, _, _ => False
  | n + 1, d, t => (d = .d t ∧ leafOkE t) ∨ (∃ xs ts, t = .lst ts ∧ lsV μ d = some xs ∧ xs.length = ts.length ∧ ts.length < 10000 ∧ ∀ (i : Nat) (x : Dv) (u : Da), xs[i]? = some x → ts[i]? = some u → TrE μ n x u) ∨ (∃ xs ts, t = .tup ts ∧ tpV d = some xs ∧ xs.length = ts.length ∧ ts.length < 10000 ∧ ∀ (i : Nat) (x : Dv) (u : Da), xs[i]? = some x → ts[i]? = some u → TrE μ n x u)
theorem TrE.app {μ : MS} (g : MS) : ∀ {n : Nat} {d : Dv} {t : Da}, TrE μ n d t → TrE (μ ++ g) n d t
  | 0, _, _, h => h
  | n + 1, d, t, h => by
    rcases h with h | ⟨xs, ts, e, h1, h2, h3, h4⟩ | ⟨xs, ts, e, h1, h2, h3, h4⟩
    · exact .inl h
    · exact .inr (.inl ⟨xs, ts, e, lsD_app h1, h2, h3, fun i x u a b => (h4 i x u a b).app g⟩)
    · exact .inr (.inr ⟨xs, ts, e, h1, h2, h3, fun i x u a b => (h4 i x u a b).app g⟩)
section
variable {A : Ad} {K : PySem.W.Frag}
theorem lc_same_e {n : Nat} {xs ys : List Dv} {ts : List Da} {d1 d2 : Dv} {x2 x3 : Option Dv} {μ : MS} {Q : List Dv → MS → Prop} (hl1 : xs.length = ts.length) (hl2 : ys.length = ts.length) (hl : ts.length < 10000)
    (hs : ∀ (i : Nat) (x y : Dv), xs[i]? = some x → ys[i]? = some y → ∀ (g : MS) (E : XS) (Q : DK), (∀ g', Q (.d (.bl true)) ((μ ++ g) ++ g')) → m_law_same_e A K n [x, y] E (μ ++ g) Q) (h1 : ∀ g, sqV (μ ++ g) d1 = some xs) (h2 : ∀ g, sqV (μ ++ g) d2 = some ys) (h : ∀ g, Q (ts.map fun _ => .d (.bl true)) (μ ++ g)) :
    mLcL (iwZ d1 d2 xs ys).gd (nTup 2 (nCons (nName 2) (nCons (nName 3) nNil))) mYes (mCall (cO (m_law_same_e A K n)) (mCons (mVar 2) (mCons (mVar 3) mNil))) [2, 3] [some d1, some d2, x2, x3] Q (iwZ d1 d2 xs ys).items [] μ := by
  refine lc_by (fun i acc ν => ∃ g, ν = μ ++ g ∧ acc = (ts.take i).map fun _ => .d (.bl true)) ?_ ?_ ⟨[], by simp, by simp⟩
  · rintro i d acc ν N hi ⟨g, rfl, rfl⟩ hN
    have hi' : (zipD xs ys)[i]? = some d := hi
    have hil := lt_of_get hi'
    rw [zipD_len] at hil
    have e1 := List.getElem?_eq_getElem (show i < xs.length by omega)
    have e2 := List.getElem?_eq_getElem (show i < ys.length by omega)
    have e3 := List.getElem?_eq_getElem (show i < ts.length by omega)
    rw [zipD_get e1 e2] at hi'
    obtain rfl := Option.some.inj hi'
    have htp : tpV (mkTup [xs[i], ys[i]]) = some [xs[i], ys[i]] := tp_mk
    row_cond go
    refine hs i _ _ e1 e2 g _ _ fun g' => ?_
    refine ⟨by rw [List.length_map, List.length_take]; exact big (by omega), ⟨by rw [List.append_assoc]; exact h1 _, by rw [List.append_assoc]; exact h2 _⟩, hN _ _ ⟨g ++ g', by rw [List.append_assoc], ?_⟩⟩
    rw [take_snoc e3, List.map_append]; rfl
  · rintro acc ν ⟨g, rfl, rfl⟩
    rw [show (iwZ d1 d2 xs ys).items.length = ts.length by show (zipD _ _).length = _; rw [zipD_len]; omega, List.take_length]
    exact h g
theorem x_same_e : ∀ (n : Nat) {μ : MS} {d1 d2 : Dv} {t : Da}, TrE μ n d1 t → TrE μ n d2 t → ∀ (E : XS) (Q : DK), (∀ g, Q (.d (.bl true)) (μ ++ g)) → m_law_same_e A K n [d1, d2] E μ Q
  | 0, _, _, _, _, h, _, _, _, _ => absurd h id
  | n + 1, μ, d1, d2, t, h1, h2, E, Q, h => by
    have h0 : Q (.d (.bl true)) μ := by
      have := h []
      rw [List.append_nil] at this
      exact this
    show ms_law_same_e (m_law_same_e A K n) A K [d1, d2] E μ Q
    unfold ms_law_same_e
    refine ⟨rfl, ?_⟩
    unfold b_law_same_e
    rcases h1 with ⟨rfl, hl⟩ | ⟨xs, ts, rfl, l1, l2, l3, l4⟩ | ⟨xs, ts, rfl, l1, l2, l3, l4⟩
    · rcases h2 with ⟨rfl, _⟩ | ⟨ys, ts, rfl, _⟩ | ⟨ys, ts, rfl, _⟩
      · cases t with
        | bl b =>
          row_cond go
          refine ⟨_, _, _, .bl _, rfl, isT_data (d := .bl b), by decide, ?_⟩
          row_cond go
          refine ⟨_, _, _, .bl _, rfl, kit_ty (kit_all .bl .int), ?_⟩
          row_cond go
          refine ⟨_, _, _, .bl _, rfl, kit_ty (kit_all .bl .int), ?_⟩
          row_cond go
          refine ⟨_, _, _, .bl _, rfl, kit_ty (kit_all .bl .bool), ?_⟩
          row_cond go
          refine ⟨_, _, _, .bl _, rfl, kit_ty (kit_all .bl .bool), ?_⟩
          row_cond go
          refine .inl ⟨.bool b, .bool b, .d rfl, .d rfl, by cases b <;> decide, by cases b <;> decide, ?_⟩
          rw [show PyData.eqv (.bool b) (.bool b) = true by simp [PyData.eqv]]
          exact h0
        | non =>
          row_cond go
          refine ⟨_, _, _, .non, rfl, kitN2, by decide, ?_⟩
          row_cond go
          refine ⟨_, _, _, .non, rfl, kit_ty (kit_all .non .int), ?_⟩
          row_cond go
          refine ⟨_, _, _, .non, rfl, kitN4, by decide, ?_⟩
          row_cond go
          refine .inl ⟨.none, .none, .d rfl, .d rfl, by decide, by decide, ?_⟩
          rw [show PyData.eqv .none .none = true by simp [PyData.eqv]]
          exact h0
        | int i =>
          row_cond go
          refine ⟨_, _, _, .int _, rfl, isT_data (d := .int i), by decide, ?_⟩
          row_cond go
          refine ⟨_, _, _, .int _, rfl, kit_ty (kit_all .int .int), ?_⟩
          row_cond go
          refine ⟨_, _, _, .int _, rfl, kit_ty (kit_all .int .int), ?_⟩
          row_cond go
          refine ⟨_, _, _, .int _, rfl, kit_ty (kit_all .int .bool), ?_⟩
          row_cond go
          refine ⟨_, _, _, .int _, rfl, kit_ty (kit_all .int .bool), ?_⟩
          row_cond go
          have s1 : Sh 0 (.int i) := sh_int
          refine .inl ⟨.int i, .int i, .d rfl, .d rfl, s1.ok (by decide), s1.ok (by decide), ?_⟩
          rw [SeqAt.eqv_refl _ s1.1]
          exact h0
        | str s =>
          row_cond go
          refine ⟨_, _, _, .str _, rfl, kitS2, by decide, ?_⟩
          row_cond go
          refine ⟨_, _, _, .str _, rfl, kit_ty (kit_all .str .int), ?_⟩
          row_cond go
          refine ⟨_, _, _, .str _, rfl, kitS4, by decide, ?_⟩
          row_cond go
          have s1 : Sh 0 (.str s) := sh_sg hl
          refine .inl ⟨_, _, .d rfl, .d rfl, s1.ok (by decide), s1.ok (by decide), ?_⟩
          rw [SeqAt.eqv_refl _ s1.1]
          exact h0
        | dct ks =>
          cases ks with
          | cons p r => exact absurd hl id
          | nil =>
            row_cond go
            refine ⟨_, _, _, .dct rfl, rfl, kitD2, by decide, ?_⟩
            row_cond go
            refine ⟨_, _, _, .dct rfl, rfl, kit_ty (kit_all .dct .int), ?_⟩
            row_cond go
            refine ⟨_, _, _, .dct rfl, rfl, kitD4, by decide, ?_⟩
            row_cond go
            exact .inr ⟨rfl, rfl, h0⟩
        | _ => exact absurd hl id
      · exact absurd hl id
      · exact absurd hl id
    · rcases h2 with ⟨rfl, hl⟩ | ⟨ys, ts', e, k1, k2, k3, k4⟩ | ⟨ys, ts', e, _⟩
      · exact absurd hl id
      · cases e
        have q1 := len_sq (lsD_sq l1)
        have q2 := len_sq (lsD_sq k1)
        have o1 := ok_sq (lsD_sq l1)
        have o2 := ok_sq (lsD_sq k1)
        row_cond go
        refine ⟨_, _, _, .lst k1, rfl, isT_data (d := .lst ts), by decide, ?_⟩
        row_cond go
        refine ⟨_, _, _, .lst l1, rfl, kit_ty (kit_all .lst .list), ?_⟩
        row_cond go
        refine ⟨_, _, _, .lst k1, rfl, kit_ty (kit_all .lst .list), ?_⟩
        row_cond go
        refine ⟨_, _, _, .lst l1, rfl, kit_ty (kit_all .lst .tuple), ?_⟩
        row_cond go
        refine ⟨_, _, _, .lst k1, rfl, kit_ty (kit_all .lst .tuple), ?_⟩
        row_cond go
        rw [show decide (V.int ((xs.length : Nat) : Int) = V.int ((ys.length : Nat) : Int)) = true from decide_eq_true (by rw [l2, k2])]
        row_cond go
        refine ⟨d1, d2, xs, ys, rfl, .inl ⟨l1, k1⟩, ⟨lsD_sq l1, lsD_sq k1⟩, ?_⟩
        refine lc_same_e l2 k2 l3 (fun i x y hx hy g E' Q' h' => ?_) (fun g => lsD_sq (lsD_app l1)) (fun g => lsD_sq (lsD_app k1)) fun g => ?_
        · obtain ⟨u, hu⟩ : ∃ u, ts[i]? = some u := ⟨_, List.getElem?_eq_getElem (by rw [← l2]; exact lt_of_get hx)⟩
          exact x_same_e n ((l4 i x u hx hu).app g) ((k4 i y u hy hu).app g) E' Q' h'
        · row_cond go
          refine ⟨_, _, _, rfl, lsV_last, bls_of (fun _ => true) ts, ?_⟩
          rw [show (ts.map fun _ => true).all id = true by simp]
          have := h (g ++ [.lst (ts.map fun _ => .d (.bl true))])
          rw [← List.append_assoc] at this
          exact this
      · cases e
    · rcases h2 with ⟨rfl, hl⟩ | ⟨ys, ts', e, _⟩ | ⟨ys, ts', e, k1, k2, k3, k4⟩
      · exact absurd hl id
      · cases e
      · cases e
        have q1 := len_sq (tpV_sq (μ := μ) l1)
        have q2 := len_sq (tpV_sq (μ := μ) k1)
        have o1 := ok_sq (tpV_sq (μ := μ) l1)
        have o2 := ok_sq (tpV_sq (μ := μ) k1)
        row_cond go
        refine ⟨_, _, _, .tup k1, rfl, isT_data (d := .tup ts), by decide, ?_⟩
        row_cond go
        refine ⟨_, _, _, .tup l1, rfl, kit_ty (kit_all .tup .list), ?_⟩
        row_cond go
        refine ⟨_, _, _, .tup k1, rfl, kit_ty (kit_all .tup .list), ?_⟩
        row_cond go
        refine ⟨_, _, _, .tup l1, rfl, kit_ty (kit_all .tup .tuple), ?_⟩
        row_cond go
        refine ⟨_, _, _, .tup k1, rfl, kit_ty (kit_all .tup .tuple), ?_⟩
        row_cond go
        rw [show decide (V.int ((xs.length : Nat) : Int) = V.int ((ys.length : Nat) : Int)) = true from decide_eq_true (by rw [l2, k2])]
        row_cond go
        refine ⟨d1, d2, xs, ys, rfl, .inr ⟨l1, k1⟩, ⟨tpV_sq l1, tpV_sq k1⟩, ?_⟩
        refine lc_same_e l2 k2 l3 (fun i x y hx hy g E' Q' h' => ?_) (fun g => tpV_sq l1) (fun g => tpV_sq k1) fun g => ?_
        · obtain ⟨u, hu⟩ : ∃ u, ts[i]? = some u := ⟨_, List.getElem?_eq_getElem (by rw [← l2]; exact lt_of_get hx)⟩
          exact x_same_e n ((l4 i x u hx hu).app g) ((k4 i y u hy hu).app g) E' Q' h'
        · row_cond go
          refine ⟨_, _, _, rfl, lsV_last, bls_of (fun _ => true) ts, ?_⟩
          rw [show (ts.map fun _ => true).all id = true by simp]
          have := h (g ++ [.lst (ts.map fun _ => .d (.bl true))])
          rw [← List.append_assoc] at this
          exact this
end
end Mz
end
section
set_option Elab.async false
set_option linter.all false
set_option maxRecDepth 100000
set_option maxHeartbeats 1000000
namespace Mz
open PySem L2 TL
local macro_rules | `(tactic| row_cond sd) => `(tactic| first | with_reducible assumption | with_reducible exact rfl | exact rfl | exact True.intro | assumption | decide)
local macro_rules | `(tactic| row_cond st) => `(tactic| first
  | refine And.intro (by row_cond sd) ?_
  | refine ⟨_, by row_cond sd, ?_⟩
  | refine ⟨_, _, by row_cond sd, ?_⟩
  | refine ⟨_, _, by row_cond sd, by row_cond sd, ?_⟩
  | refine ⟨_, _, _, by row_cond sd, ?_⟩
  | refine ⟨_, _, _, by row_cond sd, by row_cond sd, ?_⟩
  | refine ⟨_, _, _, by row_cond sd, by row_cond sd, by row_cond sd, ?_⟩
  | refine ⟨_, _, _, _, by row_cond sd, ?_⟩
  | refine ⟨_, _, _, _, by row_cond sd, by row_cond sd, by row_cond sd, ?_⟩
  | refine ⟨_, _, _, _, by row_cond sd, by row_cond sd, by row_cond sd, by row_cond sd, ?_⟩
  | refine iteT ?_
  | refine iteF ?_)
local macro_rules | `(tactic| row_cond go) => `(tactic| repeat (row_cond st))
/-! ### what a row handed; whether two things hold the same list -/
end Mz
end
section
set_option Elab.async false
set_option linter.all false
set_option maxRecDepth 100000
set_option maxHeartbeats 1000000
namespace Mz
open PySem L2 TL
local macro_rules | `(tactic| row_cond sd) => `(tactic| first | with_reducible assumption | with_reducible exact rfl | exact rfl | exact True.intro | assumption | decide)
local macro_rules | `(tactic| row_cond st) => `(tactic| first
  | refine And.intro (by row_cond sd) ?_
  | refine ⟨_, by row_cond sd, ?_⟩
  | refine ⟨_, _, by row_cond sd, ?_⟩
  | refine ⟨_, _, by row_cond sd, by row_cond sd, ?_⟩
  | refine ⟨_, _, _, by row_cond sd, ?_⟩
  | refine ⟨_, _, _, by row_cond sd, by row_cond sd, ?_⟩
  | refine ⟨_, _, _, by row_cond sd, by row_cond sd, by row_cond sd, ?_⟩
  | refine ⟨_, _, _, _, by row_cond sd, ?_⟩
  | refine ⟨_, _, _, _, by row_cond sd, by row_cond sd, by row_cond sd, ?_⟩
  | refine ⟨_, _, _, _, by row_cond sd, by row_cond sd, by row_cond sd, by row_cond sd, ?_⟩
  | refine iteT ?_
  | refine iteF ?_)
local macro_rules | `(tactic| row_cond go) => `(tactic| repeat (row_cond st))
end Mz
end
section
set_option Elab.async false
set_option linter.all false
set_option maxRecDepth 100000
set_option maxHeartbeats 1000000
namespace Mz
open PySem L2 TL
local macro_rules | `(tactic| row_cond sd) => `(tactic| first | with_reducible assumption | with_reducible exact rfl | exact rfl | exact True.intro | assumption | decide)
local macro_rules | `(tactic| row_cond st) => `(tactic| first
  | refine And.intro (by row_cond sd) ?_
  | refine ⟨_, by row_cond sd, ?_⟩
  | refine ⟨_, _, by row_cond sd, ?_⟩
  | refine ⟨_, _, by row_cond sd, by row_cond sd, ?_⟩
  | refine ⟨_, _, _, by row_cond sd, ?_⟩
  | refine ⟨_, _, _, by row_cond sd, by row_cond sd, ?_⟩
  | refine ⟨_, _, _, by row_cond sd, by row_cond sd, by row_cond sd, ?_⟩
  | refine ⟨_, _, _, _, by row_cond sd, ?_⟩
  | refine ⟨_, _, _, _, by row_cond sd, by row_cond sd, by row_cond sd, ?_⟩
  | refine ⟨_, _, _, _, by row_cond sd, by row_cond sd, by row_cond sd, by row_cond sd, ?_⟩
  | refine iteT ?_
  | refine iteF ?_)
local macro_rules | `(tactic| row_cond go) => `(tactic| repeat (row_cond st))
end Mz
end
section
set_option Elab.async false
set_option linter.all false
set_option maxRecDepth 100000
set_option maxHeartbeats 1000000
namespace Mz
open PySem L2 TL
local macro_rules | `(tactic| row_cond sd) => `(tactic| first | with_reducible assumption | with_reducible exact rfl | exact rfl | exact True.intro | assumption | decide)
local macro_rules | `(tactic| row_cond st) => `(tactic| first
  | refine And.intro (by row_cond sd) ?_
  | refine ⟨_, by row_cond sd, ?_⟩
  | refine ⟨_, _, by row_cond sd, ?_⟩
  | refine ⟨_, _, by row_cond sd, by row_cond sd, ?_⟩
  | refine ⟨_, _, _, by row_cond sd, ?_⟩
  | refine ⟨_, _, _, by row_cond sd, by row_cond sd, ?_⟩
  | refine ⟨_, _, _, by row_cond sd, by row_cond sd, by row_cond sd, ?_⟩
  | refine ⟨_, _, _, _, by row_cond sd, ?_⟩
  | refine ⟨_, _, _, _, by row_cond sd, by row_cond sd, by row_cond sd, ?_⟩
  | refine ⟨_, _, _, _, by row_cond sd, by row_cond sd, by row_cond sd, by row_cond sd, ?_⟩
  | refine iteT ?_
  | refine iteF ?_)
local macro_rules | `(tactic| row_cond go) => `(tactic| repeat (row_cond st))
end Mz
end
section
set_option Elab.async false
set_option linter.all false
set_option maxRecDepth 100000
set_option maxHeartbeats 1000000
namespace Mz
open PySem L2 TL
local macro_rules | `(tactic| row_cond sd) => `(tactic| first | with_reducible assumption | with_reducible exact rfl | exact rfl | exact True.intro | assumption | decide)
local macro_rules | `(tactic| row_cond st) => `(tactic| first
  | refine And.intro (by row_cond sd) ?_
  | refine ⟨_, by row_cond sd, ?_⟩
  | refine ⟨_, _, by row_cond sd, ?_⟩
  | refine ⟨_, _, by row_cond sd, by row_cond sd, ?_⟩
  | refine ⟨_, _, _, by row_cond sd, ?_⟩
  | refine ⟨_, _, _, by row_cond sd, by row_cond sd, ?_⟩
  | refine ⟨_, _, _, by row_cond sd, by row_cond sd, by row_cond sd, ?_⟩
  | refine ⟨_, _, _, _, by row_cond sd, ?_⟩
  | refine ⟨_, _, _, _, by row_cond sd, by row_cond sd, by row_cond sd, ?_⟩
  | refine ⟨_, _, _, _, by row_cond sd, by row_cond sd, by row_cond sd, by row_cond sd, ?_⟩
  | refine iteT ?_
  | refine iteF ?_)
local macro_rules | `(tactic| row_cond go) => `(tactic| repeat (row_cond st))
end Mz
end
section
set_option Elab.async false
set_option linter.all false
set_option maxRecDepth 100000
set_option maxHeartbeats 1000000
namespace Mz
open PySem L2 TL
local macro_rules | `(tactic| row_cond sd) => `(tactic| first | with_reducible assumption | with_reducible exact rfl | exact rfl | exact True.intro | assumption | decide)
local macro_rules | `(tactic| row_cond st) => `(tactic| first
  | refine And.intro (by row_cond sd) ?_
  | refine ⟨_, by row_cond sd, ?_⟩
  | refine ⟨_, _, by row_cond sd, ?_⟩
  | refine ⟨_, _, by row_cond sd, by row_cond sd, ?_⟩
  | refine ⟨_, _, _, by row_cond sd, ?_⟩
  | refine ⟨_, _, _, by row_cond sd, by row_cond sd, ?_⟩
  | refine ⟨_, _, _, by row_cond sd, by row_cond sd, by row_cond sd, ?_⟩
  | refine ⟨_, _, _, _, by row_cond sd, ?_⟩
  | refine ⟨_, _, _, _, by row_cond sd, by row_cond sd, by row_cond sd, ?_⟩
  | refine ⟨_, _, _, _, by row_cond sd, by row_cond sd, by row_cond sd, by row_cond sd, ?_⟩
  | refine iteT ?_
  | refine iteF ?_)
local macro_rules | `(tactic| row_cond go) => `(tactic| repeat (row_cond st))
def Odd (t : Da) : Prop := ∀ (μ : MS) (n : Nat), TrE μ (n + 2) (.d t) t
theorem odd_leaf {t : Da} (h : leafOkE t) : Odd t := fun _ _ => .inl ⟨rfl, h⟩
theorem odd_one {t : Da} (h : leafOkE t) : Odd (.lst [t]) := fun μ n => .inr (.inl ⟨[.d t], [t], rfl, rfl, rfl, by show 1 < 10000; decide, fun i x u h1 h2 => by
  match i, h1, h2 with
  | 0, h1, h2 => cases h1; cases h2; exact .inl ⟨rfl, h⟩
  | i + 1, h1, _ => cases h1⟩)
end Mz
end
section
set_option Elab.async false
set_option linter.all false
set_option maxRecDepth 100000
set_option maxHeartbeats 1000000
namespace Mz
open PySem L2 TL
local macro_rules | `(tactic| row_cond sd) => `(tactic| first | with_reducible assumption | with_reducible exact rfl | exact rfl | exact True.intro | assumption | decide)
local macro_rules | `(tactic| row_cond st) => `(tactic| first
  | refine And.intro (by row_cond sd) ?_
  | refine ⟨_, by row_cond sd, ?_⟩
  | refine ⟨_, _, by row_cond sd, ?_⟩
  | refine ⟨_, _, by row_cond sd, by row_cond sd, ?_⟩
  | refine ⟨_, _, _, by row_cond sd, ?_⟩
  | refine ⟨_, _, _, by row_cond sd, by row_cond sd, ?_⟩
  | refine ⟨_, _, _, by row_cond sd, by row_cond sd, by row_cond sd, ?_⟩
  | refine ⟨_, _, _, _, by row_cond sd, ?_⟩
  | refine ⟨_, _, _, _, by row_cond sd, by row_cond sd, by row_cond sd, ?_⟩
  | refine ⟨_, _, _, _, by row_cond sd, by row_cond sd, by row_cond sd, by row_cond sd, ?_⟩
  | refine iteT ?_
  | refine iteF ?_)
local macro_rules | `(tactic| row_cond go) => `(tactic| repeat (row_cond st))
section
variable {A : Ad} {K : PySem.W.Frag}
theorem place_err {d : Da} : errDa A ⟨A.BadPlace, [("place", d)]⟩ (.tup [.str "place", d]) := ⟨by simp [errCls], .inl ⟨"place", "place", _, .inl (by simp [err1a]), rfl, rfl⟩⟩
end
end Mz
end
section
set_option Elab.async false
set_option linter.all false
set_option maxRecDepth 100000
set_option maxHeartbeats 1000000
namespace Mz
open PySem L2 TL
local macro_rules | `(tactic| row_cond sd) => `(tactic| first | with_reducible assumption | with_reducible exact rfl | exact rfl | exact True.intro | assumption | decide)
local macro_rules | `(tactic| row_cond st) => `(tactic| first
  | refine And.intro (by row_cond sd) ?_
  | refine ⟨_, by row_cond sd, ?_⟩
  | refine ⟨_, _, by row_cond sd, ?_⟩
  | refine ⟨_, _, by row_cond sd, by row_cond sd, ?_⟩
  | refine ⟨_, _, _, by row_cond sd, ?_⟩
  | refine ⟨_, _, _, by row_cond sd, by row_cond sd, ?_⟩
  | refine ⟨_, _, _, by row_cond sd, by row_cond sd, by row_cond sd, ?_⟩
  | refine ⟨_, _, _, _, by row_cond sd, ?_⟩
  | refine ⟨_, _, _, _, by row_cond sd, by row_cond sd, by row_cond sd, ?_⟩
  | refine ⟨_, _, _, _, by row_cond sd, by row_cond sd, by row_cond sd, by row_cond sd, ?_⟩
  | refine iteT ?_
  | refine iteF ?_)
local macro_rules | `(tactic| row_cond go) => `(tactic| repeat (row_cond st))
/-! ### the number of a call, or none -/
section
variable {A : Ad} {K : PySem.W.Frag} {kd : KD} {E : Ex → Prop} {Q : Da → Prop}
/-- the place of a call -/
theorem x_number_x {k : Nat} {c : Cal} (ok : KDOk kd) (hc : kd.cs[k]? = some c) (h : Q (.int (k : Nat))) : m_Kind_number_of_x A K [kindDa A kd, .str c.nm] E Q := by
  unfold m_Kind_number_of_x
  refine ⟨rfl, ?_⟩
  unfold b_Kind_number_of_x
  row_cond go
  refine ⟨_, _, _, .str _, rfl, kit_ty (kit_all .str .str), ?_⟩
  row_cond go
  refine oIn_b (ss := kd.cs.map Cal.nm) true (decide_eq_true (List.mem_map_of_mem (mem_get hc))) (by simp [sqV]) ?_
  row_cond go
  refine ⟨_, (kd.cs.map Cal.nm).map V.str, _, .str c.nm, k, .str c.nm, rfl, rfl, ?_, rfl, ?_, ?_, ?_, ?_⟩
  · rw [List.map_map]
    exact pVs_strs _
  · rw [List.getElem?_map, List.getElem?_map, hc]; rfl
  · simp [eqV]
  · intro m z hm' hz
    rw [List.getElem?_map, List.getElem?_map] at hz
    cases q : kd.cs[m]? with
    | none => rw [q] at hz; cases hz
    | some x =>
      rw [q] at hz
      obtain rfl : V.str x.nm = z := Option.some.inj hz
      have hne : x.nm ≠ c.nm := fun e => by
        have := nd_ix ok.nd (show (kd.cs.map Cal.nm)[m]? = some c.nm by rw [List.getElem?_map, q]; exact congrArg some e) (show (kd.cs.map Cal.nm)[k]? = some c.nm by rw [List.getElem?_map, hc]; rfl)
        omega
      simp [eqV, hne]
  · exact ⟨_, .d _, h⟩
/-- no name of a call -/
def NoCl (kd : KD) (w : Da) : Prop := w.pl = true ∧ (w.isA .str = false ∨ ∃ s, w = .str s ∧ s ∉ kd.cs.map Cal.nm)
theorem x_number_bad {w : Da} (hw : NoCl kd w) (h : E ⟨A.UnknownCall, [("name", w)]⟩) : m_Kind_number_of_x A K [kindDa A kd, w] E Q := by
  unfold m_Kind_number_of_x
  refine ⟨rfl, ?_⟩
  unfold b_Kind_number_of_x
  row_cond go
  refine ⟨_, _, _, tyD_kn hw.1, rfl, kit_ty (kit_all _ .str), ?_⟩
  rcases hw.2 with hs' | ⟨s, rfl, hs'⟩
  · rw [show w.kn.isA .str = false from hs']
    row_cond go
    exact h
  · row_cond go
    refine oIn_b (ss := kd.cs.map Cal.nm) false (decide_eq_false hs') (by simp [sqV]) ?_
    row_cond go
    exact h
end
end Mz
end
section
set_option Elab.async false
set_option linter.all false
set_option maxRecDepth 100000
set_option maxHeartbeats 1000000
namespace Mz
open PySem L2 TL
local macro_rules | `(tactic| row_cond sd) => `(tactic| first | with_reducible assumption | with_reducible exact rfl | exact rfl | exact True.intro | assumption | decide)
local macro_rules | `(tactic| row_cond st) => `(tactic| first
  | refine And.intro (by row_cond sd) ?_
  | refine ⟨_, by row_cond sd, ?_⟩
  | refine ⟨_, _, by row_cond sd, ?_⟩
  | refine ⟨_, _, by row_cond sd, by row_cond sd, ?_⟩
  | refine ⟨_, _, _, by row_cond sd, ?_⟩
  | refine ⟨_, _, _, by row_cond sd, by row_cond sd, ?_⟩
  | refine ⟨_, _, _, by row_cond sd, by row_cond sd, by row_cond sd, ?_⟩
  | refine ⟨_, _, _, _, by row_cond sd, ?_⟩
  | refine ⟨_, _, _, _, by row_cond sd, by row_cond sd, by row_cond sd, ?_⟩
  | refine ⟨_, _, _, _, by row_cond sd, by row_cond sd, by row_cond sd, by row_cond sd, ?_⟩
  | refine iteT ?_
  | refine iteF ?_)
local macro_rules | `(tactic| row_cond go) => `(tactic| repeat (row_cond st))
/-! ### own: the kind in which a call copies a list -/
def ownCal (c : Cal) (nm : Str) : Cal := ⟨c.nm, c.hand, c.moves, c.deeds, c.same.filter fun s => !decide (s = nm)⟩
def ownKD (kd : KD) (k : Nat) (c : Cal) (nm : Str) : KD := ⟨kd.fs, kd.cs.take k ++ [ownCal c nm] ++ kd.cs.drop (k + 1), kd.md⟩
theorem row_is (c : Cal) : isCal c.row c := ⟨_, _, _, _, rfl, rfl, rfl, pairs_are _, rfl⟩
theorem rows_are : ∀ cs : List Cal, Paired isCal (cs.map Cal.row) cs
  | [] => .nil
  | c :: r => .cons (row_is c) (rows_are r)
theorem own_cal_ok {fs : List Fld} {md : Int} {c : Cal} {nm : Str} (h : CalOk fs md c) : CalOk fs md (ownCal c nm) := by
  refine { wd := h.wd, hd := h.hd, ml := h.ml, m4 := h.m4, mv := h.mv, dl := h.dl, dd := h.dd, un := h.un, sm := fun s hs => h.sm s (List.mem_filter.mp hs).1, sn := h.sn.filter _, sl := Nat.le_trans (List.length_filter_le _ _) h.sl, ss := fun hs => ?_ }
  have := h.ss hs
  show c.same.filter _ = []
  rw [this]; rfl
theorem split_at {α : Type} {l : List α} {k : Nat} {x : α} (h : l[k]? = some x) : l = l.take k ++ [x] ++ l.drop (k + 1) := by
  obtain ⟨hl, e⟩ := List.getElem?_eq_some_iff.mp h
  rw [List.append_assoc, List.singleton_append, ← e, ← List.drop_eq_getElem_cons hl, List.take_append_drop]
theorem own_ok {kd : KD} {k : Nat} {c : Cal} {nm : Str} (ok : KDOk kd) (hc : kd.cs[k]? = some c) : KDOk (ownKD kd k c nm) := by
  have hs := split_at hc
  have e : (ownKD kd k c nm).cs.map Cal.nm = kd.cs.map Cal.nm := by
    conv => rhs; rw [hs]
    simp only [ownKD, List.map_append]
    rfl
  have el : (ownKD kd k c nm).cs.length = kd.cs.length := by
    have := congrArg List.length e
    simpa using this
  refine { f := ok.f, m1 := ok.m1, m4 := ok.m4, c0 := by rw [el]; exact ok.c0, c6 := by rw [el]; exact ok.c6, c := fun x hx => ?_, nd := by rw [e]; exact ok.nd }
  rcases List.mem_append.mp (show x ∈ kd.cs.take k ++ [ownCal c nm] ++ kd.cs.drop (k + 1) from hx) with hx | hx
  · rcases List.mem_append.mp hx with hx | hx
    · exact ok.c x (List.mem_of_mem_take hx)
    · rw [List.mem_singleton.mp hx]
      exact own_cal_ok (ok.c c (mem_get hc))
  · exact ok.c x (List.mem_of_mem_drop hx)
theorem cutD_to (xs : List Dv) (k : Nat) : cutD xs none (some (k : Nat)) = xs.take k := by
  unfold cutD
  rw [HT.sIx_none, HT.sIx_nat]
  simp
theorem cutD_from (xs : List Dv) (k : Nat) : cutD xs (some ((k : Nat) : Int)) none = xs.drop k := by
  unfold cutD
  rw [HT.sIx_none, HT.sIx_nat]
  by_cases h : k ≤ xs.length
  · rw [Nat.min_eq_left h]
    exact List.take_of_length_le (by simp)
  · rw [List.drop_of_length_le (by omega), List.drop_of_length_le (by omega)]; simp
section
variable {A : Ad} {K : PySem.W.Frag} {kd : KD}
theorem x_make {d1 d2 : Da} {E : XS} {P : Da → Prop} (hf : isFlds d1 kd.fs) (hc : isCals d2 kd.cs) (ok : KDOk kd) (h : P (kindDa A kd)) : cO (m_Kind___init__ A K) (.ob 0 :: [d1, d2, .int kd.md].map .d) E [.ins A.Kind []] (fun d μ4 => d = .d .non ∧ ∃ x, Rz μ4 (.ob 0) x ∧ P x) := by
  refine x_Kind_init (μ := []) rfl rfl hf hc ok fun r hr => ?_
  exact ⟨rfl, _, hr, h⟩
end
end Mz
end
section
set_option Elab.async false
set_option linter.all false
set_option maxRecDepth 100000
set_option maxHeartbeats 1000000
namespace Mz
open PySem L2 TL
local macro_rules | `(tactic| row_cond sd) => `(tactic| first | with_reducible assumption | with_reducible exact rfl | exact rfl | exact True.intro | assumption | decide)
local macro_rules | `(tactic| row_cond st) => `(tactic| first
  | refine And.intro (by row_cond sd) ?_
  | refine ⟨_, by row_cond sd, ?_⟩
  | refine ⟨_, _, by row_cond sd, ?_⟩
  | refine ⟨_, _, by row_cond sd, by row_cond sd, ?_⟩
  | refine ⟨_, _, _, by row_cond sd, ?_⟩
  | refine ⟨_, _, _, by row_cond sd, by row_cond sd, ?_⟩
  | refine ⟨_, _, _, by row_cond sd, by row_cond sd, by row_cond sd, ?_⟩
  | refine ⟨_, _, _, _, by row_cond sd, ?_⟩
  | refine ⟨_, _, _, _, by row_cond sd, by row_cond sd, by row_cond sd, ?_⟩
  | refine ⟨_, _, _, _, by row_cond sd, by row_cond sd, by row_cond sd, by row_cond sd, ?_⟩
  | refine iteT ?_
  | refine iteF ?_)
local macro_rules | `(tactic| row_cond go) => `(tactic| repeat (row_cond st))
section
variable {A : Ad} {K : PySem.W.Frag} {kd : KD} {E : Ex → Prop} {Q : Da → Prop}
theorem x_Kind_own {k : Nat} {c : Cal} {nm : Str} (ok : KDOk kd) (hc : kd.cs[k]? = some c) (hs : nm ∈ c.same) (h : Q (kindDa A (ownKD kd k c nm))) : m_Kind_own A K [kindDa A kd, .str c.nm, .str nm] E Q := by
  unfold m_Kind_own
  refine ⟨rfl, ?_⟩
  unfold b_Kind_own
  have hix : ∀ ν : MS, ixD ν (.d (.lst (kd.cs.map Cal.row))) (.d (.int (k : Nat))) = some (.d c.row) := fun ν => ix_items (d := .lst (kd.cs.map Cal.row)) rfl rfl (by rw [List.getElem?_map, hc]; rfl) _
  have hix0 := hix []
  row_cond go
  refine x_number_x ok hc ?_
  row_cond go
  refine ⟨_, _, _, .str _, rfl, kit_ty (kit_all .str .str), ?_⟩
  row_cond go
  refine oIn_b (ss := c.same) true (decide_eq_true hs) (by simp [sqV]) ?_
  row_cond go
  rw [List.map_map]
  refine lc_fm (fun s : Str => Dv.d (.str s)) (fun s => !decide (s = nm)) (fun s => .d (.str s)) ?hg c.same ?hl (fun i s hs P1 P0 h1 h0 => ?hs) ?hr
  case hg => show some _ = some _; rw [List.map_map]
  case hl => have := (ok.c c (mem_get hc)).sl; omega
  case hs =>
    row_cond go
    rw [str_dec]
    cases hb : decide (s = nm) with
    | true => exact iteF (h0 (by rw [hb]; rfl))
    | false =>
      refine iteT ?_
      row_cond go
      exact h1 (by rw [hb]; rfl)
  row_cond go
  rw [show mkTup ((c.same.filter fun s => !decide (s = nm)).map fun s => Dv.d (.str s)) = .d (.tup ((ownCal c nm).same.map Da.str)) by rw [← mkTup_map, List.map_map]; rfl]
  refine ⟨show 1 ≤ sizeLine by decide, ?_⟩
  row_cond go
  refine ⟨show 5 ≤ sizeLine by decide, ?_⟩
  row_cond go
  rw [show mkTup (List.map Dv.d [Da.str c.nm, Da.str c.hand, Da.tup (List.map Da.int c.moves), Da.tup (List.map pairDa c.deeds)] ++ List.map Dv.d [Da.tup (List.map Da.str (ownCal c nm).same)]) = .d (ownCal c nm).row from rfl]
  rw [cutD_to]
  have hc6 := ok.c6
  refine ⟨show 1 ≤ sizeLine by decide, ?_⟩
  refine ⟨_, _, lsD_app lsV_last, lsV_last, ?_, ?_⟩
  · rw [List.length_take, List.length_map, List.length_map]
    exact Nat.le_of_lt (big (n := min k kd.cs.length + 1) (by omega))
  row_cond go
  rw [show ((k : Nat) : Int) + 1 = ((k + 1 : Nat) : Int) by omega, cutD_from]
  refine ⟨?_, ?_⟩
  · rw [List.length_append, List.length_take, List.length_drop, List.length_map, List.length_map]
    exact Nat.le_of_lt (big (n := min k kd.cs.length + 1 + (kd.cs.length - (k + 1))) (by omega))
  have hY : List.take k ((kd.cs.map Cal.row).map Dv.d) ++ [Dv.d (ownCal c nm).row] ++ List.drop (k + 1) ((kd.cs.map Cal.row).map Dv.d) = ((ownKD kd k c nm).cs.map Cal.row).map Dv.d := by
    unfold ownKD
    simp only [List.map_append, List.map_take, List.map_drop]
    rfl
  rw [hY]
  row_cond go
  refine ⟨_, _, fzs_cons rfl (fzs_cons fz1_last (fzs_cons rfl rfl)), ?_⟩
  refine x_make (kd := ownKD kd k c nm) ⟨_, rfl, flds_are _⟩ ⟨_, rfl, rows_are _⟩ (own_ok ok hc) ?_
  exact ⟨_, .d _, h⟩
theorem x_own_bad1 {w f : Da} (hw : NoCl kd w) (h : E ⟨A.UnknownCall, [("name", w)]⟩) : m_Kind_own A K [kindDa A kd, w, f] E Q := by
  unfold m_Kind_own
  refine ⟨rfl, ?_⟩
  unfold b_Kind_own
  row_cond go
  exact x_number_bad hw h
/-- no field whose list a call hands on -/
def NoSm (c : Cal) (f : Da) : Prop := f.pl = true ∧ (f.isA .str = false ∨ ∃ s, f = .str s ∧ s ∉ c.same)
theorem x_own_bad2 {k : Nat} {c : Cal} {f : Da} (ok : KDOk kd) (hc : kd.cs[k]? = some c) (hf : NoSm c f) (h : E ⟨A.BadPlace, [("place", f)]⟩) : m_Kind_own A K [kindDa A kd, .str c.nm, f] E Q := by
  unfold m_Kind_own
  refine ⟨rfl, ?_⟩
  unfold b_Kind_own
  have hix0 : ixD [] (.d (.lst (kd.cs.map Cal.row))) (.d (.int (k : Nat))) = some (.d c.row) := ix_items (d := .lst (kd.cs.map Cal.row)) rfl rfl (by rw [List.getElem?_map, hc]; rfl) _
  row_cond go
  refine x_number_x ok hc ?_
  row_cond go
  refine ⟨_, _, _, tyD_kn hf.1, rfl, kit_ty (kit_all _ .str), ?_⟩
  rcases hf.2 with hs' | ⟨s, rfl, hs'⟩
  · rw [show f.kn.isA .str = false from hs']
    row_cond go
    exact h
  · row_cond go
    refine oIn_b (ss := c.same) false (decide_eq_false hs') (by simp [sqV]) ?_
    row_cond go
    exact h
end
end Mz
end
section
set_option Elab.async false
set_option linter.all false
set_option maxRecDepth 100000
set_option maxHeartbeats 1000000
namespace Mz
open PySem L2 TL
local macro_rules | `(tactic| row_cond sd) => `(tactic| first | with_reducible assumption | with_reducible exact rfl | exact rfl | exact True.intro | assumption | decide)
local macro_rules | `(tactic| row_cond st) => `(tactic| first
  | refine And.intro (by row_cond sd) ?_
  | refine ⟨_, by row_cond sd, ?_⟩
  | refine ⟨_, _, by row_cond sd, ?_⟩
  | refine ⟨_, _, by row_cond sd, by row_cond sd, ?_⟩
  | refine ⟨_, _, _, by row_cond sd, ?_⟩
  | refine ⟨_, _, _, by row_cond sd, by row_cond sd, ?_⟩
  | refine ⟨_, _, _, by row_cond sd, by row_cond sd, by row_cond sd, ?_⟩
  | refine ⟨_, _, _, _, by row_cond sd, ?_⟩
  | refine ⟨_, _, _, _, by row_cond sd, by row_cond sd, by row_cond sd, ?_⟩
  | refine ⟨_, _, _, _, by row_cond sd, by row_cond sd, by row_cond sd, by row_cond sd, ?_⟩
  | refine iteT ?_
  | refine iteF ?_)
local macro_rules | `(tactic| row_cond go) => `(tactic| repeat (row_cond st))
theorem enum_cals (cs : List Cal) : enumD ((cs.map Cal.drawn).map .d) = cs.zipIdx.map fun p => Dv.d (.tup [.int (p.2 : Nat), p.1.drawn]) := by
  unfold enumD
  rw [List.zipIdx_map, List.zipIdx_map, List.map_map, List.map_map]
  rfl
def oddF (c : Cal) : List Da := [.non, .int 5, .str "zz", .dct [], .lst [.str c.nm]]
def oddN (c : Cal) : List Da := [.non, .int 5, .str "zz", .lst [.str c.nm], .dct [], .bl true]
theorem oddN_ok {kd : KD} {c : Cal} {y : Da} (hz : ("zz" : Str) ∉ kd.cs.map Cal.nm) (hs : Sg c.nm) (hy : y ∈ oddN c) : NoCl kd y ∧ Odd y := by
  simp only [oddN, List.mem_cons, List.not_mem_nil, or_false] at hy
  rcases hy with rfl | rfl | rfl | rfl | rfl | rfl
  · exact ⟨⟨rfl, .inl rfl⟩, odd_leaf trivial⟩
  · exact ⟨⟨rfl, .inl rfl⟩, odd_leaf trivial⟩
  · exact ⟨⟨rfl, .inr ⟨_, rfl, hz⟩⟩, odd_leaf (by show Sg "zz"; unfold Sg; decide)⟩
  · exact ⟨⟨rfl, .inl rfl⟩, odd_one hs⟩
  · exact ⟨⟨rfl, .inl rfl⟩, odd_leaf trivial⟩
  · exact ⟨⟨rfl, .inl rfl⟩, odd_leaf trivial⟩
theorem oddF_ok {kd : KD} {c : Cal} {y : Da} (ok : KDOk kd) (hs : Sg c.nm) (hy : y ∈ (kd.fs.map fun f => Da.str f.nm) ++ oddF c) : (∃ s, y = .str s ∧ Sg s) ∨ (y.pl = true ∧ y.isA .str = false ∧ Odd y) := by
  rcases List.mem_append.mp hy with hy | hy
  · obtain ⟨f, hf, rfl⟩ := List.mem_map.mp hy
    exact .inl ⟨_, rfl, sg_word (ok.f.wd f hf)⟩
  · simp only [oddF, List.mem_cons, List.not_mem_nil, or_false] at hy
    rcases hy with rfl | rfl | rfl | rfl | rfl
    · exact .inr ⟨rfl, rfl, odd_leaf trivial⟩
    · exact .inr ⟨rfl, rfl, odd_leaf trivial⟩
    · exact .inl ⟨_, rfl, by unfold Sg; decide⟩
    · exact .inr ⟨rfl, rfl, odd_leaf trivial⟩
    · exact .inr ⟨rfl, rfl, odd_one hs⟩
section
variable {A : Ad} {K : PySem.W.Frag}
theorem trE_wd {w : Str} {d : Da} {μ : MS} {n : Nat} (hw : Sg w) (h : Odd d) : TrE μ (n + 3) (.d (.tup [.str w, d])) (.tup [.str w, d]) := by
  refine .inr (.inr ⟨[.d (.str w), .d d], [.str w, d], rfl, rfl, rfl, by show 2 < 10000; decide, fun i x u h1 h2 => ?_⟩)
  match i, h1, h2 with
  | 0, h1, h2 => cases h1; cases h2; exact .inl ⟨rfl, hw⟩
  | 1, h1, h2 => cases h1; cases h2; exact h μ n
  | i + 2, h1, _ => cases h1
/-- one name whose list a call hands on -/
theorem x_own_step {D : En} {kd : KD} {k : Nat} {c : Cal} {nm : Str} {ω : MS} {x2 x8 x9 x10 x11 : Option Dv} (oK : OwnI K A.Kind) (ok : KDOk kd) (hc : kd.cs[k]? = some c) (hnm : nm ∈ c.same) (hT : ω[0]? = some (.tb A.lawT lamQ))
    (hN : ∀ (y8 y9 y10 : Option Dv) (ν : MS), ν[0]? = some (.tb A.lawT lamQ) → D.nx [none, some (.d .st), x2, some (.d (planDa A kd)), some (.d (kindDa A kd)), some (.d (.int (k : Nat))), some (.d c.drawn), some (.d (.str nm)), y8, y9, y10, x11] ν) :
    l_law_1_k04 A K D [none, some (.d .st), x2, some (.d (planDa A kd)), some (.d (kindDa A kd)), some (.d (.int (k : Nat))), some (.d c.drawn), some (.d (.str nm)), x8, x9, x10, x11] ω := by
  have hc6 := ok.c6
  unfold l_law_1_k04
  row_cond go
  rw [List.map_map]
  refine lc_fm (fun s : Str => Dv.d (.str s)) (fun s => !decide (s = nm)) (fun s => .d (.str s)) ?hg c.same ?hl (fun i s hs P1 P0 h1 h0 => ?hs) ?hr
  case hg => show some _ = some _; rw [List.map_map]
  case hl => have := (ok.c c (mem_get hc)).sl; omega
  case hs =>
    row_cond go
    rw [str_dec]
    cases hb : decide (s = nm) with
    | true => exact iteF (h0 (by rw [hb]; rfl))
    | false =>
      refine iteT ?_
      row_cond go
      exact h1 (by rw [hb]; rfl)
  have hfz := fz1_last (μ := ω) (xs := (ownCal c nm).same.map Da.str)
  rw [List.map_map] at hfz
  refine ⟨_, _, hfz, ?_⟩
  have hT1 := get_app (r := [MO.frz (.lst ((ownCal c nm).same.map Da.str))]) hT
  generalize ω ++ [MO.frz (.lst ((ownCal c nm).same.map Da.str))] = ω1 at hT1 ⊢
  row_cond go
  refine ⟨show 1 ≤ sizeLine by decide, ?_⟩
  row_cond go
  refine ⟨show 5 ≤ sizeLine by decide, ?_⟩
  row_cond go
  rw [show mkTup (List.map Dv.d [Da.str c.nm, Da.str c.hand, Da.lst (List.map Da.int c.moves), Da.lst (List.map pairDa c.deeds)] ++ List.map Dv.d [Da.lst (List.map Da.str (ownCal c nm).same)]) = .d (ownCal c nm).drawn from rfl]
  rw [cutD_to]
  refine ⟨show 1 ≤ sizeLine by decide, ?_⟩
  refine ⟨_, _, lsD_app lsV_last, lsV_last, ?_, ?_⟩
  · rw [List.length_take, List.length_map, List.length_map]
    exact Nat.le_of_lt (big (n := min k kd.cs.length + 1) (by omega))
  row_cond go
  rw [show ((k : Nat) : Int) + 1 = ((k + 1 : Nat) : Int) by omega, cutD_from]
  refine ⟨_, _, lsD_app lsV_last, lsV_last, ?_, ?_⟩
  · rw [List.length_append, List.length_take, List.length_drop, List.length_map, List.length_map]
    exact Nat.le_of_lt (big (n := min k kd.cs.length + 1 + (kd.cs.length - (k + 1))) (by omega))
  have hY : List.take k ((kd.cs.map Cal.drawn).map Dv.d) ++ [Dv.d (ownCal c nm).drawn] ++ List.drop (k + 1) ((kd.cs.map Cal.drawn).map Dv.d) = ((ownKD kd k c nm).cs.map Cal.drawn).map Dv.d := by
    unfold ownKD
    simp only [List.map_append, List.map_take, List.map_drop]
    rfl
  rw [hY]
  row_cond go
  refine ⟨_, _, fzs_cons rfl (fzs_cons fz1_last (fzs_cons rfl rfl)), ?_⟩
  refine x_make (kd := ownKD kd k c nm) (d1 := .lst (kd.fs.map Fld.da)) (d2 := .lst ((ownKD kd k c nm).cs.map Cal.drawn)) ⟨_, rfl, flds_are _⟩ ⟨_, rfl, cals_are _⟩ (own_ok ok hc) ?_
  have hT2 : ∀ (a b c' d : MO), (ω1 ++ [a] ++ [b] ++ [c'] ++ [d])[0]? = some (.tb A.lawT lamQ) := fun a b c' d => get_app (get_app (get_app (get_app hT1)))
  row_cond go
  refine x_Kind_own ok hc hnm ?_
  row_cond go
  refine ⟨⟨_, rfl⟩, ⟨_, rfl⟩, ?_⟩
  row_cond go
  refine x_Kind_eq oK (own_ok ok hc) ?_
  row_cond go
  exact hN _ _ _ _ (get_app (hT2 _ _ _ _))
end
end Mz
end
section
set_option Elab.async false
set_option linter.all false
set_option maxRecDepth 100000
set_option maxHeartbeats 1000000
namespace Mz
open PySem L2 TL
local macro_rules | `(tactic| row_cond sd) => `(tactic| first | with_reducible assumption | with_reducible exact rfl | exact rfl | exact True.intro | assumption | decide)
local macro_rules | `(tactic| row_cond st) => `(tactic| first
  | refine And.intro (by row_cond sd) ?_
  | refine ⟨_, by row_cond sd, ?_⟩
  | refine ⟨_, _, by row_cond sd, ?_⟩
  | refine ⟨_, _, by row_cond sd, by row_cond sd, ?_⟩
  | refine ⟨_, _, _, by row_cond sd, ?_⟩
  | refine ⟨_, _, _, by row_cond sd, by row_cond sd, ?_⟩
  | refine ⟨_, _, _, by row_cond sd, by row_cond sd, by row_cond sd, ?_⟩
  | refine ⟨_, _, _, _, by row_cond sd, ?_⟩
  | refine ⟨_, _, _, _, by row_cond sd, by row_cond sd, by row_cond sd, ?_⟩
  | refine ⟨_, _, _, _, by row_cond sd, by row_cond sd, by row_cond sd, by row_cond sd, ?_⟩
  | refine iteT ?_
  | refine iteF ?_)
local macro_rules | `(tactic| row_cond go) => `(tactic| repeat (row_cond st))
section
variable {A : Ad} {K : PySem.W.Frag}
theorem x_odds2 {D : En} {kd : KD} {k : Nat} {c : Cal} {y : Da} {ν : MS} {x2 x8 x9 x10 x11 : Option Dv} (ok : KDOk kd) (hc : kd.cs[k]? = some c) (hz : ("zz" : Str) ∉ kd.cs.map Cal.nm) (hTn : ν[0]? = some (.tb A.lawT lamQ))
    (hN : ∀ (y7 y11 : Option Dv) (ν : MS), ν[0]? = some (.tb A.lawT lamQ) → D.nx [none, some (.d .st), x2, some (.d (planDa A kd)), some (.d (kindDa A kd)), some (.d (.int (k : Nat))), some (.d c.drawn), y7, x8, x9, x10, y11] ν) :
    (bSeq (bAsg (mCall (cP (m_law_one A K)) (mCons (mVar 1) (mCons (mLstF (mCons (mC (.d .non)) (mCons (mC (.d (.int 5))) (mCons (mC (.d (.str "zz"))) (mCons (mLstF (mCons (mOp oIx (mVar 6) (mC (.d (.int 0)))) mNil)) (mCons mDF (mCons (mC (.d (.bl true))) mNil))))))) mNil))) (nName 11)) (bIf (mNotT (mT (mCall (cO (m_law_same_e A K 6)) (mCons (mTried A (mMeth A.Kind "own" (cP (m_Kind_own A K)) (mVar 4) (mCons (mVar 11) (mCons (mVar 7) mNil)))) (mCons (mTup (mCons (mC (.d (.str "unknown"))) (mCons (mVar 11) mNil))) mNil))))) (bRet (mC (.d (.bl false)))) bNext)) D [none, some (.d .st), x2, some (.d (planDa A kd)), some (.d (kindDa A kd)), some (.d (.int (k : Nat))), some (.d c.drawn), some (.d y), x8, x9, x10, x11] ν := by
  have hsg := sg_word (ok.c c (mem_get hc)).wd
  row_cond go
  refine ⟨show 1 ≤ sizeLine by decide, ?_⟩
  row_cond go
  refine ⟨show 6 ≤ sizeLine by decide, ?_⟩
  row_cond go
  refine x_law_one (xs := oddN c) (by show 0 < 6; decide) (by show 6 < 1048576; decide) fun z hz' => ?_
  obtain ⟨hno, hodd⟩ := oddN_ok hz hsg hz'
  row_cond go
  refine x_own_bad1 hno ?_
  refine ⟨.tup [.str "unknown", z], ⟨by simp [errCls], .inl ⟨"unknown", "name", _, .inl (by simp [err1a]), rfl, rfl⟩⟩, ?_⟩
  row_cond go
  refine ⟨show 2 ≤ sizeLine by decide, ?_⟩
  row_cond go
  refine x_same_e 6 (t := .tup [.str "unknown", z]) (trE_wd (n := 3) (by unfold Sg; decide) hodd) (trE_wd (n := 3) (by unfold Sg; decide) hodd) _ _ fun g => ?_
  row_cond go
  exact hN _ _ _ (get_app hTn)
theorem x_odds1 {C0 : BS} {D : En} {kd : KD} {k : Nat} {c : Cal} {ω : MS} {x2 x7 x8 x9 x10 x11 : Option Dv} (ok : KDOk kd) (hc : kd.cs[k]? = some c) (hT : ω[0]? = some (.tb A.lawT lamQ))
    (hC : ∀ (y : Da) (ν : MS), ν[0]? = some (.tb A.lawT lamQ) → C0 D [none, some (.d .st), x2, some (.d (planDa A kd)), some (.d (kindDa A kd)), some (.d (.int (k : Nat))), some (.d c.drawn), some (.d y), x8, x9, x10, x11] ν) :
    bSeq (bAsg (mCall (cP (m_law_one A K)) (mCons (mVar 1) (mCons (mOp oCat (mLc (miSq (mDGet (mVar 3) (mC (.d (.str "fields"))))) (nName 9) mYes (mOp oIx (mVar 9) (mC (.d (.int 0)))) [9]) (mLstF (mCons (mC (.d .non)) (mCons (mC (.d (.int 5))) (mCons (mC (.d (.str "zz"))) (mCons mDF (mCons (mLstF (mCons (mOp oIx (mVar 6) (mC (.d (.int 0)))) mNil)) mNil))))))) mNil))) (nName 7)) (bSeq (bIf (mNotT (mAndT (mT (mCB (oIsi K) (mCons (mVar 7) (mCons (mC (.d (.ty "str"))) mNil)))) (mT (mOp (oIn false) (mVar 7) (mOp oIx (mVar 6) (mC (.d (.int 4)))))))) (bIf (mNotT (mT (mCall (cO (m_law_same_e A K 6)) (mCons (mTried A (mMeth A.Kind "own" (cP (m_Kind_own A K)) (mVar 4) (mCons (mOp oIx (mVar 6) (mC (.d (.int 0)))) (mCons (mVar 7) mNil)))) (mCons (mTup (mCons (mC (.d (.str "place"))) (mCons (mVar 7) mNil))) mNil))))) (bRet (mC (.d (.bl false)))) bNext) bNext) C0) D [none, some (.d .st), x2, some (.d (planDa A kd)), some (.d (kindDa A kd)), some (.d (.int (k : Nat))), some (.d c.drawn), x7, x8, x9, x10, x11] ω := by
  have hfl := ok.f.le
  have hsg := sg_word (ok.c c (mem_get hc)).wd
  row_cond go
  rw [List.map_map]
  refine lc_fm (fun f : Fld => Dv.d f.da) (fun _ => true) (fun f => .d (.str f.nm)) ?hg kd.fs (by omega) (fun i f hf P1 P0 h1 h0 => ?hs) ?hr
  case hg => show some _ = some _; rw [List.map_map]
  case hs =>
    row_cond go
    exact h1 rfl
  rw [show (kd.fs.filter fun _ => true) = kd.fs from List.filter_eq_self.mpr (by simp)]
  have hT1 := get_app (r := [MO.lst (kd.fs.map fun f => Dv.d (.str f.nm))]) hT
  have hl1 : lsV (ω ++ [MO.lst (kd.fs.map fun f => Dv.d (.str f.nm))]) (.ob ω.length) = some (kd.fs.map fun f => Dv.d (.str f.nm)) := lsV_last
  generalize ω ++ [MO.lst (kd.fs.map fun f => Dv.d (.str f.nm))] = ω1 at hT1 hl1 ⊢
  row_cond go
  refine ⟨show 1 ≤ sizeLine by decide, ?_⟩
  row_cond go
  refine ⟨show 5 ≤ sizeLine by decide, ?_⟩
  row_cond go
  refine ⟨?_, ?_⟩
  · show (kd.fs.map fun f => Dv.d (.str f.nm)).length + 5 ≤ sizeLine
    rw [List.length_map]
    exact Nat.le_of_lt (big (n := kd.fs.length + 5) (by omega))
  have hfz := fz1_last (μ := ω1) (xs := (kd.fs.map fun f => Da.str f.nm) ++ oddF c)
  rw [List.map_append, List.map_map] at hfz
  refine ⟨_, _, fzs_cons rfl (fzs_cons hfz rfl), ?_⟩
  refine x_law_one (by rw [List.length_append]; show 0 < _ + 5; omega) (by rw [List.length_append, List.length_map]; show _ + 5 < 1048576; omega) fun y hy => ?_
  have hT2 := get_app (r := [MO.frz (.lst ((kd.fs.map fun f => Da.str f.nm) ++ oddF c))]) hT1
  generalize ω1 ++ [MO.frz (.lst ((kd.fs.map fun f => Da.str f.nm) ++ oddF c))] = ω2 at hT2 ⊢
  clear hfz hl1
  have hpl : y.pl = true := by
    rcases oddF_ok ok hsg hy with ⟨s, rfl, _⟩ | ⟨h, _, _⟩
    · rfl
    · exact h
  row_cond go
  refine ⟨_, _, _, tyD_kn hpl, rfl, kit_ty (kit_all _ .str), ?_⟩
  rcases oddF_ok ok hsg hy with ⟨s, rfl, hs⟩ | ⟨_, h1, h2⟩
  · row_cond go
    by_cases hm : s ∈ c.same
    · refine oIn_b (ss := c.same) true (decide_eq_true hm) (by simp [sqV]) ?_
      row_cond go
      exact hC _ _ hT2
    · refine oIn_b (ss := c.same) false (decide_eq_false hm) (by simp [sqV]) ?_
      row_cond go
      refine x_own_bad2 ok hc (f := .str s) ⟨rfl, .inr ⟨s, rfl, hm⟩⟩ ?_
      refine ⟨.tup [.str "place", .str s], place_err, ?_⟩
      row_cond go
      refine ⟨show 2 ≤ sizeLine by decide, ?_⟩
      row_cond go
      refine x_same_e 6 (t := .tup [.str "place", .str s]) (trE_wd (n := 3) (by unfold Sg; decide) (odd_leaf hs)) (trE_wd (n := 3) (by unfold Sg; decide) (odd_leaf hs)) _ _ fun g => ?_
      row_cond go
      exact hC _ _ (get_app hT2)
  · rw [show y.kn.isA .str = false from h1]
    · row_cond go
      refine x_own_bad2 ok hc (f := y) ⟨hpl, .inl h1⟩ ?_
      refine ⟨.tup [.str "place", y], place_err, ?_⟩
      row_cond go
      refine ⟨show 2 ≤ sizeLine by decide, ?_⟩
      row_cond go
      refine x_same_e 6 (t := .tup [.str "place", y]) (trE_wd (n := 3) (by unfold Sg; decide) h2) (trE_wd (n := 3) (by unfold Sg; decide) h2) _ _ fun g => ?_
      row_cond go
      exact hC _ _ (get_app hT2)
end
end Mz
end
section
set_option Elab.async false
set_option linter.all false
set_option maxRecDepth 100000
set_option maxHeartbeats 1000000
namespace Mz
open PySem L2 TL
local macro_rules | `(tactic| row_cond sd) => `(tactic| first | with_reducible assumption | with_reducible exact rfl | exact rfl | exact True.intro | assumption | decide)
local macro_rules | `(tactic| row_cond st) => `(tactic| first
  | refine And.intro (by row_cond sd) ?_
  | refine ⟨_, by row_cond sd, ?_⟩
  | refine ⟨_, _, by row_cond sd, ?_⟩
  | refine ⟨_, _, by row_cond sd, by row_cond sd, ?_⟩
  | refine ⟨_, _, _, by row_cond sd, ?_⟩
  | refine ⟨_, _, _, by row_cond sd, by row_cond sd, ?_⟩
  | refine ⟨_, _, _, by row_cond sd, by row_cond sd, by row_cond sd, ?_⟩
  | refine ⟨_, _, _, _, by row_cond sd, ?_⟩
  | refine ⟨_, _, _, _, by row_cond sd, by row_cond sd, by row_cond sd, ?_⟩
  | refine ⟨_, _, _, _, by row_cond sd, by row_cond sd, by row_cond sd, by row_cond sd, ?_⟩
  | refine iteT ?_
  | refine iteF ?_)
local macro_rules | `(tactic| row_cond go) => `(tactic| repeat (row_cond st))
section
variable {A : Ad} {K : PySem.W.Frag}
theorem x_law04 {D : En} (oK : OwnI K A.Kind) (hD : ∀ μ, D.rt (.d (.bl true)) μ) (hE : D.er = noX) : b_law_k04 A K D [none, some (.d .st), none, none, none, none, none, none, none, none, none, none] [.tb A.lawT lamQ] := by
  unfold b_law_k04
  show bSeq (bFor (miR1 (mCons (mC (.d (.int 4))) mNil)) (nName 2) (l_law_5_k04 A K)) (k_law_6_k04 A K) _ _ _
  refine ⟨4, rfl, by decide, trivial, ?_⟩
  refine loop_by (fun i α μ => ∃ x2 x3 x4 x5 x6 x7 x8 x9 x10 x11, α = [none, some (.d .st), x2, x3, x4, x5, x6, x7, x8, x9, x10, x11] ∧ μ[0]? = some (.tb A.lawT lamQ)) ?_ ?_ ⟨none, none, none, none, none, none, none, none, none, none, rfl, rfl⟩
  · rintro i d α μ N hi ⟨x2, x3, x4, x5, x6, x7, x8, x9, x10, x11, rfl, hT⟩ hN
    unfold l_law_5_k04
    row_cond go
    refine x_law_kind (by decide) (by decide) (by decide) (by decide) (by decide) (by decide) fun kd dr => ?_
    have ok := dr.ok
    have hz : ("zz" : Str) ∉ kd.cs.map Cal.nm := by
      obtain ⟨n, _, _, e⟩ := dr.cs
      rw [e]
      intro z
      rcases List.mem_append.mp z with z | z
      · exact absurd (List.mem_of_mem_take z) (by decide)
      · exact absurd z (by decide)
    row_cond go
    show mLoop _ _ _ _ (enumD ((kd.cs.map Cal.drawn).map .d)) _ _
    rw [enum_cals]
    refine loop_by (fun i α ν => ∃ y5 y6 y7 y8 y9 y10 y11, α = [none, some (.d .st), some d, some (.d (planDa A kd)), some (.d (kindDa A kd)), y5, y6, y7, y8, y9, y10, y11] ∧ ν[0]? = some (.tb A.lawT lamQ)) ?_ ?_ ⟨_, _, _, _, _, _, _, rfl, hT⟩
    · rintro i d2 α ν N2 hi ⟨y5, y6, y7, y8, y9, y10, y11, rfl, hT2⟩ hN2
      obtain ⟨p, hp, rfl⟩ := mapN_get hi
      obtain ⟨c, k⟩ := p
      have hc : kd.cs[k]? = some c := List.mem_zipIdx_iff_getElem?.mp (mem_get hp)
      unfold l_law_3_k04
      row_cond go
      rw [List.map_map]
      refine loop_by (fun i α ν => ∃ y7 y8 y9 y10, α = [none, some (.d .st), some d, some (.d (planDa A kd)), some (.d (kindDa A kd)), some (.d (.int (k : Nat))), some (.d c.drawn), y7, y8, y9, y10, y11] ∧ ν[0]? = some (.tb A.lawT lamQ)) ?_ ?_ ⟨_, _, _, _, rfl, hT2⟩
      · rintro i d3 α ν N3 hi ⟨y7, y8, y9, y10, rfl, hT3⟩ hN3
        obtain ⟨nm, hnm, rfl⟩ := mapN_get hi
        refine x_own_step oK ok hc (mem_get hnm) hT3 fun y8 y9 y10 ν hT4 => ?_
        exact ⟨by show some _ = some _; rw [List.map_map], hN3 _ _ ⟨_, _, _, _, rfl, hT4⟩⟩
      · rintro α ν ⟨y7, y8, y9, y10, rfl, hT3⟩
        show k_law_2_k04 A K _ [none, some (.d .st), some d, some (.d (planDa A kd)), some (.d (kindDa A kd)), some (.d (.int (k : Nat))), some (.d c.drawn), y7, y8, y9, y10, y11] ν
        unfold k_law_2_k04
        refine x_odds1 ok hc hT3 fun y ν hTn => x_odds2 ok hc hz hTn fun y7 y11 ν hT4 => ?_
        exact ⟨by first | exact rfl | (show some _ = some _; rw [List.map_map]), hN2 _ _ ⟨_, _, _, _, _, _, _, rfl, hT4⟩⟩
    · rintro α ν ⟨y5, y6, y7, y8, y9, y10, y11, rfl, hT2⟩
      show k_law_4_k04 A K _ [none, some (.d .st), some d, some (.d (planDa A kd)), some (.d (kindDa A kd)), y5, y6, y7, y8, y9, y10, y11] ν
      unfold k_law_4_k04
      row_cond go
      refine x_make (kd := kd) ⟨_, rfl, flds_are _⟩ ⟨_, rfl, cals_are _⟩ ok ?_
      row_cond go
      refine ⟨⟨_, rfl⟩, ⟨_, rfl⟩, ?_⟩
      row_cond go
      refine x_Kind_eq oK ok ?_
      row_cond go
      exact hN _ _ ⟨_, _, _, _, _, _, _, _, _, _, rfl, hT2⟩
  · rintro α ν ⟨x2, x3, x4, x5, x6, x7, x8, x9, x10, x11, rfl, _⟩
    show k_law_6_k04 A K D [none, some (.d .st), x2, x3, x4, x5, x6, x7, x8, x9, x10, x11] ν
    unfold k_law_6_k04
    row_cond go
    exact hD _
end
end Mz
end
section
set_option Elab.async false
set_option linter.all false
set_option maxRecDepth 100000
set_option maxHeartbeats 4000000
namespace Mz
open PySem L2
section
variable {P : Program} {w : World} {K : PySem.W.Frag} {mg : Str → Option Value} {base : Heap} {A : Ad} {B : Bd}
theorem er_BadPlace (T : Tx w K mg A B) (hP : SupP P lawFile) : ErrC P w K mg base A.BadPlace ["self", "place"] (spI1 K A.BadPlace "place") :=
  errC1 (st := s_BadPlace___init__) T.xe_BadPlace hP rfl rfl (NdefX.nscope_by (by decide +kernel)) (by rfl) rfl (fun _ _ _ _ _ us hl => match us, hl with | [_, _], _ => rfl)
theorem er_UnknownCall (T : Tx w K mg A B) (hP : SupP P lawFile) : ErrC P w K mg base A.UnknownCall ["self", "name"] (spI1 K A.UnknownCall "name") :=
  errC1 (st := s_UnknownCall___init__) T.xe_UnknownCall hP rfl rfl (NdefX.nscope_by (by decide +kernel)) (by rfl) rfl (fun _ _ _ _ _ us hl => match us, hl with | [_, _], _ => rfl)
theorem ok0_law_fill (T : Tx w K mg A B) : FnOk P w K mg base CX0 1 B.f_law_fill B.d_law_fill ["_law_state"] (sp_law_fill A K) := by
  refine T.F_law_fill.ok sc_law_fill (fun vs H Q E h => ?_) (fun cdv AA outer s H vs Q E hr h => ⟨t_law_fill A K, ?_, r_law_fill h⟩)
  · (repeat obtain ⟨x, h⟩ := h); subst_vars; rfl
  · exact (pss_cons (ps_par (i := 1) (j := 2) (by rfl) sc_law_fill.nd rfl rfl (by decide) rfl rfl (pa_cons (pe_ix ix_list (pv 0) pe_int (fun _ _ => rfl)) (pa_cons (pe_ix ix_list (pv 0) pe_int (fun _ _ => rfl)) pa_nil)) (by rfl))
(pss_cons (ps_set (i := 3) sc_law_fill.nd rfl (.inl rfl) (pe_op op_add (pe_op op_mul pe_int (pv 2)) pe_int))
(pss_cut (ps_if (pt_cmpR op_gt (pe_callB call_len_seq (by rfl) T.n_len PySem.boot_len (pa_cons (pv 1) pa_nil)) pe_int (nomark _))
(pss_one (ps_set (i := 3) sc_law_fill.nd rfl (.inl rfl) (pe_op op_add (pe_op op_mul pe_int (pe_op op_fdiv (pv 2) (pe_callB call_len_seq (by rfl) T.n_len PySem.boot_len (pa_cons (pv 1) pa_nil)))) (pe_ix ix_list (pv 1) (pe_op op_mod (pe_callTy call_int1 (by rfl) T.n_int (by decide +kernel) (pa_cons (pv 2) pa_nil)) (pe_callB call_len_seq (by rfl) T.n_len PySem.boot_len (pa_cons (pv 1) pa_nil))) (fun _ _ => rfl)))))
pss_nil)
(pss_cons (ps_asg (pe_op op_add (pv 2) pe_int) (pg_sub (pv 0) pe_int set_list))
(pss_cut (ps_asg (pe_or (pe_cmpR op_ge (pv 2) (pe_callB call_len_seq (by rfl) T.n_len PySem.boot_len (pa_cons (pv 1) pa_nil)) (nomark _)) (pe_one (pe_cmpR op_lt (pv 3) (pe_op op_pow pe_int pe_int) (nomark _)))) (pg_sub (pv 0) pe_int set_list))
(pss_cons (ps_asg (pe_op op_sub (pv 3) (pe_op op_pow pe_int pe_int)) (pg_sub (pv 0) pe_int set_list))
(pss_one (ps_if (pt_val (pe_ix ix_list (pv 0) pe_int (fun _ _ => rfl)))
(pss_cons (ps_asg pe_int (pg_sub (pv 0) pe_int set_list))
(pss_one (ps_for PassesOwn.never rfl (pi_enumT (by rfl) T.n_enumerate (pa_cons (pe_tup (pa_cons pe_int (pa_cons pe_int (pa_cons pe_int (pa_cons pe_int (pa_cons pe_int pa_nil)))))) pa_nil)) (pg_tup rfl (pgs_cons (pg_name (i := 4) sc_law_fill.nd rfl (.inl rfl)) (pgs_cons (pg_name (i := 5) sc_law_fill.nd rfl (.inl rfl)) pgs_nil)))
(pss_cons (ps_set (i := 6) sc_law_fill.nd rfl (.inl rfl) (pe_op op_mod (pe_callTy call_int1 (by rfl) T.n_int (by decide +kernel) (pa_cons (pe_op op_mul (pe_op op_add (pe_op op_add (pv 3) (pe_op op_mul (pe_op op_mul pe_int (pv 4)) (pv 4))) (pe_op op_mul pe_int (pv 4))) (pe_op op_add pe_int (pe_op op_mul pe_int (pv 4)))) pa_nil)) (pv 5)))
(pss_one (ps_asg (pe_op op_add (pe_op op_mul (pe_ix ix_list (pv 0) pe_int (fun _ _ => rfl)) (pv 5)) (pe_op op_mod (pe_callTy call_int1 (by rfl) T.n_int (by decide +kernel) (pa_cons (pe_op op_pow (pv 6) pe_int) pa_nil)) (pv 5))) (pg_sub (pv 0) pe_int set_list)))))))
pss_nil))))))))
theorem ok0_law_take (T : Tx w K mg A B) : FnOk P w K mg base CX0 2 B.f_law_take B.d_law_take ["_law_state", "_law_many"] (sp_law_take A K) := by
  have G_law_fill := ok0_law_fill (P := P) (base := base) T
  refine T.F_law_take.ok sc_law_take (fun vs H Q E h => ?_) (fun cdv AA outer s H vs Q E hr h => ⟨t_law_take A K, ?_, r_law_take h⟩)
  · (repeat obtain ⟨x, h⟩ := h); subst_vars; rfl
  · exact (pss_cons (ps_set (i := 2) sc_law_take.nd rfl (.inl rfl) pe_int)
(pss_cons (ps_while PassesOwn.never (PW.pt (pw_and (pt_cmpR op_lt (pv 2) pe_int (nomark _)) (pw_and1 (PW.pt (pw_or (pt_cmpR op_eq (pe_ix ix_list (pv 0) pe_int (fun _ _ => rfl)) pe_int (nomark _)) (pw_or1 (PW.pt (pw_and (pt_val (pe_ix ix_list (pv 0) pe_int (fun _ _ => rfl))) (pw_and1 (pt_cmpR op_lt (pe_ix ix_list (pv 0) pe_int (fun _ _ => rfl)) (pe_op op_mul (pv 1) pe_int) (nomark _)))))))))))
(pss_cons (ps_expr (pe_call G_law_fill (hr.mono (by decide)) (by rfl) T.m_law_fill T.F_law_fill.kp T.b_law_fill .nil pass0 (pa_cons (pv 0) pa_nil)))
(pss_cons (ps_aug (i := 2) sc_law_take.nd rfl (.inl rfl) pe_int ip_add)
(pss_one (ps_if (PW.pt (pw_and (pt_val (pe_ix ix_list (pv 0) pe_int (fun _ _ => rfl))) (pw_and1 (pt_cmpR op_lt (pe_ix ix_list (pv 0) pe_int (fun _ _ => rfl)) (pe_op op_mul (pv 1) pe_int) (nomark _)))))
(pss_one (ps_asg (pe_op op_add (pe_ix ix_list (pv 0) pe_int (fun _ _ => rfl)) (pe_op op_mul (pe_op op_mul (pv 1) pe_int) (pe_op op_add pe_int (pe_op op_mod (pe_callTy call_int1 (by rfl) T.n_int (by decide +kernel) (pa_cons (pe_ix ix_list (pv 0) pe_int (fun _ _ => rfl)) pa_nil)) pe_int)))) (pg_sub (pv 0) pe_int set_list)))
pss_nil)))))
(pss_cons (ps_set (i := 3) sc_law_take.nd rfl (.inl rfl) (pe_op op_mod (pe_callTy call_int1 (by rfl) T.n_int (by decide +kernel) (pa_cons (pe_ix ix_list (pv 0) pe_int (fun _ _ => rfl)) pa_nil)) (pv 1)))
(pss_cons (ps_asg (pe_op op_fdiv (pe_ix ix_list (pv 0) pe_int (fun _ _ => rfl)) (pv 1)) (pg_sub (pv 0) pe_int set_list))
(pss_one (ps_ret (pv 3)))))))
theorem ok_law_take (T : Tx w K mg A B) : FnOk P w K mg base CX0 2 B.f_law_take B.d_law_take ["_law_state", "_law_many"] (spP K (m_law_take A K)) := by
  unfold m_law_take
  exact (ok0_law_take T).imp fun _ _ _ _ h => take_of h
theorem ok0_law_fresh (T : Tx w K mg A B) : FnOk P w K mg base CX0 1 B.f_law_fresh B.d_law_fresh ["_law_script"] (sp_law_fresh A K) := by
  refine T.F_law_fresh.ok sc_law_fresh (fun vs H Q E h => ?_) (fun cdv AA outer s H vs Q E hr h => ⟨t_law_fresh A K, ?_, r_law_fresh h⟩)
  · (repeat obtain ⟨x, h⟩ := h); subst_vars; rfl
  · exact (pss_one (ps_ret (pe_lst (pa_cons (pe_slice sl_list (pv 0) po_none (po_some pe_int)) (pa_cons pe_int (pa_cons pe_int (pa_cons pe_bl pa_nil)))))))
theorem ok_law_fresh (T : Tx w K mg A B) : FnOk P w K mg base CX0 1 B.f_law_fresh B.d_law_fresh ["_law_script"] (sp_law_fresh A K) := ok0_law_fresh T
theorem ok_law_other_error (T : Tx w K mg A B) : FnE P w K mg base 1 B.f_law_other_error B.d_law_other_error ["_law_e"] (spErr A OutB) := by
  refine fnE_of T.F_law_other_error sc_law_other_error (fun a cls d vs H Q E h => by rw [h.1]; rfl) (fun cdv AA outer s H vs Q p cls d hz hf hr h => ?_)
  obtain ⟨rfl, D, rfl, hD, ho⟩ := h
  have hx : HasEx (L2H.cxH CX0 P w K mg base N_law_other_error "_law_other_error" (defScope s_law_other_error) B.f_law_other_error cdv AA outer s H E0 p) p.1 (.ref D) d := ⟨p.2, by simp [L2H.cxH], hz, hf⟩
  have C := T.xk.exc D hD
  refine ⟨_, (pss_cons (ps_if (pt_val (pe_callB (call_isX C hx) (by rfl) T.n_isinstance (by decide +kernel) (pa_cons (pv 0) (pa_cons (pe_glob (v := .ref A.BadWord) (by rfl) T.g_BadWord rfl) pa_nil)))) (pss_one (ps_ret (pe_tup (pa_cons pe_str (pa_cons (pe_xfX (T.xk.xf A.BadWord (by simp [errCls])) T.na_BadWord_word hx (pv 0)) pa_nil))))) pss_nil)
(pss_cons (ps_if (pt_val (pe_callB (call_isX C hx) (by rfl) T.n_isinstance (by decide +kernel) (pa_cons (pv 0) (pa_cons (pe_glob (v := .ref A.BadWish) (by rfl) T.g_BadWish rfl) pa_nil)))) (pss_one (ps_ret (pe_tup (pa_cons pe_str (pa_cons (pe_xfX (T.xk.xf A.BadWish (by simp [errCls])) T.na_BadWish_wish hx (pv 0)) pa_nil))))) pss_nil)
(pss_cons (ps_if (pt_val (pe_callB (call_isX C hx) (by rfl) T.n_isinstance (by decide +kernel) (pa_cons (pv 0) (pa_cons (pe_glob (v := .ref A.BadRun) (by rfl) T.g_BadRun rfl) pa_nil)))) (pss_one (ps_ret (pe_tup (pa_cons pe_str (pa_cons (pe_xfX (T.xk.xf A.BadRun (by simp [errCls])) T.na_BadRun_thing hx (pv 0)) pa_nil))))) pss_nil)
(pss_cons (ps_if (pt_val (pe_callB (call_isX C hx) (by rfl) T.n_isinstance (by decide +kernel) (pa_cons (pv 0) (pa_cons (pe_glob (v := .ref A.BadCallers) (by rfl) T.g_BadCallers rfl) pa_nil)))) (pss_one (ps_ret (pe_tup (pa_cons pe_str (pa_cons (pe_xfX (T.xk.xf A.BadCallers (by simp [errCls])) T.na_BadCallers_callers hx (pv 0)) pa_nil))))) pss_nil)
(pss_cons (ps_if (pt_val (pe_callB (call_isX C hx) (by rfl) T.n_isinstance (by decide +kernel) (pa_cons (pv 0) (pa_cons (pe_glob (v := .ref A.BadKind) (by rfl) T.g_BadKind rfl) pa_nil)))) (pss_one (ps_ret (pe_tup (pa_cons pe_str (pa_cons (pe_xfX (T.xk.xf A.BadKind (by simp [errCls])) T.na_BadKind_kind hx (pv 0)) pa_nil))))) pss_nil)
(pss_cons (ps_if (pt_val (pe_callB (call_isX C hx) (by rfl) T.n_isinstance (by decide +kernel) (pa_cons (pv 0) (pa_cons (pe_glob (v := .ref A.BadRule) (by rfl) T.g_BadRule rfl) pa_nil)))) (pss_one (ps_ret (pe_tup (pa_cons pe_str (pa_cons (pe_xfX (T.xk.xf A.BadRule (by simp [errCls])) T.na_BadRule_index hx (pv 0)) pa_nil))))) pss_nil)
(pss_cons (ps_if (pt_val (pe_callB (call_isX C hx) (by rfl) T.n_isinstance (by decide +kernel) (pa_cons (pv 0) (pa_cons (pe_glob (v := .ref A.Refused) (by rfl) T.g_Refused rfl) pa_nil)))) (pss_one (ps_ret (pe_tup (pa_cons pe_str (pa_cons pe_non pa_nil))))) pss_nil)
(pss_one (ps_ret (pe_ifExp (pt_val (pe_callB (call_isX C hx) (by rfl) T.n_isinstance (by decide +kernel) (pa_cons (pv 0) (pa_cons (pe_glob (v := .ref A.BadThing) (by rfl) T.g_BadThing rfl) pa_nil)))) (pe_tup (pa_cons pe_str (pa_cons pe_non pa_nil))) (pe_tup (pa_cons pe_str (pa_cons pe_non pa_nil))))))))))))), ?_⟩
  rcases ho with ⟨w, f, hm, ho⟩ | ⟨w, hm, ho⟩
  · simp only [err1b, List.mem_cons, List.not_mem_nil, or_false, Prod.mk.injEq] at hm
    rcases hm with ⟨rfl, rfl, rfl⟩ | ⟨rfl, rfl, rfl⟩ | ⟨rfl, rfl, rfl⟩ | ⟨rfl, rfl, rfl⟩ | ⟨rfl, rfl, rfl⟩ | ⟨rfl, rfl, rfl⟩
    · exact chk_yes rfl (T.xk.yes (i := 7) rfl) ho.dd (one_tup rfl ho)
    · refine chk_no rfl (T.xk.no (i := 8) (j := 7) rfl rfl (by decide)) ho.dd ?_
      exact chk_yes rfl (T.xk.yes (i := 8) rfl) ho.dd (one_tup rfl ho)
    · refine chk_no rfl (T.xk.no (i := 9) (j := 7) rfl rfl (by decide)) ho.dd ?_
      refine chk_no rfl (T.xk.no (i := 9) (j := 8) rfl rfl (by decide)) ho.dd ?_
      exact chk_yes rfl (T.xk.yes (i := 9) rfl) ho.dd (one_tup rfl ho)
    · refine chk_no rfl (T.xk.no (i := 10) (j := 7) rfl rfl (by decide)) ho.dd ?_
      refine chk_no rfl (T.xk.no (i := 10) (j := 8) rfl rfl (by decide)) ho.dd ?_
      refine chk_no rfl (T.xk.no (i := 10) (j := 9) rfl rfl (by decide)) ho.dd ?_
      exact chk_yes rfl (T.xk.yes (i := 10) rfl) ho.dd (one_tup rfl ho)
    · refine chk_no rfl (T.xk.no (i := 11) (j := 7) rfl rfl (by decide)) ho.dd ?_
      refine chk_no rfl (T.xk.no (i := 11) (j := 8) rfl rfl (by decide)) ho.dd ?_
      refine chk_no rfl (T.xk.no (i := 11) (j := 9) rfl rfl (by decide)) ho.dd ?_
      refine chk_no rfl (T.xk.no (i := 11) (j := 10) rfl rfl (by decide)) ho.dd ?_
      exact chk_yes rfl (T.xk.yes (i := 11) rfl) ho.dd (one_tup rfl ho)
    · refine chk_no rfl (T.xk.no (i := 12) (j := 7) rfl rfl (by decide)) ho.dd ?_
      refine chk_no rfl (T.xk.no (i := 12) (j := 8) rfl rfl (by decide)) ho.dd ?_
      refine chk_no rfl (T.xk.no (i := 12) (j := 9) rfl rfl (by decide)) ho.dd ?_
      refine chk_no rfl (T.xk.no (i := 12) (j := 10) rfl rfl (by decide)) ho.dd ?_
      refine chk_no rfl (T.xk.no (i := 12) (j := 11) rfl rfl (by decide)) ho.dd ?_
      exact chk_yes rfl (T.xk.yes (i := 12) rfl) ho.dd (one_tup rfl ho)
  · simp only [err0, List.mem_cons, List.not_mem_nil, or_false, Prod.mk.injEq] at hm
    rcases hm with ⟨rfl, rfl⟩ | ⟨rfl, rfl⟩
    · refine chk_no rfl (T.xk.no (i := 13) (j := 7) rfl rfl (by decide)) ho.1 ?_
      refine chk_no rfl (T.xk.no (i := 13) (j := 8) rfl rfl (by decide)) ho.1 ?_
      refine chk_no rfl (T.xk.no (i := 13) (j := 9) rfl rfl (by decide)) ho.1 ?_
      refine chk_no rfl (T.xk.no (i := 13) (j := 10) rfl rfl (by decide)) ho.1 ?_
      refine chk_no rfl (T.xk.no (i := 13) (j := 11) rfl rfl (by decide)) ho.1 ?_
      refine chk_no rfl (T.xk.no (i := 13) (j := 12) rfl rfl (by decide)) ho.1 ?_
      exact chk_yes rfl (T.xk.yes (i := 13) rfl) ho.1 (no_tup ho)
    · refine chk_no rfl (T.xk.no (i := 14) (j := 7) rfl rfl (by decide)) ho.1 ?_
      refine chk_no rfl (T.xk.no (i := 14) (j := 8) rfl rfl (by decide)) ho.1 ?_
      refine chk_no rfl (T.xk.no (i := 14) (j := 9) rfl rfl (by decide)) ho.1 ?_
      refine chk_no rfl (T.xk.no (i := 14) (j := 10) rfl rfl (by decide)) ho.1 ?_
      refine chk_no rfl (T.xk.no (i := 14) (j := 11) rfl rfl (by decide)) ho.1 ?_
      refine chk_no rfl (T.xk.no (i := 14) (j := 12) rfl rfl (by decide)) ho.1 ?_
      refine chk_no rfl (T.xk.no (i := 14) (j := 13) rfl rfl (by decide)) ho.1 ?_
      exact isC rfl (T.xk.yes (i := 14) rfl) ho.1 (no_tup ho)
theorem ok_law_error (T : Tx w K mg A B) : FnE P w K mg base 2 B.f_law_error B.d_law_error ["_law_e"] (spErr A OutA) := by
  have G_law_other_error := ok_law_other_error (P := P) (base := base) T
  refine fnE_of T.F_law_error sc_law_error (fun a cls d vs H Q E h => by rw [h.1]; rfl) (fun cdv AA outer s H vs Q p cls d hz hf hr h => ?_)
  obtain ⟨rfl, D, rfl, hD, ho⟩ := h
  have hx : HasEx (L2H.cxH CX0 P w K mg base N_law_error "_law_error" (defScope s_law_error) B.f_law_error cdv AA outer s H E0 p) p.1 (.ref D) d := ⟨p.2, by simp [L2H.cxH], hz, hf⟩
  have C := T.xk.exc D hD
  refine ⟨_, (pss_cons (ps_if (pt_val (pe_callB (call_isX C hx) (by rfl) T.n_isinstance (by decide +kernel) (pa_cons (pv 0) (pa_cons (pe_glob (v := .ref A.BadField) (by rfl) T.g_BadField rfl) pa_nil)))) (pss_one (ps_ret (pe_tup (pa_cons pe_str (pa_cons (pe_xfX (T.xk.xf A.BadField (by simp [errCls])) T.na_BadField_index hx (pv 0)) pa_nil))))) pss_nil)
(pss_cons (ps_if (pt_val (pe_callB (call_isX C hx) (by rfl) T.n_isinstance (by decide +kernel) (pa_cons (pv 0) (pa_cons (pe_glob (v := .ref A.BadModes) (by rfl) T.g_BadModes rfl) pa_nil)))) (pss_one (ps_ret (pe_tup (pa_cons pe_str (pa_cons (pe_xfX (T.xk.xf A.BadModes (by simp [errCls])) T.na_BadModes_modes hx (pv 0)) pa_nil))))) pss_nil)
(pss_cons (ps_if (pt_val (pe_callB (call_isX C hx) (by rfl) T.n_isinstance (by decide +kernel) (pa_cons (pv 0) (pa_cons (pe_glob (v := .ref A.BadCall) (by rfl) T.g_BadCall rfl) pa_nil)))) (pss_one (ps_ret (pe_tup (pa_cons pe_str (pa_cons (pe_tup (pa_cons (pe_xfX (T.xk.xf A.BadCall (by simp [errCls])) T.na_BadCall_index hx (pv 0)) (pa_cons (pe_xfX (T.xk.xf A.BadCall (by simp [errCls])) T.na_BadCall_reason hx (pv 0)) pa_nil))) pa_nil))))) pss_nil)
(pss_cons (ps_if (pt_val (pe_callB (call_isX C hx) (by rfl) T.n_isinstance (by decide +kernel) (pa_cons (pv 0) (pa_cons (pe_glob (v := .ref A.UnknownCall) (by rfl) T.g_UnknownCall rfl) pa_nil)))) (pss_one (ps_ret (pe_tup (pa_cons pe_str (pa_cons (pe_xfX (T.xk.xf A.UnknownCall (by simp [errCls])) T.na_UnknownCall_name hx (pv 0)) pa_nil))))) pss_nil)
(pss_cons (ps_if (pt_val (pe_callB (call_isX C hx) (by rfl) T.n_isinstance (by decide +kernel) (pa_cons (pv 0) (pa_cons (pe_glob (v := .ref A.BadPlace) (by rfl) T.g_BadPlace rfl) pa_nil)))) (pss_one (ps_ret (pe_tup (pa_cons pe_str (pa_cons (pe_xfX (T.xk.xf A.BadPlace (by simp [errCls])) T.na_BadPlace_place hx (pv 0)) pa_nil))))) pss_nil)
(pss_cons (ps_if (pt_val (pe_callB (call_isX C hx) (by rfl) T.n_isinstance (by decide +kernel) (pa_cons (pv 0) (pa_cons (pe_glob (v := .ref A.BadText) (by rfl) T.g_BadText rfl) pa_nil)))) (pss_one (ps_ret (pe_tup (pa_cons pe_str (pa_cons (pe_xfX (T.xk.xf A.BadText (by simp [errCls])) T.na_BadText_line hx (pv 0)) pa_nil))))) pss_nil)
(pss_cons (ps_if (pt_val (pe_callB (call_isX C hx) (by rfl) T.n_isinstance (by decide +kernel) (pa_cons (pv 0) (pa_cons (pe_glob (v := .ref A.BadRow) (by rfl) T.g_BadRow rfl) pa_nil)))) (pss_one (ps_ret (pe_tup (pa_cons pe_str (pa_cons (pe_xfX (T.xk.xf A.BadRow (by simp [errCls])) T.na_BadRow_index hx (pv 0)) pa_nil))))) pss_nil)
(pss_one (ps_ret (pe_callE G_law_other_error (hr.mono (by decide)) hx (by rfl) T.m_law_other_error T.F_law_other_error.kp T.b_law_other_error (pa_cons (pv 0) pa_nil))))))))))), ?_⟩
  rcases ho with ⟨w, f, hm, ho⟩ | ⟨rfl, ho⟩ | ho
  · simp only [err1a, List.mem_cons, List.not_mem_nil, or_false, Prod.mk.injEq] at hm
    rcases hm with ⟨rfl, rfl, rfl⟩ | ⟨rfl, rfl, rfl⟩ | ⟨rfl, rfl, rfl⟩ | ⟨rfl, rfl, rfl⟩ | ⟨rfl, rfl, rfl⟩ | ⟨rfl, rfl, rfl⟩
    · exact chk_yes rfl (T.xk.yes (i := 0) rfl) ho.dd (one_tup rfl ho)
    · refine chk_no rfl (T.xk.no (i := 1) (j := 0) rfl rfl (by decide)) ho.dd ?_
      exact chk_yes rfl (T.xk.yes (i := 1) rfl) ho.dd (one_tup rfl ho)
    · refine chk_no rfl (T.xk.no (i := 3) (j := 0) rfl rfl (by decide)) ho.dd ?_
      refine chk_no rfl (T.xk.no (i := 3) (j := 1) rfl rfl (by decide)) ho.dd ?_
      refine chk_no rfl (T.xk.no (i := 3) (j := 2) rfl rfl (by decide)) ho.dd ?_
      exact chk_yes rfl (T.xk.yes (i := 3) rfl) ho.dd (one_tup rfl ho)
    · refine chk_no rfl (T.xk.no (i := 4) (j := 0) rfl rfl (by decide)) ho.dd ?_
      refine chk_no rfl (T.xk.no (i := 4) (j := 1) rfl rfl (by decide)) ho.dd ?_
      refine chk_no rfl (T.xk.no (i := 4) (j := 2) rfl rfl (by decide)) ho.dd ?_
      refine chk_no rfl (T.xk.no (i := 4) (j := 3) rfl rfl (by decide)) ho.dd ?_
      exact chk_yes rfl (T.xk.yes (i := 4) rfl) ho.dd (one_tup rfl ho)
    · refine chk_no rfl (T.xk.no (i := 5) (j := 0) rfl rfl (by decide)) ho.dd ?_
      refine chk_no rfl (T.xk.no (i := 5) (j := 1) rfl rfl (by decide)) ho.dd ?_
      refine chk_no rfl (T.xk.no (i := 5) (j := 2) rfl rfl (by decide)) ho.dd ?_
      refine chk_no rfl (T.xk.no (i := 5) (j := 3) rfl rfl (by decide)) ho.dd ?_
      refine chk_no rfl (T.xk.no (i := 5) (j := 4) rfl rfl (by decide)) ho.dd ?_
      exact chk_yes rfl (T.xk.yes (i := 5) rfl) ho.dd (one_tup rfl ho)
    · refine chk_no rfl (T.xk.no (i := 6) (j := 0) rfl rfl (by decide)) ho.dd ?_
      refine chk_no rfl (T.xk.no (i := 6) (j := 1) rfl rfl (by decide)) ho.dd ?_
      refine chk_no rfl (T.xk.no (i := 6) (j := 2) rfl rfl (by decide)) ho.dd ?_
      refine chk_no rfl (T.xk.no (i := 6) (j := 3) rfl rfl (by decide)) ho.dd ?_
      refine chk_no rfl (T.xk.no (i := 6) (j := 4) rfl rfl (by decide)) ho.dd ?_
      refine chk_no rfl (T.xk.no (i := 6) (j := 5) rfl rfl (by decide)) ho.dd ?_
      exact chk_yes rfl (T.xk.yes (i := 6) rfl) ho.dd (one_tup rfl ho)
  · refine chk_no rfl (T.xk.no (i := 2) (j := 0) rfl rfl (by decide)) ho.dd ?_
    refine chk_no rfl (T.xk.no (i := 2) (j := 1) rfl rfl (by decide)) ho.dd ?_
    exact chk_yes rfl (T.xk.yes (i := 2) rfl) ho.dd (two_tup rfl ho)
  · obtain ⟨i, hi, hiD⟩ := ho.ix
    refine chk_no rfl (T.xk.no (i := i) (j := 0) hiD rfl (by omega)) ho.dd ?_
    refine chk_no rfl (T.xk.no (i := i) (j := 1) hiD rfl (by omega)) ho.dd ?_
    refine chk_no rfl (T.xk.no (i := i) (j := 2) hiD rfl (by omega)) ho.dd ?_
    refine chk_no rfl (T.xk.no (i := i) (j := 3) hiD rfl (by omega)) ho.dd ?_
    refine chk_no rfl (T.xk.no (i := i) (j := 4) hiD rfl (by omega)) ho.dd ?_
    refine chk_no rfl (T.xk.no (i := i) (j := 5) hiD rfl (by omega)) ho.dd ?_
    refine chk_no rfl (T.xk.no (i := i) (j := 6) hiD rfl (by omega)) ho.dd ?_
    exact ⟨.ref p.1, rfl, rfl, D, rfl, hD, ho⟩
theorem ok_law_one (T : Tx w K mg A B) : FnOk P w K mg base CX0 3 B.f_law_one B.d_law_one ["_law_state", "_law_things"] (spP K (m_law_one A K)) := by
  have G_law_take := ok_law_take (P := P) (base := base) T
  unfold m_law_one
  refine T.F_law_one.ok sc_law_one (fun vs H Q E h => pure_len0 h) (fun cdv AA outer s H vs Q E hr h => ?_)
  exact ⟨_, (pss_one (ps_ret (pe_ix (ix_seqK K) (pv 1) (pe_call G_law_take (hr.mono (by decide)) (by rfl) T.m_law_take T.F_law_take.kp T.b_law_take .nil pass0 (pa_cons (pv 0) (pa_cons (pe_callB (call_lenAnyK K) (by rfl) T.n_len PySem.boot_len (pa_cons (pv 1) pa_nil)) pa_nil))) (fun _ _ => rfl)))), pure_ok0 (N := N_law_one) (fun st => (ss_ret (se_op so_ix (se_var 1) (se_call (sc_P0 ne_law_take) (sa_cons (se_var 0) (sa_cons (se_cb so_len (sa_cons (se_var 1) sa_nil)) sa_nil)))))) h⟩
theorem ok_law_mix (T : Tx w K mg A B) : FnOk P w K mg base CX0 3 B.f_law_mix B.d_law_mix ["_law_state", "_law_things"] (spP K (m_law_mix A K)) := by
  have G_law_take := ok_law_take (P := P) (base := base) T
  unfold m_law_mix
  refine T.F_law_mix.ok sc_law_mix (fun vs H Q E h => pure_len0 h) (fun cdv AA outer s H vs Q E hr h => ?_)
  exact ⟨_, (pss_cons (ps_par (i := 2) (j := 3) (by rfl) sc_law_mix.nd rfl rfl (by decide) rfl rfl (pa_cons (pe_callTy (call_list_ofK K) (by rfl) T.n_list (by decide +kernel) (pa_cons (pv 1) pa_nil)) (pa_cons (pe_lst pa_nil) pa_nil)) (by rfl))
(pss_cons (ps_while PassesOwn.never (pt_cmpR (op_neDK K hr.units) (pv 2) (pe_lst pa_nil) (nomark _))
(pss_one (ps_expr (pe_bm PySem.F.plainAttrs_list PySem.F.slot_list_append PySem.F.type_list_append mt_append (pv 3) (pa_cons (pe_bm PySem.F.plainAttrs_list PySem.F.slot_list_pop PySem.F.type_list_pop mt_popAt (pv 2) (pa_cons (pe_call G_law_take (hr.mono (by decide)) (by rfl) T.m_law_take T.F_law_take.kp T.b_law_take .nil pass0 (pa_cons (pv 0) (pa_cons (pe_callB (call_lenAnyK K) (by rfl) T.n_len PySem.boot_len (pa_cons (pv 2) pa_nil)) pa_nil))) pa_nil)) pa_nil)))))
(pss_one (ps_ret (pv 3))))), pure_ok0 (N := N_law_mix) (fun st => (ss_seq (ss_par (sa_cons (se_cb so_list (sa_cons (se_var 1) sa_nil)) (sa_cons (se_lst sa_nil) sa_nil)))
(ss_seq (ss_while (st_test (se_op so_neD (se_var 2) (se_lst sa_nil)))
(ss_drop (se_bm sm_append (se_var 3) (sa_cons (se_bm sm_popAt (se_var 2) (sa_cons (se_call (sc_P0 ne_law_take) (sa_cons (se_var 0) (sa_cons (se_cb so_len (sa_cons (se_var 2) sa_nil)) sa_nil))) sa_nil)) sa_nil))))
(ss_ret (se_var 3))))) h⟩
theorem ok_is_integer (T : Tx w K mg A B) : FnOk P w K mg base CX0 1 B.f_is_integer B.d_is_integer ["thing"] (spP K (m_is_integer A K)) := by
  unfold m_is_integer
  refine T.F_is_integer.ok sc_is_integer (fun vs H Q E h => pure_len0 h) (fun cdv AA outer s H vs Q E hr h => ?_)
  exact ⟨_, (pss_one (ps_ret (pe_and (pe_callB (call_isiKK K) (by rfl) T.n_isinstance (by decide +kernel) (pa_cons (pv 0) (pa_cons (pe_bltn (v := .ty "int") (u := .type "int") (by rfl) T.n_int (by decide +kernel) rfl) pa_nil))) (pe_one (pe_not (pe_callB (call_isiKK K) (by rfl) T.n_isinstance (by decide +kernel) (pa_cons (pv 0) (pa_cons (pe_bltn (v := .ty "bool") (u := .type "bool") (by rfl) T.n_bool (by decide +kernel) rfl) pa_nil)))))))), pure_ok0 (N := N_is_integer) (fun st => (ss_ret (se_andV (se_cb so_isi (sa_cons (se_var 0) (sa_cons se_ty sa_nil))) (se_notV (se_cb so_isi (sa_cons (se_var 0) (sa_cons se_ty sa_nil))))))) h⟩
theorem ok_is_between (T : Tx w K mg A B) : FnOk P w K mg base CX0 2 B.f_is_between B.d_is_between ["thing", "least", "greatest"] (spP K (m_is_between A K)) := by
  have G_is_integer := ok_is_integer (P := P) (base := base) T
  unfold m_is_between
  refine T.F_is_between.ok sc_is_between (fun vs H Q E h => pure_len0 h) (fun cdv AA outer s H vs Q E hr h => ?_)
  exact ⟨_, (pss_one (ps_ret (pe_and (pe_call G_is_integer (hr.mono (by decide)) (by rfl) T.m_is_integer T.F_is_integer.kp T.b_is_integer .nil pass0 (pa_cons (pv 0) pa_nil)) (pe_one (pe_chain op_le op_le (pv 1) (pv 0) (pv 2)))))), pure_ok0 (N := N_is_between) (fun st => (ss_ret (se_andV (se_call (sc_P0 ne_is_integer) (sa_cons (se_var 0) sa_nil)) (se_chain so_le so_le (se_var 1) (se_var 0) (se_var 2))))) h⟩
theorem ok_is_list (T : Tx w K mg A B) : FnOk P w K mg base CX0 1 B.f_is_list B.d_is_list ["thing"] (spP K (m_is_list A K)) := by
  unfold m_is_list
  refine T.F_is_list.ok sc_is_list (fun vs H Q E h => pure_len0 h) (fun cdv AA outer s H vs Q E hr h => ?_)
  exact ⟨_, (pss_one (ps_ret (pe_callB (call_isiTK K) (by rfl) T.n_isinstance (by decide +kernel) (pa_cons (pv 0) (pa_cons (pe_tup (pa_cons (pe_bltn (v := .ty "list") (u := .type "list") (by rfl) T.n_list (by decide +kernel) rfl) (pa_cons (pe_bltn (v := .ty "tuple") (u := .type "tuple") (by rfl) T.n_tuple (by decide +kernel) rfl) pa_nil))) pa_nil))))), pure_ok0 (N := N_is_list) (fun st => (ss_ret (se_isT (se_var 0) (sa_cons se_ty (sa_cons se_ty sa_nil))))) h⟩
theorem ok_is_row (T : Tx w K mg A B) : FnOk P w K mg base CX0 2 B.f_is_row B.d_is_row ["thing", "many"] (spP K (m_is_row A K)) := by
  have G_is_list := ok_is_list (P := P) (base := base) T
  unfold m_is_row
  refine T.F_is_row.ok sc_is_row (fun vs H Q E h => pure_len0 h) (fun cdv AA outer s H vs Q E hr h => ?_)
  exact ⟨_, (pss_one (ps_ret (pe_and (pe_call G_is_list (hr.mono (by decide)) (by rfl) T.m_is_list T.F_is_list.kp T.b_is_list .nil pass0 (pa_cons (pv 0) pa_nil)) (pe_one (pe_cmpR op_eq (pe_callB (call_lenAnyK K) (by rfl) T.n_len PySem.boot_len (pa_cons (pv 0) pa_nil)) (pv 1) (nomark _)))))), pure_ok0 (N := N_is_row) (fun st => (ss_ret (se_andV (se_call (sc_P0 ne_is_list) (sa_cons (se_var 0) sa_nil)) (se_op so_eq (se_cb so_len (sa_cons (se_var 0) sa_nil)) (se_var 1))))) h⟩
theorem ok_is_word (T : Tx w K mg A B) : FnOk P w K mg base CX0 1 B.f_is_word B.d_is_word ["thing"] (spP K (m_is_word A K)) := by
  unfold m_is_word
  refine T.F_is_word.ok sc_is_word (fun vs H Q E h => pure_len0 h) (fun cdv AA outer s H vs Q E hr h => ?_)
  exact ⟨_, (pss_cons (ps_if (PW.pt (pw_or (pt_not (pt_val (pe_callB (call_isiKK K) (by rfl) T.n_isinstance (by decide +kernel) (pa_cons (pv 0) (pa_cons (pe_bltn (v := .ty "str") (u := .type "str") (by rfl) T.n_str (by decide +kernel) rfl) pa_nil))))) (pw_or1 (pt_not (pt_chain op_le op_le pe_int (pe_callB (call_lenAnyK K) (by rfl) T.n_len PySem.boot_len (pa_cons (pv 0) pa_nil)) (pe_glob (v := .int 8) (by rfl) T.g_LONGEST ⟨_, rfl⟩))))))
(pss_one (ps_ret pe_bl))
pss_nil)
(pss_one (ps_ret (pe_callB (cr_allK K rfl) (by rfl) T.n_all (by decide +kernel) (pa_cons (pe_lc (own := [("letter", 1)]) (g := (gName 1)) (by rfl) sc_is_word.nd (pi_str (pv 0)) (blkOk_by (own := [("letter", 1)]) (N := N_is_word) (sc := defScope s_is_word) (by decide +kernel)) (fun _ _ _ _ _ => (pg_name (i := 1) sc_is_word.nd rfl (.inl rfl))) (fun _ _ _ _ _ => pts_nil) (fun _ _ _ _ _ => (pe_cmpR op_in_sign (pv 1) (pe_glob (v := .str "abcdefghijklmnopqrstuvwxyz") (by rfl) T.g_LETTERS ⟨_, rfl⟩) (by rfl)))) pa_nil))))), pure_ok0 (N := N_is_word) (fun st => (ss_seq (ss_if (st_or (st_not (st_val (se_cb so_isi (sa_cons (se_var 0) (sa_cons se_ty sa_nil))))) (st_not (st_test (se_chain so_le so_le se_int (se_cb so_len (sa_cons (se_var 0) sa_nil)) se_int))))
(ss_ret se_bl)
ss_next)
(ss_ret (se_cb so_all (sa_cons (se_lc (si_str (se_var 0)) (sw_name (vs := [1]) 1 (by decide)) st_yes (se_op so_inS (se_var 1) se_str)) sa_nil))))) h⟩
theorem ok_are_unlike (T : Tx w K mg A B) : FnOk P w K mg base CX0 1 B.f_are_unlike B.d_are_unlike ["things"] (spP K (m_are_unlike A K)) := by
  unfold m_are_unlike
  refine T.F_are_unlike.ok sc_are_unlike (fun vs H Q E h => pure_len0 h) (fun cdv AA outer s H vs Q E hr h => ?_)
  exact ⟨_, (pss_one (ps_ret (pe_cmpR op_eq (pe_callB (call_lenAnyK K) (by rfl) T.n_len PySem.boot_len (pa_cons (pe_dc (own := [("thing", 1)]) (g := (gName 1)) (by rfl) sc_are_unlike.nd (pi_sqK K (pv 0)) (blkOk_by (own := [("thing", 1)]) (N := N_are_unlike) (sc := defScope s_are_unlike) (by decide +kernel)) (fun _ _ _ _ _ => (pg_name (i := 1) sc_are_unlike.nd rfl (.inl rfl))) (fun _ _ _ _ _ => pts_nil) (fun _ _ _ _ _ => (pv 1)) (fun _ _ _ _ _ => pe_bl)) pa_nil)) (pe_callB (call_lenAnyK K) (by rfl) T.n_len PySem.boot_len (pa_cons (pv 0) pa_nil)) (nomark _)))), pure_ok0 (N := N_are_unlike) (fun st => (ss_ret (se_op so_eq (se_cb so_len (sa_cons (se_dc (si_sq (se_var 0)) (sw_name (vs := [1]) 1 (by decide)) st_yes (se_var 1) se_bl) sa_nil)) (se_cb so_len (sa_cons (se_var 0) sa_nil))))) h⟩
theorem ok_checked_fields (T : Tx w K mg A B) : FnOk P w K mg base CX0 3 B.f_checked_fields B.d_checked_fields ["fields"] (spP K (m_checked_fields A K)) := by
  have G_is_list := ok_is_list (P := P) (base := base) T
  have G_is_row := ok_is_row (P := P) (base := base) T
  have G_is_word := ok_is_word (P := P) (base := base) T
  unfold m_checked_fields
  refine T.F_checked_fields.ok sc_checked_fields (fun vs H Q E h => pure_len0 h) (fun cdv AA outer s H vs Q E hr h => ?_)
  exact ⟨_, (pss_cons (ps_if (PW.pt (pw_or (pt_not (pt_val (pe_call G_is_list (hr.mono (by decide)) (by rfl) T.m_is_list T.F_is_list.kp T.b_is_list .nil pass0 (pa_cons (pv 0) pa_nil)))) (pw_or1 (pt_cmpR op_eq (pe_callB (call_lenAnyK K) (by rfl) T.n_len PySem.boot_len (pa_cons (pv 0) pa_nil)) pe_int (nomark _)))))
(pss_one ps_never)
pss_nil)
(pss_cons (ps_set (i := 1) sc_checked_fields.nd rfl (.inl rfl) (pe_lst pa_nil))
(pss_cons (ps_for PassesOwn.never rfl (pi_enSq (by rfl) T.n_enumerate (pa_cons (pv 0) pa_nil)) (pg_tup rfl (pgs_cons (pg_name (i := 2) sc_checked_fields.nd rfl (.inl rfl)) (pgs_cons (pg_name (i := 3) sc_checked_fields.nd rfl (.inl rfl)) pgs_nil)))
(pss_cons (ps_set (i := 4) sc_checked_fields.nd rfl (.inl rfl) (pe_and (pe_call G_is_row (hr.mono (by decide)) (by rfl) T.m_is_row T.F_is_row.kp T.b_is_row .nil pass0 (pa_cons (pv 3) (pa_cons pe_int pa_nil))) (pe_and (pe_call G_is_word (hr.mono (by decide)) (by rfl) T.m_is_word T.F_is_word.kp T.b_is_word .nil pass0 (pa_cons (pe_ix (ix_seqK K) (pv 3) pe_int (fun _ _ => rfl)) pa_nil)) (pe_one (pe_callB (call_isiKK K) (by rfl) T.n_isinstance (by decide +kernel) (pa_cons (pe_ix (ix_seqK K) (pv 3) pe_int (fun _ _ => rfl)) (pa_cons (pe_bltn (v := .ty "bool") (u := .type "bool") (by rfl) T.n_bool (by decide +kernel) rfl) pa_nil)))))))
(pss_cons (ps_if (PW.pt (pw_or (pt_cmpR op_eq (pv 2) (pe_glob (v := .int 3) (by rfl) T.g_MOST_FIELDS ⟨_, rfl⟩) (nomark _)) (pw_or (pt_not (pt_val (pv 4))) (pw_or1 (pt_cmpR (op_notIn_seqK K) (pe_ix (ix_seqK K) (pv 3) pe_int (fun _ _ => rfl)) (pe_tup (pa_cons pe_str (pa_cons pe_str pa_nil))) (by rfl))))))
(pss_one ps_never)
pss_nil)
(pss_cons (ps_if (pt_cmpR (op_in_seqK K) (pe_ix (ix_seqK K) (pv 3) pe_int (fun _ _ => rfl)) (pe_lc (own := [("row", 5)]) (g := (gName 5)) (by rfl) sc_checked_fields.nd (pi_sqK K (pv 1)) (blkOk_by (own := [("row", 5)]) (N := N_checked_fields) (sc := defScope s_checked_fields) (by decide +kernel)) (fun _ _ _ _ _ => (pg_name (i := 5) sc_checked_fields.nd rfl (.inl rfl))) (fun _ _ _ _ _ => pts_nil) (fun _ _ _ _ _ => (pe_ix (ix_seqK K) (pv 5) pe_int (fun _ _ => rfl)))) (by rfl))
(pss_one ps_never)
pss_nil)
(pss_one (ps_expr (pe_bm PySem.F.plainAttrs_list PySem.F.slot_list_append PySem.F.type_list_append mt_append (pv 1) (pa_cons (pe_callTy (call_tuple_ofK K) (by rfl) T.n_tuple (by decide +kernel) (pa_cons (pv 3) pa_nil)) pa_nil))))))))
(pss_one (ps_ret (pv 1)))))), pure_ok0 (N := N_checked_fields) (fun st => (ss_seq (ss_if (st_or (st_not (st_val (se_call (sc_P0 ne_is_list) (sa_cons (se_var 0) sa_nil)))) (st_test (se_op so_eq (se_cb so_len (sa_cons (se_var 0) sa_nil)) se_int)))
ss_never
ss_next)
(ss_seq (ss_asg (se_lst sa_nil) (sg_name 1))
(ss_seq (ss_for (si_en (sa_cons (se_var 0) sa_nil)) (sg_tup (sg_cons (sg_name 2) (sg_cons (sg_name 3) sg_nil)))
(ss_seq (ss_asg (se_andV (se_call (sc_P0 ne_is_row) (sa_cons (se_var 3) (sa_cons se_int sa_nil))) (se_andV (se_call (sc_P0 ne_is_word) (sa_cons (se_op so_ix (se_var 3) se_int) sa_nil)) (se_cb so_isi (sa_cons (se_op so_ix (se_var 3) se_int) (sa_cons se_ty sa_nil))))) (sg_name 4))
(ss_seq (ss_if (st_or (st_test (se_op so_eq (se_var 2) se_int)) (st_or (st_not (st_val (se_var 4))) (st_test (se_op so_in (se_op so_ix (se_var 3) se_int) (se_tup (sa_cons se_str (sa_cons se_str sa_nil)))))))
ss_never
ss_next)
(ss_seq (ss_if (st_test (se_op so_in (se_op so_ix (se_var 3) se_int) (se_lc (si_sq (se_var 1)) (sw_name (vs := [5]) 5 (by decide)) st_yes (se_op so_ix (se_var 5) se_int))))
ss_never
ss_next)
(ss_drop (se_bm sm_append (se_var 1) (sa_cons (se_cb so_tuple (sa_cons (se_var 3) sa_nil)) sa_nil)))))))
(ss_ret (se_var 1)))))) h⟩
theorem ok_is_deed (T : Tx w K mg A B) : FnOk P w K mg base CX0 3 B.f_is_deed B.d_is_deed ["thing", "sorts"] (spP K (m_is_deed A K)) := by
  have G_is_row := ok_is_row (P := P) (base := base) T
  unfold m_is_deed
  refine T.F_is_deed.ok sc_is_deed (fun vs H Q E h => pure_len0 h) (fun cdv AA outer s H vs Q E hr h => ?_)
  exact ⟨_, (pss_cons (ps_if (PW.pt (pw_or (pt_not (pt_val (pe_call G_is_row (hr.mono (by decide)) (by rfl) T.m_is_row T.F_is_row.kp T.b_is_row .nil pass0 (pa_cons (pv 0) (pa_cons pe_int pa_nil))))) (pw_or (pt_not (pt_val (pe_callB (call_isiKK K) (by rfl) T.n_isinstance (by decide +kernel) (pa_cons (pe_ix (ix_seqK K) (pv 0) pe_int (fun _ _ => rfl)) (pa_cons (pe_bltn (v := .ty "str") (u := .type "str") (by rfl) T.n_str (by decide +kernel) rfl) pa_nil))))) (pw_or1 (pt_cmp (pc_dnotin (hu_of hr) (pe_ix (ix_seqK K) (pv 0) pe_int (fun _ _ => rfl)) (pv 1)))))))
(pss_one (ps_ret pe_bl))
pss_nil)
(pss_one (ps_ret (pe_and (pe_callB (call_isiKK K) (by rfl) T.n_isinstance (by decide +kernel) (pa_cons (pe_ix (ix_seqK K) (pv 0) pe_int (fun _ _ => rfl)) (pa_cons (pe_bltn (v := .ty "str") (u := .type "str") (by rfl) T.n_str (by decide +kernel) rfl) pa_nil))) (pe_one (pe_cmpR (op_in_seqK K) (pe_ix (ix_seqK K) (pv 0) pe_int (fun _ _ => rfl)) (pe_ix (ix_kd2 T.kd_one T.kd_many) (pe_glob (v := .ref A.DEEDS) (by rfl) T.g_DEEDS rfl) (pe_dget (hu_of hr) (pv 1) (pe_ix (ix_seqK K) (pv 0) pe_int (fun _ _ => rfl)) (fun _ _ => rfl)) (fun _ _ => rfl)) (by rfl))))))), pure_ok0 (N := N_is_deed) (fun st => (ss_seq (ss_if (st_or (st_not (st_val (se_call (sc_P0 ne_is_row) (sa_cons (se_var 0) (sa_cons se_int sa_nil))))) (st_or (st_not (st_val (se_cb so_isi (sa_cons (se_op so_ix (se_var 0) se_int) (sa_cons se_ty sa_nil))))) (st_val (se_dnotin (se_op so_ix (se_var 0) se_int) (se_var 1)))))
(ss_ret se_bl)
ss_next)
(ss_ret (se_andV (se_cb so_isi (sa_cons (se_op so_ix (se_var 0) se_int) (sa_cons se_ty sa_nil))) (se_op so_in (se_op so_ix (se_var 0) se_int) (se_op (so_kd2 (T.w_DEEDS_one st) (T.w_DEEDS_many st)) se_cls (se_dget (se_var 1) (se_op so_ix (se_var 0) se_int)))))))) h⟩
theorem ok_is_same (T : Tx w K mg A B) : FnOk P w K mg base CX0 2 B.f_is_same B.d_is_same ["thing", "hand", "sorts"] (spP K (m_is_same A K)) := by
  have G_are_unlike := ok_are_unlike (P := P) (base := base) T
  unfold m_is_same
  refine T.F_is_same.ok sc_is_same (fun vs H Q E h => pure_len0 h) (fun cdv AA outer s H vs Q E hr h => ?_)
  exact ⟨_, (pss_cons (ps_if (pt_not (pt_val (pe_callB (cr_allK K rfl) (by rfl) T.n_all (by decide +kernel) (pa_cons (pe_lc (own := [("name", 3)]) (g := (gName 3)) (by rfl) sc_is_same.nd (pi_sqK K (pv 0)) (blkOk_by (own := [("name", 3)]) (N := N_is_same) (sc := defScope s_is_same) (by decide +kernel)) (fun _ _ _ _ _ => (pg_name (i := 3) sc_is_same.nd rfl (.inl rfl))) (fun _ _ _ _ _ => pts_nil) (fun _ _ _ _ _ => (pe_and (pe_callB (call_isiKK K) (by rfl) T.n_isinstance (by decide +kernel) (pa_cons (pv 3) (pa_cons (pe_bltn (v := .ty "str") (u := .type "str") (by rfl) T.n_str (by decide +kernel) rfl) pa_nil))) (pe_one (pe_cmpR op_eq (pe_dget1 (hu_of hr) (pv 2) (pv 3) ⟨rfl, rfl, rfl, rfl⟩) pe_str (nomark _)))))) pa_nil))))
(pss_one (ps_ret pe_bl))
pss_nil)
(pss_one (ps_ret (pe_and (pe_call G_are_unlike (hr.mono (by decide)) (by rfl) T.m_are_unlike T.F_are_unlike.kp T.b_are_unlike .nil pass0 (pa_cons (pv 0) pa_nil)) (pe_one (pe_or (pe_cmpR op_ne (pv 1) pe_str (nomark _)) (pe_one (pe_cmpR op_eq (pe_callB (call_lenAnyK K) (by rfl) T.n_len PySem.boot_len (pa_cons (pv 0) pa_nil)) pe_int (nomark _))))))))), pure_ok0 (N := N_is_same) (fun st => (ss_seq (ss_if (st_not (st_val (se_cb so_all (sa_cons (se_lc (si_sq (se_var 0)) (sw_name (vs := [3]) 3 (by decide)) st_yes (se_andV (se_cb so_isi (sa_cons (se_var 3) (sa_cons se_ty sa_nil))) (se_op so_eq (se_dget1 (se_var 2) (se_var 3)) se_str))) sa_nil))))
(ss_ret se_bl)
ss_next)
(ss_ret (se_andV (se_call (sc_P0 ne_are_unlike) (sa_cons (se_var 0) sa_nil)) (se_orV (se_op so_ne (se_var 1) se_str) (se_op so_eq (se_cb so_len (sa_cons (se_var 0) sa_nil)) se_int)))))) h⟩
theorem ok_reason_against (T : Tx w K mg A B) : FnOk P w K mg base CX0 4 B.f_reason_against B.d_reason_against ["thing", "sorts", "modes", "names"] (spP K (m_reason_against A K)) := by
  have G_is_between := ok_is_between (P := P) (base := base) T
  have G_is_list := ok_is_list (P := P) (base := base) T
  have G_is_row := ok_is_row (P := P) (base := base) T
  have G_is_word := ok_is_word (P := P) (base := base) T
  have G_are_unlike := ok_are_unlike (P := P) (base := base) T
  have G_is_deed := ok_is_deed (P := P) (base := base) T
  have G_is_same := ok_is_same (P := P) (base := base) T
  unfold m_reason_against
  refine T.F_reason_against.ok sc_reason_against (fun vs H Q E h => pure_len0 h) (fun cdv AA outer s H vs Q E hr h => ?_)
  exact ⟨_, (pss_cons (ps_if (PW.pt (pw_or (pt_not (pt_val (pe_call G_is_row (hr.mono (by decide)) (by rfl) T.m_is_row T.F_is_row.kp T.b_is_row .nil pass0 (pa_cons (pv 0) (pa_cons pe_int pa_nil))))) (pw_or1 (pt_not (pt_val (pe_callB (cr_allK K rfl) (by rfl) T.n_all (by decide +kernel) (pa_cons (pe_lc (own := [("part", 4)]) (g := (gName 4)) (by rfl) sc_reason_against.nd (pi_sqK K (pe_slice (sl_MAK K) (pv 0) po_none (po_some pe_int))) (blkOk_by (own := [("part", 4)]) (N := N_reason_against) (sc := defScope s_reason_against) (by decide +kernel)) (fun _ _ _ _ _ => (pg_name (i := 4) sc_reason_against.nd rfl (.inl rfl))) (fun _ _ _ _ _ => pts_nil) (fun _ _ _ _ _ => (pe_callB (call_isiKK K) (by rfl) T.n_isinstance (by decide +kernel) (pa_cons (pv 4) (pa_cons (pe_bltn (v := .ty "str") (u := .type "str") (by rfl) T.n_str (by decide +kernel) rfl) pa_nil))))) pa_nil)))))))
(pss_one (ps_ret pe_str))
pss_nil)
(pss_cons (ps_if (pt_not (pt_val (pe_callB (cr_allK K rfl) (by rfl) T.n_all (by decide +kernel) (pa_cons (pe_lc (own := [("part", 4)]) (g := (gName 4)) (by rfl) sc_reason_against.nd (pi_sqK K (pe_slice (sl_MAK K) (pv 0) (po_some pe_int) po_none)) (blkOk_by (own := [("part", 4)]) (N := N_reason_against) (sc := defScope s_reason_against) (by decide +kernel)) (fun _ _ _ _ _ => (pg_name (i := 4) sc_reason_against.nd rfl (.inl rfl))) (fun _ _ _ _ _ => pts_nil) (fun _ _ _ _ _ => (pe_call G_is_list (hr.mono (by decide)) (by rfl) T.m_is_list T.F_is_list.kp T.b_is_list .nil pass0 (pa_cons (pv 4) pa_nil)))) pa_nil))))
(pss_one (ps_ret pe_str))
pss_nil)
(pss_cons (ps_asg (pv 0) (pg_seq rfl (pgs_cons (pg_name (i := 5) sc_reason_against.nd rfl (.inl rfl)) (pgs_cons (pg_name (i := 6) sc_reason_against.nd rfl (.inl rfl)) (pgs_cons (pg_name (i := 7) sc_reason_against.nd rfl (.inl rfl)) (pgs_cons (pg_name (i := 8) sc_reason_against.nd rfl (.inl rfl)) (pgs_cons (pg_name (i := 9) sc_reason_against.nd rfl (.inl rfl)) pgs_nil)))))))
(pss_cons (ps_if (PW.pt (pw_or (pt_not (pt_val (pe_call G_is_word (hr.mono (by decide)) (by rfl) T.m_is_word T.F_is_word.kp T.b_is_word .nil pass0 (pa_cons (pv 5) pa_nil)))) (pw_or1 (pt_cmpR (op_in_seqK K) (pv 5) (pv 3) (by rfl)))))
(pss_one (ps_ret pe_str))
pss_nil)
(pss_cons (ps_if (pt_cmpR (op_notIn_seqK K) (pv 6) (pe_glob (v := .ref A.HANDS) (by rfl) T.g_HANDS rfl) (by rfl))
(pss_one (ps_ret pe_str))
pss_nil)
(pss_cons (ps_if (PW.pt (pw_or (pt_cmpR op_ne (pe_callB (call_lenAnyK K) (by rfl) T.n_len PySem.boot_len (pa_cons (pv 7) pa_nil)) (pv 2) (nomark _)) (pw_or1 (pt_not (pt_val (pe_callB (cr_allK K rfl) (by rfl) T.n_all (by decide +kernel) (pa_cons (pe_lc (own := [("move", 10)]) (g := (gName 10)) (by rfl) sc_reason_against.nd (pi_sqK K (pv 7)) (blkOk_by (own := [("move", 10)]) (N := N_reason_against) (sc := defScope s_reason_against) (by decide +kernel)) (fun _ _ _ _ _ => (pg_name (i := 10) sc_reason_against.nd rfl (.inl rfl))) (fun _ _ _ _ _ => pts_nil) (fun _ _ _ _ _ => (pe_call G_is_between (hr.mono (by decide)) (by rfl) T.m_is_between T.F_is_between.kp T.b_is_between .nil pass0 (pa_cons (pv 10) (pa_cons (pe_un un_neg pe_int) (pa_cons (pe_op op_sub (pv 2) pe_int) pa_nil)))))) pa_nil)))))))
(pss_one (ps_ret pe_str))
pss_nil)
(pss_cons (ps_if (PW.pt (pw_or (pt_cmpR op_gt (pe_callB (call_lenAnyK K) (by rfl) T.n_len PySem.boot_len (pa_cons (pv 8) pa_nil)) (pe_glob (v := .int 4) (by rfl) T.g_MOST_DEEDS ⟨_, rfl⟩) (nomark _)) (pw_or1 (pt_not (pt_val (pe_callB (cr_allK K rfl) (by rfl) T.n_all (by decide +kernel) (pa_cons (pe_lc (own := [("deed", 11)]) (g := (gName 11)) (by rfl) sc_reason_against.nd (pi_sqK K (pv 8)) (blkOk_by (own := [("deed", 11)]) (N := N_reason_against) (sc := defScope s_reason_against) (by decide +kernel)) (fun _ _ _ _ _ => (pg_name (i := 11) sc_reason_against.nd rfl (.inl rfl))) (fun _ _ _ _ _ => pts_nil) (fun _ _ _ _ _ => (pe_call G_is_deed (hr.mono (by decide)) (by rfl) T.m_is_deed T.F_is_deed.kp T.b_is_deed .nil pass0 (pa_cons (pv 11) (pa_cons (pv 1) pa_nil))))) pa_nil)))))))
(pss_one (ps_ret pe_str))
pss_nil)
(pss_cons (ps_if (pt_not (pt_val (pe_call G_are_unlike (hr.mono (by decide)) (by rfl) T.m_are_unlike T.F_are_unlike.kp T.b_are_unlike .nil pass0 (pa_cons (pe_lc (own := [("deed", 11)]) (g := (gName 11)) (by rfl) sc_reason_against.nd (pi_sqK K (pv 8)) (blkOk_by (own := [("deed", 11)]) (N := N_reason_against) (sc := defScope s_reason_against) (by decide +kernel)) (fun _ _ _ _ _ => (pg_name (i := 11) sc_reason_against.nd rfl (.inl rfl))) (fun _ _ _ _ _ => (pts_one (pt_cmpR (op_in_seqK K) (pe_ix (ix_seqK K) (pv 11) pe_int (fun _ _ => rfl)) (pe_tup (pa_cons pe_str (pa_cons pe_str pa_nil))) (by rfl)))) (fun _ _ _ _ _ => (pe_ix (ix_seqK K) (pv 11) pe_int (fun _ _ => rfl)))) pa_nil))))
(pss_one (ps_ret pe_str))
pss_nil)
(pss_one (ps_ret (pe_ifExp (pt_val (pe_call G_is_same (hr.mono (by decide)) (by rfl) T.m_is_same T.F_is_same.kp T.b_is_same .nil pass0 (pa_cons (pv 9) (pa_cons (pv 6) (pa_cons (pv 1) pa_nil))))) pe_non pe_str))))))))))), pure_ok0 (N := N_reason_against) (fun st => (ss_seq (ss_if (st_or (st_not (st_val (se_call (sc_P0 ne_is_row) (sa_cons (se_var 0) (sa_cons se_int sa_nil))))) (st_not (st_val (se_cb so_all (sa_cons (se_lc (si_sq (se_sl ss_M (se_var 0) sp_none (sp_some se_int))) (sw_name (vs := [4]) 4 (by decide)) st_yes (se_cb so_isi (sa_cons (se_var 4) (sa_cons se_ty sa_nil)))) sa_nil)))))
(ss_ret se_str)
ss_next)
(ss_seq (ss_if (st_not (st_val (se_cb so_all (sa_cons (se_lc (si_sq (se_sl ss_M (se_var 0) (sp_some se_int) sp_none)) (sw_name (vs := [4]) 4 (by decide)) st_yes (se_call (sc_P0 ne_is_list) (sa_cons (se_var 4) sa_nil))) sa_nil))))
(ss_ret se_str)
ss_next)
(ss_seq (ss_asg (se_var 0) (sg_seq (sg_cons (sg_name 5) (sg_cons (sg_name 6) (sg_cons (sg_name 7) (sg_cons (sg_name 8) (sg_cons (sg_name 9) sg_nil)))))))
(ss_seq (ss_if (st_or (st_not (st_val (se_call (sc_P0 ne_is_word) (sa_cons (se_var 5) sa_nil)))) (st_test (se_op so_in (se_var 5) (se_var 3))))
(ss_ret se_str)
ss_next)
(ss_seq (ss_if (st_test (se_op so_in (se_var 6) (se_c (T.w_HANDS st))))
(ss_ret se_str)
ss_next)
(ss_seq (ss_if (st_or (st_test (se_op so_ne (se_cb so_len (sa_cons (se_var 7) sa_nil)) (se_var 2))) (st_not (st_val (se_cb so_all (sa_cons (se_lc (si_sq (se_var 7)) (sw_name (vs := [10]) 10 (by decide)) st_yes (se_call (sc_P0 ne_is_between) (sa_cons (se_var 10) (sa_cons (se_neg se_int) (sa_cons (se_op so_sub (se_var 2) se_int) sa_nil))))) sa_nil)))))
(ss_ret se_str)
ss_next)
(ss_seq (ss_if (st_or (st_test (se_op so_gt (se_cb so_len (sa_cons (se_var 8) sa_nil)) se_int)) (st_not (st_val (se_cb so_all (sa_cons (se_lc (si_sq (se_var 8)) (sw_name (vs := [11]) 11 (by decide)) st_yes (se_call (sc_P0 ne_is_deed) (sa_cons (se_var 11) (sa_cons (se_var 1) sa_nil)))) sa_nil)))))
(ss_ret se_str)
ss_next)
(ss_seq (ss_if (st_not (st_val (se_call (sc_P0 ne_are_unlike) (sa_cons (se_lc (si_sq (se_var 8)) (sw_name (vs := [11]) 11 (by decide)) (st_test (se_op so_in (se_op so_ix (se_var 11) se_int) (se_tup (sa_cons se_str (sa_cons se_str sa_nil))))) (se_op so_ix (se_var 11) se_int)) sa_nil))))
(ss_ret se_str)
ss_next)
(ss_ret (se_if (st_val (se_call (sc_P0 ne_is_same) (sa_cons (se_var 9) (sa_cons (se_var 6) (sa_cons (se_var 1) sa_nil))))) se_non se_str))))))))))) h⟩
theorem ok_checked_calls (T : Tx w K mg A B) : FnOk P w K mg base CX0 5 B.f_checked_calls B.d_checked_calls ["calls", "sorts", "modes"] (spP K (m_checked_calls A K)) := by
  have G_is_list := ok_is_list (P := P) (base := base) T
  have G_reason_against := ok_reason_against (P := P) (base := base) T
  unfold m_checked_calls
  refine T.F_checked_calls.ok sc_checked_calls (fun vs H Q E h => pure_len0 h) (fun cdv AA outer s H vs Q E hr h => ?_)
  exact ⟨_, (pss_cons (ps_if (PW.pt (pw_or (pt_not (pt_val (pe_call G_is_list (hr.mono (by decide)) (by rfl) T.m_is_list T.F_is_list.kp T.b_is_list .nil pass0 (pa_cons (pv 0) pa_nil)))) (pw_or1 (pt_cmpR op_eq (pe_callB (call_lenAnyK K) (by rfl) T.n_len PySem.boot_len (pa_cons (pv 0) pa_nil)) pe_int (nomark _)))))
(pss_one ps_never)
pss_nil)
(pss_cons (ps_set (i := 3) sc_checked_calls.nd rfl (.inl rfl) (pe_lst pa_nil))
(pss_cons (ps_for PassesOwn.never rfl (pi_enSq (by rfl) T.n_enumerate (pa_cons (pv 0) pa_nil)) (pg_tup rfl (pgs_cons (pg_name (i := 4) sc_checked_calls.nd rfl (.inl rfl)) (pgs_cons (pg_name (i := 5) sc_checked_calls.nd rfl (.inl rfl)) pgs_nil)))
(pss_cons (ps_set (i := 6) sc_checked_calls.nd rfl (.inl rfl) (pe_ifExp (pt_cmpR op_eq (pv 4) (pe_glob (v := .int 6) (by rfl) T.g_MOST_CALLS ⟨_, rfl⟩) (nomark _)) pe_str (pe_call G_reason_against (hr.mono (by decide)) (by rfl) T.m_reason_against T.F_reason_against.kp T.b_reason_against .nil pass0 (pa_cons (pv 5) (pa_cons (pv 1) (pa_cons (pv 2) (pa_cons (pe_lc (own := [("row", 7)]) (g := (gName 7)) (by rfl) sc_checked_calls.nd (pi_sqK K (pv 3)) (blkOk_by (own := [("row", 7)]) (N := N_checked_calls) (sc := defScope s_checked_calls) (by decide +kernel)) (fun _ _ _ _ _ => (pg_name (i := 7) sc_checked_calls.nd rfl (.inl rfl))) (fun _ _ _ _ _ => pts_nil) (fun _ _ _ _ _ => (pe_ix (ix_seqK K) (pv 7) pe_int (fun _ _ => rfl)))) pa_nil)))))))
(pss_cons (ps_if (pt_cmpR op_notN (pv 6) pe_non (nomark _))
(pss_one ps_never)
pss_nil)
(pss_cons (ps_asg (pv 5) (pg_seq rfl (pgs_cons (pg_name (i := 8) sc_checked_calls.nd rfl (.inl rfl)) (pgs_cons (pg_name (i := 9) sc_checked_calls.nd rfl (.inl rfl)) (pgs_cons (pg_name (i := 10) sc_checked_calls.nd rfl (.inl rfl)) (pgs_cons (pg_name (i := 11) sc_checked_calls.nd rfl (.inl rfl)) (pgs_cons (pg_name (i := 12) sc_checked_calls.nd rfl (.inl rfl)) pgs_nil)))))))
(pss_one (ps_expr (pe_bm PySem.F.plainAttrs_list PySem.F.slot_list_append PySem.F.type_list_append mt_append (pv 3) (pa_cons (pe_tup (pa_cons (pv 8) (pa_cons (pv 9) (pa_cons (pe_callTy (call_tuple_ofK K) (by rfl) T.n_tuple (by decide +kernel) (pa_cons (pv 10) pa_nil)) (pa_cons (pe_callTy (call_tuple_ofK K) (by rfl) T.n_tuple (by decide +kernel) (pa_cons (pe_lc (own := [("deed", 13)]) (g := (gName 13)) (by rfl) sc_checked_calls.nd (pi_sqK K (pv 11)) (blkOk_by (own := [("deed", 13)]) (N := N_checked_calls) (sc := defScope s_checked_calls) (by decide +kernel)) (fun _ _ _ _ _ => (pg_name (i := 13) sc_checked_calls.nd rfl (.inl rfl))) (fun _ _ _ _ _ => pts_nil) (fun _ _ _ _ _ => (pe_callTy (call_tuple_ofK K) (by rfl) T.n_tuple (by decide +kernel) (pa_cons (pv 13) pa_nil)))) pa_nil)) (pa_cons (pe_callTy (call_tuple_ofK K) (by rfl) T.n_tuple (by decide +kernel) (pa_cons (pv 12) pa_nil)) pa_nil)))))) pa_nil))))))))
(pss_one (ps_ret (pv 3)))))), pure_ok0 (N := N_checked_calls) (fun st => (ss_seq (ss_if (st_or (st_not (st_val (se_call (sc_P0 ne_is_list) (sa_cons (se_var 0) sa_nil)))) (st_test (se_op so_eq (se_cb so_len (sa_cons (se_var 0) sa_nil)) se_int)))
ss_never
ss_next)
(ss_seq (ss_asg (se_lst sa_nil) (sg_name 3))
(ss_seq (ss_for (si_en (sa_cons (se_var 0) sa_nil)) (sg_tup (sg_cons (sg_name 4) (sg_cons (sg_name 5) sg_nil)))
(ss_seq (ss_asg (se_if (st_test (se_op so_eq (se_var 4) se_int)) se_str (se_call (sc_P0 ne_reason_against) (sa_cons (se_var 5) (sa_cons (se_var 1) (sa_cons (se_var 2) (sa_cons (se_lc (si_sq (se_var 3)) (sw_name (vs := [7]) 7 (by decide)) st_yes (se_op so_ix (se_var 7) se_int)) sa_nil)))))) (sg_name 6))
(ss_seq (ss_if (st_test (se_op so_notN (se_var 6) se_non))
ss_never
ss_next)
(ss_seq (ss_asg (se_var 5) (sg_seq (sg_cons (sg_name 8) (sg_cons (sg_name 9) (sg_cons (sg_name 10) (sg_cons (sg_name 11) (sg_cons (sg_name 12) sg_nil)))))))
(ss_drop (se_bm sm_append (se_var 3) (sa_cons (se_tup (sa_cons (se_var 8) (sa_cons (se_var 9) (sa_cons (se_cb so_tuple (sa_cons (se_var 10) sa_nil)) (sa_cons (se_cb so_tuple (sa_cons (se_lc (si_sq (se_var 11)) (sw_name (vs := [13]) 13 (by decide)) st_yes (se_cb so_tuple (sa_cons (se_var 13) sa_nil))) sa_nil)) (sa_cons (se_cb so_tuple (sa_cons (se_var 12) sa_nil)) sa_nil)))))) sa_nil)))))))
(ss_ret (se_var 3)))))) h⟩
theorem ok_Kind___init__ (T : Tx w K mg A B) : FnOk P w K mg base CX0 6 B.f_Kind___init__ B.d_Kind___init__ ["self", "fields", "calls", "modes"] (spO K (m_Kind___init__ A K)) := by
  have G_is_between := ok_is_between (P := P) (base := base) T
  have G_checked_fields := ok_checked_fields (P := P) (base := base) T
  have G_checked_calls := ok_checked_calls (P := P) (base := base) T
  unfold m_Kind___init__
  refine T.F_Kind___init__.ok sc_Kind___init__ (fun vs H Q E h => open_len0 h) (fun cdv AA outer s H vs Q E hr h => ?_)
  exact ⟨_, (pss_cons (ps_fld (pv 0) (pe_call G_checked_fields (hr.mono (by decide)) (by rfl) T.m_checked_fields T.F_checked_fields.kp T.b_checked_fields .nil pass0 (pa_cons (pv 1) pa_nil)) rfl)
(pss_cons (ps_if (pt_not (pt_val (pe_call G_is_between (hr.mono (by decide)) (by rfl) T.m_is_between T.F_is_between.kp T.b_is_between .nil pass0 (pa_cons (pv 3) (pa_cons pe_int (pa_cons (pe_glob (v := .int 4) (by rfl) T.g_MOST_MODES ⟨_, rfl⟩) pa_nil))))))
(pss_one ps_never)
pss_nil)
(pss_cons (ps_fld (pv 0) (pv 3) rfl)
(pss_cons (ps_fld (pv 0) (pe_dc (own := [("name", 4), ("sort", 5), ("need", 6)]) (g := (gTup K 3 (gCons (gName 4) (gCons (gName 5) (gCons (gName 6) gNil))))) (by rfl) sc_Kind___init__.nd (pi_sqK K (pe_fldK K (pv 0) rfl)) (blkOk_by (own := [("name", 4), ("sort", 5), ("need", 6)]) (N := N_Kind___init__) (sc := defScope s_Kind___init__) (by decide +kernel)) (fun _ _ _ _ _ => (pg_tup rfl (pgs_cons (pg_name (i := 4) sc_Kind___init__.nd rfl (.inl rfl)) (pgs_cons (pg_name (i := 5) sc_Kind___init__.nd rfl (.inl rfl)) (pgs_cons (pg_name (i := 6) sc_Kind___init__.nd rfl (.inl rfl)) pgs_nil))))) (fun _ _ _ _ _ => pts_nil) (fun _ _ _ _ _ => (pv 4)) (fun _ _ _ _ _ => (pv 5))) rfl)
(pss_cons (ps_fld (pv 0) (pe_call G_checked_calls (hr.mono (by decide)) (by rfl) T.m_checked_calls T.F_checked_calls.kp T.b_checked_calls .nil pass0 (pa_cons (pv 2) (pa_cons (pe_fldK K (pv 0) rfl) (pa_cons (pv 3) pa_nil)))) rfl)
(pss_one (ps_fld (pv 0) (pe_lc (own := [("row", 7)]) (g := (gName 7)) (by rfl) sc_Kind___init__.nd (pi_sqK K (pe_fldK K (pv 0) rfl)) (blkOk_by (own := [("row", 7)]) (N := N_Kind___init__) (sc := defScope s_Kind___init__) (by decide +kernel)) (fun _ _ _ _ _ => (pg_name (i := 7) sc_Kind___init__.nd rfl (.inl rfl))) (fun _ _ _ _ _ => pts_nil) (fun _ _ _ _ _ => (pe_ix (ix_seqK K) (pv 7) pe_int (fun _ _ => rfl)))) rfl))))))), open_ok0 (N := N_Kind___init__) (fun st => (ss_seq (ss_fld T.cl_Kind T.na_Kind_field_rows (se_var 0) (se_call (sc_P0 ne_checked_fields) (sa_cons (se_var 1) sa_nil)))
(ss_seq (ss_if (st_not (st_val (se_call (sc_P0 ne_is_between) (sa_cons (se_var 3) (sa_cons se_int (sa_cons se_int sa_nil))))))
ss_never
ss_next)
(ss_seq (ss_fld T.cl_Kind T.na_Kind_modes (se_var 0) (se_var 3))
(ss_seq (ss_fld T.cl_Kind T.na_Kind_sorts (se_var 0) (se_dc (si_sq (se_fld T.cl_Kind T.na_Kind_field_rows (se_var 0))) (sw_tup (sw_cons (vs := [4, 5, 6]) (by decide) (sw_cons (vs := [4, 5, 6]) (by decide) (sw_cons (vs := [4, 5, 6]) (by decide) sw_nil)))) st_yes (se_var 4) (se_var 5)))
(ss_seq (ss_fld T.cl_Kind T.na_Kind_call_rows (se_var 0) (se_call (sc_P0 ne_checked_calls) (sa_cons (se_var 2) (sa_cons (se_fld T.cl_Kind T.na_Kind_sorts (se_var 0)) (sa_cons (se_var 3) sa_nil)))))
(ss_fld T.cl_Kind T.na_Kind_name_list (se_var 0) (se_lc (si_sq (se_fld T.cl_Kind T.na_Kind_call_rows (se_var 0))) (sw_name (vs := [7]) 7 (by decide)) st_yes (se_op so_ix (se_var 7) se_int))))))))) h⟩
theorem ok_law_plan (T : Tx w K mg A B) : FnOk P w K mg base CX0 8 B.f_law_plan B.d_law_plan ["_law_fields", "_law_calls", "_law_far"] (spP K (m_law_plan A K)) := by
  have G_Kind___init__ := ok_Kind___init__ (P := P) (base := base) T
  unfold m_law_plan
  refine T.F_law_plan.ok sc_law_plan (fun vs H Q E h => pure_len0 h) (fun cdv AA outer s H vs Q E hr h => ?_)
  exact ⟨_, (pss_one (ps_ret (pe_disp (pps_cons pe_str (pv 0) (pps_cons pe_str (pv 1) (pps_cons pe_str (pv 2) (pps_cons pe_str (pe_makeK T.mk_Kind G_Kind___init__ (hr.mono (by decide)) (by rfl) T.g_Kind T.kb_Kind___init__ pass0 (pa_cons (pv 0) (pa_cons (pv 1) pa_nil)) (pk_cons (pv 2) pk_nil)) pps_nil)))) (by rfl) (by rfl) (fun z => by cases z) (by decide)))), pure_ok0 (N := N_law_plan) (fun st => (ss_ret (se_disp (.cons se_str (se_var 0) (.cons se_str (se_var 1) (.cons se_str (se_var 2) (.cons se_str (se_makeK (sc_O0 ne_Kind___init__) (sa_cons (se_var 0) (sa_cons (se_var 1) sa_nil)) (sa_cons (se_var 2) sa_nil)) .nil))))))) h⟩
theorem ok_law_deeds (T : Tx w K mg A B) : FnOk P w K mg base CX0 4 B.f_law_deeds B.d_law_deeds ["_law_state", "_law_fields", "_law_many"] (spP K (m_law_deeds A K)) := by
  have G_law_take := ok_law_take (P := P) (base := base) T
  have G_law_one := ok_law_one (P := P) (base := base) T
  unfold m_law_deeds
  refine T.F_law_deeds.ok sc_law_deeds (fun vs H Q E h => pure_len0 h) (fun cdv AA outer s H vs Q E hr h => ?_)
  exact ⟨_, (pss_cons (ps_par (i := 3) (j := 4) (by rfl) sc_law_deeds.nd rfl rfl (by decide) rfl rfl (pa_cons (pe_lst pa_nil) (pa_cons (pe_lst pa_nil) pa_nil)) (by rfl))
(pss_cons (ps_for PassesOwn.never rfl (pi_range1 (by rfl) T.n_range (pa_cons (pe_call G_law_take (hr.mono (by decide)) (by rfl) T.m_law_take T.F_law_take.kp T.b_law_take .nil pass0 (pa_cons (pv 0) (pa_cons (pe_op op_add (pv 2) pe_int) pa_nil))) pa_nil)) (pg_name (i := 5) sc_law_deeds.nd rfl (.inl rfl))
(pss_cons (ps_asg (pe_call G_law_one (hr.mono (by decide)) (by rfl) T.m_law_one T.F_law_one.kp T.b_law_one .nil pass0 (pa_cons (pv 0) (pa_cons (pv 1) pa_nil))) (pg_tup rfl (pgs_cons (pg_name (i := 6) sc_law_deeds.nd rfl (.inl rfl)) (pgs_cons (pg_name (i := 7) sc_law_deeds.nd rfl (.inl rfl)) (pgs_cons (pg_name (i := 8) sc_law_deeds.nd rfl (.inl rfl)) pgs_nil)))))
(pss_cons (ps_set (i := 9) sc_law_deeds.nd rfl (.inl rfl) (pe_ifExp (pt_cmpR op_eq (pv 7) pe_str (nomark _)) (pe_lst (pa_cons pe_str (pa_cons pe_str pa_nil))) (pe_lst (pa_cons pe_str (pa_cons pe_str (pa_cons pe_str (pa_cons pe_str (pa_cons pe_str pa_nil))))))))
(pss_cons (ps_set (i := 10) sc_law_deeds.nd rfl (.inl rfl) (pe_call G_law_one (hr.mono (by decide)) (by rfl) T.m_law_one T.F_law_one.kp T.b_law_one .nil pass0 (pa_cons (pv 0) (pa_cons (pv 9) pa_nil))))
(pss_one (ps_if (PW.pt (pw_or (pt_cmpR (op_notIn_seqK K) (pv 10) (pe_tup (pa_cons pe_str (pa_cons pe_str pa_nil))) (by rfl)) (pw_or1 (pt_cmpR (op_notIn_seqK K) (pv 6) (pv 4) (by rfl)))))
(pss_cons (ps_set (i := 4) sc_law_deeds.nd rfl (.inl rfl) (pe_op op_cat (pv 4) (pe_op op_rep (pe_lst (pa_cons (pv 6) pa_nil)) (pe_callTy call_int1 (by rfl) T.n_int (by decide +kernel) (pa_cons (pe_cmpR (op_in_seqK K) (pv 10) (pe_tup (pa_cons pe_str (pa_cons pe_str pa_nil))) (by rfl)) pa_nil)))))
(pss_one (ps_expr (pe_bm PySem.F.plainAttrs_list PySem.F.slot_list_append PySem.F.type_list_append mt_append (pv 3) (pa_cons (pe_tup (pa_cons (pv 10) (pa_cons (pv 6) pa_nil))) pa_nil)))))
pss_nil))))))
(pss_one (ps_ret (pv 3))))), pure_ok0 (N := N_law_deeds) (fun st => (ss_seq (ss_par (sa_cons (se_lst sa_nil) (sa_cons (se_lst sa_nil) sa_nil)))
(ss_seq (ss_for (si_r1 (sa_cons (se_call (sc_P0 ne_law_take) (sa_cons (se_var 0) (sa_cons (se_op so_add (se_var 2) se_int) sa_nil))) sa_nil)) (sg_name 5)
(ss_seq (ss_asg (se_call (sc_P0 ne_law_one) (sa_cons (se_var 0) (sa_cons (se_var 1) sa_nil))) (sg_tup (sg_cons (sg_name 6) (sg_cons (sg_name 7) (sg_cons (sg_name 8) sg_nil)))))
(ss_seq (ss_asg (se_if (st_test (se_op so_eq (se_var 7) se_str)) (se_lst (sa_cons se_str (sa_cons se_str sa_nil))) (se_lst (sa_cons se_str (sa_cons se_str (sa_cons se_str (sa_cons se_str (sa_cons se_str sa_nil))))))) (sg_name 9))
(ss_seq (ss_asg (se_call (sc_P0 ne_law_one) (sa_cons (se_var 0) (sa_cons (se_var 9) sa_nil))) (sg_name 10))
(ss_if (st_or (st_test (se_op so_in (se_var 10) (se_tup (sa_cons se_str (sa_cons se_str sa_nil))))) (st_test (se_op so_in (se_var 6) (se_var 4))))
(ss_seq (ss_asg (se_op so_cat (se_var 4) (se_op so_rep (se_lst (sa_cons (se_var 6) sa_nil)) (se_cb so_int (sa_cons (se_op so_in (se_var 10) (se_tup (sa_cons se_str (sa_cons se_str sa_nil)))) sa_nil)))) (sg_name 4))
(ss_drop (se_bm sm_append (se_var 3) (sa_cons (se_tup (sa_cons (se_var 10) (sa_cons (se_var 6) sa_nil))) sa_nil))))
ss_next)))))
(ss_ret (se_var 3))))) h⟩
theorem ok_law_call (T : Tx w K mg A B) : FnOk P w K mg base CX0 5 B.f_law_call B.d_law_call ["_law_state", "_law_name", "_law_hand", "_law_fields", "_law_far"] (spP K (m_law_call A K)) := by
  have G_law_take := ok_law_take (P := P) (base := base) T
  have G_law_one := ok_law_one (P := P) (base := base) T
  have G_law_deeds := ok_law_deeds (P := P) (base := base) T
  unfold m_law_call
  refine T.F_law_call.ok sc_law_call (fun vs H Q E h => pure_len0 h) (fun cdv AA outer s H vs Q E hr h => ?_)
  exact ⟨_, (pss_cons (ps_set (i := 5) sc_law_call.nd rfl (.inr rfl) (pe_op op_cat (pe_op op_rep (pe_listRg (by rfl) (by rfl) T.n_list (prg_1 (by rfl) T.n_range (pv 4))) pe_int) (pe_op op_rep (pe_lst (pa_cons (pe_un un_neg pe_int) pa_nil)) (pe_callTy call_int1 (by rfl) T.n_int (by decide +kernel) (pa_cons (pe_cmpR op_gt (pv 4) pe_int (nomark _)) pa_nil)))))
(pss_cons (ps_setLc (i := 6) (own := [("_law_k", 7)]) (g := (gName 7)) (by rfl) sc_law_call.nd rfl rfl (sw_true rfl rfl rfl (by decide +kernel)) (pi_range1 (by rfl) T.n_range (pa_cons (pv 4) pa_nil)) (blkOk_by (own := [("_law_k", 7)]) (N := N_law_call) (sc := defScope s_law_call) (by decide +kernel)) (fun _ _ _ _ _ => (pg_name (i := 7) sc_law_call.nd rfl (.inl rfl))) (fun _ _ _ _ _ => pts_nil) (fun _ _ _ _ _ => (pe_call G_law_one (hr.mono (by decide)) (by rfl) T.m_law_one T.F_law_one.kp T.b_law_one .nil pass0 (pa_cons (pv 0) (pa_cons (pv 5) pa_nil)))))
(pss_cons (ps_setLc (i := 8) (own := [("_law_x", 9)]) (g := (gName 9)) (by rfl) sc_law_call.nd rfl rfl (sw_true rfl rfl rfl (by decide +kernel)) (pi_sqK K (pv 3)) (blkOk_by (own := [("_law_x", 9)]) (N := N_law_call) (sc := defScope s_law_call) (by decide +kernel)) (fun _ _ _ _ _ => (pg_name (i := 9) sc_law_call.nd rfl (.inl rfl))) (fun _ _ _ _ _ => (pts_one (PW.pt (pw_and (pt_cmpR op_eq (pe_ix (ix_seqK K) (pv 9) pe_int (fun _ _ => rfl)) pe_str (nomark _)) (pw_and1 (pt_cmpR op_eq (pe_call G_law_take (hr.mono (by decide)) (by rfl) T.m_law_take T.F_law_take.kp T.b_law_take .nil pass0 (pa_cons (pv 0) (pa_cons pe_int pa_nil))) pe_int (nomark _))))))) (fun _ _ _ _ _ => (pe_ix (ix_seqK K) (pv 9) pe_int (fun _ _ => rfl))))
(pss_cons (ps_set (i := 10) sc_law_call.nd rfl (.inl rfl) (pe_call G_law_deeds (hr.mono (by decide)) (by rfl) T.m_law_deeds T.F_law_deeds.kp T.b_law_deeds .nil pass0 (pa_cons (pv 0) (pa_cons (pv 3) (pa_cons (pe_call G_law_one (hr.mono (by decide)) (by rfl) T.m_law_one T.F_law_one.kp T.b_law_one .nil pass0 (pa_cons (pv 0) (pa_cons (pe_lst (pa_cons pe_int (pa_cons pe_int (pa_cons pe_int (pa_cons pe_int pa_nil))))) pa_nil))) pa_nil)))))
(pss_one (ps_ret (pe_tup (pa_cons (pv 1) (pa_cons (pv 2) (pa_cons (pv 6) (pa_cons (pv 10) (pa_cons (pe_ifExp (pt_cmpR op_ne (pv 2) pe_str (nomark _)) (pv 8) (pe_lst pa_nil)) pa_nil)))))))))))), pure_ok0 (N := N_law_call) (fun st => (ss_seq (ss_asg (se_op so_cat (se_op so_rep (se_lstR (se_var 4)) se_int) (se_op so_rep (se_lst (sa_cons (se_neg se_int) sa_nil)) (se_cb so_int (sa_cons (se_op so_gt (se_var 4) se_int) sa_nil)))) (sg_name 5))
(ss_seq (ss_asg (se_lc (si_r1 (sa_cons (se_var 4) sa_nil)) (sw_name (vs := [7]) 7 (by decide)) st_yes (se_call (sc_P0 ne_law_one) (sa_cons (se_var 0) (sa_cons (se_var 5) sa_nil)))) (sg_name 6))
(ss_seq (ss_asg (se_lc (si_sq (se_var 3)) (sw_name (vs := [9]) 9 (by decide)) (st_and (st_test (se_op so_eq (se_op so_ix (se_var 9) se_int) se_str)) (st_test (se_op so_eq (se_call (sc_P0 ne_law_take) (sa_cons (se_var 0) (sa_cons se_int sa_nil))) se_int))) (se_op so_ix (se_var 9) se_int)) (sg_name 8))
(ss_seq (ss_asg (se_call (sc_P0 ne_law_deeds) (sa_cons (se_var 0) (sa_cons (se_var 3) (sa_cons (se_call (sc_P0 ne_law_one) (sa_cons (se_var 0) (sa_cons (se_lst (sa_cons se_int (sa_cons se_int (sa_cons se_int (sa_cons se_int sa_nil))))) sa_nil))) sa_nil)))) (sg_name 10))
(ss_ret (se_tup (sa_cons (se_var 1) (sa_cons (se_var 2) (sa_cons (se_var 6) (sa_cons (se_var 10) (sa_cons (se_if (st_test (se_op so_ne (se_var 2) se_str)) (se_var 8) (se_lst sa_nil)) sa_nil)))))))))))) h⟩
theorem ok_law_kind (T : Tx w K mg A B) : FnOk P w K mg base CX0 9 B.f_law_kind B.d_law_kind ["_law_state", "_law_wide", "_law_many", "_law_far"] (spP K (m_law_kind A K)) := by
  have G_law_take := ok_law_take (P := P) (base := base) T
  have G_law_one := ok_law_one (P := P) (base := base) T
  have G_law_mix := ok_law_mix (P := P) (base := base) T
  have G_law_plan := ok_law_plan (P := P) (base := base) T
  have G_law_call := ok_law_call (P := P) (base := base) T
  unfold m_law_kind
  refine T.F_law_kind.ok sc_law_kind (fun vs H Q E h => pure_len0 h) (fun cdv AA outer s H vs Q E hr h => ?_)
  exact ⟨_, (pss_cons (ps_par (i := 4) (j := 5) (by rfl) sc_law_kind.nd rfl rfl (by decide) rfl rfl (pa_cons (pe_lst pa_nil) (pa_cons (pe_call G_law_mix (hr.mono (by decide)) (by rfl) T.m_law_mix T.F_law_mix.kp T.b_law_mix .nil pass0 (pa_cons (pv 0) (pa_cons (pe_lst (pa_cons pe_str (pa_cons pe_str (pa_cons pe_str (pa_cons pe_str (pa_cons pe_str pa_nil)))))) pa_nil))) pa_nil)) (by rfl))
(pss_cons (ps_for PassesOwn.never rfl (pi_range1 (by rfl) T.n_range (pa_cons (pe_op op_add pe_int (pe_call G_law_take (hr.mono (by decide)) (by rfl) T.m_law_take T.F_law_take.kp T.b_law_take .nil pass0 (pa_cons (pv 0) (pa_cons (pv 1) pa_nil)))) pa_nil)) (pg_name (i := 6) sc_law_kind.nd rfl (.inl rfl))
(pss_one (ps_expr (pe_bm PySem.F.plainAttrs_list PySem.F.slot_list_append PySem.F.type_list_append mt_append (pv 4) (pa_cons (pe_tup (pa_cons (pe_ix (ix_seqK K) (pv 5) (pv 6) (fun _ _ => rfl)) (pa_cons (pe_call G_law_one (hr.mono (by decide)) (by rfl) T.m_law_one T.F_law_one.kp T.b_law_one .nil pass0 (pa_cons (pv 0) (pa_cons (pe_lst (pa_cons pe_str (pa_cons pe_str (pa_cons pe_str pa_nil)))) pa_nil))) (pa_cons (pe_cmpR op_eq (pe_call G_law_take (hr.mono (by decide)) (by rfl) T.m_law_take T.F_law_take.kp T.b_law_take .nil pass0 (pa_cons (pv 0) (pa_cons pe_int pa_nil))) pe_int (nomark _)) pa_nil)))) pa_nil)))))
(pss_cons (ps_par (i := 7) (j := 8) (by rfl) sc_law_kind.nd rfl rfl (by decide) rfl rfl (pa_cons (pe_op op_add pe_int (pe_call G_law_take (hr.mono (by decide)) (by rfl) T.m_law_take T.F_law_take.kp T.b_law_take .nil pass0 (pa_cons (pv 0) (pa_cons (pv 3) pa_nil)))) (pa_cons (pe_lst pa_nil) pa_nil)) (by rfl))
(pss_cons (ps_for PassesOwn.never rfl (pi_sqK K (pe_slice (sl_listK K) (pe_lst (pa_cons pe_str (pa_cons pe_str (pa_cons pe_str (pa_cons pe_str (pa_cons pe_str pa_nil)))))) po_none (po_some (pe_op op_add pe_int (pe_call G_law_take (hr.mono (by decide)) (by rfl) T.m_law_take T.F_law_take.kp T.b_law_take .nil pass0 (pa_cons (pv 0) (pa_cons (pe_op op_sub (pv 2) pe_int) pa_nil))))))) (pg_name (i := 9) sc_law_kind.nd rfl (.inl rfl))
(pss_one (ps_expr (pe_bm PySem.F.plainAttrs_list PySem.F.slot_list_append PySem.F.type_list_append mt_append (pv 8) (pa_cons (pe_call G_law_call (hr.mono (by decide)) (by rfl) T.m_law_call T.F_law_call.kp T.b_law_call .nil pass0 (pa_cons (pv 0) (pa_cons (pv 9) (pa_cons (pe_call G_law_one (hr.mono (by decide)) (by rfl) T.m_law_one T.F_law_one.kp T.b_law_one .nil pass0 (pa_cons (pv 0) (pa_cons (pe_lst (pa_cons pe_str (pa_cons pe_str (pa_cons pe_str (pa_cons pe_str (pa_cons pe_str pa_nil)))))) pa_nil))) (pa_cons (pv 4) (pa_cons (pv 7) pa_nil)))))) pa_nil)))))
(pss_cons (ps_expr (pe_bm PySem.F.plainAttrs_list PySem.F.slot_list_append PySem.F.type_list_append mt_append (pv 8) (pa_cons (pe_call G_law_call (hr.mono (by decide)) (by rfl) T.m_law_call T.F_law_call.kp T.b_law_call .nil pass0 (pa_cons (pv 0) (pa_cons pe_str (pa_cons pe_str (pa_cons (pv 4) (pa_cons (pv 7) pa_nil)))))) pa_nil)))
(pss_one (ps_ret (pe_call G_law_plan (hr.mono (by decide)) (by rfl) T.m_law_plan T.F_law_plan.kp T.b_law_plan .nil pass0 (pa_cons (pv 4) (pa_cons (pv 8) (pa_cons (pv 7) pa_nil))))))))))), pure_ok0 (N := N_law_kind) (fun st => (ss_seq (ss_par (sa_cons (se_lst sa_nil) (sa_cons (se_call (sc_P0 ne_law_mix) (sa_cons (se_var 0) (sa_cons (se_lst (sa_cons se_str (sa_cons se_str (sa_cons se_str (sa_cons se_str (sa_cons se_str sa_nil)))))) sa_nil))) sa_nil)))
(ss_seq (ss_for (si_r1 (sa_cons (se_op so_add se_int (se_call (sc_P0 ne_law_take) (sa_cons (se_var 0) (sa_cons (se_var 1) sa_nil)))) sa_nil)) (sg_name 6)
(ss_drop (se_bm sm_append (se_var 4) (sa_cons (se_tup (sa_cons (se_op so_ix (se_var 5) (se_var 6)) (sa_cons (se_call (sc_P0 ne_law_one) (sa_cons (se_var 0) (sa_cons (se_lst (sa_cons se_str (sa_cons se_str (sa_cons se_str sa_nil)))) sa_nil))) (sa_cons (se_op so_eq (se_call (sc_P0 ne_law_take) (sa_cons (se_var 0) (sa_cons se_int sa_nil))) se_int) sa_nil)))) sa_nil))))
(ss_seq (ss_par (sa_cons (se_op so_add se_int (se_call (sc_P0 ne_law_take) (sa_cons (se_var 0) (sa_cons (se_var 3) sa_nil)))) (sa_cons (se_lst sa_nil) sa_nil)))
(ss_seq (ss_for (si_sq (se_sl ss_lst (se_lst (sa_cons se_str (sa_cons se_str (sa_cons se_str (sa_cons se_str (sa_cons se_str sa_nil)))))) sp_none (sp_some (se_op so_add se_int (se_call (sc_P0 ne_law_take) (sa_cons (se_var 0) (sa_cons (se_op so_sub (se_var 2) se_int) sa_nil))))))) (sg_name 9)
(ss_drop (se_bm sm_append (se_var 8) (sa_cons (se_call (sc_P0 ne_law_call) (sa_cons (se_var 0) (sa_cons (se_var 9) (sa_cons (se_call (sc_P0 ne_law_one) (sa_cons (se_var 0) (sa_cons (se_lst (sa_cons se_str (sa_cons se_str (sa_cons se_str (sa_cons se_str (sa_cons se_str sa_nil)))))) sa_nil))) (sa_cons (se_var 4) (sa_cons (se_var 7) sa_nil)))))) sa_nil))))
(ss_seq (ss_drop (se_bm sm_append (se_var 8) (sa_cons (se_call (sc_P0 ne_law_call) (sa_cons (se_var 0) (sa_cons se_str (sa_cons se_str (sa_cons (se_var 4) (sa_cons (se_var 7) sa_nil)))))) sa_nil)))
(ss_ret (se_call (sc_P0 ne_law_plan) (sa_cons (se_var 4) (sa_cons (se_var 8) (sa_cons (se_var 7) sa_nil))))))))))) h⟩
theorem ok_Kind_number_of_x (T : Tx w K mg A B) (hP : SupP P lawFile) : FnOk P w K mg base (L2.CX P w) 3 B.f_Kind_number_of_x B.d_Kind_number_of_x ["self", "name"] (spP K (m_Kind_number_of_x A K)) := by
  unfold m_Kind_number_of_x
  refine T.F_Kind_number_of_x.okX sc_Kind_number_of_x (fun vs H Q E h => pure_len h) (fun cdv AA outer s H vs Q E hr h => ?_)
  exact ⟨_, (pss_cons (ps_if (PW.pt (pw_or (pt_not (pt_val (pe_callB (call_isiKK K) (by rfl) T.n_isinstance (by decide +kernel) (pa_cons (pv 1) (pa_cons (pe_bltn (v := .ty "str") (u := .type "str") (by rfl) T.n_str (by decide +kernel) rfl) pa_nil))))) (pw_or1 (pt_cmpR (op_notIn_seqK K) (pv 1) (pe_fldK K (pv 0) rfl) (by rfl)))))
(pss_one (ps_raise rfl (takes_of rfl rfl rfl rfl) (pmk_err (er_UnknownCall (P := P) (w := w) (base := base) T hP) (hr.mono (by decide)) (by rfl) T.g_UnknownCall (pa_cons (pv 1) pa_nil))))
pss_nil)
(pss_one (ps_ret (pe_bm PySem.F.plainAttrs_list PySem.F.slot_list_index PySem.F.type_list_index (mt_indexK K) (pe_fldK K (pv 0) rfl) (pa_cons (pv 1) pa_nil))))), pure_ok (N := N_Kind_number_of_x) (fun st => (ss_seq (ss_if (st_or (st_not (st_val (se_cb so_isi (sa_cons (se_var 1) (sa_cons se_ty sa_nil))))) (st_test (se_op so_in (se_var 1) (se_fld T.cl_Kind T.na_Kind_name_list (se_var 0)))))
(ss_raise1 T.xe_UnknownCall.T (T.xe_UnknownCall.nof _ (by simp)) (sa_cons (se_var 1) sa_nil))
ss_next)
(ss_ret (se_bm sm_index (se_fld T.cl_Kind T.na_Kind_name_list (se_var 0)) (sa_cons (se_var 1) sa_nil))))) h⟩
theorem ok_Kind_own (T : Tx w K mg A B) (hP : SupP P lawFile) : FnOk P w K mg base (L2.CX P w) 8 B.f_Kind_own B.d_Kind_own ["self", "name", "field"] (spP K (m_Kind_own A K)) := by
  have G_Kind___init__ := ok_Kind___init__ (P := P) (base := base) T
  have G_Kind_number_of_x := ok_Kind_number_of_x (P := P) (base := base) T hP
  unfold m_Kind_own
  refine T.F_Kind_own.okX sc_Kind_own (fun vs H Q E h => pure_len h) (fun cdv AA outer s H vs Q E hr h => ?_)
  exact ⟨_, (pss_cons (ps_set (i := 3) sc_Kind_own.nd rfl (.inl rfl) (pe_meth (pv 0) T.cl_Kind T.me_Kind_number_of_x G_Kind_number_of_x (hr.mono (by decide)) T.b_Kind_number_of_x .nil (passes_call (takes_of rfl rfl rfl rfl) (fun _ _ _ _ z => z)) (pa_cons (pv 1) pa_nil)))
(pss_cons (ps_set (i := 4) sc_Kind_own.nd rfl (.inl rfl) (pe_ix (ix_seqK K) (pe_fldK K (pv 0) rfl) (pv 3) (fun _ _ => rfl)))
(pss_cons (ps_if (PW.pt (pw_or (pt_not (pt_val (pe_callB (call_isiKK K) (by rfl) T.n_isinstance (by decide +kernel) (pa_cons (pv 2) (pa_cons (pe_bltn (v := .ty "str") (u := .type "str") (by rfl) T.n_str (by decide +kernel) rfl) pa_nil))))) (pw_or1 (pt_cmpR (op_notIn_seqK K) (pv 2) (pe_ix (ix_seqK K) (pv 4) pe_int (fun _ _ => rfl)) (by rfl)))))
(pss_one (ps_raise rfl (takes_of rfl rfl rfl rfl) (pmk_err (er_BadPlace (P := P) (w := w) (base := base) T hP) (hr.mono (by decide)) (by rfl) T.g_BadPlace (pa_cons (pv 2) pa_nil))))
pss_nil)
(pss_cons (ps_set (i := 5) sc_Kind_own.nd rfl (.inl rfl) (pe_op (op_catAK K) (pe_slice (sl_tupAK K) (pv 4) po_none (po_some pe_int)) (pe_tup (pa_cons (pe_callTy (call_tuple_ofK K) (by rfl) T.n_tuple (by decide +kernel) (pa_cons (pe_lc (own := [("one", 6)]) (g := (gName 6)) (by rfl) sc_Kind_own.nd (pi_sqK K (pe_ix (ix_seqK K) (pv 4) pe_int (fun _ _ => rfl))) (blkOk_by (own := [("one", 6)]) (N := N_Kind_own) (sc := defScope s_Kind_own) (by decide +kernel)) (fun _ _ _ _ _ => (pg_name (i := 6) sc_Kind_own.nd rfl (.inl rfl))) (fun _ _ _ _ _ => (pts_one (pt_cmpR op_ne (pv 6) (pv 2) (nomark _)))) (fun _ _ _ _ _ => (pv 6))) pa_nil)) pa_nil))))
(pss_cons (ps_set (i := 7) sc_Kind_own.nd rfl (.inl rfl) (pe_op op_cat (pe_op op_cat (pe_slice (sl_listK K) (pe_fldK K (pv 0) rfl) po_none (po_some (pv 3))) (pe_lst (pa_cons (pv 5) pa_nil))) (pe_slice (sl_listK K) (pe_fldK K (pv 0) rfl) (po_some (pe_op op_add (pv 3) pe_int)) po_none)))
(pss_one (ps_ret (pe_makeK T.mk_Kind G_Kind___init__ (hr.mono (by decide)) (by rfl) T.g_Kind T.kb_Kind___init__ pass0 (pa_cons (pe_fldK K (pv 0) rfl) (pa_cons (pv 7) pa_nil)) (pk_cons (pe_fldK K (pv 0) rfl) pk_nil))))))))), pure_ok (N := N_Kind_own) (fun st => (ss_seq (ss_asg (se_meth sc_P (se_var 0) (sa_cons (se_var 1) sa_nil)) (sg_name 3))
(ss_seq (ss_asg (se_op so_ix (se_fld T.cl_Kind T.na_Kind_call_rows (se_var 0)) (se_var 3)) (sg_name 4))
(ss_seq (ss_if (st_or (st_not (st_val (se_cb so_isi (sa_cons (se_var 2) (sa_cons se_ty sa_nil))))) (st_test (se_op so_in (se_var 2) (se_op so_ix (se_var 4) se_int))))
(ss_raise1 T.xe_BadPlace.T (T.xe_BadPlace.nof _ (by simp)) (sa_cons (se_var 2) sa_nil))
ss_next)
(ss_seq (ss_asg (se_op so_catT (se_sl ss_tup (se_var 4) sp_none (sp_some se_int)) (se_tup (sa_cons (se_cb so_tuple (sa_cons (se_lc (si_sq (se_op so_ix (se_var 4) se_int)) (sw_name (vs := [6]) 6 (by decide)) (st_test (se_op so_ne (se_var 6) (se_var 2))) (se_var 6)) sa_nil)) sa_nil))) (sg_name 5))
(ss_seq (ss_asg (se_op so_cat (se_op so_cat (se_sl ss_lst (se_fld T.cl_Kind T.na_Kind_call_rows (se_var 0)) sp_none (sp_some (se_var 3))) (se_lst (sa_cons (se_var 5) sa_nil))) (se_sl ss_lst (se_fld T.cl_Kind T.na_Kind_call_rows (se_var 0)) (sp_some (se_op so_add (se_var 3) se_int)) sp_none)) (sg_name 7))
(ss_ret (se_makeF (sc_O0 ne_Kind___init__) (sa_cons (se_fld T.cl_Kind T.na_Kind_field_rows (se_var 0)) (sa_cons (se_var 7) sa_nil)) (sa_cons (se_fld T.cl_Kind T.na_Kind_modes (se_var 0)) sa_nil))))))))) h⟩
theorem ok_Kind___eq__ (T : Tx w K mg A B) : FnOk P w K mg base CX0 1 B.f_Kind___eq__ B.d_Kind___eq__ ["self", "other"] (spP K (m_Kind___eq__ A K)) := by
  unfold m_Kind___eq__
  refine T.F_Kind___eq__.ok sc_Kind___eq__ (fun vs H Q E h => pure_len0 h) (fun cdv AA outer s H vs Q E hr h => ?_)
  exact ⟨_, (pss_cons (ps_if (PW.pt (pw_or (pt_not (pt_val (pe_callB (call_isiKK K) (by rfl) T.n_isinstance (by decide +kernel) (pa_cons (pv 1) (pa_cons (pe_glob (v := .ref A.Kind) (by rfl) T.g_Kind rfl) pa_nil))))) (pw_or1 (pt_cmpR op_ne (pe_fldK K (pv 0) rfl) (pe_fldK K (pv 1) rfl) (nomark _)))))
(pss_one (ps_ret pe_bl))
pss_nil)
(pss_one (ps_ret (pe_and (pe_cmpR (op_eqDK K hr.units) (pe_fldK K (pv 0) rfl) (pe_fldK K (pv 1) rfl) (nomark _)) (pe_one (pe_cmpR (op_eqDK K hr.units) (pe_fldK K (pv 0) rfl) (pe_fldK K (pv 1) rfl) (nomark _))))))), pure_ok0 (N := N_Kind___eq__) (fun st => (ss_seq (ss_if (st_or (st_not (st_val (se_cb so_isi (sa_cons (se_var 1) (sa_cons se_cls sa_nil))))) (st_test (se_op so_ne (se_fld T.cl_Kind T.na_Kind_modes (se_var 0)) (se_fld T.cl_Kind T.na_Kind_modes (se_var 1)))))
(ss_ret se_bl)
ss_next)
(ss_ret (se_andV (se_op so_eqD (se_fld T.cl_Kind T.na_Kind_field_rows (se_var 0)) (se_fld T.cl_Kind T.na_Kind_field_rows (se_var 1))) (se_op so_eqD (se_fld T.cl_Kind T.na_Kind_call_rows (se_var 0)) (se_fld T.cl_Kind T.na_Kind_call_rows (se_var 1))))))) h⟩
theorem ok_law_same_e (T : Tx w K mg A B) : ∀ n : Nat, FnOk P w K mg base CX0 (1 + n) B.f_law_same_e B.d_law_same_e ["_law_found", "_law_due"] (spO K (m_law_same_e A K n))
  | 0 => fn_badO
  | n + 1 => by
    show FnOk P w K mg base CX0 (1 + n + 1) B.f_law_same_e B.d_law_same_e ["_law_found", "_law_due"] (spO K (ms_law_same_e (m_law_same_e A K n) A K))
    have G_law_same_e := ok_law_same_e T n
    unfold ms_law_same_e
    refine T.F_law_same_e.ok sc_law_same_e (fun vs H Q E h => open_len0 h) (fun cdv AA outer s H vs Q E hr h => ?_)
    exact ⟨_, (pss_cons (ps_if (pt_val (pe_callB (call_isiTK K) (by rfl) T.n_isinstance (by decide +kernel) (pa_cons (pv 1) (pa_cons (pe_tup (pa_cons (pe_bltn (v := .ty "list") (u := .type "list") (by rfl) T.n_list (by decide +kernel) rfl) (pa_cons (pe_bltn (v := .ty "tuple") (u := .type "tuple") (by rfl) T.n_tuple (by decide +kernel) rfl) pa_nil))) pa_nil))))
(pss_cons (ps_if (PW.pt (pw_or (pt_cmpR op_ne (pe_callB (call_isiKK K) (by rfl) T.n_isinstance (by decide +kernel) (pa_cons (pv 0) (pa_cons (pe_bltn (v := .ty "list") (u := .type "list") (by rfl) T.n_list (by decide +kernel) rfl) pa_nil))) (pe_callB (call_isiKK K) (by rfl) T.n_isinstance (by decide +kernel) (pa_cons (pv 1) (pa_cons (pe_bltn (v := .ty "list") (u := .type "list") (by rfl) T.n_list (by decide +kernel) rfl) pa_nil))) (nomark _)) (pw_or1 (pt_cmpR op_ne (pe_callB (call_isiKK K) (by rfl) T.n_isinstance (by decide +kernel) (pa_cons (pv 0) (pa_cons (pe_bltn (v := .ty "tuple") (u := .type "tuple") (by rfl) T.n_tuple (by decide +kernel) rfl) pa_nil))) (pe_callB (call_isiKK K) (by rfl) T.n_isinstance (by decide +kernel) (pa_cons (pv 1) (pa_cons (pe_bltn (v := .ty "tuple") (u := .type "tuple") (by rfl) T.n_tuple (by decide +kernel) rfl) pa_nil))) (nomark _)))))
(pss_one (ps_ret pe_bl))
pss_nil)
(pss_one (ps_ret (pe_and (pe_cmpR op_eq (pe_callB (call_lenAnyK K) (by rfl) T.n_len PySem.boot_len (pa_cons (pv 0) pa_nil)) (pe_callB (call_lenAnyK K) (by rfl) T.n_len PySem.boot_len (pa_cons (pv 1) pa_nil)) (nomark _)) (pe_one (pe_callB (cr_allK K rfl) (by rfl) T.n_all (by decide +kernel) (pa_cons (pe_lc (own := [("_law_a", 2), ("_law_b", 3)]) (g := (gTup K 2 (gCons (gName 2) (gCons (gName 3) gNil)))) (by rfl) sc_law_same_e.nd (RZ.pi_zipA (by rfl) T.n_zip (pa_cons (pv 0) (pa_cons (pv 1) pa_nil))) (blkOk_by (own := [("_law_a", 2), ("_law_b", 3)]) (N := N_law_same_e) (sc := defScope s_law_same_e) (by decide +kernel)) (fun _ _ _ _ _ => (pg_tup rfl (pgs_cons (pg_name (i := 2) sc_law_same_e.nd rfl (.inl rfl)) (pgs_cons (pg_name (i := 3) sc_law_same_e.nd rfl (.inl rfl)) pgs_nil)))) (fun _ _ _ _ _ => pts_nil) (fun _ _ _ _ _ => (pe_call G_law_same_e (hr.mono (by omega)) (by rfl) T.m_law_same_e T.F_law_same_e.kp T.b_law_same_e .nil pass0 (pa_cons (pv 2) (pa_cons (pv 3) pa_nil))))) pa_nil)))))))
pss_nil)
(pss_cons (ps_if (pt_val (pe_callB (call_isiKK K) (by rfl) T.n_isinstance (by decide +kernel) (pa_cons (pv 1) (pa_cons (pe_bltn (v := .ty "int") (u := .type "int") (by rfl) T.n_int (by decide +kernel) rfl) pa_nil))))
(pss_one (ps_ret (pe_and (pe_callB (call_isiKK K) (by rfl) T.n_isinstance (by decide +kernel) (pa_cons (pv 0) (pa_cons (pe_bltn (v := .ty "int") (u := .type "int") (by rfl) T.n_int (by decide +kernel) rfl) pa_nil))) (pe_and (pe_cmpR op_eq (pe_callB (call_isiKK K) (by rfl) T.n_isinstance (by decide +kernel) (pa_cons (pv 0) (pa_cons (pe_bltn (v := .ty "bool") (u := .type "bool") (by rfl) T.n_bool (by decide +kernel) rfl) pa_nil))) (pe_callB (call_isiKK K) (by rfl) T.n_isinstance (by decide +kernel) (pa_cons (pv 1) (pa_cons (pe_bltn (v := .ty "bool") (u := .type "bool") (by rfl) T.n_bool (by decide +kernel) rfl) pa_nil))) (nomark _)) (pe_one (pe_cmpR (op_eqXK K hr.units) (pv 0) (pv 1) (nomark _)))))))
pss_nil)
(pss_one (ps_ret (pe_and (pe_cmpR op_isBl (pe_callB (call_isiTK K) (by rfl) T.n_isinstance (by decide +kernel) (pa_cons (pv 0) (pa_cons (pe_tup (pa_cons (pe_bltn (v := .ty "bool") (u := .type "bool") (by rfl) T.n_bool (by decide +kernel) rfl) (pa_cons (pe_bltn (v := .ty "int") (u := .type "int") (by rfl) T.n_int (by decide +kernel) rfl) (pa_cons (pe_bltn (v := .ty "list") (u := .type "list") (by rfl) T.n_list (by decide +kernel) rfl) (pa_cons (pe_bltn (v := .ty "tuple") (u := .type "tuple") (by rfl) T.n_tuple (by decide +kernel) rfl) pa_nil))))) pa_nil))) pe_bl (nomark _)) (pe_one (pe_cmpR (op_eqXK K hr.units) (pv 0) (pv 1) (nomark _)))))))), open_ok0 (N := N_law_same_e) (fun st => (ss_seq (ss_if (st_val (se_isT (se_var 1) (sa_cons se_ty (sa_cons se_ty sa_nil))))
(ss_seq (ss_if (st_or (st_test (se_op so_ne (se_cb so_isi (sa_cons (se_var 0) (sa_cons se_ty sa_nil))) (se_cb so_isi (sa_cons (se_var 1) (sa_cons se_ty sa_nil))))) (st_test (se_op so_ne (se_cb so_isi (sa_cons (se_var 0) (sa_cons se_ty sa_nil))) (se_cb so_isi (sa_cons (se_var 1) (sa_cons se_ty sa_nil))))))
(ss_ret se_bl)
ss_next)
(ss_ret (se_andV (se_op so_eq (se_cb so_len (sa_cons (se_var 0) sa_nil)) (se_cb so_len (sa_cons (se_var 1) sa_nil))) (se_cb so_all (sa_cons (se_lc (si_zip (sa_cons (se_var 0) (sa_cons (se_var 1) sa_nil))) (sw_tup (sw_cons (vs := [2, 3]) (by decide) (sw_cons (vs := [2, 3]) (by decide) sw_nil))) st_yes (se_call (sc_O0 (ne_law_same_e _)) (sa_cons (se_var 2) (sa_cons (se_var 3) sa_nil)))) sa_nil)))))
ss_next)
(ss_seq (ss_if (st_val (se_cb so_isi (sa_cons (se_var 1) (sa_cons se_ty sa_nil))))
(ss_ret (se_andV (se_cb so_isi (sa_cons (se_var 0) (sa_cons se_ty sa_nil))) (se_andV (se_op so_eq (se_cb so_isi (sa_cons (se_var 0) (sa_cons se_ty sa_nil))) (se_cb so_isi (sa_cons (se_var 1) (sa_cons se_ty sa_nil)))) (se_op so_eqX (se_var 0) (se_var 1)))))
ss_next)
(ss_ret (se_andV (se_op so_isB (se_isT (se_var 0) (sa_cons se_ty (sa_cons se_ty (sa_cons se_ty (sa_cons se_ty sa_nil))))) se_bl) (se_op so_eqX (se_var 0) (se_var 1))))))) h⟩
end
end Mz
end
section
set_option Elab.async false
set_option linter.all false
set_option maxRecDepth 100000
set_option maxHeartbeats 4000000
namespace Mz
open PySem L2
section
variable {P : Program} {w : World} {K : PySem.W.Frag} {mg : Str → Option Value} {base : Heap} {A : Ad} {B : Bd}
theorem ok_law (T : Tx w K mg A B) (oi_Kind : OwnI K A.Kind) (hP : SupP P lawFile) (TB : ∀ c, B.d_law.code = .ref c → LamX.TabB base mg c A.lawT) : FnOk P w K mg base CX0 13 B.f_law B.d_law ["_law_script"] (spLawT K A.lawT) := by
  have G_law_fresh := ok_law_fresh (P := P) (base := base) T
  have G_law_error := ok_law_error (P := P) (base := base) T
  have G_law_one := ok_law_one (P := P) (base := base) T
  have G_Kind___init__ := ok_Kind___init__ (P := P) (base := base) T
  have G_law_kind := ok_law_kind (P := P) (base := base) T
  have G_Kind_own := ok_Kind_own (P := P) (base := base) T hP
  have G_Kind___eq__ := ok_Kind___eq__ (P := P) (base := base) T
  have G_law_same_e := ok_law_same_e (P := P) (base := base) T 6
  refine T.F_law.okT sc_law (fun vs H Q E h => ?_) (fun c hc AA outer s H vs Q E hr h => ?_)
  · obtain ⟨a, ns, rfl, _⟩ := h; rfl
  · exact ⟨_, (pss_cons (ps_set (i := 1) sc_law.nd rfl (.inl rfl) (pe_call G_law_fresh (hr.mono (by decide)) (by rfl) T.m_law_fresh T.F_law_fresh.kp T.b_law_fresh .nil pass0 (pa_cons (pv 0) pa_nil)))
(pss_cons (ps_for PassesOwn.never rfl (pi_range1 (by rfl) T.n_range (pa_cons pe_int pa_nil)) (pg_name (i := 2) sc_law.nd rfl (.inl rfl))
(pss_cons (ps_set (i := 3) sc_law.nd rfl (.inl rfl) (pe_call G_law_kind (hr.mono (by decide)) (by rfl) T.m_law_kind T.F_law_kind.kp T.b_law_kind .nil pass0 (pa_cons (pv 1) (pa_cons pe_int (pa_cons pe_int (pa_cons pe_int pa_nil))))))
(pss_cons (ps_set (i := 4) sc_law.nd rfl (.inr rfl) (pe_dget (hu_of hr) (pv 3) pe_str (fun _ _ => rfl)))
(pss_cons (ps_for PassesOwn.never rfl (pi_enSq (by rfl) T.n_enumerate (pa_cons (pe_dget (hu_of hr) (pv 3) pe_str (fun _ _ => rfl)) pa_nil)) (pg_tup rfl (pgs_cons (pg_name (i := 5) sc_law.nd rfl (.inl rfl)) (pgs_cons (pg_name (i := 6) sc_law.nd rfl (.inr rfl)) pgs_nil)))
(pss_cons (ps_for PassesOwn.never rfl (pi_sqK K (pe_ix (ix_seqK K) (pv 6) pe_int (fun _ _ => rfl))) (pg_name (i := 7) sc_law.nd rfl (.inr rfl))
(pss_cons (ps_set (i := 8) sc_law.nd rfl (.inl rfl) (pe_op (op_catAK K) (pe_slice (sl_tupAK K) (pv 6) po_none (po_some pe_int)) (pe_tup (pa_cons (pe_lc (own := [("_law_x", 9)]) (g := (gName 9)) (by rfl) sc_law.nd (pi_sqK K (pe_ix (ix_seqK K) (pv 6) pe_int (fun _ _ => rfl))) (blkOk_by (own := [("_law_x", 9)]) (N := N_law) (sc := defScope s_law) (by decide +kernel)) (fun _ _ _ _ _ => (pg_name (i := 9) sc_law.nd rfl (.inl rfl))) (fun _ _ _ _ _ => (pts_one (pt_cmpR op_ne (pv 9) (pv 7) (nomark _)))) (fun _ _ _ _ _ => (pv 9))) pa_nil))))
(pss_cons (ps_set (i := 10) sc_law.nd rfl (.inl rfl) (pe_makeK T.mk_Kind G_Kind___init__ (hr.mono (by decide)) (by rfl) T.g_Kind T.kb_Kind___init__ pass0 (pa_cons (pe_dget (hu_of hr) (pv 3) pe_str (fun _ _ => rfl)) (pa_cons (pe_op op_cat (pe_op op_cat (pe_slice (sl_listK K) (pe_dget (hu_of hr) (pv 3) pe_str (fun _ _ => rfl)) po_none (po_some (pv 5))) (pe_lst (pa_cons (pv 8) pa_nil))) (pe_slice (sl_listK K) (pe_dget (hu_of hr) (pv 3) pe_str (fun _ _ => rfl)) (po_some (pe_op op_add (pv 5) pe_int)) po_none)) pa_nil)) (pk_cons (pe_dget (hu_of hr) (pv 3) pe_str (fun _ _ => rfl)) pk_nil)))
(pss_one (ps_if (pt_cmpR (op_ownNe G_Kind___eq__ T.oc_Kind T.b_Kind___eq__ pass0 (hr.mono (by decide))) (pe_meth (pv 4) T.cl_Kind T.me_Kind_own G_Kind_own (hr.mono (by decide)) T.b_Kind_own .nil passL (pa_cons (pe_ix (ix_seqK K) (pv 6) pe_int (fun _ _ => rfl)) (pa_cons (pv 7) pa_nil))) (pv 10) (nomark _))
(pss_one (ps_ret pe_bl))
pss_nil)))))
(pss_cons (ps_set (i := 7) sc_law.nd rfl (.inr rfl) (pe_call G_law_one (hr.mono (by decide)) (by rfl) T.m_law_one T.F_law_one.kp T.b_law_one .nil pass0 (pa_cons (pv 1) (pa_cons (pe_op op_cat (pe_lc (own := [("_law_x", 9)]) (g := (gName 9)) (by rfl) sc_law.nd (pi_sqK K (pe_dget (hu_of hr) (pv 3) pe_str (fun _ _ => rfl))) (blkOk_by (own := [("_law_x", 9)]) (N := N_law) (sc := defScope s_law) (by decide +kernel)) (fun _ _ _ _ _ => (pg_name (i := 9) sc_law.nd rfl (.inl rfl))) (fun _ _ _ _ _ => pts_nil) (fun _ _ _ _ _ => (pe_ix (ix_seqK K) (pv 9) pe_int (fun _ _ => rfl)))) (pe_lst (pa_cons pe_non (pa_cons pe_int (pa_cons pe_str (pa_cons pe_dnewK (pa_cons (pe_lst (pa_cons (pe_ix (ix_seqK K) (pv 6) pe_int (fun _ _ => rfl)) pa_nil)) pa_nil))))))) pa_nil))))
(pss_cons (ps_if (pt_not (PW.pt (pw_and (pt_val (pe_callB (call_isiKK K) (by rfl) T.n_isinstance (by decide +kernel) (pa_cons (pv 7) (pa_cons (pe_bltn (v := .ty "str") (u := .type "str") (by rfl) T.n_str (by decide +kernel) rfl) pa_nil)))) (pw_and1 (pt_cmpR (op_in_seqK K) (pv 7) (pe_ix (ix_seqK K) (pv 6) pe_int (fun _ _ => rfl)) (by rfl))))))
(pss_one (ps_if (pt_not (pt_val (pe_call G_law_same_e (hr.mono (by decide)) (by rfl) T.m_law_same_e T.F_law_same_e.kp T.b_law_same_e .nil pass0 (pa_cons (pe_lamX (k := 10) (qual := "law") (by rfl) T.m_law_tried T.F_law_tried T.b_law_tried sc_law_tried rfl (.inl rfl) (fun cdv => tried_gives (i := 1) (sg := defScope s_law_tried) (e := "MakerError") (le := "_law_error") (n := "_law_e") (k := 2) T.xk (by rfl) T.g_MakerError (by decide) G_law_error (hr.mono (by decide)) (by rfl) T.m_law_error T.F_law_error.kp T.b_law_error (by decide) sc_law_tried.nd rfl rfl (by decide) (by decide) (fun _ => rfl) (by decide)) (TB _ hc) rfl (hr.mono (by decide)) (show LamX.LamS (defScope s_law) _ from LamX.lamS_by (by decide +kernel)) rfl (fun _ _ _ _ _ => rfl) (fun _ _ _ _ _ _ _ hr2 => (pe_meth (pv 4) T.cl_Kind T.me_Kind_own G_Kind_own (hr2.mono (by decide)) T.b_Kind_own .nil (passes_call (takes_of rfl rfl rfl rfl) (fun _ _ _ _ z => z)) (pa_cons (pe_ix (ix_seqK K) (pv 6) pe_int (fun _ _ => rfl)) (pa_cons (pv 7) pa_nil))))) (pa_cons (pe_tup (pa_cons pe_str (pa_cons (pv 7) pa_nil))) pa_nil)))))
(pss_one (ps_ret pe_bl))
pss_nil))
pss_nil)
(pss_cons (ps_set (i := 11) sc_law.nd rfl (.inr rfl) (pe_call G_law_one (hr.mono (by decide)) (by rfl) T.m_law_one T.F_law_one.kp T.b_law_one .nil pass0 (pa_cons (pv 1) (pa_cons (pe_lst (pa_cons pe_non (pa_cons pe_int (pa_cons pe_str (pa_cons (pe_lst (pa_cons (pe_ix (ix_seqK K) (pv 6) pe_int (fun _ _ => rfl)) pa_nil)) (pa_cons pe_dnewK (pa_cons pe_bl pa_nil))))))) pa_nil))))
(pss_one (ps_if (pt_not (pt_val (pe_call G_law_same_e (hr.mono (by decide)) (by rfl) T.m_law_same_e T.F_law_same_e.kp T.b_law_same_e .nil pass0 (pa_cons (pe_lamX (k := 10) (qual := "law") (by rfl) T.m_law_tried T.F_law_tried T.b_law_tried sc_law_tried rfl (.inl rfl) (fun cdv => tried_gives (i := 1) (sg := defScope s_law_tried) (e := "MakerError") (le := "_law_error") (n := "_law_e") (k := 2) T.xk (by rfl) T.g_MakerError (by decide) G_law_error (hr.mono (by decide)) (by rfl) T.m_law_error T.F_law_error.kp T.b_law_error (by decide) sc_law_tried.nd rfl rfl (by decide) (by decide) (fun _ => rfl) (by decide)) (TB _ hc) rfl (hr.mono (by decide)) (show LamX.LamS (defScope s_law) _ from LamX.lamS_by (by decide +kernel)) rfl (fun _ _ _ _ _ => rfl) (fun _ _ _ _ _ _ _ hr2 => (pe_meth (pv 4) T.cl_Kind T.me_Kind_own G_Kind_own (hr2.mono (by decide)) T.b_Kind_own .nil (passes_call (takes_of rfl rfl rfl rfl) (fun _ _ _ _ z => z)) (pa_cons (pv 11) (pa_cons (pv 7) pa_nil))))) (pa_cons (pe_tup (pa_cons pe_str (pa_cons (pv 11) pa_nil))) pa_nil)))))
(pss_one (ps_ret pe_bl))
pss_nil)))))))
(pss_one (ps_if (pt_cmpR (op_ownNe G_Kind___eq__ T.oc_Kind T.b_Kind___eq__ pass0 (hr.mono (by decide))) (pv 4) (pe_makeK T.mk_Kind G_Kind___init__ (hr.mono (by decide)) (by rfl) T.g_Kind T.kb_Kind___init__ pass0 (pa_cons (pe_dget (hu_of hr) (pv 3) pe_str (fun _ _ => rfl)) (pa_cons (pe_dget (hu_of hr) (pv 3) pe_str (fun _ _ => rfl)) pa_nil)) (pk_cons (pe_dget (hu_of hr) (pv 3) pe_str (fun _ _ => rfl)) pk_nil)) (nomark _))
(pss_one (ps_ret pe_bl))
pss_nil))))))
(pss_one (ps_ret pe_bl)))), law_okT (A := A) (N := N_law) (m := 10) (fun st => (ss_seq (ss_for (si_r1 (sa_cons se_int sa_nil)) (sg_name 2)
(ss_seq (ss_asg (se_call (sc_P0 ne_law_kind) (sa_cons (se_var 1) (sa_cons se_int (sa_cons se_int (sa_cons se_int sa_nil))))) (sg_name 3))
(ss_seq (ss_asg (se_dget (se_var 3) se_str) (sg_name 4))
(ss_seq (ss_for (si_en (sa_cons (se_dget (se_var 3) se_str) sa_nil)) (sg_tup (sg_cons (sg_name 5) (sg_cons (sg_name 6) sg_nil)))
(ss_seq (ss_for (si_sq (se_op so_ix (se_var 6) se_int)) (sg_name 7)
(ss_seq (ss_asg (se_op so_catT (se_sl ss_tup (se_var 6) sp_none (sp_some se_int)) (se_tup (sa_cons (se_fz (se_lc (si_sq (se_op so_ix (se_var 6) se_int)) (sw_name (vs := [9]) 9 (by decide)) (st_test (se_op so_ne (se_var 9) (se_var 7))) (se_var 9))) sa_nil))) (sg_name 8))
(ss_seq (ss_asg (se_makeF (sc_O0 ne_Kind___init__) (sa_cons (se_dget (se_var 3) se_str) (sa_cons (se_op so_cat (se_op so_cat (se_sl ss_lst (se_dget (se_var 3) se_str) sp_none (sp_some (se_var 5))) (se_lst (sa_cons (se_var 8) sa_nil))) (se_sl ss_lst (se_dget (se_var 3) se_str) (sp_some (se_op so_add (se_var 5) se_int)) sp_none)) sa_nil)) (sa_cons (se_dget (se_var 3) se_str) sa_nil)) (sg_name 10))
(ss_if (st_test (se_op (so_own (sc_P0 ne_Kind___eq__)) (se_meth sc_PN (se_var 4) (sa_cons (se_op so_ix (se_var 6) se_int) (sa_cons (se_var 7) sa_nil))) (se_var 10)))
(ss_ret se_bl)
ss_next))))
(ss_seq (ss_asg (se_call (sc_P0 ne_law_one) (sa_cons (se_var 1) (sa_cons (se_op so_cat (se_lc (si_sq (se_dget (se_var 3) se_str)) (sw_name (vs := [9]) 9 (by decide)) st_yes (se_op so_ix (se_var 9) se_int)) (se_lstF (sa_cons se_non (sa_cons se_int (sa_cons se_str (sa_cons se_dF (sa_cons (se_lstF (sa_cons (se_op so_ix (se_var 6) se_int) sa_nil)) sa_nil))))))) sa_nil))) (sg_name 7))
(ss_seq (ss_if (st_not (st_and (st_val (se_cb (show SB ⟨K, st⟩ (rIsi K) (oIsi K) from so_isi) (sa_cons (se_var 7) (sa_cons se_ty sa_nil)))) (st_test (se_op so_in (se_var 7) (se_op so_ix (se_var 6) se_int)))))
(ss_if (st_not (st_val (se_call (sc_O0 (ne_law_same_e _)) (sa_cons (se_tried (fun _ => (se_meth sc_P (se_var 4) (sa_cons (se_op so_ix (se_var 6) se_int) (sa_cons (se_var 7) sa_nil))))) (sa_cons (se_tup (sa_cons se_str (sa_cons (se_var 7) sa_nil))) sa_nil)))))
(ss_ret se_bl)
ss_next)
ss_next)
(ss_seq (ss_asg (se_call (sc_P0 ne_law_one) (sa_cons (se_var 1) (sa_cons (se_lstF (sa_cons se_non (sa_cons se_int (sa_cons se_str (sa_cons (se_lstF (sa_cons (se_op so_ix (se_var 6) se_int) sa_nil)) (sa_cons se_dF (sa_cons se_bl sa_nil))))))) sa_nil))) (sg_name 11))
(ss_if (st_not (st_val (se_call (sc_O0 (ne_law_same_e _)) (sa_cons (se_tried (fun _ => (se_meth sc_P (se_var 4) (sa_cons (se_var 11) (sa_cons (se_var 7) sa_nil))))) (sa_cons (se_tup (sa_cons se_str (sa_cons (se_var 11) sa_nil))) sa_nil)))))
(ss_ret se_bl)
ss_next))))))
(ss_if (st_test (se_op (so_own (sc_P0 ne_Kind___eq__)) (se_var 4) (se_makeF (sc_O0 ne_Kind___init__) (sa_cons (se_dget (se_var 3) se_str) (sa_cons (se_dget (se_var 3) se_str) sa_nil)) (sa_cons (se_dget (se_var 3) se_str) sa_nil))))
(ss_ret se_bl)
ss_next)))))
(ss_ret se_bl))) rfl (fun D hD hE => x_law04 oi_Kind hD hE) h⟩
end
end Mz
end
section
set_option Elab.async false
set_option linter.all false
set_option maxRecDepth 100000
set_option maxHeartbeats 4000000
set_option maxHeartbeats 0
namespace Mz
open PySem L2
theorem hk_facts {l : PySem.W.OpenLaw} {w : World} {K : PySem.W.Frag} {h : Heap} {mg : Str → Option Value} {fa : Addr} (X : K.In h) (G : h.Ns mainGlobals mg) (hfa : mg "law" = some (.ref fa)) (hP : SupP l.prog lawFile) (c : SaysZ hk_fa hk_fn hk_ts hk_en [("law", none)] hk_x w h K) :
    LamX.LawAtS l w K CX0 13 63 "_law_script" mg fa h := by
  obtain ⟨fd_law_fill, F_law_fill⟩ := c.t.d.def_ 0 (d := hd_law_fill) rfl
  obtain ⟨fd_law_take, F_law_take⟩ := c.t.d.def_ 1 (d := hd_law_take) rfl
  obtain ⟨fd_law_fresh, F_law_fresh⟩ := c.t.d.def_ 2 (d := hd_law_fresh) rfl
  obtain ⟨fd_law_other_error, F_law_other_error⟩ := c.t.d.def_ 3 (d := hd_law_other_error) rfl
  obtain ⟨fd_law_error, F_law_error⟩ := c.t.d.def_ 4 (d := hd_law_error) rfl
  obtain ⟨fd_law_tried, F_law_tried⟩ := c.t.d.def_ 5 (d := hd_law_tried) rfl
  obtain ⟨fd_law_one, F_law_one⟩ := c.t.d.def_ 6 (d := hd_law_one) rfl
  obtain ⟨fd_law_mix, F_law_mix⟩ := c.t.d.def_ 7 (d := hd_law_mix) rfl
  obtain ⟨fd_is_integer, F_is_integer⟩ := c.t.d.def_ 8 (d := hd_is_integer) rfl
  obtain ⟨fd_is_between, F_is_between⟩ := c.t.d.def_ 9 (d := hd_is_between) rfl
  obtain ⟨fd_is_list, F_is_list⟩ := c.t.d.def_ 10 (d := hd_is_list) rfl
  obtain ⟨fd_is_row, F_is_row⟩ := c.t.d.def_ 11 (d := hd_is_row) rfl
  obtain ⟨fd_is_word, F_is_word⟩ := c.t.d.def_ 12 (d := hd_is_word) rfl
  obtain ⟨fd_are_unlike, F_are_unlike⟩ := c.t.d.def_ 13 (d := hd_are_unlike) rfl
  obtain ⟨fd_checked_fields, F_checked_fields⟩ := c.t.d.def_ 14 (d := hd_checked_fields) rfl
  obtain ⟨fd_is_deed, F_is_deed⟩ := c.t.d.def_ 15 (d := hd_is_deed) rfl
  obtain ⟨fd_is_same, F_is_same⟩ := c.t.d.def_ 16 (d := hd_is_same) rfl
  obtain ⟨fd_reason_against, F_reason_against⟩ := c.t.d.def_ 17 (d := hd_reason_against) rfl
  obtain ⟨fd_checked_calls, F_checked_calls⟩ := c.t.d.def_ 18 (d := hd_checked_calls) rfl
  obtain ⟨fd_Kind___init__, F_Kind___init__⟩ := c.t.d.def_ 19 (d := hd_Kind___init__) rfl
  obtain ⟨oc_Kind___init__, od_Kind___init__, kV_Kind___init__, dc_Kind___init__, pm_Kind___init__, an_Kind___init__, cd_Kind___init__, ct_Kind___init__, sl_Kind___init__, e_Kind___init__, _⟩ := (fun_of (st := s_Kind___init__) F_Kind___init__).ex
  obtain ⟨fd_law_plan, F_law_plan⟩ := c.t.d.def_ 20 (d := hd_law_plan) rfl
  obtain ⟨fd_law_deeds, F_law_deeds⟩ := c.t.d.def_ 21 (d := hd_law_deeds) rfl
  obtain ⟨fd_law_call, F_law_call⟩ := c.t.d.def_ 22 (d := hd_law_call) rfl
  obtain ⟨fd_law_kind, F_law_kind⟩ := c.t.d.def_ 23 (d := hd_law_kind) rfl
  obtain ⟨fd_law_same, F_law_same⟩ := c.t.d.def_ 24 (d := hd_law_same) rfl
  obtain ⟨fd_Kind_own, F_Kind_own⟩ := c.t.d.def_ 25 (d := hd_Kind_own) rfl
  obtain ⟨fd_Kind___eq__, F_Kind___eq__⟩ := c.t.d.def_ 26 (d := hd_Kind___eq__) rfl
  obtain ⟨fd_law, F_law⟩ := c.t.d.def_ 27 (d := hd_law) rfl
  obtain ⟨fd_Kind_number_of_x, F_Kind_number_of_x⟩ := c.t.d.def_ 28 (d := hd_Kind_number_of_x) rfl
  obtain ⟨tk_LETTERS, g_LETTERS⟩ := He.str_ok X G (c.t.d.fact 56 (f := .str "LETTERS" "abcdefghijklmnopqrstuvwxyz") rfl)
  obtain ⟨tk_LONGEST, g_LONGEST⟩ := He.int_ok X G (c.t.d.fact 57 (f := .int "LONGEST" 8) rfl)
  obtain ⟨tk_MOST_CALLS, g_MOST_CALLS⟩ := He.int_ok X G (c.t.d.fact 58 (f := .int "MOST_CALLS" 6) rfl)
  obtain ⟨tk_MOST_DEEDS, g_MOST_DEEDS⟩ := He.int_ok X G (c.t.d.fact 59 (f := .int "MOST_DEEDS" 4) rfl)
  obtain ⟨tk_MOST_FIELDS, g_MOST_FIELDS⟩ := He.int_ok X G (c.t.d.fact 60 (f := .int "MOST_FIELDS" 3) rfl)
  obtain ⟨tk_MOST_MODES, g_MOST_MODES⟩ := He.int_ok X G (c.t.d.fact 61 (f := .int "MOST_MODES" 4) rfl)
  obtain ⟨es_D, n_D, kd_D⟩ := c.t.tab 0 (t := (fun K => He.ga K "DEEDS", ["one", "many"])) rfl
  have e := hfa.symm.trans (He.glo_ok X G (c.t.d.fact 25 (f := .glo "law") rfl))
  cases e
  have T : Tx w K mg ⟨He.ga K "MakerError", He.ga K "BadField", He.ga K "BadModes", He.ga K "BadCall", He.ga K "UnknownCall", He.ga K "BadPlace", He.ga K "BadText", He.ga K "BadRow", He.ga K "BadWord", He.ga K "Refused", He.ga K "BadThing", He.ga K "BadWish", He.ga K "BadRun", He.ga K "BadCallers", He.ga K "BadKind", He.ga K "BadRule", He.ga K "Kind", 0, 0, 0, 0, 0, 0, 0, 0, 0, 0, 0, He.ga K "HANDS", He.ga K "DEEDS", dkA K "DEEDS" "one", dkA K "DEEDS" "many", He.ga K "TAKING", 0, 0, (He.cT K ("law", none)).2⟩ { tk_LETTERS := tk_LETTERS, tk_LONGEST := tk_LONGEST, tk_MOST_CALLS := tk_MOST_CALLS, tk_MOST_DEEDS := tk_MOST_DEEDS, tk_MOST_FIELDS := tk_MOST_FIELDS, tk_MOST_MODES := tk_MOST_MODES, f_law_fill := (He.ga K "_law_fill"), d_law_fill := fd_law_fill, f_law_take := (He.ga K "_law_take"), d_law_take := fd_law_take, f_law_fresh := (He.ga K "_law_fresh"), d_law_fresh := fd_law_fresh, f_law_other_error := (He.ga K "_law_other_error"), d_law_other_error := fd_law_other_error, f_law_error := (He.ga K "_law_error"), d_law_error := fd_law_error, f_law_tried := (He.ga K "_law_tried"), d_law_tried := fd_law_tried, f_law_one := (He.ga K "_law_one"), d_law_one := fd_law_one, f_law_mix := (He.ga K "_law_mix"), d_law_mix := fd_law_mix, f_is_integer := (He.ga K "is_integer"), d_is_integer := fd_is_integer, f_is_between := (He.ga K "is_between"), d_is_between := fd_is_between, f_is_list := (He.ga K "is_list"), d_is_list := fd_is_list, f_is_row := (He.ga K "is_row"), d_is_row := fd_is_row, f_is_word := (He.ga K "is_word"), d_is_word := fd_is_word, f_are_unlike := (He.ga K "are_unlike"), d_are_unlike := fd_are_unlike, f_checked_fields := (He.ga K "checked_fields"), d_checked_fields := fd_checked_fields, f_is_deed := (He.ga K "is_deed"), d_is_deed := fd_is_deed, f_is_same := (He.ga K "is_same"), d_is_same := fd_is_same, f_reason_against := (He.ga K "reason_against"), d_reason_against := fd_reason_against, f_checked_calls := (He.ga K "checked_calls"), d_checked_calls := fd_checked_calls, f_Kind___init__ := (He.ma K (He.ga K "Kind") "__init__"), d_Kind___init__ := fd_Kind___init__, f_law_plan := (He.ga K "_law_plan"), d_law_plan := fd_law_plan, f_law_deeds := (He.ga K "_law_deeds"), d_law_deeds := fd_law_deeds, f_law_call := (He.ga K "_law_call"), d_law_call := fd_law_call, f_law_kind := (He.ga K "_law_kind"), d_law_kind := fd_law_kind, f_law_same := (He.ga K "_law_same"), d_law_same := fd_law_same, f_Kind_number_of_x := (He.ma K (He.ga K "Kind") "number_of"), d_Kind_number_of_x := fd_Kind_number_of_x, f_Kind_own := (He.ma K (He.ga K "Kind") "own"), d_Kind_own := fd_Kind_own, f_Kind___eq__ := (He.ma K (He.ga K "Kind") "__eq__"), d_Kind___eq__ := fd_Kind___eq__, f_law_same_e := (He.ga K "_law_same"), d_law_same_e := fd_law_same, f_law := (He.ga K "law"), d_law := fd_law } := {
    xk := errKZ_ok (ex_at c.more 0 (f := errKZ) rfl) rfl rfl
    xe_BadPlace := errZ_ok (He.free_ok X G (c.t.d.fact 27 (f := .free "super") rfl)) (en_at c.en 0 (e := ed_BadPlace) rfl) (ex_at c.more 1 (f := errZ lawFile ed_BadPlace) rfl)
    xe_UnknownCall := errZ_ok (He.free_ok X G (c.t.d.fact 27 (f := .free "super") rfl)) (en_at c.en 1 (e := ed_UnknownCall) rfl) (ex_at c.more 2 (f := errZ lawFile ed_UnknownCall) rfl)
    n_len := He.free_ok X G (c.t.d.fact 28 (f := .free "len") rfl)
    n_int := He.free_ok X G (c.t.d.fact 29 (f := .free "int") rfl)
    n_str := He.free_ok X G (c.t.d.fact 30 (f := .free "str") rfl)
    n_bool := He.free_ok X G (c.t.d.fact 31 (f := .free "bool") rfl)
    n_list := He.free_ok X G (c.t.d.fact 32 (f := .free "list") rfl)
    n_tuple := He.free_ok X G (c.t.d.fact 33 (f := .free "tuple") rfl)
    n_range := He.free_ok X G (c.t.d.fact 34 (f := .free "range") rfl)
    n_enumerate := He.free_ok X G (c.t.d.fact 35 (f := .free "enumerate") rfl)
    n_zip := He.free_ok X G (c.t.d.fact 36 (f := .free "zip") rfl)
    n_isinstance := He.free_ok X G (c.t.d.fact 37 (f := .free "isinstance") rfl)
    n_all := He.free_ok X G (c.t.d.fact 38 (f := .free "all") rfl)
    cl_Kind := (He.cls_ok (c.t.d.fact 39 (f := .cls "Kind") rfl))
    g_BadCall := He.glo_ok X G (c.t.d.fact 40 (f := .glo "BadCall") rfl)
    g_BadCallers := He.glo_ok X G (c.t.d.fact 41 (f := .glo "BadCallers") rfl)
    g_BadField := He.glo_ok X G (c.t.d.fact 42 (f := .glo "BadField") rfl)
    g_BadKind := He.glo_ok X G (c.t.d.fact 43 (f := .glo "BadKind") rfl)
    g_BadModes := He.glo_ok X G (c.t.d.fact 44 (f := .glo "BadModes") rfl)
    g_BadPlace := He.glo_ok X G (c.t.d.fact 45 (f := .glo "BadPlace") rfl)
    g_BadRow := He.glo_ok X G (c.t.d.fact 46 (f := .glo "BadRow") rfl)
    g_BadRule := He.glo_ok X G (c.t.d.fact 47 (f := .glo "BadRule") rfl)
    g_BadRun := He.glo_ok X G (c.t.d.fact 48 (f := .glo "BadRun") rfl)
    g_BadText := He.glo_ok X G (c.t.d.fact 49 (f := .glo "BadText") rfl)
    g_BadThing := He.glo_ok X G (c.t.d.fact 50 (f := .glo "BadThing") rfl)
    g_BadWish := He.glo_ok X G (c.t.d.fact 51 (f := .glo "BadWish") rfl)
    g_BadWord := He.glo_ok X G (c.t.d.fact 52 (f := .glo "BadWord") rfl)
    g_DEEDS := He.glo_ok X G (c.t.d.fact 53 (f := .glo "DEEDS") rfl)
    g_HANDS := He.glo_ok X G (c.t.d.fact 54 (f := .glo "HANDS") rfl)
    g_Kind := He.glo_ok X G (c.t.d.fact 55 (f := .glo "Kind") rfl)
    g_LETTERS := g_LETTERS
    g_LONGEST := g_LONGEST
    g_MOST_CALLS := g_MOST_CALLS
    g_MOST_DEEDS := g_MOST_DEEDS
    g_MOST_FIELDS := g_MOST_FIELDS
    g_MOST_MODES := g_MOST_MODES
    g_MakerError := He.glo_ok X G (c.t.d.fact 62 (f := .glo "MakerError") rfl)
    g_Refused := He.glo_ok X G (c.t.d.fact 63 (f := .glo "Refused") rfl)
    g_UnknownCall := He.glo_ok X G (c.t.d.fact 64 (f := .glo "UnknownCall") rfl)
    kd_many := dk_ok kd_D (ex_at c.more 3 (f := dkB "DEEDS" "many") rfl)
    kd_one := dk_ok kd_D (ex_at c.more 4 (f := dkB "DEEDS" "one") rfl)
    mk_Kind := He.mkr_ok (c.t.d.fact 65 (f := .mkr "Kind") rfl)
    na_BadCall_index := He.noat_ok (c.t.d.fact 66 (f := .noat "BadCall" "index") rfl)
    na_BadCall_reason := He.noat_ok (c.t.d.fact 67 (f := .noat "BadCall" "reason") rfl)
    na_BadCallers_callers := He.noat_ok (c.t.d.fact 68 (f := .noat "BadCallers" "callers") rfl)
    na_BadField_index := He.noat_ok (c.t.d.fact 69 (f := .noat "BadField" "index") rfl)
    na_BadKind_kind := He.noat_ok (c.t.d.fact 70 (f := .noat "BadKind" "kind") rfl)
    na_BadModes_modes := He.noat_ok (c.t.d.fact 71 (f := .noat "BadModes" "modes") rfl)
    na_BadPlace_place := He.noat_ok (c.t.d.fact 72 (f := .noat "BadPlace" "place") rfl)
    na_BadRow_index := He.noat_ok (c.t.d.fact 73 (f := .noat "BadRow" "index") rfl)
    na_BadRule_index := He.noat_ok (c.t.d.fact 74 (f := .noat "BadRule" "index") rfl)
    na_BadRun_thing := He.noat_ok (c.t.d.fact 75 (f := .noat "BadRun" "thing") rfl)
    na_BadText_line := He.noat_ok (c.t.d.fact 76 (f := .noat "BadText" "line") rfl)
    na_BadWish_wish := He.noat_ok (c.t.d.fact 77 (f := .noat "BadWish" "wish") rfl)
    na_BadWord_word := He.noat_ok (c.t.d.fact 78 (f := .noat "BadWord" "word") rfl)
    na_Kind_call_rows := He.noat_ok (c.t.d.fact 79 (f := .noat "Kind" "call_rows") rfl)
    na_Kind_field_rows := He.noat_ok (c.t.d.fact 80 (f := .noat "Kind" "field_rows") rfl)
    na_Kind_modes := He.noat_ok (c.t.d.fact 81 (f := .noat "Kind" "modes") rfl)
    na_Kind_name_list := He.noat_ok (c.t.d.fact 82 (f := .noat "Kind" "name_list") rfl)
    na_Kind_sorts := He.noat_ok (c.t.d.fact 83 (f := .noat "Kind" "sorts") rfl)
    na_UnknownCall_name := He.noat_ok (c.t.d.fact 84 (f := .noat "UnknownCall" "name") rfl)
    oc_Kind := ocB_ok (ex_at c.more 5 (f := ocB "Kind") rfl)
    w_DEEDS_many := tupA_ok (ss := ["add", "strike", "fresh", "clear"]) (ex_at c.more 6 (f := fun K => tupA K (dkA K "DEEDS" "many") ["add", "strike", "fresh", "clear"]) rfl)
    w_DEEDS_one := tupA_ok (ss := ["set", "clear"]) (ex_at c.more 7 (f := fun K => tupA K (dkA K "DEEDS" "one") ["set", "clear"]) rfl)
    w_HANDS := tupA_ok (ss := ["self", "new", "last"]) (ex_at c.more 8 (f := fun K => tupA K (He.ga K "HANDS") ["self", "new", "last"]) rfl)
    F_law_fill := fun_of (st := s_law_fill) F_law_fill
    m_law_fill := He.glo_ok X G (c.t.d.fact 0 (f := .glo "_law_fill") rfl)
    b_law_fill := (fun_of (st := s_law_fill) F_law_fill).binds fun _ _ _ _ _ _ us hl => match us, hl with | [_], _ => rfl
    F_law_take := fun_of (st := s_law_take) F_law_take
    m_law_take := He.glo_ok X G (c.t.d.fact 1 (f := .glo "_law_take") rfl)
    b_law_take := (fun_of (st := s_law_take) F_law_take).binds fun _ _ _ _ _ _ us hl => match us, hl with | [_, _], _ => rfl
    F_law_fresh := fun_of (st := s_law_fresh) F_law_fresh
    m_law_fresh := He.glo_ok X G (c.t.d.fact 2 (f := .glo "_law_fresh") rfl)
    b_law_fresh := (fun_of (st := s_law_fresh) F_law_fresh).binds fun _ _ _ _ _ _ us hl => match us, hl with | [_], _ => rfl
    F_law_other_error := fun_of (st := s_law_other_error) F_law_other_error
    m_law_other_error := He.glo_ok X G (c.t.d.fact 3 (f := .glo "_law_other_error") rfl)
    b_law_other_error := (fun_of (st := s_law_other_error) F_law_other_error).binds fun _ _ _ _ _ _ us hl => match us, hl with | [_], _ => rfl
    F_law_error := fun_of (st := s_law_error) F_law_error
    m_law_error := He.glo_ok X G (c.t.d.fact 4 (f := .glo "_law_error") rfl)
    b_law_error := (fun_of (st := s_law_error) F_law_error).binds fun _ _ _ _ _ _ us hl => match us, hl with | [_], _ => rfl
    F_law_tried := fun_of (st := s_law_tried) F_law_tried
    m_law_tried := He.glo_ok X G (c.t.d.fact 5 (f := .glo "_law_tried") rfl)
    b_law_tried := (fun_of (st := s_law_tried) F_law_tried).binds fun _ _ _ _ _ _ us hl => match us, hl with | [_], _ => rfl
    F_law_one := fun_of (st := s_law_one) F_law_one
    m_law_one := He.glo_ok X G (c.t.d.fact 6 (f := .glo "_law_one") rfl)
    b_law_one := (fun_of (st := s_law_one) F_law_one).binds fun _ _ _ _ _ _ us hl => match us, hl with | [_, _], _ => rfl
    F_law_mix := fun_of (st := s_law_mix) F_law_mix
    m_law_mix := He.glo_ok X G (c.t.d.fact 7 (f := .glo "_law_mix") rfl)
    b_law_mix := (fun_of (st := s_law_mix) F_law_mix).binds fun _ _ _ _ _ _ us hl => match us, hl with | [_, _], _ => rfl
    F_is_integer := fun_of (st := s_is_integer) F_is_integer
    m_is_integer := He.glo_ok X G (c.t.d.fact 8 (f := .glo "is_integer") rfl)
    b_is_integer := (fun_of (st := s_is_integer) F_is_integer).binds fun _ _ _ _ _ _ us hl => match us, hl with | [_], _ => rfl
    F_is_between := fun_of (st := s_is_between) F_is_between
    m_is_between := He.glo_ok X G (c.t.d.fact 9 (f := .glo "is_between") rfl)
    b_is_between := (fun_of (st := s_is_between) F_is_between).binds fun _ _ _ _ _ _ us hl => match us, hl with | [_, _, _], _ => rfl
    F_is_list := fun_of (st := s_is_list) F_is_list
    m_is_list := He.glo_ok X G (c.t.d.fact 10 (f := .glo "is_list") rfl)
    b_is_list := (fun_of (st := s_is_list) F_is_list).binds fun _ _ _ _ _ _ us hl => match us, hl with | [_], _ => rfl
    F_is_row := fun_of (st := s_is_row) F_is_row
    m_is_row := He.glo_ok X G (c.t.d.fact 11 (f := .glo "is_row") rfl)
    b_is_row := (fun_of (st := s_is_row) F_is_row).binds fun _ _ _ _ _ _ us hl => match us, hl with | [_, _], _ => rfl
    F_is_word := fun_of (st := s_is_word) F_is_word
    m_is_word := He.glo_ok X G (c.t.d.fact 12 (f := .glo "is_word") rfl)
    b_is_word := (fun_of (st := s_is_word) F_is_word).binds fun _ _ _ _ _ _ us hl => match us, hl with | [_], _ => rfl
    F_are_unlike := fun_of (st := s_are_unlike) F_are_unlike
    m_are_unlike := He.glo_ok X G (c.t.d.fact 13 (f := .glo "are_unlike") rfl)
    b_are_unlike := (fun_of (st := s_are_unlike) F_are_unlike).binds fun _ _ _ _ _ _ us hl => match us, hl with | [_], _ => rfl
    F_checked_fields := fun_of (st := s_checked_fields) F_checked_fields
    m_checked_fields := He.glo_ok X G (c.t.d.fact 14 (f := .glo "checked_fields") rfl)
    b_checked_fields := (fun_of (st := s_checked_fields) F_checked_fields).binds fun _ _ _ _ _ _ us hl => match us, hl with | [_], _ => rfl
    F_is_deed := fun_of (st := s_is_deed) F_is_deed
    m_is_deed := He.glo_ok X G (c.t.d.fact 15 (f := .glo "is_deed") rfl)
    b_is_deed := (fun_of (st := s_is_deed) F_is_deed).binds fun _ _ _ _ _ _ us hl => match us, hl with | [_, _], _ => rfl
    F_is_same := fun_of (st := s_is_same) F_is_same
    m_is_same := He.glo_ok X G (c.t.d.fact 16 (f := .glo "is_same") rfl)
    b_is_same := (fun_of (st := s_is_same) F_is_same).binds fun _ _ _ _ _ _ us hl => match us, hl with | [_, _, _], _ => rfl
    F_reason_against := fun_of (st := s_reason_against) F_reason_against
    m_reason_against := He.glo_ok X G (c.t.d.fact 17 (f := .glo "reason_against") rfl)
    b_reason_against := (fun_of (st := s_reason_against) F_reason_against).binds fun _ _ _ _ _ _ us hl => match us, hl with | [_, _, _, _], _ => rfl
    F_checked_calls := fun_of (st := s_checked_calls) F_checked_calls
    m_checked_calls := He.glo_ok X G (c.t.d.fact 18 (f := .glo "checked_calls") rfl)
    b_checked_calls := (fun_of (st := s_checked_calls) F_checked_calls).binds fun _ _ _ _ _ _ us hl => match us, hl with | [_, _, _], _ => rfl
    F_Kind___init__ := fun_of (st := s_Kind___init__) F_Kind___init__
    kb_Kind___init__ := ⟨fun s us ws _ h1 h2 => by rw [e_Kind___init__]; exact (match us, ws, h1, h2 with | [_, _, _], [_], _, _ => .of_eq rfl), fun r1 r2 => r1.append r2⟩
    F_law_plan := fun_of (st := s_law_plan) F_law_plan
    m_law_plan := He.glo_ok X G (c.t.d.fact 19 (f := .glo "_law_plan") rfl)
    b_law_plan := (fun_of (st := s_law_plan) F_law_plan).binds fun _ _ _ _ _ _ us hl => match us, hl with | [_, _, _], _ => rfl
    F_law_deeds := fun_of (st := s_law_deeds) F_law_deeds
    m_law_deeds := He.glo_ok X G (c.t.d.fact 20 (f := .glo "_law_deeds") rfl)
    b_law_deeds := (fun_of (st := s_law_deeds) F_law_deeds).binds fun _ _ _ _ _ _ us hl => match us, hl with | [_, _, _], _ => rfl
    F_law_call := fun_of (st := s_law_call) F_law_call
    m_law_call := He.glo_ok X G (c.t.d.fact 21 (f := .glo "_law_call") rfl)
    b_law_call := (fun_of (st := s_law_call) F_law_call).binds fun _ _ _ _ _ _ us hl => match us, hl with | [_, _, _, _, _], _ => rfl
    F_law_kind := fun_of (st := s_law_kind) F_law_kind
    m_law_kind := He.glo_ok X G (c.t.d.fact 22 (f := .glo "_law_kind") rfl)
    b_law_kind := (fun_of (st := s_law_kind) F_law_kind).binds fun _ _ _ _ _ _ us hl => match us, hl with | [_, _, _, _], _ => rfl
    F_law_same := fun_of (st := s_law_same) F_law_same
    m_law_same := He.glo_ok X G (c.t.d.fact 23 (f := .glo "_law_same") rfl)
    b_law_same := (fun_of (st := s_law_same) F_law_same).binds fun _ _ _ _ _ _ us hl => match us, hl with | [_, _], _ => rfl
    F_Kind_number_of_x := fun_of (st := s_Kind_number_of_x) F_Kind_number_of_x
    b_Kind_number_of_x := (fun_of (st := s_Kind_number_of_x) F_Kind_number_of_x).binds fun _ _ _ _ _ _ us hl => match us, hl with | [_, _], _ => rfl
    me_Kind_number_of_x := He.meth_ok (c.t.d.fact 26 (f := .meth "Kind" "number_of") rfl)
    F_Kind_own := fun_of (st := s_Kind_own) F_Kind_own
    b_Kind_own := (fun_of (st := s_Kind_own) F_Kind_own).binds fun _ _ _ _ _ _ us hl => match us, hl with | [_, _, _], _ => rfl
    me_Kind_own := He.meth_ok (c.t.d.fact 24 (f := .meth "Kind" "own") rfl)
    F_Kind___eq__ := fun_of (st := s_Kind___eq__) F_Kind___eq__
    b_Kind___eq__ := (fun_of (st := s_Kind___eq__) F_Kind___eq__).binds fun _ _ _ _ _ _ us hl => match us, hl with | [_, _], _ => rfl
    F_law_same_e := fun_of (st := s_law_same) F_law_same
    m_law_same_e := He.glo_ok X G (c.t.d.fact 23 (f := .glo "_law_same") rfl)
    b_law_same_e := (fun_of (st := s_law_same) F_law_same).binds fun _ _ _ _ _ _ us hl => match us, hl with | [_, _], _ => rfl
    F_law := fun_of (st := s_law) F_law
    m_law := He.glo_ok X G (c.t.d.fact 25 (f := .glo "law") rfl)
  }
  have b := FunD.bindsA (ps := ["_law_script"]) F_law fun _ _ _ _ _ _ us hl => match us, hl with | [_], _ => rfl
  exact lawT_of (ex := hk_x) X c T.F_law (fun s v => b s [v] rfl) (fun base _ _ TB => ok_law T (oiB_ok (He.cls_ok (c.t.d.fact 39 (f := .cls "Kind") rfl)) (ex_at c.more 9 (f := oiB "Kind") rfl)) hP TB) (Nat.le_refl _)
end Mz
end
section
set_option Elab.async false
set_option linter.all false
set_option maxRecDepth 100000
set_option maxHeartbeats 4000000
set_option maxHeartbeats 0
open PySem PySem.W PySem.Calls PyProof.Rows
theorem PySem.Challenge.cw_makerlines_k04_places_owned_holds : PySem.Challenge.rw_makerlines_k04_places_owned.Holds := by
  w_on; o_law
  refine HandSHeadRun.head_any (r := OpenLaw.row PySem.Challenge.rw_makerlines_k04_places_owned) (q := view (OpenLaw.row PySem.Challenge.rw_makerlines_k04_places_owned).prog [56]) (H := Mz.hk) (ob := Mz.hk_ob) (M := 9000) (loose := Mz.hk_nm) (d := HandSHeadRun.topDef (OpenLaw.row PySem.Challenge.rw_makerlines_k04_places_owned).prog 56) (kwd := []) Mz.hk_ob_eq (by kernel_rfl) (fun s => by kernel_rfl) Mz.hk_run (by kernel_rfl) (by kernel_rfl) (by kernel_rfl) (by rfl) (by first | assumption | decide +kernel) (by decide +kernel) ⟨rfl, rfl, rfl, rfl, rfl, by decide +kernel⟩ ?hw ?hc
  case hw => w_witness2
  case hc =>
    refine LamX.walk_ofTsE (l := PySem.Challenge.rw_makerlines_k04_places_owned) (n := 63) (k := 13) (x := "_law_script") (CX := fun _ => L2.CX0) rfl (by decide) (by kernel_rfl) ⟨rfl, by decide, by decide⟩ ?F (fun _ _ _ _ _ z => z)
    intro w mg fa h Y G hmg0
    obtain ⟨K, KX, c⟩ := Y
    have hmg : mg ("law" : PySem.Str) = some (.ref fa) := by
      have e : (HandSHeadRun.topDef (OpenLaw.row PySem.Challenge.rw_makerlines_k04_places_owned).prog 56).name = ("law" : PySem.Str) := by kernel_rfl
      rw [← e]
      exact hmg0
    exact ⟨K, KX, Mz.hk_facts (l := PySem.Challenge.rw_makerlines_k04_places_owned) (w := w) KX G hmg ⟨by kernel_rfl, by kernel_rfl⟩ c⟩
#print axioms PySem.Challenge.cw_makerlines_k04_places_owned_holds
end
