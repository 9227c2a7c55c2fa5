import PyProof.Rows.All
import Wide.All
import OpenK.AllK
import Wide.FinOn
import KE.GoesEnum
import HandS.ForMost
import HandS.Walk
import HandS.TryOnly
import HandS.Zip
import HandS.More
import HandS.Text
import HandS.FStr
import HandS.OwnEq
import HandS.ClsMeth
import HandS.MakeKwOnly
import PyProof.InstNe
import HandS.Deep
import HandS.Defaults
import HandS.Words
import HandS.IsInst
import HandS.Conv
import HandS.DictComp
import HandS.Flow
import HandS.TupAny
import HandS.Replace
import HandS.Style
import HandS.HeadHook3
import PySem.Challenge.RW_makerlines_k12_onward_programs
section
set_option Elab.async false
set_option linter.all false
set_option maxRecDepth 100000
set_option maxHeartbeats 2000000
namespace L2
open PySem PySem.Spec PyProof.Rows
theorem meets_enumB1 {v : Value} {o : Obj} {H : Heap → Prop} (B : Begins v o H) :
    Meets (Builtin.«enumerate.__new__» ⟨[.type "enumerate", v], []⟩) (fun _ R s => H s.heap ∧
      R (.ok (.ret (.ref (s.heap.push o).objs.size))) { s with heap := (s.heap.push o).push { cls := .type "enumerate", data := .fields #[.none, .bool false, .ref s.heap.objs.size, rawInt 0, .none, .none] } }) :=
  .of_wp fun prog w A R s h => by
    obtain ⟨hp, g, d, tk, os⟩ := s; obtain ⟨h1, h⟩ := h
    have hsub := sub_enumerate
    have q1 : ∀ {A' : Around} {E : Value → Shared → Prop} {Q : Value → Shared → Prop}, Q (.ref hp.objs.size) ⟨hp.push o, g, d, tk, os⟩ → wpAny (model prog w) A' (pyIter v) Q E ⟨hp, g, d, tk, os⟩ :=
      fun q => B.iter prog w _ _ ⟨hp, g, d, tk, os⟩ _ h1 q
    wp_walk using q1
    refine wpAny_stack_any fun st => wpAny_pure ?_
    split
    · rename_i c _ _ _ _ _
      cases (c == Value.type "enumerate")
      · wp_walk using q1
        exact ⟨_, rfl, h⟩
      · wp_walk using q1
        exact ⟨_, rfl, h⟩
    · wp_walk using q1
      exact ⟨_, rfl, h⟩
theorem enum_begins1 {prog : Program} {w : World} {A : Around} {E : Value → Shared → Prop} {s : Shared} {v : Value} {o : Obj} {H : Heap → Prop} {Q : Value → Shared → Prop} (B : Begins v o H) (h1 : H s.heap)
    (h : ∀ h', IsEnum h' (s.heap.objs.size + 1) s.heap.objs.size 0 .none → h'.get? s.heap.objs.size = some o → h'.objs.size = s.heap.objs.size + 2 →
      (∀ b o, s.heap.get? b = some o → h'.get? b = some o) → Q (.ref (s.heap.objs.size + 1)) { s with heap := h' }) :
    wpAny (model prog w) A (call (.type "enumerate") [v]) Q E s := by
  refine callType_new F.called_enumerate (by decide) (F.typeCall_enumerate_1 _) (F.newCall_enumerate_1 _) (fun obj => F.args_object_init_2 obj _) F.entry_enumerate_new
    (meets_enumB1 B) ⟨h1, ?_⟩
  have hz : (s.heap.push o).objs.size = s.heap.objs.size + 1 := Heap.size_push ..
  show _ ∧ _
  rw [hz]
  have he : IsEnum ((s.heap.push o).push { cls := .type "enumerate", data := .fields #[.none, .bool false, .ref s.heap.objs.size, rawInt 0, .none, .none] }) (s.heap.objs.size + 1) s.heap.objs.size 0 .none := by
    have := Heap.get?_push_size (s.heap.push o) (o := { cls := .type "enumerate", data := .fields #[.none, .bool false, .ref s.heap.objs.size, rawInt 0, .none, .none] }) rfl
    rw [hz] at this; exact this
  refine ⟨⟨_, he, rfl⟩, h _ he (Heap.get?_push_of_some _ (Heap.get?_push_size _ B.free)) (by rw [Heap.size_push, hz]) fun b o x => Heap.get?_push_of_some _ (Heap.get?_push_of_some _ x)⟩
/-- enumerate(tuple) -/
def Itet (K : PySem.W.Frag) (a : Addr) : It :=
  ⟨fun i H => ∃ (xs : List V) (x : V), SqT K H a xs ∧ xs[i]? = some x, fun i H v H' => ∃ T x, v = .ref T ∧ H T = none ∧ H' = upd H T (.tup [.int (i : Nat), x]) ∧ ∀ xs, SqT K H a xs → xs[i]? = some x, fun i H => ∃ xs : List V, SqT K H a xs ∧ xs.length ≤ i⟩
theorem enum_ne_tup {h : Heap} {e it a : Addr} {i : Int} {old : Value} {its : Array Value} (he : IsEnum h e it i old) (ht : IsTup h a its) : e ≠ a := by
  rintro rfl
  obtain ⟨o, ho, hc, _⟩ := ht
  rw [he] at ho; cases ho
  have hc' : Value.type "enumerate" = Value.type "tuple" := hc
  exact absurd hc' (by decide)
theorem iter_ne_tup {h : Heap} {it a b : Addr} {i : Nat} {its : Array Value} (hi : h.IsTupleIter it b i) (ht : IsTup h a its) : a ≠ it := by
  rintro rfl
  obtain ⟨o, ho, hc, _⟩ := ht
  obtain ⟨o', ho', hc', _⟩ := hi
  rw [ho] at ho'; cases ho'
  rw [hc] at hc'
  exact absurd hc' (by decide)
theorem turn_enumT {P : Program} {w : World} {K : PySem.W.Frag} {elts : List Expr} {kk : Nat} {tpos : Pos} (a e it : Addr) :
    Turn P w K (.Tuple elts kk tpos) (Itet K a) [e, it] e (fun i h => (∃ old, IsEnum h e it ((i : Nat) : Int) old) ∧ h.IsTupleIter it a i ∧ e ≠ it) where
  mem := by simp
  obj := fun i h st b hb => by
    obtain ⟨⟨old, he⟩, ⟨o, ho, hc, hd⟩, _⟩ := st
    have e' : b = e ∨ b = it := by simpa using hb
    rcases e' with z | z
    · rw [z]; exact ⟨_, he, fun v q => nomatch q⟩
    · rw [z]; exact ⟨o, ho, fun v q => by rw [hd] at q; cases q⟩
  keep := fun i h h' st k => let ⟨⟨old, he⟩, hi, hne⟩ := st; ⟨⟨old, k e (by simp) _ he⟩, hi.at fun o q => k it (by simp) o q, hne⟩
  item := by
    intro X hP hw hK hc i pins s σ H E I hf st hg
    subst hP hw hK
    obtain ⟨⟨old, he⟩, hit, hne⟩ := st
    obtain ⟨xs, x, hq, hx⟩ := hg
    obtain ⟨its, rv, p, hz⟩ := I.tuple hq
    obtain ⟨u, hu, ru⟩ := rv.get hx
    have hel : e < s.heap.objs.size := Heap.lt_size he
    have hil : it < s.heap.objs.size := by obtain ⟨_, q, _⟩ := hit; exact Heap.lt_size q
    have nea : e ≠ a := enum_ne_tup he p
    have nai : a ≠ it := iter_ne_tup hit p
    have hlt : i < its.toArray.size := by
      have := (List.getElem?_eq_some_iff.mp hu).1
      simpa using this
    refine wpAny_pyNext_enum_itemD (Draws.tuple (A := X.A.in1) (I.ok.hd hc) it a nai its.toArray) he ⟨hit, p⟩ hlt hne (by simp [hne, nea]) fun y h' tk hy ho hst hT hsz hk => ?_
    have ey : y = u := by
      have hu' : its.toArray[i]? = some u := by simpa using hu
      rw [hu'] at hy
      exact (Option.some.inj hy).symm
    subst ey
    refine ⟨_, rfl, wpAny_letOwnedTupleGo_enum (s := { s with heap := h', toks := tk + 1 }) ho fun h'' he' sb => ?_⟩
    have hT2 : h''.get? s.heap.objs.size = some { cls := .type "tuple", data := .seq #[.int i tk, y] } := (sb.2 _ (Nat.ne_of_gt hel)).trans hT
    have new : ObjOk X.prog X.w (upd H s.heap.objs.size (.tup [.int (i : Nat), x])) h'' s.heap.objs.size (.tup [.int (i : Nat), x]) :=
      ⟨by show 2 ≤ sizeLine; decide, [.int i tk, y], .cons ⟨_, rfl⟩ (.cons ru .nil), ⟨_, hT2, rfl, _, rfl⟩⟩
    have I1 : Inv X pins σ (upd H s.heap.objs.size (.tup [.int (i : Nat), x])) { s with heap := h'', toks := tk + 1 } :=
      I.turnedNew (ch := [e, it]) (fun b ob hb q => (sb.2 b (fun z => hb (by simp [z]))).trans (hk b ob (fun z => hb (by simp [z])) (fun z => hb (by simp [z])) q)) hf (Nat.le_refl _) new
    refine ⟨.ref s.heap.objs.size, _, I1, rfl, ⟨_, x, rfl, I.hok.fresh (Nat.le_refl _), rfl, fun ys hy => by rw [I.tuple_inj hy hq]; exact hx⟩, ⟨⟨y, ?_⟩, hst.1.at fun o q => (sb.2 it (Ne.symm hne)).trans q, hne⟩, fun b hb => ?_⟩
    · have e1 : ((i + 1 : Nat) : Int) = (i : Int) + 1 := by omega
      rw [e1]; exact he'
    · have hb' : b < s.heap.objs.size := by
        have e' : b = e ∨ b = it := by simpa using hb
        rcases e' with z | z
        · rw [z]; exact hel
        · rw [z]; exact hil
      rw [upd_ne (Nat.ne_of_lt hb')]
      exact (hf b hb).1
  done := by
    intro X hP hw hK hc i pins s σ H E I hf st hg
    subst hP hw hK
    obtain ⟨⟨old, he⟩, hit, hne⟩ := st
    obtain ⟨xs, hq, hx⟩ := hg
    obtain ⟨its, rv, p, hz⟩ := I.tuple hq
    obtain ⟨f0, f1, f2, f3, f4, f5⟩ := hf it (by simp)
    have nai : a ≠ it := iter_ne_tup hit p
    have hl := rv.length
    have hT : s.TypeIs (.ref e) "enumerate" := ⟨_, he, rfl⟩
    unfold pyNext
    refine wpAny_bind (wpAny_attempt (wpAny_callSpecial?_slot (name := Str.ofString "__next__") hT F.slot_enumerate_next
      (wpAny_call_entry F.slot_enumerate_next hT F.entry_enumerate_next ?_ (F.args_enumerate_next_1 _))))
    show wpAny _ _ (field (.ref e) 2 >>= _) _ _ _
    refine wpAny_bind (wpAny_field he rfl (x := .ref it) rfl ?_)
    refine wpAny_bind (wpAny_nextOf_tuple_end (I.ok.hd hc) hit p (by simp; omega) fun h' x eb hx' => ?_)
    obtain ⟨o, ho, hc⟩ := hx'
    refine wpAny_bind (wpAny_isInstance (T := "StopIteration") (b := true) ⟨o, ho, hc⟩ isSubtype_stop ?_)
    exact wpAny_pure ⟨rfl, I.turned (t' := s.toks) (fun b o hb q => eb b o hb q) f0 f1 f3 f4 f5⟩
  self := fun A i s Q E st h => let ⟨⟨_, he⟩, _⟩ := st; wpAny_pyIter_enum he h
def iEnumT (K : PySem.W.Frag) (ta : TA) : TI := fun σ H R => ta σ H fun vs H1 => ∃ a xs, vs = [.ref a] ∧ SqT K H1 a xs ∧ R (Itet K a) H1
theorem pi_enumT {X : Cx} {e : Expr} {ta : TA} {p pos tpos : Pos} {elts : List Expr} {kk : Nat} (hg : Gl X "enumerate") (hm : X.mg "enumerate" = none) (ha : PA X [e] ta) (hs : starEach [e] X.env = [(false, eval e X.env)] := by rfl) :
    PI X (.Tuple elts kk tpos) (.Call (.Name "enumerate" p) [e] [] pos) (iEnumT X.K ta) := by
  refine ⟨fun pins s σ H R I h => ?_⟩
  refine Call_ (ld_blt I hg hm boot_enumerate (PyProof.Rows.callWith_type1 (thn (ha.run pos pins s σ H _ I h) fun us s1 ⟨vs, H1, I1, r1, q1⟩ => ?_) hs rfl))
  obtain ⟨a, xs, ex, hq, q⟩ := q1
  subst ex
  cases r1 with
  | cons r rr =>
    cases rr
    cases r
    obtain ⟨its, rv, p', hz⟩ := I1.tuple hq
    refine enum_begins1 (begins_tuple a its.toArray) p' fun h' he hit hsz hk => wpAny_pyIter_enum he ?_
    have I2 : Inv X pins σ H1 { s1 with heap := h' } := I1.kept (t' := s1.toks) hk
    refine ⟨s1.heap.objs.size + 1, [s1.heap.objs.size + 1, s1.heap.objs.size], _, _, H1, rfl, I2, turn_enumT a (s1.heap.objs.size + 1) s1.heap.objs.size, ⟨⟨.none, he⟩, ⟨_, hit, rfl, rfl⟩, Nat.succ_ne_self _⟩, fun b hb => ?_, q⟩
    have e' : b = s1.heap.objs.size + 1 ∨ b = s1.heap.objs.size := by simpa using hb
    have hle : s1.heap.objs.size ≤ b := by
      rcases e' with z | z
      · rw [z]; exact Nat.le_add_right _ _
      · rw [z]; exact Nat.le_refl _
    exact I1.fpOk hle (I1.hok.fresh hle)
theorem walk_enumT {K : PySem.W.Frag} {a : Addr} {xs : List V} : Walk (Itet K a) xs.length (fun H => SqT K H a xs) (YPair (fun i => some (.int (i : Nat))) (fun i => xs[i]?)) := by
  refine ⟨fun i _ hi q => ⟨xs, xs[i], q, by simp [hi]⟩, fun _ q => ⟨xs, q, Nat.le_refl _⟩, fun i H v H' _ q y => ?_⟩
  obtain ⟨T, x, h1, h2, h3, h4⟩ := y
  exact ⟨T, .int (i : Nat), x, h1, h2, h3, rfl, h4 xs q⟩
end L2
end
section
set_option Elab.async false
set_option linter.all false
set_option maxRecDepth 100000
set_option maxHeartbeats 2000000
namespace Mz
/-- a stop for the steps -/
inductive Mark where | mk
end Mz
namespace L2
open PySem PySem.Spec PyProof.Rows Mz
def gSeq (K : PySem.W.Frag) (n : Nat) (t : TGs) : TG := fun v σ H Q => ∃ _ : Mark, gTup K n t v σ H Q ∨ gLst K n t v σ H Q
theorem pg_seq {X : Cx} {es : List Expr} {k : Nat} {pos : Pos} {t : TGs} {n : Nat} (hc : X.calm = true) (h : PGs X es t) (hn : (assignEach es X.env).length = n := by rfl) (hst : (assignEach es X.env).findIdx? (·.1) = none := by rfl) :
    PG X (.Tuple es k pos) (gSeq X.K n t) :=
  ⟨fun pins s σ H v w Q I r h' => by
    obtain ⟨_, h' | h'⟩ := h'
    · exact (pg_tup hc h hn hst).run pins s σ H v w Q I r h'
    · exact (pg_lst hc h hn hst).run pins s σ H v w Q I r h'⟩
/-! ### walks over lists and tuples alike -/
def qSq0 (K : PySem.W.Frag) (x : V) (H1 : Hp) (R : It → Hp → Prop) : Prop := ∃ a, x = .ref a ∧ (((∃ xs, SqL K H1 a xs) ∧ R (Itl K a) H1) ∨ ((∃ xs, SqT K H1 a xs) ∧ R (Itt K a) H1))
def qSq (K : PySem.W.Frag) (x : V) (H1 : Hp) (R : It → Hp → Prop) : Prop := ∃ _ : Mark, qSq0 K x H1 R
def iSq (K : PySem.W.Frag) (te : TE) : TI := fun σ H R => te σ H fun x H1 => qSq K x H1 R
theorem pi_sq {X : Cx} {tg l : Expr} {tl : TE} (hl : PE X l tl) : PI X tg l (iSq X.K tl) := by
  refine ⟨fun pins s σ H R I h => ?_⟩
  refine thn (hl.run pins s σ H _ I h) fun v s1 ⟨x, H1, I1, r1, q1⟩ => ?_
  obtain ⟨_, a, e, q1⟩ := q1
  subst e
  cases r1
  rcases q1 with ⟨⟨xs, hq⟩, q⟩ | ⟨⟨xs, hq⟩, q⟩
  · obtain ⟨its, rv, p, hz⟩ := I1.list hq
    refine wpAny_pyIter_list p.isList ?_
    refine ⟨s1.heap.objs.size, [s1.heap.objs.size], _, _, H1, rfl, I1.kept (t' := s1.toks) fun b o e => Heap.get?_push_of_some _ e, turn_list a _, ⟨_, Heap.get?_push_size _ rfl, rfl, rfl⟩, fun b hb => ?_, q⟩
    have e : b = s1.heap.objs.size := by simpa using hb
    subst e
    exact I1.fpOk (Nat.le_refl _) (I1.hok.fresh (Nat.le_refl _))
  · obtain ⟨its, rv, p, hz⟩ := I1.tuple hq
    refine wpAny_pyIter_tuple (show s1.heap.IsTuple a its.toArray from p) ?_
    refine ⟨s1.heap.objs.size, [s1.heap.objs.size], _, _, H1, rfl, I1.kept (t' := s1.toks) fun b o e => Heap.get?_push_of_some _ e, turn_tuple a _, ⟨_, Heap.get?_push_size _ rfl, rfl, rfl⟩, fun b hb => ?_, q⟩
    have e : b = s1.heap.objs.size := by simpa using hb
    subst e
    exact I1.fpOk (Nat.le_refl _) (I1.hok.fresh (Nat.le_refl _))
def qEnSq0 (K : PySem.W.Frag) (vs : List V) (H1 : Hp) (R : It → Hp → Prop) : Prop := ∃ a xs, vs = [.ref a] ∧ ((SqL K H1 a xs ∧ R (Ite K a) H1) ∨ (SqT K H1 a xs ∧ R (Itet K a) H1))
def qEnSq (K : PySem.W.Frag) (vs : List V) (H1 : Hp) (R : It → Hp → Prop) : Prop := ∃ _ : Mark, qEnSq0 K vs H1 R
def iEnSq (K : PySem.W.Frag) (ta : TA) : TI := fun σ H R => ta σ H fun vs H1 => qEnSq K vs H1 R
theorem pi_enSq {X : Cx} {e : Expr} {ta : TA} {p pos tpos : Pos} {elts : List Expr} {kk : Nat} (hg : Gl X "enumerate") (hm : X.mg "enumerate" = none) (ha : PA X [e] ta) (hs : starEach [e] X.env = [(false, eval e X.env)] := by rfl) :
    PI X (.Tuple elts kk tpos) (.Call (.Name "enumerate" p) [e] [] pos) (iEnSq X.K ta) := by
  refine ⟨fun pins s σ H R I h => ?_⟩
  refine Call_ (ld_blt I hg hm boot_enumerate (PyProof.Rows.callWith_type1 (thn (ha.run pos pins s σ H _ I h) fun us s1 ⟨vs, H1, I1, r1, q1⟩ => ?_) hs rfl))
  obtain ⟨_, a, xs, ex, q1⟩ := q1
  subst ex
  cases r1 with
  | cons r rr =>
    cases rr
    cases r
    rcases q1 with ⟨hq, q⟩ | ⟨hq, q⟩
    · obtain ⟨its, rv, p', hz⟩ := I1.list hq
      refine call_enumerate_list p'.isList fun h' he hit hsz hk => wpAny_pyIter_enum he ?_
      have I2 : Inv X pins σ H1 { s1 with heap := h' } := I1.kept (t' := s1.toks) hk
      refine ⟨s1.heap.objs.size + 1, [s1.heap.objs.size + 1, s1.heap.objs.size], _, _, H1, rfl, I2, turn_enum a (s1.heap.objs.size + 1) s1.heap.objs.size, ⟨⟨.none, he⟩, hit, Nat.succ_ne_self _⟩, fun b hb => ?_, q⟩
      have e' : b = s1.heap.objs.size + 1 ∨ b = s1.heap.objs.size := by simpa using hb
      have hle : s1.heap.objs.size ≤ b := by
        rcases e' with z | z
        · rw [z]; exact Nat.le_add_right _ _
        · rw [z]; exact Nat.le_refl _
      exact I1.fpOk hle (I1.hok.fresh hle)
    · obtain ⟨its, rv, p', hz⟩ := I1.tuple hq
      refine enum_begins1 (begins_tuple a its.toArray) p' fun h' he hit hsz hk => wpAny_pyIter_enum he ?_
      have I2 : Inv X pins σ H1 { s1 with heap := h' } := I1.kept (t' := s1.toks) hk
      refine ⟨s1.heap.objs.size + 1, [s1.heap.objs.size + 1, s1.heap.objs.size], _, _, H1, rfl, I2, turn_enumT a (s1.heap.objs.size + 1) s1.heap.objs.size, ⟨⟨.none, he⟩, ⟨_, hit, rfl, rfl⟩, Nat.succ_ne_self _⟩, fun b hb => ?_, q⟩
      have e' : b = s1.heap.objs.size + 1 ∨ b = s1.heap.objs.size := by simpa using hb
      have hle : s1.heap.objs.size ≤ b := by
        rcases e' with z | z
        · rw [z]; exact Nat.le_add_right _ _
        · rw [z]; exact Nat.le_refl _
      exact I1.fpOk hle (I1.hok.fresh hle)
def rSlM (K : PySem.W.Frag) : V → Option Int → Option Int → Hp → VK → Prop := fun x lo hi H Q => ∃ _ : Mark, rSlL K x lo hi H Q ∨ rSlT K x lo hi H Q
theorem sl_M {X : Cx} : SlR X (rSlM X.K) := fun pins s σ H x v vl vu lo hi sl Q I rx h1 h2 h3 h => by
  obtain ⟨_, h⟩ := h
  exact (sl_list.or sl_tup) pins s σ H x v vl vu lo hi sl Q I rx h1 h2 h3 h
/-! ### a written dict of two texts -/
def rKD2 (d : Addr) (k1 k2 : Str) (v1 v2 : V) : R2 := fun x y H Q => ∃ z : Str, x = .ref d ∧ y = .str z ∧ ((z = k1 ∧ Q v1 H) ∨ (z = k2 ∧ Q v2 H))
theorem ix_kd2 {X : Cx} {d : Addr} {k1 k2 : Str} {v1 v2 : V} (h1 : KDct X.K X.w d k1 v1) (h2 : KDct X.K X.w d k2 v2) : IxR X (rKD2 d k1 k2 v1 v2) := fun ve se pins s σ H x y v u Q I rx ry h hs => by
  obtain ⟨z, e1, e2, ⟨rfl, q⟩ | ⟨rfl, q⟩⟩ := h
  · exact ix_kdict ve se pins s σ H x y v u Q I rx ry ⟨d, _, _, e1, e2, h1, q⟩ hs
  · exact ix_kdict ve se pins s σ H x y v u Q I rx ry ⟨d, _, _, e1, e2, h2, q⟩ hs
end L2
end
section
set_option Elab.async false
set_option linter.all false
set_option maxRecDepth 100000
set_option maxHeartbeats 2000000
namespace L2
open PySem PySem.Spec PyProof.Rows PySem.W Mz
section
variable {X : Cx}
/-- text * 0 or 1 -/
def rMulS : V → V → Hp → VK → Prop := fun x y H Q => ∃ (s : Str) (k : Int), x = .str s ∧ y = .int k ∧ (k = 0 ∨ k = 1) ∧ Q (.str (if k = 1 then s else Str.empty)) H
theorem op_mul_str : OpR X (binaryOp .Mult) rMulS := by
  intro pins s σ H x y v u Q I rx ry h
  obtain ⟨z, k, rfl, rfl, hk, q⟩ := h
  obtain ⟨t, rfl⟩ := rx
  obtain ⟨t', rfl⟩ := ry
  rcases hk with rfl | rfl
  · exact PySem.P.mul_str_none (by decide) (by decide) ⟨.str Str.empty, H, I.tok _, ⟨_, rfl⟩, q⟩
  · refine PySem.P.mul_str (by decide) (fun _ h => absurd h (by simp)) (fun _ h => absurd h (by simp)) ?_
    rw [if_neg (by decide), if_pos (by simp)]
    exact ⟨.str z, H, I, ⟨_, rfl⟩, q⟩
def rJoin (K : PySem.W.Frag) : V → List V → Hp → VK → Prop := fun x xs H Q => ∃ (_ : Mark) (a : Str) (p : Addr) (ys : List Str), x = .str a ∧ xs = [.ref p] ∧ (SqL K H p (ys.map V.str) ∨ SqT K H p (ys.map V.str)) ∧ (ys.map (·.length)).sum + ys.length * a.length ≤ 16777216 ∧ Q (.str (Txt.join a ys)) H
def rSplit : V → List V → Hp → VK → Prop := fun x xs H Q => ∃ a b, x = .str a ∧ xs = [.str b] ∧ (b.length == 0) = false ∧ a.length + 2 ≤ sizeLine ∧ rNewStrs (Txt.split a b) H Q
def tJoin (K : PySem.W.Frag) (to te : TE) : TE := tM1 (rJoin K) to te
def tSplit (to te : TE) : TE := tM1 rSplit to te
def tJoined (ts : List TE) : TE := fun σ H Q => tJs ts Str.empty σ H fun out H1 => Q (.str out) H1
theorem mt_joinM : MtR X "str.join" (rJoin X.K) := fun pins s σ H x xs v us Q I rx rv h => mt_join pins s σ H x xs v us Q I rx rv (by
  obtain ⟨_, a, p, ys, h⟩ := h
  exact ⟨a, p, ys, h⟩)
theorem pe_joinM {o e : Expr} {to te : TE} {apos pos : Pos} (ho : PE X o to) (he : PE X e te) (hs : starEach [e] X.env = [(false, eval e X.env)] := by rfl) (hbase : attributeBase o "join" X.env (eval o X.env) = eval o X.env := by rfl) (hline : (apos.endLine == pos.line) = true := by rfl) :
    PE X (.Call (.Attribute o "join" apos) [e] [] pos) (tJoin X.K to te) := pe_m1 PySem.F.slot_str_join PySem.F.type_str_join mt_joinM ho he hs hbase hline
theorem ne_slot (self : Value) : bindSpecial (.builtin "object.__ne__") self = pure (.builtin "object.__ne__", [self]) := PySem.F.cmp_object.ne.bind self
theorem check_K {M : Model} {A : Around} {E : Value → Shared → Prop} {s : Shared} {K : PySem.W.Frag} {x C : Addr} {ox : Obj} {od : Option Obj} {id owner n : String} {rest : List Value} {Q : Unit → Shared → Prop} (hk : builtinKind id = some .slot) (hs : splitId id = some (owner, n))
    (ha : argsOk id ⟨.ref x :: rest, []⟩) (X : K.In s.heap) (I : PySem.W.InstAt s.heap x ox C od) (hsub : PySem.W.subIn K (.ref C) (.type owner) = some true) (hq : Q () s) :
    wpAny M A (checkBuiltinCall id ⟨.ref x :: rest, []⟩) Q E s := by
  simp only [checkBuiltinCall, hk, hs]
  have hi : Looks M s.heap (isInstance (.ref x) (.type owner)) true := by
    unfold isInstance
    exact I.type.andThen (looks_subIn X hsub)
  refine wpAny_bind (hi.here ?_)
  simp only [Bool.not_true, Bool.false_eq_true, if_false]
  cases hsig : Manifest.signature? id with
  | none => exact wpAny_pure hq
  | some sig =>
    simp only [argsOk, hsig] at ha
    have h2 : Bind.checkArgs id sig ⟨.ref x :: rest, []⟩ = pure () := ha
    show wpAny M A (Bind.checkArgs id sig ⟨.ref x :: rest, []⟩) Q E _
    rw [h2]; exact wpAny_pure hq
/-- __ne__ from object: the other way round than __eq__ -/
theorem neCmp_K {prog : Program} {w : World} {A : Around} {E : Value → Shared → Prop} {s : Shared} {K : PySem.W.Frag} {x C L f : Addr} {h₀ : Heap} {m : Str → Option Value} {ox : Obj} {od : Option Obj} {b tb : Value} {Q : Value → Shared → Prop}
    (hu : A.units + 1 < cLine) (F : PyProof.Rows.Fr h₀ L s.heap m) (X₀ : K.In h₀) (I : PySem.W.InstAt s.heap x ox C od) (hb : Looks (model prog w) s.heap (typeOf b) tb) (hn : PySem.W.notFirst K C tb = true)
    (hs : PySem.W.findIn K (.ref C) "__eq__" = some (some (.ref f))) (hf : PySem.W.isFn K (.ref f) = true) (hne : PySem.W.findIn K (.ref C) "__ne__" = some (some (.builtin "object.__ne__"))) (hsub : PySem.W.subIn K (.ref C) (.type "object") = some true)
    (h : wpAny (model prog w) A.in1 (call (.ref f) [.ref x, b]) (fun v s' => ∃ r, v = .bool r ∧ Q (.bool (!r)) s') E s) : wpAny (model prog w) A (richCompare .NotEq (.ref x) b) Q E s := by
  have X := X₀.keeps F.keep
  have one : wpAny (model prog w) A (tryCompare (.ref x) "__ne__" b) (fun r s' => ∃ v, r = some v ∧ Q v s') E s := by
    unfold tryCompare
    simp only [callSpecialIfBound?, bindSpecialIfBound?]
    refine wpAny_bind (wpAny_holding (wpAny_bind (wpAny_bind (wpAny_bind (I.type.here ((looks_findIn X hne).here ?_))))))
    simp only [ne_slot]
    refine wpAny_bind (wpAny_askSetting (wpAny_ite ?_))
    have body : wpAny (model prog w) A (call (.builtin "object.__ne__") [.ref x, b]) (fun v s' => ∃ r, v = .bool r ∧ Q (.bool r) s') E s := by
      refine wpAny_call (codeAny_call_builtin PySem.F.cmp_object.ne.plain PySem.F.cmpEntry_ne (check_K PySem.F.cmpKind_ne PySem.F.cmpSplit_ne (PySem.F.cmpArgs_ne _ _) X I hsub ?_))
      unfold Builtin.«object.__ne__»
      have hc : wpAny (model prog w) A.in1 (callSpecialIfBound? (.ref x) (Str.ofString "__eq__") [b]) (fun r s' => ∃ z, r = some (.bool z) ∧ Q (.bool (!z)) s') E s :=
        ifBound_K X I hs hf (wpAny_mono h (fun v s' hv => by
          obtain ⟨r, rfl, q⟩ := hv
          exact ⟨r, rfl, q⟩) fun _ _ e => e)
      repeat (first
        | with_reducible refine wpAny_cRoomFor hu ?_
        | (refine wpAny_bind (m := callSpecialIfBound? (.ref x) (Str.ofString "__eq__") [b])
            (wpAny_mono hc (fun r s' hr => by
              obtain ⟨z, rfl, hq⟩ := hr
              repeat (first | exact ⟨_, rfl, hq⟩ | exact wpAny_pure ⟨_, rfl, hq⟩ | (refine wpAny_bind (m := truthy (.bool _)) (wpAny_truthy_bool ?_)) | wp_step)) fun _ _ e => e))
        | wp_step)
    have fin : wpAny (model prog w) A (call (.builtin "object.__ne__") ([.ref x] ++ [b]) >>= fun v => pure (some v)) (fun a s' => wpAny (model prog w) A (match a with
              | some Value.notImplemented => pure none
              | none => pure none
              | some __do_lift => pure (some __do_lift))
              (fun r s' => ∃ v, r = some v ∧ Q v s') E s') E s := wpAny_bind (wpAny_mono body (fun v s' ⟨r, e, q⟩ => wpAny_pure (by subst e; exact wpAny_pure ⟨_, rfl, q⟩)) fun _ _ h' => h')
    split
    · exact wpAny_bind (wpAny_pure (wpAny_pure fin))
    · exact wpAny_tryCatch (wpAny_bind (wpAny_pure (wpAny_pure fin)))
  unfold richCompare
  simp only [oneThing_ref]
  refine wpAny_holding (wpAny_bind (wpAny_cRoomFor (Nat.lt_of_succ_lt hu) ?_))
  refine wpAny_bind (I.type.here (wpAny_bind (hb.here ?_)))
  split
  · rename_i q
    have e : subIn K tb (.ref C) = some false := by
      rcases Bool.or_eq_true_iff.mp hn with e | e
      · rw [beq_iff_eq.mp e] at q; simp at q
      · exact beq_iff_eq.mp e
    refine wpAny_bind ((looks_subIn X e).here ?_)
    simp only [Bool.false_eq_true, if_false]
    refine wpAny_bind (wpAny_mono one (fun r s' z => ?_) fun _ _ e => e)
    obtain ⟨v, rfl, hq⟩ := z
    exact wpAny_pure hq
  · refine wpAny_bind (wpAny_pure ?_)
    simp only [Bool.false_eq_true, if_false]
    refine wpAny_bind (wpAny_mono one (fun r s' z => ?_) fun _ _ e => e)
    obtain ⟨v, rfl, hq⟩ := z
    exact wpAny_pure hq
/-- a == b and a != b by the own == of a's class, b of the same class -/
def rOwn (neg : Bool) (C : Addr) (sp : Sp) (E : XK) : V → V → Hp → VK → Prop := fun x y H Q => ∃ (_ : Mark) (a b dx dy : Addr) (fs gs : List (Str × V)), x = .ref a ∧ y = .ref b ∧ H a = some (.ins C dx fs) ∧ H b = some (.ins C dy gs) ∧ sp [.ref a, .ref b] H (fun v H' => ∃ r, v = .bl r ∧ Q (.bl (if neg = true then !r else r)) H') E
structure OwnC (K : PySem.W.Frag) (C f : Addr) : Prop where
  eq : PySem.W.findIn K (.ref C) "__eq__" = some (some (.ref f))
  fn : PySem.W.isFn K (.ref f) = true
  ne : PySem.W.findIn K (.ref C) "__ne__" = some (some (.builtin "object.__ne__"))
  sub : PySem.W.subIn K (.ref C) (.type "object") = some true
theorem own_call {CX : CXT} {n : Nat} {f : Addr} {fd : FuncData} {ps : List Str} {sp : Sp} {E : XK} (F : FnOk X.prog X.w X.K X.mg X.base CX n f fd ps sp) (hb : Binds X.K fd ps []) (hx : Passes CX X E)
    {A : Around} (hr : Room n A) (hA : A.frames = X.A.frames) {pins : List (Addr × Obj)} {s : Shared} {σ : St} {H : Hp} {a b : Addr} {R : V → Hp → Prop} (I : Inv X pins σ H s) (h : sp [.ref a, .ref b] H R E) :
    wpAny (model X.prog X.w) A (call (.ref f) [.ref a, .ref b]) (EP X pins σ R) X.xe s := by
  have e0 : Env0 X.prog X.w X.K X.mg X.base A X.stack s H := by
    have e := I.env0
    exact ⟨by rw [hA]; exact e.frames, e.mod, e.bs, e.bsz, e.funs, e.frf, e.hok, e.bare⟩
  have hl := F.len _ _ _ _ h
  have r2 : Vals [V.ref a, V.ref b] [Value.ref a, Value.ref b] := .cons rfl (.cons rfl .nil)
  refine wpAny_call (codeAny_mono (F.run A X.stack s H ⟨[.ref a, .ref b], []⟩ [.ref a, .ref b] [.ref a, .ref b] _ E hr e0 (by
    have := hb s [.ref a, .ref b] I.kIn (by simpa using hl)
    simpa using this) r2 h) fun r s' hq => ?_)
  cases r with
  | error e => exact hx pins σ H s e s' I hq
  | ok fl =>
    cases fl with
    | ret w => exact I.after hq
    | next => exact False.elim hq
    | brk => exact False.elim hq
    | cont => exact False.elim hq
theorem op_ownEq {CX : CXT} {n : Nat} {C f : Addr} {fd : FuncData} {ps : List Str} {sp : Sp} {E : XK} (F : FnOk X.prog X.w X.K X.mg X.base CX n f fd ps sp) (O : OwnC X.K C f) (hb : Binds X.K fd ps []) (hx : Passes CX X E) (hr : Room n X.A) : OpR X (compareOp .Eq) (rOwn false C sp E) := by
  intro pins s σ H x y u v Q I rx ry h
  obtain ⟨_, a, b, dx, dy, fs, gs, rfl, rfl, ha, hb', h⟩ := h
  cases rx
  cases ry
  obtain ⟨mA, J, _⟩ := ins_get I.hok ha
  obtain ⟨mB, J', _⟩ := ins_get I.hok hb'
  obtain ⟨od, J, _⟩ := J.look
  obtain ⟨od', J', _⟩ := J'.look
  obtain ⟨m, hF⟩ := I.fr
  show wpAny (model X.prog X.w) X.A (richCompare .Eq (.ref a) (.ref b)) (EP X pins σ Q) X.xe s
  refine PySem.W.cmp_K (op := .Eq) (tb := .ref C) hr.units0 hF I.ok.mod.kin J J'.type (by simp [PySem.W.notFirst]) O.eq O.fn ?_
  refine wpAny_mono (own_call F hb hx hr rfl I h) (fun w s' hq => ?_) fun _ _ e => e
  obtain ⟨z, H', I', rz, r, rfl, q⟩ := hq
  cases rz
  exact ⟨.bl r, H', I', rfl, q⟩
theorem op_ownNe {CX : CXT} {n : Nat} {C f : Addr} {fd : FuncData} {ps : List Str} {sp : Sp} {E : XK} (F : FnOk X.prog X.w X.K X.mg X.base CX n f fd ps sp) (O : OwnC X.K C f) (hb : Binds X.K fd ps []) (hx : Passes CX X E) (hr : Room (n + 1) X.A) : OpR X (compareOp .NotEq) (rOwn true C sp E) := by
  intro pins s σ H x y u v Q I rx ry h
  obtain ⟨_, a, b, dx, dy, fs, gs, rfl, rfl, ha, hb', h⟩ := h
  cases rx
  cases ry
  obtain ⟨mA, J, _⟩ := ins_get I.hok ha
  obtain ⟨mB, J', _⟩ := ins_get I.hok hb'
  obtain ⟨od, J, _⟩ := J.look
  obtain ⟨od', J', _⟩ := J'.look
  obtain ⟨m, hF⟩ := I.fr
  show wpAny (model X.prog X.w) X.A (richCompare .NotEq (.ref a) (.ref b)) (EP X pins σ Q) X.xe s
  refine neCmp_K (tb := .ref C) (by have := hr.units; omega) hF I.ok.mod.kin J J'.type (by simp [PySem.W.notFirst]) O.eq O.fn O.ne O.sub ?_
  refine wpAny_mono (own_call F hb hx hr.in1 rfl I h) (fun w s' hq => ?_) fun _ _ e => e
  obtain ⟨z, H', I', rz, r, rfl, q⟩ := hq
  cases rz
  exact ⟨r, rfl, .bl (!r), H', I', rfl, q⟩
/-- C.m is a staticmethod: its record at p, its def at g -/
structure SMet (K : PySem.W.Frag) (C : Addr) (mc : Value) (m : Str) (p g : Addr) : Prop where
  at_ : PySem.W.findCls K (.ref C) mc m = some (.get (.builtin "staticmethod.__get__") (.ref p) .none (.ref C))
  rc : ∃ rest, PySem.W.recIn K p "staticmethod" = some (.ref g :: rest)
  kp : PySem.W.keepIn K (.ref g) = true
theorem getsm_ok {pins : List (Addr × Obj)} {σ : St} {H : Hp} {s : Shared} {C p g : Addr} {mc : Value} {m : Str} {A : Around} {E : Value → Shared → Prop} {pl : Sem Bool} {Q : Value × List Value → Shared → Prop} (I : Inv X pins σ H s) (r : ClX.CRead X.K C mc) (k : SMet X.K C mc m p g)
    (h : ∀ s', Inv X pins σ H s' → Q (.ref g, []) s') : wpAny (model X.prog X.w) A (getMethod (.ref C) m pl) Q E s := by
  obtain ⟨rest, hp⟩ := k.rc
  exact PySem.W.method_cls I.kIn r.ga (cls_bind I.kIn r.rd k.at_ (wpAny_call (sm_get (s := { s with toks := s.toks + 1 }) I.kIn hp (handed_on rfl (h _ (I.tok _))))))
/-- C.m(..), m a staticmethod -/
def tSMeth (C : Addr) (sp : Sp) (dvs : List V) (E : XK) (ta : TE) (t : TA) : TE := fun σ H Q => ta σ H fun x H1 => x = .ref C ∧ t σ H1 fun vs H2 => sp (vs ++ dvs) H2 Q E
def tSMethK (C : Addr) (sp : Sp) (gV : List V → List V → List V) (E : XK) (ta : TE) (tk : TA) : TE := fun σ H Q => ta σ H fun x H1 => x = .ref C ∧ tk σ H1 fun zs H2 => sp (gV [] zs) H2 Q E
theorem pe_smeth {CX : CXT} {k : Nat} {C p g : Addr} {mc : Value} {fd : FuncData} {ps : List Str} {ds : List Value} {dvs : List V} {sp : Sp} {E : XK} {o e : Expr} {es : List Expr} {m : Str} {pos apos : Pos} {ta : TE} {t : TA} {pl : Sem Bool}
    (he : PE X o ta) (r : ClX.CRead X.K C mc) (c : SMet X.K C mc m p g) (F : FnOk X.prog X.w X.K X.mg X.base CX k g fd ps sp) (hr : Room k X.A) (hb : Binds X.K fd ps ds) (hd : Vals dvs ds) (hx : Passes CX X E) (ha : PA X (e :: es) t)
    (hst : starEach (e :: es) X.env = (false, eval e X.env) :: starEach es X.env := by rfl) (hpl : (backTo pos (starEach es X.env)).any (·.1) = false := by rfl)
    (ht : eval (.Call (.Attribute o m apos) (e :: es) [] pos) X.env = (do
      let ov ← eval o X.env
      standAt apos.atName
      let (f, first) ← holding [ov] (getMethod ov m pl)
      callWith pos f first (backTo pos (starEach (e :: es) X.env)) (backToKw pos (keywordEach [] X.env))) := by rfl) :
    PE X (.Call (.Attribute o m apos) (e :: es) [] pos) (tSMeth C sp dvs E ta t) := by
  refine ⟨fun pins s σ H Q I h => ?_⟩
  refine PySem.W.methodCall_KW (pl := pl) (thn (he.run pins s σ H _ I h) fun u s1 ⟨x, H1, I1, rx, ex, q⟩ => ?_) ht
  subst ex
  obtain rfl : u = Value.ref C := rx
  refine getsm_ok I1 r c fun s2 I2 => ?_
  refine PySem.W.callWith_K (h₀ := X.base) I.ok.mod.kin c.kp (thn (ha.run pos pins s2 σ H1 _ I2 q) fun us s3 ⟨vs, H2, I3, rv, q2⟩ => ⟨I3.kIn, ?_⟩) hst hpl
  exact run_fn F hr hb hd hx I3 rv q2
theorem pe_smethK {CX : CXT} {k : Nat} {C p g : Addr} {mc : Value} {fd : FuncData} {ps ks : List Str} {gg : List Value → List Value → List Value} {gV : List V → List V → List V} {sp : Sp} {E : XK} {o : Expr} {kws : List Keyword} {m : Str} {pos apos : Pos} {ta : TE} {tk : TA} {pl : Sem Bool}
    (he : PE X o ta) (r : ClX.CRead X.K C mc) (c : SMet X.K C mc m p g) (F : FnOk X.prog X.w X.K X.mg X.base CX k g fd ps sp) (hr : Room k X.A) (hb : KBinds X.K fd ps ks gg gV) (hx : Passes CX X E) (hkw : PK X kws tk)
    (hall : (backToKw pos (keywordEach kws X.env)).all (·.1.isSome) = true := by rfl) (hks : (backToKw pos (keywordEach kws X.env)).filterMap (·.1) = ks := by rfl)
    (hpl : ((backTo pos (starEach [] X.env)).any (·.1) || (backToKw pos (keywordEach kws X.env)).any (·.1.isNone)) = false := by rfl)
    (ht : eval (.Call (.Attribute o m apos) [] kws pos) X.env = (do
      let ov ← eval o X.env
      standAt apos.atName
      let (f, first) ← holding [ov] (getMethod ov m pl)
      callWith pos f first (backTo pos (starEach [] X.env)) (backToKw pos (keywordEach kws X.env))) := by rfl) :
    PE X (.Call (.Attribute o m apos) [] kws pos) (tSMethK C sp gV E ta tk) := by
  refine ⟨fun pins s σ H Q I h => ?_⟩
  refine PySem.W.methodCall_KW (pl := pl) (thn (he.run pins s σ H _ I h) fun u s1 ⟨x, H1, I1, rx, ex, q⟩ => ?_) ht
  subst ex
  obtain rfl : u = Value.ref C := rx
  refine getsm_ok I1 r c fun s2 I2 => ?_
  refine PySem.W.callWith_KW0 (h₀ := X.base) I.ok.mod.kin c.kp hall (thn (hkw.run pos pins s2 σ H1 _ I2 q) fun ws s3 ⟨zs, H2, I3, rz, q2⟩ => ⟨I3.kIn, ?_⟩) hpl
  rw [hks]
  exact run_fnk (us := []) (vs := []) F hr hb hx I3 .nil rz q2
end
end L2
end
section
set_option Elab.async false
set_option linter.all false
set_option maxRecDepth 100000
set_option maxHeartbeats 2000000
namespace L2
open PySem PySem.Spec PyProof.Rows PySem.W Mz
section
variable {X : Cx}
/-- xs == [] and xs != [] -/
def rEmp (neg : Bool) : V → V → Hp → VK → Prop := fun x y H Q => ∃ (_ : Mark) (a b : Addr) (xs : List V), x = .ref a ∧ y = .ref b ∧ H a = some (.lst xs) ∧ H b = some (.lst []) ∧ Q (.bl (if neg = true then !xs.isEmpty else xs.isEmpty)) H
theorem op_neEmp (hu : X.A.units + 64 < cLine) : OpR X (compareOp .NotEq) (rEmp true) := by
  intro pins s σ H x y v u Q I rx ry h
  obtain ⟨_, a, b, xs, rfl, rfl, ha, hb, q⟩ := h
  cases rx
  cases ry
  obtain ⟨z, its, n, r, hl, e⟩ := I.lstM ha
  obtain ⟨z2, its2, n2, r2, hl2, e2⟩ := I.lstM hb
  cases r2
  have h1 : s.heap.IsList a its.toArray := ⟨_, e, rfl, _, rfl⟩
  have h2 : s.heap.IsList b #[] := ⟨_, e2, rfl, _, rfl⟩
  show wpAny (model X.prog X.w) X.A (richCompare .NotEq (.ref a) (.ref b)) (EP X pins σ Q) X.xe s
  cases xs with
  | nil =>
    cases r
    exact SeqAt.RcNeAt.lists (e := fun _ => true) h1 h2 rfl (by omega) (fun j j1 _ => absurd j1 (by simp)) _ _ _ _ ⟨.bl false, H, I, rfl, q⟩
  | cons x r' =>
    cases r with
    | cons rx rr =>
      exact SeqAt.RcNeAt.lists_lengths h1 h2 (by simp) (by omega) _ _ _ _ ⟨.bl true, H, I, rfl, q⟩
theorem op_eqEmp (hu : X.A.units + 64 < cLine) : OpR X (compareOp .Eq) (rEmp false) := by
  intro pins s σ H x y v u Q I rx ry h
  obtain ⟨_, a, b, xs, rfl, rfl, ha, hb, q⟩ := h
  cases rx
  cases ry
  obtain ⟨z, its, n, r, hl, e⟩ := I.lstM ha
  obtain ⟨z2, its2, n2, r2, hl2, e2⟩ := I.lstM hb
  cases r2
  have h1 : s.heap.IsList a its.toArray := ⟨_, e, rfl, _, rfl⟩
  have h2 : s.heap.IsList b #[] := ⟨_, e2, rfl, _, rfl⟩
  show wpAny (model X.prog X.w) X.A (richCompare .Eq (.ref a) (.ref b)) (EP X pins σ Q) X.xe s
  cases xs with
  | nil =>
    cases r
    exact SeqAt.RcAt.lists (e := fun _ => true) h1 h2 rfl (by omega) (fun j j1 _ => absurd j1 (by simp)) _ _ _ _ ⟨.bl true, H, I, rfl, q⟩
  | cons x r' =>
    cases r with
    | cons rx rr =>
      exact SeqAt.RcAt.lists_lengths h1 h2 (by simp) (by omega) _ _ _ _ ⟨.bl false, H, I, rfl, q⟩
/-- x in a tuple of data, x not in it -/
def rInDT (K : PySem.W.Frag) (neg : Bool) : V → V → Hp → VK → Prop := fun x y H Q => ∃ (_ : Mark) (d : PyData) (ds : List PyData), Dp K H x d ∧ Dp K H y (.tuple ds) ∧ SeqAt.shaped d = true ∧ SeqAt.shaped (.tuple ds) = true ∧ Q (.bl (if neg = true then !ds.any (fun z => PyData.eqv z d) else ds.any fun z => PyData.eqv z d)) H
theorem op_notInDT (hu : X.A.units + 65 < cLine) : OpR X (compareOp .NotIn) (rInDT X.K true) := by
  intro pins s σ H x y v u Q I rx ry h
  obtain ⟨_, d, ds, hd, he, sd, se, q⟩ := h
  obtain ⟨as, r1⟩ := Dp.reads I d x v hd rx
  obtain ⟨bs, r2⟩ := Dp.reads I (.tuple ds) y u he ry
  exact SeqAt.notIn_tuple_reads r2 r1 (SeqAt.canLay_of_shaped se) (SeqAt.canLay_of_shaped sd) (room_in_shaped sd hu) ⟨.bl _, H, I, rfl, q⟩
theorem Room.u65 {k : Nat} {A : Around} (r : Room k A) : A.units + 65 < cLine := by have := r.un; omega
end
end L2
end
section
set_option Elab.async false
set_option linter.all false
set_option maxRecDepth 100000
set_option maxHeartbeats 2000000
namespace L2
open PySem PySem.Spec PyProof.Rows
section
variable {X : Cx}
/-! ### x[i], v in x by the own methods of x's class -/
theorem own_call2 {CX : CXT} {n : Nat} {f : Addr} {fd : FuncData} {ps : List Str} {sp : Sp} {E : XK} (F : FnOk X.prog X.w X.K X.mg X.base CX n f fd ps sp) (hb : Binds X.K fd ps []) (hx : Passes CX X E)
    {A : Around} (hr : Room n A) (hA : A.frames = X.A.frames) {pins : List (Addr × Obj)} {s : Shared} {σ : St} {H : Hp} {a : Addr} {y : V} {u : Value} {R : V → Hp → Prop} (I : Inv X pins σ H s) (ry : RelV y u) (h : sp [.ref a, y] H R E) :
    wpAny (model X.prog X.w) A (call (.ref f) [.ref a, u]) (EP X pins σ R) X.xe s := by
  have e0 : Env0 X.prog X.w X.K X.mg X.base A X.stack s H := by
    have e := I.env0
    exact ⟨by rw [hA]; exact e.frames, e.mod, e.bs, e.bsz, e.funs, e.frf, e.hok, e.bare⟩
  have hl := F.len _ _ _ _ h
  have r2 : Vals [V.ref a, y] [Value.ref a, u] := .cons rfl (.cons ry .nil)
  refine wpAny_call (codeAny_mono (F.run A X.stack s H ⟨[.ref a, u], []⟩ [.ref a, u] [.ref a, y] _ E hr e0 (by
    have := hb s [.ref a, u] I.kIn (by simpa using hl)
    simpa using this) r2 h) fun r s' hq => ?_)
  cases r with
  | error e => exact hx pins σ H s e s' I hq
  | ok fl =>
    cases fl with
    | ret w => exact I.after hq
    | next => exact False.elim hq
    | brk => exact False.elim hq
    | cont => exact False.elim hq
structure OwnG (K : PySem.W.Frag) (C f : Addr) : Prop where
  at_ : PySem.W.findIn K (.ref C) "__getitem__" = some (some (.ref f))
  fi : PySem.W.fnIn K f = true
  fn : PySem.W.isFn K (.ref f) = true
structure OwnN (K : PySem.W.Frag) (C f : Addr) : Prop where
  at_ : PySem.W.findIn K (.ref C) "__contains__" = some (some (.ref f))
  fn : PySem.W.isFn K (.ref f) = true
def rOwnIx (C : Addr) (sp : Sp) (E : XK) : R2 := fun x y H Q => ∃ (a dx : Addr) (fs : List (Str × V)), x = .ref a ∧ H a = some (.ins C dx fs) ∧ sp [.ref a, y] H Q E
def rOwnIn (neg : Bool) (C : Addr) (sp : Sp) (E : XK) : R2 := fun x y H Q => ∃ (a dx : Addr) (fs : List (Str × V)), y = .ref a ∧ H a = some (.ins C dx fs) ∧ sp [.ref a, x] H (fun v H' => ∃ r, v = .bl r ∧ Q (.bl (if neg = true then !r else r)) H') E
variable {a b : Expr} {ta tb : TE} {pos : Pos} {CX : CXT} {n : Nat} {C f : Addr} {fd : FuncData} {ps : List Str} {sp : Sp} {E : XK}
theorem pe_ownIx (F : FnOk X.prog X.w X.K X.mg X.base CX n f fd ps sp) (O : OwnG X.K C f) (hb : Binds X.K fd ps []) (hx : Passes CX X E) (hr : Room (n + 1) X.A) (ha : PE X a ta) (hb2 : PE X b tb)
    (hsl : ∀ v u, subscripted b true v u = runValue (.builtin "lifetime.subscript" ⟨[v, u], []⟩) := by intro _ _; with_unfolding_all rfl) : PE X (.Subscript a b pos) (tOp (rOwnIx C sp E) ta tb) := by
  refine ⟨fun pins s σ H Q I h => ?_⟩
  refine Subscript_ (binT ha hb2 I h fun v u s2 x y H2 I2 rx ry q => ?_)
  obtain ⟨p, dx, fs, rfl, hp, q⟩ := q
  cases rx
  obtain ⟨mA, J, _⟩ := ins_get I2.hok hp
  obtain ⟨od, J, _⟩ := J.look
  obtain ⟨m, hF⟩ := I2.fr
  exact PySem.W.sub_K hF I2.ok.mod.kin J O.at_ O.fi O.fn (own_call2 F hb hx hr.in1 rfl I2 ry q) (hsl _ _)
theorem op_ownIn (F : FnOk X.prog X.w X.K X.mg X.base CX n f fd ps sp) (O : OwnN X.K C f) (hb : Binds X.K fd ps []) (hx : Passes CX X E) (hr : Room n X.A) : OpR X (compareOp .In) (rOwnIn false C sp E) := by
  intro pins s σ H x y v u Q I rx ry h
  obtain ⟨p, dx, fs, rfl, hp, q⟩ := h
  cases ry
  obtain ⟨mA, J, _⟩ := ins_get I.hok hp
  obtain ⟨od, J, _⟩ := J.look
  obtain ⟨m, hF⟩ := I.fr
  refine PySem.W.in_K hF I.ok.mod.kin J O.at_ O.fn ?_
  refine wpAny_mono (own_call2 F hb hx hr rfl I rx q) (fun w s' hq => ?_) fun _ _ e => e
  obtain ⟨z, H', I', rz, r, rfl, q⟩ := hq
  cases rz
  exact wpAny_truthy_bool ⟨.bl r, H', I', rfl, q⟩
theorem op_ownNotIn (F : FnOk X.prog X.w X.K X.mg X.base CX n f fd ps sp) (O : OwnN X.K C f) (hb : Binds X.K fd ps []) (hx : Passes CX X E) (hr : Room n X.A) : OpR X (compareOp .NotIn) (rOwnIn true C sp E) := by
  intro pins s σ H x y v u Q I rx ry h
  obtain ⟨p, dx, fs, rfl, hp, q⟩ := h
  cases ry
  obtain ⟨mA, J, _⟩ := ins_get I.hok hp
  obtain ⟨od, J, _⟩ := J.look
  obtain ⟨m, hF⟩ := I.fr
  refine PySem.W.notIn_K hF I.ok.mod.kin J O.at_ O.fn ?_
  refine wpAny_mono (own_call2 F hb hx hr rfl I rx q) (fun w s' hq => ?_) fun _ _ e => e
  obtain ⟨z, H', I', rz, r, rfl, q⟩ := hq
  cases rz
  exact wpAny_truthy_bool ⟨.bl (!r), H', I', rfl, q⟩
end
/-! ### a def with defaults -/
abbrev FunX (K : PySem.W.Frag) (x qual : Str) (st : Stmt) (dvs : List V) (f : Addr) (fd : FuncData) : Prop := FunD K x qual (defArgs st) (defBody st) (defScope st) dvs [] f fd
theorem FunX.okN {P : Program} {w : World} {K : PySem.W.Frag} {mg : Str → Option Value} {base : Heap} {x qual : Str} {st : Stmt} {dvs : List V} {f : Addr} {fd : FuncData} {N ps : List Str} {k : Nat} {sp : Sp} (F : FunX K x qual st dvs f fd) (S : FnScope N ps (defScope st)) (len : ∀ vs H Q E, sp vs H Q E → vs.length = ps.length)
    (hbody : ∀ (cdv : Value) (A : Around) (outer : List Env) (s : Shared) (H : Hp) (vs : List V) (Q : VK) (E : XK), Room k (A.deeper (envOfC qual (defScope st) s.heap.objs.size f cdv)) → sp vs H Q E →
      ∃ t, PSs (cxOf CX0 P w K mg base N qual (defScope st) f cdv A outer s H E).nox (defBody st) t ∧ t { nx := fun _ H' => Q .non H', rt := Q } (start N vs) H) : FnOk P w K mg base CX0 (k + 1) f fd ps sp := by
  obtain ⟨oc, od, dV, kV, doc, pm, an, cdv, ct, osl, rfl, lk, hcd, _, _⟩ := F.ex
  refine fn_of lk hcd S len fun A outer s H vs Q E hr hsp => ?_
  obtain ⟨t, h, q⟩ := hbody cdv A outer s H vs Q E hr hsp
  exact ⟨t, h.nox, q⟩
end L2
end
section
set_option Elab.async false
set_option linter.all false
set_option maxRecDepth 100000
set_option maxHeartbeats 4000000
namespace Mz
open PySem L2
/-! ### names for the operators' readings -/
abbrev rAddI : R2 := rI0 fun i j => .int (i + j)
abbrev rSubI : R2 := rI0 fun i j => .int (i - j)
abbrev rMulI : R2 := rI CMul fun i j => .int (i * j)
abbrev rDivI : R2 := rI CDiv fun i j => .int (i / j)
abbrev rModI : R2 := rI (fun _ j => 0 < j) fun i j => .int (i % j)
abbrev rPowI : R2 := rI CPow fun i j => .int (i ^ j.toNat)
abbrev rLtI : R2 := rI0 fun i j => .bl (decide (i < j))
abbrev rLeI : R2 := rI0 fun i j => .bl (decide (i ≤ j))
abbrev rGtI : R2 := rI0 fun i j => .bl (decide (j < i))
abbrev rGeI : R2 := rI0 fun i j => .bl (decide (j ≤ i))
abbrev rNeg : V → Hp → VK → Prop := rU fun i => .int (-i)
abbrev rAddS : R2 := fun x y H Q => ∃ i j, x = .str i ∧ y = .str j ∧ i.length + j.length ≤ sizeLine ∧ Q (.str (i ++ j)) H
abbrev rIsN : R2 := fun x y H Q => y = .non ∧ Q (.bl (decide (x = .non))) H
abbrev rNotN : R2 := fun x y H Q => y = .non ∧ Q (.bl (!decide (x = .non))) H
abbrev rInQ (K : PySem.W.Frag) : R2 := rIn K false
abbrev rNotInQ (K : PySem.W.Frag) : R2 := rIn K true
abbrev rInSign : R2 := fun x y H Q => ∃ (c : Nat) (z : Str), x = .str ⟨#[c]⟩ ∧ y = .str z ∧ Q (.bl (decide (c ∈ z.cps.toList))) H
abbrev rNotInSign : R2 := fun x y H Q => ∃ (c : Nat) (z : Str), x = .str ⟨#[c]⟩ ∧ y = .str z ∧ Q (.bl (!decide (c ∈ z.cps.toList))) H
abbrev rLen (K : PySem.W.Frag) : List V → Hp → VK → Prop := fun xs H Q => ∃ p ys, xs = [.ref p] ∧ (SqL K H p ys ∨ SqT K H p ys) ∧ Q (.int ys.length) H
abbrev rLenS : List V → Hp → VK → Prop := fun xs H Q => ∃ x, xs = [.str x] ∧ x.length ≤ sizeLine ∧ Q (.int x.length) H
abbrev rLenD : List V → Hp → VK → Prop := fun xs H Q => ∃ a kvs, xs = [V.ref a] ∧ H a = some (.dK kvs) ∧ Q (.int kvs.length) H
abbrev rSIndex : V → List V → Hp → VK → Prop := fun x xs H Q => ∃ a b i rest, x = .str a ∧ xs = [.str b] ∧ Builtin.Str.occurrences a b 0 a.length 1 = i :: rest ∧ Q (.int (i : Nat)) H
abbrev rInt1 : List V → Hp → VK → Prop := fun xs H Q => (∃ i, xs = [.int i] ∧ Q (.int i) H) ∨ ∃ k, xs = [.bl k] ∧ Q (.int (if k then 1 else 0)) H
abbrev rStrI : List V → Hp → VK → Prop := fun xs H Q => ∃ i, xs = [.int i] ∧ i.natAbs.log2 < 1920 ∧ Q (.str (toString i)) H
abbrev rListOf (K : PySem.W.Frag) : List V → Hp → VK → Prop := fun xs H Q => ∃ p ys, xs = [.ref p] ∧ (SqL K H p ys ∨ SqT K H p ys) ∧ ∀ l, H l = none → Q (.ref l) (upd H l (.lst ys))
abbrev rTupleOf (K : PySem.W.Frag) : List V → Hp → VK → Prop := fun xs H Q => ∃ p ys, xs = [.ref p] ∧ ((SqL K H p ys ∧ ∀ l, H l = none → Q (.ref l) (upd H l (.tup ys))) ∨ (SqT K H p ys ∧ Q (.ref p) H))
abbrev iAddI : TIp := ipI fun i j => i + j
abbrev iSubI : TIp := ipI fun i j => i - j
abbrev oNone := tNoPart
abbrev oSome := @tPart
/-! ### readings, one step each -/
section
variable {K : PySem.W.Frag} {σ : St} {H : Hp} {Q : VK} {v : V}
theorem rd_var {i : Nat} (e : σ[i]? = some (some v)) (q : Q v H) : tVar i σ H Q := ⟨v, e, q⟩
theorem rd_ii {g : Int → Int → V} {i j : Int} (q : Q (g i j) H) : rI0 g (.int i) (.int j) H Q := ⟨i, j, rfl, rfl, q⟩
theorem rd_iic {C : Int → Int → Prop} {g : Int → Int → V} {i j : Int} (c : C i j) (q : Q (g i j) H) : rI C g (.int i) (.int j) H Q := ⟨i, j, rfl, rfl, c, q⟩
theorem rd_u {g : Int → V} {i : Int} (q : Q (g i) H) : rU g (.int i) H Q := ⟨i, rfl, q⟩
theorem rd_ip {f : Int → Int → Int} {i j : Int} (q : Q (.int (f i j)) H) : ipI f (.int i) (.int j) H Q := ⟨i, j, rfl, rfl, q⟩
theorem rd_int {i : Int} (q : Q (.int i) H) : rInt1 [.int i] H Q := .inl ⟨i, rfl, q⟩
theorem rd_intB {b : Bool} (q : Q (.int (if b then 1 else 0)) H) : rInt1 [.bl b] H Q := .inr ⟨b, rfl, q⟩
theorem rd_eq {x y : V} (e : scal x y = true) (q : Q (.bl (decide (x = y))) H) : rEq x y H Q := ⟨e, q⟩
theorem rd_ne {x y : V} (e : scal x y = true) (q : Q (.bl (!decide (x = y))) H) : rNe x y H Q := ⟨e, q⟩
theorem rd_ixL {p : Addr} {xs : List V} {i : Int} (h : H p = some (.lst xs)) (e : atI xs i = some v) (q : Q v H) : rIxL K (.ref p) (.int i) H Q := ⟨p, xs, i, v, rfl, rfl, SqL.of h, e, q⟩
theorem rd_ixL' {p : Addr} {xs : List V} {i : Int} (h : SqL K H p xs) (e : atI xs i = some v) (q : Q v H) : rIxL K (.ref p) (.int i) H Q := ⟨p, xs, i, v, rfl, rfl, h, e, q⟩
theorem rd_ixT {p : Addr} {xs : List V} {i : Int} (h : H p = some (.tup xs)) (e : atI xs i = some v) (q : Q v H) : rIxT K (.ref p) (.int i) H Q := ⟨p, xs, i, v, rfl, rfl, SqT.of h, e, q⟩
theorem rd_ixT' {p : Addr} {xs : List V} {i : Int} (h : SqT K H p xs) (e : atI xs i = some v) (q : Q v H) : rIxT K (.ref p) (.int i) H Q := ⟨p, xs, i, v, rfl, rfl, h, e, q⟩
theorem rd_setL {p : Addr} {xs : List V} {i : Int} {j : Nat} {Q : Hp → Prop} (h : H p = some (.lst xs)) (e : ixN xs.length i = some j) (q : Q (upd H p (.lst (xs.set j v)))) : rSetL (.ref p) (.int i) v H Q := ⟨p, xs, i, j, rfl, rfl, h, e, q⟩
theorem rd_len {p : Addr} {xs : List V} (h : H p = some (.lst xs)) (q : Q (.int xs.length) H) : rLen K [.ref p] H Q := ⟨p, xs, rfl, .inl (SqL.of h), q⟩
theorem rd_lenL {p : Addr} {xs : List V} (h : SqL K H p xs) (q : Q (.int xs.length) H) : rLen K [.ref p] H Q := ⟨p, xs, rfl, .inl h, q⟩
theorem rd_lenT {p : Addr} {xs : List V} (h : SqT K H p xs) (q : Q (.int xs.length) H) : rLen K [.ref p] H Q := ⟨p, xs, rfl, .inr h, q⟩
theorem rd_if {c A B : Prop} [Decidable c] (h1 : c → A) (h2 : ¬ c → B) : if decide c = true then A else B := by
  by_cases h : c
  · rw [if_pos (decide_eq_true h)]; exact h1 h
  · rw [if_neg (by simp [h])]; exact h2 h
theorem rd_ifn {c A B : Prop} [Decidable c] (h1 : ¬ c → A) (h2 : c → B) : if (!decide c) = true then A else B := by
  by_cases h : c
  · rw [if_neg (by simp [h])]; exact h2 h
  · rw [if_pos (by simp [h])]; exact h1 h
theorem rd_ifB {b : Bool} {A B : Prop} (h1 : b = true → A) (h2 : b = false → B) : if b = true then A else B := by
  cases b with
  | true => rw [if_pos rfl]; exact h1 rfl
  | false => rw [if_neg (by simp)]; exact h2 rfl
theorem rd_app {l : Addr} {xs : List V} {y : V} (h : H l = some (.lst xs)) (s : xs.length < sizeLine) (q : Q .non (upd H l (.lst (xs ++ [y])))) : rAppend (.ref l) [y] H Q := ⟨l, xs, y, rfl, rfl, h, s, q⟩
theorem rd_tyL {p : Addr} {xs : List V} (h : SqL K H p xs) : tyV K "list" (.ref p) H := .inl ⟨rfl, xs, h⟩
end
theorem int_eq_dec {i j : Int} : decide (V.int i = V.int j) = decide (i = j) := by
  by_cases h : i = j
  · subst h; simp
  · have : ¬ V.int i = V.int j := fun q => h (V.int.inj q)
    simp [h, this]
theorem str_eq_dec {i j : Str} : decide (V.str i = V.str j) = decide (i = j) := by
  by_cases h : i = j
  · subst h; simp
  · have : ¬ V.str i = V.str j := fun q => h (V.str.inj q)
    simp [h, this]
/-- a block cut in two: what stands between is said -/
def tCut (t u : TS) : TS := fun D σ H => ∃ P : St → Hp → Prop, t { D with nx := P } σ H ∧ ∀ σ' H', P σ' H' → u D σ' H'
theorem pss_cut {X : Cx} {st : Stmt} {rest : List Stmt} {t u : TS} (h1 : PS X st t) (h2 : PSs X rest u) : PSs X (st :: rest) (tCut t u) := by
  refine ⟨fun pins s σ H D I h => ?_⟩
  obtain ⟨P, a, b⟩ := h
  refine PySem.wpAny_execs_cons (thn (h1.run pins s σ H { D with nx := P } I a) fun f s1 q => ?_)
  cases f with
  | next =>
    obtain ⟨σ', H', I', q⟩ := q
    exact h2.run pins s1 σ' H' D I' (b σ' H' q)
  | ret v => exact q
  | brk => exact q
  | cont => exact q
theorem le_line {n : Nat} (h : Nat.ble n sizeLine = true) : n ≤ sizeLine := Nat.le_of_ble_eq_true h
theorem get_new {H : Hp} {p a : Addr} {o u : HO} (hp : H p = none) (h : H a = some u) : upd H p o a = some u := by rw [upd_ne (ne_of_none h hp)]; exact h
theorem get_set {H : Hp} {p a : Addr} {o u : HO} (hn : a ≠ p) (h : H a = some u) : upd H p o a = some u := by rw [upd_ne hn]; exact h
/-! ### heaps: G the frozen part, H all of it -/
structure Gr (M : List Addr) (G H G' H' : Hp) : Prop where
  gg : Same G G'
  hh : ∀ b o, b ∉ M → H b = some o → H' b = some o
  dm : ∀ b, H' b = none → H b = none
  fr : ∀ b o, G' b = some o → G b = none → H b = none
  gh : Same G' H'
section
variable {M M' : List Addr} {G H G1 H1 G2 H2 : Hp} {p : Addr} {o : HO}
theorem Gr.refl (h : Same G H) : Gr M G H G H := ⟨Same.refl _, fun _ _ _ e => e, fun _ e => e, fun b o e n => (by rw [e] at n; cases n), h⟩
theorem Gr.trans (a : Gr M G H G1 H1) (b : Gr M' G1 H1 G2 H2) (s : ∀ x ∈ M', x ∈ M) : Gr M G H G2 H2 where
  gg := a.gg.trans b.gg
  hh := fun c o n e => b.hh c o (fun z => n (s c z)) (a.hh c o n e)
  dm := fun c e => a.dm c (b.dm c e)
  fr := fun c o e n => by
    cases q : G1 c with
    | none => exact a.dm c (b.fr c o e q)
    | some u => exact a.fr c u q n
  gh := b.gh
theorem Gr.mono (a : Gr M' G H G1 H1) (s : ∀ x ∈ M', x ∈ M) : Gr M G H G1 H1 := ⟨a.gg, fun c o n e => a.hh c o (fun z => n (s c z)) e, a.dm, a.fr, a.gh⟩
theorem Gr.same (a : Gr [] G H G1 H1) : Same H H1 := fun b o e => a.hh b o (by simp) e
theorem Gr.free (a : Gr M G H G1 H1) (h : H1 p = none) : G1 p = none := by
  cases q : G1 p with
  | none => rfl
  | some u => rw [a.gh p u q] at h; cases h
/-- a new object that stays as it is -/
theorem Gr.newF (a : Gr M G H G1 H1) (hp : H1 p = none) : Gr M G H (upd G1 p o) (upd H1 p o) where
  gg := fun b u e => get_new (a.free hp) (a.gg b u e)
  hh := fun b u n e => get_new hp (a.hh b u n e)
  dm := fun b e => by
    by_cases hb : b = p
    · subst hb; rw [upd_same] at e; cases e
    · rw [upd_ne hb] at e; exact a.dm b e
  fr := fun b u e n => by
    by_cases hb : b = p
    · subst hb; exact a.dm b hp
    · rw [upd_ne hb] at e; exact a.fr b u e n
  gh := fun b u e => by
    by_cases hb : b = p
    · subst hb; rw [upd_same] at e ⊢; exact e
    · rw [upd_ne hb] at e ⊢; exact a.gh b u e
/-- a new object that may change -/
theorem Gr.newM (a : Gr M G H G1 H1) (hp : H1 p = none) : Gr M G H G1 (upd H1 p o) where
  gg := a.gg
  hh := fun b u n e => get_new hp (a.hh b u n e)
  dm := fun b e => by
    by_cases hb : b = p
    · subst hb; rw [upd_same] at e; cases e
    · rw [upd_ne hb] at e; exact a.dm b e
  fr := a.fr
  gh := fun b u e => get_new hp (a.gh b u e)
theorem ne_none {H : Hp} {a b : Addr} {o : HO} (h : H a = some o) (h' : H b = none) : a ≠ b := ne_of_none h h'
/-- an object of one's own, or one that may be changed, is changed -/
theorem Gr.set (a : Gr M G H G1 H1) (g : G1 p = none) (h : H1 p ≠ none) (m : H p = none ∨ p ∈ M) : Gr M G H G1 (upd H1 p o) where
  gg := a.gg
  hh := fun b u n e => by
    have : b ≠ p := fun z => by
      subst z
      rcases m with m | m
      · rw [e] at m; cases m
      · exact n m
    rw [upd_ne this]; exact a.hh b u n e
  dm := fun b e => by
    by_cases hb : b = p
    · subst hb; rw [upd_same] at e; cases e
    · rw [upd_ne hb] at e; exact a.dm b e
  fr := a.fr
  gh := fun b u e => get_set (ne_none e g) (a.gh b u e)
/-- an object of one's own stays as it is from now on -/
theorem Gr.freeze (a : Gr M G H G1 H1) (m : H p = none) (h : H1 p = some o) (g : G1 p = none) : Gr M G H (upd G1 p o) H1 where
  gg := fun b u e => get_new g (a.gg b u e)
  hh := a.hh
  dm := a.dm
  fr := fun b u e n => by
    by_cases hb : b = p
    · subst hb; exact m
    · rw [upd_ne hb] at e; exact a.fr b u e n
  gh := fun b u e => by
    by_cases hb : b = p
    · subst hb; rw [upd_same] at e; rw [h]; exact e
    · rw [upd_ne hb] at e; exact a.gh b u e
/-- what may change and was not frozen is not frozen behind a call -/
theorem Gr.nog (a : Gr M G H G1 H1) (g : G p = none) (h : H p = some o) : G1 p = none := by
  cases q : G1 p with
  | none => rfl
  | some u =>
    have := a.fr p u q g
    rw [h] at this; cases this
end
/-- an object of one's own that may change: new since H0, not frozen -/
structure Mu (H0 G H : Hp) (p : Addr) (o : HO) : Prop where
  n0 : H0 p = none
  g : G p = none
  h : H p = some o
theorem Mu.step {M : List Addr} {H0 G H G1 H1 : Hp} {p : Addr} {o : HO} (m : Mu H0 G H p o) (a : Gr M G H G1 H1) (n : p ∉ M) : Mu H0 G1 H1 p o := ⟨m.n0, a.nog m.g m.h, a.hh p o n m.h⟩
/-! ### data -/
mutual
theorem Dp.mono {K : PySem.W.Frag} {G G' : Hp} (s : Same G G') : ∀ {v : V} {d : PyData}, Dp K G v d → Dp K G' v d
  | _, _, .non => .non
  | _, _, .bl b => .bl b
  | _, _, .int i => .int i
  | _, _, .str x => .str x
  | _, _, .lst h hs => .lst (s.seq h) (DpAll.mono s hs)
  | _, _, .tup h hs => .tup (by
      rcases h with (h | ⟨o, h⟩) | h
      · exact .inl (.inl (s _ _ h))
      · exact .inl (.inr ⟨o, s _ _ h⟩)
      · exact .inr h) (DpAll.mono s hs)
theorem DpAll.mono {K : PySem.W.Frag} {G G' : Hp} (s : Same G G') : ∀ {vs : List V} {ds : List PyData}, DpAll K G vs ds → DpAll K G' vs ds
  | _, _, .nil => .nil
  | _, _, .cons h hs => .cons (Dp.mono s h) (DpAll.mono s hs)
end
theorem Same.tup {K : PySem.W.Frag} {G G' : Hp} {a : Addr} {xs : List V} (s : Same G G') (h : SqT K G a xs) : SqT K G' a xs := by
  rcases h with (h | ⟨o, h⟩) | h
  · exact .inl (.inl (s _ _ h))
  · exact .inl (.inr ⟨o, s _ _ h⟩)
  · exact .inr h
theorem DpAll.get {K : PySem.W.Frag} {G : Hp} : ∀ {vs : List V} {ds : List PyData} {i : Nat} {v : V}, DpAll K G vs ds → vs[i]? = some v → ∃ d, ds[i]? = some d ∧ Dp K G v d
  | _, _, _, _, .nil, e => by simp at e
  | _, _, 0, _, .cons h _, e => by simp at e; subst e; exact ⟨_, rfl, h⟩
  | _, _, i + 1, v, .cons _ t, e => by
    obtain ⟨d, h1, h2⟩ := DpAll.get (i := i) (v := v) t (by simpa using e)
    exact ⟨d, by simpa using h1, h2⟩
theorem DpAll.getD {K : PySem.W.Frag} {G : Hp} : ∀ {vs : List V} {ds : List PyData} {i : Nat} {d : PyData}, DpAll K G vs ds → ds[i]? = some d → ∃ v, vs[i]? = some v ∧ Dp K G v d
  | _, _, _, _, .nil, e => by simp at e
  | _, _, 0, _, .cons h _, e => by simp at e; subst e; exact ⟨_, rfl, h⟩
  | _, _, i + 1, v, .cons _ t, e => by
    obtain ⟨d, h1, h2⟩ := DpAll.getD (i := i) t (by simpa using e)
    exact ⟨d, by simpa using h1, h2⟩
theorem DpAll.length {K : PySem.W.Frag} {G : Hp} : ∀ {vs : List V} {ds : List PyData}, DpAll K G vs ds → vs.length = ds.length
  | _, _, .nil => rfl
  | _, _, .cons _ t => by simp [DpAll.length t]
theorem DpAll.append {K : PySem.W.Frag} {G : Hp} : ∀ {vs ws : List V} {ds es : List PyData}, DpAll K G vs ds → DpAll K G ws es → DpAll K G (vs ++ ws) (ds ++ es)
  | _, _, _, _, .nil, t => t
  | _, _, _, _, .cons h s, t => .cons h (DpAll.append s t)
theorem DpAll.one {K : PySem.W.Frag} {G : Hp} {v : V} {d : PyData} (h : Dp K G v d) : DpAll K G [v] [d] := .cons h .nil
theorem atI_0 {α : Type} {x : α} {xs : List α} : atI (x :: xs) 0 = some x := atI_nat (j := 0) rfl
theorem atI_1 {α : Type} {x y : α} {xs : List α} : atI (x :: y :: xs) 1 = some y := atI_nat (j := 1) rfl
theorem atI_2 {α : Type} {x y z : α} {xs : List α} : atI (x :: y :: z :: xs) 2 = some z := atI_nat (j := 2) rfl
theorem few_put {f : Str} {v : V} {fs : List (Str × V)} {n : Nat} (h : fs.length ≤ n) : (putF f v fs).length ≤ n + 1 := Nat.le_trans (length_putF f v fs) (Nat.succ_le_succ h)
theorem cut_to (xs : List V) (n : Nat) : cutV xs none (some (n : Int)) = xs.take n := by
  unfold cutV
  rw [HT.sIx_none, HT.sIx_nat]
  simp
theorem cut_from (xs : List V) (n : Nat) : cutV xs (some (n : Int)) none = xs.drop n := by
  unfold cutV
  rw [HT.sIx_none, HT.sIx_nat]
  by_cases h : n ≤ xs.length
  · rw [Nat.min_eq_left h, List.take_of_length_le (by simp)]
  · rw [Nat.min_eq_right (by omega)]
    simp [show xs.length ≤ n by omega]
end Mz
end
section
namespace Mz
open PySem L2
/-- addresses of classes and written things -/
structure Ad where
  (MakerError BadField BadModes BadCall UnknownCall BadPlace BadText BadRow BadWord Refused BadThing BadWish BadRun BadCallers BadKind BadRule : Addr)
  (Kind TextReader Maker Store Run Yard Thing World Search Twins TwinSearch Ways : Addr)
  (HANDS DEEDS DEEDS_one DEEDS_many TAKING WISHES CALLERS : Addr)
end Mz
end
section
set_option Elab.async false
set_option linter.all false
set_option maxRecDepth 100000
set_option maxHeartbeats 4000000
namespace Mz
open PySem L2
local macro_rules | `(tactic| row_cond get) => `(tactic| first
  | assumption
  | exact upd_same
  | (refine get_new (by assumption) ?_; row_cond get)
  | (refine get_set (by first | assumption | (apply Ne.symm; assumption)) ?_; row_cond get))
local macro_rules | `(tactic| row_cond side) => `(tactic| first
  | assumption
  | exact Or.inl ⟨by decide, by decide⟩
  | exact Or.inr ⟨by decide, by decide⟩
  | exact ⟨by decide, by decide, by decide⟩
  | exact ⟨by decide, by decide⟩
  | decide
  | exact le_line rfl
  | (show (0 : Int) < _; first | assumption | decide))
local macro_rules | `(tactic| row_cond lk) => `(tactic| (repeat (first | rw [lookup_putF, if_pos rfl] | rw [lookup_putF, if_neg (by decide +kernel)])))
local macro_rules | `(tactic| row_cond few) => `(tactic| first | exact Nat.lt_of_le_of_lt (few_put (Nat.le_refl 0)) (by decide) | exact Nat.lt_of_le_of_lt (few_put (few_put (Nat.le_refl 0))) (by decide) | exact Nat.lt_of_le_of_lt (few_put (few_put (few_put (Nat.le_refl 0)))) (by decide) | exact Nat.lt_of_le_of_lt (few_put (few_put (few_put (few_put (Nat.le_refl 0))))) (by decide) | exact Nat.lt_of_le_of_lt (few_put (few_put (few_put (few_put (few_put (Nat.le_refl 0)))))) (by decide) | exact Nat.lt_of_le_of_lt (few_put (few_put (few_put (few_put (few_put (few_put (Nat.le_refl 0))))))) (by decide) | exact Nat.lt_of_le_of_lt (few_put (few_put (few_put (few_put (few_put (few_put (few_put (Nat.le_refl 0)))))))) (by decide) | exact Nat.lt_of_le_of_lt (few_put (few_put (few_put (few_put (few_put (few_put (few_put (few_put (Nat.le_refl 0))))))))) (by decide))
local macro_rules | `(tactic| row_cond sa) => `(tactic| first
  | rfl
  | exact ⟨_, rfl⟩
  | exact SqL.of (by row_cond get)
  | exact SqT.of (by row_cond get)
  | exact Or.inl (SqL.of (by row_cond get))
  | exact Or.inr (SqT.of (by row_cond get))
  | exact Or.inl ⟨rfl, _, SqL.of (by row_cond get)⟩
  | exact flat_strs _
  | (show List.lookup _ (putF _ _ _) = some _; row_cond lk)
  | (show List.length (putF _ _ _) < 1000; row_cond few)
  | (show List.length [] < 1000; decide)
  | row_cond get
  | row_cond side)
local macro_rules | `(tactic| row_cond rd) => `(tactic| first
  | (apply And.intro; · row_cond sa)
  | apply @Exists.intro V
  | apply @Exists.intro Nat
  | apply @Exists.intro (List V)
  | apply @Exists.intro (List Nat)
  | apply @Exists.intro Int
  | apply @Exists.intro Bool
  | apply @Exists.intro Str
  | apply @Exists.intro HO
  | apply @Exists.intro (List (Str × V))
  | (refine Or.inl ?_; apply @Exists.intro Int; apply And.intro; · rfl)
  | (refine Or.inr ?_; apply @Exists.intro Bool; apply And.intro; · rfl))
local macro_rules | `(tactic| row_cond rds) => `(tactic| repeat (row_cond rd))
/-- the state for draws -/
structure StAt (H : Hp) (st cells : Addr) (ns : List Int) (nth left : Int) (mx : Bool) : Prop where
  s : H st = some (.lst [.ref cells, .int nth, .int left, .bl mx])
  c : H cells = some (.lst (ns.map V.int))
  n : ns.length ≤ 63
  n0 : 0 ≤ nth
  l0 : 0 ≤ left
theorem StAt.ne {H : Hp} {st cells : Addr} {ns : List Int} {nth left : Int} {mx : Bool} (a : StAt H st cells ns nth left mx) : cells ≠ st := by
  refine ne_of a.c a.s ?_
  intro z
  injection z with z
  cases ns with
  | nil => cases z
  | cons x r =>
    have z1 := List.cons.inj z
    cases z1.1
/-- a state for draws that is not frozen, its cells frozen -/
def StOk (G H : Hp) (st : Addr) : Prop := ∃ cells ns nth left mx, StAt H st cells ns nth left mx ∧ G cells = some (.lst (ns.map V.int)) ∧ G st = none
theorem atI_mod {ns : List Int} {x : Int} (h : 0 < ns.length) : ∃ z, atI (ns.map V.int) (x % ((ns.map V.int).length : Nat)) = some (.int z) := by
  have e : (ns.map V.int).length = ns.length := List.length_map ..
  rw [e]
  have h1 : 0 ≤ x % (ns.length : Int) := Int.emod_nonneg _ (by omega)
  have h2 : x % (ns.length : Int) < ns.length := Int.emod_lt_of_pos _ (by omega)
  obtain ⟨j, ej⟩ : ∃ j : Nat, x % (ns.length : Int) = j := ⟨_, (Int.toNat_of_nonneg h1).symm⟩
  rw [ej]
  have hj : j < ns.length := by omega
  exact ⟨ns[j], atI_nat (by simp [hj])⟩
abbrev primes : List V := [.int 2147483647, .int 2147483629, .int 2147483587, .int 2147483579, .int 2147483563]
theorem primes_mem {i : Nat} {y : V} (h : primes[i]? = some y) : ∃ q : Int, y = .int q ∧ 0 < q ∧ q < 4294967296 := by
  have m := List.mem_of_getElem? h
  simp only [primes, List.mem_cons, List.not_mem_nil, or_false] at m
  rcases m with rfl | rfl | rfl | rfl | rfl <;> exact ⟨_, rfl, by decide, by decide⟩
theorem pow_ok {q z : Int} (h0 : 0 < q) (h1 : q < 4294967296) : (z % q).natAbs < 2 ^ 64 := by
  have a := Int.emod_nonneg z (by omega : q ≠ 0)
  have b := Int.emod_lt_of_pos z h0
  omega
def sp_law_fill (A : Ad) (K : PySem.W.Frag) : Sp := fun vs H Q _ => ∃ (G : Hp) (st : Addr), vs = [.ref st] ∧ Same G H ∧ StOk G H st ∧
  ∀ G' H', Gr [st] G H G' H' → StOk G' H' st → Q .non H'
theorem StOk.step {M : List Addr} {G H G' H' : Hp} {st : Addr} (s : StOk G H st) (g : Gr M G H G' H') (n : st ∉ M) : StOk G' H' st := by
  obtain ⟨cells, ns, nth, left, mx, S, gc, gs⟩ := s
  have gc' := g.gg _ _ gc
  exact ⟨cells, ns, nth, left, mx, ⟨g.hh _ _ n S.s, g.gh _ _ gc', S.n, S.n0, S.l0⟩, gc', g.nog gs S.s⟩
theorem StOk.g {G H : Hp} {st : Addr} (s : StOk G H st) : G st = none := by
  obtain ⟨_, _, _, _, _, _, _, gs⟩ := s
  exact gs
theorem StOk.there {G H : Hp} {st : Addr} (s : StOk G H st) : ∃ xs, H st = some (.lst xs) := by
  obtain ⟨_, _, _, _, _, S, _, _⟩ := s
  exact ⟨_, S.s⟩
theorem StOk.ne {G H : Hp} {st a : Addr} {o : HO} (s : StOk G H st) (h : G a = some o) : a ≠ st := ne_none h s.g
theorem StOk.new {G H : Hp} {st a : Addr} (s : StOk G H st) (h : H a = none) : a ≠ st := by
  obtain ⟨xs, e⟩ := s.there
  exact (ne_none e h).symm
theorem StOk.set {G H : Hp} {st p : Addr} {o : HO} (s : StOk G H st) (n : p ≠ st) (g : G p = none) : StOk G (upd H p o) st := by
  obtain ⟨cells, ns, nth, left, mx, SA, gc, gs⟩ := s
  exact ⟨cells, ns, nth, left, mx, ⟨get_set (Ne.symm n) SA.s, get_set (ne_none gc g) SA.c, SA.n, SA.n0, SA.l0⟩, gc, gs⟩
theorem StOk.freeze {G H : Hp} {st p : Addr} {o : HO} (s : StOk G H st) (n : p ≠ st) (g : G p = none) : StOk (upd G p o) H st := by
  obtain ⟨cells, ns, nth, left, mx, SA, gc, gs⟩ := s
  exact ⟨cells, ns, nth, left, mx, SA, get_new g gc, by rw [upd_ne (Ne.symm n)]; exact gs⟩
def sp_law_take (A : Ad) (K : PySem.W.Frag) : Sp := fun vs H Q _ => ∃ (G : Hp) (st : Addr) (m : Int), vs = [.ref st, .int m] ∧ Same G H ∧ StOk G H st ∧ 0 < m ∧ m < 1048576 ∧
  ∀ d G' H', 0 ≤ d → d < m → Gr [st] G H G' H' → StOk G' H' st → Q (.int d) H'
def sp_law_one (A : Ad) (K : PySem.W.Frag) : Sp := fun vs H Q _ => ∃ (G : Hp) (st a : Addr) (xs : List V), vs = [.ref st, .ref a] ∧ Same G H ∧ StOk G H st ∧ H a = some (.lst xs) ∧ a ≠ st ∧ 0 < xs.length ∧ xs.length < 1048576 ∧
  ∀ (i : Nat) v G' H', xs[i]? = some v → Gr [st] G H G' H' → StOk G' H' st → Q v H'
def sp_law_fresh (A : Ad) (K : PySem.W.Frag) : Sp := fun vs H Q _ => ∃ (G : Hp) (a : Addr) (ns : List Int), vs = [.ref a] ∧ Same G H ∧ SqL K H a (ns.map V.int) ∧
  ∀ st G' H', H st = none → Gr [] G H G' H' → StOk G' H' st → Q (.ref st) H'
def b_law_fill_1 (A : Ad) (K : PySem.W.Frag) : TS := (tSeq (tAsg (tOp rModI (tCB rInt1 (tCons (tOp rMulI (tOp rAddI (tOp rAddI (tVar 3) (tOp rMulI (tOp rMulI (tC (.int 10007)) (tVar 4)) (tVar 4))) (tOp rMulI (tC (.int 101)) (tVar 4))) (tOp rAddI (tC (.int 48271)) (tOp rMulI (tC (.int 2)) (tVar 4)))) tNil)) (tVar 5)) (gName 6))
 (tAsg (tOp rAddI (tOp rMulI (tOp (rIxL K) (tVar 0) (tC (.int 2))) (tVar 5)) (tOp rModI (tCB rInt1 (tCons (tOp rPowI (tVar 6) (tC (.int 5))) tNil)) (tVar 5))) (gSub (tVar 0) (tC (.int 2)) rSetL)))
def k_law_fill_1 (A : Ad) (K : PySem.W.Frag) : TS := (tSeq (tAsg (tOp rSubI (tVar 3) (tOp rPowI (tC (.int 10)) (tC (.int 18)))) (gSub (tVar 0) (tC (.int 2)) rSetL))
 (tIfS (tB (tOp (rIxL K) (tVar 0) (tC (.int 3))))
 (tSeq (tAsg (tC (.int 0)) (gSub (tVar 0) (tC (.int 2)) rSetL))
 (tFor (iEnumT K (tCons (tTup (tCons (tC (.int 2147483647)) (tCons (tC (.int 2147483629)) (tCons (tC (.int 2147483587)) (tCons (tC (.int 2147483579)) (tCons (tC (.int 2147483563)) tNil)))))) tNil)) (gTup K 2 (gCons (gName 4) (gCons (gName 5) gNil))) (b_law_fill_1 A K)))
 tNext))
def k_law_fill_2 (A : Ad) (K : PySem.W.Frag) : TS := (tSeq (tAsg (tOp rAddI (tVar 2) (tC (.int 1))) (gSub (tVar 0) (tC (.int 1)) rSetL))
 (tCut (tAsg (tOrV (tOp rGeI (tVar 2) (tCB (rLen K) (tCons (tVar 1) tNil))) (tOp rLtI (tVar 3) (tOp rPowI (tC (.int 10)) (tC (.int 18))))) (gSub (tVar 0) (tC (.int 3)) rSetL))
 (k_law_fill_1 A K)))
def t_law_fill (A : Ad) (K : PySem.W.Frag) : TS :=
 (tSeq (tPar 1 2 (tCons (tOp (rIxL K) (tVar 0) (tC (.int 0))) (tCons (tOp (rIxL K) (tVar 0) (tC (.int 1))) tNil)))
 (tSeq (tAsg (tOp rAddI (tOp rMulI (tC (.int 31)) (tVar 2)) (tC (.int 7))) (gName 3))
 (tCut (tIfS (tTest (tOp rGtI (tCB (rLen K) (tCons (tVar 1) tNil)) (tC (.int 0))))
 (tAsg (tOp rAddI (tOp rMulI (tC (.int 104729)) (tOp rDivI (tVar 2) (tCB (rLen K) (tCons (tVar 1) tNil)))) (tOp (rIxL K) (tVar 1) (tOp rModI (tCB rInt1 (tCons (tVar 2) tNil)) (tCB (rLen K) (tCons (tVar 1) tNil))))) (gName 3))
 tNext)
 (k_law_fill_2 A K))))
def c_law_take_1 (A : Ad) (K : PySem.W.Frag) : TT := (tAnd (tTest (tOp rLtI (tVar 2) (tC (.int 64)))) (tOr (tTest (tOp rEq (tOp (rIxL K) (tVar 0) (tC (.int 2))) (tC (.int 0)))) (tAnd (tB (tOp (rIxL K) (tVar 0) (tC (.int 3)))) (tTest (tOp rLtI (tOp (rIxL K) (tVar 0) (tC (.int 2))) (tOp rMulI (tVar 1) (tC (.int 4096))))))))
def b_law_take_1 (A : Ad) (K : PySem.W.Frag) : TS := (tSeq (tDrop (tCall (sp_law_fill A K) [] E0 (tCons (tVar 0) tNil)))
 (tSeq (tAug 2 (tC (.int 1)) iAddI)
 (tIfS (tAnd (tB (tOp (rIxL K) (tVar 0) (tC (.int 3)))) (tTest (tOp rLtI (tOp (rIxL K) (tVar 0) (tC (.int 2))) (tOp rMulI (tVar 1) (tC (.int 4096))))))
 (tAsg (tOp rAddI (tOp (rIxL K) (tVar 0) (tC (.int 2))) (tOp rMulI (tOp rMulI (tVar 1) (tC (.int 4096))) (tOp rAddI (tC (.int 1)) (tOp rModI (tCB rInt1 (tCons (tOp (rIxL K) (tVar 0) (tC (.int 2))) tNil)) (tC (.int 4093)))))) (gSub (tVar 0) (tC (.int 2)) rSetL))
 tNext)))
def k_law_take_1 (A : Ad) (K : PySem.W.Frag) : TS := (tSeq (tAsg (tOp rModI (tCB rInt1 (tCons (tOp (rIxL K) (tVar 0) (tC (.int 2))) tNil)) (tVar 1)) (gName 3))
 (tSeq (tAsg (tOp rDivI (tOp (rIxL K) (tVar 0) (tC (.int 2))) (tVar 1)) (gSub (tVar 0) (tC (.int 2)) rSetL))
 (tRet (tVar 3))))
def t_law_take (A : Ad) (K : PySem.W.Frag) : TS :=
 (tSeq (tAsg (tC (.int 0)) (gName 2))
 (tSeq (tWhile (c_law_take_1 A K) (b_law_take_1 A K))
 (k_law_take_1 A K)))
def t_law_one (A : Ad) (K : PySem.W.Frag) : TS :=
 (tRet (tOp (rIxL K) (tVar 1) (tCall (sp_law_take A K) [] E0 (tCons (tVar 0) (tCons (tCB (rLen K) (tCons (tVar 1) tNil)) tNil)))))
def t_law_fresh (A : Ad) (K : PySem.W.Frag) : TS :=
 (tRet (tLst (tCons (tSl (rSlL K) (tVar 0) oNone (oSome (tC (.int 63)))) (tCons (tC (.int 0)) (tCons (tC (.int 0)) (tCons (tC (.bl false)) tNil))))))
theorem r_law_fill {A : Ad} {K : PySem.W.Frag} {vs : List V} {H : Hp} {Q : VK} {E : XK} (h : sp_law_fill A K vs H Q E) :
    t_law_fill A K { nx := fun _ H' => Q .non H', rt := Q } (start ["_law_state", "_law_cells", "_law_nth", "_law_seed", "_law_k", "_law_prime", "_law_far"] vs) H := by
  obtain ⟨G, st, rfl, gh, ⟨cells, ns, nth, left, mx, S, gc, gs⟩, k⟩ := h
  show t_law_fill A K _ [some (.ref st), none, none, none, none, none, none] H
  obtain ⟨hs, hc, hn, hn0, hl0⟩ := id S
  have nec := S.ne
  row_cond rds
  refine ⟨fun σ H' => ∃ seed : Int, σ = [some (.ref st), some (.ref cells), some (.int nth), some (.int seed), none, none, none] ∧ H' = H, ?_, ?_⟩
  · row_cond rds
    refine rd_if (fun c => ?_) (fun c => ?_)
    · have hl : 0 < ns.length := by simpa using c
      obtain ⟨z, hz⟩ := atI_mod (x := nth) hl
      have hd : CDiv nth ((ns.map V.int).length : Nat) := ⟨by simpa using hl, by rw [List.length_map]; omega⟩
      row_cond rds
      rfl
    · row_cond rds
      rfl
  · rintro σ H' ⟨seed, rfl, rfl⟩
    row_cond rds
    refine ⟨fun σ H2 => ∃ b : Bool, σ = [some (.ref st), some (.ref cells), some (.int nth), some (.int seed), none, none, none] ∧ (b = false → 10 ^ 18 ≤ seed) ∧ H2 = upd (upd H' st (.lst [.ref cells, .int (nth + 1), .int left, .bl mx])) st (.lst [.ref cells, .int (nth + 1), .int left, .bl b]), ?_, ?_⟩
    · row_cond rds
      refine rd_if (fun c => ?_) (fun c => ?_)
      · row_cond rds
        exact ⟨fun z => Bool.noConfusion z, rfl⟩
      · row_cond rds
        refine ⟨fun z => ?_, rfl⟩
        have := of_decide_eq_false z
        have e : (10 : Int) ^ Int.toNat 18 = 10 ^ 18 := rfl
        omega
    · rintro σ H2 ⟨b, rfl, hb, rfl⟩
      have g0 : Gr [st] G H' G (upd (upd H' st (.lst [.ref cells, .int (nth + 1), .int left, .bl mx])) st (.lst [.ref cells, .int (nth + 1), .int left, .bl b])) := by
        refine Gr.set (Gr.set (Gr.refl gh) gs (by rw [hs]; simp) (.inr (by simp))) gs (by rw [upd_same]; simp) (.inr (by simp))
      row_cond rds
      refine rd_ifB (fun c => ?_) (fun c => ?_)
      · row_cond rds
        intro p hp
        row_cond rds
        refine for_it (walk_enumT (xs := primes)) (fun i σ H3 => ∃ (v4 v5 v6 : Option V) (z : Int), σ = [some (.ref st), some (.ref cells), some (.int nth), some (.int seed), v4, v5, v6] ∧ 0 ≤ z ∧ Gr [st] G H' G H3 ∧
            H3 st = some (.lst [.ref cells, .int (nth + 1), .int z, .bl b]) ∧ H3 p = some (.tup primes)) ?_ ?_ ?_ ?_
        · refine ⟨none, none, none, 0, rfl, Int.le_refl _, ?_, ?_, upd_same⟩
          · exact ((g0.set gs (by rw [upd_same]; simp) (.inr (by simp))).set gs (by rw [upd_same]; simp) (.inr (by simp))).newM hp
          · row_cond get
        · rintro i σ H3 hi ⟨v4, v5, v6, z, rfl, hz, g3, h3, h4⟩
          exact SqT.of h4
        · rintro i x σ H3 H4 hi ⟨v4, v5, v6, z, rfl, hz, g3, h3, h4⟩ ⟨T, x1, y1, rfl, hT, rfl, e1, e2⟩
          cases e1
          obtain ⟨q, rfl, q0, q1⟩ := primes_mem e2
          have hi5 : i < 5 := hi
          have hk : CMul (10007 * (i : Int)) i := .inr ⟨by omega, by omega⟩
          have hk2 : CMul (seed + 10007 * (i : Int) * i + 101 * i) (48271 + 2 * i) := .inr ⟨by omega, by omega⟩
          have hk3 : CMul z q := .inr ⟨by omega, by omega⟩
          have hst : H3 st ≠ none := by rw [h3]; simp
          have nT : st ≠ T := ne_none h3 hT
          have npT : p ≠ T := ne_none h4 hT
          have nps : p ≠ st := ne_of h4 h3 (by intro z; cases z)
          row_cond rds
          refine ⟨⟨by decide, by decide, pow_ok q0 q1⟩, ?_⟩
          row_cond rds
          refine ⟨_, _, _, _, rfl, ?_, (g3.newM hT).set gs (by rw [upd_ne nT]; exact hst) (.inr (by simp)), upd_same, ?_⟩
          · have a1 : 0 ≤ z * q := Int.mul_nonneg hz (by omega)
            exact Int.add_nonneg a1 (Int.emod_nonneg _ (by omega))
          · row_cond get
        · rintro σ H3 ⟨v4, v5, v6, z, rfl, hz, g3, h3, h4⟩
          exact k G H3 g3 ⟨cells, ns, nth + 1, z, b, ⟨h3, g3.gh _ _ gc, hn, by omega, hz⟩, gc, gs⟩
      · have hb := hb c
        refine k G _ (g0.set gs (by rw [upd_same]; simp) (.inr (by simp))) ⟨cells, ns, nth + 1, _, b, ⟨upd_same, ?_, hn, by omega, ?_⟩, gc, gs⟩
        · row_cond get
        · have e : (10 : Int) ^ Int.toNat 18 = 10 ^ 18 := rfl
          omega
theorem r_law_take {A : Ad} {K : PySem.W.Frag} {vs : List V} {H : Hp} {Q : VK} {E : XK} (h : sp_law_take A K vs H Q E) :
    t_law_take A K { nx := fun _ H' => Q .non H', rt := Q } (start ["_law_state", "_law_many", "_law_laps", "_law_digit"] vs) H := by
  obtain ⟨G, st, m, rfl, gh, S, m0, m1, k⟩ := h
  show t_law_take A K _ [some (.ref st), some (.int m), none, none] H
  have cm : CMul m 4096 := .inl ⟨by omega, by omega⟩
  refine ⟨fun n σ H1 => ∃ (G1 : Hp) (laps : Int), n = (64 - laps).toNat ∧ laps ≤ 64 ∧ σ = [some (.ref st), some (.int m), some (.int laps), none] ∧ Gr [st] G H G1 H1 ∧ StOk G1 H1 st, ⟨64, G, 0, rfl, by decide, rfl, Gr.refl gh, S⟩, ?_⟩
  rintro n σ H1 ⟨G1, laps, rfl, hl, rfl, g1, S1⟩
  obtain ⟨cells, ns, nth, left, mx, SA, gc, gs⟩ := id S1
  obtain ⟨hs, hc, hn, hn0, hl0⟩ := id SA
  have ev : ∃ b : Bool, (b = true → laps < 64) ∧ ∀ R : Bool → Hp → Prop, R b H1 → c_law_take_1 A K [some (.ref st), some (.int m), some (.int laps), none] H1 R := by
    by_cases c : laps < 64
    · by_cases c2 : left = 0
      · refine ⟨true, fun _ => c, fun R hR => ?_⟩
        row_cond rds
        rw [decide_eq_true c]
        row_cond rds
        rw [int_eq_dec, decide_eq_true c2]
        exact hR
      · cases mx with
        | true =>
          refine ⟨decide (left < m * 4096), fun _ => c, fun R hR => ?_⟩
          row_cond rds
          rw [decide_eq_true c]
          row_cond rds
          rw [int_eq_dec, decide_eq_false c2]
          row_cond rds
          exact hR
        | false =>
          refine ⟨false, fun z => Bool.noConfusion z, fun R hR => ?_⟩
          row_cond rds
          rw [decide_eq_true c]
          row_cond rds
          rw [int_eq_dec, decide_eq_false c2]
          row_cond rds
          exact hR
    · refine ⟨false, fun z => Bool.noConfusion z, fun R hR => ?_⟩
      row_cond rds
      rw [decide_eq_false c]
      exact hR
  obtain ⟨b, hb, ev⟩ := ev
  refine ev _ ?_
  refine rd_ifB (fun c => ?_) (fun c => ?_)
  · have hlt := hb c
    refine ⟨fun σ' H' => ∃ (G2 : Hp), σ' = [some (.ref st), some (.int m), some (.int (laps + 1)), none] ∧ Gr [st] G H G2 H' ∧ StOk G2 H' st, fun σ' H' ⟨G2, e, g2, S2⟩ => ⟨(64 - (laps + 1)).toNat, by omega, G2, laps + 1, rfl, by omega, e, g2, S2⟩, ?_⟩
    row_cond rds
    refine ⟨G1, st, rfl, g1.gh, S1, fun G2 H2 g2 S2 => ?_⟩
    have g12 := g1.trans g2 (fun _ h => h)
    obtain ⟨cells2, ns2, nth2, left2, mx2, SA2, gc2, gs2⟩ := id S2
    obtain ⟨hs2, hc2, hn2, hn02, hl02⟩ := id SA2
    row_cond rds
    refine rd_ifB (fun c => ?_) (fun c => ?_)
    · row_cond rds
      refine rd_if (fun c2 => ?_) (fun c2 => ?_)
      · have c3 : CMul (m * 4096) (1 + left2 % 4093) := .inl ⟨by omega, by omega⟩
        row_cond rds
        refine ⟨G2, rfl, g12.set gs2 (by rw [hs2]; simp) (.inr (by simp)), cells2, ns2, nth2, _, mx2, ⟨upd_same, get_set SA2.ne hc2, hn2, hn02, ?_⟩, gc2, gs2⟩
        have a1 := Int.emod_nonneg left2 (by decide : (4093 : Int) ≠ 0)
        exact Int.add_nonneg hl02 (Int.mul_nonneg (by omega) (by omega))
      · exact ⟨G2, rfl, g12, S2⟩
    · exact ⟨G2, rfl, g12, S2⟩
  · have cd : CDiv left m := ⟨by omega, by omega⟩
    row_cond rds
    exact k _ G1 _ (Int.emod_nonneg _ (by omega)) (Int.emod_lt_of_pos _ m0) (g1.set gs (by rw [hs]; simp) (.inr (by simp)))
      ⟨cells, ns, nth, _, mx, ⟨upd_same, get_set SA.ne hc, hn, hn0, Int.ediv_nonneg hl0 (by omega)⟩, gc, gs⟩
theorem r_law_one {A : Ad} {K : PySem.W.Frag} {vs : List V} {H : Hp} {Q : VK} {E : XK} (h : sp_law_one A K vs H Q E) :
    t_law_one A K { nx := fun _ H' => Q .non H', rt := Q } (start ["_law_state", "_law_things"] vs) H := by
  obtain ⟨G, st, a, xs, rfl, gh, S, ha, ne, l0, l1, k⟩ := h
  show t_law_one A K _ [some (.ref st), some (.ref a)] H
  row_cond rds
  refine ⟨G, st, _, rfl, gh, S, by omega, by omega, fun d G1 H1 d0 d1 g1 S1 => ?_⟩
  obtain ⟨j, rfl⟩ : ∃ j : Nat, d = j := ⟨d.toNat, by omega⟩
  have hj : j < xs.length := by omega
  have e : atI xs (j : Int) = some xs[j] := atI_nat (by simp [hj])
  have ha1 := g1.hh a _ (by simp [ne]) ha
  row_cond rds
  exact k j _ G1 H1 (by simp [hj]) g1 S1
theorem r_law_fresh {A : Ad} {K : PySem.W.Frag} {vs : List V} {H : Hp} {Q : VK} {E : XK} (h : sp_law_fresh A K vs H Q E) :
    t_law_fresh A K { nx := fun _ H' => Q .non H', rt := Q } (start ["_law_script"] vs) H := by
  obtain ⟨G, a, ns, rfl, gh, ha, k⟩ := h
  show t_law_fresh A K _ [some (.ref a)] H
  row_cond rds
  intro p hp
  row_cond rds
  intro st hst
  obtain ⟨ms, e1, e2⟩ : ∃ ms : List Int, cutV (ns.map V.int) none (some 63) = ms.map V.int ∧ ms.length ≤ 63 := by
    refine ⟨ns.take 63, ?_, by simp; omega⟩
    rw [show (63 : Int) = ((63 : Nat) : Int) from rfl, cut_to, List.map_take]
  have gp : Gr [] G H (upd G p (.lst (ms.map V.int))) (upd H p (.lst (cutV (ns.map V.int) none (some 63)))) := by
    rw [e1]
    exact (Gr.refl gh).newF hp
  have nsp : p ≠ st := by
    rintro rfl
    rw [upd_same] at hst; cases hst
  refine k st _ _ ?_ (gp.newM hst) ⟨p, ms, 0, 0, false, ⟨upd_same, ?_, e2, by decide, by decide⟩, upd_same, gp.free hst⟩
  · rw [upd_ne (Ne.symm nsp)] at hst; exact hst
  · rw [upd_ne nsp, upd_same, e1]
end Mz
end
section
set_option Elab.async false
set_option linter.all false
set_option maxRecDepth 100000
set_option maxHeartbeats 4000000
namespace Mz
open PySem L2
/-! ### data -/
inductive Da where
  | non | bl (b : Bool) | int (i : Int) | str (s : Str)
  | lst (xs : List Da) | tup (xs : List Da)
  | dct (kvs : List (Key × Da))
  | ins (C : Addr) (fs : List (Str × Da))
  | cls (a : Addr) | ty (n : String) | st
instance : Inhabited Da := ⟨.non⟩
/-- a value: data, a mutable object, a tuple with such in it -/
inductive Dv where
  | d (x : Da) | ob (n : Nat) | tp (xs : List Dv)
instance : Inhabited Dv := ⟨.d .non⟩
/-- a mutable object -/
inductive MO where
  | lst (ds : List Dv) | dct (kvs : List (Key × Dv)) | ins (C : Addr) (fs : List (Str × Dv)) | frz (d : Da)
abbrev MS := List MO
/-- the fixed part -/
structure Cn where
  K : PySem.W.Frag
  st : Addr
mutual
inductive AtD (c : Cn) (G : Hp) : V → Da → Prop
  | non : AtD c G .non .non
  | bl (b : Bool) : AtD c G (.bl b) (.bl b)
  | int (i : Int) : AtD c G (.int i) (.int i)
  | str (s : Str) : AtD c G (.str s) (.str s)
  | lst {a : Addr} {vs : List V} {ds : List Da} : G a = some (.lst vs) → AtDs c G vs ds → AtD c G (.ref a) (.lst ds)
  | tup {a : Addr} {vs : List V} {ds : List Da} : SqT c.K G a vs → AtDs c G vs ds → AtD c G (.ref a) (.tup ds)
  | dct {a : Addr} {kvs : List (Key × V)} {kds : List (Key × Da)} : G a = some (.dK kvs) → kvs.map (·.1) = kds.map (·.1) → AtDs c G (kvs.map (·.2)) (kds.map (·.2)) → AtD c G (.ref a) (.dct kds)
  | ins {a C dx : Addr} {fvs : List (Str × V)} {fds : List (Str × Da)} : G a = some (.ins C dx fvs) → fvs.map (·.1) = fds.map (·.1) → AtDs c G (fvs.map (·.2)) (fds.map (·.2)) → AtD c G (.ref a) (.ins C fds)
  | cls (a : Addr) : AtD c G (.ref a) (.cls a)
  | ty (n : String) : AtD c G (.ty n) (.ty n)
  | st : AtD c G (.ref c.st) .st
inductive AtDs (c : Cn) (G : Hp) : List V → List Da → Prop
  | nil : AtDs c G [] []
  | cons {v : V} {vs : List V} {d : Da} {ds : List Da} : AtD c G v d → AtDs c G vs ds → AtDs c G (v :: vs) (d :: ds)
end
mutual
inductive At (c : Cn) (ρ : List Addr) (G : Hp) : V → Dv → Prop
  | d {v : V} {x : Da} : AtD c G v x → At c ρ G v (.d x)
  | ob {n : Nat} {a : Addr} : ρ[n]? = some a → At c ρ G (.ref a) (.ob n)
  | tp {a : Addr} {vs : List V} {ds : List Dv} : SqT c.K G a vs → AtAll c ρ G vs ds → At c ρ G (.ref a) (.tp ds)
inductive AtAll (c : Cn) (ρ : List Addr) (G : Hp) : List V → List Dv → Prop
  | nil : AtAll c ρ G [] []
  | cons {v : V} {vs : List V} {d : Dv} {ds : List Dv} : At c ρ G v d → AtAll c ρ G vs ds → AtAll c ρ G (v :: vs) (d :: ds)
end
section
variable {c : Cn} {ρ ρ' : List Addr} {G G' : Hp}
mutual
theorem AtD.mono (s : Same G G') : ∀ {v : V} {d : Da}, AtD c G v d → AtD c G' v d
  | _, _, .non => .non
  | _, _, .bl b => .bl b
  | _, _, .int i => .int i
  | _, _, .str x => .str x
  | _, _, .lst h hs => .lst (s _ _ h) (AtDs.mono s hs)
  | _, _, .tup h hs => .tup (Same.tup s h) (AtDs.mono s hs)
  | _, _, .dct h k hs => .dct (s _ _ h) k (AtDs.mono s hs)
  | _, _, .ins h k hs => .ins (s _ _ h) k (AtDs.mono s hs)
  | _, _, .cls a => .cls a
  | _, _, .ty n => .ty n
  | _, _, .st => .st
theorem AtDs.mono (s : Same G G') : ∀ {vs : List V} {ds : List Da}, AtDs c G vs ds → AtDs c G' vs ds
  | _, _, .nil => .nil
  | _, _, .cons h hs => .cons (AtD.mono s h) (AtDs.mono s hs)
end
mutual
theorem At.mono (s : Same G G') (p : ∃ l, ρ' = ρ ++ l) : ∀ {v : V} {d : Dv}, At c ρ G v d → At c ρ' G' v d
  | _, _, .d h => .d (h.mono s)
  | _, _, .ob h => .ob (by obtain ⟨l, rfl⟩ := p; rw [List.getElem?_append_left (List.getElem?_eq_some_iff.mp h).1]; exact h)
  | _, _, .tp h hs => .tp (Same.tup s h) (AtAll.mono s p hs)
theorem AtAll.mono (s : Same G G') (p : ∃ l, ρ' = ρ ++ l) : ∀ {vs : List V} {ds : List Dv}, AtAll c ρ G vs ds → AtAll c ρ' G' vs ds
  | _, _, .nil => .nil
  | _, _, .cons h hs => .cons (At.mono s p h) (AtAll.mono s p hs)
end
theorem AtDs.up : ∀ {vs : List V} {ds : List Da}, AtDs c G vs ds → AtAll c ρ G vs (ds.map Dv.d)
  | _, _, .nil => .nil
  | _, _, .cons h t => .cons (.d h) (AtDs.up t)
theorem AtAll.down : ∀ {vs : List V} {ds : List Da}, AtAll c ρ G vs (ds.map Dv.d) → AtDs c G vs ds
  | vs, [], h => by
    cases vs with
    | nil => exact .nil
    | cons _ _ => cases h
  | vs, d :: ds, h => by
    cases vs with
    | nil => cases h
    | cons v vs =>
      rw [List.map_cons] at h
      generalize e : Dv.d d = y at h
      cases h with
      | cons h1 h2 =>
        subst e
        cases h1 with
        | d h1 => exact .cons h1 (AtAll.down h2)
theorem AtDs.length : ∀ {vs : List V} {ds : List Da}, AtDs c G vs ds → vs.length = ds.length
  | _, _, .nil => rfl
  | _, _, .cons _ t => by simp [AtDs.length t]
theorem AtAll.get : ∀ {vs : List V} {ds : List Dv} {i : Nat} {v : V}, AtAll c ρ G vs ds → vs[i]? = some v → ∃ d, ds[i]? = some d ∧ At c ρ G v d
  | _, _, _, _, .nil, e => by simp at e
  | _, _, 0, _, .cons h _, e => by simp at e; subst e; exact ⟨_, rfl, h⟩
  | _, _, i + 1, v, .cons _ t, e => by
    obtain ⟨d, h1, h2⟩ := AtAll.get (i := i) (v := v) t (by simpa using e)
    exact ⟨d, by simpa using h1, h2⟩
theorem AtAll.getD : ∀ {vs : List V} {ds : List Dv} {i : Nat} {d : Dv}, AtAll c ρ G vs ds → ds[i]? = some d → ∃ v, vs[i]? = some v ∧ At c ρ G v d
  | _, _, _, _, .nil, e => by simp at e
  | _, _, 0, _, .cons h _, e => by simp at e; subst e; exact ⟨_, rfl, h⟩
  | _, _, i + 1, d, .cons _ t, e => by
    obtain ⟨v, h1, h2⟩ := AtAll.getD (i := i) (d := d) t (by simpa using e)
    exact ⟨v, by simpa using h1, h2⟩
theorem AtAll.length : ∀ {vs : List V} {ds : List Dv}, AtAll c ρ G vs ds → vs.length = ds.length
  | _, _, .nil => rfl
  | _, _, .cons _ t => by simp [AtAll.length t]
theorem AtAll.append : ∀ {vs ws : List V} {ds es : List Dv}, AtAll c ρ G vs ds → AtAll c ρ G ws es → AtAll c ρ G (vs ++ ws) (ds ++ es)
  | _, _, _, _, .nil, t => t
  | _, _, _, _, .cons h s, t => .cons h (AtAll.append s t)
theorem AtAll.one {v : V} {d : Dv} (h : At c ρ G v d) : AtAll c ρ G [v] [d] := .cons h .nil
theorem AtAll.take : ∀ {vs : List V} {ds : List Dv} (n : Nat), AtAll c ρ G vs ds → AtAll c ρ G (vs.take n) (ds.take n)
  | _, _, 0, _ => .nil
  | _, _, _ + 1, .nil => .nil
  | _, _, n + 1, .cons r t => .cons r (AtAll.take n t)
theorem AtAll.drop : ∀ {vs : List V} {ds : List Dv} (n : Nat), AtAll c ρ G vs ds → AtAll c ρ G (vs.drop n) (ds.drop n)
  | _, _, 0, r => r
  | _, _, _ + 1, .nil => .nil
  | _, _, n + 1, .cons _ t => AtAll.drop n t
theorem AtAll.set {v : V} {d : Dv} (r : At c ρ G v d) : ∀ {vs : List V} {ds : List Dv} (i : Nat), AtAll c ρ G vs ds → AtAll c ρ G (vs.set i v) (ds.set i d)
  | _, _, _, .nil => .nil
  | _, _, 0, .cons _ t => .cons r t
  | _, _, i + 1, .cons q t => .cons q (AtAll.set r i t)
theorem AtAll.erase : ∀ {vs : List V} {ds : List Dv} (i : Nat), AtAll c ρ G vs ds → AtAll c ρ G (vs.eraseIdx i) (ds.eraseIdx i)
  | _, _, _, .nil => .nil
  | _, _, 0, .cons _ t => t
  | _, _, i + 1, .cons q t => .cons q (AtAll.erase i t)
theorem AtAll.reverse : ∀ {vs : List V} {ds : List Dv}, AtAll c ρ G vs ds → AtAll c ρ G vs.reverse ds.reverse
  | _, _, .nil => .nil
  | _, _, .cons r t => by
    rw [List.reverse_cons, List.reverse_cons]
    exact (AtAll.reverse t).append (.one r)
theorem AtAll.map {α : Type} {f : α → V} {g : α → Dv} (h : ∀ x, At c ρ G (f x) (g x)) : ∀ l : List α, AtAll c ρ G (l.map f) (l.map g)
  | [] => .nil
  | x :: r => .cons (h x) (AtAll.map h r)
theorem AtAll.flatten : ∀ {vss : List (List V)} {dss : List (List Dv)}, Paired (AtAll c ρ G) vss dss → AtAll c ρ G vss.flatten dss.flatten
  | _, _, .nil => .nil
  | _, _, .cons h t => by
    rw [List.flatten_cons, List.flatten_cons]
    exact h.append (AtAll.flatten t)
/-- slots -/
inductive EnvOk (c : Cn) (ρ : List Addr) (G : Hp) : St → List (Option Dv) → Prop
  | nil : EnvOk c ρ G [] []
  | no {σ : St} {α : List (Option Dv)} : EnvOk c ρ G σ α → EnvOk c ρ G (none :: σ) (none :: α)
  | un {v : Option V} {σ : St} {α : List (Option Dv)} : EnvOk c ρ G σ α → EnvOk c ρ G (v :: σ) (none :: α)
  | yes {v : V} {d : Dv} {σ : St} {α : List (Option Dv)} : At c ρ G v d → EnvOk c ρ G σ α → EnvOk c ρ G (some v :: σ) (some d :: α)
theorem EnvOk.mono (s : Same G G') (p : ∃ l, ρ' = ρ ++ l) : ∀ {σ : St} {α : List (Option Dv)}, EnvOk c ρ G σ α → EnvOk c ρ' G' σ α
  | _, _, .nil => .nil
  | _, _, .no t => .no (t.mono s p)
  | _, _, .un t => .un (t.mono s p)
  | _, _, .yes h t => .yes (h.mono s p) (t.mono s p)
theorem EnvOk.get : ∀ {σ : St} {α : List (Option Dv)} {i : Nat} {d : Dv}, EnvOk c ρ G σ α → α[i]? = some (some d) → ∃ v, σ[i]? = some (some v) ∧ At c ρ G v d
  | _, _, _, _, .nil, e => by simp at e
  | _, _, 0, _, .no _, e => by simp at e
  | _, _, 0, _, .un _, e => by simp at e
  | _, _, 0, _, .yes h _, e => by simp at e; subst e; exact ⟨_, rfl, h⟩
  | _, _, i + 1, d, .no t, e => by
    obtain ⟨v, h1, h2⟩ := EnvOk.get (i := i) (d := d) t (by simpa using e)
    exact ⟨v, by simpa using h1, h2⟩
  | _, _, i + 1, d, .un t, e => by
    obtain ⟨v, h1, h2⟩ := EnvOk.get (i := i) (d := d) t (by simpa using e)
    exact ⟨v, by simpa using h1, h2⟩
  | _, _, i + 1, d, .yes _ t, e => by
    obtain ⟨v, h1, h2⟩ := EnvOk.get (i := i) (d := d) t (by simpa using e)
    exact ⟨v, by simpa using h1, h2⟩
theorem EnvOk.set {v : V} {d : Dv} (r : At c ρ G v d) : ∀ {σ : St} {α : List (Option Dv)} (i : Nat), EnvOk c ρ G σ α → EnvOk c ρ G (σ.set i (some v)) (α.set i (some d))
  | _, _, _, .nil => .nil
  | _, _, 0, .no t => .yes r t
  | _, _, 0, .un t => .yes r t
  | _, _, 0, .yes _ t => .yes r t
  | _, _, i + 1, .no t => .no (EnvOk.set r i t)
  | _, _, i + 1, .un t => .un (EnvOk.set r i t)
  | _, _, i + 1, .yes h t => .yes h (EnvOk.set r i t)
theorem EnvOk.unset : ∀ {σ : St} {α : List (Option Dv)} (i : Nat), EnvOk c ρ G σ α → EnvOk c ρ G (σ.set i none) (α.set i none)
  | _, _, _, .nil => .nil
  | _, _, 0, .no t => .no t
  | _, _, 0, .un t => .no t
  | _, _, 0, .yes _ t => .no t
  | _, _, i + 1, .no t => .no (EnvOk.unset i t)
  | _, _, i + 1, .un t => .un (EnvOk.unset i t)
  | _, _, i + 1, .yes h t => .yes h (EnvOk.unset i t)
def wipeD (α : List (Option Dv)) : List Nat → List (Option Dv)
  | [] => α
  | i :: r => wipeD (α.set i none) r
end
/-! ### the mutable objects -/
def ObAt (c : Cn) (ρ : List Addr) (G H : Hp) (a : Addr) : MO → Prop
  | .lst ds => G a = none ∧ ∃ vs, H a = some (.lst vs) ∧ AtAll c ρ G vs ds
  | .dct kds => G a = none ∧ ∃ kvs : List (Key × V), H a = some (.dK kvs) ∧ kvs.map (·.1) = kds.map (·.1) ∧ AtAll c ρ G (kvs.map (·.2)) (kds.map (·.2))
  | .ins C fds => G a = none ∧ ∃ dx fvs, H a = some (.ins C dx fvs) ∧ fvs.map (·.1) = fds.map (·.1) ∧ AtAll c ρ G (fvs.map (·.2)) (fds.map (·.2))
  | .frz d => G a ≠ none ∧ AtD c G (.ref a) d
structure Rel (c : Cn) (ρ : List Addr) (G H : Hp) (μ : MS) : Prop where
  gh : Same G H
  len : ρ.length = μ.length
  nd : ρ.Nodup
  ob : ∀ (n : Nat) (a : Addr) (o : MO), ρ[n]? = some a → μ[n]? = some o → ObAt c ρ G H a o
  so : StOk G H c.st
  sn : c.st ∉ ρ
structure Stp (st : Addr) (ρ : List Addr) (G H : Hp) (ρ' : List Addr) (G' H' : Hp) : Prop where
  pre : ∃ l, ρ' = ρ ++ l
  gg : Same G G'
  hh : ∀ b o, b ∉ ρ → b ≠ st → H b = some o → H' b = some o
  dm : ∀ b, H' b = none → H b = none
  fr : ∀ b o, G' b = some o → G b = none → H b = none ∨ b ∈ ρ
  nw : ∀ b, b ∈ ρ' → b ∈ ρ ∨ H b = none
section
variable {c : Cn} {st : Addr} {ρ ρ1 ρ2 : List Addr} {G H G1 H1 G2 H2 : Hp} {μ μ1 : MS}
theorem Stp.refl : Stp st ρ G H ρ G H := ⟨⟨[], by simp⟩, Same.refl _, fun _ _ _ _ e => e, fun _ e => e, fun b o e n => (by rw [e] at n; cases n), fun _ h => .inl h⟩
theorem Stp.trans (a : Stp st ρ G H ρ1 G1 H1) (b : Stp st ρ1 G1 H1 ρ2 G2 H2) : Stp st ρ G H ρ2 G2 H2 where
  pre := by
    obtain ⟨l, rfl⟩ := a.pre
    obtain ⟨m, rfl⟩ := b.pre
    exact ⟨l ++ m, by simp⟩
  gg := a.gg.trans b.gg
  hh := fun x o n1 n2 e => b.hh x o (fun z => by
    rcases a.nw x z with h | h
    · exact n1 h
    · rw [e] at h; cases h) n2 (a.hh x o n1 n2 e)
  dm := fun x e => a.dm x (b.dm x e)
  fr := fun x o e n => by
    cases q : G1 x with
    | none =>
      rcases b.fr x o e q with h | h
      · exact .inl (a.dm x h)
      · exact (a.nw x h).symm
    | some u => exact a.fr x u q n
  nw := fun x h => by
    rcases b.nw x h with h | h
    · exact a.nw x h
    · exact .inr (a.dm x h)
theorem ObAt.mono {a : Addr} {o : MO} (s : Same G G1) (p : ∃ l, ρ1 = ρ ++ l) (hg : G1 a = none ∨ ∃ d, o = .frz d) (hh : ∀ u, H a = some u → H1 a = some u) (h : ObAt c ρ G H a o) : ObAt c ρ1 G1 H1 a o := by
  cases o with
  | lst ds =>
    obtain ⟨g, vs, e, t⟩ := h
    rcases hg with hg | ⟨d, hg⟩
    · exact ⟨hg, vs, hh _ e, t.mono s p⟩
    · cases hg
  | dct kds =>
    obtain ⟨g, vs, e, k, t⟩ := h
    rcases hg with hg | ⟨d, hg⟩
    · exact ⟨hg, vs, hh _ e, k, t.mono s p⟩
    · cases hg
  | ins C fds =>
    obtain ⟨g, dx, vs, e, k, t⟩ := h
    rcases hg with hg | ⟨d, hg⟩
    · exact ⟨hg, dx, vs, hh _ e, k, t.mono s p⟩
    · cases hg
  | frz d =>
    refine ⟨fun z => ?_, AtD.mono s h.2⟩
    cases q : G a with
    | none => exact h.1 q
    | some u => rw [s a u q] at z; cases z
theorem Rel.free (R : Rel c ρ G H μ) {a : Addr} (h : H a = none) : G a = none := by
  cases q : G a with
  | none => rfl
  | some u => rw [R.gh a u q] at h; cases h
theorem ObAt.there {a : Addr} {o : MO} (gh : Same G H) (h : ObAt c ρ G H a o) : H a ≠ none := by
  cases o with
  | lst ds => obtain ⟨g, vs, e, t⟩ := h; rw [e]; simp
  | dct ds => obtain ⟨g, vs, e, t⟩ := h; rw [e]; simp
  | ins C ds => obtain ⟨g, dx, vs, e, t⟩ := h; rw [e]; simp
  | frz d =>
    cases q : G a with
    | none => exact absurd q h.1
    | some u => rw [gh a u q]; simp
theorem Rel.there (R : Rel c ρ G H μ) {a : Addr} (h : a ∈ ρ) : H a ≠ none := by
  obtain ⟨n, hn⟩ := List.getElem?_of_mem h
  have hl : n < μ.length := by rw [← R.len]; exact (List.getElem?_eq_some_iff.mp hn).1
  exact (R.ob n a _ hn (List.getElem?_eq_getElem hl)).there R.gh
theorem Rel.new (R : Rel c ρ G H μ) {a : Addr} (h : H a = none) : a ∉ ρ := fun z => R.there z h
theorem Rel.newst (R : Rel c ρ G H μ) {a : Addr} (h : H a = none) : a ≠ c.st := R.so.new h
theorem Stp.at_ (S : Stp st ρ G H ρ1 G1 H1) {v : V} {d : Dv} (h : At c ρ G v d) : At c ρ1 G1 v d := h.mono S.gg S.pre
theorem Stp.all (S : Stp st ρ G H ρ1 G1 H1) {v : List V} {d : List Dv} (h : AtAll c ρ G v d) : AtAll c ρ1 G1 v d := h.mono S.gg S.pre
theorem Stp.env (S : Stp st ρ G H ρ1 G1 H1) {σ : St} {α : List (Option Dv)} (h : EnvOk c ρ G σ α) : EnvOk c ρ1 G1 σ α := h.mono S.gg S.pre
theorem pre0 {ρ : List Addr} : ∃ l, ρ = ρ ++ l := ⟨[], by simp⟩
theorem pre1 {ρ : List Addr} {p : Addr} : ∃ l, ρ ++ [p] = ρ ++ l := ⟨[p], rfl⟩
/-- the objects stay as they are -/
theorem Rel.keep (R : Rel c ρ G H μ) (gg : Same G G1) (gh : Same G1 H1) (hh : ∀ b o, b ∈ ρ → H b = some o → H1 b = some o) (gn : ∀ b, b ∈ ρ → G b = none → G1 b = none) (so : StOk G1 H1 c.st) : Rel c ρ G1 H1 μ where
  gh := gh
  len := R.len
  nd := R.nd
  ob := fun n a o h1 h2 => by
    have hm : a ∈ ρ := List.mem_of_getElem? h1
    refine (R.ob n a o h1 h2).mono gg pre0 ?_ fun u e => hh a u hm e
    cases o with
    | frz d => exact .inr ⟨d, rfl⟩
    | lst ds => obtain ⟨g, _⟩ := R.ob n a _ h1 h2; exact .inl (gn a hm g)
    | dct ds => obtain ⟨g, _⟩ := R.ob n a _ h1 h2; exact .inl (gn a hm g)
    | ins C ds => obtain ⟨g, _⟩ := R.ob n a _ h1 h2; exact .inl (gn a hm g)
  so := so
  sn := R.sn
/-- something new that nobody looks at -/
theorem Rel.junk (R : Rel c ρ G H μ) {p : Addr} {u : HO} (hp : H p = none) : Rel c ρ G (upd H p u) μ ∧ Stp c.st ρ G H ρ G (upd H p u) := by
  have g := (Gr.refl (M := []) R.gh).newM (o := u) hp
  exact ⟨R.keep (Same.refl _) g.gh (fun b o _ e => get_new hp e) (fun _ _ h => h) (R.so.step g (by simp)), ⟨pre0, Same.refl _, fun b o _ _ e => get_new hp e, g.dm, fun b o e n => (by rw [e] at n; cases n), fun _ h => .inl h⟩⟩
/-- a new object that stays as it is -/
theorem Rel.newF (R : Rel c ρ G H μ) {p : Addr} {u : HO} (hp : H p = none) : Rel c ρ (upd G p u) (upd H p u) μ ∧ Stp c.st ρ G H ρ (upd G p u) (upd H p u) := by
  have g := (Gr.refl (M := []) R.gh).newF (o := u) hp
  refine ⟨R.keep g.gg g.gh (fun b o _ e => get_new hp e) (fun b hb h => ?_) (R.so.step g (by simp)), ⟨pre0, g.gg, fun b o _ _ e => get_new hp e, g.dm, fun b o e n => .inl (g.fr b o e n), fun _ h => .inl h⟩⟩
  rw [upd_ne (fun z => R.new hp (by rw [← z]; exact hb))]
  exact h
/-- a new object that may change -/
theorem Rel.alloc (R : Rel c ρ G H μ) {p : Addr} {u : HO} {o : MO} (hp : H p = none) (ho : ObAt c (ρ ++ [p]) G (upd H p u) p o) : Rel c (ρ ++ [p]) G (upd H p u) (μ ++ [o]) ∧ Stp c.st ρ G H (ρ ++ [p]) G (upd H p u) := by
  have g := (Gr.refl (M := []) R.gh).newM (o := u) hp
  have hn := R.new hp
  refine ⟨⟨g.gh, by simp [R.len], ?_, ?_, R.so.step g (by simp), ?_⟩, ⟨pre1, Same.refl _, fun b o _ _ e => get_new hp e, g.dm, fun b o e n => (by rw [e] at n; cases n), fun b h => ?_⟩⟩
  · exact List.nodup_append.mpr ⟨R.nd, by simp, fun a ha b hb z => hn (by
      have : b = p := by simpa using hb
      rw [← this, ← z]; exact ha)⟩
  · intro n a o' h1 h2
    by_cases hl : n < ρ.length
    · rw [List.getElem?_append_left hl] at h1
      rw [List.getElem?_append_left (by rw [← R.len]; exact hl)] at h2
      have hm : a ∈ ρ := List.mem_of_getElem? h1
      refine (R.ob n a o' h1 h2).mono (Same.refl _) pre1 ?_ fun w e => get_new hp e
      cases o' with
      | frz d => exact .inr ⟨d, rfl⟩
      | lst ds => obtain ⟨g, _⟩ := R.ob n a _ h1 h2; exact .inl g
      | dct ds => obtain ⟨g, _⟩ := R.ob n a _ h1 h2; exact .inl g
      | ins C ds => obtain ⟨g, _⟩ := R.ob n a _ h1 h2; exact .inl g
    · have hz : n = ρ.length := by
        have := (List.getElem?_eq_some_iff.mp h1).1
        simp at this
        omega
      subst hz
      have e1 : p = a := by simpa using h1
      have e2 : o = o' := by
        rw [R.len] at h2
        simpa using h2
      subst e1
      subst e2
      exact ho
  · intro z
    rcases List.mem_append.mp z with z | z
    · exact R.sn z
    · have : c.st = p := by simpa using z
      exact R.newst hp this.symm
  · rcases List.mem_append.mp h with h | h
    · exact .inl h
    · have : b = p := by simpa using h
      rw [this]; exact .inr hp
/-- an object is changed -/
theorem Rel.put (R : Rel c ρ G H μ) {n : Nat} {a : Addr} {u : HO} {o o' : MO} (hn : ρ[n]? = some a) (hm : μ[n]? = some o) (hz : ∀ d, o ≠ .frz d) (ho : ObAt c ρ G (upd H a u) a o') : Rel c ρ G (upd H a u) (μ.set n o') ∧ Stp c.st ρ G H ρ G (upd H a u) := by
  have ha : a ∈ ρ := List.mem_of_getElem? hn
  have hth := R.there ha
  have hg : G a = none := by
    have := R.ob n a o hn hm
    cases o with
    | lst ds => exact this.1
    | dct ds => exact this.1
    | ins C ds => exact this.1
    | frz d => exact absurd rfl (hz d)
  have g := (Gr.refl (M := [a]) R.gh).set (o := u) hg hth (.inr (by simp))
  have nst : a ≠ c.st := fun z => R.sn (by rw [← z]; exact ha)
  refine ⟨⟨g.gh, by simp [R.len], R.nd, ?_, R.so.set nst hg, R.sn⟩, ⟨pre0, Same.refl _, fun b o hb _ e => get_set (fun z => hb (by rw [z]; exact ha)) e, g.dm, fun b o e n => (by rw [e] at n; cases n), fun _ h => .inl h⟩⟩
  intro m b o1 h1 h2
  by_cases hmn : m = n
  · subst hmn
    rw [hn] at h1
    cases h1
    have hl := (List.getElem?_eq_some_iff.mp hm).1
    rw [List.getElem?_set_self hl] at h2
    cases h2
    exact ho
  · rw [List.getElem?_set_ne (Ne.symm hmn)] at h2
    have hba : b ≠ a := by
      rintro rfl
      exact hmn ((List.getElem?_inj (List.getElem?_eq_some_iff.mp h1).1 R.nd).mp (h1.trans hn.symm))
    refine (R.ob m b o1 h1 h2).mono (Same.refl _) pre0 ?_ fun w e => get_set hba e
    cases o1 with
    | frz d => exact .inr ⟨d, rfl⟩
    | lst ds => obtain ⟨g, _⟩ := R.ob m b _ h1 h2; exact .inl g
    | dct ds => obtain ⟨g, _⟩ := R.ob m b _ h1 h2; exact .inl g
    | ins C ds => obtain ⟨g, _⟩ := R.ob m b _ h1 h2; exact .inl g
/-- a draw -/
theorem Rel.draw (R : Rel c ρ G H μ) (g : Gr [c.st] G H G1 H1) (so : StOk G1 H1 c.st) : Rel c ρ G1 H1 μ ∧ Stp c.st ρ G H ρ G1 H1 := by
  have hh : ∀ b o, b ∈ ρ → H b = some o → H1 b = some o := fun b o hb e => g.hh b o (by
    intro z
    have : b = c.st := by simpa using z
    exact R.sn (by rw [← this]; exact hb)) e
  refine ⟨R.keep g.gg g.gh hh (fun b hb n => ?_) so, ⟨pre0, g.gg, fun b o _ n e => g.hh b o (by simpa using n) e, g.dm, fun b o e n => .inl (g.fr b o e n), fun _ h => .inl h⟩⟩
  cases e : H b with
  | none => exact absurd e (R.there hb)
  | some o => exact g.nog n e
theorem AtAll.ents {ρ : List Addr} {G : Hp} {κ : Type} {kvs : List (κ × V)} {kds : List (κ × Dv)} (hk : kvs.map (·.1) = kds.map (·.1)) (h : AtAll c ρ G (kvs.map (·.2)) (kds.map (·.2))) : kvs.length = kds.length := by
  have := congrArg List.length hk
  simpa using this
end
end Mz
end
section
set_option Elab.async false
set_option linter.all false
set_option maxRecDepth 100000
set_option maxHeartbeats 4000000
namespace Mz
open PySem L2
/-! ### the mirror's forms -/
structure Ex where
  cls : Addr
  fs : List (Str × Da)
abbrev Env' := List (Option Dv)
abbrev DK := Dv → MS → Prop
abbrev XS := Ex → MS → Prop
abbrev ES := XS → Env' → MS → DK → Prop
abbrev AS := XS → Env' → MS → (List Dv → MS → Prop) → Prop
abbrev TS' := XS → Env' → MS → (Bool → MS → Prop) → Prop
def ExAt (c : Cn) (ρ : List Addr) (G H : Hp) (e : Ex) (cls : Value) (dd : Option Addr) : Prop := cls = .ref e.cls ∧ ∃ d fvs, dd = some d ∧ H d = some (.xd fvs) ∧ fvs.map (·.1) = e.fs.map (·.1) ∧ AtDs c G (fvs.map (·.2)) (e.fs.map (·.2))
def PX (c : Cn) (ρ : List Addr) (G H : Hp) (E : XK) (E' : XS) : Prop := ∀ e μ', E' e μ' → ∀ cls dd ρ' G' H', Stp c.st ρ G H ρ' G' H' → Rel c ρ' G' H' μ' → ExAt c ρ' G' H' e cls dd → E cls dd H'
def PQ (c : Cn) (ρ : List Addr) (G H : Hp) (Q : VK) (Q' : DK) : Prop := ∀ d μ', Q' d μ' → ∀ v ρ' G' H', Stp c.st ρ G H ρ' G' H' → Rel c ρ' G' H' μ' → At c ρ' G' v d → Q v H'
def PQs (c : Cn) (ρ : List Addr) (G H : Hp) (Q : List V → Hp → Prop) (Q' : List Dv → MS → Prop) : Prop := ∀ d μ', Q' d μ' → ∀ v ρ' G' H', Stp c.st ρ G H ρ' G' H' → Rel c ρ' G' H' μ' → AtAll c ρ' G' v d → Q v H'
def PB (c : Cn) (ρ : List Addr) (G H : Hp) (Q : Bool → Hp → Prop) (Q' : Bool → MS → Prop) : Prop := ∀ b μ', Q' b μ' → ∀ ρ' G' H', Stp c.st ρ G H ρ' G' H' → Rel c ρ' G' H' μ' → Q b H'
structure SE (c : Cn) (E : XK) (te : TE) (me : ES)  : Prop where
  run : ∀ {ρ : List Addr} {G H : Hp} {σ : St} {α : Env'} {μ : MS} {Q : VK} {E' : XS} {Q' : DK}, Rel c ρ G H μ → EnvOk c ρ G σ α → PX c ρ G H E E' → PQ c ρ G H Q Q' → me E' α μ Q' → te σ H Q
instance (c : Cn) (E : XK) (te : TE) (me : ES)  : CoeFun (SE c E te me) fun _ => ∀ {ρ : List Addr} {G H : Hp} {σ : St} {α : Env'} {μ : MS} {Q : VK} {E' : XS} {Q' : DK}, Rel c ρ G H μ → EnvOk c ρ G σ α → PX c ρ G H E E' → PQ c ρ G H Q Q' → me E' α μ Q' → te σ H Q := ⟨fun h => h.run⟩
structure SA (c : Cn) (E : XK) (te : TA) (me : AS)  : Prop where
  run : ∀ {ρ : List Addr} {G H : Hp} {σ : St} {α : Env'} {μ : MS} {Q : List V → Hp → Prop} {E' : XS} {Q' : List Dv → MS → Prop}, Rel c ρ G H μ → EnvOk c ρ G σ α → PX c ρ G H E E' → PQs c ρ G H Q Q' → me E' α μ Q' → te σ H Q
instance (c : Cn) (E : XK) (te : TA) (me : AS)  : CoeFun (SA c E te me) fun _ => ∀ {ρ : List Addr} {G H : Hp} {σ : St} {α : Env'} {μ : MS} {Q : List V → Hp → Prop} {E' : XS} {Q' : List Dv → MS → Prop}, Rel c ρ G H μ → EnvOk c ρ G σ α → PX c ρ G H E E' → PQs c ρ G H Q Q' → me E' α μ Q' → te σ H Q := ⟨fun h => h.run⟩
structure ST (c : Cn) (E : XK) (te : TT) (me : TS')  : Prop where
  run : ∀ {ρ : List Addr} {G H : Hp} {σ : St} {α : Env'} {μ : MS} {Q : Bool → Hp → Prop} {E' : XS} {Q' : Bool → MS → Prop}, Rel c ρ G H μ → EnvOk c ρ G σ α → PX c ρ G H E E' → PB c ρ G H Q Q' → me E' α μ Q' → te σ H Q
instance (c : Cn) (E : XK) (te : TT) (me : TS')  : CoeFun (ST c E te me) fun _ => ∀ {ρ : List Addr} {G H : Hp} {σ : St} {α : Env'} {μ : MS} {Q : Bool → Hp → Prop} {E' : XS} {Q' : Bool → MS → Prop}, Rel c ρ G H μ → EnvOk c ρ G σ α → PX c ρ G H E E' → PB c ρ G H Q Q' → me E' α μ Q' → te σ H Q := ⟨fun h => h.run⟩
section
variable {c : Cn} {E : XK} {ρ ρ1 : List Addr} {G H G1 H1 : Hp} {Q : VK} {Q' : DK} {E' : XS} {μ : MS}
theorem PX.step (h : PX c ρ G H E E') (s : Stp c.st ρ G H ρ1 G1 H1) : PX c ρ1 G1 H1 E E' := fun e μ' x cls dd ρ' G' H' s' R' a => h e μ' x cls dd ρ' G' H' (s.trans s') R' a
theorem PQ.step (h : PQ c ρ G H Q Q') (s : Stp c.st ρ G H ρ1 G1 H1) : PQ c ρ1 G1 H1 Q Q' := fun d μ' x v ρ' G' H' s' R' a => h d μ' x v ρ' G' H' (s.trans s') R' a
theorem PQs.step {Q : List V → Hp → Prop} {Q' : List Dv → MS → Prop} (h : PQs c ρ G H Q Q') (s : Stp c.st ρ G H ρ1 G1 H1) : PQs c ρ1 G1 H1 Q Q' := fun d μ' x v ρ' G' H' s' R' a => h d μ' x v ρ' G' H' (s.trans s') R' a
theorem PB.step {Q : Bool → Hp → Prop} {Q' : Bool → MS → Prop} (h : PB c ρ G H Q Q') (s : Stp c.st ρ G H ρ1 G1 H1) : PB c ρ1 G1 H1 Q Q' := fun b μ' x ρ' G' H' s' R' => h b μ' x ρ' G' H' (s.trans s') R'
theorem PQ.here (h : PQ c ρ G H Q Q') (R : Rel c ρ G H μ) {v : V} {d : Dv} (a : At c ρ G v d) (q : Q' d μ) : Q v H := h d μ q v ρ G H Stp.refl R a
end
/-! ### names and constants -/
def mVar (i : Nat) : ES := fun _ α μ Q => ∃ d, α[i]? = some (some d) ∧ Q d μ
def mC (d : Dv) : ES := fun _ _ μ Q => Q d μ
section
variable {c : Cn} {E : XK}
theorem se_var (i : Nat) : SE c E (tVar i) (mVar i) := by
  refine ⟨?_⟩
  rintro ρ G H σ α μ Q E' Q' R e _ q ⟨d, h1, h2⟩
  obtain ⟨v, h3, h4⟩ := e.get h1
  exact ⟨v, h3, q.here R h4 h2⟩
theorem se_c {v : V} {x : Da} (h : ∀ G, AtD c G v x) : SE c E (tC v) (mC (.d x)) := ⟨fun R _ _ q k => q.here R (.d (h _)) k⟩
theorem se_int {i : Int} : SE c E (tC (.int i)) (mC (.d (.int i))) := se_c fun _ => .int _
theorem se_str {i : Str} : SE c E (tC (.str i)) (mC (.d (.str i))) := se_c fun _ => .str _
theorem se_bl {i : Bool} : SE c E (tC (.bl i)) (mC (.d (.bl i))) := se_c fun _ => .bl _
theorem se_non : SE c E (tC .non) (mC (.d .non)) := se_c fun _ => .non
theorem se_cls {a : Addr} : SE c E (tC (.ref a)) (mC (.d (.cls a))) := se_c fun _ => .cls _
theorem se_ty {n : String} : SE c E (tC (.ty n)) (mC (.d (.ty n))) := se_c fun _ => .ty _
end
/-! ### operators -/
abbrev O2 := Dv → Dv → MS → DK → Prop
structure SO (c : Cn) (r : R2) (o : O2)  : Prop where
  run : ∀ {ρ : List Addr} {G H : Hp} {μ : MS} {x y : V} {d1 d2 : Dv} {Q : VK} {Q' : DK}, Rel c ρ G H μ → At c ρ G x d1 → At c ρ G y d2 → PQ c ρ G H Q Q' → o d1 d2 μ Q' → r x y H Q
instance (c : Cn) (r : R2) (o : O2)  : CoeFun (SO c r o) fun _ => ∀ {ρ : List Addr} {G H : Hp} {μ : MS} {x y : V} {d1 d2 : Dv} {Q : VK} {Q' : DK}, Rel c ρ G H μ → At c ρ G x d1 → At c ρ G y d2 → PQ c ρ G H Q Q' → o d1 d2 μ Q' → r x y H Q := ⟨fun h => h.run⟩
def mOp (o : O2) (a b : ES) : ES := fun E α μ Q => a E α μ fun d1 μ1 => b E α μ1 fun d2 μ2 => o d1 d2 μ2 Q
section
variable {c : Cn} {E : XK}
theorem se_op {r : R2} {o : O2} {ta tb : TE} {a b : ES} (so : SO c r o) (ha : SE c E ta a) (hb : SE c E tb b) : SE c E (tOp r ta tb) (mOp o a b) := by
  refine ⟨?_⟩
  intro ρ G H σ α μ Q E' Q' R e px q h
  refine ha R e px ?_ h
  intro d1 μ1 h1 x ρ1 G1 H1 s1 R1 a1
  refine hb R1 (s1.env e) (px.step s1) ?_ h1
  intro d2 μ2 h2 y ρ2 G2 H2 s2 R2 a2
  exact so R2 (s2.at_ a1) a2 (q.step (s1.trans s2)) h2
def oI (C : Int → Int → Prop) (g : Int → Int → Da) : O2
  | .d (.int i), .d (.int j), μ, Q => C i j ∧ Q (.d (g i j)) μ
  | _, _, _, _ => False
def oI0 (g : Int → Int → Da) : O2
  | .d (.int i), .d (.int j), μ, Q => Q (.d (g i j)) μ
  | _, _, _, _ => False
theorem so_I0 {g : Int → Int → V} {g' : Int → Int → Da} (hg : ∀ (G : Hp) (i j : Int), AtD c G (g i j) (g' i j)) : SO c (rI0 g) (oI0 g') := by
  refine ⟨?_⟩
  intro ρ G H μ x y d1 d2 Q Q' R a1 a2 q h
  match d1, d2, a1, a2, h with
  | .d (.int i), .d (.int j), .d a1, .d a2, h =>
    cases a1
    cases a2
    exact ⟨i, j, rfl, rfl, q.here R (.d (hg _ _ _)) h⟩
theorem so_I {C : Int → Int → Prop} {g : Int → Int → V} {g' : Int → Int → Da} (hg : ∀ (G : Hp) (i j : Int), AtD c G (g i j) (g' i j)) : SO c (rI C g) (oI C g') := by
  refine ⟨?_⟩
  intro ρ G H μ x y d1 d2 Q Q' R a1 a2 q h
  match d1, d2, a1, a2, h with
  | .d (.int i), .d (.int j), .d a1, .d a2, h =>
    cases a1
    cases a2
    exact ⟨i, j, rfl, rfl, h.1, q.here R (.d (hg _ _ _)) h.2⟩
abbrev oAdd : O2 := oI0 fun i j => .int (i + j)
abbrev oSub : O2 := oI0 fun i j => .int (i - j)
abbrev oMul : O2 := oI CMul fun i j => .int (i * j)
abbrev oDiv : O2 := oI CDiv fun i j => .int (i / j)
abbrev oMod : O2 := oI (fun _ j => 0 < j) fun i j => .int (i % j)
abbrev oLt : O2 := oI0 fun i j => .bl (decide (i < j))
abbrev oLe : O2 := oI0 fun i j => .bl (decide (i ≤ j))
abbrev oGt : O2 := oI0 fun i j => .bl (decide (j < i))
abbrev oGe : O2 := oI0 fun i j => .bl (decide (j ≤ i))
theorem so_add : SO c rAddI oAdd := so_I0 fun _ _ _ => .int _
theorem so_sub : SO c rSubI oSub := so_I0 fun _ _ _ => .int _
theorem so_mul : SO c rMulI oMul := so_I fun _ _ _ => .int _
theorem so_div : SO c rDivI oDiv := so_I fun _ _ _ => .int _
theorem so_mod : SO c rModI oMod := so_I fun _ _ _ => .int _
theorem so_lt : SO c rLtI oLt := so_I0 fun _ _ _ => .bl _
theorem so_le : SO c rLeI oLe := so_I0 fun _ _ _ => .bl _
theorem so_gt : SO c rGtI oGt := so_I0 fun _ _ _ => .bl _
theorem so_ge : SO c rGeI oGe := so_I0 fun _ _ _ => .bl _
def mNeg (a : ES) : ES := fun E α μ Q => a E α μ fun d μ1 => ∃ i, d = .d (.int i) ∧ Q (.d (.int (-i))) μ1
theorem se_neg {ta : TE} {a : ES} (ha : SE c E ta a) : SE c E (tUn rNeg ta) (mNeg a) := by
  refine ⟨?_⟩
  intro ρ G H σ α μ Q E' Q' R e px q h
  refine ha R e px ?_ h
  rintro d1 μ1 ⟨i, rfl, h1⟩ x ρ1 G1 H1 s1 R1 a1
  cases a1 with
  | d a1 =>
    cases a1
    exact ⟨i, rfl, (q.step s1).here R1 (.d (.int _)) h1⟩
/-! texts -/
def oAddS : O2
  | .d (.str i), .d (.str j), μ, Q => i.length + j.length ≤ sizeLine ∧ Q (.d (.str (i ++ j))) μ
  | _, _, _, _ => False
theorem so_addS : SO c rAddS oAddS := by
  refine ⟨?_⟩
  intro ρ G H μ x y d1 d2 Q Q' R a1 a2 q h
  match d1, d2, a1, a2, h with
  | .d (.str i), .d (.str j), .d a1, .d a2, h =>
    cases a1
    cases a2
    exact ⟨i, j, rfl, rfl, h.1, q.here R (.d (.str _)) h.2⟩
/-! == and != of plain values -/
/-- plain values as such -/
def pD : Da → Option V
  | .non => some .non
  | .bl b => some (.bl b)
  | .int i => some (.int i)
  | .str s => some (.str s)
  | _ => none
def pV : Dv → Option V
  | .d x => pD x
  | _ => none
theorem AtD.plain {G : Hp} {v w : V} {d : Da} (h : AtD c G v d) (e : pD d = some w) : v = w := by
  cases h <;> first | (cases e; rfl) | cases e
theorem At.plain {ρ : List Addr} {G : Hp} {v w : V} {d : Dv} (h : At c ρ G v d) (e : pV d = some w) : v = w := by
  cases h with
  | d h => exact h.plain e
  | _ => cases e
def oEq (neg : Bool) : O2 := fun d1 d2 μ Q => ∃ x y, pV d1 = some x ∧ pV d2 = some y ∧ scal x y = true ∧ Q (.d (.bl (if neg = true then !decide (x = y) else decide (x = y)))) μ
theorem so_eq : SO c rEq (oEq false) := by
  refine ⟨?_⟩
  rintro ρ G H μ x y d1 d2 Q Q' R a1 a2 q ⟨x', y', h1, h2, h3, h4⟩
  obtain rfl := a1.plain h1
  obtain rfl := a2.plain h2
  exact ⟨h3, q.here R (.d (.bl _)) h4⟩
theorem so_ne : SO c rNe (oEq true) := by
  refine ⟨?_⟩
  rintro ρ G H μ x y d1 d2 Q Q' R a1 a2 q ⟨x', y', h1, h2, h3, h4⟩
  obtain rfl := a1.plain h1
  obtain rfl := a2.plain h2
  exact ⟨h3, q.here R (.d (.bl _)) h4⟩
/-! is None -/
def isNon : Dv → Bool
  | .d .non => true
  | _ => false
theorem At.isNon {ρ : List Addr} {G : Hp} {v : V} {d : Dv} (h : At c ρ G v d) : decide (v = .non) = Mz.isNon d := by
  cases h with
  | d h => cases h <;> rfl
  | _ => rfl
def oIsN (neg : Bool) : O2 := fun d1 d2 μ Q => d2 = .d .non ∧ Q (.d (.bl (if neg = true then !isNon d1 else isNon d1))) μ
theorem at_non {ρ : List Addr} {G : Hp} {v : V} (h : At c ρ G v (.d .non)) : v = .non := by
  cases h with
  | d h => cases h; rfl
theorem at_bl {ρ : List Addr} {G : Hp} {v : V} {b : Bool} (h : At c ρ G v (.d (.bl b))) : v = .bl b := by
  cases h with
  | d h => cases h; rfl
theorem at_int {ρ : List Addr} {G : Hp} {v : V} {b : Int} (h : At c ρ G v (.d (.int b))) : v = .int b := by
  cases h with
  | d h => cases h; rfl
theorem at_str {ρ : List Addr} {G : Hp} {v : V} {b : Str} (h : At c ρ G v (.d (.str b))) : v = .str b := by
  cases h with
  | d h => cases h; rfl
theorem so_isN : SO c rIsN (oIsN false) := by
  refine ⟨?_⟩
  rintro ρ G H μ x y d1 d2 Q Q' R a1 a2 q ⟨rfl, h⟩
  refine ⟨at_non a2, ?_⟩
  rw [a1.isNon]
  exact q.here R (.d (.bl _)) h
theorem so_notN : SO c rNotN (oIsN true) := by
  refine ⟨?_⟩
  rintro ρ G H μ x y d1 d2 Q Q' R a1 a2 q ⟨rfl, h⟩
  refine ⟨at_non a2, ?_⟩
  rw [a1.isNon]
  exact q.here R (.d (.bl _)) h
end
/-! ### truth -/
def mNotV (a : ES) : ES := fun E α μ Q => a E α μ fun d μ1 => ∃ b, d = .d (.bl b) ∧ Q (.d (.bl (!b))) μ1
def mAndV (a b : ES) : ES := fun E α μ Q => a E α μ fun d μ1 => ∃ k, d = .d (.bl k) ∧ if k = true then b E α μ1 Q else Q (.d (.bl false)) μ1
def mOrV (a b : ES) : ES := fun E α μ Q => a E α μ fun d μ1 => ∃ k, d = .d (.bl k) ∧ if k = true then Q (.d (.bl true)) μ1 else b E α μ1 Q
def mT (a : ES) : TS' := fun E α μ Q => a E α μ fun d μ1 => ∃ k, d = .d (.bl k) ∧ Q k μ1
def mNotT (a : TS') : TS' := fun E α μ Q => a E α μ fun k μ1 => Q (!k) μ1
def mAndT (a b : TS') : TS' := fun E α μ Q => a E α μ fun k μ1 => if k = true then b E α μ1 Q else Q false μ1
def mOrT (a b : TS') : TS' := fun E α μ Q => a E α μ fun k μ1 => if k = true then Q true μ1 else b E α μ1 Q
def mIf (t : TS') (a b : ES) : ES := fun E α μ Q => t E α μ fun k μ1 => if k = true then a E α μ1 Q else b E α μ1 Q
def mChain (o o' : O2) (a b d : ES) : ES := fun E α μ Q => a E α μ fun x μ1 => b E α μ1 fun y μ2 => o x y μ2 fun z μ3 => ∃ k, z = .d (.bl k) ∧ if k = true then d E α μ3 fun w μ4 => o' y w μ4 Q else Q (.d (.bl false)) μ3
section
variable {c : Cn} {E : XK} {ta tb tc : TE} {a b d : ES} {tA tB' : TT} {ma mb : TS'}
theorem se_notV (ha : SE c E ta a) : SE c E (tNotV ta) (mNotV a) := by
  refine ⟨?_⟩
  intro ρ G H σ α μ Q E' Q' R e px q h
  refine ha R e px ?_ h
  rintro d1 μ1 ⟨k, rfl, h1⟩ x ρ1 G1 H1 s1 R1 a1
  obtain rfl := at_bl a1
  exact ⟨k, rfl, (q.step s1).here R1 (.d (.bl _)) h1⟩
theorem se_andV (ha : SE c E ta a) (hb : SE c E tb b) : SE c E (tAndV ta tb) (mAndV a b) := by
  refine ⟨?_⟩
  intro ρ G H σ α μ Q E' Q' R e px q h
  refine ha R e px ?_ h
  rintro d1 μ1 ⟨k, rfl, h1⟩ x ρ1 G1 H1 s1 R1 a1
  obtain rfl := at_bl a1
  refine ⟨k, rfl, ?_⟩
  cases k with
  | true => exact hb R1 (s1.env e) (px.step s1) (q.step s1) h1
  | false => exact (q.step s1).here R1 (.d (.bl _)) h1
theorem se_orV (ha : SE c E ta a) (hb : SE c E tb b) : SE c E (tOrV ta tb) (mOrV a b) := by
  refine ⟨?_⟩
  intro ρ G H σ α μ Q E' Q' R e px q h
  refine ha R e px ?_ h
  rintro d1 μ1 ⟨k, rfl, h1⟩ x ρ1 G1 H1 s1 R1 a1
  obtain rfl := at_bl a1
  refine ⟨k, rfl, ?_⟩
  cases k with
  | false => exact hb R1 (s1.env e) (px.step s1) (q.step s1) h1
  | true => exact (q.step s1).here R1 (.d (.bl _)) h1
theorem st_val (ha : SE c E ta a) : ST c E (tB ta) (mT a) := by
  refine ⟨?_⟩
  intro ρ G H σ α μ Q E' Q' R e px q h
  refine ha R e px ?_ h
  rintro d1 μ1 ⟨k, rfl, h1⟩ x ρ1 G1 H1 s1 R1 a1
  obtain rfl := at_bl a1
  exact ⟨k, rfl, q k μ1 h1 _ _ _ s1 R1⟩
theorem st_test (ha : SE c E ta a) : ST c E (tTest ta) (mT a) := by
  refine ⟨?_⟩
  intro ρ G H σ α μ Q E' Q' R e px q h
  refine ha R e px ?_ h
  rintro d1 μ1 ⟨k, rfl, h1⟩ x ρ1 G1 H1 s1 R1 a1
  obtain rfl := at_bl a1
  exact ⟨k, rfl, q k μ1 h1 _ _ _ s1 R1⟩
theorem st_not (ha : ST c E tA ma) : ST c E (tNot tA) (mNotT ma) := by
  refine ⟨?_⟩
  intro ρ G H σ α μ Q E' Q' R e px q h
  refine ha R e px ?_ h
  exact fun k μ1 h1 ρ1 G1 H1 s1 R1 => q _ μ1 h1 _ _ _ s1 R1
theorem st_and (ha : ST c E tA ma) (hb : ST c E tB' mb) : ST c E (tAnd tA tB') (mAndT ma mb) := by
  refine ⟨?_⟩
  intro ρ G H σ α μ Q E' Q' R e px q h
  refine ha R e px ?_ h
  intro k μ1 h1 ρ1 G1 H1 s1 R1
  cases k with
  | true => exact hb R1 (s1.env e) (px.step s1) (q.step s1) h1
  | false => exact q _ μ1 h1 _ _ _ s1 R1
theorem st_or (ha : ST c E tA ma) (hb : ST c E tB' mb) : ST c E (tOr tA tB') (mOrT ma mb) := by
  refine ⟨?_⟩
  intro ρ G H σ α μ Q E' Q' R e px q h
  refine ha R e px ?_ h
  intro k μ1 h1 ρ1 G1 H1 s1 R1
  cases k with
  | false => exact hb R1 (s1.env e) (px.step s1) (q.step s1) h1
  | true => exact q _ μ1 h1 _ _ _ s1 R1
theorem se_if (ht : ST c E tA ma) (ha : SE c E ta a) (hb : SE c E tb b) : SE c E (tIf tA ta tb) (mIf ma a b) := by
  refine ⟨?_⟩
  intro ρ G H σ α μ Q E' Q' R e px q h
  refine ht R e px ?_ h
  intro k μ1 h1 ρ1 G1 H1 s1 R1
  cases k with
  | true => exact ha R1 (s1.env e) (px.step s1) (q.step s1) h1
  | false => exact hb R1 (s1.env e) (px.step s1) (q.step s1) h1
theorem se_chain {r r' : R2} {o o' : O2} (so : SO c r o) (so' : SO c r' o') (ha : SE c E ta a) (hb : SE c E tb b) (hc : SE c E tc d) : SE c E (tChain r r' ta tb tc) (mChain o o' a b d) := by
  refine ⟨?_⟩
  intro ρ G H σ α μ Q E' Q' R e px q h
  refine ha R e px ?_ h
  intro d1 μ1 h1 x ρ1 G1 H1 s1 R1 a1
  refine hb R1 (s1.env e) (px.step s1) ?_ h1
  intro d2 μ2 h2 y ρ2 G2 H2 s2 R2 a2
  refine so R2 (s2.at_ a1) a2 ?_ h2
  rintro d3 μ3 ⟨k, rfl, h3⟩ z ρ3 G3 H3 s3 R3 a3
  obtain rfl := at_bl a3
  have s03 := (s1.trans s2).trans s3
  refine ⟨k, rfl, ?_⟩
  cases k with
  | true =>
    refine hc R3 (s03.env e) (px.step s03) ?_ h3
    intro d4 μ4 h4 w ρ4 G4 H4 s4 R4 a4
    exact so' R4 (s4.at_ (s3.at_ a2)) a4 (q.step (s03.trans s4)) h4
  | false => exact (q.step s03).here R3 (.d (.bl _)) h3
end
/-! ### arguments -/
def mNil : AS := fun _ _ μ Q => Q [] μ
def mCons (a : ES) (r : AS) : AS := fun E α μ Q => a E α μ fun d μ1 => r E α μ1 fun ds μ2 => Q (d :: ds) μ2
section
variable {c : Cn} {E : XK} {ta tb tc : TE} {a b d : ES} {tr : TA} {r : AS}
theorem sa_nil : SA c E tNil mNil := ⟨fun R _ _ q h => q _ _ h _ _ _ _ Stp.refl R .nil⟩
theorem sa_cons (ha : SE c E ta a) (hr : SA c E tr r) : SA c E (tCons ta tr) (mCons a r) := by
  refine ⟨?_⟩
  intro ρ G H σ α μ Q E' Q' R e px q h
  refine ha R e px ?_ h
  intro d1 μ1 h1 x ρ1 G1 H1 s1 R1 a1
  refine hr R1 (s1.env e) (px.step s1) ?_ h1
  intro ds μ2 h2 xs ρ2 G2 H2 s2 R2 a2
  exact q _ μ2 h2 _ _ _ _ (s1.trans s2) R2 (.cons (s2.at_ a1) a2)
/-! ### displays -/
/-- all of them data -/
def allD : List Dv → Option (List Da)
  | [] => some []
  | .d x :: r => (allD r).map (x :: ·)
  | _ => none
def mkTup (xs : List Dv) : Dv := match allD xs with
  | some ds => .d (.tup ds)
  | none => .tp xs
theorem allD_eq : ∀ {xs : List Dv} {ds : List Da}, allD xs = some ds → xs = ds.map Dv.d
  | [], _, e => by cases e; rfl
  | .d x :: r, ds, e => by
    simp only [allD] at e
    cases q : allD r with
    | none => rw [q] at e; cases e
    | some y =>
      rw [q] at e
      cases e
      rw [allD_eq q]; rfl
  | .ob _ :: _, _, e => by cases e
  | .tp _ :: _, _, e => by cases e
theorem allD_map : ∀ ds : List Da, allD (ds.map Dv.d) = some ds
  | [] => rfl
  | x :: r => by simp [allD, allD_map r]
theorem mkTup_map (ds : List Da) : mkTup (ds.map Dv.d) = .d (.tup ds) := by unfold mkTup; rw [allD_map]
theorem at_mk {ρ : List Addr} {G : Hp} {a : Addr} {vs : List V} {ds : List Dv} (h : SqT c.K G a vs) (t : AtAll c ρ G vs ds) : At c ρ G (.ref a) (mkTup ds) := by
  unfold mkTup
  cases q : allD ds with
  | none => exact .tp h t
  | some xs =>
    have := allD_eq q
    subst this
    exact .d (.tup h t.down)
def mTup (r : AS) : ES := fun E α μ Q => r E α μ fun ds μ1 => ds.length ≤ sizeLine ∧ Q (mkTup ds) μ1
def mLst (r : AS) : ES := fun E α μ Q => r E α μ fun ds μ1 => ds.length ≤ sizeLine ∧ Q (.ob μ1.length) (μ1 ++ [.lst ds])
theorem newTup {ρ : List Addr} {G H : Hp} {μ : MS} {Q : VK} {Q' : DK} {vs : List V} {ds : List Dv} (R : Rel c ρ G H μ) (q : PQ c ρ G H Q Q') (a : AtAll c ρ G vs ds) (h : Q' (mkTup ds) μ) {p : Addr} (hp : H p = none) : Q (.ref p) (upd H p (.tup vs)) := by
  obtain ⟨R1, s1⟩ := R.newF (u := .tup vs) hp
  exact q _ _ h _ _ _ _ s1 R1 (at_mk (SqT.of upd_same) (s1.all a))
theorem newLst {ρ : List Addr} {G H : Hp} {μ : MS} {Q : VK} {Q' : DK} {vs : List V} {ds : List Dv} (R : Rel c ρ G H μ) (q : PQ c ρ G H Q Q') (a : AtAll c ρ G vs ds) (h : Q' (.ob μ.length) (μ ++ [.lst ds])) {p : Addr} (hp : H p = none) : Q (.ref p) (upd H p (.lst vs)) := by
  obtain ⟨R1, s1⟩ := R.alloc (u := .lst vs) (o := .lst ds) hp ⟨R.free hp, vs, upd_same, a.mono (Same.refl _) pre1⟩
  refine q _ _ h _ _ _ _ s1 R1 (.ob ?_)
  rw [← R.len]; simp
theorem se_tup (hr : SA c E tr r) : SE c E (tTup tr) (mTup r) := by
  refine ⟨?_⟩
  intro ρ G H σ α μ Q E' Q' R e px q h
  refine hr R e px ?_ h
  rintro ds μ1 ⟨hl, h1⟩ vs ρ1 G1 H1 s1 R1 a1
  exact ⟨by rw [a1.length]; exact hl, fun p hp => newTup R1 (q.step s1) a1 h1 hp⟩
theorem se_lst (hr : SA c E tr r) : SE c E (tLst tr) (mLst r) := by
  refine ⟨?_⟩
  intro ρ G H σ α μ Q E' Q' R e px q h
  refine hr R e px ?_ h
  rintro ds μ1 ⟨hl, h1⟩ vs ρ1 G1 H1 s1 R1 a1
  exact ⟨by rw [a1.length]; exact hl, fun p hp => newLst R1 (q.step s1) a1 h1 hp⟩
end
end Mz
end
section
set_option Elab.async false
set_option linter.all false
set_option maxRecDepth 100000
set_option maxHeartbeats 4000000
namespace Mz
open PySem L2
/-! ### views -/
def eD {κ : Type} (p : κ × Da) : κ × Dv := (p.1, .d p.2)
def lsV (μ : MS) : Dv → Option (List Dv)
  | .d (.lst ds) => some (ds.map .d)
  | .ob n => match μ[n]? with
    | some (.lst ds) => some ds
    | some (.frz (.lst ds)) => some (ds.map .d)
    | _ => none
  | _ => none
def sqV (μ : MS) : Dv → Option (List Dv)
  | .d (.tup ds) => some (ds.map .d)
  | .d (.lst ds) => some (ds.map .d)
  | .tp ds => some ds
  | .ob n => lsV μ (.ob n)
  | _ => none
def tpV : Dv → Option (List Dv)
  | .d (.tup ds) => some (ds.map .d)
  | .tp ds => some ds
  | _ => none
def dcV (μ : MS) : Dv → Option (List (Key × Dv))
  | .d (.dct ds) => some (ds.map eD)
  | .ob n => match μ[n]? with
    | some (.dct ds) => some ds
    | some (.frz (.dct ds)) => some (ds.map eD)
    | _ => none
  | _ => none
def isV (μ : MS) : Dv → Option (Addr × List (Str × Dv))
  | .d (.ins C fs) => some (C, fs.map eD)
  | .ob n => match μ[n]? with
    | some (.ins C fs) => some (C, fs)
    | some (.frz (.ins C fs)) => some (C, fs.map eD)
    | _ => none
  | _ => none
section
variable {c : Cn} {E : XK} {ρ : List Addr} {G H : Hp} {μ : MS}
theorem Rel.at_ob (R : Rel c ρ G H μ) {v : V} {n : Nat} {o : MO} (a : At c ρ G v (.ob n)) (h : μ[n]? = some o) : ∃ p, v = .ref p ∧ ρ[n]? = some p ∧ ObAt c ρ G H p o := by
  cases a with
  | ob hn => exact ⟨_, rfl, hn, R.ob n _ o hn h⟩
theorem at_lst (gh : Same G H) {v : V} {ds : List Da} (a : AtD c G v (.lst ds)) : ∃ p vs, v = .ref p ∧ H p = some (.lst vs) ∧ AtAll c ρ G vs (ds.map .d) := by
  cases a with
  | lst h t => exact ⟨_, _, rfl, gh _ _ h, t.up⟩
theorem lsV_ok (R : Rel c ρ G H μ) {v : V} {d : Dv} {ds : List Dv} (a : At c ρ G v d) (e : lsV μ d = some ds) : ∃ p vs, v = .ref p ∧ H p = some (.lst vs) ∧ AtAll c ρ G vs ds := by
  cases d with
  | d x =>
    cases a with
    | d a =>
      cases x with
      | lst xs => cases e; exact at_lst R.gh a
      | _ => cases e
  | ob n =>
    simp only [lsV] at e
    split at e
    · rename_i hm
      cases e
      obtain ⟨p, rfl, hn, g, vs, h1, h2⟩ := R.at_ob a hm
      exact ⟨p, vs, rfl, h1, h2⟩
    · rename_i hm
      cases e
      obtain ⟨p, rfl, hn, g, h1⟩ := R.at_ob a hm
      exact at_lst R.gh h1
    · cases e
  | tp xs => cases e
theorem tpV_ok {v : V} {d : Dv} {ds : List Dv} (gh : Same G H) (a : At c ρ G v d) (e : tpV d = some ds) : ∃ p vs, v = .ref p ∧ SqT c.K H p vs ∧ AtAll c ρ G vs ds := by
  cases d with
  | d x =>
    cases a with
    | d a =>
      cases x with
      | tup xs =>
        cases e
        cases a with
        | tup h t => exact ⟨_, _, rfl, Same.tup gh h, t.up⟩
      | _ => cases e
  | tp xs =>
    cases e
    cases a with
    | tp h t => exact ⟨_, _, rfl, Same.tup gh h, t⟩
  | ob n => cases e
theorem sqV_or {d : Dv} {ds : List Dv} (e : sqV μ d = some ds) : lsV μ d = some ds ∨ tpV d = some ds := by
  cases d with
  | d x =>
    cases x with
    | lst xs => exact .inl e
    | tup xs => exact .inr e
    | _ => cases e
  | tp xs => exact .inr e
  | ob n => exact .inl e
theorem sqV_ok (R : Rel c ρ G H μ) {v : V} {d : Dv} {ds : List Dv} (a : At c ρ G v d) (e : sqV μ d = some ds) : ∃ p vs, v = .ref p ∧ (H p = some (.lst vs) ∨ SqT c.K H p vs) ∧ AtAll c ρ G vs ds := by
  rcases sqV_or e with e | e
  · obtain ⟨p, vs, h1, h2, h3⟩ := lsV_ok R a e
    exact ⟨p, vs, h1, .inl h2, h3⟩
  · obtain ⟨p, vs, h1, h2, h3⟩ := tpV_ok R.gh a e
    exact ⟨p, vs, h1, .inr h2, h3⟩
theorem map_fst {κ α β : Type} (f : α → β) (l : List (κ × α)) : (l.map fun p => (p.1, f p.2)).map (·.1) = l.map (·.1) := by
  rw [List.map_map]; rfl
theorem eD_fst {κ : Type} (l : List (κ × Da)) : (l.map eD).map (·.1) = l.map (·.1) := by
  rw [List.map_map]; rfl
theorem eD_snd {κ : Type} (l : List (κ × Da)) : (l.map eD).map (·.2) = (l.map (·.2)).map Dv.d := by
  rw [List.map_map, List.map_map]; rfl
theorem dcV_ok (R : Rel c ρ G H μ) {v : V} {d : Dv} {kds : List (Key × Dv)} (a : At c ρ G v d) (e : dcV μ d = some kds) : ∃ p, ∃ kvs : List (Key × V), v = .ref p ∧ H p = some (.dK kvs) ∧ kvs.map (·.1) = kds.map (·.1) ∧ AtAll c ρ G (kvs.map (·.2)) (kds.map (·.2)) := by
  have dat : ∀ {v : V} {xs : List (Key × Da)}, AtD c G v (.dct xs) → ∃ p, ∃ kvs : List (Key × V), v = .ref p ∧ H p = some (.dK kvs) ∧ kvs.map (·.1) = (xs.map eD).map (·.1) ∧ AtAll c ρ G (kvs.map (·.2)) ((xs.map eD).map (·.2)) := by
    intro v xs a
    cases a with
    | dct h k t => exact ⟨_, _, rfl, R.gh _ _ h, by rw [eD_fst]; exact k, by rw [eD_snd]; exact t.up⟩
  cases d with
  | d x =>
    cases a with
    | d a =>
      cases x with
      | dct xs => cases e; exact dat a
      | _ => cases e
  | ob n =>
    simp only [dcV] at e
    split at e
    · rename_i hm
      cases e
      obtain ⟨p, rfl, hn, g, vs, h1, h2, h3⟩ := R.at_ob a hm
      exact ⟨p, vs, rfl, h1, h2, h3⟩
    · rename_i hm
      cases e
      obtain ⟨p, rfl, hn, g, h1⟩ := R.at_ob a hm
      exact dat h1
    · cases e
  | tp xs => cases e
theorem isV_ok (R : Rel c ρ G H μ) {v : V} {d : Dv} {C : Addr} {fds : List (Str × Dv)} (a : At c ρ G v d) (e : isV μ d = some (C, fds)) : ∃ p dx fvs, v = .ref p ∧ H p = some (.ins C dx fvs) ∧ fvs.map (·.1) = fds.map (·.1) ∧ AtAll c ρ G (fvs.map (·.2)) (fds.map (·.2)) := by
  have dat : ∀ {v : V} {C : Addr} {xs : List (Str × Da)}, AtD c G v (.ins C xs) → ∃ p dx fvs, v = .ref p ∧ H p = some (.ins C dx fvs) ∧ fvs.map (·.1) = (xs.map eD).map (·.1) ∧ AtAll c ρ G (fvs.map (·.2)) ((xs.map eD).map (·.2)) := by
    intro v C xs a
    cases a with
    | ins h k t => exact ⟨_, _, _, rfl, R.gh _ _ h, by rw [eD_fst]; exact k, by rw [eD_snd]; exact t.up⟩
  cases d with
  | d x =>
    cases a with
    | d a =>
      cases x with
      | ins C' xs => cases e; exact dat a
      | _ => cases e
  | ob n =>
    simp only [isV] at e
    split at e
    · rename_i hm
      cases e
      obtain ⟨p, rfl, hn, g, dx, vs, h1, h2, h3⟩ := R.at_ob a hm
      exact ⟨p, dx, vs, rfl, h1, h2, h3⟩
    · rename_i hm
      cases e
      obtain ⟨p, rfl, hn, g, h1⟩ := R.at_ob a hm
      exact dat h1
    · cases e
  | tp xs => cases e
/-! entries -/
theorem ents_get {κ : Type} [BEq κ] [LawfulBEq κ] {f : κ} : ∀ {fvs : List (κ × V)} {fds : List (κ × Dv)} {d : Dv}, fvs.map (·.1) = fds.map (·.1) → AtAll c ρ G (fvs.map (·.2)) (fds.map (·.2)) → fds.lookup f = some d → ∃ v, fvs.lookup f = some v ∧ At c ρ G v d
  | [], [], _, _, _, e => by cases e
  | [], _ :: _, _, hk, _, _ => by cases hk
  | _ :: _, [], _, hk, _, _ => by cases hk
  | (k, v) :: r, (k', d') :: r', d, hk, ha, e => by
    simp only [List.map_cons, List.cons.injEq] at hk
    obtain ⟨rfl, hk⟩ := hk
    cases ha with
    | cons h1 h2 =>
      simp only [List.lookup_cons] at e ⊢
      split at e
      · rename_i hb
        cases e
        exact ⟨v, by simp_all, h1⟩
      · rename_i hb
        obtain ⟨w, h3, h4⟩ := ents_get hk h2 e
        exact ⟨w, by simp_all, h4⟩
theorem ents_none {κ : Type} [BEq κ] [LawfulBEq κ] {f : κ} : ∀ {fvs : List (κ × V)} {fds : List (κ × Dv)}, fvs.map (·.1) = fds.map (·.1) → fds.lookup f = none → fvs.lookup f = none
  | [], [], _, _ => rfl
  | [], _ :: _, hk, _ => by cases hk
  | _ :: _, [], hk, _ => by cases hk
  | (k, v) :: r, (k', d') :: r', hk, e => by
    simp only [List.map_cons, List.cons.injEq] at hk
    obtain ⟨rfl, hk⟩ := hk
    simp only [List.lookup_cons] at e ⊢
    split at e
    · cases e
    · rename_i hb
      exact ents_none hk e
/-! ### subscripts -/
theorem AtAll.atI {vs : List V} {ds : List Dv} {i : Int} {d : Dv} (h : AtAll c ρ G vs ds) (e : L2.atI ds i = some d) : ∃ v, L2.atI vs i = some v ∧ At c ρ G v d := by
  unfold L2.atI at e ⊢
  rw [h.length]
  cases q : ixN ds.length i with
  | none => rw [q] at e; cases e
  | some j =>
    rw [q] at e
    exact h.getD e
def okS : Dv → Prop
  | .d (.str s) => s.length ≤ sizeLine
  | _ => True
def ixD (μ : MS) (d : Dv) : Dv → Option Dv
  | .d (.int i) => match d with
    | .d (.str z) => (atI z.cps.toList i).map fun k => .d (.str ⟨#[k]⟩)
    | d => (sqV μ d).bind fun ds => atI ds i
  | _ => none
def oIx : O2 := fun d i μ Q => okS d ∧ ∃ x, ixD μ d i = some x ∧ Q x μ
theorem so_ix : SO c (rIx c.K) oIx := by
  refine ⟨?_⟩
  rintro ρ G H μ x y d1 d2 Q Q' R a1 a2 q ⟨hs, z, e, h⟩
  have other : ∀ {i : Int} {ds}, At c ρ G y (.d (.int i)) → sqV μ d1 = some ds → L2.atI ds i = some z → rIx c.K x y H Q := by
    intro i ds a2 e1 e2
    obtain rfl := at_int a2
    obtain ⟨p, vs, rfl, h1, h2⟩ := sqV_ok R a1 e1
    obtain ⟨v, h3, h4⟩ := h2.atI e2
    rcases h1 with h1 | h1
    · exact .inl ⟨p, vs, i, v, rfl, rfl, SqL.of h1, h3, q.here R h4 h⟩
    · exact .inr (.inl ⟨p, vs, i, v, rfl, rfl, h1, h3, q.here R h4 h⟩)
  cases d2 with
  | d x2 =>
    cases x2 with
    | int i =>
      cases d1 with
      | d x1 =>
        cases x1 with
        | str s =>
          simp only [ixD] at e
          obtain rfl := at_int a2
          obtain rfl := at_str a1
          cases q2 : L2.atI s.cps.toList i with
          | none => rw [q2] at e; cases e
          | some k =>
            rw [q2] at e
            cases e
            exact .inr (.inr ⟨s, i, k, rfl, rfl, hs, q2, q.here R (.d (.str _)) h⟩)
        | lst xs => exact other a2 rfl e
        | tup xs => exact other a2 rfl e
        | _ => cases e
      | tp xs => exact other a2 rfl e
      | ob n =>
        simp only [ixD] at e
        cases q2 : sqV μ (.ob n) with
        | none => rw [q2] at e; cases e
        | some ds => rw [q2] at e; exact other a2 q2 e
    | _ => cases e
  | _ => cases e
/-! slices -/
def cutD (xs : List Dv) (lo hi : Option Int) : List Dv := (xs.drop (HT.sIx xs.length 0 lo)).take (HT.sIx xs.length xs.length hi - HT.sIx xs.length 0 lo)
theorem AtAll.cut {vs : List V} {ds : List Dv} (h : AtAll c ρ G vs ds) (lo hi : Option Int) : AtAll c ρ G (cutV vs lo hi) (cutD ds lo hi) := by
  unfold cutV cutD
  rw [h.length]
  exact (h.drop _).take _
abbrev OS := XS → Env' → MS → (Option Int → MS → Prop) → Prop
def mNoPart : OS := fun _ _ μ Q => Q none μ
def mPart (a : ES) : OS := fun E α μ Q => a E α μ fun d μ1 => ∃ i, d = .d (.int i) ∧ Q (some i) μ1
structure SOp (c : Cn) (E : XK) (te : TO) (me : OS)  : Prop where
  run : ∀ {ρ : List Addr} {G H : Hp} {σ : St} {α : Env'} {μ : MS} {Q : Option Int → Hp → Prop} {E' : XS} {Q' : Option Int → MS → Prop}, Rel c ρ G H μ → EnvOk c ρ G σ α → PX c ρ G H E E' → (∀ d μ', Q' d μ' → ∀ ρ' G' H', Stp c.st ρ G H ρ' G' H' → Rel c ρ' G' H' μ' → Q d H') → me E' α μ Q' → te σ H Q
instance (c : Cn) (E : XK) (te : TO) (me : OS)  : CoeFun (SOp c E te me) fun _ => ∀ {ρ : List Addr} {G H : Hp} {σ : St} {α : Env'} {μ : MS} {Q : Option Int → Hp → Prop} {E' : XS} {Q' : Option Int → MS → Prop}, Rel c ρ G H μ → EnvOk c ρ G σ α → PX c ρ G H E E' → (∀ d μ', Q' d μ' → ∀ ρ' G' H', Stp c.st ρ G H ρ' G' H' → Rel c ρ' G' H' μ' → Q d H') → me E' α μ Q' → te σ H Q := ⟨fun h => h.run⟩
theorem sp_none : SOp c E tNoPart mNoPart := ⟨fun R _ _ q h => q _ _ h _ _ _ Stp.refl R⟩
theorem sp_some {ta : TE} {a : ES} (ha : SE c E ta a) : SOp c E (tPart ta) (mPart a) := by
  refine ⟨?_⟩
  intro ρ G H σ α μ Q E' Q' R e px q h
  refine ha R e px ?_ h
  rintro d1 μ1 ⟨i, rfl, h1⟩ x ρ1 G1 H1 s1 R1 a1
  obtain rfl := at_int a1
  exact ⟨i, rfl, q _ μ1 h1 _ _ _ s1 R1⟩
abbrev O3 := Dv → Option Int → Option Int → MS → DK → Prop
structure SSl (c : Cn) (r : V → Option Int → Option Int → Hp → VK → Prop) (o : O3)  : Prop where
  run : ∀ {ρ : List Addr} {G H : Hp} {μ : MS} {x : V} {d : Dv} {lo hi : Option Int} {Q : VK} {Q' : DK}, Rel c ρ G H μ → At c ρ G x d → PQ c ρ G H Q Q' → o d lo hi μ Q' → r x lo hi H Q
instance (c : Cn) (r : V → Option Int → Option Int → Hp → VK → Prop) (o : O3)  : CoeFun (SSl c r o) fun _ => ∀ {ρ : List Addr} {G H : Hp} {μ : MS} {x : V} {d : Dv} {lo hi : Option Int} {Q : VK} {Q' : DK}, Rel c ρ G H μ → At c ρ G x d → PQ c ρ G H Q Q' → o d lo hi μ Q' → r x lo hi H Q := ⟨fun h => h.run⟩
def mSl (o : O3) (a : ES) (l u : OS) : ES := fun E α μ Q => a E α μ fun d μ1 => l E α μ1 fun lo μ2 => u E α μ2 fun hi μ3 => o d lo hi μ3 Q
theorem se_sl {r : V → Option Int → Option Int → Hp → VK → Prop} {o : O3} {ta : TE} {tl tu : TO} {a : ES} {l u : OS} (so : SSl c r o) (ha : SE c E ta a) (hl : SOp c E tl l) (hu : SOp c E tu u) : SE c E (tSl r ta tl tu) (mSl o a l u) := by
  refine ⟨?_⟩
  intro ρ G H σ α μ Q E' Q' R e px q h
  refine ha R e px ?_ h
  intro d1 μ1 h1 x ρ1 G1 H1 s1 R1 a1
  refine hl R1 (s1.env e) (px.step s1) ?_ h1
  intro lo μ2 h2 ρ2 G2 H2 s2 R2
  have s02 := s1.trans s2
  refine hu R2 (s02.env e) (px.step s02) ?_ h2
  intro hi μ3 h3 ρ3 G3 H3 s3 R3
  exact so R3 (s3.at_ (s2.at_ a1)) (q.step (s02.trans s3)) h3
def oSlL : O3 := fun d lo hi μ Q => ∃ ds, lsV μ d = some ds ∧ Q (.ob μ.length) (μ ++ [.lst (cutD ds lo hi)])
theorem ss_lst : SSl c (rSlL c.K) oSlL := by
  refine ⟨?_⟩
  rintro ρ G H μ x d lo hi Q Q' R a q ⟨ds, e, h⟩
  obtain ⟨p, vs, rfl, h1, h2⟩ := lsV_ok R a e
  exact ⟨p, vs, rfl, SqL.of h1, fun l hl => newLst R q (h2.cut lo hi) h hl⟩
def oSlT : O3 := fun d lo hi μ Q => ∃ ds, tpV d = some ds ∧ Q (mkTup (cutD ds lo hi)) μ
theorem cut_whole {α : Type} (xs : List α) (lo hi : Option Int) (h : HT.sIx xs.length 0 lo = 0 ∧ HT.sIx xs.length xs.length hi = xs.length) : (xs.drop (HT.sIx xs.length 0 lo)).take (HT.sIx xs.length xs.length hi - HT.sIx xs.length 0 lo) = xs := by
  rw [h.1, h.2]; simp
theorem tpV_at {v : V} {d : Dv} {ds : List Dv} (a : At c ρ G v d) (e : tpV d = some ds) : ∃ p vs, v = .ref p ∧ SqT c.K G p vs ∧ AtAll c ρ G vs ds := tpV_ok (Same.refl _) a e
theorem ss_tup : SSl c (rSlA c.K) oSlT := by
  refine ⟨?_⟩
  rintro ρ G H μ x d lo hi Q Q' R a q ⟨ds, e, h⟩
  obtain ⟨p, vs, rfl, h1, h2⟩ := tpV_at a e
  refine ⟨p, vs, rfl, Same.tup R.gh h1, fun hw => ?_, fun hw l hl => newTup R q (h2.cut lo hi) h hl⟩
  have e : cutD ds lo hi = ds := cut_whole ds lo hi (by rw [← h2.length]; exact hw)
  rw [e] at h
  exact q.here R (at_mk h1 h2) h
/-- a slice of a list or of a tuple -/
def oSlM : O3 := fun d lo hi μ Q => oSlL d lo hi μ Q ∨ oSlT d lo hi μ Q
theorem ss_M : SSl c (fun x lo hi H Q => rSlL c.K x lo hi H Q ∨ rSlA c.K x lo hi H Q) oSlM := by
  refine ⟨?_⟩
  rintro ρ G H μ x d lo hi Q Q' R a q (h | h)
  · exact .inl (ss_lst R a q h)
  · exact .inr (ss_tup R a q h)
def oSlS : O3 := fun d lo hi μ Q => ∃ z, d = .d (.str z) ∧ z.length ≤ sizeLine ∧ Q (.d (.str ⟨(((z.cps.toList.drop (HT.sIx z.length 0 lo)).take (HT.sIx z.length z.length hi - HT.sIx z.length 0 lo))).toArray⟩)) μ
/-! ### + and * of lists and tuples -/
def oCat : O2 := fun d1 d2 μ Q => ∃ xs ys, lsV μ d1 = some xs ∧ lsV μ d2 = some ys ∧ xs.length + ys.length ≤ sizeLine ∧ Q (.ob μ.length) (μ ++ [.lst (xs ++ ys)])
theorem so_cat : SO c rCat oCat := by
  refine ⟨?_⟩
  rintro ρ G H μ x y d1 d2 Q Q' R a1 a2 q ⟨xs, ys, e1, e2, hl, h⟩
  obtain ⟨p1, vs1, rfl, h1, t1⟩ := lsV_ok R a1 e1
  obtain ⟨p2, vs2, rfl, h2, t2⟩ := lsV_ok R a2 e2
  exact ⟨p1, p2, vs1, vs2, rfl, rfl, h1, h2, by rw [t1.length, t2.length]; exact hl, fun l hl => newLst R q (t1.append t2) h hl⟩
def oCatT : O2 := fun d1 d2 μ Q => ∃ xs ys, tpV d1 = some xs ∧ tpV d2 = some ys ∧ xs.length + ys.length ≤ sizeLine ∧ Q (mkTup (xs ++ ys)) μ
theorem so_catT : SO c (rCatA c.K) oCatT := by
  refine ⟨?_⟩
  rintro ρ G H μ x y d1 d2 Q Q' R a1 a2 q ⟨xs, ys, e1, e2, hl, h⟩
  obtain ⟨p1, vs1, rfl, h1, t1⟩ := tpV_at a1 e1
  obtain ⟨p2, vs2, rfl, h2, t2⟩ := tpV_at a2 e2
  refine ⟨p1, p2, vs1, vs2, rfl, rfl, Same.tup R.gh h1, Same.tup R.gh h2, by rw [t1.length, t2.length]; exact hl, fun e => ?_, fun _ e => ?_, fun _ _ l hl => newTup R q (t1.append t2) h hl⟩
  · have e1 : xs = [] := by have := t1.length; rw [e] at this; exact List.length_eq_zero_iff.mp this.symm
    rw [e1, List.nil_append] at h
    exact q.here R (at_mk h2 t2) h
  · have e1 : ys = [] := by have := t2.length; rw [e] at this; exact List.length_eq_zero_iff.mp this.symm
    rw [e1, List.append_nil] at h
    exact q.here R (at_mk h1 t1) h
theorem AtAll.rep {vs : List V} {ds : List Dv} (h : AtAll c ρ G vs ds) : ∀ n : Nat, AtAll c ρ G (List.replicate n vs).flatten (List.replicate n ds).flatten
  | 0 => .nil
  | n + 1 => by
    rw [List.replicate_succ, List.flatten_cons, List.replicate_succ, List.flatten_cons]
    exact h.append (h.rep n)
def oRep : O2 := fun d1 d2 μ Q => ∃ xs k, lsV μ d1 = some xs ∧ d2 = .d (.int k) ∧ (-(2 ^ 63) ≤ k ∧ k < 2 ^ 63) ∧ xs.length * k.toNat ≤ sizeLine ∧ Q (.ob μ.length) (μ ++ [.lst (List.replicate k.toNat xs).flatten])
theorem so_rep : SO c rRep oRep := by
  refine ⟨?_⟩
  rintro ρ G H μ x y d1 d2 Q Q' R a1 a2 q ⟨xs, k, e1, rfl, ⟨k1, k2⟩, hl, h⟩
  obtain ⟨p1, vs1, rfl, h1, t1⟩ := lsV_ok R a1 e1
  obtain rfl := at_int a2
  exact ⟨p1, k, vs1, rfl, rfl, h1, k1, k2, by rw [t1.length]; exact hl, fun l hl => newLst R q (t1.rep _) h hl⟩
def oMulS : O2 := fun d1 d2 μ Q => ∃ s k, d1 = .d (.str s) ∧ d2 = .d (.int k) ∧ (k = 0 ∨ k = 1) ∧ Q (.d (.str (if k = 1 then s else Str.empty))) μ
theorem so_mulS : SO c rMulS oMulS := by
  refine ⟨?_⟩
  rintro ρ G H μ x y d1 d2 Q Q' R a1 a2 q ⟨s, k, rfl, rfl, hk, h⟩
  obtain rfl := at_str a1
  obtain rfl := at_int a2
  exact ⟨s, k, rfl, rfl, hk, q.here R (.d (.str _)) h⟩
/-! ### in -/
def pVs : List Dv → Option (List V)
  | [] => some []
  | d :: r => match pV d with
    | some v => (pVs r).map (v :: ·)
    | none => none
theorem pV_flat {d : Dv} {v : V} (h : pV d = some v) : flatV v = true := by
  cases d with
  | d x => cases x <;> first | (cases h; rfl) | cases h
  | _ => cases h
theorem pVs_ok : ∀ {ws : List V} {ds : List Dv} {vs : List V}, AtAll c ρ G ws ds → pVs ds = some vs → ws = vs ∧ vs.all flatV = true
  | _, _, _, .nil, e => by cases e; exact ⟨rfl, rfl⟩
  | _, _, _, .cons (d := d) (ds := ds) h t, e => by
    simp only [pVs] at e
    cases q : pV d with
    | none => rw [q] at e; cases e
    | some v =>
      rw [q] at e
      cases q2 : pVs ds with
      | none => rw [q2] at e; cases e
      | some r =>
        rw [q2] at e
        cases e
        obtain ⟨h1, h2⟩ := pVs_ok t q2
        obtain rfl := h.plain q
        refine ⟨by rw [h1], ?_⟩
        rw [List.all_cons, h2, Bool.and_true]
        exact pV_flat q
def oIn (neg : Bool) : O2 := fun d1 d2 μ Q => ∃ x ds vs, pV d1 = some x ∧ sqV μ d2 = some ds ∧ pVs ds = some vs ∧ Q (.d (.bl (if neg = true then !inV x vs else inV x vs))) μ
theorem so_in {neg : Bool} : SO c (rIn c.K neg) (oIn neg) := by
  refine ⟨?_⟩
  rintro ρ G H μ x y d1 d2 Q Q' R a1 a2 q ⟨x', ds, vs, e1, e2, e3, h⟩
  obtain ⟨p, ws, rfl, h1, t⟩ := sqV_ok R a2 e2
  obtain ⟨rfl, hf⟩ := pVs_ok t e3
  obtain rfl := a1.plain e1
  refine ⟨p, ws, rfl, ?_, pV_flat e1, hf, ?_⟩
  · rcases h1 with h1 | h1
    · exact .inl (SqL.of h1)
    · exact .inr h1
  · have := q.here R (.d (.bl _)) h
    cases neg <;> exact this
def oInS (neg : Bool) : O2 := fun d1 d2 μ Q => ∃ (k : Nat) (z : Str), d1 = .d (.str ⟨#[k]⟩) ∧ d2 = .d (.str z) ∧ Q (.d (.bl (if neg = true then !decide (k ∈ z.cps.toList) else decide (k ∈ z.cps.toList)))) μ
theorem so_inS : SO c rInSign (oInS false) := by
  refine ⟨?_⟩
  rintro ρ G H μ x y d1 d2 Q Q' R a1 a2 q ⟨k, z, rfl, rfl, h⟩
  obtain rfl := at_str a1
  obtain rfl := at_str a2
  exact ⟨k, z, rfl, rfl, q.here R (.d (.bl _)) h⟩
theorem so_notInS : SO c rNotInSign (oInS true) := by
  refine ⟨?_⟩
  rintro ρ G H μ x y d1 d2 Q Q' R a1 a2 q ⟨k, z, rfl, rfl, h⟩
  obtain rfl := at_str a1
  obtain rfl := at_str a2
  exact ⟨k, z, rfl, rfl, q.here R (.d (.bl _)) h⟩
end
/-! ### == at any depth -/
mutual
def pyD : Da → Option PyData
  | .non => some .none
  | .bl b => some (.bool b)
  | .int i => some (.int i)
  | .str s => some (.str s)
  | .lst xs => (pyDs xs).map .list
  | .tup xs => (pyDs xs).map .tuple
  | _ => none
def pyDs : List Da → Option (List PyData)
  | [] => some []
  | x :: r => match pyD x, pyDs r with
    | some p, some ps => some (p :: ps)
    | _, _ => none
end
mutual
inductive PyAt (μ : MS) : Dv → PyData → Prop
  | d {x : Da} {p : PyData} : pyD x = some p → PyAt μ (.d x) p
  | lst {d : Dv} {ds : List Dv} {ps : List PyData} : lsV μ d = some ds → PyAll μ ds ps → PyAt μ d (.list ps)
  | tup {d : Dv} {ds : List Dv} {ps : List PyData} : tpV d = some ds → PyAll μ ds ps → PyAt μ d (.tuple ps)
inductive PyAll (μ : MS) : List Dv → List PyData → Prop
  | nil : PyAll μ [] []
  | cons {d : Dv} {ds : List Dv} {p : PyData} {ps : List PyData} : PyAt μ d p → PyAll μ ds ps → PyAll μ (d :: ds) (p :: ps)
end
section
variable {c : Cn} {E : XK} {ρ : List Addr} {G H : Hp} {μ : MS}
mutual
theorem pyD_dp (gh : Same G H) : ∀ {d : Da} {p : PyData} {v : V}, pyD d = some p → AtD c G v d → Dp c.K H v p
  | .non, _, _, e, a => by cases e; cases a; exact .non
  | .bl b, _, _, e, a => by cases e; cases a; exact .bl b
  | .int b, _, _, e, a => by cases e; cases a; exact .int b
  | .str b, _, _, e, a => by cases e; cases a; exact .str b
  | .lst xs, _, _, e, a => by
    simp only [pyD] at e
    cases q : pyDs xs with
    | none => rw [q] at e; cases e
    | some ps =>
      rw [q] at e
      cases e
      cases a with
      | lst h t => exact .lst (SqL.of (gh _ _ h)) (pyDs_dp gh q t)
  | .tup xs, _, _, e, a => by
    simp only [pyD] at e
    cases q : pyDs xs with
    | none => rw [q] at e; cases e
    | some ps =>
      rw [q] at e
      cases e
      cases a with
      | tup h t => exact .tup (Same.tup gh h) (pyDs_dp gh q t)
  | .dct _, _, _, e, _ => by cases e
  | .ins _ _, _, _, e, _ => by cases e
  | .cls _, _, _, e, _ => by cases e
  | .ty _, _, _, e, _ => by cases e
  | .st, _, _, e, _ => by cases e
theorem pyDs_dp (gh : Same G H) : ∀ {ds : List Da} {ps : List PyData} {vs : List V}, pyDs ds = some ps → AtDs c G vs ds → DpAll c.K H vs ps
  | [], _, _, e, a => by cases e; cases a; exact .nil
  | x :: r, _, _, e, a => by
    simp only [pyDs] at e
    cases q1 : pyD x with
    | none => rw [q1] at e; cases e
    | some p =>
      cases q2 : pyDs r with
      | none => rw [q1, q2] at e; cases e
      | some ps =>
        rw [q1, q2] at e
        cases e
        cases a with
        | cons h1 h2 => exact .cons (pyD_dp gh q1 h1) (pyDs_dp gh q2 h2)
end
mutual
theorem PyAt.dp (R : Rel c ρ G H μ) : ∀ {d : Dv} {p : PyData} {v : V}, PyAt μ d p → At c ρ G v d → Dp c.K H v p
  | _, _, _, .d e, a => by
    cases a with
    | d a => exact pyD_dp R.gh e a
  | _, _, _, .lst e t, a => by
    obtain ⟨q, vs, rfl, h1, h2⟩ := lsV_ok R a e
    exact .lst (SqL.of h1) (PyAll.dp R t h2)
  | _, _, _, .tup e t, a => by
    obtain ⟨q, vs, rfl, h1, h2⟩ := tpV_ok R.gh a e
    exact .tup h1 (PyAll.dp R t h2)
theorem PyAll.dp (R : Rel c ρ G H μ) : ∀ {ds : List Dv} {ps : List PyData} {vs : List V}, PyAll μ ds ps → AtAll c ρ G vs ds → DpAll c.K H vs ps
  | _, _, _, .nil, a => by cases a; exact .nil
  | _, _, _, .cons h t, a => by
    cases a with
    | cons h1 h2 => exact .cons (PyAt.dp R h h1) (PyAll.dp R t h2)
end
def oEqD (neg : Bool) : O2 := fun d1 d2 μ Q => ∃ p1 p2, PyAt μ d1 p1 ∧ PyAt μ d2 p2 ∧ SeqAt.shaped p1 = true ∧ SeqAt.shaped p2 = true ∧ Q (.d (.bl (if neg = true then !PyData.eqv p1 p2 else PyData.eqv p1 p2))) μ
theorem so_eqD : SO c (rEqD c.K) (oEqD false) := by
  refine ⟨?_⟩
  rintro ρ G H μ x y d1 d2 Q Q' R a1 a2 q ⟨p1, p2, h1, h2, s1, s2, h⟩
  exact ⟨p1, p2, h1.dp R a1, h2.dp R a2, s1, s2, q.here R (.d (.bl _)) h⟩
theorem so_neD : SO c (rNeD c.K) (oEqD true) := by
  refine ⟨?_⟩
  rintro ρ G H μ x y d1 d2 Q Q' R a1 a2 q ⟨p1, p2, h1, h2, s1, s2, h⟩
  exact ⟨p1, p2, h1.dp R a1, h2.dp R a2, s1, s2, q.here R (.d (.bl _)) h⟩
def oInD (neg : Bool) : O2 := fun d1 d2 μ Q => ∃ p1 ds ps, PyAt μ d1 p1 ∧ lsV μ d2 = some ds ∧ PyAll μ ds ps ∧ SeqAt.shaped p1 = true ∧ SeqAt.shaped (.list ps) = true ∧ Q (.d (.bl (if neg = true then !ps.any (fun z => PyData.eqv z p1) else ps.any fun z => PyData.eqv z p1))) μ
theorem so_inD : SO c (rInD c.K) (oInD false) := by
  refine ⟨?_⟩
  rintro ρ G H μ x y d1 d2 Q Q' R a1 a2 q ⟨p1, ds, ps, h1, e, h2, s1, s2, h⟩
  exact ⟨p1, ps, h1.dp R a1, (PyAt.lst e h2).dp R a2, s1, s2, q.here R (.d (.bl _)) h⟩
theorem so_notInD : SO c (rNotInD c.K) (oInD true) := by
  refine ⟨?_⟩
  rintro ρ G H μ x y d1 d2 Q Q' R a1 a2 q ⟨p1, ds, ps, h1, e, h2, s1, s2, h⟩
  exact ⟨p1, ps, h1.dp R a1, (PyAt.lst e h2).dp R a2, s1, s2, q.here R (.d (.bl _)) h⟩
/-! ### builtins by values -/
abbrev OB := List Dv → MS → DK → Prop
structure SB (c : Cn) (r : List V → Hp → VK → Prop) (o : OB)  : Prop where
  run : ∀ {ρ : List Addr} {G H : Hp} {μ : MS} {vs : List V} {ds : List Dv} {Q : VK} {Q' : DK}, Rel c ρ G H μ → AtAll c ρ G vs ds → PQ c ρ G H Q Q' → o ds μ Q' → r vs H Q
instance (c : Cn) (r : List V → Hp → VK → Prop) (o : OB)  : CoeFun (SB c r o) fun _ => ∀ {ρ : List Addr} {G H : Hp} {μ : MS} {vs : List V} {ds : List Dv} {Q : VK} {Q' : DK}, Rel c ρ G H μ → AtAll c ρ G vs ds → PQ c ρ G H Q Q' → o ds μ Q' → r vs H Q := ⟨fun h => h.run⟩
def mCB (o : OB) (r : AS) : ES := fun E α μ Q => r E α μ fun ds μ1 => o ds μ1 Q
theorem se_cb {r : List V → Hp → VK → Prop} {o : OB} {ta : TA} {a : AS} (so : SB c r o) (ha : SA c E ta a) : SE c E (tCB r ta) (mCB o a) := by
  refine ⟨?_⟩
  intro ρ G H σ α μ Q E' Q' R e px q h
  refine ha R e px ?_ h
  intro ds μ1 h1 vs ρ1 G1 H1 s1 R1 a1
  exact so R1 a1 (q.step s1) h1
def lenD (μ : MS) (d : Dv) : Option Nat := match d with
  | .d (.str s) => some s.length
  | d => match sqV μ d with
    | some ds => some ds.length
    | none => (dcV μ d).map List.length
def oLen : OB := fun ds μ Q => ∃ d, ds = [d] ∧ okS d ∧ ∃ n : Nat, lenD μ d = some n ∧ Q (.d (.int n)) μ
theorem AtAll.sole {vs : List V} {d : Dv} (a : AtAll c ρ G vs [d]) : ∃ v, vs = [v] ∧ At c ρ G v d := by
  cases a with
  | cons h1 h =>
    cases h
    exact ⟨_, rfl, h1⟩
theorem AtAll.two {vs : List V} {d k : Dv} (a : AtAll c ρ G vs [d, k]) : ∃ v w, vs = [v, w] ∧ At c ρ G v d ∧ At c ρ G w k := by
  cases a with
  | cons h1 h =>
    obtain ⟨w, rfl, h2⟩ := h.sole
    exact ⟨_, _, rfl, h1, h2⟩
abbrev rLenAny (K : PySem.W.Frag) : List V → Hp → VK → Prop := fun xs H Q => (∃ x n, xs = [x] ∧ LenV K x H n ∧ Q (.int n) H) ∨ (∃ a kvs, xs = [V.ref a] ∧ H a = some (.dK kvs) ∧ Q (.int kvs.length) H)
theorem so_len : SB c (rLenAny c.K) oLen := by
  refine ⟨?_⟩
  rintro ρ G H μ vs ds Q Q' R a q ⟨d, rfl, hs, n, e, h⟩
  obtain ⟨v, rfl, b0⟩ := a.sole
  clear a
  have a := b0
  have gen : (match sqV μ d with | some ds => some ds.length | none => (dcV μ d).map List.length) = some n → rLenAny c.K [v] H Q := by
    intro e
    cases q1 : sqV μ d with
    | some xs =>
      rw [q1] at e
      cases e
      obtain ⟨p, vs, rfl, h1, t⟩ := sqV_ok R a q1
      refine .inl ⟨_, xs.length, rfl, ?_, q.here R (.d (.int _)) h⟩
      rcases h1 with h1 | h1
      · exact .inl ⟨vs, SqL.of h1, by rw [t.length]⟩
      · exact .inr ⟨vs, h1, by rw [t.length]⟩
    | none =>
      rw [q1] at e
      cases q2 : dcV μ d with
      | none => rw [q2] at e; cases e
      | some xs =>
        rw [q2] at e
        cases e
        obtain ⟨p, kvs, rfl, h1, hk, t⟩ := dcV_ok R a q2
        refine .inr ⟨p, kvs, rfl, h1, ?_⟩
        have e3 : kvs.length = xs.length := by have := congrArg List.length hk; simpa using this
        rw [e3]
        exact q.here R (.d (.int _)) h
  cases d with
  | d x =>
    cases x with
    | str s =>
      cases e
      obtain rfl := at_str a
      exact .inl ⟨_, _, rfl, ⟨hs, rfl⟩, q.here R (.d (.int _)) h⟩
    | _ => exact gen e
  | _ => exact gen e
def oInt : OB := fun ds μ Q => (∃ i, ds = [.d (.int i)] ∧ Q (.d (.int i)) μ) ∨ ∃ b : Bool, ds = [.d (.bl b)] ∧ Q (.d (.int (if b then 1 else 0))) μ
theorem so_int : SB c rInt1 oInt := by
  refine ⟨?_⟩
  rintro ρ G H μ vs ds Q Q' R a q (⟨i, rfl, h⟩ | ⟨i, rfl, h⟩)
  · obtain ⟨v, rfl, b0⟩ := a.sole
    clear a
    have a := b0
    obtain rfl := at_int a
    exact .inl ⟨i, rfl, q.here R (.d (.int _)) h⟩
  · obtain ⟨v, rfl, b0⟩ := a.sole
    clear a
    have a := b0
    obtain rfl := at_bl a
    exact .inr ⟨i, rfl, q.here R (.d (.int _)) h⟩
def oStr : OB := fun ds μ Q => ∃ i : Int, ds = [.d (.int i)] ∧ i.natAbs.log2 < 1920 ∧ Q (.d (.str (toString i))) μ
theorem so_str : SB c rStrI oStr := by
  refine ⟨?_⟩
  rintro ρ G H μ vs ds Q Q' R a q ⟨i, rfl, hl, h⟩
  obtain ⟨v, rfl, b0⟩ := a.sole
  clear a
  have a := b0
  obtain rfl := at_int a
  exact ⟨i, rfl, hl, q.here R (.d (.str _)) h⟩
def oList : OB := fun ds μ Q => ∃ d xs, ds = [d] ∧ sqV μ d = some xs ∧ Q (.ob μ.length) (μ ++ [.lst xs])
theorem so_list : SB c (rListOf c.K) oList := by
  refine ⟨?_⟩
  rintro ρ G H μ vs ds Q Q' R a q ⟨d, xs, rfl, e, h⟩
  obtain ⟨v, rfl, b0⟩ := a.sole
  clear a
  have a := b0
  obtain ⟨p, vs, rfl, h1, t⟩ := sqV_ok R a e
  refine ⟨p, vs, rfl, ?_, fun l hl => newLst R q t h hl⟩
  rcases h1 with h1 | h1
  · exact .inl (SqL.of h1)
  · exact .inr h1
def oTuple : OB := fun ds μ Q => ∃ d xs, ds = [d] ∧ sqV μ d = some xs ∧ Q (mkTup xs) μ
theorem so_tuple : SB c (rTupleOf c.K) oTuple := by
  refine ⟨?_⟩
  rintro ρ G H μ vs ds Q Q' R a q ⟨d, xs, rfl, e, h⟩
  obtain ⟨v, rfl, b0⟩ := a.sole
  clear a
  have a := b0
  rcases sqV_or e with e | e
  · obtain ⟨p, vs, rfl, h1, t⟩ := lsV_ok R a e
    exact ⟨p, vs, rfl, .inl ⟨SqL.of h1, fun l hl => newTup R q t h hl⟩⟩
  · obtain ⟨p, vs, rfl, h1, t⟩ := tpV_at a e
    exact ⟨p, vs, rfl, .inr ⟨Same.tup R.gh h1, q.here R (at_mk h1 t) h⟩⟩
def bls : List Dv → Option (List Bool)
  | [] => some []
  | .d (.bl b) :: r => (bls r).map (b :: ·)
  | _ => none
theorem bls_map : ∀ bs : List Bool, bls (bs.map fun b => .d (.bl b)) = some bs
  | [] => rfl
  | b :: r => by simp [bls, bls_map r]
theorem bls_eq : ∀ {ds : List Dv} {bs : List Bool}, bls ds = some bs → ds = bs.map fun b => .d (.bl b)
  | [], _, e => by cases e; rfl
  | d :: ds, bs, e => by
    unfold bls at e
    split at e
    · rename_i h; cases h
    · rename_i b r h
      cases h
      cases q : bls ds with
      | none => rw [q] at e; cases e
      | some r =>
        rw [q] at e
        cases e
        rw [bls_eq q]; rfl
    · cases e
theorem bls_at : ∀ {vs : List V} {bs : List Bool}, AtAll c ρ G vs (bs.map fun b => .d (.bl b)) → vs = bs.map V.bl
  | vs, [], h => by
    cases vs with
    | nil => rfl
    | cons _ _ => cases h
  | vs, b :: bs, h => by
    cases vs with
    | nil => cases h
    | cons v vs =>
      rw [List.map_cons] at h
      cases h with
      | cons h1 h2 =>
        obtain rfl := at_bl h1
        rw [bls_at h2]; rfl
def oAll : OB := fun ds μ Q => ∃ d xs bs, ds = [d] ∧ lsV μ d = some xs ∧ bls xs = some bs ∧ Q (.d (.bl (bs.all id))) μ
def oAny : OB := fun ds μ Q => ∃ d xs bs, ds = [d] ∧ lsV μ d = some xs ∧ bls xs = some bs ∧ Q (.d (.bl (bs.any id))) μ
theorem so_all : SB c (rAll c.K) oAll := by
  refine ⟨?_⟩
  rintro ρ G H μ vs ds Q Q' R a q ⟨d, xs, bs, rfl, e, e2, h⟩
  obtain ⟨v, rfl, b0⟩ := a.sole
  clear a
  have a := b0
  obtain ⟨p, vs, rfl, h1, t⟩ := lsV_ok R a e
  rw [bls_eq e2] at t
  have := bls_at t
  subst this
  exact ⟨p, bs, rfl, SqL.of h1, q.here R (.d (.bl _)) h⟩
theorem so_any : SB c (rAny c.K) oAny := by
  refine ⟨?_⟩
  rintro ρ G H μ vs ds Q Q' R a q ⟨d, xs, bs, rfl, e, e2, h⟩
  obtain ⟨v, rfl, b0⟩ := a.sole
  clear a
  have a := b0
  obtain ⟨p, vs, rfl, h1, t⟩ := lsV_ok R a e
  rw [bls_eq e2] at t
  have := bls_at t
  subst this
  exact ⟨p, bs, rfl, SqL.of h1, q.here R (.d (.bl _)) h⟩
/-! isinstance -/
/-- what isinstance asks of an own class -/
structure OwnI (K : PySem.W.Frag) (C : Addr) : Prop where
  cl : Cls K C
  ha : PySem.W.findIn K (.ref C) "__class__" = some (some (.builtin "object.__class__"))
  hn : PySem.W.specialIn K (.builtin "object.__class__") "__get__" = some (some (.builtin "getset_descriptor.__get__"))
  htk : PySem.W.takesIn K (.builtin "object.__class__") = some true
  hm : PySem.W.mroIn K C (.type "object") = some true
inductive TyD (K : PySem.W.Frag) (μ : MS) : Dv → Value → Prop
  | non : TyD K μ (.d .non) (.type "NoneType")
  | bl (b : Bool) : TyD K μ (.d (.bl b)) (.type "bool")
  | int (i : Int) : TyD K μ (.d (.int i)) (.type "int")
  | str (i : Str) : TyD K μ (.d (.str i)) (.type "str")
  | tup {d : Dv} {xs : List Dv} : tpV d = some xs → TyD K μ d (.type "tuple")
  | lst {d : Dv} {xs : List Dv} : lsV μ d = some xs → TyD K μ d (.type "list")
  | dct {d : Dv} {xs : List (Key × Dv)} : dcV μ d = some xs → TyD K μ d (.type "dict")
  | ins {d : Dv} {C : Addr} {fs : List (Str × Dv)} : isV μ d = some (C, fs) → OwnI K C → TyD K μ d (.ref C)
theorem TyD.ok (R : Rel c ρ G H μ) {v : V} {d : Dv} {t : Value} (a : At c ρ G v d) (h : TyD c.K μ d t) : TyX c.K H v t := by
  cases h with
  | non => obtain rfl := at_non a; exact .base .non
  | bl b => obtain rfl := at_bl a; exact .base (.bl b)
  | int b => obtain rfl := at_int a; exact .base (.int b)
  | str b => obtain rfl := at_str a; exact .base (.str b)
  | tup e =>
    obtain ⟨p, vs, rfl, h1, t⟩ := tpV_ok R.gh a e
    rcases h1 with (h1 | ⟨o, h1⟩) | ⟨o, its, n, h1, h2, _⟩
    · exact .base (.tup h1)
    · exact .fTuple h1
    · exact .kTuple h1 h2
  | lst e =>
    obtain ⟨p, vs, rfl, h1, t⟩ := lsV_ok R a e
    exact .base (.lst h1)
  | dct e =>
    obtain ⟨p, vs, rfl, h1, t⟩ := dcV_ok R a e
    exact .base (.dK h1)
  | ins e o =>
    obtain ⟨p, dx, vs, rfl, h1, t⟩ := isV_ok R a e
    exact .base (.ins h1 o.cl o.ha o.hn o.htk o.hm)
def clV : Dv → Option Value
  | .d (.ty n) => some (.type n)
  | .d (.cls a) => some (.ref a)
  | _ => none
theorem clV_ok {v : V} {d : Dv} {u : Value} (a : At c ρ G v d) (h : clV d = some u) : ClsV v u := by
  cases d with
  | d x =>
    cases a with
    | d a =>
      cases x with
      | ty n => cases h; cases a; exact .ty n
      | cls n => cases h; cases a; exact .own n
      | _ => cases h
  | _ => cases h
def oIsi (K : PySem.W.Frag) : OB := fun ds μ Q => ∃ d k, ds = [d, k] ∧ ∃ t u b, TyD K μ d t ∧ clV k = some u ∧ PySem.W.kitOne K t u = some b ∧ Q (.d (.bl b)) μ
theorem so_isi : SB c (rIsi c.K) (oIsi c.K) := by
  refine ⟨?_⟩
  rintro ρ G H μ vs ds Q Q' R a q ⟨d, k, rfl, t, u, b, h1, h2, h3, h⟩
  obtain ⟨v, w, rfl, a, a2⟩ := a.two
  exact ⟨_, _, t, u, b, rfl, clV_ok a2 h2, h1.ok R a, h3, q.here R (.d (.bl _)) h⟩
def clVs : List Dv → Option (List Value)
  | [] => some []
  | d :: r => match clV d with
    | some v => (clVs r).map (v :: ·)
    | none => none
theorem clVs_ok : ∀ {ws : List V} {ds : List Dv} {vs : List Value}, AtAll c ρ G ws ds → clVs ds = some vs → Paired ClsV ws vs
  | _, _, _, .nil, e => by cases e; exact .nil
  | _, _, _, .cons (d := d) (ds := ds) h t, e => by
    simp only [clVs] at e
    cases q : clV d with
    | none => rw [q] at e; cases e
    | some v =>
      rw [q] at e
      cases q2 : clVs ds with
      | none => rw [q2] at e; cases e
      | some r =>
        rw [q2] at e
        cases e
        exact .cons (clV_ok h q) (clVs_ok t q2)
/-- isinstance(x, (c1, c2)): the tuple is laid and forgotten -/
def mIsT (K : PySem.W.Frag) (a : ES) (ks : AS) : ES := fun E α μ Q => a E α μ fun d μ1 => ks E α μ1 fun cs μ2 => ∃ t us b, TyD K μ2 d t ∧ clVs cs = some us ∧ PySem.W.kitAny K t us = some b ∧ cs.length ≤ sizeLine ∧ Q (.d (.bl b)) μ2
theorem se_isT {ta : TE} {a : ES} {tk : TA} {ks : AS} (ha : SE c E ta a) (hk : SA c E tk ks) : SE c E (tCB (rIsiT c.K) (tCons ta (tCons (tTup tk) tNil))) (mIsT c.K a ks) := by
  refine ⟨?_⟩
  intro ρ G H σ α μ Q E' Q' R e px q h
  refine ha R e px ?_ h
  intro d μ1 h1 x ρ1 G1 H1 s1 R1 a1
  refine hk R1 (s1.env e) (px.step s1) ?_ h1
  rintro cs μ2 ⟨t, us, b, h2, h3, h4, hl, h5⟩ ws ρ2 G2 H2 s2 R2 a2
  refine ⟨by rw [a2.length]; exact hl, fun p hp => ?_⟩
  obtain ⟨R3, s3⟩ := R2.newF (u := .tup ws) hp
  exact ⟨x, p, ws, t, us, b, rfl, upd_same, clVs_ok a2 h3, h2.ok R3 (s3.at_ (s2.at_ a1)), h4, (q.step ((s1.trans s2).trans s3)).here R3 (.d (.bl _)) h5⟩
end
end Mz
end
section
set_option Elab.async false
set_option linter.all false
set_option maxRecDepth 100000
set_option maxHeartbeats 4000000
namespace Mz
open PySem L2
section
variable {c : Cn} {E : XK} {ρ : List Addr} {G H : Hp} {μ : MS}
/-! ### methods of lists -/
abbrev OM := Dv → List Dv → MS → DK → Prop
structure SM (c : Cn) (r : V → List V → Hp → VK → Prop) (o : OM)  : Prop where
  run : ∀ {ρ : List Addr} {G H : Hp} {μ : MS} {x : V} {d : Dv} {vs : List V} {ds : List Dv} {Q : VK} {Q' : DK}, Rel c ρ G H μ → At c ρ G x d → AtAll c ρ G vs ds → PQ c ρ G H Q Q' → o d ds μ Q' → r x vs H Q
instance (c : Cn) (r : V → List V → Hp → VK → Prop) (o : OM)  : CoeFun (SM c r o) fun _ => ∀ {ρ : List Addr} {G H : Hp} {μ : MS} {x : V} {d : Dv} {vs : List V} {ds : List Dv} {Q : VK} {Q' : DK}, Rel c ρ G H μ → At c ρ G x d → AtAll c ρ G vs ds → PQ c ρ G H Q Q' → o d ds μ Q' → r x vs H Q := ⟨fun h => h.run⟩
def mBM (o : OM) (a : ES) (r : AS) : ES := fun E α μ Q => a E α μ fun d μ1 => (lsV μ1 d).isSome = true ∧ r E α μ1 fun ds μ2 => o d ds μ2 Q
def mBM0 (o : OM) (a : ES) : ES := fun E α μ Q => a E α μ fun d μ1 => (lsV μ1 d).isSome = true ∧ o d [] μ1 Q
theorem tyL_ok (R : Rel c ρ G H μ) {v : V} {d : Dv} (a : At c ρ G v d) (e : (lsV μ d).isSome = true) : tyV c.K "list" v H := by
  cases q : lsV μ d with
  | none => rw [q] at e; cases e
  | some ds =>
    obtain ⟨p, vs, rfl, h1, t⟩ := lsV_ok R a q
    exact .inl ⟨rfl, vs, SqL.of h1⟩
theorem se_bm {r : V → List V → Hp → VK → Prop} {o : OM} {ta : TE} {a : ES} {tr : TA} {rr : AS} (so : SM c r o) (ha : SE c E ta a) (hr : SA c E tr rr) : SE c E (tBM c.K "list" r ta tr) (mBM o a rr) := by
  refine ⟨?_⟩
  intro ρ G H σ α μ Q E' Q' R e px q h
  refine ha R e px ?_ h
  rintro d1 μ1 ⟨hs, h1⟩ x ρ1 G1 H1 s1 R1 a1
  refine ⟨tyL_ok R1 a1 hs, ?_⟩
  refine hr R1 (s1.env e) (px.step s1) ?_ h1
  intro ds μ2 h2 vs ρ2 G2 H2 s2 R2 a2
  exact so R2 (s2.at_ a1) a2 (q.step (s1.trans s2)) h2
theorem se_bm0 {r : V → List V → Hp → VK → Prop} {o : OM} {ta : TE} {a : ES} (so : SM c r o) (ha : SE c E ta a) : SE c E (tBM0 c.K "list" r ta) (mBM0 o a) := by
  refine ⟨?_⟩
  intro ρ G H σ α μ Q E' Q' R e px q h
  refine ha R e px ?_ h
  rintro d1 μ1 ⟨hs, h1⟩ x ρ1 G1 H1 s1 R1 a1
  exact ⟨tyL_ok R1 a1 hs, so R1 a1 .nil (q.step s1) h1⟩
/-- an object that is a list is changed -/
theorem putLst (R : Rel c ρ G H μ) {n : Nat} {xs ys : List Dv} {v : V} {vs : List V} {Q : Hp → Prop} (a : At c ρ G v (.ob n)) (hn : μ[n]? = some (.lst xs)) (t : AtAll c ρ G vs ys)
    (k : ∀ p, v = .ref p → Rel c ρ G (upd H p (.lst vs)) (μ.set n (.lst ys)) → Stp c.st ρ G H ρ G (upd H p (.lst vs)) → Q (upd H p (.lst vs))) : ∃ p ws, v = .ref p ∧ H p = some (.lst ws) ∧ AtAll c ρ G ws xs ∧ Q (upd H p (.lst vs)) := by
  obtain ⟨p, rfl, hp, g, ws, h1, h2⟩ := R.at_ob a hn
  obtain ⟨R1, s1⟩ := R.put (u := .lst vs) (o' := .lst ys) hp hn (fun _ z => by cases z) ⟨g, vs, upd_same, t⟩
  exact ⟨p, ws, rfl, h1, h2, k p rfl R1 s1⟩
def oAppend : OM := fun d ds μ Q => ∃ n xs y, d = .ob n ∧ ds = [y] ∧ μ[n]? = some (.lst xs) ∧ xs.length < sizeLine ∧ Q (.d .non) (μ.set n (.lst (xs ++ [y])))
theorem sm_append : SM c rAppend oAppend := by
  refine ⟨?_⟩
  rintro ρ G H μ x d vs ds Q Q' R a1 a2 q ⟨n, xs, y, rfl, rfl, hn, hl, h⟩
  obtain ⟨w, rfl, b0⟩ := a2.sole
  obtain ⟨p, rfl, hp, g, ws, h1, h2⟩ := R.at_ob a1 hn
  obtain ⟨R1, s1⟩ := R.put (u := .lst (ws ++ [w])) (o' := .lst (xs ++ [y])) hp hn (fun _ z => by cases z) ⟨g, _, upd_same, h2.append (.one b0)⟩
  exact ⟨p, ws, w, rfl, rfl, h1, by rw [h2.length]; exact hl, q _ _ h _ _ _ _ s1 R1 (.d .non)⟩
def oExtend : OM := fun d ds μ Q => ∃ n xs y ys, d = .ob n ∧ ds = [y] ∧ μ[n]? = some (.lst xs) ∧ lsV μ y = some ys ∧ xs.length + ys.length ≤ sizeLine ∧ Q (.d .non) (μ.set n (.lst (xs ++ ys)))
theorem sm_extend : SM c rExtend oExtend := by
  refine ⟨?_⟩
  rintro ρ G H μ x d vs ds Q Q' R a1 a2 q ⟨n, xs, y, ys, rfl, rfl, hn, hy, hl, h⟩
  obtain ⟨w, rfl, b0⟩ := a2.sole
  obtain ⟨p, rfl, hp, g, ws, h1, h2⟩ := R.at_ob a1 hn
  obtain ⟨p2, zs, rfl, h3, h4⟩ := lsV_ok R b0 hy
  obtain ⟨R1, s1⟩ := R.put (u := .lst (ws ++ zs)) (o' := .lst (xs ++ ys)) hp hn (fun _ z => by cases z) ⟨g, _, upd_same, h2.append h4⟩
  exact ⟨p, p2, ws, zs, rfl, rfl, h1, h3, by rw [h2.length, h4.length]; exact hl, q _ _ h _ _ _ _ s1 R1 (.d .non)⟩
theorem AtAll.dropLast : ∀ {vs : List V} {ds : List Dv}, AtAll c ρ G vs ds → AtAll c ρ G vs.dropLast ds.dropLast := fun {vs ds} h => by
  rw [List.dropLast_eq_take, List.dropLast_eq_take, h.length]
  exact h.take _
def oPop : OM := fun d ds μ Q => ∃ n xs y, d = .ob n ∧ ds = [] ∧ μ[n]? = some (.lst xs) ∧ xs[xs.length - 1]? = some y ∧ Q y (μ.set n (.lst xs.dropLast))
theorem sm_pop : SM c rPop oPop := by
  refine ⟨?_⟩
  rintro ρ G H μ x d vs ds Q Q' R a1 a2 q ⟨n, xs, y, rfl, rfl, hn, hy, h⟩
  cases a2
  obtain ⟨p, rfl, hp, g, ws, h1, h2⟩ := R.at_ob a1 hn
  obtain ⟨w, hw, aw⟩ := h2.getD hy
  obtain ⟨R1, s1⟩ := R.put (u := .lst ws.dropLast) (o' := .lst xs.dropLast) hp hn (fun _ z => by cases z) ⟨g, _, upd_same, h2.dropLast⟩
  exact ⟨p, ws, w, rfl, rfl, h1, by rw [h2.length]; exact hw, q _ _ h _ _ _ _ s1 R1 aw⟩
def oPopAt : OM := fun d ds μ Q => ∃ n xs i k y, d = .ob n ∧ ds = [.d (.int i)] ∧ μ[n]? = some (.lst xs) ∧ (-(2 ^ 63) ≤ i ∧ i < 2 ^ 63) ∧ seqIndex? i xs.length = some k ∧ xs[k]? = some y ∧ Q y (μ.set n (.lst (xs.eraseIdx k)))
theorem sm_popAt : SM c rPopAt oPopAt := by
  refine ⟨?_⟩
  rintro ρ G H μ x d vs ds Q Q' R a1 a2 q ⟨n, xs, i, k, y, rfl, rfl, hn, ⟨i1, i2⟩, hk, hy, h⟩
  obtain ⟨w, rfl, b0⟩ := a2.sole
  obtain rfl := at_int b0
  obtain ⟨p, rfl, hp, g, ws, h1, h2⟩ := R.at_ob a1 hn
  obtain ⟨w, hw, aw⟩ := h2.getD hy
  obtain ⟨R1, s1⟩ := R.put (u := .lst (ws.eraseIdx k)) (o' := .lst (xs.eraseIdx k)) hp hn (fun _ z => by cases z) ⟨g, _, upd_same, h2.erase k⟩
  exact ⟨p, ws, i, k, w, rfl, rfl, h1, i1, i2, by rw [h2.length]; exact hk, hw, q _ _ h _ _ _ _ s1 R1 aw⟩
def oInsert : OM := fun d ds μ Q => ∃ n xs i y, d = .ob n ∧ ds = [.d (.int i), y] ∧ μ[n]? = some (.lst xs) ∧ xs.length < sizeLine ∧ (0 ≤ i ∧ i < 2 ^ 63) ∧ Q (.d .non) (μ.set n (.lst (xs.take i.toNat ++ [y] ++ xs.drop i.toNat)))
abbrev rInsert : V → List V → Hp → VK → Prop := fun x vs H Q => ∃ (l : Addr) (xs : List V) (i : Int) (y : V), x = .ref l ∧ vs = [.int i, y] ∧ H l = some (.lst xs) ∧ xs.length < sizeLine ∧ 0 ≤ i ∧ i < 2 ^ 63 ∧
    Q .non (upd H l (.lst (xs.take i.toNat ++ [y] ++ xs.drop i.toNat)))
theorem sm_insert : SM c rInsert oInsert := by
  refine ⟨?_⟩
  rintro ρ G H μ x d vs ds Q Q' R a1 a2 q ⟨n, xs, i, y, rfl, rfl, hn, hl, ⟨i1, i2⟩, h⟩
  obtain ⟨w, w2, rfl, b0, b1⟩ := a2.two
  obtain rfl := at_int b0
  obtain ⟨p, rfl, hp, g, ws, h1, h2⟩ := R.at_ob a1 hn
  obtain ⟨R1, s1⟩ := R.put (u := .lst (ws.take i.toNat ++ [w2] ++ ws.drop i.toNat)) (o' := .lst (xs.take i.toNat ++ [y] ++ xs.drop i.toNat)) hp hn (fun _ z => by cases z) ⟨g, _, upd_same, ((h2.take _).append (.one b1)).append (h2.drop _)⟩
  exact ⟨p, ws, i, w2, rfl, rfl, h1, by rw [h2.length]; exact hl, i1, i2, q _ _ h _ _ _ _ s1 R1 (.d .non)⟩
def oIndex : OM := fun d ds μ Q => ∃ xs vs y v j z, ds = [y] ∧ lsV μ d = some xs ∧ pVs xs = some vs ∧ pV y = some v ∧ vs[j]? = some z ∧ eqV z v = true ∧ (∀ (m : Nat) (z' : V), m < j → vs[m]? = some z' → eqV z' v = false) ∧ Q (.d (.int (j : Nat))) μ
theorem sm_index : SM c (rIndex c.K) oIndex := by
  refine ⟨?_⟩
  rintro ρ G H μ x d vs ds Q Q' R a1 a2 q ⟨xs, us, y, v, j, z, rfl, e1, e2, e3, e4, e5, e6, h⟩
  obtain ⟨w, rfl, b0⟩ := a2.sole
  obtain rfl := b0.plain e3
  obtain ⟨p, ws, rfl, h1, t⟩ := lsV_ok R a1 e1
  obtain ⟨rfl, hf⟩ := pVs_ok t e2
  exact ⟨p, ws, w, j, z, rfl, rfl, SqL.of h1, pV_flat e3, hf, e4, e5, e6, q.here R (.d (.int _)) h⟩
/-! ### methods of texts -/
def mM1 (o : OM) (a b : ES) : ES := fun E α μ Q => a E α μ fun d μ1 => (∃ s, d = .d (.str s)) ∧ b E α μ1 fun y μ2 => o d [y] μ2 Q
theorem se_m1 {r : V → List V → Hp → VK → Prop} {o : OM} {ta tb : TE} {a b : ES} (so : SM c r o) (ha : SE c E ta a) (hb : SE c E tb b) : SE c E (tM1 r ta tb) (mM1 o a b) := by
  refine ⟨?_⟩
  intro ρ G H σ α μ Q E' Q' R e px q h
  refine ha R e px ?_ h
  rintro d1 μ1 ⟨⟨s, rfl⟩, h1⟩ x ρ1 G1 H1 s1 R1 a1
  obtain rfl := at_str a1
  refine ⟨⟨s, rfl⟩, ?_⟩
  refine hb R1 (s1.env e) (px.step s1) ?_ h1
  intro d2 μ2 h2 y ρ2 G2 H2 s2 R2 a2
  exact so R2 (.d (.str s)) (.one a2) (q.step (s1.trans s2)) h2
def strsD (ys : List Str) : List Dv := ys.map fun s => .d (.str s)
theorem AtAll.strs (ys : List Str) : AtAll c ρ G (ys.map V.str) (strsD ys) := AtAll.map (fun s => .d (.str s)) ys
theorem strs_at : ∀ {vs : List V} {ys : List Str}, AtAll c ρ G vs (strsD ys) → vs = ys.map V.str
  | vs, [], h => by
    cases vs with
    | nil => rfl
    | cons _ _ => cases h
  | vs, b :: bs, h => by
    cases vs with
    | nil => cases h
    | cons v vs =>
      cases h with
      | cons h1 h2 =>
        obtain rfl := at_str h1
        rw [strs_at h2]; rfl
def oSplit : OM := fun d ds μ Q => ∃ a b, d = .d (.str a) ∧ ds = [.d (.str b)] ∧ (b.length == 0) = false ∧ a.length + 2 ≤ sizeLine ∧ Q (.ob μ.length) (μ ++ [.lst (strsD (Txt.split a b))])
theorem sm_split : SM c rSplit oSplit := by
  refine ⟨?_⟩
  rintro ρ G H μ x d vs ds Q Q' R a1 a2 q ⟨a, b, rfl, rfl, hb, hl, h⟩
  obtain ⟨w, rfl, b0⟩ := a2.sole
  obtain rfl := at_str b0
  obtain rfl := at_str a1
  exact ⟨a, b, rfl, rfl, hb, hl, fun p hp => newLst R q (.strs _) h hp⟩
def oJoin : OM := fun d ds μ Q => ∃ a y ys, d = .d (.str a) ∧ ds = [y] ∧ sqV μ y = some (strsD ys) ∧ (ys.map (·.length)).sum + ys.length * a.length ≤ 16777216 ∧ Q (.d (.str (Txt.join a ys))) μ
theorem sm_join : SM c (rJoin c.K) oJoin := by
  refine ⟨?_⟩
  rintro ρ G H μ x d vs ds Q Q' R a1 a2 q ⟨a, y, ys, rfl, rfl, e, hl, h⟩
  obtain ⟨w, rfl, b0⟩ := a2.sole
  obtain rfl := at_str a1
  obtain ⟨p, ws, rfl, h1, t⟩ := sqV_ok R b0 e
  obtain rfl := strs_at t
  refine ⟨.mk, a, p, ys, rfl, rfl, ?_, hl, q.here R (.d (.str _)) h⟩
  rcases h1 with h1 | h1
  · exact .inl (SqL.of h1)
  · exact .inr h1
def oSIndex : OM := fun d ds μ Q => ∃ a b i rest, d = .d (.str a) ∧ ds = [.d (.str b)] ∧ Builtin.Str.occurrences a b 0 a.length 1 = i :: rest ∧ Q (.d (.int (i : Nat))) μ
def mSBM (o : OM) (a : ES) (r : AS) : ES := fun E α μ Q => a E α μ fun d μ1 => (∃ s, d = .d (.str s)) ∧ r E α μ1 fun ds μ2 => o d ds μ2 Q
theorem se_sbm {r : V → List V → Hp → VK → Prop} {o : OM} {ta : TE} {a : ES} {tr : TA} {rr : AS} (so : SM c r o) (ha : SE c E ta a) (hr : SA c E tr rr) : SE c E (tBM c.K "str" r ta tr) (mSBM o a rr) := by
  refine ⟨?_⟩
  intro ρ G H σ α μ Q E' Q' R e px q h
  refine ha R e px ?_ h
  rintro d1 μ1 ⟨⟨s, rfl⟩, h1⟩ x ρ1 G1 H1 s1 R1 a1
  obtain rfl := at_str a1
  refine ⟨rfl, ?_⟩
  refine hr R1 (s1.env e) (px.step s1) ?_ h1
  intro ds μ2 h2 vs ρ2 G2 H2 s2 R2 a2
  exact so R2 (.d (.str s)) a2 (q.step (s1.trans s2)) h2
theorem sm_sindex : SM c rSIndex oSIndex := by
  refine ⟨?_⟩
  rintro ρ G H μ x d vs ds Q Q' R a1 a2 q ⟨a, b, i, rest, rfl, rfl, e, h⟩
  obtain ⟨w, rfl, b0⟩ := a2.sole
  obtain rfl := at_str a1
  obtain rfl := at_str b0
  exact ⟨a, b, i, rest, rfl, rfl, e, q.here R (.d (.int _)) h⟩
/-! ### dicts -/
def keyD : Dv → Option Key
  | .d (.int i) => some (.inl i)
  | .d (.str s) => some (.inr s)
  | _ => none
theorem keyD_ok {v : V} {d : Dv} {k : Key} (a : At c ρ G v d) (e : keyD d = some k) : v = kV k := by
  cases d with
  | d x =>
    cases x with
    | int i => cases e; exact at_int a
    | str i => cases e; exact at_str a
    | _ => cases e
  | _ => cases e
def valD (kvs : List (Key × Dv)) (k : Key) : Option Dv := (kvs.find? fun kv => decide (kv.1 = k)).map (·.2)
def putD (kvs : List (Key × Dv)) (k : Key) (v : Dv) : List (Key × Dv) :=
  if (kvs.any fun kv => decide (kv.1 = k)) = true then kvs.map (fun kv => if kv.1 = k then (kv.1, v) else kv) else kvs ++ [(k, v)]
theorem val_some {k : Key} : ∀ {kvs : List (Key × V)} {kds : List (Key × Dv)} {d : Dv}, kvs.map (·.1) = kds.map (·.1) → AtAll c ρ G (kvs.map (·.2)) (kds.map (·.2)) → valD kds k = some d → ∃ v, valV kvs k = some v ∧ At c ρ G v d
  | [], [], _, _, _, e => by cases e
  | [], _ :: _, _, hk, _, _ => by cases hk
  | _ :: _, [], _, hk, _, _ => by cases hk
  | (k1, v) :: r, (k2, d') :: r', d, hk, ha, e => by
    simp only [List.map_cons, List.cons.injEq] at hk
    obtain ⟨rfl, hk⟩ := hk
    cases ha with
    | cons h1 h2 =>
      by_cases hh : k1 = k
      · have e1 : valD ((k1, d') :: r') k = some d' := by simp [valD, hh]
        rw [e1] at e
        cases e
        exact ⟨v, valV_pos hh, h1⟩
      · have e1 : valD ((k1, d') :: r') k = valD r' k := by simp [valD, hh]
        rw [e1] at e
        rw [valV_neg hh]
        exact val_some hk h2 e
theorem val_none {k : Key} : ∀ {kvs : List (Key × V)} {kds : List (Key × Dv)}, kvs.map (·.1) = kds.map (·.1) → valD kds k = none → valV kvs k = none
  | [], [], _, _ => rfl
  | [], _ :: _, hk, _ => by cases hk
  | _ :: _, [], hk, _ => by cases hk
  | (k1, v) :: r, (k2, d') :: r', hk, e => by
    simp only [List.map_cons, List.cons.injEq] at hk
    obtain ⟨rfl, hk⟩ := hk
    by_cases hh : k1 = k
    · have e1 : valD ((k1, d') :: r') k = some d' := by simp [valD, hh]
      rw [e1] at e
      cases e
    · have e1 : valD ((k1, d') :: r') k = valD r' k := by simp [valD, hh]
      rw [e1] at e
      rw [valV_neg hh]
      exact val_none hk e
theorem any_key {k : Key} : ∀ {kvs : List (Key × V)} {kds : List (Key × Dv)}, kvs.map (·.1) = kds.map (·.1) → (kvs.any fun kv => decide (kv.1 = k)) = kds.any fun kv => decide (kv.1 = k)
  | [], [], _ => rfl
  | [], _ :: _, hk => by cases hk
  | _ :: _, [], hk => by cases hk
  | (k1, v) :: r, (k2, d') :: r', hk => by
    simp only [List.map_cons, List.cons.injEq] at hk
    obtain ⟨rfl, hk⟩ := hk
    simp only [List.any_cons]
    rw [any_key hk]
theorem put_keys {kvs : List (Key × V)} {kds : List (Key × Dv)} {k : Key} {v : V} {d : Dv} (hk : kvs.map (·.1) = kds.map (·.1)) : (putK kvs k v).map (·.1) = (putD kds k d).map (·.1) := by
  unfold putK putD
  rw [any_key hk]
  by_cases h : (kds.any fun kv => decide (kv.1 = k)) = true
  · rw [if_pos h, if_pos h, List.map_map, List.map_map]
    have e1 : ((fun x : Key × V => x.1) ∘ fun kv : Key × V => if kv.1 = k then (kv.1, v) else kv) = fun x => x.1 := by
      funext x; simp only [Function.comp]; split <;> rfl
    have e2 : ((fun x : Key × Dv => x.1) ∘ fun kv : Key × Dv => if kv.1 = k then (kv.1, d) else kv) = fun x => x.1 := by
      funext x; simp only [Function.comp]; split <;> rfl
    rw [e1, e2]; exact hk
  · rw [if_neg h, if_neg h, List.map_append, List.map_append, hk]; rfl
theorem put_vals {k : Key} {v : V} {d : Dv} (hv : At c ρ G v d) {kvs : List (Key × V)} {kds : List (Key × Dv)} (hk : kvs.map (·.1) = kds.map (·.1)) (ha : AtAll c ρ G (kvs.map (·.2)) (kds.map (·.2))) : AtAll c ρ G ((putK kvs k v).map (·.2)) ((putD kds k d).map (·.2)) := by
  have aux : ∀ {kvs : List (Key × V)} {kds : List (Key × Dv)}, kvs.map (·.1) = kds.map (·.1) → AtAll c ρ G (kvs.map (·.2)) (kds.map (·.2)) → AtAll c ρ G ((kvs.map fun kv => if kv.1 = k then (kv.1, v) else kv).map (·.2)) ((kds.map fun kv => if kv.1 = k then (kv.1, d) else kv).map (·.2)) := by
    intro kvs
    induction kvs with
    | nil =>
      intro kds hk ha
      cases kds with
      | nil => exact .nil
      | cons _ _ => cases hk
    | cons p r ih =>
      intro kds hk ha
      cases kds with
      | nil => cases hk
      | cons p' r' =>
        obtain ⟨k1, w⟩ := p
        obtain ⟨k2, d'⟩ := p'
        simp only [List.map_cons, List.cons.injEq] at hk
        obtain ⟨rfl, hk⟩ := hk
        cases ha with
        | cons h1 h2 =>
          have := ih hk h2
          by_cases hh : k1 = k
          · simp only [List.map_cons, if_pos hh]
            exact .cons hv this
          · simp only [List.map_cons, if_neg hh]
            exact .cons h1 this
  unfold putK putD
  rw [any_key hk]
  by_cases h : (kds.any fun kv => decide (kv.1 = k)) = true
  · rw [if_pos h, if_pos h]
    exact aux hk ha
  · rw [if_neg h, if_neg h, List.map_append, List.map_append]
    exact ha.append (.one hv)
def mDGet (a b : ES) : ES := fun E α μ Q => a E α μ fun d μ1 => b E α μ1 fun y μ2 => ∃ kvs k x, dcV μ2 d = some kvs ∧ keyD y = some k ∧ valD kvs k = some x ∧ Q x μ2
theorem se_dget {ta tb : TE} {a b : ES} (ha : SE c E ta a) (hb : SE c E tb b) : SE c E (tDGet ta tb) (mDGet a b) := by
  refine ⟨?_⟩
  intro ρ G H σ α μ Q E' Q' R e px q h
  refine ha R e px ?_ h
  intro d1 μ1 h1 x ρ1 G1 H1 s1 R1 a1
  refine hb R1 (s1.env e) (px.step s1) ?_ h1
  rintro d2 μ2 ⟨kvs, k, z, e1, e2, e3, h2⟩ y ρ2 G2 H2 s2 R2 a2
  obtain ⟨p, ws, rfl, h3, hk, t⟩ := dcV_ok R2 (s2.at_ a1) e1
  obtain rfl := keyD_ok a2 e2
  obtain ⟨v, h4, h5⟩ := val_some hk t e3
  refine ⟨p, v, rfl, ?_, (q.step (s1.trans s2)).here R2 h5 h2⟩
  have := DGet.k (k := k) h3
  rw [h4] at this
  exact this
theorem val_opt {k : Key} {kvs : List (Key × V)} {kds : List (Key × Dv)} (hk : kvs.map (·.1) = kds.map (·.1)) (ha : AtAll c ρ G (kvs.map (·.2)) (kds.map (·.2))) : (valV kvs k).isSome = (valD kds k).isSome := by
  cases q : valD kds k with
  | none => rw [val_none hk q]; rfl
  | some d =>
    obtain ⟨v, h4, _⟩ := val_some hk ha q
    rw [h4]; rfl
def mDIn (neg : Bool) (b a : ES) : ES := fun E α μ Q => b E α μ fun y μ1 => a E α μ1 fun d μ2 => ∃ kvs k, dcV μ2 d = some kvs ∧ keyD y = some k ∧ Q (.d (.bl (if neg = true then !(valD kvs k).isSome else (valD kvs k).isSome))) μ2
theorem se_din {ta tb : TE} {a b : ES} (hb : SE c E tb b) (ha : SE c E ta a) : SE c E (tDIn tb ta) (mDIn false b a) := by
  refine ⟨?_⟩
  intro ρ G H σ α μ Q E' Q' R e px q h
  refine hb R e px ?_ h
  intro d1 μ1 h1 y ρ1 G1 H1 s1 R1 a1
  refine ha R1 (s1.env e) (px.step s1) ?_ h1
  rintro d2 μ2 ⟨kvs, k, e1, e2, h2⟩ x ρ2 G2 H2 s2 R2 a2
  obtain ⟨p, ws, rfl, h3, hk, t⟩ := dcV_ok R2 a2 e1
  obtain rfl := keyD_ok a1 e2
  refine ⟨p, _, rfl, DGet.k (k := k) h3, ?_⟩
  rw [val_opt hk t]
  exact (q.step (s1.trans s2)).here R2 (.d (.bl _)) h2
theorem se_dnotin {ta tb : TE} {a b : ES} (hb : SE c E tb b) (ha : SE c E ta a) : SE c E (tDNotIn tb ta) (mDIn true b a) := by
  refine ⟨?_⟩
  intro ρ G H σ α μ Q E' Q' R e px q h
  refine hb R e px ?_ h
  intro d1 μ1 h1 y ρ1 G1 H1 s1 R1 a1
  refine ha R1 (s1.env e) (px.step s1) ?_ h1
  rintro d2 μ2 ⟨kvs, k, e1, e2, h2⟩ x ρ2 G2 H2 s2 R2 a2
  obtain ⟨p, ws, rfl, h3, hk, t⟩ := dcV_ok R2 a2 e1
  obtain rfl := keyD_ok a1 e2
  refine ⟨p, _, rfl, DGet.k (k := k) h3, ?_⟩
  rw [val_opt hk t]
  exact (q.step (s1.trans s2)).here R2 (.d (.bl _)) h2
/-- d.get(k) -/
def mDGet1 (a b : ES) : ES := fun E α μ Q => a E α μ fun d μ1 => (dcV μ1 d).isSome = true ∧ b E α μ1 fun y μ2 => ∃ kvs k, dcV μ2 d = some kvs ∧ keyD y = some k ∧ Q ((valD kvs k).getD (.d .non)) μ2
theorem se_dget1 {ta tb : TE} {a b : ES} (ha : SE c E ta a) (hb : SE c E tb b) : SE c E (tDGet1 ta tb) (mDGet1 a b) := by
  refine ⟨?_⟩
  intro ρ G H σ α μ Q E' Q' R e px q h
  refine ha R e px ?_ h
  rintro d1 μ1 ⟨hs, h1⟩ x ρ1 G1 H1 s1 R1 a1
  cases q0 : dcV μ1 d1 with
  | none => rw [q0] at hs; cases hs
  | some kk =>
    obtain ⟨p0, ws0, e0, h0, _⟩ := dcV_ok R1 a1 q0
    subst e0
    refine ⟨p0, rfl, .inl ⟨ws0, .inl h0⟩, ?_⟩
    refine hb R1 (s1.env e) (px.step s1) ?_ h1
    rintro d2 μ2 ⟨kvs, k, e1, e2, h2⟩ y ρ2 G2 H2 s2 R2 a2
    obtain ⟨p, ws, ep, h3, hk, t⟩ := dcV_ok R2 (s2.at_ a1) e1
    cases ep
    obtain rfl := keyD_ok a2 e2
    refine ⟨_, DGet.k (k := k) h3, ?_⟩
    cases q : valD kvs k with
    | none =>
      rw [q] at h2
      rw [val_none hk q]
      exact (PQ.step ‹_› (s1.trans s2)).here R2 (.d .non) h2
    | some d =>
      rw [q] at h2
      obtain ⟨v, h4, h5⟩ := val_some hk t q
      rw [h4]
      exact (PQ.step ‹_› (s1.trans s2)).here R2 h5 h2
def mDNew : ES := fun _ _ μ Q => Q (.ob μ.length) (μ ++ [.dct []])
theorem newDct {Q : VK} {Q' : DK} {kvs : List (Key × V)} {kds : List (Key × Dv)} (R : Rel c ρ G H μ) (q : PQ c ρ G H Q Q') (hk : kvs.map (·.1) = kds.map (·.1)) (a : AtAll c ρ G (kvs.map (·.2)) (kds.map (·.2))) (h : Q' (.ob μ.length) (μ ++ [.dct kds])) {p : Addr} (hp : H p = none) : Q (.ref p) (upd H p (.dK kvs)) := by
  obtain ⟨R1, s1⟩ := R.alloc (u := .dK kvs) (o := .dct kds) hp ⟨R.free hp, kvs, upd_same, hk, a.mono (Same.refl _) pre1⟩
  refine q _ _ h _ _ _ _ s1 R1 (.ob ?_)
  rw [← R.len]; simp
theorem se_dnew : SE c E tDNewK mDNew := ⟨fun R _ _ q h p hp => newDct R q rfl .nil h hp⟩
end
end Mz
end
section
set_option Elab.async false
set_option linter.all false
set_option maxRecDepth 100000
set_option maxHeartbeats 4000000
namespace Mz
open PySem L2
/-! ### an object of one's own that is not yet told of -/
structure Ow (st : Addr) (ρ : List Addr) (G H : Hp) (D : Addr) (o : HO) : Prop where
  nr : D ∉ ρ
  ns : D ≠ st
  g : G D = none
  h : H D = some o
section
variable {c : Cn} {E : XK} {ρ ρ1 ρ0 : List Addr} {G H G1 H1 G0 H0 : Hp} {μ : MS} {D : Addr} {o o' : HO}
theorem Ow.step (w : Ow c.st ρ G H D o) (s : Stp c.st ρ G H ρ1 G1 H1) : Ow c.st ρ1 G1 H1 D o where
  nr := fun z => by
    rcases s.nw D z with h | h
    · exact w.nr h
    · rw [w.h] at h; cases h
  ns := w.ns
  g := by
    cases q : G1 D with
    | none => rfl
    | some u =>
      rcases s.fr D u q w.g with h | h
      · rw [w.h] at h; cases h
      · exact absurd h w.nr
  h := s.hh D o w.nr w.ns w.h
theorem Ow.new (R : Rel c ρ G H μ) (hD : H D = none) : Ow c.st ρ G (upd H D o) D o := ⟨R.new hD, R.newst hD, R.free hD, upd_same⟩
theorem Rel.owSet (R : Rel c ρ G H μ) (w : Ow c.st ρ G H D o) : Rel c ρ G (upd H D o') μ ∧ Ow c.st ρ G (upd H D o') D o' := by
  have g := (Gr.refl (M := [D]) R.gh).set (o := o') w.g (by rw [w.h]; simp) (.inr (by simp))
  exact ⟨R.keep (Same.refl _) g.gh (fun b u hb e => get_set (fun z => w.nr (by rw [← z]; exact hb)) e) (fun _ _ h => h) (R.so.set w.ns w.g), ⟨w.nr, w.ns, w.g, upd_same⟩⟩
/-- a step that began when D was free -/
theorem Stp.owSet (s : Stp c.st ρ0 G0 H0 ρ G H) (hD : H0 D = none) (w : Ow c.st ρ G H D o) : Stp c.st ρ0 G0 H0 ρ G (upd H D o') where
  pre := s.pre
  gg := s.gg
  hh := fun b u n1 n2 e => get_set (fun z => by rw [z, hD] at e; cases e) (s.hh b u n1 n2 e)
  dm := fun b e => by
    by_cases hb : b = D
    · rw [hb]; exact hD
    · rw [upd_ne hb] at e; exact s.dm b e
  fr := s.fr
  nw := s.nw
theorem Rel.adopt (R : Rel c ρ G H μ) {m : MO} (w : Ow c.st ρ G H D o) (h : ObAt c (ρ ++ [D]) G H D m) : Rel c (ρ ++ [D]) G H (μ ++ [m]) := by
  refine ⟨R.gh, by simp [R.len], ?_, ?_, R.so, ?_⟩
  · exact List.nodup_append.mpr ⟨R.nd, by simp, fun a ha b hb z => w.nr (by
      have : b = D := by simpa using hb
      rw [← this, ← z]; exact ha)⟩
  · intro n a o' h1 h2
    by_cases hl : n < ρ.length
    · rw [List.getElem?_append_left hl] at h1
      rw [List.getElem?_append_left (by rw [← R.len]; exact hl)] at h2
      refine (R.ob n a o' h1 h2).mono (Same.refl _) pre1 ?_ fun w e => e
      cases o' with
      | frz d => exact .inr ⟨d, rfl⟩
      | lst ds => obtain ⟨g, _⟩ := R.ob n a _ h1 h2; exact .inl g
      | dct ds => obtain ⟨g, _⟩ := R.ob n a _ h1 h2; exact .inl g
      | ins C ds => obtain ⟨g, _⟩ := R.ob n a _ h1 h2; exact .inl g
    · have hz : n = ρ.length := by
        have := (List.getElem?_eq_some_iff.mp h1).1
        simp at this
        omega
      subst hz
      have e1 : D = a := by simpa using h1
      have e2 : m = o' := by
        rw [R.len] at h2
        simpa using h2
      subst e1
      subst e2
      exact h
  · intro z
    rcases List.mem_append.mp z with z | z
    · exact R.sn z
    · have : c.st = D := by simpa using z
      exact w.ns this.symm
theorem Stp.adopt (s : Stp c.st ρ0 G0 H0 ρ G H) (hD : H0 D = none) : Stp c.st ρ0 G0 H0 (ρ ++ [D]) G H where
  pre := by
    obtain ⟨l, rfl⟩ := s.pre
    exact ⟨l ++ [D], by simp⟩
  gg := s.gg
  hh := s.hh
  dm := s.dm
  fr := s.fr
  nw := fun b h => by
    rcases List.mem_append.mp h with h | h
    · exact s.nw b h
    · have : b = D := by simpa using h
      rw [this]; exact .inr hD
theorem Rel.lastOb (R : Rel c ρ G H μ) : (ρ ++ [D])[μ.length]? = some D := by rw [← R.len]; simp
/-! ### a written dict -/
def mPairs : List (ES × ES) → XS → Env' → MS → (List (Dv × Dv) → MS → Prop) → Prop
  | [], _, _, μ, Q => Q [] μ
  | (k, v) :: r, E, α, μ, Q => k E α μ fun x μ1 => v E α μ1 fun y μ2 => mPairs r E α μ2 fun ps μ3 => Q ((x, y) :: ps) μ3
inductive SPr (c : Cn) (E : XK) : List (TE × TE) → List (ES × ES) → Prop
  | nil : SPr c E [] []
  | cons {tk tv : TE} {k v : ES} {tr : List (TE × TE)} {r : List (ES × ES)} : SE c E tk k → SE c E tv v → SPr c E tr r → SPr c E ((tk, tv) :: tr) ((k, v) :: r)
theorem pairs_ok : ∀ {trs : List (TE × TE)} {ps : List (ES × ES)}, SPr c E trs ps → ∀ {ρ : List Addr} {G H : Hp} {σ : St} {α : Env'} {μ : MS} {Q : List (V × V) → Hp → Prop} {E' : XS} {Q' : List (Dv × Dv) → MS → Prop}, Rel c ρ G H μ → EnvOk c ρ G σ α → PX c ρ G H E E' →
    (∀ ds μ', Q' ds μ' → ∀ vs ρ' G' H', Stp c.st ρ G H ρ' G' H' → Rel c ρ' G' H' μ' → AtAll c ρ' G' (vs.map (·.1)) (ds.map (·.1)) → AtAll c ρ' G' (vs.map (·.2)) (ds.map (·.2)) → Q vs H') → mPairs ps E' α μ Q' → tPairs trs σ H Q
  | _, _, .nil, _, _, _, _, _, _, _, _, _, R, e, px, q, h => q _ _ h [] _ _ _ Stp.refl R .nil .nil
  | _, _, .cons hk hv hr, _, _, _, _, _, _, _, _, _, R, e, px, q, h => by
    refine hk R e px ?_ h
    intro d1 μ1 h1 x ρ1 G1 H1 s1 R1 a1
    refine hv R1 (s1.env e) (px.step s1) ?_ h1
    intro d2 μ2 h2 y ρ2 G2 H2 s2 R2 a2
    have s02 := s1.trans s2
    refine pairs_ok hr R2 (s02.env e) (px.step s02) ?_ h2
    intro ds μ3 h3 vs ρ3 G3 H3 s3 R3 b1 b2
    exact q _ _ h3 _ _ _ _ (s02.trans s3) R3 (.cons ((s2.trans s3).at_ a1) b1) (.cons (s3.at_ a2) b2)
def keysD : List (Dv × Dv) → Option (List (Key × Dv))
  | [] => some []
  | (k, v) :: r => match keyD k, keysD r with
    | some k, some r => some ((k, v) :: r)
    | _, _ => none
def mergeD (kvs more : List (Key × Dv)) : List (Key × Dv) := more.foldl (fun acc kv => putD acc kv.1 kv.2) kvs
theorem keysD_ok : ∀ {vs : List (V × V)} {ds : List (Dv × Dv)} {kds : List (Key × Dv)}, keysD ds = some kds → AtAll c ρ G (vs.map (·.1)) (ds.map (·.1)) → AtAll c ρ G (vs.map (·.2)) (ds.map (·.2)) →
    ∃ kvs : List (Key × V), vs = kvs.map (fun kv => (kV kv.1, kv.2)) ∧ kvs.map (·.1) = kds.map (·.1) ∧ AtAll c ρ G (kvs.map (·.2)) (kds.map (·.2))
  | [], [], _, e, _, _ => by cases e; exact ⟨[], rfl, rfl, .nil⟩
  | [], _ :: _, _, _, h, _ => by cases h
  | _ :: _, [], _, _, h, _ => by cases h
  | (x, y) :: vs, (k, v) :: r, kds, e, h1, h2 => by
    simp only [keysD] at e
    cases q1 : keyD k with
    | none => rw [q1] at e; cases e
    | some k' =>
      cases q2 : keysD r with
      | none => rw [q1, q2] at e; cases e
      | some r' =>
        rw [q1, q2] at e
        cases e
        cases h1 with
        | cons a1 t1 =>
          cases h2 with
          | cons a2 t2 =>
            obtain ⟨kvs, e1, e2, e3⟩ := keysD_ok q2 t1 t2
            have := keyD_ok a1 q1
            refine ⟨(k', y) :: kvs, ?_, ?_, .cons a2 e3⟩
            · rw [e1]; simp only [List.map_cons]; rw [← this]
            · simp only [List.map_cons]; rw [e2]
theorem merge_ok : ∀ {more : List (Key × V)} {mored : List (Key × Dv)} {kvs : List (Key × V)} {kds : List (Key × Dv)}, kvs.map (·.1) = kds.map (·.1) → AtAll c ρ G (kvs.map (·.2)) (kds.map (·.2)) → more.map (·.1) = mored.map (·.1) → AtAll c ρ G (more.map (·.2)) (mored.map (·.2)) →
    (mergeK kvs more).map (·.1) = (mergeD kds mored).map (·.1) ∧ AtAll c ρ G ((mergeK kvs more).map (·.2)) ((mergeD kds mored).map (·.2))
  | [], [], _, _, h1, h2, _, _ => ⟨h1, h2⟩
  | [], _ :: _, _, _, _, _, h, _ => by cases h
  | _ :: _, [], _, _, _, _, h, _ => by cases h
  | (k, v) :: r, (k', d) :: r', kvs, kds, h1, h2, h3, h4 => by
    simp only [List.map_cons, List.cons.injEq] at h3
    obtain ⟨rfl, h3⟩ := h3
    cases h4 with
    | cons a t => exact merge_ok (kvs := putK kvs k v) (kds := putD kds k d) (put_keys h1) (put_vals a h1 h2) h3 t
def mDisp (ps : List (ES × ES)) : ES := fun E α μ Q => mPairs ps E α μ fun ds μ1 => ∃ kds, keysD ds = some kds ∧ kds.length ≤ 15 ∧ Q (.ob μ1.length) (μ1 ++ [.dct (mergeD [] kds)])
theorem se_disp {trs : List (TE × TE)} {ps : List (ES × ES)} (hp : SPr c E trs ps) : SE c E (tDisp trs) (mDisp ps) := by
  refine ⟨?_⟩
  intro ρ G H σ α μ Q E' Q' R e px q h p hpn
  obtain ⟨R0, s0⟩ := R.junk (u := .dK []) hpn
  have w0 : Ow c.st ρ G (upd H p (.dK [])) p (.dK []) := Ow.new R hpn
  refine pairs_ok hp R0 (s0.env e) (px.step s0) ?_ h
  rintro ds μ1 ⟨kds, e1, hl, h1⟩ vs ρ1 G1 H1 s1 R1 b1 b2
  obtain ⟨kvs, e2, e3, e4⟩ := keysD_ok e1 b1 b2
  have w1 := w0.step s1
  obtain ⟨m1, m2⟩ := merge_ok (c := c) (ρ := ρ1) (G := G1) (kvs := []) (kds := []) rfl .nil e3 e4
  obtain ⟨R2, w2⟩ := R1.owSet (o' := .dK (mergeK [] kvs)) w1
  have s2 : Stp c.st ρ G H ρ1 G1 (upd H1 p (.dK (mergeK [] kvs))) := (s0.trans s1).owSet hpn w1
  refine ⟨w1.h, kvs, e2, by have := congrArg List.length e3; simp at this; omega, ?_⟩
  refine q _ _ h1 _ _ _ _ (s2.adopt hpn) (R2.adopt w2 ⟨w2.g, _, w2.h, m1, m2.mono (Same.refl _) pre1⟩) (.ob R2.lastOb)
/-! ### attributes -/
def mFld (C : Addr) (f : Str) (a : ES) : ES := fun E α μ Q => a E α μ fun d μ1 => ∃ fs x, isV μ1 d = some (C, fs) ∧ fs.lookup f = some x ∧ Q x μ1
theorem se_fld {C : Addr} {f : Str} {ta : TE} {a : ES} (hC : Cls c.K C) (hN : NoAttr c.K C f) (ha : SE c E ta a) : SE c E (tFld c.K ta f) (mFld C f a) := by
  refine ⟨?_⟩
  intro ρ G H σ α μ Q E' Q' R e px q h
  refine ha R e px ?_ h
  rintro d1 μ1 ⟨fs, y, e1, e2, h1⟩ x ρ1 G1 H1 s1 R1 a1
  obtain ⟨p, dx, fvs, rfl, h2, hk, t⟩ := isV_ok R1 a1 e1
  obtain ⟨v, h3, h4⟩ := ents_get hk t e2
  exact ⟨p, C, dx, fvs, v, rfl, h2, hC, hN, h3, (q.step s1).here R1 h4 h1⟩
/-- o.f where o is of a class that is not known ahead -/
def putFD (f : Str) (v : Dv) : List (Str × Dv) → List (Str × Dv)
  | [] => [(f, v)]
  | (g, x) :: r => if g = f then (g, v) :: r else (g, x) :: putFD f v r
theorem putF_keys {f : Str} {v : V} {d : Dv} : ∀ {kvs : List (Str × V)} {kds : List (Str × Dv)}, kvs.map (·.1) = kds.map (·.1) → (putF f v kvs).map (·.1) = (putFD f d kds).map (·.1)
  | [], [], _ => rfl
  | [], _ :: _, hk => by cases hk
  | _ :: _, [], hk => by cases hk
  | (k1, w) :: r, (k2, d') :: r', hk => by
    simp only [List.map_cons, List.cons.injEq] at hk
    obtain ⟨rfl, hk⟩ := hk
    simp only [putF, putFD]
    by_cases h : k1 = f
    · rw [if_pos h, if_pos h]; simp only [List.map_cons]; rw [hk]
    · rw [if_neg h, if_neg h]; simp only [List.map_cons]; rw [putF_keys hk]
theorem putF_vals {f : Str} {v : V} {d : Dv} (hv : At c ρ G v d) : ∀ {kvs : List (Str × V)} {kds : List (Str × Dv)}, kvs.map (·.1) = kds.map (·.1) → AtAll c ρ G (kvs.map (·.2)) (kds.map (·.2)) → AtAll c ρ G ((putF f v kvs).map (·.2)) ((putFD f d kds).map (·.2))
  | [], [], _, _ => .cons hv .nil
  | [], _ :: _, hk, _ => by cases hk
  | _ :: _, [], hk, _ => by cases hk
  | (k1, w) :: r, (k2, d') :: r', hk, ha => by
    simp only [List.map_cons, List.cons.injEq] at hk
    obtain ⟨rfl, hk⟩ := hk
    cases ha with
    | cons h1 h2 =>
      simp only [putF, putFD]
      by_cases h : k1 = f
      · rw [if_pos h, if_pos h]; exact .cons hv h2
      · rw [if_neg h, if_neg h]; exact .cons h1 (putF_vals hv hk h2)
end
/-! ### statements -/
structure En where
  nx : Env' → MS → Prop
  rt : DK
  bk : Env' → MS → Prop := fun _ _ => False
  ct : Env' → MS → Prop := fun _ _ => False
  er : XS := fun _ _ => False
abbrev BS := En → Env' → MS → Prop
def PN (c : Cn) (ρ : List Addr) (G H : Hp) (N : St → Hp → Prop) (N' : Env' → MS → Prop) : Prop := ∀ α' μ', N' α' μ' → ∀ σ' ρ' G' H', Stp c.st ρ G H ρ' G' H' → Rel c ρ' G' H' μ' → EnvOk c ρ' G' σ' α' → N σ' H'
structure PD (c : Cn) (ρ : List Addr) (G H : Hp) (E : XK) (D : Ends) (D' : En) : Prop where
  nx : PN c ρ G H D.nx D'.nx
  rt : PQ c ρ G H D.rt D'.rt
  bk : PN c ρ G H D.bk D'.bk
  ct : PN c ρ G H D.ct D'.ct
  er : PX c ρ G H E D'.er
structure SS (c : Cn) (E : XK) (t : TS) (m : BS)  : Prop where
  run : ∀ {ρ : List Addr} {G H : Hp} {σ : St} {α : Env'} {μ : MS} {D : Ends} {D' : En}, Rel c ρ G H μ → EnvOk c ρ G σ α → PD c ρ G H E D D' → m D' α μ → t D σ H
instance (c : Cn) (E : XK) (t : TS) (m : BS)  : CoeFun (SS c E t m) fun _ => ∀ {ρ : List Addr} {G H : Hp} {σ : St} {α : Env'} {μ : MS} {D : Ends} {D' : En}, Rel c ρ G H μ → EnvOk c ρ G σ α → PD c ρ G H E D D' → m D' α μ → t D σ H := ⟨fun h => h.run⟩
section
variable {c : Cn} {E : XK} {ρ ρ1 : List Addr} {G H G1 H1 : Hp} {μ : MS}
theorem PN.step {N : St → Hp → Prop} {N' : Env' → MS → Prop} (h : PN c ρ G H N N') (s : Stp c.st ρ G H ρ1 G1 H1) : PN c ρ1 G1 H1 N N' := fun α' μ' x σ' ρ' G' H' s' R' e => h α' μ' x σ' ρ' G' H' (s.trans s') R' e
theorem PD.step {D : Ends} {D' : En} (h : PD c ρ G H E D D') (s : Stp c.st ρ G H ρ1 G1 H1) : PD c ρ1 G1 H1 E D D' := ⟨h.nx.step s, h.rt.step s, h.bk.step s, h.ct.step s, h.er.step s⟩
def bNext : BS := fun D α μ => D.nx α μ
def bSeq (a b : BS) : BS := fun D α μ => a { D with nx := b D } α μ
def bDrop (a : ES) : BS := fun D α μ => a D.er α μ fun _ μ1 => D.nx α μ1
def bRet (a : ES) : BS := fun D α μ => a D.er α μ D.rt
def bRetN : BS := fun D _ μ => D.rt (.d .non) μ
def bIf (t : TS') (a b : BS) : BS := fun D α μ => t D.er α μ fun k μ1 => if k = true then a D α μ1 else b D α μ1
def bBreak : BS := fun D α μ => D.bk α μ
def bCont : BS := fun D α μ => D.ct α μ
theorem ss_next : SS c E tNext bNext := ⟨fun R e p h => p.nx _ _ h _ _ _ _ Stp.refl R e⟩
theorem ss_break : SS c E tBreak bBreak := ⟨fun R e p h => p.bk _ _ h _ _ _ _ Stp.refl R e⟩
theorem ss_cont : SS c E tCont bCont := ⟨fun R e p h => p.ct _ _ h _ _ _ _ Stp.refl R e⟩
theorem ss_seq {t u : TS} {a b : BS} (ha : SS c E t a) (hb : SS c E u b) : SS c E (tSeq t u) (bSeq a b) := by
  refine ⟨?_⟩
  intro ρ G H σ α μ D D' R e p h
  refine ha.run (D := { D with nx := u D }) (D' := { D' with nx := b D' }) R e ⟨?_, p.rt, p.bk, p.ct, p.er⟩ h
  intro α' μ' x σ' ρ' G' H' s' R' e'
  exact hb R' e' (p.step s') x
theorem ss_drop {ta : TE} {a : ES} (ha : SE c E ta a) : SS c E (tDrop ta) (bDrop a) := by
  refine ⟨?_⟩
  intro ρ G H σ α μ D D' R e p h
  refine ha R e p.er ?_ h
  intro d μ1 h1 v ρ1 G1 H1 s1 R1 a1
  exact p.nx _ _ h1 _ _ _ _ s1 R1 (s1.env e)
theorem ss_ret {ta : TE} {a : ES} (ha : SE c E ta a) : SS c E (tRet ta) (bRet a) := ⟨fun R e p h => ha R e p.er p.rt h⟩
theorem ss_retN : SS c E tRetN bRetN := ⟨fun R e p h => p.rt _ _ h _ _ _ _ Stp.refl R (.d .non)⟩
theorem ss_if {tt : TT} {t u : TS} {k : TS'} {a b : BS} (ht : ST c E tt k) (ha : SS c E t a) (hb : SS c E u b) : SS c E (tIfS tt t u) (bIf k a b) := by
  refine ⟨?_⟩
  intro ρ G H σ α μ D D' R e p h
  refine ht R e p.er ?_ h
  intro k μ1 h1 ρ1 G1 H1 s1 R1
  cases k with
  | true => exact ha R1 (s1.env e) (p.step s1) h1
  | false => exact hb R1 (s1.env e) (p.step s1) h1
/-! targets -/
abbrev GS := Dv → XS → Env' → MS → (Env' → MS → Prop) → Prop
abbrev GSs := List Dv → XS → Env' → MS → (Env' → MS → Prop) → Prop
structure SG (c : Cn) (E : XK) (t : TG) (g : GS)  : Prop where
  run : ∀ {ρ : List Addr} {G H : Hp} {σ : St} {α : Env'} {μ : MS} {v : V} {d : Dv} {N : St → Hp → Prop} {N' : Env' → MS → Prop} {E' : XS}, Rel c ρ G H μ → EnvOk c ρ G σ α → At c ρ G v d → PX c ρ G H E E' → PN c ρ G H N N' → g d E' α μ N' → t v σ H N
instance (c : Cn) (E : XK) (t : TG) (g : GS)  : CoeFun (SG c E t g) fun _ => ∀ {ρ : List Addr} {G H : Hp} {σ : St} {α : Env'} {μ : MS} {v : V} {d : Dv} {N : St → Hp → Prop} {N' : Env' → MS → Prop} {E' : XS}, Rel c ρ G H μ → EnvOk c ρ G σ α → At c ρ G v d → PX c ρ G H E E' → PN c ρ G H N N' → g d E' α μ N' → t v σ H N := ⟨fun h => h.run⟩
structure SGs (c : Cn) (E : XK) (t : TGs) (g : GSs)  : Prop where
  run : ∀ {ρ : List Addr} {G H : Hp} {σ : St} {α : Env'} {μ : MS} {v : List V} {d : List Dv} {N : St → Hp → Prop} {N' : Env' → MS → Prop} {E' : XS}, Rel c ρ G H μ → EnvOk c ρ G σ α → AtAll c ρ G v d → PX c ρ G H E E' → PN c ρ G H N N' → g d E' α μ N' → t v σ H N
instance (c : Cn) (E : XK) (t : TGs) (g : GSs)  : CoeFun (SGs c E t g) fun _ => ∀ {ρ : List Addr} {G H : Hp} {σ : St} {α : Env'} {μ : MS} {v : List V} {d : List Dv} {N : St → Hp → Prop} {N' : Env' → MS → Prop} {E' : XS}, Rel c ρ G H μ → EnvOk c ρ G σ α → AtAll c ρ G v d → PX c ρ G H E E' → PN c ρ G H N N' → g d E' α μ N' → t v σ H N := ⟨fun h => h.run⟩
def nName (i : Nat) : GS := fun d _ α μ N => N (α.set i (some d)) μ
def nNil : GSs := fun ds _ α μ N => ds = [] ∧ N α μ
def nCons (g : GS) (r : GSs) : GSs := fun ds E α μ N => ∃ d rest, ds = d :: rest ∧ g d E α μ fun α1 μ1 => r rest E α1 μ1 N
def nTup (n : Nat) (r : GSs) : GS := fun d E α μ N => ∃ ds, tpV d = some ds ∧ ds.length = n ∧ r ds E α μ N
def nSeq (n : Nat) (r : GSs) : GS := fun d E α μ N => ∃ ds, sqV μ d = some ds ∧ ds.length = n ∧ r ds E α μ N
theorem sg_name (i : Nat) : SG c E (gName i) (nName i) := ⟨fun R e a px p h => p _ _ h _ _ _ _ Stp.refl R (e.set a i)⟩
theorem sg_nil : SGs c E gNil nNil := by
  refine ⟨?_⟩
  rintro ρ G H σ α μ v d N N' E' R e a px p ⟨rfl, h⟩
  cases a
  exact ⟨rfl, p _ _ h _ _ _ _ Stp.refl R e⟩
theorem sg_cons {t : TG} {u : TGs} {g : GS} {r : GSs} (hg : SG c E t g) (hr : SGs c E u r) : SGs c E (gCons t u) (nCons g r) := by
  refine ⟨?_⟩
  rintro ρ G H σ α μ v d N N' E' R e a px p ⟨d1, rest, rfl, h⟩
  cases a with
  | cons a1 a2 =>
    refine ⟨_, _, rfl, ?_⟩
    refine hg R e a1 px ?_ h
    intro α' μ' x σ' ρ' G' H' s' R' e'
    exact hr R' e' (s'.all a2) (px.step s') (p.step s') x
theorem sg_tup {n : Nat} {u : TGs} {r : GSs} (hr : SGs c E u r) : SG c E (gTup c.K n u) (nTup n r) := by
  refine ⟨?_⟩
  rintro ρ G H σ α μ v d N N' E' R e a px p ⟨ds, e1, hl, h⟩
  obtain ⟨q, vs, rfl, h1, t⟩ := tpV_ok R.gh a e1
  exact ⟨q, vs, rfl, h1, by rw [t.length]; exact hl, hr R e t px p h⟩
theorem sg_seq {n : Nat} {u : TGs} {r : GSs} (hr : SGs c E u r) : SG c E (gSeq c.K n u) (nSeq n r) := by
  refine ⟨?_⟩
  rintro ρ G H σ α μ v d N N' E' R e a px p ⟨ds, e1, hl, h⟩
  obtain ⟨q, vs, rfl, h1, t⟩ := sqV_ok R a e1
  refine ⟨.mk, ?_⟩
  rcases h1 with h1 | h1
  · exact .inr ⟨q, vs, rfl, SqL.of h1, by rw [t.length]; exact hl, hr R e t px p h⟩
  · exact .inl ⟨q, vs, rfl, h1, by rw [t.length]; exact hl, hr R e t px p h⟩
/-- xs[i] = v -/
def nSub (o i : ES) : GS := fun d E α μ N => o E α μ fun x μ1 => i E α μ1 fun y μ2 => ∃ n xs k j, x = .ob n ∧ y = .d (.int k) ∧ μ2[n]? = some (.lst xs) ∧ ixN xs.length k = some j ∧ N α (μ2.set n (.lst (xs.set j d)))
theorem sg_sub {to ti : TE} {o i : ES} (ho : SE c E to o) (hi : SE c E ti i) : SG c E (gSub to ti rSetL) (nSub o i) := by
  refine ⟨?_⟩
  intro ρ G H σ α μ v d N N' E' R e a px p h
  refine ho R e px ?_ h
  intro d1 μ1 h1 x ρ1 G1 H1 s1 R1 a1
  refine hi R1 (s1.env e) (px.step s1) ?_ h1
  rintro d2 μ2 ⟨n, xs, k, j, rfl, rfl, hn, hj, h2⟩ y ρ2 G2 H2 s2 R2 a2
  obtain rfl := at_int a2
  obtain ⟨q, rfl, hp, g, ws, h3, h4⟩ := R2.at_ob (s2.at_ a1) hn
  have s02 := s1.trans s2
  obtain ⟨R3, s3⟩ := R2.put (u := .lst (ws.set j v)) (o' := .lst (xs.set j d)) hp hn (fun _ z => by cases z) ⟨g, _, upd_same, h4.set (s02.at_ a) j⟩
  exact ⟨q, ws, k, j, rfl, rfl, h3, by rw [h4.length]; exact hj, p _ _ h2 _ _ _ _ (s02.trans s3) R3 ((s02.trans s3).env e)⟩
def bAsg (a : ES) (g : GS) : BS := fun D α μ => a D.er α μ fun d μ1 => g d D.er α μ1 D.nx
theorem ss_asg {ta : TE} {tg : TG} {a : ES} {g : GS} (ha : SE c E ta a) (hg : SG c E tg g) : SS c E (tAsg ta tg) (bAsg a g) := by
  refine ⟨?_⟩
  intro ρ G H σ α μ D D' R e p h
  refine ha R e p.er ?_ h
  intro d μ1 h1 v ρ1 G1 H1 s1 R1 a1
  exact hg R1 (s1.env e) a1 (p.er.step s1) (p.nx.step s1) h1
def bPar (i j : Nat) (a : AS) : BS := fun D α μ => a D.er α μ fun ds μ1 => ∃ d1 d2, ds = [d1, d2] ∧ D.nx ((α.set i (some d1)).set j (some d2)) μ1
theorem ss_par {i j : Nat} {ta : TA} {a : AS} (ha : SA c E ta a) : SS c E (tPar i j ta) (bPar i j a) := by
  refine ⟨?_⟩
  intro ρ G H σ α μ D D' R e p h
  refine ha R e p.er ?_ h
  rintro ds μ1 ⟨d1, d2, rfl, h1⟩ vs ρ1 G1 H1 s1 R1 a1
  obtain ⟨v, w, rfl, b1, b2⟩ := a1.two
  exact ⟨v, w, rfl, p.nx _ _ h1 _ _ _ _ s1 R1 (((s1.env e).set b1 i).set b2 j)⟩
def bAug (i : Nat) (a : ES) (f : Int → Int → Int) : BS := fun D α μ => ∃ x, α[i]? = some (some (.d (.int x))) ∧ a D.er α μ fun y μ1 => ∃ k, y = .d (.int k) ∧ D.nx (α.set i (some (.d (.int (f x k))))) μ1
theorem ss_aug {i : Nat} {f : Int → Int → Int} {ta : TE} {a : ES} (ha : SE c E ta a) : SS c E (tAug i ta (ipI f)) (bAug i a f) := by
  refine ⟨?_⟩
  rintro ρ G H σ α μ D D' R e p ⟨x, hx, h⟩
  obtain ⟨v, h3, h4⟩ := e.get hx
  obtain rfl := at_int h4
  refine ⟨_, h3, ?_⟩
  refine ha R e p.er ?_ h
  rintro d μ1 ⟨k, rfl, h1⟩ w ρ1 G1 H1 s1 R1 a1
  obtain rfl := at_int a1
  exact ⟨x, k, rfl, rfl, p.nx _ _ h1 _ _ _ _ s1 R1 ((s1.env e).set (.d (.int _)) i)⟩
/-- o.f = e -/
def bFld (C : Addr) (f : Str) (o a : ES) : BS := fun D α μ => a D.er α μ fun y μ1 => o D.er α μ1 fun d μ2 => ∃ n fs, d = .ob n ∧ μ2[n]? = some (.ins C fs) ∧ fs.length < 1000 ∧ D.nx α (μ2.set n (.ins C (putFD f y fs)))
theorem ss_fld {C : Addr} {f : Str} {to ta : TE} {o a : ES} (hC : Cls c.K C) (hN : NoAttr c.K C f) (ho : SE c E to o) (ha : SE c E ta a) : SS c E (sFld c.K to ta f) (bFld C f o a) := by
  refine ⟨?_⟩
  intro ρ G H σ α μ D D' R e p h
  refine ha R e p.er ?_ h
  intro d μ1 h1 v ρ1 G1 H1 s1 R1 a1
  refine ho R1 (s1.env e) (p.er.step s1) ?_ h1
  rintro d2 μ2 ⟨n, fs, rfl, hn, hl, h2⟩ x ρ2 G2 H2 s2 R2 a2
  obtain ⟨q, rfl, hp, g, dx, ws, h3, hk, h4⟩ := R2.at_ob a2 hn
  have a1' := s2.at_ a1
  obtain ⟨R3, s3⟩ := R2.put (u := .ins C dx (putF f v ws)) (o' := .ins C (putFD f d fs)) hp hn (fun _ z => by cases z) ⟨g, dx, _, upd_same, putF_keys hk, putF_vals a1' hk h4⟩
  refine ⟨q, C, dx, ws, rfl, h3, hC, hN, ?_, ?_⟩
  · have := congrArg List.length hk
    simp at this
    omega
  · exact p.nx _ _ h2 _ _ _ _ ((s1.trans s2).trans s3) R3 (((s1.trans s2).trans s3).env e)
/-- d[k] = v -/
def bDPut (o i a : ES) : BS := fun D α μ => a D.er α μ fun y μ1 => o D.er α μ1 fun d μ2 => i D.er α μ2 fun z μ3 => ∃ n kvs k, d = .ob n ∧ μ3[n]? = some (.dct kvs) ∧ keyD z = some k ∧ kvs.length < sizeLine ∧ D.nx α (μ3.set n (.dct (putD kvs k y)))
theorem ss_dput {to ti ta : TE} {o i a : ES} (ho : SE c E to o) (hi : SE c E ti i) (ha : SE c E ta a) : SS c E (sDPut to ti ta) (bDPut o i a) := by
  refine ⟨?_⟩
  intro ρ G H σ α μ D D' R e p h
  refine ha R e p.er ?_ h
  intro d μ1 h1 v ρ1 G1 H1 s1 R1 a1
  refine ho R1 (s1.env e) (p.er.step s1) ?_ h1
  intro d2 μ2 h2 x ρ2 G2 H2 s2 R2 a2
  have s02 := s1.trans s2
  refine hi R2 (s02.env e) (p.er.step s02) ?_ h2
  rintro d3 μ3 ⟨n, kvs, k, rfl, hn, hk, hl, h3⟩ z ρ3 G3 H3 s3 R3 a3
  obtain ⟨q, rfl, hp, g, ws, h4, hk2, h5⟩ := R3.at_ob (s3.at_ a2) hn
  obtain rfl := keyD_ok a3 hk
  have s03 := s02.trans s3
  have a1' := (s2.trans s3).at_ a1
  obtain ⟨R4, s4⟩ := R3.put (u := .dK (putK ws k v)) (o' := .dct (putD kvs k d)) hp hn (fun _ z => by cases z) ⟨g, _, upd_same, put_keys hk2, put_vals a1' hk2 h5⟩
  refine ⟨q, _, rfl, DPut.k (k := k) h4 ?_, p.nx _ _ h3 _ _ _ _ (s03.trans s4) R4 ((s03.trans s4).env e)⟩
  have := congrArg List.length hk2
  simp at this
  omega
end
end Mz
end
section
set_option Elab.async false
set_option linter.all false
set_option maxRecDepth 100000
set_option maxHeartbeats 4000000
namespace Mz
open PySem L2
/-! ### what is walked -/
structure IW where
  items : List Dv
  gd : MS → Prop
structure WOk (c : Cn) (ρ0 : List Addr) (G0 H0 : Hp) (J : It) (w : IW) : Prop where
  goes : ∀ {ρ : List Addr} {G H : Hp} {μ : MS} (i : Nat), Stp c.st ρ0 G0 H0 ρ G H → Rel c ρ G H μ → w.gd μ → i < w.items.length → J.go i H
  stops : ∀ {ρ : List Addr} {G H : Hp} {μ : MS}, Stp c.st ρ0 G0 H0 ρ G H → Rel c ρ G H μ → w.gd μ → J.stop w.items.length H
  yields : ∀ {ρ : List Addr} {G H : Hp} {μ : MS} {i : Nat} {x : V} {H' : Hp}, Stp c.st ρ0 G0 H0 ρ G H → Rel c ρ G H μ → w.gd μ → i < w.items.length → J.yld i H x H' → ∃ d G', w.items[i]? = some d ∧ Rel c ρ G' H' μ ∧ Stp c.st ρ G H ρ G' H' ∧ At c ρ G' x d
abbrev IS := XS → Env' → MS → (IW → MS → Prop) → Prop
structure SI (c : Cn) (E : XK) (ti : TI) (mi : IS)  : Prop where
  run : ∀ {ρ : List Addr} {G H : Hp} {σ : St} {α : Env'} {μ : MS} {R : It → Hp → Prop} {E' : XS} {R' : IW → MS → Prop}, Rel c ρ G H μ → EnvOk c ρ G σ α → PX c ρ G H E E' →
  (∀ w μ', R' w μ' → ∀ J ρ' G' H', Stp c.st ρ G H ρ' G' H' → Rel c ρ' G' H' μ' → WOk c ρ' G' H' J w → R J H') → mi E' α μ R' → ti σ H R
instance (c : Cn) (E : XK) (ti : TI) (mi : IS)  : CoeFun (SI c E ti mi) fun _ => ∀ {ρ : List Addr} {G H : Hp} {σ : St} {α : Env'} {μ : MS} {R : It → Hp → Prop} {E' : XS} {R' : IW → MS → Prop}, Rel c ρ G H μ → EnvOk c ρ G σ α → PX c ρ G H E E' →
  (∀ w μ', R' w μ' → ∀ J ρ' G' H', Stp c.st ρ G H ρ' G' H' → Rel c ρ' G' H' μ' → WOk c ρ' G' H' J w → R J H') → mi E' α μ R' → ti σ H R := ⟨fun h => h.run⟩
section
variable {c : Cn} {E : XK} {ρ ρ0 : List Addr} {G H G0 H0 : Hp} {μ : MS}
/-- from a Walk -/
theorem WOk.of {J : It} {n : Nat} {Gd : Hp → Prop} {Y : Nat → Hp → V → Hp → Prop} {w : IW} (W : Walk J n Gd Y) (hn : n = w.items.length)
    (hg : ∀ {ρ : List Addr} {G H : Hp} {μ : MS}, Stp c.st ρ0 G0 H0 ρ G H → Rel c ρ G H μ → w.gd μ → Gd H)
    (hy : ∀ {ρ : List Addr} {G H : Hp} {μ : MS} {i : Nat} {x : V} {H' : Hp}, Stp c.st ρ0 G0 H0 ρ G H → Rel c ρ G H μ → w.gd μ → i < n → Y i H x H' → ∃ d G', w.items[i]? = some d ∧ Rel c ρ G' H' μ ∧ Stp c.st ρ G H ρ G' H' ∧ At c ρ G' x d) : WOk c ρ0 G0 H0 J w := by
  subst hn
  exact ⟨fun i s R g hi => W.goes i _ hi (hg s R g), fun s R g => W.stops _ (hg s R g), fun s R g hi y => hy s R g hi (W.yields _ _ _ _ hi (hg s R g) y)⟩
def iwSq (d : Dv) (ds : List Dv) : IW := ⟨ds, fun μ => sqV μ d = some ds⟩
theorem wok_lst {v : V} {d : Dv} {ds : List Dv} {p : Addr} {vs : List V} (a : At c ρ0 G0 v d) (ep : v = .ref p) (hl : ∀ μ, sqV μ d = some ds → lsV μ d = some ds) (t : AtAll c ρ0 G0 vs ds) (same : ∀ {ρ : List Addr} {G H : Hp} {μ : MS}, Stp c.st ρ0 G0 H0 ρ G H → Rel c ρ G H μ → sqV μ d = some ds → H p = some (.lst vs)) : WOk c ρ0 G0 H0 (Itl c.K p) (iwSq d ds) := by
  refine WOk.of (walk_list (xs := vs)) t.length (fun s R g => SqL.of (same s R g)) ?_
  rintro ρ G H μ i x H' s R g hi ⟨rfl, hx⟩
  obtain ⟨d', h1, h2⟩ := t.get hx
  exact ⟨d', G, h1, R, Stp.refl, s.at_ h2⟩
def miSq (a : ES) : IS := fun E α μ R => a E α μ fun d μ1 => ∃ ds, sqV μ1 d = some ds ∧ R (iwSq d ds) μ1
theorem lsV_gd {d : Dv} {ds : List Dv} {μ μ' : MS} (h : lsV μ d = some ds) (h' : sqV μ' d = some ds) : lsV μ' d = some ds := by
  cases d with
  | d x =>
    cases x with
    | lst xs => exact h'
    | tup xs => cases h
    | _ => cases h
  | ob n => exact h'
  | tp xs => cases h
theorem Itl_go {K : PySem.W.Frag} {p : Addr} {vs : List V} {H : Hp} {i : Nat} (h : H p = some (.lst vs)) (hi : i < vs.length) : (Itl K p).go i H := ⟨vs, vs[i], SqL.of h, by simp [hi]⟩
theorem wok_sq {v : V} {d : Dv} {ds : List Dv} (a : At c ρ0 G0 v d) (e : lsV μ d = some ds) {p : Addr} (ep : v = .ref p) : WOk c ρ0 G0 H0 (Itl c.K p) (iwSq d ds) := by
  subst ep
  have at_ : ∀ {ρ : List Addr} {G H : Hp} {μ' : MS}, Stp c.st ρ0 G0 H0 ρ G H → Rel c ρ G H μ' → sqV μ' d = some ds → ∃ vs, H p = some (.lst vs) ∧ AtAll c ρ G vs ds := by
    intro ρ G H μ' s R g
    obtain ⟨q, vs, eq, h1, t⟩ := lsV_ok R (s.at_ a) (lsV_gd e g)
    cases eq
    exact ⟨vs, h1, t⟩
  refine ⟨fun i s R g hi => ?_, fun s R g => ?_, fun s R g hi y => ?_⟩
  · obtain ⟨vs, h1, t⟩ := at_ s R g
    exact Itl_go h1 (by rw [t.length]; exact hi)
  · obtain ⟨vs, h1, t⟩ := at_ s R g
    exact ⟨vs, SqL.of h1, by rw [t.length]; exact Nat.le_refl _⟩
  · obtain ⟨vs, h1, t⟩ := at_ s R g
    obtain ⟨rfl, hx⟩ := y
    obtain ⟨d', h2, h3⟩ := t.get (hx vs (SqL.of h1))
    exact ⟨d', _, h2, R, Stp.refl, h3⟩
theorem wok_tp {v : V} {d : Dv} {ds : List Dv} (a : At c ρ0 G0 v d) (e : tpV d = some ds) {p : Addr} (ep : v = .ref p) : WOk c ρ0 G0 H0 (Itt c.K p) (iwSq d ds) := by
  subst ep
  have at_ : ∀ {ρ : List Addr} {G H : Hp} {μ' : MS}, Stp c.st ρ0 G0 H0 ρ G H → Rel c ρ G H μ' → ∃ vs, SqT c.K H p vs ∧ AtAll c ρ G vs ds := by
    intro ρ G H μ' s R
    obtain ⟨q, vs, eq, h1, t⟩ := tpV_ok R.gh (s.at_ a) e
    cases eq
    exact ⟨vs, h1, t⟩
  refine ⟨fun i s R g hi => ?_, fun s R g => ?_, fun s R g hi y => ?_⟩
  · obtain ⟨vs, h1, t⟩ := at_ s R
    exact ⟨vs, vs[i]'(by rw [t.length]; exact hi), h1, by simp⟩
  · obtain ⟨vs, h1, t⟩ := at_ s R
    exact ⟨vs, h1, by rw [t.length]; exact Nat.le_refl _⟩
  · obtain ⟨vs, h1, t⟩ := at_ s R
    obtain ⟨rfl, hx⟩ := y
    obtain ⟨d', h2, h3⟩ := t.get (hx vs h1)
    exact ⟨d', _, h2, R, Stp.refl, h3⟩
theorem si_sq {ta : TE} {a : ES} (ha : SE c E ta a) : SI c E (iSq c.K ta) (miSq a) := by
  refine ⟨?_⟩
  intro ρ G H σ α μ R E' R' Rl e px r h
  refine ha Rl e px ?_ h
  rintro d μ1 ⟨ds, e1, h1⟩ v ρ1 G1 H1 s1 R1 a1
  refine ⟨.mk, ?_⟩
  rcases sqV_or e1 with e2 | e2
  · obtain ⟨p, vs, rfl, h2, t⟩ := lsV_ok R1 a1 e2
    exact ⟨p, rfl, .inl ⟨⟨vs, SqL.of h2⟩, r _ _ h1 _ _ _ _ s1 R1 (wok_sq a1 e2 rfl)⟩⟩
  · obtain ⟨p, vs, rfl, h2, t⟩ := tpV_ok R1.gh a1 e2
    exact ⟨p, rfl, .inr ⟨⟨vs, h2⟩, r _ _ h1 _ _ _ _ s1 R1 (wok_tp a1 e2 rfl)⟩⟩
/-! enumerate -/
def enumD (ds : List Dv) : List Dv := ds.zipIdx.map fun p => mkTup [.d (.int (p.2 : Nat)), p.1]
theorem enumD_len (ds : List Dv) : (enumD ds).length = ds.length := by unfold enumD; simp
theorem enumD_get {ds : List Dv} {i : Nat} {d : Dv} (h : ds[i]? = some d) : (enumD ds)[i]? = some (mkTup [.d (.int (i : Nat)), d]) := by
  unfold enumD
  rw [List.getElem?_map, List.getElem?_zipIdx, h]; simp
def iwEn (d : Dv) (ds : List Dv) : IW := ⟨enumD ds, fun μ => sqV μ d = some ds⟩
theorem new_pair {i : Nat} {x : V} {d : Dv} {T : Addr} (R : Rel c ρ G H μ) (hT : H T = none) (a : At c ρ G x d) : ∃ G', Rel c ρ G' (upd H T (.tup [.int (i : Nat), x])) μ ∧ Stp c.st ρ G H ρ G' (upd H T (.tup [.int (i : Nat), x])) ∧ At c ρ G' (.ref T) (mkTup [.d (.int (i : Nat)), d]) := by
  obtain ⟨R1, s1⟩ := R.newF (u := .tup [.int (i : Nat), x]) hT
  exact ⟨_, R1, s1, at_mk (SqT.of upd_same) (.cons (.d (.int _)) (.cons (s1.at_ a) .nil))⟩
theorem si_en {ta : TA} {a : ES} (ha : SA c E ta (mCons a mNil)) : SI c E (iEnSq c.K ta) (fun E α μ R => a E α μ fun d μ1 => ∃ ds, sqV μ1 d = some ds ∧ R (iwEn d ds) μ1) := by
  refine ⟨?_⟩
  intro ρ G H σ α μ R E' R' Rl e px r h
  refine ha.run (Q' := fun ds μ1 => ∃ d xs, ds = [d] ∧ sqV μ1 d = some xs ∧ R' (iwEn d xs) μ1) Rl e px ?_ ?_
  · rintro ds μ1 ⟨d, xs, rfl, e1, h1⟩ vs ρ1 G1 H1 s1 R1 a1
    obtain ⟨v, rfl, a1'⟩ := a1.sole
    refine ⟨.mk, ?_⟩
    rcases sqV_or e1 with e2 | e2
    · obtain ⟨p, vs, rfl, h2, t⟩ := lsV_ok R1 a1' e2
      refine ⟨p, vs, rfl, .inl ⟨SqL.of h2, r _ _ h1 _ _ _ _ s1 R1 ?_⟩⟩
      have at_ : ∀ {ρ : List Addr} {G H : Hp} {μ' : MS}, Stp c.st ρ1 G1 H1 ρ G H → Rel c ρ G H μ' → sqV μ' d = some xs → ∃ vs, H p = some (.lst vs) ∧ AtAll c ρ G vs xs := by
        intro ρ G H μ' s R g
        obtain ⟨q, vs, eq, h1, t⟩ := lsV_ok R (s.at_ a1') (lsV_gd e2 g)
        cases eq
        exact ⟨vs, h1, t⟩
      refine ⟨fun i s R g hi => ?_, fun s R g => ?_, fun s R g hi y => ?_⟩
      · obtain ⟨vs, h1, t⟩ := at_ s R g
        have : i < vs.length := by rw [t.length, ← enumD_len]; exact hi
        exact ⟨vs, vs[i], SqL.of h1, by simp [this]⟩
      · obtain ⟨vs, h1, t⟩ := at_ s R g
        exact ⟨vs, SqL.of h1, by rw [t.length]; show xs.length ≤ (enumD xs).length; rw [enumD_len]; exact Nat.le_refl _⟩
      · obtain ⟨vs, h1, t⟩ := at_ s R g
        obtain ⟨T, x, rfl, hT, rfl, hx⟩ := y
        obtain ⟨d', h2, h3⟩ := t.get (hx vs (SqL.of h1))
        obtain ⟨G', R2, s2, a2⟩ := new_pair R hT h3
        exact ⟨_, G', enumD_get h2, R2, s2, a2⟩
    · obtain ⟨p, vs, rfl, h2, t⟩ := tpV_ok R1.gh a1' e2
      refine ⟨p, vs, rfl, .inr ⟨h2, r _ _ h1 _ _ _ _ s1 R1 ?_⟩⟩
      have at_ : ∀ {ρ : List Addr} {G H : Hp} {μ' : MS}, Stp c.st ρ1 G1 H1 ρ G H → Rel c ρ G H μ' → ∃ vs, SqT c.K H p vs ∧ AtAll c ρ G vs xs := by
        intro ρ G H μ' s R
        obtain ⟨q, vs, eq, h1, t⟩ := tpV_ok R.gh (s.at_ a1') e2
        cases eq
        exact ⟨vs, h1, t⟩
      refine ⟨fun i s R g hi => ?_, fun s R g => ?_, fun s R g hi y => ?_⟩
      · obtain ⟨vs, h1, t⟩ := at_ s R
        have : i < vs.length := by rw [t.length, ← enumD_len]; exact hi
        exact ⟨vs, vs[i], h1, by simp [this]⟩
      · obtain ⟨vs, h1, t⟩ := at_ s R
        exact ⟨vs, h1, by rw [t.length]; show xs.length ≤ (enumD xs).length; rw [enumD_len]; exact Nat.le_refl _⟩
      · obtain ⟨vs, h1, t⟩ := at_ s R
        obtain ⟨T, x, rfl, hT, rfl, hx⟩ := y
        obtain ⟨d', h2, h3⟩ := t.get (hx vs h1)
        obtain ⟨G', R2, s2, a2⟩ := new_pair R hT h3
        exact ⟨_, G', enumD_get h2, R2, s2, a2⟩
  · show a E' α μ fun d μ1 => _
    have : (fun d μ1 => ∃ ds, sqV μ1 d = some ds ∧ R' (iwEn d ds) μ1) = fun d μ1 => ∃ d_1 xs, [d] = [d_1] ∧ sqV μ1 d_1 = some xs ∧ R' (iwEn d_1 xs) μ1 := by
      funext d μ1
      refine propext ⟨fun ⟨ds, h1, h2⟩ => ⟨d, ds, rfl, h1, h2⟩, fun ⟨d', xs, h0, h1, h2⟩ => ?_⟩
      have : d = d' := (List.cons.inj h0).1
      subst this
      exact ⟨xs, h1, h2⟩
    exact this ▸ h
def miEn (a : ES) : IS := fun E α μ R => a E α μ fun d μ1 => ∃ ds, sqV μ1 d = some ds ∧ R (iwEn d ds) μ1
/-! range -/
def rngD (lo : Int) (n : Nat) : List Dv := (List.range n).map fun i => .d (.int (lo + (i : Nat)))
def iwR (lo : Int) (n : Nat) : IW := ⟨rngD lo n, fun _ => True⟩
theorem wok_r {lo : Int} {n : Nat} : WOk c ρ0 G0 H0 (Itr lo n) (iwR lo n) := by
  refine WOk.of walk_range (by simp [iwR, rngD]) (fun _ _ _ => trivial) ?_
  rintro ρ G H μ i x H' s R g hi ⟨rfl, rfl⟩
  refine ⟨.d (.int (lo + (i : Nat))), G, ?_, R, Stp.refl, .d (.int _)⟩
  simp [iwR, rngD, hi]
def miR1 (a : AS) : IS := fun E α μ R => a E α μ fun ds μ1 => ∃ j : Int, ds = [.d (.int j)] ∧ (-(2 ^ 62) ≤ j ∧ j < 2 ^ 62) ∧ R (iwR 0 j.toNat) μ1
theorem si_r1 {ta : TA} {a : AS} (ha : SA c E ta a) : SI c E (iRng1 ta) (miR1 a) := by
  refine ⟨?_⟩
  intro ρ G H σ α μ R E' R' Rl e px r h
  refine ha Rl e px ?_ h
  rintro ds μ1 ⟨j, rfl, ⟨j1, j2⟩, h1⟩ vs ρ1 G1 H1 s1 R1 a1
  obtain ⟨v, rfl, b0⟩ := a1.sole
  obtain rfl := at_int b0
  exact ⟨j, rfl, j1, j2, r _ _ h1 _ _ _ _ s1 R1 wok_r⟩
def miR2 (a : AS) : IS := fun E α μ R => a E α μ fun ds μ1 => ∃ i j : Int, ds = [.d (.int i), .d (.int j)] ∧ (-(2 ^ 62) ≤ i ∧ i < 2 ^ 62 ∧ -(2 ^ 62) ≤ j ∧ j < 2 ^ 62) ∧ R (iwR i (j - i).toNat) μ1
theorem si_r2 {ta : TA} {a : AS} (ha : SA c E ta a) : SI c E (iRng2 ta) (miR2 a) := by
  refine ⟨?_⟩
  intro ρ G H σ α μ R E' R' Rl e px r h
  refine ha Rl e px ?_ h
  rintro ds μ1 ⟨i, j, rfl, hj, h1⟩ vs ρ1 G1 H1 s1 R1 a1
  obtain ⟨v, w, rfl, b0, b1⟩ := a1.two
  obtain rfl := at_int b0
  obtain rfl := at_int b1
  exact ⟨i, j, rfl, hj, r _ _ h1 _ _ _ _ s1 R1 wok_r⟩
/-! a text -/
def chrsD (s : Str) : List Dv := s.cps.toList.map fun k => .d (.str ⟨#[k]⟩)
def iwS (s : Str) : IW := ⟨chrsD s, fun _ => True⟩
def miStr (a : ES) : IS := fun E α μ R => a E α μ fun d μ1 => ∃ s, d = .d (.str s) ∧ R (iwS s) μ1
theorem si_str {ta : TE} {a : ES} (ha : SE c E ta a) : SI c E (iStr ta) (miStr a) := by
  refine ⟨?_⟩
  intro ρ G H σ α μ R E' R' Rl e px r h
  refine ha Rl e px ?_ h
  rintro d μ1 ⟨s, rfl, h1⟩ v ρ1 G1 H1 s1 R1 a1
  obtain rfl := at_str a1
  refine ⟨s, rfl, r _ _ h1 _ _ _ _ s1 R1 ?_⟩
  refine WOk.of walk_str (by simp [iwS, chrsD]) (fun _ _ _ => trivial) ?_
  rintro ρ G H μ i x H' s R g hi ⟨rfl, k, hk, rfl⟩
  refine ⟨.d (.str ⟨#[k]⟩), G, ?_, R, Stp.refl, .d (.str _)⟩
  have : (chrsD ‹Str›)[i]? = some (.d (.str ⟨#[k]⟩)) := by
    unfold chrsD
    rw [List.getElem?_map]
    simp [hk]
  exact this
/-! ### for -/
def mLoop (gd : MS → Prop) (g : GS) (b : BS) (D : En) : List Dv → Env' → MS → Prop
  | [], α, μ => D.nx α μ
  | d :: r, α, μ => g d D.er α μ fun α1 μ1 => b { D with nx := fun α2 μ2 => gd μ2 ∧ mLoop gd g b D r α2 μ2, ct := fun α2 μ2 => gd μ2 ∧ mLoop gd g b D r α2 μ2, bk := D.nx } α1 μ1
def bFor (mi : IS) (g : GS) (b : BS) : BS := fun D α μ => mi D.er α μ fun w μ1 => w.gd μ1 ∧ mLoop w.gd g b D w.items α μ1
theorem ss_for {ti : TI} {tg : TG} {tb : TS} {mi : IS} {g : GS} {b : BS} (hi : SI c E ti mi) (hg : SG c E tg g) (hb : SS c E tb b) : SS c E (tFor ti tg tb) (bFor mi g b) := by
  refine ⟨?_⟩
  intro ρ G H σ α μ D D' R e p h
  refine hi R e p.er ?_ h
  rintro w μ1 ⟨gd1, h1⟩ J ρ1 G1 H1 s1 R1 W
  refine ⟨fun i m σ H => m = w.items.length - i ∧ i ≤ w.items.length ∧ ∃ ρ' G' α' μ', Stp c.st ρ1 G1 H1 ρ' G' H ∧ Rel c ρ' G' H μ' ∧ EnvOk c ρ' G' σ α' ∧ w.gd μ' ∧ mLoop w.gd g b D' (w.items.drop i) α' μ',
    ⟨_, rfl, Nat.zero_le _, ρ1, G1, α, μ1, Stp.refl, R1, s1.env e, gd1, h1⟩, ?_⟩
  rintro i m σ2 H2 ⟨rfl, hi2, ρ2, G2, α2, μ2, s2, R2, e2, gd2, h2⟩
  have s02 := s1.trans s2
  by_cases hlt : i < w.items.length
  · refine .inr ⟨W.goes i s2 R2 gd2 hlt, _, fun σ' H' h' => ⟨_, by omega, rfl, hlt, h'⟩, fun x H' y => ?_⟩
    obtain ⟨d, G3, hd, R3, s3, a3⟩ := W.yields s2 R2 gd2 hlt y
    have ed : w.items.drop i = d :: w.items.drop (i + 1) := by
      rw [List.drop_eq_getElem_cons hlt]
      have := (List.getElem?_eq_some_iff.mp hd).2
      rw [this]
    rw [ed] at h2
    have s03 := s02.trans s3
    refine hg R3 (s3.env e2) a3 (p.er.step s03) ?_ h2
    intro α4 μ4 h4 σ4 ρ4 G4 H4 s4 R4 e4
    have s04 := s03.trans s4
    refine hb.run (D' := { D' with nx := fun α2 μ2 => w.gd μ2 ∧ mLoop w.gd g b D' (w.items.drop (i + 1)) α2 μ2, ct := fun α2 μ2 => w.gd μ2 ∧ mLoop w.gd g b D' (w.items.drop (i + 1)) α2 μ2, bk := D'.nx }) R4 e4 ⟨?_, p.rt.step s04, p.nx.step s04, ?_, p.er.step s04⟩ h4
    · rintro α5 μ5 ⟨gd5, h5⟩ σ5 ρ5 G5 H5 s5 R5 e5
      exact ⟨ρ5, G5, α5, μ5, ((s2.trans s3).trans s4).trans s5, R5, e5, gd5, h5⟩
    · rintro α5 μ5 ⟨gd5, h5⟩ σ5 ρ5 G5 H5 s5 R5 e5
      exact ⟨ρ5, G5, α5, μ5, ((s2.trans s3).trans s4).trans s5, R5, e5, gd5, h5⟩
  · have ei : i = w.items.length := by omega
    subst ei
    refine .inl ⟨W.stops s2 R2 gd2, ?_⟩
    rw [List.drop_length] at h2
    exact p.nx _ _ h2 _ _ _ _ s02 R2 e2
/-! ### while -/
def wh (t : TS') (b : BS) (D : En) : Nat → Env' → MS → Prop
  | 0, _, _ => False
  | n + 1, α, μ => t D.er α μ fun k μ1 => if k = true then b { D with nx := wh t b D n, ct := wh t b D n, bk := D.nx } α μ1 else D.nx α μ1
def bWhile (t : TS') (b : BS) : BS := fun D α μ => ∃ n, wh t b D n α μ
theorem ss_while {tt : TT} {tb : TS} {t : TS'} {b : BS} (ht : ST c E tt t) (hb : SS c E tb b) : SS c E (tWhile tt tb) (bWhile t b) := by
  refine ⟨?_⟩
  rintro ρ G H σ α μ D D' R e p ⟨n, h⟩
  refine ⟨fun m σ H2 => ∃ ρ' G' α' μ', Stp c.st ρ G H ρ' G' H2 ∧ Rel c ρ' G' H2 μ' ∧ EnvOk c ρ' G' σ α' ∧ wh t b D' m α' μ', ⟨n, ρ, G, α, μ, Stp.refl, R, e, h⟩, ?_⟩
  rintro m σ2 H2 ⟨ρ2, G2, α2, μ2, s2, R2, e2, h2⟩
  cases m with
  | zero => exact h2.elim
  | succ m =>
    refine ht R2 e2 (p.er.step s2) ?_ h2
    intro k μ3 h3 ρ3 G3 H3 s3 R3
    have s03 := s2.trans s3
    cases k with
    | true =>
      refine ⟨_, fun σ' H' h' => ⟨m, Nat.lt_succ_self m, h'⟩, ?_⟩
      refine hb.run (D' := { D' with nx := wh t b D' m, ct := wh t b D' m, bk := D'.nx }) R3 (s3.env e2) ⟨?_, p.rt.step s03, p.nx.step s03, ?_, p.er.step s03⟩ h3
      · intro α5 μ5 h5 σ5 ρ5 G5 H5 s5 R5 e5
        exact ⟨ρ5, G5, α5, μ5, s03.trans s5, R5, e5, h5⟩
      · intro α5 μ5 h5 σ5 ρ5 G5 H5 s5 R5 e5
        exact ⟨ρ5, G5, α5, μ5, s03.trans s5, R5, e5, h5⟩
    | false => exact p.nx _ _ h3 _ _ _ _ s03 R3 (s3.env e2)
/-! ### comprehensions -/
/-- alike but for some slots -/
def Ag (vs : List Nat) (σ σ2 : St) : Prop := σ2.length = σ.length ∧ ∀ i, i ∉ vs → σ2[i]? = σ[i]?
theorem wipe_in {σ : St} {i : Nat} : ∀ {vs : List Nat}, i ∈ vs → i < σ.length → (wipe σ vs)[i]? = some none
  | v :: vs, h, hl => by
    unfold wipe
    by_cases e : v = i
    · subst e
      rw [List.getElem?_set_self (by rw [wipe_length]; exact hl)]
    · rw [List.getElem?_set_ne e]
      exact wipe_in (by rcases List.mem_cons.mp h with h | h; exact absurd h.symm e; exact h) hl
theorem wipe_ag {vs : List Nat} {σ σ2 : St} (h : Ag vs σ σ2) : wipe σ2 vs = wipe σ vs := by
  refine List.ext_getElem? fun i => ?_
  by_cases hi : i ∈ vs
  · by_cases hl : i < σ.length
    · rw [wipe_in hi hl, wipe_in hi (by rw [h.1]; exact hl)]
    · rw [List.getElem?_eq_none (by rw [wipe_length, h.1]; omega), List.getElem?_eq_none (by rw [wipe_length]; omega)]
  · rw [wipe_out hi, wipe_out hi]
    exact h.2 i hi
theorem ag_wipe {vs : List Nat} {σ : St} : Ag vs σ (wipe σ vs) := ⟨wipe_length _ _, fun i hi => wipe_out hi⟩
theorem Ag.refl {vs : List Nat} {σ : St} : Ag vs σ σ := ⟨rfl, fun _ _ => rfl⟩
theorem Ag.trans {vs : List Nat} {σ σ2 σ3 : St} (a : Ag vs σ σ2) (b : Ag vs σ2 σ3) : Ag vs σ σ3 := ⟨b.1.trans a.1, fun i hi => (b.2 i hi).trans (a.2 i hi)⟩
theorem Ag.set {vs : List Nat} {σ : St} {i : Nat} {v : Option V} (h : i ∈ vs) : Ag vs σ (σ.set i v) := ⟨by simp, fun j hj => by rw [List.getElem?_set_ne (fun z => hj (by rw [← z]; exact h))]⟩
def wpD (α : Env') : List Nat → Env'
  | [] => α
  | v :: vs => (wpD α vs).set v none
theorem EnvOk.wipe {σ : St} {α : Env'} (h : EnvOk c ρ G σ α) : ∀ vs : List Nat, EnvOk c ρ G (wipe σ vs) (wpD α vs)
  | [] => h
  | v :: vs => (h.wipe vs).unset v
/-- a target that stores into vs alone -/
structure SGw (c : Cn) (E : XK) (vs : List Nat) (t : TG) (g : GS)  : Prop where
  run : ∀ {ρ : List Addr} {G H : Hp} {σ σ0 : St} {α : Env'} {μ : MS} {v : V} {d : Dv} {N : St → Hp → Prop} {N' : Env' → MS → Prop} {E' : XS}, Rel c ρ G H μ → EnvOk c ρ G σ α → At c ρ G v d → Ag vs σ0 σ → PN c ρ G H N N' → g d E' α μ N' → t v σ H fun σ2 H2 => wipe σ2 vs = wipe σ0 vs ∧ N σ2 H2
instance (c : Cn) (E : XK) (vs : List Nat) (t : TG) (g : GS)  : CoeFun (SGw c E vs t g) fun _ => ∀ {ρ : List Addr} {G H : Hp} {σ σ0 : St} {α : Env'} {μ : MS} {v : V} {d : Dv} {N : St → Hp → Prop} {N' : Env' → MS → Prop} {E' : XS}, Rel c ρ G H μ → EnvOk c ρ G σ α → At c ρ G v d → Ag vs σ0 σ → PN c ρ G H N N' → g d E' α μ N' → t v σ H fun σ2 H2 => wipe σ2 vs = wipe σ0 vs ∧ N σ2 H2 := ⟨fun h => h.run⟩
structure SGws (c : Cn) (E : XK) (vs : List Nat) (t : TGs) (g : GSs)  : Prop where
  run : ∀ {ρ : List Addr} {G H : Hp} {σ σ0 : St} {α : Env'} {μ : MS} {v : List V} {d : List Dv} {N : St → Hp → Prop} {N' : Env' → MS → Prop} {E' : XS}, Rel c ρ G H μ → EnvOk c ρ G σ α → AtAll c ρ G v d → Ag vs σ0 σ → PN c ρ G H N N' → g d E' α μ N' → t v σ H fun σ2 H2 => wipe σ2 vs = wipe σ0 vs ∧ N σ2 H2
instance (c : Cn) (E : XK) (vs : List Nat) (t : TGs) (g : GSs)  : CoeFun (SGws c E vs t g) fun _ => ∀ {ρ : List Addr} {G H : Hp} {σ σ0 : St} {α : Env'} {μ : MS} {v : List V} {d : List Dv} {N : St → Hp → Prop} {N' : Env' → MS → Prop} {E' : XS}, Rel c ρ G H μ → EnvOk c ρ G σ α → AtAll c ρ G v d → Ag vs σ0 σ → PN c ρ G H N N' → g d E' α μ N' → t v σ H fun σ2 H2 => wipe σ2 vs = wipe σ0 vs ∧ N σ2 H2 := ⟨fun h => h.run⟩
theorem sw_name {vs : List Nat} (i : Nat) (h : i ∈ vs) : SGw c E vs (gName i) (nName i) := ⟨fun R e a g p x => ⟨wipe_ag (g.trans (Ag.set h)), p _ _ x _ _ _ _ Stp.refl R (e.set a i)⟩⟩
theorem sw_nil {vs : List Nat} : SGws c E vs gNil nNil := by
  refine ⟨?_⟩
  rintro ρ G H σ σ0 α μ v d N N' E' R e a g p ⟨rfl, h⟩
  cases a
  exact ⟨rfl, wipe_ag g, p _ _ h _ _ _ _ Stp.refl R e⟩
theorem sw_cons {vs : List Nat} {i : Nat} {u : TGs} {r : GSs} (h : i ∈ vs) (hr : SGws c E vs u r) : SGws c E vs (gCons (gName i) u) (nCons (nName i) r) := by
  refine ⟨?_⟩
  rintro ρ G H σ σ0 α μ v d N N' E' R e a g p ⟨d1, rest, rfl, x⟩
  cases a with
  | cons a1 a2 => exact ⟨_, _, rfl, hr R (e.set a1 i) a2 (g.trans (Ag.set h)) p x⟩
theorem sw_tup {vs : List Nat} {n : Nat} {u : TGs} {r : GSs} (hr : SGws c E vs u r) : SGw c E vs (gTup c.K n u) (nTup n r) := by
  refine ⟨?_⟩
  rintro ρ G H σ σ0 α μ v d N N' E' R e a g p ⟨ds, e1, hl, h⟩
  obtain ⟨q, vs, rfl, h1, t⟩ := tpV_ok R.gh a e1
  exact ⟨q, vs, rfl, h1, by rw [t.length]; exact hl, hr R e t g p h⟩
def noX : XS := fun _ _ => False
theorem px_no : PX c ρ G H E noX := fun _ _ h => h.elim
def mLcL (gd : MS → Prop) (g : GS) (t : TS') (e : ES) (vs : List Nat) (α : Env') (Q : List Dv → MS → Prop) : List Dv → List Dv → MS → Prop
  | [], acc, μ => Q acc μ
  | d :: r, acc, μ => g d noX (wpD α vs) μ fun α2 μ2 => t noX α2 μ2 fun k μ3 => if k = true then e noX α2 μ3 fun y μ4 => acc.length < sizeLine ∧ gd μ4 ∧ mLcL gd g t e vs α Q r (acc ++ [y]) μ4 else gd μ3 ∧ mLcL gd g t e vs α Q r acc μ3
def mLc (mi : IS) (g : GS) (t : TS') (e : ES) (vs : List Nat) : ES := fun E α μ Q => mi E α μ fun w μ1 => w.gd μ1 ∧ mLcL w.gd g t e vs α (fun acc μ2 => Q (.ob μ2.length) (μ2 ++ [.lst acc])) w.items [] μ1
def mYes : TS' := fun _ _ μ Q => Q true μ
theorem st_yes : ST c E tYes mYes := ⟨fun R e px q h => q _ _ h _ _ _ Stp.refl R⟩
theorem se_lc {ti : TI} {tg : TG} {tt : TT} {te : TE} {mi : IS} {g : GS} {t : TS'} {e : ES} {vs : List Nat} (hi : SI c E ti mi) (hg : SGw c E vs tg g) (ht : ST c E0 tt t) (he : SE c E0 te e) : SE c E (tLc ti tg tt te vs) (mLc mi g t e vs) := by
  refine ⟨?_⟩
  intro ρ G H σ α μ Q E' Q' R en px q h
  refine hi R en px ?_ h
  rintro w μ1 ⟨gd1, h1⟩ J ρ1 G1 H1 s1 R1 W D hD
  have w0 : Ow c.st ρ1 G1 (upd H1 D (.lst [])) D (.lst []) := Ow.new R1 hD
  obtain ⟨R1', s1'⟩ := R1.junk (u := .lst []) hD
  refine ⟨fun i m H2 => m = w.items.length - i ∧ i ≤ w.items.length ∧ ∃ ρ2 G2 μ2 acc us, Stp c.st ρ1 G1 H1 ρ2 G2 H2 ∧ Rel c ρ2 G2 H2 μ2 ∧ Ow c.st ρ2 G2 H2 D (.lst us) ∧ AtAll c ρ2 G2 us acc ∧ w.gd μ2 ∧ mLcL w.gd g t e vs α (fun acc μ2 => Q' (.ob μ2.length) (μ2 ++ [.lst acc])) (w.items.drop i) acc μ2,
    ⟨_, rfl, Nat.zero_le _, ρ1, G1, μ1, [], [], s1', R1', w0, .nil, gd1, h1⟩, ?_⟩
  rintro i m H2 ⟨rfl, hi2, ρ2, G2, μ2, acc, us, s2, R2, w2, t2, gd2, h2⟩
  have s02 := s1.trans s2
  by_cases hlt : i < w.items.length
  · refine .inr ⟨W.goes i s2 R2 gd2 hlt, _, fun H' h' => ⟨_, by omega, rfl, hlt, h'⟩, fun x H' y => ?_⟩
    obtain ⟨d, G3, hd, R3, s3, a3⟩ := W.yields s2 R2 gd2 hlt y
    have ed : w.items.drop i = d :: w.items.drop (i + 1) := by
      rw [List.drop_eq_getElem_cons hlt]
      have := (List.getElem?_eq_some_iff.mp hd).2
      rw [this]
    rw [ed] at h2
    have s03 := s02.trans s3
    refine hg R3 ((s03.env en).wipe vs) a3 ag_wipe ?_ h2
    intro α4 μ4 h4 σ4 ρ4 G4 H4 s4 R4 e4
    refine ht R4 e4 px_no ?_ h4
    intro k μ5 h5 ρ5 G5 H5 s5 R5
    cases k with
    | true =>
      refine he R5 (s5.env e4) px_no ?_ h5
      rintro y μ6 ⟨hl, gd6, h6⟩ v ρ6 G6 H6 s6 R6 a6
      have s26 := ((s3.trans s4).trans s5).trans s6
      have w6 := w2.step s26
      obtain ⟨R7, w7⟩ := R6.owSet (o' := .lst (us ++ [v])) w6
      exact ⟨us, w6.h, by rw [t2.length]; exact hl, ρ6, G6, μ6, acc ++ [y], us ++ [v], (s2.trans s26).owSet hD w6, R7, w7, (s26.all t2).append (.one a6), gd6, h6⟩
    | false =>
      obtain ⟨gd5, h5⟩ := h5
      have s25 := (s3.trans s4).trans s5
      exact ⟨ρ5, G5, μ5, acc, us, s2.trans s25, R5, w2.step s25, s25.all t2, gd5, h5⟩
  · have ei : i = w.items.length := by omega
    subst ei
    refine .inl ⟨W.stops s2 R2 gd2, ?_⟩
    rw [List.drop_length] at h2
    exact q _ _ h2 _ _ _ _ (s1.trans (s2.adopt hD)) (R2.adopt w2 ⟨w2.g, us, w2.h, t2.mono (Same.refl _) pre1⟩) (.ob R2.lastOb)
end
end Mz
end
section
set_option Elab.async false
set_option linter.all false
set_option maxRecDepth 100000
set_option maxHeartbeats 4000000
namespace Mz
open PySem L2
section
variable {c : Cn} {E : XK} {ρ ρ0 : List Addr} {G H G0 H0 : Hp} {μ : MS}
/-! ### texts: slices, f-strings -/
def oSlStr : O3 := fun d lo hi μ Q => ∃ z, d = .d (.str z) ∧ z.length ≤ sizeLine ∧ Q (.d (.str (cutS z lo hi))) μ
theorem ss_str : SSl c rSlS oSlStr := by
  refine ⟨?_⟩
  rintro ρ G H μ x d lo hi Q Q' R a q ⟨z, rfl, hl, h⟩
  obtain rfl := at_str a
  exact ⟨z, rfl, hl, q.here R (.d (.str _)) h⟩
def mFmt (a : ES) : ES := fun E α μ Q => a E α μ fun d μ1 => (∃ y : Str, d = .d (.str y) ∧ y.length ≤ sizeLine ∧ Q (.d (.str y)) μ1) ∨ ∃ i : Int, d = .d (.int i) ∧ i.natAbs.log2 < 1920 ∧ Q (.d (.str (toString i))) μ1
theorem se_fmt {ta : TE} {a : ES} (ha : SE c E ta a) : SE c E (tFmt ta) (mFmt a) := by
  refine ⟨?_⟩
  intro ρ G H σ α μ Q E' Q' R e px q h
  refine ha R e px ?_ h
  rintro d μ1 (⟨y, rfl, hl, h1⟩ | ⟨i, rfl, hl, h1⟩) x ρ1 G1 H1 s1 R1 a1
  · obtain rfl := at_str a1
    exact .inl ⟨y, rfl, hl, (q.step s1).here R1 (.d (.str _)) h1⟩
  · obtain rfl := at_int a1
    exact .inr ⟨i, rfl, hl, (q.step s1).here R1 (.d (.str _)) h1⟩
def mJs : List ES → Str → XS → Env' → MS → (Str → MS → Prop) → Prop
  | [], acc, _, _, μ, Q => Q acc μ
  | a :: r, acc, E, α, μ, Q => a E α μ fun d μ1 => ∃ y : Str, d = .d (.str y) ∧ (acc ++ y).length ≤ sizeLine ∧ mJs r (acc ++ y) E α μ1 Q
inductive SJs (c : Cn) (E : XK) : List TE → List ES → Prop
  | nil : SJs c E [] []
  | cons {t : TE} {a : ES} {ts : List TE} {r : List ES} : SE c E t a → SJs c E ts r → SJs c E (t :: ts) (a :: r)
theorem js_ok : ∀ {ts : List TE} {as : List ES}, SJs c E ts as → ∀ {ρ : List Addr} {G H : Hp} {σ : St} {α : Env'} {μ : MS} {acc : Str} {Q : Str → Hp → Prop} {E' : XS} {Q' : Str → MS → Prop}, Rel c ρ G H μ → EnvOk c ρ G σ α → PX c ρ G H E E' →
    (∀ s μ', Q' s μ' → ∀ ρ' G' H', Stp c.st ρ G H ρ' G' H' → Rel c ρ' G' H' μ' → Q s H') → mJs as acc E' α μ Q' → tJs ts acc σ H Q
  | _, _, .nil, _, _, _, _, _, _, _, _, _, _, R, e, px, q, h => q _ _ h _ _ _ Stp.refl R
  | _, _, .cons ha hr, _, _, _, _, _, _, _, _, _, _, R, e, px, q, h => by
    refine ha R e px ?_ h
    rintro d μ1 ⟨y, rfl, hl, h1⟩ x ρ1 G1 H1 s1 R1 a1
    obtain rfl := at_str a1
    exact ⟨y, rfl, hl, js_ok hr R1 (s1.env e) (px.step s1) (fun s μ' x ρ' G' H' s' R' => q s μ' x _ _ _ (s1.trans s') R') h1⟩
def mJoined (as : List ES) : ES := fun E α μ Q => mJs as Str.empty E α μ fun s μ1 => Q (.d (.str s)) μ1
theorem se_joined {ts : List TE} {as : List ES} (h : SJs c E ts as) : SE c E (tJoined ts) (mJoined as) := by
  refine ⟨?_⟩
  intro ρ G H σ α μ Q E' Q' R e px q x
  exact js_ok h R e px (fun s μ' y ρ' G' H' s' R' => q _ _ y _ _ _ _ s' R' (.d (.str _))) x
/-! ### zip -/
def zipD (xs ys : List Dv) : List Dv := (xs.zip ys).map fun p => mkTup [p.1, p.2]
def iwZ (d1 d2 : Dv) (xs ys : List Dv) : IW := ⟨zipD xs ys, fun μ => sqV μ d1 = some xs ∧ sqV μ d2 = some ys⟩
theorem zipD_len (xs ys : List Dv) : (zipD xs ys).length = min xs.length ys.length := by unfold zipD; simp
theorem zipD_get {xs ys : List Dv} {i : Nat} {x y : Dv} (h1 : xs[i]? = some x) (h2 : ys[i]? = some y) : (zipD xs ys)[i]? = some (mkTup [x, y]) := by
  unfold zipD
  have : (xs.zip ys)[i]? = some (x, y) := List.getElem?_zip_eq_some.mpr ⟨h1, h2⟩
  rw [List.getElem?_map, this]; rfl
theorem new_two {x y : V} {d1 d2 : Dv} {T : Addr} (R : Rel c ρ G H μ) (hT : H T = none) (a : At c ρ G x d1) (b : At c ρ G y d2) : ∃ G', Rel c ρ G' (upd H T (.tup [x, y])) μ ∧ Stp c.st ρ G H ρ G' (upd H T (.tup [x, y])) ∧ At c ρ G' (.ref T) (mkTup [d1, d2]) := by
  obtain ⟨R1, s1⟩ := R.newF (u := .tup [x, y]) hT
  exact ⟨_, R1, s1, at_mk (SqT.of upd_same) (.cons (s1.at_ a) (.cons (s1.at_ b) .nil))⟩
def miZip (a : AS) : IS := fun E α μ R => a E α μ fun ds μ1 => ∃ d1 d2 xs ys, ds = [d1, d2] ∧ ((lsV μ1 d1 = some xs ∧ lsV μ1 d2 = some ys) ∨ (tpV d1 = some xs ∧ tpV d2 = some ys)) ∧ R (iwZ d1 d2 xs ys) μ1
theorem tpV_sq {d : Dv} {ds : List Dv} {μ : MS} (h : tpV d = some ds) : sqV μ d = some ds := by
  cases d with
  | d x => cases x <;> first | exact h | cases h
  | tp xs => exact h
  | ob n => cases h
theorem lsV_sq {d : Dv} {ds : List Dv} {μ : MS} (h : lsV μ d = some ds) : sqV μ d = some ds := by
  cases d with
  | d x => cases x <;> first | exact h | cases h
  | tp xs => cases h
  | ob n => exact h
theorem si_zip {ta : TA} {a : AS} (ha : SA c E ta a) : SI c E (RZ.iZipA c.K ta) (miZip a) := by
  refine ⟨?_⟩
  intro ρ G H σ α μ R E' R' Rl e px r h
  refine ha Rl e px ?_ h
  rintro ds μ1 ⟨d1, d2, xs, ys, rfl, hv, h1⟩ vs ρ1 G1 H1 s1 R1 a1
  obtain ⟨v, w, rfl, b1, b2⟩ := a1.two
  rcases hv with ⟨e1, e2⟩ | ⟨e1, e2⟩
  · obtain ⟨p, vs, rfl, h2, t2⟩ := lsV_ok R1 b1 e1
    obtain ⟨p', ws, rfl, h3, t3⟩ := lsV_ok R1 b2 e2
    refine ⟨p, p', vs, ws, rfl, .inl ⟨SqL.of h2, SqL.of h3, r _ _ h1 _ _ _ _ s1 R1 ?_⟩⟩
    have at_ : ∀ {ρ : List Addr} {G H : Hp} {μ' : MS}, Stp c.st ρ1 G1 H1 ρ G H → Rel c ρ G H μ' → (sqV μ' d1 = some xs ∧ sqV μ' d2 = some ys) → ∃ vs ws, H p = some (.lst vs) ∧ H p' = some (.lst ws) ∧ AtAll c ρ G vs xs ∧ AtAll c ρ G ws ys := by
      intro ρ G H μ' s R g
      obtain ⟨q, vs, eq, h1, t⟩ := lsV_ok R (s.at_ b1) (lsV_gd e1 g.1)
      cases eq
      obtain ⟨q, ws, eq, h2, t2⟩ := lsV_ok R (s.at_ b2) (lsV_gd e2 g.2)
      cases eq
      exact ⟨vs, ws, h1, h2, t, t2⟩
    refine ⟨fun i s R g hi => ?_, fun s R g => ?_, fun s R g hi y => ?_⟩
    · obtain ⟨vs, ws, h1, h2, t, t2⟩ := at_ s R g
      have hi' : i < min xs.length ys.length := by rw [← zipD_len]; exact hi
      have l1 : i < vs.length := by rw [t.length]; omega
      have l2 : i < ws.length := by rw [t2.length]; omega
      exact ⟨vs, ws, vs[i], ws[i], SqL.of h1, SqL.of h2, by simp [l1], by simp [l2]⟩
    · obtain ⟨vs, ws, h1, h2, t, t2⟩ := at_ s R g
      refine ⟨vs, ws, SqL.of h1, SqL.of h2, ?_⟩
      rw [t.length, t2.length]
      show xs.length ≤ (zipD xs ys).length ∨ ys.length ≤ (zipD xs ys).length
      rw [zipD_len]; omega
    · obtain ⟨vs, ws, h1, h2, t, t2⟩ := at_ s R g
      obtain ⟨T, x, z, rfl, hT, rfl, hx, hz⟩ := y
      obtain ⟨d', h4, h5⟩ := t.get (hx vs (SqL.of h1))
      obtain ⟨d'', h6, h7⟩ := t2.get (hz ws (SqL.of h2))
      obtain ⟨G', R2, s2, a2⟩ := new_two R hT h5 h7
      exact ⟨_, G', zipD_get h4 h6, R2, s2, a2⟩
  · obtain ⟨p, vs, rfl, h2, t2⟩ := tpV_ok R1.gh b1 e1
    obtain ⟨p', ws, rfl, h3, t3⟩ := tpV_ok R1.gh b2 e2
    refine ⟨p, p', vs, ws, rfl, .inr ⟨h2, h3, r _ _ h1 _ _ _ _ s1 R1 ?_⟩⟩
    have at_ : ∀ {ρ : List Addr} {G H : Hp} {μ' : MS}, Stp c.st ρ1 G1 H1 ρ G H → Rel c ρ G H μ' → ∃ vs ws, SqT c.K H p vs ∧ SqT c.K H p' ws ∧ AtAll c ρ G vs xs ∧ AtAll c ρ G ws ys := by
      intro ρ G H μ' s R
      obtain ⟨q, vs, eq, h1, t⟩ := tpV_ok R.gh (s.at_ b1) e1
      cases eq
      obtain ⟨q, ws, eq, h2, t2⟩ := tpV_ok R.gh (s.at_ b2) e2
      cases eq
      exact ⟨vs, ws, h1, h2, t, t2⟩
    refine ⟨fun i s R g hi => ?_, fun s R g => ?_, fun s R g hi y => ?_⟩
    · obtain ⟨vs, ws, h1, h2, t, t2⟩ := at_ s R
      have hi' : i < min xs.length ys.length := by rw [← zipD_len]; exact hi
      have l1 : i < vs.length := by rw [t.length]; omega
      have l2 : i < ws.length := by rw [t2.length]; omega
      exact ⟨vs, ws, vs[i], ws[i], h1, h2, by simp [l1], by simp [l2]⟩
    · obtain ⟨vs, ws, h1, h2, t, t2⟩ := at_ s R
      refine ⟨vs, ws, h1, h2, ?_⟩
      rw [t.length, t2.length]
      show xs.length ≤ (zipD xs ys).length ∨ ys.length ≤ (zipD xs ys).length
      rw [zipD_len]; omega
    · obtain ⟨vs, ws, h1, h2, t, t2⟩ := at_ s R
      obtain ⟨T, x, z, rfl, hT, rfl, hx, hz⟩ := y
      obtain ⟨d', h4, h5⟩ := t.get (hx vs h1)
      obtain ⟨d'', h6, h7⟩ := t2.get (hz ws h2)
      obtain ⟨G', R2, s2, a2⟩ := new_two R hT h5 h7
      exact ⟨_, G', zipD_get h4 h6, R2, s2, a2⟩
/-! ### dict comprehensions -/
def mDcL (gd : MS → Prop) (g : GS) (t : TS') (k e : ES) (vs : List Nat) (α : Env') (Q : List (Key × Dv) → MS → Prop) : List Dv → List (Key × Dv) → MS → Prop
  | [], acc, μ => Q acc μ
  | d :: r, acc, μ => g d noX (wpD α vs) μ fun α2 μ2 => t noX α2 μ2 fun b μ3 => if b = true then k noX α2 μ3 fun z μ4 => e noX α2 μ4 fun y μ5 => ∃ kk, keyD z = some kk ∧ acc.length < sizeLine ∧ gd μ5 ∧ mDcL gd g t k e vs α Q r (putD acc kk y) μ5 else gd μ3 ∧ mDcL gd g t k e vs α Q r acc μ3
def mDc (mi : IS) (g : GS) (t : TS') (k e : ES) (vs : List Nat) : ES := fun E α μ Q => mi E α μ fun w μ1 => w.gd μ1 ∧ mDcL w.gd g t k e vs α (fun acc μ2 => Q (.ob μ2.length) (μ2 ++ [.dct acc])) w.items [] μ1
theorem se_dc {ti : TI} {tg : TG} {tt : TT} {tk te : TE} {mi : IS} {g : GS} {t : TS'} {k e : ES} {vs : List Nat} (hi : SI c E ti mi) (hg : SGw c E vs tg g) (ht : ST c E0 tt t) (hk : SE c E0 tk k) (he : SE c E0 te e) : SE c E (tDc ti tg tt tk te vs) (mDc mi g t k e vs) := by
  refine ⟨?_⟩
  intro ρ G H σ α μ Q E' Q' R en px q h
  refine hi R en px ?_ h
  rintro w μ1 ⟨gd1, h1⟩ J ρ1 G1 H1 s1 R1 W D hD
  have w0 : Ow c.st ρ1 G1 (upd H1 D (.dK [])) D (.dK []) := Ow.new R1 hD
  obtain ⟨R1', s1'⟩ := R1.junk (u := .dK []) hD
  refine ⟨fun i m H2 => m = w.items.length - i ∧ i ≤ w.items.length ∧ ∃ ρ2 G2 μ2 acc, ∃ us : List (Key × V), Stp c.st ρ1 G1 H1 ρ2 G2 H2 ∧ Rel c ρ2 G2 H2 μ2 ∧ Ow c.st ρ2 G2 H2 D (.dK us) ∧ us.map (·.1) = acc.map (·.1) ∧ AtAll c ρ2 G2 (us.map (·.2)) (acc.map (·.2)) ∧ w.gd μ2 ∧ mDcL w.gd g t k e vs α (fun acc μ2 => Q' (.ob μ2.length) (μ2 ++ [.dct acc])) (w.items.drop i) acc μ2,
    ⟨_, rfl, Nat.zero_le _, ρ1, G1, μ1, [], [], s1', R1', w0, rfl, .nil, gd1, h1⟩, ?_⟩
  rintro i m H2 ⟨rfl, hi2, ρ2, G2, μ2, acc, us, s2, R2, w2, hk2, t2, gd2, h2⟩
  have s02 := s1.trans s2
  by_cases hlt : i < w.items.length
  · refine .inr ⟨W.goes i s2 R2 gd2 hlt, _, fun H' h' => ⟨_, by omega, rfl, hlt, h'⟩, fun x H' y => ?_⟩
    obtain ⟨d, G3, hd, R3, s3, a3⟩ := W.yields s2 R2 gd2 hlt y
    have ed : w.items.drop i = d :: w.items.drop (i + 1) := by
      rw [List.drop_eq_getElem_cons hlt]
      have := (List.getElem?_eq_some_iff.mp hd).2
      rw [this]
    rw [ed] at h2
    have s03 := s02.trans s3
    refine hg R3 ((s03.env en).wipe vs) a3 ag_wipe ?_ h2
    intro α4 μ4 h4 σ4 ρ4 G4 H4 s4 R4 e4
    refine ht R4 e4 px_no ?_ h4
    intro b μ5 h5 ρ5 G5 H5 s5 R5
    cases b with
    | true =>
      refine hk R5 (s5.env e4) px_no ?_ h5
      intro z μ6 h6 v6 ρ6 G6 H6 s6 R6 a6
      refine he R6 ((s5.trans s6).env e4) px_no ?_ h6
      rintro y μ7 ⟨kk, ekk, hl, gd7, h7⟩ v ρ7 G7 H7 s7 R7 a7
      have s27 := (((s3.trans s4).trans s5).trans s6).trans s7
      have w7 := w2.step s27
      have ev := keyD_ok a6 ekk
      obtain ⟨R8, w8⟩ := R7.owSet (o' := .dK (putK us kk v)) w7
      have hlen : us.length = acc.length := by have := congrArg List.length hk2; simpa using this
      exact ⟨us, kk, ev, w7.h, by rw [hlen]; exact hl, ρ7, G7, μ7, putD acc kk y, putK us kk v, (s2.trans s27).owSet hD w7, R8, w8, put_keys hk2, put_vals a7 hk2 (s27.all t2), gd7, h7⟩
    | false =>
      obtain ⟨gd5, h5⟩ := h5
      have s25 := (s3.trans s4).trans s5
      exact ⟨ρ5, G5, μ5, acc, us, s2.trans s25, R5, w2.step s25, hk2, s25.all t2, gd5, h5⟩
  · have ei : i = w.items.length := by omega
    subst ei
    refine .inl ⟨W.stops s2 R2 gd2, ?_⟩
    rw [List.drop_length] at h2
    exact q _ _ h2 _ _ _ _ (s1.trans (s2.adopt hD)) (R2.adopt w2 ⟨w2.g, us, w2.h, hk2, t2.mono (Same.refl _) pre1⟩) (.ob R2.lastOb)
end
/-! ### freezing -/
def pu (μ : MS) : Dv → Option Da
  | .d x => some x
  | .ob n => match μ[n]? with
    | some (.frz x) => some x
    | _ => none
  | .tp _ => none
def pus (μ : MS) : List Dv → Option (List Da)
  | [] => some []
  | y :: r => match pu μ y, pus μ r with
    | some x, some xs => some (x :: xs)
    | _, _ => none
theorem pus_map (μ : MS) : ∀ xs : List Da, pus μ (xs.map .d) = some xs
  | [] => rfl
  | x :: r => by simp [pus, pu, pus_map μ r]
def fz1 (μ : MS) : Dv → Option (MS × Da)
  | .d x => some (μ, x)
  | .ob n => match μ[n]? with
    | some (.frz x) => some (μ, x)
    | some (.lst ys) => (pus μ ys).map fun xs => (μ.set n (.frz (.lst xs)), .lst xs)
    | some (.dct ks) => (pus μ (ks.map (·.2))).map fun xs => (μ.set n (.frz (.dct ((ks.map (·.1)).zip xs))), .dct ((ks.map (·.1)).zip xs))
    | some (.ins C fs) => (pus μ (fs.map (·.2))).map fun xs => (μ.set n (.frz (.ins C ((fs.map (·.1)).zip xs))), .ins C ((fs.map (·.1)).zip xs))
    | none => none
  | .tp ys => (pus μ ys).map fun xs => (μ, .tup xs)
def fzs (μ : MS) : List Dv → Option (MS × List Da)
  | [] => some (μ, [])
  | d :: r => match fz1 μ d with
    | some (μ1, x) => (fzs μ1 r).map fun p => (p.1, x :: p.2)
    | none => none
section
variable {c : Cn} {E : XK} {ρ ρ0 : List Addr} {G H G0 H0 : Hp} {μ : MS}
theorem pu_ok (R : Rel c ρ G H μ) {v : V} {y : Dv} {x : Da} (a : At c ρ G v y) (e : pu μ y = some x) : AtD c G v x := by
  cases y with
  | d z =>
    cases e
    cases a with
    | d a => exact a
  | ob n =>
    simp only [pu] at e
    split at e
    · rename_i hm
      cases e
      obtain ⟨p, rfl, hn, g, h1⟩ := R.at_ob a hm
      exact h1
    · cases e
  | tp _ => cases e
theorem pus_ok (R : Rel c ρ G H μ) : ∀ {vs : List V} {ys : List Dv} {xs : List Da}, AtAll c ρ G vs ys → pus μ ys = some xs → AtDs c G vs xs
  | _, _, _, .nil, e => by cases e; exact .nil
  | _, _, _, .cons (d := d) (ds := ds) a t, e => by
    simp only [pus] at e
    cases q1 : pu μ d with
    | none => rw [q1] at e; cases e
    | some x =>
      cases q2 : pus μ ds with
      | none => rw [q1, q2] at e; cases e
      | some xs =>
        rw [q1, q2] at e
        cases e
        exact .cons (pu_ok R a q1) (pus_ok R t q2)
theorem zip_fst {κ α : Type} {ks : List κ} {xs : List α} (h : ks.length = xs.length) : (ks.zip xs).map (·.1) = ks := by
  rw [List.map_fst_zip]; omega
theorem zip_snd {κ α : Type} {ks : List κ} {xs : List α} (h : ks.length = xs.length) : (ks.zip xs).map (·.2) = xs := by
  rw [List.map_snd_zip]; omega
/-- an object is frozen -/
theorem Rel.frz (R : Rel c ρ G H μ) {n : Nat} {a : Addr} {o : MO} {u : HO} {x : Da} (hn : ρ[n]? = some a) (hm : μ[n]? = some o) (hg : G a = none) (hu : H a = some u) (hx : AtD c (upd G a u) (.ref a) x) : Rel c ρ (upd G a u) H (μ.set n (.frz x)) ∧ Stp c.st ρ G H ρ (upd G a u) H := by
  have ha : a ∈ ρ := List.mem_of_getElem? hn
  have gg : Same G (upd G a u) := fun b w e => get_new hg e
  have nst : a ≠ c.st := fun z => R.sn (by rw [← z]; exact ha)
  refine ⟨⟨?_, by simp [R.len], R.nd, ?_, R.so.freeze nst hg, R.sn⟩, ⟨pre0, gg, fun _ _ _ _ e => e, fun _ e => e, fun b w e n => ?_, fun _ h => .inl h⟩⟩
  · intro b w e
    by_cases hb : b = a
    · subst hb; rw [upd_same] at e; rw [hu]; exact e
    · rw [upd_ne hb] at e; exact R.gh b w e
  · intro m b o1 h1 h2
    by_cases hmn : m = n
    · subst hmn
      rw [hn] at h1
      cases h1
      have hl := (List.getElem?_eq_some_iff.mp hm).1
      rw [List.getElem?_set_self hl] at h2
      cases h2
      exact ⟨by rw [upd_same]; simp, hx⟩
    · rw [List.getElem?_set_ne (Ne.symm hmn)] at h2
      have hba : b ≠ a := by
        rintro rfl
        exact hmn ((List.getElem?_inj (List.getElem?_eq_some_iff.mp h1).1 R.nd).mp (h1.trans hn.symm))
      refine (R.ob m b o1 h1 h2).mono gg pre0 ?_ fun w e => e
      cases o1 with
      | frz d => exact .inr ⟨d, rfl⟩
      | lst ds => obtain ⟨g, _⟩ := R.ob m b _ h1 h2; exact .inl (by rw [upd_ne hba]; exact g)
      | dct ds => obtain ⟨g, _⟩ := R.ob m b _ h1 h2; exact .inl (by rw [upd_ne hba]; exact g)
      | ins C ds => obtain ⟨g, _⟩ := R.ob m b _ h1 h2; exact .inl (by rw [upd_ne hba]; exact g)
  · by_cases hb : b = a
    · subst hb; exact .inr ha
    · rw [upd_ne hb] at e; rw [e] at n; cases n
theorem fz1_ok (R : Rel c ρ G H μ) {v : V} {y : Dv} {μ1 : MS} {x : Da} (a : At c ρ G v y) (e : fz1 μ y = some (μ1, x)) : ∃ G', Rel c ρ G' H μ1 ∧ Stp c.st ρ G H ρ G' H ∧ AtD c G' v x := by
  cases y with
  | d z =>
    cases e
    cases a with
    | d a => exact ⟨G, R, Stp.refl, a⟩
  | tp ys =>
    simp only [fz1] at e
    cases q : pus μ ys with
    | none => rw [q] at e; cases e
    | some xs =>
      rw [q] at e
      cases e
      cases a with
      | tp h t => exact ⟨G, R, Stp.refl, .tup h (pus_ok R t q)⟩
  | ob n =>
    simp only [fz1] at e
    split at e
    · rename_i hm
      cases e
      obtain ⟨p, rfl, hn, g, h1⟩ := R.at_ob a hm
      exact ⟨G, R, Stp.refl, h1⟩
    · rename_i ys hm
      cases q : pus μ ys with
      | none => rw [q] at e; cases e
      | some xs =>
        rw [q] at e
        cases e
        obtain ⟨p, rfl, hn, g, vs, h1, t⟩ := R.at_ob a hm
        have hx : AtD c (upd G p (.lst vs)) (.ref p) (.lst xs) := .lst upd_same ((pus_ok R t q).mono fun b w e => get_new g e)
        obtain ⟨R1, s1⟩ := R.frz hn hm g h1 hx
        exact ⟨_, R1, s1, hx⟩
    · rename_i ks hm
      cases q : pus μ (ks.map (·.2)) with
      | none => rw [q] at e; cases e
      | some xs =>
        rw [q] at e
        cases e
        obtain ⟨p, rfl, hn, g, vs, h1, hk, t⟩ := R.at_ob a hm
        have hd := pus_ok R t q
        have hl : (ks.map (·.1)).length = xs.length := by
          have l1 := hd.length
          have l2 := congrArg List.length hk
          simp at l1 l2 ⊢
          omega
        have hx : AtD c (upd G p (.dK vs)) (.ref p) (.dct ((ks.map (·.1)).zip xs)) := .dct upd_same (by rw [zip_fst hl]; exact hk) (by rw [zip_snd hl]; exact hd.mono fun b w e => get_new g e)
        obtain ⟨R1, s1⟩ := R.frz hn hm g h1 hx
        exact ⟨_, R1, s1, hx⟩
    · rename_i C fs hm
      cases q : pus μ (fs.map (·.2)) with
      | none => rw [q] at e; cases e
      | some xs =>
        rw [q] at e
        cases e
        obtain ⟨p, rfl, hn, g, dx, vs, h1, hk, t⟩ := R.at_ob a hm
        have hd := pus_ok R t q
        have hl : (fs.map (·.1)).length = xs.length := by
          have l1 := hd.length
          have l2 := congrArg List.length hk
          simp at l1 l2 ⊢
          omega
        have hx : AtD c (upd G p (.ins C dx vs)) (.ref p) (.ins C ((fs.map (·.1)).zip xs)) := .ins upd_same (by rw [zip_fst hl]; exact hk) (by rw [zip_snd hl]; exact hd.mono fun b w e => get_new g e)
        obtain ⟨R1, s1⟩ := R.frz hn hm g h1 hx
        exact ⟨_, R1, s1, hx⟩
    · cases e
theorem fzs_ok : ∀ {G : Hp} {μ : MS} {vs : List V} {ys : List Dv} {μ1 : MS} {xs : List Da}, Rel c ρ G H μ → AtAll c ρ G vs ys → fzs μ ys = some (μ1, xs) → ∃ G', Rel c ρ G' H μ1 ∧ Stp c.st ρ G H ρ G' H ∧ AtDs c G' vs xs
  | G, _, _, _, _, _, R, .nil, e => by cases e; exact ⟨G, R, Stp.refl, .nil⟩
  | G, μ, _, _, _, _, R, .cons (d := d) (ds := ds) a t, e => by
    simp only [fzs] at e
    cases q1 : fz1 μ d with
    | none => rw [q1] at e; cases e
    | some p =>
      obtain ⟨μ1, x⟩ := p
      rw [q1] at e
      cases q2 : fzs μ1 ds with
      | none => simp only [q2] at e; cases e
      | some p2 =>
        simp only [q2] at e
        cases e
        obtain ⟨G1, R1, s1, h1⟩ := fz1_ok R a q1
        obtain ⟨G2, R2, s2, h2⟩ := fzs_ok R1 (s1.all t) q2
        exact ⟨G2, R2, s1.trans s2, .cons (h1.mono s2.gg) h2⟩
end
end Mz
end
section
set_option Elab.async false
set_option linter.all false
set_option maxRecDepth 100000
set_option maxHeartbeats 4000000
namespace Mz
open PySem L2
/-! ### what a value is as data, at the end of a def -/
mutual
inductive Rz (μ : MS) : Dv → Da → Prop
  | d (x : Da) : Rz μ (.d x) x
  | frz {n : Nat} {x : Da} : μ[n]? = some (.frz x) → Rz μ (.ob n) x
  | lst {n : Nat} {ys : List Dv} {xs : List Da} : μ[n]? = some (.lst ys) → RzAll μ ys xs → Rz μ (.ob n) (.lst xs)
  | dct {n : Nat} {ks : List (Key × Dv)} {xs : List Da} : μ[n]? = some (.dct ks) → RzAll μ (ks.map (·.2)) xs → Rz μ (.ob n) (.dct ((ks.map (·.1)).zip xs))
  | ins {n : Nat} {C : Addr} {fs : List (Str × Dv)} {xs : List Da} : μ[n]? = some (.ins C fs) → RzAll μ (fs.map (·.2)) xs → Rz μ (.ob n) (.ins C ((fs.map (·.1)).zip xs))
  | tp {ys : List Dv} {xs : List Da} : RzAll μ ys xs → Rz μ (.tp ys) (.tup xs)
inductive RzAll (μ : MS) : List Dv → List Da → Prop
  | nil : RzAll μ [] []
  | cons {y : Dv} {ys : List Dv} {x : Da} {xs : List Da} : Rz μ y x → RzAll μ ys xs → RzAll μ (y :: ys) (x :: xs)
end
theorem RzAll.map (μ : MS) : ∀ xs : List Da, RzAll μ (xs.map .d) xs
  | [] => .nil
  | x :: r => .cons (.d x) (RzAll.map μ r)
theorem RzAll.length {μ : MS} : ∀ {ys : List Dv} {xs : List Da}, RzAll μ ys xs → ys.length = xs.length
  | _, _, .nil => rfl
  | _, _, .cons _ t => by simp [t.length]
/-- all one's own objects frozen -/
def frzG (ρ : List Addr) (G H : Hp) : Hp := fun b => if b ∈ ρ then H b else G b
section
variable {c : Cn} {E : XK} {ρ ρ0 : List Addr} {G H G0 H0 : Hp} {μ : MS}
theorem frzG_in {b : Addr} (h : b ∈ ρ) : frzG ρ G H b = H b := if_pos h
theorem frzG_out {b : Addr} (h : b ∉ ρ) : frzG ρ G H b = G b := if_neg h
theorem frzG_gg (R : Rel c ρ G H μ) : Same G (frzG ρ G H) := fun b o e => by
  by_cases h : b ∈ ρ
  · rw [frzG_in h]; exact R.gh b o e
  · rw [frzG_out h]; exact e
theorem frzG_gh (R : Rel c ρ G H μ) : Same (frzG ρ G H) H := fun b o e => by
  by_cases h : b ∈ ρ
  · rw [frzG_in h] at e; exact e
  · rw [frzG_out h] at e; exact R.gh b o e
theorem frzG_so (R : Rel c ρ G H μ) : StOk (frzG ρ G H) H c.st := by
  obtain ⟨cells, ns, nth, left, mx, SA, gc, gs⟩ := R.so
  exact ⟨cells, ns, nth, left, mx, SA, frzG_gg R _ _ gc, by rw [frzG_out R.sn]; exact gs⟩
mutual
theorem Rz.at_ (R : Rel c ρ G H μ) : ∀ {v : V} {y : Dv} {x : Da}, Rz μ y x → At c ρ G v y → AtD c (frzG ρ G H) v x
  | _, _, _, .d x, a => by
    cases a with
    | d a => exact a.mono (frzG_gg R)
  | _, _, _, .frz hm, a => by
    obtain ⟨p, rfl, hn, g, h1⟩ := R.at_ob a hm
    exact h1.mono (frzG_gg R)
  | _, _, _, .lst hm t, a => by
    obtain ⟨p, rfl, hn, g, vs, h1, h2⟩ := R.at_ob a hm
    exact .lst (by rw [frzG_in (List.mem_of_getElem? hn)]; exact h1) (RzAll.at_ R t h2)
  | _, _, _, .dct hm t, a => by
    obtain ⟨p, rfl, hn, g, vs, h1, hk, h2⟩ := R.at_ob a hm
    have hd := RzAll.at_ R t h2
    have hl := t.length
    simp only [List.length_map] at hl
    exact .dct (by rw [frzG_in (List.mem_of_getElem? hn)]; exact h1) (by rw [zip_fst (by simpa using hl)]; exact hk) (by rw [zip_snd (by simpa using hl)]; exact hd)
  | _, _, _, .ins hm t, a => by
    obtain ⟨p, rfl, hn, g, dx, vs, h1, hk, h2⟩ := R.at_ob a hm
    have hd := RzAll.at_ R t h2
    have hl := t.length
    simp only [List.length_map] at hl
    exact .ins (by rw [frzG_in (List.mem_of_getElem? hn)]; exact h1) (by rw [zip_fst (by simpa using hl)]; exact hk) (by rw [zip_snd (by simpa using hl)]; exact hd)
  | _, _, _, .tp t, a => by
    cases a with
    | tp h t2 => exact .tup (Same.tup (frzG_gg R) h) (RzAll.at_ R t t2)
theorem RzAll.at_ (R : Rel c ρ G H μ) : ∀ {vs : List V} {ys : List Dv} {xs : List Da}, RzAll μ ys xs → AtAll c ρ G vs ys → AtDs c (frzG ρ G H) vs xs
  | _, _, _, .nil, a => by cases a; exact .nil
  | _, _, _, .cons h t, a => by
    cases a with
    | cons a1 a2 => exact .cons (h.at_ R a1) (t.at_ R a2)
end
/-- behind a def that began with no objects of its own -/
theorem gr_of (R0 : Same G0 H0) (s : Stp c.st [] G0 H0 ρ G H) (R : Rel c ρ G H μ) : Gr [c.st] G0 H0 (frzG ρ G H) H where
  gg := fun b o e => by
    have hn : b ∉ ρ := fun z => by
      rcases s.nw b z with h | h
      · cases h
      · rw [R0 b o e] at h; cases h
    rw [frzG_out hn]; exact s.gg b o e
  hh := fun b o n e => s.hh b o (by simp) (by simpa using n) e
  dm := s.dm
  fr := fun b o e n => by
    by_cases h : b ∈ ρ
    · rcases s.nw b h with h | h
      · cases h
      · exact h
    · rw [frzG_out h] at e
      rcases s.fr b o e n with h | h
      · exact h
      · cases h
  gh := frzG_gh R
theorem gr_plain (R0 : Same G0 H0) (s : Stp c.st [] G0 H0 ρ G H) (R : Rel c ρ G H μ) : True := trivial
end
/-! ### defs that keep to themselves -/
abbrev PF := List Da → (Ex → Prop) → (Da → Prop) → Prop
def ExD (c : Cn) (G H : Hp) (e : Ex) (cls : Value) (dd : Option Addr) : Prop := cls = .ref e.cls ∧ ∃ d fvs, dd = some d ∧ H d = some (.xd fvs) ∧ fvs.map (·.1) = e.fs.map (·.1) ∧ AtDs c G (fvs.map (·.2)) (e.fs.map (·.2))
def spP (K : PySem.W.Frag) (f : PF) : Sp := fun vs H Q E => ∃ (st : Addr) (G : Hp) (ds : List Da), StOk G H st ∧ Same G H ∧ AtDs ⟨K, st⟩ G vs ds ∧
  ∃ (E' : Ex → Prop) (Q' : Da → Prop), f ds E' Q' ∧ (∀ e, E' e → ∀ cls dd G' H', Gr [st] G H G' H' → StOk G' H' st → ExD ⟨K, st⟩ G' H' e cls dd → E cls dd H') ∧ (∀ d, Q' d → ∀ v G' H', Gr [st] G H G' H' → StOk G' H' st → AtD ⟨K, st⟩ G' v d → Q v H')
def startD (n : Nat) (ds : List Dv) : Env' := ds.map some ++ List.replicate (n - ds.length) none
def fPure (n k : Nat) (b : BS) : PF := fun ds E Q => ds.length = k ∧ b { nx := fun _ _ => Q .non, rt := fun d μ => ∃ x, Rz μ d x ∧ Q x, er := fun e _ => E e } (startD n (ds.map .d)) []
section
variable {K : PySem.W.Frag} {E : XK} {ρ ρ0 : List Addr} {G H G0 H0 : Hp} {μ : MS}
theorem env_none {c : Cn} : ∀ n : Nat, EnvOk c ρ G (List.replicate n none) (List.replicate n none)
  | 0 => .nil
  | n + 1 => .no (env_none n)
theorem env_start {c : Cn} {N : List Str} : ∀ {vs : List V} {ds : List Dv}, AtAll c ρ G vs ds → EnvOk c ρ G (L2.start N vs) (startD N.length ds) := by
  intro vs ds a
  unfold L2.start startD
  rw [a.length]
  generalize N.length - ds.length = k
  induction vs generalizing ds with
  | nil => cases a; exact env_none k
  | cons v vs ih =>
    cases a with
    | cons a1 a2 => exact .yes a1 (ih a2)
theorem rel0 {st : Addr} (so : StOk G H st) (gh : Same G H) : Rel ⟨K, st⟩ [] G H [] := ⟨gh, rfl, by simp, fun n a o h => by simp at h, so, by simp⟩
/-- the reading of such a def holds -/
theorem pure_ok {N : List Str} {k : Nat} {t : TS} {b : BS} (S : ∀ st, SS ⟨K, st⟩ E t b) {vs : List V} {H : Hp} {Q : VK} (h : spP K (fPure N.length k b) vs H Q E) : t { nx := fun _ H' => Q .non H', rt := Q } (L2.start N vs) H := by
  obtain ⟨st, G, ds, so, gh, a, E', Q', ⟨hl, h⟩, hE, hQ⟩ := h
  have R := rel0 (K := K) so gh
  refine S st R (env_start a.up) ⟨?_, ?_, ?_, ?_, ?_⟩ h
  · intro α' μ' x σ' ρ' G' H' s' R' e'
    exact hQ _ x .non _ _ (gr_of gh s' R') (frzG_so R') .non
  · rintro d μ' ⟨x, hz, q⟩ v ρ' G' H' s' R' a'
    exact hQ _ q v _ _ (gr_of gh s' R') (frzG_so R') (hz.at_ R' a')
  · intro α' μ' x; exact x.elim
  · intro α' μ' x; exact x.elim
  · rintro e μ' x cls dd ρ' G' H' s' R' ⟨e1, d, fvs, e2, e3, e4, e5⟩
    exact hE _ x cls dd _ _ (gr_of gh s' R') (frzG_so R') ⟨e1, d, fvs, e2, e3, e4, e5.mono (frzG_gg R')⟩
theorem pure_len {n k : Nat} {b : BS} {vs : List V} {H : Hp} {Q : VK} (h : spP K (fPure n k b) vs H Q E) : vs.length = k := by
  obtain ⟨st, G, ds, so, gh, a, E', Q', ⟨hl, h⟩, hE, hQ⟩ := h
  rw [a.length]; exact hl
/-- nothing is raised -/
def fNo (f : PF) : PF := fun ds _ Q => f ds (fun _ => False) Q
theorem pure_ok0 {N : List Str} {k : Nat} {t : TS} {b : BS} (S : ∀ st, SS ⟨K, st⟩ E0 t b) {vs : List V} {H : Hp} {Q : VK} (h : spP K (fNo (fPure N.length k b)) vs H Q E) : t { nx := fun _ H' => Q .non H', rt := Q } (L2.start N vs) H := by
  obtain ⟨st, G, ds, so, gh, a, E', Q', ⟨hl, h⟩, hE, hQ⟩ := h
  have R := rel0 (K := K) so gh
  refine S st R (env_start a.up) ⟨?_, ?_, ?_, ?_, ?_⟩ h
  · intro α' μ' x σ' ρ' G' H' s' R' e'
    exact hQ _ x .non _ _ (gr_of gh s' R') (frzG_so R') .non
  · rintro d μ' ⟨x, hz, q⟩ v ρ' G' H' s' R' a'
    exact hQ _ q v _ _ (gr_of gh s' R') (frzG_so R') (hz.at_ R' a')
  · intro α' μ' x; exact x.elim
  · intro α' μ' x; exact x.elim
  · intro e μ' x; exact x.elim
theorem pure_len0 {n k : Nat} {b : BS} {vs : List V} {H : Hp} {Q : VK} (h : spP K (fNo (fPure n k b)) vs H Q E) : vs.length = k := by
  obtain ⟨st, G, ds, so, gh, a, E', Q', ⟨hl, h⟩, hE, hQ⟩ := h
  rw [a.length]; exact hl
/-! ### defs that work on objects -/
abbrev OF := List Dv → XS → MS → DK → Prop
def spO (K : PySem.W.Frag) (f : OF) : Sp := fun vs H Q E => ∃ (st : Addr) (ρ : List Addr) (G : Hp) (μ : MS) (ds : List Dv), Rel ⟨K, st⟩ ρ G H μ ∧ AtAll ⟨K, st⟩ ρ G vs ds ∧
  ∃ (E' : XS) (Q' : DK), f ds E' μ Q' ∧ PX ⟨K, st⟩ ρ G H E E' ∧ PQ ⟨K, st⟩ ρ G H Q Q'
def fOpen (n k : Nat) (b : BS) : OF := fun ds E μ Q => ds.length = k ∧ b { nx := fun _ μ' => Q (.d .non) μ', rt := Q, er := E } (startD n ds) μ
theorem open_ok {N : List Str} {k : Nat} {t : TS} {b : BS} (S : ∀ st, SS ⟨K, st⟩ E t b) {vs : List V} {H : Hp} {Q : VK} (h : spO K (fOpen N.length k b) vs H Q E) : t { nx := fun _ H' => Q .non H', rt := Q } (L2.start N vs) H := by
  obtain ⟨st, ρ, G, μ, ds, R, a, E', Q', ⟨hl, h⟩, px, q⟩ := h
  refine S st R (env_start a) ⟨?_, q, ?_, ?_, px⟩ h
  · intro α' μ' x σ' ρ' G' H' s' R' e'
    exact q _ _ x _ _ _ _ s' R' (.d .non)
  · intro α' μ' x; exact x.elim
  · intro α' μ' x; exact x.elim
theorem open_len {n k : Nat} {b : BS} {vs : List V} {H : Hp} {Q : VK} (h : spO K (fOpen n k b) vs H Q E) : vs.length = k := by
  obtain ⟨st, ρ, G, μ, ds, R, a, E', Q', ⟨hl, h⟩, px, q⟩ := h
  rw [a.length]; exact hl
def fNoO (f : OF) : OF := fun ds _ μ Q => f ds noX μ Q
theorem open_ok0 {N : List Str} {k : Nat} {t : TS} {b : BS} (S : ∀ st, SS ⟨K, st⟩ E0 t b) {vs : List V} {H : Hp} {Q : VK} (h : spO K (fNoO (fOpen N.length k b)) vs H Q E) : t { nx := fun _ H' => Q .non H', rt := Q } (L2.start N vs) H := by
  obtain ⟨st, ρ, G, μ, ds, R, a, E', Q', ⟨hl, h⟩, px, q⟩ := h
  refine (S st).run (D' := { nx := fun _ μ' => Q' (.d .non) μ', rt := Q', er := noX }) R (env_start a) ⟨?_, q, ?_, ?_, px_no⟩ h
  · intro α' μ' x σ' ρ' G' H' s' R' e'
    exact q _ _ x _ _ _ _ s' R' (.d .non)
  · intro α' μ' x; exact x.elim
  · intro α' μ' x; exact x.elim
theorem open_len0 {n k : Nat} {b : BS} {vs : List V} {H : Hp} {Q : VK} (h : spO K (fNoO (fOpen n k b)) vs H Q E) : vs.length = k := by
  obtain ⟨st, ρ, G, μ, ds, R, a, E', Q', ⟨hl, h⟩, px, q⟩ := h
  rw [a.length]; exact hl
end
/-! ### calls -/
section
variable {c : Cn} {E : XK} {ρ ρ0 : List Addr} {G H G0 H0 : Hp} {μ : MS}
/-- what a call does, by values -/
abbrev CF := List Dv → XS → MS → DK → Prop
def cP (f : PF) : CF := fun ds E μ Q => ∃ μ2 xs, fzs μ ds = some (μ2, xs) ∧ f xs (fun e => E e μ2) (fun x => Q (.d x) μ2)
def cO (f : OF) : CF := fun ds E μ Q => f ds E μ Q
/-- the arguments are lent: what comes back is plain -/
def cL (f : PF) : CF := fun ds E μ Q => ∃ xs, RzAll μ ds xs ∧ f xs (fun _ => False) (fun x => (pD x).isSome = true ∧ Q (.d x) μ)
/-- sp serves the call: for what is raised Ex is wished -/
structure SC (c : Cn) (E Ex : XK) (sp : Sp) (f : CF)  : Prop where
  run : ∀ {ρ : List Addr} {G H : Hp} {μ : MS} {vs : List V} {ds : List Dv} {Q : VK} {E' : XS} {Q' : DK}, Rel c ρ G H μ → AtAll c ρ G vs ds → PX c ρ G H E E' → PQ c ρ G H Q Q' → f ds E' μ Q' → sp vs H Q Ex
instance (c : Cn) (E Ex : XK) (sp : Sp) (f : CF)  : CoeFun (SC c E Ex sp f) fun _ => ∀ {ρ : List Addr} {G H : Hp} {μ : MS} {vs : List V} {ds : List Dv} {Q : VK} {E' : XS} {Q' : DK}, Rel c ρ G H μ → AtAll c ρ G vs ds → PX c ρ G H E E' → PQ c ρ G H Q Q' → f ds E' μ Q' → sp vs H Q Ex := ⟨fun h => h.run⟩
theorem Rel.after (R : Rel c ρ G H μ) {G1 H1 : Hp} (g : Gr [c.st] G H G1 H1) (so : StOk G1 H1 c.st) : Rel c ρ G1 H1 μ ∧ Stp c.st ρ G H ρ G1 H1 := R.draw g so
theorem sc_P {f : PF} : SC c E E (spP c.K f) (cP f) := by
  refine ⟨?_⟩
  rintro ρ G H μ vs ds Q E' Q' R a px q ⟨μ2, xs, e, h⟩
  obtain ⟨G', R', s', a'⟩ := fzs_ok R a e
  refine ⟨c.st, G', xs, R'.so, R'.gh, a', _, _, h, ?_, ?_⟩
  · rintro ex hx cls dd G2 H2 g so ⟨e1, d, fvs, e2, e3, e4, e5⟩
    obtain ⟨R2, s2⟩ := R'.draw g so
    exact px _ _ hx _ _ _ _ _ (s'.trans s2) R2 ⟨e1, d, fvs, e2, e3, e4, e5⟩
  · intro d hd v G2 H2 g so a2
    obtain ⟨R2, s2⟩ := R'.draw g so
    exact q _ _ hd _ _ _ _ (s'.trans s2) R2 (.d a2)
/-- nothing is raised by it -/
def NoE (f : PF) : Prop := ∀ ds E Q, f ds E Q → f ds (fun _ => False) Q
def NoEO (f : OF) : Prop := ∀ ds E μ Q, f ds E μ Q → f ds noX μ Q
theorem sc_P0 {f : PF} (hf : NoE f) : SC c E E0 (spP c.K f) (cP f) := by
  refine ⟨?_⟩
  rintro ρ G H μ vs ds Q E' Q' R a px q ⟨μ2, xs, e, h⟩
  obtain ⟨G', R', s', a'⟩ := fzs_ok R a e
  refine ⟨c.st, G', xs, R'.so, R'.gh, a', fun _ => False, _, hf _ _ _ h, fun _ x => x.elim, ?_⟩
  intro d hd v G2 H2 g so a2
  obtain ⟨R2, s2⟩ := R'.draw g so
  exact q _ _ hd _ _ _ _ (s'.trans s2) R2 (.d a2)
/-- a def that may raise, where it does not -/
theorem sc_PN {f : PF} : SC c E E0 (spP c.K f) (cP (fNo f)) := by
  refine ⟨?_⟩
  rintro ρ G H μ vs ds Q E' Q' R a px q ⟨μ2, xs, e, h⟩
  obtain ⟨G', R', s', a'⟩ := fzs_ok R a e
  refine ⟨c.st, G', xs, R'.so, R'.gh, a', fun _ => False, _, h, fun _ x => x.elim, ?_⟩
  intro d hd v G2 H2 g so a2
  obtain ⟨R2, s2⟩ := R'.draw g so
  exact q _ _ hd _ _ _ _ (s'.trans s2) R2 (.d a2)
theorem sc_O {f : OF} : SC c E E (spO c.K f) (cO f) := ⟨fun R a px q h => ⟨c.st, _, _, _, _, R, a, _, _, h, px, q⟩⟩
theorem sc_O0 {f : OF} (hf : NoEO f) : SC c E E0 (spO c.K f) (cO f) := ⟨fun R a px q h => ⟨c.st, _, _, _, _, R, a, noX, _, hf _ _ _ _ h, px_no, q⟩⟩
theorem sc_ON {f : OF} : SC c E E0 (spO c.K f) (cO (fNoO f)) := ⟨fun R a px q h => ⟨c.st, _, _, _, _, R, a, noX, _, h, px_no, q⟩⟩
/-! the forms of calls -/
def mCall (f : CF) (r : AS) : ES := fun E α μ Q => r E α μ fun ds μ1 => f ds E μ1 Q
theorem se_call {E1 : XK} {sp : Sp} {f : CF} {ta : TA} {r : AS} (hs : SC c E E1 sp f) (ha : SA c E ta r) : SE c E (tCall sp [] E1 ta) (mCall f r) := by
  refine ⟨?_⟩
  intro ρ G H σ α μ Q E' Q' R e px q h
  refine ha R e px ?_ h
  intro ds μ1 h1 vs ρ1 G1 H1 s1 R1 a1
  have := hs R1 a1 (px.step s1) (q.step s1) h1
  rw [List.append_nil]
  exact this
/-- with values for the last parameters -/
def mCallD (f : CF) (xs : List Dv) (r : AS) : ES := fun E α μ Q => r E α μ fun ds μ1 => f (ds ++ xs) E μ1 Q
theorem se_callD {E1 : XK} {sp : Sp} {f : CF} {ta : TA} {r : AS} {us : List V} {xs : List Dv} (hs : SC c E E1 sp f) (hx : ∀ ρ G, AtAll c ρ G us xs) (ha : SA c E ta r) : SE c E (tCall sp us E1 ta) (mCallD f xs r) := by
  refine ⟨?_⟩
  intro ρ G H σ α μ Q E' Q' R e px q h
  refine ha R e px ?_ h
  intro ds μ1 h1 vs ρ1 G1 H1 s1 R1 a1
  exact hs R1 (a1.append (hx _ _)) (px.step s1) (q.step s1) h1
def mMeth (C : Addr) (m : Str) (f : CF) (a : ES) (r : AS) : ES := fun E α μ Q => a E α μ fun d μ1 => ∃ fs, isV μ1 d = some (C, fs) ∧ fs.lookup m = none ∧ r E α μ1 fun ds μ2 => f (d :: ds) E μ2 Q
theorem se_meth {E1 : XK} {C : Addr} {m : Str} {sp : Sp} {f : CF} {ta : TE} {tr : TA} {a : ES} {r : AS} (hs : SC c E E1 sp f) (ha : SE c E ta a) (hr : SA c E tr r) : SE c E (tMeth C m sp [] E1 ta tr) (mMeth C m f a r) := by
  refine ⟨?_⟩
  intro ρ G H σ α μ Q E' Q' R e px q h
  refine ha R e px ?_ h
  rintro d μ1 ⟨fs, e1, e2, h1⟩ x ρ1 G1 H1 s1 R1 a1
  obtain ⟨p, dx, fvs, rfl, h2, hk, t⟩ := isV_ok R1 a1 e1
  refine ⟨p, dx, fvs, rfl, h2, ents_none hk e2, ?_⟩
  refine hr R1 (s1.env e) (px.step s1) ?_ h1
  intro ds μ2 h3 vs ρ2 G2 H2 s2 R2 a2
  have s02 := s1.trans s2
  have := hs R2 (.cons (s2.at_ a1) a2) (px.step s02) (q.step s02) h3
  rw [List.append_nil]
  exact this
/-- C(..): a new object, then __init__ -/
def mMake (C : Addr) (f : CF) (r : AS) : ES := fun E α μ Q => r E α μ fun ds μ1 => f (.ob μ1.length :: ds) E (μ1 ++ [.ins C []]) fun d μ2 => d = .d .non ∧ Q (.ob μ1.length) μ2
theorem make_step {sp : Sp} {E1 : XK} {f : CF} {C : Addr} (hs : SC c E E1 sp f) {vs : List V} {ds : List Dv} {Q : VK} {Q' : DK} {E' : XS} (R : Rel c ρ G H μ) (a : AtAll c ρ G vs ds) (px : PX c ρ G H E E') (q : PQ c ρ G H Q Q')
    (h : f (.ob μ.length :: ds) E' (μ ++ [.ins C []]) fun d μ2 => d = .d .non ∧ Q' (.ob μ.length) μ2) {x dx : Addr} (hx : H x = none) (hdx : H dx = none) (hxd : dx ≠ x) :
    sp (.ref x :: vs) (upd (upd H dx (.own x)) x (.ins C dx [])) (fun v H2 => v = .non ∧ Q (.ref x) H2) E1 := by
  obtain ⟨R1, s1⟩ := R.junk (u := .own x) hdx
  have hx1 : (upd H dx (.own x)) x = none := by rw [upd_ne (Ne.symm hxd)]; exact hx
  obtain ⟨R2, s2⟩ := R1.alloc (u := .ins C dx []) (o := .ins C []) hx1 ⟨R1.free hx1, dx, [], upd_same, rfl, .nil⟩
  have s02 := s1.trans s2
  have hob : (ρ ++ [x])[μ.length]? = some x := by rw [← R.len]; simp
  refine hs R2 (.cons (.ob hob) (s02.all a)) (px.step s02) ?_ h
  rintro d μ3 ⟨rfl, h3⟩ v ρ3 G3 H3 s3 R3 a3
  exact ⟨at_non a3, q _ _ h3 _ _ _ _ (s02.trans s3) R3 (s3.at_ (.ob hob))⟩
theorem se_make {E1 : XK} {C : Addr} {sp : Sp} {f : CF} {tr : TA} {r : AS} (hs : SC c E E1 sp f) (hr : SA c E tr r) : SE c E (tMake C sp [] E1 tr) (mMake C f r) := by
  refine ⟨?_⟩
  intro ρ G H σ α μ Q E' Q' R e px q h
  refine hr R e px ?_ h
  intro ds μ1 h1 vs ρ1 G1 H1 s1 R1 a1 x dx hx hdx hxd
  rw [List.append_nil]
  exact make_step hs R1 a1 (px.step s1) (q.step s1) h1 hx hdx hxd
def mMakeK (C : Addr) (n m : Nat) (f : CF) (r rk : AS) : ES := fun E α μ Q => r E α μ fun ds μ1 => rk E α μ1 fun zs μ2 => ds.length = n ∧ zs.length = m ∧ f (.ob μ2.length :: (ds ++ zs)) E (μ2 ++ [.ins C []]) fun d μ3 => d = .d .non ∧ Q (.ob μ2.length) μ3
theorem se_makeK {E1 : XK} {C : Addr} {n m : Nat} {sp : Sp} {f : CF} {tr tk : TA} {r rk : AS} (hs : SC c E E1 sp f) (hr : SA c E tr r) (hk : SA c E tk rk) : SE c E (tMakeK C n m sp (fun a b => a ++ b) E1 tr tk) (mMakeK C n m f r rk) := by
  refine ⟨?_⟩
  intro ρ G H σ α μ Q E' Q' R e px q h
  refine hr R e px ?_ h
  intro ds μ1 h1 vs ρ1 G1 H1 s1 R1 a1
  refine hk R1 (s1.env e) (px.step s1) ?_ h1
  rintro zs μ2 ⟨hl1, hl2, h2⟩ ws ρ2 G2 H2 s2 R2 a2
  have s02 := s1.trans s2
  refine ⟨by rw [a1.length]; exact hl1, by rw [a2.length]; exact hl2, fun x dx hx hdx hxd => ?_⟩
  exact make_step hs R2 ((s2.all a1).append a2) (px.step s02) (q.step s02) h2 hx hdx hxd
/-- C.m(..), m a staticmethod -/
def mSM (a : ES) (C : Addr) (f : CF) (r : AS) : ES := fun E α μ Q => a E α μ fun d μ1 => d = .d (.cls C) ∧ r E α μ1 fun ds μ2 => f ds E μ2 Q
theorem at_cls {v : V} {a : Addr} (h : At c ρ G v (.d (.cls a))) : v = .ref a := by
  cases h with
  | d h => cases h; rfl
theorem se_sm {E1 : XK} {C : Addr} {sp : Sp} {f : CF} {ta : TE} {a : ES} {tr : TA} {r : AS} (hs : SC c E E1 sp f) (ha : SE c E ta a) (hr : SA c E tr r) : SE c E (tSMeth C sp [] E1 ta tr) (mSM a C f r) := by
  refine ⟨?_⟩
  intro ρ G H σ α μ Q E' Q' R e px q h
  refine ha R e px ?_ h
  rintro d μ1 ⟨rfl, h1⟩ x ρ1 G1 H1 s1 R1 a1
  refine ⟨at_cls a1, ?_⟩
  refine hr R1 (s1.env e) (px.step s1) ?_ h1
  intro ds μ2 h2 vs ρ2 G2 H2 s2 R2 a2
  have s02 := s1.trans s2
  rw [List.append_nil]
  exact hs R2 a2 (px.step s02) (q.step s02) h2
theorem se_smK {E1 : XK} {C : Addr} {sp : Sp} {f : CF} {ta : TE} {a : ES} {tr : TA} {r : AS} (hs : SC c E E1 sp f) (ha : SE c E ta a) (hr : SA c E tr r) : SE c E (tSMethK C sp (fun a b => a ++ b) E1 ta tr) (mSM a C f r) := by
  refine ⟨?_⟩
  intro ρ G H σ α μ Q E' Q' R e px q h
  refine ha R e px ?_ h
  rintro d μ1 ⟨rfl, h1⟩ x ρ1 G1 H1 s1 R1 a1
  refine ⟨at_cls a1, ?_⟩
  refine hr R1 (s1.env e) (px.step s1) ?_ h1
  intro ds μ2 h2 vs ρ2 G2 H2 s2 R2 a2
  have s02 := s1.trans s2
  exact hs R2 a2 (px.step s02) (q.step s02) h2
/-- == and != by an own __eq__ -/
def oOwn (neg : Bool) (C : Addr) (f : CF) : O2 := fun d1 d2 μ Q => (∃ fs, isV μ d1 = some (C, fs)) ∧ (∃ fs, isV μ d2 = some (C, fs)) ∧ f [d1, d2] noX μ fun d μ2 => ∃ r, d = .d (.bl r) ∧ Q (.d (.bl (if neg = true then !r else r))) μ2
theorem so_own {neg : Bool} {C : Addr} {sp : Sp} {f : CF} (hs : SC c E0 E0 sp f) : SO c (rOwn neg C sp E0) (oOwn neg C f) := by
  refine ⟨?_⟩
  rintro ρ G H μ x y d1 d2 Q Q' R a1 a2 q ⟨⟨fs, e1⟩, ⟨gs, e2⟩, h⟩
  obtain ⟨p, dx, fvs, rfl, h2, _⟩ := isV_ok R a1 e1
  obtain ⟨p', dy, gvs, rfl, h3, _⟩ := isV_ok R a2 e2
  refine ⟨.mk, p, p', dx, dy, fvs, gvs, rfl, rfl, h2, h3, ?_⟩
  refine hs R (.cons a1 (.cons a2 .nil)) px_no ?_ h
  rintro d μ2 ⟨r, rfl, h4⟩ v ρ2 G2 H2 s2 R2 a4
  obtain rfl := at_bl a4
  exact ⟨r, rfl, (q.step s2).here R2 (.d (.bl _)) h4⟩
/-- the written dict of two texts -/
def oKD2 (a : Addr) (k1 k2 : Str) (x1 x2 : Da) : O2 := fun d1 d2 μ Q => d1 = .d (.cls a) ∧ ((d2 = .d (.str k1) ∧ Q (.d x1) μ) ∨ (d2 = .d (.str k2) ∧ Q (.d x2) μ))
theorem so_kd2 {a : Addr} {k1 k2 : Str} {v1 v2 : V} {x1 x2 : Da} (h1 : ∀ G, AtD c G v1 x1) (h2 : ∀ G, AtD c G v2 x2) : SO c (rKD2 a k1 k2 v1 v2) (oKD2 a k1 k2 x1 x2) := by
  refine ⟨?_⟩
  rintro ρ G H μ x y d1 d2 Q Q' R a1 a2 q ⟨rfl, ⟨rfl, h⟩ | ⟨rfl, h⟩⟩
  · exact ⟨k1, at_cls a1, at_str a2, .inl ⟨rfl, q.here R (.d (h1 _)) h⟩⟩
  · exact ⟨k2, at_cls a1, at_str a2, .inr ⟨rfl, q.here R (.d (h2 _)) h⟩⟩
/-! ### draws -/
def fTake : PF := fun ds _ Q => ∃ m : Int, ds = [.st, .int m] ∧ 0 < m ∧ m < 1048576 ∧ ∀ d : Int, 0 ≤ d → d < m → Q (.int d)
theorem take_of {A : Ad} {K : PySem.W.Frag} {vs : List V} {H : Hp} {Q : VK} {E : XK} (h : spP K (fNo fTake) vs H Q E) : sp_law_take A K vs H Q E := by
  obtain ⟨st, G, ds, so, gh, a, E', Q', ⟨m, rfl, m0, m1, hd⟩, hE, hQ⟩ := h
  cases a with
  | cons a1 t =>
    cases t with
    | cons a2 t =>
      cases t
      cases a1
      cases a2
      exact ⟨G, st, m, rfl, gh, so, m0, m1, fun d G' H' d0 d1 g s => hQ _ (hd d d0 d1) _ _ _ g s (.int _)⟩
end
end Mz
end
section
set_option Elab.async false
set_option linter.all false
set_option maxRecDepth 100000
set_option maxHeartbeats 4000000
namespace Mz
open PySem L2
section
variable {c : Cn} {E : XK} {ρ ρ0 : List Addr} {G H G0 H0 : Hp} {μ : MS}
def bNever : BS := fun _ _ _ => False
theorem ss_never : SS c E tNever bNever := ⟨fun _ _ _ h => h.elim⟩
/-- list(range(n)) -/
def mLstR (a : ES) : ES := fun E α μ Q => a E α μ fun d μ1 => ∃ n : Int, d = .d (.int n) ∧ RgOk 0 n ∧ Q (.ob μ1.length) (μ1 ++ [.lst (rngD 0 n.toNat)])
theorem se_lstR {ta : TE} {a : ES} (ha : SE c E ta a) : SE c E (tLstRg (tRg1 ta)) (mLstR a) := by
  refine ⟨?_⟩
  intro ρ G H σ α μ Q E' Q' R e px q h
  refine ha R e px ?_ h
  rintro d μ1 ⟨n, rfl, hr, h1⟩ x ρ1 G1 H1 s1 R1 a1
  obtain rfl := at_int a1
  refine ⟨n, rfl, hr, fun p hp => newLst R1 (q.step s1) ?_ h1 hp⟩
  unfold rgV rngD
  rw [Int.sub_zero]
  exact AtAll.map (fun i => .d (.int _)) _
/-- x in a written tuple of data -/
def oInDT (neg : Bool) : O2 := fun d1 d2 μ Q => ∃ p1 ds ps, PyAt μ d1 p1 ∧ tpV d2 = some ds ∧ PyAll μ ds ps ∧ SeqAt.shaped p1 = true ∧ SeqAt.shaped (.tuple ps) = true ∧ Q (.d (.bl (if neg = true then !ps.any (fun z => PyData.eqv z p1) else ps.any fun z => PyData.eqv z p1))) μ
theorem so_notInDT : SO c (rInDT c.K true) (oInDT true) := by
  refine ⟨?_⟩
  rintro ρ G H μ x y d1 d2 Q Q' R a1 a2 q ⟨p1, ds, ps, h1, e, h2, s1, s2, h⟩
  exact ⟨.mk, p1, ps, h1.dp R a1, (PyAt.tup e h2).dp R a2, s1, s2, q.here R (.d (.bl _)) h⟩
end
theorem call_lenAny {X : Cx} : CallR X (.builtin "len") (rLenAny X.K) := CallR.or call_len call_lenD
theorem sl_MA {X : Cx} : SlR X (fun x lo hi H Q => rSlL X.K x lo hi H Q ∨ rSlA X.K x lo hi H Q) := SlR.or sl_list sl_tupA
end Mz
namespace Mz
open PySem L2
theorem fn_bad {P : Program} {w : World} {K : PySem.W.Frag} {mg : Str → Option Value} {base : Heap} {k : Nat} {f : Addr} {fd : FuncData} {ps : List Str} : FnOk P w K mg base CX0 k f fd ps (spP K fun _ _ _ => False) :=
  ⟨fun vs H Q E h => by obtain ⟨_, _, _, _, _, _, _, _, h, _⟩ := h; exact h.elim, fun A outer s H args us vs Q E _ _ _ _ h => by obtain ⟨_, _, _, _, _, _, _, _, h, _⟩ := h; exact h.elim⟩
end Mz
end
section
set_option Elab.async false
set_option linter.all false
set_option maxRecDepth 100000
set_option maxHeartbeats 4000000
namespace L2
open PySem PySem.Spec PyProof.Rows Mz
section
variable {X : Cx}
theorem ix_seqK (K : PySem.W.Frag) (h : X.K = K := by rfl) : IxR X (rIx K) := by subst h; exact ix_seq
theorem op_catAK (K : PySem.W.Frag) (h : X.K = K := by rfl) : OpR X (binaryOp .Add) (rCatA K) := by subst h; exact op_catA
theorem op_eqDK (K : PySem.W.Frag) (hu : X.A.units + 64 < cLine) (h : X.K = K := by rfl) : OpR X (compareOp .Eq) (rEqD K) := by subst h; exact op_eqD hu
theorem op_neDK (K : PySem.W.Frag) (hu : X.A.units + 64 < cLine) (h : X.K = K := by rfl) : OpR X (compareOp .NotEq) (rNeD K) := by subst h; exact op_neD hu
theorem op_in_seqK (K : PySem.W.Frag) (h : X.K = K := by rfl) : OpR X (compareOp .In) (rIn K false) := by subst h; exact op_in_seq
theorem op_notIn_seqK (K : PySem.W.Frag) (h : X.K = K := by rfl) : OpR X (compareOp .NotIn) (rIn K true) := by subst h; exact op_notIn_seq
theorem op_notInDTK (K : PySem.W.Frag) (hu : X.A.units + 65 < cLine) (h : X.K = K := by rfl) : OpR X (compareOp .NotIn) (rInDT K true) := by subst h; exact op_notInDT hu
theorem sl_listK (K : PySem.W.Frag) (h : X.K = K := by rfl) : SlR X (rSlL K) := by subst h; exact sl_list
theorem sl_tupAK (K : PySem.W.Frag) (h : X.K = K := by rfl) : SlR X (rSlA K) := by subst h; exact sl_tupA
theorem sl_MAK (K : PySem.W.Frag) (h : X.K = K := by rfl) : SlR X (fun x lo hi H Q => rSlL K x lo hi H Q ∨ rSlA K x lo hi H Q) := by subst h; exact sl_MA
theorem call_lenAnyK (K : PySem.W.Frag) (h : X.K = K := by rfl) : CallR X (.builtin "len") (rLenAny K) := by subst h; exact call_lenAny
theorem call_list_ofK (K : PySem.W.Frag) (h : X.K = K := by rfl) : CallR X (.type "list") (rListOf K) := by subst h; exact call_list_of
theorem call_tuple_ofK (K : PySem.W.Frag) (h : X.K = K := by rfl) : CallR X (.type "tuple") (rTupleOf K) := by subst h; exact call_tuple_of
theorem cr_allK (K : PySem.W.Frag) (hc : X.calm = true) (h : X.K = K := by rfl) : CallR X (.builtin "all") (rAll K) := by subst h; exact cr_all hc
theorem cr_anyK (K : PySem.W.Frag) (hc : X.calm = true) (h : X.K = K := by rfl) : CallR X (.builtin "any") (rAny K) := by subst h; exact cr_any hc
theorem call_isiKK (K : PySem.W.Frag) (h : X.K = K := by rfl) : CallR X (.builtin "isinstance") (rIsi K) := by subst h; exact call_isi
theorem call_isiTK (K : PySem.W.Frag) (h : X.K = K := by rfl) : CallR X (.builtin "isinstance") (rIsiT K) := by subst h; exact call_isiT
theorem mt_indexK (K : PySem.W.Frag) (h : X.K = K := by rfl) : MtR X "list.index" (rIndex K) := by subst h; exact mt_index
theorem pe_fldK (K : PySem.W.Frag) {e : Expr} {ta : TE} {f : Str} {pos : Pos} (he : PE X e ta) (hb : attributeBase e f X.env (eval e X.env) = eval e X.env) (h : X.K = K := by rfl) : PE X (.Attribute e f pos) (tFld K ta f) := by subst h; exact pe_fld he hb
theorem pe_joinMK (K : PySem.W.Frag) {o e : Expr} {to te : TE} {apos pos : Pos} (ho : PE X o to) (he : PE X e te) (hs : starEach [e] X.env = [(false, eval e X.env)] := by rfl) (hbase : attributeBase o "join" X.env (eval o X.env) = eval o X.env := by rfl) (hline : (apos.endLine == pos.line) = true := by rfl) (h : X.K = K := by rfl) :
    PE X (.Call (.Attribute o "join" apos) [e] [] pos) (tJoin K to te) := by subst h; exact pe_joinM ho he hs hbase hline
theorem pi_sqK (K : PySem.W.Frag) {tg l : Expr} {tl : TE} (hl : PE X l tl) (h : X.K = K := by rfl) : PI X tg l (iSq K tl) := by subst h; exact pi_sq hl
end
end L2
end
section
set_option Elab.async false
set_option linter.all false
set_option maxRecDepth 100000
set_option maxHeartbeats 4000000
namespace Mz
open PySem L2
/-! ### freezing at will: lists whose items are frozen, through tuples -/
mutual
inductive Pu (μ : MS) : Dv → Da → Prop
  | d (x : Da) : Pu μ (.d x) x
  | frz {n : Nat} {x : Da} : μ[n]? = some (.frz x) → Pu μ (.ob n) x
  | tp {ys : List Dv} {xs : List Da} : PuAll μ ys xs → Pu μ (.tp ys) (.tup xs)
inductive PuAll (μ : MS) : List Dv → List Da → Prop
  | nil : PuAll μ [] []
  | cons {y : Dv} {ys : List Dv} {x : Da} {xs : List Da} : Pu μ y x → PuAll μ ys xs → PuAll μ (y :: ys) (x :: xs)
end
theorem PuAll.map (μ : MS) : ∀ xs : List Da, PuAll μ (xs.map .d) xs
  | [] => .nil
  | x :: r => .cons (.d x) (PuAll.map μ r)
inductive Fz : MS → MS → Prop
  | refl (μ : MS) : Fz μ μ
  | lst {μ μ' : MS} {n : Nat} {ys : List Dv} {xs : List Da} : μ[n]? = some (.lst ys) → PuAll μ ys xs → Fz (μ.set n (.frz (.lst xs))) μ' → Fz μ μ'
theorem Fz.trans {μ1 μ2 μ3 : MS} (h : Fz μ1 μ2) (g : Fz μ2 μ3) : Fz μ1 μ3 := by
  induction h with
  | refl => exact g
  | lst h1 h2 _ ih => exact .lst h1 h2 (ih g)
section
variable {c : Cn} {E : XK} {ρ : List Addr} {H : Hp}
mutual
theorem Pu.ok {G : Hp} {μ : MS} (R : Rel c ρ G H μ) : ∀ {v : V} {y : Dv} {x : Da}, At c ρ G v y → Pu μ y x → AtD c G v x
  | _, _, _, a, .d _ => by cases a with | d a => exact a
  | _, _, _, a, .frz hm => by
    obtain ⟨p, rfl, hn, g, h1⟩ := R.at_ob a hm
    exact h1
  | _, _, _, a, .tp t => by cases a with | tp h t' => exact .tup h (PuAll.ok R t' t)
theorem PuAll.ok {G : Hp} {μ : MS} (R : Rel c ρ G H μ) : ∀ {vs : List V} {ys : List Dv} {xs : List Da}, AtAll c ρ G vs ys → PuAll μ ys xs → AtDs c G vs xs
  | _, _, _, a, .nil => by cases a; exact .nil
  | _, _, _, a, .cons h t => by cases a with | cons a1 a2 => exact .cons (Pu.ok R a1 h) (PuAll.ok R a2 t)
end
theorem Fz.ok {μ μ1 : MS} (h : Fz μ μ1) : ∀ {G : Hp}, Rel c ρ G H μ → ∃ G', Rel c ρ G' H μ1 ∧ Stp c.st ρ G H ρ G' H := by
  induction h with
  | refl μ => intro G R; exact ⟨G, R, Stp.refl⟩
  | @lst μ μ' n ys xs hm t _ ih =>
    intro G R
    have hl : n < ρ.length := by rw [R.len]; exact (List.getElem?_eq_some_iff.mp hm).1
    obtain ⟨p, ep, hn, g, vs, h1, t1⟩ := R.at_ob (.ob (List.getElem?_eq_getElem hl)) hm
    have hx : AtD c (upd G p (.lst vs)) (.ref p) (.lst xs) := .lst upd_same ((PuAll.ok R t1 t).mono fun b w e => get_new g e)
    obtain ⟨R1, s1⟩ := R.frz hn hm g h1 hx
    obtain ⟨G2, R2, s2⟩ := ih R1
    exact ⟨G2, R2, s1.trans s2⟩
def bFree (b : BS) : BS := fun D α μ => ∃ μ1, Fz μ μ1 ∧ b D α μ1
theorem ss_free {t : TS} {b : BS} (hb : SS c E t b) : SS c E t (bFree b) := by
  refine ⟨?_⟩
  rintro ρ G H σ α μ D D' R e p ⟨μ1, hf, h⟩
  obtain ⟨G1, R1, s1⟩ := hf.ok R
  exact hb R1 (s1.env e) (p.step s1) h
end
section
variable {c : Cn}
/-! ### is True, is False -/
def oIsB (neg : Bool) : O2 := fun d1 d2 μ Q => ∃ a b, d1 = .d (.bl a) ∧ d2 = .d (.bl b) ∧ Q (.d (.bl (if neg = true then !decide (a = b) else decide (a = b)))) μ
theorem so_isB : SO c rIsB (oIsB false) := by
  refine ⟨?_⟩
  rintro ρ G H μ x y d1 d2 Q Q' R a1 a2 q ⟨a, b, rfl, rfl, h⟩
  exact ⟨a, b, at_bl a1, at_bl a2, q.here R (.d (.bl _)) h⟩
theorem so_notB : SO c rNotB (oIsB true) := by
  refine ⟨?_⟩
  rintro ρ G H μ x y d1 d2 Q Q' R a1 a2 q ⟨a, b, rfl, rfl, h⟩
  exact ⟨a, b, at_bl a1, at_bl a2, q.here R (.d (.bl _)) h⟩
end
end Mz
end
section
set_option Elab.async false
set_option linter.all false
set_option maxRecDepth 100000
set_option maxHeartbeats 4000000
namespace Mz
open PySem L2
/-! ### the law itself: a state is made, the rest runs over data -/
def spLaw (K : PySem.W.Frag) : Sp := fun vs H Q _ => ∃ (a : Addr) (ns : List Int), vs = [.ref a] ∧ SqL K H a (ns.map V.int) ∧ ns.length ≤ 63 ∧ ∀ H', Q (.bl true) H'
theorem law_ok {A : Ad} {K : PySem.W.Frag} {m : Nat} {t : TS} {b : BS} {N : List Str} (S : ∀ st, SS ⟨K, st⟩ E0 t b) (hN : N.length = m + 2)
    (hb : ∀ D : En, (∀ μ, D.rt (.d (.bl true)) μ) → D.er = noX → b D (none :: some (.d .st) :: List.replicate m none) []) {vs : List V} {H : Hp} {Q : VK} {E : XK} (h : spLaw K vs H Q E) :
    tSeq (tAsg (tCall (sp_law_fresh A K) [] E0 (tCons (tVar 0) tNil)) (gName 1)) t { nx := fun _ H' => Q .non H', rt := Q } (L2.start N vs) H := by
  obtain ⟨a, ns, rfl, hS, hl, k⟩ := h
  have e : L2.start N [V.ref a] = some (.ref a) :: none :: List.replicate m none := by
    unfold L2.start
    rw [hN]
    rfl
  rw [e]
  refine ⟨.ref a, rfl, fun _ => none, a, ns, rfl, fun _ _ z => (by cases z), hS, fun st G' H' hn g so => ?_⟩
  refine (S st).run (rel0 so g.gh) (α := none :: some (.d .st) :: List.replicate m none) (D' := { nx := fun _ _ => False, rt := fun d _ => d = .d (.bl true), er := noX, bk := fun _ _ => False, ct := fun _ _ => False }) (.un (.yes (.d .st) (env_none m))) ⟨?_, ?_, ?_, ?_, ?_⟩ (hb _ (fun _ => rfl) rfl)
  · intro α' μ' x; exact x.elim
  · rintro d μ' rfl v ρ' G1 H1 s' R' a'
    obtain rfl := at_bl a'
    exact k H1
  · intro α' μ' x; exact x.elim
  · intro α' μ' x; exact x.elim
  · intro e μ' x; exact x.elim
end Mz
end
section
set_option Elab.async false
set_option linter.all false
set_option maxRecDepth 100000
set_option maxHeartbeats 4000000
namespace Mz
open PySem L2
section
variable {c : Cn}
/-- x[i] by an own __getitem__ -/
def oOwnIx (C : Addr) (f : CF) : O2 := fun d1 d2 μ Q => (∃ fs, isV μ d1 = some (C, fs)) ∧ f [d1, d2] noX μ Q
theorem so_ownIx {C : Addr} {sp : Sp} {f : CF} (hs : SC c E0 E0 sp f) : SO c (rOwnIx C sp E0) (oOwnIx C f) := by
  refine ⟨?_⟩
  rintro ρ G H μ x y d1 d2 Q Q' R a1 a2 q ⟨⟨fs, e1⟩, h⟩
  obtain ⟨p, dx, fvs, rfl, h2, _⟩ := isV_ok R a1 e1
  exact ⟨p, dx, fvs, rfl, h2, hs R (.cons a1 (.cons a2 .nil)) px_no q h⟩
/-- v in x, v not in x by an own __contains__ -/
def oOwnIn (neg : Bool) (C : Addr) (f : CF) : O2 := fun d1 d2 μ Q => (∃ fs, isV μ d2 = some (C, fs)) ∧ f [d2, d1] noX μ fun d μ2 => ∃ r, d = .d (.bl r) ∧ Q (.d (.bl (if neg = true then !r else r))) μ2
theorem so_ownIn {neg : Bool} {C : Addr} {sp : Sp} {f : CF} (hs : SC c E0 E0 sp f) : SO c (rOwnIn neg C sp E0) (oOwnIn neg C f) := by
  refine ⟨?_⟩
  rintro ρ G H μ x y d1 d2 Q Q' R a1 a2 q ⟨⟨fs, e1⟩, h⟩
  obtain ⟨p, dx, fvs, rfl, h2, _⟩ := isV_ok R a2 e1
  refine ⟨p, dx, fvs, rfl, h2, ?_⟩
  refine hs R (.cons a2 (.cons a1 .nil)) px_no ?_ h
  rintro d μ2 ⟨r, rfl, h4⟩ v ρ2 G2 H2 s2 R2 a4
  obtain rfl := at_bl a4
  exact ⟨r, rfl, (q.step s2).here R2 (.d (.bl _)) h4⟩
end
section
variable {c : Cn} {E : XK}
/-- C(..), the last arguments defaults that the top has written -/
def mMakeD (C : Addr) (f : CF) (dds : List Da) (r : AS) : ES := fun E α μ Q => r E α μ fun ds μ1 => f (.ob μ1.length :: (ds ++ dds.map .d)) E (μ1 ++ [.ins C []]) fun d μ2 => d = .d .non ∧ Q (.ob μ1.length) μ2
theorem se_makeD {E1 : XK} {C : Addr} {sp : Sp} {f : CF} {tr : TA} {r : AS} {dvs : List V} {dds : List Da} (hd : ∀ G, AtDs c G dvs dds) (hs : SC c E E1 sp f) (hr : SA c E tr r) : SE c E (tMake C sp dvs E1 tr) (mMakeD C f dds r) := by
  refine ⟨?_⟩
  intro ρ G H σ α μ Q E' Q' R e px q h
  refine hr R e px ?_ h
  intro ds μ1 h1 vs ρ1 G1 H1 s1 R1 a1 x dx hx hdx hxd
  exact make_step hs R1 (a1.append (hd G1).up) (px.step s1) (q.step s1) h1 hx hdx hxd
end
end Mz
end
section
set_option Elab.async false
set_option linter.all false
set_option maxRecDepth 100000
set_option maxHeartbeats 4000000
namespace Mz
open PySem L2
def strT (ss : List Str) : Da := .tup (ss.map Da.str)
abbrev w_HANDS : Da := strT ["self", "new", "last"]
abbrev w_DEEDS_one : Da := strT ["set", "clear"]
abbrev w_DEEDS_many : Da := strT ["add", "strike", "fresh", "clear"]
@[irreducible] def m_law_take (A : Ad) (K : PySem.W.Frag) : PF := fNo fTake
theorem ne_law_take {A : Ad} {K : PySem.W.Frag} : NoE (m_law_take A K) := by unfold m_law_take; exact fun _ _ _ h => h
def b_law_one (A : Ad) (K : PySem.W.Frag) : BS :=
 (bRet (mOp oIx (mVar 1) (mCall (cP (m_law_take A K)) (mCons (mVar 0) (mCons (mCB oLen (mCons (mVar 1) mNil)) mNil)))))
@[irreducible] def m_law_one (A : Ad) (K : PySem.W.Frag) : PF := fNo (fPure 2 2 (b_law_one A K))
theorem ne_law_one {A : Ad} {K : PySem.W.Frag} : NoE (m_law_one A K) := by unfold m_law_one; exact fun _ _ _ h => h
def w_law_mix_1 (A : Ad) (K : PySem.W.Frag) : BS := (bDrop (mBM oAppend (mVar 3) (mCons (mBM oPopAt (mVar 2) (mCons (mCall (cP (m_law_take A K)) (mCons (mVar 0) (mCons (mCB oLen (mCons (mVar 2) mNil)) mNil))) mNil)) mNil)))
def k_law_mix_2 (A : Ad) (K : PySem.W.Frag) : BS := (bRet (mVar 3))
def b_law_mix (A : Ad) (K : PySem.W.Frag) : BS :=
 (bSeq (bPar 2 3 (mCons (mCB oList (mCons (mVar 1) mNil)) (mCons (mLst mNil) mNil)))
 (bSeq (bWhile (mT (mOp (oEqD true) (mVar 2) (mLst mNil))) (w_law_mix_1 A K))
 (k_law_mix_2 A K)))
@[irreducible] def m_law_mix (A : Ad) (K : PySem.W.Frag) : PF := fNo (fPure 4 2 (b_law_mix A K))
theorem ne_law_mix {A : Ad} {K : PySem.W.Frag} : NoE (m_law_mix A K) := by unfold m_law_mix; exact fun _ _ _ h => h
def b_is_integer (A : Ad) (K : PySem.W.Frag) : BS :=
 (bRet (mAndV (mCB (oIsi K) (mCons (mVar 0) (mCons (mC (.d (.ty "int"))) mNil))) (mNotV (mCB (oIsi K) (mCons (mVar 0) (mCons (mC (.d (.ty "bool"))) mNil))))))
@[irreducible] def m_is_integer (A : Ad) (K : PySem.W.Frag) : PF := fNo (fPure 1 1 (b_is_integer A K))
theorem ne_is_integer {A : Ad} {K : PySem.W.Frag} : NoE (m_is_integer A K) := by unfold m_is_integer; exact fun _ _ _ h => h
def b_is_between (A : Ad) (K : PySem.W.Frag) : BS :=
 (bRet (mAndV (mCall (cP (m_is_integer A K)) (mCons (mVar 0) mNil)) (mChain oLe oLe (mVar 1) (mVar 0) (mVar 2))))
@[irreducible] def m_is_between (A : Ad) (K : PySem.W.Frag) : PF := fNo (fPure 3 3 (b_is_between A K))
theorem ne_is_between {A : Ad} {K : PySem.W.Frag} : NoE (m_is_between A K) := by unfold m_is_between; exact fun _ _ _ h => h
def b_is_list (A : Ad) (K : PySem.W.Frag) : BS :=
 (bRet (mIsT K (mVar 0) (mCons (mC (.d (.ty "list"))) (mCons (mC (.d (.ty "tuple"))) mNil))))
@[irreducible] def m_is_list (A : Ad) (K : PySem.W.Frag) : PF := fNo (fPure 1 1 (b_is_list A K))
theorem ne_is_list {A : Ad} {K : PySem.W.Frag} : NoE (m_is_list A K) := by unfold m_is_list; exact fun _ _ _ h => h
def b_is_row (A : Ad) (K : PySem.W.Frag) : BS :=
 (bRet (mAndV (mCall (cP (m_is_list A K)) (mCons (mVar 0) mNil)) (mOp (oEq false) (mCB oLen (mCons (mVar 0) mNil)) (mVar 1))))
@[irreducible] def m_is_row (A : Ad) (K : PySem.W.Frag) : PF := fNo (fPure 2 2 (b_is_row A K))
theorem ne_is_row {A : Ad} {K : PySem.W.Frag} : NoE (m_is_row A K) := by unfold m_is_row; exact fun _ _ _ h => h
def b_is_word (A : Ad) (K : PySem.W.Frag) : BS :=
 (bSeq (bIf (mOrT (mNotT (mT (mCB (oIsi K) (mCons (mVar 0) (mCons (mC (.d (.ty "str"))) mNil))))) (mNotT (mT (mChain oLe oLe (mC (.d (.int 1))) (mCB oLen (mCons (mVar 0) mNil)) (mC (.d (.int 8)))))))
 (bRet (mC (.d (.bl false))))
 bNext)
 (bRet (mCB oAll (mCons (mLc (miStr (mVar 0)) (nName 1) mYes (mOp (oInS false) (mVar 1) (mC (.d (.str "abcdefghijklmnopqrstuvwxyz")))) [1]) mNil))))
@[irreducible] def m_is_word (A : Ad) (K : PySem.W.Frag) : PF := fNo (fPure 2 1 (b_is_word A K))
theorem ne_is_word {A : Ad} {K : PySem.W.Frag} : NoE (m_is_word A K) := by unfold m_is_word; exact fun _ _ _ h => h
def b_are_unlike (A : Ad) (K : PySem.W.Frag) : BS :=
 (bRet (mOp (oEq false) (mCB oLen (mCons (mDc (miSq (mVar 0)) (nName 1) mYes (mVar 1) (mC (.d (.bl true))) [1]) mNil)) (mCB oLen (mCons (mVar 0) mNil))))
@[irreducible] def m_are_unlike (A : Ad) (K : PySem.W.Frag) : PF := fNo (fPure 2 1 (b_are_unlike A K))
theorem ne_are_unlike {A : Ad} {K : PySem.W.Frag} : NoE (m_are_unlike A K) := by unfold m_are_unlike; exact fun _ _ _ h => h
def b_is_number (A : Ad) (K : PySem.W.Frag) : BS :=
 (bSeq (bIf (mT (mOp (oIn false) (mVar 0) (mTup (mCons (mC (.d (.str "0"))) (mCons (mC (.d (.str "-1"))) mNil)))))
 (bRet (mC (.d (.bl true))))
 bNext)
 (bRet (mAndV (mOp (oEq true) (mVar 0) (mC (.d (.str "")))) (mAndV (mOp (oEq true) (mOp oIx (mVar 0) (mC (.d (.int 0)))) (mC (.d (.str "0")))) (mCB oAll (mCons (mLc (miStr (mVar 0)) (nName 1) mYes (mOp (oInS false) (mVar 1) (mC (.d (.str "0123456789")))) [1]) mNil))))))
@[irreducible] def m_is_number (A : Ad) (K : PySem.W.Frag) : PF := fNo (fPure 2 1 (b_is_number A K))
theorem ne_is_number {A : Ad} {K : PySem.W.Frag} : NoE (m_is_number A K) := by unfold m_is_number; exact fun _ _ _ h => h
def l_number_of_1 (A : Ad) (K : PySem.W.Frag) : BS := (bAsg (mOp oAdd (mOp oMul (mC (.d (.int 10))) (mVar 1)) (mSBM oSIndex (mC (.d (.str "0123456789"))) (mCons (mVar 2) mNil))) (nName 1))
def k_number_of_2 (A : Ad) (K : PySem.W.Frag) : BS := (bRet (mIf (mT (mOp (oEq false) (mOp oIx (mVar 0) (mC (.d (.int 0)))) (mC (.d (.str "-"))))) (mNeg (mVar 1)) (mVar 1)))
def b_number_of (A : Ad) (K : PySem.W.Frag) : BS :=
 (bSeq (bAsg (mC (.d (.int 0))) (nName 1))
 (bSeq (bFor (miStr (mIf (mT (mOp (oEq false) (mOp oIx (mVar 0) (mC (.d (.int 0)))) (mC (.d (.str "-"))))) (mSl oSlStr (mVar 0) (mPart (mC (.d (.int 1)))) mNoPart) (mVar 0))) (nName 2) (l_number_of_1 A K))
 (k_number_of_2 A K)))
@[irreducible] def m_number_of (A : Ad) (K : PySem.W.Frag) : PF := fNo (fPure 3 1 (b_number_of A K))
theorem ne_number_of {A : Ad} {K : PySem.W.Frag} : NoE (m_number_of A K) := by unfold m_number_of; exact fun _ _ _ h => h
def l_checked_fields_1 (A : Ad) (K : PySem.W.Frag) : BS := (bSeq (bAsg (mAndV (mCall (cP (m_is_row A K)) (mCons (mVar 3) (mCons (mC (.d (.int 3))) mNil))) (mAndV (mCall (cP (m_is_word A K)) (mCons (mOp oIx (mVar 3) (mC (.d (.int 0)))) mNil)) (mCB (oIsi K) (mCons (mOp oIx (mVar 3) (mC (.d (.int 2)))) (mCons (mC (.d (.ty "bool"))) mNil))))) (nName 4))
 (bSeq (bIf (mOrT (mT (mOp (oEq false) (mVar 2) (mC (.d (.int 3))))) (mOrT (mNotT (mT (mVar 4))) (mT (mOp (oIn true) (mOp oIx (mVar 3) (mC (.d (.int 1)))) (mTup (mCons (mC (.d (.str "one"))) (mCons (mC (.d (.str "many"))) mNil)))))))
 bNever
 bNext)
 (bSeq (bIf (mT (mOp (oIn false) (mOp oIx (mVar 3) (mC (.d (.int 0)))) (mLc (miSq (mVar 1)) (nName 5) mYes (mOp oIx (mVar 5) (mC (.d (.int 0)))) [5])))
 bNever
 bNext)
 (bDrop (mBM oAppend (mVar 1) (mCons (mCB oTuple (mCons (mVar 3) mNil)) mNil))))))
def k_checked_fields_2 (A : Ad) (K : PySem.W.Frag) : BS := (bRet (mVar 1))
def b_checked_fields (A : Ad) (K : PySem.W.Frag) : BS :=
 (bSeq (bIf (mOrT (mNotT (mT (mCall (cP (m_is_list A K)) (mCons (mVar 0) mNil)))) (mT (mOp (oEq false) (mCB oLen (mCons (mVar 0) mNil)) (mC (.d (.int 0))))))
 bNever
 bNext)
 (bSeq (bAsg (mLst mNil) (nName 1))
 (bSeq (bFor (miEn (mVar 0)) (nTup 2 (nCons (nName 2) (nCons (nName 3) nNil))) (l_checked_fields_1 A K))
 (k_checked_fields_2 A K))))
@[irreducible] def m_checked_fields (A : Ad) (K : PySem.W.Frag) : PF := fNo (fPure 6 1 (b_checked_fields A K))
theorem ne_checked_fields {A : Ad} {K : PySem.W.Frag} : NoE (m_checked_fields A K) := by unfold m_checked_fields; exact fun _ _ _ h => h
def b_is_deed (A : Ad) (K : PySem.W.Frag) : BS :=
 (bSeq (bIf (mOrT (mNotT (mT (mCall (cP (m_is_row A K)) (mCons (mVar 0) (mCons (mC (.d (.int 2))) mNil))))) (mOrT (mNotT (mT (mCB (oIsi K) (mCons (mOp oIx (mVar 0) (mC (.d (.int 1)))) (mCons (mC (.d (.ty "str"))) mNil))))) (mT (mDIn true (mOp oIx (mVar 0) (mC (.d (.int 1)))) (mVar 1)))))
 (bRet (mC (.d (.bl false))))
 bNext)
 (bRet (mAndV (mCB (oIsi K) (mCons (mOp oIx (mVar 0) (mC (.d (.int 0)))) (mCons (mC (.d (.ty "str"))) mNil))) (mOp (oIn false) (mOp oIx (mVar 0) (mC (.d (.int 0)))) (mOp (oKD2 A.DEEDS "one" "many" w_DEEDS_one w_DEEDS_many) (mC (.d (.cls A.DEEDS))) (mDGet (mVar 1) (mOp oIx (mVar 0) (mC (.d (.int 1))))))))))
@[irreducible] def m_is_deed (A : Ad) (K : PySem.W.Frag) : PF := fNo (fPure 2 2 (b_is_deed A K))
theorem ne_is_deed {A : Ad} {K : PySem.W.Frag} : NoE (m_is_deed A K) := by unfold m_is_deed; exact fun _ _ _ h => h
def b_is_same (A : Ad) (K : PySem.W.Frag) : BS :=
 (bSeq (bIf (mNotT (mT (mCB oAll (mCons (mLc (miSq (mVar 0)) (nName 3) mYes (mAndV (mCB (oIsi K) (mCons (mVar 3) (mCons (mC (.d (.ty "str"))) mNil))) (mOp (oEq false) (mDGet1 (mVar 2) (mVar 3)) (mC (.d (.str "many"))))) [3]) mNil))))
 (bRet (mC (.d (.bl false))))
 bNext)
 (bRet (mAndV (mCall (cP (m_are_unlike A K)) (mCons (mVar 0) mNil)) (mOrV (mOp (oEq true) (mVar 1) (mC (.d (.str "self")))) (mOp (oEq false) (mCB oLen (mCons (mVar 0) mNil)) (mC (.d (.int 0))))))))
@[irreducible] def m_is_same (A : Ad) (K : PySem.W.Frag) : PF := fNo (fPure 4 3 (b_is_same A K))
theorem ne_is_same {A : Ad} {K : PySem.W.Frag} : NoE (m_is_same A K) := by unfold m_is_same; exact fun _ _ _ h => h
def b_reason_against (A : Ad) (K : PySem.W.Frag) : BS :=
 (bSeq (bIf (mOrT (mNotT (mT (mCall (cP (m_is_row A K)) (mCons (mVar 0) (mCons (mC (.d (.int 5))) mNil))))) (mNotT (mT (mCB oAll (mCons (mLc (miSq (mSl oSlM (mVar 0) mNoPart (mPart (mC (.d (.int 2)))))) (nName 4) mYes (mCB (oIsi K) (mCons (mVar 4) (mCons (mC (.d (.ty "str"))) mNil))) [4]) mNil)))))
 (bRet (mC (.d (.str "call"))))
 bNext)
 (bSeq (bIf (mNotT (mT (mCB oAll (mCons (mLc (miSq (mSl oSlM (mVar 0) (mPart (mC (.d (.int 2)))) mNoPart)) (nName 4) mYes (mCall (cP (m_is_list A K)) (mCons (mVar 4) mNil)) [4]) mNil))))
 (bRet (mC (.d (.str "call"))))
 bNext)
 (bSeq (bAsg (mVar 0) (nSeq 5 (nCons (nName 5) (nCons (nName 6) (nCons (nName 7) (nCons (nName 8) (nCons (nName 9) nNil)))))))
 (bSeq (bIf (mOrT (mNotT (mT (mCall (cP (m_is_word A K)) (mCons (mVar 5) mNil)))) (mT (mOp (oIn false) (mVar 5) (mVar 3))))
 (bRet (mC (.d (.str "name"))))
 bNext)
 (bSeq (bIf (mT (mOp (oIn true) (mVar 6) (mC (.d w_HANDS))))
 (bRet (mC (.d (.str "hand"))))
 bNext)
 (bSeq (bIf (mOrT (mT (mOp (oEq true) (mCB oLen (mCons (mVar 7) mNil)) (mVar 2))) (mNotT (mT (mCB oAll (mCons (mLc (miSq (mVar 7)) (nName 10) mYes (mCall (cP (m_is_between A K)) (mCons (mVar 10) (mCons (mNeg (mC (.d (.int 1)))) (mCons (mOp oSub (mVar 2) (mC (.d (.int 1)))) mNil)))) [10]) mNil)))))
 (bRet (mC (.d (.str "moves"))))
 bNext)
 (bSeq (bIf (mOrT (mT (mOp oGt (mCB oLen (mCons (mVar 8) mNil)) (mC (.d (.int 4))))) (mNotT (mT (mCB oAll (mCons (mLc (miSq (mVar 8)) (nName 11) mYes (mCall (cP (m_is_deed A K)) (mCons (mVar 11) (mCons (mVar 1) mNil))) [11]) mNil)))))
 (bRet (mC (.d (.str "deed"))))
 bNext)
 (bSeq (bIf (mNotT (mT (mCall (cP (m_are_unlike A K)) (mCons (mLc (miSq (mVar 8)) (nName 11) (mT (mOp (oIn false) (mOp oIx (mVar 11) (mC (.d (.int 0)))) (mTup (mCons (mC (.d (.str "add"))) (mCons (mC (.d (.str "strike"))) mNil))))) (mOp oIx (mVar 11) (mC (.d (.int 1)))) [11]) mNil))))
 (bRet (mC (.d (.str "deed"))))
 bNext)
 (bRet (mIf (mT (mCall (cP (m_is_same A K)) (mCons (mVar 9) (mCons (mVar 6) (mCons (mVar 1) mNil))))) (mC (.d .non)) (mC (.d (.str "same")))))))))))))
@[irreducible] def m_reason_against (A : Ad) (K : PySem.W.Frag) : PF := fNo (fPure 12 4 (b_reason_against A K))
theorem ne_reason_against {A : Ad} {K : PySem.W.Frag} : NoE (m_reason_against A K) := by unfold m_reason_against; exact fun _ _ _ h => h
def l_checked_calls_1 (A : Ad) (K : PySem.W.Frag) : BS := (bSeq (bAsg (mIf (mT (mOp (oEq false) (mVar 4) (mC (.d (.int 6))))) (mC (.d (.str "call"))) (mCall (cP (m_reason_against A K)) (mCons (mVar 5) (mCons (mVar 1) (mCons (mVar 2) (mCons (mLc (miSq (mVar 3)) (nName 7) mYes (mOp oIx (mVar 7) (mC (.d (.int 0)))) [7]) mNil)))))) (nName 6))
 (bSeq (bIf (mT (mOp (oIsN true) (mVar 6) (mC (.d .non))))
 bNever
 bNext)
 (bSeq (bAsg (mVar 5) (nSeq 5 (nCons (nName 8) (nCons (nName 9) (nCons (nName 10) (nCons (nName 11) (nCons (nName 12) nNil)))))))
 (bDrop (mBM oAppend (mVar 3) (mCons (mTup (mCons (mVar 8) (mCons (mVar 9) (mCons (mCB oTuple (mCons (mVar 10) mNil)) (mCons (mCB oTuple (mCons (mLc (miSq (mVar 11)) (nName 13) mYes (mCB oTuple (mCons (mVar 13) mNil)) [13]) mNil)) (mCons (mCB oTuple (mCons (mVar 12) mNil)) mNil)))))) mNil))))))
def k_checked_calls_2 (A : Ad) (K : PySem.W.Frag) : BS := (bRet (mVar 3))
def b_checked_calls (A : Ad) (K : PySem.W.Frag) : BS :=
 (bSeq (bIf (mOrT (mNotT (mT (mCall (cP (m_is_list A K)) (mCons (mVar 0) mNil)))) (mT (mOp (oEq false) (mCB oLen (mCons (mVar 0) mNil)) (mC (.d (.int 0))))))
 bNever
 bNext)
 (bSeq (bAsg (mLst mNil) (nName 3))
 (bSeq (bFor (miEn (mVar 0)) (nTup 2 (nCons (nName 4) (nCons (nName 5) nNil))) (l_checked_calls_1 A K))
 (k_checked_calls_2 A K))))
@[irreducible] def m_checked_calls (A : Ad) (K : PySem.W.Frag) : PF := fNo (fPure 14 3 (b_checked_calls A K))
theorem ne_checked_calls {A : Ad} {K : PySem.W.Frag} : NoE (m_checked_calls A K) := by unfold m_checked_calls; exact fun _ _ _ h => h
def b_Kind___init__ (A : Ad) (K : PySem.W.Frag) : BS :=
 (bSeq (bFld A.Kind "field_rows" (mVar 0) (mCall (cP (m_checked_fields A K)) (mCons (mVar 1) mNil)))
 (bSeq (bIf (mNotT (mT (mCall (cP (m_is_between A K)) (mCons (mVar 3) (mCons (mC (.d (.int 1))) (mCons (mC (.d (.int 4))) mNil))))))
 bNever
 bNext)
 (bSeq (bFld A.Kind "modes" (mVar 0) (mVar 3))
 (bSeq (bFld A.Kind "sorts" (mVar 0) (mDc (miSq (mFld A.Kind "field_rows" (mVar 0))) (nTup 3 (nCons (nName 4) (nCons (nName 5) (nCons (nName 6) nNil)))) mYes (mVar 4) (mVar 5) [4, 5, 6]))
 (bSeq (bFld A.Kind "call_rows" (mVar 0) (mCall (cP (m_checked_calls A K)) (mCons (mVar 2) (mCons (mFld A.Kind "sorts" (mVar 0)) (mCons (mVar 3) mNil)))))
 (bFld A.Kind "name_list" (mVar 0) (mLc (miSq (mFld A.Kind "call_rows" (mVar 0))) (nName 7) mYes (mOp oIx (mVar 7) (mC (.d (.int 0)))) [7])))))))
@[irreducible] def m_Kind___init__ (A : Ad) (K : PySem.W.Frag) : OF := fNoO (fOpen 8 4 (b_Kind___init__ A K))
theorem ne_Kind___init__ {A : Ad} {K : PySem.W.Frag} : NoEO (m_Kind___init__ A K) := by unfold m_Kind___init__; exact fun _ _ _ _ h => h
def l_Kind_text_1 (A : Ad) (K : PySem.W.Frag) : BS := (bDrop (mBM oAppend (mVar 1) (mCons (mOp oAddS (mJoined [(mC (.d (.str "field "))), (mFmt (mVar 2)), (mC (.d (.str " "))), (mFmt (mVar 3))]) (mIf (mT (mVar 4)) (mC (.d (.str " need"))) (mC (.d (.str ""))))) mNil)))
def l_Kind_text_2 (A : Ad) (K : PySem.W.Frag) : BS := (bSeq (bDrop (mBM oAppend (mVar 1) (mCons (mM1 oJoin (mC (.d (.str " "))) (mOp oCat (mLst (mCons (mC (.d (.str "call"))) (mCons (mVar 2) (mCons (mVar 5) mNil)))) (mLc (miSq (mVar 6)) (nName 9) mYes (mCB oStr (mCons (mVar 9) mNil)) [9]))) mNil)))
 (bSeq (bDrop (mBM oExtend (mVar 1) (mCons (mLc (miSq (mVar 7)) (nTup 2 (nCons (nName 10) (nCons (nName 11) nNil))) mYes (mJoined [(mC (.d (.str "do "))), (mFmt (mVar 10)), (mC (.d (.str " "))), (mFmt (mVar 11))]) [10, 11]) mNil)))
 (bDrop (mBM oExtend (mVar 1) (mCons (mLc (miSq (mVar 8)) (nName 11) mYes (mJoined [(mC (.d (.str "same "))), (mFmt (mVar 11))]) [11]) mNil)))))
def k_Kind_text_3 (A : Ad) (K : PySem.W.Frag) : BS := (bRet (mM1 oJoin (mC (.d (.str ""))) (mLc (miSq (mVar 1)) (nName 12) mYes (mOp oAddS (mVar 12) (mC (.d (.str "\n")))) [12])))
def k_Kind_text_4 (A : Ad) (K : PySem.W.Frag) : BS := (bSeq (bFor (miSq (mFld A.Kind "call_rows" (mVar 0))) (nTup 5 (nCons (nName 2) (nCons (nName 5) (nCons (nName 6) (nCons (nName 7) (nCons (nName 8) nNil)))))) (l_Kind_text_2 A K))
 (k_Kind_text_3 A K))
def b_Kind_text (A : Ad) (K : PySem.W.Frag) : BS :=
 (bSeq (bAsg (mLst (mCons (mJoined [(mC (.d (.str "modes "))), (mFmt (mFld A.Kind "modes" (mVar 0)))]) mNil)) (nName 1))
 (bSeq (bFor (miSq (mFld A.Kind "field_rows" (mVar 0))) (nTup 3 (nCons (nName 2) (nCons (nName 3) (nCons (nName 4) nNil)))) (l_Kind_text_1 A K))
 (k_Kind_text_4 A K)))
@[irreducible] def m_Kind_text (A : Ad) (K : PySem.W.Frag) : PF := fNo (fPure 13 1 (b_Kind_text A K))
theorem ne_Kind_text {A : Ad} {K : PySem.W.Frag} : NoE (m_Kind_text A K) := by unfold m_Kind_text; exact fun _ _ _ h => h
def b_Kind___eq__ (A : Ad) (K : PySem.W.Frag) : BS :=
 (bSeq (bIf (mOrT (mNotT (mT (mCB (oIsi K) (mCons (mVar 1) (mCons (mC (.d (.cls A.Kind))) mNil))))) (mT (mOp (oEq true) (mFld A.Kind "modes" (mVar 0)) (mFld A.Kind "modes" (mVar 1)))))
 (bRet (mC (.d (.bl false))))
 bNext)
 (bRet (mAndV (mOp (oEqD false) (mFld A.Kind "field_rows" (mVar 0)) (mFld A.Kind "field_rows" (mVar 1))) (mOp (oEqD false) (mFld A.Kind "call_rows" (mVar 0)) (mFld A.Kind "call_rows" (mVar 1))))))
@[irreducible] def m_Kind___eq__ (A : Ad) (K : PySem.W.Frag) : PF := fNo (fPure 2 2 (b_Kind___eq__ A K))
theorem ne_Kind___eq__ {A : Ad} {K : PySem.W.Frag} : NoE (m_Kind___eq__ A K) := by unfold m_Kind___eq__; exact fun _ _ _ h => h
def b_TextReader___init__ (A : Ad) (K : PySem.W.Frag) : BS :=
 (bSeq (bFld A.TextReader "modes_read" (mVar 0) (mC (.d (.int 0))))
 (bSeq (bFld A.TextReader "fields_read" (mVar 0) (mLst mNil))
 (bFld A.TextReader "calls_read" (mVar 0) (mLst mNil))))
@[irreducible] def m_TextReader___init__ (A : Ad) (K : PySem.W.Frag) : OF := fNoO (fOpen 1 1 (b_TextReader___init__ A K))
theorem ne_TextReader___init__ {A : Ad} {K : PySem.W.Frag} : NoEO (m_TextReader___init__ A K) := by unfold m_TextReader___init__; exact fun _ _ _ _ h => h
def b_TextReader_takes_modes (A : Ad) (K : PySem.W.Frag) : BS :=
 (bSeq (bIf (mOrT (mT (mOp (oEq true) (mCB oLen (mCons (mVar 1) mNil)) (mC (.d (.int 2))))) (mOrT (mNotT (mT (mCall (cP (m_is_number A K)) (mCons (mOp oIx (mVar 1) (mC (.d (.int 1)))) mNil)))) (mT (mOp (oEq false) (mOp oIx (mVar 1) (mC (.d (.int 1)))) (mC (.d (.str "-1")))))))
 (bRet (mC (.d (.bl false))))
 bNext)
 (bSeq (bFld A.TextReader "modes_read" (mVar 0) (mCall (cP (m_number_of A K)) (mCons (mOp oIx (mVar 1) (mC (.d (.int 1)))) mNil)))
 (bRet (mC (.d (.bl true))))))
@[irreducible] def m_TextReader_takes_modes (A : Ad) (K : PySem.W.Frag) : OF := fNoO (fOpen 2 2 (b_TextReader_takes_modes A K))
theorem ne_TextReader_takes_modes {A : Ad} {K : PySem.W.Frag} : NoEO (m_TextReader_takes_modes A K) := by unfold m_TextReader_takes_modes; exact fun _ _ _ _ h => h
def b_TextReader_takes_field (A : Ad) (K : PySem.W.Frag) : BS :=
 (bSeq (bIf (mOrT (mT (mOp (oEqD true) (mFld A.TextReader "calls_read" (mVar 0)) (mLst mNil))) (mOrT (mT (mOp (oIn true) (mCB oLen (mCons (mVar 1) mNil)) (mTup (mCons (mC (.d (.int 3))) (mCons (mC (.d (.int 4))) mNil))))) (mNotT (mT (mCall (cP (m_is_word A K)) (mCons (mOp oIx (mVar 1) (mC (.d (.int 1)))) mNil))))))
 (bRet (mC (.d (.bl false))))
 bNext)
 (bSeq (bIf (mOrT (mNotT (mT (mCall (cP (m_is_word A K)) (mCons (mOp oIx (mVar 1) (mC (.d (.int 2)))) mNil)))) (mT (mOp (oInDT true) (mSl oSlL (mVar 1) (mPart (mC (.d (.int 3)))) mNoPart) (mTup (mCons (mLst mNil) (mCons (mLst (mCons (mC (.d (.str "need"))) mNil)) mNil))))))
 (bRet (mC (.d (.bl false))))
 bNext)
 (bSeq (bDrop (mBM oAppend (mFld A.TextReader "fields_read" (mVar 0)) (mCons (mTup (mCons (mOp oIx (mVar 1) (mC (.d (.int 1)))) (mCons (mOp oIx (mVar 1) (mC (.d (.int 2)))) (mCons (mOp (oEq false) (mCB oLen (mCons (mVar 1) mNil)) (mC (.d (.int 4)))) mNil)))) mNil)))
 (bRet (mC (.d (.bl true)))))))
@[irreducible] def m_TextReader_takes_field (A : Ad) (K : PySem.W.Frag) : OF := fNoO (fOpen 2 2 (b_TextReader_takes_field A K))
theorem ne_TextReader_takes_field {A : Ad} {K : PySem.W.Frag} : NoEO (m_TextReader_takes_field A K) := by unfold m_TextReader_takes_field; exact fun _ _ _ _ h => h
def b_TextReader_takes_call (A : Ad) (K : PySem.W.Frag) : BS :=
 (bSeq (bIf (mOrT (mT (mOp oLt (mCB oLen (mCons (mVar 1) mNil)) (mC (.d (.int 3))))) (mOrT (mNotT (mT (mCall (cP (m_is_word A K)) (mCons (mOp oIx (mVar 1) (mC (.d (.int 1)))) mNil)))) (mNotT (mT (mCall (cP (m_is_word A K)) (mCons (mOp oIx (mVar 1) (mC (.d (.int 2)))) mNil))))))
 (bRet (mC (.d (.bl false))))
 bNext)
 (bSeq (bIf (mNotT (mT (mCB oAll (mCons (mLc (miSq (mSl oSlL (mVar 1) (mPart (mC (.d (.int 3)))) mNoPart)) (nName 2) mYes (mCall (cP (m_is_number A K)) (mCons (mVar 2) mNil)) [2]) mNil))))
 (bRet (mC (.d (.bl false))))
 bNext)
 (bSeq (bDrop (mBM oAppend (mFld A.TextReader "calls_read" (mVar 0)) (mCons (mTup (mCons (mOp oIx (mVar 1) (mC (.d (.int 1)))) (mCons (mOp oIx (mVar 1) (mC (.d (.int 2)))) (mCons (mLc (miSq (mSl oSlL (mVar 1) (mPart (mC (.d (.int 3)))) mNoPart)) (nName 2) mYes (mCall (cP (m_number_of A K)) (mCons (mVar 2) mNil)) [2]) (mCons (mLst mNil) (mCons (mLst mNil) mNil)))))) mNil)))
 (bRet (mC (.d (.bl true)))))))
@[irreducible] def m_TextReader_takes_call (A : Ad) (K : PySem.W.Frag) : OF := fNoO (fOpen 3 2 (b_TextReader_takes_call A K))
theorem ne_TextReader_takes_call {A : Ad} {K : PySem.W.Frag} : NoEO (m_TextReader_takes_call A K) := by unfold m_TextReader_takes_call; exact fun _ _ _ _ h => h
def b_TextReader_takes_part (A : Ad) (K : PySem.W.Frag) : BS :=
 (bSeq (bAsg (mOp oIx (mFld A.TextReader "calls_read" (mVar 0)) (mNeg (mC (.d (.int 1))))) (nTup 5 (nCons (nName 2) (nCons (nName 3) (nCons (nName 4) (nCons (nName 5) (nCons (nName 6) nNil)))))))
 (bSeq (bIf (mAndT (mT (mOp (oEq false) (mOp oIx (mVar 1) (mC (.d (.int 0)))) (mC (.d (.str "do"))))) (mAndT (mT (mOp (oEq false) (mCB oLen (mCons (mVar 1) mNil)) (mC (.d (.int 3))))) (mAndT (mT (mCall (cP (m_is_word A K)) (mCons (mOp oIx (mVar 1) (mC (.d (.int 1)))) mNil))) (mT (mCall (cP (m_is_word A K)) (mCons (mOp oIx (mVar 1) (mC (.d (.int 2)))) mNil))))))
 (bSeq (bDrop (mBM oAppend (mVar 5) (mCons (mTup (mCons (mOp oIx (mVar 1) (mC (.d (.int 1)))) (mCons (mOp oIx (mVar 1) (mC (.d (.int 2)))) mNil))) mNil)))
 (bRet (mOp (oEqD false) (mVar 6) (mLst mNil))))
 bNext)
 (bSeq (bIf (mAndT (mT (mOp (oEq false) (mOp oIx (mVar 1) (mC (.d (.int 0)))) (mC (.d (.str "same"))))) (mAndT (mT (mOp (oEq false) (mCB oLen (mCons (mVar 1) mNil)) (mC (.d (.int 2))))) (mT (mCall (cP (m_is_word A K)) (mCons (mOp oIx (mVar 1) (mC (.d (.int 1)))) mNil)))))
 (bSeq (bDrop (mBM oAppend (mVar 6) (mCons (mOp oIx (mVar 1) (mC (.d (.int 1)))) mNil)))
 (bRet (mC (.d (.bl true)))))
 bNext)
 (bRet (mC (.d (.bl false)))))))
@[irreducible] def m_TextReader_takes_part (A : Ad) (K : PySem.W.Frag) : OF := fNoO (fOpen 7 2 (b_TextReader_takes_part A K))
theorem ne_TextReader_takes_part {A : Ad} {K : PySem.W.Frag} : NoEO (m_TextReader_takes_part A K) := by unfold m_TextReader_takes_part; exact fun _ _ _ _ h => h
def b_TextReader_takes_line (A : Ad) (K : PySem.W.Frag) : BS :=
 (bSeq (bIf (mT (mOp (oEq true) (mOp (oEq false) (mOp oIx (mVar 1) (mC (.d (.int 0)))) (mC (.d (.str "modes")))) (mOp (oEq false) (mVar 2) (mC (.d (.int 0))))))
 (bRet (mC (.d (.bl false))))
 bNext)
 (bSeq (bIf (mT (mOp (oEq false) (mOp oIx (mVar 1) (mC (.d (.int 0)))) (mC (.d (.str "modes")))))
 (bRet (mMeth A.TextReader "takes_modes" (cO (m_TextReader_takes_modes A K)) (mVar 0) (mCons (mVar 1) mNil)))
 bNext)
 (bSeq (bIf (mT (mOp (oEq false) (mOp oIx (mVar 1) (mC (.d (.int 0)))) (mC (.d (.str "field")))))
 (bRet (mMeth A.TextReader "takes_field" (cO (m_TextReader_takes_field A K)) (mVar 0) (mCons (mVar 1) mNil)))
 bNext)
 (bSeq (bIf (mT (mOp (oEq false) (mOp oIx (mVar 1) (mC (.d (.int 0)))) (mC (.d (.str "call")))))
 (bRet (mMeth A.TextReader "takes_call" (cO (m_TextReader_takes_call A K)) (mVar 0) (mCons (mVar 1) mNil)))
 bNext)
 (bRet (mAndV (mOp (oEqD true) (mFld A.TextReader "calls_read" (mVar 0)) (mLst mNil)) (mMeth A.TextReader "takes_part" (cO (m_TextReader_takes_part A K)) (mVar 0) (mCons (mVar 1) mNil))))))))
@[irreducible] def m_TextReader_takes_line (A : Ad) (K : PySem.W.Frag) : OF := fNoO (fOpen 3 3 (b_TextReader_takes_line A K))
theorem ne_TextReader_takes_line {A : Ad} {K : PySem.W.Frag} : NoEO (m_TextReader_takes_line A K) := by unfold m_TextReader_takes_line; exact fun _ _ _ _ h => h
def l_Kind_of_text_1 (A : Ad) (K : PySem.W.Frag) : BS := (bIf (mNotT (mT (mMeth A.TextReader "takes_line" (cO (m_TextReader_takes_line A K)) (mVar 1) (mCons (mM1 oSplit (mVar 4) (mC (.d (.str " ")))) (mCons (mVar 3) mNil)))))
 bNever
 bNext)
def k_Kind_of_text_2 (A : Ad) (K : PySem.W.Frag) : BS := (bSeq (bIf (mOrT (mT (mOp (oEq true) (mOp oIx (mVar 2) (mNeg (mC (.d (.int 1))))) (mC (.d (.str ""))))) (mT (mOp (oEq false) (mCB oLen (mCons (mVar 2) mNil)) (mC (.d (.int 1))))))
 bNever
 bNext)
 (bFree (bRet (mMakeK A.Kind 2 1 (cO (m_Kind___init__ A K)) (mCons (mFld A.TextReader "fields_read" (mVar 1)) (mCons (mFld A.TextReader "calls_read" (mVar 1)) mNil)) (mCons (mFld A.TextReader "modes_read" (mVar 1)) mNil)))))
def b_Kind_of_text (A : Ad) (K : PySem.W.Frag) : BS :=
 (bSeq (bAsg (mMake A.TextReader (cO (m_TextReader___init__ A K)) mNil) (nName 1))
 (bSeq (bAsg (mM1 oSplit (mVar 0) (mC (.d (.str "\n")))) (nName 2))
 (bSeq (bFor (miEn (mSl oSlL (mVar 2) mNoPart (mPart (mNeg (mC (.d (.int 1))))))) (nTup 2 (nCons (nName 3) (nCons (nName 4) nNil))) (l_Kind_of_text_1 A K))
 (k_Kind_of_text_2 A K))))
@[irreducible] def m_Kind_of_text (A : Ad) (K : PySem.W.Frag) : PF := fNo (fPure 5 1 (b_Kind_of_text A K))
theorem ne_Kind_of_text {A : Ad} {K : PySem.W.Frag} : NoE (m_Kind_of_text A K) := by unfold m_Kind_of_text; exact fun _ _ _ h => h
def b_law_plan (A : Ad) (K : PySem.W.Frag) : BS :=
 (bRet (mDisp [((mC (.d (.str "fields"))), (mVar 0)), ((mC (.d (.str "calls"))), (mVar 1)), ((mC (.d (.str "modes"))), (mVar 2)), ((mC (.d (.str "known"))), (mMakeK A.Kind 2 1 (cO (m_Kind___init__ A K)) (mCons (mVar 0) (mCons (mVar 1) mNil)) (mCons (mVar 2) mNil)))]))
@[irreducible] def m_law_plan (A : Ad) (K : PySem.W.Frag) : PF := fNo (fPure 3 3 (b_law_plan A K))
theorem ne_law_plan {A : Ad} {K : PySem.W.Frag} : NoE (m_law_plan A K) := by unfold m_law_plan; exact fun _ _ _ h => h
def l_law_deeds_1 (A : Ad) (K : PySem.W.Frag) : BS := (bSeq (bAsg (mCall (cP (m_law_one A K)) (mCons (mVar 0) (mCons (mVar 1) mNil))) (nTup 3 (nCons (nName 6) (nCons (nName 7) (nCons (nName 8) nNil)))))
 (bSeq (bAsg (mIf (mT (mOp (oEq false) (mVar 7) (mC (.d (.str "one"))))) (mLst (mCons (mC (.d (.str "set"))) (mCons (mC (.d (.str "clear"))) mNil))) (mLst (mCons (mC (.d (.str "add"))) (mCons (mC (.d (.str "add"))) (mCons (mC (.d (.str "strike"))) (mCons (mC (.d (.str "clear"))) (mCons (mC (.d (.str "fresh"))) mNil))))))) (nName 9))
 (bSeq (bAsg (mCall (cP (m_law_one A K)) (mCons (mVar 0) (mCons (mVar 9) mNil))) (nName 10))
 (bIf (mOrT (mT (mOp (oIn true) (mVar 10) (mTup (mCons (mC (.d (.str "add"))) (mCons (mC (.d (.str "strike"))) mNil))))) (mT (mOp (oIn true) (mVar 6) (mVar 4))))
 (bSeq (bAsg (mOp oCat (mVar 4) (mOp oRep (mLst (mCons (mVar 6) mNil)) (mCB oInt (mCons (mOp (oIn false) (mVar 10) (mTup (mCons (mC (.d (.str "add"))) (mCons (mC (.d (.str "strike"))) mNil)))) mNil)))) (nName 4))
 (bDrop (mBM oAppend (mVar 3) (mCons (mTup (mCons (mVar 10) (mCons (mVar 6) mNil))) mNil))))
 bNext))))
def k_law_deeds_2 (A : Ad) (K : PySem.W.Frag) : BS := (bRet (mVar 3))
def b_law_deeds (A : Ad) (K : PySem.W.Frag) : BS :=
 (bSeq (bPar 3 4 (mCons (mLst mNil) (mCons (mLst mNil) mNil)))
 (bSeq (bFor (miR1 (mCons (mCall (cP (m_law_take A K)) (mCons (mVar 0) (mCons (mOp oAdd (mVar 2) (mC (.d (.int 1)))) mNil))) mNil)) (nName 5) (l_law_deeds_1 A K))
 (k_law_deeds_2 A K)))
@[irreducible] def m_law_deeds (A : Ad) (K : PySem.W.Frag) : PF := fNo (fPure 11 3 (b_law_deeds A K))
theorem ne_law_deeds {A : Ad} {K : PySem.W.Frag} : NoE (m_law_deeds A K) := by unfold m_law_deeds; exact fun _ _ _ h => h
def b_law_call (A : Ad) (K : PySem.W.Frag) : BS :=
 (bSeq (bAsg (mOp oCat (mOp oRep (mLstR (mVar 4)) (mC (.d (.int 3)))) (mOp oRep (mLst (mCons (mNeg (mC (.d (.int 1)))) mNil)) (mCB oInt (mCons (mOp oGt (mVar 4) (mC (.d (.int 1)))) mNil)))) (nName 5))
 (bSeq (bAsg (mLc (miR1 (mCons (mVar 4) mNil)) (nName 7) mYes (mCall (cP (m_law_one A K)) (mCons (mVar 0) (mCons (mVar 5) mNil))) [7]) (nName 6))
 (bSeq (bAsg (mLc (miSq (mVar 3)) (nName 9) (mAndT (mT (mOp (oEq false) (mOp oIx (mVar 9) (mC (.d (.int 1)))) (mC (.d (.str "many"))))) (mT (mOp (oEq false) (mCall (cP (m_law_take A K)) (mCons (mVar 0) (mCons (mC (.d (.int 2))) mNil))) (mC (.d (.int 0)))))) (mOp oIx (mVar 9) (mC (.d (.int 0)))) [9]) (nName 8))
 (bSeq (bAsg (mCall (cP (m_law_deeds A K)) (mCons (mVar 0) (mCons (mVar 3) (mCons (mCall (cP (m_law_one A K)) (mCons (mVar 0) (mCons (mLst (mCons (mC (.d (.int 1))) (mCons (mC (.d (.int 2))) (mCons (mC (.d (.int 2))) (mCons (mC (.d (.int 4))) mNil))))) mNil))) mNil)))) (nName 10))
 (bRet (mTup (mCons (mVar 1) (mCons (mVar 2) (mCons (mVar 6) (mCons (mVar 10) (mCons (mIf (mT (mOp (oEq true) (mVar 2) (mC (.d (.str "self"))))) (mVar 8) (mLst mNil)) mNil)))))))))))
@[irreducible] def m_law_call (A : Ad) (K : PySem.W.Frag) : PF := fNo (fPure 11 5 (b_law_call A K))
theorem ne_law_call {A : Ad} {K : PySem.W.Frag} : NoE (m_law_call A K) := by unfold m_law_call; exact fun _ _ _ h => h
def l_law_kind_1 (A : Ad) (K : PySem.W.Frag) : BS := (bDrop (mBM oAppend (mVar 4) (mCons (mTup (mCons (mOp oIx (mVar 5) (mVar 6)) (mCons (mCall (cP (m_law_one A K)) (mCons (mVar 0) (mCons (mLst (mCons (mC (.d (.str "many"))) (mCons (mC (.d (.str "many"))) (mCons (mC (.d (.str "one"))) mNil)))) mNil))) (mCons (mOp (oEq false) (mCall (cP (m_law_take A K)) (mCons (mVar 0) (mCons (mC (.d (.int 2))) mNil))) (mC (.d (.int 0)))) mNil)))) mNil)))
def l_law_kind_2 (A : Ad) (K : PySem.W.Frag) : BS := (bDrop (mBM oAppend (mVar 8) (mCons (mCall (cP (m_law_call A K)) (mCons (mVar 0) (mCons (mVar 9) (mCons (mCall (cP (m_law_one A K)) (mCons (mVar 0) (mCons (mLst (mCons (mC (.d (.str "self"))) (mCons (mC (.d (.str "new"))) (mCons (mC (.d (.str "self"))) (mCons (mC (.d (.str "new"))) (mCons (mC (.d (.str "last"))) mNil)))))) mNil))) (mCons (mVar 4) (mCons (mVar 7) mNil)))))) mNil)))
def k_law_kind_3 (A : Ad) (K : PySem.W.Frag) : BS := (bSeq (bDrop (mBM oAppend (mVar 8) (mCons (mCall (cP (m_law_call A K)) (mCons (mVar 0) (mCons (mC (.d (.str "build"))) (mCons (mC (.d (.str "last"))) (mCons (mVar 4) (mCons (mVar 7) mNil)))))) mNil)))
 (bRet (mCall (cP (m_law_plan A K)) (mCons (mVar 4) (mCons (mVar 8) (mCons (mVar 7) mNil))))))
def k_law_kind_4 (A : Ad) (K : PySem.W.Frag) : BS := (bSeq (bPar 7 8 (mCons (mOp oAdd (mC (.d (.int 1))) (mCall (cP (m_law_take A K)) (mCons (mVar 0) (mCons (mVar 3) mNil)))) (mCons (mLst mNil) mNil)))
 (bSeq (bFor (miSq (mSl oSlL (mLst (mCons (mC (.d (.str "add"))) (mCons (mC (.d (.str "put"))) (mCons (mC (.d (.str "cut"))) (mCons (mC (.d (.str "make"))) (mCons (mC (.d (.str "jqzxvkgw"))) mNil)))))) mNoPart (mPart (mOp oAdd (mC (.d (.int 1))) (mCall (cP (m_law_take A K)) (mCons (mVar 0) (mCons (mOp oSub (mVar 2) (mC (.d (.int 1)))) mNil))))))) (nName 9) (l_law_kind_2 A K))
 (k_law_kind_3 A K)))
def b_law_kind (A : Ad) (K : PySem.W.Frag) : BS :=
 (bSeq (bPar 4 5 (mCons (mLst mNil) (mCons (mCall (cP (m_law_mix A K)) (mCons (mVar 0) (mCons (mLst (mCons (mC (.d (.str "a"))) (mCons (mC (.d (.str "need"))) (mCons (mC (.d (.str "many"))) (mCons (mC (.d (.str "do"))) (mCons (mC (.d (.str "quantity"))) mNil)))))) mNil))) mNil)))
 (bSeq (bFor (miR1 (mCons (mOp oAdd (mC (.d (.int 1))) (mCall (cP (m_law_take A K)) (mCons (mVar 0) (mCons (mVar 1) mNil)))) mNil)) (nName 6) (l_law_kind_1 A K))
 (k_law_kind_4 A K)))
@[irreducible] def m_law_kind (A : Ad) (K : PySem.W.Frag) : PF := fNo (fPure 10 4 (b_law_kind A K))
theorem ne_law_kind {A : Ad} {K : PySem.W.Frag} : NoE (m_law_kind A K) := by unfold m_law_kind; exact fun _ _ _ h => h
def l_law_lines_1 (A : Ad) (K : PySem.W.Frag) : BS := (bDrop (mBM oAppend (mVar 1) (mCons (mOp oAddS (mOp oAddS (mOp oAddS (mOp oAddS (mC (.d (.str "field "))) (mVar 2)) (mC (.d (.str " ")))) (mVar 3)) (mOp oMulS (mC (.d (.str " need"))) (mCB oInt (mCons (mVar 4) mNil)))) mNil)))
def l_law_lines_2 (A : Ad) (K : PySem.W.Frag) : BS := (bSeq (bDrop (mBM oAppend (mVar 1) (mCons (mM1 oJoin (mC (.d (.str " "))) (mOp oCat (mLst (mCons (mC (.d (.str "call"))) (mCons (mVar 2) (mCons (mVar 5) mNil)))) (mLc (miSq (mVar 6)) (nName 9) mYes (mCB oStr (mCons (mVar 9) mNil)) [9]))) mNil)))
 (bSeq (bDrop (mBM oExtend (mVar 1) (mCons (mLc (miSq (mVar 7)) (nName 9) mYes (mOp oAddS (mOp oAddS (mOp oAddS (mC (.d (.str "do "))) (mOp oIx (mVar 9) (mC (.d (.int 0))))) (mC (.d (.str " ")))) (mOp oIx (mVar 9) (mC (.d (.int 1))))) [9]) mNil)))
 (bDrop (mBM oExtend (mVar 1) (mCons (mLc (miSq (mVar 8)) (nName 9) mYes (mOp oAddS (mC (.d (.str "same "))) (mVar 9)) [9]) mNil)))))
def k_law_lines_3 (A : Ad) (K : PySem.W.Frag) : BS := (bRet (mVar 1))
def k_law_lines_4 (A : Ad) (K : PySem.W.Frag) : BS := (bSeq (bFor (miSq (mDGet (mVar 0) (mC (.d (.str "calls"))))) (nTup 5 (nCons (nName 2) (nCons (nName 5) (nCons (nName 6) (nCons (nName 7) (nCons (nName 8) nNil)))))) (l_law_lines_2 A K))
 (k_law_lines_3 A K))
def b_law_lines (A : Ad) (K : PySem.W.Frag) : BS :=
 (bSeq (bAsg (mLst (mCons (mOp oAddS (mC (.d (.str "modes "))) (mCB oStr (mCons (mDGet (mVar 0) (mC (.d (.str "modes")))) mNil))) mNil)) (nName 1))
 (bSeq (bFor (miSq (mDGet (mVar 0) (mC (.d (.str "fields"))))) (nTup 3 (nCons (nName 2) (nCons (nName 3) (nCons (nName 4) nNil)))) (l_law_lines_1 A K))
 (k_law_lines_4 A K)))
@[irreducible] def m_law_lines (A : Ad) (K : PySem.W.Frag) : PF := fNo (fPure 10 1 (b_law_lines A K))
theorem ne_law_lines {A : Ad} {K : PySem.W.Frag} : NoE (m_law_lines A K) := by unfold m_law_lines; exact fun _ _ _ h => h
def b_law_same (self : PF) (A : Ad) (K : PySem.W.Frag) : BS :=
 (bSeq (bIf (mT (mIsT K (mVar 1) (mCons (mC (.d (.ty "list"))) (mCons (mC (.d (.ty "tuple"))) mNil))))
 (bSeq (bIf (mOrT (mT (mOp (oEq true) (mCB (oIsi K) (mCons (mVar 0) (mCons (mC (.d (.ty "list"))) mNil))) (mCB (oIsi K) (mCons (mVar 1) (mCons (mC (.d (.ty "list"))) mNil))))) (mT (mOp (oEq true) (mCB (oIsi K) (mCons (mVar 0) (mCons (mC (.d (.ty "tuple"))) mNil))) (mCB (oIsi K) (mCons (mVar 1) (mCons (mC (.d (.ty "tuple"))) mNil))))))
 (bRet (mC (.d (.bl false))))
 bNext)
 (bRet (mAndV (mOp (oEq false) (mCB oLen (mCons (mVar 0) mNil)) (mCB oLen (mCons (mVar 1) mNil))) (mCB oAll (mCons (mLc (miZip (mCons (mVar 0) (mCons (mVar 1) mNil))) (nTup 2 (nCons (nName 2) (nCons (nName 3) nNil))) mYes (mCall (cP self) (mCons (mVar 2) (mCons (mVar 3) mNil))) [2, 3]) mNil)))))
 bNext)
 (bSeq (bIf (mT (mCB (oIsi K) (mCons (mVar 1) (mCons (mC (.d (.ty "int"))) mNil))))
 (bRet (mAndV (mCB (oIsi K) (mCons (mVar 0) (mCons (mC (.d (.ty "int"))) mNil))) (mAndV (mOp (oEq false) (mCB (oIsi K) (mCons (mVar 0) (mCons (mC (.d (.ty "bool"))) mNil))) (mCB (oIsi K) (mCons (mVar 1) (mCons (mC (.d (.ty "bool"))) mNil)))) (mOp (oEqD false) (mVar 0) (mVar 1)))))
 bNext)
 (bRet (mAndV (mOp (oIsB false) (mIsT K (mVar 0) (mCons (mC (.d (.ty "bool"))) (mCons (mC (.d (.ty "int"))) (mCons (mC (.d (.ty "list"))) (mCons (mC (.d (.ty "tuple"))) mNil))))) (mC (.d (.bl false)))) (mOp (oEqD false) (mVar 0) (mVar 1))))))
@[irreducible] def ms_law_same (self : PF) (A : Ad) (K : PySem.W.Frag) : PF := fNo (fPure 4 2 (b_law_same self A K))
theorem nes_law_same {self : PF} {A : Ad} {K : PySem.W.Frag} : NoE (ms_law_same self A K) := by unfold ms_law_same; exact fun _ _ _ h => h
def m_law_same (A : Ad) (K : PySem.W.Frag) : Nat → PF
  | 0 => fun _ _ _ => False
  | n + 1 => ms_law_same (m_law_same A K n) A K
theorem ne_law_same {A : Ad} {K : PySem.W.Frag} : ∀ n, NoE (m_law_same A K n)
  | 0 => fun _ _ _ h => h
  | n + 1 => nes_law_same
def l_law_1 (A : Ad) (K : PySem.W.Frag) : BS := (bSeq (bAsg (mCall (cP (m_law_kind A K)) (mCons (mVar 1) (mCons (mC (.d (.int 3))) (mCons (mC (.d (.int 6))) (mCons (mC (.d (.int 3))) mNil))))) (nName 3))
 (bSeq (bAsg (mM1 oJoin (mC (.d (.str ""))) (mLc (miSq (mCall (cP (m_law_lines A K)) (mCons (mVar 3) mNil))) (nName 5) mYes (mOp oAddS (mVar 5) (mC (.d (.str "\n")))) [5])) (nName 4))
 (bSeq (bIf (mOrT (mNotT (mT (mCall (cP (m_law_same A K 1)) (mCons (mMeth A.Kind "text" (cP (m_Kind_text A K)) (mDGet (mVar 3) (mC (.d (.str "known")))) mNil) (mCons (mVar 4) mNil))))) (mT (mOp (oOwn true A.Kind (cP (m_Kind___eq__ A K))) (mSM (mC (.d (.cls A.Kind))) A.Kind (cP (m_Kind_of_text A K)) (mCons (mVar 4) mNil)) (mDGet (mVar 3) (mC (.d (.str "known")))))))
 (bRet (mC (.d (.bl false))))
 bNext)
 (bIf (mNotT (mT (mCall (cP (m_law_same A K 1)) (mCons (mMeth A.Kind "text" (cP (m_Kind_text A K)) (mSM (mC (.d (.cls A.Kind))) A.Kind (cP (m_Kind_of_text A K)) (mCons (mVar 4) mNil)) mNil) (mCons (mVar 4) mNil)))))
 (bRet (mC (.d (.bl false))))
 bNext))))
def k_law_2 (A : Ad) (K : PySem.W.Frag) : BS := (bRet (mC (.d (.bl true))))
def b_law (A : Ad) (K : PySem.W.Frag) : BS :=
 (bSeq (bFor (miR1 (mCons (mC (.d (.int 5))) mNil)) (nName 2) (l_law_1 A K))
 (k_law_2 A K))
end Mz
end
section
set_option Elab.async false
set_option linter.all false
set_option maxRecDepth 100000
set_option maxHeartbeats 4000000
namespace Mz
open PySem L2
abbrev w_TAKING : Da := strT ["set", "add", "strike"]
def b_does_take (A : Ad) (K : PySem.W.Frag) : BS :=
 (bRet (mCB oAny (mCons (mLc (miSq (mOp oIx (mVar 0) (mC (.d (.int 3))))) (nTup 2 (nCons (nName 1) (nCons (nName 2) nNil))) mYes (mOp (oIn false) (mVar 1) (mC (.d w_TAKING))) [1, 2]) mNil)))
@[irreducible] def m_does_take (A : Ad) (K : PySem.W.Frag) : PF := fNo (fPure 3 1 (b_does_take A K))
theorem ne_does_take {A : Ad} {K : PySem.W.Frag} : NoE (m_does_take A K) := by unfold m_does_take; exact fun _ _ _ h => h
def b_Kind___contains__ (A : Ad) (K : PySem.W.Frag) : BS :=
 (bRet (mAndV (mCB (oIsi K) (mCons (mVar 1) (mCons (mC (.d (.ty "str"))) mNil))) (mOp (oIn false) (mVar 1) (mFld A.Kind "name_list" (mVar 0)))))
@[irreducible] def m_Kind___contains__ (A : Ad) (K : PySem.W.Frag) : PF := fNo (fPure 2 2 (b_Kind___contains__ A K))
theorem ne_Kind___contains__ {A : Ad} {K : PySem.W.Frag} : NoE (m_Kind___contains__ A K) := by unfold m_Kind___contains__; exact fun _ _ _ h => h
def l_Kind___getitem___1 (A : Ad) (K : PySem.W.Frag) : BS := (bIf (mAndT (mT (mCB (oIsi K) (mCons (mVar 1) (mCons (mC (.d (.ty "str"))) mNil)))) (mT (mOp (oEq false) (mOp oIx (mVar 2) (mC (.d (.int 0)))) (mVar 1))))
 (bRet (mTup (mCons (mOp oIx (mVar 2) (mC (.d (.int 0)))) (mCons (mOp oIx (mVar 2) (mC (.d (.int 1)))) (mCons (mCB oList (mCons (mOp oIx (mVar 2) (mC (.d (.int 2)))) mNil)) (mCons (mCB oList (mCons (mOp oIx (mVar 2) (mC (.d (.int 3)))) mNil)) (mCons (mCB oList (mCons (mOp oIx (mVar 2) (mC (.d (.int 4)))) mNil)) mNil)))))))
 bNext)
def k_Kind___getitem___2 (A : Ad) (K : PySem.W.Frag) : BS := bNever
def b_Kind___getitem__ (A : Ad) (K : PySem.W.Frag) : BS :=
 (bSeq (bFor (miSq (mFld A.Kind "call_rows" (mVar 0))) (nName 2) (l_Kind___getitem___1 A K))
 (k_Kind___getitem___2 A K))
@[irreducible] def m_Kind___getitem__ (A : Ad) (K : PySem.W.Frag) : PF := fNo (fPure 3 2 (b_Kind___getitem__ A K))
theorem ne_Kind___getitem__ {A : Ad} {K : PySem.W.Frag} : NoE (m_Kind___getitem__ A K) := by unfold m_Kind___getitem__; exact fun _ _ _ h => h
def b_Kind_number_of (A : Ad) (K : PySem.W.Frag) : BS :=
 (bSeq (bIf (mOrT (mNotT (mT (mCB (oIsi K) (mCons (mVar 1) (mCons (mC (.d (.ty "str"))) mNil))))) (mT (mOp (oIn true) (mVar 1) (mFld A.Kind "name_list" (mVar 0)))))
 bNever
 bNext)
 (bRet (mBM oIndex (mFld A.Kind "name_list" (mVar 0)) (mCons (mVar 1) mNil))))
@[irreducible] def m_Kind_number_of (A : Ad) (K : PySem.W.Frag) : PF := fNo (fPure 2 2 (b_Kind_number_of A K))
theorem ne_Kind_number_of {A : Ad} {K : PySem.W.Frag} : NoE (m_Kind_number_of A K) := by unfold m_Kind_number_of; exact fun _ _ _ h => h
def b_Kind_takes (A : Ad) (K : PySem.W.Frag) : BS :=
 (bRet (mCall (cP (m_does_take A K)) (mCons (mOp oIx (mFld A.Kind "call_rows" (mVar 0)) (mMeth A.Kind "number_of" (cP (m_Kind_number_of A K)) (mVar 0) (mCons (mVar 1) mNil))) mNil)))
@[irreducible] def m_Kind_takes (A : Ad) (K : PySem.W.Frag) : PF := fNo (fPure 2 2 (b_Kind_takes A K))
theorem ne_Kind_takes {A : Ad} {K : PySem.W.Frag} : NoE (m_Kind_takes A K) := by unfold m_Kind_takes; exact fun _ _ _ h => h
def b_is_list_o (A : Ad) (K : PySem.W.Frag) : BS :=
 (bRet (mIsT K (mVar 0) (mCons (mC (.d (.ty "list"))) (mCons (mC (.d (.ty "tuple"))) mNil))))
@[irreducible] def m_is_list_o (A : Ad) (K : PySem.W.Frag) : OF := fNoO (fOpen 1 1 (b_is_list_o A K))
theorem ne_is_list_o {A : Ad} {K : PySem.W.Frag} : NoEO (m_is_list_o A K) := by unfold m_is_list_o; exact fun _ _ _ _ h => h
def b_is_last_row (A : Ad) (K : PySem.W.Frag) : BS :=
 (bRet (mAndV (mOp oGt (mCB oLen (mCons (mVar 1) mNil)) (mC (.d (.int 1)))) (mOp (oEq false) (mOp oIx (mOp (oOwnIx A.Kind (cP (m_Kind___getitem__ A K))) (mVar 0) (mOp oIx (mVar 1) (mC (.d (.int 0))))) (mC (.d (.int 1)))) (mC (.d (.str "last"))))))
@[irreducible] def m_is_last_row (A : Ad) (K : PySem.W.Frag) : PF := fNo (fPure 2 2 (b_is_last_row A K))
theorem ne_is_last_row {A : Ad} {K : PySem.W.Frag} : NoE (m_is_last_row A K) := by unfold m_is_last_row; exact fun _ _ _ h => h
def b_is_call_row (A : Ad) (K : PySem.W.Frag) : BS :=
 (bSeq (bIf (mOrT (mNotT (mT (mCall (cP (m_is_list A K)) (mCons (mVar 1) mNil)))) (mOrT (mT (mOp oLt (mCB oLen (mCons (mVar 1) mNil)) (mC (.d (.int 2))))) (mT (mOp (oOwnIn true A.Kind (cP (m_Kind___contains__ A K))) (mOp oIx (mVar 1) (mC (.d (.int 0)))) (mVar 0)))))
 (bRet (mC (.d (.bl false))))
 bNext)
 (bSeq (bPar 3 4 (mCons (mOp oIx (mVar 1) (mC (.d (.int 0)))) (mCons (mOp oIx (mVar 1) (mC (.d (.int 1)))) mNil)))
 (bSeq (bIf (mOrT (mNotT (mT (mCall (cP (m_is_between A K)) (mCons (mVar 4) (mCons (mC (.d (.int 0))) (mCons (mOp oSub (mCB oLen (mCons (mVar 2) mNil)) (mC (.d (.int 1)))) mNil)))))) (mT (mCall (cP (m_is_last_row A K)) (mCons (mVar 0) (mCons (mOp oIx (mVar 2) (mVar 4)) mNil)))))
 (bRet (mC (.d (.bl false))))
 bNext)
 (bSeq (bIf (mT (mMeth A.Kind "takes" (cP (m_Kind_takes A K)) (mVar 0) (mCons (mVar 3) mNil)))
 (bRet (mAndV (mOp (oEq false) (mCB oLen (mCons (mVar 1) mNil)) (mC (.d (.int 3)))) (mCall (cP (m_is_word A K)) (mCons (mOp oIx (mVar 1) (mC (.d (.int 2)))) mNil))))
 bNext)
 (bRet (mOp (oEq false) (mCB oLen (mCons (mVar 1) mNil)) (mC (.d (.int 2)))))))))
@[irreducible] def m_is_call_row (A : Ad) (K : PySem.W.Frag) : OF := fNoO (fOpen 5 3 (b_is_call_row A K))
theorem ne_is_call_row {A : Ad} {K : PySem.W.Frag} : NoEO (m_is_call_row A K) := by unfold m_is_call_row; exact fun _ _ _ _ h => h
def l_checked_rows_1 (A : Ad) (K : PySem.W.Frag) : BS := (bSeq (bAsg (mAndV (mCall (cP (m_is_row A K)) (mCons (mVar 4) (mCons (mC (.d (.int 1))) mNil))) (mAndV (mCB (oIsi K) (mCons (mOp oIx (mVar 4) (mC (.d (.int 0)))) (mCons (mC (.d (.ty "str"))) mNil))) (mOp (oEq false) (mOp oIx (mVar 4) (mC (.d (.int 0)))) (mC (.d (.str "make")))))) (nName 5))
 (bSeq (bIf (mAndT (mNotT (mT (mVar 5))) (mNotT (mT (mCall (cO (m_is_call_row A K)) (mCons (mVar 0) (mCons (mVar 4) (mCons (mVar 3) mNil)))))))
 bNever
 bNext)
 (bDrop (mBM oAppend (mVar 3) (mCons (mCB oTuple (mCons (mVar 4) mNil)) mNil)))))
def k_checked_rows_2 (A : Ad) (K : PySem.W.Frag) : BS := (bRet (mVar 3))
def b_checked_rows (A : Ad) (K : PySem.W.Frag) : BS :=
 (bSeq (bIf (mNotT (mT (mCall (cO (m_is_list_o A K)) (mCons (mVar 1) mNil))))
 bNever
 bNext)
 (bSeq (bAsg (mCB oList (mCons (mVar 2) mNil)) (nName 3))
 (bSeq (bFor (miSq (mVar 1)) (nName 4) (l_checked_rows_1 A K))
 (k_checked_rows_2 A K))))
@[irreducible] def m_checked_rows (A : Ad) (K : PySem.W.Frag) : OF := fNoO (fOpen 6 3 (b_checked_rows A K))
theorem ne_checked_rows {A : Ad} {K : PySem.W.Frag} : NoEO (m_checked_rows A K) := by unfold m_checked_rows; exact fun _ _ _ _ h => h
def b_Maker___init__ (A : Ad) (K : PySem.W.Frag) : BS :=
 (bSeq (bFld A.Maker "mode" (mVar 0) (mVar 1))
 (bFld A.Maker "slots" (mVar 0) (mVar 2)))
@[irreducible] def m_Maker___init__ (A : Ad) (K : PySem.W.Frag) : OF := fNoO (fOpen 3 3 (b_Maker___init__ A K))
theorem ne_Maker___init__ {A : Ad} {K : PySem.W.Frag} : NoEO (m_Maker___init__ A K) := by unfold m_Maker___init__; exact fun _ _ _ _ h => h
def b_Store___init__ (A : Ad) (K : PySem.W.Frag) : BS :=
 (bSeq (bFld A.Store "kind" (mVar 0) (mVar 1))
 (bFld A.Store "lists" (mVar 0) (mLst mNil)))
@[irreducible] def m_Store___init__ (A : Ad) (K : PySem.W.Frag) : OF := fNoO (fOpen 2 2 (b_Store___init__ A K))
theorem ne_Store___init__ {A : Ad} {K : PySem.W.Frag} : NoEO (m_Store___init__ A K) := by unfold m_Store___init__; exact fun _ _ _ _ h => h
def b_Store_keep (A : Ad) (K : PySem.W.Frag) : BS :=
 (bSeq (bDrop (mBM oAppend (mFld A.Store "lists" (mVar 0)) (mCons (mCB oList (mCons (mVar 1) mNil)) mNil)))
 (bRet (mOp oSub (mCB oLen (mCons (mFld A.Store "lists" (mVar 0)) mNil)) (mC (.d (.int 1))))))
@[irreducible] def m_Store_keep (A : Ad) (K : PySem.W.Frag) : OF := fNoO (fOpen 2 2 (b_Store_keep A K))
theorem ne_Store_keep {A : Ad} {K : PySem.W.Frag} : NoEO (m_Store_keep A K) := by unfold m_Store_keep; exact fun _ _ _ _ h => h
def b_Store_first_maker (A : Ad) (K : PySem.W.Frag) : BS :=
 (bRet (mMake A.Maker (cO (m_Maker___init__ A K)) (mCons (mC (.d (.int 0))) (mCons (mLc (miSq (mFld A.Kind "field_rows" (mFld A.Store "kind" (mVar 0)))) (nName 1) mYes (mIf (mT (mOp (oEq false) (mOp oIx (mVar 1) (mC (.d (.int 1)))) (mC (.d (.str "one"))))) (mC (.d .non)) (mMeth A.Store "keep" (cO (m_Store_keep A K)) (mVar 0) (mCons (mLst mNil) mNil))) [1]) mNil))))
@[irreducible] def m_Store_first_maker (A : Ad) (K : PySem.W.Frag) : OF := fNoO (fOpen 2 1 (b_Store_first_maker A K))
theorem ne_Store_first_maker {A : Ad} {K : PySem.W.Frag} : NoEO (m_Store_first_maker A K) := by unfold m_Store_first_maker; exact fun _ _ _ _ h => h
def l_Store_copy_1 (A : Ad) (K : PySem.W.Frag) : BS := (bDrop (mBM oAppend (mVar 4) (mCons (mIf (mOrT (mT (mOp (oEq false) (mOp oIx (mVar 5) (mC (.d (.int 1)))) (mC (.d (.str "one"))))) (mT (mOp (oIn false) (mOp oIx (mVar 5) (mC (.d (.int 0)))) (mVar 3)))) (mVar 6) (mMeth A.Store "keep" (cO (m_Store_keep A K)) (mVar 0) (mCons (mOp oIx (mFld A.Store "lists" (mVar 0)) (mVar 6)) mNil))) mNil)))
def k_Store_copy_2 (A : Ad) (K : PySem.W.Frag) : BS := (bRet (mMake A.Maker (cO (m_Maker___init__ A K)) (mCons (mVar 2) (mCons (mVar 4) mNil))))
def b_Store_copy (A : Ad) (K : PySem.W.Frag) : BS :=
 (bSeq (bAsg (mLst mNil) (nName 4))
 (bSeq (bFor (miZip (mCons (mFld A.Kind "field_rows" (mFld A.Store "kind" (mVar 0))) (mCons (mFld A.Maker "slots" (mVar 1)) mNil))) (nTup 2 (nCons (nName 5) (nCons (nName 6) nNil))) (l_Store_copy_1 A K))
 (k_Store_copy_2 A K)))
@[irreducible] def m_Store_copy (A : Ad) (K : PySem.W.Frag) : OF := fNoO (fOpen 7 4 (b_Store_copy A K))
theorem ne_Store_copy {A : Ad} {K : PySem.W.Frag} : NoEO (m_Store_copy A K) := by unfold m_Store_copy; exact fun _ _ _ _ h => h
def l_Store_does_1 (A : Ad) (K : PySem.W.Frag) : BS := (bSeq (bAsg (mBM oIndex (mVar 4) (mCons (mVar 7) mNil)) (nName 8))
 (bSeq (bAsg (mOp oIx (mFld A.Maker "slots" (mVar 1)) (mVar 8)) (nName 9))
 (bIf (mT (mOp (oEq false) (mVar 6) (mC (.d (.str "set")))))
 (bAsg (mVar 3) (nSub (mFld A.Maker "slots" (mVar 1)) (mVar 8)))
 (bIf (mAndT (mT (mOp (oEq false) (mVar 6) (mC (.d (.str "clear"))))) (mT (mOp (oEq false) (mDGet (mFld A.Kind "sorts" (mFld A.Store "kind" (mVar 0))) (mVar 7)) (mC (.d (.str "one"))))))
 (bAsg (mC (.d .non)) (nSub (mFld A.Maker "slots" (mVar 1)) (mVar 8)))
 (bIf (mT (mOp (oEq false) (mVar 6) (mC (.d (.str "clear")))))
 (bAsg (mLst mNil) (nSub (mFld A.Store "lists" (mVar 0)) (mVar 9)))
 (bIf (mT (mOp (oEq false) (mVar 6) (mC (.d (.str "add")))))
 (bDrop (mBM oAppend (mOp oIx (mFld A.Store "lists" (mVar 0)) (mVar 9)) (mCons (mVar 3) mNil)))
 (bIf (mT (mOp (oEq false) (mVar 6) (mC (.d (.str "strike")))))
 (bAsg (mLc (miSq (mOp oIx (mFld A.Store "lists" (mVar 0)) (mVar 9))) (nName 10) (mT (mOp (oEq true) (mVar 10) (mVar 3))) (mVar 10) [10]) (nSub (mFld A.Store "lists" (mVar 0)) (mVar 9)))
 (bAsg (mMeth A.Store "keep" (cO (m_Store_keep A K)) (mVar 0) (mCons (mOp oIx (mFld A.Store "lists" (mVar 0)) (mVar 9)) mNil)) (nSub (mFld A.Maker "slots" (mVar 1)) (mVar 8))))))))))
def b_Store_does (A : Ad) (K : PySem.W.Frag) : BS :=
 (bSeq (bAsg (mLc (miSq (mFld A.Kind "field_rows" (mFld A.Store "kind" (mVar 0)))) (nName 5) mYes (mOp oIx (mVar 5) (mC (.d (.int 0)))) [5]) (nName 4))
 (bFor (miSq (mVar 2)) (nTup 2 (nCons (nName 6) (nCons (nName 7) nNil))) (l_Store_does_1 A K)))
@[irreducible] def m_Store_does (A : Ad) (K : PySem.W.Frag) : OF := fNoO (fOpen 11 4 (b_Store_does A K))
theorem ne_Store_does {A : Ad} {K : PySem.W.Frag} : NoEO (m_Store_does A K) := by unfold m_Store_does; exact fun _ _ _ _ h => h
def l_Store_told_1 (A : Ad) (K : PySem.W.Frag) : BS := (bDrop (mBM oAppend (mVar 2) (mCons (mIf (mT (mOp (oEq false) (mOp oIx (mVar 3) (mC (.d (.int 1)))) (mC (.d (.str "one"))))) (mVar 4) (mCB oList (mCons (mOp oIx (mFld A.Store "lists" (mVar 0)) (mVar 4)) mNil))) mNil)))
def k_Store_told_2 (A : Ad) (K : PySem.W.Frag) : BS := (bRet (mVar 2))
def b_Store_told (A : Ad) (K : PySem.W.Frag) : BS :=
 (bSeq (bAsg (mLst mNil) (nName 2))
 (bSeq (bFor (miZip (mCons (mFld A.Kind "field_rows" (mFld A.Store "kind" (mVar 0))) (mCons (mFld A.Maker "slots" (mVar 1)) mNil))) (nTup 2 (nCons (nName 3) (nCons (nName 4) nNil))) (l_Store_told_1 A K))
 (k_Store_told_2 A K)))
@[irreducible] def m_Store_told (A : Ad) (K : PySem.W.Frag) : OF := fNoO (fOpen 5 2 (b_Store_told A K))
theorem ne_Store_told {A : Ad} {K : PySem.W.Frag} : NoEO (m_Store_told A K) := by unfold m_Store_told; exact fun _ _ _ _ h => h
def b_Run_do_row (A : Ad) (K : PySem.W.Frag) : BS :=
 (bSeq (bIf (mT (mOp (oEq false) (mCB oLen (mCons (mVar 2) mNil)) (mC (.d (.int 1)))))
 (bRet (mTup (mCons (mC (.d (.str "maker"))) (mCons (mMeth A.Store "first_maker" (cO (m_Store_first_maker A K)) (mFld A.Run "store" (mVar 0)) mNil) mNil))))
 bNext)
 (bSeq (bAsg (mOp (oOwnIx A.Kind (cP (m_Kind___getitem__ A K))) (mFld A.Run "kind" (mVar 0)) (mOp oIx (mVar 2) (mC (.d (.int 0))))) (nSeq 5 (nCons (nName 3) (nCons (nName 4) (nCons (nName 5) (nCons (nName 6) (nCons (nName 7) nNil)))))))
 (bSeq (bAsg (mOp oIx (mFld A.Run "handed" (mVar 0)) (mOp oIx (mVar 2) (mC (.d (.int 1))))) (nName 8))
 (bSeq (bIf (mOrT (mT (mOp (oIsN false) (mVar 8) (mC (.d .non)))) (mT (mOp (oEq false) (mOp oIx (mVar 5) (mFld A.Maker "mode" (mOp oIx (mVar 8) (mC (.d (.int 1)))))) (mNeg (mC (.d (.int 1)))))))
 (bRet (mC (.d .non)))
 bNext)
 (bSeq (bPar 9 10 (mCons (mOp oIx (mVar 8) (mC (.d (.int 1)))) (mCons (mIf (mT (mOp (oEq false) (mCB oLen (mCons (mVar 2) mNil)) (mC (.d (.int 3))))) (mOp oIx (mVar 2) (mC (.d (.int 2)))) (mC (.d .non))) mNil)))
 (bSeq (bIf (mT (mOp (oEq false) (mVar 4) (mC (.d (.str "new")))))
 (bSeq (bAsg (mMeth A.Store "copy" (cO (m_Store_copy A K)) (mFld A.Run "store" (mVar 0)) (mCons (mVar 9) (mCons (mOp oIx (mVar 5) (mFld A.Maker "mode" (mVar 9))) (mCons (mVar 7) mNil)))) (nName 11))
 (bSeq (bDrop (mMeth A.Store "does" (cO (m_Store_does A K)) (mFld A.Run "store" (mVar 0)) (mCons (mVar 11) (mCons (mVar 6) (mCons (mVar 10) mNil)))))
 (bRet (mTup (mCons (mC (.d (.str "maker"))) (mCons (mVar 11) mNil))))))
 bNext)
 (bSeq (bFld A.Maker "mode" (mVar 9) (mOp oIx (mVar 5) (mFld A.Maker "mode" (mVar 9))))
 (bSeq (bDrop (mMeth A.Store "does" (cO (m_Store_does A K)) (mFld A.Run "store" (mVar 0)) (mCons (mVar 9) (mCons (mVar 6) (mCons (mVar 10) mNil)))))
 (bSeq (bIf (mT (mOp (oEq false) (mVar 4) (mC (.d (.str "self")))))
 (bRet (mVar 8))
 bNext)
 (bSeq (bAsg (mMeth A.Store "copy" (cO (m_Store_copy A K)) (mFld A.Run "store" (mVar 0)) (mCons (mVar 9) (mCons (mC (.d (.int 0))) (mCons (mVar 7) mNil)))) (nName 12))
 (bSeq (bDPut (mFld A.Run "made_contents" (mVar 0)) (mVar 1) (mMeth A.Store "told" (cO (m_Store_told A K)) (mFld A.Run "store" (mVar 0)) (mCons (mVar 12) mNil)))
 (bRet (mTup (mCons (mC (.d (.str "product"))) (mCons (mVar 12) mNil)))))))))))))))
@[irreducible] def m_Run_do_row (A : Ad) (K : PySem.W.Frag) : OF := fNoO (fOpen 13 3 (b_Run_do_row A K))
theorem ne_Run_do_row {A : Ad} {K : PySem.W.Frag} : NoEO (m_Run_do_row A K) := by unfold m_Run_do_row; exact fun _ _ _ _ h => h
def l_Run___init___1 (A : Ad) (K : PySem.W.Frag) : BS := (bDrop (mBM oAppend (mFld A.Run "handed" (mVar 0)) (mCons (mMeth A.Run "do_row" (cO (m_Run_do_row A K)) (mVar 0) (mCons (mVar 3) (mCons (mVar 4) mNil))) mNil)))
def b_Run___init__ (A : Ad) (K : PySem.W.Frag) : BS :=
 (bSeq (bFld A.Run "kind" (mVar 0) (mVar 1))
 (bSeq (bFld A.Run "row_list" (mVar 0) (mCall (cO (m_checked_rows A K)) (mCons (mVar 1) (mCons (mVar 2) (mCons (mLst mNil) mNil)))))
 (bSeq (bFld A.Run "store" (mVar 0) (mMake A.Store (cO (m_Store___init__ A K)) (mCons (mVar 1) mNil)))
 (bSeq (bFld A.Run "handed" (mVar 0) (mLst mNil))
 (bSeq (bFld A.Run "made_contents" (mVar 0) mDNew)
 (bFor (miEn (mFld A.Run "row_list" (mVar 0))) (nTup 2 (nCons (nName 3) (nCons (nName 4) nNil))) (l_Run___init___1 A K)))))))
@[irreducible] def m_Run___init__ (A : Ad) (K : PySem.W.Frag) : OF := fNoO (fOpen 5 3 (b_Run___init__ A K))
theorem ne_Run___init__ {A : Ad} {K : PySem.W.Frag} : NoEO (m_Run___init__ A K) := by unfold m_Run___init__; exact fun _ _ _ _ h => h
def l_Run_is_onward_1 (A : Ad) (K : PySem.W.Frag) : BS := (bSeq (bIf (mAndT (mT (mOp oGt (mCB oLen (mCons (mVar 3) mNil)) (mC (.d (.int 1))))) (mT (mOp (oEq true) (mOp oIx (mVar 3) (mC (.d (.int 1)))) (mVar 1))))
 (bRet (mC (.d (.bl false))))
 bNext)
 (bIf (mNotT (mT (mCall (cP (m_is_last_row A K)) (mCons (mFld A.Run "kind" (mVar 0)) (mCons (mVar 3) mNil)))))
 (bAsg (mVar 2) (nName 1))
 bNext))
def k_Run_is_onward_2 (A : Ad) (K : PySem.W.Frag) : BS := (bRet (mC (.d (.bl true))))
def b_Run_is_onward (A : Ad) (K : PySem.W.Frag) : BS :=
 (bSeq (bAsg (mC (.d (.int 0))) (nName 1))
 (bSeq (bFor (miEn (mFld A.Run "row_list" (mVar 0))) (nTup 2 (nCons (nName 2) (nCons (nName 3) nNil))) (l_Run_is_onward_1 A K))
 (k_Run_is_onward_2 A K)))
@[irreducible] def m_Run_is_onward (A : Ad) (K : PySem.W.Frag) : OF := fNoO (fOpen 4 1 (b_Run_is_onward A K))
theorem ne_Run_is_onward {A : Ad} {K : PySem.W.Frag} : NoEO (m_Run_is_onward A K) := by unfold m_Run_is_onward; exact fun _ _ _ _ h => h
def b_law_row_of (A : Ad) (K : PySem.W.Frag) : BS :=
 (bRet (mOp oIx (mLc (miSq (mDGet (mVar 0) (mC (.d (.str "calls"))))) (nName 2) (mT (mOp (oEq false) (mOp oIx (mVar 2) (mC (.d (.int 0)))) (mVar 1))) (mVar 2) [2]) (mC (.d (.int 0)))))
@[irreducible] def m_law_row_of (A : Ad) (K : PySem.W.Frag) : PF := fNo (fPure 3 2 (b_law_row_of A K))
theorem ne_law_row_of {A : Ad} {K : PySem.W.Frag} : NoE (m_law_row_of A K) := by unfold m_law_row_of; exact fun _ _ _ h => h
def b_law_takes (A : Ad) (K : PySem.W.Frag) : BS :=
 (bRet (mCB oAny (mCons (mLc (miSq (mOp oIx (mVar 0) (mC (.d (.int 3))))) (nName 1) mYes (mOp (oIn false) (mOp oIx (mVar 1) (mC (.d (.int 0)))) (mTup (mCons (mC (.d (.str "set"))) (mCons (mC (.d (.str "add"))) (mCons (mC (.d (.str "strike"))) mNil))))) [1]) mNil)))
@[irreducible] def m_law_takes (A : Ad) (K : PySem.W.Frag) : PF := fNo (fPure 2 1 (b_law_takes A K))
theorem ne_law_takes {A : Ad} {K : PySem.W.Frag} : NoE (m_law_takes A K) := by unfold m_law_takes; exact fun _ _ _ h => h
def b_law_callable (A : Ad) (K : PySem.W.Frag) : BS :=
 (bRet (mLc (miEn (mVar 1)) (nTup 2 (nCons (nName 2) (nCons (nName 3) nNil))) (mOrT (mT (mOp (oEqD false) (mVar 3) (mTup (mCons (mC (.d (.str "make"))) mNil)))) (mT (mOp (oEq true) (mOp oIx (mCall (cP (m_law_row_of A K)) (mCons (mVar 0) (mCons (mOp oIx (mVar 3) (mC (.d (.int 0)))) mNil))) (mC (.d (.int 1)))) (mC (.d (.str "last")))))) (mVar 2) [2, 3]))
@[irreducible] def m_law_callable (A : Ad) (K : PySem.W.Frag) : PF := fNo (fPure 4 2 (b_law_callable A K))
theorem ne_law_callable {A : Ad} {K : PySem.W.Frag} : NoE (m_law_callable A K) := by unfold m_law_callable; exact fun _ _ _ h => h
def b_law_callable_o (A : Ad) (K : PySem.W.Frag) : BS :=
 (bRet (mLc (miEn (mVar 1)) (nTup 2 (nCons (nName 2) (nCons (nName 3) nNil))) (mOrT (mT (mOp (oEqD false) (mVar 3) (mTup (mCons (mC (.d (.str "make"))) mNil)))) (mT (mOp (oEq true) (mOp oIx (mCall (cP (m_law_row_of A K)) (mCons (mVar 0) (mCons (mOp oIx (mVar 3) (mC (.d (.int 0)))) mNil))) (mC (.d (.int 1)))) (mC (.d (.str "last")))))) (mVar 2) [2, 3]))
@[irreducible] def m_law_callable_o (A : Ad) (K : PySem.W.Frag) : OF := fNoO (fOpen 4 2 (b_law_callable_o A K))
theorem ne_law_callable_o {A : Ad} {K : PySem.W.Frag} : NoEO (m_law_callable_o A K) := by unfold m_law_callable_o; exact fun _ _ _ _ h => h
def l_law_program_1 (A : Ad) (K : PySem.W.Frag) : BS := (bSeq (bAsg (mCall (cP (m_law_one A K)) (mCons (mVar 0) (mCons (mDGet (mVar 1) (mC (.d (.str "calls")))) mNil))) (nName 6))
 (bSeq (bAsg (mTup (mCons (mOp oIx (mVar 6) (mC (.d (.int 0)))) (mCons (mCall (cP (m_law_one A K)) (mCons (mVar 0) (mCons (mCall (cO (m_law_callable_o A K)) (mCons (mVar 1) (mCons (mVar 4) mNil))) mNil))) mNil))) (nName 7))
 (bSeq (bIf (mT (mCall (cP (m_law_takes A K)) (mCons (mVar 6) mNil)))
 (bAsg (mOp oCatT (mVar 7) (mTup (mCons (mCall (cP (m_law_one A K)) (mCons (mVar 0) (mCons (mVar 3) mNil))) mNil))) (nName 7))
 bNext)
 (bDrop (mBM oAppend (mVar 4) (mCons (mIf (mT (mOp (oEq false) (mCall (cP (m_law_take A K)) (mCons (mVar 0) (mCons (mC (.d (.int 9))) mNil))) (mC (.d (.int 0))))) (mTup (mCons (mC (.d (.str "make"))) mNil)) (mVar 7)) mNil))))))
def k_law_program_2 (A : Ad) (K : PySem.W.Frag) : BS := (bRet (mVar 4))
def b_law_program (A : Ad) (K : PySem.W.Frag) : BS :=
 (bSeq (bAsg (mLst (mCons (mTup (mCons (mC (.d (.str "make"))) mNil)) mNil)) (nName 4))
 (bSeq (bFor (miR1 (mCons (mVar 2) mNil)) (nName 5) (l_law_program_1 A K))
 (k_law_program_2 A K)))
@[irreducible] def m_law_program (A : Ad) (K : PySem.W.Frag) : PF := fNo (fPure 8 4 (b_law_program A K))
theorem ne_law_program {A : Ad} {K : PySem.W.Frag} : NoE (m_law_program A K) := by unfold m_law_program; exact fun _ _ _ h => h
def l_law_onward_1 (A : Ad) (K : PySem.W.Frag) : BS := (bSeq (bAsg (mCall (cP (m_law_one A K)) (mCons (mVar 0) (mCons (mDGet (mVar 1) (mC (.d (.str "calls")))) mNil))) (nName 6))
 (bSeq (bAsg (mOp oCatT (mTup (mCons (mOp oIx (mVar 6) (mC (.d (.int 0)))) (mCons (mVar 4) mNil))) (mIf (mT (mCall (cP (m_law_takes A K)) (mCons (mVar 6) mNil))) (mTup (mCons (mCall (cP (m_law_one A K)) (mCons (mVar 0) (mCons (mLst (mCons (mC (.d (.str "w"))) (mCons (mC (.d (.str "v"))) mNil))) mNil))) mNil)) (mTup mNil))) (nName 7))
 (bSeq (bAsg (mIf (mT (mOp (oEq false) (mCall (cP (m_law_take A K)) (mCons (mVar 0) (mCons (mC (.d (.int 9))) mNil))) (mC (.d (.int 0))))) (mTup (mCons (mC (.d (.str "make"))) mNil)) (mVar 7)) (nName 7))
 (bSeq (bAsg (mIf (mOrT (mT (mOp (oEqD false) (mVar 7) (mTup (mCons (mC (.d (.str "make"))) mNil)))) (mT (mOp (oEq true) (mOp oIx (mVar 6) (mC (.d (.int 1)))) (mC (.d (.str "last")))))) (mCB oLen (mCons (mVar 3) mNil)) (mVar 4)) (nName 4))
 (bDrop (mBM oAppend (mVar 3) (mCons (mVar 7) mNil)))))))
def k_law_onward_2 (A : Ad) (K : PySem.W.Frag) : BS := (bRet (mVar 3))
def b_law_onward (A : Ad) (K : PySem.W.Frag) : BS :=
 (bSeq (bPar 3 4 (mCons (mLst (mCons (mTup (mCons (mC (.d (.str "make"))) mNil)) mNil)) (mCons (mC (.d (.int 0))) mNil)))
 (bSeq (bFor (miR1 (mCons (mVar 2) mNil)) (nName 5) (l_law_onward_1 A K))
 (k_law_onward_2 A K)))
@[irreducible] def m_law_onward (A : Ad) (K : PySem.W.Frag) : OF := fNoO (fOpen 8 3 (b_law_onward A K))
theorem ne_law_onward {A : Ad} {K : PySem.W.Frag} : NoEO (m_law_onward A K) := by unfold m_law_onward; exact fun _ _ _ _ h => h
def l_law_is_onward_1 (A : Ad) (K : PySem.W.Frag) : BS := (bIf (mAndT (mT (mOp (oEqD true) (mVar 3) (mTup (mCons (mC (.d (.str "make"))) mNil)))) (mT (mOp (oEq true) (mOp oIx (mVar 3) (mC (.d (.int 1)))) (mOp oIx (mCall (cP (m_law_callable A K)) (mCons (mVar 0) (mCons (mSl oSlL (mVar 1) mNoPart (mPart (mVar 2))) mNil))) (mNeg (mC (.d (.int 1))))))))
 (bRet (mC (.d (.bl false))))
 bNext)
def k_law_is_onward_2 (A : Ad) (K : PySem.W.Frag) : BS := (bRet (mC (.d (.bl true))))
def b_law_is_onward (A : Ad) (K : PySem.W.Frag) : BS :=
 (bSeq (bFor (miEn (mVar 1)) (nTup 2 (nCons (nName 2) (nCons (nName 3) nNil))) (l_law_is_onward_1 A K))
 (k_law_is_onward_2 A K))
@[irreducible] def m_law_is_onward (A : Ad) (K : PySem.W.Frag) : PF := fNo (fPure 4 2 (b_law_is_onward A K))
theorem ne_law_is_onward {A : Ad} {K : PySem.W.Frag} : NoE (m_law_is_onward A K) := by unfold m_law_is_onward; exact fun _ _ _ h => h
def l_law_1_k12 (A : Ad) (K : PySem.W.Frag) : BS := (bIf (mNotT (mT (mCall (cP (m_law_same A K 1)) (mCons (mMeth A.Run "is_onward" (cO (m_Run_is_onward A K)) (mMake A.Run (cO (m_Run___init__ A K)) (mCons (mDGet (mVar 3) (mC (.d (.str "known")))) (mCons (mVar 8) mNil))) mNil) (mCons (mCall (cP (m_law_is_onward A K)) (mCons (mVar 3) (mCons (mVar 8) mNil))) mNil)))))
 (bRet (mC (.d (.bl false))))
 bNext)
def l_law_2_k12 (A : Ad) (K : PySem.W.Frag) : BS := (bSeq (bAsg (mCall (cP (m_law_kind A K)) (mCons (mVar 1) (mCons (mC (.d (.int 2))) (mCons (mC (.d (.int 5))) (mCons (mC (.d (.int 2))) mNil))))) (nName 3))
 (bSeq (bAsg (mCall (cO (m_law_onward A K)) (mCons (mVar 1) (mCons (mVar 3) (mCons (mCall (cP (m_law_one A K)) (mCons (mVar 1) (mCons (mLst (mCons (mC (.d (.int 0))) (mCons (mC (.d (.int 3))) (mCons (mC (.d (.int 8))) (mCons (mC (.d (.int 20))) mNil))))) mNil))) mNil)))) (nName 4))
 (bSeq (bIf (mNotT (mT (mCall (cP (m_law_same A K 1)) (mCons (mMeth A.Run "is_onward" (cO (m_Run_is_onward A K)) (mMake A.Run (cO (m_Run___init__ A K)) (mCons (mDGet (mVar 3) (mC (.d (.str "known")))) (mCons (mVar 4) mNil))) mNil) (mCons (mC (.d (.bl true))) mNil)))))
 (bRet (mC (.d (.bl false))))
 bNext)
 (bSeq (bAsg (mCall (cP (m_law_take A K)) (mCons (mVar 1) (mCons (mCB oLen (mCons (mVar 4) mNil)) mNil))) (nName 5))
 (bSeq (bAsg (mCall (cP (m_law_callable A K)) (mCons (mVar 3) (mCons (mSl oSlL (mVar 4) mNoPart (mPart (mVar 5))) mNil))) (nName 6))
 (bSeq (bIf (mAndT (mT (mOp oGt (mVar 5) (mC (.d (.int 0))))) (mT (mOp (oEqD true) (mOp oIx (mVar 4) (mVar 5)) (mTup (mCons (mC (.d (.str "make"))) mNil)))))
 (bAsg (mOp oCatT (mTup (mCons (mOp oIx (mOp oIx (mVar 4) (mVar 5)) (mC (.d (.int 0)))) (mCons (mCall (cP (m_law_one A K)) (mCons (mVar 1) (mCons (mVar 6) mNil))) mNil))) (mSl oSlT (mOp oIx (mVar 4) (mVar 5)) (mPart (mC (.d (.int 2)))) mNoPart)) (nSub (mVar 4) (mVar 5)))
 bNext)
 (bSeq (bAsg (mLst (mCons (mVar 4) (mCons (mCall (cP (m_law_program A K)) (mCons (mVar 1) (mCons (mVar 3) (mCons (mCall (cP (m_law_one A K)) (mCons (mVar 1) (mCons (mLst (mCons (mC (.d (.int 2))) (mCons (mC (.d (.int 3))) (mCons (mC (.d (.int 9))) mNil)))) mNil))) (mCons (mLst (mCons (mC (.d (.str "w"))) (mCons (mC (.d (.str "v"))) mNil))) mNil))))) mNil))) (nName 7))
 (bSeq (bIf (mT (mOp (oIsB true) (mMeth A.Run "is_onward" (cO (m_Run_is_onward A K)) (mMakeD A.Run (cO (m_Run___init__ A K)) [.tup []] (mCons (mDGet (mVar 3) (mC (.d (.str "known")))) mNil)) mNil) (mC (.d (.bl true)))))
 (bRet (mC (.d (.bl false))))
 bNext)
 (bFor (miSq (mVar 7)) (nName 8) (l_law_1_k12 A K))))))))))
def k_law_3_k12 (A : Ad) (K : PySem.W.Frag) : BS := (bRet (mC (.d (.bl true))))
def b_law_k12 (A : Ad) (K : PySem.W.Frag) : BS :=
 (bSeq (bFor (miR1 (mCons (mC (.d (.int 6))) mNil)) (nName 2) (l_law_2_k12 A K))
 (k_law_3_k12 A K))
end Mz
end
section
set_option Elab.async false
set_option linter.all false
set_option maxRecDepth 100000
set_option maxHeartbeats 1000000
namespace Mz
open PySem L2
/-! ### a stepper for mirrors -/
local macro_rules | `(tactic| row_cond sd) => `(tactic| first | exact rfl | exact True.intro | assumption | decide)
local macro_rules | `(tactic| row_cond st) => `(tactic| first
  | refine And.intro (by row_cond sd) ?_
  | refine ⟨_, by row_cond sd, ?_⟩
  | refine ⟨_, _, by row_cond sd, ?_⟩
  | refine ⟨_, _, by row_cond sd, by row_cond sd, ?_⟩
  | refine ⟨_, _, _, by row_cond sd, ?_⟩
  | refine ⟨_, _, _, by row_cond sd, by row_cond sd, ?_⟩
  | refine ⟨_, _, _, by row_cond sd, by row_cond sd, by row_cond sd, ?_⟩
  | refine ⟨_, _, _, _, by row_cond sd, ?_⟩
  | refine ⟨_, _, _, _, by row_cond sd, by row_cond sd, by row_cond sd, ?_⟩
  | refine ⟨_, _, _, _, by row_cond sd, by row_cond sd, by row_cond sd, by row_cond sd, ?_⟩
  | refine iteT ?_
  | refine iteF ?_)
local macro_rules | `(tactic| row_cond go) => `(tactic| repeat (row_cond st))
/-! ### isinstance -/
/-- data that is no class, no object -/
def Da.pl : Da → Bool
  | .ins _ _ => false
  | .cls _ => false
  | .ty _ => false
  | .st => false
  | _ => true
inductive Kn | non | bl | int | str | lst | tup | dct
inductive Ty5 | int | bool | str | list | tuple
def Kn.nm : Kn → String
  | .non => "NoneType"
  | .bl => "bool"
  | .int => "int"
  | .str => "str"
  | .lst => "list"
  | .tup => "tuple"
  | .dct => "dict"
def Ty5.nm : Ty5 → String
  | .int => "int"
  | .bool => "bool"
  | .str => "str"
  | .list => "list"
  | .tuple => "tuple"
def Kn.isA : Kn → Ty5 → Bool
  | .bl, .int => true
  | .bl, .bool => true
  | .int, .int => true
  | .str, .str => true
  | .lst, .list => true
  | .tup, .tuple => true
  | _, _ => false
def Da.kn : Da → Kn
  | .bl _ => .bl
  | .int _ => .int
  | .str _ => .str
  | .lst _ => .lst
  | .tup _ => .tup
  | .dct _ => .dct
  | _ => .non
def Da.isA (d : Da) (T : Ty5) : Bool := d.kn.isA T
theorem kit_all (k : Kn) (T : Ty5) : kitB k.nm T.nm = some (k.isA T) := by
  cases k <;> cases T <;> decide +kernel
theorem tyD_kn {K : PySem.W.Frag} {μ : MS} {d : Da} (hd : d.pl = true) : TyD K μ (.d d) (.type d.kn.nm) := by
  cases d with
  | non => exact .non
  | bl b => exact .bl _
  | int b => exact .int _
  | str b => exact .str _
  | lst b => exact .lst rfl
  | tup b => exact .tup rfl
  | dct b => exact .dct rfl
  | _ => cases hd
theorem isi_data {K : PySem.W.Frag} {μ : MS} {Q : DK} {d : Da} (T : Ty5) (hd : d.pl = true) (h : Q (.d (.bl (d.isA T))) μ) : ∃ t u b, TyD K μ (.d d) t ∧ clV (.d (.ty T.nm)) = some u ∧ PySem.W.kitOne K t u = some b ∧ Q (.d (.bl b)) μ :=
  ⟨_, _, _, tyD_kn hd, rfl, kit_ty (kit_all _ T), h⟩
theorem isT_data {K : PySem.W.Frag} {d : Da} : PySem.W.kitAny K (.type d.kn.nm) [.type "list", .type "tuple"] = some (d.isA .list || d.isA .tuple) := by
  have k1 := kit_all d.kn .list
  have k2 := kit_all d.kn .tuple
  refine kitAny_cons (kit_ty k1) (fun e => ?_) (fun e => ?_)
  · refine kitAny_cons (kit_ty k2) (fun e2 => ?_) (fun e2 => ?_)
    · unfold Da.isA; rw [e, e2]; exact kitAny_nil
    · unfold Da.isA; rw [e, e2]; rfl
  · unfold Da.isA; rw [e]; rfl
section
variable {A : Ad} {K : PySem.W.Frag} {E : Ex → Prop} {Q : Da → Prop}
def Da.isInt (d : Da) : Bool := d.isA .int && !d.isA .bool
theorem x_is_integer {d : Da} (hd : d.pl = true) (h : Q (.bl d.isInt)) : m_is_integer A K [d] E Q := by
  unfold m_is_integer
  refine ⟨rfl, ?_⟩
  unfold b_is_integer
  row_cond go
  refine ⟨_, _, _, tyD_kn hd, rfl, kit_ty (kit_all _ .int), ?_⟩
  refine ⟨_, rfl, ?_⟩
  unfold Da.isInt at h
  show (if d.isA .int = true then _ else _)
  cases e : d.isA .int with
  | false => rw [e] at h; exact iteF ⟨_, .d _, h⟩
  | true =>
    rw [e] at h
    refine iteT ?_
    row_cond go
    refine ⟨_, _, _, tyD_kn hd, rfl, kit_ty (kit_all _ .bool), ?_⟩
    row_cond go
    exact ⟨_, .d _, h⟩
def Da.isBet (d : Da) (lo hi : Int) : Bool := match d with
  | .int i => decide (lo ≤ i) && decide (i ≤ hi)
  | _ => false
theorem x_is_between {d : Da} {lo hi : Int} (hd : d.pl = true) (h : Q (.bl (d.isBet lo hi))) : m_is_between A K [d, .int lo, .int hi] E Q := by
  unfold m_is_between
  refine ⟨rfl, ?_⟩
  unfold b_is_between
  row_cond go
  refine x_is_integer hd ?_
  refine ⟨_, rfl, ?_⟩
  cases d with
  | int i =>
    row_cond go
    by_cases c : lo ≤ i
    · rw [decide_eq_true c]
      row_cond go
      have e : (Da.int i).isBet lo hi = decide (i ≤ hi) := by simp [Da.isBet, c]
      rw [e] at h
      exact ⟨_, .d _, h⟩
    · rw [decide_eq_false c]
      row_cond go
      have e : (Da.int i).isBet lo hi = false := by simp [Da.isBet, c]
      rw [e] at h
      exact ⟨_, .d _, h⟩
  | _ => exact ⟨_, .d _, h⟩
def Da.isSq (d : Da) : Bool := d.isA .list || d.isA .tuple
theorem x_is_list {d : Da} (hd : d.pl = true) (h : Q (.bl d.isSq)) : m_is_list A K [d] E Q := by
  unfold m_is_list
  refine ⟨rfl, ?_⟩
  unfold b_is_list
  row_cond go
  exact ⟨_, _, _, tyD_kn hd, rfl, isT_data, (by decide), _, .d _, h⟩
/-- the items of a list or a tuple -/
def Da.items : Da → Option (List Da)
  | .lst xs => some xs
  | .tup xs => some xs
  | _ => none
theorem items_sq {d : Da} {xs : List Da} (h : d.items = some xs) : d.isSq = true ∧ d.pl = true ∧ ∀ μ, sqV μ (.d d) = some (xs.map .d) := by
  cases d with
  | lst ys => cases h; exact ⟨rfl, rfl, fun _ => rfl⟩
  | tup ys => cases h; exact ⟨rfl, rfl, fun _ => rfl⟩
  | _ => cases h
theorem items_len {d : Da} {xs : List Da} (h : d.items = some xs) (μ : MS) : lenD μ (.d d) = some xs.length ∧ okS (.d d) := by
  cases d with
  | lst ys => cases h; exact ⟨by simp [lenD, sqV], trivial⟩
  | tup ys => cases h; exact ⟨by simp [lenD, sqV], trivial⟩
  | _ => cases h
theorem okS_items {d : Da} {xs : List Da} (h : d.items = some xs) : okS (.d d) := (items_len h []).2
theorem len_items {d : Da} {xs : List Da} (h : d.items = some xs) (μ : MS) : lenD μ (.d d) = some xs.length := (items_len h μ).1
theorem x_is_row {d : Da} {xs : List Da} {n : Nat} (hd : d.items = some xs) (h : Q (.bl (decide (xs.length = n)))) : m_is_row A K [d, .int n] E Q := by
  obtain ⟨h1, h2, h3⟩ := items_sq hd
  unfold m_is_row
  refine ⟨rfl, ?_⟩
  unfold b_is_row
  row_cond go
  refine x_is_list h2 ?_
  rw [h1]
  row_cond go
  refine ⟨okS_items hd, _, len_items hd _, ?_⟩
  row_cond go
  refine ⟨_, .d _, ?_⟩
  have e : decide (V.int xs.length = V.int n) = decide (xs.length = n) := by
    rw [int_eq_dec]
    by_cases h : xs.length = n <;> simp [h] <;> omega
  show Q (.bl (decide (V.int xs.length = V.int n)))
  rw [e]
  exact h
/-! ### words -/
abbrev LET : Str := "abcdefghijklmnopqrstuvwxyz"
def lowS (s : Str) : Bool := (s.cps.toList.map fun k => decide (k ∈ LET.cps.toList)).all id
def Da.isWord : Da → Bool
  | .str s => decide (1 ≤ s.length) && decide (s.length ≤ 8) && lowS s
  | _ => false
/-- texts are not too long -/
def Da.short : Da → Prop
  | .str s => s.length ≤ 100000
  | _ => True
/-- [e for i in ..], the items inj x, the element f x -/
theorem lc_name {β : Type} (inj f : β → Dv) {gd : MS → Prop} {e : ES} {i : Nat} {α : Env'} {Q : List Dv → MS → Prop} {μ : MS} (hg : gd μ) :
    ∀ (l : List β) (acc : List Dv), (∀ x ∈ l, ∀ P : DK, P (f x) μ → e noX ((wpD α [i]).set i (some (inj x))) μ P) → l.length + acc.length < 1000000 → Q (acc ++ l.map f) μ → mLcL gd (nName i) mYes e [i] α Q (l.map inj) acc μ
  | [], acc, _, _, h => by
    rw [List.map_nil, List.append_nil] at h
    exact h
  | x :: r, acc, hd, hl, h => by
    show (if true = true then e noX ((wpD α [i]).set i (some (inj x))) μ fun y μ4 => acc.length < sizeLine ∧ gd μ4 ∧ mLcL gd (nName i) mYes e [i] α Q (r.map inj) (acc ++ [y]) μ4 else gd μ ∧ mLcL gd (nName i) mYes e [i] α Q (r.map inj) acc μ)
    refine iteT ?_
    refine hd x (by simp) _ ⟨Nat.lt_of_lt_of_le (m := 1000000) (by simp at hl; omega) (by decide), hg, ?_⟩
    refine lc_name inj f hg r (acc ++ [f x]) (fun y hy => hd y (by simp [hy])) (by simp at hl ⊢; omega) ?_
    rw [List.append_assoc]
    exact h
theorem bls_of {α : Type} (f : α → Bool) (l : List α) : bls (l.map fun x => .d (.bl (f x))) = some (l.map f) := by
  rw [← bls_map, List.map_map]; rfl
theorem x_is_word {d : Da} (hd : d.pl = true) (hs : d.short) (h : Q (.bl d.isWord)) : m_is_word A K [d] E Q := by
  unfold m_is_word
  refine ⟨rfl, ?_⟩
  unfold b_is_word
  row_cond go
  refine ⟨_, _, _, tyD_kn hd, rfl, kit_ty (kit_all _ .str), ?_⟩
  refine ⟨_, rfl, ?_⟩
  cases d with
  | str s =>
    have hs' : s.length ≤ 100000 := hs
    have hl : okS (.d (.str s)) := Nat.le_trans hs' (by decide)
    row_cond go
    by_cases c1 : 1 ≤ s.length
    · rw [decide_eq_true (by omega : (1 : Int) ≤ (s.length : Int))]
      row_cond go
      by_cases c2 : s.length ≤ 8
      · rw [decide_eq_true (by omega : (s.length : Int) ≤ 8)]
        row_cond go
        refine lc_name (fun k => .d (.str ⟨#[k]⟩)) (fun k => .d (.bl (decide (k ∈ LET.cps.toList)))) trivial s.cps.toList [] (fun k _ P hP => ?_) ?_ ?_
        · row_cond go
          exact hP
        · have : s.cps.toList.length = s.length := by unfold Str.length; simp
          rw [this]; show s.length + 0 < 1000000; omega
        · refine ⟨_, _, _, rfl, rfl, bls_of _ _, ?_⟩
          have e : (Da.str s).isWord = lowS s := by simp [Da.isWord, c1, c2]
          rw [e] at h
          exact ⟨_, .d _, h⟩
      · rw [decide_eq_false (by omega : ¬ (s.length : Int) ≤ 8)]
        row_cond go
        have e : (Da.str s).isWord = false := by simp [Da.isWord, c2]
        rw [e] at h
        exact ⟨_, .d _, h⟩
    · rw [decide_eq_false (by omega : ¬ (1 : Int) ≤ (s.length : Int))]
      row_cond go
      have e : (Da.str s).isWord = false := by simp [Da.isWord, c1]
      rw [e] at h
      exact ⟨_, .d _, h⟩
  | _ => exact ⟨_, .d _, h⟩
/-! ### no two alike -/
def trueD (ss : List Str) : List (Key × Dv) := ss.map fun s => (Sum.inr s, .d (.bl true))
theorem putD_new {ss : List Str} {s : Str} (h : s ∉ ss) : putD (trueD ss) (Sum.inr s) (.d (.bl true)) = trueD (ss ++ [s]) := by
  unfold putD
  rw [if_neg]
  · simp [trueD]
  · intro z
    obtain ⟨kv, h1, h2⟩ := List.any_eq_true.mp z
    obtain ⟨t, ht, rfl⟩ := List.mem_map.mp h1
    have : Sum.inr t = (Sum.inr s : Key) := of_decide_eq_true h2
    exact h (by rw [← Sum.inr.inj this]; exact ht)
theorem dc_unlike {gd : MS → Prop} {i : Nat} {α : Env'} {Q : List (Key × Dv) → MS → Prop} {μ : MS} (hg : gd μ) (hi : i < α.length) :
    ∀ (l acc : List Str), (acc ++ l).Nodup → (acc ++ l).length < 1000000 → Q (trueD (acc ++ l)) μ → mDcL gd (nName i) mYes (mVar i) (mC (.d (.bl true))) [i] α Q (l.map fun s => .d (.str s)) (trueD acc) μ
  | [], acc, _, _, h => by
    rw [List.append_nil] at h
    exact h
  | s :: r, acc, nd, hl, h => by
    have hs : s ∉ acc := fun z => (List.nodup_append.mp nd).2.2 s z s (by simp) rfl
    have e1 : ((wpD α [i]).set i (some (Dv.d (.str s))))[i]? = some (some (.d (.str s))) := by
      rw [List.getElem?_set_self]
      show i < (α.set i none).length
      rw [List.length_set]; exact hi
    rw [List.map_cons]
    unfold mDcL
    refine ⟨_, e1, _, rfl, ?_, hg, ?_⟩
    · refine Nat.lt_of_lt_of_le (m := 1000000) ?_ (by decide)
      simp [trueD] at hl ⊢; omega
    · rw [putD_new hs]
      refine dc_unlike hg hi r (acc ++ [s]) (by rw [List.append_assoc]; exact nd) (by rw [List.append_assoc]; exact hl) ?_
      rw [List.append_assoc]
      exact h
theorem x_are_unlike {d : Da} {ss : List Str} (hd : d.items = some (ss.map Da.str)) (nd : ss.Nodup) (hl : ss.length < 1000000) (h : Q (.bl true)) : m_are_unlike A K [d] E Q := by
  obtain ⟨h1, h2, h3⟩ := items_sq hd
  unfold m_are_unlike
  refine ⟨rfl, ?_⟩
  unfold b_are_unlike
  row_cond go
  have h4 : ∀ μ, sqV μ (.d d) = some (ss.map fun s => .d (.str s)) := fun μ => by
    rw [h3 μ, List.map_map]; rfl
  refine ⟨_, h4 _, h4 _, ?_⟩
  refine dc_unlike (h4 _) ?_ ss [] nd hl ?_
  · show 1 < 2; decide
  row_cond go
  refine ⟨okS_items hd, _, len_items hd _, ?_⟩
  row_cond go
  refine ⟨_, .d _, ?_⟩
  show Q (.bl (decide (V.int ((trueD ([] ++ ss)).length : Nat) = V.int ((ss.map Da.str).length : Nat))))
  rw [int_eq_dec, decide_eq_true (by simp [trueD])]
  exact h
end
end Mz
end
section
set_option Elab.async false
set_option linter.all false
set_option maxRecDepth 100000
set_option maxHeartbeats 1000000
namespace Mz
open PySem L2
local macro_rules | `(tactic| row_cond sd) => `(tactic| first | exact rfl | exact True.intro | assumption | decide)
local macro_rules | `(tactic| row_cond st) => `(tactic| first
  | refine And.intro (by row_cond sd) ?_
  | refine ⟨_, by row_cond sd, ?_⟩
  | refine ⟨_, _, by row_cond sd, ?_⟩
  | refine ⟨_, _, by row_cond sd, by row_cond sd, ?_⟩
  | refine ⟨_, _, _, by row_cond sd, ?_⟩
  | refine ⟨_, _, _, by row_cond sd, by row_cond sd, ?_⟩
  | refine ⟨_, _, _, by row_cond sd, by row_cond sd, by row_cond sd, ?_⟩
  | refine ⟨_, _, _, _, by row_cond sd, ?_⟩
  | refine ⟨_, _, _, _, by row_cond sd, by row_cond sd, by row_cond sd, ?_⟩
  | refine ⟨_, _, _, _, by row_cond sd, by row_cond sd, by row_cond sd, by row_cond sd, ?_⟩
  | refine iteT ?_
  | refine iteF ?_)
local macro_rules | `(tactic| row_cond go) => `(tactic| repeat (row_cond st))
/-! ### loops -/
theorem loop_by {gd : MS → Prop} {g : GS} {b : BS} {D : En} (P : Nat → Env' → MS → Prop) {items : List Dv}
    (hs : ∀ (i : Nat) (d : Dv) (α : Env') (μ : MS) (N : Env' → MS → Prop), items[i]? = some d → P i α μ → (∀ α' μ', P (i + 1) α' μ' → N α' μ') → g d D.er α μ fun α1 μ1 => b { D with nx := fun α2 μ2 => gd μ2 ∧ N α2 μ2, ct := fun α2 μ2 => gd μ2 ∧ N α2 μ2, bk := D.nx } α1 μ1)
    (he : ∀ α μ, P items.length α μ → D.nx α μ) {α : Env'} {μ : MS} (h0 : P 0 α μ) : mLoop gd g b D items α μ := by
  have key : ∀ (k i : Nat) (α : Env') (μ : MS), items.length - i = k → i ≤ items.length → P i α μ → mLoop gd g b D (items.drop i) α μ := by
    intro k
    induction k with
    | zero =>
      intro i α μ e hi p
      have : i = items.length := by omega
      subst this
      rw [List.drop_length]
      exact he α μ p
    | succ k ih =>
      intro i α μ e hi p
      have hlt : i < items.length := by omega
      rw [List.drop_eq_getElem_cons hlt]
      exact hs i _ α μ _ (List.getElem?_eq_getElem hlt) p fun α' μ' p' => ih (i + 1) α' μ' (by omega) hlt p'
  have := key _ 0 α μ rfl (Nat.zero_le _) h0
  rwa [List.drop_zero] at this
/-! ### fields and calls as data -/
structure Fld where
  nm : Str
  many : Bool
  need : Bool
def Fld.sort (f : Fld) : Str := if f.many then "many" else "one"
def Fld.da (f : Fld) : Da := .tup [.str f.nm, .str f.sort, .bl f.need]
def isFld (x : Da) (f : Fld) : Prop := x.items = some [.str f.nm, .str f.sort, .bl f.need]
structure FldsOk (fs : List Fld) : Prop where
  ne : 0 < fs.length
  le : fs.length ≤ 3
  wd : ∀ f ∈ fs, (Da.str f.nm).isWord = true
  nd : (fs.map Fld.nm).Nodup
theorem word_len {s : Str} (h : (Da.str s).isWord = true) : s.length ≤ 8 := by
  simp [Da.isWord] at h
  exact h.1.2
theorem word_short {s : Str} (h : (Da.str s).isWord = true) : (Da.str s).short := Nat.le_trans (word_len h) (by decide)
theorem Paired.getL {α β : Type} {R : α → β → Prop} : ∀ {l : List α} {m : List β} {i : Nat} {x : α}, Paired R l m → l[i]? = some x → ∃ y, m[i]? = some y ∧ R x y
  | _, _, _, _, .nil, e => by simp at e
  | _, _, 0, _, .cons h _, e => by simp at e; subst e; exact ⟨_, rfl, h⟩
  | _, _, i + 1, x, .cons _ t, e => by
    obtain ⟨y, h1, h2⟩ := Paired.getL (i := i) (x := x) t (by simpa using e)
    exact ⟨y, by simpa using h1, h2⟩
theorem take_snoc {α : Type} {l : List α} {i : Nat} {x : α} (h : l[i]? = some x) : l.take (i + 1) = l.take i ++ [x] := by
  rw [List.take_succ, h]; rfl
theorem inV_strs {s : Str} {ss : List Str} : inV (.str s) (ss.map V.str) = decide (s ∈ ss) := by
  unfold inV
  rw [List.any_map]
  by_cases h : s ∈ ss
  · rw [decide_eq_true h, List.any_eq_true]
    exact ⟨s, h, by simp [eqV]⟩
  · rw [decide_eq_false h, List.any_eq_false]
    intro x hx
    simp only [Function.comp, eqV]
    intro z
    exact h (by have : x = s := by simpa using z
                rw [← this]; exact hx)
theorem pVs_strs : ∀ ss : List Str, pVs (ss.map fun s => .d (.str s)) = some (ss.map V.str)
  | [] => rfl
  | s :: r => by simp [pVs, pV, pD, pVs_strs r]
theorem pVs_of {α : Type} (f : α → Str) {l : List α} : pVs ([] ++ l.map fun x => .d (.str (f x))) = some ((l.map f).map V.str) := by
  rw [← pVs_strs (l.map f), List.map_map]; rfl
theorem not_earlier {α : Type} {f : α → Str} {l : List α} {i : Nat} {x : α} (nd : (l.map f).Nodup) (h : l[i]? = some x) : ¬ f x ∈ (l.take i).map f := by
  intro hm
  have e1 : l.map f = (l.take i).map f ++ (l.drop i).map f := by rw [← List.map_append, List.take_append_drop]
  rw [e1] at nd
  have h2 : f x ∈ (l.drop i).map f := by
    refine List.mem_map.mpr ⟨x, ?_, rfl⟩
    refine List.mem_of_getElem? (i := 0) ?_
    rw [List.getElem?_drop]
    simpa using h
  exact (List.nodup_append.mp nd).2.2 _ hm _ h2 rfl
theorem sqV_last {μ : MS} {ys : List Dv} : sqV (μ ++ [.lst ys]) (.ob μ.length) = some ys := by simp [sqV, lsV]
theorem lsV_last {μ : MS} {ys : List Dv} : lsV (μ ++ [.lst ys]) (.ob μ.length) = some ys := by simp [lsV]
theorem get_last {μ : MS} {o : MO} : (μ ++ [o])[μ.length]? = some o := by simp
/-- an item of a list or tuple -/
theorem ix_items {d : Da} {xs : List Da} {x : Da} {j : Nat} {i : Int} (hd : d.items = some xs) (hi : i = (j : Nat)) (h : xs[j]? = some x) (μ : MS) : ixD μ (.d d) (.d (.int i)) = some (.d x) := by
  subst hi
  have e : atI (xs.map Dv.d) (j : Int) = some (.d x) := atI_nat (by rw [List.getElem?_map, h]; rfl)
  cases d with
  | lst ys => cases hd; exact e
  | tup ys => cases hd; exact e
  | _ => cases hd
theorem en_get {ds : List Dv} {i : Nat} {d : Dv} (h : (enumD ds)[i]? = some d) : ∃ x, ds[i]? = some x ∧ d = mkTup [.d (.int (i : Nat)), x] := by
  have hl : i < ds.length := by rw [← enumD_len]; exact (List.getElem?_eq_some_iff.mp h).1
  refine ⟨ds[i], List.getElem?_eq_getElem hl, ?_⟩
  rw [enumD_get (List.getElem?_eq_getElem hl)] at h
  exact (Option.some.inj h).symm
theorem map_get {α : Type} {f : α → Dv} {l : List α} {i : Nat} {d : Dv} (h : (l.map f)[i]? = some d) : ∃ x, l[i]? = some x ∧ d = f x := by
  rw [List.getElem?_map] at h
  cases q : l[i]? with
  | none => rw [q] at h; cases h
  | some x => rw [q] at h; exact ⟨x, rfl, (Option.some.inj h).symm⟩
section
variable {A : Ad} {K : PySem.W.Frag} {E : Ex → Prop} {Q : Da → Prop}
theorem x_checked_fields {d : Da} {xs : List Da} {fs : List Fld} (hd : d.items = some xs) (hp : Paired isFld xs fs) (ok : FldsOk fs) (h : Q (.lst (fs.map Fld.da))) : m_checked_fields A K [d] E Q := by
  obtain ⟨h1, h2, h3⟩ := items_sq hd
  have hlen := Paired.length hp
  have hne := ok.ne
  have hle := ok.le
  unfold m_checked_fields
  refine ⟨rfl, ?_⟩
  unfold b_checked_fields
  row_cond go
  refine x_is_list h2 ?_
  rw [h1]
  row_cond go
  refine ⟨okS_items hd, _, len_items hd _, ?_⟩
  row_cond go
  rw [show decide (V.int (xs.length : Nat) = V.int 0) = false by rw [int_eq_dec]; exact decide_eq_false (by omega)]
  row_cond go
  refine ⟨_, h3 _, h3 _, ?_⟩
  refine loop_by (fun i α μ => ∃ (s2 s3 s4 : Option Dv) (g : MS), α = [some (.d d), some (.ob 0), s2, s3, s4, none] ∧ μ = .lst ((fs.take i).map fun f => .d f.da) :: g) ?_ ?_ ⟨none, none, none, [], rfl, rfl⟩
  · rintro i y α μ N hy ⟨s2, s3, s4, g, rfl, rfl⟩ hN
    obtain ⟨z, hz, rfl⟩ := en_get hy
    obtain ⟨x, hx, rfl⟩ := map_get hz
    obtain ⟨f, hf, hxf⟩ := Mz.Paired.getL hp hx
    have hfm := List.mem_of_getElem? hf
    have hi3 : i < 3 := by
      have := (List.getElem?_eq_some_iff.mp hf).1
      omega
    unfold l_checked_fields_1
    row_cond go
    refine x_is_row hxf ?_
    row_cond go
    refine ⟨okS_items hxf, _, ix_items hxf rfl rfl _, ?_⟩
    row_cond go
    refine x_is_word rfl (word_short (ok.wd f hfm)) ?_
    rw [ok.wd f hfm]
    row_cond go
    refine ⟨okS_items hxf, _, ix_items hxf (j := 2) rfl rfl _, ?_⟩
    row_cond go
    refine ⟨_, _, _, tyD_kn (d := .bl f.need) rfl, rfl, kit_ty (kit_all .bl .bool), ?_⟩
    row_cond go
    rw [show decide (V.int (i : Nat) = V.int 3) = false by rw [int_eq_dec]; exact decide_eq_false (by omega)]
    row_cond go
    refine ⟨okS_items hxf, _, ix_items hxf (j := 1) rfl rfl _, ?_⟩
    row_cond go
    rw [show inV (V.str f.sort) [V.str "one", V.str "many"] = true by unfold Fld.sort; cases f.many <;> decide]
    row_cond go
    refine ⟨okS_items hxf, _, ix_items hxf (j := 0) rfl rfl _, ?_⟩
    row_cond go
    refine lc_name (fun f : Fld => .d f.da) (fun f : Fld => .d (.str f.nm)) (by exact rfl) (fs.take i) [] (fun k _ P hP => ?_) ?_ ?_
    · row_cond go
      exact hP
    · simp; omega
    · refine ⟨_, _, _, rfl, sqV_last, pVs_of fun f : Fld => f.nm, ?_⟩
      refine ⟨_, rfl, ?_⟩
      rw [show inV (V.str f.nm) (((fs.take i).map Fld.nm).map V.str) = false by rw [inV_strs]; exact decide_eq_false (not_earlier ok.nd hf)]
      row_cond go
      refine ⟨_, _, rfl, (items_sq hxf).2.2 _, ?_⟩
      rw [mkTup_map]
      refine ⟨_, _, _, rfl, rfl, rfl, ?_, ?_⟩
      · rw [List.length_map, List.length_take]; exact Nat.lt_of_le_of_lt (Nat.min_le_left _ _) (Nat.lt_of_lt_of_le hi3 (by decide))
      exact ⟨h3 _, hN _ _ ⟨_, _, _, _, rfl, by rw [take_snoc hf, List.map_append]; rfl⟩⟩
  · rintro α μ ⟨s2, s3, s4, g, rfl, rfl⟩
    unfold k_checked_fields_2
    refine ⟨_, rfl, ?_⟩
    refine ⟨_, .lst rfl ?_, h⟩
    have e : (iwEn (.d d) (xs.map .d)).items.length = fs.length := by
      show (enumD _).length = _
      rw [enumD_len, List.length_map, hlen]
    rw [e, List.take_length]
    have := RzAll.map (.lst (fs.map fun f => .d f.da) :: g) (fs.map Fld.da)
    rwa [List.map_map] at this
end
end Mz
end
section
set_option Elab.async false
set_option linter.all false
set_option maxRecDepth 100000
set_option maxHeartbeats 1000000
namespace Mz
open PySem L2
local macro_rules | `(tactic| row_cond sd) => `(tactic| first | exact rfl | exact True.intro | assumption | decide)
local macro_rules | `(tactic| row_cond st) => `(tactic| first
  | refine And.intro (by row_cond sd) ?_
  | refine ⟨_, by row_cond sd, ?_⟩
  | refine ⟨_, _, by row_cond sd, ?_⟩
  | refine ⟨_, _, by row_cond sd, by row_cond sd, ?_⟩
  | refine ⟨_, _, _, by row_cond sd, ?_⟩
  | refine ⟨_, _, _, by row_cond sd, by row_cond sd, ?_⟩
  | refine ⟨_, _, _, by row_cond sd, by row_cond sd, by row_cond sd, ?_⟩
  | refine ⟨_, _, _, _, by row_cond sd, ?_⟩
  | refine ⟨_, _, _, _, by row_cond sd, by row_cond sd, by row_cond sd, ?_⟩
  | refine ⟨_, _, _, _, by row_cond sd, by row_cond sd, by row_cond sd, by row_cond sd, ?_⟩
  | refine iteT ?_
  | refine iteF ?_)
local macro_rules | `(tactic| row_cond go) => `(tactic| repeat (row_cond st))
/-! ### comprehensions -/
theorem lc_by {gd : MS → Prop} {g : GS} {t : TS'} {e : ES} {vs : List Nat} {α : Env'} {Q : List Dv → MS → Prop} (P : Nat → List Dv → MS → Prop) {items : List Dv}
    (hs : ∀ (i : Nat) (d : Dv) (acc : List Dv) (μ : MS) (N : List Dv → MS → Prop), items[i]? = some d → P i acc μ → (∀ acc' μ', P (i + 1) acc' μ' → N acc' μ') → g d noX (wpD α vs) μ fun α2 μ2 => t noX α2 μ2 fun k μ3 => if k = true then e noX α2 μ3 fun y μ4 => acc.length < sizeLine ∧ gd μ4 ∧ N (acc ++ [y]) μ4 else gd μ3 ∧ N acc μ3)
    (he : ∀ acc μ, P items.length acc μ → Q acc μ) {μ : MS} (h0 : P 0 [] μ) : mLcL gd g t e vs α Q items [] μ := by
  have key : ∀ (k i : Nat) (acc : List Dv) (μ : MS), items.length - i = k → i ≤ items.length → P i acc μ → mLcL gd g t e vs α Q (items.drop i) acc μ := by
    intro k
    induction k with
    | zero =>
      intro i acc μ e hi p
      have : i = items.length := by omega
      subst this
      rw [List.drop_length]
      exact he acc μ p
    | succ k ih =>
      intro i acc μ e hi p
      have hlt : i < items.length := by omega
      rw [List.drop_eq_getElem_cons hlt]
      exact hs i _ acc μ _ (List.getElem?_eq_getElem hlt) p fun acc' μ' p' => ih (i + 1) acc' μ' (by omega) hlt p'
  have := key _ 0 [] μ rfl (Nat.zero_le _) h0
  rwa [List.drop_zero] at this
theorem dc_by {gd : MS → Prop} {g : GS} {t : TS'} {ek ev : ES} {vs : List Nat} {α : Env'} {Q : List (Key × Dv) → MS → Prop} (P : Nat → List (Key × Dv) → MS → Prop) {items : List Dv}
    (hs : ∀ (i : Nat) (d : Dv) (acc : List (Key × Dv)) (μ : MS) (N : List (Key × Dv) → MS → Prop), items[i]? = some d → P i acc μ → (∀ acc' μ', P (i + 1) acc' μ' → N acc' μ') → (∀ acc' μ', mDcL gd g t ek ev vs α Q (items.drop (i + 1)) acc' μ' = N acc' μ') → mDcL gd g t ek ev vs α Q (d :: items.drop (i + 1)) acc μ)
    (he : ∀ acc μ, P items.length acc μ → Q acc μ) {μ : MS} (h0 : P 0 [] μ) : mDcL gd g t ek ev vs α Q items [] μ := by
  have key : ∀ (k i : Nat) (acc : List (Key × Dv)) (μ : MS), items.length - i = k → i ≤ items.length → P i acc μ → mDcL gd g t ek ev vs α Q (items.drop i) acc μ := by
    intro k
    induction k with
    | zero =>
      intro i acc μ e hi p
      have : i = items.length := by omega
      subst this
      rw [List.drop_length]
      exact he acc μ p
    | succ k ih =>
      intro i acc μ e hi p
      have hlt : i < items.length := by omega
      rw [List.drop_eq_getElem_cons hlt]
      exact hs i _ acc μ _ (List.getElem?_eq_getElem hlt) p (fun acc' μ' p' => ih (i + 1) acc' μ' (by omega) hlt p') fun _ _ => rfl
  have := key _ 0 [] μ rfl (Nat.zero_le _) h0
  rwa [List.drop_zero] at this
/-! ### the sorts of fields -/
def sortsD (fs : List Fld) : List (Key × Da) := fs.map fun f => (Sum.inr f.nm, .str f.sort)
def sortOf (fs : List Fld) (s : Str) : Option Str := (fs.find? fun f => decide (f.nm = s)).map Fld.sort
theorem val_sorts (s : Str) : ∀ fs : List Fld, valD ((sortsD fs).map eD) (Sum.inr s) = (sortOf fs s).map fun t => .d (.str t)
  | [] => rfl
  | f :: r => by
    have ih := val_sorts s r
    unfold valD sortOf at ih ⊢
    by_cases h : f.nm = s
    · simp [sortsD, h, eD]
    · have h' : ¬ (Sum.inr f.nm = (Sum.inr s : Key)) := fun z => h (Sum.inr.inj z)
      simp only [sortsD, List.map_cons, eD, List.find?_cons, h, h', decide_false] at ih ⊢
      exact ih
theorem val_sort1 {fs : List Fld} {s t : Str} (h : sortOf fs s = some t) : valD ((sortsD fs).map eD) (Sum.inr s) = some (.d (.str t)) := by rw [val_sorts, h]; rfl
abbrev deedsOf (s : Str) : List Str := if s = "many" then ["add", "strike", "fresh", "clear"] else ["set", "clear"]
def DeedOk (fs : List Fld) (p : Str × Str) : Prop := ∃ t, sortOf fs p.2 = some t ∧ p.1 ∈ deedsOf t
theorem sort_two {fs : List Fld} {s t : Str} (h : sortOf fs s = some t) : t = "one" ∨ t = "many" := by
  unfold sortOf at h
  cases e : fs.find? fun f => decide (f.nm = s) with
  | none => rw [e] at h; cases h
  | some f =>
    rw [e] at h
    cases h
    unfold Fld.sort
    cases f.many
    · exact .inl rfl
    · exact .inr rfl
theorem all_true {α : Type} (l : List α) : (l.map fun _ => true).all id = true := by simp
def isPair (x : Da) (p : Str × Str) : Prop := x.items = some [.str p.1, .str p.2]
theorem inV_lit {s : Str} {ss : List Str} (h : s ∈ ss) : inV (.str s) (ss.map V.str) = true := by rw [inV_strs]; exact decide_eq_true h
theorem oIn_b {s : Str} {ss : List Str} (b : Bool) (hb : decide (s ∈ ss) = b) {neg : Bool} {d2 : Dv} {μ : MS} (hd : sqV μ d2 = some (ss.map fun s => .d (.str s))) {Q : DK} (h : Q (.d (.bl (neg != b))) μ) : oIn neg (.d (.str s)) d2 μ Q := by
  refine ⟨_, _, _, rfl, hd, pVs_strs _, ?_⟩
  rw [inV_strs, hb]
  cases neg
  · cases b <;> exact h
  · cases b <;> exact h
section
variable {A : Ad} {K : PySem.W.Frag} {E : Ex → Prop} {Q : Da → Prop}
theorem x_is_deed {d : Da} {fs : List Fld} {p : Str × Str} (hi : isPair d p) (hk : DeedOk fs p) (h : Q (.bl true)) : m_is_deed A K [d, .dct (sortsD fs)] E Q := by
  obtain ⟨t, ht, hm⟩ := hk
  unfold m_is_deed
  refine ⟨rfl, ?_⟩
  unfold b_is_deed
  row_cond go
  refine x_is_row hi ?_
  row_cond go
  refine ⟨okS_items hi, _, ix_items hi (j := 1) rfl rfl _, ?_⟩
  row_cond go
  refine ⟨_, _, _, tyD_kn (d := .str p.2) rfl, rfl, kit_ty (kit_all .str .str), ?_⟩
  row_cond go
  refine ⟨okS_items hi, _, ix_items hi (j := 1) rfl rfl _, ?_⟩
  row_cond go
  rw [val_sort1 ht]
  row_cond go
  refine ⟨okS_items hi, _, ix_items hi (j := 0) rfl rfl _, ?_⟩
  row_cond go
  refine ⟨_, _, _, tyD_kn (d := .str p.1) rfl, rfl, kit_ty (kit_all .str .str), ?_⟩
  row_cond go
  refine ⟨okS_items hi, _, ix_items hi (j := 0) rfl rfl _, ?_⟩
  row_cond go
  refine ⟨okS_items hi, _, ix_items hi (j := 1) rfl rfl _, ?_⟩
  refine ⟨_, _, _, rfl, rfl, val_sort1 ht, ?_⟩
  refine ⟨rfl, ?_⟩
  rcases sort_two ht with rfl | rfl
  · refine .inl ⟨rfl, ?_⟩
    refine oIn_b (ss := ["set", "clear"]) true (decide_eq_true hm) rfl ?_
    exact ⟨_, .d _, h⟩
  · refine .inr ⟨rfl, ?_⟩
    refine oIn_b (ss := ["add", "strike", "fresh", "clear"]) true (decide_eq_true hm) rfl ?_
    exact ⟨_, .d _, h⟩
theorem x_is_same {d : Da} {fs : List Fld} {ss : List Str} {hand : Str} (hd : d.items = some (ss.map Da.str)) (hm : ∀ s ∈ ss, sortOf fs s = some "many") (nd : ss.Nodup) (hl : ss.length ≤ 1000) (hs : hand = "self" → ss = []) (h : Q (.bl true)) : m_is_same A K [d, .str hand, .dct (sortsD fs)] E Q := by
  obtain ⟨h1, h2, h3⟩ := items_sq hd
  unfold m_is_same
  refine ⟨rfl, ?_⟩
  unfold b_is_same
  row_cond go
  refine ⟨_, h3 _, h3 _, ?_⟩
  rw [List.map_map]
  refine lc_name (fun s : Str => .d (.str s)) (fun _ => .d (.bl true)) (by rw [List.map_map] at h3; exact h3 _) ss [] (fun s hs P hP => ?_) (by simp; omega) ?_
  · row_cond go
    refine ⟨_, _, _, tyD_kn (d := .str s) rfl, rfl, kit_ty (kit_all .str .str), ?_⟩
    row_cond go
    rw [val_sort1 (hm s hs)]
    row_cond go
    exact hP
  · refine ⟨_, _, _, rfl, lsV_last, bls_of _ _, ?_⟩
    refine ⟨_, rfl, ?_⟩
    rw [all_true]
    row_cond go
    refine x_are_unlike hd nd (by omega) ?_
    row_cond go
    by_cases c : hand = "self"
    · rw [show decide (V.str hand = V.str "self") = true from decide_eq_true (by rw [c])]
      row_cond go
      refine ⟨okS_items hd, _, len_items hd _, ?_⟩
      row_cond go
      rw [hs c]
      exact ⟨_, .d _, h⟩
    · rw [show decide (V.str hand = V.str "self") = false from decide_eq_false (by intro z; cases z; exact c rfl)]
      row_cond go
      exact ⟨_, .d _, h⟩
structure Cal where
  nm : Str
  hand : Str
  moves : List Int
  deeds : List (Str × Str)
  same : List Str
def isCal (d : Da) (c : Cal) : Prop := ∃ mv dd ds sm, d.items = some [.str c.nm, .str c.hand, mv, dd, sm] ∧ mv.items = some (c.moves.map Da.int) ∧ dd.items = some ds ∧ Paired isPair ds c.deeds ∧ sm.items = some (c.same.map Da.str)
abbrev addish : List Str := ["add", "strike"]
structure CalOk (fs : List Fld) (md : Int) (c : Cal) : Prop where
  wd : (Da.str c.nm).isWord = true
  hd : c.hand ∈ (["self", "new", "last"] : List Str)
  ml : (c.moves.length : Int) = md
  m4 : md ≤ 4
  mv : ∀ m ∈ c.moves, -1 ≤ m ∧ m ≤ md - 1
  dl : c.deeds.length ≤ 4
  dd : ∀ p ∈ c.deeds, DeedOk fs p
  un : ((c.deeds.filter fun p => decide (p.1 ∈ addish)).map (·.2)).Nodup
  sm : ∀ s ∈ c.same, sortOf fs s = some "many"
  sn : c.same.Nodup
  sl : c.same.length ≤ 3
  ss : c.hand = "self" → c.same = []
theorem filt_snoc {α : Type} {p : α → Bool} {l : List α} {n : Nat} {x : α} (h : l[n]? = some x) : (l.take (n + 1)).filter p = (l.take n).filter p ++ (if p x then [x] else []) := by
  rw [take_snoc h, List.filter_append]
  cases e : p x <;> simp [e]
theorem slM_items {d : Da} {xs : List Da} (hd : d.items = some xs) {lo hi : Option Int} {μ : MS} {Q : DK} (h : ∀ v μ', sqV μ' v = some (cutD (xs.map .d) lo hi) → Q v μ') : oSlM (.d d) lo hi μ Q := by
  have e : cutD (xs.map Dv.d) lo hi = (((xs.drop (HT.sIx xs.length 0 lo)).take (HT.sIx xs.length xs.length hi - HT.sIx xs.length 0 lo)).map .d) := by unfold cutD; simp
  cases d with
  | lst ys =>
    cases hd
    refine .inl ⟨_, rfl, h _ _ ?_⟩
    rw [sqV_last]
  | tup ys =>
    cases hd
    refine .inr ⟨_, rfl, h _ _ ?_⟩
    rw [e, mkTup_map]
    rfl
  | _ => cases hd
theorem fz1_lst {μ : MS} {n : Nat} {xs : List Da} (h : μ[n]? = some (.lst (xs.map .d))) : fz1 μ (.ob n) = some (μ.set n (.frz (.lst xs)), .lst xs) := by
  unfold fz1
  simp only [h, pus_map, Option.map_some]
theorem fzs_cons {μ μ1 μ2 : MS} {d : Dv} {x : Da} {r : List Dv} {xs : List Da} (h : fz1 μ d = some (μ1, x)) (h2 : fzs μ1 r = some (μ2, xs)) : fzs μ (d :: r) = some (μ2, x :: xs) := by
  unfold fzs
  rw [h]
  simp only [h2, Option.map_some]
theorem fz1_last {μ : MS} {xs : List Da} : fz1 (μ ++ [.lst (xs.map .d)]) (.ob μ.length) = some (μ ++ [.frz (.lst xs)], .lst xs) := by
  rw [fz1_lst get_last]; simp
theorem Paired.mem {α β : Type} {R : α → β → Prop} {l : List α} {m : List β} {x : α} (h : Paired R l m) (hx : x ∈ l) : ∃ y, y ∈ m ∧ R x y := by
  obtain ⟨i, hi⟩ := List.getElem?_of_mem hx
  obtain ⟨y, h1, h2⟩ := Paired.getL h hi
  exact ⟨y, List.mem_of_getElem? h1, h2⟩
theorem x_reason_against {d : Da} {fs : List Fld} {md : Int} {ns : List Str} {c : Cal} (hc : isCal d c) (hn : ¬ c.nm ∈ ns) (ok : CalOk fs md c) (h : Q .non) : m_reason_against A K [d, .dct (sortsD fs), .int md, .lst (ns.map Da.str)] E Q := by
  obtain ⟨mv, dd, ds, sm, hi, hmv, hdd, hds, hsm⟩ := hc
  obtain ⟨h1, h2, h3⟩ := items_sq hi
  unfold m_reason_against
  refine ⟨rfl, ?_⟩
  unfold b_reason_against
  row_cond go
  refine x_is_row hi ?_
  row_cond go
  refine slM_items hi fun v μ' hv => ?_
  row_cond go
  refine ⟨_, _, _, tyD_kn (d := .str c.nm) rfl, rfl, kit_ty (kit_all .str .str), ?_⟩
  row_cond go
  refine ⟨_, _, _, tyD_kn (d := .str c.hand) rfl, rfl, kit_ty (kit_all .str .str), ?_⟩
  row_cond go
  refine ⟨_, _, _, rfl, lsV_last, rfl, ?_⟩
  row_cond go
  refine slM_items hi fun v μ' hv => ?_
  row_cond go
  refine x_is_list (items_sq hmv).2.1 ?_
  rw [(items_sq hmv).1]
  row_cond go
  refine x_is_list (items_sq hdd).2.1 ?_
  rw [(items_sq hdd).1]
  row_cond go
  refine x_is_list (items_sq hsm).2.1 ?_
  rw [(items_sq hsm).1]
  row_cond go
  refine ⟨_, _, _, rfl, lsV_last, rfl, ?_⟩
  row_cond go
  refine ⟨_, h3 _, rfl, ?_⟩
  row_cond go
  refine x_is_word rfl (word_short ok.wd) ?_
  rw [ok.wd]
  row_cond go
  refine oIn_b (ss := ns) false (decide_eq_false hn) (by show some _ = _; rw [List.map_map]; rfl) ?_
  row_cond go
  have eh : inV (V.str c.hand) [V.str "self", V.str "new", V.str "last"] = true := inV_lit (ss := ["self", "new", "last"]) ok.hd
  rw [eh]
  row_cond go
  refine ⟨okS_items hmv, _, len_items hmv _, ?_⟩
  row_cond go
  rw [show decide (V.int ((c.moves.map Da.int).length : Nat) = V.int md) = true by rw [int_eq_dec]; exact decide_eq_true (by rw [List.length_map]; exact ok.ml)]
  row_cond go
  have hqm : ∀ μ, sqV μ (.d mv) = some (c.moves.map fun m => .d (.int m)) := fun μ => by rw [(items_sq hmv).2.2 μ, List.map_map]; rfl
  refine ⟨_, hqm _, hqm _, ?_⟩
  have hml := ok.ml
  have hm4 := ok.m4
  refine lc_name (fun m : Int => .d (.int m)) (fun _ => .d (.bl true)) (hqm _) c.moves [] (fun m hm P hP => ?_) (by simp; omega) ?_
  · row_cond go
    have hm2 := ok.mv m hm
    refine x_is_between rfl ?_
    have e : (Da.int m).isBet (-1) (md - 1) = true := by simp [Da.isBet]; omega
    rw [e]
    exact hP
  refine ⟨_, _, _, rfl, lsV_last, bls_of _ _, ?_⟩
  refine ⟨_, rfl, ?_⟩
  rw [all_true]
  row_cond go
  refine ⟨okS_items hdd, _, len_items hdd _, ?_⟩
  have hdl := ok.dl
  have hlds := Paired.length hds
  row_cond go
  rw [show decide ((4 : Int) < (ds.length : Nat)) = false from decide_eq_false (by omega)]
  row_cond go
  have hqd := (items_sq hdd).2.2
  refine ⟨_, hqd _, hqd _, ?_⟩
  refine lc_name Dv.d (fun _ => .d (.bl true)) (hqd _) ds [] (fun x hx P hP => ?_) (by simp; omega) ?_
  · obtain ⟨p, hp1, hp2⟩ := Paired.mem hds hx
    row_cond go
    exact x_is_deed hp2 (ok.dd p hp1) hP
  refine ⟨_, _, _, rfl, lsV_last, bls_of _ _, ?_⟩
  refine ⟨_, rfl, ?_⟩
  rw [all_true]
  row_cond go
  refine ⟨_, hqd _, hqd _, ?_⟩
  generalize _ ++ [MO.lst _] = μ0
  refine lc_by (fun i acc μ => μ = μ0 ∧ acc = (((c.deeds.take i).filter fun p => decide (p.1 ∈ addish)).map fun p => .d (.str p.2))) ?_ ?_ ⟨rfl, rfl⟩
  · rintro i y acc μ N hy ⟨rfl, rfl⟩ hN
    obtain ⟨x, hx, rfl⟩ := map_get hy
    obtain ⟨p, hp1, hp2⟩ := Paired.getL hds hx
    row_cond go
    refine ⟨okS_items hp2, _, ix_items hp2 (j := 0) rfl rfl _, ?_⟩
    row_cond go
    rw [show inV (V.str p.1) [V.str "add", V.str "strike"] = decide (p.1 ∈ addish) from inV_strs (ss := addish)]
    have hlen : (((c.deeds.take i).filter fun p => decide (p.1 ∈ addish)).map fun p => Dv.d (.str p.2)).length < sizeLine := by
      refine Nat.lt_of_le_of_lt (m := 4) ?_ (by decide)
      rw [List.length_map]
      refine Nat.le_trans (List.length_filter_le _ _) ?_
      rw [List.length_take]
      exact Nat.le_trans (Nat.min_le_right _ _) hdl
    by_cases cc : p.1 ∈ addish
    · rw [decide_eq_true cc]
      row_cond go
      refine ⟨okS_items hp2, _, ix_items hp2 (j := 1) rfl rfl _, ?_⟩
      refine ⟨hlen, hqd _, hN _ _ ⟨rfl, ?_⟩⟩
      rw [filt_snoc hp1, if_pos (decide_eq_true cc), List.map_append]
      rfl
    · rw [decide_eq_false cc]
      row_cond go
      refine ⟨hqd _, hN _ _ ⟨rfl, ?_⟩⟩
      rw [filt_snoc hp1, if_neg (by simp [cc]), List.append_nil]
  · rintro acc μ ⟨rfl, rfl⟩
    have e : (iwSq (.d dd) (ds.map .d)).items.length = c.deeds.length := by
      show (ds.map Dv.d).length = _
      rw [List.length_map, hlds]
    rw [e, List.take_length]
    refine ⟨_, _, fzs_cons (xs := []) (x := .lst ((((c.deeds.filter fun p => decide (p.1 ∈ addish)).map (·.2))).map Da.str)) (by rw [← fz1_last, List.map_map, List.map_map]; rfl) rfl, ?_⟩
    refine x_are_unlike rfl ok.un ?_ ?_
    · have := List.length_filter_le (fun p : Str × Str => decide (p.1 ∈ addish)) c.deeds
      rw [List.length_map]
      omega
    row_cond go
    refine x_is_same hsm ok.sm ok.sn (Nat.le_trans ok.sl (by decide)) ok.ss ?_
    row_cond go
    exact ⟨_, .d _, h⟩
end
end Mz
end
section
set_option Elab.async false
set_option linter.all false
set_option maxRecDepth 100000
set_option maxHeartbeats 1000000
namespace Mz
open PySem L2
local macro_rules | `(tactic| row_cond sd) => `(tactic| first | exact rfl | exact True.intro | assumption | decide)
local macro_rules | `(tactic| row_cond st) => `(tactic| first
  | refine And.intro (by row_cond sd) ?_
  | refine ⟨_, by row_cond sd, ?_⟩
  | refine ⟨_, _, by row_cond sd, ?_⟩
  | refine ⟨_, _, by row_cond sd, by row_cond sd, ?_⟩
  | refine ⟨_, _, _, by row_cond sd, ?_⟩
  | refine ⟨_, _, _, by row_cond sd, by row_cond sd, ?_⟩
  | refine ⟨_, _, _, by row_cond sd, by row_cond sd, by row_cond sd, ?_⟩
  | refine ⟨_, _, _, _, by row_cond sd, ?_⟩
  | refine ⟨_, _, _, _, by row_cond sd, by row_cond sd, by row_cond sd, ?_⟩
  | refine ⟨_, _, _, _, by row_cond sd, by row_cond sd, by row_cond sd, by row_cond sd, ?_⟩
  | refine iteT ?_
  | refine iteF ?_)
local macro_rules | `(tactic| row_cond go) => `(tactic| repeat (row_cond st))
def pairDa (p : Str × Str) : Da := .tup [.str p.1, .str p.2]
def Cal.row (c : Cal) : Da := .tup [.str c.nm, .str c.hand, .tup (c.moves.map Da.int), .tup (c.deeds.map pairDa), .tup (c.same.map Da.str)]
section
variable {A : Ad} {K : PySem.W.Frag} {E : Ex → Prop} {Q : Da → Prop}
theorem x_checked_calls {d : Da} {xs : List Da} {cs : List Cal} {fs : List Fld} {md : Int} (hd : d.items = some xs) (hp : Paired isCal xs cs) (l0 : 0 < cs.length) (l6 : cs.length ≤ 6) (ok : ∀ c ∈ cs, CalOk fs md c) (nd : (cs.map Cal.nm).Nodup) (h : Q (.lst (cs.map Cal.row))) : m_checked_calls A K [d, .dct (sortsD fs), .int md] E Q := by
  obtain ⟨h1, h2, h3⟩ := items_sq hd
  have hlen := Paired.length hp
  unfold m_checked_calls
  refine ⟨rfl, ?_⟩
  unfold b_checked_calls
  row_cond go
  refine x_is_list h2 ?_
  rw [h1]
  row_cond go
  refine ⟨okS_items hd, _, len_items hd _, ?_⟩
  row_cond go
  rw [show decide (V.int (xs.length : Nat) = V.int 0) = false by rw [int_eq_dec]; exact decide_eq_false (by omega)]
  row_cond go
  refine ⟨_, h3 _, h3 _, ?_⟩
  refine loop_by (fun i α μ => ∃ (s4 s5 s6 s8 s9 s10 s11 s12 : Option Dv) (g : MS), α = [some (.d d), some (.d (.dct (sortsD fs))), some (.d (.int md)), some (.ob 0), s4, s5, s6, none, s8, s9, s10, s11, s12, none] ∧ μ = .lst ((cs.take i).map fun c => .d c.row) :: g) ?_ ?_ ⟨none, none, none, none, none, none, none, none, [], rfl, rfl⟩
  · rintro i y α μ N hy ⟨s4, s5, s6, s8, s9, s10, s11, s12, g, rfl, rfl⟩ hN
    obtain ⟨z, hz, rfl⟩ := en_get hy
    obtain ⟨x, hx, rfl⟩ := map_get hz
    obtain ⟨c, hc, hxc⟩ := Mz.Paired.getL hp hx
    have hcm := List.mem_of_getElem? hc
    have okc := ok c hcm
    have hi6 : i < 6 := by
      have := (List.getElem?_eq_some_iff.mp hc).1
      omega
    unfold l_checked_calls_1
    row_cond go
    rw [show decide (V.int (i : Nat) = V.int 6) = false by rw [int_eq_dec]; exact decide_eq_false (by omega)]
    row_cond go
    refine lc_name (fun c : Cal => .d c.row) (fun c : Cal => .d (.str c.nm)) (by exact rfl) (cs.take i) [] (fun k _ P hP => ?_) (by simp; omega) ?_
    · row_cond go
      exact hP
    refine ⟨_, _, fzs_cons rfl (fzs_cons rfl (fzs_cons rfl (fzs_cons (x := .lst (((cs.take i).map Cal.nm).map Da.str)) (xs := []) (by rw [← fz1_last, List.map_map, List.map_map]; rfl) rfl))), ?_⟩
    refine x_reason_against hxc (not_earlier nd hc) okc ?_
    row_cond go
    obtain ⟨mv, dd, ds, sm, hi, hmv, hdd, hds, hsm⟩ := hxc
    refine ⟨_, (items_sq hi).2.2 _, rfl, ?_⟩
    row_cond go
    have hqd := (items_sq hdd).2.2
    have hlds := Paired.length hds
    have hdl := okc.dl
    refine ⟨_, _, rfl, (items_sq hmv).2.2 _, ?_⟩
    rw [mkTup_map]
    row_cond go
    refine ⟨_, hqd _, hqd _, ?_⟩
    generalize e0 : _ ++ [MO.frz _] = μ0
    refine lc_by (fun i acc μ => μ = μ0 ∧ acc = ((c.deeds.take i).map fun p => .d (pairDa p))) ?_ ?_ ⟨rfl, rfl⟩
    · rintro i y acc μ N hy ⟨rfl, rfl⟩ hN
      obtain ⟨x, hx, rfl⟩ := map_get hy
      obtain ⟨p, hp1, hp2⟩ := Paired.getL hds hx
      row_cond go
      refine ⟨_, _, rfl, (items_sq hp2).2.2 _, ?_⟩
      rw [mkTup_map]
      refine ⟨?_, hqd _, hN _ _ ⟨rfl, ?_⟩⟩
      · refine Nat.lt_of_le_of_lt (m := 4) ?_ (by decide)
        rw [List.length_map, List.length_take]
        exact Nat.le_trans (Nat.min_le_right _ _) hdl
      rw [take_snoc hp1, List.map_append]
      rfl
    · rintro acc μ ⟨rfl, rfl⟩
      have e : (iwSq (.d dd) (ds.map .d)).items.length = c.deeds.length := by
        show (ds.map Dv.d).length = _
        rw [List.length_map, hlds]
      rw [e, List.take_length]
      refine ⟨_, _, rfl, sqV_last, ?_⟩
      rw [show mkTup (c.deeds.map fun p => .d (pairDa p)) = .d (.tup (c.deeds.map pairDa)) by rw [← mkTup_map, List.map_map]; rfl]
      row_cond go
      refine ⟨_, _, rfl, (items_sq hsm).2.2 _, ?_⟩
      rw [mkTup_map]
      row_cond go
      subst e0
      refine ⟨show 5 ≤ sizeLine by decide, ?_⟩
      refine ⟨_, _, _, rfl, rfl, rfl, ?_, ?_⟩
      · rw [List.length_map, List.length_take]; exact Nat.lt_of_le_of_lt (Nat.min_le_left _ _) (Nat.lt_of_lt_of_le hi6 (by decide))
      exact ⟨h3 _, hN _ _ ⟨_, _, _, _, _, _, _, _, _, rfl, by rw [take_snoc hc, List.map_append]; rfl⟩⟩
  · rintro α μ ⟨s4, s5, s6, s8, s9, s10, s11, s12, g, rfl, rfl⟩
    unfold k_checked_calls_2
    refine ⟨_, rfl, ?_⟩
    refine ⟨_, .lst rfl ?_, h⟩
    have e : (iwEn (.d d) (xs.map .d)).items.length = cs.length := by
      show (enumD _).length = _
      rw [enumD_len, List.length_map, hlen]
    rw [e, List.take_length]
    have := RzAll.map (.lst (cs.map fun c => .d c.row) :: g) (cs.map Cal.row)
    rwa [List.map_map] at this
end
end Mz
end
section
set_option Elab.async false
set_option linter.all false
set_option maxRecDepth 100000
set_option maxHeartbeats 1000000
namespace Mz
open PySem L2
local macro_rules | `(tactic| row_cond sd) => `(tactic| first | exact rfl | exact True.intro | assumption | decide)
local macro_rules | `(tactic| row_cond st) => `(tactic| first
  | refine And.intro (by row_cond sd) ?_
  | refine ⟨_, by row_cond sd, ?_⟩
  | refine ⟨_, _, by row_cond sd, ?_⟩
  | refine ⟨_, _, by row_cond sd, by row_cond sd, ?_⟩
  | refine ⟨_, _, _, by row_cond sd, ?_⟩
  | refine ⟨_, _, _, by row_cond sd, by row_cond sd, ?_⟩
  | refine ⟨_, _, _, by row_cond sd, by row_cond sd, by row_cond sd, ?_⟩
  | refine ⟨_, _, _, _, by row_cond sd, ?_⟩
  | refine ⟨_, _, _, _, by row_cond sd, by row_cond sd, by row_cond sd, ?_⟩
  | refine ⟨_, _, _, _, by row_cond sd, by row_cond sd, by row_cond sd, by row_cond sd, ?_⟩
  | refine iteT ?_
  | refine iteF ?_)
local macro_rules | `(tactic| row_cond go) => `(tactic| repeat (row_cond st))
theorem dc_on {gd : MS → Prop} {g : GS} {t : TS'} {k e : ES} {vs : List Nat} {α : Env'} {Q : List (Key × Dv) → MS → Prop} (P : Nat → List (Key × Dv) → MS → Prop) {items : List Dv}
    (hs : ∀ (i : Nat) (d : Dv) (acc : List (Key × Dv)) (μ : MS) (N : List (Key × Dv) → MS → Prop), items[i]? = some d → P i acc μ → (∀ acc' μ', P (i + 1) acc' μ' → N acc' μ') → g d noX (wpD α vs) μ fun α2 μ2 => t noX α2 μ2 fun b μ3 => if b = true then k noX α2 μ3 fun z μ4 => e noX α2 μ4 fun y μ5 => ∃ kk, keyD z = some kk ∧ acc.length < sizeLine ∧ gd μ5 ∧ N (putD acc kk y) μ5 else gd μ3 ∧ N acc μ3)
    (he : ∀ acc μ, P items.length acc μ → Q acc μ) {μ : MS} (h0 : P 0 [] μ) : mDcL gd g t k e vs α Q items [] μ := by
  refine dc_by P ?_ he h0
  intro i d acc μ N h1 h2 h3 h4
  have := hs i d acc μ N h1 h2 h3
  rw [← (funext fun a => funext fun m => h4 a m : mDcL gd g t k e vs α Q (items.drop (i + 1)) = N)] at this
  exact this
theorem putD_old {kvs : List (Key × Dv)} {s : Str} {v : Dv} (h : ∀ p ∈ kvs, p.1 ≠ Sum.inr s) : putD kvs (Sum.inr s) v = kvs ++ [(Sum.inr s, v)] := by
  unfold putD
  rw [if_neg]
  intro z
  obtain ⟨kv, h1, h2⟩ := List.any_eq_true.mp z
  exact h kv h1 (of_decide_eq_true h2)
structure KD where
  fs : List Fld
  cs : List Cal
  md : Int
structure KDOk (kd : KD) : Prop where
  f : FldsOk kd.fs
  m1 : 1 ≤ kd.md
  m4 : kd.md ≤ 4
  c0 : 0 < kd.cs.length
  c6 : kd.cs.length ≤ 6
  c : ∀ c ∈ kd.cs, CalOk kd.fs kd.md c
  nd : (kd.cs.map Cal.nm).Nodup
def isFlds (d : Da) (fs : List Fld) : Prop := ∃ xs, d.items = some xs ∧ Paired isFld xs fs
def isCals (d : Da) (cs : List Cal) : Prop := ∃ xs, d.items = some xs ∧ Paired isCal xs cs
theorem set_mid {α : Type} {l r : List α} {o o' : α} : (l ++ o :: r).set l.length o' = l ++ o' :: r := by simp
theorem app2 {α : Type} {l r : List α} {o : α} : (l ++ [o]) ++ r = l ++ o :: r := by simp
theorem get_mid {α : Type} {l r : List α} {o : α} : (l ++ o :: r)[l.length]? = some o := by simp
theorem get_mid1 {α : Type} {l r : List α} {o o' x : α} : (l ++ o :: x :: r)[(l ++ [o']).length]? = some x := by
  rw [show l ++ o :: x :: r = (l ++ [o]) ++ x :: r by simp, show (l ++ [o']).length = (l ++ [o]).length by simp]
  exact get_mid
theorem get_mid2 {α : Type} {l r : List α} {a b a' b' x : α} : (l ++ a :: b :: x :: r)[(l ++ [a', b']).length]? = some x := by
  rw [show l ++ a :: b :: x :: r = (l ++ [a, b]) ++ x :: r by simp, show (l ++ [a', b']).length = (l ++ [a, b]).length by simp]
  exact get_mid
theorem set_mid1 {α : Type} {l r : List α} {o o' x y : α} : (l ++ o :: x :: r).set (l ++ [o']).length y = l ++ o :: y :: r := by
  rw [show l ++ o :: x :: r = (l ++ [o]) ++ x :: r by simp, show (l ++ [o']).length = (l ++ [o]).length by simp, set_mid]
  simp
theorem zip_eD {κ : Type} : ∀ kvs : List (κ × Da), ((kvs.map eD).map (·.1)).zip (kvs.map (·.2)) = kvs
  | [] => rfl
  | (k, v) :: r => by simp only [List.map_cons, eD, List.zip_cons_cons]; rw [zip_eD r]
theorem fz1_dct {μ : MS} {n : Nat} {kvs : List (Key × Da)} (h : μ[n]? = some (.dct (kvs.map eD))) : fz1 μ (.ob n) = some (μ.set n (.frz (.dct kvs)), .dct kvs) := by
  have e : (kvs.map eD).map (·.2) = (kvs.map (·.2)).map Dv.d := by rw [List.map_map, List.map_map]; rfl
  unfold fz1
  simp only [h, e, pus_map, Option.map_some, zip_eD]
theorem isV_mid {μ r : MS} {C : Addr} {fs : List (Str × Dv)} : isV (μ ++ .ins C fs :: r) (.ob μ.length) = some (C, fs) := by
  show (match (μ ++ .ins C fs :: r)[μ.length]? with
    | some (.ins C fs) => some (C, fs)
    | some (.frz (.ins C fs)) => some (C, fs.map eD)
    | _ => none) = _
  rw [get_mid]
theorem pu_app {μ r : MS} {y : Dv} {d : Da} (h : pu μ y = some d) : pu (μ ++ r) y = some d := by
  cases y with
  | d x => exact h
  | tp ys => cases h
  | ob n =>
    simp only [pu] at h ⊢
    split at h
    · rename_i hm
      have hl := (List.getElem?_eq_some_iff.mp hm).1
      rw [List.getElem?_append_left hl, hm]
      exact h
    · cases h
theorem fz1_pu {μ : MS} {y : Dv} {d : Da} (h : pu μ y = some d) : fz1 μ y = some (μ, d) := by
  cases y with
  | d x => cases h; rfl
  | tp ys => cases h
  | ob n =>
    simp only [pu] at h
    split at h
    · rename_i hm
      cases h
      unfold fz1
      simp only [hm]
    · cases h
section
variable {A : Ad} {K : PySem.W.Frag}
/-- what a kind is as data -/
def kindDa (A : Ad) (kd : KD) : Da := .ins A.Kind [("field_rows", .lst (kd.fs.map Fld.da)), ("modes", .int kd.md), ("sorts", .dct (sortsD kd.fs)), ("call_rows", .lst (kd.cs.map Cal.row)), ("name_list", .lst ((kd.cs.map Cal.nm).map Da.str))]
theorem x_Kind_init {μ : MS} {y1 y2 : Dv} {d1 d2 : Da} {kd : KD} {E : XS} {Q : DK} (h1 : pu μ y1 = some d1) (h2 : pu μ y2 = some d2) (hf : isFlds d1 kd.fs) (hc : isCals d2 kd.cs) (ok : KDOk kd)
    (h : ∀ r, Rz (μ ++ r) (.ob μ.length) (kindDa A kd) → Q (.d .non) (μ ++ r)) : m_Kind___init__ A K [.ob μ.length, y1, y2, .d (.int kd.md)] E (μ ++ [.ins A.Kind []]) Q := by
  obtain ⟨xs1, i1, p1⟩ := hf
  obtain ⟨xs2, i2, p2⟩ := hc
  unfold m_Kind___init__
  refine ⟨rfl, ?_⟩
  unfold b_Kind___init__
  row_cond go
  refine ⟨_, _, fzs_cons (fz1_pu (pu_app h1)) rfl, ?_⟩
  refine x_checked_fields i1 p1 ok.f ?_
  row_cond go
  refine ⟨_, _, rfl, get_mid, ?_⟩
  refine ⟨by decide, ?_⟩
  rw [set_mid]
  row_cond go
  refine x_is_between rfl ?_
  have m1 := ok.m1
  have m4 := ok.m4
  rw [show (Da.int kd.md).isBet 1 4 = true by simp [Da.isBet]; omega]
  row_cond go
  refine ⟨_, _, rfl, get_mid, ?_⟩
  refine ⟨show 1 < 1000 by decide, ?_⟩
  rw [set_mid]
  row_cond go
  refine ⟨_, _, isV_mid, rfl, ?_⟩
  row_cond go
  have hfl := ok.f.le
  generalize e0 : _ ++ [MO.ins _ _] = μ0
  refine dc_on (fun i acc μ => μ = μ0 ∧ acc = (sortsD (kd.fs.take i)).map eD) ?_ ?_ ⟨rfl, rfl⟩
  · rintro i y acc μ N hy ⟨rfl, rfl⟩ hN
    obtain ⟨x, hx, rfl⟩ := map_get hy
    rw [List.getElem?_map] at hx
    cases hf : kd.fs[i]? with
    | none => rw [hf] at hx; cases hx
    | some f =>
      rw [hf] at hx
      cases hx
      row_cond go
      refine ⟨?_, rfl, hN _ _ ⟨rfl, ?_⟩⟩
      · refine Nat.lt_of_le_of_lt (m := 3) ?_ (by decide)
        rw [List.length_map, sortsD, List.length_map, List.length_take]
        omega
      rw [putD_old]
      · rw [take_snoc hf]
        simp [sortsD, eD]
      · intro q hq z
        obtain ⟨q1, hq1, rfl⟩ := List.mem_map.mp hq
        obtain ⟨f1, hf1, rfl⟩ := List.mem_map.mp hq1
        exact not_earlier ok.f.nd hf (List.mem_map.mpr ⟨f1, hf1, Sum.inr.inj z⟩)
  · rintro acc μ ⟨rfl, rfl⟩
    have e : (iwSq (Dv.d (Da.lst (kd.fs.map Fld.da))) ((kd.fs.map Fld.da).map Dv.d)).items.length = kd.fs.length := by
      show ((kd.fs.map Fld.da).map Dv.d).length = _
      simp
    rw [e, List.take_length]
    subst e0
    rw [app2]
    row_cond go
    refine ⟨_, _, rfl, get_mid, ?_⟩
    refine ⟨show 2 < 1000 by decide, ?_⟩
    rw [set_mid]
    row_cond go
    refine ⟨_, _, isV_mid, rfl, ?_⟩
    row_cond go
    refine ⟨_, _, fzs_cons (fz1_pu (pu_app h2)) (fzs_cons (fz1_dct get_mid1) (by rfl)), ?_⟩
    refine x_checked_calls i2 p2 ok.c0 ok.c6 ok.c ok.nd ?_
    dsimp only
    rw [set_mid1]
    row_cond go
    refine ⟨_, _, rfl, get_mid, ?_⟩
    refine ⟨show 3 < 1000 by decide, ?_⟩
    rw [set_mid]
    row_cond go
    refine ⟨_, _, isV_mid, rfl, ?_⟩
    row_cond go
    have hc6 := ok.c6
    rw [List.map_map]
    refine lc_name (fun c : Cal => .d c.row) (fun c : Cal => .d (.str c.nm)) (by show some _ = _; rw [List.map_map]) kd.cs [] (fun k _ P hP => ?_) (by simp; omega) ?_
    · row_cond go
      exact hP
    row_cond go
    refine ⟨_, _, rfl, by rw [List.append_assoc]; exact get_mid, ?_⟩
    refine ⟨show 4 < 1000 by decide, ?_⟩
    rw [List.append_assoc]
    show Q _ ((μ ++ _ :: _).set μ.length _)
    rw [set_mid]
    refine h _ ?_
    refine .ins (xs := [.lst (kd.fs.map Fld.da), .int kd.md, .dct (sortsD kd.fs), .lst (kd.cs.map Cal.row), .lst ((kd.cs.map Cal.nm).map Da.str)]) get_mid ?_
    refine .cons (.d _) (.cons (.d _) (.cons (.frz get_mid1) (.cons (.d _) (.cons (.lst (ys := kd.cs.map fun c => .d (.str c.nm)) get_mid2 ?_) .nil))))
    have := fun μ' => RzAll.map μ' ((kd.cs.map Cal.nm).map Da.str)
    rw [List.map_map, List.map_map] at this
    exact this _
end
end Mz
end
section
set_option Elab.async false
set_option linter.all false
set_option maxRecDepth 100000
set_option maxHeartbeats 1000000
namespace Mz
open PySem L2
local macro_rules | `(tactic| row_cond sd) => `(tactic| first | exact rfl | exact True.intro | assumption | decide)
local macro_rules | `(tactic| row_cond st) => `(tactic| first
  | refine And.intro (by row_cond sd) ?_
  | refine ⟨_, by row_cond sd, ?_⟩
  | refine ⟨_, _, by row_cond sd, ?_⟩
  | refine ⟨_, _, by row_cond sd, by row_cond sd, ?_⟩
  | refine ⟨_, _, _, by row_cond sd, ?_⟩
  | refine ⟨_, _, _, by row_cond sd, by row_cond sd, ?_⟩
  | refine ⟨_, _, _, by row_cond sd, by row_cond sd, by row_cond sd, ?_⟩
  | refine ⟨_, _, _, _, by row_cond sd, ?_⟩
  | refine ⟨_, _, _, _, by row_cond sd, by row_cond sd, by row_cond sd, ?_⟩
  | refine ⟨_, _, _, _, by row_cond sd, by row_cond sd, by row_cond sd, by row_cond sd, ?_⟩
  | refine iteT ?_
  | refine iteF ?_)
local macro_rules | `(tactic| row_cond go) => `(tactic| repeat (row_cond st))
theorem shaped_strs {ss : List Str} (h : ∀ s ∈ ss, PyData.canLay0 (.str s) = true) : SeqAt.shaped (.list (ss.map PyData.str)) = true := by
  have h1 : PyData.canLayAll0 (ss.map PyData.str) = true := by
    induction ss with
    | nil => simp [PyData.canLayAll0]
    | cons s r ih =>
      simp only [List.map_cons, PyData.canLayAll0]
      rw [h s (by simp), ih fun t ht => h t (by simp [ht])]
      rfl
  have h2 : PyData.depthAll (ss.map PyData.str) = 0 := by
    clear h h1
    induction ss with
    | nil => simp [PyData.depthAll]
    | cons s r ih => simp [PyData.depthAll, PyData.depth, ih]
  simp [SeqAt.shaped, PyData.canLay0, PyData.depth, h1, h2]
theorem eqv_nil (xs : List PyData) : PyData.eqv (.list xs) (.list []) = xs.isEmpty := by
  cases xs <;> simp [PyData.eqv, PyData.eqvAll]
theorem seq_nat {j n : Nat} (h : j < n) : seqIndex? (j : Int) n = some j := by
  have : ixN n (j : Int) = some j := by
    unfold ixN
    rw [if_pos (by omega), if_pos (by omega)]
    simp
  exact (ixN_seq this).1
theorem map_erase {α β : Type} (f : α → β) : ∀ (l : List α) (j : Nat), (l.map f).eraseIdx j = (l.eraseIdx j).map f
  | [], _ => rfl
  | _ :: _, 0 => rfl
  | x :: r, j + 1 => by
    show f x :: (r.map f).eraseIdx j = f x :: (r.eraseIdx j).map f
    rw [map_erase f r j]
theorem perm_erase {α : Type} : ∀ (l : List α) (j : Nat) (h : j < l.length), (l[j] :: l.eraseIdx j).Perm l
  | x :: r, 0, _ => List.Perm.refl _
  | x :: r, j + 1, h => by
    have hj : j < r.length := by simpa using h
    have ih := perm_erase r j hj
    show (r[j] :: x :: r.eraseIdx j).Perm (x :: r)
    exact (List.Perm.swap x _ _).trans (List.Perm.cons x ih)
mutual
theorem Rz.app {μ r : MS} : ∀ {d : Dv} {x : Da}, Rz μ d x → Rz (μ ++ r) d x
  | _, _, .d x => .d x
  | _, _, .frz h => .frz (by rw [List.getElem?_append_left (List.getElem?_eq_some_iff.mp h).1]; exact h)
  | _, _, .lst h t => .lst (by rw [List.getElem?_append_left (List.getElem?_eq_some_iff.mp h).1]; exact h) (RzAll.app t)
  | _, _, .dct h t => .dct (by rw [List.getElem?_append_left (List.getElem?_eq_some_iff.mp h).1]; exact h) (RzAll.app t)
  | _, _, .ins h t => .ins (by rw [List.getElem?_append_left (List.getElem?_eq_some_iff.mp h).1]; exact h) (RzAll.app t)
  | _, _, .tp t => .tp (RzAll.app t)
theorem RzAll.app {μ r : MS} : ∀ {d : List Dv} {x : List Da}, RzAll μ d x → RzAll (μ ++ r) d x
  | _, _, .nil => .nil
  | _, _, .cons h t => .cons (Rz.app h) (RzAll.app t)
end
theorem while_by {t : TS'} {b : BS} {D : En} (P : Nat → Env' → MS → Prop)
    (hs : ∀ (n : Nat) (α : Env') (μ : MS) (N : Env' → MS → Prop), P (n + 1) α μ → (∀ α' μ', P n α' μ' → N α' μ') → t D.er α μ fun k μ1 => if k = true then b { D with nx := N, ct := N, bk := D.nx } α μ1 else D.nx α μ1)
    (h0 : ∀ (α : Env') (μ : MS) (N : Env' → MS → Prop), P 0 α μ → t D.er α μ fun k μ1 => if k = true then b { D with nx := N, ct := N, bk := D.nx } α μ1 else D.nx α μ1) {n : Nat} {α : Env'} {μ : MS} (h : P n α μ) : bWhile t b D α μ := by
  refine ⟨n + 1, ?_⟩
  induction n generalizing α μ with
  | zero => exact h0 α μ _ h
  | succ n ih => exact hs n α μ _ h fun α' μ' p => ih p
theorem pyAll_strs {μ : MS} : ∀ ss : List Str, PyAll μ (ss.map fun s => .d (.str s)) (ss.map PyData.str)
  | [] => .nil
  | s :: r => .cons (.d rfl) (pyAll_strs r)
section
variable {A : Ad} {K : PySem.W.Frag} {E : Ex → Prop} {Q : Da → Prop}
theorem x_law_take {m : Int} (h0 : 0 < m) (h1 : m < 1048576) (h : ∀ k : Int, 0 ≤ k → k < m → Q (.int k)) : m_law_take A K [.st, .int m] E Q := by
  unfold m_law_take
  exact ⟨m, rfl, h0, h1, h⟩
theorem x_law_one {xs : List Da} (h0 : 0 < xs.length) (h1 : xs.length < 1048576) (h : ∀ x ∈ xs, Q x) : m_law_one A K [.st, .lst xs] E Q := by
  unfold m_law_one
  refine ⟨rfl, ?_⟩
  unfold b_law_one
  row_cond go
  refine x_law_take (by simp; omega) (by simp; omega) fun k k0 k1 => ?_
  row_cond go
  simp only [List.length_map] at k1
  obtain ⟨j, rfl⟩ : ∃ j : Nat, k = (j : Int) := ⟨k.toNat, by omega⟩
  have hj : j < xs.length := by omega
  refine ⟨_, ix_items (d := .lst xs) rfl rfl (List.getElem?_eq_getElem hj) _, ?_⟩
  exact ⟨_, .d _, h _ (List.getElem_mem hj)⟩
theorem x_law_plan {kd : KD} {d1 d2 : Da} (hf : isFlds d1 kd.fs) (hc : isCals d2 kd.cs) (ok : KDOk kd) (h : Q (.dct [(.inr "fields", d1), (.inr "calls", d2), (.inr "modes", .int kd.md), (.inr "known", kindDa A kd)])) : m_law_plan A K [d1, d2, .int kd.md] E Q := by
  unfold m_law_plan
  refine ⟨rfl, ?_⟩
  unfold b_law_plan
  row_cond go
  refine x_Kind_init (μ := []) rfl rfl hf hc ok fun r hr => ?_
  row_cond go
  refine ⟨show 4 ≤ 15 by decide, _, .dct (xs := [d1, d2, .int kd.md, kindDa A kd]) get_last ?_, h⟩
  exact .cons (.d _) (.cons (.d _) (.cons (.d _) (.cons (Rz.app hr) .nil)))
theorem x_law_mix {ss : List Str} (hl : ss.length ≤ 1000) (hs : ∀ s ∈ ss, PyData.canLay0 (.str s) = true) (h : ∀ ys : List Str, ys.Perm ss → Q (.lst (ys.map Da.str))) : m_law_mix A K [.st, .lst (ss.map Da.str)] E Q := by
  unfold m_law_mix
  refine ⟨rfl, ?_⟩
  unfold b_law_mix
  row_cond go
  refine while_by (fun n α μ => ∃ (left out : List Str) (g : MS), α = [some (.d .st), some (.d (.lst (ss.map Da.str))), some (.ob 0), some (.ob 1)] ∧ μ = .lst (left.map fun s => .d (.str s)) :: .lst (out.map fun s => .d (.str s)) :: g ∧ left.length = n ∧ (out ++ left).Perm ss) ?_ ?_ (n := ss.length) ⟨ss, [], [], rfl, by simp, rfl, by simp⟩
  · rintro n α μ N ⟨left, out, g, rfl, rfl, hn, hp⟩ hN
    row_cond go
    refine ⟨_, _, .lst rfl (pyAll_strs left), .lst (lsV_last (μ := _ :: _ :: g)) .nil, shaped_strs fun s hm => hs s (hp.mem_iff.mp (by simp [hm])), by decide, ?_⟩
    row_cond go
    rw [eqv_nil]
    rw [show (left.map PyData.str).isEmpty = false by cases left with
      | nil => cases hn
      | cons => rfl]
    have hle : left.length ≤ ss.length := by rw [← hp.length_eq]; simp
    row_cond go
    refine x_law_take (by simp; omega) (by simp; omega) fun k k0 k1 => ?_
    simp only [List.length_map] at k1
    obtain ⟨j, rfl⟩ : ∃ j : Nat, k = (j : Int) := ⟨k.toNat, by omega⟩
    have hj : j < left.length := by omega
    row_cond go
    refine ⟨_, _, _, j, .d (.str left[j]), rfl, rfl, rfl, by omega, seq_nat (by simpa using hj), by simp, ?_⟩
    row_cond go
    have hlo : out.length ≤ ss.length := by rw [← hp.length_eq]; simp
    refine ⟨Nat.lt_of_le_of_lt (m := 1000) (by rw [List.length_map]; omega) (by decide), ?_⟩
    refine hN _ _ ⟨left.eraseIdx j, out ++ [left[j]], g ++ [.lst []], rfl, ?_, by rw [List.length_eraseIdx, if_pos hj]; omega, ?_⟩
    · rw [map_erase, List.map_append]; rfl
    · rw [List.append_assoc]
      exact (List.Perm.append_left out (perm_erase left j hj)).trans hp
  · rintro α μ N ⟨left, out, g, rfl, rfl, hn, hp⟩
    cases left with
    | cons => cases hn
    | nil =>
      row_cond go
      refine ⟨_, _, .lst rfl .nil, .lst (lsV_last (μ := _ :: _ :: g)) .nil, by decide, by decide, ?_⟩
      row_cond go
      rw [List.append_nil] at hp
      refine ⟨_, .lst rfl ?_, h out hp⟩
      have := fun μ' => RzAll.map μ' (out.map Da.str)
      rw [List.map_map] at this
      exact this _
end
theorem sort_mem {f : Fld} : ∀ {fs : List Fld}, (fs.map Fld.nm).Nodup → f ∈ fs → sortOf fs f.nm = some f.sort
  | g :: r, nd, h => by
    by_cases e : g.nm = f.nm
    · rcases List.mem_cons.mp h with rfl | h
      · simp [sortOf]
      · exfalso
        have := (List.nodup_cons.mp nd).1
        exact this (List.mem_map.mpr ⟨f, h, e.symm⟩)
    · rcases List.mem_cons.mp h with rfl | h
      · exact absurd rfl e
      · have ih := sort_mem (List.nodup_cons.mp nd).2 h
        simpa [sortOf, e] using ih
def adds (ds : List (Str × Str)) : List Str := (ds.filter fun p => decide (p.1 ∈ addish)).map (·.2)
theorem adds_snoc (ds : List (Str × Str)) (p : Str × Str) : adds (ds ++ [p]) = adds ds ++ (if p.1 ∈ addish then [p.2] else []) := by
  unfold adds
  rw [List.filter_append, List.map_append]
  by_cases h : p.1 ∈ addish
  · rw [if_pos h, List.filter_cons, if_pos (decide_eq_true h)]; rfl
  · rw [if_neg h, List.filter_cons, if_neg (by simp only [decide_eq_false h]; simp)]; rfl
theorem nodup_snoc {α : Type} {l : List α} {x : α} (nd : l.Nodup) (h : x ∉ l) : (l ++ [x]).Nodup := by
  rw [List.nodup_append]
  refine ⟨nd, by simp, ?_⟩
  intro a ha b hb
  rw [List.mem_singleton] at hb
  subst hb
  rintro rfl
  exact h ha
def addPart : BS := (bSeq (bAsg (mOp oCat (mVar 4) (mOp oRep (mLst (mCons (mVar 6) mNil)) (mCB oInt (mCons (mOp (oIn false) (mVar 10) (mTup (mCons (mC (.d (.str "add"))) (mCons (mC (.d (.str "strike"))) mNil)))) mNil)))) (nName 4))
 (bDrop (mBM oAppend (mVar 3) (mCons (mTup (mCons (mVar 10) (mCons (mVar 6) mNil))) mNil))))
theorem t_add {D : En} {fs : List Fld} {f : Fld} {d : Str} {many : Nat} {ds : List (Str × Str)} {bq : Nat} {s5 s7 s8 s9 : Option Dv} {g : MS} (hl : ds.length ≤ 2000) (hb : g[bq]? = some (.lst ((adds ds).map fun s => .d (.str s)))) (hd : ∀ p ∈ ds, DeedOk fs p) (nd : (adds (ds ++ [(d, f.nm)])).Nodup) (hok : DeedOk fs (d, f.nm))
    (hN : ∀ (ds' : List (Str × Str)) (bq' : Nat) (g' : MS), g'[bq']? = some (.lst ((adds ds').map fun s => .d (.str s))) → ds'.length ≤ ds.length + 1 → (∀ p ∈ ds', DeedOk fs p) → (adds ds').Nodup → D.nx [some (.d .st), some (.d (.lst (fs.map Fld.da))), some (.d (.int many)), some (.ob 0), some (.ob (bq' + 1)), s5, some (.d (.str f.nm)), s7, s8, s9, some (.d (.str d))] (.lst (ds'.map fun p => .d (pairDa p)) :: g')) :
    addPart D [some (.d .st), some (.d (.lst (fs.map Fld.da))), some (.d (.int many)), some (.ob 0), some (.ob (bq + 1)), s5, some (.d (.str f.nm)), s7, s8, s9, some (.d (.str d))] (.lst (ds.map fun p => .d (pairDa p)) :: g) := by
  have ein : inV (V.str d) [V.str "add", V.str "strike"] = decide (d ∈ addish) := inV_strs (ss := addish)
  have hla : (adds ds).length ≤ 2000 := Nat.le_trans (by unfold adds; rw [List.length_map]; exact List.length_filter_le _ _) hl
  have hbl := (List.getElem?_eq_some_iff.mp hb).1
  have hbr : ∀ r : MS, (g ++ r)[bq]? = some (.lst ((adds ds).map fun s => .d (.str s))) := fun r => by rw [List.getElem?_append_left hbl]; exact hb
  have hbr2 : ∀ r1 r2 : MS, ((g ++ r1) ++ r2)[bq]? = some (.lst ((adds ds).map fun s => .d (.str s))) := fun r1 r2 => by rw [List.append_assoc]; exact hbr _
  have hv : ∀ (x : MO) (g' : MS), g'[bq]? = some (.lst ((adds ds).map fun s => .d (.str s))) → lsV (x :: g') (.ob (bq + 1)) = some ((adds ds).map fun s => .d (.str s)) := fun x g' e => by
    show (match (x :: g')[bq + 1]? with
      | some (.lst ds) => some ds
      | some (.frz (.lst ds)) => some (ds.map .d)
      | _ => none) = _
    rw [List.getElem?_cons_succ, e]
  unfold addPart
  row_cond go
  refine ⟨show 1 ≤ sizeLine by decide, ?_⟩
  row_cond go
  rw [ein]
  refine .inr ⟨_, rfl, ?_⟩
  refine ⟨_, _, lsV_last, rfl, ?_, ?_, ?_⟩
  · by_cases c : d ∈ addish <;> simp [c]
  · by_cases c : d ∈ addish <;> simp [c] <;> decide
  have er : (List.replicate (if (if false = true then !decide (d ∈ addish) else decide (d ∈ addish)) = true then (1 : Int) else 0).toNat [Dv.d (Da.str f.nm)]).flatten = ((if d ∈ addish then [f.nm] else []).map fun s => .d (.str s)) := by
    by_cases c : d ∈ addish <;> simp [c]
  rw [er]
  refine ⟨_, _, hv _ _ (hbr2 _ _), lsV_last, ?_, ?_⟩
  · refine Nat.le_trans (m := 2001) ?_ (by decide)
    rw [List.length_map, List.length_map]
    have : (if d ∈ addish then [f.nm] else []).length ≤ 1 := by by_cases c : d ∈ addish <;> simp [c]
    omega
  row_cond go
  refine ⟨show 2 ≤ sizeLine by decide, ?_⟩
  refine ⟨_, _, _, rfl, rfl, rfl, Nat.lt_of_le_of_lt (m := 2000) (by rw [List.length_map]; exact hl) (by decide), ?_⟩
  have key := hN (ds ++ [(d, f.nm)]) (g ++ [MO.lst [Dv.d (Da.str f.nm)]] ++ [MO.lst ((if d ∈ addish then [f.nm] else []).map fun s => Dv.d (Da.str s))]).length ((g ++ [MO.lst [Dv.d (Da.str f.nm)]] ++ [MO.lst ((if d ∈ addish then [f.nm] else []).map fun s => Dv.d (Da.str s))]) ++ [MO.lst ((adds (ds ++ [(d, f.nm)])).map fun s => Dv.d (Da.str s))]) get_last (by simp) (by
    intro p hp
    rcases List.mem_append.mp hp with hp | hp
    · exact hd p hp
    · rw [List.mem_singleton.mp hp]; exact hok) nd
  rw [adds_snoc, List.map_append, List.map_append] at key
  exact key
def deedTail : BS := (bIf (mOrT (mT (mOp (oIn true) (mVar 10) (mTup (mCons (mC (.d (.str "add"))) (mCons (mC (.d (.str "strike"))) mNil))))) (mT (mOp (oIn true) (mVar 6) (mVar 4))))
 (bSeq (bAsg (mOp oCat (mVar 4) (mOp oRep (mLst (mCons (mVar 6) mNil)) (mCB oInt (mCons (mOp (oIn false) (mVar 10) (mTup (mCons (mC (.d (.str "add"))) (mCons (mC (.d (.str "strike"))) mNil)))) mNil)))) (nName 4))
 (bDrop (mBM oAppend (mVar 3) (mCons (mTup (mCons (mVar 10) (mCons (mVar 6) mNil))) mNil))))
 bNext)
theorem t_deed {D : En} {fs : List Fld} {f : Fld} {d : Str} {many : Nat} {ds : List (Str × Str)} {bq : Nat} {s5 s7 s8 s9 : Option Dv} {g : MS} (ok : FldsOk fs) (hf : f ∈ fs) (hdm : d ∈ deedsOf f.sort) (hl : ds.length ≤ 2000) (hb : g[bq]? = some (.lst ((adds ds).map fun s => .d (.str s)))) (hd : ∀ p ∈ ds, DeedOk fs p) (nd : (adds ds).Nodup)
    (hN : ∀ (ds' : List (Str × Str)) (bq' : Nat) (g' : MS), g'[bq']? = some (.lst ((adds ds').map fun s => .d (.str s))) → ds'.length ≤ ds.length + 1 → (∀ p ∈ ds', DeedOk fs p) → (adds ds').Nodup → D.nx [some (.d .st), some (.d (.lst (fs.map Fld.da))), some (.d (.int many)), some (.ob 0), some (.ob (bq' + 1)), s5, some (.d (.str f.nm)), s7, s8, s9, some (.d (.str d))] (.lst (ds'.map fun p => .d (pairDa p)) :: g')) :
    deedTail D [some (.d .st), some (.d (.lst (fs.map Fld.da))), some (.d (.int many)), some (.ob 0), some (.ob (bq + 1)), s5, some (.d (.str f.nm)), s7, s8, s9, some (.d (.str d))] (.lst (ds.map fun p => .d (pairDa p)) :: g) := by
  have hok : DeedOk fs (d, f.nm) := ⟨_, sort_mem ok.nd hf, hdm⟩
  have ein : inV (V.str d) [V.str "add", V.str "strike"] = decide (d ∈ addish) := inV_strs (ss := addish)
  have hv : sqV (.lst (ds.map fun p => .d (pairDa p)) :: g) (.ob (bq + 1)) = some ((adds ds).map fun s => .d (.str s)) := by
    show (match (MO.lst (ds.map fun p => .d (pairDa p)) :: g)[bq + 1]? with
      | some (.lst ds) => some ds
      | some (.frz (.lst ds)) => some (ds.map .d)
      | _ => none) = _
    rw [List.getElem?_cons_succ, hb]
  unfold deedTail
  row_cond go
  rw [ein]
  by_cases ca : d ∈ addish
  · rw [decide_eq_true ca]
    row_cond go
    by_cases cb : f.nm ∈ adds ds
    · refine oIn_b true (decide_eq_true cb) hv ?_
      row_cond go
      exact hN _ _ _ hb (by omega) hd nd
    · refine oIn_b false (decide_eq_false cb) hv ?_
      refine ⟨_, rfl, iteT ?_⟩
      refine t_add hl hb hd ?_ hok hN
      rw [adds_snoc, if_pos ca]
      exact nodup_snoc nd cb
  · rw [decide_eq_false ca]
    refine iteT (iteT ?_)
    refine t_add hl hb hd ?_ hok hN
    rw [adds_snoc, if_neg ca, List.append_nil]
    exact nd
section
variable {A : Ad} {K : PySem.W.Frag} {E : Ex → Prop} {Q : Da → Prop}
theorem x_law_deeds {fs : List Fld} {many : Nat} (ok : FldsOk fs) (hm : many ≤ 1000) (h : ∀ ds : List (Str × Str), ds.length ≤ many → (∀ p ∈ ds, DeedOk fs p) → (adds ds).Nodup → Q (.lst (ds.map pairDa))) : m_law_deeds A K [.st, .lst (fs.map Fld.da), .int many] E Q := by
  unfold m_law_deeds
  refine ⟨rfl, ?_⟩
  unfold b_law_deeds
  row_cond go
  refine x_law_take (by omega) (by omega) fun k k0 k1 => ?_
  row_cond go
  refine ⟨by omega, ?_⟩
  row_cond go
  refine loop_by (fun i α μ => ∃ (ds : List (Str × Str)) (bq : Nat) (s5 s6 s7 s8 s9 s10 : Option Dv) (g : MS), α = [some (.d .st), some (.d (.lst (fs.map Fld.da))), some (.d (.int many)), some (.ob 0), some (.ob (bq + 1)), s5, s6, s7, s8, s9, s10] ∧ μ = .lst (ds.map fun p => .d (pairDa p)) :: g ∧ g[bq]? = some (.lst ((adds ds).map fun s => .d (.str s))) ∧ ds.length ≤ i ∧ (∀ p ∈ ds, DeedOk fs p) ∧ (adds ds).Nodup) ?_ ?_ ⟨[], 0, none, none, none, none, none, none, [.lst []], rfl, rfl, rfl, by simp, by simp, by simp [adds]⟩
  · rintro i y α μ N hy ⟨ds, bq, s5, s6, s7, s8, s9, s10, g, rfl, rfl, hb, hl, hd, nd⟩ hN
    have hi : i < many + 1 := by
      have := (List.getElem?_eq_some_iff.mp hy).1
      simp [iwR, rngD] at this
      omega
    row_cond go
    refine x_law_one (by simp; exact ok.ne) (by have := ok.le; simp; omega) fun x hx => ?_
    obtain ⟨f, hf, rfl⟩ := List.mem_map.mp hx
    row_cond go
    have hN' : ∀ (ds' : List (Str × Str)) (bq' : Nat) (g' : MS) (s5 s6 s7 s8 s9 s10 : Option Dv), g'[bq']? = some (.lst ((adds ds').map fun s => .d (.str s))) → ds'.length ≤ ds.length + 1 → (∀ p ∈ ds', DeedOk fs p) → (adds ds').Nodup → N [some (.d .st), some (.d (.lst (fs.map Fld.da))), some (.d (.int many)), some (.ob 0), some (.ob (bq' + 1)), s5, s6, s7, s8, s9, s10] (.lst (ds'.map fun p => .d (pairDa p)) :: g') :=
      fun ds' bq' g' s5 s6 s7 s8 s9 s10 h1 h2 h3 h4 => hN _ _ ⟨ds', bq', s5, s6, s7, s8, s9, s10, g', rfl, rfl, h1, by omega, h3, h4⟩
    have hbl := (List.getElem?_eq_some_iff.mp hb).1
    have hbr : ∀ r : MS, (g ++ r)[bq]? = some (.lst ((adds ds).map fun s => .d (.str s))) := fun r => by rw [List.getElem?_append_left hbl]; exact hb
    cases hmany : f.many with
    | false =>
      have hso : f.sort = "one" := by unfold Fld.sort; rw [hmany]; rfl
      rw [show decide (V.str f.sort = V.str "one") = true from decide_eq_true (by rw [hso])]
      row_cond go
      refine ⟨_, _, fzs_cons rfl (fzs_cons (fz1_last (xs := [.str "set", .str "clear"])) (by rfl)), ?_⟩
      refine x_law_one (by decide) (by decide) fun x hx => ?_
      obtain ⟨d, hdm, rfl⟩ : ∃ d, d ∈ deedsOf f.sort ∧ x = .str d := by
        rw [hso]
        simp only [List.mem_cons, List.not_mem_nil, or_false] at hx
        rcases hx with rfl | rfl
        · exact ⟨_, by decide, rfl⟩
        · exact ⟨_, by decide, rfl⟩
      exact t_deed (g := g ++ _) ok hf hdm (by omega) (hbr _) hd nd fun ds' bq' g' h1 h2 h3 h4 => ⟨trivial, hN' _ _ _ _ _ _ _ _ _ h1 h2 h3 h4⟩
    | true =>
      have hso : f.sort = "many" := by unfold Fld.sort; rw [hmany]; rfl
      rw [show decide (V.str f.sort = V.str "one") = false from decide_eq_false (by rw [hso]; decide)]
      row_cond go
      refine ⟨_, _, fzs_cons rfl (fzs_cons (fz1_last (xs := [.str "add", .str "add", .str "strike", .str "clear", .str "fresh"])) (by rfl)), ?_⟩
      refine x_law_one (by decide) (by decide) fun x hx => ?_
      obtain ⟨d, hdm, rfl⟩ : ∃ d, d ∈ deedsOf f.sort ∧ x = .str d := by
        rw [hso]
        simp only [List.mem_cons, List.not_mem_nil, or_false] at hx
        rcases hx with rfl | rfl | rfl | rfl | rfl
        all_goals exact ⟨_, by decide, rfl⟩
      exact t_deed (g := g ++ _) ok hf hdm (by omega) (hbr _) hd nd fun ds' bq' g' h1 h2 h3 h4 => ⟨trivial, hN' _ _ _ _ _ _ _ _ _ h1 h2 h3 h4⟩
  · rintro α μ ⟨ds, bq, s5, s6, s7, s8, s9, s10, g, rfl, rfl, hb, hl, hd, nd⟩
    row_cond go
    refine ⟨_, .lst rfl ?_, h ds ?_ hd nd⟩
    · have := fun μ' => RzAll.map μ' (ds.map pairDa)
      rw [List.map_map] at this
      exact this _
    · refine Nat.le_trans hl ?_
      simp [iwR, rngD]
      omega
end
end Mz
end
section
set_option Elab.async false
set_option linter.all false
set_option maxRecDepth 100000
set_option maxHeartbeats 1000000
namespace Mz
open PySem L2
local macro_rules | `(tactic| row_cond sd) => `(tactic| first | exact rfl | exact True.intro | assumption | decide)
local macro_rules | `(tactic| row_cond st) => `(tactic| first
  | refine And.intro (by row_cond sd) ?_
  | refine ⟨_, by row_cond sd, ?_⟩
  | refine ⟨_, _, by row_cond sd, ?_⟩
  | refine ⟨_, _, by row_cond sd, by row_cond sd, ?_⟩
  | refine ⟨_, _, _, by row_cond sd, ?_⟩
  | refine ⟨_, _, _, by row_cond sd, by row_cond sd, ?_⟩
  | refine ⟨_, _, _, by row_cond sd, by row_cond sd, by row_cond sd, ?_⟩
  | refine ⟨_, _, _, _, by row_cond sd, ?_⟩
  | refine ⟨_, _, _, _, by row_cond sd, by row_cond sd, by row_cond sd, ?_⟩
  | refine ⟨_, _, _, _, by row_cond sd, by row_cond sd, by row_cond sd, by row_cond sd, ?_⟩
  | refine iteT ?_
  | refine iteF ?_)
local macro_rules | `(tactic| row_cond go) => `(tactic| repeat (row_cond st))
def Cal.drawn (c : Cal) : Da := .tup [.str c.nm, .str c.hand, .lst (c.moves.map Da.int), .lst (c.deeds.map pairDa), .lst (c.same.map Da.str)]
theorem pairs_are : ∀ ds : List (Str × Str), Paired isPair (ds.map pairDa) ds
  | [] => .nil
  | _ :: r => .cons rfl (pairs_are r)
theorem drawn_is (c : Cal) : isCal c.drawn c := ⟨_, _, _, _, rfl, rfl, rfl, pairs_are _, rfl⟩
theorem some_moves (far : Int) (h1 : 1 ≤ far) (h4 : far ≤ 4) : ∃ ms : List Int, (List.replicate (3 : Int).toNat (rngD 0 far.toNat)).flatten ++ (List.replicate (if decide (1 < far) = true then (1 : Int) else 0).toNat [Dv.d (.int (-1))]).flatten = (ms.map Da.int).map .d ∧ 0 < ms.length ∧ ms.length ≤ 13 ∧ ∀ m ∈ ms, -1 ≤ m ∧ m ≤ far - 1 := by
  have : far = 1 ∨ far = 2 ∨ far = 3 ∨ far = 4 := by omega
  rcases this with rfl | rfl | rfl | rfl
  · exact ⟨[0, 0, 0], rfl, by decide, by decide, by decide⟩
  · exact ⟨[0, 1, 0, 1, 0, 1, -1], rfl, by decide, by decide, by decide⟩
  · exact ⟨[0, 1, 2, 0, 1, 2, 0, 1, 2, -1], rfl, by decide, by decide, by decide⟩
  · exact ⟨[0, 1, 2, 3, 0, 1, 2, 3, 0, 1, 2, 3, -1], rfl, by decide, by decide, by decide⟩
theorem rg_ok {far : Int} (h1 : 1 ≤ far) (h4 : far ≤ 4) : RgOk 0 far := by
  unfold RgOk
  refine ⟨by decide, by decide, by omega, by omega, by omega⟩
section
variable {A : Ad} {K : PySem.W.Frag} {E : Ex → Prop} {Q : Da → Prop}
theorem x_law_call {fs : List Fld} {nm hand : Str} {far : Int} (ok : FldsOk fs) (hw : (Da.str nm).isWord = true) (hh : hand ∈ (["self", "new", "last"] : List Str)) (h1 : 1 ≤ far) (h4 : far ≤ 4)
    (h : ∀ c : Cal, c.nm = nm → c.hand = hand → CalOk fs far c → Q c.drawn) : m_law_call A K [.st, .str nm, .str hand, .lst (fs.map Fld.da), .int far] E Q := by
  unfold m_law_call
  refine ⟨rfl, ?_⟩
  unfold b_law_call
  row_cond go
  refine ⟨rg_ok h1 h4, ?_⟩
  row_cond go
  refine ⟨?_, ?_⟩
  · simp [rngD]; exact Nat.le_trans (m := 12) (by omega) (by decide)
  row_cond go
  refine .inr ⟨_, rfl, ?_⟩
  refine ⟨_, _, rfl, rfl, ?_, ?_, ?_⟩
  · by_cases c : 1 < far <;> simp [c]
  · by_cases c : 1 < far <;> simp [c] <;> decide
  obtain ⟨ms, hms, hm0, hm13, hmr⟩ := some_moves far h1 h4
  refine ⟨_, _, rfl, rfl, ?_, ?_⟩
  · have := congrArg List.length hms
    rw [List.length_append] at this
    rw [this]
    simp
    exact Nat.le_trans hm13 (by decide)
  rw [hms]
  generalize ([] ++ [MO.lst _] ++ [MO.lst _] ++ [MO.lst _] ++ [MO.lst _] : MS) = μ0
  row_cond go
  refine ⟨by omega, ?_⟩
  row_cond go
  have hfz : ∀ o : MO, o = .lst ((ms.map Da.int).map .d) ∨ o = .frz (.lst (ms.map Da.int)) → fz1 (μ0 ++ [o]) (.ob μ0.length) = some (μ0 ++ [.frz (.lst (ms.map Da.int))], .lst (ms.map Da.int)) := by
    rintro o (rfl | rfl)
    · exact fz1_last
    · refine fz1_pu ?_
      simp [pu]
  refine lc_by (fun i acc μ => ∃ (o : MO) (vs : List Int), (o = .lst ((ms.map Da.int).map .d) ∨ o = .frz (.lst (ms.map Da.int))) ∧ μ = μ0 ++ [o] ∧ acc = (vs.map Da.int).map .d ∧ vs.length = i ∧ ∀ m ∈ vs, -1 ≤ m ∧ m ≤ far - 1) ?_ ?_ ⟨_, [], .inl rfl, rfl, rfl, rfl, by simp⟩
  · rintro i y acc μ N hy ⟨o, vs, ho, rfl, rfl, hvl, hvr⟩ hN
    have hi : i < far.toNat := by
      have := (List.getElem?_eq_some_iff.mp hy).1
      simpa [iwR, rngD] using this
    row_cond go
    refine ⟨_, _, fzs_cons rfl (fzs_cons (hfz o ho) (by rfl)), ?_⟩
    refine x_law_one (by simpa using hm0) (by simp; omega) fun x hx => ?_
    obtain ⟨m, hm, rfl⟩ := List.mem_map.mp hx
    refine ⟨?_, trivial, hN _ _ ⟨_, vs ++ [m], .inr rfl, rfl, by simp, by simp [hvl], ?_⟩⟩
    · refine Nat.lt_of_le_of_lt (m := 4) ?_ (by decide)
      simp; omega
    · intro k hk
      rcases List.mem_append.mp hk with hk | hk
      · exact hvr k hk
      · rw [List.mem_singleton.mp hk]; exact hmr m hm
  rintro acc μ ⟨o, vs, ho, rfl, rfl, hvl, hvr⟩
  have hvl' : (vs.length : Int) = far := by
    rw [hvl]; simp [iwR, rngD]; omega
  generalize μ0 ++ [o] = μ1
  row_cond go
  have hfl := ok.le
  refine lc_by (fun i acc μ => ∃ sub : List Str, μ = μ1 ++ [.lst ([] ++ (vs.map Da.int).map .d)] ∧ acc = (sub.map Da.str).map .d ∧ sub.Sublist ((fs.take i).map Fld.nm) ∧ ∀ s ∈ sub, sortOf fs s = some "many") ?_ ?_ ⟨[], rfl, rfl, by simp, by simp⟩
  · rintro i y acc μ N hy ⟨sub, rfl, rfl, hsub, hmany⟩ hN
    obtain ⟨x, hx, rfl⟩ := map_get hy
    rw [List.getElem?_map] at hx
    cases hf : fs[i]? with
    | none => rw [hf] at hx; cases hx
    | some f =>
      rw [hf] at hx
      cases hx
      have hfm := List.mem_of_getElem? hf
      have hsl := hsub.length_le
      rw [List.length_map, List.length_take] at hsl
      have hskip : N ((sub.map Da.str).map .d) (μ1 ++ [.lst ([] ++ (vs.map Da.int).map .d)]) := hN _ _ ⟨sub, rfl, rfl, by rw [take_snoc hf, List.map_append]; exact hsub.trans (List.sublist_append_left _ _), hmany⟩
      row_cond go
      cases hmy : f.many with
      | false =>
        have hso : f.sort = "one" := by unfold Fld.sort; rw [hmy]; rfl
        rw [show decide (V.str f.sort = V.str "many") = false from decide_eq_false (by rw [hso]; decide)]
        row_cond go
        exact hskip
      | true =>
        have hso : f.sort = "many" := by unfold Fld.sort; rw [hmy]; rfl
        rw [show decide (V.str f.sort = V.str "many") = true from decide_eq_true (by rw [hso])]
        row_cond go
        refine x_law_take (by decide) (by decide) fun k k0 k1 => ?_
        row_cond go
        by_cases ck : k = 0
        · rw [show decide (V.int k = V.int 0) = true by rw [int_eq_dec]; exact decide_eq_true ck]
          row_cond go
          refine ⟨Nat.lt_of_le_of_lt (m := 3) (by simp; omega) (by decide), rfl, hN _ _ ⟨sub ++ [f.nm], rfl, by simp, ?_, ?_⟩⟩
          · rw [take_snoc hf, List.map_append]
            exact List.Sublist.append hsub (List.Sublist.refl _)
          · intro s hs
            rcases List.mem_append.mp hs with hs | hs
            · exact hmany s hs
            · rw [List.mem_singleton.mp hs, sort_mem ok.nd hfm, hso]; rfl
        · rw [show decide (V.int k = V.int 0) = false by rw [int_eq_dec]; exact decide_eq_false ck]
          row_cond go
          exact hskip
  rintro acc μ ⟨sub, rfl, rfl, hsub, hmany⟩
  have e : (iwSq (Dv.d (Da.lst (fs.map Fld.da))) ((fs.map Fld.da).map Dv.d)).items.length = fs.length := by
    show ((fs.map Fld.da).map Dv.d).length = _
    simp
  rw [e, List.take_length] at hsub
  have hsl : sub.length ≤ 3 := by
    have := hsub.length_le
    rw [List.length_map] at this
    omega
  have hsn : sub.Nodup := hsub.nodup ok.nd
  generalize eμ : μ1 ++ [MO.lst ([] ++ (vs.map Da.int).map .d)] = μ2
  have g6 : ∀ r : MS, (μ2 ++ r)[μ1.length]? = some (.lst ((vs.map Da.int).map .d)) := by
    intro r
    rw [← eμ]
    simp
  row_cond go
  refine ⟨_, _, fzs_cons rfl (fzs_cons (fz1_last (xs := [.int 1, .int 2, .int 2, .int 4])) (by rfl)), ?_⟩
  refine x_law_one (by decide) (by decide) fun x hx => ?_
  obtain ⟨m, hm, rfl⟩ : ∃ m : Nat, m ≤ 4 ∧ x = .int m := by
    simp only [List.mem_cons, List.not_mem_nil, or_false] at hx
    rcases hx with rfl | rfl | rfl | rfl
    · exact ⟨1, by decide, rfl⟩
    · exact ⟨2, by decide, rfl⟩
    · exact ⟨2, by decide, rfl⟩
    · exact ⟨4, by decide, rfl⟩
  row_cond go
  refine x_law_deeds ok (by omega) fun ds hdl hdd hdn => ?_
  row_cond go
  by_cases cs : hand = "self"
  · rw [show decide (V.str hand = V.str "self") = true from decide_eq_true (by rw [cs])]
    row_cond go
    refine ⟨show 5 ≤ sizeLine by decide, ?_⟩
    refine ⟨_, .tp (.cons (.d _) (.cons (.d _) (.cons (.lst (by rw [List.append_assoc, List.append_assoc]; exact g6 _) (RzAll.map _ _)) (.cons (.d _) (.cons (.lst get_last .nil) .nil))))), ?_⟩
    exact h ⟨nm, hand, vs, ds, []⟩ rfl rfl ⟨hw, hh, hvl', h4, hvr, Nat.le_trans hdl hm, hdd, hdn, by simp, by simp, by simp, fun _ => rfl⟩
  · rw [show decide (V.str hand = V.str "self") = false from decide_eq_false (by intro z; cases z; exact cs rfl)]
    row_cond go
    refine ⟨show 5 ≤ sizeLine by decide, ?_⟩
    refine ⟨_, .tp (.cons (.d _) (.cons (.d _) (.cons (.lst (by rw [List.append_assoc]; exact g6 _) (RzAll.map _ _)) (.cons (.d _) (.cons (.lst (by rw [List.append_assoc]; exact get_mid) (RzAll.map _ _)) .nil))))), ?_⟩
    exact h ⟨nm, hand, vs, ds, sub⟩ rfl rfl ⟨hw, hh, hvl', h4, hvr, Nat.le_trans hdl hm, hdd, hdn, hmany, hsn, hsl, fun z => absurd z cs⟩
end
end Mz
end
section
set_option Elab.async false
set_option linter.all false
set_option maxRecDepth 100000
set_option maxHeartbeats 1000000
namespace Mz
open PySem L2
local macro_rules | `(tactic| row_cond sd) => `(tactic| first | exact rfl | exact True.intro | assumption | decide)
local macro_rules | `(tactic| row_cond st) => `(tactic| first
  | refine And.intro (by row_cond sd) ?_
  | refine ⟨_, by row_cond sd, ?_⟩
  | refine ⟨_, _, by row_cond sd, ?_⟩
  | refine ⟨_, _, by row_cond sd, by row_cond sd, ?_⟩
  | refine ⟨_, _, _, by row_cond sd, ?_⟩
  | refine ⟨_, _, _, by row_cond sd, by row_cond sd, ?_⟩
  | refine ⟨_, _, _, by row_cond sd, by row_cond sd, by row_cond sd, ?_⟩
  | refine ⟨_, _, _, _, by row_cond sd, ?_⟩
  | refine ⟨_, _, _, _, by row_cond sd, by row_cond sd, by row_cond sd, ?_⟩
  | refine ⟨_, _, _, _, by row_cond sd, by row_cond sd, by row_cond sd, by row_cond sd, ?_⟩
  | refine iteT ?_
  | refine iteF ?_)
local macro_rules | `(tactic| row_cond go) => `(tactic| repeat (row_cond st))
abbrev FIVE : List Str := ["a", "need", "many", "do", "quantity"]
abbrev NAMES : List Str := ["add", "put", "cut", "make", "jqzxvkgw"]
def planDa (A : Ad) (kd : KD) : Da := .dct [(.inr "fields", .lst (kd.fs.map Fld.da)), (.inr "calls", .lst (kd.cs.map Cal.drawn)), (.inr "modes", .int kd.md), (.inr "known", kindDa A kd)]
theorem five_words : ∀ s ∈ FIVE, (Da.str s).isWord = true := by decide +kernel
theorem names_words : ∀ s ∈ NAMES, (Da.str s).isWord = true := by decide +kernel
theorem build_word : (Da.str "build").isWord = true := by decide +kernel
theorem flds_are : ∀ fs : List Fld, Paired isFld (fs.map Fld.da) fs
  | [] => .nil
  | _ :: r => .cons rfl (flds_are r)
theorem cals_are : ∀ cs : List Cal, Paired isCal (cs.map Cal.drawn) cs
  | [] => .nil
  | c :: r => .cons (drawn_is c) (cals_are r)
structure Drawn (kd : KD) (wide many far : Int) : Prop where
  ok : KDOk kd
  fl : (kd.fs.length : Int) ≤ wide
  fn : ∀ f ∈ kd.fs, f.nm ∈ FIVE
  md : kd.md ≤ far
  cs : ∃ n : Nat, 1 ≤ n ∧ (n : Int) ≤ many - 1 ∧ kd.cs.map Cal.nm = NAMES.take n ++ [("build" : Str)]
  bl : ∀ c ∈ kd.cs, c.nm = "build" → c.hand = "last"
theorem sq_at {μ : MS} {n : Nat} {ys : List Dv} (h : μ[n]? = some (.lst ys)) : sqV μ (.ob n) = some ys := by
  show (match μ[n]? with
    | some (.lst ds) => some ds
    | some (.frz (.lst ds)) => some (ds.map .d)
    | _ => none) = _
  rw [h]
theorem ls_at {μ : MS} {n : Nat} {ys : List Dv} (h : μ[n]? = some (.lst ys)) : lsV μ (.ob n) = some ys := sq_at h
theorem ls_some {μ : MS} {d : Dv} {ys : List Dv} (h : lsV μ d = some ys) : (lsV μ d).isSome = true := by rw [h]; rfl
theorem cut_names {n : Nat} (h1 : 1 ≤ n) (h5 : n ≤ 5) : cutD [Dv.d (Da.str "add"), Dv.d (Da.str "put"), Dv.d (Da.str "cut"), Dv.d (Da.str "make"), Dv.d (Da.str "jqzxvkgw")] none (some (n : Int)) = (NAMES.take n).map fun s => .d (.str s) := by
  have : n = 1 ∨ n = 2 ∨ n = 3 ∨ n = 4 ∨ n = 5 := by omega
  rcases this with rfl | rfl | rfl | rfl | rfl <;> rfl
section
variable {A : Ad} {K : PySem.W.Frag} {E : Ex → Prop} {Q : Da → Prop}
theorem x_law_kind {wide many far : Int} (w1 : 1 ≤ wide) (w3 : wide ≤ 3) (n2 : 2 ≤ many) (n6 : many ≤ 6) (f1 : 1 ≤ far) (f4 : far ≤ 4)
    (h : ∀ kd : KD, Drawn kd wide many far → Q (planDa A kd)) : m_law_kind A K [.st, .int wide, .int many, .int far] E Q := by
  unfold m_law_kind
  refine ⟨rfl, ?_⟩
  unfold b_law_kind
  row_cond go
  refine x_law_mix (ss := FIVE) (by decide) (by decide +kernel) fun ys hys => ?_
  row_cond go
  refine x_law_take (by omega) (by omega) fun k k0 k1 => ?_
  row_cond go
  refine ⟨by omega, ?_⟩
  row_cond go
  have hyl : ys.length = 5 := hys.length_eq
  refine loop_by (fun i α μ => ∃ (fs : List Fld) (s6 : Option Dv) (g : MS), α = [some (.d .st), some (.d (.int wide)), some (.d (.int many)), some (.d (.int far)), some (.ob 0), some (.d (.lst (ys.map Da.str))), s6, none, none, none] ∧ μ = .lst ((fs.map Fld.da).map .d) :: g ∧ fs.map Fld.nm = ys.take i ∧ fs.length = i) ?_ ?_ ⟨[], none, _, rfl, rfl, rfl, rfl⟩
  · rintro i y α μ N hy ⟨fs, s6, g, rfl, rfl, hfn, hfl⟩ hN
    have hi : i < 3 := by
      have := (List.getElem?_eq_some_iff.mp hy).1
      simp [iwR, rngD] at this
      omega
    obtain rfl : y = .d (.int (i : Nat)) := by
      have := (List.getElem?_eq_some_iff.mp hy).2
      rw [← this]
      simp [iwR, rngD]
    row_cond go
    have hiy : i < ys.length := by omega
    refine ⟨_, ix_items (d := .lst (ys.map Da.str)) (x := .str ys[i]) rfl rfl (by simp) _, ?_⟩
    row_cond go
    refine ⟨_, _, fzs_cons rfl (fzs_cons (fz1_last (μ := _ :: g) (xs := [.str "many", .str "many", .str "one"])) (by rfl)), ?_⟩
    refine x_law_one (by decide) (by decide) fun x hx => ?_
    obtain ⟨b, rfl⟩ : ∃ b : Bool, x = .str (if b then "many" else "one") := by
      simp only [List.mem_cons, List.not_mem_nil, or_false] at hx
      rcases hx with rfl | rfl | rfl
      · exact ⟨true, rfl⟩
      · exact ⟨true, rfl⟩
      · exact ⟨false, rfl⟩
    row_cond go
    refine x_law_take (by decide) (by decide) fun k2 _ _ => ?_
    row_cond go
    refine ⟨show 3 ≤ sizeLine by decide, ?_⟩
    refine ⟨_, _, _, rfl, rfl, rfl, Nat.lt_of_le_of_lt (m := 3) (by simp; omega) (by decide), ?_⟩
    refine ⟨trivial, hN _ _ ⟨fs ++ [⟨ys[i], b, decide (V.int k2 = V.int 0)⟩], _, _, rfl, by rw [List.map_append, List.map_append]; rfl, ?_, by simp [hfl]⟩⟩
    rw [List.map_append, hfn, take_snoc (List.getElem?_eq_getElem hiy)]
    rfl
  rintro α μ ⟨fs, s6, g, rfl, rfl, hfn, hfl⟩
  have hnf : (fs.map Fld.nm).Nodup := by
    rw [hfn]
    exact (List.take_sublist _ _).nodup (hys.nodup_iff.mpr (by decide))
  have hfl' : fs.length = (1 + k).toNat := by rw [hfl]; simp [iwR, rngD]
  have hfi : ∀ f ∈ fs, f.nm ∈ FIVE := by
    intro f hf
    have : f.nm ∈ fs.map Fld.nm := List.mem_map.mpr ⟨f, hf, rfl⟩
    rw [hfn] at this
    exact hys.mem_iff.mp (List.mem_of_mem_take this)
  have okf : FldsOk fs := ⟨by omega, by omega, fun f hf => five_words _ (hfi f hf), hnf⟩
  row_cond go
  refine x_law_take (by omega) (by omega) fun md md0 md1 => ?_
  row_cond go
  refine x_law_take (by omega) (by omega) fun kn kn0 kn1 => ?_
  row_cond go
  refine ⟨_, lsV_last, ?_⟩
  refine ⟨_, sqV_last, sqV_last, ?_⟩
  dsimp only
  obtain ⟨n, hn⟩ : ∃ n : Nat, 1 + kn = (n : Int) := ⟨(1 + kn).toNat, by omega⟩
  have hn1 : 1 ≤ n := by omega
  have hn5 : n ≤ 5 := by omega
  rw [hn, cut_names hn1 hn5]
  generalize hL : MO.lst [Dv.d (Da.str "add"), Dv.d (Da.str "put"), Dv.d (Da.str "cut"), Dv.d (Da.str "make"), Dv.d (Da.str "jqzxvkgw")] = L
  generalize hq : List.length (MO.lst ((fs.map Fld.da).map .d) :: g ++ [MO.lst []] ++ [L]) = q
  have hq' : ∀ o0 a b : MO, q = ((o0 :: g) ++ [a, b]).length := by intro o0 a b; rw [← hq]; simp
  generalize hSL : ((NAMES.take n).map fun s => Dv.d (.str s)) = SL
  have hgd : ∀ (o0 c : MO) (r : MS), sqV ((o0 :: g) ++ c :: L :: .lst SL :: r) (.ob q) = some SL := by
    intro o0 c r
    refine sq_at ?_
    rw [hq' o0 c L]
    exact get_mid2
  have hf0 : ∀ (o0 : MO) (r : MS), (o0 = .lst ((fs.map Fld.da).map .d) ∨ o0 = .frz (.lst (fs.map Fld.da))) → fz1 (o0 :: g ++ r) (.ob 0) = some (.frz (.lst (fs.map Fld.da)) :: g ++ r, .lst (fs.map Fld.da)) := by
    rintro o0 r (rfl | rfl)
    · exact fz1_lst rfl
    · exact fz1_pu rfl
  have hset : ∀ (o x y : MO) (r : MS), (o :: g ++ x :: r).set (g.length + 1) y = o :: g ++ y :: r := fun o x y r => set_mid (l := o :: g)
  refine loop_by (fun i α μ => ∃ (cs : List Cal) (o0 : MO) (s9 : Option Dv) (r : MS), α = [some (.d .st), some (.d (.int wide)), some (.d (.int many)), some (.d (.int far)), some (.ob 0), some (.d (.lst (ys.map Da.str))), s6, some (.d (.int (1 + md))), some (.ob (g.length + 1)), s9] ∧ (o0 = .lst ((fs.map Fld.da).map .d) ∨ o0 = .frz (.lst (fs.map Fld.da))) ∧ μ = (o0 :: g) ++ .lst ((cs.map Cal.drawn).map .d) :: L :: .lst SL :: r ∧ cs.map Cal.nm = NAMES.take i ∧ cs.length = i ∧ (∀ c ∈ cs, CalOk fs (1 + md) c)) ?_ ?_ ⟨[], _, none, [], rfl, .inl rfl, by simp, rfl, rfl, by simp⟩
  · rintro i y α μ N hy ⟨cs, o0, s9, r, rfl, ho, rfl, hcn, hcl, hck⟩ hN
    have hiN : i < n ∧ i < 5 := by
      have := (List.getElem?_eq_some_iff.mp hy).1
      rw [show (iwSq (Dv.ob q) SL).items = SL from rfl, ← hSL] at this
      simp at this
      omega
    obtain ⟨s, hs1, rfl⟩ : ∃ s, NAMES[i]? = some s ∧ y = .d (.str s) := by
      rw [show (iwSq (Dv.ob q) SL).items = SL from rfl, ← hSL] at hy
      obtain ⟨s, hs, e⟩ := map_get hy
      rw [List.getElem?_take] at hs
      rw [if_pos hiN.1] at hs
      exact ⟨s, hs, e⟩
    row_cond go
    refine ⟨ls_some (ls_at (get_mid (l := o0 :: g))), ?_⟩
    row_cond go
    refine ⟨_, _, fzs_cons rfl (fzs_cons (fz1_last (xs := [.str "self", .str "new", .str "self", .str "new", .str "last"])) (by rfl)), ?_⟩
    refine x_law_one (by decide) (by decide) fun x hx => ?_
    obtain ⟨hand, hh, rfl⟩ : ∃ hand, hand ∈ (["self", "new", "last"] : List Str) ∧ x = .str hand := by
      simp only [List.mem_cons, List.not_mem_nil, or_false] at hx
      rcases hx with rfl | rfl | rfl | rfl | rfl
      all_goals exact ⟨_, by decide, rfl⟩
    dsimp only
    rw [List.append_assoc]
    row_cond go
    refine ⟨_, _, fzs_cons rfl (fzs_cons rfl (fzs_cons rfl (fzs_cons (hf0 o0 _ ho) (by rfl)))), ?_⟩
    refine x_law_call okf (names_words s (List.mem_of_getElem? hs1)) hh (by omega) (by omega) fun c ec1 ec2 okc => ?_
    row_cond go
    refine ⟨_, _, _, rfl, rfl, get_mid (l := _ :: g), Nat.lt_of_le_of_lt (m := 5) (by simp; omega) (by decide), ?_⟩
    show (iwSq (Dv.ob q) SL).gd (List.set (_ :: g ++ _ :: _) (g.length + 1) _) ∧ N _ (List.set (_ :: g ++ _ :: _) (g.length + 1) _)
    rw [hset]
    refine ⟨hgd _ _ _, hN _ _ ⟨cs ++ [c], _, _, r ++ _, rfl, .inr rfl, by rw [List.map_append, List.map_append]; rfl, ?_, by simp [hcl], ?_⟩⟩
    · rw [List.map_append, hcn, take_snoc hs1]
      show _ ++ [c.nm] = _
      rw [ec1]
    · intro c' hc'
      rcases List.mem_append.mp hc' with hc' | hc'
      · exact hck c' hc'
      · rw [List.mem_singleton.mp hc']; exact okc
  rintro α μ ⟨cs, o0, s9, r, rfl, ho, rfl, hcn, hcl, hck⟩
  have hSl : (iwSq (Dv.ob q) SL).items.length = n := by
    show SL.length = n
    rw [← hSL]
    simp
    omega
  rw [hSl] at hcl hcn
  row_cond go
  refine ⟨ls_some (ls_at (get_mid (l := o0 :: g))), ?_⟩
  row_cond go
  refine ⟨_, _, fzs_cons rfl (fzs_cons rfl (fzs_cons rfl (fzs_cons (hf0 o0 _ ho) (by rfl)))), ?_⟩
  refine x_law_call okf build_word (by decide) (by omega) (by omega) fun c ec1 ec2 okc => ?_
  row_cond go
  refine ⟨_, _, _, rfl, rfl, get_mid (l := _ :: g), Nat.lt_of_le_of_lt (m := 5) (by simp; omega) (by decide), ?_⟩
  dsimp only
  rw [hset, show (cs.map Cal.drawn).map Dv.d ++ [Dv.d c.drawn] = ((cs ++ [c]).map Cal.drawn).map .d by simp]
  row_cond go
  refine ⟨_, _, fzs_cons (fz1_pu rfl) (fzs_cons (fz1_lst (get_mid (l := _ :: g))) (by rfl)), ?_⟩
  have hcs : ∀ c' ∈ cs ++ [c], CalOk fs (1 + md) c' := by
    intro c' hc'
    rcases List.mem_append.mp hc' with hc' | hc'
    · exact hck c' hc'
    · rw [List.mem_singleton.mp hc']; exact okc
  have hnm : (cs ++ [c]).map Cal.nm = NAMES.take n ++ [("build" : Str)] := by
    rw [List.map_append, hcn]
    show _ ++ [c.nm] = _
    rw [ec1]
  have hnd : ((cs ++ [c]).map Cal.nm).Nodup := by
    rw [hnm]
    have : n = 1 ∨ n = 2 ∨ n = 3 ∨ n = 4 ∨ n = 5 := by omega
    rcases this with e | e | e | e | e <;> rw [e] <;> decide +kernel
  have okd : KDOk ⟨fs, cs ++ [c], 1 + md⟩ := ⟨okf, by show 1 ≤ 1 + md; omega, by show 1 + md ≤ 4; omega, by simp, by simp; omega, hcs, hnd⟩
  refine x_law_plan (kd := ⟨fs, cs ++ [c], 1 + md⟩) ⟨_, rfl, flds_are _⟩ ⟨_, rfl, cals_are _⟩ okd ?_
  refine ⟨_, .d _, h ⟨fs, cs ++ [c], 1 + md⟩ ⟨okd, ?_, hfi, ?_, ⟨n, hn1, by omega, hnm⟩, ?_⟩⟩
  · show (fs.length : Int) ≤ wide
    omega
  · show 1 + md ≤ far
    omega
  · intro c' hc' eb
    rcases List.mem_append.mp hc' with hc' | hc'
    · exfalso
      have : c'.nm ∈ cs.map Cal.nm := List.mem_map.mpr ⟨c', hc', rfl⟩
      rw [hcn, eb] at this
      exact absurd (List.mem_of_mem_take this) (by decide +kernel)
    · rw [List.mem_singleton.mp hc']; exact ec2
end
end Mz
end
section
set_option Elab.async false
set_option linter.all false
set_option maxRecDepth 100000
set_option maxHeartbeats 1000000
namespace Mz
open PySem L2
open TL
/-! ### lines, plain -/
inductive Ln where
  | modes (m : Int) | fld (f : Fld) | cal (nm hand : Str) (ms : List Int) | deed (p : Str × Str) | same (s : Str)
abbrev toS (m : Int) : Str := Str.ofString (toString m)
def Ln.words : Ln → List Str
  | .modes m => ["modes", toS m]
  | .fld f => ([("field" : Str), f.nm, f.sort] : List Str) ++ (if f.need = true then [("need" : Str)] else [])
  | .cal nm hand ms => ([("call" : Str), nm, hand] : List Str) ++ ms.map toS
  | .deed p => ["do", p.1, p.2]
  | .same s => ["same", s]
def Ln.line (l : Ln) : Str := Txt.join " " l.words
def calLns (c : Cal) : List Ln := .cal c.nm c.hand c.moves :: (c.deeds.map .deed ++ c.same.map .same)
def kdLns (kd : KD) : List Ln := .modes kd.md :: (kd.fs.map .fld ++ (kd.cs.map calLns).flatten)
def lnText (ls : List Str) : Str := Txt.join "" (ls.map fun x : Str => x ++ ("\n" : Str))
def Num (m : Int) : Prop := -1 ≤ m ∧ m ≤ 4
def LnOk : Ln → Prop
  | .modes m => Num m ∧ 1 ≤ m
  | .fld f => (Da.str f.nm).isWord = true
  | .cal nm hand ms => (Da.str nm).isWord = true ∧ (Da.str hand).isWord = true ∧ ms.length ≤ 4 ∧ ∀ m ∈ ms, Num m
  | .deed p => (Da.str p.1).isWord = true ∧ (Da.str p.2).isWord = true
  | .same s => (Da.str s).isWord = true
def Wd (w : Str) : Prop := 32 ∉ tl w ∧ 10 ∉ tl w ∧ w.length ≤ 8
theorem word_wd {s : Str} (h : (Da.str s).isWord = true) : Wd s := by
  simp only [Da.isWord, lowS, Bool.and_eq_true, decide_eq_true_eq, List.all_map, List.all_eq_true] at h
  obtain ⟨⟨h1, h2⟩, h3⟩ := h
  refine ⟨fun hm => ?_, fun hm => ?_, h2⟩
  · have := h3 32 hm
    exact absurd this (by decide)
  · have := h3 10 hm
    exact absurd this (by decide)
theorem num_cases {m : Int} (h : Num m) : m = -1 ∨ m = 0 ∨ m = 1 ∨ m = 2 ∨ m = 3 ∨ m = 4 := by
  obtain ⟨h1, h2⟩ := h
  omega
theorem num_wd {m : Int} (h : Num m) : Wd (toS m) := by
  rcases num_cases h with rfl | rfl | rfl | rfl | rfl | rfl <;> (unfold Wd; decide)
theorem sort_wd (f : Fld) : Wd f.sort := by
  unfold Fld.sort
  cases f.many <;> (unfold Wd; decide)
theorem ln_words {l : Ln} (h : LnOk l) : (∀ w ∈ l.words, Wd w) ∧ l.words ≠ [] ∧ l.words.length ≤ 7 := by
  cases l with
  | modes m =>
    refine ⟨fun w hw => ?_, by simp [Ln.words], by simp [Ln.words]⟩
    simp only [Ln.words, List.mem_cons, List.not_mem_nil, or_false] at hw
    rcases hw with rfl | rfl
    · unfold Wd; decide
    · exact num_wd h.1
  | fld f =>
    refine ⟨fun w hw => ?_, by simp [Ln.words], ?_⟩
    · simp only [Ln.words, List.mem_append, List.mem_cons, List.not_mem_nil, or_false] at hw
      rcases hw with (rfl | rfl | rfl) | hw
      · unfold Wd; decide
      · exact word_wd h
      · exact sort_wd f
      · cases hn : f.need with
        | true =>
          rw [hn] at hw
          have : w = "need" := by simpa using hw
          rw [this]; unfold Wd; decide
        | false => rw [hn] at hw; simp at hw
    · simp only [Ln.words]
      cases f.need <;> simp
  | cal nm hand ms =>
    obtain ⟨h1, h2, h3, h4⟩ := h
    refine ⟨fun w hw => ?_, by simp [Ln.words], by simp [Ln.words]; omega⟩
    simp only [Ln.words, List.mem_append, List.mem_cons, List.not_mem_nil, or_false] at hw
    rcases hw with (rfl | rfl | rfl) | hw
    · unfold Wd; decide
    · exact word_wd h1
    · exact word_wd h2
    · obtain ⟨m, hm, rfl⟩ := List.mem_map.mp hw
      exact num_wd (h4 m hm)
  | deed p =>
    refine ⟨fun w hw => ?_, by simp [Ln.words], by simp [Ln.words]⟩
    simp only [Ln.words, List.mem_cons, List.not_mem_nil, or_false] at hw
    rcases hw with rfl | rfl | rfl
    · unfold Wd; decide
    · exact word_wd h.1
    · exact word_wd h.2
  | same s =>
    refine ⟨fun w hw => ?_, by simp [Ln.words], by simp [Ln.words]⟩
    simp only [Ln.words, List.mem_cons, List.not_mem_nil, or_false] at hw
    rcases hw with rfl | rfl
    · unfold Wd; decide
    · exact word_wd h
theorem line_split {l : Ln} (h : LnOk l) : Txt.split l.line " " = l.words := by
  obtain ⟨h1, h2, _⟩ := ln_words h
  exact split_join (s := 32) (S := []) rfl (by decide +kernel) h2 fun p hp => (h1 p hp).1
theorem len_tl (s : Str) : s.length = (tl s).length := by
  unfold Str.length tl; simp
theorem joinL_facts : ∀ (ws : List Str), (∀ w ∈ ws, Wd w) → 10 ∉ joinL [32] (ws.map tl) ∧ (joinL [32] (ws.map tl)).length ≤ 9 * ws.length
  | [], _ => ⟨by simp [joinL], by simp [joinL]⟩
  | [w], h => by
    obtain ⟨h1, h2, h3⟩ := h w (by simp)
    rw [len_tl] at h3
    exact ⟨h2, by show (tl w).length ≤ 9 * 1; omega⟩
  | w :: z :: r, h => by
    obtain ⟨h1, h2, h3⟩ := h w (by simp)
    rw [len_tl] at h3
    obtain ⟨i1, i2⟩ := joinL_facts (z :: r) fun w hw => h w (List.mem_cons_of_mem _ hw)
    have e : joinL [32] ((w :: z :: r).map tl) = tl w ++ ([32] ++ joinL [32] ((z :: r).map tl)) := rfl
    rw [e]
    refine ⟨?_, ?_⟩
    · intro hm
      rcases List.mem_append.mp hm with hm | hm
      · exact h2 hm
      · rcases List.mem_append.mp hm with hm | hm
        · exact absurd hm (by decide)
        · exact i1 hm
    · rw [List.length_append, List.length_append]
      simp only [List.length_cons, List.length_nil] at i2 ⊢
      omega
theorem line_facts {l : Ln} (h : LnOk l) : 10 ∉ tl l.line ∧ l.line.length ≤ 63 := by
  obtain ⟨h1, _, h3⟩ := ln_words h
  have e : tl l.line = joinL [32] (l.words.map tl) := by
    unfold Ln.line
    rw [join_eq, tl_join]; rfl
  obtain ⟨i1, i2⟩ := joinL_facts l.words h1
  rw [len_tl, e]
  exact ⟨i1, by omega⟩
theorem lnText_tl : ∀ ls : List Str, tl (lnText ls) = joinL [10] ((ls ++ [Str.empty]).map tl)
  | [] => rfl
  | [a] => by
    unfold lnText
    rw [join_eq, tl_join]
    show tl (a ++ "\n") = tl a ++ ([10] ++ [])
    rw [tl_append]; rfl
  | a :: b :: r => by
    have ih := lnText_tl (b :: r)
    unfold lnText at ih ⊢
    rw [join_eq, tl_join] at ih ⊢
    show tl (a ++ "\n") ++ ([] ++ joinL [] (((b :: r).map fun x : Str => x ++ ("\n" : Str)).map tl)) = tl a ++ ([10] ++ joinL [10] (((b :: r) ++ [Str.empty]).map tl))
    rw [tl_append, ← ih, List.nil_append, List.append_assoc]; rfl
theorem text_split {ls : List Str} (h : ∀ l ∈ ls, 10 ∉ tl l) : Txt.split (lnText ls) "\n" = ls ++ [Str.empty] := by
  have e : lnText ls = Txt.join "\n" (ls ++ [Str.empty]) := by
    refine ext_tl ?_
    rw [lnText_tl, join_eq, tl_join]; rfl
  rw [e]
  refine split_join (s := 10) (S := []) rfl (by decide +kernel) (by simp) fun p hp => ?_
  rcases List.mem_append.mp hp with hp | hp
  · exact h p hp
  · have : p = Str.empty := by simpa using hp
    rw [this]; decide
theorem text_len : ∀ {ls : List Str}, (∀ l ∈ ls, l.length ≤ 63) → (lnText ls).length ≤ 64 * ls.length
  | [], _ => by decide
  | [a], h => by
    have := h a (by simp)
    rw [len_tl, lnText_tl]
    rw [len_tl] at this
    show (tl a ++ ([10] ++ [])).length ≤ 64 * 1
    simp only [List.length_append, List.length_cons, List.length_nil]
    omega
  | a :: b :: r, h => by
    have h1 := h a (by simp)
    have ih := text_len (ls := b :: r) fun l hl => h l (List.mem_cons_of_mem _ hl)
    rw [len_tl, lnText_tl] at ih ⊢
    rw [len_tl] at h1
    show (tl a ++ ([10] ++ joinL [10] (((b :: r) ++ [Str.empty]).map tl))).length ≤ _
    simp only [List.length_append, List.length_cons, List.length_nil] at ih ⊢
    omega
theorem deeds_words {t d : Str} (h : d ∈ deedsOf t) : (Da.str d).isWord = true := by
  unfold deedsOf at h
  by_cases c : t = "many"
  · rw [if_pos c] at h
    simp only [List.mem_cons, List.not_mem_nil, or_false] at h
    rcases h with rfl | rfl | rfl | rfl <;> decide
  · rw [if_neg c] at h
    simp only [List.mem_cons, List.not_mem_nil, or_false] at h
    rcases h with rfl | rfl <;> decide
theorem sortOf_mem {fs : List Fld} {s t : Str} (h : sortOf fs s = some t) : ∃ f ∈ fs, f.nm = s := by
  unfold sortOf at h
  cases e : fs.find? fun f => decide (f.nm = s) with
  | none => rw [e] at h; cases h
  | some f => exact ⟨f, List.mem_of_find?_eq_some e, by simpa using List.find?_some e⟩
theorem calLns_ok {fs : List Fld} {md : Int} {c : Cal} (fok : FldsOk fs) (ok : CalOk fs md c) : ∀ l ∈ calLns c, LnOk l := by
  intro l hl
  unfold calLns at hl
  rcases List.mem_cons.mp hl with rfl | hl
  · refine ⟨ok.wd, ?_, ?_, fun m hm => ⟨(ok.mv m hm).1, ?_⟩⟩
    · have := ok.hd
      simp only [List.mem_cons, List.not_mem_nil, or_false] at this
      rcases this with e | e | e <;> (rw [e]; decide)
    · have h1 := ok.ml
      have h2 := ok.m4
      omega
    · have h1 := (ok.mv m hm).2
      have h2 := ok.m4
      omega
  · rcases List.mem_append.mp hl with hl | hl
    · obtain ⟨p, hp, rfl⟩ := List.mem_map.mp hl
      obtain ⟨t, ht, hd⟩ := ok.dd p hp
      obtain ⟨f, hf, e⟩ := sortOf_mem ht
      exact ⟨deeds_words hd, by rw [← e]; exact fok.wd f hf⟩
    · obtain ⟨s, hs, rfl⟩ := List.mem_map.mp hl
      obtain ⟨f, hf, e⟩ := sortOf_mem (ok.sm s hs)
      show (Da.str s).isWord = true
      rw [← e]; exact fok.wd f hf
theorem kdLns_ok {kd : KD} (ok : KDOk kd) : ∀ l ∈ kdLns kd, LnOk l := by
  intro l hl
  unfold kdLns at hl
  rcases List.mem_cons.mp hl with rfl | hl
  · have := ok.m1
    have := ok.m4
    exact ⟨⟨by omega, by omega⟩, by omega⟩
  · rcases List.mem_append.mp hl with hl | hl
    · obtain ⟨f, hf, rfl⟩ := List.mem_map.mp hl
      exact ok.f.wd f hf
    · obtain ⟨ls, hls, hl⟩ := List.mem_flatten.mp hl
      obtain ⟨c, hc, rfl⟩ := List.mem_map.mp hls
      exact calLns_ok ok.f (ok.c c hc) l hl
theorem calLns_len {fs : List Fld} {md : Int} {c : Cal} (ok : CalOk fs md c) : (calLns c).length ≤ 8 := by
  have h1 := ok.dl
  have h2 := ok.sl
  simp only [calLns, List.length_cons, List.length_append, List.length_map]
  omega
theorem flat_len {α : Type} {n : Nat} : ∀ {ls : List (List α)}, (∀ l ∈ ls, l.length ≤ n) → ls.flatten.length ≤ n * ls.length
  | [], _ => by simp
  | l :: r, h => by
    have h1 := h l (by simp)
    have ih := flat_len (ls := r) fun l hl => h l (List.mem_cons_of_mem _ hl)
    rw [List.flatten_cons, List.length_append, List.length_cons, Nat.mul_add, Nat.mul_one]
    omega
theorem kdLns_len {kd : KD} (ok : KDOk kd) : (kdLns kd).length ≤ 64 := by
  have h1 : ((kd.cs.map calLns).flatten).length ≤ 8 * (kd.cs.map calLns).length := flat_len fun l hl => by
    obtain ⟨c, hc, rfl⟩ := List.mem_map.mp hl
    exact calLns_len (ok.c c hc)
  have h2 := ok.c6
  have h3 := ok.f.le
  rw [List.length_map] at h1
  simp only [kdLns, List.length_cons, List.length_append, List.length_map]
  omega
/-! ### what the lines, read one by one, make -/
def onLast (f : Cal → Cal) : List Cal → List Cal
  | [] => []
  | [c] => [f c]
  | c :: z :: r => c :: onLast f (z :: r)
theorem onLast_snoc (f : Cal → Cal) (c : Cal) : ∀ cs : List Cal, onLast f (cs ++ [c]) = cs ++ [f c]
  | [] => rfl
  | [a] => rfl
  | a :: b :: r => by
    show a :: onLast f (b :: r ++ [c]) = _
    rw [onLast_snoc f c (b :: r)]; rfl
def rdLn (r : KD) : Ln → KD
  | .modes m => ⟨r.fs, r.cs, m⟩
  | .fld f => ⟨r.fs ++ [f], r.cs, r.md⟩
  | .cal nm hand ms => ⟨r.fs, r.cs ++ [⟨nm, hand, ms, [], []⟩], r.md⟩
  | .deed p => ⟨r.fs, onLast (fun c => { c with deeds := c.deeds ++ [p] }) r.cs, r.md⟩
  | .same s => ⟨r.fs, onLast (fun c => { c with same := c.same ++ [s] }) r.cs, r.md⟩
def Fits (r : KD) (j : Nat) : Ln → Prop
  | .modes _ => j = 0
  | .fld _ => j ≠ 0 ∧ r.cs = []
  | .cal _ _ _ => j ≠ 0
  | .deed _ => j ≠ 0 ∧ ∃ cs0 c, r.cs = cs0 ++ [c] ∧ c.same = []
  | .same _ => j ≠ 0 ∧ ∃ cs0 c, r.cs = cs0 ++ [c]
def Reads : KD → Nat → List Ln → KD → Prop
  | r, _, [], r' => r = r'
  | r, j, l :: ls, r' => Fits r j l ∧ LnOk l ∧ Reads (rdLn r l) (j + 1) ls r'
theorem Reads.app : ∀ {r r' r'' : KD} {j : Nat} {a b : List Ln}, Reads r j a r' → Reads r' (j + a.length) b r'' → Reads r j (a ++ b) r''
  | _, _, _, _, [], _, h, k => by
    obtain rfl : _ = _ := h
    exact k
  | _, _, _, j, l :: ls, b, h, k => ⟨h.1, h.2.1, Reads.app h.2.2 (by
      have e : j + 1 + ls.length = j + (l :: ls).length := by simp; omega
      rw [e]; exact k)⟩
theorem reads_flds : ∀ {fs fs0 : List Fld} {md : Int} {j : Nat}, j ≠ 0 → (∀ f ∈ fs, (Da.str f.nm).isWord = true) → Reads ⟨fs0, [], md⟩ j (fs.map .fld) ⟨fs0 ++ fs, [], md⟩
  | [], fs0, md, _, _, _ => by show (⟨fs0, [], md⟩ : KD) = _; rw [List.append_nil]
  | f :: r, fs0, md, j, hj, h => by
    refine ⟨⟨hj, rfl⟩, h f (by simp), ?_⟩
    have := reads_flds (fs := r) (fs0 := fs0 ++ [f]) (md := md) (j := j + 1) (by omega) fun g hg => h g (List.mem_cons_of_mem _ hg)
    rw [List.append_assoc] at this
    exact this
theorem reads_deeds {fs : List Fld} {cs0 : List Cal} {md : Int} {nm hd : Str} {ms : List Int} : ∀ {ds ds0 : List (Str × Str)} {j : Nat}, j ≠ 0 → (∀ p ∈ ds, LnOk (.deed p)) → Reads ⟨fs, cs0 ++ [⟨nm, hd, ms, ds0, []⟩], md⟩ j (ds.map .deed) ⟨fs, cs0 ++ [⟨nm, hd, ms, ds0 ++ ds, []⟩], md⟩
  | [], ds0, _, _, _ => by show (⟨fs, cs0 ++ [⟨nm, hd, ms, ds0, []⟩], md⟩ : KD) = _; rw [List.append_nil]
  | p :: r, ds0, j, hj, h => by
    refine ⟨⟨hj, cs0, _, rfl, rfl⟩, h p (by simp), ?_⟩
    have := reads_deeds (fs := fs) (cs0 := cs0) (md := md) (nm := nm) (hd := hd) (ms := ms) (ds := r) (ds0 := ds0 ++ [p]) (j := j + 1) (by omega) fun g hg => h g (List.mem_cons_of_mem _ hg)
    rw [List.append_assoc] at this
    show Reads ⟨fs, onLast _ (cs0 ++ [_]), md⟩ _ _ _
    rw [onLast_snoc]
    exact this
theorem reads_sames {fs : List Fld} {cs0 : List Cal} {md : Int} {nm hd : Str} {ms : List Int} {ds : List (Str × Str)} : ∀ {ss ss0 : List Str} {j : Nat}, j ≠ 0 → (∀ p ∈ ss, LnOk (.same p)) → Reads ⟨fs, cs0 ++ [⟨nm, hd, ms, ds, ss0⟩], md⟩ j (ss.map .same) ⟨fs, cs0 ++ [⟨nm, hd, ms, ds, ss0 ++ ss⟩], md⟩
  | [], ss0, _, _, _ => by show (⟨fs, cs0 ++ [⟨nm, hd, ms, ds, ss0⟩], md⟩ : KD) = _; rw [List.append_nil]
  | p :: r, ss0, j, hj, h => by
    refine ⟨⟨hj, cs0, _, rfl⟩, h p (by simp), ?_⟩
    have := reads_sames (fs := fs) (cs0 := cs0) (md := md) (nm := nm) (hd := hd) (ms := ms) (ds := ds) (ss := r) (ss0 := ss0 ++ [p]) (j := j + 1) (by omega) fun g hg => h g (List.mem_cons_of_mem _ hg)
    rw [List.append_assoc] at this
    show Reads ⟨fs, onLast _ (cs0 ++ [_]), md⟩ _ _ _
    rw [onLast_snoc]
    exact this
theorem reads_cal {fs : List Fld} {cs0 : List Cal} {md : Int} {c : Cal} {j : Nat} (hj : j ≠ 0) (h : ∀ l ∈ calLns c, LnOk l) : Reads ⟨fs, cs0, md⟩ j (calLns c) ⟨fs, cs0 ++ [c], md⟩ := by
  refine ⟨hj, h _ (by simp [calLns]), ?_⟩
  refine Reads.app (r' := ⟨fs, cs0 ++ [⟨c.nm, c.hand, c.moves, c.deeds, []⟩], md⟩) ?_ ?_
  · exact reads_deeds (ds0 := []) (by omega) fun p hp => h _ (by simp [calLns, hp])
  · exact reads_sames (ss0 := []) (by omega) fun p hp => h _ (by simp [calLns, hp])
theorem reads_cals {fs : List Fld} {md : Int} : ∀ {cs cs0 : List Cal} {j : Nat}, j ≠ 0 → (∀ c ∈ cs, ∀ l ∈ calLns c, LnOk l) → Reads ⟨fs, cs0, md⟩ j (cs.map calLns).flatten ⟨fs, cs0 ++ cs, md⟩
  | [], cs0, _, _, _ => by show (⟨fs, cs0, md⟩ : KD) = _; rw [List.append_nil]
  | c :: r, cs0, j, hj, h => by
    rw [List.map_cons, List.flatten_cons]
    have := reads_cals (fs := fs) (md := md) (cs := r) (cs0 := cs0 ++ [c]) (j := j + (calLns c).length) (by omega) fun g hg => h g (List.mem_cons_of_mem _ hg)
    rw [List.append_assoc] at this
    exact (reads_cal hj (h c (by simp))).app this
theorem reads_kd {kd : KD} (ok : KDOk kd) : Reads ⟨[], [], 0⟩ 0 (kdLns kd) kd := by
  have hk := kdLns_ok ok
  refine ⟨rfl, hk _ (by simp [kdLns]), ?_⟩
  refine Reads.app (reads_flds (fs0 := []) (by decide) ok.f.wd) ?_
  exact reads_cals (cs0 := []) (by omega) fun c hc => calLns_ok ok.f (ok.c c hc)
/-! ### the lines as they are written -/
theorem join2 (y a b : Str) : Txt.join y [a, b] = a ++ y ++ b := by rw [join_eq]; rfl
theorem join3 (y a b c : Str) : Txt.join y [a, b, c] = a ++ y ++ (b ++ y ++ c) := by rw [join_eq]; rfl
theorem join4 (y a b c d : Str) : Txt.join y [a, b, c, d] = a ++ y ++ (b ++ y ++ (c ++ y ++ d)) := by rw [join_eq]; rfl
theorem app_emp (a : Str) : a ++ Str.empty = a := ext_tl (by rw [tl_append]; exact List.append_nil _)
theorem emp_app (a : Str) : Str.empty ++ a = a := ext_tl (by rw [tl_append]; exact List.nil_append _)
theorem lit_modes : ("modes " : Str) = "modes" ++ " " := by decide
theorem lit_field : ("field " : Str) = "field" ++ " " := by decide
theorem lit_need : (" need" : Str) = (" " : Str) ++ ("need" : Str) := by decide
theorem lit_do : ("do " : Str) = "do" ++ " " := by decide
theorem lit_same : ("same " : Str) = "same" ++ " " := by decide
theorem line_modes (m : Int) : ("modes " : Str) ++ toS m = (Ln.modes m).line := by
  unfold Ln.line Ln.words
  rw [join2]; rfl
theorem line_same (s : Str) : ("same " : Str) ++ s = (Ln.same s).line := by
  unfold Ln.line Ln.words
  rw [join2]; rfl
theorem line_deed (p : Str × Str) : ("do " : Str) ++ p.1 ++ (" " : Str) ++ p.2 = (Ln.deed p).line := by
  unfold Ln.line Ln.words
  rw [join3]
  refine ext_tl ?_
  simp only [tl_append, List.append_assoc]; rfl
theorem line_fld (f : Fld) : ("field " : Str) ++ f.nm ++ (" " : Str) ++ f.sort ++ (if f.need = true then (" need" : Str) else Str.empty) = (Ln.fld f).line := by
  show _ = Txt.join " " (([("field" : Str), f.nm, f.sort] : List Str) ++ (if f.need = true then [("need" : Str)] else []))
  cases f.need with
  | true =>
    show _ = Txt.join " " [("field" : Str), f.nm, f.sort, "need"]
    rw [join4]
    refine ext_tl ?_
    simp only [tl_append, List.append_assoc, if_pos]; rfl
  | false =>
    show _ = Txt.join " " [("field" : Str), f.nm, f.sort]
    rw [join3]
    refine ext_tl ?_
    rw [if_neg (by simp), app_emp]
    simp only [tl_append, List.append_assoc]; rfl
end Mz
end
section
set_option Elab.async false
set_option linter.all false
set_option maxRecDepth 100000
set_option maxHeartbeats 1000000
namespace Mz
open PySem L2 TL
local macro_rules | `(tactic| row_cond sd) => `(tactic| first | exact rfl | exact True.intro | assumption | decide)
local macro_rules | `(tactic| row_cond st) => `(tactic| first
  | refine And.intro (by row_cond sd) ?_
  | refine ⟨_, by row_cond sd, ?_⟩
  | refine ⟨_, _, by row_cond sd, ?_⟩
  | refine ⟨_, _, by row_cond sd, by row_cond sd, ?_⟩
  | refine ⟨_, _, _, by row_cond sd, ?_⟩
  | refine ⟨_, _, _, by row_cond sd, by row_cond sd, ?_⟩
  | refine ⟨_, _, _, by row_cond sd, by row_cond sd, by row_cond sd, ?_⟩
  | refine ⟨_, _, _, _, by row_cond sd, ?_⟩
  | refine ⟨_, _, _, _, by row_cond sd, by row_cond sd, by row_cond sd, ?_⟩
  | refine ⟨_, _, _, _, by row_cond sd, by row_cond sd, by row_cond sd, by row_cond sd, ?_⟩
  | refine iteT ?_
  | refine iteF ?_)
local macro_rules | `(tactic| row_cond go) => `(tactic| repeat (row_cond st))
theorem app_len (a b : Str) : (a ++ b).length = a.length + b.length := by
  rw [len_tl, len_tl, len_tl, tl_append, List.length_append]
theorem lt_emp : Str.empty.length = 0 := rfl
theorem lt_modes : (Str.ofString "modes ").length = 6 := by decide
theorem lt_field : (Str.ofString "field ").length = 6 := by decide
theorem lt_do : (Str.ofString "do ").length = 3 := by decide
theorem lt_same : (Str.ofString "same ").length = 5 := by decide
theorem lt_sp : (Str.ofString " ").length = 1 := by decide
theorem lt_nl : (Str.ofString "\n").length = 1 := by decide
theorem lt_need : (Str.ofString " need").length = 5 := by decide
theorem lt_none : (Str.ofString "").length = 0 := by decide
theorem line_k : (1000 : Nat) ≤ sizeLine := by decide
local macro_rules | `(tactic| row_cond ln) => `(tactic| (refine Nat.le_trans (m := 1000) ?_ line_k; (try simp only [app_len, lt_emp, lt_modes, lt_field, lt_do, lt_same, lt_sp, lt_nl, lt_need, lt_none]); omega))
def kdStr (kd : KD) : Str := lnText ((kdLns kd).map Ln.line)
theorem sum_le {m : Nat} : ∀ {ys : List Str}, (∀ y ∈ ys, y.length ≤ m) → (ys.map (·.length)).sum ≤ m * ys.length
  | [], _ => Nat.zero_le _
  | y :: r, h => by
    have h1 := h y (by simp)
    have ih := sum_le (ys := r) fun z hz => h z (List.mem_cons_of_mem _ hz)
    simp only [List.map_cons, List.sum_cons, List.length_cons, Nat.mul_add, Nat.mul_one]
    omega
theorem ls_prev {l r : MS} {a : List Dv} : lsV (l ++ [.lst a] ++ r) (.ob l.length) = some a := by
  refine ls_at ?_
  rw [List.append_assoc]
  exact get_mid
theorem num_log {m : Int} (h : Num m) : m.natAbs.log2 < 1920 := by
  rcases num_cases h with rfl | rfl | rfl | rfl | rfl | rfl <;> decide
section
variable {A : Ad} {K : PySem.W.Frag} {E : Ex → Prop} {Q : Da → Prop}
abbrev lnsD (ls : List Ln) : List Dv := ls.map fun l => Dv.d (.str l.line)
theorem x_law_lines {kd : KD} (ok : KDOk kd) (h : Q (.lst ((kdLns kd).map fun l => .str l.line))) : m_law_lines A K [planDa A kd] E Q := by
  have hm1 := ok.m1
  have hm4 := ok.m4
  have hnm : Num kd.md := ⟨by omega, hm4⟩
  unfold m_law_lines
  refine ⟨rfl, ?_⟩
  unfold b_law_lines
  row_cond go
  refine ⟨num_log hnm, ?_⟩
  have hml : (Str.ofString (toString kd.md)).length ≤ 8 := (num_wd hnm).2.2
  refine ⟨?_, ?_⟩
  · row_cond ln
  refine ⟨show 1 ≤ sizeLine by decide, ?_⟩
  row_cond go
  have hfl := ok.f.le
  refine loop_by (fun i α μ => ∃ (s2 s3 s4 : Option Dv) (g : MS), α = [some (.d (planDa A kd)), some (.ob 0), s2, s3, s4, none, none, none, none, none] ∧ μ = .lst (lnsD (.modes kd.md :: (kd.fs.take i).map .fld)) :: g) ?_ ?_ ⟨none, none, none, [], rfl, congrArg (fun z => [MO.lst [Dv.d (Da.str z)]]) (line_modes kd.md)⟩
  · rintro i y α μ N hy ⟨s2, s3, s4, g, rfl, rfl⟩ hN
    obtain ⟨x, hx, rfl⟩ := map_get hy
    rw [List.getElem?_map] at hx
    cases hf : kd.fs[i]? with
    | none => rw [hf] at hx; cases hx
    | some f =>
      rw [hf] at hx
      cases hx
      have hfm := List.mem_of_getElem? hf
      have hi : i < kd.fs.length := (List.getElem?_eq_some_iff.mp hf).1
      have hl1 := word_len (ok.f.wd f hfm)
      have hl2 := (sort_wd f).2.2
      row_cond go
      refine ⟨?_, ?_⟩
      · row_cond ln
      row_cond go
      refine ⟨?_, ?_⟩
      · row_cond ln
      row_cond go
      refine ⟨?_, ?_⟩
      · row_cond ln
      row_cond go
      refine .inr ⟨_, rfl, ?_⟩
      refine ⟨_, _, rfl, rfl, by cases f.need <;> simp, ?_⟩
      rw [show (if (if f.need = true then (1 : Int) else 0) = 1 then Str.ofString " need" else Str.empty) = (if f.need = true then Str.ofString " need" else Str.empty) by cases f.need <;> rfl]
      have hl3 : (if f.need = true then Str.ofString " need" else Str.empty).length ≤ 5 := by cases f.need <;> decide
      refine ⟨?_, ?_⟩
      · row_cond ln
      refine ⟨_, _, _, rfl, rfl, rfl, Nat.lt_of_le_of_lt (m := 100) (by simp; omega) (by decide), ?_⟩
      refine ⟨rfl, hN _ _ ⟨_, _, _, g, rfl, ?_⟩⟩
      have e1 : lnsD (.modes kd.md :: (kd.fs.take (i + 1)).map .fld) = lnsD (.modes kd.md :: (kd.fs.take i).map .fld) ++ [.d (.str (Ln.fld f).line)] := by
        rw [take_snoc hf]; simp
      rw [e1, ← line_fld]
      rfl
  rintro α μ ⟨s2, s3, s4, g, rfl, rfl⟩
  rw [show (iwSq ((fun x : Key × Dv => x.snd) (eD (Sum.inr "fields", Da.lst (kd.fs.map Fld.da)))) ((kd.fs.map Fld.da).map Dv.d)).items.length = kd.fs.length by show ((kd.fs.map Fld.da).map Dv.d).length = _; simp, List.take_length]
  row_cond go
  have hc6 := ok.c6
  refine loop_by (fun i α μ => ∃ (s2 s3 s4 s5 s6 s7 s8 : Option Dv) (g : MS), α = [some (.d (planDa A kd)), some (.ob 0), s2, s3, s4, s5, s6, s7, s8, none] ∧ μ = .lst (lnsD (.modes kd.md :: (kd.fs.map .fld ++ ((kd.cs.take i).map calLns).flatten))) :: g) ?_ ?_ ⟨s2, s3, s4, none, none, none, none, g, rfl, by simp⟩
  · rintro i y α μ N hy ⟨s2, s3, s4, s5, s6, s7, s8, g, rfl, rfl⟩ hN
    obtain ⟨x, hx, rfl⟩ := map_get hy
    rw [List.getElem?_map] at hx
    cases hc : kd.cs[i]? with
    | none => rw [hc] at hx; cases hx
    | some c =>
      rw [hc] at hx
      cases hx
      have hcm := List.mem_of_getElem? hc
      have okc := ok.c c hcm
      row_cond go
      refine ⟨⟨_, rfl⟩, ?_⟩
      row_cond go
      refine ⟨show 3 ≤ sizeLine by decide, ?_⟩
      row_cond go
      have hmvl := okc.ml
      have hm4' := okc.m4
      rw [List.map_map]
      refine lc_name (fun m : Int => .d (.int m)) (fun m => .d (.str (toS m))) (by show some _ = _; rw [List.map_map]) c.moves [] (fun m hm P hP => ?_) (by simp; omega) ?_
      · have hmm := okc.mv m hm
        row_cond go
        refine ⟨num_log ⟨hmm.1, by omega⟩, ?_⟩
        exact hP
      have hokl := calLns_ok ok.f okc
      have hlw := ln_words (hokl (.cal c.nm c.hand c.moves) (by simp [calLns]))
      refine ⟨_, _, ls_prev, lsV_last, ?_, ?_⟩
      · refine Nat.le_trans (m := 10) (by simp; omega) (by decide)
      refine ⟨_, _, (Ln.cal c.nm c.hand c.moves).words, rfl, rfl, ?_, ?_, ?_⟩
      · rw [sqV_last]
        simp [strsD, Ln.words]
      · have hs := sum_le (m := 8) (ys := (Ln.cal c.nm c.hand c.moves).words) fun y hy => (hlw.1 y hy).2.2
        have h7 := hlw.2.2
        rw [lt_sp]
        omega
      row_cond go
      have hpl : (lnsD (.modes kd.md :: (kd.fs.map .fld ++ ((kd.cs.take i).map calLns).flatten))).length ≤ 52 := by
        have hfl := flat_len (n := 8) (ls := (kd.cs.take i).map calLns) fun l hl => by
          obtain ⟨c1, hc1, rfl⟩ := List.mem_map.mp hl
          exact calLns_len (ok.c c1 (List.mem_of_mem_take hc1))
        have h3 := ok.f.le
        rw [List.length_map, List.length_take] at hfl
        simp only [lnsD, List.length_map, List.length_cons, List.length_append]
        omega
      have hdl := okc.dl
      have hsl := okc.sl
      refine ⟨Nat.lt_of_le_of_lt hpl (by decide), ?_⟩
      row_cond go
      rw [List.map_map]
      refine lc_name (fun p : Str × Str => .d (pairDa p)) (fun p => .d (.str (Ln.deed p).line)) (by show some _ = _; rw [List.map_map]) c.deeds [] (fun p hp P hP => ?_) (by simp; omega) ?_
      · have hw := hokl (.deed p) (by simp [calLns, hp])
        have hw1 := word_len hw.1
        have hw2 := word_len hw.2
        row_cond go
        refine ⟨?_, ?_⟩
        · row_cond ln
        row_cond go
        refine ⟨?_, ?_⟩
        · row_cond ln
        row_cond go
        refine ⟨?_, ?_⟩
        · row_cond ln
        rw [← line_deed] at hP
        exact hP
      refine ⟨_, _, _, _, rfl, rfl, rfl, lsV_last, ?_, ?_⟩
      · refine Nat.le_trans (m := 57) ?_ (by decide)
        rw [List.length_append]
        simp only [List.nil_append, List.length_map, List.length_singleton] at hpl ⊢
        omega
      row_cond go
      rw [List.map_map]
      refine lc_name (fun s : Str => .d (.str s)) (fun s => .d (.str (Ln.same s).line)) (by show some _ = _; rw [List.map_map]) c.same [] (fun s hp P hP => ?_) (by simp; omega) ?_
      · have hw := word_len (hokl (.same s) (by simp [calLns, hp]))
        row_cond go
        refine ⟨?_, ?_⟩
        · row_cond ln
        rw [← line_same] at hP
        exact hP
      refine ⟨_, _, _, _, rfl, rfl, rfl, lsV_last, ?_, ?_⟩
      · refine Nat.le_trans (m := 60) ?_ (by decide)
        rw [List.length_append, List.length_append]
        simp only [List.nil_append, List.length_map, List.length_singleton] at hpl ⊢
        omega
      have e1 : lnsD (.modes kd.md :: (kd.fs.map .fld ++ ((kd.cs.take (i + 1)).map calLns).flatten)) = lnsD (.modes kd.md :: (kd.fs.map .fld ++ ((kd.cs.take i).map calLns).flatten)) ++ [.d (.str (Ln.cal c.nm c.hand c.moves).line)] ++ (c.deeds.map fun p => .d (.str (Ln.deed p).line)) ++ (c.same.map fun s => .d (.str (Ln.same s).line)) := by
        rw [take_snoc hc]; simp [calLns]; rfl
      exact ⟨rfl, hN _ _ ⟨_, _, _, _, _, _, _, _, rfl, by rw [e1]; rfl⟩⟩
  rintro α μ ⟨s2, s3, s4, s5, s6, s7, s8, g, rfl, rfl⟩
  rw [show (iwSq ((fun x : Key × Dv => x.snd) (eD (Sum.inr "calls", Da.lst (kd.cs.map Cal.drawn)))) ((kd.cs.map Cal.drawn).map Dv.d)).items.length = kd.cs.length by show ((kd.cs.map Cal.drawn).map Dv.d).length = _; simp, List.take_length]
  refine ⟨_, rfl, ?_⟩
  refine ⟨_, .lst rfl ?_, h⟩
  have := fun μ' => RzAll.map μ' ((kdLns kd).map fun l => .str l.line)
  rw [List.map_map] at this
  exact this _
end
end Mz
end
section
set_option Elab.async false
set_option linter.all false
set_option maxRecDepth 100000
set_option maxHeartbeats 1000000
namespace Mz
open PySem L2 TL
local macro_rules | `(tactic| row_cond sd) => `(tactic| first | exact rfl | exact True.intro | assumption | decide)
local macro_rules | `(tactic| row_cond st) => `(tactic| first
  | refine And.intro (by row_cond sd) ?_
  | refine ⟨_, by row_cond sd, ?_⟩
  | refine ⟨_, _, by row_cond sd, ?_⟩
  | refine ⟨_, _, by row_cond sd, by row_cond sd, ?_⟩
  | refine ⟨_, _, _, by row_cond sd, ?_⟩
  | refine ⟨_, _, _, by row_cond sd, by row_cond sd, ?_⟩
  | refine ⟨_, _, _, by row_cond sd, by row_cond sd, by row_cond sd, ?_⟩
  | refine ⟨_, _, _, _, by row_cond sd, ?_⟩
  | refine ⟨_, _, _, _, by row_cond sd, by row_cond sd, by row_cond sd, ?_⟩
  | refine ⟨_, _, _, _, by row_cond sd, by row_cond sd, by row_cond sd, by row_cond sd, ?_⟩
  | refine iteT ?_
  | refine iteF ?_)
local macro_rules | `(tactic| row_cond go) => `(tactic| repeat (row_cond st))
local macro_rules | `(tactic| row_cond ln) => `(tactic| (refine Nat.le_trans (m := 1000) ?_ line_k; (try simp only [app_len, lt_emp, lt_modes, lt_field, lt_do, lt_same, lt_sp, lt_nl, lt_need, lt_none]); omega))
section
variable {A : Ad} {K : PySem.W.Frag} {E : Ex → Prop} {Q : Da → Prop}
/-- ''.join([line + '\n' for line in lines]): what is joined -/
theorem text_sum {kd : KD} (ok : KDOk kd) : ((((kdLns kd).map Ln.line).map fun x : Str => x ++ ("\n" : Str)).map (·.length)).sum + (((kdLns kd).map Ln.line).map fun x : Str => x ++ ("\n" : Str)).length * (Str.ofString "").length ≤ 16777216 := by
  have hln := kdLns_len ok
  have hok := kdLns_ok ok
  have hs := sum_le (m := 64) (ys := ((kdLns kd).map Ln.line).map fun x : Str => x ++ ("\n" : Str)) fun y hy => by
    obtain ⟨z, hz, rfl⟩ := List.mem_map.mp hy
    obtain ⟨l, hl, rfl⟩ := List.mem_map.mp hz
    have hz := (line_facts (hok l hl)).2
    show (l.line ++ Str.ofString "\n").length ≤ 64
    rw [app_len, lt_nl]; omega
  rw [lt_none]
  simp only [List.length_map] at hs ⊢
  omega
theorem x_Kind_text {kd : KD} (ok : KDOk kd) (h : Q (.str (kdStr kd))) : m_Kind_text A K [kindDa A kd] E Q := by
  have hm1 := ok.m1
  have hm4 := ok.m4
  have hnm : Num kd.md := ⟨by omega, hm4⟩
  unfold m_Kind_text
  refine ⟨rfl, ?_⟩
  unfold b_Kind_text
  row_cond go
  have hml : (Str.ofString (toString kd.md)).length ≤ 8 := (num_wd hnm).2.2
  refine .inr ⟨_, rfl, num_log hnm, ?_⟩
  refine ⟨_, rfl, ?_, ?_⟩
  · row_cond ln
  refine ⟨show 1 ≤ sizeLine by decide, ?_⟩
  row_cond go
  have hfl := ok.f.le
  refine loop_by (fun i α μ => ∃ (s2 s3 s4 : Option Dv) (g : MS), α = [some (.d (kindDa A kd)), some (.ob 0), s2, s3, s4, none, none, none, none, none, none, none, none] ∧ μ = .lst (lnsD (.modes kd.md :: (kd.fs.take i).map .fld)) :: g) ?_ ?_ ⟨none, none, none, [], rfl, congrArg (fun z => [MO.lst [Dv.d (Da.str z)]]) (by rw [← line_modes, emp_app])⟩
  · rintro i y α μ N hy ⟨s2, s3, s4, g, rfl, rfl⟩ hN
    obtain ⟨x, hx, rfl⟩ := map_get hy
    rw [List.getElem?_map] at hx
    cases hf : kd.fs[i]? with
    | none => rw [hf] at hx; cases hx
    | some f =>
      rw [hf] at hx
      cases hx
      have hfm := List.mem_of_getElem? hf
      have hi : i < kd.fs.length := (List.getElem?_eq_some_iff.mp hf).1
      have hl1 := word_len (ok.f.wd f hfm)
      have hl2 := (sort_wd f).2.2
      row_cond go
      refine .inl ⟨_, rfl, by row_cond ln, ?_⟩
      refine ⟨_, rfl, by row_cond ln, ?_⟩
      refine ⟨_, rfl, by row_cond ln, ?_⟩
      row_cond go
      refine .inl ⟨_, rfl, by row_cond ln, ?_⟩
      refine ⟨_, rfl, by row_cond ln, ?_⟩
      row_cond go
      have e1 : lnsD (.modes kd.md :: (kd.fs.take (i + 1)).map .fld) = lnsD (.modes kd.md :: (kd.fs.take i).map .fld) ++ [.d (.str (Ln.fld f).line)] := by
        rw [take_snoc hf]; simp
      have hlen : (lnsD (.modes kd.md :: (kd.fs.take i).map .fld)).length < sizeLine := Nat.lt_of_le_of_lt (m := 100) (by simp; omega) (by decide)
      have efl := line_fld f
      cases hneed : f.need with
      | true =>
        rw [hneed, if_pos rfl] at efl
        row_cond go
        refine ⟨by row_cond ln, ?_⟩
        refine ⟨_, _, _, rfl, rfl, rfl, hlen, ?_⟩
        rw [emp_app, efl, ← e1]
        exact ⟨rfl, hN _ _ ⟨_, _, _, g, rfl, rfl⟩⟩
      | false =>
        rw [hneed, if_neg (by simp)] at efl
        row_cond go
        refine ⟨by row_cond ln, ?_⟩
        refine ⟨_, _, _, rfl, rfl, rfl, hlen, ?_⟩
        rw [emp_app, show Str.ofString "" = Str.empty from rfl, efl, ← e1]
        exact ⟨rfl, hN _ _ ⟨_, _, _, g, rfl, rfl⟩⟩
  rintro α μ ⟨s2, s3, s4, g, rfl, rfl⟩
  rw [show (iwSq (Dv.d (Str.ofString "field_rows", Da.lst (kd.fs.map Fld.da)).snd) ((kd.fs.map Fld.da).map Dv.d)).items.length = kd.fs.length by show ((kd.fs.map Fld.da).map Dv.d).length = _; simp, List.take_length]
  row_cond go
  have hc6 := ok.c6
  refine loop_by (fun i α μ => ∃ (s2 s3 s4 s5 s6 s7 s8 : Option Dv) (g : MS), α = [some (.d (kindDa A kd)), some (.ob 0), s2, s3, s4, s5, s6, s7, s8, none, none, none, none] ∧ μ = .lst (lnsD (.modes kd.md :: (kd.fs.map .fld ++ ((kd.cs.take i).map calLns).flatten))) :: g) ?_ ?_ ⟨s2, s3, s4, none, none, none, none, g, rfl, by simp⟩
  · rintro i y α μ N hy ⟨s2, s3, s4, s5, s6, s7, s8, g, rfl, rfl⟩ hN
    obtain ⟨x, hx, rfl⟩ := map_get hy
    rw [List.getElem?_map] at hx
    cases hc : kd.cs[i]? with
    | none => rw [hc] at hx; cases hx
    | some c =>
      rw [hc] at hx
      cases hx
      have hcm := List.mem_of_getElem? hc
      have okc := ok.c c hcm
      row_cond go
      refine ⟨⟨_, rfl⟩, ?_⟩
      row_cond go
      refine ⟨show 3 ≤ sizeLine by decide, ?_⟩
      row_cond go
      have hmvl := okc.ml
      have hm4' := okc.m4
      rw [List.map_map]
      refine lc_name (fun m : Int => .d (.int m)) (fun m => .d (.str (toS m))) (by show some _ = _; rw [List.map_map]) c.moves [] (fun m hm P hP => ?_) (by simp; omega) ?_
      · have hmm := okc.mv m hm
        row_cond go
        refine ⟨num_log ⟨hmm.1, by omega⟩, ?_⟩
        exact hP
      have hokl := calLns_ok ok.f okc
      have hlw := ln_words (hokl (.cal c.nm c.hand c.moves) (by simp [calLns]))
      refine ⟨_, _, ls_prev, lsV_last, ?_, ?_⟩
      · refine Nat.le_trans (m := 10) (by simp; omega) (by decide)
      refine ⟨_, _, (Ln.cal c.nm c.hand c.moves).words, rfl, rfl, ?_, ?_, ?_⟩
      · rw [sqV_last]
        simp [strsD, Ln.words]
      · have hs := sum_le (m := 8) (ys := (Ln.cal c.nm c.hand c.moves).words) fun y hy => (hlw.1 y hy).2.2
        have h7 := hlw.2.2
        rw [lt_sp]
        omega
      row_cond go
      have hpl : (lnsD (.modes kd.md :: (kd.fs.map .fld ++ ((kd.cs.take i).map calLns).flatten))).length ≤ 52 := by
        have hfl := flat_len (n := 8) (ls := (kd.cs.take i).map calLns) fun l hl => by
          obtain ⟨c1, hc1, rfl⟩ := List.mem_map.mp hl
          exact calLns_len (ok.c c1 (List.mem_of_mem_take hc1))
        have h3 := ok.f.le
        rw [List.length_map, List.length_take] at hfl
        simp only [lnsD, List.length_map, List.length_cons, List.length_append]
        omega
      have hdl := okc.dl
      have hsl := okc.sl
      refine ⟨Nat.lt_of_le_of_lt hpl (by decide), ?_⟩
      row_cond go
      refine lc_by (μ := _) (fun n acc μ => μ = _ ∧ acc = ((c.deeds.take n).map fun p => .d (.str (Ln.deed p).line))) ?_ ?_ ⟨rfl, rfl⟩
      · rintro n y acc μ N hy ⟨rfl, rfl⟩ hN
        obtain ⟨x, hx, rfl⟩ := map_get hy
        rw [List.getElem?_map] at hx
        cases hp : c.deeds[n]? with
        | none => rw [hp] at hx; cases hx
        | some p =>
          rw [hp] at hx
          cases hx
          have hpm := List.mem_of_getElem? hp
          have hw := hokl (.deed p) (by simp [calLns, hpm])
          have hw1 := word_len hw.1
          have hw2 := word_len hw.2
          row_cond go
          refine .inl ⟨_, rfl, by row_cond ln, ?_⟩
          refine ⟨_, rfl, by row_cond ln, ?_⟩
          refine ⟨_, rfl, by row_cond ln, ?_⟩
          row_cond go
          refine .inl ⟨_, rfl, by row_cond ln, ?_⟩
          refine ⟨_, rfl, by row_cond ln, ?_⟩
          refine ⟨Nat.lt_of_le_of_lt (m := 4) (by simp; omega) (by decide), rfl, hN _ _ ⟨rfl, ?_⟩⟩
          rw [take_snoc hp, List.map_append, emp_app, line_deed]
          rfl
      rintro acc μ ⟨rfl, rfl⟩
      rw [show (iwSq (Dv.d (Da.tup (c.deeds.map pairDa))) ((c.deeds.map pairDa).map Dv.d)).items.length = c.deeds.length by show ((c.deeds.map pairDa).map Dv.d).length = _; simp, List.take_length]
      refine ⟨_, _, _, _, rfl, rfl, rfl, lsV_last, ?_, ?_⟩
      · refine Nat.le_trans (m := 57) ?_ (by decide)
        rw [List.length_append]
        simp only [List.nil_append, List.length_map, List.length_singleton] at hpl ⊢
        omega
      row_cond go
      rw [List.map_map]
      refine lc_name (fun s : Str => .d (.str s)) (fun s => .d (.str (Ln.same s).line)) (by show some _ = _; rw [List.map_map]) c.same [] (fun s hp P hP => ?_) (by simp; omega) ?_
      · have hw := word_len (hokl (.same s) (by simp [calLns, hp]))
        row_cond go
        refine .inl ⟨_, rfl, by row_cond ln, ?_⟩
        refine ⟨_, rfl, by row_cond ln, ?_⟩
        rw [← line_same] at hP
        rw [emp_app]
        exact hP
      refine ⟨_, _, _, _, rfl, rfl, rfl, lsV_last, ?_, ?_⟩
      · refine Nat.le_trans (m := 60) ?_ (by decide)
        rw [List.length_append, List.length_append]
        simp only [List.nil_append, List.length_map, List.length_singleton] at hpl ⊢
        omega
      have e1 : lnsD (.modes kd.md :: (kd.fs.map .fld ++ ((kd.cs.take (i + 1)).map calLns).flatten)) = lnsD (.modes kd.md :: (kd.fs.map .fld ++ ((kd.cs.take i).map calLns).flatten)) ++ [.d (.str (Ln.cal c.nm c.hand c.moves).line)] ++ (c.deeds.map fun p => .d (.str (Ln.deed p).line)) ++ (c.same.map fun s => .d (.str (Ln.same s).line)) := by
        rw [take_snoc hc]; simp [calLns]; rfl
      exact ⟨rfl, hN _ _ ⟨_, _, _, _, _, _, _, _, rfl, by rw [e1]; rfl⟩⟩
  rintro α μ ⟨s2, s3, s4, s5, s6, s7, s8, g, rfl, rfl⟩
  rw [show (iwSq (Dv.d (Str.ofString "call_rows", Da.lst (kd.cs.map Cal.row)).snd) ((kd.cs.map Cal.row).map Dv.d)).items.length = kd.cs.length by show ((kd.cs.map Cal.row).map Dv.d).length = _; simp, List.take_length]
  have hln := kdLns_len ok
  have hok := kdLns_ok ok
  have hsum := text_sum ok
  rw [show kdStr kd = Txt.join "" (((kdLns kd).map Ln.line).map fun x : Str => x ++ ("\n" : Str)) from rfl] at h
  generalize hls : kdLns kd = ls at hln hok hsum h
  rw [show (Ln.modes kd.md :: (kd.fs.map .fld ++ (kd.cs.map calLns).flatten)) = ls from hls]
  clear hls
  refine ⟨⟨_, rfl⟩, ?_⟩
  row_cond go
  refine lc_name (fun l : Ln => .d (.str l.line)) (fun l => .d (.str (l.line ++ ("\n" : Str)))) (by exact rfl) ls [] (fun l hl P hP => ?_) (by simp; omega) ?_
  · have hz := (line_facts (hok l hl)).2
    row_cond go
    refine ⟨by row_cond ln, ?_⟩
    exact hP
  refine ⟨_, _, (ls.map Ln.line).map fun x : Str => x ++ ("\n" : Str), rfl, rfl, ?_, hsum, ?_⟩
  · rw [sqV_last]
    simp [strsD]
  exact ⟨_, .d _, h⟩
end
end Mz
end
section
set_option Elab.async false
set_option linter.all false
set_option maxRecDepth 100000
set_option maxHeartbeats 1000000
namespace Mz
open PySem L2 TL
local macro_rules | `(tactic| row_cond sd) => `(tactic| first | exact rfl | exact True.intro | assumption | decide)
local macro_rules | `(tactic| row_cond st) => `(tactic| first
  | refine And.intro (by row_cond sd) ?_
  | refine ⟨_, by row_cond sd, ?_⟩
  | refine ⟨_, _, by row_cond sd, ?_⟩
  | refine ⟨_, _, by row_cond sd, by row_cond sd, ?_⟩
  | refine ⟨_, _, _, by row_cond sd, ?_⟩
  | refine ⟨_, _, _, by row_cond sd, by row_cond sd, ?_⟩
  | refine ⟨_, _, _, by row_cond sd, by row_cond sd, by row_cond sd, ?_⟩
  | refine ⟨_, _, _, _, by row_cond sd, ?_⟩
  | refine ⟨_, _, _, _, by row_cond sd, by row_cond sd, by row_cond sd, ?_⟩
  | refine ⟨_, _, _, _, by row_cond sd, by row_cond sd, by row_cond sd, by row_cond sd, ?_⟩
  | refine iteT ?_
  | refine iteF ?_)
local macro_rules | `(tactic| row_cond go) => `(tactic| repeat (row_cond st))
theorem toS_cases {m : Int} (h : Num m) : (m = -1 ∧ toS m = "-1") ∨ (m = 0 ∧ toS m = "0") ∨ (m = 1 ∧ toS m = "1") ∨ (m = 2 ∧ toS m = "2") ∨ (m = 3 ∧ toS m = "3") ∨ (m = 4 ∧ toS m = "4") := by
  rcases num_cases h with rfl | rfl | rfl | rfl | rfl | rfl
  all_goals decide +kernel
section
variable {A : Ad} {K : PySem.W.Frag} {E : Ex → Prop} {Q : Da → Prop}
theorem x_is_number {m : Int} (hm : Num m) (h : Q (.bl true)) : m_is_number A K [.str (toS m)] E Q := by
  unfold m_is_number
  refine ⟨rfl, ?_⟩
  rcases toS_cases hm with ⟨_, e⟩ | ⟨_, e⟩ | ⟨_, e⟩ | ⟨_, e⟩ | ⟨_, e⟩ | ⟨_, e⟩
  all_goals
    rw [e]
    unfold b_is_number
    row_cond go
  · exact ⟨_, .d _, h⟩
  · exact ⟨_, .d _, h⟩
  all_goals
    refine ⟨show Str.length _ ≤ sizeLine from (by decide +kernel), _, rfl, ?_⟩
    row_cond go
    exact ⟨_, .d _, h⟩
theorem x_number_of {m : Int} (hm : Num m) (h : Q (.int m)) : m_number_of A K [.str (toS m)] E Q := by
  unfold m_number_of
  refine ⟨rfl, ?_⟩
  rcases toS_cases hm with ⟨rfl, e⟩ | ⟨rfl, e⟩ | ⟨rfl, e⟩ | ⟨rfl, e⟩ | ⟨rfl, e⟩ | ⟨rfl, e⟩
  · rw [e]
    unfold b_number_of
    row_cond go
    refine ⟨show Str.length _ ≤ sizeLine from (by decide +kernel), _, rfl, ?_⟩
    row_cond go
    refine ⟨.inl (by decide), ?_⟩
    refine ⟨⟨_, rfl⟩, ?_⟩
    row_cond go
    refine ⟨_, _, 1, [], rfl, rfl, by decide +kernel, ?_⟩
    row_cond go
    refine ⟨show Str.length _ ≤ sizeLine from (by decide +kernel), _, rfl, ?_⟩
    row_cond go
    exact ⟨_, .d _, h⟩
  · rw [e]
    unfold b_number_of
    row_cond go
    refine ⟨show Str.length _ ≤ sizeLine from (by decide +kernel), _, rfl, ?_⟩
    row_cond go
    refine ⟨.inl (by decide), ?_⟩
    refine ⟨⟨_, rfl⟩, ?_⟩
    row_cond go
    refine ⟨_, _, 0, [], rfl, rfl, by decide +kernel, ?_⟩
    row_cond go
    refine ⟨show Str.length _ ≤ sizeLine from (by decide +kernel), _, rfl, ?_⟩
    row_cond go
    exact ⟨_, .d _, h⟩
  · rw [e]
    unfold b_number_of
    row_cond go
    refine ⟨show Str.length _ ≤ sizeLine from (by decide +kernel), _, rfl, ?_⟩
    row_cond go
    refine ⟨.inl (by decide), ?_⟩
    refine ⟨⟨_, rfl⟩, ?_⟩
    row_cond go
    refine ⟨_, _, 1, [], rfl, rfl, by decide +kernel, ?_⟩
    row_cond go
    refine ⟨show Str.length _ ≤ sizeLine from (by decide +kernel), _, rfl, ?_⟩
    row_cond go
    exact ⟨_, .d _, h⟩
  · rw [e]
    unfold b_number_of
    row_cond go
    refine ⟨show Str.length _ ≤ sizeLine from (by decide +kernel), _, rfl, ?_⟩
    row_cond go
    refine ⟨.inl (by decide), ?_⟩
    refine ⟨⟨_, rfl⟩, ?_⟩
    row_cond go
    refine ⟨_, _, 2, [], rfl, rfl, by decide +kernel, ?_⟩
    row_cond go
    refine ⟨show Str.length _ ≤ sizeLine from (by decide +kernel), _, rfl, ?_⟩
    row_cond go
    exact ⟨_, .d _, h⟩
  · rw [e]
    unfold b_number_of
    row_cond go
    refine ⟨show Str.length _ ≤ sizeLine from (by decide +kernel), _, rfl, ?_⟩
    row_cond go
    refine ⟨.inl (by decide), ?_⟩
    refine ⟨⟨_, rfl⟩, ?_⟩
    row_cond go
    refine ⟨_, _, 3, [], rfl, rfl, by decide +kernel, ?_⟩
    row_cond go
    refine ⟨show Str.length _ ≤ sizeLine from (by decide +kernel), _, rfl, ?_⟩
    row_cond go
    exact ⟨_, .d _, h⟩
  · rw [e]
    unfold b_number_of
    row_cond go
    refine ⟨show Str.length _ ≤ sizeLine from (by decide +kernel), _, rfl, ?_⟩
    row_cond go
    refine ⟨.inl (by decide), ?_⟩
    refine ⟨⟨_, rfl⟩, ?_⟩
    row_cond go
    refine ⟨_, _, 4, [], rfl, rfl, by decide +kernel, ?_⟩
    row_cond go
    refine ⟨show Str.length _ ≤ sizeLine from (by decide +kernel), _, rfl, ?_⟩
    row_cond go
    exact ⟨_, .d _, h⟩
end
end Mz
end
section
set_option Elab.async false
set_option linter.all false
set_option maxRecDepth 100000
set_option maxHeartbeats 1000000
namespace Mz
open PySem L2 TL
local macro_rules | `(tactic| row_cond sd) => `(tactic| first | exact rfl | exact True.intro | assumption | decide)
local macro_rules | `(tactic| row_cond st) => `(tactic| first
  | refine And.intro (by row_cond sd) ?_
  | refine ⟨_, by row_cond sd, ?_⟩
  | refine ⟨_, _, by row_cond sd, ?_⟩
  | refine ⟨_, _, by row_cond sd, by row_cond sd, ?_⟩
  | refine ⟨_, _, _, by row_cond sd, ?_⟩
  | refine ⟨_, _, _, by row_cond sd, by row_cond sd, ?_⟩
  | refine ⟨_, _, _, by row_cond sd, by row_cond sd, by row_cond sd, ?_⟩
  | refine ⟨_, _, _, _, by row_cond sd, ?_⟩
  | refine ⟨_, _, _, _, by row_cond sd, by row_cond sd, by row_cond sd, ?_⟩
  | refine ⟨_, _, _, _, by row_cond sd, by row_cond sd, by row_cond sd, by row_cond sd, ?_⟩
  | refine iteT ?_
  | refine iteF ?_)
local macro_rules | `(tactic| row_cond go) => `(tactic| repeat (row_cond st))
/-! ### all lists of data frozen -/
def frz1 : MO → MO
  | .lst ys => match allD ys with
    | some xs => .frz (.lst xs)
    | none => .lst ys
  | o => o
theorem puAll_of {μ : MS} {ys : List Dv} {xs : List Da} (h : allD ys = some xs) : PuAll μ ys xs := by
  rw [allD_eq h]; exact PuAll.map μ xs
theorem fz_all (μ : MS) : ∀ n : Nat, n ≤ μ.length → Fz μ ((μ.take n).map frz1 ++ μ.drop n)
  | 0, _ => by simp; exact .refl μ
  | n + 1, h => by
    have ih := fz_all μ n (by omega)
    have hn : n < μ.length := by omega
    refine ih.trans ?_
    rw [List.drop_eq_getElem_cons hn, List.take_succ, List.getElem?_eq_getElem hn]
    simp only [Option.toList_some, List.map_append, List.map_cons, List.map_nil, List.append_assoc, List.singleton_append]
    have hl : ((μ.take n).map frz1).length = n := by simp; omega
    generalize μ[n] = o
    cases o with
    | lst ys =>
      cases q : allD ys with
      | none => simp only [frz1, q]; exact .refl _
      | some xs =>
        refine .lst (n := n) (ys := ys) (xs := xs) ?_ (puAll_of q) ?_
        · rw [List.getElem?_append_right (by omega), hl]; simp
        · rw [List.set_append_right _ _ (by omega), hl]
          simp [frz1, q]
          exact .refl _
    | _ => exact .refl _
/-! ### what the reader has read -/
abbrev calTp (c : Cal) (m d s : Nat) : Dv := .tp [.d (.str c.nm), .d (.str c.hand), .ob (m + 5), .ob (d + 5), .ob (s + 5)]
structure CalAt (g : MS) (c : Cal) (m d s : Nat) : Prop where
  m : g[m]? = some (.lst ((c.moves.map Da.int).map .d))
  d : g[d]? = some (.lst ((c.deeds.map pairDa).map .d))
  s : g[s]? = some (.lst ((c.same.map Da.str).map .d))
def OldAt (g : MS) (b : Nat) (cs : List Cal) (items : List Dv) : Prop := Paired (fun c x => ∃ m d s, m < b ∧ d < b ∧ s < b ∧ x = calTp c m d s ∧ CalAt g c m d s) cs items
def RdC (g : MS) (cs : List Cal) (items : List Dv) : Prop := (cs = [] ∧ items = []) ∨ ∃ cs0 c items0 b m d s, cs = cs0 ++ [c] ∧ items = items0 ++ [calTp c m d s] ∧ OldAt g b cs0 items0 ∧ b ≤ m ∧ m < d ∧ d < s ∧ CalAt g c m d s
abbrev rdIns (A : Ad) (md : Int) : MO := .ins A.TextReader [("modes_read", .d (.int md)), ("fields_read", .ob 1), ("calls_read", .ob 2)]
def RdSt (A : Ad) (L S : MO) (r : KD) (μ : MS) : Prop := ∃ items g, μ = rdIns A r.md :: .lst ((r.fs.map Fld.da).map .d) :: .lst items :: L :: S :: g ∧ RdC g r.cs items
theorem CalAt.app {g r : MS} {c : Cal} {m d s : Nat} (h : CalAt g c m d s) : CalAt (g ++ r) c m d s :=
  ⟨by rw [List.getElem?_append_left (List.getElem?_eq_some_iff.mp h.m).1]; exact h.m, by rw [List.getElem?_append_left (List.getElem?_eq_some_iff.mp h.d).1]; exact h.d, by rw [List.getElem?_append_left (List.getElem?_eq_some_iff.mp h.s).1]; exact h.s⟩
theorem OldAt.app {g r : MS} {b : Nat} : ∀ {cs : List Cal} {items : List Dv}, OldAt g b cs items → OldAt (g ++ r) b cs items
  | _, _, .nil => .nil
  | _, _, .cons ⟨m, d, s, h1, h2, h3, h4, h5⟩ t => .cons ⟨m, d, s, h1, h2, h3, h4, h5.app⟩ (OldAt.app t)
theorem RdC.app {g r : MS} {cs : List Cal} {items : List Dv} (h : RdC g cs items) : RdC (g ++ r) cs items := by
  rcases h with h | ⟨cs0, c, items0, b, m, d, s, h1, h2, h3, h4, h5, h6, h7⟩
  · exact .inl h
  · exact .inr ⟨cs0, c, items0, b, m, d, s, h1, h2, h3.app, h4, h5, h6, h7.app⟩
end Mz
end
section
set_option Elab.async false
set_option linter.all false
set_option maxRecDepth 100000
set_option maxHeartbeats 1000000
namespace Mz
open PySem L2 TL
local macro_rules | `(tactic| row_cond sd) => `(tactic| first | exact rfl | exact True.intro | assumption | decide)
local macro_rules | `(tactic| row_cond st) => `(tactic| first
  | refine And.intro (by row_cond sd) ?_
  | refine ⟨_, by row_cond sd, ?_⟩
  | refine ⟨_, _, by row_cond sd, ?_⟩
  | refine ⟨_, _, by row_cond sd, by row_cond sd, ?_⟩
  | refine ⟨_, _, _, by row_cond sd, ?_⟩
  | refine ⟨_, _, _, by row_cond sd, by row_cond sd, ?_⟩
  | refine ⟨_, _, _, by row_cond sd, by row_cond sd, by row_cond sd, ?_⟩
  | refine ⟨_, _, _, _, by row_cond sd, ?_⟩
  | refine ⟨_, _, _, _, by row_cond sd, by row_cond sd, by row_cond sd, ?_⟩
  | refine ⟨_, _, _, _, by row_cond sd, by row_cond sd, by row_cond sd, by row_cond sd, ?_⟩
  | refine iteT ?_
  | refine iteF ?_)
local macro_rules | `(tactic| row_cond go) => `(tactic| repeat (row_cond st))
section
variable {A : Ad} {K : PySem.W.Frag} {E : XS} {Q : DK} {L S : MO} {r : KD} {μ : MS}
theorem len_ob {w : Nat} {ys : List Dv} (h : sqV μ (.ob w) = some ys) : lenD μ (.ob w) = some ys.length := by
  show (match sqV μ (.ob w) with
    | some ds => some ds.length
    | none => (dcV μ (.ob w)).map List.length) = _
  rw [h]
theorem ix_ob {w j : Nat} {i : Int} {ys : List Dv} {y : Dv} (h : sqV μ (.ob w) = some ys) (hi : i = (j : Nat)) (hy : ys[j]? = some y) : ixD μ (.ob w) (.d (.int i)) = some y := by
  subst hi
  show (sqV μ (.ob w)).bind (fun ds => atI ds (j : Int)) = _
  rw [h]
  exact atI_nat hy
theorem x_takes_modes {w : Nat} {m : Int} (st : RdSt A L S r μ) (hw : sqV μ (.ob w) = some (strsD ["modes", toS m])) (hm : Num m) (h1 : 1 ≤ m) (h : ∀ μ', RdSt A L S ⟨r.fs, r.cs, m⟩ μ' → Q (.d (.bl true)) μ') : m_TextReader_takes_modes A K [.ob 0, .ob w] E μ Q := by
  unfold m_TextReader_takes_modes
  refine ⟨rfl, ?_⟩
  unfold b_TextReader_takes_modes
  row_cond go
  refine ⟨_, len_ob hw, ?_⟩
  row_cond go
  refine ⟨_, ix_ob hw (j := 1) rfl rfl, ?_⟩
  row_cond go
  refine x_is_number hm ?_
  row_cond go
  refine ⟨_, ix_ob hw (j := 1) rfl rfl, ?_⟩
  row_cond go
  rw [show decide (V.str (Str.ofString (toString m)) = V.str "-1") = false by
    refine decide_eq_false fun z => ?_
    have z' : toS m = "-1" := V.str.inj z
    rcases toS_cases hm with ⟨rfl, e⟩ | ⟨_, e⟩ | ⟨_, e⟩ | ⟨_, e⟩ | ⟨_, e⟩ | ⟨_, e⟩
    · exact absurd h1 (by decide)
    all_goals rw [e] at z'; exact absurd z' (by decide +kernel)]
  row_cond go
  refine ⟨_, ix_ob hw (j := 1) rfl rfl, ?_⟩
  row_cond go
  refine x_number_of hm ?_
  obtain ⟨items, g, rfl, hc⟩ := st
  row_cond go
  refine ⟨show 3 < 1000 by decide, ?_⟩
  exact h _ ⟨items, g, rfl, hc⟩
/-! ### shapes of data for == -/
def Sh (n : Nat) (p : PyData) : Prop := p.canLay0 = true ∧ p.depth ≤ n
theorem Sh.ok {n : Nat} {p : PyData} (h : Sh n p) (hn : n ≤ 64) : SeqAt.shaped p = true := by
  unfold SeqAt.shaped
  rw [h.1]
  have := h.2
  simp; omega
theorem sh_str {n : Nat} {s : Str} (h : (Da.str s).isWord = true) : Sh n (.str s) := by
  refine ⟨?_, by simp [PyData.depth]⟩
  simp only [Da.isWord, lowS, Bool.and_eq_true, decide_eq_true_eq, List.all_map, List.all_eq_true] at h
  obtain ⟨_, h3⟩ := h
  show PyData.canLay0 (.str s) = true
  simp only [PyData.canLay0, PyData.strOk]
  rw [← Array.all_toList, List.all_eq_true]
  intro x hx
  have := h3 x hx
  simp only [Function.comp, id, decide_eq_true_eq] at this ⊢
  have hl : ∀ y ∈ LET.cps.toList, y < 1114112 := by decide
  exact hl x this
theorem sh_int {n : Nat} {i : Int} : Sh n (.int i) := ⟨by simp [PyData.canLay0], by simp [PyData.depth]⟩
theorem sh_bl {n : Nat} {i : Bool} : Sh n (.bool i) := ⟨by simp [PyData.canLay0], by simp [PyData.depth]⟩
theorem sh_all {n : Nat} : ∀ {ps : List PyData}, (∀ p ∈ ps, Sh n p) → PyData.canLayAll0 ps = true ∧ PyData.depthAll ps ≤ n
  | [], _ => ⟨by simp [PyData.canLayAll0], by simp [PyData.depthAll]⟩
  | p :: ps, h => by
    obtain ⟨h1, h2⟩ := h p (by simp)
    obtain ⟨h3, h4⟩ := sh_all (ps := ps) fun q hq => h q (by simp [hq])
    refine ⟨by simp [PyData.canLayAll0, h1, h3], ?_⟩
    simp only [PyData.depthAll]
    omega
theorem sh_list {n : Nat} {ps : List PyData} (h : ∀ p ∈ ps, Sh n p) : Sh (n + 1) (.list ps) := by
  obtain ⟨h1, h2⟩ := sh_all h
  refine ⟨by simp [PyData.canLay0, h1], ?_⟩
  simp only [PyData.depth]
  omega
theorem sh_tup {n : Nat} {ps : List PyData} (h : ∀ p ∈ ps, Sh n p) : Sh (n + 1) (.tuple ps) := by
  obtain ⟨h1, h2⟩ := sh_all h
  refine ⟨by simp [PyData.canLay0, h1], ?_⟩
  simp only [PyData.depth]
  omega
theorem pyDs_map {β : Type} {f : β → Da} {g : β → PyData} (h : ∀ x, pyD (f x) = some (g x)) : ∀ l : List β, pyDs (l.map f) = some (l.map g)
  | [] => rfl
  | x :: r => by simp [pyDs, h x, pyDs_map h r]
theorem pyAll_map {μ : MS} {β : Type} {f : β → Da} {g : β → PyData} (h : ∀ x, pyD (f x) = some (g x)) : ∀ l : List β, PyAll μ ((l.map f).map .d) (l.map g)
  | [] => .nil
  | x :: r => .cons (.d (h x)) (pyAll_map h r)
def pairPy (p : Str × Str) : PyData := .tuple [.str p.1, .str p.2]
theorem pyD_pair (p : Str × Str) : pyD (pairDa p) = some (pairPy p) := rfl
/-- a call as read: words all through -/
structure CalW (c : Cal) : Prop where
  nm : (Da.str c.nm).isWord = true
  hd : (Da.str c.hand).isWord = true
  dd : ∀ p ∈ c.deeds, (Da.str p.1).isWord = true ∧ (Da.str p.2).isWord = true
  sm : ∀ s ∈ c.same, (Da.str s).isWord = true
def Cal.py (c : Cal) : PyData := .tuple [.str c.nm, .str c.hand, .list (c.moves.map PyData.int), .list (c.deeds.map pairPy), .list (c.same.map PyData.str)]
theorem sh_pair {p : Str × Str} (h : (Da.str p.1).isWord = true ∧ (Da.str p.2).isWord = true) : Sh 1 (pairPy p) := by
  refine sh_tup fun q hq => ?_
  simp only [List.mem_cons, List.not_mem_nil, or_false] at hq
  rcases hq with rfl | rfl
  · exact sh_str h.1
  · exact sh_str h.2
theorem Sh.mono {n m : Nat} {p : PyData} (h : Sh n p) (hn : n ≤ m) : Sh m p := ⟨h.1, Nat.le_trans h.2 hn⟩
theorem sh_cal {c : Cal} (h : CalW c) : Sh 3 c.py := by
  refine sh_tup fun q hq => ?_
  simp only [List.mem_cons, List.not_mem_nil, or_false] at hq
  rcases hq with rfl | rfl | rfl | rfl | rfl
  · exact sh_str h.nm
  · exact sh_str h.hd
  · refine sh_list fun q hq => ?_
    obtain ⟨i, _, rfl⟩ := List.mem_map.mp hq
    exact sh_int
  · refine sh_list fun q hq => ?_
    obtain ⟨p, hp, rfl⟩ := List.mem_map.mp hq
    exact sh_pair (h.dd p hp)
  · refine sh_list fun q hq => ?_
    obtain ⟨p, hp, rfl⟩ := List.mem_map.mp hq
    exact sh_str (h.sm p hp)
theorem at5 {μ g : MS} {a b x y z : MO} {m : Nat} {o : MO} (e : μ = a :: b :: x :: y :: z :: g) (h : g[m]? = some o) : μ[m + 5]? = some o := by rw [e]; exact h
theorem calAt_py {μ g : MS} {a b x y z : MO} {c : Cal} {m d s : Nat} (e : μ = a :: b :: x :: y :: z :: g) (h : CalAt g c m d s) : PyAt μ (calTp c m d s) c.py :=
  .tup rfl (.cons (.d rfl) (.cons (.d rfl) (.cons (.lst (ls_at (at5 e h.m)) (pyAll_map (fun _ => rfl) _)) (.cons (.lst (ls_at (at5 e h.d)) (pyAll_map pyD_pair _)) (.cons (.lst (ls_at (at5 e h.s)) (pyAll_map (fun _ => rfl) _)) .nil)))))
theorem PyAll.app {μ : MS} : ∀ {xs ys : List Dv} {ps qs : List PyData}, PyAll μ xs ps → PyAll μ ys qs → PyAll μ (xs ++ ys) (ps ++ qs)
  | _, _, _, _, .nil, h => h
  | _, _, _, _, .cons a b, h => .cons a (PyAll.app b h)
theorem oldAt_py {μ g : MS} {a b x y z : MO} (e : μ = a :: b :: x :: y :: z :: g) {k : Nat} : ∀ {cs : List Cal} {items : List Dv}, OldAt g k cs items → PyAll μ items (cs.map Cal.py)
  | _, _, .nil => .nil
  | _, _, .cons ⟨m, d, s, _, _, _, h4, h5⟩ t => .cons (by rw [h4]; exact calAt_py e h5) (oldAt_py e t)
theorem rdC_py {μ g : MS} {a b x y z : MO} (e : μ = a :: b :: x :: y :: z :: g) {cs : List Cal} {items : List Dv} (h : RdC g cs items) : PyAll μ items (cs.map Cal.py) := by
  rcases h with ⟨rfl, rfl⟩ | ⟨cs0, c, items0, b, m, d, s, rfl, rfl, h3, _, _, _, h7⟩
  · exact .nil
  · rw [List.map_append]
    exact (oldAt_py e h3).app (.cons (calAt_py e h7) .nil)
/-! ### the reader's state -/
theorem sqV_app {μ r : MS} {w : Nat} {ys : List Dv} (h : sqV μ (.ob w) = some ys) : sqV (μ ++ r) (.ob w) = some ys := by
  have hw : w < μ.length := by
    refine Nat.lt_of_not_le fun hn => ?_
    have : sqV μ (.ob w) = none := by
      show (match μ[w]? with
        | some (.lst ds) => some ds
        | some (.frz (.lst ds)) => some (ds.map .d)
        | _ => none) = _
      rw [List.getElem?_eq_none hn]
    rw [this] at h
    cases h
  show (match (μ ++ r)[w]? with
    | some (.lst ds) => some ds
    | some (.frz (.lst ds)) => some (ds.map .d)
    | _ => none) = _
  rw [List.getElem?_append_left hw]
  exact h
theorem RdSt.app {r' : MS} (st : RdSt A L S r μ) : RdSt A L S r (μ ++ r') := by
  obtain ⟨items, g, rfl, hc⟩ := st
  exact ⟨items, g ++ r', rfl, hc.app⟩
theorem RdSt.is (st : RdSt A L S r μ) : isV μ (.ob 0) = some (A.TextReader, ([("modes_read", .d (.int r.md)), ("fields_read", .ob 1), ("calls_read", .ob 2)] : List (Str × Dv))) := by
  obtain ⟨items, g, rfl, hc⟩ := st
  rfl
theorem RdSt.py (st : RdSt A L S r μ) : PyAt μ (.ob 2) (.list (r.cs.map Cal.py)) := by
  obtain ⟨items, g, e, hc⟩ := st
  refine .lst (ds := items) ?_ (rdC_py e hc)
  rw [e]; rfl
theorem RdSt.sh (hw : ∀ c ∈ r.cs, CalW c) : SeqAt.shaped (.list (r.cs.map Cal.py)) = true := by
  refine Sh.ok (n := 4) (sh_list fun p hp => ?_) (by decide)
  obtain ⟨c, hc, rfl⟩ := List.mem_map.mp hp
  exact sh_cal (hw c hc)
end
end Mz
end
section
set_option Elab.async false
set_option linter.all false
set_option maxRecDepth 100000
set_option maxHeartbeats 1000000
namespace Mz
open PySem L2 TL
local macro_rules | `(tactic| row_cond sd) => `(tactic| first | exact rfl | exact True.intro | assumption | decide)
local macro_rules | `(tactic| row_cond st) => `(tactic| first
  | refine And.intro (by row_cond sd) ?_
  | refine ⟨_, by row_cond sd, ?_⟩
  | refine ⟨_, _, by row_cond sd, ?_⟩
  | refine ⟨_, _, by row_cond sd, by row_cond sd, ?_⟩
  | refine ⟨_, _, _, by row_cond sd, ?_⟩
  | refine ⟨_, _, _, by row_cond sd, by row_cond sd, ?_⟩
  | refine ⟨_, _, _, by row_cond sd, by row_cond sd, by row_cond sd, ?_⟩
  | refine ⟨_, _, _, _, by row_cond sd, ?_⟩
  | refine ⟨_, _, _, _, by row_cond sd, by row_cond sd, by row_cond sd, ?_⟩
  | refine ⟨_, _, _, _, by row_cond sd, by row_cond sd, by row_cond sd, by row_cond sd, ?_⟩
  | refine iteT ?_
  | refine iteF ?_)
local macro_rules | `(tactic| row_cond go) => `(tactic| repeat (row_cond st))
section
variable {A : Ad} {K : PySem.W.Frag} {E : XS} {Q : DK} {L S : MO} {r : KD} {μ : MS}
theorem ls3a {ν : MS} {a b c : List Dv} : lsV (((ν ++ [MO.lst a]) ++ [MO.lst b]) ++ [MO.lst c]) (.ob ν.length) = some a := by simp [lsV]
theorem ls3b {ν : MS} {a b c : List Dv} : lsV (((ν ++ [MO.lst a]) ++ [MO.lst b]) ++ [MO.lst c]) (.ob (ν ++ [MO.lst a]).length) = some b := by
  have := @lsV_last (ν ++ [MO.lst a]) b
  exact sqV_app (μ := (ν ++ [MO.lst a]) ++ [MO.lst b]) (w := (ν ++ [MO.lst a]).length) this
theorem ls3c {ν : MS} {a b c : List Dv} : lsV (((ν ++ [MO.lst a]) ++ [MO.lst b]) ++ [MO.lst c]) (.ob ((ν ++ [MO.lst a]) ++ [MO.lst b]).length) = some c := lsV_last
theorem RdSt.g1 (st : RdSt A L S r μ) : μ[1]? = some (.lst ((r.fs.map Fld.da).map .d)) := by
  obtain ⟨items, g, rfl, hc⟩ := st
  rfl
theorem RdSt.g2 (st : RdSt A L S r μ) : ∃ items, μ[2]? = some (.lst items) := by
  obtain ⟨items, g, rfl, hc⟩ := st
  exact ⟨items, rfl⟩
theorem RdSt.addF (st : RdSt A L S r μ) (f : Fld) : RdSt A L S ⟨r.fs ++ [f], r.cs, r.md⟩ (μ.set 1 (.lst ((r.fs.map Fld.da).map .d ++ [.d f.da]))) := by
  obtain ⟨items, g, rfl, hc⟩ := st
  refine ⟨items, g, ?_, hc⟩
  simp
theorem any_a : ([.list [], .list [.str "need"]] : List PyData).any (fun z => PyData.eqv z (.list [])) = true := by decide +kernel
theorem any_b : ([.list [], .list [.str "need"]] : List PyData).any (fun z => PyData.eqv z (.list [.str "need"])) = true := by decide +kernel
theorem sort_word (f : Fld) : (Da.str f.sort).isWord = true := by
  unfold Fld.sort
  cases f.many <;> decide
theorem x_takes_field {w : Nat} {f : Fld} (st : RdSt A L S r μ) (hw : sqV μ (.ob w) = some (strsD (Ln.fld f).words)) (hf : (Da.str f.nm).isWord = true) (hc : r.cs = []) (hl : r.fs.length < 1000) (h : ∀ μ', RdSt A L S ⟨r.fs ++ [f], r.cs, r.md⟩ μ' → Q (.d (.bl true)) μ') : m_TextReader_takes_field A K [.ob 0, .ob w] E μ Q := by
  unfold m_TextReader_takes_field
  refine ⟨rfl, ?_⟩
  unfold b_TextReader_takes_field
  have hI := st.is
  row_cond go
  have hp := (st.app (r' := [.lst []])).py
  rw [hc] at hp
  refine ⟨_, _, hp, .lst lsV_last .nil, by decide, by decide, ?_⟩
  rw [eqv_nil]
  row_cond go
  cases hn : f.need with
  | false =>
    have hwd : (Ln.fld f).words = (["field", f.nm, f.sort] : List Str) := by simp only [Ln.words, hn]; rfl
    rw [hwd] at hw
    have hw1 := sqV_app (r := [.lst []]) hw
    refine ⟨_, len_ob hw1, ?_⟩
    row_cond go
    refine ⟨_, ix_ob hw1 (j := 1) rfl rfl, ?_⟩
    row_cond go
    refine x_is_word rfl (word_short hf) ?_
    rw [hf]
    row_cond go
    refine ⟨_, ix_ob hw1 (j := 2) rfl rfl, ?_⟩
    row_cond go
    refine x_is_word rfl (word_short (sort_word f)) ?_
    rw [sort_word f]
    row_cond go
    refine ⟨show 2 ≤ sizeLine by decide, ?_⟩
    refine ⟨.list [], _, [.list [], .list [.str "need"]], .lst ls3a .nil, rfl, .cons (.lst ls3b .nil) (.cons (.lst ls3c (.cons (.d rfl) .nil)) .nil), by decide +kernel, by decide +kernel, ?_⟩
    rw [any_a]
    have st3 := (((st.app (r' := [.lst []])).app (r' := [.lst (cutD (strsD ["field", f.nm, f.sort]) (some 3) none)])).app (r' := [.lst []])).app (r' := [.lst [.d (.str "need")]])
    have hw3 := sqV_app (r := [.lst [.d (.str "need")]]) (sqV_app (r := [.lst []]) (sqV_app (r := [.lst (cutD (strsD ["field", f.nm, f.sort]) (some 3) none)]) hw1))
    have hI3 := st3.is
    have hl3 := ls_some (ls_at st3.g1)
    row_cond go
    refine ⟨_, ix_ob hw3 (j := 1) rfl rfl, ?_⟩
    row_cond go
    refine ⟨_, ix_ob hw3 (j := 2) rfl rfl, ?_⟩
    row_cond go
    refine ⟨_, len_ob hw3, ?_⟩
    row_cond go
    refine ⟨show 3 ≤ sizeLine by decide, ?_⟩
    refine ⟨_, _, _, rfl, rfl, st3.g1, by rw [List.length_map, List.length_map]; exact small1000 (by omega), ?_⟩
    have := st3.addF f
    rw [show f.da = .tup [.str f.nm, .str f.sort, .bl false] by unfold Fld.da; rw [hn]] at this
    exact h _ this
  | true =>
    have hwd : (Ln.fld f).words = (["field", f.nm, f.sort, "need"] : List Str) := by simp only [Ln.words, hn]; rfl
    rw [hwd] at hw
    have hw1 := sqV_app (r := [.lst []]) hw
    refine ⟨_, len_ob hw1, ?_⟩
    row_cond go
    refine ⟨_, ix_ob hw1 (j := 1) rfl rfl, ?_⟩
    row_cond go
    refine x_is_word rfl (word_short hf) ?_
    rw [hf]
    row_cond go
    refine ⟨_, ix_ob hw1 (j := 2) rfl rfl, ?_⟩
    row_cond go
    refine x_is_word rfl (word_short (sort_word f)) ?_
    rw [sort_word f]
    row_cond go
    refine ⟨show 2 ≤ sizeLine by decide, ?_⟩
    refine ⟨.list [.str "need"], _, [.list [], .list [.str "need"]], .lst ls3a (.cons (.d rfl) .nil), rfl, .cons (.lst ls3b .nil) (.cons (.lst ls3c (.cons (.d rfl) .nil)) .nil), by decide +kernel, by decide +kernel, ?_⟩
    rw [any_b]
    have st3 := (((st.app (r' := [.lst []])).app (r' := [.lst (cutD (strsD ["field", f.nm, f.sort, "need"]) (some 3) none)])).app (r' := [.lst []])).app (r' := [.lst [.d (.str "need")]])
    have hw3 := sqV_app (r := [.lst [.d (.str "need")]]) (sqV_app (r := [.lst []]) (sqV_app (r := [.lst (cutD (strsD ["field", f.nm, f.sort, "need"]) (some 3) none)]) hw1))
    have hI3 := st3.is
    have hl3 := ls_some (ls_at st3.g1)
    row_cond go
    refine ⟨_, ix_ob hw3 (j := 1) rfl rfl, ?_⟩
    row_cond go
    refine ⟨_, ix_ob hw3 (j := 2) rfl rfl, ?_⟩
    row_cond go
    refine ⟨_, len_ob hw3, ?_⟩
    row_cond go
    refine ⟨show 3 ≤ sizeLine by decide, ?_⟩
    refine ⟨_, _, _, rfl, rfl, st3.g1, by rw [List.length_map, List.length_map]; exact small1000 (by omega), ?_⟩
    have := st3.addF f
    rw [show f.da = .tup [.str f.nm, .str f.sort, .bl true] by unfold Fld.da; rw [hn]] at this
    exact h _ this
end
end Mz
end
section
set_option Elab.async false
set_option linter.all false
set_option maxRecDepth 100000
set_option maxHeartbeats 1000000
namespace Mz
open PySem L2 TL
local macro_rules | `(tactic| row_cond sd) => `(tactic| first | exact rfl | exact True.intro | assumption | decide)
local macro_rules | `(tactic| row_cond st) => `(tactic| first
  | refine And.intro (by row_cond sd) ?_
  | refine ⟨_, by row_cond sd, ?_⟩
  | refine ⟨_, _, by row_cond sd, ?_⟩
  | refine ⟨_, _, by row_cond sd, by row_cond sd, ?_⟩
  | refine ⟨_, _, _, by row_cond sd, ?_⟩
  | refine ⟨_, _, _, by row_cond sd, by row_cond sd, ?_⟩
  | refine ⟨_, _, _, by row_cond sd, by row_cond sd, by row_cond sd, ?_⟩
  | refine ⟨_, _, _, _, by row_cond sd, ?_⟩
  | refine ⟨_, _, _, _, by row_cond sd, by row_cond sd, by row_cond sd, ?_⟩
  | refine ⟨_, _, _, _, by row_cond sd, by row_cond sd, by row_cond sd, by row_cond sd, ?_⟩
  | refine iteT ?_
  | refine iteF ?_)
local macro_rules | `(tactic| row_cond go) => `(tactic| repeat (row_cond st))
section
variable {A : Ad} {K : PySem.W.Frag} {E : XS} {Q : DK} {L S : MO} {r : KD} {μ : MS}
theorem cut3 (a b c : Dv) (l : List Dv) : cutD (a :: b :: c :: l) (some 3) none = l := by
  unfold cutD
  simp [HT.sIx]
theorem CalAt.lt {g : MS} {c : Cal} {m d s : Nat} (h : CalAt g c m d s) : m < g.length ∧ d < g.length ∧ s < g.length :=
  ⟨(List.getElem?_eq_some_iff.mp h.m).1, (List.getElem?_eq_some_iff.mp h.d).1, (List.getElem?_eq_some_iff.mp h.s).1⟩
theorem OldAt.mono {g : MS} {b b' : Nat} (hb : b ≤ b') : ∀ {cs : List Cal} {items : List Dv}, OldAt g b cs items → OldAt g b' cs items
  | _, _, .nil => .nil
  | _, _, .cons ⟨m, d, s, h1, h2, h3, h4, h5⟩ t => .cons ⟨m, d, s, by omega, by omega, by omega, h4, h5⟩ (OldAt.mono hb t)
theorem OldAt.to {g : MS} {b : Nat} : ∀ {cs : List Cal} {items : List Dv}, OldAt g b cs items → OldAt g g.length cs items
  | _, _, .nil => .nil
  | _, _, .cons ⟨m, d, s, h1, h2, h3, h4, h5⟩ t => .cons ⟨m, d, s, h5.lt.1, h5.lt.2.1, h5.lt.2.2, h4, h5⟩ (OldAt.to t)
theorem Paired.snoc {α β : Type} {R : α → β → Prop} : ∀ {l : List α} {m : List β} {x : α} {y : β}, Paired R l m → R x y → Paired R (l ++ [x]) (m ++ [y])
  | _, _, _, _, .nil, h => .cons h .nil
  | _, _, _, _, .cons a t, h => .cons a (t.snoc h)
theorem RdC.old {g : MS} {cs : List Cal} {items : List Dv} (h : RdC g cs items) : OldAt g g.length cs items := by
  rcases h with ⟨rfl, rfl⟩ | ⟨cs0, c, items0, b, m, d, s, rfl, rfl, h3, _, _, _, h7⟩
  · exact .nil
  · exact Paired.snoc h3.to ⟨m, d, s, h7.lt.1, h7.lt.2.1, h7.lt.2.2, rfl, h7⟩
theorem RdC.add {g : MS} {cs : List Cal} {items : List Dv} (h : RdC g cs items) (x : MO) (nm hand : Str) (ms : List Int) : RdC (g ++ [x, .lst ((ms.map Da.int).map .d), .lst [], .lst []]) (cs ++ [⟨nm, hand, ms, [], []⟩]) (items ++ [calTp ⟨nm, hand, ms, [], []⟩ (g.length + 1) (g.length + 2) (g.length + 3)]) := by
  refine .inr ⟨cs, _, items, g.length, g.length + 1, g.length + 2, g.length + 3, rfl, rfl, h.old.app, by omega, by omega, by omega, ⟨?_, ?_, ?_⟩⟩
  · rw [List.getElem?_append_right (by omega), show g.length + 1 - g.length = 1 by omega]; rfl
  · rw [List.getElem?_append_right (by omega), show g.length + 2 - g.length = 2 by omega]; rfl
  · rw [List.getElem?_append_right (by omega), show g.length + 3 - g.length = 3 by omega]; rfl
theorem RdSt.addC {ν : MS} (st : RdSt A L S r ν) (x : MO) (nm hand : Str) (ms : List Int) {its : List Dv} (hi : ν[2]? = some (.lst its)) :
    RdSt A L S ⟨r.fs, r.cs ++ [⟨nm, hand, ms, [], []⟩], r.md⟩ ((ν ++ [x, .lst ((ms.map Da.int).map .d), .lst [], .lst []]).set 2 (.lst (its ++ [.tp [.d (.str nm), .d (.str hand), .ob (ν.length + 1), .ob (ν.length + 2), .ob (ν.length + 3)]]))) := by
  obtain ⟨items, g, rfl, hc⟩ := st
  obtain rfl : items = its := by
    have : some (MO.lst items) = some (.lst its) := hi
    injection this with this
    injection this
  exact ⟨_, _, rfl, hc.add x nm hand ms⟩
theorem RdSt.len2 {ν : MS} (st : RdSt A L S r ν) {its : List Dv} (hi : ν[2]? = some (.lst its)) : its.length = r.cs.length := by
  obtain ⟨items, g, rfl, hc⟩ := st
  obtain rfl : items = its := by
    have : some (MO.lst items) = some (.lst its) := hi
    injection this with this
    injection this
  exact (Paired.length hc.old).symm
theorem app4 {ν : MS} {a b c d : MO} : (((ν ++ [a]) ++ [b]) ++ [c]) ++ [d] = ν ++ [a, b, c, d] := by simp
theorem bls_true : ∀ ms : List Int, bls ([] ++ ms.map fun _ => Dv.d (.bl true)) = some (ms.map fun _ => true)
  | [] => rfl
  | m :: r => by
    have := bls_true r
    simp only [List.nil_append, List.map_cons] at this ⊢
    simp [bls, this]
theorem all_tru : ∀ ms : List Int, (ms.map fun _ => true).all id = true
  | [] => rfl
  | m :: r => by simp
theorem x_takes_call {w : Nat} {nm hand : Str} {ms : List Int} (st : RdSt A L S r μ) (hw : sqV μ (.ob w) = some (strsD (Ln.cal nm hand ms).words)) (ok : LnOk (.cal nm hand ms)) (hl : r.cs.length < 1000) (h : ∀ μ', RdSt A L S ⟨r.fs, r.cs ++ [⟨nm, hand, ms, [], []⟩], r.md⟩ μ' → Q (.d (.bl true)) μ') : m_TextReader_takes_call A K [.ob 0, .ob w] E μ Q := by
  obtain ⟨w1, w2, w3, w4⟩ := ok
  unfold m_TextReader_takes_call
  refine ⟨rfl, ?_⟩
  unfold b_TextReader_takes_call
  have hws : strsD (Ln.cal nm hand ms).words = Dv.d (.str "call") :: .d (.str nm) :: .d (.str hand) :: ms.map fun m => .d (.str (toS m)) := by
    simp [Ln.words, strsD]
  rw [hws] at hw
  row_cond go
  refine ⟨_, len_ob hw, ?_⟩
  row_cond go
  refine ⟨_, ix_ob hw (j := 1) rfl rfl, ?_⟩
  row_cond go
  refine x_is_word rfl (word_short w1) ?_
  rw [w1]
  row_cond go
  refine ⟨_, ix_ob hw (j := 2) rfl rfl, ?_⟩
  row_cond go
  refine x_is_word rfl (word_short w2) ?_
  rw [w2]
  row_cond go
  rw [cut3]
  refine ⟨_, sqV_last, sqV_last, ?_⟩
  refine lc_name (fun m : Int => .d (.str (toS m))) (fun _ => .d (.bl true)) sqV_last ms [] (fun m hm P hP => ?_) (by simp; omega) ?_
  · row_cond go
    refine x_is_number (w4 m hm) ?_
    exact hP
  row_cond go
  refine ⟨_, _, ms.map fun _ => true, rfl, lsV_last, bls_true ms, ?_⟩
  rw [all_tru]
  have st1 := (st.app (r' := [.lst (ms.map fun m => .d (.str (toS m)))])).app (r' := [.lst ([] ++ ms.map fun _ => .d (.bl true))])
  have hw1 := sqV_app (r := [.lst ([] ++ ms.map fun _ => .d (.bl true))]) (sqV_app (r := [.lst (ms.map fun m => .d (.str (toS m)))]) hw)
  generalize (μ ++ [.lst (ms.map fun m => .d (.str (toS m)))]) ++ [.lst ([] ++ ms.map fun _ => .d (.bl true))] = ν at st1 hw1 ⊢
  have hI := st1.is
  obtain ⟨its, hg2⟩ := st1.g2
  have hl2 := ls_some (ls_at hg2)
  row_cond go
  refine ⟨_, ix_ob hw1 (j := 1) rfl rfl, ?_⟩
  row_cond go
  refine ⟨_, ix_ob hw1 (j := 2) rfl rfl, ?_⟩
  row_cond go
  rw [cut3]
  refine ⟨_, sqV_last, sqV_last, ?_⟩
  refine lc_name (fun m : Int => .d (.str (toS m))) (fun m => .d (.int m)) sqV_last ms [] (fun m hm P hP => ?_) (by simp; omega) ?_
  · row_cond go
    refine x_number_of (w4 m hm) ?_
    exact hP
  row_cond go
  refine ⟨show 5 ≤ sizeLine by decide, ?_⟩
  rw [app4]
  refine ⟨2, its, _, rfl, rfl, ?_, ?_, ?_⟩
  · rw [List.getElem?_append_left (List.getElem?_eq_some_iff.mp hg2).1]; exact hg2
  · rw [st1.len2 hg2]; exact small1000 (by omega)
  have e := st1.addC (.lst (ms.map fun m => .d (.str (toS m)))) nm hand ms hg2
  refine h _ ?_
  simp only [List.length_append, List.length_cons, List.length_nil, List.nil_append, mkTup, allD]
  rw [List.map_map] at e
  exact e
end
end Mz
end
section
set_option Elab.async false
set_option linter.all false
set_option maxRecDepth 100000
set_option maxHeartbeats 1000000
namespace Mz
open PySem L2 TL
local macro_rules | `(tactic| row_cond sd) => `(tactic| first | exact rfl | exact True.intro | assumption | decide)
local macro_rules | `(tactic| row_cond st) => `(tactic| first
  | refine And.intro (by row_cond sd) ?_
  | refine ⟨_, by row_cond sd, ?_⟩
  | refine ⟨_, _, by row_cond sd, ?_⟩
  | refine ⟨_, _, by row_cond sd, by row_cond sd, ?_⟩
  | refine ⟨_, _, _, by row_cond sd, ?_⟩
  | refine ⟨_, _, _, by row_cond sd, by row_cond sd, ?_⟩
  | refine ⟨_, _, _, by row_cond sd, by row_cond sd, by row_cond sd, ?_⟩
  | refine ⟨_, _, _, _, by row_cond sd, ?_⟩
  | refine ⟨_, _, _, _, by row_cond sd, by row_cond sd, by row_cond sd, ?_⟩
  | refine ⟨_, _, _, _, by row_cond sd, by row_cond sd, by row_cond sd, by row_cond sd, ?_⟩
  | refine iteT ?_
  | refine iteF ?_)
local macro_rules | `(tactic| row_cond go) => `(tactic| repeat (row_cond st))
section
variable {A : Ad} {K : PySem.W.Frag} {E : XS} {Q : DK} {L S : MO} {r : KD} {μ : MS}
theorem CalAt.setD {g : MS} {c : Cal} {m d s : Nat} (h : CalAt g c m d s) (h1 : m < d) (h2 : d < s) (p : Str × Str) : CalAt (g.set d (.lst ((c.deeds.map pairDa).map .d ++ [.d (pairDa p)]))) { c with deeds := c.deeds ++ [p] } m d s := by
  refine ⟨?_, ?_, ?_⟩
  · rw [List.getElem?_set_ne (by omega)]; exact h.m
  · rw [List.getElem?_set_self h.lt.2.1]; simp
  · rw [List.getElem?_set_ne (by omega)]; exact h.s
theorem CalAt.setS {g : MS} {c : Cal} {m d s : Nat} (h : CalAt g c m d s) (h1 : m < d) (h2 : d < s) (p : Str) : CalAt (g.set s (.lst ((c.same.map Da.str).map .d ++ [.d (.str p)]))) { c with same := c.same ++ [p] } m d s := by
  refine ⟨?_, ?_, ?_⟩
  · rw [List.getElem?_set_ne (by omega)]; exact h.m
  · rw [List.getElem?_set_ne (by omega)]; exact h.d
  · rw [List.getElem?_set_self h.lt.2.2]; simp
theorem CalAt.far {g : MS} {c : Cal} {m d s b n : Nat} {o : MO} (h : CalAt g c m d s) (h1 : m < b) (h2 : d < b) (h3 : s < b) (hn : b ≤ n) : CalAt (g.set n o) c m d s :=
  ⟨by rw [List.getElem?_set_ne (by omega)]; exact h.m, by rw [List.getElem?_set_ne (by omega)]; exact h.d, by rw [List.getElem?_set_ne (by omega)]; exact h.s⟩
theorem OldAt.far {g : MS} {b n : Nat} {o : MO} (hn : b ≤ n) : ∀ {cs : List Cal} {items : List Dv}, OldAt g b cs items → OldAt (g.set n o) b cs items
  | _, _, .nil => .nil
  | _, _, .cons ⟨m, d, s, h1, h2, h3, h4, h5⟩ t => .cons ⟨m, d, s, h1, h2, h3, h4, h5.far h1 h2 h3 hn⟩ (OldAt.far hn t)
theorem RdSt.last {cs0 : List Cal} {c : Cal} (st : RdSt A L S r μ) (hc : r.cs = cs0 ++ [c]) : ∃ items0 m d s, sqV μ (.ob 2) = some (items0 ++ [calTp c m d s]) ∧
    μ[d + 5]? = some (.lst ((c.deeds.map pairDa).map .d)) ∧ μ[s + 5]? = some (.lst ((c.same.map Da.str).map .d)) ∧ d < s ∧
    (∀ p, RdSt A L S ⟨r.fs, cs0 ++ [{ c with deeds := c.deeds ++ [p] }], r.md⟩ (μ.set (d + 5) (.lst ((c.deeds.map pairDa).map .d ++ [.d (pairDa p)])))) ∧
    (∀ p, RdSt A L S ⟨r.fs, cs0 ++ [{ c with same := c.same ++ [p] }], r.md⟩ (μ.set (s + 5) (.lst ((c.same.map Da.str).map .d ++ [.d (.str p)])))) := by
  obtain ⟨items, g, rfl, h⟩ := st
  rcases h with ⟨h, _⟩ | ⟨cs1, c1, items0, b, m, d, s, e1, rfl, h3, h4, h5, h6, h7⟩
  · rw [hc] at h; simp at h
  · rw [hc] at e1
    obtain ⟨rfl, e2⟩ := List.append_inj' e1 rfl
    obtain rfl : c = c1 := by simpa using e2
    refine ⟨items0, m, d, s, rfl, h7.d, h7.s, h6, fun p => ?_, fun p => ?_⟩
    · refine ⟨_, _, rfl, .inr ⟨cs0, _, items0, b, m, d, s, rfl, rfl, h3.far (by omega), h4, h5, h6, h7.setD h5 h6 p⟩⟩
    · refine ⟨_, _, rfl, .inr ⟨cs0, _, items0, b, m, d, s, rfl, rfl, h3.far (by omega), h4, h5, h6, h7.setS h5 h6 p⟩⟩
theorem ix_last {w : Nat} {ys : List Dv} {y : Dv} (h : sqV μ (.ob w) = some (ys ++ [y])) : ixD μ (.ob w) (.d (.int (-1))) = some y := by
  show (sqV μ (.ob w)).bind (fun ds => atI ds (-1)) = _
  rw [h]
  show atI (ys ++ [y]) (-1) = some y
  exact atI_last ys y
theorem x_part_deed {w : Nat} {p : Str × Str} {cs0 : List Cal} {c : Cal} (st : RdSt A L S r μ) (hw : sqV μ (.ob w) = some (strsD ["do", p.1, p.2])) (ok : LnOk (.deed p)) (hc : r.cs = cs0 ++ [c]) (hs : c.same = []) (hl : c.deeds.length < 1000) (h : ∀ μ', RdSt A L S ⟨r.fs, cs0 ++ [{ c with deeds := c.deeds ++ [p] }], r.md⟩ μ' → Q (.d (.bl true)) μ') : m_TextReader_takes_part A K [.ob 0, .ob w] E μ Q := by
  obtain ⟨w1, w2⟩ := ok
  obtain ⟨items0, m, d, s, h2, hd, hss, lt, kd, ks⟩ := st.last hc
  unfold m_TextReader_takes_part
  refine ⟨rfl, ?_⟩
  unfold b_TextReader_takes_part
  have hI := st.is
  row_cond go
  refine ⟨_, ix_last h2, ?_⟩
  row_cond go
  refine ⟨_, ix_ob hw (j := 0) rfl rfl, ?_⟩
  row_cond go
  refine ⟨_, len_ob hw, ?_⟩
  row_cond go
  refine ⟨_, ix_ob hw (j := 1) rfl rfl, ?_⟩
  row_cond go
  refine x_is_word rfl (word_short w1) ?_
  rw [w1]
  row_cond go
  refine ⟨_, ix_ob hw (j := 2) rfl rfl, ?_⟩
  row_cond go
  refine x_is_word rfl (word_short w2) ?_
  rw [w2]
  have hl5 := ls_some (ls_at hd)
  row_cond go
  refine ⟨_, ix_ob hw (j := 1) rfl rfl, ?_⟩
  row_cond go
  refine ⟨_, ix_ob hw (j := 2) rfl rfl, ?_⟩
  row_cond go
  refine ⟨show 2 ≤ sizeLine by decide, ?_⟩
  refine ⟨_, _, _, rfl, rfl, hd, by rw [List.length_map, List.length_map]; exact small1000 (by omega), ?_⟩
  have st2 := kd p
  have hss2 : (μ.set (d + 5) (.lst ((c.deeds.map pairDa).map .d ++ [.d (pairDa p)])))[s + 5]? = some (.lst []) := by
    rw [List.getElem?_set_ne (by omega), hss, hs]; rfl
  row_cond go
  refine ⟨.list [], .list [], .lst (sqV_app (w := s + 5) (sq_at hss2)) .nil, .lst lsV_last .nil, by decide, by decide, ?_⟩
  rw [eqv_nil]
  exact h _ (st2.app (r' := [.lst []]))
theorem x_part_same {w : Nat} {p : Str} {cs0 : List Cal} {c : Cal} (st : RdSt A L S r μ) (hw : sqV μ (.ob w) = some (strsD ["same", p])) (ok : LnOk (.same p)) (hc : r.cs = cs0 ++ [c]) (hl : c.same.length < 1000) (h : ∀ μ', RdSt A L S ⟨r.fs, cs0 ++ [{ c with same := c.same ++ [p] }], r.md⟩ μ' → Q (.d (.bl true)) μ') : m_TextReader_takes_part A K [.ob 0, .ob w] E μ Q := by
  have w1 : (Da.str p).isWord = true := ok
  obtain ⟨items0, m, d, s, h2, hd, hss, lt, kd, ks⟩ := st.last hc
  unfold m_TextReader_takes_part
  refine ⟨rfl, ?_⟩
  unfold b_TextReader_takes_part
  have hI := st.is
  row_cond go
  refine ⟨_, ix_last h2, ?_⟩
  row_cond go
  refine ⟨_, ix_ob hw (j := 0) rfl rfl, ?_⟩
  row_cond go
  refine ⟨_, ix_ob hw (j := 0) rfl rfl, ?_⟩
  row_cond go
  refine ⟨_, len_ob hw, ?_⟩
  row_cond go
  refine ⟨_, ix_ob hw (j := 1) rfl rfl, ?_⟩
  row_cond go
  refine x_is_word rfl (word_short w1) ?_
  rw [w1]
  have hl5 := ls_some (ls_at hss)
  row_cond go
  refine ⟨_, ix_ob hw (j := 1) rfl rfl, ?_⟩
  row_cond go
  refine ⟨by rw [List.length_map, List.length_map]; exact small1000 (by omega), ?_⟩
  exact h _ (ks p)
end
end Mz
end
section
set_option Elab.async false
set_option linter.all false
set_option maxRecDepth 100000
set_option maxHeartbeats 1000000
namespace Mz
open PySem L2 TL
local macro_rules | `(tactic| row_cond sd) => `(tactic| first | exact rfl | exact True.intro | assumption | decide)
local macro_rules | `(tactic| row_cond st) => `(tactic| first
  | refine And.intro (by row_cond sd) ?_
  | refine ⟨_, by row_cond sd, ?_⟩
  | refine ⟨_, _, by row_cond sd, ?_⟩
  | refine ⟨_, _, by row_cond sd, by row_cond sd, ?_⟩
  | refine ⟨_, _, _, by row_cond sd, ?_⟩
  | refine ⟨_, _, _, by row_cond sd, by row_cond sd, ?_⟩
  | refine ⟨_, _, _, by row_cond sd, by row_cond sd, by row_cond sd, ?_⟩
  | refine ⟨_, _, _, _, by row_cond sd, ?_⟩
  | refine ⟨_, _, _, _, by row_cond sd, by row_cond sd, by row_cond sd, ?_⟩
  | refine ⟨_, _, _, _, by row_cond sd, by row_cond sd, by row_cond sd, by row_cond sd, ?_⟩
  | refine iteT ?_
  | refine iteF ?_)
local macro_rules | `(tactic| row_cond go) => `(tactic| repeat (row_cond st))
section
variable {A : Ad} {K : PySem.W.Frag} {E : XS} {Q : DK} {L S : MO} {r : KD} {μ : MS}
structure RdOk (n : Nat) (r : KD) : Prop where
  f : r.fs.length ≤ n
  c : r.cs.length ≤ n
  w : ∀ c ∈ r.cs, CalW c ∧ c.deeds.length ≤ n ∧ c.same.length ≤ n
theorem onLast_mem {f : Cal → Cal} {x : Cal} : ∀ {cs : List Cal}, x ∈ onLast f cs → x ∈ cs ∨ ∃ c ∈ cs, x = f c
  | [], h => by cases h
  | [c], h => by
    have : x = f c := by simpa [onLast] using h
    exact .inr ⟨c, by simp, this⟩
  | c :: z :: r, h => by
    rcases List.mem_cons.mp (show x ∈ c :: onLast f (z :: r) from h) with rfl | h
    · exact .inl (by simp)
    · rcases onLast_mem h with h | ⟨y, hy, e⟩
      · exact .inl (List.mem_cons_of_mem _ h)
      · exact .inr ⟨y, List.mem_cons_of_mem _ hy, e⟩
theorem onLast_len {f : Cal → Cal} : ∀ cs : List Cal, (onLast f cs).length = cs.length
  | [] => rfl
  | [c] => rfl
  | c :: z :: r => by
    show (onLast f (z :: r)).length + 1 = _
    rw [onLast_len (z :: r)]; rfl
theorem RdOk.step {n : Nat} (k : RdOk n r) {l : Ln} (ok : LnOk l) : RdOk (n + 1) (rdLn r l) := by
  have up : ∀ c ∈ r.cs, CalW c ∧ c.deeds.length ≤ n + 1 ∧ c.same.length ≤ n + 1 := fun c hc => by
    obtain ⟨h1, h2, h3⟩ := k.w c hc
    exact ⟨h1, by omega, by omega⟩
  have kf := k.f
  have kc := k.c
  cases l with
  | modes m => exact ⟨by show r.fs.length ≤ _; omega, by show r.cs.length ≤ _; omega, up⟩
  | fld f => exact ⟨by show (r.fs ++ [f]).length ≤ _; simp; omega, by show r.cs.length ≤ _; omega, up⟩
  | cal nm hand ms =>
    refine ⟨by show r.fs.length ≤ _; omega, by show (r.cs ++ [_]).length ≤ _; simp; omega, fun c hc => ?_⟩
    rcases List.mem_append.mp (show c ∈ r.cs ++ [_] from hc) with hc | hc
    · exact up c hc
    · obtain rfl : c = _ := by simpa using hc
      exact ⟨⟨ok.1, ok.2.1, by simp, by simp⟩, by simp, by simp⟩
  | deed p =>
    refine ⟨by show r.fs.length ≤ _; omega, by show (onLast _ r.cs).length ≤ _; rw [onLast_len]; omega, fun c hc => ?_⟩
    rcases onLast_mem (show c ∈ onLast _ r.cs from hc) with hc | ⟨y, hy, rfl⟩
    · exact up c hc
    · obtain ⟨h1, h2, h3⟩ := k.w y hy
      refine ⟨⟨h1.nm, h1.hd, fun q hq => ?_, h1.sm⟩, by simp; omega, by show y.same.length ≤ _; omega⟩
      rcases List.mem_append.mp hq with hq | hq
      · exact h1.dd q hq
      · obtain rfl : q = p := by simpa using hq
        exact ok
  | same p =>
    refine ⟨by show r.fs.length ≤ _; omega, by show (onLast _ r.cs).length ≤ _; rw [onLast_len]; omega, fun c hc => ?_⟩
    rcases onLast_mem (show c ∈ onLast _ r.cs from hc) with hc | ⟨y, hy, rfl⟩
    · exact up c hc
    · obtain ⟨h1, h2, h3⟩ := k.w y hy
      refine ⟨⟨h1.nm, h1.hd, h1.dd, fun q hq => ?_⟩, by show y.deeds.length ≤ _; omega, by simp; omega⟩
      rcases List.mem_append.mp hq with hq | hq
      · exact h1.sm q hq
      · obtain rfl : q = p := by simpa using hq
        exact ok
theorem x_TextReader_init (h : Q (.d .non) (rdIns A 0 :: .lst [] :: .lst [] :: [])) : m_TextReader___init__ A K [.ob 0] E [.ins A.TextReader []] Q := by
  unfold m_TextReader___init__
  refine ⟨rfl, ?_⟩
  unfold b_TextReader___init__
  row_cond go
  refine ⟨show 2 < 1000 by decide, ?_⟩
  exact h
theorem j_ne {j : Nat} (h : j ≠ 0) : decide (V.int (j : Int) = V.int 0) = false := decide_eq_false fun e => by
  have := V.int.inj e
  omega
theorem x_takes_line {w j n : Nat} {l : Ln} (st : RdSt A L S r μ) (hw : sqV μ (.ob w) = some (strsD l.words)) (ok : LnOk l) (fit : Fits r j l) (k : RdOk n r) (hn : n ≤ 900) (h : ∀ μ', RdSt A L S (rdLn r l) μ' → Q (.d (.bl true)) μ') : m_TextReader_takes_line A K [.ob 0, .ob w, .d (.int j)] E μ Q := by
  have kf := k.f
  have kc := k.c
  unfold m_TextReader_takes_line
  refine ⟨rfl, ?_⟩
  unfold b_TextReader_takes_line
  have hI := st.is
  cases l with
  | modes m =>
    obtain rfl : j = 0 := fit
    row_cond go
    refine ⟨_, ix_ob hw (j := 0) rfl rfl, ?_⟩
    row_cond go
    refine ⟨_, ix_ob hw (j := 0) rfl rfl, ?_⟩
    row_cond go
    exact x_takes_modes st hw ok.1 ok.2 h
  | fld f =>
    obtain ⟨hj, hc⟩ := fit
    row_cond go
    refine ⟨_, ix_ob hw (j := 0) rfl rfl, ?_⟩
    row_cond go
    rw [j_ne hj]
    row_cond go
    refine ⟨_, ix_ob hw (j := 0) rfl rfl, ?_⟩
    row_cond go
    refine ⟨_, ix_ob hw (j := 0) rfl rfl, ?_⟩
    row_cond go
    exact x_takes_field st hw ok hc (by omega) h
  | cal nm hand ms =>
    have hj : j ≠ 0 := fit
    have hws : strsD (Ln.cal nm hand ms).words = Dv.d (.str "call") :: .d (.str nm) :: .d (.str hand) :: ms.map fun m => .d (.str (toS m)) := by
      simp [Ln.words, strsD]
    have hw0 := hw
    rw [hws] at hw
    row_cond go
    refine ⟨_, ix_ob hw (j := 0) rfl rfl, ?_⟩
    row_cond go
    rw [j_ne hj]
    row_cond go
    refine ⟨_, ix_ob hw (j := 0) rfl rfl, ?_⟩
    row_cond go
    refine ⟨_, ix_ob hw (j := 0) rfl rfl, ?_⟩
    row_cond go
    refine ⟨_, ix_ob hw (j := 0) rfl rfl, ?_⟩
    row_cond go
    exact x_takes_call st hw0 ok (by omega) h
  | deed p =>
    obtain ⟨hj, cs0, c, hc, hs⟩ := fit
    have hcl := k.w c (by rw [hc]; simp)
    row_cond go
    refine ⟨_, ix_ob hw (j := 0) rfl rfl, ?_⟩
    row_cond go
    rw [j_ne hj]
    row_cond go
    refine ⟨_, ix_ob hw (j := 0) rfl rfl, ?_⟩
    row_cond go
    refine ⟨_, ix_ob hw (j := 0) rfl rfl, ?_⟩
    row_cond go
    refine ⟨_, ix_ob hw (j := 0) rfl rfl, ?_⟩
    row_cond go
    have hp := (st.app (r' := [.lst []])).py
    have hsh := RdSt.sh (r := r) fun c hc => (k.w c hc).1
    refine ⟨_, _, hp, .lst lsV_last .nil, hsh, by decide, ?_⟩
    rw [eqv_nil, hc]
    rw [show (List.map Cal.py (cs0 ++ [c])).isEmpty = false by simp]
    have st1 := st.app (r' := [.lst []])
    have hw1 := sqV_app (r := [.lst []]) hw
    have hI1 := st1.is
    row_cond go
    refine x_part_deed st1 hw1 ok hc hs (by omega) fun μ' st' => h μ' ?_
    show RdSt A L S ⟨r.fs, onLast _ r.cs, r.md⟩ μ'
    rw [hc, onLast_snoc]
    exact st'
  | same p =>
    obtain ⟨hj, cs0, c, hc⟩ := fit
    have hcl := k.w c (by rw [hc]; simp)
    row_cond go
    refine ⟨_, ix_ob hw (j := 0) rfl rfl, ?_⟩
    row_cond go
    rw [j_ne hj]
    row_cond go
    refine ⟨_, ix_ob hw (j := 0) rfl rfl, ?_⟩
    row_cond go
    refine ⟨_, ix_ob hw (j := 0) rfl rfl, ?_⟩
    row_cond go
    refine ⟨_, ix_ob hw (j := 0) rfl rfl, ?_⟩
    row_cond go
    have hp := (st.app (r' := [.lst []])).py
    have hsh := RdSt.sh (r := r) fun c hc => (k.w c hc).1
    refine ⟨_, _, hp, .lst lsV_last .nil, hsh, by decide, ?_⟩
    rw [eqv_nil, hc]
    rw [show (List.map Cal.py (cs0 ++ [c])).isEmpty = false by simp]
    have st1 := st.app (r' := [.lst []])
    have hw1 := sqV_app (r := [.lst []]) hw
    have hI1 := st1.is
    row_cond go
    refine x_part_same st1 hw1 ok hc (by omega) fun μ' st' => h μ' ?_
    show RdSt A L S ⟨r.fs, onLast _ r.cs, r.md⟩ μ'
    rw [hc, onLast_snoc]
    exact st'
end
end Mz
end
section
set_option Elab.async false
set_option linter.all false
set_option maxRecDepth 100000
set_option maxHeartbeats 1000000
namespace Mz
open PySem L2 TL
local macro_rules | `(tactic| row_cond sd) => `(tactic| first | exact rfl | exact True.intro | assumption | decide)
local macro_rules | `(tactic| row_cond st) => `(tactic| first
  | refine And.intro (by row_cond sd) ?_
  | refine ⟨_, by row_cond sd, ?_⟩
  | refine ⟨_, _, by row_cond sd, ?_⟩
  | refine ⟨_, _, by row_cond sd, by row_cond sd, ?_⟩
  | refine ⟨_, _, _, by row_cond sd, ?_⟩
  | refine ⟨_, _, _, by row_cond sd, by row_cond sd, ?_⟩
  | refine ⟨_, _, _, by row_cond sd, by row_cond sd, by row_cond sd, ?_⟩
  | refine ⟨_, _, _, _, by row_cond sd, ?_⟩
  | refine ⟨_, _, _, _, by row_cond sd, by row_cond sd, by row_cond sd, ?_⟩
  | refine ⟨_, _, _, _, by row_cond sd, by row_cond sd, by row_cond sd, by row_cond sd, ?_⟩
  | refine iteT ?_
  | refine iteF ?_)
local macro_rules | `(tactic| row_cond go) => `(tactic| repeat (row_cond st))
section
variable {A : Ad} {K : PySem.W.Frag} {L S : MO} {r : KD} {μ : MS}
theorem frz1_map (xs : List Da) : frz1 (.lst (xs.map .d)) = .frz (.lst xs) := by
  simp only [frz1, allD_map]
theorem at5f {μ g : MS} {a b x y z : MO} {m : Nat} {xs : List Da} (e : μ = a :: b :: x :: y :: z :: g) (h : g[m]? = some (.lst (xs.map .d))) : (μ.map frz1)[m + 5]? = some (.frz (.lst xs)) := by
  rw [List.getElem?_map, at5 e h]
  show some (frz1 _) = _
  rw [frz1_map]
theorem oldAt_pu {μ g : MS} {a b x y z : MO} (e : μ = a :: b :: x :: y :: z :: g) {k : Nat} : ∀ {cs : List Cal} {items : List Dv}, OldAt g k cs items → PuAll (μ.map frz1) items (cs.map Cal.drawn)
  | _, _, .nil => .nil
  | _, _, .cons ⟨m, d, s, _, _, _, h4, h5⟩ t => .cons (by rw [h4]; exact .tp (.cons (.d _) (.cons (.d _) (.cons (.frz (at5f e h5.m)) (.cons (.frz (at5f e h5.d)) (.cons (.frz (at5f e h5.s)) .nil)))))) (oldAt_pu e t)
theorem rd_free (st : RdSt A L S r μ) (c0 : 0 < r.cs.length) : ∃ μ1, Fz μ μ1 ∧ isV μ1 (.ob 0) = some (A.TextReader, ([("modes_read", .d (.int r.md)), ("fields_read", .ob 1), ("calls_read", .ob 2)] : List (Str × Dv))) ∧ pu μ1 (.ob 1) = some (.lst (r.fs.map Fld.da)) ∧ pu μ1 (.ob 2) = some (.lst (r.cs.map Cal.drawn)) := by
  obtain ⟨items, g, e, hc⟩ := st
  have h0 := fz_all μ μ.length (Nat.le_refl _)
  rw [List.take_length, List.drop_length, List.append_nil] at h0
  have hp := oldAt_pu e hc.old
  have hm : (μ.map frz1)[2]? = some (.lst items) := by
    rw [e]
    show some (frz1 (.lst items)) = _
    have : allD items = none := by
      have ho := hc.old
      cases hcs : r.cs with
      | nil => rw [hcs] at c0; simp at c0
      | cons c cs =>
        rw [hcs] at ho
        cases ho with
        | cons h t =>
          obtain ⟨m, d, s, _, _, _, h4, _⟩ := h
          rw [h4]; rfl
    simp only [frz1, this]
  refine ⟨_, h0.trans (.lst hm hp (.refl _)), ?_, ?_, ?_⟩
  · rw [e]; rfl
  · have h1 : (μ.map frz1)[1]? = some (.frz (.lst (r.fs.map Fld.da))) := by
      rw [e]
      show some (frz1 _) = _
      rw [frz1_map]
    have h2 : ((μ.map frz1).set 2 (.frz (.lst (r.cs.map Cal.drawn))))[1]? = some (.frz (.lst (r.fs.map Fld.da))) := by
      rw [List.getElem?_set_ne (by decide)]; exact h1
    unfold pu
    simp only [h2]
  · have h2 : ((μ.map frz1).set 2 (.frz (.lst (r.cs.map Cal.drawn))))[2]? = some (.frz (.lst (r.cs.map Cal.drawn))) := List.getElem?_set_self (List.getElem?_eq_some_iff.mp hm).1
    unfold pu
    simp only [h2]
end
section
variable {A : Ad} {K : PySem.W.Frag} {E : Ex → Prop} {Q : Da → Prop}
theorem cut_last (ys : List Dv) (y : Dv) : cutD (ys ++ [y]) none (some (-1)) = ys := by
  unfold cutD
  simp [HT.sIx]
  rw [show (-1 + ((ys.length : Int) + 1)).toNat = ys.length by omega]
  simp
theorem x_Kind_of_text {kd : KD} (ok : KDOk kd) (h : Q (kindDa A kd)) : m_Kind_of_text A K [.str (kdStr kd)] E Q := by
  unfold m_Kind_of_text
  refine ⟨rfl, ?_⟩
  unfold b_Kind_of_text
  have hlok := kdLns_ok ok
  have hll := kdLns_len ok
  have hne : 0 < (kdLns kd).length := by simp [kdLns]
  have hsp : Txt.split (kdStr kd) "\n" = (kdLns kd).map Ln.line ++ [Str.empty] := text_split fun l hl => by
    obtain ⟨x, hx, rfl⟩ := List.mem_map.mp hl
    exact (line_facts (hlok x hx)).1
  have hlen : (kdStr kd).length ≤ 4096 := by
    have := text_len (ls := (kdLns kd).map Ln.line) fun l hl => by
      obtain ⟨x, hx, rfl⟩ := List.mem_map.mp hl
      exact (line_facts (hlok x hx)).2
    rw [List.length_map] at this
    refine Nat.le_trans this ?_
    omega
  refine x_TextReader_init ?_
  row_cond go
  refine ⟨⟨_, rfl⟩, ?_⟩
  refine ⟨_, _, rfl, rfl, by decide, Nat.le_trans (Nat.add_le_add_right hlen 2) (show 4098 ≤ sizeLine by decide), ?_⟩
  rw [hsp]
  row_cond go
  rw [show strsD ((kdLns kd).map Ln.line ++ [Str.empty]) = (kdLns kd).map (fun l => Dv.d (.str l.line)) ++ [.d (.str Str.empty)] by simp [strsD], cut_last]
  refine loop_by (fun i α μ => ∃ r x3 x4, α = [some (.d (.str (kdStr kd))), some (.ob 0), some (.ob 3), x3, x4] ∧ RdSt A (.lst ((kdLns kd).map (fun l => Dv.d (.str l.line)) ++ [.d (.str Str.empty)])) (.lst ((kdLns kd).map (fun l => Dv.d (.str l.line)))) r μ ∧ RdOk i r ∧ Reads r i ((kdLns kd).drop i) kd) ?_ ?_ ?_
  · rintro i d α μ N hi ⟨r, x3, x4, rfl, st, kk, rd⟩ hN
    obtain ⟨x, hx, rfl⟩ := en_get hi
    rw [List.getElem?_map] at hx
    cases hl : (kdLns kd)[i]? with
    | none => rw [hl] at hx; cases hx
    | some l =>
      rw [hl] at hx
      obtain rfl : Dv.d (.str l.line) = x := Option.some.inj hx
      obtain ⟨hil, e⟩ := List.getElem?_eq_some_iff.mp hl
      rw [List.drop_eq_getElem_cons hil, e] at rd
      obtain ⟨fit, lok, rd⟩ := rd
      have hI := st.is
      row_cond go
      refine ⟨⟨_, rfl⟩, ?_⟩
      have hlf := (line_facts lok).2
      refine ⟨_, _, rfl, rfl, by decide, Nat.le_trans (Nat.add_le_add_right hlf 2) (show 65 ≤ sizeLine by decide), ?_⟩
      rw [line_split lok]
      row_cond go
      refine x_takes_line (st.app (r' := [.lst (strsD l.words)])) sqV_last lok fit kk (by omega) fun μ' st' => ?_
      row_cond go
      refine ⟨?_, hN _ _ ⟨_, _, _, rfl, st', kk.step lok, rd⟩⟩
      obtain ⟨items, g, rfl, _⟩ := st'
      rfl
  · rintro α μ ⟨r, x3, x4, rfl, st, kk, rd⟩
    rw [show (iwEn (Dv.ob (List.length ([rdIns A 0, MO.lst [], MO.lst []] ++ [MO.lst (List.map (fun l => Dv.d (Da.str l.line)) (kdLns kd) ++ [Dv.d (Da.str Str.empty)])]))) (List.map (fun l => Dv.d (Da.str l.line)) (kdLns kd))).items.length = (kdLns kd).length by
      show (enumD _).length = _
      rw [enumD_len, List.length_map], List.drop_length] at rd
    obtain rfl : r = kd := rd
    have h3 : sqV μ (.ob 3) = some ((kdLns r).map (fun l => Dv.d (.str l.line)) ++ [.d (.str Str.empty)]) := by
      obtain ⟨items, g, rfl, _⟩ := st
      rfl
    show k_Kind_of_text_2 A K _ _ _
    unfold k_Kind_of_text_2
    row_cond go
    refine ⟨_, ix_last h3, ?_⟩
    row_cond go
    refine ⟨_, len_ob h3, ?_⟩
    row_cond go
    rw [show decide (V.int ((List.map (fun l => Dv.d (Da.str l.line)) (kdLns r) ++ [Dv.d (Da.str Str.empty)]).length : Nat) = V.int 1) = false from decide_eq_false fun e => by
      have := V.int.inj e
      simp at this
      omega]
    obtain ⟨μ1, hz, hI, h1, h2⟩ := rd_free st ok.c0
    refine ⟨μ1, hz, ?_⟩
    row_cond go
    refine x_Kind_init h1 h2 ⟨_, rfl, flds_are _⟩ ⟨_, rfl, cals_are _⟩ ok fun r' hr => ?_
    row_cond go
    exact h
  · exact ⟨⟨[], [], 0⟩, none, none, rfl, ⟨[], [], rfl, .inl ⟨rfl, rfl⟩⟩, ⟨by simp, by simp, by simp⟩, reads_kd ok⟩
end
end Mz
end
section
set_option Elab.async false
set_option linter.all false
set_option maxRecDepth 100000
set_option maxHeartbeats 1000000
namespace Mz
open PySem L2 TL
local macro_rules | `(tactic| row_cond sd) => `(tactic| first | exact rfl | exact True.intro | assumption | decide)
local macro_rules | `(tactic| row_cond st) => `(tactic| first
  | refine And.intro (by row_cond sd) ?_
  | refine ⟨_, by row_cond sd, ?_⟩
  | refine ⟨_, _, by row_cond sd, ?_⟩
  | refine ⟨_, _, by row_cond sd, by row_cond sd, ?_⟩
  | refine ⟨_, _, _, by row_cond sd, ?_⟩
  | refine ⟨_, _, _, by row_cond sd, by row_cond sd, ?_⟩
  | refine ⟨_, _, _, by row_cond sd, by row_cond sd, by row_cond sd, ?_⟩
  | refine ⟨_, _, _, _, by row_cond sd, ?_⟩
  | refine ⟨_, _, _, _, by row_cond sd, by row_cond sd, by row_cond sd, ?_⟩
  | refine ⟨_, _, _, _, by row_cond sd, by row_cond sd, by row_cond sd, by row_cond sd, ?_⟩
  | refine iteT ?_
  | refine iteF ?_)
local macro_rules | `(tactic| row_cond go) => `(tactic| repeat (row_cond st))
section
variable {A : Ad} {K : PySem.W.Frag} {E : Ex → Prop} {Q : Da → Prop}
def Fld.py (f : Fld) : PyData := .tuple [.str f.nm, .str f.sort, .bool f.need]
def Cal.rowPy (c : Cal) : PyData := .tuple [.str c.nm, .str c.hand, .tuple (c.moves.map PyData.int), .tuple (c.deeds.map pairPy), .tuple (c.same.map PyData.str)]
theorem pyD_fld (f : Fld) : pyD f.da = some f.py := rfl
theorem pyD_row (c : Cal) : pyD c.row = some c.rowPy := by
  unfold Cal.row Cal.rowPy
  simp only [pyD, pyDs]
  rw [pyDs_map (fun _ => rfl) c.moves, pyDs_map pyD_pair c.deeds, pyDs_map (fun _ => rfl) c.same]
  rfl
theorem sh_fld {f : Fld} (h : (Da.str f.nm).isWord = true) : Sh 1 f.py := by
  refine sh_tup fun q hq => ?_
  simp only [List.mem_cons, List.not_mem_nil, or_false] at hq
  rcases hq with rfl | rfl | rfl
  · exact sh_str h
  · exact sh_str (sort_word f)
  · exact sh_bl
theorem calW_of {fs : List Fld} {md : Int} {c : Cal} (fok : FldsOk fs) (ok : CalOk fs md c) : CalW c := by
  have h := calLns_ok fok ok
  have h1 := h (.cal c.nm c.hand c.moves) (by simp [calLns])
  exact ⟨h1.1, h1.2.1, fun p hp => h (.deed p) (by simp [calLns, hp]), fun s hs => h (.same s) (by simp [calLns, hs])⟩
theorem sh_row {c : Cal} (h : CalW c) : Sh 3 c.rowPy := by
  refine sh_tup fun q hq => ?_
  simp only [List.mem_cons, List.not_mem_nil, or_false] at hq
  rcases hq with rfl | rfl | rfl | rfl | rfl
  · exact sh_str h.nm
  · exact sh_str h.hd
  · refine sh_tup fun q hq => ?_
    obtain ⟨i, _, rfl⟩ := List.mem_map.mp hq
    exact sh_int
  · refine sh_tup fun q hq => ?_
    obtain ⟨p, hp, rfl⟩ := List.mem_map.mp hq
    exact sh_pair (h.dd p hp)
  · refine sh_tup fun q hq => ?_
    obtain ⟨p, hp, rfl⟩ := List.mem_map.mp hq
    exact sh_str (h.sm p hp)
theorem pyAt_flds {μ : MS} (fs : List Fld) : PyAt μ (.d (.lst (fs.map Fld.da))) (.list (fs.map Fld.py)) := .d (by simp only [pyD]; rw [pyDs_map pyD_fld]; rfl)
theorem pyAt_rows {μ : MS} (cs : List Cal) : PyAt μ (.d (.lst (cs.map Cal.row))) (.list (cs.map Cal.rowPy)) := .d (by simp only [pyD]; rw [pyDs_map pyD_row]; rfl)
theorem kit_self {K : PySem.W.Frag} {C : Addr} : PySem.W.kitOne K (.ref C) (.ref C) = some true := by
  unfold PySem.W.kitOne
  rw [if_pos (by simp)]
theorem x_Kind_eq {kd : KD} (oi : OwnI K A.Kind) (ok : KDOk kd) (h : Q (.bl true)) : m_Kind___eq__ A K [kindDa A kd, kindDa A kd] E Q := by
  have s1 : Sh 2 (.list (kd.fs.map Fld.py)) := sh_list fun p hp => by
    obtain ⟨f, hf, rfl⟩ := List.mem_map.mp hp
    exact sh_fld (ok.f.wd f hf)
  have s2 : Sh 4 (.list (kd.cs.map Cal.rowPy)) := sh_list fun p hp => by
    obtain ⟨c, hc, rfl⟩ := List.mem_map.mp hp
    exact sh_row (calW_of ok.f (ok.c c hc))
  unfold m_Kind___eq__
  refine ⟨rfl, ?_⟩
  unfold b_Kind___eq__
  row_cond go
  refine ⟨_, _, _, .ins rfl oi, rfl, kit_self, ?_⟩
  row_cond go
  rw [show decide (V.int kd.md = V.int kd.md) = true from decide_eq_true rfl]
  row_cond go
  refine ⟨_, _, pyAt_flds _, pyAt_flds _, s1.ok (by decide), s1.ok (by decide), ?_⟩
  rw [SeqAt.eqv_refl _ s1.1]
  row_cond go
  refine ⟨_, _, pyAt_rows _, pyAt_rows _, s2.ok (by decide), s2.ok (by decide), ?_⟩
  rw [SeqAt.eqv_refl _ s2.1]
  exact ⟨_, .d _, h⟩
/-! ### signs of the text -/
def Sg (s : Str) : Prop := ∀ k ∈ tl s, k < 1114112
theorem sg_word {s : Str} (h : (Da.str s).isWord = true) : Sg s := by
  simp only [Da.isWord, lowS, Bool.and_eq_true, decide_eq_true_eq, List.all_map, List.all_eq_true] at h
  obtain ⟨_, h3⟩ := h
  intro x hx
  have := h3 x hx
  simp only [Function.comp, id, decide_eq_true_eq] at this
  have hl : ∀ y ∈ LET.cps.toList, y < 1114112 := by decide
  exact hl x this
theorem joinL_mem {s : List Nat} {k : Nat} : ∀ {ls : List (List Nat)}, k ∈ joinL s ls → k ∈ s ∨ ∃ l ∈ ls, k ∈ l
  | [], h => by cases h
  | [l], h => .inr ⟨l, by simp, h⟩
  | l :: m :: r, h => by
    rcases List.mem_append.mp (show k ∈ l ++ (s ++ joinL s (m :: r)) from h) with h | h
    · exact .inr ⟨l, by simp, h⟩
    · rcases List.mem_append.mp h with h | h
      · exact .inl h
      · rcases joinL_mem h with h | ⟨z, hz, h⟩
        · exact .inl h
        · exact .inr ⟨z, List.mem_cons_of_mem _ hz, h⟩
theorem sg_num {m : Int} (h : Num m) : Sg (toS m) := by
  rcases num_cases h with rfl | rfl | rfl | rfl | rfl | rfl <;> (unfold Sg; decide)
theorem sg_line {l : Ln} (h : LnOk l) : Sg l.line := by
  have hw : ∀ w ∈ l.words, Sg w := by
    cases l with
    | modes m =>
      intro w hw
      simp only [Ln.words, List.mem_cons, List.not_mem_nil, or_false] at hw
      rcases hw with rfl | rfl
      · unfold Sg; decide
      · exact sg_num h.1
    | fld f =>
      intro w hw
      simp only [Ln.words, List.mem_append, List.mem_cons, List.not_mem_nil, or_false] at hw
      rcases hw with (rfl | rfl | rfl) | hw
      · unfold Sg; decide
      · exact sg_word h
      · exact sg_word (sort_word f)
      · cases hn : f.need with
        | true =>
          rw [hn] at hw
          have : w = "need" := by simpa using hw
          rw [this]; unfold Sg; decide
        | false => rw [hn] at hw; simp at hw
    | cal nm hand ms =>
      obtain ⟨h1, h2, h3, h4⟩ := h
      intro w hw
      simp only [Ln.words, List.mem_append, List.mem_cons, List.not_mem_nil, or_false] at hw
      rcases hw with (rfl | rfl | rfl) | hw
      · unfold Sg; decide
      · exact sg_word h1
      · exact sg_word h2
      · obtain ⟨m, hm, rfl⟩ := List.mem_map.mp hw
        exact sg_num (h4 m hm)
    | deed p =>
      intro w hw
      simp only [Ln.words, List.mem_cons, List.not_mem_nil, or_false] at hw
      rcases hw with rfl | rfl | rfl
      · unfold Sg; decide
      · exact sg_word h.1
      · exact sg_word h.2
    | same s =>
      intro w hw
      simp only [Ln.words, List.mem_cons, List.not_mem_nil, or_false] at hw
      rcases hw with rfl | rfl
      · unfold Sg; decide
      · exact sg_word h
  intro k hk
  have e : tl l.line = joinL [32] (l.words.map tl) := by
    unfold Ln.line
    rw [join_eq, tl_join]; rfl
  rw [e] at hk
  rcases joinL_mem hk with hk | ⟨z, hz, hk⟩
  · obtain rfl : k = 32 := by simpa using hk
    decide
  · obtain ⟨w, h1, rfl⟩ := List.mem_map.mp hz
    exact hw w h1 k hk
theorem sg_text {kd : KD} (ok : KDOk kd) : Sg (kdStr kd) := by
  intro k hk
  unfold kdStr at hk
  rw [lnText_tl] at hk
  rcases joinL_mem hk with hk | ⟨z, hz, hk⟩
  · obtain rfl : k = 10 := by simpa using hk
    decide
  · obtain ⟨w, h1, rfl⟩ := List.mem_map.mp hz
    rcases List.mem_append.mp h1 with h1 | h1
    · obtain ⟨l, hl, rfl⟩ := List.mem_map.mp h1
      exact sg_line (kdLns_ok ok l hl) k hk
    · obtain rfl : w = Str.empty := by simpa using h1
      exact absurd hk (by show k ∉ ([] : List Nat); simp)
theorem sh_sg {n : Nat} {s : Str} (h : Sg s) : Sh n (.str s) := by
  refine ⟨?_, by simp [PyData.depth]⟩
  show PyData.canLay0 (.str s) = true
  simp only [PyData.canLay0, PyData.strOk]
  rw [← Array.all_toList, List.all_eq_true]
  intro x hx
  simp only [decide_eq_true_eq]
  exact h x hx
theorem kitS2 {K : PySem.W.Frag} : PySem.W.kitAny K (.type "str") [.type "list", .type "tuple"] = some false := isT_data (K := K) (d := .str "")
theorem kitS4 {K : PySem.W.Frag} : PySem.W.kitAny K (.type "str") [.type "bool", .type "int", .type "list", .type "tuple"] = some false := by
  refine kitAny_cons (kit_ty (kit_all .str .bool)) (fun e => ?_) (fun e => by cases e)
  refine kitAny_cons (kit_ty (kit_all .str .int)) (fun e => ?_) (fun e => by cases e)
  exact kitS2
theorem x_law_same {s : Str} (hs : Sg s) (h : Q (.bl true)) : m_law_same A K 1 [.str s, .str s] E Q := by
  show ms_law_same (m_law_same A K 0) A K [.str s, .str s] E Q
  unfold ms_law_same
  refine ⟨rfl, ?_⟩
  unfold b_law_same
  row_cond go
  refine ⟨_, _, _, .str _, rfl, kitS2, by decide, ?_⟩
  row_cond go
  refine ⟨_, _, _, .str _, rfl, kit_ty (kit_all .str .int), ?_⟩
  row_cond go
  refine ⟨_, _, _, .str _, rfl, kitS4, by decide, ?_⟩
  row_cond go
  have s1 : Sh 0 (.str s) := sh_sg hs
  refine ⟨_, _, .d rfl, .d rfl, s1.ok (by decide), s1.ok (by decide), ?_⟩
  rw [SeqAt.eqv_refl _ s1.1]
  exact ⟨_, .d _, h⟩
end
end Mz
end
section
set_option Elab.async false
set_option linter.all false
set_option maxRecDepth 100000
set_option maxHeartbeats 1000000
namespace Mz
open PySem L2 TL
local macro_rules | `(tactic| row_cond sd) => `(tactic| first | exact rfl | exact True.intro | assumption | decide)
local macro_rules | `(tactic| row_cond st) => `(tactic| first
  | refine And.intro (by row_cond sd) ?_
  | refine ⟨_, by row_cond sd, ?_⟩
  | refine ⟨_, _, by row_cond sd, ?_⟩
  | refine ⟨_, _, by row_cond sd, by row_cond sd, ?_⟩
  | refine ⟨_, _, _, by row_cond sd, ?_⟩
  | refine ⟨_, _, _, by row_cond sd, by row_cond sd, ?_⟩
  | refine ⟨_, _, _, by row_cond sd, by row_cond sd, by row_cond sd, ?_⟩
  | refine ⟨_, _, _, _, by row_cond sd, ?_⟩
  | refine ⟨_, _, _, _, by row_cond sd, by row_cond sd, by row_cond sd, ?_⟩
  | refine ⟨_, _, _, _, by row_cond sd, by row_cond sd, by row_cond sd, by row_cond sd, ?_⟩
  | refine iteT ?_
  | refine iteF ?_)
local macro_rules | `(tactic| row_cond go) => `(tactic| repeat (row_cond st))
local macro_rules | `(tactic| row_cond ln) => `(tactic| (refine Nat.le_trans (m := 1000) ?_ line_k; (try simp only [app_len, lt_emp, lt_modes, lt_field, lt_do, lt_same, lt_sp, lt_nl, lt_need, lt_none]); omega))
section
variable {A : Ad} {K : PySem.W.Frag} {D : En}
theorem x_law (oi : OwnI K A.Kind) (hD : ∀ μ, D.rt (.d (.bl true)) μ) (hE : D.er = noX) : b_law A K D [none, some (.d .st), none, none, none, none] [] := by
  unfold b_law
  show bFor (miR1 (mCons (mC (.d (.int 5))) mNil)) (nName 2) (l_law_1 A K) _ _ _
  refine ⟨5, rfl, by decide, trivial, ?_⟩
  refine loop_by (fun i α μ => ∃ x2 x3 x4 x5, α = [none, some (.d .st), x2, x3, x4, x5]) ?_ ?_ ⟨none, none, none, none, rfl⟩
  · rintro i d α μ N hi ⟨x2, x3, x4, x5, rfl⟩ hN
    unfold l_law_1
    row_cond go
    refine x_law_kind (by decide) (by decide) (by decide) (by decide) (by decide) (by decide) fun kd dr => ?_
    have ok := dr.ok
    have hln := kdLns_len ok
    have hok := kdLns_ok ok
    have hsum := text_sum ok
    have hsg := sg_text ok
    row_cond go
    refine ⟨⟨_, rfl⟩, ?_⟩
    row_cond go
    refine x_law_lines ok ?_
    have hj : Txt.join "" (((kdLns kd).map Ln.line).map fun x : Str => x ++ ("\n" : Str)) = kdStr kd := rfl
    generalize kdLns kd = ls at hln hok hsum hj ⊢
    row_cond go
    rw [List.map_map]
    refine lc_name (fun l : Ln => .d (.str l.line)) (fun l => .d (.str (l.line ++ ("\n" : Str)))) (by show some _ = _; rw [List.map_map]) ls [] (fun l hl P hP => ?_) (by simp; omega) ?_
    · have hz := (line_facts (hok l hl)).2
      row_cond go
      refine ⟨by row_cond ln, ?_⟩
      exact hP
    refine ⟨_, _, (ls.map Ln.line).map fun x : Str => x ++ ("\n" : Str), rfl, rfl, ?_, hsum, ?_⟩
    · rw [sqV_last]
      simp [strsD]
    rw [hj]
    row_cond go
    refine x_Kind_text ok ?_
    row_cond go
    refine x_law_same hsg ?_
    row_cond go
    refine x_Kind_of_text ok ?_
    row_cond go
    refine ⟨⟨_, rfl⟩, ⟨_, rfl⟩, ?_⟩
    row_cond go
    refine x_Kind_eq oi ok ?_
    row_cond go
    refine x_Kind_of_text ok ?_
    row_cond go
    refine x_Kind_text ok ?_
    row_cond go
    refine x_law_same hsg ?_
    row_cond go
    exact hN _ _ ⟨_, _, _, _, rfl⟩
  · rintro α μ ⟨x2, x3, x4, x5, rfl⟩
    exact hD μ
end
end Mz
end
section
set_option Elab.async false
set_option linter.all false
set_option maxRecDepth 100000
set_option maxHeartbeats 1000000
namespace Mz
open PySem L2 TL
local macro_rules | `(tactic| row_cond sd) => `(tactic| first | exact rfl | exact True.intro | assumption | decide)
local macro_rules | `(tactic| row_cond st) => `(tactic| first
  | refine And.intro (by row_cond sd) ?_
  | refine ⟨_, by row_cond sd, ?_⟩
  | refine ⟨_, _, by row_cond sd, ?_⟩
  | refine ⟨_, _, by row_cond sd, by row_cond sd, ?_⟩
  | refine ⟨_, _, _, by row_cond sd, ?_⟩
  | refine ⟨_, _, _, by row_cond sd, by row_cond sd, ?_⟩
  | refine ⟨_, _, _, by row_cond sd, by row_cond sd, by row_cond sd, ?_⟩
  | refine ⟨_, _, _, _, by row_cond sd, ?_⟩
  | refine ⟨_, _, _, _, by row_cond sd, by row_cond sd, by row_cond sd, ?_⟩
  | refine ⟨_, _, _, _, by row_cond sd, by row_cond sd, by row_cond sd, by row_cond sd, ?_⟩
  | refine iteT ?_
  | refine iteF ?_)
local macro_rules | `(tactic| row_cond go) => `(tactic| repeat (row_cond st))
/-! ### rows of programs, plain -/
inductive Row where
  | make
  | call (nm : Str) (k : Nat) (w : Option Str)
def Row.das : Row → List Da
  | .make => [.str "make"]
  | .call nm k none => [.str nm, .int k]
  | .call nm k (some w) => [.str nm, .int k, .str w]
def Row.da (r : Row) : Da := .tup r.das
def calOf (kd : KD) (nm : Str) : Option Cal := kd.cs.find? fun c => decide (c.nm = nm)
abbrev takish : List Str := ["set", "add", "strike"]
def Cal.tk (c : Cal) : Bool := c.deeds.any fun p => decide (p.1 ∈ takish)
def Row.isLast (kd : KD) : Row → Bool
  | .make => false
  | .call nm _ _ => match calOf kd nm with
    | some c => decide (c.hand = "last")
    | none => false
/-- a row that may stand behind rs -/
def RowOk (kd : KD) (rs : List Row) : Row → Prop
  | .make => True
  | .call nm k w => ∃ c r, calOf kd nm = some c ∧ rs[k]? = some r ∧ r.isLast kd = false ∧ c.tk = w.isSome ∧ ∀ x, w = some x → (Da.str x).isWord = true
def Prog (kd : KD) (rs : List Row) : Prop := ∀ i r, rs[i]? = some r → RowOk kd (rs.take i) r
theorem calOf_nm {kd : KD} {nm : Str} {c : Cal} (h : calOf kd nm = some c) : c.nm = nm ∧ c ∈ kd.cs := by
  unfold calOf at h
  exact ⟨by simpa using List.find?_some h, List.mem_of_find?_eq_some h⟩
theorem calOf_split {kd : KD} {nm : Str} {c : Cal} (h : calOf kd nm = some c) : ∃ as bs, kd.cs = as ++ c :: bs ∧ ∀ x ∈ as, x.nm ≠ nm := by
  unfold calOf at h
  obtain ⟨_, as, bs, e, hn⟩ := List.find?_eq_some_iff_append.mp h
  exact ⟨as, bs, e, fun x hx => by simpa using hn x hx⟩
/-- a comprehension that changes nothing -/
theorem lc_fm {β : Type} (inj : β → Dv) (p : β → Bool) (f : β → Dv) {gd : MS → Prop} {g : GS} {t : TS'} {e : ES} {vs : List Nat} {α : Env'} {Q : List Dv → MS → Prop} {μ : MS} (hg : gd μ) (l : List β) (hl : l.length < 100000)
    (hs : ∀ (i : Nat) (x : β), l[i]? = some x → ∀ (P1 : DK) (P0 : MS → Prop), (p x = true → P1 (f x) μ) → (p x = false → P0 μ) → g (inj x) noX (wpD α vs) μ fun α2 μ2 => t noX α2 μ2 fun k μ3 => if k = true then e noX α2 μ3 P1 else P0 μ3)
    (h : Q ((l.filter p).map f) μ) : mLcL gd g t e vs α Q (l.map inj) [] μ := by
  refine lc_by (fun i acc μ' => acc = ((l.take i).filter p).map f ∧ μ' = μ) ?_ ?_ ⟨by simp, rfl⟩
  · rintro i d acc μ' N hi ⟨rfl, rfl⟩ hN
    obtain ⟨x, hx, rfl⟩ := map_get hi
    have hil := (List.getElem?_eq_some_iff.mp hx).1
    have e1 : l.take (i + 1) = l.take i ++ [x] := by rw [List.take_succ, hx]; rfl
    refine hs i x hx (fun y μ4 => (((l.take i).filter p).map f).length < sizeLine ∧ gd μ4 ∧ N (((l.take i).filter p).map f ++ [y]) μ4) (fun μ3 => gd μ3 ∧ N (((l.take i).filter p).map f) μ3) (fun hp => ⟨?_, hg, hN _ _ ⟨?_, rfl⟩⟩) (fun hp => ⟨hg, hN _ _ ⟨?_, rfl⟩⟩)
    · rw [List.length_map]
      have := List.length_filter_le p (l.take i)
      rw [List.length_take] at this
      exact Nat.lt_of_lt_of_le (m := 100000) (by omega) (by decide)
    · rw [e1, List.filter_append, List.map_append]; simp [hp]
    · rw [e1, List.filter_append, List.map_append]; simp [hp]
  · rintro acc μ' ⟨rfl, rfl⟩
    rw [List.length_map, List.take_length]; exact h
section
variable {A : Ad} {K : PySem.W.Frag} {E : Ex → Prop} {Q : Da → Prop}
theorem x_does_take {c : Cal} (hl : c.deeds.length ≤ 4) (h : Q (.bl c.tk)) : m_does_take A K [c.row] E Q := by
  unfold m_does_take
  refine ⟨rfl, ?_⟩
  unfold b_does_take
  row_cond go
  rw [List.map_map]
  refine lc_fm (fun p : Str × Str => .d (pairDa p)) (fun _ => true) (fun p => .d (.bl (decide (p.1 ∈ takish)))) (by show some _ = _; rw [List.map_map]) c.deeds (by omega) (fun i p hp P1 P0 h1 h0 => ?_) ?_
  · row_cond go
    have e0 := inV_strs (s := p.1) (ss := takish)
    have := h1 rfl
    rw [← e0] at this
    exact this
  rw [List.filter_eq_self.mpr (by simp)]
  refine ⟨_, _, c.deeds.map fun p => decide (p.1 ∈ takish), rfl, lsV_last, ?_, ?_⟩
  · have := bls_map (c.deeds.map fun p => decide (p.1 ∈ takish))
    rw [List.map_map] at this
    exact this
  refine ⟨_, .d _, ?_⟩
  rw [List.any_map]
  exact h
theorem x_contains {kd : KD} {nm : Str} {c : Cal} (hc : calOf kd nm = some c) (h : Q (.bl true)) : m_Kind___contains__ A K [kindDa A kd, .str nm] E Q := by
  unfold m_Kind___contains__
  refine ⟨rfl, ?_⟩
  unfold b_Kind___contains__
  row_cond go
  refine ⟨_, _, _, .str _, rfl, kit_ty (kit_all .str .str), ?_⟩
  row_cond go
  obtain ⟨e, hm⟩ := calOf_nm hc
  refine oIn_b (ss := kd.cs.map Cal.nm) true (decide_eq_true (by rw [← e]; exact List.mem_map_of_mem hm)) (by simp [sqV]) ?_
  exact ⟨_, .d _, h⟩
theorem x_number_of2 {kd : KD} {nm : Str} {c : Cal} (hc : calOf kd nm = some c) (h : ∀ j : Nat, kd.cs[j]? = some c → Q (.int j)) : m_Kind_number_of A K [kindDa A kd, .str nm] E Q := by
  obtain ⟨e, hm⟩ := calOf_nm hc
  unfold m_Kind_number_of
  refine ⟨rfl, ?_⟩
  unfold b_Kind_number_of
  row_cond go
  refine ⟨_, _, _, .str _, rfl, kit_ty (kit_all .str .str), ?_⟩
  row_cond go
  refine oIn_b (ss := kd.cs.map Cal.nm) true (decide_eq_true (by rw [← e]; exact List.mem_map_of_mem hm)) (by simp [sqV]) ?_
  row_cond go
  obtain ⟨as, bs, e1, e2⟩ := calOf_split hc
  refine ⟨_, (kd.cs.map Cal.nm).map V.str, _, .str nm, as.length, .str nm, rfl, rfl, ?_, rfl, ?_, ?_, ?_, ?_⟩
  · rw [List.map_map]
    exact pVs_strs _
  · rw [e1]; simp [e]
  · simp [eqV]
  · intro m z hm' hz
    rw [e1] at hz
    simp only [List.map_append, List.map_cons, List.map_map] at hz
    rw [List.getElem?_append_left (by simpa using hm'), List.getElem?_map] at hz
    cases q : as[m]? with
    | none => rw [q] at hz; cases hz
    | some x =>
      rw [q] at hz
      have hx : V.str x.nm = z := Option.some.inj hz
      subst hx
      have hne := e2 x (List.mem_of_getElem? q)
      simp [eqV, hne]
  · exact ⟨_, .d _, h _ (by rw [e1]; simp)⟩
theorem x_getitem {kd : KD} {nm : Str} {c : Cal} (hc : calOf kd nm = some c) (h : Q c.drawn) : m_Kind___getitem__ A K [kindDa A kd, .str nm] E Q := by
  unfold m_Kind___getitem__
  refine ⟨rfl, ?_⟩
  unfold b_Kind___getitem__
  row_cond go
  obtain ⟨as, bs, e1, e2⟩ := calOf_split hc
  refine loop_by (fun i α μ => ∃ x2, α = [some (.d (kindDa A kd)), some (.d (.str nm)), x2] ∧ μ = [] ∧ ∀ (j : Nat) (x : Cal), j < i → kd.cs[j]? = some x → x.nm ≠ nm) ?_ ?_ ⟨none, rfl, rfl, fun j x hj => absurd hj (by omega)⟩
  · rintro i d α μ N hi ⟨x2, rfl, rfl, hp⟩ hN
    obtain ⟨x, hx, rfl⟩ := map_get hi
    rw [List.getElem?_map] at hx
    cases q : kd.cs[i]? with
    | none => rw [q] at hx; cases hx
    | some y =>
      rw [q] at hx
      obtain rfl : y.row = x := Option.some.inj hx
      unfold l_Kind___getitem___1
      row_cond go
      refine ⟨_, _, _, .str _, rfl, kit_ty (kit_all .str .str), ?_⟩
      row_cond go
      by_cases hn : y.nm = nm
      · rw [show decide (V.str y.nm = V.str nm) = true from decide_eq_true (by rw [hn])]
        obtain rfl : y = c := by
          have h1 : i = as.length := by
            rcases Nat.lt_trichotomy i as.length with hl | hl | hl
            · exfalso
              rw [e1, List.getElem?_append_left hl] at q
              exact e2 y (List.mem_of_getElem? q) hn
            · exact hl
            · exact absurd (calOf_nm hc).1 (hp as.length c hl (by rw [e1]; simp))
          rw [h1, e1] at q
          simpa using q.symm
        row_cond go
        refine ⟨show 5 ≤ sizeLine by decide, ?_⟩
        exact ⟨_, .tp (.cons (.d _) (.cons (.d _) (.cons (.lst rfl (.map _ _)) (.cons (.lst rfl (.map _ _)) (.cons (.lst rfl (.map _ _)) .nil))))), h⟩
      · rw [show decide (V.str y.nm = V.str nm) = false from decide_eq_false fun z => hn (V.str.inj z)]
        row_cond go
        refine hN _ _ ⟨_, rfl, rfl, fun j x hj hx => ?_⟩
        rcases Nat.lt_succ_iff_lt_or_eq.mp hj with hj | rfl
        · exact hp j x hj hx
        · rw [q] at hx; cases hx; exact hn
  · rintro α μ ⟨x2, rfl, rfl, hp⟩
    exfalso
    refine hp as.length c ?_ (by rw [e1]; simp) (calOf_nm hc).1
    show as.length < (List.map Dv.d (List.map Cal.row kd.cs)).length
    rw [e1]; simp
theorem x_takes {kd : KD} {nm : Str} {c : Cal} (ok : KDOk kd) (hc : calOf kd nm = some c) (h : Q (.bl c.tk)) : m_Kind_takes A K [kindDa A kd, .str nm] E Q := by
  unfold m_Kind_takes
  refine ⟨rfl, ?_⟩
  unfold b_Kind_takes
  row_cond go
  refine x_number_of2 hc fun j hj => ?_
  row_cond go
  refine ⟨c.row |> Dv.d, ?_, ?_⟩
  · exact ix_items (d := .lst (kd.cs.map Cal.row)) rfl rfl (by rw [List.getElem?_map, hj]; rfl) _
  row_cond go
  refine x_does_take (ok.c c (calOf_nm hc).2).dl ?_
  exact ⟨_, .d _, h⟩
theorem str_dec {a b : Str} : decide (V.str a = V.str b) = decide (a = b) := decide_eq_decide.mpr ⟨V.str.inj, congrArg V.str⟩
theorem int_dec {a b : Int} : decide (V.int a = V.int b) = decide (a = b) := decide_eq_decide.mpr ⟨V.int.inj, congrArg V.int⟩
theorem Row.das_len (r : Row) : r.das.length = match r with
    | .make => 1
    | .call _ _ none => 2
    | .call _ _ (some _) => 3 := by
  cases r with
  | make => rfl
  | call nm k w => cases w <;> rfl
theorem x_is_last_row {kd : KD} {r : Row} (ok : ∀ nm k w, r = .call nm k w → ∃ c, calOf kd nm = some c) (h : Q (.bl (r.isLast kd))) : m_is_last_row A K [kindDa A kd, r.da] E Q := by
  unfold m_is_last_row
  refine ⟨rfl, ?_⟩
  unfold b_is_last_row
  cases r with
  | make =>
    row_cond go
    exact ⟨_, .d _, h⟩
  | call nm k w =>
    obtain ⟨c, hc⟩ := ok nm k w rfl
    have hl : (Row.call nm k w).isLast kd = decide (c.hand = "last") := by simp only [Row.isLast, hc]
    rw [hl] at h
    cases w with
    | none =>
      row_cond go
      refine ⟨⟨_, rfl⟩, ?_⟩
      row_cond go
      refine x_getitem hc ?_
      row_cond go
      rw [str_dec]
      exact ⟨_, .d _, h⟩
    | some x =>
      row_cond go
      refine ⟨⟨_, rfl⟩, ?_⟩
      row_cond go
      refine x_getitem hc ?_
      row_cond go
      rw [str_dec]
      exact ⟨_, .d _, h⟩
end
section
variable {A : Ad} {K : PySem.W.Frag} {E : XS} {Q : DK} {μ : MS}
theorem kitL2 {K : PySem.W.Frag} : PySem.W.kitAny K (.type "list") [.type "list", .type "tuple"] = some true := isT_data (K := K) (d := .lst [])
theorem kitT2 {K : PySem.W.Frag} : PySem.W.kitAny K (.type "tuple") [.type "list", .type "tuple"] = some true := isT_data (K := K) (d := .tup [])
theorem sq_ty {d : Dv} {xs : List Dv} (h : sqV μ d = some xs) : TyD K μ d (.type "list") ∨ TyD K μ d (.type "tuple") := by
  cases d with
  | d x =>
    cases x with
    | lst ys => exact .inl (.lst rfl)
    | tup ys => exact .inr (.tup rfl)
    | _ => cases h
  | ob n => exact .inl (.lst h)
  | tp ys => exact .inr (.tup rfl)
theorem x_is_list_o {d : Dv} {xs : List Dv} (hd : sqV μ d = some xs) (h : Q (.d (.bl true)) μ) : m_is_list_o A K [d] E μ Q := by
  unfold m_is_list_o
  refine ⟨rfl, ?_⟩
  unfold b_is_list_o
  rcases sq_ty (K := K) hd with ht | ht
  · row_cond go
    exact h
  · row_cond go
    exact h
theorem x_is_call_row {kd : KD} {rs : List Row} {r : Nat} {nm : Str} {k : Nat} {w : Option Str} (ok : KDOk kd) (hr : sqV μ (.ob r) = some (rs.map fun x => .d x.da)) (hk : RowOk kd rs (.call nm k w)) (hp : Prog kd rs) (h : Q (.d (.bl true)) μ) : m_is_call_row A K [.d (kindDa A kd), .d (Row.call nm k w).da, .ob r] E μ Q := by
  obtain ⟨c, x, hc, hx, hl, ht, hw⟩ := hk
  unfold m_is_call_row
  refine ⟨rfl, ?_⟩
  unfold b_is_call_row
  have hkl : k < rs.length := (List.getElem?_eq_some_iff.mp hx).1
  have hlr : ∀ nm' k' w', x = .call nm' k' w' → ∃ c, calOf kd nm' = some c := fun nm' k' w' e => by
    have := hp k x hx
    rw [e] at this
    obtain ⟨c, _, hc, _⟩ := this
    exact ⟨c, hc⟩
  cases w with
  | none =>
    row_cond go
    refine x_is_list rfl ?_
    row_cond go
    refine ⟨⟨_, rfl⟩, ?_⟩
    row_cond go
    refine x_contains hc ?_
    row_cond go
    refine ⟨_, len_ob hr, ?_⟩
    row_cond go
    refine x_is_between rfl ?_
    rw [show Da.isBet (.int (k : Nat)) 0 (((rs.map fun x => Dv.d x.da).length : Nat) - 1) = true by
      simp only [Da.isBet, List.length_map]
      simp; omega]
    row_cond go
    refine ⟨_, ix_ob hr rfl (by rw [List.getElem?_map, hx]; rfl), ?_⟩
    row_cond go
    refine x_is_last_row hlr ?_
    rw [hl]
    row_cond go
    refine x_takes ok hc ?_
    rw [ht]
    row_cond go
    exact h
  | some y =>
    row_cond go
    refine x_is_list rfl ?_
    row_cond go
    refine ⟨⟨_, rfl⟩, ?_⟩
    row_cond go
    refine x_contains hc ?_
    row_cond go
    refine ⟨_, len_ob hr, ?_⟩
    row_cond go
    refine x_is_between rfl ?_
    rw [show Da.isBet (.int (k : Nat)) 0 (((rs.map fun x => Dv.d x.da).length : Nat) - 1) = true by
      simp only [Da.isBet, List.length_map]
      simp; omega]
    row_cond go
    refine ⟨_, ix_ob hr rfl (by rw [List.getElem?_map, hx]; rfl), ?_⟩
    row_cond go
    refine x_is_last_row hlr ?_
    rw [hl]
    row_cond go
    refine x_takes ok hc ?_
    rw [ht]
    row_cond go
    refine x_is_word rfl (word_short (hw y rfl)) ?_
    rw [hw y rfl]
    exact h
end
end Mz
end
section
set_option Elab.async false
set_option linter.all false
set_option maxRecDepth 100000
set_option maxHeartbeats 1000000
namespace Mz
open PySem L2 TL
local macro_rules | `(tactic| row_cond sd) => `(tactic| first | exact rfl | exact True.intro | assumption | decide)
local macro_rules | `(tactic| row_cond st) => `(tactic| first
  | refine And.intro (by row_cond sd) ?_
  | refine ⟨_, by row_cond sd, ?_⟩
  | refine ⟨_, _, by row_cond sd, ?_⟩
  | refine ⟨_, _, by row_cond sd, by row_cond sd, ?_⟩
  | refine ⟨_, _, _, by row_cond sd, ?_⟩
  | refine ⟨_, _, _, by row_cond sd, by row_cond sd, ?_⟩
  | refine ⟨_, _, _, by row_cond sd, by row_cond sd, by row_cond sd, ?_⟩
  | refine ⟨_, _, _, _, by row_cond sd, ?_⟩
  | refine ⟨_, _, _, _, by row_cond sd, by row_cond sd, by row_cond sd, ?_⟩
  | refine ⟨_, _, _, _, by row_cond sd, by row_cond sd, by row_cond sd, by row_cond sd, ?_⟩
  | refine iteT ?_
  | refine iteF ?_)
local macro_rules | `(tactic| row_cond go) => `(tactic| repeat (row_cond st))
section
variable {A : Ad} {K : PySem.W.Frag} {E : XS} {Q : DK} {μ : MS}
abbrev rowsD (rs : List Row) : List Dv := rs.map fun x => .d x.da
theorem sqD_app {r : MS} {d : Dv} {xs : List Dv} (h : sqV μ d = some xs) : sqV (μ ++ r) d = some xs := by
  cases d with
  | d x => cases x <;> exact h
  | tp ys => exact h
  | ob n => exact sqV_app h
theorem Prog.take {kd : KD} {rs : List Row} (h : Prog kd rs) (n : Nat) : Prog kd (rs.take n) := by
  intro i r hi
  have hi2 : i < n ∧ rs[i]? = some r := by
    rw [List.getElem?_take] at hi
    split at hi
    · exact ⟨by assumption, hi⟩
    · cases hi
  have := h i r hi2.2
  rw [List.take_take, Nat.min_eq_left (by omega)]
  exact this
theorem mk_da (r : Row) : mkTup (r.das.map .d) = .d r.da := by
  unfold mkTup
  rw [allD_map]; rfl
theorem x_checked_rows {kd : KD} {rs : List Row} {d : Dv} {e : Nat} (ok : KDOk kd) (hp : Prog kd rs) (hd : sqV μ d = some (rowsD rs)) (he : sqV μ (.ob e) = some []) (hn : rs.length ≤ 900) (h : Q (.ob μ.length) (μ ++ [.lst (rowsD rs)])) : m_checked_rows A K [.d (kindDa A kd), d, .ob e] E μ Q := by
  unfold m_checked_rows
  refine ⟨rfl, ?_⟩
  unfold b_checked_rows
  row_cond go
  refine x_is_list_o hd ?_
  row_cond go
  refine ⟨_, sqD_app hd, sqD_app hd, ?_⟩
  refine loop_by (fun i α ν => ∃ x4 x5, α = [some (.d (kindDa A kd)), some d, some (.ob e), some (.ob μ.length), x4, x5] ∧ ν = μ ++ [.lst (rowsD (rs.take i))]) ?_ ?_ ?_
  · rintro i y α ν N hi ⟨x4, x5, rfl, rfl⟩ hN
    obtain ⟨r, hr, rfl⟩ := map_get hi
    have hok := hp i r hr
    have hil := (List.getElem?_eq_some_iff.mp hr).1
    have e1 : rs.take (i + 1) = rs.take i ++ [r] := by rw [List.take_succ, hr]; rfl
    unfold l_checked_rows_1
    have hfin : ∀ x5', (∀ α' μ', (∃ x4 x5, α' = [some (.d (kindDa A kd)), some d, some (.ob e), some (.ob μ.length), x4, x5] ∧ μ' = μ ++ [.lst (rowsD (rs.take (i + 1)))]) → N α' μ') → sqV (μ ++ [.lst (rowsD (rs.take i ++ [r]))]) d = some (rowsD rs) ∧ N [some (.d (kindDa A kd)), some d, some (.ob e), some (.ob μ.length), some (.d r.da), x5'] (μ ++ [.lst (rowsD (rs.take i ++ [r]))]) := fun x5' hN => ⟨sqD_app hd, hN _ _ ⟨_, _, rfl, by rw [e1]⟩⟩
    have hls := ls_some (lsV_last (μ := μ) (ys := rowsD (rs.take i)))
    have hlen : (rowsD (rs.take i)).length < sizeLine := by
      rw [List.length_map]
      have := List.length_take_le i rs
      exact small1000 (by omega)
    cases r with
    | make =>
      row_cond go
      refine x_is_row (xs := [.str "make"]) (n := 1) rfl ?_
      row_cond go
      refine ⟨_, _, _, .str _, rfl, kit_ty (kit_all .str .str), ?_⟩
      row_cond go
      refine ⟨_, _, _, rfl, rfl, get_last, hlen, ?_⟩
      rw [set_mid]
      have := hfin (some (.d (.bl true))) hN
      rw [show rowsD (rs.take i ++ [Row.make]) = rowsD (rs.take i) ++ [.d Row.make.da] by simp] at this
      exact this
    | call nm k w =>
      row_cond go
      refine x_is_row (xs := (Row.call nm k w).das) (n := 1) rfl ?_
      rw [show decide ((Row.call nm k w).das.length = 1) = false by cases w <;> rfl]
      row_cond go
      refine x_is_call_row ok (rs := rs.take i) sqV_last hok (hp.take i) ?_
      row_cond go
      rw [mk_da]
      refine ⟨_, _, _, rfl, rfl, get_last, hlen, ?_⟩
      rw [set_mid]
      have := hfin (some (.d (.bl false))) hN
      rw [show rowsD (rs.take i ++ [Row.call nm k w]) = rowsD (rs.take i) ++ [.d (Row.call nm k w).da] by simp] at this
      exact this
  · rintro α ν ⟨x4, x5, rfl, rfl⟩
    show k_checked_rows_2 A K _ _ _
    unfold k_checked_rows_2
    rw [show (iwSq d (rowsD rs)).items.length = rs.length by show (rowsD rs).length = _; simp, List.take_length]
    row_cond go
    exact h
  · exact ⟨none, none, rfl, by simp⟩
end
end Mz
end
section
set_option Elab.async false
set_option linter.all false
set_option maxRecDepth 100000
set_option maxHeartbeats 1000000
namespace Mz
open PySem L2 TL
local macro_rules | `(tactic| row_cond sd) => `(tactic| first | exact rfl | exact True.intro | assumption | decide)
local macro_rules | `(tactic| row_cond st) => `(tactic| first
  | refine And.intro (by row_cond sd) ?_
  | refine ⟨_, by row_cond sd, ?_⟩
  | refine ⟨_, _, by row_cond sd, ?_⟩
  | refine ⟨_, _, by row_cond sd, by row_cond sd, ?_⟩
  | refine ⟨_, _, _, by row_cond sd, ?_⟩
  | refine ⟨_, _, _, by row_cond sd, by row_cond sd, ?_⟩
  | refine ⟨_, _, _, by row_cond sd, by row_cond sd, by row_cond sd, ?_⟩
  | refine ⟨_, _, _, _, by row_cond sd, ?_⟩
  | refine ⟨_, _, _, _, by row_cond sd, by row_cond sd, by row_cond sd, ?_⟩
  | refine ⟨_, _, _, _, by row_cond sd, by row_cond sd, by row_cond sd, by row_cond sd, ?_⟩
  | refine iteT ?_
  | refine iteF ?_)
local macro_rules | `(tactic| row_cond go) => `(tactic| repeat (row_cond st))
/-! ### stores, plain -/
inductive Slot where
  | no
  | wd (w : Str)
  | ls (n : Nat)
def Slot.dv : Slot → Dv
  | .no => .d .non
  | .wd w => .d (.str w)
  | .ls n => .d (.int n)
structure Mkr where
  mode : Int
  slots : List Slot
structure Sto where
  ls : List (List Str)
  mks : List Mkr
abbrev mkO (A : Ad) (md : Int) (s : Nat) : MO := .ins A.Maker [("mode", .d (.int md)), ("slots", .ob s)]
abbrev slD (ss : List Slot) : MO := .lst (ss.map Slot.dv)
/-- a store and its makers among the objects; fx: other objects that stay as they are -/
structure StoAt (A : Ad) (kd : KD) (b : Nat) (fx : List (Nat × MO)) (so lo : Nat) (la : List Nat) (ms : List (Nat × Nat)) (S : Sto) (μ : MS) : Prop where
  st : μ[so]? = some (.ins A.Store [("kind", .d (kindDa A kd)), ("lists", .ob lo)])
  ll : μ[lo]? = some (.lst (la.map .ob))
  ln : la.length = S.ls.length
  l : ∀ (k i : Nat) (ws : List Str), la[k]? = some i → S.ls[k]? = some ws → μ[i]? = some (.lst (strsD ws))
  mn : ms.length = S.mks.length
  m : ∀ (k : Nat) (p : Nat × Nat) (mk : Mkr), ms[k]? = some p → S.mks[k]? = some mk → μ[p.1]? = some (mkO A mk.mode p.2) ∧ μ[p.2]? = some (slD mk.slots)
  nl : ∀ j k i : Nat, la[j]? = some i → la[k]? = some i → j = k
  nm : ∀ (j k : Nat) (p q : Nat × Nat), ms[j]? = some p → ms[k]? = some q → p.1 = q.1 → j = k
  ns : ∀ (j k : Nat) (p q : Nat × Nat), ms[j]? = some p → ms[k]? = some q → p.2 = q.2 → j = k
  d1 : ∀ i ∈ la, ∀ p ∈ ms, i ≠ p.2
  d2 : ∀ i ∈ la, i ≠ lo
  d3 : ∀ p ∈ ms, p.2 ≠ lo
  f : ∀ p ∈ fx, μ[p.1]? = some p.2 ∧ p.1 ∉ la ∧ (∀ q ∈ ms, p.1 ≠ q.1 ∧ p.1 ≠ q.2) ∧ p.1 ≠ lo
  bl : b ≤ lo ∧ (∀ i ∈ la, b ≤ i) ∧ ∀ p ∈ ms, b ≤ p.1 ∧ b ≤ p.2
theorem lt_of_get {α : Type} {l : List α} {i : Nat} {x : α} (h : l[i]? = some x) : i < l.length := (List.getElem?_eq_some_iff.mp h).1
theorem get_app {α : Type} {l r : List α} {i : Nat} {x : α} (h : l[i]? = some x) : (l ++ r)[i]? = some x := by rw [List.getElem?_append_left (lt_of_get h)]; exact h
theorem getSet {α : Type} {l : List α} {i j : Nat} {x o : α} (h : l[i]? = some x) (n : j ≠ i) : (l.set j o)[i]? = some x := by rw [List.getElem?_set_ne n]; exact h
theorem mem_get {α : Type} {l : List α} {i : Nat} {x : α} (h : l[i]? = some x) : x ∈ l := List.mem_of_getElem? h
section
variable {A : Ad} {K : PySem.W.Frag} {kd : KD} {b : Nat} {fx : List (Nat × MO)} {so lo : Nat} {la : List Nat} {ms : List (Nat × Nat)} {S : Sto} {μ : MS}
theorem StoAt.lget (h : StoAt A kd b fx so lo la ms S μ) {k i : Nat} (hi : la[k]? = some i) : ∃ ws, S.ls[k]? = some ws ∧ μ[i]? = some (.lst (strsD ws)) := by
  have hk : k < S.ls.length := by rw [← h.ln]; exact lt_of_get hi
  exact ⟨_, List.getElem?_eq_getElem hk, h.l k i _ hi (List.getElem?_eq_getElem hk)⟩
theorem StoAt.mget (h : StoAt A kd b fx so lo la ms S μ) {k : Nat} {p : Nat × Nat} (hi : ms[k]? = some p) : ∃ mk, S.mks[k]? = some mk ∧ μ[p.1]? = some (mkO A mk.mode p.2) ∧ μ[p.2]? = some (slD mk.slots) := by
  have hk : k < S.mks.length := by rw [← h.mn]; exact lt_of_get hi
  exact ⟨_, List.getElem?_eq_getElem hk, h.m k p _ hi (List.getElem?_eq_getElem hk)⟩
theorem StoAt.lmem (h : StoAt A kd b fx so lo la ms S μ) {i : Nat} (hi : i ∈ la) : ∃ ws, μ[i]? = some (.lst (strsD ws)) := by
  obtain ⟨k, hk⟩ := List.getElem?_of_mem hi
  obtain ⟨ws, _, h2⟩ := h.lget hk
  exact ⟨ws, h2⟩
theorem StoAt.mmem (h : StoAt A kd b fx so lo la ms S μ) {p : Nat × Nat} (hp : p ∈ ms) : ∃ mk : Mkr, μ[p.1]? = some (mkO A mk.mode p.2) ∧ μ[p.2]? = some (slD mk.slots) := by
  obtain ⟨k, hk⟩ := List.getElem?_of_mem hp
  obtain ⟨mk, _, h2⟩ := h.mget hk
  exact ⟨mk, h2⟩
/-- new objects behind -/
theorem StoAt.app (h : StoAt A kd b fx so lo la ms S μ) (r : MS) : StoAt A kd b fx so lo la ms S (μ ++ r) :=
  { h with st := get_app h.st, ll := get_app h.ll, l := fun k i ws h1 h2 => get_app (h.l k i ws h1 h2), m := fun k p mk h1 h2 => ⟨get_app (h.m k p mk h1 h2).1, get_app (h.m k p mk h1 h2).2⟩, f := fun p hp => ⟨get_app (h.f p hp).1, (h.f p hp).2⟩ }
theorem ne_kind {i j : Nat} {x y : MO} (h1 : μ[i]? = some x) (h2 : μ[j]? = some y) (hn : x ≠ y) : i ≠ j := fun e => by
  subst e
  rw [h1] at h2
  exact hn (Option.some.inj h2)
/-- the list at lists[k] is changed -/
theorem StoAt.setL (h : StoAt A kd b fx so lo la ms S μ) {k i : Nat} (hi : la[k]? = some i) (ws : List Str) : StoAt A kd b fx so lo la ms ⟨S.ls.set k ws, S.mks⟩ (μ.set i (.lst (strsD ws))) := by
  obtain ⟨w0, hk, h0⟩ := h.lget hi
  have him := mem_get hi
  refine { h with st := getSet h.st (ne_kind h0 h.st (by simp)), ll := getSet h.ll (h.d2 i him), ln := by simp [h.ln], l := fun k' i' ws' h1 h2 => ?_, m := fun k' p mk h1 h2 => ?_, f := fun p hp => ⟨getSet (h.f p hp).1 (fun e => (h.f p hp).2.1 (by rw [← e]; exact him)), (h.f p hp).2⟩ }
  · by_cases e : k' = k
    · subst e
      rw [hi] at h1
      cases h1
      rw [List.getElem?_set_self (lt_of_get h0)]
      simp only at h2
      rw [List.getElem?_set_self (lt_of_get hk)] at h2
      cases h2
      rfl
    · simp only at h2
      rw [List.getElem?_set_ne (Ne.symm e)] at h2
      exact getSet (h.l k' i' ws' h1 h2) fun e2 => e (h.nl k' k i' h1 (by rw [← e2]; exact hi))
  · obtain ⟨m1, m2⟩ := h.m k' p mk h1 h2
    exact ⟨getSet m1 (ne_kind h0 m1 (by simp)), getSet m2 (h.d1 i him p (mem_get h1))⟩
/-- a slot is changed -/
theorem StoAt.setS (h : StoAt A kd b fx so lo la ms S μ) {k : Nat} {p : Nat × Nat} {mk : Mkr} (hp : ms[k]? = some p) (hk : S.mks[k]? = some mk) (ss : List Slot) : StoAt A kd b fx so lo la ms ⟨S.ls, S.mks.set k ⟨mk.mode, ss⟩⟩ (μ.set p.2 (slD ss)) := by
  obtain ⟨h1, h2⟩ := h.m k p mk hp hk
  have hpm := mem_get hp
  refine { h with st := getSet h.st (ne_kind h2 h.st (by simp)), ll := getSet h.ll (h.d3 p hpm), l := fun k' i' ws' e1 e2 => getSet (h.l k' i' ws' e1 e2) (Ne.symm (h.d1 i' (mem_get e1) p hpm)), mn := by simp [h.mn], m := fun k' q mk' e1 e2 => ?_, f := fun q hq => ⟨getSet (h.f q hq).1 (Ne.symm ((h.f q hq).2.2.1 p hpm).2), (h.f q hq).2⟩ }
  simp only at e2
  by_cases e : k' = k
  · subst e
    rw [hp] at e1
    cases e1
    rw [List.getElem?_set_self (lt_of_get hk)] at e2
    cases e2
    exact ⟨getSet h1 (ne_kind h2 h1 (by simp)), by rw [List.getElem?_set_self (lt_of_get h2)]⟩
  · rw [List.getElem?_set_ne (Ne.symm e)] at e2
    obtain ⟨m1, m2⟩ := h.m k' q mk' e1 e2
    exact ⟨getSet m1 (ne_kind h2 m1 (by simp)), getSet m2 fun e3 => e (h.ns k' k q p e1 hp e3.symm)⟩
/-- the mode is changed -/
theorem StoAt.setM (h : StoAt A kd b fx so lo la ms S μ) {k : Nat} {p : Nat × Nat} {mk : Mkr} (hp : ms[k]? = some p) (hk : S.mks[k]? = some mk) (md : Int) : StoAt A kd b fx so lo la ms ⟨S.ls, S.mks.set k ⟨md, mk.slots⟩⟩ (μ.set p.1 (mkO A md p.2)) := by
  obtain ⟨h1, h2⟩ := h.m k p mk hp hk
  have hpm := mem_get hp
  refine { h with st := getSet h.st (ne_kind h1 h.st (by simp; intro _ e; exact absurd e (by decide))), ll := getSet h.ll (ne_kind h1 h.ll (by simp)), l := fun k' i' ws' e1 e2 => getSet (h.l k' i' ws' e1 e2) (ne_kind h1 (h.l k' i' ws' e1 e2) (by simp)), mn := by simp [h.mn], m := fun k' q mk' e1 e2 => ?_, f := fun q hq => ⟨getSet (h.f q hq).1 (Ne.symm ((h.f q hq).2.2.1 p hpm).1), (h.f q hq).2⟩ }
  simp only at e2
  by_cases e : k' = k
  · subst e
    rw [hp] at e1
    cases e1
    rw [List.getElem?_set_self (lt_of_get hk)] at e2
    cases e2
    exact ⟨by rw [List.getElem?_set_self (lt_of_get h1)], getSet h2 (ne_kind h1 h2 (by simp))⟩
  · rw [List.getElem?_set_ne (Ne.symm e)] at e2
    obtain ⟨m1, m2⟩ := h.m k' q mk' e1 e2
    exact ⟨getSet m1 fun e3 => e (h.nm k' k q p e1 hp e3.symm), getSet m2 (ne_kind h1 m2 (by simp))⟩
theorem len_out (h : StoAt A kd b fx so lo la ms S μ) : μ.length ∉ la ∧ (∀ p ∈ ms, μ.length ≠ p.1 ∧ μ.length ≠ p.2) ∧ μ.length ≠ lo ∧ ∀ p ∈ fx, p.1 ≠ μ.length := by
  refine ⟨fun hm => ?_, fun p hp => ?_, ?_, fun p hp => ?_⟩
  · obtain ⟨ws, e⟩ := h.lmem hm
    exact absurd (lt_of_get e) (by omega)
  · obtain ⟨mk, e1, e2⟩ := h.mmem hp
    have := lt_of_get e1
    have := lt_of_get e2
    exact ⟨by omega, by omega⟩
  · have := lt_of_get h.ll
    omega
  · have := lt_of_get (h.f p hp).1
    omega
/-- the list of lists is changed: entry k is the new object -/
theorem StoAt.newL (h : StoAt A kd b fx so lo la ms S μ) (hb : b ≤ μ.length) (ws : List Str) : StoAt A kd b fx so lo (la ++ [μ.length]) ms ⟨S.ls ++ [ws], S.mks⟩ ((μ ++ [MO.lst (strsD ws)]).set lo (.lst (la.map Dv.ob ++ [.ob μ.length]))) := by
  obtain ⟨o1, o2, o3, o4⟩ := len_out h
  have hll := lt_of_get h.ll
  refine { st := getSet (get_app h.st) (ne_kind h.ll h.st (by simp)), ll := ?_, ln := by simp [h.ln], l := fun k i w e1 e2 => ?_, mn := h.mn, m := fun k p mk e1 e2 => ?_, nl := fun j k i e1 e2 => ?_, nm := h.nm, ns := h.ns, d1 := fun i hi p hp => ?_, d2 := fun i hi => ?_, d3 := h.d3, f := fun p hp => ⟨getSet (get_app (h.f p hp).1) (Ne.symm (h.f p hp).2.2.2), fun hm => ?_, (h.f p hp).2.2⟩, bl := ⟨h.bl.1, fun i hi => ?_, h.bl.2.2⟩ }
  · rw [List.getElem?_set_self (by simp; omega)]; simp
  · simp only at e2
    rcases Nat.lt_trichotomy k la.length with hk | hk | hk
    · rw [List.getElem?_append_left hk] at e1
      rw [List.getElem?_append_left (by rw [← h.ln]; exact hk)] at e2
      exact getSet (get_app (h.l k i w e1 e2)) (Ne.symm (h.d2 i (mem_get e1)))
    · subst hk
      obtain rfl : μ.length = i := by simpa using e1
      rw [h.ln] at e2
      obtain rfl : ws = w := by simpa using e2
      exact getSet (by simp) (Ne.symm o3)
    · rw [List.getElem?_eq_none (by simp; omega)] at e1
      cases e1
  · obtain ⟨m1, m2⟩ := h.m k p mk e1 e2
    exact ⟨getSet (get_app m1) (ne_kind h.ll m1 (by simp)), getSet (get_app m2) (Ne.symm (h.d3 p (mem_get e1)))⟩
  · have key : ∀ j : Nat, (la ++ [μ.length])[j]? = some i → (la[j]? = some i ∧ i ≠ μ.length) ∨ (j = la.length ∧ i = μ.length) := fun j e => by
      rcases Nat.lt_trichotomy j la.length with hk | hk | hk
      · rw [List.getElem?_append_left hk] at e
        exact .inl ⟨e, fun z => o1 (by rw [← z]; exact mem_get e)⟩
      · subst hk
        exact .inr ⟨rfl, by simpa using e.symm⟩
      · rw [List.getElem?_eq_none (by simp; omega)] at e
        cases e
    rcases key j e1 with ⟨a1, a2⟩ | ⟨a1, a2⟩ <;> rcases key k e2 with ⟨b1, b2⟩ | ⟨b1, b2⟩
    · exact h.nl j k i a1 b1
    · exact absurd b2 a2
    · exact absurd a2 b2
    · omega
  · rcases List.mem_append.mp hi with hi | hi
    · exact h.d1 i hi p hp
    · obtain rfl : i = μ.length := by simpa using hi
      exact (o2 p hp).2
  · rcases List.mem_append.mp hi with hi | hi
    · exact h.d2 i hi
    · obtain rfl : i = μ.length := by simpa using hi
      exact o3
  · rcases List.mem_append.mp hm with hm | hm
    · exact (h.f p hp).2.1 hm
    · exact o4 p hp (by simpa using hm)
  · rcases List.mem_append.mp hi with hi | hi
    · exact h.bl.2.1 i hi
    · obtain rfl : i = μ.length := by simpa using hi
      exact hb
/-- entry k of the list of lists is the new object -/
theorem StoAt.repL (h : StoAt A kd b fx so lo la ms S μ) (hb : b ≤ μ.length) {k0 : Nat} (hk0 : k0 < la.length) (ws : List Str) : StoAt A kd b fx so lo (la.set k0 μ.length) ms ⟨S.ls.set k0 ws, S.mks⟩ ((μ ++ [MO.lst (strsD ws)]).set lo (.lst ((la.map Dv.ob).set k0 (.ob μ.length)))) := by
  obtain ⟨o1, o2, o3, o4⟩ := len_out h
  have hll := lt_of_get h.ll
  have hmem : ∀ i, i ∈ la.set k0 μ.length → i ∈ la ∨ i = μ.length := fun i hi => List.mem_or_eq_of_mem_set hi
  have key : ∀ (j i : Nat), (la.set k0 μ.length)[j]? = some i → (la[j]? = some i ∧ j ≠ k0 ∧ i ≠ μ.length) ∨ (j = k0 ∧ i = μ.length) := fun j i e => by
    by_cases hj : j = k0
    · subst hj
      rw [List.getElem?_set_self hk0] at e
      exact .inr ⟨rfl, (Option.some.inj e).symm⟩
    · rw [List.getElem?_set_ne (Ne.symm hj)] at e
      exact .inl ⟨e, hj, fun z => o1 (by rw [← z]; exact mem_get e)⟩
  refine { st := getSet (get_app h.st) (ne_kind h.ll h.st (by simp)), ll := ?_, ln := by simp [h.ln], l := fun k i w e1 e2 => ?_, mn := h.mn, m := fun k p mk e1 e2 => ?_, nl := fun j k i e1 e2 => ?_, nm := h.nm, ns := h.ns, d1 := fun i hi p hp => ?_, d2 := fun i hi => ?_, d3 := h.d3, f := fun p hp => ⟨getSet (get_app (h.f p hp).1) (Ne.symm (h.f p hp).2.2.2), fun hm => ?_, (h.f p hp).2.2⟩, bl := ⟨h.bl.1, fun i hi => ?_, h.bl.2.2⟩ }
  · rw [List.getElem?_set_self (by simp; omega), List.map_set]
  · simp only at e2
    rcases key k i e1 with ⟨a1, a2, a3⟩ | ⟨rfl, rfl⟩
    · rw [List.getElem?_set_ne (Ne.symm a2)] at e2
      exact getSet (get_app (h.l k i w a1 e2)) (Ne.symm (h.d2 i (mem_get a1)))
    · rw [List.getElem?_set_self (by rw [← h.ln]; exact hk0)] at e2
      obtain rfl : ws = w := Option.some.inj e2
      exact getSet (by simp) (Ne.symm o3)
  · obtain ⟨m1, m2⟩ := h.m k p mk e1 e2
    exact ⟨getSet (get_app m1) (ne_kind h.ll m1 (by simp)), getSet (get_app m2) (Ne.symm (h.d3 p (mem_get e1)))⟩
  · rcases key j i e1 with ⟨a1, a2, a3⟩ | ⟨a1, a2⟩ <;> rcases key k i e2 with ⟨b1, b2, b3⟩ | ⟨b1, b2⟩
    · exact h.nl j k i a1 b1
    · exact absurd b2 a3
    · exact absurd a2 b3
    · omega
  · rcases hmem i hi with hi | rfl
    · exact h.d1 i hi p hp
    · exact (o2 p hp).2
  · rcases hmem i hi with hi | rfl
    · exact h.d2 i hi
    · exact o3
  · rcases hmem _ hm with hm | e
    · exact (h.f p hp).2.1 hm
    · exact o4 p hp e
  · rcases hmem i hi with hi | rfl
    · exact h.bl.2.1 i hi
    · exact hb
/-- a new maker, its slots in a list of nobody -/
theorem StoAt.newM (h : StoAt A kd b fx so lo la ms S μ) (hb : b ≤ μ.length) {s : Nat} {ss : List Slot} (md : Int) (hs : μ[s]? = some (slD ss)) (n1 : s ∉ la) (n2 : ∀ p ∈ ms, s ≠ p.2) (n3 : s ≠ lo) (n4 : ∀ p ∈ fx, p.1 ≠ s) (n5 : b ≤ s) : StoAt A kd b fx so lo la (ms ++ [(μ.length, s)]) ⟨S.ls, S.mks ++ [⟨md, ss⟩]⟩ (μ ++ [mkO A md s]) := by
  obtain ⟨o1, o2, o3, o4⟩ := len_out h
  have hsl := lt_of_get hs
  have key : ∀ (j : Nat) (p : Nat × Nat), (ms ++ [(μ.length, s)])[j]? = some p → (ms[j]? = some p ∧ j < ms.length ∧ p ∈ ms) ∨ (j = ms.length ∧ p = (μ.length, s)) := fun j p e => by
    rcases Nat.lt_trichotomy j ms.length with hk | hk | hk
    · rw [List.getElem?_append_left hk] at e
      exact .inl ⟨e, hk, mem_get e⟩
    · subst hk
      exact .inr ⟨rfl, by simpa using e.symm⟩
    · rw [List.getElem?_eq_none (by simp; omega)] at e
      cases e
  have hmem : ∀ p, p ∈ ms ++ [(μ.length, s)] → p ∈ ms ∨ p = (μ.length, s) := fun p hp => by
    rcases List.mem_append.mp hp with hp | hp
    · exact .inl hp
    · exact .inr (by simpa using hp)
  refine { st := get_app h.st, ll := get_app h.ll, ln := h.ln, l := fun k i w e1 e2 => get_app (h.l k i w e1 e2), mn := by simp [h.mn], m := fun k p mk e1 e2 => ?_, nl := h.nl, nm := fun j k p q e1 e2 e3 => ?_, ns := fun j k p q e1 e2 e3 => ?_, d1 := fun i hi p hp => ?_, d2 := h.d2, d3 := fun p hp => ?_, f := fun p hp => ⟨get_app (h.f p hp).1, (h.f p hp).2.1, fun q hq => ?_, (h.f p hp).2.2.2⟩, bl := ⟨h.bl.1, h.bl.2.1, fun p hp => ?_⟩ }
  · simp only at e2
    rcases key k p e1 with ⟨a1, a2, a3⟩ | ⟨rfl, rfl⟩
    · rw [List.getElem?_append_left (by rw [← h.mn]; exact a2)] at e2
      exact ⟨get_app (h.m k p mk a1 e2).1, get_app (h.m k p mk a1 e2).2⟩
    · rw [h.mn] at e2
      obtain rfl : (⟨md, ss⟩ : Mkr) = mk := by simpa using e2
      exact ⟨by simp, get_app hs⟩
  · rcases key j p e1 with ⟨a1, a2, a3⟩ | ⟨rfl, rfl⟩ <;> rcases key k q e2 with ⟨b1, b2, b3⟩ | ⟨rfl, rfl⟩
    · exact h.nm j k p q a1 b1 e3
    · exact absurd e3.symm (o2 p a3).1
    · exact absurd e3 (o2 q b3).1
    · rfl
  · rcases key j p e1 with ⟨a1, a2, a3⟩ | ⟨rfl, rfl⟩ <;> rcases key k q e2 with ⟨b1, b2, b3⟩ | ⟨rfl, rfl⟩
    · exact h.ns j k p q a1 b1 e3
    · exact absurd e3.symm (n2 p a3)
    · exact absurd e3 (n2 q b3)
    · rfl
  · rcases hmem p hp with hp | rfl
    · exact h.d1 i hi p hp
    · exact fun e => n1 (by have e' : i = s := e; rw [← e']; exact hi)
  · rcases hmem p hp with hp | rfl
    · exact h.d3 p hp
    · exact n3
  · rcases hmem q hq with hq | rfl
    · exact (h.f p hp).2.2.1 q hq
    · exact ⟨o4 p hp, n4 p hp⟩
  · rcases hmem p hp with hp | rfl
    · exact h.bl.2.2 p hp
    · exact ⟨hb, n5⟩
end
end Mz
end
section
set_option Elab.async false
set_option linter.all false
set_option maxRecDepth 100000
set_option maxHeartbeats 1000000
namespace Mz
open PySem L2 TL
local macro_rules | `(tactic| row_cond sd) => `(tactic| first | exact rfl | exact True.intro | assumption | decide)
local macro_rules | `(tactic| row_cond st) => `(tactic| first
  | refine And.intro (by row_cond sd) ?_
  | refine ⟨_, by row_cond sd, ?_⟩
  | refine ⟨_, _, by row_cond sd, ?_⟩
  | refine ⟨_, _, by row_cond sd, by row_cond sd, ?_⟩
  | refine ⟨_, _, _, by row_cond sd, ?_⟩
  | refine ⟨_, _, _, by row_cond sd, by row_cond sd, ?_⟩
  | refine ⟨_, _, _, by row_cond sd, by row_cond sd, by row_cond sd, ?_⟩
  | refine ⟨_, _, _, _, by row_cond sd, ?_⟩
  | refine ⟨_, _, _, _, by row_cond sd, by row_cond sd, by row_cond sd, ?_⟩
  | refine ⟨_, _, _, _, by row_cond sd, by row_cond sd, by row_cond sd, by row_cond sd, ?_⟩
  | refine iteT ?_
  | refine iteF ?_)
local macro_rules | `(tactic| row_cond go) => `(tactic| repeat (row_cond st))
section
variable {A : Ad} {K : PySem.W.Frag} {kd : KD} {b : Nat} {fx : List (Nat × MO)} {so lo : Nat} {la : List Nat} {ms : List (Nat × Nat)} {S : Sto} {μ : MS} {E : XS} {Q : DK}
theorem big {n : Nat} (h : n < 100000) : n < sizeLine := Nat.lt_of_lt_of_le h (by decide)
theorem StoAt.isS (h : StoAt A kd b fx so lo la ms S μ) : isV μ (.ob so) = some (A.Store, ([("kind", .d (kindDa A kd)), ("lists", .ob lo)] : List (Str × Dv))) := by
  show (match μ[so]? with
    | some (.ins C fs) => some (C, fs)
    | some (.frz (.ins C fs)) => some (C, fs.map eD)
    | _ => none) = _
  rw [h.st]
theorem StoAt.isM (h : StoAt A kd b fx so lo la ms S μ) {k : Nat} {p : Nat × Nat} {mk : Mkr} (hp : ms[k]? = some p) (hk : S.mks[k]? = some mk) : isV μ (.ob p.1) = some (A.Maker, ([("mode", .d (.int mk.mode)), ("slots", .ob p.2)] : List (Str × Dv))) := by
  show (match μ[p.1]? with
    | some (.ins C fs) => some (C, fs)
    | some (.frz (.ins C fs)) => some (C, fs.map eD)
    | _ => none) = _
  rw [(h.m k p mk hp hk).1]
theorem x_keep {dw : Dv} {ws : List Str} (h : StoAt A kd b fx so lo la ms S μ) (hb : b ≤ μ.length) (hw : sqV μ dw = some (strsD ws)) (hz : S.ls.length < 99999)
    (k : ∀ la' μ', StoAt A kd b fx so lo la' ms ⟨S.ls ++ [ws], S.mks⟩ μ' → μ.length ≤ μ'.length → Q (.d (.int (S.ls.length : Nat))) μ') : m_Store_keep A K [.ob so, dw] E μ Q := by
  unfold m_Store_keep
  refine ⟨rfl, ?_⟩
  unfold b_Store_keep
  have hI := h.isS
  have hl := ls_some (ls_at h.ll)
  row_cond go
  have h1 := h.app [.lst (strsD ws)]
  have h2 := h.newL hb ws
  refine ⟨_, _, _, rfl, rfl, h1.ll, by rw [List.length_map, h.ln]; exact big (by omega), ?_⟩
  have hI2 := h2.isS
  row_cond go
  refine ⟨_, len_ob (sq_at h2.ll), ?_⟩
  row_cond go
  have := k _ _ h2 (by simp)
  show Q (.d (.int (((List.map Dv.ob (la ++ [List.length μ])).length : Int) - 1))) _
  rw [show ((List.map Dv.ob (la ++ [List.length μ])).length : Int) - 1 = (S.ls.length : Nat) by rw [List.length_map, List.length_append, h.ln]; simp]
  exact this
theorem x_Maker_init {md : Int} {s : Nat} (h : Q (.d .non) (μ ++ [mkO A md s])) : m_Maker___init__ A K [.ob μ.length, .d (.int md), .ob s] E (μ ++ [.ins A.Maker []]) Q := by
  unfold m_Maker___init__
  refine ⟨rfl, ?_⟩
  unfold b_Maker___init__
  row_cond go
  refine ⟨_, _, rfl, get_last, show 0 < 1000 by decide, ?_⟩
  rw [set_mid]
  row_cond go
  refine ⟨_, _, rfl, get_last, show 1 < 1000 by decide, ?_⟩
  rw [set_mid]
  exact h
def fStep (x : List Slot × List (List Str)) (f : Fld) : List Slot × List (List Str) := if f.many = true then (x.1 ++ [.ls x.2.length], x.2 ++ [[]]) else (x.1 ++ [.no], x.2)
def firstOf (fs : List Fld) (ls : List (List Str)) : List Slot × List (List Str) := fs.foldl fStep ([], ls)
theorem first_len (fs : List Fld) : ∀ x : List Slot × List (List Str), (fs.foldl fStep x).2.length ≤ x.2.length + fs.length := by
  induction fs with
  | nil => intro x; simp
  | cons f r ih =>
    intro x
    have := ih (fStep x f)
    have h1 : (fStep x f).2.length ≤ x.2.length + 1 := by unfold fStep; split <;> simp
    simp only [List.foldl_cons, List.length_cons]
    omega
theorem first_len1 (fs : List Fld) : ∀ x : List Slot × List (List Str), (fs.foldl fStep x).1.length = x.1.length + fs.length := by
  induction fs with
  | nil => intro x; simp
  | cons f r ih =>
    intro x
    have := ih (fStep x f)
    have h1 : (fStep x f).1.length = x.1.length + 1 := by unfold fStep; split <;> simp
    simp only [List.foldl_cons, List.length_cons]
    omega
theorem one_dec {f : Fld} : decide (V.str f.sort = V.str "one") = !f.many := by
  unfold Fld.sort
  cases f.many <;> decide
theorem x_first_maker (h : StoAt A kd b fx so lo la ms S μ) (hb : b ≤ μ.length) (ok : KDOk kd) (hz : S.ls.length < 99990)
    (k : ∀ la' p μ', StoAt A kd b fx so lo la' (ms ++ [p]) ⟨(firstOf kd.fs S.ls).2, S.mks ++ [⟨0, (firstOf kd.fs S.ls).1⟩]⟩ μ' → μ.length ≤ μ'.length → Q (.ob p.1) μ') : m_Store_first_maker A K [.ob so] E μ Q := by
  unfold m_Store_first_maker
  refine ⟨rfl, ?_⟩
  unfold b_Store_first_maker
  have hI := h.isS
  row_cond go
  have hfl := ok.f.le
  refine lc_by (fun i acc μ' => ∃ la', StoAt A kd b fx so lo la' ms ⟨(firstOf (kd.fs.take i) S.ls).2, S.mks⟩ μ' ∧ acc = (firstOf (kd.fs.take i) S.ls).1.map Slot.dv ∧ μ.length ≤ μ'.length) ?_ ?_ ⟨la, h, rfl, Nat.le_refl _⟩
  · rintro i d acc ν N hi ⟨la', h', rfl, hle⟩ hN
    obtain ⟨x, hx, rfl⟩ := map_get hi
    rw [List.getElem?_map] at hx
    cases q : kd.fs[i]? with
    | none => rw [q] at hx; cases hx
    | some f =>
      rw [q] at hx
      obtain rfl : f.da = x := Option.some.inj hx
      have e1 : kd.fs.take (i + 1) = kd.fs.take i ++ [f] := by rw [List.take_succ, q]; rfl
      have e2 : firstOf (kd.fs.take (i + 1)) S.ls = fStep (firstOf (kd.fs.take i) S.ls) f := by
        unfold firstOf
        rw [e1, List.foldl_append]; rfl
      have hl1 := first_len (kd.fs.take i) ([], S.ls)
      rw [List.length_take] at hl1
      have hacc : ((firstOf (kd.fs.take i) S.ls).1.map Slot.dv).length < sizeLine := by
        rw [List.length_map]
        have := first_len1 (kd.fs.take i) ([], S.ls)
        rw [List.length_take] at this
        refine big ?_
        show ((kd.fs.take i).foldl fStep ([], S.ls)).1.length < _
        simp at this
        omega
      row_cond go
      rw [one_dec]
      cases hm : f.many with
      | false =>
        row_cond go
        refine hN _ _ ⟨la', ?_, ?_, hle⟩
        · rw [e2]; unfold fStep; rw [hm]; exact h'
        · rw [e2]; unfold fStep; rw [hm]; simp [Slot.dv]
      | true =>
        have h1 := h'.app [.lst []]
        have hI' := h'.isS
        row_cond go
        refine x_keep h1 (by simp; omega) (ws := []) sqV_last (by show ((kd.fs.take i).foldl fStep ([], S.ls)).2.length < _; simp at hl1; omega) fun la2 μ2 h2 hl2 => ?_
        row_cond go
        refine hN _ _ ⟨la2, ?_, ?_, ?_⟩
        · rw [e2]; unfold fStep; rw [hm]; exact h2
        · rw [e2]; unfold fStep; rw [hm]; simp [Slot.dv]
        · simp at hl2; omega
  · rintro acc ν ⟨la', h', rfl, hle⟩
    rw [show (iwSq (Dv.d (Str.ofString "field_rows", Da.lst (List.map Fld.da kd.fs)).snd) (List.map Dv.d (List.map Fld.da kd.fs))).items.length = kd.fs.length by show (List.map Dv.d (List.map Fld.da kd.fs)).length = _; simp, List.take_length] at h' ⊢
    obtain ⟨o1, o2, o3, o4⟩ := len_out h'
    have h1 := h'.app [slD (firstOf kd.fs S.ls).1]
    have h2 := h1.newM (by simp; omega) (s := ν.length) (ss := (firstOf kd.fs S.ls).1) 0 (by simp) o1 (fun p hp => (o2 p hp).2) o3 o4 (by omega)
    row_cond go
    refine x_Maker_init ?_
    row_cond go
    exact k _ _ _ h2 (by simp; omega)
end
end Mz
end
section
set_option Elab.async false
set_option linter.all false
set_option maxRecDepth 100000
set_option maxHeartbeats 1000000
namespace Mz
open PySem L2 TL
local macro_rules | `(tactic| row_cond sd) => `(tactic| first | exact rfl | exact True.intro | assumption | decide)
local macro_rules | `(tactic| row_cond st) => `(tactic| first
  | refine And.intro (by row_cond sd) ?_
  | refine ⟨_, by row_cond sd, ?_⟩
  | refine ⟨_, _, by row_cond sd, ?_⟩
  | refine ⟨_, _, by row_cond sd, by row_cond sd, ?_⟩
  | refine ⟨_, _, _, by row_cond sd, ?_⟩
  | refine ⟨_, _, _, by row_cond sd, by row_cond sd, ?_⟩
  | refine ⟨_, _, _, by row_cond sd, by row_cond sd, by row_cond sd, ?_⟩
  | refine ⟨_, _, _, _, by row_cond sd, ?_⟩
  | refine ⟨_, _, _, _, by row_cond sd, by row_cond sd, by row_cond sd, ?_⟩
  | refine ⟨_, _, _, _, by row_cond sd, by row_cond sd, by row_cond sd, by row_cond sd, ?_⟩
  | refine iteT ?_
  | refine iteF ?_)
local macro_rules | `(tactic| row_cond go) => `(tactic| repeat (row_cond st))
section
variable {A : Ad} {K : PySem.W.Frag} {kd : KD} {b : Nat} {fx : List (Nat × MO)} {so lo : Nat} {la : List Nat} {ms : List (Nat × Nat)} {S : Sto} {μ : MS} {E : XS} {Q : DK}
/-- a new object that is nobody's -/
theorem StoAt.addF (h : StoAt A kd b fx so lo la ms S μ) (o : MO) : StoAt A kd b ((μ.length, o) :: fx) so lo la ms S (μ ++ [o]) := by
  obtain ⟨o1, o2, o3, o4⟩ := len_out h
  refine { h.app [o] with f := fun p hp => ?_ }
  rcases List.mem_cons.mp hp with rfl | hp
  · exact ⟨by simp, o1, o2, o3⟩
  · exact (h.app [o]).f p hp
theorem StoAt.setF {n : Nat} {o : MO} (h : StoAt A kd b ((n, o) :: fx) so lo la ms S μ) (hs : so ≠ n) (hn : ∀ p ∈ fx, p.1 ≠ n) (o' : MO) : StoAt A kd b ((n, o') :: fx) so lo la ms S (μ.set n o') := by
  obtain ⟨f1, f2, f3, f4⟩ := h.f (n, o) (by simp)
  refine { h with st := getSet h.st (Ne.symm hs), ll := getSet h.ll f4, l := fun k i ws e1 e2 => getSet (h.l k i ws e1 e2) (fun e => f2 (by show n ∈ la; rw [e]; exact mem_get e1)), m := fun k p mk e1 e2 => ⟨getSet (h.m k p mk e1 e2).1 (f3 p (mem_get e1)).1, getSet (h.m k p mk e1 e2).2 (f3 p (mem_get e1)).2⟩, f := fun p hp => ?_ }
  rcases List.mem_cons.mp hp with rfl | hp
  · exact ⟨by show (μ.set n o')[n]? = _; rw [List.getElem?_set_self (lt_of_get f1)], f2, f3, f4⟩
  · obtain ⟨g1, g2⟩ := h.f p (List.mem_cons_of_mem _ hp)
    exact ⟨getSet g1 (Ne.symm (hn p hp)), g2⟩
theorem StoAt.tlF {n : Nat} {o : MO} (h : StoAt A kd b ((n, o) :: fx) so lo la ms S μ) : StoAt A kd b fx so lo la ms S μ := { h with f := fun p hp => h.f p (List.mem_cons_of_mem _ hp) }
def copyStep (same : List Str) (x : List Slot × List (List Str)) (q : Fld × Slot) : List Slot × List (List Str) :=
  if q.1.many = false ∨ q.1.nm ∈ same then (x.1 ++ [q.2], x.2) else match q.2 with
    | .ls n => (x.1 ++ [.ls x.2.length], x.2 ++ [x.2.getD n []])
    | s => (x.1 ++ [s], x.2)
def copyOf (fs : List Fld) (same : List Str) (ss : List Slot) (ls : List (List Str)) : List Slot × List (List Str) := (fs.zip ss).foldl (copyStep same) ([], ls)
/-- each slot fits its field -/
def SlotOk (n : Nat) (f : Fld) (s : Slot) : Prop := f.many = true → ∃ k, s = .ls k ∧ k < n
structure MkrOk (fs : List Fld) (n : Nat) (ss : List Slot) : Prop where
  ln : ss.length = fs.length
  ok : ∀ (j : Nat) (f : Fld) (s : Slot), fs[j]? = some f → ss[j]? = some s → SlotOk n f s
theorem copy_len (same : List Str) (l : List (Fld × Slot)) : ∀ x : List Slot × List (List Str), x.2.length ≤ (l.foldl (copyStep same) x).2.length ∧ (l.foldl (copyStep same) x).2.length ≤ x.2.length + l.length ∧ (l.foldl (copyStep same) x).1.length = x.1.length + l.length := by
  induction l with
  | nil => intro x; simp
  | cons q r ih =>
    intro x
    obtain ⟨i0, i1, i2⟩ := ih (copyStep same x q)
    have h1 : x.2.length ≤ (copyStep same x q).2.length ∧ (copyStep same x q).2.length ≤ x.2.length + 1 ∧ (copyStep same x q).1.length = x.1.length + 1 := by
      unfold copyStep
      split
      · simp
      · split <;> simp
    simp only [List.foldl_cons, List.length_cons]
    omega
theorem zip_item {fs : List Fld} {ss : List Slot} {i : Nat} {d : Dv} (h : (zipD ((fs.map Fld.da).map .d) (ss.map Slot.dv))[i]? = some d) : ∃ f s, fs[i]? = some f ∧ ss[i]? = some s ∧ (fs.zip ss)[i]? = some (f, s) ∧ d = mkTup [.d f.da, s.dv] := by
  have hl := lt_of_get h
  rw [zipD_len] at hl
  simp only [List.length_map] at hl
  have h1 : i < fs.length := by omega
  have h2 : i < ss.length := by omega
  have e1 := List.getElem?_eq_getElem h1
  have e2 := List.getElem?_eq_getElem h2
  refine ⟨fs[i], ss[i], e1, e2, List.getElem?_zip_eq_some.mpr ⟨e1, e2⟩, ?_⟩
  rw [zipD_get (x := .d fs[i].da) (y := ss[i].dv) (by rw [List.getElem?_map, List.getElem?_map, e1]; rfl) (by rw [List.getElem?_map, e2]; rfl)] at h
  exact (Option.some.inj h).symm
theorem x_copy {j : Nat} {p : Nat × Nat} {mk : Mkr} {md : Int} {same : List Str} (h : StoAt A kd b fx so lo la ms S μ) (hb : b ≤ μ.length) (ok : KDOk kd) (hz : S.ls.length < 99990) (hp : ms[j]? = some p) (hk : S.mks[j]? = some mk) (hm : MkrOk kd.fs S.ls.length mk.slots)
    (k : ∀ la' q μ', StoAt A kd b fx so lo la' (ms ++ [q]) ⟨(copyOf kd.fs same mk.slots S.ls).2, S.mks ++ [⟨md, (copyOf kd.fs same mk.slots S.ls).1⟩]⟩ μ' → μ.length ≤ μ'.length → Q (.ob q.1) μ') : m_Store_copy A K [.ob so, .ob p.1, .d (.int md), .d (.lst (same.map Da.str))] E μ Q := by
  unfold m_Store_copy
  refine ⟨rfl, ?_⟩
  unfold b_Store_copy
  have h0 := h.addF (.lst [])
  obtain ⟨_, _, _, o4⟩ := len_out h
  have hso : so ≠ μ.length := by
    have := lt_of_get h.st
    omega
  have hI := h0.isS
  have hM := h0.isM hp hk
  have hfl := ok.f.le
  have hml := hm.ln
  row_cond go
  refine ⟨_, _, _, _, rfl, .inl ⟨rfl, ls_at (h0.m j p mk hp hk).2⟩, ⟨rfl, sq_at (h0.m j p mk hp hk).2⟩, ?_⟩
  refine loop_by (fun i α ν => ∃ x5 x6 la', α = [some (.ob so), some (.ob p.1), some (.d (.int md)), some (.d (.lst (same.map Da.str))), some (.ob μ.length), x5, x6] ∧ StoAt A kd b ((μ.length, slD (((kd.fs.zip mk.slots).take i).foldl (copyStep same) ([], S.ls)).1) :: fx) so lo la' ms ⟨(((kd.fs.zip mk.slots).take i).foldl (copyStep same) ([], S.ls)).2, S.mks⟩ ν ∧ μ.length < ν.length) ?_ ?_ ?_
  · rintro i d α ν N hi ⟨x5, x6, la', rfl, h', hle⟩ hN
    obtain ⟨f, s, hf, hs, hz', rfl⟩ := zip_item hi
    have e1 : (kd.fs.zip mk.slots).take (i + 1) = (kd.fs.zip mk.slots).take i ++ [(f, s)] := by rw [List.take_succ, hz']; rfl
    have hcl := copy_len same ((kd.fs.zip mk.slots).take i) ([], S.ls)
    have htl : ((kd.fs.zip mk.slots).take i).length ≤ 3 := by
      rw [List.length_take, List.length_zip]
      omega
    rw [e1, List.foldl_append] at hN
    generalize ((kd.fs.zip mk.slots).take i).foldl (copyStep same) ([], S.ls) = acc at h' hN hcl
    simp only [List.length_nil, Nat.zero_add] at hcl
    have hI' := h'.isS
    obtain ⟨g1, g2, g3, g4⟩ := h'.f _ (List.mem_cons_self ..)
    have hl4 := ls_some (ls_at g1)
    have hal : (acc.1.map Slot.dv).length < sizeLine := by rw [List.length_map]; exact big (by omega)
    have hfin : ∀ (s' : Slot) (x5 x6 : Option Dv) (la2 : List Nat) (ν2 : MS) (ls2 : List (List Str)), StoAt A kd b ((μ.length, slD acc.1) :: fx) so lo la2 ms ⟨ls2, S.mks⟩ ν2 → μ.length < ν2.length → copyStep same acc (f, s) = (acc.1 ++ [s'], ls2) → (sqV (ν2.set μ.length (.lst (acc.1.map Slot.dv ++ [s'.dv]))) (.d (.lst (kd.fs.map Fld.da))) = some ((kd.fs.map Fld.da).map .d) ∧ sqV (ν2.set μ.length (.lst (acc.1.map Slot.dv ++ [s'.dv]))) (.ob p.2) = some (mk.slots.map Slot.dv)) ∧ N [some (.ob so), some (.ob p.1), some (.d (.int md)), some (.d (.lst (same.map Da.str))), some (.ob μ.length), x5, x6] (ν2.set μ.length (.lst (acc.1.map Slot.dv ++ [s'.dv]))) := by
      intro s' x5 x6 la2 ν2 ls2 hh hl2 hc
      have hst := hh.setF hso o4 (.lst (acc.1.map Slot.dv ++ [s'.dv]))
      refine ⟨⟨rfl, sq_at (hst.m j p mk hp hk).2⟩, hN _ _ ⟨x5, x6, la2, rfl, ?_, by simpa using hl2⟩⟩
      rw [List.foldl_cons, List.foldl_nil, hc]
      show StoAt A kd b ((μ.length, slD (acc.1 ++ [s'])) :: fx) so lo la2 ms ⟨ls2, S.mks⟩ _
      rw [show slD (acc.1 ++ [s']) = .lst (acc.1.map Slot.dv ++ [s'.dv]) by simp]
      exact hst
    have htp : tpV (mkTup [.d f.da, s.dv]) = some [.d f.da, s.dv] := by cases s <;> rfl
    unfold l_Store_copy_1
    row_cond go
    rw [one_dec]
    cases hmn : f.many with
    | false =>
      row_cond go
      exact hfin s _ _ la' ν acc.2 h' hle (by simp [copyStep, hmn])
    | true =>
      row_cond go
      refine oIn_b (ss := same) (d2 := .d (.lst (same.map Da.str))) (decide (f.nm ∈ same)) rfl (by simp [sqV]) ?_
      cases hin : decide (f.nm ∈ same) with
      | true =>
        row_cond go
        exact hfin s _ _ la' ν acc.2 h' hle (by simp [copyStep, of_decide_eq_true hin])
      | false =>
        obtain ⟨kk, rfl, hkk⟩ := hm.ok i f s hf hs hmn
        have hkl : kk < la'.length := by rw [h'.ln]; show kk < acc.2.length; omega
        have hk0 := List.getElem?_eq_getElem hkl
        obtain ⟨ws, hw1, hw2⟩ := h'.lget hk0
        row_cond go
        refine ⟨_, ix_ob (j := kk) (sq_at h'.ll) rfl (by rw [List.getElem?_map, hk0]; rfl), ?_⟩
        row_cond go
        refine x_keep h' (by omega) (sq_at hw2) (by show acc.2.length < _; omega) fun la2 ν2 h2 hl2 => ?_
        obtain ⟨g1', _⟩ := h2.f _ (List.mem_cons_self ..)
        row_cond go
        refine hfin (.ls acc.2.length) _ _ la2 ν2 (acc.2 ++ [ws]) h2 (by omega) ?_
        have hnin := of_decide_eq_false hin
        have hgd : acc.2.getD kk [] = ws := by
          rw [List.getD_eq_getElem?_getD, hw1]; rfl
        simp only [copyStep, hmn, hnin, or_self, if_false, Bool.true_eq_false]
        rw [hgd]
  · rintro α ν ⟨x5, x6, la', rfl, h', hle⟩
    rw [show (iwZ (Dv.d (Str.ofString "field_rows", Da.lst (List.map Fld.da kd.fs)).snd) (Dv.ob p.snd) (List.map Dv.d (List.map Fld.da kd.fs)) (List.map Slot.dv mk.slots)).items.length = (kd.fs.zip mk.slots).length by
      show (zipD _ _).length = _
      rw [zipD_len, List.length_zip]; simp, List.take_length] at h'
    obtain ⟨g1, g2, g3, g4⟩ := h'.f _ (List.mem_cons_self ..)
    have h2 := h'.tlF.newM (by omega) md g1 g2 (fun q hq => (g3 q hq).2) g4 o4 hb
    show k_Store_copy_2 A K _ _ _
    unfold k_Store_copy_2
    row_cond go
    refine x_Maker_init ?_
    row_cond go
    exact k _ _ _ h2 (by simp; omega)
  · exact ⟨none, none, la, rfl, h0, by simp⟩
end
end Mz
end
section
set_option Elab.async false
set_option linter.all false
set_option maxRecDepth 100000
set_option maxHeartbeats 1000000
namespace Mz
open PySem L2 TL
local macro_rules | `(tactic| row_cond sd) => `(tactic| first | exact rfl | exact True.intro | assumption | decide)
local macro_rules | `(tactic| row_cond st) => `(tactic| first
  | refine And.intro (by row_cond sd) ?_
  | refine ⟨_, by row_cond sd, ?_⟩
  | refine ⟨_, _, by row_cond sd, ?_⟩
  | refine ⟨_, _, by row_cond sd, by row_cond sd, ?_⟩
  | refine ⟨_, _, _, by row_cond sd, ?_⟩
  | refine ⟨_, _, _, by row_cond sd, by row_cond sd, ?_⟩
  | refine ⟨_, _, _, by row_cond sd, by row_cond sd, by row_cond sd, ?_⟩
  | refine ⟨_, _, _, _, by row_cond sd, ?_⟩
  | refine ⟨_, _, _, _, by row_cond sd, by row_cond sd, by row_cond sd, ?_⟩
  | refine ⟨_, _, _, _, by row_cond sd, by row_cond sd, by row_cond sd, by row_cond sd, ?_⟩
  | refine iteT ?_
  | refine iteF ?_)
local macro_rules | `(tactic| row_cond go) => `(tactic| repeat (row_cond st))
def wdD : Option Str → Dv
  | some w => .d (.str w)
  | none => .d .non
def wdS : Option Str → Slot
  | some w => .wd w
  | none => .no
def fAt (fs : List Fld) (nm : Str) : Nat := fs.findIdx fun f => decide (f.nm = nm)
def deedStep (fs : List Fld) (w : Option Str) (x : List Slot × List (List Str)) (d : Str × Str) : List Slot × List (List Str) :=
  if d.1 = "set" then (x.1.set (fAt fs d.2) (wdS w), x.2)
  else if d.1 = "clear" ∧ sortOf fs d.2 = some ("one" : Str) then (x.1.set (fAt fs d.2) .no, x.2)
  else match x.1.getD (fAt fs d.2) .no with
    | .ls n =>
      if d.1 = "clear" then (x.1, x.2.set n [])
      else if d.1 = "add" then (x.1, x.2.set n (x.2.getD n [] ++ [w.getD ""]))
      else if d.1 = "strike" then (x.1, x.2.set n ((x.2.getD n []).filter fun y => !decide (y = w.getD "")))
      else (x.1.set (fAt fs d.2) (.ls x.2.length), x.2 ++ [x.2.getD n []])
    | _ => x
def doesOf (fs : List Fld) (w : Option Str) (ds : List (Str × Str)) (ss : List Slot) (ls : List (List Str)) : List Slot × List (List Str) := ds.foldl (deedStep fs w) (ss, ls)
theorem fAt_get {fs : List Fld} {s t : Str} (h : sortOf fs s = some t) : ∃ f, fs[fAt fs s]? = some f ∧ f.nm = s ∧ f.sort = t ∧ ∀ (m : Nat) (g : Fld), m < fAt fs s → fs[m]? = some g → g.nm ≠ s := by
  unfold sortOf at h
  cases q : fs.find? fun f => decide (f.nm = s) with
  | none => rw [q] at h; cases h
  | some f =>
    rw [q] at h
    have e1 : f.sort = t := Option.some.inj h
    have e2 : f.nm = s := by simpa using List.find?_some q
    have hlt : fAt fs s < fs.length := List.findIdx_lt_length_of_exists ⟨f, List.mem_of_find?_eq_some q, by simpa using e2⟩
    refine ⟨f, ?_, e2, e1, fun m g hm hg => ?_⟩
    · have := List.find?_eq_getElem?_findIdx (p := fun f : Fld => decide (f.nm = s)) (xs := fs)
      rw [q] at this
      exact this.symm
    · have := List.not_of_lt_findIdx hm
      rw [List.getElem?_eq_getElem (by omega)] at hg
      obtain rfl := Option.some.inj hg
      simpa using this
section
variable {A : Ad} {K : PySem.W.Frag} {kd : KD} {b : Nat} {fx : List (Nat × MO)} {so lo : Nat} {la : List Nat} {ms : List (Nat × Nat)} {S : Sto} {μ : MS} {E : XS} {Q : DK}
theorem sn_cs : (("clear" : Str) = "set") = False := eq_false (by decide)
theorem sn_as : (("add" : Str) = "set") = False := eq_false (by decide)
theorem sn_ac : (("add" : Str) = "clear") = False := eq_false (by decide)
theorem sn_ss : (("strike" : Str) = "set") = False := eq_false (by decide)
theorem sn_sc : (("strike" : Str) = "clear") = False := eq_false (by decide)
theorem sn_sa : (("strike" : Str) = "add") = False := eq_false (by decide)
theorem sn_fs : (("fresh" : Str) = "set") = False := eq_false (by decide)
theorem sn_fc : (("fresh" : Str) = "clear") = False := eq_false (by decide)
theorem sn_fa : (("fresh" : Str) = "add") = False := eq_false (by decide)
theorem sn_fk : (("fresh" : Str) = "strike") = False := eq_false (by decide)
theorem deed_add {fs : List Fld} {w : Option Str} {x : List Slot × List (List Str)} {df : Str} {n : Nat} (h : x.1.getD (fAt fs df) .no = .ls n) : deedStep fs w x ("add", df) = (x.1, x.2.set n (x.2.getD n [] ++ [w.getD ""])) := by
  simp only [deedStep, sn_as, sn_ac, h, if_false, false_and, if_true]
theorem deed_strike {fs : List Fld} {w : Option Str} {x : List Slot × List (List Str)} {df : Str} {n : Nat} (h : x.1.getD (fAt fs df) .no = .ls n) : deedStep fs w x ("strike", df) = (x.1, x.2.set n ((x.2.getD n []).filter fun y => !decide (y = w.getD ""))) := by
  simp only [deedStep, sn_ss, sn_sc, sn_sa, h, if_false, false_and, if_true]
theorem deed_fresh {fs : List Fld} {w : Option Str} {x : List Slot × List (List Str)} {df : Str} {n : Nat} (h : x.1.getD (fAt fs df) .no = .ls n) : deedStep fs w x ("fresh", df) = (x.1.set (fAt fs df) (.ls x.2.length), x.2 ++ [x.2.getD n []]) := by
  simp only [deedStep, sn_fs, sn_fc, sn_fa, sn_fk, h, if_false, false_and]
theorem deed_clear {fs : List Fld} {w : Option Str} {x : List Slot × List (List Str)} {df : Str} {n : Nat} (h : x.1.getD (fAt fs df) .no = .ls n) (hm : sortOf fs df = some ("many" : Str)) : deedStep fs w x ("clear", df) = (x.1, x.2.set n []) := by
  simp only [deedStep, sn_cs, h, if_false]
  rw [if_neg (fun z => absurd (Option.some.inj (hm.symm.trans z.2)) (by decide))]
  simp
theorem ix_nat {n j : Nat} (h : j < n) : ixN n (j : Int) = some j := by
  unfold ixN
  rw [if_pos (by omega), if_pos (by omega)]; simp
theorem set_same {α : Type} {l : List α} {j : Nat} {x : α} (h : l[j]? = some x) : l.set j x = l := by
  obtain ⟨hl, e⟩ := List.getElem?_eq_some_iff.mp h
  rw [← e]; exact List.set_getElem_self hl
theorem x_deed {nmO : MO} {n0 : Nat} {j : Nat} {p : Nat × Nat} {md : Int} {x : List Slot × List (List Str)} {w : Option Str} {d : Str × Str} {D : En} {ν : MS} {x8 x9 x10 : Option Dv} {dd : Dv} {mks : List Mkr} {x5 : Option Dv}
    (hnm : nmO = .lst (strsD (kd.fs.map Fld.nm)))
    (h : StoAt A kd b ((n0, nmO) :: fx) so lo la ms ⟨x.2, mks⟩ ν) (hb : b ≤ ν.length) (hn0 : so ≠ n0) (hp : ms[j]? = some p) (hk : mks[j]? = some ⟨md, x.1⟩) (hm : MkrOk kd.fs x.2.length x.1) (hd : DeedOk kd.fs d) (hw : d.1 ∈ takish → ∃ y, w = some y) (hl : x.2.length < 99990) (hL : ∀ ws ∈ x.2, ws.length < 99990)
    (k : ∀ la' ν' x8 x9 x10, StoAt A kd b ((n0, nmO) :: fx) so lo la' ms ⟨(deedStep kd.fs w x d).2, mks.set j ⟨md, (deedStep kd.fs w x d).1⟩⟩ ν' → ν.length ≤ ν'.length → D.nx [some (.ob so), some (.ob p.1), some dd, some (wdD w), some (.ob n0), x5, some (.d (.str d.1)), some (.d (.str d.2)), x8, x9, x10] ν') :
    l_Store_does_1 A K D [some (.ob so), some (.ob p.1), some dd, some (wdD w), some (.ob n0), x5, some (.d (.str d.1)), some (.d (.str d.2)), x8, x9, x10] ν := by
  obtain ⟨dn, df⟩ := d
  obtain ⟨t, ht, hdt⟩ := hd
  simp only at ht hdt hw k ⊢
  obtain ⟨f, hf, e1, e2, hfirst⟩ := fAt_get ht
  obtain ⟨g1, _⟩ := h.f _ (List.mem_cons_self ..)
  subst hnm
  have hI := h.isS
  have hM := h.isM hp hk
  have hal : fAt kd.fs df < x.1.length := by rw [hm.ln]; exact lt_of_get hf
  obtain ⟨s, hs⟩ : ∃ s, x.1[fAt kd.fs df]? = some s := ⟨_, List.getElem?_eq_getElem hal⟩
  obtain ⟨m1, m2⟩ := h.m j p _ hp hk
  unfold l_Store_does_1
  have hls := ls_some (ls_at g1)
  row_cond go
  refine ⟨_, (kd.fs.map Fld.nm).map V.str, _, .str df, fAt kd.fs df, .str df, rfl, ls_at g1, ?_, rfl, ?_, ?_, ?_, ?_⟩
  · exact pVs_strs _
  · rw [List.getElem?_map, List.getElem?_map, hf, ← e1]; rfl
  · simp [eqV]
  · intro m z hm' hz
    rw [List.getElem?_map, List.getElem?_map] at hz
    cases q : kd.fs[m]? with
    | none => rw [q] at hz; cases hz
    | some g =>
      rw [q] at hz
      obtain rfl : V.str g.nm = z := Option.some.inj hz
      have := hfirst m g hm' q
      simp [eqV, this]
  row_cond go
  refine ⟨_, ix_ob (j := fAt kd.fs df) (sq_at m2) rfl (by rw [List.getElem?_map, hs]; rfl), ?_⟩
  have hat : x.1.getD (fAt kd.fs df) .no = s := by rw [List.getD_eq_getElem?_getD, hs]; rfl
  rcases sort_two ht with rfl | rfl
  · simp only [deedsOf, show ¬ (("one" : Str) = "many") by decide, if_false, List.mem_cons, List.not_mem_nil, or_false] at hdt
    rcases hdt with rfl | rfl
    · row_cond go
      refine ⟨_, _, _, _, rfl, rfl, m2, ix_nat (by simpa using hal), ?_⟩
      have h2 := h.setS hp hk (x.1.set (fAt kd.fs df) (wdS w))
      have e3 : slD (x.1.set (fAt kd.fs df) (wdS w)) = .lst ((x.1.map Slot.dv).set (fAt kd.fs df) (wdD w)) := by
        unfold slD
        rw [List.map_set]
        cases w <;> rfl
      rw [e3] at h2
      refine k la _ _ _ _ ?_ (by simp)
      rw [show deedStep kd.fs w x ("set", df) = (x.1.set (fAt kd.fs df) (wdS w), x.2) by simp [deedStep]]
      exact h2
    · row_cond go
      have hv := val_sorts df kd.fs
      rw [ht] at hv
      refine ⟨_, _, _, rfl, rfl, hv, ?_⟩
      row_cond go
      refine ⟨_, _, _, _, rfl, rfl, m2, ix_nat (by simpa using hal), ?_⟩
      have h2 := h.setS hp hk (x.1.set (fAt kd.fs df) .no)
      have e3 : slD (x.1.set (fAt kd.fs df) .no) = .lst ((x.1.map Slot.dv).set (fAt kd.fs df) (.d .non)) := by
        unfold slD
        rw [List.map_set]; rfl
      rw [e3] at h2
      refine k la _ _ _ _ ?_ (by simp)
      rw [show deedStep kd.fs w x ("clear", df) = (x.1.set (fAt kd.fs df) .no, x.2) by
        simp only [deedStep, sn_cs, if_false]
        exact if_pos ⟨trivial, ht⟩]
      exact h2
  · have hmany : f.many = true := by
      cases hq : f.many with
      | true => rfl
      | false => simp only [Fld.sort, hq] at e2; exact absurd e2 (by decide)
    obtain ⟨nn, rfl, hnn⟩ := hm.ok _ f s hf hs hmany
    have hkl : nn < la.length := by rw [h.ln]; exact hnn
    have hk0 := List.getElem?_eq_getElem hkl
    obtain ⟨ws, hw1, hw2⟩ := h.lget hk0
    have hgd : x.2.getD nn [] = ws := by rw [List.getD_eq_getElem?_getD, hw1]; rfl
    have hwl := hL ws (mem_get hw1)
    simp only [deedsOf, if_true, List.mem_cons, List.not_mem_nil, or_false] at hdt
    rcases hdt with rfl | rfl | rfl | rfl
    · obtain ⟨y, rfl⟩ := hw (by decide)
      row_cond go
      refine ⟨_, ix_ob (j := nn) (sq_at h.ll) rfl (by rw [List.getElem?_map, hk0]; rfl), ?_⟩
      have hl1 := ls_some (ls_at hw2)
      have hb1 : (strsD ws).length < sizeLine := by show (List.map _ ws).length < _; rw [List.length_map]; exact big (by omega)
      row_cond go
      have h2 := h.setL hk0 (ws ++ [y])
      rw [show strsD (ws ++ [y]) = strsD ws ++ [.d (.str y)] by simp [strsD]] at h2
      refine k la _ _ _ _ ?_ (by simp)
      rw [deed_add hat, hgd]
      rw [show mks.set j ⟨md, x.1⟩ = mks from set_same hk]
      exact h2
    · obtain ⟨y, rfl⟩ := hw (by decide)
      row_cond go
      refine ⟨_, ix_ob (j := nn) (sq_at h.ll) rfl (by rw [List.getElem?_map, hk0]; rfl), ?_⟩
      have hq1 := sq_at hw2
      row_cond go
      refine lc_fm (fun z : Str => .d (.str z)) (fun z => !decide (z = y)) (fun z => .d (.str z)) hq1 ws (by omega) (fun i z hz P1 P0 p1 p0 => ?_) ?_
      · row_cond go
        by_cases hzy : z = y
        · rw [show decide (V.str z = V.str y) = true from decide_eq_true (by rw [hzy])]
          exact iteF (p0 (by simp [hzy]))
        · rw [show decide (V.str z = V.str y) = false from decide_eq_false fun e => hzy (V.str.inj e)]
          exact iteT (by row_cond go; exact p1 (by simp [hzy]))
      have h1 := h.app [.lst (strsD (ws.filter fun z => !decide (z = y)))]
      have hI1 := h1.isS
      row_cond go
      refine ⟨_, _, _, _, rfl, rfl, h1.ll, ix_nat (by simpa using hkl), ?_⟩
      have h2 := h.repL hb hkl (ws.filter fun z => !decide (z = y))
      refine k (la.set nn ν.length) _ _ _ _ ?_ (by simp)
      rw [deed_strike hat, hgd]
      rw [show mks.set j ⟨md, x.1⟩ = mks from set_same hk]
      exact h2
    · row_cond go
      refine ⟨_, ix_ob (j := nn) (sq_at h.ll) rfl (by rw [List.getElem?_map, hk0]; rfl), ?_⟩
      row_cond go
      refine x_keep h hb (sq_at hw2) (by show x.2.length < _; omega) fun la2 ν2 h2 hl2 => ?_
      have hM2 := h2.isM hp hk
      obtain ⟨_, m2'⟩ := h2.m j p _ hp hk
      row_cond go
      refine ⟨_, _, _, _, rfl, rfl, m2', ix_nat (by simpa using hal), ?_⟩
      have h3 := h2.setS hp hk (x.1.set (fAt kd.fs df) (.ls x.2.length))
      have e3 : slD (x.1.set (fAt kd.fs df) (.ls x.2.length)) = .lst ((x.1.map Slot.dv).set (fAt kd.fs df) (.d (.int (x.2.length : Nat)))) := by
        unfold slD
        rw [List.map_set]; rfl
      rw [e3] at h3
      refine k la2 _ _ _ _ ?_ (by simpa using hl2)
      rw [deed_fresh hat, hgd]
      exact h3
    · row_cond go
      have hv := val_sorts df kd.fs
      rw [ht] at hv
      refine ⟨_, _, _, rfl, rfl, hv, ?_⟩
      have h1 := h.app [.lst []]
      have hI1 := h1.isS
      row_cond go
      refine ⟨_, _, _, _, rfl, rfl, h1.ll, ix_nat (by simpa using hkl), ?_⟩
      have h2 := h.repL hb hkl []
      refine k (la.set nn ν.length) _ _ _ _ ?_ (by simp)
      rw [deed_clear hat ht]
      rw [show mks.set j ⟨md, x.1⟩ = mks from set_same hk]
      exact h2
end
end Mz
end
section
set_option Elab.async false
set_option linter.all false
set_option maxRecDepth 100000
set_option maxHeartbeats 1000000
namespace Mz
open PySem L2 TL
local macro_rules | `(tactic| row_cond sd) => `(tactic| first | exact rfl | exact True.intro | assumption | decide)
local macro_rules | `(tactic| row_cond st) => `(tactic| first
  | refine And.intro (by row_cond sd) ?_
  | refine ⟨_, by row_cond sd, ?_⟩
  | refine ⟨_, _, by row_cond sd, ?_⟩
  | refine ⟨_, _, by row_cond sd, by row_cond sd, ?_⟩
  | refine ⟨_, _, _, by row_cond sd, ?_⟩
  | refine ⟨_, _, _, by row_cond sd, by row_cond sd, ?_⟩
  | refine ⟨_, _, _, by row_cond sd, by row_cond sd, by row_cond sd, ?_⟩
  | refine ⟨_, _, _, _, by row_cond sd, ?_⟩
  | refine ⟨_, _, _, _, by row_cond sd, by row_cond sd, by row_cond sd, ?_⟩
  | refine ⟨_, _, _, _, by row_cond sd, by row_cond sd, by row_cond sd, by row_cond sd, ?_⟩
  | refine iteT ?_
  | refine iteF ?_)
local macro_rules | `(tactic| row_cond go) => `(tactic| repeat (row_cond st))
theorem MkrOk.mono {fs : List Fld} {n m : Nat} {ss : List Slot} (h : MkrOk fs n ss) (hn : n ≤ m) : MkrOk fs m ss := ⟨h.ln, fun j f s h1 h2 hm => by
  obtain ⟨k, e, hk⟩ := h.ok j f s h1 h2 hm
  exact ⟨k, e, by omega⟩⟩
theorem MkrOk.set {fs : List Fld} {n : Nat} {ss : List Slot} (h : MkrOk fs n ss) {i : Nat} {f : Fld} (hf : fs[i]? = some f) {s : Slot} (hs : SlotOk n f s) : MkrOk fs n (ss.set i s) := by
  refine ⟨by rw [List.length_set]; exact h.ln, fun j g t h1 h2 => ?_⟩
  by_cases e : i = j
  · subst e
    rw [hf] at h1
    cases h1
    rw [List.getElem?_set_self (by rw [h.ln]; exact lt_of_get hf)] at h2
    cases h2
    exact hs
  · rw [List.getElem?_set_ne e] at h2
    exact h.ok j g t h1 h2
theorem mem_setL {α : Type} {l : List α} {n : Nat} {x y : α} (h : y ∈ l.set n x) : y ∈ l ∨ y = x := List.mem_or_eq_of_mem_set h
theorem deed_keep {fs : List Fld} {w : Option Str} {x : List Slot × List (List Str)} {d : Str × Str} {n : Nat} (hd : DeedOk fs d) (hm : MkrOk fs x.2.length x.1) (hL : ∀ ws ∈ x.2, ws.length ≤ n) :
    MkrOk fs (deedStep fs w x d).2.length (deedStep fs w x d).1 ∧ x.2.length ≤ (deedStep fs w x d).2.length ∧ (deedStep fs w x d).2.length ≤ x.2.length + 1 ∧ ∀ ws ∈ (deedStep fs w x d).2, ws.length ≤ n + 1 := by
  obtain ⟨dn, df⟩ := d
  obtain ⟨t, ht, hdt⟩ := hd
  simp only at ht hdt
  obtain ⟨f, hf, e1, e2, _⟩ := fAt_get ht
  have hal : fAt fs df < x.1.length := by rw [hm.ln]; exact lt_of_get hf
  obtain ⟨s, hs⟩ : ∃ s, x.1[fAt fs df]? = some s := ⟨_, List.getElem?_eq_getElem hal⟩
  have hat : x.1.getD (fAt fs df) .no = s := by rw [List.getD_eq_getElem?_getD, hs]; rfl
  have hL1 : ∀ ws ∈ x.2, ws.length ≤ n + 1 := fun ws h => by have := hL ws h; omega
  rcases sort_two ht with rfl | rfl
  · have hone : f.many = false := by
      cases hq : f.many with
      | false => rfl
      | true => simp only [Fld.sort, hq, if_true] at e2; exact absurd e2 (by decide)
    have hso : ∀ s', SlotOk x.2.length f s' := fun s' hmm => by rw [hone] at hmm; cases hmm
    simp only [deedsOf, show ¬ (("one" : Str) = "many") by decide, if_false, List.mem_cons, List.not_mem_nil, or_false] at hdt
    rcases hdt with rfl | rfl
    · rw [show deedStep fs w x ("set", df) = (x.1.set (fAt fs df) (wdS w), x.2) by simp [deedStep]]
      exact ⟨hm.set hf (hso _), by simp, by simp, hL1⟩
    · rw [show deedStep fs w x ("clear", df) = (x.1.set (fAt fs df) .no, x.2) by
        simp only [deedStep, sn_cs, if_false]
        exact if_pos ⟨trivial, ht⟩]
      exact ⟨hm.set hf (hso _), by simp, by simp, hL1⟩
  · have hmany : f.many = true := by
      cases hq : f.many with
      | true => rfl
      | false => simp only [Fld.sort, hq] at e2; exact absurd e2 (by decide)
    obtain ⟨nn, rfl, hnn⟩ := hm.ok _ f s hf hs hmany
    have hg : x.2.getD nn [] ∈ x.2 := by
      rw [List.getD_eq_getElem?_getD, List.getElem?_eq_getElem hnn]
      exact List.getElem_mem hnn
    have hgl := hL _ hg
    simp only [deedsOf, if_true, List.mem_cons, List.not_mem_nil, or_false] at hdt
    rcases hdt with rfl | rfl | rfl | rfl
    · rw [deed_add hat]
      refine ⟨by simpa using hm, by simp, by simp, fun ws hws => ?_⟩
      rcases mem_setL hws with hws | rfl
      · exact hL1 ws hws
      · rw [List.length_append, List.length_singleton]; omega
    · rw [deed_strike hat]
      refine ⟨by simpa using hm, by simp, by simp, fun ws hws => ?_⟩
      rcases mem_setL hws with hws | rfl
      · exact hL1 ws hws
      · have := List.length_filter_le (fun y => !decide (y = w.getD "")) (x.2.getD nn [])
        omega
    · rw [deed_fresh hat]
      refine ⟨?_, by simp, by simp, fun ws hws => ?_⟩
      · have h2 := hm.mono (m := x.2.length + 1) (by omega)
        rw [show (x.2 ++ [x.2.getD nn []]).length = x.2.length + 1 by simp]
        exact h2.set hf fun _ => ⟨_, rfl, by omega⟩
      · rcases List.mem_append.mp hws with hws | hws
        · exact hL1 ws hws
        · obtain rfl := List.mem_singleton.mp hws
          omega
    · rw [deed_clear hat ht]
      refine ⟨by simpa using hm, by simp, by simp, fun ws hws => ?_⟩
      rcases mem_setL hws with hws | rfl
      · exact hL1 ws hws
      · simp
theorem does_keep {fs : List Fld} {w : Option Str} : ∀ {ds : List (Str × Str)} {x : List Slot × List (List Str)} {n : Nat}, (∀ d ∈ ds, DeedOk fs d) → MkrOk fs x.2.length x.1 → (∀ ws ∈ x.2, ws.length ≤ n) →
    MkrOk fs (ds.foldl (deedStep fs w) x).2.length (ds.foldl (deedStep fs w) x).1 ∧ x.2.length ≤ (ds.foldl (deedStep fs w) x).2.length ∧ (ds.foldl (deedStep fs w) x).2.length ≤ x.2.length + ds.length ∧ ∀ ws ∈ (ds.foldl (deedStep fs w) x).2, ws.length ≤ n + ds.length
  | [], x, n, _, hm, hL => ⟨hm, by simp, by simp, by simpa using hL⟩
  | d :: r, x, n, hd, hm, hL => by
    obtain ⟨a1, a2, a3, a4⟩ := deed_keep (w := w) (hd d (by simp)) hm hL
    obtain ⟨b1, b2, b3, b4⟩ := does_keep (w := w) (ds := r) (fun e he => hd e (List.mem_cons_of_mem _ he)) a1 a4
    simp only [List.foldl_cons, List.length_cons]
    exact ⟨b1, by omega, by omega, fun ws hws => by have := b4 ws hws; omega⟩
section
variable {A : Ad} {K : PySem.W.Frag} {kd : KD} {b : Nat} {fx : List (Nat × MO)} {so lo : Nat} {la : List Nat} {ms : List (Nat × Nat)} {S : Sto} {μ : MS} {E : XS} {Q : DK}
theorem x_does {j : Nat} {p : Nat × Nat} {mk : Mkr} {ds : List (Str × Str)} {w : Option Str} (h : StoAt A kd b fx so lo la ms S μ) (hb : b ≤ μ.length) (ok : KDOk kd) (hp : ms[j]? = some p) (hk : S.mks[j]? = some mk) (hm : MkrOk kd.fs S.ls.length mk.slots) (hd : ∀ d ∈ ds, DeedOk kd.fs d) (hdl : ds.length ≤ 4) (hw : ∀ d ∈ ds, d.1 ∈ takish → ∃ y, w = some y) (hl : S.ls.length < 99980) (hL : ∀ ws ∈ S.ls, ws.length ≤ 99980)
    (k : ∀ la' μ', StoAt A kd b fx so lo la' ms ⟨(doesOf kd.fs w ds mk.slots S.ls).2, S.mks.set j ⟨mk.mode, (doesOf kd.fs w ds mk.slots S.ls).1⟩⟩ μ' → μ.length ≤ μ'.length → Q (.d .non) μ') : m_Store_does A K [.ob so, .ob p.1, .d (.lst (ds.map pairDa)), wdD w] E μ Q := by
  unfold m_Store_does
  refine ⟨rfl, ?_⟩
  unfold b_Store_does
  have hI := h.isS
  have hfl := ok.f.le
  row_cond go
  rw [List.map_map]
  refine lc_fm (fun f : Fld => .d f.da) (fun _ => true) (fun f => .d (.str f.nm)) (by show some _ = _; rw [List.map_map]) kd.fs (by omega) (fun i f hf P1 P0 h1 h0 => ?_) ?_
  · row_cond go
    exact h1 rfl
  rw [show (kd.fs.filter fun _ => true) = kd.fs from List.filter_eq_self.mpr (by simp)]
  have h0 := h.addF (.lst (strsD (kd.fs.map Fld.nm)))
  rw [show strsD (kd.fs.map Fld.nm) = kd.fs.map fun f => Dv.d (.str f.nm) by simp [strsD]] at h0
  have hso : so ≠ μ.length := by
    have := lt_of_get h.st
    omega
  row_cond go
  refine loop_by (fun i α ν => ∃ x5 x6 x7 x8 x9 x10 la', α = [some (.ob so), some (.ob p.1), some (.d (.lst (ds.map pairDa))), some (wdD w), some (.ob μ.length), x5, x6, x7, x8, x9, x10] ∧ StoAt A kd b ((μ.length, .lst (kd.fs.map fun f => Dv.d (.str f.nm))) :: fx) so lo la' ms ⟨((ds.take i).foldl (deedStep kd.fs w) (mk.slots, S.ls)).2, S.mks.set j ⟨mk.mode, ((ds.take i).foldl (deedStep kd.fs w) (mk.slots, S.ls)).1⟩⟩ ν ∧ μ.length ≤ ν.length) ?_ ?_ ?_
  · rintro i y α ν N hi ⟨x5, x6, x7, x8, x9, x10, la', rfl, h', hle⟩ hN
    obtain ⟨z, hz, rfl⟩ := map_get hi
    rw [List.getElem?_map] at hz
    cases q : ds[i]? with
    | none => rw [q] at hz; cases hz
    | some d =>
      rw [q] at hz
      obtain rfl : pairDa d = z := Option.some.inj hz
      have e1 : ds.take (i + 1) = ds.take i ++ [d] := by rw [List.take_succ, q]; rfl
      rw [e1, List.foldl_append] at hN
      obtain ⟨c1, c2, c3, c4⟩ := does_keep (w := w) (ds := ds.take i) (x := (mk.slots, S.ls)) (n := 99980) (fun e he => hd e (List.mem_of_mem_take he)) hm hL
      have htl : (ds.take i).length ≤ 4 := by rw [List.length_take]; omega
      generalize (ds.take i).foldl (deedStep kd.fs w) (mk.slots, S.ls) = acc at h' hN c1 c2 c3 c4
      simp only at c2 c3
      have hjl : j < S.mks.length := lt_of_get hk
      have hk' : (S.mks.set j ⟨mk.mode, acc.1⟩)[j]? = some ⟨mk.mode, acc.1⟩ := List.getElem?_set_self hjl
      have hdm := mem_get q
      refine ⟨_, rfl, rfl, _, _, rfl, _, _, rfl, rfl, ?_⟩
      show l_Store_does_1 A K _ [some (.ob so), some (.ob p.1), some (.d (.lst (ds.map pairDa))), some (wdD w), some (.ob μ.length), x5, some (.d (.str d.1)), some (.d (.str d.2)), x8, x9, x10] ν
      refine x_deed (by simp [strsD]) h' (by omega) hso hp hk' c1 (hd d hdm) (hw d hdm) (by omega) (fun ws hws => by have := c4 ws hws; omega) fun la2 ν2 y8 y9 y10 h2 hl2 => ?_
      refine ⟨by exact rfl, hN _ _ ⟨_, _, _, _, _, _, la2, rfl, ?_, by omega⟩⟩
      rw [List.set_set] at h2
      exact h2
  · rintro α ν ⟨x5, x6, x7, x8, x9, x10, la', rfl, h', hle⟩
    rw [show (iwSq (Dv.d (Da.lst (List.map pairDa ds))) (List.map Dv.d (List.map pairDa ds))).items.length = ds.length by show (List.map Dv.d (List.map pairDa ds)).length = _; simp, List.take_length] at h'
    exact k la' ν h'.tlF hle
  · refine ⟨_, _, _, _, _, _, la, rfl, ?_, by simp⟩
    simp only [List.take_zero, List.foldl_nil]
    rw [show S.mks.set j ⟨mk.mode, mk.slots⟩ = S.mks from set_same hk]
    exact h0
end
end Mz
end
section
set_option Elab.async false
set_option linter.all false
set_option maxRecDepth 100000
set_option maxHeartbeats 1000000
namespace Mz
open PySem L2 TL
local macro_rules | `(tactic| row_cond sd) => `(tactic| first | exact rfl | exact True.intro | assumption | decide)
local macro_rules | `(tactic| row_cond st) => `(tactic| first
  | refine And.intro (by row_cond sd) ?_
  | refine ⟨_, by row_cond sd, ?_⟩
  | refine ⟨_, _, by row_cond sd, ?_⟩
  | refine ⟨_, _, by row_cond sd, by row_cond sd, ?_⟩
  | refine ⟨_, _, _, by row_cond sd, ?_⟩
  | refine ⟨_, _, _, by row_cond sd, by row_cond sd, ?_⟩
  | refine ⟨_, _, _, by row_cond sd, by row_cond sd, by row_cond sd, ?_⟩
  | refine ⟨_, _, _, _, by row_cond sd, ?_⟩
  | refine ⟨_, _, _, _, by row_cond sd, by row_cond sd, by row_cond sd, ?_⟩
  | refine ⟨_, _, _, _, by row_cond sd, by row_cond sd, by row_cond sd, by row_cond sd, ?_⟩
  | refine iteT ?_
  | refine iteF ?_)
local macro_rules | `(tactic| row_cond go) => `(tactic| repeat (row_cond st))
/-! ### makers stay in order -/
theorem first_go (n0 : Nat) : ∀ (fs : List Fld) (x : List Slot × List (List Str)), ∃ t, (fs.foldl fStep x).1 = x.1 ++ t ∧ t.length = fs.length ∧ (∀ (i : Nat) (f : Fld) (s : Slot), fs[i]? = some f → t[i]? = some s → SlotOk (fs.foldl fStep x).2.length f s) ∧ x.2.length ≤ (fs.foldl fStep x).2.length ∧ ((∀ ws ∈ x.2, ws.length ≤ n0) → ∀ ws ∈ (fs.foldl fStep x).2, ws.length ≤ n0)
  | [], x => ⟨[], by simp, rfl, by simp, Nat.le_refl _, fun h => h⟩
  | f :: r, x => by
    obtain ⟨t, h1, h2, h3, h4, h5⟩ := first_go n0 r (fStep x f)
    have hs : ∃ s, (fStep x f).1 = x.1 ++ [s] ∧ x.2.length ≤ (fStep x f).2.length ∧ SlotOk (fStep x f).2.length f s ∧ ((∀ ws ∈ x.2, ws.length ≤ n0) → ∀ ws ∈ (fStep x f).2, ws.length ≤ n0) := by
      unfold fStep
      split
      · rename_i hm
        refine ⟨_, rfl, by simp, fun _ => ⟨_, rfl, by simp⟩, fun h ws hws => ?_⟩
        rcases List.mem_append.mp hws with hws | hws
        · exact h ws hws
        · obtain rfl := List.mem_singleton.mp hws
          simp
      · rename_i hm
        exact ⟨_, rfl, Nat.le_refl _, fun z => absurd z hm, fun h => h⟩
    obtain ⟨s, e1, e2, e3, e4⟩ := hs
    refine ⟨s :: t, ?_, by simp [h2], fun i g s' hg ht => ?_, by simp only [List.foldl_cons]; omega, fun h => h5 (e4 h)⟩
    · simp only [List.foldl_cons]; rw [h1, e1]; simp
    · cases i with
      | zero =>
        simp at hg ht
        subst hg; subst ht
        intro hm
        obtain ⟨k, e, hk⟩ := e3 hm
        exact ⟨k, e, Nat.lt_of_lt_of_le hk h4⟩
      | succ i => exact h3 i g s' (by simpa using hg) (by simpa using ht)
theorem first_ok (fs : List Fld) (ls : List (List Str)) : MkrOk fs (firstOf fs ls).2.length (firstOf fs ls).1 := by
  obtain ⟨t, h1, h2, h3, _⟩ := first_go 0 fs ([], ls)
  unfold firstOf
  rw [h1, List.nil_append]
  exact ⟨h2, h3⟩
theorem copy_go (same : List Str) (n0 : Nat) : ∀ (l : List (Fld × Slot)) (x : List Slot × List (List Str)), (∀ q ∈ l, SlotOk x.2.length q.1 q.2) → ∃ t, (l.foldl (copyStep same) x).1 = x.1 ++ t ∧ t.length = l.length ∧ (∀ (i : Nat) (q : Fld × Slot) (s : Slot), l[i]? = some q → t[i]? = some s → SlotOk (l.foldl (copyStep same) x).2.length q.1 s) ∧ x.2.length ≤ (l.foldl (copyStep same) x).2.length ∧ ((∀ ws ∈ x.2, ws.length ≤ n0) → ∀ ws ∈ (l.foldl (copyStep same) x).2, ws.length ≤ n0)
  | [], x, _ => ⟨[], by simp, rfl, by simp, Nat.le_refl _, fun h => h⟩
  | q :: r, x, hq => by
    have hq0 := hq q (by simp)
    have hs : ∃ s, (copyStep same x q).1 = x.1 ++ [s] ∧ x.2.length ≤ (copyStep same x q).2.length ∧ SlotOk (copyStep same x q).2.length q.1 s ∧ ((∀ ws ∈ x.2, ws.length ≤ n0) → ∀ ws ∈ (copyStep same x q).2, ws.length ≤ n0) := by
      unfold copyStep
      split
      · exact ⟨_, rfl, Nat.le_refl _, hq0, fun h => h⟩
      · rename_i hm
        have hmany : q.1.many = true := by
          cases e : q.1.many with
          | true => rfl
          | false => exact absurd (.inl e) hm
        obtain ⟨k, e, hk⟩ := hq0 hmany
        rw [e]
        refine ⟨_, rfl, by simp, fun _ => ⟨_, rfl, by simp⟩, fun h ws hws => ?_⟩
        rcases List.mem_append.mp hws with hws | hws
        · exact h ws hws
        · obtain rfl := List.mem_singleton.mp hws
          rw [List.getD_eq_getElem?_getD, List.getElem?_eq_getElem hk]
          exact h _ (List.getElem_mem hk)
    obtain ⟨s, e1, e2, e3, e4⟩ := hs
    obtain ⟨t, h1, h2, h3, h4, h5⟩ := copy_go same n0 r (copyStep same x q) fun z hz hm => by
      obtain ⟨k, e, hk⟩ := hq z (List.mem_cons_of_mem _ hz) hm
      exact ⟨k, e, by omega⟩
    refine ⟨s :: t, ?_, by simp [h2], fun i g s' hg ht => ?_, by simp only [List.foldl_cons]; omega, fun h => h5 (e4 h)⟩
    · simp only [List.foldl_cons]; rw [h1, e1]; simp
    · cases i with
      | zero =>
        simp at hg ht
        subst hg; subst ht
        intro hm
        obtain ⟨k, e, hk⟩ := e3 hm
        exact ⟨k, e, Nat.lt_of_lt_of_le hk h4⟩
      | succ i => exact h3 i g s' (by simpa using hg) (by simpa using ht)
theorem copy_ok {fs : List Fld} {same : List Str} {ss : List Slot} {ls : List (List Str)} (hm : MkrOk fs ls.length ss) : MkrOk fs (copyOf fs same ss ls).2.length (copyOf fs same ss ls).1 := by
  obtain ⟨t, h1, h2, h3, _⟩ := copy_go same 0 (fs.zip ss) ([], ls) fun q hq => by
    obtain ⟨i, hi⟩ := List.getElem?_of_mem hq
    obtain ⟨a, c⟩ := List.getElem?_zip_eq_some.mp hi
    exact hm.ok i q.1 q.2 a c
  unfold copyOf
  rw [h1, List.nil_append]
  have hl := hm.ln
  refine ⟨by rw [h2, List.length_zip]; omega, fun i f s hf hs => ?_⟩
  have hi : i < ss.length := by rw [hl]; exact lt_of_get hf
  exact h3 i (f, ss[i]) s (List.getElem?_zip_eq_some.mpr ⟨hf, List.getElem?_eq_getElem hi⟩) hs
theorem copy_lens {fs : List Fld} {same : List Str} {ss : List Slot} {ls : List (List Str)} {n0 : Nat} (hm : MkrOk fs ls.length ss) (hL : ∀ ws ∈ ls, ws.length ≤ n0) : ls.length ≤ (copyOf fs same ss ls).2.length ∧ (copyOf fs same ss ls).2.length ≤ ls.length + fs.length ∧ ∀ ws ∈ (copyOf fs same ss ls).2, ws.length ≤ n0 := by
  obtain ⟨t, h1, h2, h3, h4, h5⟩ := copy_go same n0 (fs.zip ss) ([], ls) fun q hq => by
    obtain ⟨i, hi⟩ := List.getElem?_of_mem hq
    obtain ⟨a, c⟩ := List.getElem?_zip_eq_some.mp hi
    exact hm.ok i q.1 q.2 a c
  have hc := copy_len same (fs.zip ss) ([], ls)
  rw [List.length_zip] at hc
  unfold copyOf
  exact ⟨h4, by simp only at hc; omega, h5 hL⟩
theorem first_lens {fs : List Fld} {ls : List (List Str)} {n0 : Nat} (hL : ∀ ws ∈ ls, ws.length ≤ n0) : ls.length ≤ (firstOf fs ls).2.length ∧ (firstOf fs ls).2.length ≤ ls.length + fs.length ∧ ∀ ws ∈ (firstOf fs ls).2, ws.length ≤ n0 := by
  obtain ⟨t, h1, h2, h3, h4, h5⟩ := first_go n0 fs ([], ls)
  have hc := first_len fs ([], ls)
  unfold firstOf
  exact ⟨h4, hc, h5 hL⟩
section
variable {A : Ad} {K : PySem.W.Frag} {kd : KD} {b : Nat} {fx : List (Nat × MO)} {so lo : Nat} {la : List Nat} {ms : List (Nat × Nat)} {S : Sto} {μ : MS} {E : XS} {Q : DK}
theorem x_told {j : Nat} {p : Nat × Nat} {mk : Mkr} (h : StoAt A kd b fx so lo la ms S μ) (hb : b ≤ μ.length) (ok : KDOk kd) (hp : ms[j]? = some p) (hk : S.mks[j]? = some mk) (hm : MkrOk kd.fs S.ls.length mk.slots)
    (k : ∀ n μ', StoAt A kd b fx so lo la ms S μ' → μ.length ≤ μ'.length → μ.length ≤ n → Q (.ob n) μ') : m_Store_told A K [.ob so, .ob p.1] E μ Q := by
  unfold m_Store_told
  refine ⟨rfl, ?_⟩
  unfold b_Store_told
  have h0 := h.addF (.lst [])
  obtain ⟨_, _, _, o4⟩ := len_out h
  have hso : so ≠ μ.length := by
    have := lt_of_get h.st
    omega
  have hI := h0.isS
  have hM := h0.isM hp hk
  have hfl := ok.f.le
  have hml := hm.ln
  row_cond go
  refine ⟨_, _, _, _, rfl, .inl ⟨rfl, ls_at (h0.m j p mk hp hk).2⟩, ⟨rfl, sq_at (h0.m j p mk hp hk).2⟩, ?_⟩
  refine loop_by (fun i α ν => ∃ x3 x4 items, α = [some (.ob so), some (.ob p.1), some (.ob μ.length), x3, x4] ∧ StoAt A kd b ((μ.length, .lst items) :: fx) so lo la ms S ν ∧ items.length ≤ i ∧ μ.length < ν.length) ?_ ?_ ?_
  · rintro i d α ν N hi ⟨x3, x4, items, rfl, h', hil, hle⟩ hN
    obtain ⟨f, s, hf, hs, hz', rfl⟩ := zip_item hi
    have hi3 : i < 3 := by have := lt_of_get hf; omega
    have hI' := h'.isS
    obtain ⟨g1, g2, g3, g4⟩ := h'.f _ (List.mem_cons_self ..)
    have hl4 := ls_some (ls_at g1)
    have hal : items.length < sizeLine := big (by omega)
    have hfin : ∀ (y : Dv) (x3 x4 : Option Dv) (ν2 : MS), StoAt A kd b ((μ.length, .lst items) :: fx) so lo la ms S ν2 → μ.length < ν2.length → (sqV (ν2.set μ.length (.lst (items ++ [y]))) (.d (.lst (kd.fs.map Fld.da))) = some ((kd.fs.map Fld.da).map .d) ∧ sqV (ν2.set μ.length (.lst (items ++ [y]))) (.ob p.2) = some (mk.slots.map Slot.dv)) ∧ N [some (.ob so), some (.ob p.1), some (.ob μ.length), x3, x4] (ν2.set μ.length (.lst (items ++ [y]))) := by
      intro y x3 x4 ν2 hh hl2
      have hst := hh.setF hso o4 (.lst (items ++ [y]))
      exact ⟨⟨rfl, sq_at (hst.m j p mk hp hk).2⟩, hN _ _ ⟨x3, x4, _, rfl, hst, by simp; omega, by simpa using hl2⟩⟩
    have htp : tpV (mkTup [.d f.da, s.dv]) = some [.d f.da, s.dv] := by cases s <;> rfl
    unfold l_Store_told_1
    row_cond go
    rw [one_dec]
    cases hmn : f.many with
    | false =>
      row_cond go
      exact hfin s.dv _ _ ν h' hle
    | true =>
      obtain ⟨kk, rfl, hkk⟩ := hm.ok i f s hf hs hmn
      have hkl : kk < la.length := by rw [h'.ln]; exact hkk
      have hk0 := List.getElem?_eq_getElem hkl
      obtain ⟨ws, hw1, hw2⟩ := h'.lget hk0
      row_cond go
      refine ⟨_, ix_ob (j := kk) (sq_at h'.ll) rfl (by rw [List.getElem?_map, hk0]; rfl), ?_⟩
      have hq2 := sq_at hw2
      have h2 := h'.app [.lst (strsD ws)]
      obtain ⟨g1', _⟩ := h2.f _ (List.mem_cons_self ..)
      row_cond go
      exact hfin _ _ _ _ h2 (by simp; omega)
  · rintro α ν ⟨x3, x4, items, rfl, h', hil, hle⟩
    show k_Store_told_2 A K _ _ _
    unfold k_Store_told_2
    row_cond go
    exact k _ _ h'.tlF (by omega) (Nat.le_refl _)
  · exact ⟨none, none, [], rfl, h0, by simp, by simp⟩
end
end Mz
end
section
set_option Elab.async false
set_option linter.all false
set_option maxRecDepth 100000
set_option maxHeartbeats 1000000
namespace Mz
open PySem L2 TL
local macro_rules | `(tactic| row_cond sd) => `(tactic| first | exact rfl | exact True.intro | assumption | decide)
local macro_rules | `(tactic| row_cond st) => `(tactic| first
  | refine And.intro (by row_cond sd) ?_
  | refine ⟨_, by row_cond sd, ?_⟩
  | refine ⟨_, _, by row_cond sd, ?_⟩
  | refine ⟨_, _, by row_cond sd, by row_cond sd, ?_⟩
  | refine ⟨_, _, _, by row_cond sd, ?_⟩
  | refine ⟨_, _, _, by row_cond sd, by row_cond sd, ?_⟩
  | refine ⟨_, _, _, by row_cond sd, by row_cond sd, by row_cond sd, ?_⟩
  | refine ⟨_, _, _, _, by row_cond sd, ?_⟩
  | refine ⟨_, _, _, _, by row_cond sd, by row_cond sd, by row_cond sd, ?_⟩
  | refine ⟨_, _, _, _, by row_cond sd, by row_cond sd, by row_cond sd, by row_cond sd, ?_⟩
  | refine iteT ?_
  | refine iteF ?_)
local macro_rules | `(tactic| row_cond go) => `(tactic| repeat (row_cond st))
abbrev runO (A : Ad) (kd : KD) (rl so hd mc : Nat) : MO := .ins A.Run [("kind", .d (kindDa A kd)), ("row_list", .ob rl), ("store", .ob so), ("handed", .ob hd), ("made_contents", .ob mc)]
def hD (ms : List (Nat × Nat)) : Option (Bool × Nat) → Dv
  | none => .d .non
  | some (pr, j) => .tp [.d (.str (if pr = true then "product" else "maker")), .ob (ms.getD j (0, 0)).1]
abbrev runFx (A : Ad) (kd : KD) (rn rl so hd mc : Nat) (rs : List Row) (hs : List Dv) (kvs : List (Key × Dv)) (ex : List (Nat × MO)) : List (Nat × MO) := (mc, .dct kvs) :: (rn, runO A kd rl so hd mc) :: (rl, .lst (rowsD rs)) :: (hd, .lst hs) :: ex
/-- what a row does, plain -/
def rowStep (kd : KD) (S : Sto) (hs : List (Option (Bool × Nat))) : Row → Sto × Option (Bool × Nat)
  | .make => (⟨(firstOf kd.fs S.ls).2, S.mks ++ [⟨0, (firstOf kd.fs S.ls).1⟩]⟩, some (false, S.mks.length))
  | .call nm k w => match calOf kd nm, hs.getD k none with
    | some c, some (pr, j) =>
      if c.moves.getD (S.mks.getD j ⟨0, []⟩).mode.toNat (-1) = -1 then (S, none)
      else if c.hand = "new" then
        (⟨(doesOf kd.fs w c.deeds (copyOf kd.fs c.same (S.mks.getD j ⟨0, []⟩).slots S.ls).1 (copyOf kd.fs c.same (S.mks.getD j ⟨0, []⟩).slots S.ls).2).2, S.mks ++ [⟨c.moves.getD (S.mks.getD j ⟨0, []⟩).mode.toNat (-1), (doesOf kd.fs w c.deeds (copyOf kd.fs c.same (S.mks.getD j ⟨0, []⟩).slots S.ls).1 (copyOf kd.fs c.same (S.mks.getD j ⟨0, []⟩).slots S.ls).2).1⟩]⟩, some (false, S.mks.length))
      else if c.hand = "self" then
        (⟨(doesOf kd.fs w c.deeds (S.mks.getD j ⟨0, []⟩).slots S.ls).2, S.mks.set j ⟨c.moves.getD (S.mks.getD j ⟨0, []⟩).mode.toNat (-1), (doesOf kd.fs w c.deeds (S.mks.getD j ⟨0, []⟩).slots S.ls).1⟩⟩, some (pr, j))
      else
        (⟨(copyOf kd.fs c.same (doesOf kd.fs w c.deeds (S.mks.getD j ⟨0, []⟩).slots S.ls).1 (doesOf kd.fs w c.deeds (S.mks.getD j ⟨0, []⟩).slots S.ls).2).2, S.mks.set j ⟨c.moves.getD (S.mks.getD j ⟨0, []⟩).mode.toNat (-1), (doesOf kd.fs w c.deeds (S.mks.getD j ⟨0, []⟩).slots S.ls).1⟩ ++ [⟨0, (copyOf kd.fs c.same (doesOf kd.fs w c.deeds (S.mks.getD j ⟨0, []⟩).slots S.ls).1 (doesOf kd.fs w c.deeds (S.mks.getD j ⟨0, []⟩).slots S.ls).2).1⟩]⟩, some (true, S.mks.length))
    | _, _ => (S, none)
/-- all makers in order, n rows done -/
structure StoOk (kd : KD) (n : Nat) (S : Sto) : Prop where
  mk_ : ∀ mk ∈ S.mks, MkrOk kd.fs S.ls.length mk.slots ∧ 0 ≤ mk.mode ∧ mk.mode < kd.md
  ll : S.ls.length ≤ 10 * n
  wl : ∀ ws ∈ S.ls, ws.length ≤ 10 * n
section
variable {A : Ad} {K : PySem.W.Frag} {kd : KD} {b : Nat} {so lo : Nat} {la : List Nat} {ms : List (Nat × Nat)} {S : Sto} {μ : MS} {E : XS} {Q : DK}
theorem isV_at {n : Nat} {C : Addr} {fs : List (Str × Dv)} (h : μ[n]? = some (.ins C fs)) : isV μ (.ob n) = some (C, fs) := by
  show (match μ[n]? with
    | some (.ins C fs) => some (C, fs)
    | some (.frz (.ins C fs)) => some (C, fs.map eD)
    | _ => none) = _
  rw [h]
theorem hs_app {q : Nat × Nat} {hs : List (Option (Bool × Nat))} (hmn : ms.length = S.mks.length) (hsk : ∀ pr j, some (pr, j) ∈ hs → j < S.mks.length) : hs.map (hD (ms ++ [q])) = hs.map (hD ms) := by
  refine List.map_congr_left fun x hx => ?_
  cases x with
  | none => rfl
  | some pj =>
    obtain ⟨pr, j⟩ := pj
    have hj : j < ms.length := by rw [hmn]; exact hsk pr j hx
    simp only [hD]
    rw [List.getD_eq_getElem?_getD, List.getD_eq_getElem?_getD, List.getElem?_append_left hj]
theorem hD_new {q : Nat × Nat} {pr : Bool} (hmn : ms.length = S.mks.length) : hD (ms ++ [q]) (some (pr, S.mks.length)) = .tp [.d (.str (if pr = true then "product" else "maker")), .ob q.1] := by
  simp only [hD]
  rw [← hmn]; simp
theorem putD_len (kvs : List (Key × Dv)) (k : Key) (y : Dv) : (putD kvs k y).length ≤ kvs.length + 1 := by
  unfold putD
  split <;> simp
@[irreducible] def doTail (A : Ad) (K : PySem.W.Frag) : BS :=
 (bSeq (bIf (mT (mOp (oEq false) (mVar 4) (mC (.d (.str "new")))))
 (bSeq (bAsg (mMeth A.Store "copy" (cO (m_Store_copy A K)) (mFld A.Run "store" (mVar 0)) (mCons (mVar 9) (mCons (mOp oIx (mVar 5) (mFld A.Maker "mode" (mVar 9))) (mCons (mVar 7) mNil)))) (nName 11))
 (bSeq (bDrop (mMeth A.Store "does" (cO (m_Store_does A K)) (mFld A.Run "store" (mVar 0)) (mCons (mVar 11) (mCons (mVar 6) (mCons (mVar 10) mNil)))))
 (bRet (mTup (mCons (mC (.d (.str "maker"))) (mCons (mVar 11) mNil))))))
 bNext)
 (bSeq (bFld A.Maker "mode" (mVar 9) (mOp oIx (mVar 5) (mFld A.Maker "mode" (mVar 9))))
 (bSeq (bDrop (mMeth A.Store "does" (cO (m_Store_does A K)) (mFld A.Run "store" (mVar 0)) (mCons (mVar 9) (mCons (mVar 6) (mCons (mVar 10) mNil)))))
 (bSeq (bIf (mT (mOp (oEq false) (mVar 4) (mC (.d (.str "self")))))
 (bRet (mVar 8))
 bNext)
 (bSeq (bAsg (mMeth A.Store "copy" (cO (m_Store_copy A K)) (mFld A.Run "store" (mVar 0)) (mCons (mVar 9) (mCons (mC (.d (.int 0))) (mCons (mVar 7) mNil)))) (nName 12))
 (bSeq (bDPut (mFld A.Run "made_contents" (mVar 0)) (mVar 1) (mMeth A.Store "told" (cO (m_Store_told A K)) (mFld A.Run "store" (mVar 0)) (mCons (mVar 12) mNil)))
 (bRet (mTup (mCons (mC (.d (.str "product"))) (mCons (mVar 12) mNil))))))))))
theorem doTail_eq (A : Ad) (K : PySem.W.Frag) : doTail A K =
 (bSeq (bIf (mT (mOp (oEq false) (mVar 4) (mC (.d (.str "new")))))
 (bSeq (bAsg (mMeth A.Store "copy" (cO (m_Store_copy A K)) (mFld A.Run "store" (mVar 0)) (mCons (mVar 9) (mCons (mOp oIx (mVar 5) (mFld A.Maker "mode" (mVar 9))) (mCons (mVar 7) mNil)))) (nName 11))
 (bSeq (bDrop (mMeth A.Store "does" (cO (m_Store_does A K)) (mFld A.Run "store" (mVar 0)) (mCons (mVar 11) (mCons (mVar 6) (mCons (mVar 10) mNil)))))
 (bRet (mTup (mCons (mC (.d (.str "maker"))) (mCons (mVar 11) mNil))))))
 bNext)
 (bSeq (bFld A.Maker "mode" (mVar 9) (mOp oIx (mVar 5) (mFld A.Maker "mode" (mVar 9))))
 (bSeq (bDrop (mMeth A.Store "does" (cO (m_Store_does A K)) (mFld A.Run "store" (mVar 0)) (mCons (mVar 9) (mCons (mVar 6) (mCons (mVar 10) mNil)))))
 (bSeq (bIf (mT (mOp (oEq false) (mVar 4) (mC (.d (.str "self")))))
 (bRet (mVar 8))
 bNext)
 (bSeq (bAsg (mMeth A.Store "copy" (cO (m_Store_copy A K)) (mFld A.Run "store" (mVar 0)) (mCons (mVar 9) (mCons (mC (.d (.int 0))) (mCons (mVar 7) mNil)))) (nName 12))
 (bSeq (bDPut (mFld A.Run "made_contents" (mVar 0)) (mVar 1) (mMeth A.Store "told" (cO (m_Store_told A K)) (mFld A.Run "store" (mVar 0)) (mCons (mVar 12) mNil)))
 (bRet (mTup (mCons (mC (.d (.str "product"))) (mCons (mVar 12) mNil)))))))))) := by unfold doTail; rfl
theorem x_tail {rn rl hd mc : Nat} {rs : List Row} {hs : List (Option (Bool × Nat))} {kvs : List (Key × Dv)} {ex : List (Nat × MO)} {i : Nat} {c : Cal} {w : Option Str} {j : Nat} {p : Nat × Nat} {mk : Mkr} {mv : Int} {pr : Bool} {D : En} {drow : Dv} {x11 x12 : Option Dv} (h : StoAt A kd b (runFx A kd rn rl so hd mc rs (hs.map (hD ms)) kvs ex) so lo la ms S μ) (hb : b ≤ μ.length) (ok : KDOk kd) (okc : CalOk kd.fs kd.md c) (so_ : StoOk kd i S) (hi : i ≤ 900) (hsk : ∀ pr j, some (pr, j) ∈ hs → j < S.mks.length) (hmcd : mc ≠ so ∧ mc ≠ rn ∧ mc ≠ rl ∧ mc ≠ hd ∧ ∀ z ∈ ex, z.1 ≠ mc) (hkv : kvs.length ≤ i) (hp : ms[j]? = some p) (hk : S.mks[j]? = some mk) (hmv : c.moves[mk.mode.toNat]? = some mv) (hm0 : mv ≠ -1) (hw1 : ∀ d ∈ c.deeds, d.1 ∈ takish → ∃ y, w = some y)
    (kn : c.hand = "new" → ∀ la' ms' kvs' μ', StoAt A kd b (runFx A kd rn rl so hd mc rs (hs.map (hD ms')) kvs' ex) so lo la' ms' ⟨(doesOf kd.fs w c.deeds (copyOf kd.fs c.same mk.slots S.ls).1 (copyOf kd.fs c.same mk.slots S.ls).2).2, S.mks ++ [⟨mv, (doesOf kd.fs w c.deeds (copyOf kd.fs c.same mk.slots S.ls).1 (copyOf kd.fs c.same mk.slots S.ls).2).1⟩]⟩ μ' → μ.length ≤ μ'.length → kvs'.length ≤ i + 1 → D.rt (hD ms' (some (false, S.mks.length))) μ')
    (ks : c.hand = "self" → ∀ la' μ', StoAt A kd b (runFx A kd rn rl so hd mc rs (hs.map (hD ms)) kvs ex) so lo la' ms ⟨(doesOf kd.fs w c.deeds mk.slots S.ls).2, S.mks.set j ⟨mv, (doesOf kd.fs w c.deeds mk.slots S.ls).1⟩⟩ μ' → μ.length ≤ μ'.length → D.rt (hD ms (some (pr, j))) μ')
    (kl : c.hand = "last" → ∀ la' ms' kvs' μ', StoAt A kd b (runFx A kd rn rl so hd mc rs (hs.map (hD ms')) kvs' ex) so lo la' ms' ⟨(copyOf kd.fs c.same (doesOf kd.fs w c.deeds mk.slots S.ls).1 (doesOf kd.fs w c.deeds mk.slots S.ls).2).2, S.mks.set j ⟨mv, (doesOf kd.fs w c.deeds mk.slots S.ls).1⟩ ++ [⟨0, (copyOf kd.fs c.same (doesOf kd.fs w c.deeds mk.slots S.ls).1 (doesOf kd.fs w c.deeds mk.slots S.ls).2).1⟩]⟩ μ' → μ.length ≤ μ'.length → kvs'.length ≤ i + 1 → D.rt (hD ms' (some (true, S.mks.length))) μ') :
    doTail A K D [some (.ob rn), some (.d (.int i)), some drow, some (.d (.str c.nm)), some (.d (.str c.hand)), some (.d (.lst (c.moves.map Da.int))), some (.d (.lst (c.deeds.map pairDa))), some (.d (.lst (c.same.map Da.str))), some (hD ms (some (pr, j))), some (.ob p.1), some (wdD w), x11, x12] μ := by
  have fr := (h.f (rn, runO A kd rl so hd mc) (by simp)).1
  have hR := isV_at fr
  have hI := h.isS
  have hM := h.isM hp hk
  obtain ⟨hmk, hm1, hm2⟩ := so_.mk_ mk (mem_get hk)
  have hll := so_.ll
  have hwl := so_.wl
  have hix : ixD μ (.d (.lst (c.moves.map Da.int))) (.d (.int mk.mode)) = some (.d (.int mv)) := by
    have e : mk.mode = (mk.mode.toNat : Nat) := by omega
    rw [e]
    exact ix_items (d := .lst (c.moves.map Da.int)) rfl rfl (by rw [List.getElem?_map, hmv]; rfl) μ
  unfold doTail
  have hhd := okc.hd
  simp only [List.mem_cons, List.not_mem_nil, or_false] at hhd
  rcases hhd with hh | hh | hh
  · rw [hh]
    row_cond go
    refine ⟨_, _, rfl, (h.m j p mk hp hk).1, show 2 < 1000 by decide, ?_⟩
    have h1 := h.setM hp hk mv
    have hk1 : (S.mks.set j ⟨mv, mk.slots⟩)[j]? = some ⟨mv, mk.slots⟩ := List.getElem?_set_self (lt_of_get hk)
    have hR1 := isV_at (h1.f (rn, runO A kd rl so hd mc) (by simp)).1
    have hI1 := h1.isS
    row_cond go
    refine x_does h1 (by simpa using hb) ok hp hk1 hmk okc.dd okc.dl hw1 (by show S.ls.length < _; omega) (fun ws hws => by have := hwl ws hws; omega) fun la2 μ2 h2 hle2 => ?_
    rw [List.set_set] at h2
    row_cond go
    exact ks hh la2 μ2 h2 (by simpa using hle2)
  · rw [hh]
    row_cond go
    refine x_copy h hb ok (by omega) hp hk hmk fun la1 q μ1 h1 hle1 => ?_
    have hcl := copy_lens (same := c.same) hmk hwl
    have hfl := ok.f.le
    have hR1 := isV_at (h1.f (rn, runO A kd rl so hd mc) (by simp)).1
    have hI1 := h1.isS
    have hpq : (ms ++ [q])[S.mks.length]? = some q := by rw [← h.mn]; simp
    have hkq : (S.mks ++ [(⟨mv, (copyOf kd.fs c.same mk.slots S.ls).1⟩ : Mkr)])[S.mks.length]? = some ⟨mv, (copyOf kd.fs c.same mk.slots S.ls).1⟩ := by simp
    row_cond go
    refine x_does h1 (by omega) ok hpq hkq (copy_ok hmk) okc.dd okc.dl hw1 (by show (copyOf kd.fs c.same mk.slots S.ls).2.length < _; omega) (fun ws hws => by have := hcl.2.2 ws hws; omega) fun la2 μ2 h2 hle2 => ?_
    simp only [set_mid] at h2
    row_cond go
    refine ⟨show 2 ≤ sizeLine by decide, ?_⟩
    have := kn hh la2 (ms ++ [q]) kvs μ2 (by rw [hs_app h.mn hsk]; exact h2) (by omega) (by omega)
    rw [hD_new h.mn] at this
    exact this
  · rw [hh]
    row_cond go
    refine ⟨_, _, rfl, (h.m j p mk hp hk).1, show 2 < 1000 by decide, ?_⟩
    have h1 := h.setM hp hk mv
    have hk1 : (S.mks.set j ⟨mv, mk.slots⟩)[j]? = some ⟨mv, mk.slots⟩ := List.getElem?_set_self (lt_of_get hk)
    have hR1 := isV_at (h1.f (rn, runO A kd rl so hd mc) (by simp)).1
    have hI1 := h1.isS
    row_cond go
    refine x_does h1 (by simpa using hb) ok hp hk1 hmk okc.dd okc.dl hw1 (by show S.ls.length < _; omega) (fun ws hws => by have := hwl ws hws; omega) fun la2 μ2 h2 hle2 => ?_
    rw [List.set_set] at h2
    simp only [List.length_set] at hle2
    have hk2 : (S.mks.set j ⟨mv, (doesOf kd.fs w c.deeds mk.slots S.ls).1⟩)[j]? = some ⟨mv, (doesOf kd.fs w c.deeds mk.slots S.ls).1⟩ := List.getElem?_set_self (lt_of_get hk)
    obtain ⟨dk1, dk2, dk3, dk4⟩ := does_keep (w := w) (ds := c.deeds) (x := (mk.slots, S.ls)) okc.dd hmk hwl
    have hdl := okc.dl
    have hR2 := isV_at (h2.f (rn, runO A kd rl so hd mc) (by simp)).1
    have hI2 := h2.isS
    row_cond go
    refine x_copy h2 (by omega) ok (by show (doesOf kd.fs w c.deeds mk.slots S.ls).2.length < _; unfold doesOf; simp only at dk3; omega) hp hk2 dk1 fun la3 q μ3 h3 hle3 => ?_
    have hR3 := isV_at (h3.f (rn, runO A kd rl so hd mc) (by simp)).1
    have hI3 := h3.isS
    have hpq : (ms ++ [q])[S.mks.length]? = some q := by rw [← h.mn]; simp
    have hkq : (S.mks.set j ⟨mv, (doesOf kd.fs w c.deeds mk.slots S.ls).1⟩ ++ [(⟨0, (copyOf kd.fs c.same (doesOf kd.fs w c.deeds mk.slots S.ls).1 (doesOf kd.fs w c.deeds mk.slots S.ls).2).1⟩ : Mkr)])[S.mks.length]? = some ⟨0, (copyOf kd.fs c.same (doesOf kd.fs w c.deeds mk.slots S.ls).1 (doesOf kd.fs w c.deeds mk.slots S.ls).2).1⟩ := by
      rw [show S.mks.length = (S.mks.set j ⟨mv, (doesOf kd.fs w c.deeds mk.slots S.ls).1⟩).length by simp]; simp
    row_cond go
    refine x_told h3 (by omega) ok hpq hkq (copy_ok dk1) fun n μ4 h4 hle4 hn4 => ?_
    have hR4 := isV_at (h4.f (rn, runO A kd rl so hd mc) (by simp)).1
    have fm := (h4.f (mc, .dct kvs) (by simp)).1
    row_cond go
    refine ⟨big (by omega), ?_⟩
    have h5 := h4.setF (Ne.symm hmcd.1) (fun z hz => by
      simp only [List.mem_cons] at hz
      rcases hz with rfl | rfl | rfl | hz
      · exact Ne.symm hmcd.2.1
      · exact Ne.symm hmcd.2.2.1
      · exact Ne.symm hmcd.2.2.2.1
      · exact hmcd.2.2.2.2 z hz) (.dct (putD kvs (.inl i) (.ob n)))
    row_cond go
    refine ⟨show 2 ≤ sizeLine by decide, ?_⟩
    have := kl hh la3 (ms ++ [q]) _ _ (by rw [hs_app h.mn hsk]; exact h5) (by simp; omega) (by have := putD_len kvs (.inl i) (.ob n); omega)
    rw [hD_new h.mn] at this
    exact this
theorem x_do_row {rn rl hd mc : Nat} {rs : List Row} {hs : List (Option (Bool × Nat))} {kvs : List (Key × Dv)} {ex : List (Nat × MO)} {i : Nat} {r : Row} (h : StoAt A kd b (runFx A kd rn rl so hd mc rs (hs.map (hD ms)) kvs ex) so lo la ms S μ) (hb : b ≤ μ.length) (ok : KDOk kd) (so_ : StoOk kd i S) (hi : i ≤ 900) (hsl : hs.length = i) (hsk : ∀ pr j, some (pr, j) ∈ hs → j < S.mks.length) (hrow : RowOk kd (rs.take i) r) (hmcd : mc ≠ so ∧ mc ≠ rn ∧ mc ≠ rl ∧ mc ≠ hd ∧ ∀ z ∈ ex, z.1 ≠ mc) (hkv : kvs.length ≤ i) (hrsl : (rs.take i).length = i)
    (k : ∀ la' ms' kvs' μ', StoAt A kd b (runFx A kd rn rl so hd mc rs (hs.map (hD ms')) kvs' ex) so lo la' ms' (rowStep kd S hs r).1 μ' → μ.length ≤ μ'.length → kvs'.length ≤ i + 1 → Q (hD ms' (rowStep kd S hs r).2) μ') : m_Run_do_row A K [.ob rn, .d (.int i), .d r.da] E μ Q := by
  have fr := (h.f (rn, runO A kd rl so hd mc) (by simp)).1
  have fh := (h.f (hd, .lst (hs.map (hD ms))) (by simp)).1
  have hR := isV_at fr
  have hI := h.isS
  unfold m_Run_do_row
  refine ⟨rfl, ?_⟩
  unfold b_Run_do_row
  rw [← doTail_eq]
  cases r with
  | make =>
    row_cond go
    refine x_first_maker h hb ok (by have := so_.ll; omega) fun la' q μ' h' hle => ?_
    refine ⟨show 2 ≤ sizeLine by decide, ?_⟩
    have := k la' (ms ++ [q]) kvs μ' (by rw [hs_app h.mn hsk]; exact h') hle (by omega)
    rw [show hD (ms ++ [q]) (rowStep kd S hs .make).2 = .tp [.d (.str "maker"), .ob q.1] by
      show Dv.tp [.d (.str "maker"), .ob ((ms ++ [q]).getD S.mks.length (0, 0)).1] = _
      rw [← h.mn]; simp] at this
    exact this
  | call nm kk w =>
    obtain ⟨c, r0, hc, hr0, hr0l, htk, hwd⟩ := hrow
    have hcm := (calOf_nm hc).2
    have okc := ok.c c hcm
    have hkl : kk < hs.length := by rw [hsl, ← hrsl]; exact lt_of_get hr0
    obtain ⟨x, hx⟩ : ∃ x, hs[kk]? = some x := ⟨_, List.getElem?_eq_getElem hkl⟩
    have hxg : hs.getD kk none = x := by rw [List.getD_eq_getElem?_getD, hx]; rfl
    have hw1 : ∀ d ∈ c.deeds, d.1 ∈ takish → ∃ y, w = some y := fun d hd' ht => by
      have h1 : c.tk = true := List.any_eq_true.mpr ⟨d, hd', decide_eq_true ht⟩
      rw [h1] at htk
      cases w with
      | none => cases htk
      | some y => exact ⟨y, rfl⟩
    have hix : ixD μ (.ob hd) (.d (.int (kk : Nat))) = some (hD ms x) := ix_ob (j := kk) (sq_at fh) rfl (by rw [List.getElem?_map, hx]; rfl)
    cases x with
    | none =>
      have hrs : rowStep kd S hs (.call nm kk w) = (S, none) := by simp only [rowStep, hc, hxg]
      rw [hrs] at k
      cases w with
      | none =>
        row_cond go
        refine ⟨⟨_, rfl⟩, ?_⟩
        row_cond go
        refine x_getitem hc ?_
        row_cond go
        exact k la ms kvs μ h (Nat.le_refl _) (by omega)
      | some y =>
        row_cond go
        refine ⟨⟨_, rfl⟩, ?_⟩
        row_cond go
        refine x_getitem hc ?_
        row_cond go
        exact k la ms kvs μ h (Nat.le_refl _) (by omega)
    | some pj =>
      obtain ⟨pr, j⟩ := pj
      have hj : j < S.mks.length := hsk pr j (mem_get hx)
      obtain ⟨mk, hk⟩ : ∃ mk, S.mks[j]? = some mk := ⟨_, List.getElem?_eq_getElem hj⟩
      obtain ⟨p, hp⟩ : ∃ p, ms[j]? = some p := ⟨_, List.getElem?_eq_getElem (by rw [h.mn]; exact hj)⟩
      have hkg : S.mks.getD j ⟨0, []⟩ = mk := by rw [List.getD_eq_getElem?_getD, hk]; rfl
      have hpg : ms.getD j (0, 0) = p := by rw [List.getD_eq_getElem?_getD, hp]; rfl
      obtain ⟨hmk, hm1, hm2⟩ := so_.mk_ mk (mem_get hk)
      have hml := okc.ml
      obtain ⟨mv, hmv⟩ : ∃ mv, c.moves[mk.mode.toNat]? = some mv := ⟨_, List.getElem?_eq_getElem (by omega)⟩
      have hmg : c.moves.getD mk.mode.toNat (-1) = mv := by rw [List.getD_eq_getElem?_getD, hmv]; rfl
      have hM := h.isM hp hk
      have hix2 : ixD μ (.d (.lst (c.moves.map Da.int))) (.d (.int mk.mode)) = some (.d (.int mv)) := by
        have e : mk.mode = (mk.mode.toNat : Nat) := by omega
        rw [e]
        exact ix_items (d := .lst (c.moves.map Da.int)) rfl rfl (by rw [List.getElem?_map, hmv]; rfl) μ
      have hDe : hD ms (some (pr, j)) = .tp [.d (.str (if pr = true then "product" else "maker")), .ob p.1] := by
        simp only [hD, hpg]
      have hrs0 : mv = -1 → rowStep kd S hs (.call nm kk w) = (S, none) := fun e => by
        simp only [rowStep, hc, hxg, hkg, hmg, e, if_true]
      have htail : mv ≠ -1 → ∀ (D : En) (drow : Dv) (x11 x12 : Option Dv), D.rt = Q → doTail A K D [some (.ob rn), some (.d (.int i)), some drow, some (.d (.str c.nm)), some (.d (.str c.hand)), some (.d (.lst (c.moves.map Da.int))), some (.d (.lst (c.deeds.map pairDa))), some (.d (.lst (c.same.map Da.str))), some (hD ms (some (pr, j))), some (.ob p.1), some (wdD w), x11, x12] μ := by
        intro hm0 D drow x11 x12 hDr
        refine x_tail h hb ok okc so_ hi hsk hmcd hkv hp hk hmv hm0 hw1 (fun hh la' ms' kvs' μ' h' hle hkv' => ?_) (fun hh la' μ' h' hle => ?_) (fun hh la' ms' kvs' μ' h' hle hkv' => ?_)
        · have e : rowStep kd S hs (.call nm kk w) = (⟨(doesOf kd.fs w c.deeds (copyOf kd.fs c.same mk.slots S.ls).1 (copyOf kd.fs c.same mk.slots S.ls).2).2, S.mks ++ [⟨mv, (doesOf kd.fs w c.deeds (copyOf kd.fs c.same mk.slots S.ls).1 (copyOf kd.fs c.same mk.slots S.ls).2).1⟩]⟩, some (false, S.mks.length)) := by
            simp only [rowStep, hc, hxg, hkg, hmg, hm0, hh, if_false, if_true]
          rw [e] at k
          rw [hDr]
          exact k la' ms' kvs' μ' h' hle hkv'
        · have e : rowStep kd S hs (.call nm kk w) = (⟨(doesOf kd.fs w c.deeds mk.slots S.ls).2, S.mks.set j ⟨mv, (doesOf kd.fs w c.deeds mk.slots S.ls).1⟩⟩, some (pr, j)) := by
            simp only [rowStep, hc, hxg, hkg, hmg, hm0, hh, if_false, show (("self" : Str) = "new") = False from eq_false (by decide), if_true]
          rw [e] at k
          rw [hDr]
          exact k la' ms kvs μ' h' hle (by omega)
        · have e : rowStep kd S hs (.call nm kk w) = (⟨(copyOf kd.fs c.same (doesOf kd.fs w c.deeds mk.slots S.ls).1 (doesOf kd.fs w c.deeds mk.slots S.ls).2).2, S.mks.set j ⟨mv, (doesOf kd.fs w c.deeds mk.slots S.ls).1⟩ ++ [⟨0, (copyOf kd.fs c.same (doesOf kd.fs w c.deeds mk.slots S.ls).1 (doesOf kd.fs w c.deeds mk.slots S.ls).2).1⟩]⟩, some (true, S.mks.length)) := by
            simp only [rowStep, hc, hxg, hkg, hmg, hm0, hh, if_false, show (("last" : Str) = "new") = False from eq_false (by decide), show (("last" : Str) = "self") = False from eq_false (by decide)]
          rw [e] at k
          rw [hDr]
          exact k la' ms' kvs' μ' h' hle hkv'
      rw [hDe] at hix htail
      cases w with
      | none =>
        row_cond go
        refine ⟨⟨_, rfl⟩, ?_⟩
        row_cond go
        refine x_getitem hc ?_
        row_cond go
        by_cases hm0 : mv = -1
        · rw [show decide (V.int mv = V.int (-1)) = true from decide_eq_true (by rw [hm0])]
          row_cond go
          have := k la ms kvs μ
          rw [hrs0 hm0] at this
          exact this h (Nat.le_refl _) (by omega)
        · rw [show decide (V.int mv = V.int (-1)) = false from decide_eq_false fun e => hm0 (V.int.inj e)]
          row_cond go
          exact htail hm0 _ _ _ _ rfl
      | some y =>
        row_cond go
        refine ⟨⟨_, rfl⟩, ?_⟩
        row_cond go
        refine x_getitem hc ?_
        row_cond go
        by_cases hm0 : mv = -1
        · rw [show decide (V.int mv = V.int (-1)) = true from decide_eq_true (by rw [hm0])]
          row_cond go
          have := k la ms kvs μ
          rw [hrs0 hm0] at this
          exact this h (Nat.le_refl _) (by omega)
        · rw [show decide (V.int mv = V.int (-1)) = false from decide_eq_false fun e => hm0 (V.int.inj e)]
          row_cond go
          exact htail hm0 _ _ _ _ rfl
end
end Mz
end
section
set_option Elab.async false
set_option linter.all false
set_option maxRecDepth 100000
set_option maxHeartbeats 1000000
namespace Mz
open PySem L2 TL
local macro_rules | `(tactic| row_cond sd) => `(tactic| first | exact rfl | exact True.intro | assumption | decide)
local macro_rules | `(tactic| row_cond st) => `(tactic| first
  | refine And.intro (by row_cond sd) ?_
  | refine ⟨_, by row_cond sd, ?_⟩
  | refine ⟨_, _, by row_cond sd, ?_⟩
  | refine ⟨_, _, by row_cond sd, by row_cond sd, ?_⟩
  | refine ⟨_, _, _, by row_cond sd, ?_⟩
  | refine ⟨_, _, _, by row_cond sd, by row_cond sd, ?_⟩
  | refine ⟨_, _, _, by row_cond sd, by row_cond sd, by row_cond sd, ?_⟩
  | refine ⟨_, _, _, _, by row_cond sd, ?_⟩
  | refine ⟨_, _, _, _, by row_cond sd, by row_cond sd, by row_cond sd, ?_⟩
  | refine ⟨_, _, _, _, by row_cond sd, by row_cond sd, by row_cond sd, by row_cond sd, ?_⟩
  | refine iteT ?_
  | refine iteF ?_)
local macro_rules | `(tactic| row_cond go) => `(tactic| repeat (row_cond st))
theorem row_keep {kd : KD} {S : Sto} {hs : List (Option (Bool × Nat))} {rs : List Row} {r : Row} {i : Nat} (ok : KDOk kd) (so_ : StoOk kd i S) (hsk : ∀ pr j, some (pr, j) ∈ hs → j < S.mks.length) (hrow : RowOk kd rs r) :
    StoOk kd (i + 1) (rowStep kd S hs r).1 ∧ S.mks.length ≤ (rowStep kd S hs r).1.mks.length ∧ ∀ pr j, (rowStep kd S hs r).2 = some (pr, j) → j < (rowStep kd S hs r).1.mks.length := by
  have hll := so_.ll
  have hwl := so_.wl
  have hfl := ok.f.le
  have hbase : StoOk kd (i + 1) S := ⟨so_.mk_, by omega, fun ws h => by have := hwl ws h; omega⟩
  cases r with
  | make =>
    obtain ⟨f1, f2, f3⟩ := first_lens (fs := kd.fs) hwl
    refine ⟨⟨fun mk hmk => ?_, ?_, fun ws h => ?_⟩, by simp [rowStep], fun pr j e => ?_⟩
    · simp only [rowStep] at hmk ⊢
      rcases List.mem_append.mp hmk with hmk | hmk
      · obtain ⟨a, c⟩ := so_.mk_ mk hmk
        exact ⟨a.mono f1, c⟩
      · obtain rfl := List.mem_singleton.mp hmk
        have := ok.m1
        exact ⟨first_ok _ _, by simp, by show (0 : Int) < kd.md; omega⟩
    · simp only [rowStep]; omega
    · simp only [rowStep] at h
      have := f3 ws h
      omega
    · simp only [rowStep] at e ⊢
      cases e
      simp
  | call nm k w =>
    obtain ⟨c, r0, hc, hr0, _, _, _⟩ := hrow
    have okc := ok.c c (calOf_nm hc).2
    have hdl := okc.dl
    cases hx : hs.getD k none with
    | none =>
      have e : rowStep kd S hs (.call nm k w) = (S, none) := by simp only [rowStep, hc, hx]
      rw [e]
      exact ⟨hbase, Nat.le_refl _, fun pr j z => by cases z⟩
    | some pj =>
      obtain ⟨pr, j⟩ := pj
      have hxm : some (pr, j) ∈ hs := by
        rw [List.getD_eq_getElem?_getD] at hx
        cases q : hs[k]? with
        | none => rw [q] at hx; cases hx
        | some z =>
          rw [q] at hx
          have : z = some (pr, j) := hx
          rw [← this]; exact mem_get q
      have hj := hsk pr j hxm
      obtain ⟨mk, hk⟩ : ∃ mk, S.mks[j]? = some mk := ⟨_, List.getElem?_eq_getElem hj⟩
      have hkg : S.mks.getD j ⟨0, []⟩ = mk := by rw [List.getD_eq_getElem?_getD, hk]; rfl
      obtain ⟨hmk, hm1, hm2⟩ := so_.mk_ mk (mem_get hk)
      have hml := okc.ml
      obtain ⟨mv, hmv⟩ : ∃ mv, c.moves[mk.mode.toNat]? = some mv := ⟨_, List.getElem?_eq_getElem (by omega)⟩
      have hmg : c.moves.getD mk.mode.toNat (-1) = mv := by rw [List.getD_eq_getElem?_getD, hmv]; rfl
      have hmr := okc.mv mv (mem_get hmv)
      by_cases hm0 : mv = -1
      · have e : rowStep kd S hs (.call nm k w) = (S, none) := by simp only [rowStep, hc, hx, hkg, hmg, hm0, if_true]
        rw [e]
        exact ⟨hbase, Nat.le_refl _, fun pr j z => by cases z⟩
      · have hmv0 : 0 ≤ mv := by omega
        have hmv1 : mv < kd.md := by omega
        obtain ⟨dk1, dk2, dk3, dk4⟩ := does_keep (w := w) (ds := c.deeds) (x := (mk.slots, S.ls)) okc.dd hmk hwl
        have hhd := okc.hd
        simp only [List.mem_cons, List.not_mem_nil, or_false] at hhd
        rcases hhd with hh | hh | hh
        · have e : rowStep kd S hs (.call nm k w) = (⟨(doesOf kd.fs w c.deeds mk.slots S.ls).2, S.mks.set j ⟨mv, (doesOf kd.fs w c.deeds mk.slots S.ls).1⟩⟩, some (pr, j)) := by
            simp only [rowStep, hc, hx, hkg, hmg, hm0, hh, if_false, show (("self" : Str) = "new") = False from eq_false (by decide), if_true]
          rw [e]
          refine ⟨⟨fun m hm => ?_, ?_, fun ws h => ?_⟩, by simp, fun pr' j' z => ?_⟩
          · rcases mem_setL hm with hm | rfl
            · obtain ⟨a, b⟩ := so_.mk_ m hm
              exact ⟨a.mono dk2, b⟩
            · exact ⟨dk1, hmv0, hmv1⟩
          · show (doesOf kd.fs w c.deeds mk.slots S.ls).2.length ≤ _
            unfold doesOf; simp only at dk3; omega
          · have := dk4 ws h; omega
          · cases z; simpa using hj
        · obtain ⟨c1, c2, c3⟩ := copy_lens (same := c.same) hmk hwl
          have hcok := copy_ok (same := c.same) hmk
          obtain ⟨ek1, ek2, ek3, ek4⟩ := does_keep (w := w) (ds := c.deeds) (x := copyOf kd.fs c.same mk.slots S.ls) okc.dd hcok c3
          have e : rowStep kd S hs (.call nm k w) = (⟨(doesOf kd.fs w c.deeds (copyOf kd.fs c.same mk.slots S.ls).1 (copyOf kd.fs c.same mk.slots S.ls).2).2, S.mks ++ [⟨mv, (doesOf kd.fs w c.deeds (copyOf kd.fs c.same mk.slots S.ls).1 (copyOf kd.fs c.same mk.slots S.ls).2).1⟩]⟩, some (false, S.mks.length)) := by
            simp only [rowStep, hc, hx, hkg, hmg, hm0, hh, if_false, if_true]
          rw [e]
          refine ⟨⟨fun m hm => ?_, ?_, fun ws h => ?_⟩, by simp, fun pr' j' z => ?_⟩
          · rcases List.mem_append.mp hm with hm | hm
            · obtain ⟨a, b⟩ := so_.mk_ m hm
              exact ⟨a.mono (Nat.le_trans c1 ek2), b⟩
            · obtain rfl := List.mem_singleton.mp hm
              exact ⟨ek1, hmv0, hmv1⟩
          · exact Nat.le_trans (show _ ≤ _ from ek3) (by omega)
          · have := ek4 ws h; omega
          · cases z; simp
        · obtain ⟨c1, c2, c3⟩ := copy_lens (same := c.same) dk1 dk4
          have hcok := copy_ok (same := c.same) dk1
          have e : rowStep kd S hs (.call nm k w) = (⟨(copyOf kd.fs c.same (doesOf kd.fs w c.deeds mk.slots S.ls).1 (doesOf kd.fs w c.deeds mk.slots S.ls).2).2, S.mks.set j ⟨mv, (doesOf kd.fs w c.deeds mk.slots S.ls).1⟩ ++ [⟨0, (copyOf kd.fs c.same (doesOf kd.fs w c.deeds mk.slots S.ls).1 (doesOf kd.fs w c.deeds mk.slots S.ls).2).1⟩]⟩, some (true, S.mks.length)) := by
            simp only [rowStep, hc, hx, hkg, hmg, hm0, hh, if_false, show (("last" : Str) = "new") = False from eq_false (by decide), show (("last" : Str) = "self") = False from eq_false (by decide)]
          rw [e]
          have hm1' := ok.m1
          refine ⟨⟨fun m hm => ?_, ?_, fun ws h => ?_⟩, by simp, fun pr' j' z => ?_⟩
          · rcases List.mem_append.mp hm with hm | hm
            · rcases mem_setL hm with hm | rfl
              · obtain ⟨a, b⟩ := so_.mk_ m hm
                exact ⟨a.mono (Nat.le_trans dk2 c1), b⟩
              · exact ⟨dk1.mono c1, hmv0, hmv1⟩
            · obtain rfl := List.mem_singleton.mp hm
              exact ⟨hcok, by simp, by show (0 : Int) < kd.md; omega⟩
          · simp only at dk3
            exact Nat.le_trans (show _ ≤ _ from c2) (by omega)
          · have := c3 ws h; omega
          · cases z; simp
section
variable {A : Ad} {K : PySem.W.Frag} {kd : KD} {μ : MS} {E : XS} {Q : DK}
theorem app3 {α : Type} {l r r2 : List α} {o : α} : (l ++ o :: r) ++ r2 = l ++ o :: (r ++ r2) := by simp
theorem x_Store_init {d : Da} (h : Q (.d .non) (μ ++ [.ins A.Store [("kind", .d d), ("lists", .ob (μ.length + 1))], .lst []])) : m_Store___init__ A K [.ob μ.length, .d d] E (μ ++ [.ins A.Store []]) Q := by
  unfold m_Store___init__
  refine ⟨rfl, ?_⟩
  unfold b_Store___init__
  row_cond go
  refine ⟨_, _, rfl, get_last, show 0 < 1000 by decide, ?_⟩
  rw [set_mid]
  row_cond go
  rw [app2]
  refine ⟨_, _, rfl, get_mid, show 1 < 1000 by decide, ?_⟩
  rw [set_mid]
  rw [show (μ ++ [MO.ins A.Store (putFD (Str.ofString "kind") (Dv.d d) [])]).length = μ.length + 1 by simp]
  exact h
def baseL (μ : MS) : List (Nat × MO) := μ.zipIdx.map fun p => (p.2, p.1)
theorem base_mem {z : Nat × MO} (h : z ∈ baseL μ) : μ[z.1]? = some z.2 := by
  obtain ⟨p, hp, rfl⟩ := List.mem_map.mp h
  exact List.mem_zipIdx_iff_getElem?.mp hp
theorem mem_base {i : Nat} {o : MO} (h : μ[i]? = some o) : (i, o) ∈ baseL μ := List.mem_map.mpr ⟨(o, i), List.mem_zipIdx_iff_getElem?.mpr h, rfl⟩
theorem base_eq {ν : MS} (hle : μ.length ≤ ν.length) (h : ∀ z ∈ baseL μ, ν[z.1]? = some z.2) : ν = μ ++ ν.drop μ.length := by
  refine List.ext_getElem? fun i => ?_
  by_cases hi : i < μ.length
  · rw [List.getElem?_append_left hi]
    have := h (i, μ[i]) (mem_base (List.getElem?_eq_getElem hi))
    rw [this, List.getElem?_eq_getElem hi]
  · rw [List.getElem?_append_right (by omega), List.getElem?_drop]
    congr 1
    omega
abbrev runL (A : Ad) (kd : KD) (rs : List Row) (b : Nat) : MS := [runO A kd (b + 2) (b + 3) (b + 5) (b + 6), .lst [], .lst (rowsD rs), .ins A.Store [("kind", .d (kindDa A kd)), ("lists", .ob (b + 4))], .lst [], .lst [], .dct []]
theorem get_off {α : Type} {l r : List α} (k : Nat) : (l ++ r)[l.length + k]? = r[k]? := by
  rw [List.getElem?_append_right (by omega)]
  congr 1
  omega
theorem sto0 {rs : List Row} : StoAt A kd μ.length (runFx A kd μ.length (μ.length + 2) (μ.length + 3) (μ.length + 5) (μ.length + 6) rs [] [] (baseL μ)) (μ.length + 3) (μ.length + 4) [] [] ⟨[], []⟩ (μ ++ runL A kd rs μ.length) := by
  refine { st := get_off 3, ll := get_off 4, ln := rfl, l := by simp, mn := rfl, m := by simp, nl := by simp, nm := by simp, ns := by simp, d1 := by simp, d2 := by simp, d3 := by simp, f := fun p hp => ?_, bl := ⟨by omega, by simp, by simp⟩ }
  simp only [List.mem_cons] at hp
  rcases hp with rfl | rfl | rfl | rfl | hp
  · exact ⟨get_off 6, by simp, by simp, by show μ.length + 6 ≠ _; omega⟩
  · exact ⟨get_off 0, by simp, by simp, by show μ.length ≠ _; omega⟩
  · exact ⟨get_off 2, by simp, by simp, by show μ.length + 2 ≠ _; omega⟩
  · exact ⟨get_off 5, by simp, by simp, by show μ.length + 5 ≠ _; omega⟩
  · have := base_mem hp
    have hl := lt_of_get this
    exact ⟨get_app this, by simp, by simp, by omega⟩
theorem StoAt.setH {b so lo rn rl hd mc : Nat} {la : List Nat} {ms : List (Nat × Nat)} {S : Sto} {rs : List Row} {hs : List Dv} {kvs : List (Key × Dv)} {ex : List (Nat × MO)} (h : StoAt A kd b (runFx A kd rn rl so hd mc rs hs kvs ex) so lo la ms S μ) (h1 : hd ≠ so) (h2 : hd ≠ mc) (h3 : hd ≠ rn) (h4 : hd ≠ rl) (h5 : ∀ z ∈ ex, z.1 ≠ hd) (hs' : List Dv) : StoAt A kd b (runFx A kd rn rl so hd mc rs hs' kvs ex) so lo la ms S (μ.set hd (.lst hs')) := by
  obtain ⟨f1, f2, f3, f4⟩ := h.f (hd, .lst hs) (by simp)
  refine { h with st := getSet h.st h1, ll := getSet h.ll f4, l := fun k i ws e1 e2 => getSet (h.l k i ws e1 e2) (fun e => f2 (by show hd ∈ la; rw [e]; exact mem_get e1)), m := fun k p mk e1 e2 => ⟨getSet (h.m k p mk e1 e2).1 (f3 p (mem_get e1)).1, getSet (h.m k p mk e1 e2).2 (f3 p (mem_get e1)).2⟩, f := fun p hp => ?_ }
  simp only [List.mem_cons] at hp
  rcases hp with rfl | rfl | rfl | rfl | hp
  · obtain ⟨g1, g2⟩ := h.f (mc, .dct kvs) (by simp)
    exact ⟨getSet g1 h2, g2⟩
  · obtain ⟨g1, g2⟩ := h.f (rn, runO A kd rl so hd mc) (by simp)
    exact ⟨getSet g1 h3, g2⟩
  · obtain ⟨g1, g2⟩ := h.f (rl, .lst (rowsD rs)) (by simp)
    exact ⟨getSet g1 h4, g2⟩
  · exact ⟨by show (μ.set hd (.lst hs'))[hd]? = _; rw [List.getElem?_set_self (lt_of_get f1)], f2, f3, f4⟩
  · obtain ⟨g1, g2⟩ := h.f p (by simp [hp])
    exact ⟨getSet g1 (Ne.symm (h5 p hp)), g2⟩
/-- a run that has been made: its objects behind the first b -/
def RunDone (A : Ad) (kd : KD) (rs : List Row) (b : Nat) (μ : MS) : Prop := ∃ rl so hd mc, μ[b]? = some (runO A kd rl so hd mc) ∧ μ[rl]? = some (.lst (rowsD rs))
theorem x_Run_init {rs : List Row} {d : Dv} (ok : KDOk kd) (hp : Prog kd rs) (hd : sqV μ d = some (rowsD rs)) (hn : rs.length ≤ 900) (h : ∀ g, RunDone A kd rs μ.length (μ ++ g) → Q (.d .non) (μ ++ g)) : m_Run___init__ A K [.ob μ.length, .d (kindDa A kd), d] E (μ ++ [.ins A.Run []]) Q := by
  unfold m_Run___init__
  refine ⟨rfl, ?_⟩
  unfold b_Run___init__
  row_cond go
  refine ⟨_, _, rfl, get_last, show 0 < 1000 by decide, ?_⟩
  rw [set_mid]
  row_cond go
  refine x_checked_rows ok hp (sqD_app (sqD_app hd)) sqV_last hn ?_
  row_cond go
  simp only [List.length_append, List.length_cons, List.length_nil, List.append_assoc, List.cons_append, List.nil_append]
  refine ⟨_, _, rfl, get_mid, show 1 < 1000 by decide, ?_⟩
  rw [set_mid]
  row_cond go
  refine x_Store_init ?_
  row_cond go
  simp only [List.length_append, List.length_cons, List.length_nil, List.append_assoc, List.cons_append, List.nil_append]
  refine ⟨_, _, rfl, get_mid, show 2 < 1000 by decide, ?_⟩
  rw [set_mid]
  row_cond go
  simp only [List.length_append, List.length_cons, List.length_nil, List.append_assoc, List.cons_append, List.nil_append]
  refine ⟨_, _, rfl, get_mid, show 3 < 1000 by decide, ?_⟩
  rw [set_mid]
  row_cond go
  simp only [List.length_append, List.length_cons, List.length_nil, List.append_assoc, List.cons_append, List.nil_append]
  refine ⟨_, _, rfl, get_mid, show 4 < 1000 by decide, ?_⟩
  rw [set_mid]
  show bFor (miEn (mFld A.Run (Str.ofString "row_list") (mVar 0))) (nTup 2 (nCons (nName 3) (nCons (nName 4) nNil))) (l_Run___init___1 A K) _ [some (.ob μ.length), some (.d (kindDa A kd)), some d, none, none] (μ ++ runL A kd rs μ.length)
  have h0 := sto0 (A := A) (kd := kd) (rs := rs) (μ := μ)
  have fr0 := (h0.f (μ.length, runO A kd (μ.length + 2) (μ.length + 3) (μ.length + 5) (μ.length + 6)) (by simp)).1
  have frl0 := (h0.f (μ.length + 2, .lst (rowsD rs)) (by simp)).1
  refine ⟨_, rfl, _, _, isV_at fr0, rfl, _, sq_at frl0, sq_at frl0, ?_⟩
  refine loop_by (fun i α ν => ∃ (x3 x4 : Option Dv) (la : List Nat) (ms : List (Nat × Nat)) (S : Sto) (hs : List (Option (Bool × Nat))) (kvs : List (Key × Dv)), α = [some (.ob μ.length), some (.d (kindDa A kd)), some d, x3, x4] ∧ StoAt A kd μ.length (runFx A kd μ.length (μ.length + 2) (μ.length + 3) (μ.length + 5) (μ.length + 6) rs (hs.map (hD ms)) kvs (baseL μ)) (μ.length + 3) (μ.length + 4) la ms S ν ∧ StoOk kd i S ∧ hs.length = i ∧ (∀ pr j, some (pr, j) ∈ hs → j < S.mks.length) ∧ kvs.length ≤ i ∧ μ.length ≤ ν.length) ?_ ?_ ?_
  · rintro i y α ν N hi ⟨x3, x4, la, ms, S, hs, kvs, rfl, h', so_, hsl, hsk, hkv, hle⟩ hN
    obtain ⟨z, hz, rfl⟩ := en_get hi
    obtain ⟨r, hr, rfl⟩ := map_get hz
    have hil := lt_of_get hr
    have hrow := hp i r hr
    have fr := (h'.f (μ.length, runO A kd (μ.length + 2) (μ.length + 3) (μ.length + 5) (μ.length + 6)) (by simp)).1
    have fh := (h'.f (μ.length + 5, .lst (hs.map (hD ms))) (by simp)).1
    have hR := isV_at fr
    have hlh := ls_some (ls_at fh)
    have hex : ∀ z ∈ baseL μ, z.1 < μ.length := fun z hz => lt_of_get (base_mem hz)
    obtain ⟨k1, k2, k3⟩ := row_keep ok so_ hsk hrow
    unfold l_Run___init___1
    row_cond go
    refine x_do_row h' hle ok so_ (by omega) hsl hsk hrow ⟨by omega, by omega, by omega, by omega, fun z hz => by have := hex z hz; omega⟩ hkv (by rw [List.length_take]; omega) fun la' ms' kvs' ν' h2 hle2 hkv2 => ?_
    have fh2 := (h2.f (μ.length + 5, .lst (hs.map (hD ms'))) (by simp)).1
    have hlen : (hs.map (hD ms')).length < sizeLine := by rw [List.length_map]; exact big (by omega)
    row_cond go
    have h3 := h2.setH (by omega) (by omega) (by omega) (by omega) (fun z hz => by have := hex z hz; omega) (hs.map (hD ms') ++ [hD ms' (rowStep kd S hs r).2])
    have frl := (h3.f (μ.length + 2, .lst (rowsD rs)) (by simp)).1
    refine ⟨sq_at frl, hN _ _ ⟨_, _, la', ms', _, hs ++ [(rowStep kd S hs r).2], kvs', rfl, ?_, k1, by simp [hsl], fun pr j hj => ?_, hkv2, by simp; omega⟩⟩
    · rw [List.map_append]; exact h3
    · rcases List.mem_append.mp hj with hj | hj
      · exact Nat.lt_of_lt_of_le (hsk pr j hj) k2
      · exact k3 pr j (List.mem_singleton.mp hj).symm
  · rintro α ν ⟨x3, x4, la, ms, S, hs, kvs, rfl, h', so_, hsl, hsk, hkv, hle⟩
    have e : ν = μ ++ ν.drop μ.length := base_eq hle fun z hz => (h'.f z (by simp [hz])).1
    have := h (ν.drop μ.length)
    rw [← e] at this
    exact this ⟨_, _, _, _, (h'.f (μ.length, runO A kd (μ.length + 2) (μ.length + 3) (μ.length + 5) (μ.length + 6)) (by simp)).1, (h'.f (μ.length + 2, .lst (rowsD rs)) (by simp)).1⟩
  · exact ⟨none, none, [], [], ⟨[], []⟩, [], [], rfl, h0, ⟨by simp, by simp, by simp⟩, rfl, by simp, by simp, by simp⟩
end
end Mz
end
section
set_option Elab.async false
set_option linter.all false
set_option maxRecDepth 100000
set_option maxHeartbeats 1000000
namespace Mz
open PySem L2 TL
local macro_rules | `(tactic| row_cond sd) => `(tactic| first | exact rfl | exact True.intro | assumption | decide)
local macro_rules | `(tactic| row_cond st) => `(tactic| first
  | refine And.intro (by row_cond sd) ?_
  | refine ⟨_, by row_cond sd, ?_⟩
  | refine ⟨_, _, by row_cond sd, ?_⟩
  | refine ⟨_, _, by row_cond sd, by row_cond sd, ?_⟩
  | refine ⟨_, _, _, by row_cond sd, ?_⟩
  | refine ⟨_, _, _, by row_cond sd, by row_cond sd, ?_⟩
  | refine ⟨_, _, _, by row_cond sd, by row_cond sd, by row_cond sd, ?_⟩
  | refine ⟨_, _, _, _, by row_cond sd, ?_⟩
  | refine ⟨_, _, _, _, by row_cond sd, by row_cond sd, by row_cond sd, ?_⟩
  | refine ⟨_, _, _, _, by row_cond sd, by row_cond sd, by row_cond sd, by row_cond sd, ?_⟩
  | refine iteT ?_
  | refine iteF ?_)
local macro_rules | `(tactic| row_cond go) => `(tactic| repeat (row_cond st))
def Row.on (l : Nat) : Row → Bool
  | .make => true
  | .call _ k _ => decide (k = l)
def onwAux (kd : KD) : List Row → Nat → Nat → Bool
  | [], _, _ => true
  | r :: t, i, l => r.on l && onwAux kd t (i + 1) (if r.isLast kd = true then l else i)
section
variable {A : Ad} {K : PySem.W.Frag} {kd : KD} {μ : MS} {E : XS} {Q : DK}
theorem prog_cal {rs : List Row} (hp : Prog kd rs) {i : Nat} {r : Row} (hr : rs[i]? = some r) : ∀ nm k w, r = .call nm k w → ∃ c, calOf kd nm = some c := fun nm k w e => by
  have := hp i r hr
  rw [e] at this
  obtain ⟨c, _, hc, _⟩ := this
  exact ⟨c, hc⟩
theorem nat_dec {a b : Nat} : decide (V.int (a : Int) = V.int (b : Int)) = decide (a = b) := decide_eq_decide.mpr ⟨fun e => by have := V.int.inj e; omega, fun e => by rw [e]⟩
theorem x_is_onward {rs : List Row} {b : Nat} (hd : RunDone A kd rs b μ) (hp : Prog kd rs) (h : Q (.d (.bl (onwAux kd rs 0 0))) μ) : m_Run_is_onward A K [.ob b] E μ Q := by
  obtain ⟨rl, so, hh, mc, fr, frl⟩ := hd
  have hR := isV_at fr
  unfold m_Run_is_onward
  refine ⟨rfl, ?_⟩
  unfold b_Run_is_onward
  row_cond go
  refine ⟨_, sq_at frl, sq_at frl, ?_⟩
  refine loop_by (fun i α ν => ∃ (l : Nat) (x2 x3 : Option Dv), α = [some (.ob b), some (.d (.int l)), x2, x3] ∧ ν = μ ∧ onwAux kd rs 0 0 = onwAux kd (rs.drop i) i l) ?_ ?_ ⟨0, none, none, rfl, rfl, rfl⟩
  · rintro i y α ν N hi ⟨l, x2, x3, rfl, rfl, ho⟩ hN
    obtain ⟨z, hz, rfl⟩ := en_get hi
    obtain ⟨r, hr, rfl⟩ := map_get hz
    have hil := lt_of_get hr
    rw [List.drop_eq_getElem_cons hil, show rs[i] = r from Option.some.inj ((List.getElem?_eq_getElem hil).symm.trans hr)] at ho
    have hcal := prog_cal hp hr
    have hfin : ∀ (l' : Nat) (x2 x3 : Option Dv), onwAux kd rs 0 0 = onwAux kd (rs.drop (i + 1)) (i + 1) l' → sqV ν (.ob rl) = some (rowsD rs) ∧ N [some (.ob b), some (.d (.int l')), x2, x3] ν := fun l' x2 x3 e => ⟨sq_at frl, hN _ _ ⟨l', x2, x3, rfl, rfl, e⟩⟩
    unfold l_Run_is_onward_1
    cases r with
    | make =>
      row_cond go
      refine x_is_last_row hcal ?_
      row_cond go
      exact hfin i _ _ (by rw [ho]; simp [onwAux, Row.isLast, Row.on])
    | call nm k w =>
      have hout : k ≠ l → onwAux kd rs 0 0 = false := fun e => by rw [ho]; simp [onwAux, Row.on, e]
      have hin : k = l → onwAux kd rs 0 0 = onwAux kd (rs.drop (i + 1)) (i + 1) (if (Row.call nm k w).isLast kd = true then l else i) := fun e => by rw [ho]; simp [onwAux, Row.on, e]
      cases w with
      | none =>
        row_cond go
        rw [nat_dec]
        by_cases hkl : k = l
        · rw [show decide (k = l) = true from decide_eq_true hkl]
          row_cond go
          refine x_is_last_row hcal ?_
          cases hla : (Row.call nm k none).isLast kd with
          | true =>
            row_cond go
            exact hfin l _ _ (by rw [hin hkl, hla]; rfl)
          | false =>
            row_cond go
            exact hfin i _ _ (by rw [hin hkl, hla]; rfl)
        · rw [show decide (k = l) = false from decide_eq_false hkl]
          row_cond go
          rw [hout hkl] at h
          exact h
      | some y =>
        row_cond go
        rw [nat_dec]
        by_cases hkl : k = l
        · rw [show decide (k = l) = true from decide_eq_true hkl]
          row_cond go
          refine x_is_last_row hcal ?_
          cases hla : (Row.call nm k (some y)).isLast kd with
          | true =>
            row_cond go
            exact hfin l _ _ (by rw [hin hkl, hla]; rfl)
          | false =>
            row_cond go
            exact hfin i _ _ (by rw [hin hkl, hla]; rfl)
        · rw [show decide (k = l) = false from decide_eq_false hkl]
          row_cond go
          rw [hout hkl] at h
          exact h
  · rintro α ν ⟨l, x2, x3, rfl, rfl, ho⟩
    rw [show (iwEn (Dv.ob rl) (rowsD rs)).items.length = rs.length by show (enumD _).length = _; rw [enumD_len, List.length_map], List.drop_length] at ho
    rw [ho] at h
    unfold k_Run_is_onward_2
    row_cond go
    exact h
end
end Mz
end
section
set_option Elab.async false
set_option linter.all false
set_option maxRecDepth 100000
set_option maxHeartbeats 1000000
namespace Mz
open PySem L2 TL
local macro_rules | `(tactic| row_cond sd) => `(tactic| first | exact rfl | exact True.intro | assumption | decide)
local macro_rules | `(tactic| row_cond st) => `(tactic| first
  | refine And.intro (by row_cond sd) ?_
  | refine ⟨_, by row_cond sd, ?_⟩
  | refine ⟨_, _, by row_cond sd, ?_⟩
  | refine ⟨_, _, by row_cond sd, by row_cond sd, ?_⟩
  | refine ⟨_, _, _, by row_cond sd, ?_⟩
  | refine ⟨_, _, _, by row_cond sd, by row_cond sd, ?_⟩
  | refine ⟨_, _, _, by row_cond sd, by row_cond sd, by row_cond sd, ?_⟩
  | refine ⟨_, _, _, _, by row_cond sd, ?_⟩
  | refine ⟨_, _, _, _, by row_cond sd, by row_cond sd, by row_cond sd, ?_⟩
  | refine ⟨_, _, _, _, by row_cond sd, by row_cond sd, by row_cond sd, by row_cond sd, ?_⟩
  | refine iteT ?_
  | refine iteF ?_)
local macro_rules | `(tactic| row_cond go) => `(tactic| repeat (row_cond st))
section
variable {A : Ad} {K : PySem.W.Frag} {kd : KD} {E : Ex → Prop} {Q : Da → Prop}
theorem x_row_of {nm : Str} {c : Cal} (ok : KDOk kd) (hc : calOf kd nm = some c) (h : Q c.drawn) : m_law_row_of A K [planDa A kd, .str nm] E Q := by
  unfold m_law_row_of
  refine ⟨rfl, ?_⟩
  unfold b_law_row_of
  have hc6 := ok.c6
  row_cond go
  rw [List.map_map]
  refine lc_fm (fun x : Cal => .d x.drawn) (fun x => decide (x.nm = nm)) (fun x => .d x.drawn) (by show some _ = _; rw [List.map_map]) kd.cs (by omega) (fun i x hx P1 P0 h1 h0 => ?_) ?_
  · row_cond go
    rw [str_dec]
    cases hb : decide (x.nm = nm) with
    | true => exact iteT (by row_cond go; exact h1 hb)
    | false => exact iteF (h0 hb)
  obtain ⟨as, bs, e1, e2⟩ := calOf_split hc
  have hf : kd.cs.filter (fun x => decide (x.nm = nm)) = c :: bs.filter (fun x => decide (x.nm = nm)) := by
    rw [e1, List.filter_append, List.filter_eq_nil_iff.mpr (fun x hx => by simpa using e2 x hx)]
    simp [(calOf_nm hc).1]
  rw [hf]
  row_cond go
  refine ⟨_, ix_ob (j := 0) (sq_at get_last) rfl rfl, ?_⟩
  exact ⟨_, .d _, h⟩
theorem x_takes_law {c : Cal} (hl : c.deeds.length ≤ 4) (h : Q (.bl c.tk)) : m_law_takes A K [c.drawn] E Q := by
  unfold m_law_takes
  refine ⟨rfl, ?_⟩
  unfold b_law_takes
  row_cond go
  rw [List.map_map]
  refine lc_fm (fun p : Str × Str => .d (pairDa p)) (fun _ => true) (fun p => .d (.bl (decide (p.1 ∈ takish)))) (by show some _ = _; rw [List.map_map]) c.deeds (by omega) (fun i p hp P1 P0 h1 h0 => ?_) ?_
  · row_cond go
    have e0 := inV_strs (s := p.1) (ss := takish)
    have := h1 rfl
    rw [← e0] at this
    exact this
  rw [List.filter_eq_self.mpr (by simp)]
  refine ⟨_, _, c.deeds.map fun p => decide (p.1 ∈ takish), rfl, lsV_last, ?_, ?_⟩
  · have := bls_map (c.deeds.map fun p => decide (p.1 ∈ takish))
    rw [List.map_map] at this
    exact this
  refine ⟨_, .d _, ?_⟩
  rw [List.any_map]
  exact h
end
/-- rows on which a call may stand -/
def callB (kd : KD) (rs : List Row) : List Nat := (rs.zipIdx.filter fun p => !p.1.isLast kd).map (·.2)
def Row.py : Row → PyData
  | .make => .tuple [.str "make"]
  | .call nm k none => .tuple [.str nm, .int k]
  | .call nm k (some w) => .tuple [.str nm, .int k, .str w]
theorem pyD_row' (r : Row) : pyD r.da = some r.py := by
  cases r with
  | make => rfl
  | call nm k w => cases w <;> rfl
theorem mem_callB {kd : KD} {rs : List Row} {k : Nat} : k ∈ callB kd rs ↔ ∃ r, rs[k]? = some r ∧ r.isLast kd = false := by
  unfold callB
  simp only [List.mem_map, List.mem_filter, Prod.exists, Bool.not_eq_true']
  constructor
  · rintro ⟨r, i, ⟨hm, hl⟩, rfl⟩
    exact ⟨r, List.mem_zipIdx_iff_getElem?.mp hm, hl⟩
  · rintro ⟨r, hr, hl⟩
    exact ⟨r, k, ⟨List.mem_zipIdx_iff_getElem?.mpr hr, hl⟩, rfl⟩
theorem eqv_make (r : Row) : PyData.eqv r.py (.tuple [.str "make"]) = (match r with
    | .make => true
    | _ => false) := by
  cases r with
  | make => simp [Row.py, PyData.eqv, PyData.eqvAll]
  | call nm k w => cases w <;> simp [Row.py, PyData.eqv, PyData.eqvAll]
/-- rows with words all through -/
def RowW (r : Row) : Prop := ∀ nm k w, r = .call nm k w → (Da.str nm).isWord = true ∧ ∀ x, w = some x → (Da.str x).isWord = true
theorem sh_make : SeqAt.shaped (.tuple [.str "make"]) = true := by decide +kernel
theorem sh_rowp {r : Row} (h : RowW r) : SeqAt.shaped r.py = true := by
  cases r with
  | make => exact sh_make
  | call nm k w =>
    obtain ⟨h1, h2⟩ := h nm k w rfl
    cases w with
    | none =>
      refine Sh.ok (n := 1) (sh_tup fun q hq => ?_) (by decide)
      simp only [List.mem_cons, List.not_mem_nil, or_false] at hq
      rcases hq with rfl | rfl
      · exact sh_str h1
      · exact sh_int
    | some x =>
      refine Sh.ok (n := 1) (sh_tup fun q hq => ?_) (by decide)
      simp only [List.mem_cons, List.not_mem_nil, or_false] at hq
      rcases hq with rfl | rfl | rfl
      · exact sh_str h1
      · exact sh_int
      · exact sh_str (h2 x rfl)
theorem prog_w {kd : KD} (ok : KDOk kd) {rs : List Row} (hp : Prog kd rs) {i : Nat} {r : Row} (hr : rs[i]? = some r) : RowW r := fun nm k w e => by
  have := hp i r hr
  rw [e] at this
  obtain ⟨c, _, hc, _, _, _, hw⟩ := this
  obtain ⟨e1, e2⟩ := calOf_nm hc
  rw [← e1]
  exact ⟨(ok.c c e2).wd, hw⟩
section
variable {A : Ad} {K : PySem.W.Frag} {kd : KD} {μ : MS}
theorem enum_rows (rs : List Row) : enumD (rowsD rs) = rs.zipIdx.map fun p => Dv.d (.tup [.int (p.2 : Nat), p.1.da]) := by
  unfold enumD
  rw [List.zipIdx_map, List.map_map]
  rfl
theorem lc_callable {rs : List Row} {dr : Dv} {x2 x3 : Option Dv} {Q : List Dv → MS → Prop} (ok : KDOk kd) (hp : Prog kd rs) (hl : rs.length ≤ 900) (hd : sqV μ dr = some (rowsD rs)) (h : Q ((callB kd rs).map fun k => .d (.int (k : Nat))) μ) :
    mLcL (iwEn dr (rowsD rs)).gd (nTup 2 (nCons (nName 2) (nCons (nName 3) nNil))) (mOrT (mT (mOp (oEqD false) (mVar 3) (mTup (mCons (mC (.d (.str "make"))) mNil)))) (mT (mOp (oEq true) (mOp oIx (mCall (cP (m_law_row_of A K)) (mCons (mVar 0) (mCons (mOp oIx (mVar 3) (mC (.d (.int 0)))) mNil))) (mC (.d (.int 1)))) (mC (.d (.str "last")))))) (mVar 2) [2, 3] [some (.d (planDa A kd)), some dr, x2, x3] Q (iwEn dr (rowsD rs)).items [] μ := by
  show mLcL _ _ _ _ _ _ _ (enumD (rowsD rs)) [] μ
  rw [enum_rows]
  refine lc_fm (fun p : Row × Nat => Dv.d (.tup [.int (p.2 : Nat), p.1.da])) (fun p => !p.1.isLast kd) (fun p => .d (.int (p.2 : Nat))) hd rs.zipIdx (by rw [List.length_zipIdx]; omega) (fun i p hpi P1 P0 h1 h0 => ?_) ?_
  · obtain ⟨r, n⟩ := p
    have hr : rs[n]? = some r := List.mem_zipIdx_iff_getElem?.mp (mem_get hpi)
    have hw := prog_w ok hp hr
    have hcal := prog_cal hp hr
    row_cond go
    refine ⟨_, _, .d (pyD_row' r), .d rfl, sh_rowp hw, sh_make, ?_⟩
    rw [show PyData.eqv r.py (.tuple [.str "make"]) = _ from eqv_make r]
    cases r with
    | make =>
      row_cond go
      exact h1 (by simp [Row.isLast])
    | call nm k w =>
      obtain ⟨c, hc⟩ := hcal nm k w rfl
      have hix : ixD μ (.d (Row.call nm k w).da) (.d (.int 0)) = some (.d (.str nm)) := by cases w <;> rfl
      have hla : (Row.call nm k w).isLast kd = decide (c.hand = "last") := by simp only [Row.isLast, hc]
      row_cond go
      refine x_row_of ok hc ?_
      row_cond go
      rw [str_dec]
      simp only [hla] at h1 h0
      cases hb : decide (c.hand = "last") with
      | true => exact iteF (h0 (by rw [hb]; rfl))
      | false => exact iteT (by row_cond go; exact h1 (by rw [hb]; rfl))
  · unfold callB at h
    rw [List.map_map] at h
    exact h
theorem x_callable_o {rs : List Row} {dr : Dv} {E : XS} {Q : DK} (ok : KDOk kd) (hp : Prog kd rs) (hl : rs.length ≤ 900) (hd : sqV μ dr = some (rowsD rs)) (h : Q (.ob μ.length) (μ ++ [.lst ((callB kd rs).map fun k => .d (.int (k : Nat)))])) : m_law_callable_o A K [.d (planDa A kd), dr] E μ Q := by
  unfold m_law_callable_o
  refine ⟨rfl, ?_⟩
  unfold b_law_callable_o
  row_cond go
  exact lc_callable ok hp hl hd h
theorem x_callable {rs : List Row} {E : Ex → Prop} {Q : Da → Prop} (ok : KDOk kd) (hp : Prog kd rs) (hl : rs.length ≤ 900) (h : Q (.lst ((callB kd rs).map fun k => .int (k : Nat)))) : m_law_callable A K [planDa A kd, .lst (rs.map Row.da)] E Q := by
  unfold m_law_callable
  refine ⟨rfl, ?_⟩
  unfold b_law_callable
  have hd : ∀ μ : MS, sqV μ (.d (.lst (rs.map Row.da))) = some (rowsD rs) := fun μ => by simp [sqV]
  show mLc (miEn (mVar 1)) _ _ _ _ _ _ _ _
  refine ⟨_, rfl, _, hd [], hd [], ?_⟩
  refine lc_callable ok hp hl (hd []) ?_
  refine ⟨_, .lst get_last ?_, h⟩
  have := RzAll.map ([] ++ [MO.lst ((callB kd rs).map fun k => .d (.int (k : Nat)))]) ((callB kd rs).map fun k => Da.int (k : Nat))
  rw [List.map_map] at this
  exact this
end
end Mz
end
section
set_option Elab.async false
set_option linter.all false
set_option maxRecDepth 100000
set_option maxHeartbeats 1000000
namespace Mz
open PySem L2 TL
local macro_rules | `(tactic| row_cond sd) => `(tactic| first | exact rfl | exact True.intro | assumption | decide)
local macro_rules | `(tactic| row_cond st) => `(tactic| first
  | refine And.intro (by row_cond sd) ?_
  | refine ⟨_, by row_cond sd, ?_⟩
  | refine ⟨_, _, by row_cond sd, ?_⟩
  | refine ⟨_, _, by row_cond sd, by row_cond sd, ?_⟩
  | refine ⟨_, _, _, by row_cond sd, ?_⟩
  | refine ⟨_, _, _, by row_cond sd, by row_cond sd, ?_⟩
  | refine ⟨_, _, _, by row_cond sd, by row_cond sd, by row_cond sd, ?_⟩
  | refine ⟨_, _, _, _, by row_cond sd, ?_⟩
  | refine ⟨_, _, _, _, by row_cond sd, by row_cond sd, by row_cond sd, ?_⟩
  | refine ⟨_, _, _, _, by row_cond sd, by row_cond sd, by row_cond sd, by row_cond sd, ?_⟩
  | refine iteT ?_
  | refine iteF ?_)
local macro_rules | `(tactic| row_cond go) => `(tactic| repeat (row_cond st))
def latAux (kd : KD) : List Row → Nat → Nat → Nat
  | [], _, l => l
  | r :: t, i, l => latAux kd t (i + 1) (if r.isLast kd = true then l else i)
theorem lat_app {kd : KD} {r : Row} : ∀ (a : List Row) (i l : Nat), latAux kd (a ++ [r]) i l = if r.isLast kd = true then latAux kd a i l else i + a.length
  | [], i, l => by simp [latAux]
  | x :: t, i, l => by
    show latAux kd (t ++ [r]) (i + 1) _ = _
    rw [lat_app t (i + 1)]
    simp only [latAux, List.length_cons]
    split
    · rfl
    · omega
theorem onw_split {kd : KD} : ∀ (a b : List Row) (i l : Nat), onwAux kd (a ++ b) i l = (onwAux kd a i l && onwAux kd b (i + a.length) (latAux kd a i l))
  | [], b, i, l => by simp [onwAux, latAux]
  | x :: t, b, i, l => by
    show (x.on l && onwAux kd (t ++ b) (i + 1) _) = _
    rw [onw_split t b (i + 1)]
    simp only [onwAux, latAux, List.length_cons, Bool.and_assoc]
    rw [show i + 1 + t.length = i + (t.length + 1) by omega]
theorem onw_app {kd : KD} {r : Row} (a : List Row) (i l : Nat) : onwAux kd (a ++ [r]) i l = (onwAux kd a i l && r.on (latAux kd a i l)) := by
  rw [onw_split]
  simp [onwAux]
theorem callB_app {kd : KD} {rs : List Row} {r : Row} : callB kd (rs ++ [r]) = callB kd rs ++ (if r.isLast kd = true then [] else [rs.length]) := by
  unfold callB
  rw [List.zipIdx_append, List.filter_append, List.map_append]
  congr 1
  cases h : r.isLast kd <;> simp [h]
theorem callB_last {kd : KD} {rs : List Row} (h0 : rs[0]? = some .make) : ∀ n : Nat, 1 ≤ n → n ≤ rs.length → ∃ xs, callB kd (rs.take n) = xs ++ [latAux kd (rs.take n) 0 0]
  | 0, h, _ => by omega
  | n + 1, _, hn => by
    obtain ⟨r, hr⟩ : ∃ r, rs[n]? = some r := ⟨_, List.getElem?_eq_getElem (by omega)⟩
    have e : rs.take (n + 1) = rs.take n ++ [r] := by rw [List.take_succ, hr]; rfl
    rw [e, callB_app, lat_app]
    cases hl : r.isLast kd with
    | false =>
      refine ⟨callB kd (rs.take n), ?_⟩
      simp
    | true =>
      have hn1 : 1 ≤ n := by
        refine Nat.one_le_iff_ne_zero.mpr fun z => ?_
        subst z
        rw [h0] at hr
        cases hr
        simp [Row.isLast] at hl
      obtain ⟨xs, hx⟩ := callB_last h0 n hn1 (by omega)
      exact ⟨xs, by simp only [if_true, List.append_nil]; exact hx⟩
theorem Prog.snoc {kd : KD} {rs : List Row} {r : Row} (h : Prog kd rs) (hr : RowOk kd rs r) : Prog kd (rs ++ [r]) := by
  intro i x hi
  rcases Nat.lt_trichotomy i rs.length with hl | hl | hl
  · rw [List.getElem?_append_left hl] at hi
    rw [List.take_append_of_le_length (by omega)]
    exact h i x hi
  · subst hl
    obtain rfl : r = x := by simpa using hi
    rw [List.take_append_of_le_length (Nat.le_refl _), List.take_length]
    exact hr
  · rw [List.getElem?_eq_none (by simp; omega)] at hi
    cases hi
theorem calOf_mem {kd : KD} (ok : KDOk kd) {c : Cal} (hc : c ∈ kd.cs) : calOf kd c.nm = some c := by
  unfold calOf
  cases h : kd.cs.find? fun x => decide (x.nm = c.nm) with
  | none => exact absurd (List.find?_eq_none.mp h c hc) (by simp)
  | some x =>
    have e : x.nm = c.nm := by simpa using List.find?_some h
    have hx := List.mem_of_find?_eq_some h
    have nd := ok.nd
    obtain ⟨i, hi⟩ := List.getElem?_of_mem hx
    obtain ⟨j, hj⟩ := List.getElem?_of_mem hc
    have := nd_ix nd (show (kd.cs.map Cal.nm)[i]? = some c.nm by rw [List.getElem?_map, hi]; exact congrArg some e) (show (kd.cs.map Cal.nm)[j]? = some c.nm by rw [List.getElem?_map, hj]; rfl)
    subst this
    rw [hi] at hj
    exact hj
theorem prog0 {kd : KD} : Prog kd [.make] := fun i r h => by
  cases i with
  | zero => simp at h; subst h; exact trivial
  | succ i => simp at h
theorem callB_len (kd : KD) (rs : List Row) : (callB kd rs).length ≤ rs.length := by
  unfold callB
  rw [List.length_map]
  have := List.length_filter_le (fun p : Row × Nat => !p.1.isLast kd) rs.zipIdx
  rw [List.length_zipIdx] at this
  exact this
theorem fz1_ints {μ : MS} (l : List Nat) : fz1 (μ ++ [.lst (l.map fun k => .d (.int (k : Nat)))]) (.ob μ.length) = some (μ ++ [.frz (.lst (l.map fun k => .int (k : Nat)))], .lst (l.map fun k => .int (k : Nat))) := by
  have := fz1_last (μ := μ) (xs := l.map fun k => Da.int (k : Nat))
  rw [List.map_map] at this
  exact this
section
variable {A : Ad} {K : PySem.W.Frag} {kd : KD} {E : Ex → Prop} {Q : Da → Prop}
theorem x_program {many : Nat} {ws : List Str} (ok : KDOk kd) (hm : many ≤ 800) (hw0 : 0 < ws.length) (hw1 : ws.length < 100) (hww : ∀ x ∈ ws, (Da.str x).isWord = true) (h : ∀ rs, Prog kd rs → rs[0]? = some .make → rs.length = many + 1 → Q (.lst (rs.map Row.da))) : m_law_program A K [.st, planDa A kd, .int many, .lst (ws.map Da.str)] E Q := by
  unfold m_law_program
  refine ⟨rfl, ?_⟩
  unfold b_law_program
  row_cond go
  refine ⟨⟨by omega, by omega⟩, trivial, ?_⟩
  refine loop_by (fun i α μ => ∃ (x5 x6 x7 : Option Dv) (rs : List Row) (g : MS), α = [some (.d .st), some (.d (planDa A kd)), some (.d (.int many)), some (.d (.lst (ws.map Da.str))), some (.ob 0), x5, x6, x7] ∧ μ = .lst (rowsD rs) :: g ∧ Prog kd rs ∧ rs.length = i + 1 ∧ rs[0]? = some .make) ?_ ?_ ?_
  · rintro i y α μ N hi ⟨x5, x6, x7, rs, g, rfl, rfl, hp, hrl, hr0⟩ hN
    have hib : i < many := by
      have := lt_of_get hi
      simpa [iwR, rngD] using this
    have hc0 := ok.c0
    have hc6 := ok.c6
    unfold l_law_program_1
    row_cond go
    refine x_law_one (by simpa using hc0) (by simp; omega) fun x hx => ?_
    obtain ⟨c, hc, rfl⟩ := List.mem_map.mp hx
    have okc := ok.c c hc
    have hcal := calOf_mem ok hc
    row_cond go
    refine x_callable_o ok hp (by omega) rfl ?_
    refine ⟨_, _, fzs_cons rfl (fzs_cons (fz1_ints (callB kd rs)) rfl), ?_⟩
    obtain ⟨xs0, hx0⟩ := callB_last hr0 rs.length (by omega) (Nat.le_refl _)
    rw [List.take_length] at hx0
    refine x_law_one (by rw [List.length_map, hx0]; simp) (by rw [List.length_map]; have := callB_len kd rs; omega) fun z hz => ?_
    obtain ⟨k, hk, rfl⟩ := List.mem_map.mp hz
    obtain ⟨r0, hr1, hr2⟩ := mem_callB.mp hk
    row_cond go
    refine ⟨show 2 ≤ sizeLine by decide, ?_⟩
    have hlen : (rowsD rs).length < sizeLine := by rw [List.length_map]; exact big (by omega)
    have hmake : ∀ (x5 x6 x7 : Option Dv) (g' : MS), N [some (.d .st), some (.d (planDa A kd)), some (.d (.int many)), some (.d (.lst (ws.map Da.str))), some (.ob 0), x5, x6, x7] (.lst (rowsD rs ++ [.d Row.make.da]) :: g') := fun x5 x6 x7 g' => hN _ _ ⟨x5, x6, x7, rs ++ [.make], g', rfl, by simp, hp.snoc (r := .make) (show RowOk kd rs .make from trivial), by simp [hrl], by rw [List.getElem?_append_left (by omega)]; exact hr0⟩
    have hcall : ∀ (w : Option Str), c.tk = w.isSome → (∀ x, w = some x → (Da.str x).isWord = true) → ∀ (x5 x6 x7 : Option Dv) (g' : MS), N [some (.d .st), some (.d (planDa A kd)), some (.d (.int many)), some (.d (.lst (ws.map Da.str))), some (.ob 0), x5, x6, x7] (.lst (rowsD rs ++ [.d (Row.call c.nm k w).da]) :: g') := fun w hw hw2 x5 x6 x7 g' => hN _ _ ⟨x5, x6, x7, rs ++ [.call c.nm k w], g', rfl, by simp, hp.snoc (r := .call c.nm k w) (show RowOk kd rs (.call c.nm k w) from ⟨c, r0, hcal, hr1, hr2, hw, hw2⟩), by simp [hrl], by rw [List.getElem?_append_left (by omega)]; exact hr0⟩
    row_cond go
    refine x_takes_law okc.dl ?_
    cases htk : c.tk with
    | true =>
      rw [htk] at hcall
      row_cond go
      refine x_law_one (by simpa using hw0) (by simp; omega) fun y hy => ?_
      obtain ⟨w, hw, rfl⟩ := List.mem_map.mp hy
      row_cond go
      refine ⟨show 1 ≤ sizeLine by decide, ?_⟩
      refine ⟨_, _, rfl, rfl, show 3 ≤ sizeLine by decide, ?_⟩
      row_cond go
      refine x_law_take (by decide) (by decide) fun q q0 q1 => ?_
      row_cond go
      rw [int_dec]
      cases hq : decide (q = 0) with
      | true =>
        row_cond go
        exact hmake _ _ _ _
      | false =>
        row_cond go
        exact hcall (some w) rfl (fun x hx => by cases hx; exact hww w hw) _ _ _ _
    | false =>
      rw [htk] at hcall
      row_cond go
      refine x_law_take (by decide) (by decide) fun q q0 q1 => ?_
      row_cond go
      rw [int_dec]
      cases hq : decide (q = 0) with
      | true =>
        row_cond go
        exact hmake _ _ _ _
      | false =>
        row_cond go
        exact hcall none rfl (fun x hx => by cases hx) _ _ _ _
  · rintro α μ ⟨x5, x6, x7, rs, g, rfl, rfl, hp, hrl, hr0⟩
    rw [show (iwR 0 (many : Int).toNat).items.length = many by simp [iwR, rngD]] at hrl
    unfold k_law_program_2
    row_cond go
    refine ⟨_, .lst rfl ?_, h rs hp hr0 hrl⟩
    have := RzAll.map (.lst (rowsD rs) :: g) (rs.map Row.da)
    rw [List.map_map] at this
    exact this
  · exact ⟨none, none, none, [.make], [], rfl, rfl, prog0, rfl, rfl⟩
end
end Mz
end
section
set_option Elab.async false
set_option linter.all false
set_option maxRecDepth 100000
set_option maxHeartbeats 1000000
namespace Mz
open PySem L2 TL
local macro_rules | `(tactic| row_cond sd) => `(tactic| first | exact rfl | exact True.intro | assumption | decide)
local macro_rules | `(tactic| row_cond st) => `(tactic| first
  | refine And.intro (by row_cond sd) ?_
  | refine ⟨_, by row_cond sd, ?_⟩
  | refine ⟨_, _, by row_cond sd, ?_⟩
  | refine ⟨_, _, by row_cond sd, by row_cond sd, ?_⟩
  | refine ⟨_, _, _, by row_cond sd, ?_⟩
  | refine ⟨_, _, _, by row_cond sd, by row_cond sd, ?_⟩
  | refine ⟨_, _, _, by row_cond sd, by row_cond sd, by row_cond sd, ?_⟩
  | refine ⟨_, _, _, _, by row_cond sd, ?_⟩
  | refine ⟨_, _, _, _, by row_cond sd, by row_cond sd, by row_cond sd, ?_⟩
  | refine ⟨_, _, _, _, by row_cond sd, by row_cond sd, by row_cond sd, by row_cond sd, ?_⟩
  | refine iteT ?_
  | refine iteF ?_)
local macro_rules | `(tactic| row_cond go) => `(tactic| repeat (row_cond st))
section
variable {A : Ad} {K : PySem.W.Frag} {kd : KD} {μ : MS}
theorem lat_get {rs : List Row} (h0 : rs[0]? = some .make) : ∃ r, rs[latAux kd rs 0 0]? = some r ∧ r.isLast kd = false := by
  obtain ⟨xs, hx⟩ := callB_last (kd := kd) h0 rs.length (lt_of_get h0) (Nat.le_refl _)
  rw [List.take_length] at hx
  exact mem_callB.mp (by rw [hx]; simp)
@[irreducible] def onTail (A : Ad) (K : PySem.W.Frag) : BS :=
 (bSeq (bAsg (mIf (mT (mOp (oEq false) (mCall (cP (m_law_take A K)) (mCons (mVar 0) (mCons (mC (.d (.int 9))) mNil))) (mC (.d (.int 0))))) (mTup (mCons (mC (.d (.str "make"))) mNil)) (mVar 7)) (nName 7))
 (bSeq (bAsg (mIf (mOrT (mT (mOp (oEqD false) (mVar 7) (mTup (mCons (mC (.d (.str "make"))) mNil)))) (mT (mOp (oEq true) (mOp oIx (mVar 6) (mC (.d (.int 1)))) (mC (.d (.str "last")))))) (mCB oLen (mCons (mVar 3) mNil)) (mVar 4)) (nName 4))
 (bDrop (mBM oAppend (mVar 3) (mCons (mVar 7) mNil)))))
theorem onTail_eq (A : Ad) (K : PySem.W.Frag) : onTail A K =
 (bSeq (bAsg (mIf (mT (mOp (oEq false) (mCall (cP (m_law_take A K)) (mCons (mVar 0) (mCons (mC (.d (.int 9))) mNil))) (mC (.d (.int 0))))) (mTup (mCons (mC (.d (.str "make"))) mNil)) (mVar 7)) (nName 7))
 (bSeq (bAsg (mIf (mOrT (mT (mOp (oEqD false) (mVar 7) (mTup (mCons (mC (.d (.str "make"))) mNil)))) (mT (mOp (oEq true) (mOp oIx (mVar 6) (mC (.d (.int 1)))) (mC (.d (.str "last")))))) (mCB oLen (mCons (mVar 3) mNil)) (mVar 4)) (nName 4))
 (bDrop (mBM oAppend (mVar 3) (mCons (mVar 7) mNil))))) := by unfold onTail; rfl
theorem x_onTail {D : En} {rs : List Row} {g : MS} {c : Cal} {r : Row} {dmany : Dv} {x5 : Option Dv} {l : Nat} (hr : ∃ nm k w, r = .call nm k w) (hw : RowW r) (hlen : (rowsD rs).length < sizeLine)
    (hmake : D.nx [some (.d .st), some (.d (planDa A kd)), some dmany, some (.ob μ.length), some (.d (.int ((rowsD rs).length : Nat))), x5, some (.d c.drawn), some (.d Row.make.da)] (μ ++ .lst (rowsD rs ++ [.d Row.make.da]) :: g))
    (hcall : D.nx [some (.d .st), some (.d (planDa A kd)), some dmany, some (.ob μ.length), some (.d (.int ((if decide (c.hand = "last") = true then l else (rowsD rs).length : Nat) : Nat))), x5, some (.d c.drawn), some (.d r.da)] (μ ++ .lst (rowsD rs ++ [.d r.da]) :: g)) :
    onTail A K D [some (.d .st), some (.d (planDa A kd)), some dmany, some (.ob μ.length), some (.d (.int (l : Nat))), x5, some (.d c.drawn), some (.d r.da)] (μ ++ .lst (rowsD rs) :: g) := by
  have hget : (μ ++ MO.lst (rowsD rs) :: g)[μ.length]? = some (.lst (rowsD rs)) := get_mid
  have hls := ls_some (ls_at hget)
  unfold onTail
  row_cond go
  refine x_law_take (by decide) (by decide) fun q q0 q1 => ?_
  row_cond go
  rw [int_dec]
  cases hq : decide (q = 0) with
  | true =>
    row_cond go
    refine ⟨.tuple [.str "make"], .tuple [.str "make"], .d rfl, .d rfl, sh_make, sh_make, ?_⟩
    rw [show PyData.eqv (.tuple [.str "make"]) (.tuple [.str "make"]) = true from eqv_make .make]
    row_cond go
    refine ⟨_, len_ob (sq_at hget), ?_⟩
    row_cond go
    rw [set_mid]
    exact hmake
  | false =>
    row_cond go
    refine ⟨_, _, .d (pyD_row' r), .d rfl, sh_rowp hw, sh_make, ?_⟩
    rw [show PyData.eqv r.py (.tuple [.str "make"]) = false by obtain ⟨nm, k, w, rfl⟩ := hr; exact eqv_make _]
    row_cond go
    rw [str_dec]
    cases hb : decide (c.hand = "last") with
    | true =>
      rw [hb] at hcall
      row_cond go
      rw [set_mid]
      exact hcall
    | false =>
      rw [hb] at hcall
      row_cond go
      refine ⟨_, len_ob (sq_at hget), ?_⟩
      row_cond go
      rw [set_mid]
      exact hcall
theorem x_onward {many : Nat} {E : XS} {Q : DK} (ok : KDOk kd) (hm : many ≤ 800) (h : ∀ rs g, Prog kd rs → rs[0]? = some .make → rs.length = many + 1 → onwAux kd rs 0 0 = true → Q (.ob μ.length) (μ ++ .lst (rowsD rs) :: g)) : m_law_onward A K [.d .st, .d (planDa A kd), .d (.int many)] E μ Q := by
  unfold m_law_onward
  refine ⟨rfl, ?_⟩
  unfold b_law_onward
  row_cond go
  refine ⟨⟨by omega, by omega⟩, trivial, ?_⟩
  refine loop_by (fun i α ν => ∃ (x5 x6 x7 : Option Dv) (rs : List Row) (g : MS), α = [some (.d .st), some (.d (planDa A kd)), some (.d (.int many)), some (.ob μ.length), some (.d (.int (latAux kd rs 0 0 : Nat))), x5, x6, x7] ∧ ν = μ ++ .lst (rowsD rs) :: g ∧ Prog kd rs ∧ rs.length = i + 1 ∧ rs[0]? = some .make ∧ onwAux kd rs 0 0 = true) ?_ ?_ ?_
  · rintro i y α ν N hi ⟨x5, x6, x7, rs, g, rfl, rfl, hp, hrl, hr0, hon⟩ hN
    have hib : i < many := by
      have := lt_of_get hi
      simpa [iwR, rngD] using this
    have hc0 := ok.c0
    have hc6 := ok.c6
    obtain ⟨r0, hr1, hr2⟩ := lat_get (kd := kd) hr0
    have hlen : (rowsD rs).length < sizeLine := by rw [List.length_map]; exact big (by omega)
    have hget : ∀ g', (μ ++ MO.lst (rowsD rs) :: g')[μ.length]? = some (.lst (rowsD rs)) := fun g' => get_mid
    have hmake : ∀ (x5 x6 x7 : Option Dv) (g' : MS), N [some (.d .st), some (.d (planDa A kd)), some (.d (.int many)), some (.ob μ.length), some (.d (.int ((rowsD rs).length : Nat))), x5, x6, x7] (μ ++ .lst (rowsD rs ++ [.d Row.make.da]) :: g') := fun x5 x6 x7 g' => hN _ _ ⟨x5, x6, x7, rs ++ [.make], g', by rw [lat_app]; simp [Row.isLast], by simp, hp.snoc (r := .make) (show RowOk kd rs .make from trivial), by simp [hrl], by rw [List.getElem?_append_left (by omega)]; exact hr0, by rw [onw_app, hon]; rfl⟩
    unfold l_law_onward_1
    rw [← onTail_eq]
    row_cond go
    refine x_law_one (by simpa using hc0) (by simp; omega) fun x hx => ?_
    obtain ⟨c, hc, rfl⟩ := List.mem_map.mp hx
    have okc := ok.c c hc
    have hcal := calOf_mem ok hc
    have hcall : ∀ (w : Option Str), c.tk = w.isSome → (∀ x, w = some x → (Da.str x).isWord = true) → ∀ (x5 x6 x7 : Option Dv) (g' : MS), N [some (.d .st), some (.d (planDa A kd)), some (.d (.int many)), some (.ob μ.length), some (.d (.int ((if decide (c.hand = "last") = true then latAux kd rs 0 0 else (rowsD rs).length : Nat) : Nat))), x5, x6, x7] (μ ++ .lst (rowsD rs ++ [.d (Row.call c.nm (latAux kd rs 0 0) w).da]) :: g') := fun w hw hw2 x5 x6 x7 g' => hN _ _ ⟨x5, x6, x7, rs ++ [.call c.nm (latAux kd rs 0 0) w], g', by rw [lat_app, show (Row.call c.nm (latAux kd rs 0 0) w).isLast kd = decide (c.hand = "last") by simp only [Row.isLast, hcal]]; simp, by simp, hp.snoc (r := .call c.nm (latAux kd rs 0 0) w) (show RowOk kd rs (.call c.nm (latAux kd rs 0 0) w) from ⟨c, r0, hcal, hr1, hr2, hw, hw2⟩), by simp [hrl], by rw [List.getElem?_append_left (by omega)]; exact hr0, by rw [onw_app, hon]; simp [Row.on]⟩
    row_cond go
    refine ⟨show 2 ≤ sizeLine by decide, ?_⟩
    row_cond go
    refine x_takes_law okc.dl ?_
    cases htk : c.tk with
    | true =>
      rw [htk] at hcall
      row_cond go
      refine ⟨_, _, fzs_cons rfl (fzs_cons (fz1_last (xs := [.str "w", .str "v"])) rfl), ?_⟩
      refine x_law_one (by decide) (by decide) fun y hy => ?_
      obtain ⟨w, rfl, hw⟩ : ∃ w, y = .str w ∧ (Da.str w).isWord = true := by
        simp only [List.mem_cons, List.not_mem_nil, or_false] at hy
        rcases hy with rfl | rfl
        · exact ⟨"w", rfl, by decide⟩
        · exact ⟨"v", rfl, by decide⟩
      row_cond go
      refine ⟨show 1 ≤ sizeLine by decide, ?_⟩
      refine ⟨_, _, rfl, rfl, show 3 ≤ sizeLine by decide, ?_⟩
      row_cond go
      rw [app3]
      exact x_onTail (r := .call c.nm (latAux kd rs 0 0) (some w)) ⟨_, _, _, rfl⟩ (fun nm k w' e => by cases e; exact ⟨okc.wd, fun x hx => by cases hx; exact hw⟩) hlen ⟨trivial, hmake _ _ _ _⟩ ⟨trivial, hcall (some w) rfl (fun x hx => by cases hx; exact hw) _ _ _ _⟩
    | false =>
      rw [htk] at hcall
      row_cond go
      refine ⟨show 2 ≤ sizeLine by decide, ?_⟩
      row_cond go
      exact x_onTail (r := .call c.nm (latAux kd rs 0 0) none) ⟨_, _, _, rfl⟩ (fun nm k w' e => by cases e; exact ⟨okc.wd, fun x hx => by cases hx⟩) hlen ⟨trivial, hmake _ _ _ _⟩ ⟨trivial, hcall none rfl (fun x hx => by cases hx) _ _ _ _⟩
  · rintro α ν ⟨x5, x6, x7, rs, g, rfl, rfl, hp, hrl, hr0, hon⟩
    rw [show (iwR 0 (many : Int).toNat).items.length = many by simp [iwR, rngD]] at hrl
    unfold k_law_onward_2
    row_cond go
    exact h rs g hp hr0 hrl hon
  · exact ⟨none, none, none, [.make], [], rfl, rfl, prog0, rfl, rfl, rfl⟩
end
end Mz
end
section
set_option Elab.async false
set_option linter.all false
set_option maxRecDepth 100000
set_option maxHeartbeats 1000000
namespace Mz
open PySem L2 TL
local macro_rules | `(tactic| row_cond sd) => `(tactic| first | exact rfl | exact True.intro | assumption | decide)
local macro_rules | `(tactic| row_cond st) => `(tactic| first
  | refine And.intro (by row_cond sd) ?_
  | refine ⟨_, by row_cond sd, ?_⟩
  | refine ⟨_, _, by row_cond sd, ?_⟩
  | refine ⟨_, _, by row_cond sd, by row_cond sd, ?_⟩
  | refine ⟨_, _, _, by row_cond sd, ?_⟩
  | refine ⟨_, _, _, by row_cond sd, by row_cond sd, ?_⟩
  | refine ⟨_, _, _, by row_cond sd, by row_cond sd, by row_cond sd, ?_⟩
  | refine ⟨_, _, _, _, by row_cond sd, ?_⟩
  | refine ⟨_, _, _, _, by row_cond sd, by row_cond sd, by row_cond sd, ?_⟩
  | refine ⟨_, _, _, _, by row_cond sd, by row_cond sd, by row_cond sd, by row_cond sd, ?_⟩
  | refine iteT ?_
  | refine iteF ?_)
local macro_rules | `(tactic| row_cond go) => `(tactic| repeat (row_cond st))
section
variable {A : Ad} {K : PySem.W.Frag} {kd : KD} {E : Ex → Prop} {Q : Da → Prop}
theorem cut_take (l : List Dv) {i : Nat} (hi : i ≤ l.length) : cutD l none (some (i : Int)) = l.take i := by
  unfold cutD
  rw [HT.sIx_none, HT.sIx_nat]
  simp [Nat.min_eq_left hi]
theorem ixd_last {μ : MS} {xs : List Nat} {n : Nat} : ixD μ (.d (.lst ((xs ++ [n]).map fun k => Da.int (k : Nat)))) (.d (.int (-1))) = some (.d (.int (n : Nat))) := by
  show (sqV μ (.d (.lst _))).bind (fun ds => atI ds (-1)) = _
  show atI (List.map Dv.d ((xs ++ [n]).map fun k => Da.int (k : Nat))) (-1) = _
  rw [List.map_append, List.map_append]
  exact atI_last _ _
theorem x_law_is_onward {rs : List Row} (ok : KDOk kd) (hp : Prog kd rs) (hl : rs.length ≤ 900) (h0 : rs[0]? = some .make) (h : Q (.bl (onwAux kd rs 0 0))) : m_law_is_onward A K [planDa A kd, .lst (rs.map Row.da)] E Q := by
  unfold m_law_is_onward
  refine ⟨rfl, ?_⟩
  unfold b_law_is_onward
  have hd : ∀ μ : MS, sqV μ (.d (.lst (rs.map Row.da))) = some (rowsD rs) := fun μ => by simp [sqV]
  have hdl : ∀ μ : MS, lsV μ (.d (.lst (rs.map Row.da))) = some (rowsD rs) := fun μ => by simp [lsV]
  show bFor (miEn (mVar 1)) (nTup 2 (nCons (nName 2) (nCons (nName 3) nNil))) (l_law_is_onward_1 A K) _ _ _
  refine ⟨_, rfl, _, hd [], hd [], ?_⟩
  refine loop_by (fun i α μ => ∃ (x2 x3 : Option Dv), α = [some (.d (planDa A kd)), some (.d (.lst (rs.map Row.da))), x2, x3] ∧ onwAux kd rs 0 0 = onwAux kd (rs.drop i) i (latAux kd (rs.take i) 0 0)) ?_ ?_ ⟨none, none, rfl, rfl⟩
  · rintro i y α μ N hi ⟨x2, x3, rfl, ho⟩ hN
    obtain ⟨z, hz, rfl⟩ := en_get hi
    obtain ⟨r, hr, rfl⟩ := map_get hz
    have hil := lt_of_get hr
    rw [List.drop_eq_getElem_cons hil, show rs[i] = r from Option.some.inj ((List.getElem?_eq_getElem hil).symm.trans hr)] at ho
    have hw := prog_w ok hp hr
    have e1 : rs.take (i + 1) = rs.take i ++ [r] := by rw [List.take_succ, hr]; rfl
    have hlat : latAux kd (rs.take (i + 1)) 0 0 = if r.isLast kd = true then latAux kd (rs.take i) 0 0 else i := by
      rw [e1, lat_app, List.length_take, Nat.min_eq_left (by omega)]; simp
    have hfin : r.on (latAux kd (rs.take i) 0 0) = true → ∀ (x2 x3 : Option Dv) (μ' : MS), sqV μ' (.d (.lst (rs.map Row.da))) = some (rowsD rs) ∧ N [some (.d (planDa A kd)), some (.d (.lst (rs.map Row.da))), x2, x3] μ' := fun hon x2 x3 μ' => ⟨hd μ', hN _ _ ⟨x2, x3, rfl, by rw [ho, hlat]; simp [onwAux, hon]⟩⟩
    unfold l_law_is_onward_1
    row_cond go
    refine ⟨_, _, .d (pyD_row' r), .d rfl, sh_rowp hw, sh_make, ?_⟩
    rw [show PyData.eqv r.py (.tuple [.str "make"]) = _ from eqv_make r]
    cases r with
    | make =>
      row_cond go
      exact hfin rfl _ _ _
    | call nm k w =>
      have hix : ∀ μ : MS, ixD μ (.d (Row.call nm k w).da) (.d (.int 1)) = some (.d (.int (k : Nat))) := fun μ => by cases w <;> rfl
      have hix1 := hix μ
      have hi1 : 1 ≤ i := by
        refine Nat.one_le_iff_ne_zero.mpr fun z => ?_
        subst z
        rw [h0] at hr
        cases hr
      obtain ⟨xs, hxs⟩ := callB_last (kd := kd) h0 i hi1 (by omega)
      row_cond go
      have hcut : cutD (List.map Dv.d (rs.map Row.da)) none (some (i : Int)) = ((rs.take i).map Row.da).map .d := by
        rw [cut_take _ (by simp; omega), ← List.map_take, ← List.map_take]
      rw [hcut]
      refine ⟨_, _, fzs_cons rfl (fzs_cons fz1_last rfl), ?_⟩
      refine x_callable ok (hp.take i) (by rw [List.length_take]; omega) ?_
      rw [hxs]
      row_cond go
      refine ⟨_, ixd_last, ?_⟩
      row_cond go
      rw [nat_dec]
      by_cases hk : k = latAux kd (rs.take i) 0 0
      · rw [show decide (k = latAux kd (rs.take i) 0 0) = true from decide_eq_true hk]
        row_cond go
        exact hfin (by simp [Row.on, hk]) _ _ _
      · rw [show decide (k = latAux kd (rs.take i) 0 0) = false from decide_eq_false hk]
        row_cond go
        rw [ho, show onwAux kd (Row.call nm k w :: rs.drop (i + 1)) i (latAux kd (rs.take i) 0 0) = false by simp [onwAux, Row.on, hk]] at h
        exact ⟨_, .d _, h⟩
  · rintro α μ ⟨x2, x3, rfl, ho⟩
    rw [show (iwEn (Dv.d (Da.lst (List.map Row.da rs))) (rowsD rs)).items.length = rs.length by show (enumD _).length = _; rw [enumD_len, List.length_map], List.drop_length] at ho
    rw [ho] at h
    unfold k_law_is_onward_2
    row_cond go
    exact ⟨_, .d _, h⟩
end
end Mz
end
section
set_option Elab.async false
set_option linter.all false
set_option maxRecDepth 100000
set_option maxHeartbeats 1000000
namespace Mz
open PySem L2 TL
local macro_rules | `(tactic| row_cond sd) => `(tactic| first | exact rfl | exact True.intro | assumption | decide)
local macro_rules | `(tactic| row_cond st) => `(tactic| first
  | refine And.intro (by row_cond sd) ?_
  | refine ⟨_, by row_cond sd, ?_⟩
  | refine ⟨_, _, by row_cond sd, ?_⟩
  | refine ⟨_, _, by row_cond sd, by row_cond sd, ?_⟩
  | refine ⟨_, _, _, by row_cond sd, ?_⟩
  | refine ⟨_, _, _, by row_cond sd, by row_cond sd, ?_⟩
  | refine ⟨_, _, _, by row_cond sd, by row_cond sd, by row_cond sd, ?_⟩
  | refine ⟨_, _, _, _, by row_cond sd, ?_⟩
  | refine ⟨_, _, _, _, by row_cond sd, by row_cond sd, by row_cond sd, ?_⟩
  | refine ⟨_, _, _, _, by row_cond sd, by row_cond sd, by row_cond sd, by row_cond sd, ?_⟩
  | refine iteT ?_
  | refine iteF ?_)
local macro_rules | `(tactic| row_cond go) => `(tactic| repeat (row_cond st))
section
variable {A : Ad} {K : PySem.W.Frag} {E : Ex → Prop} {Q : Da → Prop}
theorem x_same_bl {a b : Bool} (h : Q (.bl (a == b))) : m_law_same A K 1 [.bl a, .bl b] E Q := by
  show ms_law_same (m_law_same A K 0) A K [.bl a, .bl b] E Q
  unfold ms_law_same
  refine ⟨rfl, ?_⟩
  unfold b_law_same
  row_cond go
  refine ⟨_, _, _, .bl _, rfl, isT_data (d := .bl b), by decide, ?_⟩
  row_cond go
  refine ⟨_, _, _, .bl _, rfl, kit_ty (kit_all .bl .int), ?_⟩
  row_cond go
  refine ⟨_, _, _, .bl _, rfl, kit_ty (kit_all .bl .int), ?_⟩
  row_cond go
  refine ⟨_, _, _, .bl _, rfl, kit_ty (kit_all .bl .bool), ?_⟩
  row_cond go
  refine ⟨_, _, _, .bl _, rfl, kit_ty (kit_all .bl .bool), ?_⟩
  row_cond go
  refine ⟨.bool a, .bool b, .d rfl, .d rfl, by cases a <;> decide, by cases b <;> decide, ?_⟩
  rw [show PyData.eqv (.bool a) (.bool b) = (a == b) by simp [PyData.eqv]]
  exact ⟨_, .d _, h⟩
end
theorem Prog.setK {kd : KD} {rs : List Row} (h : Prog kd rs) {i : Nat} {nm : Str} {k k' : Nat} {w : Option Str} (hr : rs[i]? = some (.call nm k w)) (hk : k' ∈ callB kd (rs.take i)) : Prog kd (rs.set i (.call nm k' w)) := by
  have hil := lt_of_get hr
  have same : ∀ (j : Nat) (n : Nat) (r : Row), ((rs.set i (.call nm k' w)).take n)[j]? = some r → r.isLast kd = false ∨ True := fun _ _ _ _ => .inr trivial
  have key : ∀ (n j : Nat) (r : Row), (rs.take n)[j]? = some r → r.isLast kd = false → ∃ r', ((rs.set i (.call nm k' w)).take n)[j]? = some r' ∧ r'.isLast kd = false := by
    intro n j r hj hl
    rw [List.getElem?_take] at hj ⊢
    split at hj
    · rename_i hjn
      rw [if_pos hjn]
      by_cases e : i = j
      · subst e
        rw [hr] at hj
        cases hj
        exact ⟨_, List.getElem?_set_self hil, hl⟩
      · exact ⟨r, by rw [List.getElem?_set_ne e]; exact hj, hl⟩
    · cases hj
  intro n r hn
  by_cases e : i = n
  · subst e
    rw [List.getElem?_set_self hil] at hn
    cases hn
    obtain ⟨c, r0, hc, _, _, ht, hw⟩ := h i _ hr
    obtain ⟨r1, h1, h2⟩ := mem_callB.mp hk
    obtain ⟨r2, h3, h4⟩ := key i k' r1 h1 h2
    exact ⟨c, r2, hc, h3, h4, ht, hw⟩
  · rw [List.getElem?_set_ne e] at hn
    have := h n r hn
    cases r with
    | make => exact trivial
    | call nm2 k2 w2 =>
      obtain ⟨c, r0, hc, h1, h2, ht, hw⟩ := this
      obtain ⟨r2, h3, h4⟩ := key n k2 r0 h1 h2
      exact ⟨c, r2, hc, h3, h4, ht, hw⟩
section
variable {A : Ad} {K : PySem.W.Frag} {D : En}
@[irreducible] def tail12 (A : Ad) (K : PySem.W.Frag) : BS :=
 (bSeq (bAsg (mLst (mCons (mVar 4) (mCons (mCall (cP (m_law_program A K)) (mCons (mVar 1) (mCons (mVar 3) (mCons (mCall (cP (m_law_one A K)) (mCons (mVar 1) (mCons (mLst (mCons (mC (.d (.int 2))) (mCons (mC (.d (.int 3))) (mCons (mC (.d (.int 9))) mNil)))) mNil))) (mCons (mLst (mCons (mC (.d (.str "w"))) (mCons (mC (.d (.str "v"))) mNil))) mNil))))) mNil))) (nName 7))
 (bSeq (bIf (mT (mOp (oIsB true) (mMeth A.Run "is_onward" (cO (m_Run_is_onward A K)) (mMakeD A.Run (cO (m_Run___init__ A K)) [.tup []] (mCons (mDGet (mVar 3) (mC (.d (.str "known")))) mNil)) mNil) (mC (.d (.bl true)))))
 (bRet (mC (.d (.bl false))))
 bNext)
 (bFor (miSq (mVar 7)) (nName 8) (l_law_1_k12 A K))))
theorem tail12_eq (A : Ad) (K : PySem.W.Frag) : tail12 A K =
 (bSeq (bAsg (mLst (mCons (mVar 4) (mCons (mCall (cP (m_law_program A K)) (mCons (mVar 1) (mCons (mVar 3) (mCons (mCall (cP (m_law_one A K)) (mCons (mVar 1) (mCons (mLst (mCons (mC (.d (.int 2))) (mCons (mC (.d (.int 3))) (mCons (mC (.d (.int 9))) mNil)))) mNil))) (mCons (mLst (mCons (mC (.d (.str "w"))) (mCons (mC (.d (.str "v"))) mNil))) mNil))))) mNil))) (nName 7))
 (bSeq (bIf (mT (mOp (oIsB true) (mMeth A.Run "is_onward" (cO (m_Run_is_onward A K)) (mMakeD A.Run (cO (m_Run___init__ A K)) [.tup []] (mCons (mDGet (mVar 3) (mC (.d (.str "known")))) mNil)) mNil) (mC (.d (.bl true)))))
 (bRet (mC (.d (.bl false))))
 bNext)
 (bFor (miSq (mVar 7)) (nName 8) (l_law_1_k12 A K)))) := by unfold tail12; rfl
theorem RunDone.is {kd : KD} {rs : List Row} {b : Nat} {μ : MS} (h : RunDone A kd rs b μ) : ∃ fs, isV μ (.ob b) = some (A.Run, fs) ∧ fs.lookup ("is_onward" : Str) = none := by
  obtain ⟨rl, so, hd, mc, fr, _⟩ := h
  exact ⟨_, isV_at fr, by rfl⟩
theorem x_one12 {kd : KD} {rs : List Row} {d : Dv} {x2 x5 x6 x7 : Option Dv} {ν : MS} {r0 : Nat} (ok : KDOk kd) (hp : Prog kd rs) (h0 : rs[0]? = some .make) (hl : rs.length ≤ 900) (hd : d = .d (.lst (rs.map Row.da)) ∨ (d = .ob r0 ∧ ν[r0]? = some (.lst (rowsD rs))))
    (hN : ∀ ν', (∀ j o, j ≠ r0 → ν[j]? = some o → ν'[j]? = some o) → D.nx [none, some (.d .st), x2, some (.d (planDa A kd)), some (.ob r0), x5, x6, x7, some d] ν') :
    l_law_1_k12 A K D [none, some (.d .st), x2, some (.d (planDa A kd)), some (.ob r0), x5, x6, x7, some d] ν := by
  have hsq : sqV ν d = some (rowsD rs) := by
    rcases hd with rfl | ⟨rfl, hd⟩
    · simp [sqV]
    · exact sq_at hd
  unfold l_law_1_k12
  row_cond go
  refine x_Run_init ok hp hsq hl fun g hg => ?_
  obtain ⟨fs, hi1, hi2⟩ := hg.is
  row_cond go
  refine x_is_onward hg hp ?_
  row_cond go
  rcases hd with rfl | ⟨rfl, hd⟩
  · refine ⟨_, _, fzs_cons rfl (fzs_cons rfl rfl), ?_⟩
    refine x_law_is_onward ok hp hl h0 ?_
    row_cond go
    refine x_same_bl ?_
    rw [beq_self_eq_true]
    row_cond go
    exact hN _ fun j o hj ho => get_app ho
  · have hd2 : (ν ++ g)[r0]? = some (.lst ((rs.map Row.da).map .d)) := by
      rw [List.map_map]; exact get_app hd
    refine ⟨_, _, fzs_cons rfl (fzs_cons (fz1_lst hd2) rfl), ?_⟩
    refine x_law_is_onward ok hp hl h0 ?_
    row_cond go
    refine x_same_bl ?_
    rw [beq_self_eq_true]
    row_cond go
    exact hN _ fun j o hj ho => getSet (get_app ho) (Ne.symm hj)
theorem x_tail12 {kd : KD} {rs : List Row} {x2 x5 x6 x7 x8 : Option Dv} {ν : MS} {r0 : Nat} (ok : KDOk kd) (hp : Prog kd rs) (h0 : rs[0]? = some .make) (hl : rs.length ≤ 900) (hr : ν[r0]? = some (.lst (rowsD rs)))
    (hN : ∀ x2 x5 x6 x7 x8 ν', D.nx [none, some (.d .st), x2, some (.d (planDa A kd)), some (.ob r0), x5, x6, x7, x8] ν') :
    tail12 A K D [none, some (.d .st), x2, some (.d (planDa A kd)), some (.ob r0), x5, x6, x7, x8] ν := by
  unfold tail12
  have hr0l := lt_of_get hr
  row_cond go
  refine ⟨_, _, fzs_cons rfl (fzs_cons (fz1_last (xs := [.int 2, .int 3, .int 9])) rfl), ?_⟩
  refine x_law_one (by decide) (by decide) fun y hy => ?_
  obtain ⟨m, rfl, hm⟩ : ∃ m : Nat, y = .int m ∧ m ≤ 9 := by
    simp only [List.mem_cons, List.not_mem_nil, or_false] at hy
    rcases hy with rfl | rfl | rfl
    · exact ⟨2, rfl, by decide⟩
    · exact ⟨3, rfl, by decide⟩
    · exact ⟨9, rfl, by decide⟩
  row_cond go
  refine ⟨_, _, fzs_cons rfl (fzs_cons rfl (fzs_cons rfl (fzs_cons (fz1_last (xs := [.str "w", .str "v"])) rfl))), ?_⟩
  refine x_program (ws := ["w", "v"]) ok (by omega) (by decide) (by decide) (by decide) fun prs hpp hp0 hpl => ?_
  row_cond go
  refine ⟨show 2 ≤ sizeLine by decide, ?_⟩
  row_cond go
  have hprog0 : Prog kd [] := fun i r h => by simp at h
  refine x_Run_init (rs := []) ok hprog0 rfl (by simp) fun g hg => ?_
  obtain ⟨fs, hi1, hi2⟩ := hg.is
  row_cond go
  refine x_is_onward hg hprog0 ?_
  row_cond go
  have hω : (ν ++ [MO.frz (Da.lst [Da.int 2, Da.int 3, Da.int 9])] ++ [MO.frz (Da.lst [Da.str (Str.ofString "w"), Da.str (Str.ofString "v")])])[r0]? = some (.lst (rowsD rs)) := get_app (get_app hr)
  generalize (ν ++ [MO.frz (Da.lst [Da.int 2, Da.int 3, Da.int 9])] ++ [MO.frz (Da.lst [Da.str (Str.ofString "w"), Da.str (Str.ofString "v")])]) = ω at hω ⊢
  have hne : ω.length ≠ r0 := by have := lt_of_get hω; omega
  refine ⟨_, sq_at (get_app get_last), sq_at (get_app get_last), ?_⟩
  refine loop_by (fun i α ν' => ∃ x8, α = [none, some (.d .st), x2, some (.d (planDa A kd)), some (.ob r0), x5, x6, some (.ob ω.length), x8] ∧ ν'[ω.length]? = some (.lst [Dv.ob r0, Dv.d (Da.lst (List.map Row.da prs))]) ∧ (i = 0 → ν'[r0]? = some (.lst (rowsD rs)))) ?_ ?_ ⟨x8, rfl, get_app get_last, fun _ => get_app (get_app hω)⟩
  · rintro i y α ν' N hi ⟨z8, rfl, ho, hz⟩ hN'
    match i, hi with
    | 0, hi =>
      obtain rfl : Dv.ob r0 = y := Option.some.inj hi
      show l_law_1_k12 A K _ [none, some (.d .st), x2, some (.d (planDa A kd)), some (.ob r0), x5, x6, some (.ob ω.length), some (.ob r0)] ν'
      refine x_one12 ok hp h0 hl (.inr ⟨rfl, hz rfl⟩) fun ν2 hf => ?_
      have ho2 := hf _ _ hne ho
      exact ⟨sq_at ho2, hN' _ _ ⟨_, rfl, ho2, fun e => by cases e⟩⟩
    | 1, hi =>
      obtain rfl : Dv.d (Da.lst (List.map Row.da prs)) = y := Option.some.inj hi
      show l_law_1_k12 A K _ [none, some (.d .st), x2, some (.d (planDa A kd)), some (.ob r0), x5, x6, some (.ob ω.length), some (.d (.lst (prs.map Row.da)))] ν'
      refine x_one12 ok hpp hp0 (by omega) (.inl rfl) fun ν2 hf => ?_
      have ho2 := hf _ _ hne ho
      exact ⟨sq_at ho2, hN' _ _ ⟨_, rfl, ho2, fun e => by cases e⟩⟩
    | i + 2, hi => cases hi
  · rintro α ν' ⟨z8, rfl, ho, hz⟩
    exact hN _ _ _ _ _ _
theorem x_law12 (hD : ∀ μ, D.rt (.d (.bl true)) μ) (hE : D.er = noX) : b_law_k12 A K D [none, some (.d .st), none, none, none, none, none, none, none] [] := by
  unfold b_law_k12
  show bFor (miR1 (mCons (mC (.d (.int 6))) mNil)) (nName 2) (l_law_2_k12 A K) _ _ _
  refine ⟨6, rfl, by decide, trivial, ?_⟩
  refine loop_by (fun i α μ => ∃ x2 x3 x4 x5 x6 x7 x8, α = [none, some (.d .st), x2, x3, x4, x5, x6, x7, x8]) ?_ ?_ ⟨none, none, none, none, none, none, none, rfl⟩
  · rintro i d α μ N hi ⟨x2, x3, x4, x5, x6, x7, x8, rfl⟩ hN
    unfold l_law_2_k12
    rw [← tail12_eq]
    row_cond go
    refine x_law_kind (by decide) (by decide) (by decide) (by decide) (by decide) (by decide) fun kd dr => ?_
    have ok := dr.ok
    row_cond go
    refine ⟨_, _, fzs_cons rfl (fzs_cons (fz1_last (xs := [.int 0, .int 3, .int 8, .int 20])) rfl), ?_⟩
    refine x_law_one (by decide) (by decide) fun y hy => ?_
    obtain ⟨m, rfl, hm⟩ : ∃ m : Nat, y = .int m ∧ m ≤ 20 := by
      simp only [List.mem_cons, List.not_mem_nil, or_false] at hy
      rcases hy with rfl | rfl | rfl | rfl
      · exact ⟨0, rfl, by decide⟩
      · exact ⟨3, rfl, by decide⟩
      · exact ⟨8, rfl, by decide⟩
      · exact ⟨20, rfl, by decide⟩
    row_cond go
    refine x_onward ok (by omega) fun rs g hp h0 hrl hon => ?_
    generalize (μ ++ [MO.frz (.lst [.int 0, .int 3, .int 8, .int 20])]) = μ1
    row_cond go
    refine x_Run_init ok hp (sq_at get_mid) (by omega) fun g2 hg => ?_
    obtain ⟨fs, hi1, hi2⟩ := hg.is
    row_cond go
    refine x_is_onward hg hp ?_
    rw [hon]
    row_cond go
    refine x_same_bl ?_
    row_cond go
    have hget : (μ1 ++ MO.lst (rowsD rs) :: g ++ g2)[μ1.length]? = some (.lst (rowsD rs)) := get_app get_mid
    refine ⟨_, len_ob (sq_at hget), ?_⟩
    row_cond go
    refine x_law_take (by simp; omega) (by simp; omega) fun a a0 a1 => ?_
    obtain ⟨n, rfl⟩ : ∃ n : Nat, a = n := ⟨a.toNat, by omega⟩
    have hn : n < rs.length := by simpa using a1
    obtain ⟨r, hr⟩ : ∃ r, rs[n]? = some r := ⟨_, List.getElem?_eq_getElem hn⟩
    generalize (μ1 ++ MO.lst (rowsD rs) :: g ++ g2) = ω at hget
    generalize μ1.length = r0 at hget
    have hlsw := ls_at hget
    row_cond go
    have hcut : cutD (rowsD rs) none (some (n : Int)) = ((rs.take n).map Row.da).map .d := by
      rw [cut_take _ (by simp; omega), ← List.map_take, List.map_map]; rfl
    rw [hcut]
    refine ⟨_, _, fzs_cons rfl (fzs_cons fz1_last rfl), ?_⟩
    refine x_callable ok (hp.take n) (by rw [List.length_take]; omega) ?_
    have hget2 : (ω ++ [MO.frz (.lst ((rs.take n).map Row.da))])[r0]? = some (.lst (rowsD rs)) := get_app hget
    generalize (ω ++ [MO.frz (.lst ((rs.take n).map Row.da))]) = ω2 at hget2
    have hw := prog_w ok hp hr
    have hixr : ixD ω2 (.ob r0) (.d (.int (n : Nat))) = some (.d r.da) := ix_ob (j := n) (sq_at hget2) rfl (by rw [List.getElem?_map, hr]; rfl)
    have hfin : ∀ (y2 y5 y6 y7 y8 : Option Dv) (ν' : MS), (iwR 0 (Int.toNat 6)).gd ν' ∧ N [none, some (.d .st), y2, some (.d (planDa A kd)), some (.ob r0), y5, y6, y7, y8] ν' := fun y2 y5 y6 y7 y8 ν' => ⟨trivial, hN _ _ ⟨_, _, _, _, _, _, _, rfl⟩⟩
    row_cond go
    by_cases hn0 : 0 < n
    · rw [show decide ((0 : Int) < (n : Nat)) = true from decide_eq_true (by omega)]
      row_cond go
      refine ⟨_, _, .d (pyD_row' r), .d rfl, sh_rowp hw, sh_make, ?_⟩
      rw [show PyData.eqv r.py (.tuple [.str "make"]) = _ from eqv_make r]
      cases r with
      | make =>
        row_cond go
        exact x_tail12 ok hp h0 (by omega) hget2 hfin
      | call nm k w =>
        have hk0 : 0 < (callB kd (rs.take n)).length := by
          obtain ⟨xs, hxs⟩ := callB_last (kd := kd) h0 n hn0 (by omega)
          rw [hxs]; simp
        have hkl := callB_len kd (rs.take n)
        rw [List.length_take] at hkl
        have hix0 : ixD ω2 (.d (Row.call nm k w).da) (.d (.int 0)) = some (.d (.str nm)) := by cases w <;> rfl
        row_cond go
        refine x_law_one (by simpa using hk0) (by simp; omega) fun y hy => ?_
        obtain ⟨k', hk', rfl⟩ := List.mem_map.mp hy
        have hp2 := hp.setK hr hk'
        have hset : (rowsD rs).set n (.d (Row.call nm k' w).da) = rowsD (rs.set n (.call nm k' w)) := by simp [List.map_set]
        have hr0l := lt_of_get hget2
        have hget3 : (ω2.set r0 (.lst ((rowsD rs).set n (.d (Row.call nm k' w).da))))[r0]? = some (.lst (rowsD (rs.set n (.call nm k' w)))) := by
          rw [List.getElem?_set_self hr0l, hset]
        have h02 : (rs.set n (.call nm k' w))[0]? = some .make := by rw [List.getElem?_set_ne (by omega)]; exact h0
        row_cond go
        refine ⟨show 2 ≤ sizeLine by decide, ?_⟩
        row_cond go
        cases w with
        | none =>
          refine ⟨_, _, rfl, rfl, show 2 ≤ sizeLine by decide, ?_⟩
          row_cond go
          refine ⟨_, _, _, _, rfl, rfl, hget2, ix_nat (by simpa using hn), ?_⟩
          exact x_tail12 ok hp2 h02 (by simp; omega) hget3 hfin
        | some x =>
          refine ⟨_, _, rfl, rfl, show 3 ≤ sizeLine by decide, ?_⟩
          row_cond go
          refine ⟨_, _, _, _, rfl, rfl, hget2, ix_nat (by simpa using hn), ?_⟩
          exact x_tail12 ok hp2 h02 (by simp; omega) hget3 hfin
    · rw [show decide ((0 : Int) < (n : Nat)) = false from decide_eq_false (by omega)]
      row_cond go
      exact x_tail12 ok hp h0 (by omega) hget2 hfin
  · rintro α μ ⟨x2, x3, x4, x5, x6, x7, x8, rfl⟩
    exact hD μ
end
end Mz
end
section
set_option Elab.async false
set_option linter.all false
set_option maxRecDepth 100000
set_option maxHeartbeats 4000000
namespace Mz
open PySem L2
/-- a tuple of texts that the top has written -/
theorem at_strs {c : Cn} {G : Hp} : ∀ {ss : List Str}, AtDs c G (ss.map V.str) (ss.map Da.str)
  | [] => .nil
  | s :: _ => .cons (.str s) at_strs
theorem at_strT {K : PySem.W.Frag} {st a : Addr} {G : Hp} {ss : List Str} {cl : Value} {od : Option Addr} {its : Array Value} {n : Nat} {sl : Array (Option Value)} (l : K.lookup a = some ⟨cl, od, .seq its n, sl⟩) (hc : cl = .type "tuple") (hz : its.size ≤ sizeLine) (hv : Vals (ss.map V.str) its.toList) : AtD ⟨K, st⟩ G (.ref a) (.tup (ss.map Da.str)) :=
  .tup (.inr ⟨_, its, n, l, hc, rfl, hz, hv⟩) at_strs
/-- a def with one default -/
theorem funX_mk {K : PySem.W.Frag} {x qual : Str} {st : Stmt} {f T e : Addr} {oc c1 : Value} {od an o1 : Option Addr} {osl z1 : Array (Option Value)} {n1 : Nat} {kV doc pm cdv ct : Value} (l : K.lookup f = some ⟨oc, od, .func (PySem.W.fnOf x qual (defArgs st) (defBody st) (defScope st) (.ref T) kV doc pm an cdv ct), osl⟩)
    (c : PySem.W.codeIn K cdv qual = true) (k : PySem.W.keepIn K (.ref f) = true) (lT : K.lookup T = some ⟨c1, o1, .seq #[.ref e] n1, z1⟩) : FunX K x qual st [.ref e] f (PySem.W.fnOf x qual (defArgs st) (defBody st) (defScope st) (.ref T) kV doc pm an cdv ct) :=
  ⟨⟨oc, od, .ref T, kV, doc, pm, an, cdv, ct, osl, rfl, l, c, .inr ⟨by simp, T, _, [.ref e], n1, rfl, lT, rfl, .cons rfl .nil⟩, .inl rfl⟩, k⟩
theorem binds_all {K : PySem.W.Frag} {fd : FuncData} {ps : List Str} {e : Addr} {p : Prop} (_ : p) (h : ∃ ds, Vals (([V.ref e] : List V).drop 1) ds ∧ Binds K fd ps ds) : Binds K fd ps [] := by
  obtain ⟨ds, hv, hb⟩ := h
  cases hv
  exact hb
theorem binds_dfl {K : PySem.W.Frag} {fd : FuncData} {ps : List Str} {e : Addr} (h : ∃ ds, Vals (([V.ref e] : List V).drop 0) ds ∧ Binds K fd ps ds) : Binds K fd ps [.ref e] := by
  obtain ⟨ds, hv, hb⟩ := h
  cases hv with
  | cons h1 h2 =>
    cases h2
    cases h1
    exact hb
end Mz
end
section
set_option Elab.async false
set_option linter.all false
set_option maxRecDepth 100000
set_option maxHeartbeats 4000000
namespace Mz
open PySem L2
def top (i : Nat) : Stmt := PySem.Challenge.pw_makerlines_k12_onward_programs.main.body.getD i (.Pass ⟨0, 0, 0, 0⟩)
abbrev s_law_fill : Stmt := top 42
abbrev N_law_fill : List Str := ["_law_state", "_law_cells", "_law_nth", "_law_seed", "_law_k", "_law_prime", "_law_far"]
theorem sc_law_fill : FnScope N_law_fill ["_law_state"] (defScope s_law_fill) := ⟨rfl, rfl, rfl, by decide +kernel, rfl, by decide +kernel, by decide +kernel⟩
abbrev s_law_take : Stmt := top 43
abbrev N_law_take : List Str := ["_law_state", "_law_many", "_law_laps", "_law_digit"]
theorem sc_law_take : FnScope N_law_take ["_law_state", "_law_many"] (defScope s_law_take) := ⟨rfl, rfl, rfl, by decide +kernel, rfl, by decide +kernel, by decide +kernel⟩
abbrev s_law_fresh : Stmt := top 41
abbrev N_law_fresh : List Str := ["_law_script"]
theorem sc_law_fresh : FnScope N_law_fresh ["_law_script"] (defScope s_law_fresh) := ⟨rfl, rfl, rfl, by decide +kernel, rfl, by decide +kernel, by decide +kernel⟩
abbrev s_law_one : Stmt := top 44
abbrev N_law_one : List Str := ["_law_state", "_law_things"]
theorem sc_law_one : FnScope N_law_one ["_law_state", "_law_things"] (defScope s_law_one) := ⟨rfl, rfl, rfl, by decide +kernel, rfl, by decide +kernel, by decide +kernel⟩
abbrev s_law_mix : Stmt := top 45
abbrev N_law_mix : List Str := ["_law_state", "_law_things", "_law_left", "_law_found"]
theorem sc_law_mix : FnScope N_law_mix ["_law_state", "_law_things"] (defScope s_law_mix) := ⟨rfl, rfl, rfl, by decide +kernel, rfl, by decide +kernel, by decide +kernel⟩
abbrev s_is_integer : Stmt := top 4
abbrev N_is_integer : List Str := ["thing"]
theorem sc_is_integer : FnScope N_is_integer ["thing"] (defScope s_is_integer) := ⟨rfl, rfl, rfl, by decide +kernel, rfl, by decide +kernel, by decide +kernel⟩
abbrev s_is_between : Stmt := top 5
abbrev N_is_between : List Str := ["thing", "least", "greatest"]
theorem sc_is_between : FnScope N_is_between ["thing", "least", "greatest"] (defScope s_is_between) := ⟨rfl, rfl, rfl, by decide +kernel, rfl, by decide +kernel, by decide +kernel⟩
abbrev s_is_list : Stmt := top 6
abbrev N_is_list : List Str := ["thing"]
theorem sc_is_list : FnScope N_is_list ["thing"] (defScope s_is_list) := ⟨rfl, rfl, rfl, by decide +kernel, rfl, by decide +kernel, by decide +kernel⟩
abbrev s_is_row : Stmt := top 7
abbrev N_is_row : List Str := ["thing", "many"]
theorem sc_is_row : FnScope N_is_row ["thing", "many"] (defScope s_is_row) := ⟨rfl, rfl, rfl, by decide +kernel, rfl, by decide +kernel, by decide +kernel⟩
abbrev s_is_word : Stmt := top 8
abbrev N_is_word : List Str := ["thing", "letter"]
theorem sc_is_word : FnScope N_is_word ["thing"] (defScope s_is_word) := ⟨rfl, rfl, rfl, by decide +kernel, rfl, by decide +kernel, by decide +kernel⟩
abbrev s_are_unlike : Stmt := top 9
abbrev N_are_unlike : List Str := ["things", "thing"]
theorem sc_are_unlike : FnScope N_are_unlike ["things"] (defScope s_are_unlike) := ⟨rfl, rfl, rfl, by decide +kernel, rfl, by decide +kernel, by decide +kernel⟩
abbrev s_checked_fields : Stmt := top 26
abbrev N_checked_fields : List Str := ["fields", "found", "index", "thing", "is_field", "row"]
theorem sc_checked_fields : FnScope N_checked_fields ["fields"] (defScope s_checked_fields) := ⟨rfl, rfl, rfl, by decide +kernel, rfl, by decide +kernel, by decide +kernel⟩
abbrev s_is_deed : Stmt := top 27
abbrev N_is_deed : List Str := ["thing", "sorts"]
theorem sc_is_deed : FnScope N_is_deed ["thing", "sorts"] (defScope s_is_deed) := ⟨rfl, rfl, rfl, by decide +kernel, rfl, by decide +kernel, by decide +kernel⟩
abbrev s_is_same : Stmt := top 28
abbrev N_is_same : List Str := ["thing", "hand", "sorts", "name"]
theorem sc_is_same : FnScope N_is_same ["thing", "hand", "sorts"] (defScope s_is_same) := ⟨rfl, rfl, rfl, by decide +kernel, rfl, by decide +kernel, by decide +kernel⟩
abbrev s_reason_against : Stmt := top 29
abbrev N_reason_against : List Str := ["thing", "sorts", "modes", "names", "part", "name", "hand", "moves", "deeds", "same", "move", "deed"]
theorem sc_reason_against : FnScope N_reason_against ["thing", "sorts", "modes", "names"] (defScope s_reason_against) := ⟨rfl, rfl, rfl, by decide +kernel, rfl, by decide +kernel, by decide +kernel⟩
abbrev s_checked_calls : Stmt := top 30
abbrev N_checked_calls : List Str := ["calls", "sorts", "modes", "found", "index", "thing", "reason", "row", "name", "hand", "moves", "deeds", "same", "deed"]
theorem sc_checked_calls : FnScope N_checked_calls ["calls", "sorts", "modes"] (defScope s_checked_calls) := ⟨rfl, rfl, rfl, by decide +kernel, rfl, by decide +kernel, by decide +kernel⟩
abbrev s_Kind___init__ : Stmt := inClass (top 31) 0
abbrev N_Kind___init__ : List Str := ["self", "fields", "calls", "modes", "name", "sort", "need", "row"]
theorem sc_Kind___init__ : FnScope N_Kind___init__ ["self", "fields", "calls", "modes"] (defScope s_Kind___init__) := ⟨rfl, rfl, rfl, by decide +kernel, rfl, by decide +kernel, by decide +kernel⟩
abbrev s_law_plan : Stmt := top 47
abbrev N_law_plan : List Str := ["_law_fields", "_law_calls", "_law_far"]
theorem sc_law_plan : FnScope N_law_plan ["_law_fields", "_law_calls", "_law_far"] (defScope s_law_plan) := ⟨rfl, rfl, rfl, by decide +kernel, rfl, by decide +kernel, by decide +kernel⟩
abbrev s_law_deeds : Stmt := top 50
abbrev N_law_deeds : List Str := ["_law_state", "_law_fields", "_law_many", "_law_found", "_law_busy", "_law_k", "_law_name", "_law_sort", "_law_need", "_law_some", "_law_deed"]
theorem sc_law_deeds : FnScope N_law_deeds ["_law_state", "_law_fields", "_law_many"] (defScope s_law_deeds) := ⟨rfl, rfl, rfl, by decide +kernel, rfl, by decide +kernel, by decide +kernel⟩
abbrev s_law_call : Stmt := top 51
abbrev N_law_call : List Str := ["_law_state", "_law_name", "_law_hand", "_law_fields", "_law_far", "_law_some", "_law_moves", "_law_k", "_law_lists", "_law_x", "_law_deeds_here"]
theorem sc_law_call : FnScope N_law_call ["_law_state", "_law_name", "_law_hand", "_law_fields", "_law_far"] (defScope s_law_call) := ⟨rfl, rfl, rfl, by decide +kernel, rfl, by decide +kernel, by decide +kernel⟩
abbrev s_law_kind : Stmt := top 52
abbrev N_law_kind : List Str := ["_law_state", "_law_wide", "_law_many", "_law_far", "_law_fields", "_law_names", "_law_k", "_law_top", "_law_calls", "_law_name"]
theorem sc_law_kind : FnScope N_law_kind ["_law_state", "_law_wide", "_law_many", "_law_far"] (defScope s_law_kind) := ⟨rfl, rfl, rfl, by decide +kernel, rfl, by decide +kernel, by decide +kernel⟩
abbrev s_law_same : Stmt := top 46
abbrev N_law_same : List Str := ["_law_found", "_law_due", "_law_a", "_law_b"]
theorem sc_law_same : FnScope N_law_same ["_law_found", "_law_due"] (defScope s_law_same) := ⟨rfl, rfl, rfl, by decide +kernel, rfl, by decide +kernel, by decide +kernel⟩
abbrev s_does_take : Stmt := top 32
abbrev N_does_take : List Str := ["row", "deed", "field"]
theorem sc_does_take : FnScope N_does_take ["row"] (defScope s_does_take) := ⟨rfl, rfl, rfl, by decide +kernel, rfl, by decide +kernel, by decide +kernel⟩
abbrev s_Kind___contains__ : Stmt := inClass (top 31) 3
abbrev N_Kind___contains__ : List Str := ["self", "x"]
theorem sc_Kind___contains__ : FnScope N_Kind___contains__ ["self", "x"] (defScope s_Kind___contains__) := ⟨rfl, rfl, rfl, by decide +kernel, rfl, by decide +kernel, by decide +kernel⟩
abbrev s_Kind___getitem__ : Stmt := inClass (top 31) 4
abbrev N_Kind___getitem__ : List Str := ["self", "at", "row"]
theorem sc_Kind___getitem__ : FnScope N_Kind___getitem__ ["self", "at"] (defScope s_Kind___getitem__) := ⟨rfl, rfl, rfl, by decide +kernel, rfl, by decide +kernel, by decide +kernel⟩
abbrev s_Kind_number_of : Stmt := inClass (top 31) 9
abbrev N_Kind_number_of : List Str := ["self", "name"]
theorem sc_Kind_number_of : FnScope N_Kind_number_of ["self", "name"] (defScope s_Kind_number_of) := ⟨rfl, rfl, rfl, by decide +kernel, rfl, by decide +kernel, by decide +kernel⟩
abbrev s_Kind_takes : Stmt := inClass (top 31) 10
abbrev N_Kind_takes : List Str := ["self", "name"]
theorem sc_Kind_takes : FnScope N_Kind_takes ["self", "name"] (defScope s_Kind_takes) := ⟨rfl, rfl, rfl, by decide +kernel, rfl, by decide +kernel, by decide +kernel⟩
abbrev s_is_list_o : Stmt := top 6
abbrev N_is_list_o : List Str := ["thing"]
theorem sc_is_list_o : FnScope N_is_list_o ["thing"] (defScope s_is_list_o) := ⟨rfl, rfl, rfl, by decide +kernel, rfl, by decide +kernel, by decide +kernel⟩
abbrev s_is_last_row : Stmt := top 35
abbrev N_is_last_row : List Str := ["kind", "row"]
theorem sc_is_last_row : FnScope N_is_last_row ["kind", "row"] (defScope s_is_last_row) := ⟨rfl, rfl, rfl, by decide +kernel, rfl, by decide +kernel, by decide +kernel⟩
abbrev s_is_call_row : Stmt := top 34
abbrev N_is_call_row : List Str := ["kind", "thing", "rows", "name", "k"]
theorem sc_is_call_row : FnScope N_is_call_row ["kind", "thing", "rows"] (defScope s_is_call_row) := ⟨rfl, rfl, rfl, by decide +kernel, rfl, by decide +kernel, by decide +kernel⟩
abbrev s_checked_rows : Stmt := top 36
abbrev N_checked_rows : List Str := ["kind", "things", "rows", "found", "thing", "is_make"]
theorem sc_checked_rows : FnScope N_checked_rows ["kind", "things", "rows"] (defScope s_checked_rows) := ⟨rfl, rfl, rfl, by decide +kernel, rfl, by decide +kernel, by decide +kernel⟩
abbrev s_Maker___init__ : Stmt := inClass (top 37) 0
abbrev N_Maker___init__ : List Str := ["self", "mode", "slots"]
theorem sc_Maker___init__ : FnScope N_Maker___init__ ["self", "mode", "slots"] (defScope s_Maker___init__) := ⟨rfl, rfl, rfl, by decide +kernel, rfl, by decide +kernel, by decide +kernel⟩
abbrev s_Store___init__ : Stmt := inClass (top 38) 0
abbrev N_Store___init__ : List Str := ["self", "kind"]
theorem sc_Store___init__ : FnScope N_Store___init__ ["self", "kind"] (defScope s_Store___init__) := ⟨rfl, rfl, rfl, by decide +kernel, rfl, by decide +kernel, by decide +kernel⟩
abbrev s_Store_keep : Stmt := inClass (top 38) 1
abbrev N_Store_keep : List Str := ["self", "words"]
theorem sc_Store_keep : FnScope N_Store_keep ["self", "words"] (defScope s_Store_keep) := ⟨rfl, rfl, rfl, by decide +kernel, rfl, by decide +kernel, by decide +kernel⟩
abbrev s_Store_first_maker : Stmt := inClass (top 38) 2
abbrev N_Store_first_maker : List Str := ["self", "field"]
theorem sc_Store_first_maker : FnScope N_Store_first_maker ["self"] (defScope s_Store_first_maker) := ⟨rfl, rfl, rfl, by decide +kernel, rfl, by decide +kernel, by decide +kernel⟩
abbrev s_Store_copy : Stmt := inClass (top 38) 3
abbrev N_Store_copy : List Str := ["self", "maker", "mode", "same", "slots", "field", "slot"]
theorem sc_Store_copy : FnScope N_Store_copy ["self", "maker", "mode", "same"] (defScope s_Store_copy) := ⟨rfl, rfl, rfl, by decide +kernel, rfl, by decide +kernel, by decide +kernel⟩
abbrev s_Store_does : Stmt := inClass (top 38) 4
abbrev N_Store_does : List Str := ["self", "maker", "deeds", "word", "names", "field", "deed", "name", "at", "slot", "one"]
theorem sc_Store_does : FnScope N_Store_does ["self", "maker", "deeds", "word"] (defScope s_Store_does) := ⟨rfl, rfl, rfl, by decide +kernel, rfl, by decide +kernel, by decide +kernel⟩
abbrev s_Store_told : Stmt := inClass (top 38) 5
abbrev N_Store_told : List Str := ["self", "maker", "found", "field", "slot"]
theorem sc_Store_told : FnScope N_Store_told ["self", "maker"] (defScope s_Store_told) := ⟨rfl, rfl, rfl, by decide +kernel, rfl, by decide +kernel, by decide +kernel⟩
abbrev s_Run_do_row : Stmt := inClass (top 39) 4
abbrev N_Run_do_row : List Str := ["self", "number", "row", "name", "hand", "moves", "deeds", "same", "on", "maker", "word", "made", "product"]
theorem sc_Run_do_row : FnScope N_Run_do_row ["self", "number", "row"] (defScope s_Run_do_row) := ⟨rfl, rfl, rfl, by decide +kernel, rfl, by decide +kernel, by decide +kernel⟩
abbrev s_Run___init__ : Stmt := inClass (top 39) 0
abbrev N_Run___init__ : List Str := ["self", "kind", "rows", "number", "row"]
theorem sc_Run___init__ : FnScope N_Run___init__ ["self", "kind", "rows"] (defScope s_Run___init__) := ⟨rfl, rfl, rfl, by decide +kernel, rfl, by decide +kernel, by decide +kernel⟩
abbrev s_Run_is_onward : Stmt := inClass (top 39) 11
abbrev N_Run_is_onward : List Str := ["self", "latest", "number", "row"]
theorem sc_Run_is_onward : FnScope N_Run_is_onward ["self"] (defScope s_Run_is_onward) := ⟨rfl, rfl, rfl, by decide +kernel, rfl, by decide +kernel, by decide +kernel⟩
abbrev s_law_row_of : Stmt := top 48
abbrev N_law_row_of : List Str := ["_law_p", "_law_name", "_law_x"]
theorem sc_law_row_of : FnScope N_law_row_of ["_law_p", "_law_name"] (defScope s_law_row_of) := ⟨rfl, rfl, rfl, by decide +kernel, rfl, by decide +kernel, by decide +kernel⟩
abbrev s_law_takes : Stmt := top 49
abbrev N_law_takes : List Str := ["_law_row", "_law_x"]
theorem sc_law_takes : FnScope N_law_takes ["_law_row"] (defScope s_law_takes) := ⟨rfl, rfl, rfl, by decide +kernel, rfl, by decide +kernel, by decide +kernel⟩
abbrev s_law_callable : Stmt := top 53
abbrev N_law_callable : List Str := ["_law_p", "_law_rows", "_law_k", "_law_x"]
theorem sc_law_callable : FnScope N_law_callable ["_law_p", "_law_rows"] (defScope s_law_callable) := ⟨rfl, rfl, rfl, by decide +kernel, rfl, by decide +kernel, by decide +kernel⟩
abbrev s_law_callable_o : Stmt := top 53
abbrev N_law_callable_o : List Str := ["_law_p", "_law_rows", "_law_k", "_law_x"]
theorem sc_law_callable_o : FnScope N_law_callable_o ["_law_p", "_law_rows"] (defScope s_law_callable_o) := ⟨rfl, rfl, rfl, by decide +kernel, rfl, by decide +kernel, by decide +kernel⟩
abbrev s_law_program : Stmt := top 54
abbrev N_law_program : List Str := ["_law_state", "_law_p", "_law_many", "_law_words", "_law_rows", "_law_k", "_law_call_here", "_law_row"]
theorem sc_law_program : FnScope N_law_program ["_law_state", "_law_p", "_law_many", "_law_words"] (defScope s_law_program) := ⟨rfl, rfl, rfl, by decide +kernel, rfl, by decide +kernel, by decide +kernel⟩
abbrev s_law_onward : Stmt := top 55
abbrev N_law_onward : List Str := ["_law_state", "_law_p", "_law_many", "_law_rows", "_law_latest", "_law_k", "_law_call_here", "_law_row"]
theorem sc_law_onward : FnScope N_law_onward ["_law_state", "_law_p", "_law_many"] (defScope s_law_onward) := ⟨rfl, rfl, rfl, by decide +kernel, rfl, by decide +kernel, by decide +kernel⟩
abbrev s_law_is_onward : Stmt := top 56
abbrev N_law_is_onward : List Str := ["_law_p", "_law_rows", "_law_k", "_law_row"]
theorem sc_law_is_onward : FnScope N_law_is_onward ["_law_p", "_law_rows"] (defScope s_law_is_onward) := ⟨rfl, rfl, rfl, by decide +kernel, rfl, by decide +kernel, by decide +kernel⟩
abbrev s_law : Stmt := top 57
abbrev N_law : List Str := ["_law_script", "_law_state", "_law_turn", "_law_p", "_law_rows", "_law_at", "_law_some", "_law_others", "_law_x"]
theorem sc_law : FnScope N_law ["_law_script"] (defScope s_law) := ⟨rfl, rfl, rfl, by decide +kernel, rfl, by decide +kernel, by decide +kernel⟩
structure Bd where
  tk_LETTERS : Tok
  tk_LONGEST : Tok
  tk_MOST_CALLS : Tok
  tk_MOST_DEEDS : Tok
  tk_MOST_FIELDS : Tok
  tk_MOST_MODES : Tok
  f_law_fill : Addr
  d_law_fill : FuncData
  f_law_take : Addr
  d_law_take : FuncData
  f_law_fresh : Addr
  d_law_fresh : FuncData
  f_law_one : Addr
  d_law_one : FuncData
  f_law_mix : Addr
  d_law_mix : FuncData
  f_is_integer : Addr
  d_is_integer : FuncData
  f_is_between : Addr
  d_is_between : FuncData
  f_is_list : Addr
  d_is_list : FuncData
  f_is_row : Addr
  d_is_row : FuncData
  f_is_word : Addr
  d_is_word : FuncData
  f_are_unlike : Addr
  d_are_unlike : FuncData
  f_checked_fields : Addr
  d_checked_fields : FuncData
  f_is_deed : Addr
  d_is_deed : FuncData
  f_is_same : Addr
  d_is_same : FuncData
  f_reason_against : Addr
  d_reason_against : FuncData
  f_checked_calls : Addr
  d_checked_calls : FuncData
  f_Kind___init__ : Addr
  d_Kind___init__ : FuncData
  f_law_plan : Addr
  d_law_plan : FuncData
  f_law_deeds : Addr
  d_law_deeds : FuncData
  f_law_call : Addr
  d_law_call : FuncData
  f_law_kind : Addr
  d_law_kind : FuncData
  f_law_same : Addr
  d_law_same : FuncData
  f_does_take : Addr
  d_does_take : FuncData
  f_Kind___contains__ : Addr
  d_Kind___contains__ : FuncData
  f_Kind___getitem__ : Addr
  d_Kind___getitem__ : FuncData
  f_Kind_number_of : Addr
  d_Kind_number_of : FuncData
  f_Kind_takes : Addr
  d_Kind_takes : FuncData
  f_is_list_o : Addr
  d_is_list_o : FuncData
  f_is_last_row : Addr
  d_is_last_row : FuncData
  f_is_call_row : Addr
  d_is_call_row : FuncData
  f_checked_rows : Addr
  d_checked_rows : FuncData
  f_Maker___init__ : Addr
  d_Maker___init__ : FuncData
  f_Store___init__ : Addr
  d_Store___init__ : FuncData
  f_Store_keep : Addr
  d_Store_keep : FuncData
  f_Store_first_maker : Addr
  d_Store_first_maker : FuncData
  f_Store_copy : Addr
  d_Store_copy : FuncData
  f_Store_does : Addr
  d_Store_does : FuncData
  f_Store_told : Addr
  d_Store_told : FuncData
  f_Run_do_row : Addr
  d_Run_do_row : FuncData
  f_Run___init__ : Addr
  d_Run___init__ : FuncData
  e_Run___init__ : Addr
  f_Run_is_onward : Addr
  d_Run_is_onward : FuncData
  f_law_row_of : Addr
  d_law_row_of : FuncData
  f_law_takes : Addr
  d_law_takes : FuncData
  f_law_callable : Addr
  d_law_callable : FuncData
  f_law_callable_o : Addr
  d_law_callable_o : FuncData
  f_law_program : Addr
  d_law_program : FuncData
  f_law_onward : Addr
  d_law_onward : FuncData
  f_law_is_onward : Addr
  d_law_is_onward : FuncData
  f_law : Addr
  d_law : FuncData
structure Tx (w : World) (K : PySem.W.Frag) (mg : Str → Option Value) (A : Ad) (B : Bd) : Prop where
  n_len : mg "len" = none
  n_int : mg "int" = none
  n_str : mg "str" = none
  n_bool : mg "bool" = none
  n_list : mg "list" = none
  n_tuple : mg "tuple" = none
  n_range : mg "range" = none
  n_enumerate : mg "enumerate" = none
  n_zip : mg "zip" = none
  n_isinstance : mg "isinstance" = none
  n_all : mg "all" = none
  n_any : mg "any" = none
  cl_Kind : Cls K A.Kind
  cl_Maker : Cls K A.Maker
  cl_Run : Cls K A.Run
  cl_Store : Cls K A.Store
  g_DEEDS : mg "DEEDS" = some (.ref A.DEEDS)
  g_HANDS : mg "HANDS" = some (.ref A.HANDS)
  g_Kind : mg "Kind" = some (.ref A.Kind)
  g_LETTERS : mg "LETTERS" = some (.str "abcdefghijklmnopqrstuvwxyz" B.tk_LETTERS)
  g_LONGEST : mg "LONGEST" = some (.int 8 B.tk_LONGEST)
  g_MOST_CALLS : mg "MOST_CALLS" = some (.int 6 B.tk_MOST_CALLS)
  g_MOST_DEEDS : mg "MOST_DEEDS" = some (.int 4 B.tk_MOST_DEEDS)
  g_MOST_FIELDS : mg "MOST_FIELDS" = some (.int 3 B.tk_MOST_FIELDS)
  g_MOST_MODES : mg "MOST_MODES" = some (.int 4 B.tk_MOST_MODES)
  g_Maker : mg "Maker" = some (.ref A.Maker)
  g_Run : mg "Run" = some (.ref A.Run)
  g_Store : mg "Store" = some (.ref A.Store)
  g_TAKING : mg "TAKING" = some (.ref A.TAKING)
  kd_many : KDct K w A.DEEDS "many" (.ref A.DEEDS_many)
  kd_one : KDct K w A.DEEDS "one" (.ref A.DEEDS_one)
  mk_Kind : Mk K A.Kind B.f_Kind___init__
  mk_Maker : Mk K A.Maker B.f_Maker___init__
  mk_Run : Mk K A.Run B.f_Run___init__
  mk_Store : Mk K A.Store B.f_Store___init__
  na_Kind_call_rows : NoAttr K A.Kind "call_rows"
  na_Kind_field_rows : NoAttr K A.Kind "field_rows"
  na_Kind_modes : NoAttr K A.Kind "modes"
  na_Kind_name_list : NoAttr K A.Kind "name_list"
  na_Kind_sorts : NoAttr K A.Kind "sorts"
  na_Maker_mode : NoAttr K A.Maker "mode"
  na_Maker_slots : NoAttr K A.Maker "slots"
  na_Run_handed : NoAttr K A.Run "handed"
  na_Run_kind : NoAttr K A.Run "kind"
  na_Run_made_contents : NoAttr K A.Run "made_contents"
  na_Run_row_list : NoAttr K A.Run "row_list"
  na_Run_store : NoAttr K A.Run "store"
  na_Store_kind : NoAttr K A.Store "kind"
  na_Store_lists : NoAttr K A.Store "lists"
  og_Kind : OwnG K A.Kind B.f_Kind___getitem__
  on_Kind : OwnN K A.Kind B.f_Kind___contains__
  w_DEEDS_many : ∀ (st : Addr) (G : Hp), AtD ⟨K, st⟩ G (.ref A.DEEDS_many) w_DEEDS_many
  w_DEEDS_one : ∀ (st : Addr) (G : Hp), AtD ⟨K, st⟩ G (.ref A.DEEDS_one) w_DEEDS_one
  w_HANDS : ∀ (st : Addr) (G : Hp), AtD ⟨K, st⟩ G (.ref A.HANDS) w_HANDS
  w_TAKING : ∀ (st : Addr) (G : Hp), AtD ⟨K, st⟩ G (.ref A.TAKING) w_TAKING
  F_law_fill : Fun K "_law_fill" "_law_fill" s_law_fill B.f_law_fill B.d_law_fill
  m_law_fill : mg "_law_fill" = some (.ref B.f_law_fill)
  b_law_fill : Binds K B.d_law_fill ["_law_state"] []
  F_law_take : Fun K "_law_take" "_law_take" s_law_take B.f_law_take B.d_law_take
  m_law_take : mg "_law_take" = some (.ref B.f_law_take)
  b_law_take : Binds K B.d_law_take ["_law_state", "_law_many"] []
  F_law_fresh : Fun K "_law_fresh" "_law_fresh" s_law_fresh B.f_law_fresh B.d_law_fresh
  m_law_fresh : mg "_law_fresh" = some (.ref B.f_law_fresh)
  b_law_fresh : Binds K B.d_law_fresh ["_law_script"] []
  F_law_one : Fun K "_law_one" "_law_one" s_law_one B.f_law_one B.d_law_one
  m_law_one : mg "_law_one" = some (.ref B.f_law_one)
  b_law_one : Binds K B.d_law_one ["_law_state", "_law_things"] []
  F_law_mix : Fun K "_law_mix" "_law_mix" s_law_mix B.f_law_mix B.d_law_mix
  m_law_mix : mg "_law_mix" = some (.ref B.f_law_mix)
  b_law_mix : Binds K B.d_law_mix ["_law_state", "_law_things"] []
  F_is_integer : Fun K "is_integer" "is_integer" s_is_integer B.f_is_integer B.d_is_integer
  m_is_integer : mg "is_integer" = some (.ref B.f_is_integer)
  b_is_integer : Binds K B.d_is_integer ["thing"] []
  F_is_between : Fun K "is_between" "is_between" s_is_between B.f_is_between B.d_is_between
  m_is_between : mg "is_between" = some (.ref B.f_is_between)
  b_is_between : Binds K B.d_is_between ["thing", "least", "greatest"] []
  F_is_list : Fun K "is_list" "is_list" s_is_list B.f_is_list B.d_is_list
  m_is_list : mg "is_list" = some (.ref B.f_is_list)
  b_is_list : Binds K B.d_is_list ["thing"] []
  F_is_row : Fun K "is_row" "is_row" s_is_row B.f_is_row B.d_is_row
  m_is_row : mg "is_row" = some (.ref B.f_is_row)
  b_is_row : Binds K B.d_is_row ["thing", "many"] []
  F_is_word : Fun K "is_word" "is_word" s_is_word B.f_is_word B.d_is_word
  m_is_word : mg "is_word" = some (.ref B.f_is_word)
  b_is_word : Binds K B.d_is_word ["thing"] []
  F_are_unlike : Fun K "are_unlike" "are_unlike" s_are_unlike B.f_are_unlike B.d_are_unlike
  m_are_unlike : mg "are_unlike" = some (.ref B.f_are_unlike)
  b_are_unlike : Binds K B.d_are_unlike ["things"] []
  F_checked_fields : Fun K "checked_fields" "checked_fields" s_checked_fields B.f_checked_fields B.d_checked_fields
  m_checked_fields : mg "checked_fields" = some (.ref B.f_checked_fields)
  b_checked_fields : Binds K B.d_checked_fields ["fields"] []
  F_is_deed : Fun K "is_deed" "is_deed" s_is_deed B.f_is_deed B.d_is_deed
  m_is_deed : mg "is_deed" = some (.ref B.f_is_deed)
  b_is_deed : Binds K B.d_is_deed ["thing", "sorts"] []
  F_is_same : Fun K "is_same" "is_same" s_is_same B.f_is_same B.d_is_same
  m_is_same : mg "is_same" = some (.ref B.f_is_same)
  b_is_same : Binds K B.d_is_same ["thing", "hand", "sorts"] []
  F_reason_against : Fun K "reason_against" "reason_against" s_reason_against B.f_reason_against B.d_reason_against
  m_reason_against : mg "reason_against" = some (.ref B.f_reason_against)
  b_reason_against : Binds K B.d_reason_against ["thing", "sorts", "modes", "names"] []
  F_checked_calls : Fun K "checked_calls" "checked_calls" s_checked_calls B.f_checked_calls B.d_checked_calls
  m_checked_calls : mg "checked_calls" = some (.ref B.f_checked_calls)
  b_checked_calls : Binds K B.d_checked_calls ["calls", "sorts", "modes"] []
  F_Kind___init__ : Fun K "__init__" "Kind.__init__" s_Kind___init__ B.f_Kind___init__ B.d_Kind___init__
  kb_Kind___init__ : KBn K B.d_Kind___init__ ["self", "fields", "calls", "modes"] 3 ["modes"] (fun a b => a ++ b) (fun a b => a ++ b)
  F_law_plan : Fun K "_law_plan" "_law_plan" s_law_plan B.f_law_plan B.d_law_plan
  m_law_plan : mg "_law_plan" = some (.ref B.f_law_plan)
  b_law_plan : Binds K B.d_law_plan ["_law_fields", "_law_calls", "_law_far"] []
  F_law_deeds : Fun K "_law_deeds" "_law_deeds" s_law_deeds B.f_law_deeds B.d_law_deeds
  m_law_deeds : mg "_law_deeds" = some (.ref B.f_law_deeds)
  b_law_deeds : Binds K B.d_law_deeds ["_law_state", "_law_fields", "_law_many"] []
  F_law_call : Fun K "_law_call" "_law_call" s_law_call B.f_law_call B.d_law_call
  m_law_call : mg "_law_call" = some (.ref B.f_law_call)
  b_law_call : Binds K B.d_law_call ["_law_state", "_law_name", "_law_hand", "_law_fields", "_law_far"] []
  F_law_kind : Fun K "_law_kind" "_law_kind" s_law_kind B.f_law_kind B.d_law_kind
  m_law_kind : mg "_law_kind" = some (.ref B.f_law_kind)
  b_law_kind : Binds K B.d_law_kind ["_law_state", "_law_wide", "_law_many", "_law_far"] []
  F_law_same : Fun K "_law_same" "_law_same" s_law_same B.f_law_same B.d_law_same
  m_law_same : mg "_law_same" = some (.ref B.f_law_same)
  b_law_same : Binds K B.d_law_same ["_law_found", "_law_due"] []
  F_does_take : Fun K "does_take" "does_take" s_does_take B.f_does_take B.d_does_take
  m_does_take : mg "does_take" = some (.ref B.f_does_take)
  b_does_take : Binds K B.d_does_take ["row"] []
  F_Kind___contains__ : Fun K "__contains__" "Kind.__contains__" s_Kind___contains__ B.f_Kind___contains__ B.d_Kind___contains__
  b_Kind___contains__ : Binds K B.d_Kind___contains__ ["self", "x"] []
  F_Kind___getitem__ : Fun K "__getitem__" "Kind.__getitem__" s_Kind___getitem__ B.f_Kind___getitem__ B.d_Kind___getitem__
  b_Kind___getitem__ : Binds K B.d_Kind___getitem__ ["self", "at"] []
  F_Kind_number_of : Fun K "number_of" "Kind.number_of" s_Kind_number_of B.f_Kind_number_of B.d_Kind_number_of
  b_Kind_number_of : Binds K B.d_Kind_number_of ["self", "name"] []
  me_Kind_number_of : Meth K A.Kind "number_of" B.f_Kind_number_of
  F_Kind_takes : Fun K "takes" "Kind.takes" s_Kind_takes B.f_Kind_takes B.d_Kind_takes
  b_Kind_takes : Binds K B.d_Kind_takes ["self", "name"] []
  me_Kind_takes : Meth K A.Kind "takes" B.f_Kind_takes
  F_is_list_o : Fun K "is_list" "is_list" s_is_list_o B.f_is_list_o B.d_is_list_o
  m_is_list_o : mg "is_list" = some (.ref B.f_is_list_o)
  b_is_list_o : Binds K B.d_is_list_o ["thing"] []
  F_is_last_row : Fun K "is_last_row" "is_last_row" s_is_last_row B.f_is_last_row B.d_is_last_row
  m_is_last_row : mg "is_last_row" = some (.ref B.f_is_last_row)
  b_is_last_row : Binds K B.d_is_last_row ["kind", "row"] []
  F_is_call_row : Fun K "is_call_row" "is_call_row" s_is_call_row B.f_is_call_row B.d_is_call_row
  m_is_call_row : mg "is_call_row" = some (.ref B.f_is_call_row)
  b_is_call_row : Binds K B.d_is_call_row ["kind", "thing", "rows"] []
  F_checked_rows : Fun K "checked_rows" "checked_rows" s_checked_rows B.f_checked_rows B.d_checked_rows
  m_checked_rows : mg "checked_rows" = some (.ref B.f_checked_rows)
  b_checked_rows : Binds K B.d_checked_rows ["kind", "things", "rows"] []
  F_Maker___init__ : Fun K "__init__" "Maker.__init__" s_Maker___init__ B.f_Maker___init__ B.d_Maker___init__
  b_Maker___init__ : Binds K B.d_Maker___init__ ["self", "mode", "slots"] []
  F_Store___init__ : Fun K "__init__" "Store.__init__" s_Store___init__ B.f_Store___init__ B.d_Store___init__
  b_Store___init__ : Binds K B.d_Store___init__ ["self", "kind"] []
  F_Store_keep : Fun K "keep" "Store.keep" s_Store_keep B.f_Store_keep B.d_Store_keep
  b_Store_keep : Binds K B.d_Store_keep ["self", "words"] []
  me_Store_keep : Meth K A.Store "keep" B.f_Store_keep
  F_Store_first_maker : Fun K "first_maker" "Store.first_maker" s_Store_first_maker B.f_Store_first_maker B.d_Store_first_maker
  b_Store_first_maker : Binds K B.d_Store_first_maker ["self"] []
  me_Store_first_maker : Meth K A.Store "first_maker" B.f_Store_first_maker
  F_Store_copy : Fun K "copy" "Store.copy" s_Store_copy B.f_Store_copy B.d_Store_copy
  b_Store_copy : Binds K B.d_Store_copy ["self", "maker", "mode", "same"] []
  me_Store_copy : Meth K A.Store "copy" B.f_Store_copy
  F_Store_does : Fun K "does" "Store.does" s_Store_does B.f_Store_does B.d_Store_does
  b_Store_does : Binds K B.d_Store_does ["self", "maker", "deeds", "word"] []
  me_Store_does : Meth K A.Store "does" B.f_Store_does
  F_Store_told : Fun K "told" "Store.told" s_Store_told B.f_Store_told B.d_Store_told
  b_Store_told : Binds K B.d_Store_told ["self", "maker"] []
  me_Store_told : Meth K A.Store "told" B.f_Store_told
  F_Run_do_row : Fun K "do_row" "Run.do_row" s_Run_do_row B.f_Run_do_row B.d_Run_do_row
  b_Run_do_row : Binds K B.d_Run_do_row ["self", "number", "row"] []
  me_Run_do_row : Meth K A.Run "do_row" B.f_Run_do_row
  F_Run___init__ : FunX K "__init__" "Run.__init__" s_Run___init__ [.ref B.e_Run___init__] B.f_Run___init__ B.d_Run___init__
  bd_Run___init__ : Binds K B.d_Run___init__ ["self", "kind", "rows"] [.ref B.e_Run___init__]
  we_Run___init__ : ∀ (st : Addr) (G : Hp), AtD ⟨K, st⟩ G (.ref B.e_Run___init__) (.tup [])
  b_Run___init__ : Binds K B.d_Run___init__ ["self", "kind", "rows"] []
  F_Run_is_onward : Fun K "is_onward" "Run.is_onward" s_Run_is_onward B.f_Run_is_onward B.d_Run_is_onward
  b_Run_is_onward : Binds K B.d_Run_is_onward ["self"] []
  me_Run_is_onward : Meth K A.Run "is_onward" B.f_Run_is_onward
  F_law_row_of : Fun K "_law_row_of" "_law_row_of" s_law_row_of B.f_law_row_of B.d_law_row_of
  m_law_row_of : mg "_law_row_of" = some (.ref B.f_law_row_of)
  b_law_row_of : Binds K B.d_law_row_of ["_law_p", "_law_name"] []
  F_law_takes : Fun K "_law_takes" "_law_takes" s_law_takes B.f_law_takes B.d_law_takes
  m_law_takes : mg "_law_takes" = some (.ref B.f_law_takes)
  b_law_takes : Binds K B.d_law_takes ["_law_row"] []
  F_law_callable : Fun K "_law_callable" "_law_callable" s_law_callable B.f_law_callable B.d_law_callable
  m_law_callable : mg "_law_callable" = some (.ref B.f_law_callable)
  b_law_callable : Binds K B.d_law_callable ["_law_p", "_law_rows"] []
  F_law_callable_o : Fun K "_law_callable" "_law_callable" s_law_callable_o B.f_law_callable_o B.d_law_callable_o
  m_law_callable_o : mg "_law_callable" = some (.ref B.f_law_callable_o)
  b_law_callable_o : Binds K B.d_law_callable_o ["_law_p", "_law_rows"] []
  F_law_program : Fun K "_law_program" "_law_program" s_law_program B.f_law_program B.d_law_program
  m_law_program : mg "_law_program" = some (.ref B.f_law_program)
  b_law_program : Binds K B.d_law_program ["_law_state", "_law_p", "_law_many", "_law_words"] []
  F_law_onward : Fun K "_law_onward" "_law_onward" s_law_onward B.f_law_onward B.d_law_onward
  m_law_onward : mg "_law_onward" = some (.ref B.f_law_onward)
  b_law_onward : Binds K B.d_law_onward ["_law_state", "_law_p", "_law_many"] []
  F_law_is_onward : Fun K "_law_is_onward" "_law_is_onward" s_law_is_onward B.f_law_is_onward B.d_law_is_onward
  m_law_is_onward : mg "_law_is_onward" = some (.ref B.f_law_is_onward)
  b_law_is_onward : Binds K B.d_law_is_onward ["_law_p", "_law_rows"] []
  F_law : Fun K "law" "law" s_law B.f_law B.d_law
  m_law : mg "law" = some (.ref B.f_law)
section
variable {P : Program} {w : World} {K : PySem.W.Frag} {mg : Str → Option Value} {base : Heap} {A : Ad} {B : Bd}
theorem ok0_law_fill (T : Tx w K mg A B) : FnOk P w K mg base CX0 1 B.f_law_fill B.d_law_fill ["_law_state"] (sp_law_fill A K) := by
  refine T.F_law_fill.ok sc_law_fill (fun vs H Q E h => ?_) (fun cdv AA outer s H vs Q E hr h => ⟨t_law_fill A K, ?_, r_law_fill h⟩)
  · (repeat obtain ⟨x, h⟩ := h); subst_vars; rfl
  · exact (pss_cons (ps_par (i := 1) (j := 2) (by rfl) sc_law_fill.nd rfl rfl (by decide) rfl rfl (pa_cons (pe_ix ix_list (pv 0) pe_int (fun _ _ => rfl)) (pa_cons (pe_ix ix_list (pv 0) pe_int (fun _ _ => rfl)) pa_nil)) (by rfl))
(pss_cons (ps_set (i := 3) sc_law_fill.nd rfl (.inl rfl) (pe_op op_add (pe_op op_mul pe_int (pv 2)) pe_int))
(pss_cut (ps_if (pt_cmpR op_gt (pe_callB call_len_seq (by rfl) T.n_len PySem.boot_len (pa_cons (pv 1) pa_nil)) pe_int (nomark _))
(pss_one (ps_set (i := 3) sc_law_fill.nd rfl (.inl rfl) (pe_op op_add (pe_op op_mul pe_int (pe_op op_fdiv (pv 2) (pe_callB call_len_seq (by rfl) T.n_len PySem.boot_len (pa_cons (pv 1) pa_nil)))) (pe_ix ix_list (pv 1) (pe_op op_mod (pe_callTy call_int1 (by rfl) T.n_int (by decide +kernel) (pa_cons (pv 2) pa_nil)) (pe_callB call_len_seq (by rfl) T.n_len PySem.boot_len (pa_cons (pv 1) pa_nil))) (fun _ _ => rfl)))))
pss_nil)
(pss_cons (ps_asg (pe_op op_add (pv 2) pe_int) (pg_sub (pv 0) pe_int set_list))
(pss_cut (ps_asg (pe_or (pe_cmpR op_ge (pv 2) (pe_callB call_len_seq (by rfl) T.n_len PySem.boot_len (pa_cons (pv 1) pa_nil)) (nomark _)) (pe_one (pe_cmpR op_lt (pv 3) (pe_op op_pow pe_int pe_int) (nomark _)))) (pg_sub (pv 0) pe_int set_list))
(pss_cons (ps_asg (pe_op op_sub (pv 3) (pe_op op_pow pe_int pe_int)) (pg_sub (pv 0) pe_int set_list))
(pss_one (ps_if (pt_val (pe_ix ix_list (pv 0) pe_int (fun _ _ => rfl)))
(pss_cons (ps_asg pe_int (pg_sub (pv 0) pe_int set_list))
(pss_one (ps_for PassesOwn.never rfl (pi_enumT (by rfl) T.n_enumerate (pa_cons (pe_tup (pa_cons pe_int (pa_cons pe_int (pa_cons pe_int (pa_cons pe_int (pa_cons pe_int pa_nil)))))) pa_nil)) (pg_tup rfl (pgs_cons (pg_name (i := 4) sc_law_fill.nd rfl (.inl rfl)) (pgs_cons (pg_name (i := 5) sc_law_fill.nd rfl (.inl rfl)) pgs_nil)))
(pss_cons (ps_set (i := 6) sc_law_fill.nd rfl (.inl rfl) (pe_op op_mod (pe_callTy call_int1 (by rfl) T.n_int (by decide +kernel) (pa_cons (pe_op op_mul (pe_op op_add (pe_op op_add (pv 3) (pe_op op_mul (pe_op op_mul pe_int (pv 4)) (pv 4))) (pe_op op_mul pe_int (pv 4))) (pe_op op_add pe_int (pe_op op_mul pe_int (pv 4)))) pa_nil)) (pv 5)))
(pss_one (ps_asg (pe_op op_add (pe_op op_mul (pe_ix ix_list (pv 0) pe_int (fun _ _ => rfl)) (pv 5)) (pe_op op_mod (pe_callTy call_int1 (by rfl) T.n_int (by decide +kernel) (pa_cons (pe_op op_pow (pv 6) pe_int) pa_nil)) (pv 5))) (pg_sub (pv 0) pe_int set_list)))))))
pss_nil))))))))
theorem ok0_law_take (T : Tx w K mg A B) : FnOk P w K mg base CX0 2 B.f_law_take B.d_law_take ["_law_state", "_law_many"] (sp_law_take A K) := by
  have G_law_fill := ok0_law_fill (P := P) (base := base) T
  refine T.F_law_take.ok sc_law_take (fun vs H Q E h => ?_) (fun cdv AA outer s H vs Q E hr h => ⟨t_law_take A K, ?_, r_law_take h⟩)
  · (repeat obtain ⟨x, h⟩ := h); subst_vars; rfl
  · exact (pss_cons (ps_set (i := 2) sc_law_take.nd rfl (.inl rfl) pe_int)
(pss_cons (ps_while PassesOwn.never (PW.pt (pw_and (pt_cmpR op_lt (pv 2) pe_int (nomark _)) (pw_and1 (PW.pt (pw_or (pt_cmpR op_eq (pe_ix ix_list (pv 0) pe_int (fun _ _ => rfl)) pe_int (nomark _)) (pw_or1 (PW.pt (pw_and (pt_val (pe_ix ix_list (pv 0) pe_int (fun _ _ => rfl))) (pw_and1 (pt_cmpR op_lt (pe_ix ix_list (pv 0) pe_int (fun _ _ => rfl)) (pe_op op_mul (pv 1) pe_int) (nomark _)))))))))))
(pss_cons (ps_expr (pe_call G_law_fill (hr.mono (by decide)) (by rfl) T.m_law_fill T.F_law_fill.kp T.b_law_fill .nil pass0 (pa_cons (pv 0) pa_nil)))
(pss_cons (ps_aug (i := 2) sc_law_take.nd rfl (.inl rfl) pe_int ip_add)
(pss_one (ps_if (PW.pt (pw_and (pt_val (pe_ix ix_list (pv 0) pe_int (fun _ _ => rfl))) (pw_and1 (pt_cmpR op_lt (pe_ix ix_list (pv 0) pe_int (fun _ _ => rfl)) (pe_op op_mul (pv 1) pe_int) (nomark _)))))
(pss_one (ps_asg (pe_op op_add (pe_ix ix_list (pv 0) pe_int (fun _ _ => rfl)) (pe_op op_mul (pe_op op_mul (pv 1) pe_int) (pe_op op_add pe_int (pe_op op_mod (pe_callTy call_int1 (by rfl) T.n_int (by decide +kernel) (pa_cons (pe_ix ix_list (pv 0) pe_int (fun _ _ => rfl)) pa_nil)) pe_int)))) (pg_sub (pv 0) pe_int set_list)))
pss_nil)))))
(pss_cons (ps_set (i := 3) sc_law_take.nd rfl (.inl rfl) (pe_op op_mod (pe_callTy call_int1 (by rfl) T.n_int (by decide +kernel) (pa_cons (pe_ix ix_list (pv 0) pe_int (fun _ _ => rfl)) pa_nil)) (pv 1)))
(pss_cons (ps_asg (pe_op op_fdiv (pe_ix ix_list (pv 0) pe_int (fun _ _ => rfl)) (pv 1)) (pg_sub (pv 0) pe_int set_list))
(pss_one (ps_ret (pv 3)))))))
theorem ok_law_take (T : Tx w K mg A B) : FnOk P w K mg base CX0 2 B.f_law_take B.d_law_take ["_law_state", "_law_many"] (spP K (m_law_take A K)) := by
  unfold m_law_take
  exact (ok0_law_take T).imp fun _ _ _ _ h => take_of h
theorem ok0_law_fresh (T : Tx w K mg A B) : FnOk P w K mg base CX0 1 B.f_law_fresh B.d_law_fresh ["_law_script"] (sp_law_fresh A K) := by
  refine T.F_law_fresh.ok sc_law_fresh (fun vs H Q E h => ?_) (fun cdv AA outer s H vs Q E hr h => ⟨t_law_fresh A K, ?_, r_law_fresh h⟩)
  · (repeat obtain ⟨x, h⟩ := h); subst_vars; rfl
  · exact (pss_one (ps_ret (pe_lst (pa_cons (pe_slice sl_list (pv 0) po_none (po_some pe_int)) (pa_cons pe_int (pa_cons pe_int (pa_cons pe_bl pa_nil)))))))
theorem ok_law_fresh (T : Tx w K mg A B) : FnOk P w K mg base CX0 1 B.f_law_fresh B.d_law_fresh ["_law_script"] (sp_law_fresh A K) := ok0_law_fresh T
theorem ok_law_one (T : Tx w K mg A B) : FnOk P w K mg base CX0 3 B.f_law_one B.d_law_one ["_law_state", "_law_things"] (spP K (m_law_one A K)) := by
  have G_law_take := ok_law_take (P := P) (base := base) T
  unfold m_law_one
  refine T.F_law_one.ok sc_law_one (fun vs H Q E h => pure_len0 h) (fun cdv AA outer s H vs Q E hr h => ?_)
  exact ⟨_, (pss_one (ps_ret (pe_ix (ix_seqK K) (pv 1) (pe_call G_law_take (hr.mono (by decide)) (by rfl) T.m_law_take T.F_law_take.kp T.b_law_take .nil pass0 (pa_cons (pv 0) (pa_cons (pe_callB (call_lenAnyK K) (by rfl) T.n_len PySem.boot_len (pa_cons (pv 1) pa_nil)) pa_nil))) (fun _ _ => rfl)))), pure_ok0 (N := N_law_one) (fun st => (ss_ret (se_op so_ix (se_var 1) (se_call (sc_P0 ne_law_take) (sa_cons (se_var 0) (sa_cons (se_cb so_len (sa_cons (se_var 1) sa_nil)) sa_nil)))))) h⟩
theorem ok_law_mix (T : Tx w K mg A B) : FnOk P w K mg base CX0 3 B.f_law_mix B.d_law_mix ["_law_state", "_law_things"] (spP K (m_law_mix A K)) := by
  have G_law_take := ok_law_take (P := P) (base := base) T
  unfold m_law_mix
  refine T.F_law_mix.ok sc_law_mix (fun vs H Q E h => pure_len0 h) (fun cdv AA outer s H vs Q E hr h => ?_)
  exact ⟨_, (pss_cons (ps_par (i := 2) (j := 3) (by rfl) sc_law_mix.nd rfl rfl (by decide) rfl rfl (pa_cons (pe_callTy (call_list_ofK K) (by rfl) T.n_list (by decide +kernel) (pa_cons (pv 1) pa_nil)) (pa_cons (pe_lst pa_nil) pa_nil)) (by rfl))
(pss_cons (ps_while PassesOwn.never (pt_cmpR (op_neDK K hr.units) (pv 2) (pe_lst pa_nil) (nomark _))
(pss_one (ps_expr (pe_bm PySem.F.plainAttrs_list PySem.F.slot_list_append PySem.F.type_list_append mt_append (pv 3) (pa_cons (pe_bm PySem.F.plainAttrs_list PySem.F.slot_list_pop PySem.F.type_list_pop mt_popAt (pv 2) (pa_cons (pe_call G_law_take (hr.mono (by decide)) (by rfl) T.m_law_take T.F_law_take.kp T.b_law_take .nil pass0 (pa_cons (pv 0) (pa_cons (pe_callB (call_lenAnyK K) (by rfl) T.n_len PySem.boot_len (pa_cons (pv 2) pa_nil)) pa_nil))) pa_nil)) pa_nil)))))
(pss_one (ps_ret (pv 3))))), pure_ok0 (N := N_law_mix) (fun st => (ss_seq (ss_par (sa_cons (se_cb so_list (sa_cons (se_var 1) sa_nil)) (sa_cons (se_lst sa_nil) sa_nil)))
(ss_seq (ss_while (st_test (se_op so_neD (se_var 2) (se_lst sa_nil)))
(ss_drop (se_bm sm_append (se_var 3) (sa_cons (se_bm sm_popAt (se_var 2) (sa_cons (se_call (sc_P0 ne_law_take) (sa_cons (se_var 0) (sa_cons (se_cb so_len (sa_cons (se_var 2) sa_nil)) sa_nil))) sa_nil)) sa_nil))))
(ss_ret (se_var 3))))) h⟩
theorem ok_is_integer (T : Tx w K mg A B) : FnOk P w K mg base CX0 1 B.f_is_integer B.d_is_integer ["thing"] (spP K (m_is_integer A K)) := by
  unfold m_is_integer
  refine T.F_is_integer.ok sc_is_integer (fun vs H Q E h => pure_len0 h) (fun cdv AA outer s H vs Q E hr h => ?_)
  exact ⟨_, (pss_one (ps_ret (pe_and (pe_callB (call_isiKK K) (by rfl) T.n_isinstance (by decide +kernel) (pa_cons (pv 0) (pa_cons (pe_bltn (v := .ty "int") (u := .type "int") (by rfl) T.n_int (by decide +kernel) rfl) pa_nil))) (pe_one (pe_not (pe_callB (call_isiKK K) (by rfl) T.n_isinstance (by decide +kernel) (pa_cons (pv 0) (pa_cons (pe_bltn (v := .ty "bool") (u := .type "bool") (by rfl) T.n_bool (by decide +kernel) rfl) pa_nil)))))))), pure_ok0 (N := N_is_integer) (fun st => (ss_ret (se_andV (se_cb so_isi (sa_cons (se_var 0) (sa_cons se_ty sa_nil))) (se_notV (se_cb so_isi (sa_cons (se_var 0) (sa_cons se_ty sa_nil))))))) h⟩
theorem ok_is_between (T : Tx w K mg A B) : FnOk P w K mg base CX0 2 B.f_is_between B.d_is_between ["thing", "least", "greatest"] (spP K (m_is_between A K)) := by
  have G_is_integer := ok_is_integer (P := P) (base := base) T
  unfold m_is_between
  refine T.F_is_between.ok sc_is_between (fun vs H Q E h => pure_len0 h) (fun cdv AA outer s H vs Q E hr h => ?_)
  exact ⟨_, (pss_one (ps_ret (pe_and (pe_call G_is_integer (hr.mono (by decide)) (by rfl) T.m_is_integer T.F_is_integer.kp T.b_is_integer .nil pass0 (pa_cons (pv 0) pa_nil)) (pe_one (pe_chain op_le op_le (pv 1) (pv 0) (pv 2)))))), pure_ok0 (N := N_is_between) (fun st => (ss_ret (se_andV (se_call (sc_P0 ne_is_integer) (sa_cons (se_var 0) sa_nil)) (se_chain so_le so_le (se_var 1) (se_var 0) (se_var 2))))) h⟩
theorem ok_is_list (T : Tx w K mg A B) : FnOk P w K mg base CX0 1 B.f_is_list B.d_is_list ["thing"] (spP K (m_is_list A K)) := by
  unfold m_is_list
  refine T.F_is_list.ok sc_is_list (fun vs H Q E h => pure_len0 h) (fun cdv AA outer s H vs Q E hr h => ?_)
  exact ⟨_, (pss_one (ps_ret (pe_callB (call_isiTK K) (by rfl) T.n_isinstance (by decide +kernel) (pa_cons (pv 0) (pa_cons (pe_tup (pa_cons (pe_bltn (v := .ty "list") (u := .type "list") (by rfl) T.n_list (by decide +kernel) rfl) (pa_cons (pe_bltn (v := .ty "tuple") (u := .type "tuple") (by rfl) T.n_tuple (by decide +kernel) rfl) pa_nil))) pa_nil))))), pure_ok0 (N := N_is_list) (fun st => (ss_ret (se_isT (se_var 0) (sa_cons se_ty (sa_cons se_ty sa_nil))))) h⟩
theorem ok_is_row (T : Tx w K mg A B) : FnOk P w K mg base CX0 2 B.f_is_row B.d_is_row ["thing", "many"] (spP K (m_is_row A K)) := by
  have G_is_list := ok_is_list (P := P) (base := base) T
  unfold m_is_row
  refine T.F_is_row.ok sc_is_row (fun vs H Q E h => pure_len0 h) (fun cdv AA outer s H vs Q E hr h => ?_)
  exact ⟨_, (pss_one (ps_ret (pe_and (pe_call G_is_list (hr.mono (by decide)) (by rfl) T.m_is_list T.F_is_list.kp T.b_is_list .nil pass0 (pa_cons (pv 0) pa_nil)) (pe_one (pe_cmpR op_eq (pe_callB (call_lenAnyK K) (by rfl) T.n_len PySem.boot_len (pa_cons (pv 0) pa_nil)) (pv 1) (nomark _)))))), pure_ok0 (N := N_is_row) (fun st => (ss_ret (se_andV (se_call (sc_P0 ne_is_list) (sa_cons (se_var 0) sa_nil)) (se_op so_eq (se_cb so_len (sa_cons (se_var 0) sa_nil)) (se_var 1))))) h⟩
theorem ok_is_word (T : Tx w K mg A B) : FnOk P w K mg base CX0 1 B.f_is_word B.d_is_word ["thing"] (spP K (m_is_word A K)) := by
  unfold m_is_word
  refine T.F_is_word.ok sc_is_word (fun vs H Q E h => pure_len0 h) (fun cdv AA outer s H vs Q E hr h => ?_)
  exact ⟨_, (pss_cons (ps_if (PW.pt (pw_or (pt_not (pt_val (pe_callB (call_isiKK K) (by rfl) T.n_isinstance (by decide +kernel) (pa_cons (pv 0) (pa_cons (pe_bltn (v := .ty "str") (u := .type "str") (by rfl) T.n_str (by decide +kernel) rfl) pa_nil))))) (pw_or1 (pt_not (pt_chain op_le op_le pe_int (pe_callB (call_lenAnyK K) (by rfl) T.n_len PySem.boot_len (pa_cons (pv 0) pa_nil)) (pe_glob (v := .int 8) (by rfl) T.g_LONGEST ⟨_, rfl⟩))))))
(pss_one (ps_ret pe_bl))
pss_nil)
(pss_one (ps_ret (pe_callB (cr_allK K rfl) (by rfl) T.n_all (by decide +kernel) (pa_cons (pe_lc (own := [("letter", 1)]) (g := (gName 1)) (by rfl) sc_is_word.nd (pi_str (pv 0)) (blkOk_by (own := [("letter", 1)]) (N := N_is_word) (sc := defScope s_is_word) (by decide +kernel)) (fun _ _ _ _ _ => (pg_name (i := 1) sc_is_word.nd rfl (.inl rfl))) (fun _ _ _ _ _ => pts_nil) (fun _ _ _ _ _ => (pe_cmpR op_in_sign (pv 1) (pe_glob (v := .str "abcdefghijklmnopqrstuvwxyz") (by rfl) T.g_LETTERS ⟨_, rfl⟩) (by rfl)))) pa_nil))))), pure_ok0 (N := N_is_word) (fun st => (ss_seq (ss_if (st_or (st_not (st_val (se_cb so_isi (sa_cons (se_var 0) (sa_cons se_ty sa_nil))))) (st_not (st_test (se_chain so_le so_le se_int (se_cb so_len (sa_cons (se_var 0) sa_nil)) se_int))))
(ss_ret se_bl)
ss_next)
(ss_ret (se_cb so_all (sa_cons (se_lc (si_str (se_var 0)) (sw_name (vs := [1]) 1 (by decide)) st_yes (se_op so_inS (se_var 1) se_str)) sa_nil))))) h⟩
theorem ok_are_unlike (T : Tx w K mg A B) : FnOk P w K mg base CX0 1 B.f_are_unlike B.d_are_unlike ["things"] (spP K (m_are_unlike A K)) := by
  unfold m_are_unlike
  refine T.F_are_unlike.ok sc_are_unlike (fun vs H Q E h => pure_len0 h) (fun cdv AA outer s H vs Q E hr h => ?_)
  exact ⟨_, (pss_one (ps_ret (pe_cmpR op_eq (pe_callB (call_lenAnyK K) (by rfl) T.n_len PySem.boot_len (pa_cons (pe_dc (own := [("thing", 1)]) (g := (gName 1)) (by rfl) sc_are_unlike.nd (pi_sqK K (pv 0)) (blkOk_by (own := [("thing", 1)]) (N := N_are_unlike) (sc := defScope s_are_unlike) (by decide +kernel)) (fun _ _ _ _ _ => (pg_name (i := 1) sc_are_unlike.nd rfl (.inl rfl))) (fun _ _ _ _ _ => pts_nil) (fun _ _ _ _ _ => (pv 1)) (fun _ _ _ _ _ => pe_bl)) pa_nil)) (pe_callB (call_lenAnyK K) (by rfl) T.n_len PySem.boot_len (pa_cons (pv 0) pa_nil)) (nomark _)))), pure_ok0 (N := N_are_unlike) (fun st => (ss_ret (se_op so_eq (se_cb so_len (sa_cons (se_dc (si_sq (se_var 0)) (sw_name (vs := [1]) 1 (by decide)) st_yes (se_var 1) se_bl) sa_nil)) (se_cb so_len (sa_cons (se_var 0) sa_nil))))) h⟩
theorem ok_checked_fields (T : Tx w K mg A B) : FnOk P w K mg base CX0 3 B.f_checked_fields B.d_checked_fields ["fields"] (spP K (m_checked_fields A K)) := by
  have G_is_list := ok_is_list (P := P) (base := base) T
  have G_is_row := ok_is_row (P := P) (base := base) T
  have G_is_word := ok_is_word (P := P) (base := base) T
  unfold m_checked_fields
  refine T.F_checked_fields.ok sc_checked_fields (fun vs H Q E h => pure_len0 h) (fun cdv AA outer s H vs Q E hr h => ?_)
  exact ⟨_, (pss_cons (ps_if (PW.pt (pw_or (pt_not (pt_val (pe_call G_is_list (hr.mono (by decide)) (by rfl) T.m_is_list T.F_is_list.kp T.b_is_list .nil pass0 (pa_cons (pv 0) pa_nil)))) (pw_or1 (pt_cmpR op_eq (pe_callB (call_lenAnyK K) (by rfl) T.n_len PySem.boot_len (pa_cons (pv 0) pa_nil)) pe_int (nomark _)))))
(pss_one ps_never)
pss_nil)
(pss_cons (ps_set (i := 1) sc_checked_fields.nd rfl (.inl rfl) (pe_lst pa_nil))
(pss_cons (ps_for PassesOwn.never rfl (pi_enSq (by rfl) T.n_enumerate (pa_cons (pv 0) pa_nil)) (pg_tup rfl (pgs_cons (pg_name (i := 2) sc_checked_fields.nd rfl (.inl rfl)) (pgs_cons (pg_name (i := 3) sc_checked_fields.nd rfl (.inl rfl)) pgs_nil)))
(pss_cons (ps_set (i := 4) sc_checked_fields.nd rfl (.inl rfl) (pe_and (pe_call G_is_row (hr.mono (by decide)) (by rfl) T.m_is_row T.F_is_row.kp T.b_is_row .nil pass0 (pa_cons (pv 3) (pa_cons pe_int pa_nil))) (pe_and (pe_call G_is_word (hr.mono (by decide)) (by rfl) T.m_is_word T.F_is_word.kp T.b_is_word .nil pass0 (pa_cons (pe_ix (ix_seqK K) (pv 3) pe_int (fun _ _ => rfl)) pa_nil)) (pe_one (pe_callB (call_isiKK K) (by rfl) T.n_isinstance (by decide +kernel) (pa_cons (pe_ix (ix_seqK K) (pv 3) pe_int (fun _ _ => rfl)) (pa_cons (pe_bltn (v := .ty "bool") (u := .type "bool") (by rfl) T.n_bool (by decide +kernel) rfl) pa_nil)))))))
(pss_cons (ps_if (PW.pt (pw_or (pt_cmpR op_eq (pv 2) (pe_glob (v := .int 3) (by rfl) T.g_MOST_FIELDS ⟨_, rfl⟩) (nomark _)) (pw_or (pt_not (pt_val (pv 4))) (pw_or1 (pt_cmpR (op_notIn_seqK K) (pe_ix (ix_seqK K) (pv 3) pe_int (fun _ _ => rfl)) (pe_tup (pa_cons pe_str (pa_cons pe_str pa_nil))) (by rfl))))))
(pss_one ps_never)
pss_nil)
(pss_cons (ps_if (pt_cmpR (op_in_seqK K) (pe_ix (ix_seqK K) (pv 3) pe_int (fun _ _ => rfl)) (pe_lc (own := [("row", 5)]) (g := (gName 5)) (by rfl) sc_checked_fields.nd (pi_sqK K (pv 1)) (blkOk_by (own := [("row", 5)]) (N := N_checked_fields) (sc := defScope s_checked_fields) (by decide +kernel)) (fun _ _ _ _ _ => (pg_name (i := 5) sc_checked_fields.nd rfl (.inl rfl))) (fun _ _ _ _ _ => pts_nil) (fun _ _ _ _ _ => (pe_ix (ix_seqK K) (pv 5) pe_int (fun _ _ => rfl)))) (by rfl))
(pss_one ps_never)
pss_nil)
(pss_one (ps_expr (pe_bm PySem.F.plainAttrs_list PySem.F.slot_list_append PySem.F.type_list_append mt_append (pv 1) (pa_cons (pe_callTy (call_tuple_ofK K) (by rfl) T.n_tuple (by decide +kernel) (pa_cons (pv 3) pa_nil)) pa_nil))))))))
(pss_one (ps_ret (pv 1)))))), pure_ok0 (N := N_checked_fields) (fun st => (ss_seq (ss_if (st_or (st_not (st_val (se_call (sc_P0 ne_is_list) (sa_cons (se_var 0) sa_nil)))) (st_test (se_op so_eq (se_cb so_len (sa_cons (se_var 0) sa_nil)) se_int)))
ss_never
ss_next)
(ss_seq (ss_asg (se_lst sa_nil) (sg_name 1))
(ss_seq (ss_for (si_en (sa_cons (se_var 0) sa_nil)) (sg_tup (sg_cons (sg_name 2) (sg_cons (sg_name 3) sg_nil)))
(ss_seq (ss_asg (se_andV (se_call (sc_P0 ne_is_row) (sa_cons (se_var 3) (sa_cons se_int sa_nil))) (se_andV (se_call (sc_P0 ne_is_word) (sa_cons (se_op so_ix (se_var 3) se_int) sa_nil)) (se_cb so_isi (sa_cons (se_op so_ix (se_var 3) se_int) (sa_cons se_ty sa_nil))))) (sg_name 4))
(ss_seq (ss_if (st_or (st_test (se_op so_eq (se_var 2) se_int)) (st_or (st_not (st_val (se_var 4))) (st_test (se_op so_in (se_op so_ix (se_var 3) se_int) (se_tup (sa_cons se_str (sa_cons se_str sa_nil)))))))
ss_never
ss_next)
(ss_seq (ss_if (st_test (se_op so_in (se_op so_ix (se_var 3) se_int) (se_lc (si_sq (se_var 1)) (sw_name (vs := [5]) 5 (by decide)) st_yes (se_op so_ix (se_var 5) se_int))))
ss_never
ss_next)
(ss_drop (se_bm sm_append (se_var 1) (sa_cons (se_cb so_tuple (sa_cons (se_var 3) sa_nil)) sa_nil)))))))
(ss_ret (se_var 1)))))) h⟩
theorem ok_is_deed (T : Tx w K mg A B) : FnOk P w K mg base CX0 3 B.f_is_deed B.d_is_deed ["thing", "sorts"] (spP K (m_is_deed A K)) := by
  have G_is_row := ok_is_row (P := P) (base := base) T
  unfold m_is_deed
  refine T.F_is_deed.ok sc_is_deed (fun vs H Q E h => pure_len0 h) (fun cdv AA outer s H vs Q E hr h => ?_)
  exact ⟨_, (pss_cons (ps_if (PW.pt (pw_or (pt_not (pt_val (pe_call G_is_row (hr.mono (by decide)) (by rfl) T.m_is_row T.F_is_row.kp T.b_is_row .nil pass0 (pa_cons (pv 0) (pa_cons pe_int pa_nil))))) (pw_or (pt_not (pt_val (pe_callB (call_isiKK K) (by rfl) T.n_isinstance (by decide +kernel) (pa_cons (pe_ix (ix_seqK K) (pv 0) pe_int (fun _ _ => rfl)) (pa_cons (pe_bltn (v := .ty "str") (u := .type "str") (by rfl) T.n_str (by decide +kernel) rfl) pa_nil))))) (pw_or1 (pt_cmp (pc_dnotin (hu_of hr) (pe_ix (ix_seqK K) (pv 0) pe_int (fun _ _ => rfl)) (pv 1)))))))
(pss_one (ps_ret pe_bl))
pss_nil)
(pss_one (ps_ret (pe_and (pe_callB (call_isiKK K) (by rfl) T.n_isinstance (by decide +kernel) (pa_cons (pe_ix (ix_seqK K) (pv 0) pe_int (fun _ _ => rfl)) (pa_cons (pe_bltn (v := .ty "str") (u := .type "str") (by rfl) T.n_str (by decide +kernel) rfl) pa_nil))) (pe_one (pe_cmpR (op_in_seqK K) (pe_ix (ix_seqK K) (pv 0) pe_int (fun _ _ => rfl)) (pe_ix (ix_kd2 T.kd_one T.kd_many) (pe_glob (v := .ref A.DEEDS) (by rfl) T.g_DEEDS rfl) (pe_dget (hu_of hr) (pv 1) (pe_ix (ix_seqK K) (pv 0) pe_int (fun _ _ => rfl)) (fun _ _ => rfl)) (fun _ _ => rfl)) (by rfl))))))), pure_ok0 (N := N_is_deed) (fun st => (ss_seq (ss_if (st_or (st_not (st_val (se_call (sc_P0 ne_is_row) (sa_cons (se_var 0) (sa_cons se_int sa_nil))))) (st_or (st_not (st_val (se_cb so_isi (sa_cons (se_op so_ix (se_var 0) se_int) (sa_cons se_ty sa_nil))))) (st_val (se_dnotin (se_op so_ix (se_var 0) se_int) (se_var 1)))))
(ss_ret se_bl)
ss_next)
(ss_ret (se_andV (se_cb so_isi (sa_cons (se_op so_ix (se_var 0) se_int) (sa_cons se_ty sa_nil))) (se_op so_in (se_op so_ix (se_var 0) se_int) (se_op (so_kd2 (T.w_DEEDS_one st) (T.w_DEEDS_many st)) se_cls (se_dget (se_var 1) (se_op so_ix (se_var 0) se_int)))))))) h⟩
theorem ok_is_same (T : Tx w K mg A B) : FnOk P w K mg base CX0 2 B.f_is_same B.d_is_same ["thing", "hand", "sorts"] (spP K (m_is_same A K)) := by
  have G_are_unlike := ok_are_unlike (P := P) (base := base) T
  unfold m_is_same
  refine T.F_is_same.ok sc_is_same (fun vs H Q E h => pure_len0 h) (fun cdv AA outer s H vs Q E hr h => ?_)
  exact ⟨_, (pss_cons (ps_if (pt_not (pt_val (pe_callB (cr_allK K rfl) (by rfl) T.n_all (by decide +kernel) (pa_cons (pe_lc (own := [("name", 3)]) (g := (gName 3)) (by rfl) sc_is_same.nd (pi_sqK K (pv 0)) (blkOk_by (own := [("name", 3)]) (N := N_is_same) (sc := defScope s_is_same) (by decide +kernel)) (fun _ _ _ _ _ => (pg_name (i := 3) sc_is_same.nd rfl (.inl rfl))) (fun _ _ _ _ _ => pts_nil) (fun _ _ _ _ _ => (pe_and (pe_callB (call_isiKK K) (by rfl) T.n_isinstance (by decide +kernel) (pa_cons (pv 3) (pa_cons (pe_bltn (v := .ty "str") (u := .type "str") (by rfl) T.n_str (by decide +kernel) rfl) pa_nil))) (pe_one (pe_cmpR op_eq (pe_dget1 (hu_of hr) (pv 2) (pv 3) ⟨rfl, rfl, rfl, rfl⟩) pe_str (nomark _)))))) pa_nil))))
(pss_one (ps_ret pe_bl))
pss_nil)
(pss_one (ps_ret (pe_and (pe_call G_are_unlike (hr.mono (by decide)) (by rfl) T.m_are_unlike T.F_are_unlike.kp T.b_are_unlike .nil pass0 (pa_cons (pv 0) pa_nil)) (pe_one (pe_or (pe_cmpR op_ne (pv 1) pe_str (nomark _)) (pe_one (pe_cmpR op_eq (pe_callB (call_lenAnyK K) (by rfl) T.n_len PySem.boot_len (pa_cons (pv 0) pa_nil)) pe_int (nomark _))))))))), pure_ok0 (N := N_is_same) (fun st => (ss_seq (ss_if (st_not (st_val (se_cb so_all (sa_cons (se_lc (si_sq (se_var 0)) (sw_name (vs := [3]) 3 (by decide)) st_yes (se_andV (se_cb so_isi (sa_cons (se_var 3) (sa_cons se_ty sa_nil))) (se_op so_eq (se_dget1 (se_var 2) (se_var 3)) se_str))) sa_nil))))
(ss_ret se_bl)
ss_next)
(ss_ret (se_andV (se_call (sc_P0 ne_are_unlike) (sa_cons (se_var 0) sa_nil)) (se_orV (se_op so_ne (se_var 1) se_str) (se_op so_eq (se_cb so_len (sa_cons (se_var 0) sa_nil)) se_int)))))) h⟩
theorem ok_reason_against (T : Tx w K mg A B) : FnOk P w K mg base CX0 4 B.f_reason_against B.d_reason_against ["thing", "sorts", "modes", "names"] (spP K (m_reason_against A K)) := by
  have G_is_between := ok_is_between (P := P) (base := base) T
  have G_is_list := ok_is_list (P := P) (base := base) T
  have G_is_row := ok_is_row (P := P) (base := base) T
  have G_is_word := ok_is_word (P := P) (base := base) T
  have G_are_unlike := ok_are_unlike (P := P) (base := base) T
  have G_is_deed := ok_is_deed (P := P) (base := base) T
  have G_is_same := ok_is_same (P := P) (base := base) T
  unfold m_reason_against
  refine T.F_reason_against.ok sc_reason_against (fun vs H Q E h => pure_len0 h) (fun cdv AA outer s H vs Q E hr h => ?_)
  exact ⟨_, (pss_cons (ps_if (PW.pt (pw_or (pt_not (pt_val (pe_call G_is_row (hr.mono (by decide)) (by rfl) T.m_is_row T.F_is_row.kp T.b_is_row .nil pass0 (pa_cons (pv 0) (pa_cons pe_int pa_nil))))) (pw_or1 (pt_not (pt_val (pe_callB (cr_allK K rfl) (by rfl) T.n_all (by decide +kernel) (pa_cons (pe_lc (own := [("part", 4)]) (g := (gName 4)) (by rfl) sc_reason_against.nd (pi_sqK K (pe_slice (sl_MAK K) (pv 0) po_none (po_some pe_int))) (blkOk_by (own := [("part", 4)]) (N := N_reason_against) (sc := defScope s_reason_against) (by decide +kernel)) (fun _ _ _ _ _ => (pg_name (i := 4) sc_reason_against.nd rfl (.inl rfl))) (fun _ _ _ _ _ => pts_nil) (fun _ _ _ _ _ => (pe_callB (call_isiKK K) (by rfl) T.n_isinstance (by decide +kernel) (pa_cons (pv 4) (pa_cons (pe_bltn (v := .ty "str") (u := .type "str") (by rfl) T.n_str (by decide +kernel) rfl) pa_nil))))) pa_nil)))))))
(pss_one (ps_ret pe_str))
pss_nil)
(pss_cons (ps_if (pt_not (pt_val (pe_callB (cr_allK K rfl) (by rfl) T.n_all (by decide +kernel) (pa_cons (pe_lc (own := [("part", 4)]) (g := (gName 4)) (by rfl) sc_reason_against.nd (pi_sqK K (pe_slice (sl_MAK K) (pv 0) (po_some pe_int) po_none)) (blkOk_by (own := [("part", 4)]) (N := N_reason_against) (sc := defScope s_reason_against) (by decide +kernel)) (fun _ _ _ _ _ => (pg_name (i := 4) sc_reason_against.nd rfl (.inl rfl))) (fun _ _ _ _ _ => pts_nil) (fun _ _ _ _ _ => (pe_call G_is_list (hr.mono (by decide)) (by rfl) T.m_is_list T.F_is_list.kp T.b_is_list .nil pass0 (pa_cons (pv 4) pa_nil)))) pa_nil))))
(pss_one (ps_ret pe_str))
pss_nil)
(pss_cons (ps_asg (pv 0) (pg_seq rfl (pgs_cons (pg_name (i := 5) sc_reason_against.nd rfl (.inl rfl)) (pgs_cons (pg_name (i := 6) sc_reason_against.nd rfl (.inl rfl)) (pgs_cons (pg_name (i := 7) sc_reason_against.nd rfl (.inl rfl)) (pgs_cons (pg_name (i := 8) sc_reason_against.nd rfl (.inl rfl)) (pgs_cons (pg_name (i := 9) sc_reason_against.nd rfl (.inl rfl)) pgs_nil)))))))
(pss_cons (ps_if (PW.pt (pw_or (pt_not (pt_val (pe_call G_is_word (hr.mono (by decide)) (by rfl) T.m_is_word T.F_is_word.kp T.b_is_word .nil pass0 (pa_cons (pv 5) pa_nil)))) (pw_or1 (pt_cmpR (op_in_seqK K) (pv 5) (pv 3) (by rfl)))))
(pss_one (ps_ret pe_str))
pss_nil)
(pss_cons (ps_if (pt_cmpR (op_notIn_seqK K) (pv 6) (pe_glob (v := .ref A.HANDS) (by rfl) T.g_HANDS rfl) (by rfl))
(pss_one (ps_ret pe_str))
pss_nil)
(pss_cons (ps_if (PW.pt (pw_or (pt_cmpR op_ne (pe_callB (call_lenAnyK K) (by rfl) T.n_len PySem.boot_len (pa_cons (pv 7) pa_nil)) (pv 2) (nomark _)) (pw_or1 (pt_not (pt_val (pe_callB (cr_allK K rfl) (by rfl) T.n_all (by decide +kernel) (pa_cons (pe_lc (own := [("move", 10)]) (g := (gName 10)) (by rfl) sc_reason_against.nd (pi_sqK K (pv 7)) (blkOk_by (own := [("move", 10)]) (N := N_reason_against) (sc := defScope s_reason_against) (by decide +kernel)) (fun _ _ _ _ _ => (pg_name (i := 10) sc_reason_against.nd rfl (.inl rfl))) (fun _ _ _ _ _ => pts_nil) (fun _ _ _ _ _ => (pe_call G_is_between (hr.mono (by decide)) (by rfl) T.m_is_between T.F_is_between.kp T.b_is_between .nil pass0 (pa_cons (pv 10) (pa_cons (pe_un un_neg pe_int) (pa_cons (pe_op op_sub (pv 2) pe_int) pa_nil)))))) pa_nil)))))))
(pss_one (ps_ret pe_str))
pss_nil)
(pss_cons (ps_if (PW.pt (pw_or (pt_cmpR op_gt (pe_callB (call_lenAnyK K) (by rfl) T.n_len PySem.boot_len (pa_cons (pv 8) pa_nil)) (pe_glob (v := .int 4) (by rfl) T.g_MOST_DEEDS ⟨_, rfl⟩) (nomark _)) (pw_or1 (pt_not (pt_val (pe_callB (cr_allK K rfl) (by rfl) T.n_all (by decide +kernel) (pa_cons (pe_lc (own := [("deed", 11)]) (g := (gName 11)) (by rfl) sc_reason_against.nd (pi_sqK K (pv 8)) (blkOk_by (own := [("deed", 11)]) (N := N_reason_against) (sc := defScope s_reason_against) (by decide +kernel)) (fun _ _ _ _ _ => (pg_name (i := 11) sc_reason_against.nd rfl (.inl rfl))) (fun _ _ _ _ _ => pts_nil) (fun _ _ _ _ _ => (pe_call G_is_deed (hr.mono (by decide)) (by rfl) T.m_is_deed T.F_is_deed.kp T.b_is_deed .nil pass0 (pa_cons (pv 11) (pa_cons (pv 1) pa_nil))))) pa_nil)))))))
(pss_one (ps_ret pe_str))
pss_nil)
(pss_cons (ps_if (pt_not (pt_val (pe_call G_are_unlike (hr.mono (by decide)) (by rfl) T.m_are_unlike T.F_are_unlike.kp T.b_are_unlike .nil pass0 (pa_cons (pe_lc (own := [("deed", 11)]) (g := (gName 11)) (by rfl) sc_reason_against.nd (pi_sqK K (pv 8)) (blkOk_by (own := [("deed", 11)]) (N := N_reason_against) (sc := defScope s_reason_against) (by decide +kernel)) (fun _ _ _ _ _ => (pg_name (i := 11) sc_reason_against.nd rfl (.inl rfl))) (fun _ _ _ _ _ => (pts_one (pt_cmpR (op_in_seqK K) (pe_ix (ix_seqK K) (pv 11) pe_int (fun _ _ => rfl)) (pe_tup (pa_cons pe_str (pa_cons pe_str pa_nil))) (by rfl)))) (fun _ _ _ _ _ => (pe_ix (ix_seqK K) (pv 11) pe_int (fun _ _ => rfl)))) pa_nil))))
(pss_one (ps_ret pe_str))
pss_nil)
(pss_one (ps_ret (pe_ifExp (pt_val (pe_call G_is_same (hr.mono (by decide)) (by rfl) T.m_is_same T.F_is_same.kp T.b_is_same .nil pass0 (pa_cons (pv 9) (pa_cons (pv 6) (pa_cons (pv 1) pa_nil))))) pe_non pe_str))))))))))), pure_ok0 (N := N_reason_against) (fun st => (ss_seq (ss_if (st_or (st_not (st_val (se_call (sc_P0 ne_is_row) (sa_cons (se_var 0) (sa_cons se_int sa_nil))))) (st_not (st_val (se_cb so_all (sa_cons (se_lc (si_sq (se_sl ss_M (se_var 0) sp_none (sp_some se_int))) (sw_name (vs := [4]) 4 (by decide)) st_yes (se_cb so_isi (sa_cons (se_var 4) (sa_cons se_ty sa_nil)))) sa_nil)))))
(ss_ret se_str)
ss_next)
(ss_seq (ss_if (st_not (st_val (se_cb so_all (sa_cons (se_lc (si_sq (se_sl ss_M (se_var 0) (sp_some se_int) sp_none)) (sw_name (vs := [4]) 4 (by decide)) st_yes (se_call (sc_P0 ne_is_list) (sa_cons (se_var 4) sa_nil))) sa_nil))))
(ss_ret se_str)
ss_next)
(ss_seq (ss_asg (se_var 0) (sg_seq (sg_cons (sg_name 5) (sg_cons (sg_name 6) (sg_cons (sg_name 7) (sg_cons (sg_name 8) (sg_cons (sg_name 9) sg_nil)))))))
(ss_seq (ss_if (st_or (st_not (st_val (se_call (sc_P0 ne_is_word) (sa_cons (se_var 5) sa_nil)))) (st_test (se_op so_in (se_var 5) (se_var 3))))
(ss_ret se_str)
ss_next)
(ss_seq (ss_if (st_test (se_op so_in (se_var 6) (se_c (T.w_HANDS st))))
(ss_ret se_str)
ss_next)
(ss_seq (ss_if (st_or (st_test (se_op so_ne (se_cb so_len (sa_cons (se_var 7) sa_nil)) (se_var 2))) (st_not (st_val (se_cb so_all (sa_cons (se_lc (si_sq (se_var 7)) (sw_name (vs := [10]) 10 (by decide)) st_yes (se_call (sc_P0 ne_is_between) (sa_cons (se_var 10) (sa_cons (se_neg se_int) (sa_cons (se_op so_sub (se_var 2) se_int) sa_nil))))) sa_nil)))))
(ss_ret se_str)
ss_next)
(ss_seq (ss_if (st_or (st_test (se_op so_gt (se_cb so_len (sa_cons (se_var 8) sa_nil)) se_int)) (st_not (st_val (se_cb so_all (sa_cons (se_lc (si_sq (se_var 8)) (sw_name (vs := [11]) 11 (by decide)) st_yes (se_call (sc_P0 ne_is_deed) (sa_cons (se_var 11) (sa_cons (se_var 1) sa_nil)))) sa_nil)))))
(ss_ret se_str)
ss_next)
(ss_seq (ss_if (st_not (st_val (se_call (sc_P0 ne_are_unlike) (sa_cons (se_lc (si_sq (se_var 8)) (sw_name (vs := [11]) 11 (by decide)) (st_test (se_op so_in (se_op so_ix (se_var 11) se_int) (se_tup (sa_cons se_str (sa_cons se_str sa_nil))))) (se_op so_ix (se_var 11) se_int)) sa_nil))))
(ss_ret se_str)
ss_next)
(ss_ret (se_if (st_val (se_call (sc_P0 ne_is_same) (sa_cons (se_var 9) (sa_cons (se_var 6) (sa_cons (se_var 1) sa_nil))))) se_non se_str))))))))))) h⟩
theorem ok_checked_calls (T : Tx w K mg A B) : FnOk P w K mg base CX0 5 B.f_checked_calls B.d_checked_calls ["calls", "sorts", "modes"] (spP K (m_checked_calls A K)) := by
  have G_is_list := ok_is_list (P := P) (base := base) T
  have G_reason_against := ok_reason_against (P := P) (base := base) T
  unfold m_checked_calls
  refine T.F_checked_calls.ok sc_checked_calls (fun vs H Q E h => pure_len0 h) (fun cdv AA outer s H vs Q E hr h => ?_)
  exact ⟨_, (pss_cons (ps_if (PW.pt (pw_or (pt_not (pt_val (pe_call G_is_list (hr.mono (by decide)) (by rfl) T.m_is_list T.F_is_list.kp T.b_is_list .nil pass0 (pa_cons (pv 0) pa_nil)))) (pw_or1 (pt_cmpR op_eq (pe_callB (call_lenAnyK K) (by rfl) T.n_len PySem.boot_len (pa_cons (pv 0) pa_nil)) pe_int (nomark _)))))
(pss_one ps_never)
pss_nil)
(pss_cons (ps_set (i := 3) sc_checked_calls.nd rfl (.inl rfl) (pe_lst pa_nil))
(pss_cons (ps_for PassesOwn.never rfl (pi_enSq (by rfl) T.n_enumerate (pa_cons (pv 0) pa_nil)) (pg_tup rfl (pgs_cons (pg_name (i := 4) sc_checked_calls.nd rfl (.inl rfl)) (pgs_cons (pg_name (i := 5) sc_checked_calls.nd rfl (.inl rfl)) pgs_nil)))
(pss_cons (ps_set (i := 6) sc_checked_calls.nd rfl (.inl rfl) (pe_ifExp (pt_cmpR op_eq (pv 4) (pe_glob (v := .int 6) (by rfl) T.g_MOST_CALLS ⟨_, rfl⟩) (nomark _)) pe_str (pe_call G_reason_against (hr.mono (by decide)) (by rfl) T.m_reason_against T.F_reason_against.kp T.b_reason_against .nil pass0 (pa_cons (pv 5) (pa_cons (pv 1) (pa_cons (pv 2) (pa_cons (pe_lc (own := [("row", 7)]) (g := (gName 7)) (by rfl) sc_checked_calls.nd (pi_sqK K (pv 3)) (blkOk_by (own := [("row", 7)]) (N := N_checked_calls) (sc := defScope s_checked_calls) (by decide +kernel)) (fun _ _ _ _ _ => (pg_name (i := 7) sc_checked_calls.nd rfl (.inl rfl))) (fun _ _ _ _ _ => pts_nil) (fun _ _ _ _ _ => (pe_ix (ix_seqK K) (pv 7) pe_int (fun _ _ => rfl)))) pa_nil)))))))
(pss_cons (ps_if (pt_cmpR op_notN (pv 6) pe_non (nomark _))
(pss_one ps_never)
pss_nil)
(pss_cons (ps_asg (pv 5) (pg_seq rfl (pgs_cons (pg_name (i := 8) sc_checked_calls.nd rfl (.inl rfl)) (pgs_cons (pg_name (i := 9) sc_checked_calls.nd rfl (.inl rfl)) (pgs_cons (pg_name (i := 10) sc_checked_calls.nd rfl (.inl rfl)) (pgs_cons (pg_name (i := 11) sc_checked_calls.nd rfl (.inl rfl)) (pgs_cons (pg_name (i := 12) sc_checked_calls.nd rfl (.inl rfl)) pgs_nil)))))))
(pss_one (ps_expr (pe_bm PySem.F.plainAttrs_list PySem.F.slot_list_append PySem.F.type_list_append mt_append (pv 3) (pa_cons (pe_tup (pa_cons (pv 8) (pa_cons (pv 9) (pa_cons (pe_callTy (call_tuple_ofK K) (by rfl) T.n_tuple (by decide +kernel) (pa_cons (pv 10) pa_nil)) (pa_cons (pe_callTy (call_tuple_ofK K) (by rfl) T.n_tuple (by decide +kernel) (pa_cons (pe_lc (own := [("deed", 13)]) (g := (gName 13)) (by rfl) sc_checked_calls.nd (pi_sqK K (pv 11)) (blkOk_by (own := [("deed", 13)]) (N := N_checked_calls) (sc := defScope s_checked_calls) (by decide +kernel)) (fun _ _ _ _ _ => (pg_name (i := 13) sc_checked_calls.nd rfl (.inl rfl))) (fun _ _ _ _ _ => pts_nil) (fun _ _ _ _ _ => (pe_callTy (call_tuple_ofK K) (by rfl) T.n_tuple (by decide +kernel) (pa_cons (pv 13) pa_nil)))) pa_nil)) (pa_cons (pe_callTy (call_tuple_ofK K) (by rfl) T.n_tuple (by decide +kernel) (pa_cons (pv 12) pa_nil)) pa_nil)))))) pa_nil))))))))
(pss_one (ps_ret (pv 3)))))), pure_ok0 (N := N_checked_calls) (fun st => (ss_seq (ss_if (st_or (st_not (st_val (se_call (sc_P0 ne_is_list) (sa_cons (se_var 0) sa_nil)))) (st_test (se_op so_eq (se_cb so_len (sa_cons (se_var 0) sa_nil)) se_int)))
ss_never
ss_next)
(ss_seq (ss_asg (se_lst sa_nil) (sg_name 3))
(ss_seq (ss_for (si_en (sa_cons (se_var 0) sa_nil)) (sg_tup (sg_cons (sg_name 4) (sg_cons (sg_name 5) sg_nil)))
(ss_seq (ss_asg (se_if (st_test (se_op so_eq (se_var 4) se_int)) se_str (se_call (sc_P0 ne_reason_against) (sa_cons (se_var 5) (sa_cons (se_var 1) (sa_cons (se_var 2) (sa_cons (se_lc (si_sq (se_var 3)) (sw_name (vs := [7]) 7 (by decide)) st_yes (se_op so_ix (se_var 7) se_int)) sa_nil)))))) (sg_name 6))
(ss_seq (ss_if (st_test (se_op so_notN (se_var 6) se_non))
ss_never
ss_next)
(ss_seq (ss_asg (se_var 5) (sg_seq (sg_cons (sg_name 8) (sg_cons (sg_name 9) (sg_cons (sg_name 10) (sg_cons (sg_name 11) (sg_cons (sg_name 12) sg_nil)))))))
(ss_drop (se_bm sm_append (se_var 3) (sa_cons (se_tup (sa_cons (se_var 8) (sa_cons (se_var 9) (sa_cons (se_cb so_tuple (sa_cons (se_var 10) sa_nil)) (sa_cons (se_cb so_tuple (sa_cons (se_lc (si_sq (se_var 11)) (sw_name (vs := [13]) 13 (by decide)) st_yes (se_cb so_tuple (sa_cons (se_var 13) sa_nil))) sa_nil)) (sa_cons (se_cb so_tuple (sa_cons (se_var 12) sa_nil)) sa_nil)))))) sa_nil)))))))
(ss_ret (se_var 3)))))) h⟩
theorem ok_Kind___init__ (T : Tx w K mg A B) : FnOk P w K mg base CX0 6 B.f_Kind___init__ B.d_Kind___init__ ["self", "fields", "calls", "modes"] (spO K (m_Kind___init__ A K)) := by
  have G_is_between := ok_is_between (P := P) (base := base) T
  have G_checked_fields := ok_checked_fields (P := P) (base := base) T
  have G_checked_calls := ok_checked_calls (P := P) (base := base) T
  unfold m_Kind___init__
  refine T.F_Kind___init__.ok sc_Kind___init__ (fun vs H Q E h => open_len0 h) (fun cdv AA outer s H vs Q E hr h => ?_)
  exact ⟨_, (pss_cons (ps_fld (pv 0) (pe_call G_checked_fields (hr.mono (by decide)) (by rfl) T.m_checked_fields T.F_checked_fields.kp T.b_checked_fields .nil pass0 (pa_cons (pv 1) pa_nil)) rfl)
(pss_cons (ps_if (pt_not (pt_val (pe_call G_is_between (hr.mono (by decide)) (by rfl) T.m_is_between T.F_is_between.kp T.b_is_between .nil pass0 (pa_cons (pv 3) (pa_cons pe_int (pa_cons (pe_glob (v := .int 4) (by rfl) T.g_MOST_MODES ⟨_, rfl⟩) pa_nil))))))
(pss_one ps_never)
pss_nil)
(pss_cons (ps_fld (pv 0) (pv 3) rfl)
(pss_cons (ps_fld (pv 0) (pe_dc (own := [("name", 4), ("sort", 5), ("need", 6)]) (g := (gTup K 3 (gCons (gName 4) (gCons (gName 5) (gCons (gName 6) gNil))))) (by rfl) sc_Kind___init__.nd (pi_sqK K (pe_fldK K (pv 0) rfl)) (blkOk_by (own := [("name", 4), ("sort", 5), ("need", 6)]) (N := N_Kind___init__) (sc := defScope s_Kind___init__) (by decide +kernel)) (fun _ _ _ _ _ => (pg_tup rfl (pgs_cons (pg_name (i := 4) sc_Kind___init__.nd rfl (.inl rfl)) (pgs_cons (pg_name (i := 5) sc_Kind___init__.nd rfl (.inl rfl)) (pgs_cons (pg_name (i := 6) sc_Kind___init__.nd rfl (.inl rfl)) pgs_nil))))) (fun _ _ _ _ _ => pts_nil) (fun _ _ _ _ _ => (pv 4)) (fun _ _ _ _ _ => (pv 5))) rfl)
(pss_cons (ps_fld (pv 0) (pe_call G_checked_calls (hr.mono (by decide)) (by rfl) T.m_checked_calls T.F_checked_calls.kp T.b_checked_calls .nil pass0 (pa_cons (pv 2) (pa_cons (pe_fldK K (pv 0) rfl) (pa_cons (pv 3) pa_nil)))) rfl)
(pss_one (ps_fld (pv 0) (pe_lc (own := [("row", 7)]) (g := (gName 7)) (by rfl) sc_Kind___init__.nd (pi_sqK K (pe_fldK K (pv 0) rfl)) (blkOk_by (own := [("row", 7)]) (N := N_Kind___init__) (sc := defScope s_Kind___init__) (by decide +kernel)) (fun _ _ _ _ _ => (pg_name (i := 7) sc_Kind___init__.nd rfl (.inl rfl))) (fun _ _ _ _ _ => pts_nil) (fun _ _ _ _ _ => (pe_ix (ix_seqK K) (pv 7) pe_int (fun _ _ => rfl)))) rfl))))))), open_ok0 (N := N_Kind___init__) (fun st => (ss_seq (ss_fld T.cl_Kind T.na_Kind_field_rows (se_var 0) (se_call (sc_P0 ne_checked_fields) (sa_cons (se_var 1) sa_nil)))
(ss_seq (ss_if (st_not (st_val (se_call (sc_P0 ne_is_between) (sa_cons (se_var 3) (sa_cons se_int (sa_cons se_int sa_nil))))))
ss_never
ss_next)
(ss_seq (ss_fld T.cl_Kind T.na_Kind_modes (se_var 0) (se_var 3))
(ss_seq (ss_fld T.cl_Kind T.na_Kind_sorts (se_var 0) (se_dc (si_sq (se_fld T.cl_Kind T.na_Kind_field_rows (se_var 0))) (sw_tup (sw_cons (vs := [4, 5, 6]) (by decide) (sw_cons (vs := [4, 5, 6]) (by decide) (sw_cons (vs := [4, 5, 6]) (by decide) sw_nil)))) st_yes (se_var 4) (se_var 5)))
(ss_seq (ss_fld T.cl_Kind T.na_Kind_call_rows (se_var 0) (se_call (sc_P0 ne_checked_calls) (sa_cons (se_var 2) (sa_cons (se_fld T.cl_Kind T.na_Kind_sorts (se_var 0)) (sa_cons (se_var 3) sa_nil)))))
(ss_fld T.cl_Kind T.na_Kind_name_list (se_var 0) (se_lc (si_sq (se_fld T.cl_Kind T.na_Kind_call_rows (se_var 0))) (sw_name (vs := [7]) 7 (by decide)) st_yes (se_op so_ix (se_var 7) se_int))))))))) h⟩
theorem ok_law_plan (T : Tx w K mg A B) : FnOk P w K mg base CX0 8 B.f_law_plan B.d_law_plan ["_law_fields", "_law_calls", "_law_far"] (spP K (m_law_plan A K)) := by
  have G_Kind___init__ := ok_Kind___init__ (P := P) (base := base) T
  unfold m_law_plan
  refine T.F_law_plan.ok sc_law_plan (fun vs H Q E h => pure_len0 h) (fun cdv AA outer s H vs Q E hr h => ?_)
  exact ⟨_, (pss_one (ps_ret (pe_disp (pps_cons pe_str (pv 0) (pps_cons pe_str (pv 1) (pps_cons pe_str (pv 2) (pps_cons pe_str (pe_makeK T.mk_Kind G_Kind___init__ (hr.mono (by decide)) (by rfl) T.g_Kind T.kb_Kind___init__ pass0 (pa_cons (pv 0) (pa_cons (pv 1) pa_nil)) (pk_cons (pv 2) pk_nil)) pps_nil)))) (by rfl) (by rfl) (fun z => by cases z) (by decide)))), pure_ok0 (N := N_law_plan) (fun st => (ss_ret (se_disp (.cons se_str (se_var 0) (.cons se_str (se_var 1) (.cons se_str (se_var 2) (.cons se_str (se_makeK (sc_O0 ne_Kind___init__) (sa_cons (se_var 0) (sa_cons (se_var 1) sa_nil)) (sa_cons (se_var 2) sa_nil)) .nil))))))) h⟩
theorem ok_law_deeds (T : Tx w K mg A B) : FnOk P w K mg base CX0 4 B.f_law_deeds B.d_law_deeds ["_law_state", "_law_fields", "_law_many"] (spP K (m_law_deeds A K)) := by
  have G_law_take := ok_law_take (P := P) (base := base) T
  have G_law_one := ok_law_one (P := P) (base := base) T
  unfold m_law_deeds
  refine T.F_law_deeds.ok sc_law_deeds (fun vs H Q E h => pure_len0 h) (fun cdv AA outer s H vs Q E hr h => ?_)
  exact ⟨_, (pss_cons (ps_par (i := 3) (j := 4) (by rfl) sc_law_deeds.nd rfl rfl (by decide) rfl rfl (pa_cons (pe_lst pa_nil) (pa_cons (pe_lst pa_nil) pa_nil)) (by rfl))
(pss_cons (ps_for PassesOwn.never rfl (pi_range1 (by rfl) T.n_range (pa_cons (pe_call G_law_take (hr.mono (by decide)) (by rfl) T.m_law_take T.F_law_take.kp T.b_law_take .nil pass0 (pa_cons (pv 0) (pa_cons (pe_op op_add (pv 2) pe_int) pa_nil))) pa_nil)) (pg_name (i := 5) sc_law_deeds.nd rfl (.inl rfl))
(pss_cons (ps_asg (pe_call G_law_one (hr.mono (by decide)) (by rfl) T.m_law_one T.F_law_one.kp T.b_law_one .nil pass0 (pa_cons (pv 0) (pa_cons (pv 1) pa_nil))) (pg_tup rfl (pgs_cons (pg_name (i := 6) sc_law_deeds.nd rfl (.inl rfl)) (pgs_cons (pg_name (i := 7) sc_law_deeds.nd rfl (.inl rfl)) (pgs_cons (pg_name (i := 8) sc_law_deeds.nd rfl (.inl rfl)) pgs_nil)))))
(pss_cons (ps_set (i := 9) sc_law_deeds.nd rfl (.inl rfl) (pe_ifExp (pt_cmpR op_eq (pv 7) pe_str (nomark _)) (pe_lst (pa_cons pe_str (pa_cons pe_str pa_nil))) (pe_lst (pa_cons pe_str (pa_cons pe_str (pa_cons pe_str (pa_cons pe_str (pa_cons pe_str pa_nil))))))))
(pss_cons (ps_set (i := 10) sc_law_deeds.nd rfl (.inl rfl) (pe_call G_law_one (hr.mono (by decide)) (by rfl) T.m_law_one T.F_law_one.kp T.b_law_one .nil pass0 (pa_cons (pv 0) (pa_cons (pv 9) pa_nil))))
(pss_one (ps_if (PW.pt (pw_or (pt_cmpR (op_notIn_seqK K) (pv 10) (pe_tup (pa_cons pe_str (pa_cons pe_str pa_nil))) (by rfl)) (pw_or1 (pt_cmpR (op_notIn_seqK K) (pv 6) (pv 4) (by rfl)))))
(pss_cons (ps_set (i := 4) sc_law_deeds.nd rfl (.inl rfl) (pe_op op_cat (pv 4) (pe_op op_rep (pe_lst (pa_cons (pv 6) pa_nil)) (pe_callTy call_int1 (by rfl) T.n_int (by decide +kernel) (pa_cons (pe_cmpR (op_in_seqK K) (pv 10) (pe_tup (pa_cons pe_str (pa_cons pe_str pa_nil))) (by rfl)) pa_nil)))))
(pss_one (ps_expr (pe_bm PySem.F.plainAttrs_list PySem.F.slot_list_append PySem.F.type_list_append mt_append (pv 3) (pa_cons (pe_tup (pa_cons (pv 10) (pa_cons (pv 6) pa_nil))) pa_nil)))))
pss_nil))))))
(pss_one (ps_ret (pv 3))))), pure_ok0 (N := N_law_deeds) (fun st => (ss_seq (ss_par (sa_cons (se_lst sa_nil) (sa_cons (se_lst sa_nil) sa_nil)))
(ss_seq (ss_for (si_r1 (sa_cons (se_call (sc_P0 ne_law_take) (sa_cons (se_var 0) (sa_cons (se_op so_add (se_var 2) se_int) sa_nil))) sa_nil)) (sg_name 5)
(ss_seq (ss_asg (se_call (sc_P0 ne_law_one) (sa_cons (se_var 0) (sa_cons (se_var 1) sa_nil))) (sg_tup (sg_cons (sg_name 6) (sg_cons (sg_name 7) (sg_cons (sg_name 8) sg_nil)))))
(ss_seq (ss_asg (se_if (st_test (se_op so_eq (se_var 7) se_str)) (se_lst (sa_cons se_str (sa_cons se_str sa_nil))) (se_lst (sa_cons se_str (sa_cons se_str (sa_cons se_str (sa_cons se_str (sa_cons se_str sa_nil))))))) (sg_name 9))
(ss_seq (ss_asg (se_call (sc_P0 ne_law_one) (sa_cons (se_var 0) (sa_cons (se_var 9) sa_nil))) (sg_name 10))
(ss_if (st_or (st_test (se_op so_in (se_var 10) (se_tup (sa_cons se_str (sa_cons se_str sa_nil))))) (st_test (se_op so_in (se_var 6) (se_var 4))))
(ss_seq (ss_asg (se_op so_cat (se_var 4) (se_op so_rep (se_lst (sa_cons (se_var 6) sa_nil)) (se_cb so_int (sa_cons (se_op so_in (se_var 10) (se_tup (sa_cons se_str (sa_cons se_str sa_nil)))) sa_nil)))) (sg_name 4))
(ss_drop (se_bm sm_append (se_var 3) (sa_cons (se_tup (sa_cons (se_var 10) (sa_cons (se_var 6) sa_nil))) sa_nil))))
ss_next)))))
(ss_ret (se_var 3))))) h⟩
theorem ok_law_call (T : Tx w K mg A B) : FnOk P w K mg base CX0 5 B.f_law_call B.d_law_call ["_law_state", "_law_name", "_law_hand", "_law_fields", "_law_far"] (spP K (m_law_call A K)) := by
  have G_law_take := ok_law_take (P := P) (base := base) T
  have G_law_one := ok_law_one (P := P) (base := base) T
  have G_law_deeds := ok_law_deeds (P := P) (base := base) T
  unfold m_law_call
  refine T.F_law_call.ok sc_law_call (fun vs H Q E h => pure_len0 h) (fun cdv AA outer s H vs Q E hr h => ?_)
  exact ⟨_, (pss_cons (ps_set (i := 5) sc_law_call.nd rfl (.inr rfl) (pe_op op_cat (pe_op op_rep (pe_listRg (by rfl) (by rfl) T.n_list (prg_1 (by rfl) T.n_range (pv 4))) pe_int) (pe_op op_rep (pe_lst (pa_cons (pe_un un_neg pe_int) pa_nil)) (pe_callTy call_int1 (by rfl) T.n_int (by decide +kernel) (pa_cons (pe_cmpR op_gt (pv 4) pe_int (nomark _)) pa_nil)))))
(pss_cons (ps_setLc (i := 6) (own := [("_law_k", 7)]) (g := (gName 7)) (by rfl) sc_law_call.nd rfl rfl (sw_true rfl rfl rfl (by decide +kernel)) (pi_range1 (by rfl) T.n_range (pa_cons (pv 4) pa_nil)) (blkOk_by (own := [("_law_k", 7)]) (N := N_law_call) (sc := defScope s_law_call) (by decide +kernel)) (fun _ _ _ _ _ => (pg_name (i := 7) sc_law_call.nd rfl (.inl rfl))) (fun _ _ _ _ _ => pts_nil) (fun _ _ _ _ _ => (pe_call G_law_one (hr.mono (by decide)) (by rfl) T.m_law_one T.F_law_one.kp T.b_law_one .nil pass0 (pa_cons (pv 0) (pa_cons (pv 5) pa_nil)))))
(pss_cons (ps_setLc (i := 8) (own := [("_law_x", 9)]) (g := (gName 9)) (by rfl) sc_law_call.nd rfl rfl (sw_true rfl rfl rfl (by decide +kernel)) (pi_sqK K (pv 3)) (blkOk_by (own := [("_law_x", 9)]) (N := N_law_call) (sc := defScope s_law_call) (by decide +kernel)) (fun _ _ _ _ _ => (pg_name (i := 9) sc_law_call.nd rfl (.inl rfl))) (fun _ _ _ _ _ => (pts_one (PW.pt (pw_and (pt_cmpR op_eq (pe_ix (ix_seqK K) (pv 9) pe_int (fun _ _ => rfl)) pe_str (nomark _)) (pw_and1 (pt_cmpR op_eq (pe_call G_law_take (hr.mono (by decide)) (by rfl) T.m_law_take T.F_law_take.kp T.b_law_take .nil pass0 (pa_cons (pv 0) (pa_cons pe_int pa_nil))) pe_int (nomark _))))))) (fun _ _ _ _ _ => (pe_ix (ix_seqK K) (pv 9) pe_int (fun _ _ => rfl))))
(pss_cons (ps_set (i := 10) sc_law_call.nd rfl (.inl rfl) (pe_call G_law_deeds (hr.mono (by decide)) (by rfl) T.m_law_deeds T.F_law_deeds.kp T.b_law_deeds .nil pass0 (pa_cons (pv 0) (pa_cons (pv 3) (pa_cons (pe_call G_law_one (hr.mono (by decide)) (by rfl) T.m_law_one T.F_law_one.kp T.b_law_one .nil pass0 (pa_cons (pv 0) (pa_cons (pe_lst (pa_cons pe_int (pa_cons pe_int (pa_cons pe_int (pa_cons pe_int pa_nil))))) pa_nil))) pa_nil)))))
(pss_one (ps_ret (pe_tup (pa_cons (pv 1) (pa_cons (pv 2) (pa_cons (pv 6) (pa_cons (pv 10) (pa_cons (pe_ifExp (pt_cmpR op_ne (pv 2) pe_str (nomark _)) (pv 8) (pe_lst pa_nil)) pa_nil)))))))))))), pure_ok0 (N := N_law_call) (fun st => (ss_seq (ss_asg (se_op so_cat (se_op so_rep (se_lstR (se_var 4)) se_int) (se_op so_rep (se_lst (sa_cons (se_neg se_int) sa_nil)) (se_cb so_int (sa_cons (se_op so_gt (se_var 4) se_int) sa_nil)))) (sg_name 5))
(ss_seq (ss_asg (se_lc (si_r1 (sa_cons (se_var 4) sa_nil)) (sw_name (vs := [7]) 7 (by decide)) st_yes (se_call (sc_P0 ne_law_one) (sa_cons (se_var 0) (sa_cons (se_var 5) sa_nil)))) (sg_name 6))
(ss_seq (ss_asg (se_lc (si_sq (se_var 3)) (sw_name (vs := [9]) 9 (by decide)) (st_and (st_test (se_op so_eq (se_op so_ix (se_var 9) se_int) se_str)) (st_test (se_op so_eq (se_call (sc_P0 ne_law_take) (sa_cons (se_var 0) (sa_cons se_int sa_nil))) se_int))) (se_op so_ix (se_var 9) se_int)) (sg_name 8))
(ss_seq (ss_asg (se_call (sc_P0 ne_law_deeds) (sa_cons (se_var 0) (sa_cons (se_var 3) (sa_cons (se_call (sc_P0 ne_law_one) (sa_cons (se_var 0) (sa_cons (se_lst (sa_cons se_int (sa_cons se_int (sa_cons se_int (sa_cons se_int sa_nil))))) sa_nil))) sa_nil)))) (sg_name 10))
(ss_ret (se_tup (sa_cons (se_var 1) (sa_cons (se_var 2) (sa_cons (se_var 6) (sa_cons (se_var 10) (sa_cons (se_if (st_test (se_op so_ne (se_var 2) se_str)) (se_var 8) (se_lst sa_nil)) sa_nil)))))))))))) h⟩
theorem ok_law_kind (T : Tx w K mg A B) : FnOk P w K mg base CX0 9 B.f_law_kind B.d_law_kind ["_law_state", "_law_wide", "_law_many", "_law_far"] (spP K (m_law_kind A K)) := by
  have G_law_take := ok_law_take (P := P) (base := base) T
  have G_law_one := ok_law_one (P := P) (base := base) T
  have G_law_mix := ok_law_mix (P := P) (base := base) T
  have G_law_plan := ok_law_plan (P := P) (base := base) T
  have G_law_call := ok_law_call (P := P) (base := base) T
  unfold m_law_kind
  refine T.F_law_kind.ok sc_law_kind (fun vs H Q E h => pure_len0 h) (fun cdv AA outer s H vs Q E hr h => ?_)
  exact ⟨_, (pss_cons (ps_par (i := 4) (j := 5) (by rfl) sc_law_kind.nd rfl rfl (by decide) rfl rfl (pa_cons (pe_lst pa_nil) (pa_cons (pe_call G_law_mix (hr.mono (by decide)) (by rfl) T.m_law_mix T.F_law_mix.kp T.b_law_mix .nil pass0 (pa_cons (pv 0) (pa_cons (pe_lst (pa_cons pe_str (pa_cons pe_str (pa_cons pe_str (pa_cons pe_str (pa_cons pe_str pa_nil)))))) pa_nil))) pa_nil)) (by rfl))
(pss_cons (ps_for PassesOwn.never rfl (pi_range1 (by rfl) T.n_range (pa_cons (pe_op op_add pe_int (pe_call G_law_take (hr.mono (by decide)) (by rfl) T.m_law_take T.F_law_take.kp T.b_law_take .nil pass0 (pa_cons (pv 0) (pa_cons (pv 1) pa_nil)))) pa_nil)) (pg_name (i := 6) sc_law_kind.nd rfl (.inl rfl))
(pss_one (ps_expr (pe_bm PySem.F.plainAttrs_list PySem.F.slot_list_append PySem.F.type_list_append mt_append (pv 4) (pa_cons (pe_tup (pa_cons (pe_ix (ix_seqK K) (pv 5) (pv 6) (fun _ _ => rfl)) (pa_cons (pe_call G_law_one (hr.mono (by decide)) (by rfl) T.m_law_one T.F_law_one.kp T.b_law_one .nil pass0 (pa_cons (pv 0) (pa_cons (pe_lst (pa_cons pe_str (pa_cons pe_str (pa_cons pe_str pa_nil)))) pa_nil))) (pa_cons (pe_cmpR op_eq (pe_call G_law_take (hr.mono (by decide)) (by rfl) T.m_law_take T.F_law_take.kp T.b_law_take .nil pass0 (pa_cons (pv 0) (pa_cons pe_int pa_nil))) pe_int (nomark _)) pa_nil)))) pa_nil)))))
(pss_cons (ps_par (i := 7) (j := 8) (by rfl) sc_law_kind.nd rfl rfl (by decide) rfl rfl (pa_cons (pe_op op_add pe_int (pe_call G_law_take (hr.mono (by decide)) (by rfl) T.m_law_take T.F_law_take.kp T.b_law_take .nil pass0 (pa_cons (pv 0) (pa_cons (pv 3) pa_nil)))) (pa_cons (pe_lst pa_nil) pa_nil)) (by rfl))
(pss_cons (ps_for PassesOwn.never rfl (pi_sqK K (pe_slice (sl_listK K) (pe_lst (pa_cons pe_str (pa_cons pe_str (pa_cons pe_str (pa_cons pe_str (pa_cons pe_str pa_nil)))))) po_none (po_some (pe_op op_add pe_int (pe_call G_law_take (hr.mono (by decide)) (by rfl) T.m_law_take T.F_law_take.kp T.b_law_take .nil pass0 (pa_cons (pv 0) (pa_cons (pe_op op_sub (pv 2) pe_int) pa_nil))))))) (pg_name (i := 9) sc_law_kind.nd rfl (.inl rfl))
(pss_one (ps_expr (pe_bm PySem.F.plainAttrs_list PySem.F.slot_list_append PySem.F.type_list_append mt_append (pv 8) (pa_cons (pe_call G_law_call (hr.mono (by decide)) (by rfl) T.m_law_call T.F_law_call.kp T.b_law_call .nil pass0 (pa_cons (pv 0) (pa_cons (pv 9) (pa_cons (pe_call G_law_one (hr.mono (by decide)) (by rfl) T.m_law_one T.F_law_one.kp T.b_law_one .nil pass0 (pa_cons (pv 0) (pa_cons (pe_lst (pa_cons pe_str (pa_cons pe_str (pa_cons pe_str (pa_cons pe_str (pa_cons pe_str pa_nil)))))) pa_nil))) (pa_cons (pv 4) (pa_cons (pv 7) pa_nil)))))) pa_nil)))))
(pss_cons (ps_expr (pe_bm PySem.F.plainAttrs_list PySem.F.slot_list_append PySem.F.type_list_append mt_append (pv 8) (pa_cons (pe_call G_law_call (hr.mono (by decide)) (by rfl) T.m_law_call T.F_law_call.kp T.b_law_call .nil pass0 (pa_cons (pv 0) (pa_cons pe_str (pa_cons pe_str (pa_cons (pv 4) (pa_cons (pv 7) pa_nil)))))) pa_nil)))
(pss_one (ps_ret (pe_call G_law_plan (hr.mono (by decide)) (by rfl) T.m_law_plan T.F_law_plan.kp T.b_law_plan .nil pass0 (pa_cons (pv 4) (pa_cons (pv 8) (pa_cons (pv 7) pa_nil))))))))))), pure_ok0 (N := N_law_kind) (fun st => (ss_seq (ss_par (sa_cons (se_lst sa_nil) (sa_cons (se_call (sc_P0 ne_law_mix) (sa_cons (se_var 0) (sa_cons (se_lst (sa_cons se_str (sa_cons se_str (sa_cons se_str (sa_cons se_str (sa_cons se_str sa_nil)))))) sa_nil))) sa_nil)))
(ss_seq (ss_for (si_r1 (sa_cons (se_op so_add se_int (se_call (sc_P0 ne_law_take) (sa_cons (se_var 0) (sa_cons (se_var 1) sa_nil)))) sa_nil)) (sg_name 6)
(ss_drop (se_bm sm_append (se_var 4) (sa_cons (se_tup (sa_cons (se_op so_ix (se_var 5) (se_var 6)) (sa_cons (se_call (sc_P0 ne_law_one) (sa_cons (se_var 0) (sa_cons (se_lst (sa_cons se_str (sa_cons se_str (sa_cons se_str sa_nil)))) sa_nil))) (sa_cons (se_op so_eq (se_call (sc_P0 ne_law_take) (sa_cons (se_var 0) (sa_cons se_int sa_nil))) se_int) sa_nil)))) sa_nil))))
(ss_seq (ss_par (sa_cons (se_op so_add se_int (se_call (sc_P0 ne_law_take) (sa_cons (se_var 0) (sa_cons (se_var 3) sa_nil)))) (sa_cons (se_lst sa_nil) sa_nil)))
(ss_seq (ss_for (si_sq (se_sl ss_lst (se_lst (sa_cons se_str (sa_cons se_str (sa_cons se_str (sa_cons se_str (sa_cons se_str sa_nil)))))) sp_none (sp_some (se_op so_add se_int (se_call (sc_P0 ne_law_take) (sa_cons (se_var 0) (sa_cons (se_op so_sub (se_var 2) se_int) sa_nil))))))) (sg_name 9)
(ss_drop (se_bm sm_append (se_var 8) (sa_cons (se_call (sc_P0 ne_law_call) (sa_cons (se_var 0) (sa_cons (se_var 9) (sa_cons (se_call (sc_P0 ne_law_one) (sa_cons (se_var 0) (sa_cons (se_lst (sa_cons se_str (sa_cons se_str (sa_cons se_str (sa_cons se_str (sa_cons se_str sa_nil)))))) sa_nil))) (sa_cons (se_var 4) (sa_cons (se_var 7) sa_nil)))))) sa_nil))))
(ss_seq (ss_drop (se_bm sm_append (se_var 8) (sa_cons (se_call (sc_P0 ne_law_call) (sa_cons (se_var 0) (sa_cons se_str (sa_cons se_str (sa_cons (se_var 4) (sa_cons (se_var 7) sa_nil)))))) sa_nil)))
(ss_ret (se_call (sc_P0 ne_law_plan) (sa_cons (se_var 4) (sa_cons (se_var 8) (sa_cons (se_var 7) sa_nil))))))))))) h⟩
theorem ok_law_same (T : Tx w K mg A B) : ∀ n : Nat, FnOk P w K mg base CX0 (1 + n) B.f_law_same B.d_law_same ["_law_found", "_law_due"] (spP K (m_law_same A K n))
  | 0 => fn_bad
  | n + 1 => by
    show FnOk P w K mg base CX0 (1 + n + 1) B.f_law_same B.d_law_same ["_law_found", "_law_due"] (spP K (ms_law_same (m_law_same A K n) A K))
    have G_law_same := ok_law_same T n
    unfold ms_law_same
    refine T.F_law_same.ok sc_law_same (fun vs H Q E h => pure_len0 h) (fun cdv AA outer s H vs Q E hr h => ?_)
    exact ⟨_, (pss_cons (ps_if (pt_val (pe_callB (call_isiTK K) (by rfl) T.n_isinstance (by decide +kernel) (pa_cons (pv 1) (pa_cons (pe_tup (pa_cons (pe_bltn (v := .ty "list") (u := .type "list") (by rfl) T.n_list (by decide +kernel) rfl) (pa_cons (pe_bltn (v := .ty "tuple") (u := .type "tuple") (by rfl) T.n_tuple (by decide +kernel) rfl) pa_nil))) pa_nil))))
(pss_cons (ps_if (PW.pt (pw_or (pt_cmpR op_ne (pe_callB (call_isiKK K) (by rfl) T.n_isinstance (by decide +kernel) (pa_cons (pv 0) (pa_cons (pe_bltn (v := .ty "list") (u := .type "list") (by rfl) T.n_list (by decide +kernel) rfl) pa_nil))) (pe_callB (call_isiKK K) (by rfl) T.n_isinstance (by decide +kernel) (pa_cons (pv 1) (pa_cons (pe_bltn (v := .ty "list") (u := .type "list") (by rfl) T.n_list (by decide +kernel) rfl) pa_nil))) (nomark _)) (pw_or1 (pt_cmpR op_ne (pe_callB (call_isiKK K) (by rfl) T.n_isinstance (by decide +kernel) (pa_cons (pv 0) (pa_cons (pe_bltn (v := .ty "tuple") (u := .type "tuple") (by rfl) T.n_tuple (by decide +kernel) rfl) pa_nil))) (pe_callB (call_isiKK K) (by rfl) T.n_isinstance (by decide +kernel) (pa_cons (pv 1) (pa_cons (pe_bltn (v := .ty "tuple") (u := .type "tuple") (by rfl) T.n_tuple (by decide +kernel) rfl) pa_nil))) (nomark _)))))
(pss_one (ps_ret pe_bl))
pss_nil)
(pss_one (ps_ret (pe_and (pe_cmpR op_eq (pe_callB (call_lenAnyK K) (by rfl) T.n_len PySem.boot_len (pa_cons (pv 0) pa_nil)) (pe_callB (call_lenAnyK K) (by rfl) T.n_len PySem.boot_len (pa_cons (pv 1) pa_nil)) (nomark _)) (pe_one (pe_callB (cr_allK K rfl) (by rfl) T.n_all (by decide +kernel) (pa_cons (pe_lc (own := [("_law_a", 2), ("_law_b", 3)]) (g := (gTup K 2 (gCons (gName 2) (gCons (gName 3) gNil)))) (by rfl) sc_law_same.nd (RZ.pi_zipA (by rfl) T.n_zip (pa_cons (pv 0) (pa_cons (pv 1) pa_nil))) (blkOk_by (own := [("_law_a", 2), ("_law_b", 3)]) (N := N_law_same) (sc := defScope s_law_same) (by decide +kernel)) (fun _ _ _ _ _ => (pg_tup rfl (pgs_cons (pg_name (i := 2) sc_law_same.nd rfl (.inl rfl)) (pgs_cons (pg_name (i := 3) sc_law_same.nd rfl (.inl rfl)) pgs_nil)))) (fun _ _ _ _ _ => pts_nil) (fun _ _ _ _ _ => (pe_call G_law_same (hr.mono (by omega)) (by rfl) T.m_law_same T.F_law_same.kp T.b_law_same .nil pass0 (pa_cons (pv 2) (pa_cons (pv 3) pa_nil))))) pa_nil)))))))
pss_nil)
(pss_cons (ps_if (pt_val (pe_callB (call_isiKK K) (by rfl) T.n_isinstance (by decide +kernel) (pa_cons (pv 1) (pa_cons (pe_bltn (v := .ty "int") (u := .type "int") (by rfl) T.n_int (by decide +kernel) rfl) pa_nil))))
(pss_one (ps_ret (pe_and (pe_callB (call_isiKK K) (by rfl) T.n_isinstance (by decide +kernel) (pa_cons (pv 0) (pa_cons (pe_bltn (v := .ty "int") (u := .type "int") (by rfl) T.n_int (by decide +kernel) rfl) pa_nil))) (pe_and (pe_cmpR op_eq (pe_callB (call_isiKK K) (by rfl) T.n_isinstance (by decide +kernel) (pa_cons (pv 0) (pa_cons (pe_bltn (v := .ty "bool") (u := .type "bool") (by rfl) T.n_bool (by decide +kernel) rfl) pa_nil))) (pe_callB (call_isiKK K) (by rfl) T.n_isinstance (by decide +kernel) (pa_cons (pv 1) (pa_cons (pe_bltn (v := .ty "bool") (u := .type "bool") (by rfl) T.n_bool (by decide +kernel) rfl) pa_nil))) (nomark _)) (pe_one (pe_cmpR (op_eqDK K hr.units) (pv 0) (pv 1) (nomark _)))))))
pss_nil)
(pss_one (ps_ret (pe_and (pe_cmpR op_isBl (pe_callB (call_isiTK K) (by rfl) T.n_isinstance (by decide +kernel) (pa_cons (pv 0) (pa_cons (pe_tup (pa_cons (pe_bltn (v := .ty "bool") (u := .type "bool") (by rfl) T.n_bool (by decide +kernel) rfl) (pa_cons (pe_bltn (v := .ty "int") (u := .type "int") (by rfl) T.n_int (by decide +kernel) rfl) (pa_cons (pe_bltn (v := .ty "list") (u := .type "list") (by rfl) T.n_list (by decide +kernel) rfl) (pa_cons (pe_bltn (v := .ty "tuple") (u := .type "tuple") (by rfl) T.n_tuple (by decide +kernel) rfl) pa_nil))))) pa_nil))) pe_bl (nomark _)) (pe_one (pe_cmpR (op_eqDK K hr.units) (pv 0) (pv 1) (nomark _)))))))), pure_ok0 (N := N_law_same) (fun st => (ss_seq (ss_if (st_val (se_isT (se_var 1) (sa_cons se_ty (sa_cons se_ty sa_nil))))
(ss_seq (ss_if (st_or (st_test (se_op so_ne (se_cb so_isi (sa_cons (se_var 0) (sa_cons se_ty sa_nil))) (se_cb so_isi (sa_cons (se_var 1) (sa_cons se_ty sa_nil))))) (st_test (se_op so_ne (se_cb so_isi (sa_cons (se_var 0) (sa_cons se_ty sa_nil))) (se_cb so_isi (sa_cons (se_var 1) (sa_cons se_ty sa_nil))))))
(ss_ret se_bl)
ss_next)
(ss_ret (se_andV (se_op so_eq (se_cb so_len (sa_cons (se_var 0) sa_nil)) (se_cb so_len (sa_cons (se_var 1) sa_nil))) (se_cb so_all (sa_cons (se_lc (si_zip (sa_cons (se_var 0) (sa_cons (se_var 1) sa_nil))) (sw_tup (sw_cons (vs := [2, 3]) (by decide) (sw_cons (vs := [2, 3]) (by decide) sw_nil))) st_yes (se_call (sc_P0 (ne_law_same _)) (sa_cons (se_var 2) (sa_cons (se_var 3) sa_nil)))) sa_nil)))))
ss_next)
(ss_seq (ss_if (st_val (se_cb so_isi (sa_cons (se_var 1) (sa_cons se_ty sa_nil))))
(ss_ret (se_andV (se_cb so_isi (sa_cons (se_var 0) (sa_cons se_ty sa_nil))) (se_andV (se_op so_eq (se_cb so_isi (sa_cons (se_var 0) (sa_cons se_ty sa_nil))) (se_cb so_isi (sa_cons (se_var 1) (sa_cons se_ty sa_nil)))) (se_op so_eqD (se_var 0) (se_var 1)))))
ss_next)
(ss_ret (se_andV (se_op so_isB (se_isT (se_var 0) (sa_cons se_ty (sa_cons se_ty (sa_cons se_ty (sa_cons se_ty sa_nil))))) se_bl) (se_op so_eqD (se_var 0) (se_var 1))))))) h⟩
theorem ok_does_take (T : Tx w K mg A B) : FnOk P w K mg base CX0 1 B.f_does_take B.d_does_take ["row"] (spP K (m_does_take A K)) := by
  unfold m_does_take
  refine T.F_does_take.ok sc_does_take (fun vs H Q E h => pure_len0 h) (fun cdv AA outer s H vs Q E hr h => ?_)
  exact ⟨_, (pss_one (ps_ret (pe_callB (cr_anyK K rfl) (by rfl) T.n_any (by decide +kernel) (pa_cons (pe_lc (own := [("deed", 1), ("field", 2)]) (g := (gTup K 2 (gCons (gName 1) (gCons (gName 2) gNil)))) (by rfl) sc_does_take.nd (pi_sqK K (pe_ix (ix_seqK K) (pv 0) pe_int (fun _ _ => rfl))) (blkOk_by (own := [("deed", 1), ("field", 2)]) (N := N_does_take) (sc := defScope s_does_take) (by decide +kernel)) (fun _ _ _ _ _ => (pg_tup rfl (pgs_cons (pg_name (i := 1) sc_does_take.nd rfl (.inl rfl)) (pgs_cons (pg_name (i := 2) sc_does_take.nd rfl (.inl rfl)) pgs_nil)))) (fun _ _ _ _ _ => pts_nil) (fun _ _ _ _ _ => (pe_cmpR (op_in_seqK K) (pv 1) (pe_glob (v := .ref A.TAKING) (by rfl) T.g_TAKING rfl) (by rfl)))) pa_nil)))), pure_ok0 (N := N_does_take) (fun st => (ss_ret (se_cb so_any (sa_cons (se_lc (si_sq (se_op so_ix (se_var 0) se_int)) (sw_tup (sw_cons (vs := [1, 2]) (by decide) (sw_cons (vs := [1, 2]) (by decide) sw_nil))) st_yes (se_op so_in (se_var 1) (se_c (T.w_TAKING st)))) sa_nil)))) h⟩
theorem ok_Kind___contains__ (T : Tx w K mg A B) : FnOk P w K mg base CX0 1 B.f_Kind___contains__ B.d_Kind___contains__ ["self", "x"] (spP K (m_Kind___contains__ A K)) := by
  unfold m_Kind___contains__
  refine T.F_Kind___contains__.ok sc_Kind___contains__ (fun vs H Q E h => pure_len0 h) (fun cdv AA outer s H vs Q E hr h => ?_)
  exact ⟨_, (pss_one (ps_ret (pe_and (pe_callB (call_isiKK K) (by rfl) T.n_isinstance (by decide +kernel) (pa_cons (pv 1) (pa_cons (pe_bltn (v := .ty "str") (u := .type "str") (by rfl) T.n_str (by decide +kernel) rfl) pa_nil))) (pe_one (pe_cmpR (op_in_seqK K) (pv 1) (pe_fldK K (pv 0) rfl) (by rfl)))))), pure_ok0 (N := N_Kind___contains__) (fun st => (ss_ret (se_andV (se_cb so_isi (sa_cons (se_var 1) (sa_cons se_ty sa_nil))) (se_op so_in (se_var 1) (se_fld T.cl_Kind T.na_Kind_name_list (se_var 0)))))) h⟩
theorem ok_Kind___getitem__ (T : Tx w K mg A B) : FnOk P w K mg base CX0 1 B.f_Kind___getitem__ B.d_Kind___getitem__ ["self", "at"] (spP K (m_Kind___getitem__ A K)) := by
  unfold m_Kind___getitem__
  refine T.F_Kind___getitem__.ok sc_Kind___getitem__ (fun vs H Q E h => pure_len0 h) (fun cdv AA outer s H vs Q E hr h => ?_)
  exact ⟨_, (pss_cons (ps_for PassesOwn.never rfl (pi_sqK K (pe_fldK K (pv 0) rfl)) (pg_name (i := 2) sc_Kind___getitem__.nd rfl (.inl rfl))
(pss_one (ps_if (PW.pt (pw_and (pt_val (pe_callB (call_isiKK K) (by rfl) T.n_isinstance (by decide +kernel) (pa_cons (pv 1) (pa_cons (pe_bltn (v := .ty "str") (u := .type "str") (by rfl) T.n_str (by decide +kernel) rfl) pa_nil)))) (pw_and1 (pt_cmpR op_eq (pe_ix (ix_seqK K) (pv 2) pe_int (fun _ _ => rfl)) (pv 1) (nomark _)))))
(pss_one (ps_ret (pe_tup (pa_cons (pe_ix (ix_seqK K) (pv 2) pe_int (fun _ _ => rfl)) (pa_cons (pe_ix (ix_seqK K) (pv 2) pe_int (fun _ _ => rfl)) (pa_cons (pe_callTy (call_list_ofK K) (by rfl) T.n_list (by decide +kernel) (pa_cons (pe_ix (ix_seqK K) (pv 2) pe_int (fun _ _ => rfl)) pa_nil)) (pa_cons (pe_callTy (call_list_ofK K) (by rfl) T.n_list (by decide +kernel) (pa_cons (pe_ix (ix_seqK K) (pv 2) pe_int (fun _ _ => rfl)) pa_nil)) (pa_cons (pe_callTy (call_list_ofK K) (by rfl) T.n_list (by decide +kernel) (pa_cons (pe_ix (ix_seqK K) (pv 2) pe_int (fun _ _ => rfl)) pa_nil)) pa_nil))))))))
pss_nil)))
(pss_one ps_never)), pure_ok0 (N := N_Kind___getitem__) (fun st => (ss_seq (ss_for (si_sq (se_fld T.cl_Kind T.na_Kind_call_rows (se_var 0))) (sg_name 2)
(ss_if (st_and (st_val (se_cb so_isi (sa_cons (se_var 1) (sa_cons se_ty sa_nil)))) (st_test (se_op so_eq (se_op so_ix (se_var 2) se_int) (se_var 1))))
(ss_ret (se_tup (sa_cons (se_op so_ix (se_var 2) se_int) (sa_cons (se_op so_ix (se_var 2) se_int) (sa_cons (se_cb so_list (sa_cons (se_op so_ix (se_var 2) se_int) sa_nil)) (sa_cons (se_cb so_list (sa_cons (se_op so_ix (se_var 2) se_int) sa_nil)) (sa_cons (se_cb so_list (sa_cons (se_op so_ix (se_var 2) se_int) sa_nil)) sa_nil)))))))
ss_next))
ss_never)) h⟩
theorem ok_Kind_number_of (T : Tx w K mg A B) : FnOk P w K mg base CX0 1 B.f_Kind_number_of B.d_Kind_number_of ["self", "name"] (spP K (m_Kind_number_of A K)) := by
  unfold m_Kind_number_of
  refine T.F_Kind_number_of.ok sc_Kind_number_of (fun vs H Q E h => pure_len0 h) (fun cdv AA outer s H vs Q E hr h => ?_)
  exact ⟨_, (pss_cons (ps_if (PW.pt (pw_or (pt_not (pt_val (pe_callB (call_isiKK K) (by rfl) T.n_isinstance (by decide +kernel) (pa_cons (pv 1) (pa_cons (pe_bltn (v := .ty "str") (u := .type "str") (by rfl) T.n_str (by decide +kernel) rfl) pa_nil))))) (pw_or1 (pt_cmpR (op_notIn_seqK K) (pv 1) (pe_fldK K (pv 0) rfl) (by rfl)))))
(pss_one ps_never)
pss_nil)
(pss_one (ps_ret (pe_bm PySem.F.plainAttrs_list PySem.F.slot_list_index PySem.F.type_list_index (mt_indexK K) (pe_fldK K (pv 0) rfl) (pa_cons (pv 1) pa_nil))))), pure_ok0 (N := N_Kind_number_of) (fun st => (ss_seq (ss_if (st_or (st_not (st_val (se_cb so_isi (sa_cons (se_var 1) (sa_cons se_ty sa_nil))))) (st_test (se_op so_in (se_var 1) (se_fld T.cl_Kind T.na_Kind_name_list (se_var 0)))))
ss_never
ss_next)
(ss_ret (se_bm sm_index (se_fld T.cl_Kind T.na_Kind_name_list (se_var 0)) (sa_cons (se_var 1) sa_nil))))) h⟩
theorem ok_Kind_takes (T : Tx w K mg A B) : FnOk P w K mg base CX0 2 B.f_Kind_takes B.d_Kind_takes ["self", "name"] (spP K (m_Kind_takes A K)) := by
  have G_does_take := ok_does_take (P := P) (base := base) T
  have G_Kind_number_of := ok_Kind_number_of (P := P) (base := base) T
  unfold m_Kind_takes
  refine T.F_Kind_takes.ok sc_Kind_takes (fun vs H Q E h => pure_len0 h) (fun cdv AA outer s H vs Q E hr h => ?_)
  exact ⟨_, (pss_one (ps_ret (pe_call G_does_take (hr.mono (by decide)) (by rfl) T.m_does_take T.F_does_take.kp T.b_does_take .nil pass0 (pa_cons (pe_ix (ix_seqK K) (pe_fldK K (pv 0) rfl) (pe_meth (pv 0) T.cl_Kind T.me_Kind_number_of G_Kind_number_of (hr.mono (by decide)) T.b_Kind_number_of .nil pass0 (pa_cons (pv 1) pa_nil)) (fun _ _ => rfl)) pa_nil)))), pure_ok0 (N := N_Kind_takes) (fun st => (ss_ret (se_call (sc_P0 ne_does_take) (sa_cons (se_op so_ix (se_fld T.cl_Kind T.na_Kind_call_rows (se_var 0)) (se_meth (sc_P0 ne_Kind_number_of) (se_var 0) (sa_cons (se_var 1) sa_nil))) sa_nil)))) h⟩
theorem ok_is_list_o (T : Tx w K mg A B) : FnOk P w K mg base CX0 1 B.f_is_list_o B.d_is_list_o ["thing"] (spO K (m_is_list_o A K)) := by
  unfold m_is_list_o
  refine T.F_is_list_o.ok sc_is_list_o (fun vs H Q E h => open_len0 h) (fun cdv AA outer s H vs Q E hr h => ?_)
  exact ⟨_, (pss_one (ps_ret (pe_callB (call_isiTK K) (by rfl) T.n_isinstance (by decide +kernel) (pa_cons (pv 0) (pa_cons (pe_tup (pa_cons (pe_bltn (v := .ty "list") (u := .type "list") (by rfl) T.n_list (by decide +kernel) rfl) (pa_cons (pe_bltn (v := .ty "tuple") (u := .type "tuple") (by rfl) T.n_tuple (by decide +kernel) rfl) pa_nil))) pa_nil))))), open_ok0 (N := N_is_list_o) (fun st => (ss_ret (se_isT (se_var 0) (sa_cons se_ty (sa_cons se_ty sa_nil))))) h⟩
theorem ok_is_last_row (T : Tx w K mg A B) : FnOk P w K mg base CX0 3 B.f_is_last_row B.d_is_last_row ["kind", "row"] (spP K (m_is_last_row A K)) := by
  have G_Kind___getitem__ := ok_Kind___getitem__ (P := P) (base := base) T
  unfold m_is_last_row
  refine T.F_is_last_row.ok sc_is_last_row (fun vs H Q E h => pure_len0 h) (fun cdv AA outer s H vs Q E hr h => ?_)
  exact ⟨_, (pss_one (ps_ret (pe_and (pe_cmpR op_gt (pe_callB (call_lenAnyK K) (by rfl) T.n_len PySem.boot_len (pa_cons (pv 1) pa_nil)) pe_int (nomark _)) (pe_one (pe_cmpR op_eq (pe_ix (ix_seqK K) (pe_ownIx G_Kind___getitem__ T.og_Kind T.b_Kind___getitem__ pass0 (hr.mono (by decide)) (pv 0) (pe_ix (ix_seqK K) (pv 1) pe_int (fun _ _ => rfl))) pe_int (fun _ _ => rfl)) pe_str (nomark _)))))), pure_ok0 (N := N_is_last_row) (fun st => (ss_ret (se_andV (se_op so_gt (se_cb so_len (sa_cons (se_var 1) sa_nil)) se_int) (se_op so_eq (se_op so_ix (se_op (so_ownIx (sc_P0 ne_Kind___getitem__)) (se_var 0) (se_op so_ix (se_var 1) se_int)) se_int) se_str)))) h⟩
theorem ok_is_call_row (T : Tx w K mg A B) : FnOk P w K mg base CX0 4 B.f_is_call_row B.d_is_call_row ["kind", "thing", "rows"] (spO K (m_is_call_row A K)) := by
  have G_is_between := ok_is_between (P := P) (base := base) T
  have G_is_list := ok_is_list (P := P) (base := base) T
  have G_is_word := ok_is_word (P := P) (base := base) T
  have G_Kind___contains__ := ok_Kind___contains__ (P := P) (base := base) T
  have G_Kind_takes := ok_Kind_takes (P := P) (base := base) T
  have G_is_last_row := ok_is_last_row (P := P) (base := base) T
  unfold m_is_call_row
  refine T.F_is_call_row.ok sc_is_call_row (fun vs H Q E h => open_len0 h) (fun cdv AA outer s H vs Q E hr h => ?_)
  exact ⟨_, (pss_cons (ps_if (PW.pt (pw_or (pt_not (pt_val (pe_call G_is_list (hr.mono (by decide)) (by rfl) T.m_is_list T.F_is_list.kp T.b_is_list .nil pass0 (pa_cons (pv 1) pa_nil)))) (pw_or (pt_cmpR op_lt (pe_callB (call_lenAnyK K) (by rfl) T.n_len PySem.boot_len (pa_cons (pv 1) pa_nil)) pe_int (nomark _)) (pw_or1 (pt_cmpR (op_ownNotIn G_Kind___contains__ T.on_Kind T.b_Kind___contains__ pass0 (hr.mono (by decide))) (pe_ix (ix_seqK K) (pv 1) pe_int (fun _ _ => rfl)) (pv 0) (by rfl))))))
(pss_one (ps_ret pe_bl))
pss_nil)
(pss_cons (ps_par (i := 3) (j := 4) (by rfl) sc_is_call_row.nd rfl rfl (by decide) rfl rfl (pa_cons (pe_ix (ix_seqK K) (pv 1) pe_int (fun _ _ => rfl)) (pa_cons (pe_ix (ix_seqK K) (pv 1) pe_int (fun _ _ => rfl)) pa_nil)) (by rfl))
(pss_cons (ps_if (PW.pt (pw_or (pt_not (pt_val (pe_call G_is_between (hr.mono (by decide)) (by rfl) T.m_is_between T.F_is_between.kp T.b_is_between .nil pass0 (pa_cons (pv 4) (pa_cons pe_int (pa_cons (pe_op op_sub (pe_callB (call_lenAnyK K) (by rfl) T.n_len PySem.boot_len (pa_cons (pv 2) pa_nil)) pe_int) pa_nil)))))) (pw_or1 (pt_val (pe_call G_is_last_row (hr.mono (by decide)) (by rfl) T.m_is_last_row T.F_is_last_row.kp T.b_is_last_row .nil pass0 (pa_cons (pv 0) (pa_cons (pe_ix (ix_seqK K) (pv 2) (pv 4) (fun _ _ => rfl)) pa_nil)))))))
(pss_one (ps_ret pe_bl))
pss_nil)
(pss_cons (ps_if (pt_val (pe_meth (pv 0) T.cl_Kind T.me_Kind_takes G_Kind_takes (hr.mono (by decide)) T.b_Kind_takes .nil pass0 (pa_cons (pv 3) pa_nil)))
(pss_one (ps_ret (pe_and (pe_cmpR op_eq (pe_callB (call_lenAnyK K) (by rfl) T.n_len PySem.boot_len (pa_cons (pv 1) pa_nil)) pe_int (nomark _)) (pe_one (pe_call G_is_word (hr.mono (by decide)) (by rfl) T.m_is_word T.F_is_word.kp T.b_is_word .nil pass0 (pa_cons (pe_ix (ix_seqK K) (pv 1) pe_int (fun _ _ => rfl)) pa_nil))))))
pss_nil)
(pss_one (ps_ret (pe_cmpR op_eq (pe_callB (call_lenAnyK K) (by rfl) T.n_len PySem.boot_len (pa_cons (pv 1) pa_nil)) pe_int (nomark _)))))))), open_ok0 (N := N_is_call_row) (fun st => (ss_seq (ss_if (st_or (st_not (st_val (se_call (sc_P0 ne_is_list) (sa_cons (se_var 1) sa_nil)))) (st_or (st_test (se_op so_lt (se_cb so_len (sa_cons (se_var 1) sa_nil)) se_int)) (st_test (se_op (so_ownIn (sc_P0 ne_Kind___contains__)) (se_op so_ix (se_var 1) se_int) (se_var 0)))))
(ss_ret se_bl)
ss_next)
(ss_seq (ss_par (sa_cons (se_op so_ix (se_var 1) se_int) (sa_cons (se_op so_ix (se_var 1) se_int) sa_nil)))
(ss_seq (ss_if (st_or (st_not (st_val (se_call (sc_P0 ne_is_between) (sa_cons (se_var 4) (sa_cons se_int (sa_cons (se_op so_sub (se_cb so_len (sa_cons (se_var 2) sa_nil)) se_int) sa_nil)))))) (st_val (se_call (sc_P0 ne_is_last_row) (sa_cons (se_var 0) (sa_cons (se_op so_ix (se_var 2) (se_var 4)) sa_nil)))))
(ss_ret se_bl)
ss_next)
(ss_seq (ss_if (st_val (se_meth (sc_P0 ne_Kind_takes) (se_var 0) (sa_cons (se_var 3) sa_nil)))
(ss_ret (se_andV (se_op so_eq (se_cb so_len (sa_cons (se_var 1) sa_nil)) se_int) (se_call (sc_P0 ne_is_word) (sa_cons (se_op so_ix (se_var 1) se_int) sa_nil))))
ss_next)
(ss_ret (se_op so_eq (se_cb so_len (sa_cons (se_var 1) sa_nil)) se_int))))))) h⟩
theorem ok_checked_rows (T : Tx w K mg A B) : FnOk P w K mg base CX0 5 B.f_checked_rows B.d_checked_rows ["kind", "things", "rows"] (spO K (m_checked_rows A K)) := by
  have G_is_row := ok_is_row (P := P) (base := base) T
  have G_is_list_o := ok_is_list_o (P := P) (base := base) T
  have G_is_call_row := ok_is_call_row (P := P) (base := base) T
  unfold m_checked_rows
  refine T.F_checked_rows.ok sc_checked_rows (fun vs H Q E h => open_len0 h) (fun cdv AA outer s H vs Q E hr h => ?_)
  exact ⟨_, (pss_cons (ps_if (pt_not (pt_val (pe_call G_is_list_o (hr.mono (by decide)) (by rfl) T.m_is_list_o T.F_is_list_o.kp T.b_is_list_o .nil pass0 (pa_cons (pv 1) pa_nil))))
(pss_one ps_never)
pss_nil)
(pss_cons (ps_set (i := 3) sc_checked_rows.nd rfl (.inl rfl) (pe_callTy (call_list_ofK K) (by rfl) T.n_list (by decide +kernel) (pa_cons (pv 2) pa_nil)))
(pss_cons (ps_for PassesOwn.never rfl (pi_sqK K (pv 1)) (pg_name (i := 4) sc_checked_rows.nd rfl (.inl rfl))
(pss_cons (ps_set (i := 5) sc_checked_rows.nd rfl (.inl rfl) (pe_and (pe_call G_is_row (hr.mono (by decide)) (by rfl) T.m_is_row T.F_is_row.kp T.b_is_row .nil pass0 (pa_cons (pv 4) (pa_cons pe_int pa_nil))) (pe_and (pe_callB (call_isiKK K) (by rfl) T.n_isinstance (by decide +kernel) (pa_cons (pe_ix (ix_seqK K) (pv 4) pe_int (fun _ _ => rfl)) (pa_cons (pe_bltn (v := .ty "str") (u := .type "str") (by rfl) T.n_str (by decide +kernel) rfl) pa_nil))) (pe_one (pe_cmpR op_eq (pe_ix (ix_seqK K) (pv 4) pe_int (fun _ _ => rfl)) pe_str (nomark _))))))
(pss_cons (ps_if (PW.pt (pw_and (pt_not (pt_val (pv 5))) (pw_and1 (pt_not (pt_val (pe_call G_is_call_row (hr.mono (by decide)) (by rfl) T.m_is_call_row T.F_is_call_row.kp T.b_is_call_row .nil pass0 (pa_cons (pv 0) (pa_cons (pv 4) (pa_cons (pv 3) pa_nil)))))))))
(pss_one ps_never)
pss_nil)
(pss_one (ps_expr (pe_bm PySem.F.plainAttrs_list PySem.F.slot_list_append PySem.F.type_list_append mt_append (pv 3) (pa_cons (pe_callTy (call_tuple_ofK K) (by rfl) T.n_tuple (by decide +kernel) (pa_cons (pv 4) pa_nil)) pa_nil)))))))
(pss_one (ps_ret (pv 3)))))), open_ok0 (N := N_checked_rows) (fun st => (ss_seq (ss_if (st_not (st_val (se_call (sc_O0 ne_is_list_o) (sa_cons (se_var 1) sa_nil))))
ss_never
ss_next)
(ss_seq (ss_asg (se_cb so_list (sa_cons (se_var 2) sa_nil)) (sg_name 3))
(ss_seq (ss_for (si_sq (se_var 1)) (sg_name 4)
(ss_seq (ss_asg (se_andV (se_call (sc_P0 ne_is_row) (sa_cons (se_var 4) (sa_cons se_int sa_nil))) (se_andV (se_cb so_isi (sa_cons (se_op so_ix (se_var 4) se_int) (sa_cons se_ty sa_nil))) (se_op so_eq (se_op so_ix (se_var 4) se_int) se_str))) (sg_name 5))
(ss_seq (ss_if (st_and (st_not (st_val (se_var 5))) (st_not (st_val (se_call (sc_O0 ne_is_call_row) (sa_cons (se_var 0) (sa_cons (se_var 4) (sa_cons (se_var 3) sa_nil)))))))
ss_never
ss_next)
(ss_drop (se_bm sm_append (se_var 3) (sa_cons (se_cb so_tuple (sa_cons (se_var 4) sa_nil)) sa_nil))))))
(ss_ret (se_var 3)))))) h⟩
theorem ok_Maker___init__ (T : Tx w K mg A B) : FnOk P w K mg base CX0 1 B.f_Maker___init__ B.d_Maker___init__ ["self", "mode", "slots"] (spO K (m_Maker___init__ A K)) := by
  unfold m_Maker___init__
  refine T.F_Maker___init__.ok sc_Maker___init__ (fun vs H Q E h => open_len0 h) (fun cdv AA outer s H vs Q E hr h => ?_)
  exact ⟨_, (pss_cons (ps_fld (pv 0) (pv 1) rfl)
(pss_one (ps_fld (pv 0) (pv 2) rfl))), open_ok0 (N := N_Maker___init__) (fun st => (ss_seq (ss_fld T.cl_Maker T.na_Maker_mode (se_var 0) (se_var 1))
(ss_fld T.cl_Maker T.na_Maker_slots (se_var 0) (se_var 2)))) h⟩
theorem ok_Store___init__ (T : Tx w K mg A B) : FnOk P w K mg base CX0 1 B.f_Store___init__ B.d_Store___init__ ["self", "kind"] (spO K (m_Store___init__ A K)) := by
  unfold m_Store___init__
  refine T.F_Store___init__.ok sc_Store___init__ (fun vs H Q E h => open_len0 h) (fun cdv AA outer s H vs Q E hr h => ?_)
  exact ⟨_, (pss_cons (ps_fld (pv 0) (pv 1) rfl)
(pss_one (ps_fld (pv 0) (pe_lst pa_nil) rfl))), open_ok0 (N := N_Store___init__) (fun st => (ss_seq (ss_fld T.cl_Store T.na_Store_kind (se_var 0) (se_var 1))
(ss_fld T.cl_Store T.na_Store_lists (se_var 0) (se_lst sa_nil)))) h⟩
theorem ok_Store_keep (T : Tx w K mg A B) : FnOk P w K mg base CX0 1 B.f_Store_keep B.d_Store_keep ["self", "words"] (spO K (m_Store_keep A K)) := by
  unfold m_Store_keep
  refine T.F_Store_keep.ok sc_Store_keep (fun vs H Q E h => open_len0 h) (fun cdv AA outer s H vs Q E hr h => ?_)
  exact ⟨_, (pss_cons (ps_expr (pe_bm PySem.F.plainAttrs_list PySem.F.slot_list_append PySem.F.type_list_append mt_append (pe_fldK K (pv 0) rfl) (pa_cons (pe_callTy (call_list_ofK K) (by rfl) T.n_list (by decide +kernel) (pa_cons (pv 1) pa_nil)) pa_nil)))
(pss_one (ps_ret (pe_op op_sub (pe_callB (call_lenAnyK K) (by rfl) T.n_len PySem.boot_len (pa_cons (pe_fldK K (pv 0) rfl) pa_nil)) pe_int)))), open_ok0 (N := N_Store_keep) (fun st => (ss_seq (ss_drop (se_bm sm_append (se_fld T.cl_Store T.na_Store_lists (se_var 0)) (sa_cons (se_cb so_list (sa_cons (se_var 1) sa_nil)) sa_nil)))
(ss_ret (se_op so_sub (se_cb so_len (sa_cons (se_fld T.cl_Store T.na_Store_lists (se_var 0)) sa_nil)) se_int)))) h⟩
theorem ok_Store_first_maker (T : Tx w K mg A B) : FnOk P w K mg base CX0 3 B.f_Store_first_maker B.d_Store_first_maker ["self"] (spO K (m_Store_first_maker A K)) := by
  have G_Maker___init__ := ok_Maker___init__ (P := P) (base := base) T
  have G_Store_keep := ok_Store_keep (P := P) (base := base) T
  unfold m_Store_first_maker
  refine T.F_Store_first_maker.ok sc_Store_first_maker (fun vs H Q E h => open_len0 h) (fun cdv AA outer s H vs Q E hr h => ?_)
  exact ⟨_, (pss_one (ps_ret (pe_make T.mk_Maker G_Maker___init__ (hr.mono (by decide)) (by rfl) T.g_Maker T.b_Maker___init__ .nil pass0 (pa_cons pe_int (pa_cons (pe_lc (own := [("field", 1)]) (g := (gName 1)) (by rfl) sc_Store_first_maker.nd (pi_sqK K (pe_fldK K (pe_fldK K (pv 0) rfl) rfl)) (blkOk_by (own := [("field", 1)]) (N := N_Store_first_maker) (sc := defScope s_Store_first_maker) (by decide +kernel)) (fun _ _ _ _ _ => (pg_name (i := 1) sc_Store_first_maker.nd rfl (.inl rfl))) (fun _ _ _ _ _ => pts_nil) (fun _ _ _ _ _ => (pe_ifExp (pt_cmpR op_eq (pe_ix (ix_seqK K) (pv 1) pe_int (fun _ _ => rfl)) pe_str (nomark _)) pe_non (pe_meth (pv 0) T.cl_Store T.me_Store_keep G_Store_keep (hr.mono (by decide)) T.b_Store_keep .nil pass0 (pa_cons (pe_lst pa_nil) pa_nil))))) pa_nil))))), open_ok0 (N := N_Store_first_maker) (fun st => (ss_ret (se_make (sc_O0 ne_Maker___init__) (sa_cons se_int (sa_cons (se_lc (si_sq (se_fld T.cl_Kind T.na_Kind_field_rows (se_fld T.cl_Store T.na_Store_kind (se_var 0)))) (sw_name (vs := [1]) 1 (by decide)) st_yes (se_if (st_test (se_op so_eq (se_op so_ix (se_var 1) se_int) se_str)) se_non (se_meth (sc_O0 ne_Store_keep) (se_var 0) (sa_cons (se_lst sa_nil) sa_nil)))) sa_nil))))) h⟩
theorem ok_Store_copy (T : Tx w K mg A B) : FnOk P w K mg base CX0 3 B.f_Store_copy B.d_Store_copy ["self", "maker", "mode", "same"] (spO K (m_Store_copy A K)) := by
  have G_Maker___init__ := ok_Maker___init__ (P := P) (base := base) T
  have G_Store_keep := ok_Store_keep (P := P) (base := base) T
  unfold m_Store_copy
  refine T.F_Store_copy.ok sc_Store_copy (fun vs H Q E h => open_len0 h) (fun cdv AA outer s H vs Q E hr h => ?_)
  exact ⟨_, (pss_cons (ps_set (i := 4) sc_Store_copy.nd rfl (.inl rfl) (pe_lst pa_nil))
(pss_cons (ps_for PassesOwn.never rfl (RZ.pi_zipA (by rfl) T.n_zip (pa_cons (pe_fldK K (pe_fldK K (pv 0) rfl) rfl) (pa_cons (pe_fldK K (pv 1) rfl) pa_nil))) (pg_tup rfl (pgs_cons (pg_name (i := 5) sc_Store_copy.nd rfl (.inl rfl)) (pgs_cons (pg_name (i := 6) sc_Store_copy.nd rfl (.inl rfl)) pgs_nil)))
(pss_one (ps_expr (pe_bm PySem.F.plainAttrs_list PySem.F.slot_list_append PySem.F.type_list_append mt_append (pv 4) (pa_cons (pe_ifExp (PW.pt (pw_or (pt_cmpR op_eq (pe_ix (ix_seqK K) (pv 5) pe_int (fun _ _ => rfl)) pe_str (nomark _)) (pw_or1 (pt_cmpR (op_in_seqK K) (pe_ix (ix_seqK K) (pv 5) pe_int (fun _ _ => rfl)) (pv 3) (by rfl))))) (pv 6) (pe_meth (pv 0) T.cl_Store T.me_Store_keep G_Store_keep (hr.mono (by decide)) T.b_Store_keep .nil pass0 (pa_cons (pe_ix (ix_seqK K) (pe_fldK K (pv 0) rfl) (pv 6) (fun _ _ => rfl)) pa_nil))) pa_nil)))))
(pss_one (ps_ret (pe_make T.mk_Maker G_Maker___init__ (hr.mono (by decide)) (by rfl) T.g_Maker T.b_Maker___init__ .nil pass0 (pa_cons (pv 2) (pa_cons (pv 4) pa_nil))))))), open_ok0 (N := N_Store_copy) (fun st => (ss_seq (ss_asg (se_lst sa_nil) (sg_name 4))
(ss_seq (ss_for (si_zip (sa_cons (se_fld T.cl_Kind T.na_Kind_field_rows (se_fld T.cl_Store T.na_Store_kind (se_var 0))) (sa_cons (se_fld T.cl_Maker T.na_Maker_slots (se_var 1)) sa_nil))) (sg_tup (sg_cons (sg_name 5) (sg_cons (sg_name 6) sg_nil)))
(ss_drop (se_bm sm_append (se_var 4) (sa_cons (se_if (st_or (st_test (se_op so_eq (se_op so_ix (se_var 5) se_int) se_str)) (st_test (se_op so_in (se_op so_ix (se_var 5) se_int) (se_var 3)))) (se_var 6) (se_meth (sc_O0 ne_Store_keep) (se_var 0) (sa_cons (se_op so_ix (se_fld T.cl_Store T.na_Store_lists (se_var 0)) (se_var 6)) sa_nil))) sa_nil))))
(ss_ret (se_make (sc_O0 ne_Maker___init__) (sa_cons (se_var 2) (sa_cons (se_var 4) sa_nil))))))) h⟩
theorem ok_Store_does (T : Tx w K mg A B) : FnOk P w K mg base CX0 2 B.f_Store_does B.d_Store_does ["self", "maker", "deeds", "word"] (spO K (m_Store_does A K)) := by
  have G_Store_keep := ok_Store_keep (P := P) (base := base) T
  unfold m_Store_does
  refine T.F_Store_does.ok sc_Store_does (fun vs H Q E h => open_len0 h) (fun cdv AA outer s H vs Q E hr h => ?_)
  exact ⟨_, (pss_cons (ps_setLc (i := 4) (own := [("field", 5)]) (g := (gName 5)) (by rfl) sc_Store_does.nd rfl rfl (sw_true rfl rfl rfl (by decide +kernel)) (pi_sqK K (pe_fldK K (pe_fldK K (pv 0) rfl) rfl)) (blkOk_by (own := [("field", 5)]) (N := N_Store_does) (sc := defScope s_Store_does) (by decide +kernel)) (fun _ _ _ _ _ => (pg_name (i := 5) sc_Store_does.nd rfl (.inl rfl))) (fun _ _ _ _ _ => pts_nil) (fun _ _ _ _ _ => (pe_ix (ix_seqK K) (pv 5) pe_int (fun _ _ => rfl))))
(pss_one (ps_for PassesOwn.never rfl (pi_sqK K (pv 2)) (pg_tup rfl (pgs_cons (pg_name (i := 6) sc_Store_does.nd rfl (.inl rfl)) (pgs_cons (pg_name (i := 7) sc_Store_does.nd rfl (.inl rfl)) pgs_nil)))
(pss_cons (ps_set (i := 8) sc_Store_does.nd rfl (.inl rfl) (pe_bm PySem.F.plainAttrs_list PySem.F.slot_list_index PySem.F.type_list_index (mt_indexK K) (pv 4) (pa_cons (pv 7) pa_nil)))
(pss_cons (ps_set (i := 9) sc_Store_does.nd rfl (.inl rfl) (pe_ix (ix_seqK K) (pe_fldK K (pv 1) rfl) (pv 8) (fun _ _ => rfl)))
(pss_one (ps_if (pt_cmpR op_eq (pv 6) pe_str (nomark _))
(pss_one (ps_asg (pv 3) (pg_sub (pe_fldK K (pv 1) rfl) (pv 8) set_list)))
(pss_one (ps_if (PW.pt (pw_and (pt_cmpR op_eq (pv 6) pe_str (nomark _)) (pw_and1 (pt_cmpR op_eq (pe_dget (hu_of hr) (pe_fldK K (pe_fldK K (pv 0) rfl) rfl) (pv 7) (fun _ _ => rfl)) pe_str (nomark _)))))
(pss_one (ps_asg pe_non (pg_sub (pe_fldK K (pv 1) rfl) (pv 8) set_list)))
(pss_one (ps_if (pt_cmpR op_eq (pv 6) pe_str (nomark _))
(pss_one (ps_asg (pe_lst pa_nil) (pg_sub (pe_fldK K (pv 0) rfl) (pv 9) set_list)))
(pss_one (ps_if (pt_cmpR op_eq (pv 6) pe_str (nomark _))
(pss_one (ps_expr (pe_bm PySem.F.plainAttrs_list PySem.F.slot_list_append PySem.F.type_list_append mt_append (pe_ix (ix_seqK K) (pe_fldK K (pv 0) rfl) (pv 9) (fun _ _ => rfl)) (pa_cons (pv 3) pa_nil))))
(pss_one (ps_if (pt_cmpR op_eq (pv 6) pe_str (nomark _))
(pss_one (ps_asg (pe_lc (own := [("one", 10)]) (g := (gName 10)) (by rfl) sc_Store_does.nd (pi_sqK K (pe_ix (ix_seqK K) (pe_fldK K (pv 0) rfl) (pv 9) (fun _ _ => rfl))) (blkOk_by (own := [("one", 10)]) (N := N_Store_does) (sc := defScope s_Store_does) (by decide +kernel)) (fun _ _ _ _ _ => (pg_name (i := 10) sc_Store_does.nd rfl (.inl rfl))) (fun _ _ _ _ _ => (pts_one (pt_cmpR op_ne (pv 10) (pv 3) (nomark _)))) (fun _ _ _ _ _ => (pv 10))) (pg_sub (pe_fldK K (pv 0) rfl) (pv 9) set_list)))
(pss_one (ps_asg (pe_meth (pv 0) T.cl_Store T.me_Store_keep G_Store_keep (hr.mono (by decide)) T.b_Store_keep .nil pass0 (pa_cons (pe_ix (ix_seqK K) (pe_fldK K (pv 0) rfl) (pv 9) (fun _ _ => rfl)) pa_nil)) (pg_sub (pe_fldK K (pv 1) rfl) (pv 8) set_list)))))))))))))))))), open_ok0 (N := N_Store_does) (fun st => (ss_seq (ss_asg (se_lc (si_sq (se_fld T.cl_Kind T.na_Kind_field_rows (se_fld T.cl_Store T.na_Store_kind (se_var 0)))) (sw_name (vs := [5]) 5 (by decide)) st_yes (se_op so_ix (se_var 5) se_int)) (sg_name 4))
(ss_for (si_sq (se_var 2)) (sg_tup (sg_cons (sg_name 6) (sg_cons (sg_name 7) sg_nil)))
(ss_seq (ss_asg (se_bm sm_index (se_var 4) (sa_cons (se_var 7) sa_nil)) (sg_name 8))
(ss_seq (ss_asg (se_op so_ix (se_fld T.cl_Maker T.na_Maker_slots (se_var 1)) (se_var 8)) (sg_name 9))
(ss_if (st_test (se_op so_eq (se_var 6) se_str))
(ss_asg (se_var 3) (sg_sub (se_fld T.cl_Maker T.na_Maker_slots (se_var 1)) (se_var 8)))
(ss_if (st_and (st_test (se_op so_eq (se_var 6) se_str)) (st_test (se_op so_eq (se_dget (se_fld T.cl_Kind T.na_Kind_sorts (se_fld T.cl_Store T.na_Store_kind (se_var 0))) (se_var 7)) se_str)))
(ss_asg se_non (sg_sub (se_fld T.cl_Maker T.na_Maker_slots (se_var 1)) (se_var 8)))
(ss_if (st_test (se_op so_eq (se_var 6) se_str))
(ss_asg (se_lst sa_nil) (sg_sub (se_fld T.cl_Store T.na_Store_lists (se_var 0)) (se_var 9)))
(ss_if (st_test (se_op so_eq (se_var 6) se_str))
(ss_drop (se_bm sm_append (se_op so_ix (se_fld T.cl_Store T.na_Store_lists (se_var 0)) (se_var 9)) (sa_cons (se_var 3) sa_nil)))
(ss_if (st_test (se_op so_eq (se_var 6) se_str))
(ss_asg (se_lc (si_sq (se_op so_ix (se_fld T.cl_Store T.na_Store_lists (se_var 0)) (se_var 9))) (sw_name (vs := [10]) 10 (by decide)) (st_test (se_op so_ne (se_var 10) (se_var 3))) (se_var 10)) (sg_sub (se_fld T.cl_Store T.na_Store_lists (se_var 0)) (se_var 9)))
(ss_asg (se_meth (sc_O0 ne_Store_keep) (se_var 0) (sa_cons (se_op so_ix (se_fld T.cl_Store T.na_Store_lists (se_var 0)) (se_var 9)) sa_nil)) (sg_sub (se_fld T.cl_Maker T.na_Maker_slots (se_var 1)) (se_var 8))))))))))))) h⟩
theorem ok_Store_told (T : Tx w K mg A B) : FnOk P w K mg base CX0 1 B.f_Store_told B.d_Store_told ["self", "maker"] (spO K (m_Store_told A K)) := by
  unfold m_Store_told
  refine T.F_Store_told.ok sc_Store_told (fun vs H Q E h => open_len0 h) (fun cdv AA outer s H vs Q E hr h => ?_)
  exact ⟨_, (pss_cons (ps_set (i := 2) sc_Store_told.nd rfl (.inl rfl) (pe_lst pa_nil))
(pss_cons (ps_for PassesOwn.never rfl (RZ.pi_zipA (by rfl) T.n_zip (pa_cons (pe_fldK K (pe_fldK K (pv 0) rfl) rfl) (pa_cons (pe_fldK K (pv 1) rfl) pa_nil))) (pg_tup rfl (pgs_cons (pg_name (i := 3) sc_Store_told.nd rfl (.inl rfl)) (pgs_cons (pg_name (i := 4) sc_Store_told.nd rfl (.inl rfl)) pgs_nil)))
(pss_one (ps_expr (pe_bm PySem.F.plainAttrs_list PySem.F.slot_list_append PySem.F.type_list_append mt_append (pv 2) (pa_cons (pe_ifExp (pt_cmpR op_eq (pe_ix (ix_seqK K) (pv 3) pe_int (fun _ _ => rfl)) pe_str (nomark _)) (pv 4) (pe_callTy (call_list_ofK K) (by rfl) T.n_list (by decide +kernel) (pa_cons (pe_ix (ix_seqK K) (pe_fldK K (pv 0) rfl) (pv 4) (fun _ _ => rfl)) pa_nil))) pa_nil)))))
(pss_one (ps_ret (pv 2))))), open_ok0 (N := N_Store_told) (fun st => (ss_seq (ss_asg (se_lst sa_nil) (sg_name 2))
(ss_seq (ss_for (si_zip (sa_cons (se_fld T.cl_Kind T.na_Kind_field_rows (se_fld T.cl_Store T.na_Store_kind (se_var 0))) (sa_cons (se_fld T.cl_Maker T.na_Maker_slots (se_var 1)) sa_nil))) (sg_tup (sg_cons (sg_name 3) (sg_cons (sg_name 4) sg_nil)))
(ss_drop (se_bm sm_append (se_var 2) (sa_cons (se_if (st_test (se_op so_eq (se_op so_ix (se_var 3) se_int) se_str)) (se_var 4) (se_cb so_list (sa_cons (se_op so_ix (se_fld T.cl_Store T.na_Store_lists (se_var 0)) (se_var 4)) sa_nil))) sa_nil))))
(ss_ret (se_var 2))))) h⟩
theorem ok_Run_do_row (T : Tx w K mg A B) : FnOk P w K mg base CX0 4 B.f_Run_do_row B.d_Run_do_row ["self", "number", "row"] (spO K (m_Run_do_row A K)) := by
  have G_Kind___getitem__ := ok_Kind___getitem__ (P := P) (base := base) T
  have G_Store_first_maker := ok_Store_first_maker (P := P) (base := base) T
  have G_Store_copy := ok_Store_copy (P := P) (base := base) T
  have G_Store_does := ok_Store_does (P := P) (base := base) T
  have G_Store_told := ok_Store_told (P := P) (base := base) T
  unfold m_Run_do_row
  refine T.F_Run_do_row.ok sc_Run_do_row (fun vs H Q E h => open_len0 h) (fun cdv AA outer s H vs Q E hr h => ?_)
  exact ⟨_, (pss_cons (ps_if (pt_cmpR op_eq (pe_callB (call_lenAnyK K) (by rfl) T.n_len PySem.boot_len (pa_cons (pv 2) pa_nil)) pe_int (nomark _))
(pss_one (ps_ret (pe_tup (pa_cons pe_str (pa_cons (pe_meth0 (pe_fldK K (pv 0) rfl) T.cl_Store T.me_Store_first_maker G_Store_first_maker (hr.mono (by decide)) T.b_Store_first_maker .nil pass0) pa_nil)))))
pss_nil)
(pss_cons (ps_asg (pe_ownIx G_Kind___getitem__ T.og_Kind T.b_Kind___getitem__ pass0 (hr.mono (by decide)) (pe_fldK K (pv 0) rfl) (pe_ix (ix_seqK K) (pv 2) pe_int (fun _ _ => rfl))) (pg_seq rfl (pgs_cons (pg_name (i := 3) sc_Run_do_row.nd rfl (.inl rfl)) (pgs_cons (pg_name (i := 4) sc_Run_do_row.nd rfl (.inl rfl)) (pgs_cons (pg_name (i := 5) sc_Run_do_row.nd rfl (.inl rfl)) (pgs_cons (pg_name (i := 6) sc_Run_do_row.nd rfl (.inl rfl)) (pgs_cons (pg_name (i := 7) sc_Run_do_row.nd rfl (.inl rfl)) pgs_nil)))))))
(pss_cons (ps_set (i := 8) sc_Run_do_row.nd rfl (.inl rfl) (pe_ix (ix_seqK K) (pe_fldK K (pv 0) rfl) (pe_ix (ix_seqK K) (pv 2) pe_int (fun _ _ => rfl)) (fun _ _ => rfl)))
(pss_cons (ps_if (PW.pt (pw_or (pt_cmpR op_isN (pv 8) pe_non (nomark _)) (pw_or1 (pt_cmpR op_eq (pe_ix (ix_seqK K) (pv 5) (pe_fldK K (pe_ix (ix_seqK K) (pv 8) pe_int (fun _ _ => rfl)) rfl) (fun _ _ => rfl)) (pe_un un_neg pe_int) (nomark _)))))
(pss_one (ps_ret pe_non))
pss_nil)
(pss_cons (ps_par (i := 9) (j := 10) (by rfl) sc_Run_do_row.nd rfl rfl (by decide) rfl rfl (pa_cons (pe_ix (ix_seqK K) (pv 8) pe_int (fun _ _ => rfl)) (pa_cons (pe_ifExp (pt_cmpR op_eq (pe_callB (call_lenAnyK K) (by rfl) T.n_len PySem.boot_len (pa_cons (pv 2) pa_nil)) pe_int (nomark _)) (pe_ix (ix_seqK K) (pv 2) pe_int (fun _ _ => rfl)) pe_non) pa_nil)) (by rfl))
(pss_cons (ps_if (pt_cmpR op_eq (pv 4) pe_str (nomark _))
(pss_cons (ps_set (i := 11) sc_Run_do_row.nd rfl (.inl rfl) (pe_meth (pe_fldK K (pv 0) rfl) T.cl_Store T.me_Store_copy G_Store_copy (hr.mono (by decide)) T.b_Store_copy .nil pass0 (pa_cons (pv 9) (pa_cons (pe_ix (ix_seqK K) (pv 5) (pe_fldK K (pv 9) rfl) (fun _ _ => rfl)) (pa_cons (pv 7) pa_nil)))))
(pss_cons (ps_expr (pe_meth (pe_fldK K (pv 0) rfl) T.cl_Store T.me_Store_does G_Store_does (hr.mono (by decide)) T.b_Store_does .nil pass0 (pa_cons (pv 11) (pa_cons (pv 6) (pa_cons (pv 10) pa_nil)))))
(pss_one (ps_ret (pe_tup (pa_cons pe_str (pa_cons (pv 11) pa_nil)))))))
pss_nil)
(pss_cons (ps_fld (pv 9) (pe_ix (ix_seqK K) (pv 5) (pe_fldK K (pv 9) rfl) (fun _ _ => rfl)) rfl)
(pss_cons (ps_expr (pe_meth (pe_fldK K (pv 0) rfl) T.cl_Store T.me_Store_does G_Store_does (hr.mono (by decide)) T.b_Store_does .nil pass0 (pa_cons (pv 9) (pa_cons (pv 6) (pa_cons (pv 10) pa_nil)))))
(pss_cons (ps_if (pt_cmpR op_eq (pv 4) pe_str (nomark _))
(pss_one (ps_ret (pv 8)))
pss_nil)
(pss_cons (ps_set (i := 12) sc_Run_do_row.nd rfl (.inl rfl) (pe_meth (pe_fldK K (pv 0) rfl) T.cl_Store T.me_Store_copy G_Store_copy (hr.mono (by decide)) T.b_Store_copy .nil pass0 (pa_cons (pv 9) (pa_cons pe_int (pa_cons (pv 7) pa_nil)))))
(pss_cons (ps_dput (hu_of hr) (pe_fldK K (pv 0) rfl) (pv 1) (pe_meth (pe_fldK K (pv 0) rfl) T.cl_Store T.me_Store_told G_Store_told (hr.mono (by decide)) T.b_Store_told .nil pass0 (pa_cons (pv 12) pa_nil)) rfl)
(pss_one (ps_ret (pe_tup (pa_cons pe_str (pa_cons (pv 12) pa_nil)))))))))))))))), open_ok0 (N := N_Run_do_row) (fun st => (ss_seq (ss_if (st_test (se_op so_eq (se_cb so_len (sa_cons (se_var 2) sa_nil)) se_int))
(ss_ret (se_tup (sa_cons se_str (sa_cons (se_meth (sc_O0 ne_Store_first_maker) (se_fld T.cl_Run T.na_Run_store (se_var 0)) sa_nil) sa_nil))))
ss_next)
(ss_seq (ss_asg (se_op (so_ownIx (sc_P0 ne_Kind___getitem__)) (se_fld T.cl_Run T.na_Run_kind (se_var 0)) (se_op so_ix (se_var 2) se_int)) (sg_seq (sg_cons (sg_name 3) (sg_cons (sg_name 4) (sg_cons (sg_name 5) (sg_cons (sg_name 6) (sg_cons (sg_name 7) sg_nil)))))))
(ss_seq (ss_asg (se_op so_ix (se_fld T.cl_Run T.na_Run_handed (se_var 0)) (se_op so_ix (se_var 2) se_int)) (sg_name 8))
(ss_seq (ss_if (st_or (st_test (se_op so_isN (se_var 8) se_non)) (st_test (se_op so_eq (se_op so_ix (se_var 5) (se_fld T.cl_Maker T.na_Maker_mode (se_op so_ix (se_var 8) se_int))) (se_neg se_int))))
(ss_ret se_non)
ss_next)
(ss_seq (ss_par (sa_cons (se_op so_ix (se_var 8) se_int) (sa_cons (se_if (st_test (se_op so_eq (se_cb so_len (sa_cons (se_var 2) sa_nil)) se_int)) (se_op so_ix (se_var 2) se_int) se_non) sa_nil)))
(ss_seq (ss_if (st_test (se_op so_eq (se_var 4) se_str))
(ss_seq (ss_asg (se_meth (sc_O0 ne_Store_copy) (se_fld T.cl_Run T.na_Run_store (se_var 0)) (sa_cons (se_var 9) (sa_cons (se_op so_ix (se_var 5) (se_fld T.cl_Maker T.na_Maker_mode (se_var 9))) (sa_cons (se_var 7) sa_nil)))) (sg_name 11))
(ss_seq (ss_drop (se_meth (sc_O0 ne_Store_does) (se_fld T.cl_Run T.na_Run_store (se_var 0)) (sa_cons (se_var 11) (sa_cons (se_var 6) (sa_cons (se_var 10) sa_nil)))))
(ss_ret (se_tup (sa_cons se_str (sa_cons (se_var 11) sa_nil))))))
ss_next)
(ss_seq (ss_fld T.cl_Maker T.na_Maker_mode (se_var 9) (se_op so_ix (se_var 5) (se_fld T.cl_Maker T.na_Maker_mode (se_var 9))))
(ss_seq (ss_drop (se_meth (sc_O0 ne_Store_does) (se_fld T.cl_Run T.na_Run_store (se_var 0)) (sa_cons (se_var 9) (sa_cons (se_var 6) (sa_cons (se_var 10) sa_nil)))))
(ss_seq (ss_if (st_test (se_op so_eq (se_var 4) se_str))
(ss_ret (se_var 8))
ss_next)
(ss_seq (ss_asg (se_meth (sc_O0 ne_Store_copy) (se_fld T.cl_Run T.na_Run_store (se_var 0)) (sa_cons (se_var 9) (sa_cons se_int (sa_cons (se_var 7) sa_nil)))) (sg_name 12))
(ss_seq (ss_dput (se_fld T.cl_Run T.na_Run_made_contents (se_var 0)) (se_var 1) (se_meth (sc_O0 ne_Store_told) (se_fld T.cl_Run T.na_Run_store (se_var 0)) (sa_cons (se_var 12) sa_nil)))
(ss_ret (se_tup (sa_cons se_str (sa_cons (se_var 12) sa_nil)))))))))))))))) h⟩
theorem ok_Run___init__ (T : Tx w K mg A B) : FnOk P w K mg base CX0 6 B.f_Run___init__ B.d_Run___init__ ["self", "kind", "rows"] (spO K (m_Run___init__ A K)) := by
  have G_checked_rows := ok_checked_rows (P := P) (base := base) T
  have G_Store___init__ := ok_Store___init__ (P := P) (base := base) T
  have G_Run_do_row := ok_Run_do_row (P := P) (base := base) T
  unfold m_Run___init__
  refine FunX.okN T.F_Run___init__ sc_Run___init__ (fun vs H Q E h => open_len0 h) (fun cdv AA outer s H vs Q E hr h => ?_)
  exact ⟨_, (pss_cons (ps_fld (pv 0) (pv 1) rfl)
(pss_cons (ps_fld (pv 0) (pe_call G_checked_rows (hr.mono (by decide)) (by rfl) T.m_checked_rows T.F_checked_rows.kp T.b_checked_rows .nil pass0 (pa_cons (pv 1) (pa_cons (pv 2) (pa_cons (pe_lst pa_nil) pa_nil)))) rfl)
(pss_cons (ps_fld (pv 0) (pe_make T.mk_Store G_Store___init__ (hr.mono (by decide)) (by rfl) T.g_Store T.b_Store___init__ .nil pass0 (pa_cons (pv 1) pa_nil)) rfl)
(pss_cons (ps_fld (pv 0) (pe_lst pa_nil) rfl)
(pss_cons (ps_fld (pv 0) pe_dnewK rfl)
(pss_one (ps_for PassesOwn.never rfl (pi_enSq (by rfl) T.n_enumerate (pa_cons (pe_fldK K (pv 0) rfl) pa_nil)) (pg_tup rfl (pgs_cons (pg_name (i := 3) sc_Run___init__.nd rfl (.inl rfl)) (pgs_cons (pg_name (i := 4) sc_Run___init__.nd rfl (.inl rfl)) pgs_nil)))
(pss_one (ps_expr (pe_bm PySem.F.plainAttrs_list PySem.F.slot_list_append PySem.F.type_list_append mt_append (pe_fldK K (pv 0) rfl) (pa_cons (pe_meth (pv 0) T.cl_Run T.me_Run_do_row G_Run_do_row (hr.mono (by decide)) T.b_Run_do_row .nil pass0 (pa_cons (pv 3) (pa_cons (pv 4) pa_nil))) pa_nil))))))))))), open_ok0 (N := N_Run___init__) (fun st => (ss_seq (ss_fld T.cl_Run T.na_Run_kind (se_var 0) (se_var 1))
(ss_seq (ss_fld T.cl_Run T.na_Run_row_list (se_var 0) (se_call (sc_O0 ne_checked_rows) (sa_cons (se_var 1) (sa_cons (se_var 2) (sa_cons (se_lst sa_nil) sa_nil)))))
(ss_seq (ss_fld T.cl_Run T.na_Run_store (se_var 0) (se_make (sc_O0 ne_Store___init__) (sa_cons (se_var 1) sa_nil)))
(ss_seq (ss_fld T.cl_Run T.na_Run_handed (se_var 0) (se_lst sa_nil))
(ss_seq (ss_fld T.cl_Run T.na_Run_made_contents (se_var 0) se_dnew)
(ss_for (si_en (sa_cons (se_fld T.cl_Run T.na_Run_row_list (se_var 0)) sa_nil)) (sg_tup (sg_cons (sg_name 3) (sg_cons (sg_name 4) sg_nil)))
(ss_drop (se_bm sm_append (se_fld T.cl_Run T.na_Run_handed (se_var 0)) (sa_cons (se_meth (sc_O0 ne_Run_do_row) (se_var 0) (sa_cons (se_var 3) (sa_cons (se_var 4) sa_nil))) sa_nil)))))))))) h⟩
theorem ok_Run_is_onward (T : Tx w K mg A B) : FnOk P w K mg base CX0 4 B.f_Run_is_onward B.d_Run_is_onward ["self"] (spO K (m_Run_is_onward A K)) := by
  have G_is_last_row := ok_is_last_row (P := P) (base := base) T
  unfold m_Run_is_onward
  refine T.F_Run_is_onward.ok sc_Run_is_onward (fun vs H Q E h => open_len0 h) (fun cdv AA outer s H vs Q E hr h => ?_)
  exact ⟨_, (pss_cons (ps_set (i := 1) sc_Run_is_onward.nd rfl (.inl rfl) pe_int)
(pss_cons (ps_for PassesOwn.never rfl (pi_enSq (by rfl) T.n_enumerate (pa_cons (pe_fldK K (pv 0) rfl) pa_nil)) (pg_tup rfl (pgs_cons (pg_name (i := 2) sc_Run_is_onward.nd rfl (.inl rfl)) (pgs_cons (pg_name (i := 3) sc_Run_is_onward.nd rfl (.inl rfl)) pgs_nil)))
(pss_cons (ps_if (PW.pt (pw_and (pt_cmpR op_gt (pe_callB (call_lenAnyK K) (by rfl) T.n_len PySem.boot_len (pa_cons (pv 3) pa_nil)) pe_int (nomark _)) (pw_and1 (pt_cmpR op_ne (pe_ix (ix_seqK K) (pv 3) pe_int (fun _ _ => rfl)) (pv 1) (nomark _)))))
(pss_one (ps_ret pe_bl))
pss_nil)
(pss_one (ps_if (pt_not (pt_val (pe_call G_is_last_row (hr.mono (by decide)) (by rfl) T.m_is_last_row T.F_is_last_row.kp T.b_is_last_row .nil pass0 (pa_cons (pe_fldK K (pv 0) rfl) (pa_cons (pv 3) pa_nil)))))
(pss_one (ps_set (i := 1) sc_Run_is_onward.nd rfl (.inl rfl) (pv 2)))
pss_nil))))
(pss_one (ps_ret pe_bl)))), open_ok0 (N := N_Run_is_onward) (fun st => (ss_seq (ss_asg se_int (sg_name 1))
(ss_seq (ss_for (si_en (sa_cons (se_fld T.cl_Run T.na_Run_row_list (se_var 0)) sa_nil)) (sg_tup (sg_cons (sg_name 2) (sg_cons (sg_name 3) sg_nil)))
(ss_seq (ss_if (st_and (st_test (se_op so_gt (se_cb so_len (sa_cons (se_var 3) sa_nil)) se_int)) (st_test (se_op so_ne (se_op so_ix (se_var 3) se_int) (se_var 1))))
(ss_ret se_bl)
ss_next)
(ss_if (st_not (st_val (se_call (sc_P0 ne_is_last_row) (sa_cons (se_fld T.cl_Run T.na_Run_kind (se_var 0)) (sa_cons (se_var 3) sa_nil)))))
(ss_asg (se_var 2) (sg_name 1))
ss_next)))
(ss_ret se_bl)))) h⟩
theorem ok_law_row_of (T : Tx w K mg A B) : FnOk P w K mg base CX0 1 B.f_law_row_of B.d_law_row_of ["_law_p", "_law_name"] (spP K (m_law_row_of A K)) := by
  unfold m_law_row_of
  refine T.F_law_row_of.ok sc_law_row_of (fun vs H Q E h => pure_len0 h) (fun cdv AA outer s H vs Q E hr h => ?_)
  exact ⟨_, (pss_one (ps_ret (pe_ix (ix_seqK K) (pe_lc (own := [("_law_x", 2)]) (g := (gName 2)) (by rfl) sc_law_row_of.nd (pi_sqK K (pe_dget (hu_of hr) (pv 0) pe_str (fun _ _ => rfl))) (blkOk_by (own := [("_law_x", 2)]) (N := N_law_row_of) (sc := defScope s_law_row_of) (by decide +kernel)) (fun _ _ _ _ _ => (pg_name (i := 2) sc_law_row_of.nd rfl (.inl rfl))) (fun _ _ _ _ _ => (pts_one (pt_cmpR op_eq (pe_ix (ix_seqK K) (pv 2) pe_int (fun _ _ => rfl)) (pv 1) (nomark _)))) (fun _ _ _ _ _ => (pv 2))) pe_int (fun _ _ => rfl)))), pure_ok0 (N := N_law_row_of) (fun st => (ss_ret (se_op so_ix (se_lc (si_sq (se_dget (se_var 0) se_str)) (sw_name (vs := [2]) 2 (by decide)) (st_test (se_op so_eq (se_op so_ix (se_var 2) se_int) (se_var 1))) (se_var 2)) se_int))) h⟩
theorem ok_law_takes (T : Tx w K mg A B) : FnOk P w K mg base CX0 1 B.f_law_takes B.d_law_takes ["_law_row"] (spP K (m_law_takes A K)) := by
  unfold m_law_takes
  refine T.F_law_takes.ok sc_law_takes (fun vs H Q E h => pure_len0 h) (fun cdv AA outer s H vs Q E hr h => ?_)
  exact ⟨_, (pss_one (ps_ret (pe_callB (cr_anyK K rfl) (by rfl) T.n_any (by decide +kernel) (pa_cons (pe_lc (own := [("_law_x", 1)]) (g := (gName 1)) (by rfl) sc_law_takes.nd (pi_sqK K (pe_ix (ix_seqK K) (pv 0) pe_int (fun _ _ => rfl))) (blkOk_by (own := [("_law_x", 1)]) (N := N_law_takes) (sc := defScope s_law_takes) (by decide +kernel)) (fun _ _ _ _ _ => (pg_name (i := 1) sc_law_takes.nd rfl (.inl rfl))) (fun _ _ _ _ _ => pts_nil) (fun _ _ _ _ _ => (pe_cmpR (op_in_seqK K) (pe_ix (ix_seqK K) (pv 1) pe_int (fun _ _ => rfl)) (pe_tup (pa_cons pe_str (pa_cons pe_str (pa_cons pe_str pa_nil)))) (by rfl)))) pa_nil)))), pure_ok0 (N := N_law_takes) (fun st => (ss_ret (se_cb so_any (sa_cons (se_lc (si_sq (se_op so_ix (se_var 0) se_int)) (sw_name (vs := [1]) 1 (by decide)) st_yes (se_op so_in (se_op so_ix (se_var 1) se_int) (se_tup (sa_cons se_str (sa_cons se_str (sa_cons se_str sa_nil)))))) sa_nil)))) h⟩
theorem ok_law_callable (T : Tx w K mg A B) : FnOk P w K mg base CX0 2 B.f_law_callable B.d_law_callable ["_law_p", "_law_rows"] (spP K (m_law_callable A K)) := by
  have G_law_row_of := ok_law_row_of (P := P) (base := base) T
  unfold m_law_callable
  refine T.F_law_callable.ok sc_law_callable (fun vs H Q E h => pure_len0 h) (fun cdv AA outer s H vs Q E hr h => ?_)
  exact ⟨_, (pss_one (ps_ret (pe_lc (own := [("_law_k", 2), ("_law_x", 3)]) (g := (gTup K 2 (gCons (gName 2) (gCons (gName 3) gNil)))) (by rfl) sc_law_callable.nd (pi_enSq (by rfl) T.n_enumerate (pa_cons (pv 1) pa_nil)) (blkOk_by (own := [("_law_k", 2), ("_law_x", 3)]) (N := N_law_callable) (sc := defScope s_law_callable) (by decide +kernel)) (fun _ _ _ _ _ => (pg_tup rfl (pgs_cons (pg_name (i := 2) sc_law_callable.nd rfl (.inl rfl)) (pgs_cons (pg_name (i := 3) sc_law_callable.nd rfl (.inl rfl)) pgs_nil)))) (fun _ _ _ _ _ => (pts_one (PW.pt (pw_or (pt_cmpR (op_eqDK K hr.units) (pv 3) (pe_tup (pa_cons pe_str pa_nil)) (nomark _)) (pw_or1 (pt_cmpR op_ne (pe_ix (ix_seqK K) (pe_call G_law_row_of (hr.mono (by decide)) (by rfl) T.m_law_row_of T.F_law_row_of.kp T.b_law_row_of .nil pass0 (pa_cons (pv 0) (pa_cons (pe_ix (ix_seqK K) (pv 3) pe_int (fun _ _ => rfl)) pa_nil))) pe_int (fun _ _ => rfl)) pe_str (nomark _))))))) (fun _ _ _ _ _ => (pv 2))))), pure_ok0 (N := N_law_callable) (fun st => (ss_ret (se_lc (si_en (sa_cons (se_var 1) sa_nil)) (sw_tup (sw_cons (vs := [2, 3]) (by decide) (sw_cons (vs := [2, 3]) (by decide) sw_nil))) (st_or (st_test (se_op so_eqD (se_var 3) (se_tup (sa_cons se_str sa_nil)))) (st_test (se_op so_ne (se_op so_ix (se_call (sc_P0 ne_law_row_of) (sa_cons (se_var 0) (sa_cons (se_op so_ix (se_var 3) se_int) sa_nil))) se_int) se_str))) (se_var 2)))) h⟩
theorem ok_law_callable_o (T : Tx w K mg A B) : FnOk P w K mg base CX0 2 B.f_law_callable_o B.d_law_callable_o ["_law_p", "_law_rows"] (spO K (m_law_callable_o A K)) := by
  have G_law_row_of := ok_law_row_of (P := P) (base := base) T
  unfold m_law_callable_o
  refine T.F_law_callable_o.ok sc_law_callable_o (fun vs H Q E h => open_len0 h) (fun cdv AA outer s H vs Q E hr h => ?_)
  exact ⟨_, (pss_one (ps_ret (pe_lc (own := [("_law_k", 2), ("_law_x", 3)]) (g := (gTup K 2 (gCons (gName 2) (gCons (gName 3) gNil)))) (by rfl) sc_law_callable_o.nd (pi_enSq (by rfl) T.n_enumerate (pa_cons (pv 1) pa_nil)) (blkOk_by (own := [("_law_k", 2), ("_law_x", 3)]) (N := N_law_callable_o) (sc := defScope s_law_callable_o) (by decide +kernel)) (fun _ _ _ _ _ => (pg_tup rfl (pgs_cons (pg_name (i := 2) sc_law_callable_o.nd rfl (.inl rfl)) (pgs_cons (pg_name (i := 3) sc_law_callable_o.nd rfl (.inl rfl)) pgs_nil)))) (fun _ _ _ _ _ => (pts_one (PW.pt (pw_or (pt_cmpR (op_eqDK K hr.units) (pv 3) (pe_tup (pa_cons pe_str pa_nil)) (nomark _)) (pw_or1 (pt_cmpR op_ne (pe_ix (ix_seqK K) (pe_call G_law_row_of (hr.mono (by decide)) (by rfl) T.m_law_row_of T.F_law_row_of.kp T.b_law_row_of .nil pass0 (pa_cons (pv 0) (pa_cons (pe_ix (ix_seqK K) (pv 3) pe_int (fun _ _ => rfl)) pa_nil))) pe_int (fun _ _ => rfl)) pe_str (nomark _))))))) (fun _ _ _ _ _ => (pv 2))))), open_ok0 (N := N_law_callable_o) (fun st => (ss_ret (se_lc (si_en (sa_cons (se_var 1) sa_nil)) (sw_tup (sw_cons (vs := [2, 3]) (by decide) (sw_cons (vs := [2, 3]) (by decide) sw_nil))) (st_or (st_test (se_op so_eqD (se_var 3) (se_tup (sa_cons se_str sa_nil)))) (st_test (se_op so_ne (se_op so_ix (se_call (sc_P0 ne_law_row_of) (sa_cons (se_var 0) (sa_cons (se_op so_ix (se_var 3) se_int) sa_nil))) se_int) se_str))) (se_var 2)))) h⟩
theorem ok_law_program (T : Tx w K mg A B) : FnOk P w K mg base CX0 4 B.f_law_program B.d_law_program ["_law_state", "_law_p", "_law_many", "_law_words"] (spP K (m_law_program A K)) := by
  have G_law_take := ok_law_take (P := P) (base := base) T
  have G_law_one := ok_law_one (P := P) (base := base) T
  have G_law_takes := ok_law_takes (P := P) (base := base) T
  have G_law_callable_o := ok_law_callable_o (P := P) (base := base) T
  unfold m_law_program
  refine T.F_law_program.ok sc_law_program (fun vs H Q E h => pure_len0 h) (fun cdv AA outer s H vs Q E hr h => ?_)
  exact ⟨_, (pss_cons (ps_set (i := 4) sc_law_program.nd rfl (.inl rfl) (pe_lst (pa_cons (pe_tup (pa_cons pe_str pa_nil)) pa_nil)))
(pss_cons (ps_for PassesOwn.never rfl (pi_range1 (by rfl) T.n_range (pa_cons (pv 2) pa_nil)) (pg_name (i := 5) sc_law_program.nd rfl (.inl rfl))
(pss_cons (ps_set (i := 6) sc_law_program.nd rfl (.inl rfl) (pe_call G_law_one (hr.mono (by decide)) (by rfl) T.m_law_one T.F_law_one.kp T.b_law_one .nil pass0 (pa_cons (pv 0) (pa_cons (pe_dget (hu_of hr) (pv 1) pe_str (fun _ _ => rfl)) pa_nil))))
(pss_cons (ps_set (i := 7) sc_law_program.nd rfl (.inl rfl) (pe_tup (pa_cons (pe_ix (ix_seqK K) (pv 6) pe_int (fun _ _ => rfl)) (pa_cons (pe_call G_law_one (hr.mono (by decide)) (by rfl) T.m_law_one T.F_law_one.kp T.b_law_one .nil pass0 (pa_cons (pv 0) (pa_cons (pe_call G_law_callable_o (hr.mono (by decide)) (by rfl) T.m_law_callable_o T.F_law_callable_o.kp T.b_law_callable_o .nil pass0 (pa_cons (pv 1) (pa_cons (pv 4) pa_nil))) pa_nil))) pa_nil))))
(pss_cons (ps_if (pt_val (pe_call G_law_takes (hr.mono (by decide)) (by rfl) T.m_law_takes T.F_law_takes.kp T.b_law_takes .nil pass0 (pa_cons (pv 6) pa_nil)))
(pss_one (ps_set (i := 7) sc_law_program.nd rfl (.inl rfl) (pe_op (op_catAK K) (pv 7) (pe_tup (pa_cons (pe_call G_law_one (hr.mono (by decide)) (by rfl) T.m_law_one T.F_law_one.kp T.b_law_one .nil pass0 (pa_cons (pv 0) (pa_cons (pv 3) pa_nil))) pa_nil)))))
pss_nil)
(pss_one (ps_expr (pe_bm PySem.F.plainAttrs_list PySem.F.slot_list_append PySem.F.type_list_append mt_append (pv 4) (pa_cons (pe_ifExp (pt_cmpR op_eq (pe_call G_law_take (hr.mono (by decide)) (by rfl) T.m_law_take T.F_law_take.kp T.b_law_take .nil pass0 (pa_cons (pv 0) (pa_cons pe_int pa_nil))) pe_int (nomark _)) (pe_tup (pa_cons pe_str pa_nil)) (pv 7)) pa_nil))))))))
(pss_one (ps_ret (pv 4))))), pure_ok0 (N := N_law_program) (fun st => (ss_seq (ss_asg (se_lst (sa_cons (se_tup (sa_cons se_str sa_nil)) sa_nil)) (sg_name 4))
(ss_seq (ss_for (si_r1 (sa_cons (se_var 2) sa_nil)) (sg_name 5)
(ss_seq (ss_asg (se_call (sc_P0 ne_law_one) (sa_cons (se_var 0) (sa_cons (se_dget (se_var 1) se_str) sa_nil))) (sg_name 6))
(ss_seq (ss_asg (se_tup (sa_cons (se_op so_ix (se_var 6) se_int) (sa_cons (se_call (sc_P0 ne_law_one) (sa_cons (se_var 0) (sa_cons (se_call (sc_O0 ne_law_callable_o) (sa_cons (se_var 1) (sa_cons (se_var 4) sa_nil))) sa_nil))) sa_nil))) (sg_name 7))
(ss_seq (ss_if (st_val (se_call (sc_P0 ne_law_takes) (sa_cons (se_var 6) sa_nil)))
(ss_asg (se_op so_catT (se_var 7) (se_tup (sa_cons (se_call (sc_P0 ne_law_one) (sa_cons (se_var 0) (sa_cons (se_var 3) sa_nil))) sa_nil))) (sg_name 7))
ss_next)
(ss_drop (se_bm sm_append (se_var 4) (sa_cons (se_if (st_test (se_op so_eq (se_call (sc_P0 ne_law_take) (sa_cons (se_var 0) (sa_cons se_int sa_nil))) se_int)) (se_tup (sa_cons se_str sa_nil)) (se_var 7)) sa_nil)))))))
(ss_ret (se_var 4))))) h⟩
theorem ok_law_onward (T : Tx w K mg A B) : FnOk P w K mg base CX0 4 B.f_law_onward B.d_law_onward ["_law_state", "_law_p", "_law_many"] (spO K (m_law_onward A K)) := by
  have G_law_take := ok_law_take (P := P) (base := base) T
  have G_law_one := ok_law_one (P := P) (base := base) T
  have G_law_takes := ok_law_takes (P := P) (base := base) T
  unfold m_law_onward
  refine T.F_law_onward.ok sc_law_onward (fun vs H Q E h => open_len0 h) (fun cdv AA outer s H vs Q E hr h => ?_)
  exact ⟨_, (pss_cons (ps_par (i := 3) (j := 4) (by rfl) sc_law_onward.nd rfl rfl (by decide) rfl rfl (pa_cons (pe_lst (pa_cons (pe_tup (pa_cons pe_str pa_nil)) pa_nil)) (pa_cons pe_int pa_nil)) (by rfl))
(pss_cons (ps_for PassesOwn.never rfl (pi_range1 (by rfl) T.n_range (pa_cons (pv 2) pa_nil)) (pg_name (i := 5) sc_law_onward.nd rfl (.inl rfl))
(pss_cons (ps_set (i := 6) sc_law_onward.nd rfl (.inl rfl) (pe_call G_law_one (hr.mono (by decide)) (by rfl) T.m_law_one T.F_law_one.kp T.b_law_one .nil pass0 (pa_cons (pv 0) (pa_cons (pe_dget (hu_of hr) (pv 1) pe_str (fun _ _ => rfl)) pa_nil))))
(pss_cons (ps_set (i := 7) sc_law_onward.nd rfl (.inl rfl) (pe_op (op_catAK K) (pe_tup (pa_cons (pe_ix (ix_seqK K) (pv 6) pe_int (fun _ _ => rfl)) (pa_cons (pv 4) pa_nil))) (pe_ifExp (pt_val (pe_call G_law_takes (hr.mono (by decide)) (by rfl) T.m_law_takes T.F_law_takes.kp T.b_law_takes .nil pass0 (pa_cons (pv 6) pa_nil))) (pe_tup (pa_cons (pe_call G_law_one (hr.mono (by decide)) (by rfl) T.m_law_one T.F_law_one.kp T.b_law_one .nil pass0 (pa_cons (pv 0) (pa_cons (pe_lst (pa_cons pe_str (pa_cons pe_str pa_nil))) pa_nil))) pa_nil)) (pe_tup pa_nil))))
(pss_cons (ps_set (i := 7) sc_law_onward.nd rfl (.inl rfl) (pe_ifExp (pt_cmpR op_eq (pe_call G_law_take (hr.mono (by decide)) (by rfl) T.m_law_take T.F_law_take.kp T.b_law_take .nil pass0 (pa_cons (pv 0) (pa_cons pe_int pa_nil))) pe_int (nomark _)) (pe_tup (pa_cons pe_str pa_nil)) (pv 7)))
(pss_cons (ps_set (i := 4) sc_law_onward.nd rfl (.inl rfl) (pe_ifExp (PW.pt (pw_or (pt_cmpR (op_eqDK K hr.units) (pv 7) (pe_tup (pa_cons pe_str pa_nil)) (nomark _)) (pw_or1 (pt_cmpR op_ne (pe_ix (ix_seqK K) (pv 6) pe_int (fun _ _ => rfl)) pe_str (nomark _))))) (pe_callB (call_lenAnyK K) (by rfl) T.n_len PySem.boot_len (pa_cons (pv 3) pa_nil)) (pv 4)))
(pss_one (ps_expr (pe_bm PySem.F.plainAttrs_list PySem.F.slot_list_append PySem.F.type_list_append mt_append (pv 3) (pa_cons (pv 7) pa_nil)))))))))
(pss_one (ps_ret (pv 3))))), open_ok0 (N := N_law_onward) (fun st => (ss_seq (ss_par (sa_cons (se_lst (sa_cons (se_tup (sa_cons se_str sa_nil)) sa_nil)) (sa_cons se_int sa_nil)))
(ss_seq (ss_for (si_r1 (sa_cons (se_var 2) sa_nil)) (sg_name 5)
(ss_seq (ss_asg (se_call (sc_P0 ne_law_one) (sa_cons (se_var 0) (sa_cons (se_dget (se_var 1) se_str) sa_nil))) (sg_name 6))
(ss_seq (ss_asg (se_op so_catT (se_tup (sa_cons (se_op so_ix (se_var 6) se_int) (sa_cons (se_var 4) sa_nil))) (se_if (st_val (se_call (sc_P0 ne_law_takes) (sa_cons (se_var 6) sa_nil))) (se_tup (sa_cons (se_call (sc_P0 ne_law_one) (sa_cons (se_var 0) (sa_cons (se_lst (sa_cons se_str (sa_cons se_str sa_nil))) sa_nil))) sa_nil)) (se_tup sa_nil))) (sg_name 7))
(ss_seq (ss_asg (se_if (st_test (se_op so_eq (se_call (sc_P0 ne_law_take) (sa_cons (se_var 0) (sa_cons se_int sa_nil))) se_int)) (se_tup (sa_cons se_str sa_nil)) (se_var 7)) (sg_name 7))
(ss_seq (ss_asg (se_if (st_or (st_test (se_op so_eqD (se_var 7) (se_tup (sa_cons se_str sa_nil)))) (st_test (se_op so_ne (se_op so_ix (se_var 6) se_int) se_str))) (se_cb so_len (sa_cons (se_var 3) sa_nil)) (se_var 4)) (sg_name 4))
(ss_drop (se_bm sm_append (se_var 3) (sa_cons (se_var 7) sa_nil))))))))
(ss_ret (se_var 3))))) h⟩
theorem ok_law_is_onward (T : Tx w K mg A B) : FnOk P w K mg base CX0 3 B.f_law_is_onward B.d_law_is_onward ["_law_p", "_law_rows"] (spP K (m_law_is_onward A K)) := by
  have G_law_callable := ok_law_callable (P := P) (base := base) T
  unfold m_law_is_onward
  refine T.F_law_is_onward.ok sc_law_is_onward (fun vs H Q E h => pure_len0 h) (fun cdv AA outer s H vs Q E hr h => ?_)
  exact ⟨_, (pss_cons (ps_for PassesOwn.never rfl (pi_enSq (by rfl) T.n_enumerate (pa_cons (pv 1) pa_nil)) (pg_tup rfl (pgs_cons (pg_name (i := 2) sc_law_is_onward.nd rfl (.inl rfl)) (pgs_cons (pg_name (i := 3) sc_law_is_onward.nd rfl (.inl rfl)) pgs_nil)))
(pss_one (ps_if (PW.pt (pw_and (pt_cmpR (op_neDK K hr.units) (pv 3) (pe_tup (pa_cons pe_str pa_nil)) (nomark _)) (pw_and1 (pt_cmpR op_ne (pe_ix (ix_seqK K) (pv 3) pe_int (fun _ _ => rfl)) (pe_ix (ix_seqK K) (pe_call G_law_callable (hr.mono (by decide)) (by rfl) T.m_law_callable T.F_law_callable.kp T.b_law_callable .nil pass0 (pa_cons (pv 0) (pa_cons (pe_slice (sl_listK K) (pv 1) po_none (po_some (pv 2))) pa_nil))) (pe_un un_neg pe_int) (fun _ _ => rfl)) (nomark _)))))
(pss_one (ps_ret pe_bl))
pss_nil)))
(pss_one (ps_ret pe_bl))), pure_ok0 (N := N_law_is_onward) (fun st => (ss_seq (ss_for (si_en (sa_cons (se_var 1) sa_nil)) (sg_tup (sg_cons (sg_name 2) (sg_cons (sg_name 3) sg_nil)))
(ss_if (st_and (st_test (se_op so_neD (se_var 3) (se_tup (sa_cons se_str sa_nil)))) (st_test (se_op so_ne (se_op so_ix (se_var 3) se_int) (se_op so_ix (se_call (sc_P0 ne_law_callable) (sa_cons (se_var 0) (sa_cons (se_sl ss_lst (se_var 1) sp_none (sp_some (se_var 2))) sa_nil))) (se_neg se_int)))))
(ss_ret se_bl)
ss_next))
(ss_ret se_bl))) h⟩
end
end Mz
end
section
set_option Elab.async false
set_option linter.all false
set_option maxRecDepth 100000
set_option maxHeartbeats 4000000
namespace Mz
open PySem L2
section
variable {P : Program} {w : World} {K : PySem.W.Frag} {mg : Str → Option Value} {base : Heap} {A : Ad} {B : Bd}
theorem ok_law (T : Tx w K mg A B) : FnOk P w K mg base CX0 10 B.f_law B.d_law ["_law_script"] (spLaw K) := by
  have G_law_fresh := ok_law_fresh (P := P) (base := base) T
  have G_law_take := ok_law_take (P := P) (base := base) T
  have G_law_one := ok_law_one (P := P) (base := base) T
  have G_law_kind := ok_law_kind (P := P) (base := base) T
  have G_law_same := ok_law_same (P := P) (base := base) T 1
  have G_Run___init__ := ok_Run___init__ (P := P) (base := base) T
  have G_Run_is_onward := ok_Run_is_onward (P := P) (base := base) T
  have G_law_callable := ok_law_callable (P := P) (base := base) T
  have G_law_program := ok_law_program (P := P) (base := base) T
  have G_law_onward := ok_law_onward (P := P) (base := base) T
  have G_law_is_onward := ok_law_is_onward (P := P) (base := base) T
  refine T.F_law.ok sc_law (fun vs H Q E h => ?_) (fun cdv AA outer s H vs Q E hr h => ?_)
  · obtain ⟨a, ns, rfl, _⟩ := h; rfl
  · exact ⟨_, (pss_cons (ps_set (i := 1) sc_law.nd rfl (.inl rfl) (pe_call G_law_fresh (hr.mono (by decide)) (by rfl) T.m_law_fresh T.F_law_fresh.kp T.b_law_fresh .nil pass0 (pa_cons (pv 0) pa_nil)))
(pss_cons (ps_for PassesOwn.never rfl (pi_range1 (by rfl) T.n_range (pa_cons pe_int pa_nil)) (pg_name (i := 2) sc_law.nd rfl (.inl rfl))
(pss_cons (ps_set (i := 3) sc_law.nd rfl (.inl rfl) (pe_call G_law_kind (hr.mono (by decide)) (by rfl) T.m_law_kind T.F_law_kind.kp T.b_law_kind .nil pass0 (pa_cons (pv 1) (pa_cons pe_int (pa_cons pe_int (pa_cons pe_int pa_nil))))))
(pss_cons (ps_set (i := 4) sc_law.nd rfl (.inl rfl) (pe_call G_law_onward (hr.mono (by decide)) (by rfl) T.m_law_onward T.F_law_onward.kp T.b_law_onward .nil pass0 (pa_cons (pv 1) (pa_cons (pv 3) (pa_cons (pe_call G_law_one (hr.mono (by decide)) (by rfl) T.m_law_one T.F_law_one.kp T.b_law_one .nil pass0 (pa_cons (pv 1) (pa_cons (pe_lst (pa_cons pe_int (pa_cons pe_int (pa_cons pe_int (pa_cons pe_int pa_nil))))) pa_nil))) pa_nil)))))
(pss_cons (ps_if (pt_not (pt_val (pe_call G_law_same (hr.mono (by decide)) (by rfl) T.m_law_same T.F_law_same.kp T.b_law_same .nil pass0 (pa_cons (pe_meth0 (pe_make T.mk_Run G_Run___init__ (hr.mono (by decide)) (by rfl) T.g_Run T.b_Run___init__ .nil pass0 (pa_cons (pe_dget (hu_of hr) (pv 3) pe_str (fun _ _ => rfl)) (pa_cons (pv 4) pa_nil))) T.cl_Run T.me_Run_is_onward G_Run_is_onward (hr.mono (by decide)) T.b_Run_is_onward .nil pass0) (pa_cons pe_bl pa_nil)))))
(pss_one (ps_ret pe_bl))
pss_nil)
(pss_cons (ps_set (i := 5) sc_law.nd rfl (.inl rfl) (pe_call G_law_take (hr.mono (by decide)) (by rfl) T.m_law_take T.F_law_take.kp T.b_law_take .nil pass0 (pa_cons (pv 1) (pa_cons (pe_callB (call_lenAnyK K) (by rfl) T.n_len PySem.boot_len (pa_cons (pv 4) pa_nil)) pa_nil))))
(pss_cons (ps_set (i := 6) sc_law.nd rfl (.inl rfl) (pe_call G_law_callable (hr.mono (by decide)) (by rfl) T.m_law_callable T.F_law_callable.kp T.b_law_callable .nil pass0 (pa_cons (pv 3) (pa_cons (pe_slice (sl_listK K) (pv 4) po_none (po_some (pv 5))) pa_nil))))
(pss_cons (ps_if (PW.pt (pw_and (pt_cmpR op_gt (pv 5) pe_int (nomark _)) (pw_and1 (pt_cmpR (op_neDK K hr.units) (pe_ix (ix_seqK K) (pv 4) (pv 5) (fun _ _ => rfl)) (pe_tup (pa_cons pe_str pa_nil)) (nomark _)))))
(pss_one (ps_asg (pe_op (op_catAK K) (pe_tup (pa_cons (pe_ix (ix_seqK K) (pe_ix (ix_seqK K) (pv 4) (pv 5) (fun _ _ => rfl)) pe_int (fun _ _ => rfl)) (pa_cons (pe_call G_law_one (hr.mono (by decide)) (by rfl) T.m_law_one T.F_law_one.kp T.b_law_one .nil pass0 (pa_cons (pv 1) (pa_cons (pv 6) pa_nil))) pa_nil))) (pe_slice (sl_tupAK K) (pe_ix (ix_seqK K) (pv 4) (pv 5) (fun _ _ => rfl)) (po_some pe_int) po_none)) (pg_sub (pv 4) (pv 5) set_list)))
pss_nil)
(pss_cons (ps_set (i := 7) sc_law.nd rfl (.inl rfl) (pe_lst (pa_cons (pv 4) (pa_cons (pe_call G_law_program (hr.mono (by decide)) (by rfl) T.m_law_program T.F_law_program.kp T.b_law_program .nil pass0 (pa_cons (pv 1) (pa_cons (pv 3) (pa_cons (pe_call G_law_one (hr.mono (by decide)) (by rfl) T.m_law_one T.F_law_one.kp T.b_law_one .nil pass0 (pa_cons (pv 1) (pa_cons (pe_lst (pa_cons pe_int (pa_cons pe_int (pa_cons pe_int pa_nil)))) pa_nil))) (pa_cons (pe_lst (pa_cons pe_str (pa_cons pe_str pa_nil))) pa_nil))))) pa_nil))))
(pss_cons (ps_if (pt_cmpR op_notBl (pe_meth0 (pe_make (dvs := [.ref B.e_Run___init__]) T.mk_Run G_Run___init__ (hr.mono (by decide)) (by rfl) T.g_Run T.bd_Run___init__ (.cons rfl .nil) pass0 (pa_cons (pe_dget (hu_of hr) (pv 3) pe_str (fun _ _ => rfl)) pa_nil)) T.cl_Run T.me_Run_is_onward G_Run_is_onward (hr.mono (by decide)) T.b_Run_is_onward .nil pass0) pe_bl (nomark _))
(pss_one (ps_ret pe_bl))
pss_nil)
(pss_one (ps_for PassesOwn.never rfl (pi_sqK K (pv 7)) (pg_name (i := 8) sc_law.nd rfl (.inl rfl))
(pss_one (ps_if (pt_not (pt_val (pe_call G_law_same (hr.mono (by decide)) (by rfl) T.m_law_same T.F_law_same.kp T.b_law_same .nil pass0 (pa_cons (pe_meth0 (pe_make T.mk_Run G_Run___init__ (hr.mono (by decide)) (by rfl) T.g_Run T.b_Run___init__ .nil pass0 (pa_cons (pe_dget (hu_of hr) (pv 3) pe_str (fun _ _ => rfl)) (pa_cons (pv 8) pa_nil))) T.cl_Run T.me_Run_is_onward G_Run_is_onward (hr.mono (by decide)) T.b_Run_is_onward .nil pass0) (pa_cons (pe_call G_law_is_onward (hr.mono (by decide)) (by rfl) T.m_law_is_onward T.F_law_is_onward.kp T.b_law_is_onward .nil pass0 (pa_cons (pv 3) (pa_cons (pv 8) pa_nil))) pa_nil)))))
(pss_one (ps_ret pe_bl))
pss_nil)))))))))))))
(pss_one (ps_ret pe_bl)))), law_ok (N := N_law) (m := 7) (fun st => (ss_seq (ss_for (si_r1 (sa_cons se_int sa_nil)) (sg_name 2)
(ss_seq (ss_asg (se_call (sc_P0 ne_law_kind) (sa_cons (se_var 1) (sa_cons se_int (sa_cons se_int (sa_cons se_int sa_nil))))) (sg_name 3))
(ss_seq (ss_asg (se_call (sc_O0 ne_law_onward) (sa_cons (se_var 1) (sa_cons (se_var 3) (sa_cons (se_call (sc_P0 ne_law_one) (sa_cons (se_var 1) (sa_cons (se_lst (sa_cons se_int (sa_cons se_int (sa_cons se_int (sa_cons se_int sa_nil))))) sa_nil))) sa_nil)))) (sg_name 4))
(ss_seq (ss_if (st_not (st_val (se_call (sc_P0 (ne_law_same _)) (sa_cons (se_meth (sc_O0 ne_Run_is_onward) (se_make (sc_O0 ne_Run___init__) (sa_cons (se_dget (se_var 3) se_str) (sa_cons (se_var 4) sa_nil))) sa_nil) (sa_cons se_bl sa_nil)))))
(ss_ret se_bl)
ss_next)
(ss_seq (ss_asg (se_call (sc_P0 ne_law_take) (sa_cons (se_var 1) (sa_cons (se_cb so_len (sa_cons (se_var 4) sa_nil)) sa_nil))) (sg_name 5))
(ss_seq (ss_asg (se_call (sc_P0 ne_law_callable) (sa_cons (se_var 3) (sa_cons (se_sl ss_lst (se_var 4) sp_none (sp_some (se_var 5))) sa_nil))) (sg_name 6))
(ss_seq (ss_if (st_and (st_test (se_op so_gt (se_var 5) se_int)) (st_test (se_op so_neD (se_op so_ix (se_var 4) (se_var 5)) (se_tup (sa_cons se_str sa_nil)))))
(ss_asg (se_op so_catT (se_tup (sa_cons (se_op so_ix (se_op so_ix (se_var 4) (se_var 5)) se_int) (sa_cons (se_call (sc_P0 ne_law_one) (sa_cons (se_var 1) (sa_cons (se_var 6) sa_nil))) sa_nil))) (se_sl ss_tup (se_op so_ix (se_var 4) (se_var 5)) (sp_some se_int) sp_none)) (sg_sub (se_var 4) (se_var 5)))
ss_next)
(ss_seq (ss_asg (se_lst (sa_cons (se_var 4) (sa_cons (se_call (sc_P0 ne_law_program) (sa_cons (se_var 1) (sa_cons (se_var 3) (sa_cons (se_call (sc_P0 ne_law_one) (sa_cons (se_var 1) (sa_cons (se_lst (sa_cons se_int (sa_cons se_int (sa_cons se_int sa_nil)))) sa_nil))) (sa_cons (se_lst (sa_cons se_str (sa_cons se_str sa_nil))) sa_nil))))) sa_nil))) (sg_name 7))
(ss_seq (ss_if (st_test (se_op so_notB (se_meth (sc_O0 ne_Run_is_onward) (se_makeD (fun G => .cons (T.we_Run___init__ st G) .nil) (sc_O0 ne_Run___init__) (sa_cons (se_dget (se_var 3) se_str) sa_nil)) sa_nil) se_bl))
(ss_ret se_bl)
ss_next)
(ss_for (si_sq (se_var 7)) (sg_name 8)
(ss_if (st_not (st_val (se_call (sc_P0 (ne_law_same _)) (sa_cons (se_meth (sc_O0 ne_Run_is_onward) (se_make (sc_O0 ne_Run___init__) (sa_cons (se_dget (se_var 3) se_str) (sa_cons (se_var 8) sa_nil))) sa_nil) (sa_cons (se_call (sc_P0 ne_law_is_onward) (sa_cons (se_var 3) (sa_cons (se_var 8) sa_nil))) sa_nil)))))
(ss_ret se_bl)
ss_next)))))))))))
(ss_ret se_bl))) rfl (fun D hD hE => x_law12 hD hE) h⟩
end
end Mz
end
section
set_option Elab.async false
set_option linter.all false
set_option maxRecDepth 100000
set_option maxHeartbeats 4000000
namespace Mz
open PySem L2
set_option maxHeartbeats 8000000 in
theorem all_mk {l : PySem.W.OpenLaw} {w : World} {K : PySem.W.Frag} {h : Heap} {mg : Str → Option Value} {fa : Addr} {a_DEEDS a_HANDS a_Kind a_Maker a_Run a_Store a_TAKING f_law_fill f_law_take f_law_fresh f_law_one f_law_mix f_is_integer f_is_between f_is_list f_is_row f_is_word f_are_unlike f_checked_fields f_is_deed f_is_same f_reason_against f_checked_calls f_Kind___init__ f_law_plan f_law_deeds f_law_call f_law_kind f_law_same f_does_take f_Kind___contains__ f_Kind___getitem__ f_Kind_number_of f_Kind_takes f_is_last_row f_is_call_row f_checked_rows f_Maker___init__ f_Store___init__ f_Store_keep f_Store_first_maker f_Store_copy f_Store_does f_Store_told f_Run_do_row f_Run___init__ tt_Run___init__ ee_Run___init__ f_Run_is_onward f_law_row_of f_law_takes f_law_callable f_law_program f_law_onward f_law_is_onward f_law a_DEEDS_many a_DEEDS_one : Addr} {tk_LETTERS tk_LONGEST tk_MOST_CALLS tk_MOST_DEEDS tk_MOST_FIELDS tk_MOST_MODES tw_DEEDS_many_0 tw_DEEDS_many_1 tw_DEEDS_many_2 tw_DEEDS_many_3 tw_DEEDS_one_0 tw_DEEDS_one_1 tw_HANDS_0 tw_HANDS_1 tw_HANDS_2 tw_TAKING_0 tw_TAKING_1 tw_TAKING_2 : Tok} {od_law_fill an_law_fill od_law_take an_law_take od_law_fresh an_law_fresh od_law_one an_law_one od_law_mix an_law_mix od_is_integer an_is_integer od_is_between an_is_between od_is_list an_is_list od_is_row an_is_row od_is_word an_is_word od_are_unlike an_are_unlike od_checked_fields an_checked_fields od_is_deed an_is_deed od_is_same an_is_same od_reason_against an_reason_against od_checked_calls an_checked_calls od_Kind___init__ an_Kind___init__ od_law_plan an_law_plan od_law_deeds an_law_deeds od_law_call an_law_call od_law_kind an_law_kind od_law_same an_law_same od_does_take an_does_take od_Kind___contains__ an_Kind___contains__ od_Kind___getitem__ an_Kind___getitem__ od_Kind_number_of an_Kind_number_of od_Kind_takes an_Kind_takes od_is_last_row an_is_last_row od_is_call_row an_is_call_row od_checked_rows an_checked_rows od_Maker___init__ an_Maker___init__ od_Store___init__ an_Store___init__ od_Store_keep an_Store_keep od_Store_first_maker an_Store_first_maker od_Store_copy an_Store_copy od_Store_does an_Store_does od_Store_told an_Store_told od_Run_do_row an_Run_do_row od_Run___init__ an_Run___init__ o1_Run___init__ o2_Run___init__ od_Run_is_onward an_Run_is_onward od_law_row_of an_law_row_of od_law_takes an_law_takes od_law_callable an_law_callable od_law_program an_law_program od_law_onward an_law_onward od_law_is_onward an_law_is_onward od_law an_law oo_DEEDS_many oo_DEEDS_one oo_HANDS oo_TAKING : Option Addr} {sl_law_fill sl_law_take sl_law_fresh sl_law_one sl_law_mix sl_is_integer sl_is_between sl_is_list sl_is_row sl_is_word sl_are_unlike sl_checked_fields sl_is_deed sl_is_same sl_reason_against sl_checked_calls sl_Kind___init__ sl_law_plan sl_law_deeds sl_law_call sl_law_kind sl_law_same sl_does_take sl_Kind___contains__ sl_Kind___getitem__ sl_Kind_number_of sl_Kind_takes sl_is_last_row sl_is_call_row sl_checked_rows sl_Maker___init__ sl_Store___init__ sl_Store_keep sl_Store_first_maker sl_Store_copy sl_Store_does sl_Store_told sl_Run_do_row sl_Run___init__ z1_Run___init__ z2_Run___init__ sl_Run_is_onward sl_law_row_of sl_law_takes sl_law_callable sl_law_program sl_law_onward sl_law_is_onward sl_law ss_DEEDS_many ss_DEEDS_one ss_HANDS ss_TAKING : Array (Option Value)} {oc_law_fill kV_law_fill dc_law_fill pm_law_fill cd_law_fill ct_law_fill oc_law_take kV_law_take dc_law_take pm_law_take cd_law_take ct_law_take oc_law_fresh kV_law_fresh dc_law_fresh pm_law_fresh cd_law_fresh ct_law_fresh oc_law_one kV_law_one dc_law_one pm_law_one cd_law_one ct_law_one oc_law_mix kV_law_mix dc_law_mix pm_law_mix cd_law_mix ct_law_mix oc_is_integer kV_is_integer dc_is_integer pm_is_integer cd_is_integer ct_is_integer oc_is_between kV_is_between dc_is_between pm_is_between cd_is_between ct_is_between oc_is_list kV_is_list dc_is_list pm_is_list cd_is_list ct_is_list oc_is_row kV_is_row dc_is_row pm_is_row cd_is_row ct_is_row oc_is_word kV_is_word dc_is_word pm_is_word cd_is_word ct_is_word oc_are_unlike kV_are_unlike dc_are_unlike pm_are_unlike cd_are_unlike ct_are_unlike oc_checked_fields kV_checked_fields dc_checked_fields pm_checked_fields cd_checked_fields ct_checked_fields oc_is_deed kV_is_deed dc_is_deed pm_is_deed cd_is_deed ct_is_deed oc_is_same kV_is_same dc_is_same pm_is_same cd_is_same ct_is_same oc_reason_against kV_reason_against dc_reason_against pm_reason_against cd_reason_against ct_reason_against oc_checked_calls kV_checked_calls dc_checked_calls pm_checked_calls cd_checked_calls ct_checked_calls oc_Kind___init__ kV_Kind___init__ dc_Kind___init__ pm_Kind___init__ cd_Kind___init__ ct_Kind___init__ oc_law_plan kV_law_plan dc_law_plan pm_law_plan cd_law_plan ct_law_plan oc_law_deeds kV_law_deeds dc_law_deeds pm_law_deeds cd_law_deeds ct_law_deeds oc_law_call kV_law_call dc_law_call pm_law_call cd_law_call ct_law_call oc_law_kind kV_law_kind dc_law_kind pm_law_kind cd_law_kind ct_law_kind oc_law_same kV_law_same dc_law_same pm_law_same cd_law_same ct_law_same oc_does_take kV_does_take dc_does_take pm_does_take cd_does_take ct_does_take oc_Kind___contains__ kV_Kind___contains__ dc_Kind___contains__ pm_Kind___contains__ cd_Kind___contains__ ct_Kind___contains__ oc_Kind___getitem__ kV_Kind___getitem__ dc_Kind___getitem__ pm_Kind___getitem__ cd_Kind___getitem__ ct_Kind___getitem__ oc_Kind_number_of kV_Kind_number_of dc_Kind_number_of pm_Kind_number_of cd_Kind_number_of ct_Kind_number_of oc_Kind_takes kV_Kind_takes dc_Kind_takes pm_Kind_takes cd_Kind_takes ct_Kind_takes oc_is_last_row kV_is_last_row dc_is_last_row pm_is_last_row cd_is_last_row ct_is_last_row oc_is_call_row kV_is_call_row dc_is_call_row pm_is_call_row cd_is_call_row ct_is_call_row oc_checked_rows kV_checked_rows dc_checked_rows pm_checked_rows cd_checked_rows ct_checked_rows oc_Maker___init__ kV_Maker___init__ dc_Maker___init__ pm_Maker___init__ cd_Maker___init__ ct_Maker___init__ oc_Store___init__ kV_Store___init__ dc_Store___init__ pm_Store___init__ cd_Store___init__ ct_Store___init__ oc_Store_keep kV_Store_keep dc_Store_keep pm_Store_keep cd_Store_keep ct_Store_keep oc_Store_first_maker kV_Store_first_maker dc_Store_first_maker pm_Store_first_maker cd_Store_first_maker ct_Store_first_maker oc_Store_copy kV_Store_copy dc_Store_copy pm_Store_copy cd_Store_copy ct_Store_copy oc_Store_does kV_Store_does dc_Store_does pm_Store_does cd_Store_does ct_Store_does oc_Store_told kV_Store_told dc_Store_told pm_Store_told cd_Store_told ct_Store_told oc_Run_do_row kV_Run_do_row dc_Run_do_row pm_Run_do_row cd_Run_do_row ct_Run_do_row oc_Run___init__ kV_Run___init__ dc_Run___init__ pm_Run___init__ cd_Run___init__ ct_Run___init__ c1_Run___init__ oc_Run_is_onward kV_Run_is_onward dc_Run_is_onward pm_Run_is_onward cd_Run_is_onward ct_Run_is_onward oc_law_row_of kV_law_row_of dc_law_row_of pm_law_row_of cd_law_row_of ct_law_row_of oc_law_takes kV_law_takes dc_law_takes pm_law_takes cd_law_takes ct_law_takes oc_law_callable kV_law_callable dc_law_callable pm_law_callable cd_law_callable ct_law_callable oc_law_program kV_law_program dc_law_program pm_law_program cd_law_program ct_law_program oc_law_onward kV_law_onward dc_law_onward pm_law_onward cd_law_onward ct_law_onward oc_law_is_onward kV_law_is_onward dc_law_is_onward pm_law_is_onward cd_law_is_onward ct_law_is_onward oc_law kV_law dc_law pm_law cd_law ct_law : Value} {n1_Run___init__ n2_Run___init__ n_DEEDS nn_DEEDS_many nn_DEEDS_one nn_HANDS nn_TAKING : Nat} {es_DEEDS : Array DictEntry}
    (X : K.In h) (G : h.Ns mainGlobals mg) (hfa : mg "law" = some (.ref fa))
    (pg_DEEDS : PySem.W.nsIn K mainGlobals "DEEDS" = some (some (.ref a_DEEDS)))
    (pg_HANDS : PySem.W.nsIn K mainGlobals "HANDS" = some (some (.ref a_HANDS)))
    (pg_Kind : PySem.W.nsIn K mainGlobals "Kind" = some (some (.ref a_Kind)))
    (pg_LETTERS : PySem.W.nsIn K mainGlobals "LETTERS" = some (some (.str "abcdefghijklmnopqrstuvwxyz" tk_LETTERS)))
    (pg_LONGEST : PySem.W.nsIn K mainGlobals "LONGEST" = some (some (.int 8 tk_LONGEST)))
    (pg_MOST_CALLS : PySem.W.nsIn K mainGlobals "MOST_CALLS" = some (some (.int 6 tk_MOST_CALLS)))
    (pg_MOST_DEEDS : PySem.W.nsIn K mainGlobals "MOST_DEEDS" = some (some (.int 4 tk_MOST_DEEDS)))
    (pg_MOST_FIELDS : PySem.W.nsIn K mainGlobals "MOST_FIELDS" = some (some (.int 3 tk_MOST_FIELDS)))
    (pg_MOST_MODES : PySem.W.nsIn K mainGlobals "MOST_MODES" = some (some (.int 4 tk_MOST_MODES)))
    (pg_Maker : PySem.W.nsIn K mainGlobals "Maker" = some (some (.ref a_Maker)))
    (pg_Run : PySem.W.nsIn K mainGlobals "Run" = some (some (.ref a_Run)))
    (pg_Store : PySem.W.nsIn K mainGlobals "Store" = some (some (.ref a_Store)))
    (pg_TAKING : PySem.W.nsIn K mainGlobals "TAKING" = some (some (.ref a_TAKING)))
    (pn_len : PySem.W.nsIn K mainGlobals "len" = some none)
    (pn_int : PySem.W.nsIn K mainGlobals "int" = some none)
    (pn_str : PySem.W.nsIn K mainGlobals "str" = some none)
    (pn_bool : PySem.W.nsIn K mainGlobals "bool" = some none)
    (pn_list : PySem.W.nsIn K mainGlobals "list" = some none)
    (pn_tuple : PySem.W.nsIn K mainGlobals "tuple" = some none)
    (pn_range : PySem.W.nsIn K mainGlobals "range" = some none)
    (pn_enumerate : PySem.W.nsIn K mainGlobals "enumerate" = some none)
    (pn_zip : PySem.W.nsIn K mainGlobals "zip" = some none)
    (pn_isinstance : PySem.W.nsIn K mainGlobals "isinstance" = some none)
    (pn_all : PySem.W.nsIn K mainGlobals "all" = some none)
    (pn_any : PySem.W.nsIn K mainGlobals "any" = some none)
    (pc_Kind : PySem.W.plainGet K a_Kind Str.empty = true)
    (pd_Kind : PySem.W.hasDictIn K a_Kind = true)
    (po_Kind : PySem.W.plainOver K a_Kind = true)
    (ps_Kind : PySem.W.findIn K (.ref a_Kind) "__setattr__" = some (some (.builtin "object.__setattr__")))
    (pc_Maker : PySem.W.plainGet K a_Maker Str.empty = true)
    (pd_Maker : PySem.W.hasDictIn K a_Maker = true)
    (po_Maker : PySem.W.plainOver K a_Maker = true)
    (ps_Maker : PySem.W.findIn K (.ref a_Maker) "__setattr__" = some (some (.builtin "object.__setattr__")))
    (pc_Run : PySem.W.plainGet K a_Run Str.empty = true)
    (pd_Run : PySem.W.hasDictIn K a_Run = true)
    (po_Run : PySem.W.plainOver K a_Run = true)
    (ps_Run : PySem.W.findIn K (.ref a_Run) "__setattr__" = some (some (.builtin "object.__setattr__")))
    (pc_Store : PySem.W.plainGet K a_Store Str.empty = true)
    (pd_Store : PySem.W.hasDictIn K a_Store = true)
    (po_Store : PySem.W.plainOver K a_Store = true)
    (ps_Store : PySem.W.findIn K (.ref a_Store) "__setattr__" = some (some (.builtin "object.__setattr__")))
    (pa_law_fill : PySem.W.nsIn K mainGlobals "_law_fill" = some (some (.ref f_law_fill)))
    (pl_law_fill : K.lookup f_law_fill = some ⟨oc_law_fill, od_law_fill, .func (PySem.W.fnOf "_law_fill" "_law_fill" (defArgs s_law_fill) (defBody s_law_fill) (defScope s_law_fill) .none kV_law_fill dc_law_fill pm_law_fill an_law_fill cd_law_fill ct_law_fill), sl_law_fill⟩)
    (pq_law_fill : PySem.W.codeIn K cd_law_fill "_law_fill" = true)
    (pk_law_fill : PySem.W.keepIn K (.ref f_law_fill) = true)
    (pa_law_take : PySem.W.nsIn K mainGlobals "_law_take" = some (some (.ref f_law_take)))
    (pl_law_take : K.lookup f_law_take = some ⟨oc_law_take, od_law_take, .func (PySem.W.fnOf "_law_take" "_law_take" (defArgs s_law_take) (defBody s_law_take) (defScope s_law_take) .none kV_law_take dc_law_take pm_law_take an_law_take cd_law_take ct_law_take), sl_law_take⟩)
    (pq_law_take : PySem.W.codeIn K cd_law_take "_law_take" = true)
    (pk_law_take : PySem.W.keepIn K (.ref f_law_take) = true)
    (pa_law_fresh : PySem.W.nsIn K mainGlobals "_law_fresh" = some (some (.ref f_law_fresh)))
    (pl_law_fresh : K.lookup f_law_fresh = some ⟨oc_law_fresh, od_law_fresh, .func (PySem.W.fnOf "_law_fresh" "_law_fresh" (defArgs s_law_fresh) (defBody s_law_fresh) (defScope s_law_fresh) .none kV_law_fresh dc_law_fresh pm_law_fresh an_law_fresh cd_law_fresh ct_law_fresh), sl_law_fresh⟩)
    (pq_law_fresh : PySem.W.codeIn K cd_law_fresh "_law_fresh" = true)
    (pk_law_fresh : PySem.W.keepIn K (.ref f_law_fresh) = true)
    (pa_law_one : PySem.W.nsIn K mainGlobals "_law_one" = some (some (.ref f_law_one)))
    (pl_law_one : K.lookup f_law_one = some ⟨oc_law_one, od_law_one, .func (PySem.W.fnOf "_law_one" "_law_one" (defArgs s_law_one) (defBody s_law_one) (defScope s_law_one) .none kV_law_one dc_law_one pm_law_one an_law_one cd_law_one ct_law_one), sl_law_one⟩)
    (pq_law_one : PySem.W.codeIn K cd_law_one "_law_one" = true)
    (pk_law_one : PySem.W.keepIn K (.ref f_law_one) = true)
    (pa_law_mix : PySem.W.nsIn K mainGlobals "_law_mix" = some (some (.ref f_law_mix)))
    (pl_law_mix : K.lookup f_law_mix = some ⟨oc_law_mix, od_law_mix, .func (PySem.W.fnOf "_law_mix" "_law_mix" (defArgs s_law_mix) (defBody s_law_mix) (defScope s_law_mix) .none kV_law_mix dc_law_mix pm_law_mix an_law_mix cd_law_mix ct_law_mix), sl_law_mix⟩)
    (pq_law_mix : PySem.W.codeIn K cd_law_mix "_law_mix" = true)
    (pk_law_mix : PySem.W.keepIn K (.ref f_law_mix) = true)
    (pa_is_integer : PySem.W.nsIn K mainGlobals "is_integer" = some (some (.ref f_is_integer)))
    (pl_is_integer : K.lookup f_is_integer = some ⟨oc_is_integer, od_is_integer, .func (PySem.W.fnOf "is_integer" "is_integer" (defArgs s_is_integer) (defBody s_is_integer) (defScope s_is_integer) .none kV_is_integer dc_is_integer pm_is_integer an_is_integer cd_is_integer ct_is_integer), sl_is_integer⟩)
    (pq_is_integer : PySem.W.codeIn K cd_is_integer "is_integer" = true)
    (pk_is_integer : PySem.W.keepIn K (.ref f_is_integer) = true)
    (pa_is_between : PySem.W.nsIn K mainGlobals "is_between" = some (some (.ref f_is_between)))
    (pl_is_between : K.lookup f_is_between = some ⟨oc_is_between, od_is_between, .func (PySem.W.fnOf "is_between" "is_between" (defArgs s_is_between) (defBody s_is_between) (defScope s_is_between) .none kV_is_between dc_is_between pm_is_between an_is_between cd_is_between ct_is_between), sl_is_between⟩)
    (pq_is_between : PySem.W.codeIn K cd_is_between "is_between" = true)
    (pk_is_between : PySem.W.keepIn K (.ref f_is_between) = true)
    (pa_is_list : PySem.W.nsIn K mainGlobals "is_list" = some (some (.ref f_is_list)))
    (pl_is_list : K.lookup f_is_list = some ⟨oc_is_list, od_is_list, .func (PySem.W.fnOf "is_list" "is_list" (defArgs s_is_list) (defBody s_is_list) (defScope s_is_list) .none kV_is_list dc_is_list pm_is_list an_is_list cd_is_list ct_is_list), sl_is_list⟩)
    (pq_is_list : PySem.W.codeIn K cd_is_list "is_list" = true)
    (pk_is_list : PySem.W.keepIn K (.ref f_is_list) = true)
    (pa_is_row : PySem.W.nsIn K mainGlobals "is_row" = some (some (.ref f_is_row)))
    (pl_is_row : K.lookup f_is_row = some ⟨oc_is_row, od_is_row, .func (PySem.W.fnOf "is_row" "is_row" (defArgs s_is_row) (defBody s_is_row) (defScope s_is_row) .none kV_is_row dc_is_row pm_is_row an_is_row cd_is_row ct_is_row), sl_is_row⟩)
    (pq_is_row : PySem.W.codeIn K cd_is_row "is_row" = true)
    (pk_is_row : PySem.W.keepIn K (.ref f_is_row) = true)
    (pa_is_word : PySem.W.nsIn K mainGlobals "is_word" = some (some (.ref f_is_word)))
    (pl_is_word : K.lookup f_is_word = some ⟨oc_is_word, od_is_word, .func (PySem.W.fnOf "is_word" "is_word" (defArgs s_is_word) (defBody s_is_word) (defScope s_is_word) .none kV_is_word dc_is_word pm_is_word an_is_word cd_is_word ct_is_word), sl_is_word⟩)
    (pq_is_word : PySem.W.codeIn K cd_is_word "is_word" = true)
    (pk_is_word : PySem.W.keepIn K (.ref f_is_word) = true)
    (pa_are_unlike : PySem.W.nsIn K mainGlobals "are_unlike" = some (some (.ref f_are_unlike)))
    (pl_are_unlike : K.lookup f_are_unlike = some ⟨oc_are_unlike, od_are_unlike, .func (PySem.W.fnOf "are_unlike" "are_unlike" (defArgs s_are_unlike) (defBody s_are_unlike) (defScope s_are_unlike) .none kV_are_unlike dc_are_unlike pm_are_unlike an_are_unlike cd_are_unlike ct_are_unlike), sl_are_unlike⟩)
    (pq_are_unlike : PySem.W.codeIn K cd_are_unlike "are_unlike" = true)
    (pk_are_unlike : PySem.W.keepIn K (.ref f_are_unlike) = true)
    (pa_checked_fields : PySem.W.nsIn K mainGlobals "checked_fields" = some (some (.ref f_checked_fields)))
    (pl_checked_fields : K.lookup f_checked_fields = some ⟨oc_checked_fields, od_checked_fields, .func (PySem.W.fnOf "checked_fields" "checked_fields" (defArgs s_checked_fields) (defBody s_checked_fields) (defScope s_checked_fields) .none kV_checked_fields dc_checked_fields pm_checked_fields an_checked_fields cd_checked_fields ct_checked_fields), sl_checked_fields⟩)
    (pq_checked_fields : PySem.W.codeIn K cd_checked_fields "checked_fields" = true)
    (pk_checked_fields : PySem.W.keepIn K (.ref f_checked_fields) = true)
    (pa_is_deed : PySem.W.nsIn K mainGlobals "is_deed" = some (some (.ref f_is_deed)))
    (pl_is_deed : K.lookup f_is_deed = some ⟨oc_is_deed, od_is_deed, .func (PySem.W.fnOf "is_deed" "is_deed" (defArgs s_is_deed) (defBody s_is_deed) (defScope s_is_deed) .none kV_is_deed dc_is_deed pm_is_deed an_is_deed cd_is_deed ct_is_deed), sl_is_deed⟩)
    (pq_is_deed : PySem.W.codeIn K cd_is_deed "is_deed" = true)
    (pk_is_deed : PySem.W.keepIn K (.ref f_is_deed) = true)
    (pa_is_same : PySem.W.nsIn K mainGlobals "is_same" = some (some (.ref f_is_same)))
    (pl_is_same : K.lookup f_is_same = some ⟨oc_is_same, od_is_same, .func (PySem.W.fnOf "is_same" "is_same" (defArgs s_is_same) (defBody s_is_same) (defScope s_is_same) .none kV_is_same dc_is_same pm_is_same an_is_same cd_is_same ct_is_same), sl_is_same⟩)
    (pq_is_same : PySem.W.codeIn K cd_is_same "is_same" = true)
    (pk_is_same : PySem.W.keepIn K (.ref f_is_same) = true)
    (pa_reason_against : PySem.W.nsIn K mainGlobals "reason_against" = some (some (.ref f_reason_against)))
    (pl_reason_against : K.lookup f_reason_against = some ⟨oc_reason_against, od_reason_against, .func (PySem.W.fnOf "reason_against" "reason_against" (defArgs s_reason_against) (defBody s_reason_against) (defScope s_reason_against) .none kV_reason_against dc_reason_against pm_reason_against an_reason_against cd_reason_against ct_reason_against), sl_reason_against⟩)
    (pq_reason_against : PySem.W.codeIn K cd_reason_against "reason_against" = true)
    (pk_reason_against : PySem.W.keepIn K (.ref f_reason_against) = true)
    (pa_checked_calls : PySem.W.nsIn K mainGlobals "checked_calls" = some (some (.ref f_checked_calls)))
    (pl_checked_calls : K.lookup f_checked_calls = some ⟨oc_checked_calls, od_checked_calls, .func (PySem.W.fnOf "checked_calls" "checked_calls" (defArgs s_checked_calls) (defBody s_checked_calls) (defScope s_checked_calls) .none kV_checked_calls dc_checked_calls pm_checked_calls an_checked_calls cd_checked_calls ct_checked_calls), sl_checked_calls⟩)
    (pq_checked_calls : PySem.W.codeIn K cd_checked_calls "checked_calls" = true)
    (pk_checked_calls : PySem.W.keepIn K (.ref f_checked_calls) = true)
    (pa_Kind___init__ : PySem.W.findIn K (.ref a_Kind) "__init__" = some (some (.ref f_Kind___init__)))
    (pi_Kind___init__ : PySem.W.isFn K (.ref f_Kind___init__) = true)
    (pl_Kind___init__ : K.lookup f_Kind___init__ = some ⟨oc_Kind___init__, od_Kind___init__, .func (PySem.W.fnOf "__init__" "Kind.__init__" (defArgs s_Kind___init__) (defBody s_Kind___init__) (defScope s_Kind___init__) .none kV_Kind___init__ dc_Kind___init__ pm_Kind___init__ an_Kind___init__ cd_Kind___init__ ct_Kind___init__), sl_Kind___init__⟩)
    (pq_Kind___init__ : PySem.W.codeIn K cd_Kind___init__ "Kind.__init__" = true)
    (pk_Kind___init__ : PySem.W.keepIn K (.ref f_Kind___init__) = true)
    (pa_law_plan : PySem.W.nsIn K mainGlobals "_law_plan" = some (some (.ref f_law_plan)))
    (pl_law_plan : K.lookup f_law_plan = some ⟨oc_law_plan, od_law_plan, .func (PySem.W.fnOf "_law_plan" "_law_plan" (defArgs s_law_plan) (defBody s_law_plan) (defScope s_law_plan) .none kV_law_plan dc_law_plan pm_law_plan an_law_plan cd_law_plan ct_law_plan), sl_law_plan⟩)
    (pq_law_plan : PySem.W.codeIn K cd_law_plan "_law_plan" = true)
    (pk_law_plan : PySem.W.keepIn K (.ref f_law_plan) = true)
    (pa_law_deeds : PySem.W.nsIn K mainGlobals "_law_deeds" = some (some (.ref f_law_deeds)))
    (pl_law_deeds : K.lookup f_law_deeds = some ⟨oc_law_deeds, od_law_deeds, .func (PySem.W.fnOf "_law_deeds" "_law_deeds" (defArgs s_law_deeds) (defBody s_law_deeds) (defScope s_law_deeds) .none kV_law_deeds dc_law_deeds pm_law_deeds an_law_deeds cd_law_deeds ct_law_deeds), sl_law_deeds⟩)
    (pq_law_deeds : PySem.W.codeIn K cd_law_deeds "_law_deeds" = true)
    (pk_law_deeds : PySem.W.keepIn K (.ref f_law_deeds) = true)
    (pa_law_call : PySem.W.nsIn K mainGlobals "_law_call" = some (some (.ref f_law_call)))
    (pl_law_call : K.lookup f_law_call = some ⟨oc_law_call, od_law_call, .func (PySem.W.fnOf "_law_call" "_law_call" (defArgs s_law_call) (defBody s_law_call) (defScope s_law_call) .none kV_law_call dc_law_call pm_law_call an_law_call cd_law_call ct_law_call), sl_law_call⟩)
    (pq_law_call : PySem.W.codeIn K cd_law_call "_law_call" = true)
    (pk_law_call : PySem.W.keepIn K (.ref f_law_call) = true)
    (pa_law_kind : PySem.W.nsIn K mainGlobals "_law_kind" = some (some (.ref f_law_kind)))
    (pl_law_kind : K.lookup f_law_kind = some ⟨oc_law_kind, od_law_kind, .func (PySem.W.fnOf "_law_kind" "_law_kind" (defArgs s_law_kind) (defBody s_law_kind) (defScope s_law_kind) .none kV_law_kind dc_law_kind pm_law_kind an_law_kind cd_law_kind ct_law_kind), sl_law_kind⟩)
    (pq_law_kind : PySem.W.codeIn K cd_law_kind "_law_kind" = true)
    (pk_law_kind : PySem.W.keepIn K (.ref f_law_kind) = true)
    (pa_law_same : PySem.W.nsIn K mainGlobals "_law_same" = some (some (.ref f_law_same)))
    (pl_law_same : K.lookup f_law_same = some ⟨oc_law_same, od_law_same, .func (PySem.W.fnOf "_law_same" "_law_same" (defArgs s_law_same) (defBody s_law_same) (defScope s_law_same) .none kV_law_same dc_law_same pm_law_same an_law_same cd_law_same ct_law_same), sl_law_same⟩)
    (pq_law_same : PySem.W.codeIn K cd_law_same "_law_same" = true)
    (pk_law_same : PySem.W.keepIn K (.ref f_law_same) = true)
    (pa_does_take : PySem.W.nsIn K mainGlobals "does_take" = some (some (.ref f_does_take)))
    (pl_does_take : K.lookup f_does_take = some ⟨oc_does_take, od_does_take, .func (PySem.W.fnOf "does_take" "does_take" (defArgs s_does_take) (defBody s_does_take) (defScope s_does_take) .none kV_does_take dc_does_take pm_does_take an_does_take cd_does_take ct_does_take), sl_does_take⟩)
    (pq_does_take : PySem.W.codeIn K cd_does_take "does_take" = true)
    (pk_does_take : PySem.W.keepIn K (.ref f_does_take) = true)
    (pa_Kind___contains__ : PySem.W.findIn K (.ref a_Kind) "__contains__" = some (some (.ref f_Kind___contains__)))
    (pi_Kind___contains__ : PySem.W.isFn K (.ref f_Kind___contains__) = true)
    (pl_Kind___contains__ : K.lookup f_Kind___contains__ = some ⟨oc_Kind___contains__, od_Kind___contains__, .func (PySem.W.fnOf "__contains__" "Kind.__contains__" (defArgs s_Kind___contains__) (defBody s_Kind___contains__) (defScope s_Kind___contains__) .none kV_Kind___contains__ dc_Kind___contains__ pm_Kind___contains__ an_Kind___contains__ cd_Kind___contains__ ct_Kind___contains__), sl_Kind___contains__⟩)
    (pq_Kind___contains__ : PySem.W.codeIn K cd_Kind___contains__ "Kind.__contains__" = true)
    (pk_Kind___contains__ : PySem.W.keepIn K (.ref f_Kind___contains__) = true)
    (pa_Kind___getitem__ : PySem.W.findIn K (.ref a_Kind) "__getitem__" = some (some (.ref f_Kind___getitem__)))
    (pi_Kind___getitem__ : PySem.W.isFn K (.ref f_Kind___getitem__) = true)
    (pl_Kind___getitem__ : K.lookup f_Kind___getitem__ = some ⟨oc_Kind___getitem__, od_Kind___getitem__, .func (PySem.W.fnOf "__getitem__" "Kind.__getitem__" (defArgs s_Kind___getitem__) (defBody s_Kind___getitem__) (defScope s_Kind___getitem__) .none kV_Kind___getitem__ dc_Kind___getitem__ pm_Kind___getitem__ an_Kind___getitem__ cd_Kind___getitem__ ct_Kind___getitem__), sl_Kind___getitem__⟩)
    (pq_Kind___getitem__ : PySem.W.codeIn K cd_Kind___getitem__ "Kind.__getitem__" = true)
    (pk_Kind___getitem__ : PySem.W.keepIn K (.ref f_Kind___getitem__) = true)
    (pa_Kind_number_of : PySem.W.findIn K (.ref a_Kind) "number_of" = some (some (.ref f_Kind_number_of)))
    (pi_Kind_number_of : PySem.W.isFn K (.ref f_Kind_number_of) = true)
    (pl_Kind_number_of : K.lookup f_Kind_number_of = some ⟨oc_Kind_number_of, od_Kind_number_of, .func (PySem.W.fnOf "number_of" "Kind.number_of" (defArgs s_Kind_number_of) (defBody s_Kind_number_of) (defScope s_Kind_number_of) .none kV_Kind_number_of dc_Kind_number_of pm_Kind_number_of an_Kind_number_of cd_Kind_number_of ct_Kind_number_of), sl_Kind_number_of⟩)
    (pq_Kind_number_of : PySem.W.codeIn K cd_Kind_number_of "Kind.number_of" = true)
    (pk_Kind_number_of : PySem.W.keepIn K (.ref f_Kind_number_of) = true)
    (pa_Kind_takes : PySem.W.findIn K (.ref a_Kind) "takes" = some (some (.ref f_Kind_takes)))
    (pi_Kind_takes : PySem.W.isFn K (.ref f_Kind_takes) = true)
    (pl_Kind_takes : K.lookup f_Kind_takes = some ⟨oc_Kind_takes, od_Kind_takes, .func (PySem.W.fnOf "takes" "Kind.takes" (defArgs s_Kind_takes) (defBody s_Kind_takes) (defScope s_Kind_takes) .none kV_Kind_takes dc_Kind_takes pm_Kind_takes an_Kind_takes cd_Kind_takes ct_Kind_takes), sl_Kind_takes⟩)
    (pq_Kind_takes : PySem.W.codeIn K cd_Kind_takes "Kind.takes" = true)
    (pk_Kind_takes : PySem.W.keepIn K (.ref f_Kind_takes) = true)
    (pa_is_last_row : PySem.W.nsIn K mainGlobals "is_last_row" = some (some (.ref f_is_last_row)))
    (pl_is_last_row : K.lookup f_is_last_row = some ⟨oc_is_last_row, od_is_last_row, .func (PySem.W.fnOf "is_last_row" "is_last_row" (defArgs s_is_last_row) (defBody s_is_last_row) (defScope s_is_last_row) .none kV_is_last_row dc_is_last_row pm_is_last_row an_is_last_row cd_is_last_row ct_is_last_row), sl_is_last_row⟩)
    (pq_is_last_row : PySem.W.codeIn K cd_is_last_row "is_last_row" = true)
    (pk_is_last_row : PySem.W.keepIn K (.ref f_is_last_row) = true)
    (pa_is_call_row : PySem.W.nsIn K mainGlobals "is_call_row" = some (some (.ref f_is_call_row)))
    (pl_is_call_row : K.lookup f_is_call_row = some ⟨oc_is_call_row, od_is_call_row, .func (PySem.W.fnOf "is_call_row" "is_call_row" (defArgs s_is_call_row) (defBody s_is_call_row) (defScope s_is_call_row) .none kV_is_call_row dc_is_call_row pm_is_call_row an_is_call_row cd_is_call_row ct_is_call_row), sl_is_call_row⟩)
    (pq_is_call_row : PySem.W.codeIn K cd_is_call_row "is_call_row" = true)
    (pk_is_call_row : PySem.W.keepIn K (.ref f_is_call_row) = true)
    (pa_checked_rows : PySem.W.nsIn K mainGlobals "checked_rows" = some (some (.ref f_checked_rows)))
    (pl_checked_rows : K.lookup f_checked_rows = some ⟨oc_checked_rows, od_checked_rows, .func (PySem.W.fnOf "checked_rows" "checked_rows" (defArgs s_checked_rows) (defBody s_checked_rows) (defScope s_checked_rows) .none kV_checked_rows dc_checked_rows pm_checked_rows an_checked_rows cd_checked_rows ct_checked_rows), sl_checked_rows⟩)
    (pq_checked_rows : PySem.W.codeIn K cd_checked_rows "checked_rows" = true)
    (pk_checked_rows : PySem.W.keepIn K (.ref f_checked_rows) = true)
    (pa_Maker___init__ : PySem.W.findIn K (.ref a_Maker) "__init__" = some (some (.ref f_Maker___init__)))
    (pi_Maker___init__ : PySem.W.isFn K (.ref f_Maker___init__) = true)
    (pl_Maker___init__ : K.lookup f_Maker___init__ = some ⟨oc_Maker___init__, od_Maker___init__, .func (PySem.W.fnOf "__init__" "Maker.__init__" (defArgs s_Maker___init__) (defBody s_Maker___init__) (defScope s_Maker___init__) .none kV_Maker___init__ dc_Maker___init__ pm_Maker___init__ an_Maker___init__ cd_Maker___init__ ct_Maker___init__), sl_Maker___init__⟩)
    (pq_Maker___init__ : PySem.W.codeIn K cd_Maker___init__ "Maker.__init__" = true)
    (pk_Maker___init__ : PySem.W.keepIn K (.ref f_Maker___init__) = true)
    (pa_Store___init__ : PySem.W.findIn K (.ref a_Store) "__init__" = some (some (.ref f_Store___init__)))
    (pi_Store___init__ : PySem.W.isFn K (.ref f_Store___init__) = true)
    (pl_Store___init__ : K.lookup f_Store___init__ = some ⟨oc_Store___init__, od_Store___init__, .func (PySem.W.fnOf "__init__" "Store.__init__" (defArgs s_Store___init__) (defBody s_Store___init__) (defScope s_Store___init__) .none kV_Store___init__ dc_Store___init__ pm_Store___init__ an_Store___init__ cd_Store___init__ ct_Store___init__), sl_Store___init__⟩)
    (pq_Store___init__ : PySem.W.codeIn K cd_Store___init__ "Store.__init__" = true)
    (pk_Store___init__ : PySem.W.keepIn K (.ref f_Store___init__) = true)
    (pa_Store_keep : PySem.W.findIn K (.ref a_Store) "keep" = some (some (.ref f_Store_keep)))
    (pi_Store_keep : PySem.W.isFn K (.ref f_Store_keep) = true)
    (pl_Store_keep : K.lookup f_Store_keep = some ⟨oc_Store_keep, od_Store_keep, .func (PySem.W.fnOf "keep" "Store.keep" (defArgs s_Store_keep) (defBody s_Store_keep) (defScope s_Store_keep) .none kV_Store_keep dc_Store_keep pm_Store_keep an_Store_keep cd_Store_keep ct_Store_keep), sl_Store_keep⟩)
    (pq_Store_keep : PySem.W.codeIn K cd_Store_keep "Store.keep" = true)
    (pk_Store_keep : PySem.W.keepIn K (.ref f_Store_keep) = true)
    (pa_Store_first_maker : PySem.W.findIn K (.ref a_Store) "first_maker" = some (some (.ref f_Store_first_maker)))
    (pi_Store_first_maker : PySem.W.isFn K (.ref f_Store_first_maker) = true)
    (pl_Store_first_maker : K.lookup f_Store_first_maker = some ⟨oc_Store_first_maker, od_Store_first_maker, .func (PySem.W.fnOf "first_maker" "Store.first_maker" (defArgs s_Store_first_maker) (defBody s_Store_first_maker) (defScope s_Store_first_maker) .none kV_Store_first_maker dc_Store_first_maker pm_Store_first_maker an_Store_first_maker cd_Store_first_maker ct_Store_first_maker), sl_Store_first_maker⟩)
    (pq_Store_first_maker : PySem.W.codeIn K cd_Store_first_maker "Store.first_maker" = true)
    (pk_Store_first_maker : PySem.W.keepIn K (.ref f_Store_first_maker) = true)
    (pa_Store_copy : PySem.W.findIn K (.ref a_Store) "copy" = some (some (.ref f_Store_copy)))
    (pi_Store_copy : PySem.W.isFn K (.ref f_Store_copy) = true)
    (pl_Store_copy : K.lookup f_Store_copy = some ⟨oc_Store_copy, od_Store_copy, .func (PySem.W.fnOf "copy" "Store.copy" (defArgs s_Store_copy) (defBody s_Store_copy) (defScope s_Store_copy) .none kV_Store_copy dc_Store_copy pm_Store_copy an_Store_copy cd_Store_copy ct_Store_copy), sl_Store_copy⟩)
    (pq_Store_copy : PySem.W.codeIn K cd_Store_copy "Store.copy" = true)
    (pk_Store_copy : PySem.W.keepIn K (.ref f_Store_copy) = true)
    (pa_Store_does : PySem.W.findIn K (.ref a_Store) "does" = some (some (.ref f_Store_does)))
    (pi_Store_does : PySem.W.isFn K (.ref f_Store_does) = true)
    (pl_Store_does : K.lookup f_Store_does = some ⟨oc_Store_does, od_Store_does, .func (PySem.W.fnOf "does" "Store.does" (defArgs s_Store_does) (defBody s_Store_does) (defScope s_Store_does) .none kV_Store_does dc_Store_does pm_Store_does an_Store_does cd_Store_does ct_Store_does), sl_Store_does⟩)
    (pq_Store_does : PySem.W.codeIn K cd_Store_does "Store.does" = true)
    (pk_Store_does : PySem.W.keepIn K (.ref f_Store_does) = true)
    (pa_Store_told : PySem.W.findIn K (.ref a_Store) "told" = some (some (.ref f_Store_told)))
    (pi_Store_told : PySem.W.isFn K (.ref f_Store_told) = true)
    (pl_Store_told : K.lookup f_Store_told = some ⟨oc_Store_told, od_Store_told, .func (PySem.W.fnOf "told" "Store.told" (defArgs s_Store_told) (defBody s_Store_told) (defScope s_Store_told) .none kV_Store_told dc_Store_told pm_Store_told an_Store_told cd_Store_told ct_Store_told), sl_Store_told⟩)
    (pq_Store_told : PySem.W.codeIn K cd_Store_told "Store.told" = true)
    (pk_Store_told : PySem.W.keepIn K (.ref f_Store_told) = true)
    (pa_Run_do_row : PySem.W.findIn K (.ref a_Run) "do_row" = some (some (.ref f_Run_do_row)))
    (pi_Run_do_row : PySem.W.isFn K (.ref f_Run_do_row) = true)
    (pl_Run_do_row : K.lookup f_Run_do_row = some ⟨oc_Run_do_row, od_Run_do_row, .func (PySem.W.fnOf "do_row" "Run.do_row" (defArgs s_Run_do_row) (defBody s_Run_do_row) (defScope s_Run_do_row) .none kV_Run_do_row dc_Run_do_row pm_Run_do_row an_Run_do_row cd_Run_do_row ct_Run_do_row), sl_Run_do_row⟩)
    (pq_Run_do_row : PySem.W.codeIn K cd_Run_do_row "Run.do_row" = true)
    (pk_Run_do_row : PySem.W.keepIn K (.ref f_Run_do_row) = true)
    (pa_Run___init__ : PySem.W.findIn K (.ref a_Run) "__init__" = some (some (.ref f_Run___init__)))
    (pi_Run___init__ : PySem.W.isFn K (.ref f_Run___init__) = true)
    (pl_Run___init__ : K.lookup f_Run___init__ = some ⟨oc_Run___init__, od_Run___init__, .func (PySem.W.fnOf "__init__" "Run.__init__" (defArgs s_Run___init__) (defBody s_Run___init__) (defScope s_Run___init__) (.ref tt_Run___init__) kV_Run___init__ dc_Run___init__ pm_Run___init__ an_Run___init__ cd_Run___init__ ct_Run___init__), sl_Run___init__⟩)
    (pq_Run___init__ : PySem.W.codeIn K cd_Run___init__ "Run.__init__" = true)
    (pk_Run___init__ : PySem.W.keepIn K (.ref f_Run___init__) = true)
    (pt_Run___init__ : K.lookup tt_Run___init__ = some ⟨c1_Run___init__, o1_Run___init__, .seq #[.ref ee_Run___init__] n1_Run___init__, z1_Run___init__⟩)
    (pe_Run___init__ : K.lookup ee_Run___init__ = some ⟨.type "tuple", o2_Run___init__, .seq #[] n2_Run___init__, z2_Run___init__⟩)
    (pa_Run_is_onward : PySem.W.findIn K (.ref a_Run) "is_onward" = some (some (.ref f_Run_is_onward)))
    (pi_Run_is_onward : PySem.W.isFn K (.ref f_Run_is_onward) = true)
    (pl_Run_is_onward : K.lookup f_Run_is_onward = some ⟨oc_Run_is_onward, od_Run_is_onward, .func (PySem.W.fnOf "is_onward" "Run.is_onward" (defArgs s_Run_is_onward) (defBody s_Run_is_onward) (defScope s_Run_is_onward) .none kV_Run_is_onward dc_Run_is_onward pm_Run_is_onward an_Run_is_onward cd_Run_is_onward ct_Run_is_onward), sl_Run_is_onward⟩)
    (pq_Run_is_onward : PySem.W.codeIn K cd_Run_is_onward "Run.is_onward" = true)
    (pk_Run_is_onward : PySem.W.keepIn K (.ref f_Run_is_onward) = true)
    (pa_law_row_of : PySem.W.nsIn K mainGlobals "_law_row_of" = some (some (.ref f_law_row_of)))
    (pl_law_row_of : K.lookup f_law_row_of = some ⟨oc_law_row_of, od_law_row_of, .func (PySem.W.fnOf "_law_row_of" "_law_row_of" (defArgs s_law_row_of) (defBody s_law_row_of) (defScope s_law_row_of) .none kV_law_row_of dc_law_row_of pm_law_row_of an_law_row_of cd_law_row_of ct_law_row_of), sl_law_row_of⟩)
    (pq_law_row_of : PySem.W.codeIn K cd_law_row_of "_law_row_of" = true)
    (pk_law_row_of : PySem.W.keepIn K (.ref f_law_row_of) = true)
    (pa_law_takes : PySem.W.nsIn K mainGlobals "_law_takes" = some (some (.ref f_law_takes)))
    (pl_law_takes : K.lookup f_law_takes = some ⟨oc_law_takes, od_law_takes, .func (PySem.W.fnOf "_law_takes" "_law_takes" (defArgs s_law_takes) (defBody s_law_takes) (defScope s_law_takes) .none kV_law_takes dc_law_takes pm_law_takes an_law_takes cd_law_takes ct_law_takes), sl_law_takes⟩)
    (pq_law_takes : PySem.W.codeIn K cd_law_takes "_law_takes" = true)
    (pk_law_takes : PySem.W.keepIn K (.ref f_law_takes) = true)
    (pa_law_callable : PySem.W.nsIn K mainGlobals "_law_callable" = some (some (.ref f_law_callable)))
    (pl_law_callable : K.lookup f_law_callable = some ⟨oc_law_callable, od_law_callable, .func (PySem.W.fnOf "_law_callable" "_law_callable" (defArgs s_law_callable) (defBody s_law_callable) (defScope s_law_callable) .none kV_law_callable dc_law_callable pm_law_callable an_law_callable cd_law_callable ct_law_callable), sl_law_callable⟩)
    (pq_law_callable : PySem.W.codeIn K cd_law_callable "_law_callable" = true)
    (pk_law_callable : PySem.W.keepIn K (.ref f_law_callable) = true)
    (pa_law_program : PySem.W.nsIn K mainGlobals "_law_program" = some (some (.ref f_law_program)))
    (pl_law_program : K.lookup f_law_program = some ⟨oc_law_program, od_law_program, .func (PySem.W.fnOf "_law_program" "_law_program" (defArgs s_law_program) (defBody s_law_program) (defScope s_law_program) .none kV_law_program dc_law_program pm_law_program an_law_program cd_law_program ct_law_program), sl_law_program⟩)
    (pq_law_program : PySem.W.codeIn K cd_law_program "_law_program" = true)
    (pk_law_program : PySem.W.keepIn K (.ref f_law_program) = true)
    (pa_law_onward : PySem.W.nsIn K mainGlobals "_law_onward" = some (some (.ref f_law_onward)))
    (pl_law_onward : K.lookup f_law_onward = some ⟨oc_law_onward, od_law_onward, .func (PySem.W.fnOf "_law_onward" "_law_onward" (defArgs s_law_onward) (defBody s_law_onward) (defScope s_law_onward) .none kV_law_onward dc_law_onward pm_law_onward an_law_onward cd_law_onward ct_law_onward), sl_law_onward⟩)
    (pq_law_onward : PySem.W.codeIn K cd_law_onward "_law_onward" = true)
    (pk_law_onward : PySem.W.keepIn K (.ref f_law_onward) = true)
    (pa_law_is_onward : PySem.W.nsIn K mainGlobals "_law_is_onward" = some (some (.ref f_law_is_onward)))
    (pl_law_is_onward : K.lookup f_law_is_onward = some ⟨oc_law_is_onward, od_law_is_onward, .func (PySem.W.fnOf "_law_is_onward" "_law_is_onward" (defArgs s_law_is_onward) (defBody s_law_is_onward) (defScope s_law_is_onward) .none kV_law_is_onward dc_law_is_onward pm_law_is_onward an_law_is_onward cd_law_is_onward ct_law_is_onward), sl_law_is_onward⟩)
    (pq_law_is_onward : PySem.W.codeIn K cd_law_is_onward "_law_is_onward" = true)
    (pk_law_is_onward : PySem.W.keepIn K (.ref f_law_is_onward) = true)
    (pa_law : PySem.W.nsIn K mainGlobals "law" = some (some (.ref f_law)))
    (pl_law : K.lookup f_law = some ⟨oc_law, od_law, .func (PySem.W.fnOf "law" "law" (defArgs s_law) (defBody s_law) (defScope s_law) .none kV_law dc_law pm_law an_law cd_law ct_law), sl_law⟩)
    (pq_law : PySem.W.codeIn K cd_law "law" = true)
    (pk_law : PySem.W.keepIn K (.ref f_law) = true)
    (pm_Kind : PySem.W.makesIn K a_Kind = true)
    (pk_Kind : PySem.W.keepIn K (.ref a_Kind) = true)
    (pm_Maker : PySem.W.makesIn K a_Maker = true)
    (pk_Maker : PySem.W.keepIn K (.ref a_Maker) = true)
    (pm_Run : PySem.W.makesIn K a_Run = true)
    (pk_Run : PySem.W.keepIn K (.ref a_Run) = true)
    (pm_Store : PySem.W.makesIn K a_Store = true)
    (pk_Store : PySem.W.keepIn K (.ref a_Store) = true)
    (pna_Kind_call_rows : PySem.W.findIn K (.ref a_Kind) "call_rows" = some none)
    (pna_Kind_field_rows : PySem.W.findIn K (.ref a_Kind) "field_rows" = some none)
    (pna_Kind_modes : PySem.W.findIn K (.ref a_Kind) "modes" = some none)
    (pna_Kind_name_list : PySem.W.findIn K (.ref a_Kind) "name_list" = some none)
    (pna_Kind_sorts : PySem.W.findIn K (.ref a_Kind) "sorts" = some none)
    (pna_Maker_mode : PySem.W.findIn K (.ref a_Maker) "mode" = some none)
    (pna_Maker_slots : PySem.W.findIn K (.ref a_Maker) "slots" = some none)
    (pna_Run_handed : PySem.W.findIn K (.ref a_Run) "handed" = some none)
    (pna_Run_kind : PySem.W.findIn K (.ref a_Run) "kind" = some none)
    (pna_Run_made_contents : PySem.W.findIn K (.ref a_Run) "made_contents" = some none)
    (pna_Run_row_list : PySem.W.findIn K (.ref a_Run) "row_list" = some none)
    (pna_Run_store : PySem.W.findIn K (.ref a_Run) "store" = some none)
    (pna_Store_kind : PySem.W.findIn K (.ref a_Store) "kind" = some none)
    (pna_Store_lists : PySem.W.findIn K (.ref a_Store) "lists" = some none)
    (pfi_Kind : PySem.W.fnIn K f_Kind___getitem__ = true)
    (pl_DEEDS : K.lookup a_DEEDS = some ⟨.type "dict", none, .dict es_DEEDS n_DEEDS, #[]⟩)
    (pw_DEEDS : es_DEEDS.toList.map He.keyOf = He.keysIn w.params ["one", "many"])
    (pd_many : PySem.W.nsIn K a_DEEDS "many" = some (some (.ref a_DEEDS_many)))
    (pd_one : PySem.W.nsIn K a_DEEDS "one" = some (some (.ref a_DEEDS_one)))
    (pl_DEEDS_many : K.lookup a_DEEDS_many = some ⟨.type "tuple", oo_DEEDS_many, .seq #[.str "add" tw_DEEDS_many_0, .str "strike" tw_DEEDS_many_1, .str "fresh" tw_DEEDS_many_2, .str "clear" tw_DEEDS_many_3] nn_DEEDS_many, ss_DEEDS_many⟩)
    (pl_DEEDS_one : K.lookup a_DEEDS_one = some ⟨.type "tuple", oo_DEEDS_one, .seq #[.str "set" tw_DEEDS_one_0, .str "clear" tw_DEEDS_one_1] nn_DEEDS_one, ss_DEEDS_one⟩)
    (pl_HANDS : K.lookup a_HANDS = some ⟨.type "tuple", oo_HANDS, .seq #[.str "self" tw_HANDS_0, .str "new" tw_HANDS_1, .str "last" tw_HANDS_2] nn_HANDS, ss_HANDS⟩)
    (pl_TAKING : K.lookup a_TAKING = some ⟨.type "tuple", oo_TAKING, .seq #[.str "set" tw_TAKING_0, .str "add" tw_TAKING_1, .str "strike" tw_TAKING_2] nn_TAKING, ss_TAKING⟩)
    : ∃ fd : FuncData, (∀ (s : Shared) (v : Value), BindsTo s fd ⟨[v], []⟩ [("_law_script", v)]) ∧ ∀ base : Heap, K.In base → base.Ns mainGlobals mg → FnOk l.prog w K mg base CX0 10 fa fd ["_law_script"] (spLaw K) := by
  have e := hfa.symm.trans (PySem.W.mg_of X G pa_law)
  rw [show fa = f_law by simpa using e]
  have T : Tx w K mg ⟨0, 0, 0, 0, 0, 0, 0, 0, 0, 0, 0, 0, 0, 0, 0, 0, a_Kind, 0, a_Maker, a_Store, a_Run, 0, 0, 0, 0, 0, 0, 0, a_HANDS, a_DEEDS, a_DEEDS_one, a_DEEDS_many, a_TAKING, 0, 0⟩ { tk_LETTERS := tk_LETTERS, tk_LONGEST := tk_LONGEST, tk_MOST_CALLS := tk_MOST_CALLS, tk_MOST_DEEDS := tk_MOST_DEEDS, tk_MOST_FIELDS := tk_MOST_FIELDS, tk_MOST_MODES := tk_MOST_MODES, f_law_fill := f_law_fill, d_law_fill := (PySem.W.fnOf "_law_fill" "_law_fill" (defArgs s_law_fill) (defBody s_law_fill) (defScope s_law_fill) .none kV_law_fill dc_law_fill pm_law_fill an_law_fill cd_law_fill ct_law_fill), f_law_take := f_law_take, d_law_take := (PySem.W.fnOf "_law_take" "_law_take" (defArgs s_law_take) (defBody s_law_take) (defScope s_law_take) .none kV_law_take dc_law_take pm_law_take an_law_take cd_law_take ct_law_take), f_law_fresh := f_law_fresh, d_law_fresh := (PySem.W.fnOf "_law_fresh" "_law_fresh" (defArgs s_law_fresh) (defBody s_law_fresh) (defScope s_law_fresh) .none kV_law_fresh dc_law_fresh pm_law_fresh an_law_fresh cd_law_fresh ct_law_fresh), f_law_one := f_law_one, d_law_one := (PySem.W.fnOf "_law_one" "_law_one" (defArgs s_law_one) (defBody s_law_one) (defScope s_law_one) .none kV_law_one dc_law_one pm_law_one an_law_one cd_law_one ct_law_one), f_law_mix := f_law_mix, d_law_mix := (PySem.W.fnOf "_law_mix" "_law_mix" (defArgs s_law_mix) (defBody s_law_mix) (defScope s_law_mix) .none kV_law_mix dc_law_mix pm_law_mix an_law_mix cd_law_mix ct_law_mix), f_is_integer := f_is_integer, d_is_integer := (PySem.W.fnOf "is_integer" "is_integer" (defArgs s_is_integer) (defBody s_is_integer) (defScope s_is_integer) .none kV_is_integer dc_is_integer pm_is_integer an_is_integer cd_is_integer ct_is_integer), f_is_between := f_is_between, d_is_between := (PySem.W.fnOf "is_between" "is_between" (defArgs s_is_between) (defBody s_is_between) (defScope s_is_between) .none kV_is_between dc_is_between pm_is_between an_is_between cd_is_between ct_is_between), f_is_list := f_is_list, d_is_list := (PySem.W.fnOf "is_list" "is_list" (defArgs s_is_list) (defBody s_is_list) (defScope s_is_list) .none kV_is_list dc_is_list pm_is_list an_is_list cd_is_list ct_is_list), f_is_row := f_is_row, d_is_row := (PySem.W.fnOf "is_row" "is_row" (defArgs s_is_row) (defBody s_is_row) (defScope s_is_row) .none kV_is_row dc_is_row pm_is_row an_is_row cd_is_row ct_is_row), f_is_word := f_is_word, d_is_word := (PySem.W.fnOf "is_word" "is_word" (defArgs s_is_word) (defBody s_is_word) (defScope s_is_word) .none kV_is_word dc_is_word pm_is_word an_is_word cd_is_word ct_is_word), f_are_unlike := f_are_unlike, d_are_unlike := (PySem.W.fnOf "are_unlike" "are_unlike" (defArgs s_are_unlike) (defBody s_are_unlike) (defScope s_are_unlike) .none kV_are_unlike dc_are_unlike pm_are_unlike an_are_unlike cd_are_unlike ct_are_unlike), f_checked_fields := f_checked_fields, d_checked_fields := (PySem.W.fnOf "checked_fields" "checked_fields" (defArgs s_checked_fields) (defBody s_checked_fields) (defScope s_checked_fields) .none kV_checked_fields dc_checked_fields pm_checked_fields an_checked_fields cd_checked_fields ct_checked_fields), f_is_deed := f_is_deed, d_is_deed := (PySem.W.fnOf "is_deed" "is_deed" (defArgs s_is_deed) (defBody s_is_deed) (defScope s_is_deed) .none kV_is_deed dc_is_deed pm_is_deed an_is_deed cd_is_deed ct_is_deed), f_is_same := f_is_same, d_is_same := (PySem.W.fnOf "is_same" "is_same" (defArgs s_is_same) (defBody s_is_same) (defScope s_is_same) .none kV_is_same dc_is_same pm_is_same an_is_same cd_is_same ct_is_same), f_reason_against := f_reason_against, d_reason_against := (PySem.W.fnOf "reason_against" "reason_against" (defArgs s_reason_against) (defBody s_reason_against) (defScope s_reason_against) .none kV_reason_against dc_reason_against pm_reason_against an_reason_against cd_reason_against ct_reason_against), f_checked_calls := f_checked_calls, d_checked_calls := (PySem.W.fnOf "checked_calls" "checked_calls" (defArgs s_checked_calls) (defBody s_checked_calls) (defScope s_checked_calls) .none kV_checked_calls dc_checked_calls pm_checked_calls an_checked_calls cd_checked_calls ct_checked_calls), f_Kind___init__ := f_Kind___init__, d_Kind___init__ := (PySem.W.fnOf "__init__" "Kind.__init__" (defArgs s_Kind___init__) (defBody s_Kind___init__) (defScope s_Kind___init__) .none kV_Kind___init__ dc_Kind___init__ pm_Kind___init__ an_Kind___init__ cd_Kind___init__ ct_Kind___init__), f_law_plan := f_law_plan, d_law_plan := (PySem.W.fnOf "_law_plan" "_law_plan" (defArgs s_law_plan) (defBody s_law_plan) (defScope s_law_plan) .none kV_law_plan dc_law_plan pm_law_plan an_law_plan cd_law_plan ct_law_plan), f_law_deeds := f_law_deeds, d_law_deeds := (PySem.W.fnOf "_law_deeds" "_law_deeds" (defArgs s_law_deeds) (defBody s_law_deeds) (defScope s_law_deeds) .none kV_law_deeds dc_law_deeds pm_law_deeds an_law_deeds cd_law_deeds ct_law_deeds), f_law_call := f_law_call, d_law_call := (PySem.W.fnOf "_law_call" "_law_call" (defArgs s_law_call) (defBody s_law_call) (defScope s_law_call) .none kV_law_call dc_law_call pm_law_call an_law_call cd_law_call ct_law_call), f_law_kind := f_law_kind, d_law_kind := (PySem.W.fnOf "_law_kind" "_law_kind" (defArgs s_law_kind) (defBody s_law_kind) (defScope s_law_kind) .none kV_law_kind dc_law_kind pm_law_kind an_law_kind cd_law_kind ct_law_kind), f_law_same := f_law_same, d_law_same := (PySem.W.fnOf "_law_same" "_law_same" (defArgs s_law_same) (defBody s_law_same) (defScope s_law_same) .none kV_law_same dc_law_same pm_law_same an_law_same cd_law_same ct_law_same), f_does_take := f_does_take, d_does_take := (PySem.W.fnOf "does_take" "does_take" (defArgs s_does_take) (defBody s_does_take) (defScope s_does_take) .none kV_does_take dc_does_take pm_does_take an_does_take cd_does_take ct_does_take), f_Kind___contains__ := f_Kind___contains__, d_Kind___contains__ := (PySem.W.fnOf "__contains__" "Kind.__contains__" (defArgs s_Kind___contains__) (defBody s_Kind___contains__) (defScope s_Kind___contains__) .none kV_Kind___contains__ dc_Kind___contains__ pm_Kind___contains__ an_Kind___contains__ cd_Kind___contains__ ct_Kind___contains__), f_Kind___getitem__ := f_Kind___getitem__, d_Kind___getitem__ := (PySem.W.fnOf "__getitem__" "Kind.__getitem__" (defArgs s_Kind___getitem__) (defBody s_Kind___getitem__) (defScope s_Kind___getitem__) .none kV_Kind___getitem__ dc_Kind___getitem__ pm_Kind___getitem__ an_Kind___getitem__ cd_Kind___getitem__ ct_Kind___getitem__), f_Kind_number_of := f_Kind_number_of, d_Kind_number_of := (PySem.W.fnOf "number_of" "Kind.number_of" (defArgs s_Kind_number_of) (defBody s_Kind_number_of) (defScope s_Kind_number_of) .none kV_Kind_number_of dc_Kind_number_of pm_Kind_number_of an_Kind_number_of cd_Kind_number_of ct_Kind_number_of), f_Kind_takes := f_Kind_takes, d_Kind_takes := (PySem.W.fnOf "takes" "Kind.takes" (defArgs s_Kind_takes) (defBody s_Kind_takes) (defScope s_Kind_takes) .none kV_Kind_takes dc_Kind_takes pm_Kind_takes an_Kind_takes cd_Kind_takes ct_Kind_takes), f_is_list_o := f_is_list, d_is_list_o := (PySem.W.fnOf "is_list" "is_list" (defArgs s_is_list) (defBody s_is_list) (defScope s_is_list) .none kV_is_list dc_is_list pm_is_list an_is_list cd_is_list ct_is_list), f_is_last_row := f_is_last_row, d_is_last_row := (PySem.W.fnOf "is_last_row" "is_last_row" (defArgs s_is_last_row) (defBody s_is_last_row) (defScope s_is_last_row) .none kV_is_last_row dc_is_last_row pm_is_last_row an_is_last_row cd_is_last_row ct_is_last_row), f_is_call_row := f_is_call_row, d_is_call_row := (PySem.W.fnOf "is_call_row" "is_call_row" (defArgs s_is_call_row) (defBody s_is_call_row) (defScope s_is_call_row) .none kV_is_call_row dc_is_call_row pm_is_call_row an_is_call_row cd_is_call_row ct_is_call_row), f_checked_rows := f_checked_rows, d_checked_rows := (PySem.W.fnOf "checked_rows" "checked_rows" (defArgs s_checked_rows) (defBody s_checked_rows) (defScope s_checked_rows) .none kV_checked_rows dc_checked_rows pm_checked_rows an_checked_rows cd_checked_rows ct_checked_rows), f_Maker___init__ := f_Maker___init__, d_Maker___init__ := (PySem.W.fnOf "__init__" "Maker.__init__" (defArgs s_Maker___init__) (defBody s_Maker___init__) (defScope s_Maker___init__) .none kV_Maker___init__ dc_Maker___init__ pm_Maker___init__ an_Maker___init__ cd_Maker___init__ ct_Maker___init__), f_Store___init__ := f_Store___init__, d_Store___init__ := (PySem.W.fnOf "__init__" "Store.__init__" (defArgs s_Store___init__) (defBody s_Store___init__) (defScope s_Store___init__) .none kV_Store___init__ dc_Store___init__ pm_Store___init__ an_Store___init__ cd_Store___init__ ct_Store___init__), f_Store_keep := f_Store_keep, d_Store_keep := (PySem.W.fnOf "keep" "Store.keep" (defArgs s_Store_keep) (defBody s_Store_keep) (defScope s_Store_keep) .none kV_Store_keep dc_Store_keep pm_Store_keep an_Store_keep cd_Store_keep ct_Store_keep), f_Store_first_maker := f_Store_first_maker, d_Store_first_maker := (PySem.W.fnOf "first_maker" "Store.first_maker" (defArgs s_Store_first_maker) (defBody s_Store_first_maker) (defScope s_Store_first_maker) .none kV_Store_first_maker dc_Store_first_maker pm_Store_first_maker an_Store_first_maker cd_Store_first_maker ct_Store_first_maker), f_Store_copy := f_Store_copy, d_Store_copy := (PySem.W.fnOf "copy" "Store.copy" (defArgs s_Store_copy) (defBody s_Store_copy) (defScope s_Store_copy) .none kV_Store_copy dc_Store_copy pm_Store_copy an_Store_copy cd_Store_copy ct_Store_copy), f_Store_does := f_Store_does, d_Store_does := (PySem.W.fnOf "does" "Store.does" (defArgs s_Store_does) (defBody s_Store_does) (defScope s_Store_does) .none kV_Store_does dc_Store_does pm_Store_does an_Store_does cd_Store_does ct_Store_does), f_Store_told := f_Store_told, d_Store_told := (PySem.W.fnOf "told" "Store.told" (defArgs s_Store_told) (defBody s_Store_told) (defScope s_Store_told) .none kV_Store_told dc_Store_told pm_Store_told an_Store_told cd_Store_told ct_Store_told), f_Run_do_row := f_Run_do_row, d_Run_do_row := (PySem.W.fnOf "do_row" "Run.do_row" (defArgs s_Run_do_row) (defBody s_Run_do_row) (defScope s_Run_do_row) .none kV_Run_do_row dc_Run_do_row pm_Run_do_row an_Run_do_row cd_Run_do_row ct_Run_do_row), f_Run___init__ := f_Run___init__, d_Run___init__ := (PySem.W.fnOf "__init__" "Run.__init__" (defArgs s_Run___init__) (defBody s_Run___init__) (defScope s_Run___init__) (.ref tt_Run___init__) kV_Run___init__ dc_Run___init__ pm_Run___init__ an_Run___init__ cd_Run___init__ ct_Run___init__), e_Run___init__ := ee_Run___init__, f_Run_is_onward := f_Run_is_onward, d_Run_is_onward := (PySem.W.fnOf "is_onward" "Run.is_onward" (defArgs s_Run_is_onward) (defBody s_Run_is_onward) (defScope s_Run_is_onward) .none kV_Run_is_onward dc_Run_is_onward pm_Run_is_onward an_Run_is_onward cd_Run_is_onward ct_Run_is_onward), f_law_row_of := f_law_row_of, d_law_row_of := (PySem.W.fnOf "_law_row_of" "_law_row_of" (defArgs s_law_row_of) (defBody s_law_row_of) (defScope s_law_row_of) .none kV_law_row_of dc_law_row_of pm_law_row_of an_law_row_of cd_law_row_of ct_law_row_of), f_law_takes := f_law_takes, d_law_takes := (PySem.W.fnOf "_law_takes" "_law_takes" (defArgs s_law_takes) (defBody s_law_takes) (defScope s_law_takes) .none kV_law_takes dc_law_takes pm_law_takes an_law_takes cd_law_takes ct_law_takes), f_law_callable := f_law_callable, d_law_callable := (PySem.W.fnOf "_law_callable" "_law_callable" (defArgs s_law_callable) (defBody s_law_callable) (defScope s_law_callable) .none kV_law_callable dc_law_callable pm_law_callable an_law_callable cd_law_callable ct_law_callable), f_law_callable_o := f_law_callable, d_law_callable_o := (PySem.W.fnOf "_law_callable" "_law_callable" (defArgs s_law_callable) (defBody s_law_callable) (defScope s_law_callable) .none kV_law_callable dc_law_callable pm_law_callable an_law_callable cd_law_callable ct_law_callable), f_law_program := f_law_program, d_law_program := (PySem.W.fnOf "_law_program" "_law_program" (defArgs s_law_program) (defBody s_law_program) (defScope s_law_program) .none kV_law_program dc_law_program pm_law_program an_law_program cd_law_program ct_law_program), f_law_onward := f_law_onward, d_law_onward := (PySem.W.fnOf "_law_onward" "_law_onward" (defArgs s_law_onward) (defBody s_law_onward) (defScope s_law_onward) .none kV_law_onward dc_law_onward pm_law_onward an_law_onward cd_law_onward ct_law_onward), f_law_is_onward := f_law_is_onward, d_law_is_onward := (PySem.W.fnOf "_law_is_onward" "_law_is_onward" (defArgs s_law_is_onward) (defBody s_law_is_onward) (defScope s_law_is_onward) .none kV_law_is_onward dc_law_is_onward pm_law_is_onward an_law_is_onward cd_law_is_onward ct_law_is_onward), f_law := f_law, d_law := (PySem.W.fnOf "law" "law" (defArgs s_law) (defBody s_law) (defScope s_law) .none kV_law dc_law pm_law an_law cd_law ct_law) } := {
    n_len := PySem.W.mg_none_of X G pn_len
    n_int := PySem.W.mg_none_of X G pn_int
    n_str := PySem.W.mg_none_of X G pn_str
    n_bool := PySem.W.mg_none_of X G pn_bool
    n_list := PySem.W.mg_none_of X G pn_list
    n_tuple := PySem.W.mg_none_of X G pn_tuple
    n_range := PySem.W.mg_none_of X G pn_range
    n_enumerate := PySem.W.mg_none_of X G pn_enumerate
    n_zip := PySem.W.mg_none_of X G pn_zip
    n_isinstance := PySem.W.mg_none_of X G pn_isinstance
    n_all := PySem.W.mg_none_of X G pn_all
    n_any := PySem.W.mg_none_of X G pn_any
    cl_Kind := ⟨pc_Kind, pd_Kind, po_Kind, ps_Kind⟩
    cl_Maker := ⟨pc_Maker, pd_Maker, po_Maker, ps_Maker⟩
    cl_Run := ⟨pc_Run, pd_Run, po_Run, ps_Run⟩
    cl_Store := ⟨pc_Store, pd_Store, po_Store, ps_Store⟩
    g_DEEDS := (PySem.W.mg_of X G pg_DEEDS)
    g_HANDS := (PySem.W.mg_of X G pg_HANDS)
    g_Kind := (PySem.W.mg_of X G pg_Kind)
    g_LETTERS := PySem.W.mg_of X G pg_LETTERS
    g_LONGEST := PySem.W.mg_of X G pg_LONGEST
    g_MOST_CALLS := PySem.W.mg_of X G pg_MOST_CALLS
    g_MOST_DEEDS := PySem.W.mg_of X G pg_MOST_DEEDS
    g_MOST_FIELDS := PySem.W.mg_of X G pg_MOST_FIELDS
    g_MOST_MODES := PySem.W.mg_of X G pg_MOST_MODES
    g_Maker := (PySem.W.mg_of X G pg_Maker)
    g_Run := (PySem.W.mg_of X G pg_Run)
    g_Store := (PySem.W.mg_of X G pg_Store)
    g_TAKING := (PySem.W.mg_of X G pg_TAKING)
    kd_many := ⟨es_DEEDS, n_DEEDS, _, pl_DEEDS, He.keysLit_of pw_DEEDS, pd_many, rfl⟩
    kd_one := ⟨es_DEEDS, n_DEEDS, _, pl_DEEDS, He.keysLit_of pw_DEEDS, pd_one, rfl⟩
    mk_Kind := ⟨pm_Kind, pa_Kind___init__, pi_Kind___init__, pk_Kind⟩
    mk_Maker := ⟨pm_Maker, pa_Maker___init__, pi_Maker___init__, pk_Maker⟩
    mk_Run := ⟨pm_Run, pa_Run___init__, pi_Run___init__, pk_Run⟩
    mk_Store := ⟨pm_Store, pa_Store___init__, pi_Store___init__, pk_Store⟩
    na_Kind_call_rows := pna_Kind_call_rows
    na_Kind_field_rows := pna_Kind_field_rows
    na_Kind_modes := pna_Kind_modes
    na_Kind_name_list := pna_Kind_name_list
    na_Kind_sorts := pna_Kind_sorts
    na_Maker_mode := pna_Maker_mode
    na_Maker_slots := pna_Maker_slots
    na_Run_handed := pna_Run_handed
    na_Run_kind := pna_Run_kind
    na_Run_made_contents := pna_Run_made_contents
    na_Run_row_list := pna_Run_row_list
    na_Run_store := pna_Run_store
    na_Store_kind := pna_Store_kind
    na_Store_lists := pna_Store_lists
    og_Kind := ⟨pa_Kind___getitem__, pfi_Kind, pi_Kind___getitem__⟩
    on_Kind := ⟨pa_Kind___contains__, pi_Kind___contains__⟩
    w_DEEDS_many := fun st G => at_strT pl_DEEDS_many rfl (show 4 ≤ sizeLine by decide) (.cons ⟨_, rfl⟩ (.cons ⟨_, rfl⟩ (.cons ⟨_, rfl⟩ (.cons ⟨_, rfl⟩ .nil))))
    w_DEEDS_one := fun st G => at_strT pl_DEEDS_one rfl (show 2 ≤ sizeLine by decide) (.cons ⟨_, rfl⟩ (.cons ⟨_, rfl⟩ .nil))
    w_HANDS := fun st G => at_strT pl_HANDS rfl (show 3 ≤ sizeLine by decide) (.cons ⟨_, rfl⟩ (.cons ⟨_, rfl⟩ (.cons ⟨_, rfl⟩ .nil)))
    w_TAKING := fun st G => at_strT pl_TAKING rfl (show 3 ≤ sizeLine by decide) (.cons ⟨_, rfl⟩ (.cons ⟨_, rfl⟩ (.cons ⟨_, rfl⟩ .nil)))
    F_law_fill := fun_mk (st := s_law_fill) pl_law_fill pq_law_fill pk_law_fill
    m_law_fill := PySem.W.mg_of X G pa_law_fill
    b_law_fill := (fun_mk (st := s_law_fill) pl_law_fill pq_law_fill pk_law_fill).binds fun _ _ _ _ _ _ us hl => match us, hl with | [_], _ => rfl
    F_law_take := fun_mk (st := s_law_take) pl_law_take pq_law_take pk_law_take
    m_law_take := PySem.W.mg_of X G pa_law_take
    b_law_take := (fun_mk (st := s_law_take) pl_law_take pq_law_take pk_law_take).binds fun _ _ _ _ _ _ us hl => match us, hl with | [_, _], _ => rfl
    F_law_fresh := fun_mk (st := s_law_fresh) pl_law_fresh pq_law_fresh pk_law_fresh
    m_law_fresh := PySem.W.mg_of X G pa_law_fresh
    b_law_fresh := (fun_mk (st := s_law_fresh) pl_law_fresh pq_law_fresh pk_law_fresh).binds fun _ _ _ _ _ _ us hl => match us, hl with | [_], _ => rfl
    F_law_one := fun_mk (st := s_law_one) pl_law_one pq_law_one pk_law_one
    m_law_one := PySem.W.mg_of X G pa_law_one
    b_law_one := (fun_mk (st := s_law_one) pl_law_one pq_law_one pk_law_one).binds fun _ _ _ _ _ _ us hl => match us, hl with | [_, _], _ => rfl
    F_law_mix := fun_mk (st := s_law_mix) pl_law_mix pq_law_mix pk_law_mix
    m_law_mix := PySem.W.mg_of X G pa_law_mix
    b_law_mix := (fun_mk (st := s_law_mix) pl_law_mix pq_law_mix pk_law_mix).binds fun _ _ _ _ _ _ us hl => match us, hl with | [_, _], _ => rfl
    F_is_integer := fun_mk (st := s_is_integer) pl_is_integer pq_is_integer pk_is_integer
    m_is_integer := PySem.W.mg_of X G pa_is_integer
    b_is_integer := (fun_mk (st := s_is_integer) pl_is_integer pq_is_integer pk_is_integer).binds fun _ _ _ _ _ _ us hl => match us, hl with | [_], _ => rfl
    F_is_between := fun_mk (st := s_is_between) pl_is_between pq_is_between pk_is_between
    m_is_between := PySem.W.mg_of X G pa_is_between
    b_is_between := (fun_mk (st := s_is_between) pl_is_between pq_is_between pk_is_between).binds fun _ _ _ _ _ _ us hl => match us, hl with | [_, _, _], _ => rfl
    F_is_list := fun_mk (st := s_is_list) pl_is_list pq_is_list pk_is_list
    m_is_list := PySem.W.mg_of X G pa_is_list
    b_is_list := (fun_mk (st := s_is_list) pl_is_list pq_is_list pk_is_list).binds fun _ _ _ _ _ _ us hl => match us, hl with | [_], _ => rfl
    F_is_row := fun_mk (st := s_is_row) pl_is_row pq_is_row pk_is_row
    m_is_row := PySem.W.mg_of X G pa_is_row
    b_is_row := (fun_mk (st := s_is_row) pl_is_row pq_is_row pk_is_row).binds fun _ _ _ _ _ _ us hl => match us, hl with | [_, _], _ => rfl
    F_is_word := fun_mk (st := s_is_word) pl_is_word pq_is_word pk_is_word
    m_is_word := PySem.W.mg_of X G pa_is_word
    b_is_word := (fun_mk (st := s_is_word) pl_is_word pq_is_word pk_is_word).binds fun _ _ _ _ _ _ us hl => match us, hl with | [_], _ => rfl
    F_are_unlike := fun_mk (st := s_are_unlike) pl_are_unlike pq_are_unlike pk_are_unlike
    m_are_unlike := PySem.W.mg_of X G pa_are_unlike
    b_are_unlike := (fun_mk (st := s_are_unlike) pl_are_unlike pq_are_unlike pk_are_unlike).binds fun _ _ _ _ _ _ us hl => match us, hl with | [_], _ => rfl
    F_checked_fields := fun_mk (st := s_checked_fields) pl_checked_fields pq_checked_fields pk_checked_fields
    m_checked_fields := PySem.W.mg_of X G pa_checked_fields
    b_checked_fields := (fun_mk (st := s_checked_fields) pl_checked_fields pq_checked_fields pk_checked_fields).binds fun _ _ _ _ _ _ us hl => match us, hl with | [_], _ => rfl
    F_is_deed := fun_mk (st := s_is_deed) pl_is_deed pq_is_deed pk_is_deed
    m_is_deed := PySem.W.mg_of X G pa_is_deed
    b_is_deed := (fun_mk (st := s_is_deed) pl_is_deed pq_is_deed pk_is_deed).binds fun _ _ _ _ _ _ us hl => match us, hl with | [_, _], _ => rfl
    F_is_same := fun_mk (st := s_is_same) pl_is_same pq_is_same pk_is_same
    m_is_same := PySem.W.mg_of X G pa_is_same
    b_is_same := (fun_mk (st := s_is_same) pl_is_same pq_is_same pk_is_same).binds fun _ _ _ _ _ _ us hl => match us, hl with | [_, _, _], _ => rfl
    F_reason_against := fun_mk (st := s_reason_against) pl_reason_against pq_reason_against pk_reason_against
    m_reason_against := PySem.W.mg_of X G pa_reason_against
    b_reason_against := (fun_mk (st := s_reason_against) pl_reason_against pq_reason_against pk_reason_against).binds fun _ _ _ _ _ _ us hl => match us, hl with | [_, _, _, _], _ => rfl
    F_checked_calls := fun_mk (st := s_checked_calls) pl_checked_calls pq_checked_calls pk_checked_calls
    m_checked_calls := PySem.W.mg_of X G pa_checked_calls
    b_checked_calls := (fun_mk (st := s_checked_calls) pl_checked_calls pq_checked_calls pk_checked_calls).binds fun _ _ _ _ _ _ us hl => match us, hl with | [_, _, _], _ => rfl
    F_Kind___init__ := fun_mk (st := s_Kind___init__) pl_Kind___init__ pq_Kind___init__ pk_Kind___init__
    kb_Kind___init__ := ⟨fun s us ws _ h1 h2 => match us, ws, h1, h2 with | [_, _, _], [_], _, _ => .of_eq rfl, fun r1 r2 => r1.append r2⟩
    F_law_plan := fun_mk (st := s_law_plan) pl_law_plan pq_law_plan pk_law_plan
    m_law_plan := PySem.W.mg_of X G pa_law_plan
    b_law_plan := (fun_mk (st := s_law_plan) pl_law_plan pq_law_plan pk_law_plan).binds fun _ _ _ _ _ _ us hl => match us, hl with | [_, _, _], _ => rfl
    F_law_deeds := fun_mk (st := s_law_deeds) pl_law_deeds pq_law_deeds pk_law_deeds
    m_law_deeds := PySem.W.mg_of X G pa_law_deeds
    b_law_deeds := (fun_mk (st := s_law_deeds) pl_law_deeds pq_law_deeds pk_law_deeds).binds fun _ _ _ _ _ _ us hl => match us, hl with | [_, _, _], _ => rfl
    F_law_call := fun_mk (st := s_law_call) pl_law_call pq_law_call pk_law_call
    m_law_call := PySem.W.mg_of X G pa_law_call
    b_law_call := (fun_mk (st := s_law_call) pl_law_call pq_law_call pk_law_call).binds fun _ _ _ _ _ _ us hl => match us, hl with | [_, _, _, _, _], _ => rfl
    F_law_kind := fun_mk (st := s_law_kind) pl_law_kind pq_law_kind pk_law_kind
    m_law_kind := PySem.W.mg_of X G pa_law_kind
    b_law_kind := (fun_mk (st := s_law_kind) pl_law_kind pq_law_kind pk_law_kind).binds fun _ _ _ _ _ _ us hl => match us, hl with | [_, _, _, _], _ => rfl
    F_law_same := fun_mk (st := s_law_same) pl_law_same pq_law_same pk_law_same
    m_law_same := PySem.W.mg_of X G pa_law_same
    b_law_same := (fun_mk (st := s_law_same) pl_law_same pq_law_same pk_law_same).binds fun _ _ _ _ _ _ us hl => match us, hl with | [_, _], _ => rfl
    F_does_take := fun_mk (st := s_does_take) pl_does_take pq_does_take pk_does_take
    m_does_take := PySem.W.mg_of X G pa_does_take
    b_does_take := (fun_mk (st := s_does_take) pl_does_take pq_does_take pk_does_take).binds fun _ _ _ _ _ _ us hl => match us, hl with | [_], _ => rfl
    F_Kind___contains__ := fun_mk (st := s_Kind___contains__) pl_Kind___contains__ pq_Kind___contains__ pk_Kind___contains__
    b_Kind___contains__ := (fun_mk (st := s_Kind___contains__) pl_Kind___contains__ pq_Kind___contains__ pk_Kind___contains__).binds fun _ _ _ _ _ _ us hl => match us, hl with | [_, _], _ => rfl
    F_Kind___getitem__ := fun_mk (st := s_Kind___getitem__) pl_Kind___getitem__ pq_Kind___getitem__ pk_Kind___getitem__
    b_Kind___getitem__ := (fun_mk (st := s_Kind___getitem__) pl_Kind___getitem__ pq_Kind___getitem__ pk_Kind___getitem__).binds fun _ _ _ _ _ _ us hl => match us, hl with | [_, _], _ => rfl
    F_Kind_number_of := fun_mk (st := s_Kind_number_of) pl_Kind_number_of pq_Kind_number_of pk_Kind_number_of
    b_Kind_number_of := (fun_mk (st := s_Kind_number_of) pl_Kind_number_of pq_Kind_number_of pk_Kind_number_of).binds fun _ _ _ _ _ _ us hl => match us, hl with | [_, _], _ => rfl
    me_Kind_number_of := ⟨pa_Kind_number_of, pi_Kind_number_of, pk_Kind_number_of⟩
    F_Kind_takes := fun_mk (st := s_Kind_takes) pl_Kind_takes pq_Kind_takes pk_Kind_takes
    b_Kind_takes := (fun_mk (st := s_Kind_takes) pl_Kind_takes pq_Kind_takes pk_Kind_takes).binds fun _ _ _ _ _ _ us hl => match us, hl with | [_, _], _ => rfl
    me_Kind_takes := ⟨pa_Kind_takes, pi_Kind_takes, pk_Kind_takes⟩
    F_is_list_o := fun_mk (st := s_is_list) pl_is_list pq_is_list pk_is_list
    m_is_list_o := PySem.W.mg_of X G pa_is_list
    b_is_list_o := (fun_mk (st := s_is_list) pl_is_list pq_is_list pk_is_list).binds fun _ _ _ _ _ _ us hl => match us, hl with | [_], _ => rfl
    F_is_last_row := fun_mk (st := s_is_last_row) pl_is_last_row pq_is_last_row pk_is_last_row
    m_is_last_row := PySem.W.mg_of X G pa_is_last_row
    b_is_last_row := (fun_mk (st := s_is_last_row) pl_is_last_row pq_is_last_row pk_is_last_row).binds fun _ _ _ _ _ _ us hl => match us, hl with | [_, _], _ => rfl
    F_is_call_row := fun_mk (st := s_is_call_row) pl_is_call_row pq_is_call_row pk_is_call_row
    m_is_call_row := PySem.W.mg_of X G pa_is_call_row
    b_is_call_row := (fun_mk (st := s_is_call_row) pl_is_call_row pq_is_call_row pk_is_call_row).binds fun _ _ _ _ _ _ us hl => match us, hl with | [_, _, _], _ => rfl
    F_checked_rows := fun_mk (st := s_checked_rows) pl_checked_rows pq_checked_rows pk_checked_rows
    m_checked_rows := PySem.W.mg_of X G pa_checked_rows
    b_checked_rows := (fun_mk (st := s_checked_rows) pl_checked_rows pq_checked_rows pk_checked_rows).binds fun _ _ _ _ _ _ us hl => match us, hl with | [_, _, _], _ => rfl
    F_Maker___init__ := fun_mk (st := s_Maker___init__) pl_Maker___init__ pq_Maker___init__ pk_Maker___init__
    b_Maker___init__ := (fun_mk (st := s_Maker___init__) pl_Maker___init__ pq_Maker___init__ pk_Maker___init__).binds fun _ _ _ _ _ _ us hl => match us, hl with | [_, _, _], _ => rfl
    F_Store___init__ := fun_mk (st := s_Store___init__) pl_Store___init__ pq_Store___init__ pk_Store___init__
    b_Store___init__ := (fun_mk (st := s_Store___init__) pl_Store___init__ pq_Store___init__ pk_Store___init__).binds fun _ _ _ _ _ _ us hl => match us, hl with | [_, _], _ => rfl
    F_Store_keep := fun_mk (st := s_Store_keep) pl_Store_keep pq_Store_keep pk_Store_keep
    b_Store_keep := (fun_mk (st := s_Store_keep) pl_Store_keep pq_Store_keep pk_Store_keep).binds fun _ _ _ _ _ _ us hl => match us, hl with | [_, _], _ => rfl
    me_Store_keep := ⟨pa_Store_keep, pi_Store_keep, pk_Store_keep⟩
    F_Store_first_maker := fun_mk (st := s_Store_first_maker) pl_Store_first_maker pq_Store_first_maker pk_Store_first_maker
    b_Store_first_maker := (fun_mk (st := s_Store_first_maker) pl_Store_first_maker pq_Store_first_maker pk_Store_first_maker).binds fun _ _ _ _ _ _ us hl => match us, hl with | [_], _ => rfl
    me_Store_first_maker := ⟨pa_Store_first_maker, pi_Store_first_maker, pk_Store_first_maker⟩
    F_Store_copy := fun_mk (st := s_Store_copy) pl_Store_copy pq_Store_copy pk_Store_copy
    b_Store_copy := (fun_mk (st := s_Store_copy) pl_Store_copy pq_Store_copy pk_Store_copy).binds fun _ _ _ _ _ _ us hl => match us, hl with | [_, _, _, _], _ => rfl
    me_Store_copy := ⟨pa_Store_copy, pi_Store_copy, pk_Store_copy⟩
    F_Store_does := fun_mk (st := s_Store_does) pl_Store_does pq_Store_does pk_Store_does
    b_Store_does := (fun_mk (st := s_Store_does) pl_Store_does pq_Store_does pk_Store_does).binds fun _ _ _ _ _ _ us hl => match us, hl with | [_, _, _, _], _ => rfl
    me_Store_does := ⟨pa_Store_does, pi_Store_does, pk_Store_does⟩
    F_Store_told := fun_mk (st := s_Store_told) pl_Store_told pq_Store_told pk_Store_told
    b_Store_told := (fun_mk (st := s_Store_told) pl_Store_told pq_Store_told pk_Store_told).binds fun _ _ _ _ _ _ us hl => match us, hl with | [_, _], _ => rfl
    me_Store_told := ⟨pa_Store_told, pi_Store_told, pk_Store_told⟩
    F_Run_do_row := fun_mk (st := s_Run_do_row) pl_Run_do_row pq_Run_do_row pk_Run_do_row
    b_Run_do_row := (fun_mk (st := s_Run_do_row) pl_Run_do_row pq_Run_do_row pk_Run_do_row).binds fun _ _ _ _ _ _ us hl => match us, hl with | [_, _, _], _ => rfl
    me_Run_do_row := ⟨pa_Run_do_row, pi_Run_do_row, pk_Run_do_row⟩
    F_Run___init__ := funX_mk (st := s_Run___init__) pl_Run___init__ pq_Run___init__ pk_Run___init__ pt_Run___init__
    bd_Run___init__ := binds_dfl (FunD.binds1 (ps := ["self", "kind", "rows"]) (funX_mk (st := s_Run___init__) pl_Run___init__ pq_Run___init__ pk_Run___init__ pt_Run___init__) 2 0 (by simp) (by rfl) fun T kV doc pm an cdv ct us its h1 h2 => match us, its, h1, h2 with | [_, _], [_], _, _ => ⟨_, rfl, rfl⟩)
    we_Run___init__ := fun st G => at_strT (ss := []) pe_Run___init__ rfl (by decide) .nil
    b_Run___init__ := binds_all (funX_mk (st := s_Run___init__) pl_Run___init__ pq_Run___init__ pk_Run___init__ pt_Run___init__) (FunD.binds1 (ps := ["self", "kind", "rows"]) (funX_mk (st := s_Run___init__) pl_Run___init__ pq_Run___init__ pk_Run___init__ pt_Run___init__) 3 1 (by simp) (by rfl) fun T kV doc pm an cdv ct us its h1 h2 => match us, its, h1, h2 with | [_, _, _], [_], _, _ => ⟨_, rfl, rfl⟩)
    F_Run_is_onward := fun_mk (st := s_Run_is_onward) pl_Run_is_onward pq_Run_is_onward pk_Run_is_onward
    b_Run_is_onward := (fun_mk (st := s_Run_is_onward) pl_Run_is_onward pq_Run_is_onward pk_Run_is_onward).binds fun _ _ _ _ _ _ us hl => match us, hl with | [_], _ => rfl
    me_Run_is_onward := ⟨pa_Run_is_onward, pi_Run_is_onward, pk_Run_is_onward⟩
    F_law_row_of := fun_mk (st := s_law_row_of) pl_law_row_of pq_law_row_of pk_law_row_of
    m_law_row_of := PySem.W.mg_of X G pa_law_row_of
    b_law_row_of := (fun_mk (st := s_law_row_of) pl_law_row_of pq_law_row_of pk_law_row_of).binds fun _ _ _ _ _ _ us hl => match us, hl with | [_, _], _ => rfl
    F_law_takes := fun_mk (st := s_law_takes) pl_law_takes pq_law_takes pk_law_takes
    m_law_takes := PySem.W.mg_of X G pa_law_takes
    b_law_takes := (fun_mk (st := s_law_takes) pl_law_takes pq_law_takes pk_law_takes).binds fun _ _ _ _ _ _ us hl => match us, hl with | [_], _ => rfl
    F_law_callable := fun_mk (st := s_law_callable) pl_law_callable pq_law_callable pk_law_callable
    m_law_callable := PySem.W.mg_of X G pa_law_callable
    b_law_callable := (fun_mk (st := s_law_callable) pl_law_callable pq_law_callable pk_law_callable).binds fun _ _ _ _ _ _ us hl => match us, hl with | [_, _], _ => rfl
    F_law_callable_o := fun_mk (st := s_law_callable) pl_law_callable pq_law_callable pk_law_callable
    m_law_callable_o := PySem.W.mg_of X G pa_law_callable
    b_law_callable_o := (fun_mk (st := s_law_callable) pl_law_callable pq_law_callable pk_law_callable).binds fun _ _ _ _ _ _ us hl => match us, hl with | [_, _], _ => rfl
    F_law_program := fun_mk (st := s_law_program) pl_law_program pq_law_program pk_law_program
    m_law_program := PySem.W.mg_of X G pa_law_program
    b_law_program := (fun_mk (st := s_law_program) pl_law_program pq_law_program pk_law_program).binds fun _ _ _ _ _ _ us hl => match us, hl with | [_, _, _, _], _ => rfl
    F_law_onward := fun_mk (st := s_law_onward) pl_law_onward pq_law_onward pk_law_onward
    m_law_onward := PySem.W.mg_of X G pa_law_onward
    b_law_onward := (fun_mk (st := s_law_onward) pl_law_onward pq_law_onward pk_law_onward).binds fun _ _ _ _ _ _ us hl => match us, hl with | [_, _, _], _ => rfl
    F_law_is_onward := fun_mk (st := s_law_is_onward) pl_law_is_onward pq_law_is_onward pk_law_is_onward
    m_law_is_onward := PySem.W.mg_of X G pa_law_is_onward
    b_law_is_onward := (fun_mk (st := s_law_is_onward) pl_law_is_onward pq_law_is_onward pk_law_is_onward).binds fun _ _ _ _ _ _ us hl => match us, hl with | [_, _], _ => rfl
    F_law := fun_mk (st := s_law) pl_law pq_law pk_law
    m_law := PySem.W.mg_of X G pa_law
  }
  exact ⟨_, fun s v => .of_eq rfl, fun base _ _ => ok_law T ⟩
theorem walk {l : PySem.W.OpenLaw} {q : Program} {loose : List Str} {XP : (Str → Option Value) → Heap → Prop} {YP : World → Heap → Prop} {d : DefRec} {K : Params → PySem.W.Frag} (hn : l.most = some 63) (hdf : d.params.defaults = [])
    (hY : ∀ (w : World) (h : Heap), YP w h → (K w.params).In h)
    (F : ∀ (w : World) (mg : Str → Option Value) (fa : Addr) (h : Heap), (K w.params).In h → h.Ns mainGlobals mg → mg d.name = some (.ref fa) →
      ∃ fd : FuncData, (∀ (s : Shared) (u : Value), BindsTo s fd ⟨[u], []⟩ [("_law_script", u)]) ∧ ∀ base : Heap, (K w.params).In base → base.Ns mainGlobals mg → FnOk l.prog w (K w.params) mg base CX0 10 fa fd ["_law_script"] (spLaw (K w.params))) :
    PySem.W.WalkO q loose XP YP l.row.toRowW d [] (fun f vs => PySem.call f vs) :=
  L2.walk_of (n := 63) (k := 10) (x := "_law_script") (CX := fun _ => CX0) (sp := fun w => spLaw (K w.params)) hn (by decide) hdf ⟨rfl, by decide, by decide⟩ hY F (fun _ _ a ns hl _ hS => ⟨a, ns, rfl, hS, hl, fun _ => rfl⟩) fun _ _ _ _ _ z => z
end Mz
end
section
set_option Elab.async false
set_option linter.all false
set_option maxRecDepth 100000
set_option maxHeartbeats 4000000
open PySem PySem.W PyProof.Rows
set_option maxRecDepth 100000 in
set_option maxHeartbeats 0 in
theorem PySem.Challenge.cw_makerlines_k12_onward_programs_holds : PySem.Challenge.rw_makerlines_k12_onward_programs.Holds := by
  w_on; o_law; k_head; (case hw => w_witness2)
  k_fill
  refine Mz.walk (l := PySem.Challenge.rw_makerlines_k12_onward_programs) rfl rfl (fun w h Y => PySem.W.kIn_of Y) ?F
  case F =>
    intro w mg fa h KX G hmg
    refine' Mz.all_mk KX G hmg ?pg_DEEDS ?pg_HANDS ?pg_Kind ?pg_LETTERS ?pg_LONGEST ?pg_MOST_CALLS ?pg_MOST_DEEDS ?pg_MOST_FIELDS ?pg_MOST_MODES ?pg_Maker ?pg_Run ?pg_Store ?pg_TAKING ?pn_len ?pn_int ?pn_str ?pn_bool ?pn_list ?pn_tuple ?pn_range ?pn_enumerate ?pn_zip ?pn_isinstance ?pn_all ?pn_any ?pc_Kind ?pd_Kind ?po_Kind ?ps_Kind ?pc_Maker ?pd_Maker ?po_Maker ?ps_Maker ?pc_Run ?pd_Run ?po_Run ?ps_Run ?pc_Store ?pd_Store ?po_Store ?ps_Store ?pa_law_fill ?pl_law_fill ?pq_law_fill ?pk_law_fill ?pa_law_take ?pl_law_take ?pq_law_take ?pk_law_take ?pa_law_fresh ?pl_law_fresh ?pq_law_fresh ?pk_law_fresh ?pa_law_one ?pl_law_one ?pq_law_one ?pk_law_one ?pa_law_mix ?pl_law_mix ?pq_law_mix ?pk_law_mix ?pa_is_integer ?pl_is_integer ?pq_is_integer ?pk_is_integer ?pa_is_between ?pl_is_between ?pq_is_between ?pk_is_between ?pa_is_list ?pl_is_list ?pq_is_list ?pk_is_list ?pa_is_row ?pl_is_row ?pq_is_row ?pk_is_row ?pa_is_word ?pl_is_word ?pq_is_word ?pk_is_word ?pa_are_unlike ?pl_are_unlike ?pq_are_unlike ?pk_are_unlike ?pa_checked_fields ?pl_checked_fields ?pq_checked_fields ?pk_checked_fields ?pa_is_deed ?pl_is_deed ?pq_is_deed ?pk_is_deed ?pa_is_same ?pl_is_same ?pq_is_same ?pk_is_same ?pa_reason_against ?pl_reason_against ?pq_reason_against ?pk_reason_against ?pa_checked_calls ?pl_checked_calls ?pq_checked_calls ?pk_checked_calls ?pa_Kind___init__ ?pi_Kind___init__ ?pl_Kind___init__ ?pq_Kind___init__ ?pk_Kind___init__ ?pa_law_plan ?pl_law_plan ?pq_law_plan ?pk_law_plan ?pa_law_deeds ?pl_law_deeds ?pq_law_deeds ?pk_law_deeds ?pa_law_call ?pl_law_call ?pq_law_call ?pk_law_call ?pa_law_kind ?pl_law_kind ?pq_law_kind ?pk_law_kind ?pa_law_same ?pl_law_same ?pq_law_same ?pk_law_same ?pa_does_take ?pl_does_take ?pq_does_take ?pk_does_take ?pa_Kind___contains__ ?pi_Kind___contains__ ?pl_Kind___contains__ ?pq_Kind___contains__ ?pk_Kind___contains__ ?pa_Kind___getitem__ ?pi_Kind___getitem__ ?pl_Kind___getitem__ ?pq_Kind___getitem__ ?pk_Kind___getitem__ ?pa_Kind_number_of ?pi_Kind_number_of ?pl_Kind_number_of ?pq_Kind_number_of ?pk_Kind_number_of ?pa_Kind_takes ?pi_Kind_takes ?pl_Kind_takes ?pq_Kind_takes ?pk_Kind_takes ?pa_is_last_row ?pl_is_last_row ?pq_is_last_row ?pk_is_last_row ?pa_is_call_row ?pl_is_call_row ?pq_is_call_row ?pk_is_call_row ?pa_checked_rows ?pl_checked_rows ?pq_checked_rows ?pk_checked_rows ?pa_Maker___init__ ?pi_Maker___init__ ?pl_Maker___init__ ?pq_Maker___init__ ?pk_Maker___init__ ?pa_Store___init__ ?pi_Store___init__ ?pl_Store___init__ ?pq_Store___init__ ?pk_Store___init__ ?pa_Store_keep ?pi_Store_keep ?pl_Store_keep ?pq_Store_keep ?pk_Store_keep ?pa_Store_first_maker ?pi_Store_first_maker ?pl_Store_first_maker ?pq_Store_first_maker ?pk_Store_first_maker ?pa_Store_copy ?pi_Store_copy ?pl_Store_copy ?pq_Store_copy ?pk_Store_copy ?pa_Store_does ?pi_Store_does ?pl_Store_does ?pq_Store_does ?pk_Store_does ?pa_Store_told ?pi_Store_told ?pl_Store_told ?pq_Store_told ?pk_Store_told ?pa_Run_do_row ?pi_Run_do_row ?pl_Run_do_row ?pq_Run_do_row ?pk_Run_do_row ?pa_Run___init__ ?pi_Run___init__ ?pl_Run___init__ ?pq_Run___init__ ?pk_Run___init__ ?pt_Run___init__ ?pe_Run___init__ ?pa_Run_is_onward ?pi_Run_is_onward ?pl_Run_is_onward ?pq_Run_is_onward ?pk_Run_is_onward ?pa_law_row_of ?pl_law_row_of ?pq_law_row_of ?pk_law_row_of ?pa_law_takes ?pl_law_takes ?pq_law_takes ?pk_law_takes ?pa_law_callable ?pl_law_callable ?pq_law_callable ?pk_law_callable ?pa_law_program ?pl_law_program ?pq_law_program ?pk_law_program ?pa_law_onward ?pl_law_onward ?pq_law_onward ?pk_law_onward ?pa_law_is_onward ?pl_law_is_onward ?pq_law_is_onward ?pk_law_is_onward ?pa_law ?pl_law ?pq_law ?pk_law ?pm_Kind ?pk_Kind ?pm_Maker ?pk_Maker ?pm_Run ?pk_Run ?pm_Store ?pk_Store ?pna_Kind_call_rows ?pna_Kind_field_rows ?pna_Kind_modes ?pna_Kind_name_list ?pna_Kind_sorts ?pna_Maker_mode ?pna_Maker_slots ?pna_Run_handed ?pna_Run_kind ?pna_Run_made_contents ?pna_Run_row_list ?pna_Run_store ?pna_Store_kind ?pna_Store_lists ?pfi_Kind ?pl_DEEDS ?pw_DEEDS ?pd_many ?pd_one ?pl_DEEDS_many ?pl_DEEDS_one ?pl_HANDS ?pl_TAKING
    (case pg_DEEDS => k_is)
    (case pg_HANDS => k_is)
    (case pg_Kind => k_is)
    (case pg_LETTERS => k_is)
    (case pg_LONGEST => k_is)
    (case pg_MOST_CALLS => k_is)
    (case pg_MOST_DEEDS => k_is)
    (case pg_MOST_FIELDS => k_is)
    (case pg_MOST_MODES => k_is)
    (case pg_Maker => k_is)
    (case pg_Run => k_is)
    (case pg_Store => k_is)
    (case pg_TAKING => k_is)
    (case pn_len => k_is)
    (case pn_int => k_is)
    (case pn_str => k_is)
    (case pn_bool => k_is)
    (case pn_list => k_is)
    (case pn_tuple => k_is)
    (case pn_range => k_is)
    (case pn_enumerate => k_is)
    (case pn_zip => k_is)
    (case pn_isinstance => k_is)
    (case pn_all => k_is)
    (case pn_any => k_is)
    (case pc_Kind => k_is)
    (case pd_Kind => k_is)
    (case po_Kind => k_is)
    (case ps_Kind => k_is)
    (case pc_Maker => k_is)
    (case pd_Maker => k_is)
    (case po_Maker => k_is)
    (case ps_Maker => k_is)
    (case pc_Run => k_is)
    (case pd_Run => k_is)
    (case po_Run => k_is)
    (case ps_Run => k_is)
    (case pc_Store => k_is)
    (case pd_Store => k_is)
    (case po_Store => k_is)
    (case ps_Store => k_is)
    (case pa_law_fill => k_is)
    (case pl_law_fill => k_is)
    (case pq_law_fill => k_is)
    (case pk_law_fill => k_is)
    (case pa_law_take => k_is)
    (case pl_law_take => k_is)
    (case pq_law_take => k_is)
    (case pk_law_take => k_is)
    (case pa_law_fresh => k_is)
    (case pl_law_fresh => k_is)
    (case pq_law_fresh => k_is)
    (case pk_law_fresh => k_is)
    (case pa_law_one => k_is)
    (case pl_law_one => k_is)
    (case pq_law_one => k_is)
    (case pk_law_one => k_is)
    (case pa_law_mix => k_is)
    (case pl_law_mix => k_is)
    (case pq_law_mix => k_is)
    (case pk_law_mix => k_is)
    (case pa_is_integer => k_is)
    (case pl_is_integer => k_is)
    (case pq_is_integer => k_is)
    (case pk_is_integer => k_is)
    (case pa_is_between => k_is)
    (case pl_is_between => k_is)
    (case pq_is_between => k_is)
    (case pk_is_between => k_is)
    (case pa_is_list => k_is)
    (case pl_is_list => k_is)
    (case pq_is_list => k_is)
    (case pk_is_list => k_is)
    (case pa_is_row => k_is)
    (case pl_is_row => k_is)
    (case pq_is_row => k_is)
    (case pk_is_row => k_is)
    (case pa_is_word => k_is)
    (case pl_is_word => k_is)
    (case pq_is_word => k_is)
    (case pk_is_word => k_is)
    (case pa_are_unlike => k_is)
    (case pl_are_unlike => k_is)
    (case pq_are_unlike => k_is)
    (case pk_are_unlike => k_is)
    (case pa_checked_fields => k_is)
    (case pl_checked_fields => k_is)
    (case pq_checked_fields => k_is)
    (case pk_checked_fields => k_is)
    (case pa_is_deed => k_is)
    (case pl_is_deed => k_is)
    (case pq_is_deed => k_is)
    (case pk_is_deed => k_is)
    (case pa_is_same => k_is)
    (case pl_is_same => k_is)
    (case pq_is_same => k_is)
    (case pk_is_same => k_is)
    (case pa_reason_against => k_is)
    (case pl_reason_against => k_is)
    (case pq_reason_against => k_is)
    (case pk_reason_against => k_is)
    (case pa_checked_calls => k_is)
    (case pl_checked_calls => k_is)
    (case pq_checked_calls => k_is)
    (case pk_checked_calls => k_is)
    (case pa_Kind___init__ => k_is)
    (case pi_Kind___init__ => k_is)
    (case pl_Kind___init__ => k_is)
    (case pq_Kind___init__ => k_is)
    (case pk_Kind___init__ => k_is)
    (case pa_law_plan => k_is)
    (case pl_law_plan => k_is)
    (case pq_law_plan => k_is)
    (case pk_law_plan => k_is)
    (case pa_law_deeds => k_is)
    (case pl_law_deeds => k_is)
    (case pq_law_deeds => k_is)
    (case pk_law_deeds => k_is)
    (case pa_law_call => k_is)
    (case pl_law_call => k_is)
    (case pq_law_call => k_is)
    (case pk_law_call => k_is)
    (case pa_law_kind => k_is)
    (case pl_law_kind => k_is)
    (case pq_law_kind => k_is)
    (case pk_law_kind => k_is)
    (case pa_law_same => k_is)
    (case pl_law_same => k_is)
    (case pq_law_same => k_is)
    (case pk_law_same => k_is)
    (case pa_does_take => k_is)
    (case pl_does_take => k_is)
    (case pq_does_take => k_is)
    (case pk_does_take => k_is)
    (case pa_Kind___contains__ => k_is)
    (case pi_Kind___contains__ => k_is)
    (case pl_Kind___contains__ => k_is)
    (case pq_Kind___contains__ => k_is)
    (case pk_Kind___contains__ => k_is)
    (case pa_Kind___getitem__ => k_is)
    (case pi_Kind___getitem__ => k_is)
    (case pl_Kind___getitem__ => k_is)
    (case pq_Kind___getitem__ => k_is)
    (case pk_Kind___getitem__ => k_is)
    (case pa_Kind_number_of => k_is)
    (case pi_Kind_number_of => k_is)
    (case pl_Kind_number_of => k_is)
    (case pq_Kind_number_of => k_is)
    (case pk_Kind_number_of => k_is)
    (case pa_Kind_takes => k_is)
    (case pi_Kind_takes => k_is)
    (case pl_Kind_takes => k_is)
    (case pq_Kind_takes => k_is)
    (case pk_Kind_takes => k_is)
    (case pa_is_last_row => k_is)
    (case pl_is_last_row => k_is)
    (case pq_is_last_row => k_is)
    (case pk_is_last_row => k_is)
    (case pa_is_call_row => k_is)
    (case pl_is_call_row => k_is)
    (case pq_is_call_row => k_is)
    (case pk_is_call_row => k_is)
    (case pa_checked_rows => k_is)
    (case pl_checked_rows => k_is)
    (case pq_checked_rows => k_is)
    (case pk_checked_rows => k_is)
    (case pa_Maker___init__ => k_is)
    (case pi_Maker___init__ => k_is)
    (case pl_Maker___init__ => k_is)
    (case pq_Maker___init__ => k_is)
    (case pk_Maker___init__ => k_is)
    (case pa_Store___init__ => k_is)
    (case pi_Store___init__ => k_is)
    (case pl_Store___init__ => k_is)
    (case pq_Store___init__ => k_is)
    (case pk_Store___init__ => k_is)
    (case pa_Store_keep => k_is)
    (case pi_Store_keep => k_is)
    (case pl_Store_keep => k_is)
    (case pq_Store_keep => k_is)
    (case pk_Store_keep => k_is)
    (case pa_Store_first_maker => k_is)
    (case pi_Store_first_maker => k_is)
    (case pl_Store_first_maker => k_is)
    (case pq_Store_first_maker => k_is)
    (case pk_Store_first_maker => k_is)
    (case pa_Store_copy => k_is)
    (case pi_Store_copy => k_is)
    (case pl_Store_copy => k_is)
    (case pq_Store_copy => k_is)
    (case pk_Store_copy => k_is)
    (case pa_Store_does => k_is)
    (case pi_Store_does => k_is)
    (case pl_Store_does => k_is)
    (case pq_Store_does => k_is)
    (case pk_Store_does => k_is)
    (case pa_Store_told => k_is)
    (case pi_Store_told => k_is)
    (case pl_Store_told => k_is)
    (case pq_Store_told => k_is)
    (case pk_Store_told => k_is)
    (case pa_Run_do_row => k_is)
    (case pi_Run_do_row => k_is)
    (case pl_Run_do_row => k_is)
    (case pq_Run_do_row => k_is)
    (case pk_Run_do_row => k_is)
    (case pa_Run___init__ => k_is)
    (case pi_Run___init__ => k_is)
    (case pl_Run___init__ => k_is)
    (case pq_Run___init__ => k_is)
    (case pk_Run___init__ => k_is)
    (case pt_Run___init__ => k_is)
    (case pe_Run___init__ => k_is)
    (case pa_Run_is_onward => k_is)
    (case pi_Run_is_onward => k_is)
    (case pl_Run_is_onward => k_is)
    (case pq_Run_is_onward => k_is)
    (case pk_Run_is_onward => k_is)
    (case pa_law_row_of => k_is)
    (case pl_law_row_of => k_is)
    (case pq_law_row_of => k_is)
    (case pk_law_row_of => k_is)
    (case pa_law_takes => k_is)
    (case pl_law_takes => k_is)
    (case pq_law_takes => k_is)
    (case pk_law_takes => k_is)
    (case pa_law_callable => k_is)
    (case pl_law_callable => k_is)
    (case pq_law_callable => k_is)
    (case pk_law_callable => k_is)
    (case pa_law_program => k_is)
    (case pl_law_program => k_is)
    (case pq_law_program => k_is)
    (case pk_law_program => k_is)
    (case pa_law_onward => k_is)
    (case pl_law_onward => k_is)
    (case pq_law_onward => k_is)
    (case pk_law_onward => k_is)
    (case pa_law_is_onward => k_is)
    (case pl_law_is_onward => k_is)
    (case pq_law_is_onward => k_is)
    (case pk_law_is_onward => k_is)
    (case pa_law => k_is)
    (case pl_law => k_is)
    (case pq_law => k_is)
    (case pk_law => k_is)
    (case pm_Kind => k_is)
    (case pk_Kind => k_is)
    (case pm_Maker => k_is)
    (case pk_Maker => k_is)
    (case pm_Run => k_is)
    (case pk_Run => k_is)
    (case pm_Store => k_is)
    (case pk_Store => k_is)
    (case pna_Kind_call_rows => k_is)
    (case pna_Kind_field_rows => k_is)
    (case pna_Kind_modes => k_is)
    (case pna_Kind_name_list => k_is)
    (case pna_Kind_sorts => k_is)
    (case pna_Maker_mode => k_is)
    (case pna_Maker_slots => k_is)
    (case pna_Run_handed => k_is)
    (case pna_Run_kind => k_is)
    (case pna_Run_made_contents => k_is)
    (case pna_Run_row_list => k_is)
    (case pna_Run_store => k_is)
    (case pna_Store_kind => k_is)
    (case pna_Store_lists => k_is)
    (case pfi_Kind => k_is)
    (case pl_DEEDS => k_is)
    (case pw_DEEDS => first | rfl | k_is)
    (case pd_many => k_is)
    (case pd_one => k_is)
    (case pl_DEEDS_many => k_is)
    (case pl_DEEDS_one => k_is)
    (case pl_HANDS => k_is)
    (case pl_TAKING => k_is)
#print axioms PySem.Challenge.cw_makerlines_k12_onward_programs_holds
end
