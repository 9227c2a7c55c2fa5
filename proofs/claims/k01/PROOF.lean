import PyProof.Rows.All
import Wide.All
import OpenK.AllK
import Wide.FinOn
import KE.GoesEnum
import HandS.ForMost
import HandS.Walk
import HandS.IsInst
import HandS.Conv
import HandS.FStr
import HandS.DictComp
import HandS.Zip
import HandS.TryOnly
import HandS.Flow
import HandS.More
import HandS.Text
import HandS.OwnEq
import HandS.ClsMeth
import HandS.MakeKwOnly
import PyProof.InstNe
import HandS.Deep
import HandS.Defaults
import HandS.Words
import HandS.Iter
import HandS.IterVal
import HandS.Lambda
import KE.KOwnIter
import PyProof.FactsSeq
import HandS.ExcInit
import HandS.Nested
import KE.KExcSuper
import KE.KSuper
import HandS.HotCalls
import HandS.ExcIs
import HandS.ExcField
import KE.KExcIs
import HandS.ExcOwn
import PyProof.ExcBaseAll.ValueError
import HandS.ExcValue
import HandS.TupAny
import HandS.Replace
import HandS.Style
import HandS.HeadHook4
import HandS.WordsExc
import HandS.HeadHook3
import HandS.Head0
import HandS.Head1
import HandS.Head2
import HandS.HeadEnd
import KE.KStateDown
import Wide.Once
import HandS.HeadWalk
import HandS.EndTab
import PySem.Challenge.RW_makerlines_k01_errors_made
section
set_option Elab.async false
set_option linter.all false
set_option maxRecDepth 100000
set_option maxHeartbeats 2000000
namespace L2
open PySem PySem.Spec PyProof.Rows
theorem meets_enumB1 {v : Value} {o : Obj} {H : Heap → Prop} (B : Begins v o H) :
    Meets (Builtin.«enumerate.__new__» ⟨[.type "enumerate", v], []⟩) (fun _ R s => H s.heap ∧
      R (.ok (.ret (.ref (s.heap.push o).objs.size))) { s with heap := (s.heap.push o).push { cls := .type "enumerate", data := .fields #[.none, .bool false, .ref s.heap.objs.size, rawInt 0, .none, .none] } }) :=
  .of_wp fun prog w A R s h => by
    obtain ⟨hp, g, d, tk, os⟩ := s; obtain ⟨h1, h⟩ := h
    have hsub := sub_enumerate
    have q1 : ∀ {A' : Around} {E : Value → Shared → Prop} {Q : Value → Shared → Prop}, Q (.ref hp.objs.size) ⟨hp.push o, g, d, tk, os⟩ → wpAny (model prog w) A' (pyIter v) Q E ⟨hp, g, d, tk, os⟩ :=
      fun q => B.iter prog w _ _ ⟨hp, g, d, tk, os⟩ _ h1 q
    wp_walk using q1
    refine wpAny_stack_any fun st => wpAny_pure ?_
    split
    · rename_i c _ _ _ _ _
      cases (c == Value.type "enumerate")
      · wp_walk using q1
        exact ⟨_, rfl, h⟩
      · wp_walk using q1
        exact ⟨_, rfl, h⟩
    · wp_walk using q1
      exact ⟨_, rfl, h⟩
theorem enum_begins1 {prog : Program} {w : World} {A : Around} {E : Value → Shared → Prop} {s : Shared} {v : Value} {o : Obj} {H : Heap → Prop} {Q : Value → Shared → Prop} (B : Begins v o H) (h1 : H s.heap)
    (h : ∀ h', IsEnum h' (s.heap.objs.size + 1) s.heap.objs.size 0 .none → h'.get? s.heap.objs.size = some o → h'.objs.size = s.heap.objs.size + 2 →
      (∀ b o, s.heap.get? b = some o → h'.get? b = some o) → Q (.ref (s.heap.objs.size + 1)) { s with heap := h' }) :
    wpAny (model prog w) A (call (.type "enumerate") [v]) Q E s := by
  refine callType_new F.called_enumerate (by decide) (F.typeCall_enumerate_1 _) (F.newCall_enumerate_1 _) (fun obj => F.args_object_init_2 obj _) F.entry_enumerate_new
    (meets_enumB1 B) ⟨h1, ?_⟩
  have hz : (s.heap.push o).objs.size = s.heap.objs.size + 1 := Heap.size_push ..
  show _ ∧ _
  rw [hz]
  have he : IsEnum ((s.heap.push o).push { cls := .type "enumerate", data := .fields #[.none, .bool false, .ref s.heap.objs.size, rawInt 0, .none, .none] }) (s.heap.objs.size + 1) s.heap.objs.size 0 .none := by
    have := Heap.get?_push_size (s.heap.push o) (o := { cls := .type "enumerate", data := .fields #[.none, .bool false, .ref s.heap.objs.size, rawInt 0, .none, .none] }) rfl
    rw [hz] at this; exact this
  refine ⟨⟨_, he, rfl⟩, h _ he (Heap.get?_push_of_some _ (Heap.get?_push_size _ B.free)) (by rw [Heap.size_push, hz]) fun b o x => Heap.get?_push_of_some _ (Heap.get?_push_of_some _ x)⟩
/-- enumerate(tuple) -/
def Itet (K : PySem.W.Frag) (a : Addr) : It :=
  ⟨fun i H => ∃ (xs : List V) (x : V), SqT K H a xs ∧ xs[i]? = some x, fun i H v H' => ∃ T x, v = .ref T ∧ H T = none ∧ H' = upd H T (.tup [.int (i : Nat), x]) ∧ ∀ xs, SqT K H a xs → xs[i]? = some x, fun i H => ∃ xs : List V, SqT K H a xs ∧ xs.length ≤ i⟩
theorem enum_ne_tup {h : Heap} {e it a : Addr} {i : Int} {old : Value} {its : Array Value} (he : IsEnum h e it i old) (ht : IsTup h a its) : e ≠ a := by
  rintro rfl
  obtain ⟨o, ho, hc, _⟩ := ht
  rw [he] at ho; cases ho
  have hc' : Value.type "enumerate" = Value.type "tuple" := hc
  exact absurd hc' (by decide)
theorem iter_ne_tup {h : Heap} {it a b : Addr} {i : Nat} {its : Array Value} (hi : h.IsTupleIter it b i) (ht : IsTup h a its) : a ≠ it := by
  rintro rfl
  obtain ⟨o, ho, hc, _⟩ := ht
  obtain ⟨o', ho', hc', _⟩ := hi
  rw [ho] at ho'; cases ho'
  rw [hc] at hc'
  exact absurd hc' (by decide)
theorem turn_enumT {P : Program} {w : World} {K : PySem.W.Frag} {elts : List Expr} {kk : Nat} {tpos : Pos} (a e it : Addr) :
    Turn P w K (.Tuple elts kk tpos) (Itet K a) [e, it] e (fun i h => (∃ old, IsEnum h e it ((i : Nat) : Int) old) ∧ h.IsTupleIter it a i ∧ e ≠ it) where
  mem := by simp
  obj := fun i h st b hb => by
    obtain ⟨⟨old, he⟩, ⟨o, ho, hc, hd⟩, _⟩ := st
    have e' : b = e ∨ b = it := by simpa using hb
    rcases e' with z | z
    · rw [z]; exact ⟨_, he, fun v q => nomatch q⟩
    · rw [z]; exact ⟨o, ho, fun v q => by rw [hd] at q; cases q⟩
  keep := fun i h h' st k => let ⟨⟨old, he⟩, hi, hne⟩ := st; ⟨⟨old, k e (by simp) _ he⟩, hi.at fun o q => k it (by simp) o q, hne⟩
  item := by
    intro X hP hw hK hc i pins s σ H E I hf st hg
    subst hP hw hK
    obtain ⟨⟨old, he⟩, hit, hne⟩ := st
    obtain ⟨xs, x, hq, hx⟩ := hg
    obtain ⟨its, rv, p, hz⟩ := I.tuple hq
    obtain ⟨u, hu, ru⟩ := rv.get hx
    have hel : e < s.heap.objs.size := Heap.lt_size he
    have hil : it < s.heap.objs.size := by obtain ⟨_, q, _⟩ := hit; exact Heap.lt_size q
    have nea : e ≠ a := enum_ne_tup he p
    have nai : a ≠ it := iter_ne_tup hit p
    have hlt : i < its.toArray.size := by
      have := (List.getElem?_eq_some_iff.mp hu).1
      simpa using this
    refine wpAny_pyNext_enum_itemD (Draws.tuple (A := X.A.in1) (I.ok.hd hc) it a nai its.toArray) he ⟨hit, p⟩ hlt hne (by simp [hne, nea]) fun y h' tk hy ho hst hT hsz hk => ?_
    have ey : y = u := by
      have hu' : its.toArray[i]? = some u := by simpa using hu
      rw [hu'] at hy
      exact (Option.some.inj hy).symm
    subst ey
    refine ⟨_, rfl, wpAny_letOwnedTupleGo_enum (s := { s with heap := h', toks := tk + 1 }) ho fun h'' he' sb => ?_⟩
    have hT2 : h''.get? s.heap.objs.size = some { cls := .type "tuple", data := .seq #[.int i tk, y] } := (sb.2 _ (Nat.ne_of_gt hel)).trans hT
    have new : ObjOk X.prog X.w (upd H s.heap.objs.size (.tup [.int (i : Nat), x])) h'' s.heap.objs.size (.tup [.int (i : Nat), x]) :=
      ⟨by show 2 ≤ sizeLine; decide, [.int i tk, y], .cons ⟨_, rfl⟩ (.cons ru .nil), ⟨_, hT2, rfl, _, rfl⟩⟩
    have I1 : Inv X pins σ (upd H s.heap.objs.size (.tup [.int (i : Nat), x])) { s with heap := h'', toks := tk + 1 } :=
      I.turnedNew (ch := [e, it]) (fun b ob hb q => (sb.2 b (fun z => hb (by simp [z]))).trans (hk b ob (fun z => hb (by simp [z])) (fun z => hb (by simp [z])) q)) hf (Nat.le_refl _) new
    refine ⟨.ref s.heap.objs.size, _, I1, rfl, ⟨_, x, rfl, I.hok.fresh (Nat.le_refl _), rfl, fun ys hy => by rw [I.tuple_inj hy hq]; exact hx⟩, ⟨⟨y, ?_⟩, hst.1.at fun o q => (sb.2 it (Ne.symm hne)).trans q, hne⟩, fun b hb => ?_⟩
    · have e1 : ((i + 1 : Nat) : Int) = (i : Int) + 1 := by omega
      rw [e1]; exact he'
    · have hb' : b < s.heap.objs.size := by
        have e' : b = e ∨ b = it := by simpa using hb
        rcases e' with z | z
        · rw [z]; exact hel
        · rw [z]; exact hil
      rw [upd_ne (Nat.ne_of_lt hb')]
      exact (hf b hb).1
  done := by
    intro X hP hw hK hc i pins s σ H E I hf st hg
    subst hP hw hK
    obtain ⟨⟨old, he⟩, hit, hne⟩ := st
    obtain ⟨xs, hq, hx⟩ := hg
    obtain ⟨its, rv, p, hz⟩ := I.tuple hq
    obtain ⟨f0, f1, f2, f3, f4, f5⟩ := hf it (by simp)
    have nai : a ≠ it := iter_ne_tup hit p
    have hl := rv.length
    have hT : s.TypeIs (.ref e) "enumerate" := ⟨_, he, rfl⟩
    unfold pyNext
    refine wpAny_bind (wpAny_attempt (wpAny_callSpecial?_slot (name := Str.ofString "__next__") hT F.slot_enumerate_next
      (wpAny_call_entry F.slot_enumerate_next hT F.entry_enumerate_next ?_ (F.args_enumerate_next_1 _))))
    show wpAny _ _ (field (.ref e) 2 >>= _) _ _ _
    refine wpAny_bind (wpAny_field he rfl (x := .ref it) rfl ?_)
    refine wpAny_bind (wpAny_nextOf_tuple_end (I.ok.hd hc) hit p (by simp; omega) fun h' x eb hx' => ?_)
    obtain ⟨o, ho, hc⟩ := hx'
    refine wpAny_bind (wpAny_isInstance (T := "StopIteration") (b := true) ⟨o, ho, hc⟩ isSubtype_stop ?_)
    exact wpAny_pure ⟨rfl, I.turned (t' := s.toks) (fun b o hb q => eb b o hb q) f0 f1 f3 f4 f5⟩
  self := fun A i s Q E st h => let ⟨⟨_, he⟩, _⟩ := st; wpAny_pyIter_enum he h
def iEnumT (K : PySem.W.Frag) (ta : TA) : TI := fun σ H R => ta σ H fun vs H1 => ∃ a xs, vs = [.ref a] ∧ SqT K H1 a xs ∧ R (Itet K a) H1
theorem pi_enumT {X : Cx} {e : Expr} {ta : TA} {p pos tpos : Pos} {elts : List Expr} {kk : Nat} (hg : Gl X "enumerate") (hm : X.mg "enumerate" = none) (ha : PA X [e] ta) (hs : starEach [e] X.env = [(false, eval e X.env)] := by rfl) :
    PI X (.Tuple elts kk tpos) (.Call (.Name "enumerate" p) [e] [] pos) (iEnumT X.K ta) := by
  refine ⟨fun pins s σ H R I h => ?_⟩
  refine Call_ (ld_blt I hg hm boot_enumerate (PyProof.Rows.callWith_type1 (thn (ha.run pos pins s σ H _ I h) fun us s1 ⟨vs, H1, I1, r1, q1⟩ => ?_) hs rfl))
  obtain ⟨a, xs, ex, hq, q⟩ := q1
  subst ex
  cases r1 with
  | cons r rr =>
    cases rr
    cases r
    obtain ⟨its, rv, p', hz⟩ := I1.tuple hq
    refine enum_begins1 (begins_tuple a its.toArray) p' fun h' he hit hsz hk => wpAny_pyIter_enum he ?_
    have I2 : Inv X pins σ H1 { s1 with heap := h' } := I1.kept (t' := s1.toks) hk
    refine ⟨s1.heap.objs.size + 1, [s1.heap.objs.size + 1, s1.heap.objs.size], _, _, H1, rfl, I2, turn_enumT a (s1.heap.objs.size + 1) s1.heap.objs.size, ⟨⟨.none, he⟩, ⟨_, hit, rfl, rfl⟩, Nat.succ_ne_self _⟩, fun b hb => ?_, q⟩
    have e' : b = s1.heap.objs.size + 1 ∨ b = s1.heap.objs.size := by simpa using hb
    have hle : s1.heap.objs.size ≤ b := by
      rcases e' with z | z
      · rw [z]; exact Nat.le_add_right _ _
      · rw [z]; exact Nat.le_refl _
    exact I1.fpOk hle (I1.hok.fresh hle)
theorem walk_enumT {K : PySem.W.Frag} {a : Addr} {xs : List V} : Walk (Itet K a) xs.length (fun H => SqT K H a xs) (YPair (fun i => some (.int (i : Nat))) (fun i => xs[i]?)) := by
  refine ⟨fun i _ hi q => ⟨xs, xs[i], q, by simp [hi]⟩, fun _ q => ⟨xs, q, Nat.le_refl _⟩, fun i H v H' _ q y => ?_⟩
  obtain ⟨T, x, h1, h2, h3, h4⟩ := y
  exact ⟨T, .int (i : Nat), x, h1, h2, h3, rfl, h4 xs q⟩
end L2
end
section
set_option Elab.async false
set_option linter.all false
set_option maxRecDepth 100000
set_option maxHeartbeats 4000000
namespace Mz
open PySem L2
/-! ### names for the operators' readings -/
abbrev rAddI : R2 := rI0 fun i j => .int (i + j)
abbrev rSubI : R2 := rI0 fun i j => .int (i - j)
abbrev rMulI : R2 := rI CMul fun i j => .int (i * j)
abbrev rDivI : R2 := rI CDiv fun i j => .int (i / j)
abbrev rModI : R2 := rI (fun _ j => 0 < j) fun i j => .int (i % j)
abbrev rPowI : R2 := rI CPow fun i j => .int (i ^ j.toNat)
abbrev rLtI : R2 := rI0 fun i j => .bl (decide (i < j))
abbrev rGtI : R2 := rI0 fun i j => .bl (decide (j < i))
abbrev rGeI : R2 := rI0 fun i j => .bl (decide (j ≤ i))
abbrev rLen (K : PySem.W.Frag) : List V → Hp → VK → Prop := fun xs H Q => ∃ p ys, xs = [.ref p] ∧ (SqL K H p ys ∨ SqT K H p ys) ∧ Q (.int ys.length) H
abbrev rInt1 : List V → Hp → VK → Prop := fun xs H Q => (∃ i, xs = [.int i] ∧ Q (.int i) H) ∨ ∃ k, xs = [.bl k] ∧ Q (.int (if k then 1 else 0)) H
abbrev iAddI : TIp := ipI fun i j => i + j
abbrev oNone := tNoPart
abbrev oSome := @tPart
/-! ### readings, one step each -/
section
variable {K : PySem.W.Frag} {σ : St} {H : Hp} {Q : VK} {v : V}
theorem rd_if {c A B : Prop} [Decidable c] (h1 : c → A) (h2 : ¬ c → B) : if decide c = true then A else B := by
  by_cases h : c
  · rw [if_pos (decide_eq_true h)]; exact h1 h
  · rw [if_neg (by simp [h])]; exact h2 h
theorem rd_ifB {b : Bool} {A B : Prop} (h1 : b = true → A) (h2 : b = false → B) : if b = true then A else B := by
  cases b with
  | true => rw [if_pos rfl]; exact h1 rfl
  | false => rw [if_neg (by simp)]; exact h2 rfl
end
theorem int_eq_dec {i j : Int} : decide (V.int i = V.int j) = decide (i = j) := by
  by_cases h : i = j
  · subst h; simp
  · have : ¬ V.int i = V.int j := fun q => h (V.int.inj q)
    simp [h, this]
/-- a block cut in two: what stands between is said -/
def tCut (t u : TS) : TS := fun D σ H => ∃ P : St → Hp → Prop, t { D with nx := P } σ H ∧ ∀ σ' H', P σ' H' → u D σ' H'
theorem pss_cut {X : Cx} {st : Stmt} {rest : List Stmt} {t u : TS} (h1 : PS X st t) (h2 : PSs X rest u) : PSs X (st :: rest) (tCut t u) := by
  refine ⟨fun pins s σ H D I h => ?_⟩
  obtain ⟨P, a, b⟩ := h
  refine PySem.wpAny_execs_cons (thn (h1.run pins s σ H { D with nx := P } I a) fun f s1 q => ?_)
  cases f with
  | next =>
    obtain ⟨σ', H', I', q⟩ := q
    exact h2.run pins s1 σ' H' D I' (b σ' H' q)
  | ret v => exact q
  | brk => exact q
  | cont => exact q
theorem le_line {n : Nat} (h : Nat.ble n sizeLine = true) : n ≤ sizeLine := Nat.le_of_ble_eq_true h
theorem get_new {H : Hp} {p a : Addr} {o u : HO} (hp : H p = none) (h : H a = some u) : upd H p o a = some u := by rw [upd_ne (ne_of_none h hp)]; exact h
theorem get_set {H : Hp} {p a : Addr} {o u : HO} (hn : a ≠ p) (h : H a = some u) : upd H p o a = some u := by rw [upd_ne hn]; exact h
/-! ### heaps: G the frozen part, H all of it -/
structure Gr (M : List Addr) (G H G' H' : Hp) : Prop where
  gg : Same G G'
  hh : ∀ b o, b ∉ M → H b = some o → H' b = some o
  dm : ∀ b, H' b = none → H b = none
  fr : ∀ b o, G' b = some o → G b = none → H b = none
  gh : Same G' H'
section
variable {M M' : List Addr} {G H G1 H1 G2 H2 : Hp} {p : Addr} {o : HO}
theorem Gr.refl (h : Same G H) : Gr M G H G H := ⟨Same.refl _, fun _ _ _ e => e, fun _ e => e, fun b o e n => (by rw [e] at n; cases n), h⟩
theorem Gr.trans (a : Gr M G H G1 H1) (b : Gr M' G1 H1 G2 H2) (s : ∀ x ∈ M', x ∈ M) : Gr M G H G2 H2 where
  gg := a.gg.trans b.gg
  hh := fun c o n e => b.hh c o (fun z => n (s c z)) (a.hh c o n e)
  dm := fun c e => a.dm c (b.dm c e)
  fr := fun c o e n => by
    cases q : G1 c with
    | none => exact a.dm c (b.fr c o e q)
    | some u => exact a.fr c u q n
  gh := b.gh
theorem Gr.mono (a : Gr M' G H G1 H1) (s : ∀ x ∈ M', x ∈ M) : Gr M G H G1 H1 := ⟨a.gg, fun c o n e => a.hh c o (fun z => n (s c z)) e, a.dm, a.fr, a.gh⟩
theorem Gr.same (a : Gr [] G H G1 H1) : Same H H1 := fun b o e => a.hh b o (by simp) e
theorem Gr.free (a : Gr M G H G1 H1) (h : H1 p = none) : G1 p = none := by
  cases q : G1 p with
  | none => rfl
  | some u => rw [a.gh p u q] at h; cases h
/-- a new object that stays as it is -/
theorem Gr.newF (a : Gr M G H G1 H1) (hp : H1 p = none) : Gr M G H (upd G1 p o) (upd H1 p o) where
  gg := fun b u e => get_new (a.free hp) (a.gg b u e)
  hh := fun b u n e => get_new hp (a.hh b u n e)
  dm := fun b e => by
    by_cases hb : b = p
    · subst hb; rw [upd_same] at e; cases e
    · rw [upd_ne hb] at e; exact a.dm b e
  fr := fun b u e n => by
    by_cases hb : b = p
    · subst hb; exact a.dm b hp
    · rw [upd_ne hb] at e; exact a.fr b u e n
  gh := fun b u e => by
    by_cases hb : b = p
    · subst hb; rw [upd_same] at e ⊢; exact e
    · rw [upd_ne hb] at e ⊢; exact a.gh b u e
/-- a new object that may change -/
theorem Gr.newM (a : Gr M G H G1 H1) (hp : H1 p = none) : Gr M G H G1 (upd H1 p o) where
  gg := a.gg
  hh := fun b u n e => get_new hp (a.hh b u n e)
  dm := fun b e => by
    by_cases hb : b = p
    · subst hb; rw [upd_same] at e; cases e
    · rw [upd_ne hb] at e; exact a.dm b e
  fr := a.fr
  gh := fun b u e => get_new hp (a.gh b u e)
theorem ne_none {H : Hp} {a b : Addr} {o : HO} (h : H a = some o) (h' : H b = none) : a ≠ b := ne_of_none h h'
/-- an object of one's own, or one that may be changed, is changed -/
theorem Gr.set (a : Gr M G H G1 H1) (g : G1 p = none) (h : H1 p ≠ none) (m : H p = none ∨ p ∈ M) : Gr M G H G1 (upd H1 p o) where
  gg := a.gg
  hh := fun b u n e => by
    have : b ≠ p := fun z => by
      subst z
      rcases m with m | m
      · rw [e] at m; cases m
      · exact n m
    rw [upd_ne this]; exact a.hh b u n e
  dm := fun b e => by
    by_cases hb : b = p
    · subst hb; rw [upd_same] at e; cases e
    · rw [upd_ne hb] at e; exact a.dm b e
  fr := a.fr
  gh := fun b u e => get_set (ne_none e g) (a.gh b u e)
/-- an object of one's own stays as it is from now on -/
theorem Gr.freeze (a : Gr M G H G1 H1) (m : H p = none) (h : H1 p = some o) (g : G1 p = none) : Gr M G H (upd G1 p o) H1 where
  gg := fun b u e => get_new g (a.gg b u e)
  hh := a.hh
  dm := a.dm
  fr := fun b u e n => by
    by_cases hb : b = p
    · subst hb; exact m
    · rw [upd_ne hb] at e; exact a.fr b u e n
  gh := fun b u e => by
    by_cases hb : b = p
    · subst hb; rw [upd_same] at e; rw [h]; exact e
    · rw [upd_ne hb] at e; exact a.gh b u e
/-- what may change and was not frozen is not frozen behind a call -/
theorem Gr.nog (a : Gr M G H G1 H1) (g : G p = none) (h : H p = some o) : G1 p = none := by
  cases q : G1 p with
  | none => rfl
  | some u =>
    have := a.fr p u q g
    rw [h] at this; cases this
end
/-- an object of one's own that may change: new since H0, not frozen -/
structure Mu (H0 G H : Hp) (p : Addr) (o : HO) : Prop where
  n0 : H0 p = none
  g : G p = none
  h : H p = some o
theorem Mu.step {M : List Addr} {H0 G H G1 H1 : Hp} {p : Addr} {o : HO} (m : Mu H0 G H p o) (a : Gr M G H G1 H1) (n : p ∉ M) : Mu H0 G1 H1 p o := ⟨m.n0, a.nog m.g m.h, a.hh p o n m.h⟩
/-! ### data -/
mutual
theorem Dp.mono {K : PySem.W.Frag} {G G' : Hp} (s : Same G G') : ∀ {v : V} {d : PyData}, Dp K G v d → Dp K G' v d
  | _, _, .non => .non
  | _, _, .bl b => .bl b
  | _, _, .int i => .int i
  | _, _, .str x => .str x
  | _, _, .lst h hs => .lst (s.seq h) (DpAll.mono s hs)
  | _, _, .tup h hs => .tup (by
      rcases h with (h | ⟨o, h⟩) | h
      · exact .inl (.inl (s _ _ h))
      · exact .inl (.inr ⟨o, s _ _ h⟩)
      · exact .inr h) (DpAll.mono s hs)
theorem DpAll.mono {K : PySem.W.Frag} {G G' : Hp} (s : Same G G') : ∀ {vs : List V} {ds : List PyData}, DpAll K G vs ds → DpAll K G' vs ds
  | _, _, .nil => .nil
  | _, _, .cons h hs => .cons (Dp.mono s h) (DpAll.mono s hs)
end
theorem Same.tup {K : PySem.W.Frag} {G G' : Hp} {a : Addr} {xs : List V} (s : Same G G') (h : SqT K G a xs) : SqT K G' a xs := by
  rcases h with (h | ⟨o, h⟩) | h
  · exact .inl (.inl (s _ _ h))
  · exact .inl (.inr ⟨o, s _ _ h⟩)
  · exact .inr h
theorem DpAll.get {K : PySem.W.Frag} {G : Hp} : ∀ {vs : List V} {ds : List PyData} {i : Nat} {v : V}, DpAll K G vs ds → vs[i]? = some v → ∃ d, ds[i]? = some d ∧ Dp K G v d
  | _, _, _, _, .nil, e => by simp at e
  | _, _, 0, _, .cons h _, e => by simp at e; subst e; exact ⟨_, rfl, h⟩
  | _, _, i + 1, v, .cons _ t, e => by
    obtain ⟨d, h1, h2⟩ := DpAll.get (i := i) (v := v) t (by simpa using e)
    exact ⟨d, by simpa using h1, h2⟩
theorem DpAll.getD {K : PySem.W.Frag} {G : Hp} : ∀ {vs : List V} {ds : List PyData} {i : Nat} {d : PyData}, DpAll K G vs ds → ds[i]? = some d → ∃ v, vs[i]? = some v ∧ Dp K G v d
  | _, _, _, _, .nil, e => by simp at e
  | _, _, 0, _, .cons h _, e => by simp at e; subst e; exact ⟨_, rfl, h⟩
  | _, _, i + 1, v, .cons _ t, e => by
    obtain ⟨d, h1, h2⟩ := DpAll.getD (i := i) t (by simpa using e)
    exact ⟨d, by simpa using h1, h2⟩
theorem DpAll.length {K : PySem.W.Frag} {G : Hp} : ∀ {vs : List V} {ds : List PyData}, DpAll K G vs ds → vs.length = ds.length
  | _, _, .nil => rfl
  | _, _, .cons _ t => by simp [DpAll.length t]
theorem DpAll.append {K : PySem.W.Frag} {G : Hp} : ∀ {vs ws : List V} {ds es : List PyData}, DpAll K G vs ds → DpAll K G ws es → DpAll K G (vs ++ ws) (ds ++ es)
  | _, _, _, _, .nil, t => t
  | _, _, _, _, .cons h s, t => .cons h (DpAll.append s t)
theorem DpAll.one {K : PySem.W.Frag} {G : Hp} {v : V} {d : PyData} (h : Dp K G v d) : DpAll K G [v] [d] := .cons h .nil
theorem few_put {f : Str} {v : V} {fs : List (Str × V)} {n : Nat} (h : fs.length ≤ n) : (putF f v fs).length ≤ n + 1 := Nat.le_trans (length_putF f v fs) (Nat.succ_le_succ h)
theorem cut_to (xs : List V) (n : Nat) : cutV xs none (some (n : Int)) = xs.take n := by
  unfold cutV
  rw [HT.sIx_none, HT.sIx_nat]
  simp
end Mz
end
section
set_option Elab.async false
set_option linter.all false
set_option maxRecDepth 100000
set_option maxHeartbeats 2000000
namespace Mz
/-- a stop for the steps -/
inductive Mark where | mk
end Mz
namespace L2
open PySem PySem.Spec PyProof.Rows Mz
def gSeq (K : PySem.W.Frag) (n : Nat) (t : TGs) : TG := fun v σ H Q => ∃ _ : Mark, gTup K n t v σ H Q ∨ gLst K n t v σ H Q
theorem pg_seq {X : Cx} {es : List Expr} {k : Nat} {pos : Pos} {t : TGs} {n : Nat} (hc : X.calm = true) (h : PGs X es t) (hn : (assignEach es X.env).length = n := by rfl) (hst : (assignEach es X.env).findIdx? (·.1) = none := by rfl) :
    PG X (.Tuple es k pos) (gSeq X.K n t) :=
  ⟨fun pins s σ H v w Q I r h' => by
    obtain ⟨_, h' | h'⟩ := h'
    · exact (pg_tup hc h hn hst).run pins s σ H v w Q I r h'
    · exact (pg_lst hc h hn hst).run pins s σ H v w Q I r h'⟩
/-! ### walks over lists and tuples alike -/
def qSq0 (K : PySem.W.Frag) (x : V) (H1 : Hp) (R : It → Hp → Prop) : Prop := ∃ a, x = .ref a ∧ (((∃ xs, SqL K H1 a xs) ∧ R (Itl K a) H1) ∨ ((∃ xs, SqT K H1 a xs) ∧ R (Itt K a) H1))
def qSq (K : PySem.W.Frag) (x : V) (H1 : Hp) (R : It → Hp → Prop) : Prop := ∃ _ : Mark, qSq0 K x H1 R
def iSq (K : PySem.W.Frag) (te : TE) : TI := fun σ H R => te σ H fun x H1 => qSq K x H1 R
theorem pi_sq {X : Cx} {tg l : Expr} {tl : TE} (hl : PE X l tl) : PI X tg l (iSq X.K tl) := by
  refine ⟨fun pins s σ H R I h => ?_⟩
  refine thn (hl.run pins s σ H _ I h) fun v s1 ⟨x, H1, I1, r1, q1⟩ => ?_
  obtain ⟨_, a, e, q1⟩ := q1
  subst e
  cases r1
  rcases q1 with ⟨⟨xs, hq⟩, q⟩ | ⟨⟨xs, hq⟩, q⟩
  · obtain ⟨its, rv, p, hz⟩ := I1.list hq
    refine wpAny_pyIter_list p.isList ?_
    refine ⟨s1.heap.objs.size, [s1.heap.objs.size], _, _, H1, rfl, I1.kept (t' := s1.toks) fun b o e => Heap.get?_push_of_some _ e, turn_list a _, ⟨_, Heap.get?_push_size _ rfl, rfl, rfl⟩, fun b hb => ?_, q⟩
    have e : b = s1.heap.objs.size := by simpa using hb
    subst e
    exact I1.fpOk (Nat.le_refl _) (I1.hok.fresh (Nat.le_refl _))
  · obtain ⟨its, rv, p, hz⟩ := I1.tuple hq
    refine wpAny_pyIter_tuple (show s1.heap.IsTuple a its.toArray from p) ?_
    refine ⟨s1.heap.objs.size, [s1.heap.objs.size], _, _, H1, rfl, I1.kept (t' := s1.toks) fun b o e => Heap.get?_push_of_some _ e, turn_tuple a _, ⟨_, Heap.get?_push_size _ rfl, rfl, rfl⟩, fun b hb => ?_, q⟩
    have e : b = s1.heap.objs.size := by simpa using hb
    subst e
    exact I1.fpOk (Nat.le_refl _) (I1.hok.fresh (Nat.le_refl _))
def qEnSq0 (K : PySem.W.Frag) (vs : List V) (H1 : Hp) (R : It → Hp → Prop) : Prop := ∃ a xs, vs = [.ref a] ∧ ((SqL K H1 a xs ∧ R (Ite K a) H1) ∨ (SqT K H1 a xs ∧ R (Itet K a) H1))
def qEnSq (K : PySem.W.Frag) (vs : List V) (H1 : Hp) (R : It → Hp → Prop) : Prop := ∃ _ : Mark, qEnSq0 K vs H1 R
def iEnSq (K : PySem.W.Frag) (ta : TA) : TI := fun σ H R => ta σ H fun vs H1 => qEnSq K vs H1 R
theorem pi_enSq {X : Cx} {e : Expr} {ta : TA} {p pos tpos : Pos} {elts : List Expr} {kk : Nat} (hg : Gl X "enumerate") (hm : X.mg "enumerate" = none) (ha : PA X [e] ta) (hs : starEach [e] X.env = [(false, eval e X.env)] := by rfl) :
    PI X (.Tuple elts kk tpos) (.Call (.Name "enumerate" p) [e] [] pos) (iEnSq X.K ta) := by
  refine ⟨fun pins s σ H R I h => ?_⟩
  refine Call_ (ld_blt I hg hm boot_enumerate (PyProof.Rows.callWith_type1 (thn (ha.run pos pins s σ H _ I h) fun us s1 ⟨vs, H1, I1, r1, q1⟩ => ?_) hs rfl))
  obtain ⟨_, a, xs, ex, q1⟩ := q1
  subst ex
  cases r1 with
  | cons r rr =>
    cases rr
    cases r
    rcases q1 with ⟨hq, q⟩ | ⟨hq, q⟩
    · obtain ⟨its, rv, p', hz⟩ := I1.list hq
      refine call_enumerate_list p'.isList fun h' he hit hsz hk => wpAny_pyIter_enum he ?_
      have I2 : Inv X pins σ H1 { s1 with heap := h' } := I1.kept (t' := s1.toks) hk
      refine ⟨s1.heap.objs.size + 1, [s1.heap.objs.size + 1, s1.heap.objs.size], _, _, H1, rfl, I2, turn_enum a (s1.heap.objs.size + 1) s1.heap.objs.size, ⟨⟨.none, he⟩, hit, Nat.succ_ne_self _⟩, fun b hb => ?_, q⟩
      have e' : b = s1.heap.objs.size + 1 ∨ b = s1.heap.objs.size := by simpa using hb
      have hle : s1.heap.objs.size ≤ b := by
        rcases e' with z | z
        · rw [z]; exact Nat.le_add_right _ _
        · rw [z]; exact Nat.le_refl _
      exact I1.fpOk hle (I1.hok.fresh hle)
    · obtain ⟨its, rv, p', hz⟩ := I1.tuple hq
      refine enum_begins1 (begins_tuple a its.toArray) p' fun h' he hit hsz hk => wpAny_pyIter_enum he ?_
      have I2 : Inv X pins σ H1 { s1 with heap := h' } := I1.kept (t' := s1.toks) hk
      refine ⟨s1.heap.objs.size + 1, [s1.heap.objs.size + 1, s1.heap.objs.size], _, _, H1, rfl, I2, turn_enumT a (s1.heap.objs.size + 1) s1.heap.objs.size, ⟨⟨.none, he⟩, ⟨_, hit, rfl, rfl⟩, Nat.succ_ne_self _⟩, fun b hb => ?_, q⟩
      have e' : b = s1.heap.objs.size + 1 ∨ b = s1.heap.objs.size := by simpa using hb
      have hle : s1.heap.objs.size ≤ b := by
        rcases e' with z | z
        · rw [z]; exact Nat.le_add_right _ _
        · rw [z]; exact Nat.le_refl _
      exact I1.fpOk hle (I1.hok.fresh hle)
/-! ### a written dict of two texts -/
end L2
end
section
namespace Mz
open PySem L2
/-- addresses of classes and written things -/
structure Ad where
  (MakerError BadField BadModes BadCall UnknownCall BadPlace BadText BadRow BadWord Refused BadThing BadWish BadRun BadCallers BadKind BadRule : Addr)
  (Kind TextReader Maker Store Run Yard Thing World Search Twins TwinSearch Ways : Addr)
  (HANDS DEEDS DEEDS_one DEEDS_many TAKING WISHES CALLERS : Addr)
  (lawT : Addr)
end Mz
end
section
set_option Elab.async false
set_option linter.all false
set_option maxRecDepth 100000
set_option maxHeartbeats 4000000
namespace Mz
open PySem L2
local macro_rules | `(tactic| row_cond get) => `(tactic| first
  | assumption
  | exact upd_same
  | (refine get_new (by assumption) ?_; row_cond get)
  | (refine get_set (by first | assumption | (apply Ne.symm; assumption)) ?_; row_cond get))
local macro_rules | `(tactic| row_cond side) => `(tactic| first
  | assumption
  | exact Or.inl ⟨by decide, by decide⟩
  | exact Or.inr ⟨by decide, by decide⟩
  | exact ⟨by decide, by decide, by decide⟩
  | exact ⟨by decide, by decide⟩
  | decide
  | exact le_line rfl
  | (show (0 : Int) < _; first | assumption | decide))
local macro_rules | `(tactic| row_cond lk) => `(tactic| (repeat (first | rw [lookup_putF, if_pos rfl] | rw [lookup_putF, if_neg (by decide +kernel)])))
local macro_rules | `(tactic| row_cond few) => `(tactic| first | exact Nat.lt_of_le_of_lt (few_put (Nat.le_refl 0)) (by decide) | exact Nat.lt_of_le_of_lt (few_put (few_put (Nat.le_refl 0))) (by decide) | exact Nat.lt_of_le_of_lt (few_put (few_put (few_put (Nat.le_refl 0)))) (by decide) | exact Nat.lt_of_le_of_lt (few_put (few_put (few_put (few_put (Nat.le_refl 0))))) (by decide) | exact Nat.lt_of_le_of_lt (few_put (few_put (few_put (few_put (few_put (Nat.le_refl 0)))))) (by decide) | exact Nat.lt_of_le_of_lt (few_put (few_put (few_put (few_put (few_put (few_put (Nat.le_refl 0))))))) (by decide) | exact Nat.lt_of_le_of_lt (few_put (few_put (few_put (few_put (few_put (few_put (few_put (Nat.le_refl 0)))))))) (by decide) | exact Nat.lt_of_le_of_lt (few_put (few_put (few_put (few_put (few_put (few_put (few_put (few_put (Nat.le_refl 0))))))))) (by decide))
local macro_rules | `(tactic| row_cond sa) => `(tactic| first
  | rfl
  | exact ⟨_, rfl⟩
  | exact SqL.of (by row_cond get)
  | exact SqT.of (by row_cond get)
  | exact Or.inl (SqL.of (by row_cond get))
  | exact Or.inr (SqT.of (by row_cond get))
  | exact Or.inl ⟨rfl, _, SqL.of (by row_cond get)⟩
  | exact flat_strs _
  | (show List.lookup _ (putF _ _ _) = some _; row_cond lk)
  | (show List.length (putF _ _ _) < 1000; row_cond few)
  | (show List.length [] < 1000; decide)
  | row_cond get
  | row_cond side)
local macro_rules | `(tactic| row_cond rd) => `(tactic| first
  | (apply And.intro; · row_cond sa)
  | apply @Exists.intro V
  | apply @Exists.intro Nat
  | apply @Exists.intro (List V)
  | apply @Exists.intro (List Nat)
  | apply @Exists.intro Int
  | apply @Exists.intro Bool
  | apply @Exists.intro Str
  | apply @Exists.intro HO
  | apply @Exists.intro (List (Str × V))
  | (refine Or.inl ?_; apply @Exists.intro Int; apply And.intro; · rfl)
  | (refine Or.inr ?_; apply @Exists.intro Bool; apply And.intro; · rfl))
local macro_rules | `(tactic| row_cond rds) => `(tactic| repeat (row_cond rd))
/-- the state for draws -/
structure StAt (H : Hp) (st cells : Addr) (ns : List Int) (nth left : Int) (mx : Bool) : Prop where
  s : H st = some (.lst [.ref cells, .int nth, .int left, .bl mx])
  c : H cells = some (.lst (ns.map V.int))
  n : ns.length ≤ 63
  n0 : 0 ≤ nth
  l0 : 0 ≤ left
theorem StAt.ne {H : Hp} {st cells : Addr} {ns : List Int} {nth left : Int} {mx : Bool} (a : StAt H st cells ns nth left mx) : cells ≠ st := by
  refine ne_of a.c a.s ?_
  intro z
  injection z with z
  cases ns with
  | nil => cases z
  | cons x r =>
    have z1 := List.cons.inj z
    cases z1.1
/-- a state for draws that is not frozen, its cells frozen -/
def StOk (G H : Hp) (st : Addr) : Prop := ∃ cells ns nth left mx, StAt H st cells ns nth left mx ∧ G cells = some (.lst (ns.map V.int)) ∧ G st = none
theorem atI_mod {ns : List Int} {x : Int} (h : 0 < ns.length) : ∃ z, atI (ns.map V.int) (x % ((ns.map V.int).length : Nat)) = some (.int z) := by
  have e : (ns.map V.int).length = ns.length := List.length_map ..
  rw [e]
  have h1 : 0 ≤ x % (ns.length : Int) := Int.emod_nonneg _ (by omega)
  have h2 : x % (ns.length : Int) < ns.length := Int.emod_lt_of_pos _ (by omega)
  obtain ⟨j, ej⟩ : ∃ j : Nat, x % (ns.length : Int) = j := ⟨_, (Int.toNat_of_nonneg h1).symm⟩
  rw [ej]
  have hj : j < ns.length := by omega
  exact ⟨ns[j], atI_nat (by simp [hj])⟩
abbrev primes : List V := [.int 2147483647, .int 2147483629, .int 2147483587, .int 2147483579, .int 2147483563]
theorem primes_mem {i : Nat} {y : V} (h : primes[i]? = some y) : ∃ q : Int, y = .int q ∧ 0 < q ∧ q < 4294967296 := by
  have m := List.mem_of_getElem? h
  simp only [primes, List.mem_cons, List.not_mem_nil, or_false] at m
  rcases m with rfl | rfl | rfl | rfl | rfl <;> exact ⟨_, rfl, by decide, by decide⟩
theorem pow_ok {q z : Int} (h0 : 0 < q) (h1 : q < 4294967296) : (z % q).natAbs < 2 ^ 64 := by
  have a := Int.emod_nonneg z (by omega : q ≠ 0)
  have b := Int.emod_lt_of_pos z h0
  omega
def sp_law_fill (A : Ad) (K : PySem.W.Frag) : Sp := fun vs H Q _ => ∃ (G : Hp) (st : Addr), vs = [.ref st] ∧ Same G H ∧ StOk G H st ∧
  ∀ G' H', Gr [st] G H G' H' → StOk G' H' st → Q .non H'
theorem StOk.step {M : List Addr} {G H G' H' : Hp} {st : Addr} (s : StOk G H st) (g : Gr M G H G' H') (n : st ∉ M) : StOk G' H' st := by
  obtain ⟨cells, ns, nth, left, mx, S, gc, gs⟩ := s
  have gc' := g.gg _ _ gc
  exact ⟨cells, ns, nth, left, mx, ⟨g.hh _ _ n S.s, g.gh _ _ gc', S.n, S.n0, S.l0⟩, gc', g.nog gs S.s⟩
theorem StOk.g {G H : Hp} {st : Addr} (s : StOk G H st) : G st = none := by
  obtain ⟨_, _, _, _, _, _, _, gs⟩ := s
  exact gs
theorem StOk.there {G H : Hp} {st : Addr} (s : StOk G H st) : ∃ xs, H st = some (.lst xs) := by
  obtain ⟨_, _, _, _, _, S, _, _⟩ := s
  exact ⟨_, S.s⟩
theorem StOk.ne {G H : Hp} {st a : Addr} {o : HO} (s : StOk G H st) (h : G a = some o) : a ≠ st := ne_none h s.g
theorem StOk.new {G H : Hp} {st a : Addr} (s : StOk G H st) (h : H a = none) : a ≠ st := by
  obtain ⟨xs, e⟩ := s.there
  exact (ne_none e h).symm
theorem StOk.set {G H : Hp} {st p : Addr} {o : HO} (s : StOk G H st) (n : p ≠ st) (g : G p = none) : StOk G (upd H p o) st := by
  obtain ⟨cells, ns, nth, left, mx, SA, gc, gs⟩ := s
  exact ⟨cells, ns, nth, left, mx, ⟨get_set (Ne.symm n) SA.s, get_set (ne_none gc g) SA.c, SA.n, SA.n0, SA.l0⟩, gc, gs⟩
theorem StOk.freeze {G H : Hp} {st p : Addr} {o : HO} (s : StOk G H st) (n : p ≠ st) (g : G p = none) : StOk (upd G p o) H st := by
  obtain ⟨cells, ns, nth, left, mx, SA, gc, gs⟩ := s
  exact ⟨cells, ns, nth, left, mx, SA, get_new g gc, by rw [upd_ne (Ne.symm n)]; exact gs⟩
def sp_law_take (A : Ad) (K : PySem.W.Frag) : Sp := fun vs H Q _ => ∃ (G : Hp) (st : Addr) (m : Int), vs = [.ref st, .int m] ∧ Same G H ∧ StOk G H st ∧ 0 < m ∧ m < 1048576 ∧
  ∀ d G' H', 0 ≤ d → d < m → Gr [st] G H G' H' → StOk G' H' st → Q (.int d) H'
def sp_law_fresh (A : Ad) (K : PySem.W.Frag) : Sp := fun vs H Q _ => ∃ (G : Hp) (a : Addr) (ns : List Int), vs = [.ref a] ∧ Same G H ∧ SqL K H a (ns.map V.int) ∧
  ∀ st G' H', H st = none → Gr [] G H G' H' → StOk G' H' st → Q (.ref st) H'
def b_law_fill_1 (A : Ad) (K : PySem.W.Frag) : TS := (tSeq (tAsg (tOp rModI (tCB rInt1 (tCons (tOp rMulI (tOp rAddI (tOp rAddI (tVar 3) (tOp rMulI (tOp rMulI (tC (.int 10007)) (tVar 4)) (tVar 4))) (tOp rMulI (tC (.int 101)) (tVar 4))) (tOp rAddI (tC (.int 48271)) (tOp rMulI (tC (.int 2)) (tVar 4)))) tNil)) (tVar 5)) (gName 6))
 (tAsg (tOp rAddI (tOp rMulI (tOp (rIxL K) (tVar 0) (tC (.int 2))) (tVar 5)) (tOp rModI (tCB rInt1 (tCons (tOp rPowI (tVar 6) (tC (.int 5))) tNil)) (tVar 5))) (gSub (tVar 0) (tC (.int 2)) rSetL)))
def k_law_fill_1 (A : Ad) (K : PySem.W.Frag) : TS := (tSeq (tAsg (tOp rSubI (tVar 3) (tOp rPowI (tC (.int 10)) (tC (.int 18)))) (gSub (tVar 0) (tC (.int 2)) rSetL))
 (tIfS (tB (tOp (rIxL K) (tVar 0) (tC (.int 3))))
 (tSeq (tAsg (tC (.int 0)) (gSub (tVar 0) (tC (.int 2)) rSetL))
 (tFor (iEnumT K (tCons (tTup (tCons (tC (.int 2147483647)) (tCons (tC (.int 2147483629)) (tCons (tC (.int 2147483587)) (tCons (tC (.int 2147483579)) (tCons (tC (.int 2147483563)) tNil)))))) tNil)) (gTup K 2 (gCons (gName 4) (gCons (gName 5) gNil))) (b_law_fill_1 A K)))
 tNext))
def k_law_fill_2 (A : Ad) (K : PySem.W.Frag) : TS := (tSeq (tAsg (tOp rAddI (tVar 2) (tC (.int 1))) (gSub (tVar 0) (tC (.int 1)) rSetL))
 (tCut (tAsg (tOrV (tOp rGeI (tVar 2) (tCB (rLen K) (tCons (tVar 1) tNil))) (tOp rLtI (tVar 3) (tOp rPowI (tC (.int 10)) (tC (.int 18))))) (gSub (tVar 0) (tC (.int 3)) rSetL))
 (k_law_fill_1 A K)))
def t_law_fill (A : Ad) (K : PySem.W.Frag) : TS :=
 (tSeq (tPar 1 2 (tCons (tOp (rIxL K) (tVar 0) (tC (.int 0))) (tCons (tOp (rIxL K) (tVar 0) (tC (.int 1))) tNil)))
 (tSeq (tAsg (tOp rAddI (tOp rMulI (tC (.int 31)) (tVar 2)) (tC (.int 7))) (gName 3))
 (tCut (tIfS (tTest (tOp rGtI (tCB (rLen K) (tCons (tVar 1) tNil)) (tC (.int 0))))
 (tAsg (tOp rAddI (tOp rMulI (tC (.int 104729)) (tOp rDivI (tVar 2) (tCB (rLen K) (tCons (tVar 1) tNil)))) (tOp (rIxL K) (tVar 1) (tOp rModI (tCB rInt1 (tCons (tVar 2) tNil)) (tCB (rLen K) (tCons (tVar 1) tNil))))) (gName 3))
 tNext)
 (k_law_fill_2 A K))))
def c_law_take_1 (A : Ad) (K : PySem.W.Frag) : TT := (tAnd (tTest (tOp rLtI (tVar 2) (tC (.int 64)))) (tOr (tTest (tOp rEq (tOp (rIxL K) (tVar 0) (tC (.int 2))) (tC (.int 0)))) (tAnd (tB (tOp (rIxL K) (tVar 0) (tC (.int 3)))) (tTest (tOp rLtI (tOp (rIxL K) (tVar 0) (tC (.int 2))) (tOp rMulI (tVar 1) (tC (.int 4096))))))))
def b_law_take_1 (A : Ad) (K : PySem.W.Frag) : TS := (tSeq (tDrop (tCall (sp_law_fill A K) [] E0 (tCons (tVar 0) tNil)))
 (tSeq (tAug 2 (tC (.int 1)) iAddI)
 (tIfS (tAnd (tB (tOp (rIxL K) (tVar 0) (tC (.int 3)))) (tTest (tOp rLtI (tOp (rIxL K) (tVar 0) (tC (.int 2))) (tOp rMulI (tVar 1) (tC (.int 4096))))))
 (tAsg (tOp rAddI (tOp (rIxL K) (tVar 0) (tC (.int 2))) (tOp rMulI (tOp rMulI (tVar 1) (tC (.int 4096))) (tOp rAddI (tC (.int 1)) (tOp rModI (tCB rInt1 (tCons (tOp (rIxL K) (tVar 0) (tC (.int 2))) tNil)) (tC (.int 4093)))))) (gSub (tVar 0) (tC (.int 2)) rSetL))
 tNext)))
def k_law_take_1 (A : Ad) (K : PySem.W.Frag) : TS := (tSeq (tAsg (tOp rModI (tCB rInt1 (tCons (tOp (rIxL K) (tVar 0) (tC (.int 2))) tNil)) (tVar 1)) (gName 3))
 (tSeq (tAsg (tOp rDivI (tOp (rIxL K) (tVar 0) (tC (.int 2))) (tVar 1)) (gSub (tVar 0) (tC (.int 2)) rSetL))
 (tRet (tVar 3))))
def t_law_take (A : Ad) (K : PySem.W.Frag) : TS :=
 (tSeq (tAsg (tC (.int 0)) (gName 2))
 (tSeq (tWhile (c_law_take_1 A K) (b_law_take_1 A K))
 (k_law_take_1 A K)))
def t_law_fresh (A : Ad) (K : PySem.W.Frag) : TS :=
 (tRet (tLst (tCons (tSl (rSlL K) (tVar 0) oNone (oSome (tC (.int 63)))) (tCons (tC (.int 0)) (tCons (tC (.int 0)) (tCons (tC (.bl false)) tNil))))))
theorem r_law_fill {A : Ad} {K : PySem.W.Frag} {vs : List V} {H : Hp} {Q : VK} {E : XK} (h : sp_law_fill A K vs H Q E) :
    t_law_fill A K { nx := fun _ H' => Q .non H', rt := Q } (start ["_law_state", "_law_cells", "_law_nth", "_law_seed", "_law_k", "_law_prime", "_law_far"] vs) H := by
  obtain ⟨G, st, rfl, gh, ⟨cells, ns, nth, left, mx, S, gc, gs⟩, k⟩ := h
  show t_law_fill A K _ [some (.ref st), none, none, none, none, none, none] H
  obtain ⟨hs, hc, hn, hn0, hl0⟩ := id S
  have nec := S.ne
  row_cond rds
  refine ⟨fun σ H' => ∃ seed : Int, σ = [some (.ref st), some (.ref cells), some (.int nth), some (.int seed), none, none, none] ∧ H' = H, ?_, ?_⟩
  · row_cond rds
    refine rd_if (fun c => ?_) (fun c => ?_)
    · have hl : 0 < ns.length := by simpa using c
      obtain ⟨z, hz⟩ := atI_mod (x := nth) hl
      have hd : CDiv nth ((ns.map V.int).length : Nat) := ⟨by simpa using hl, by rw [List.length_map]; omega⟩
      row_cond rds
      rfl
    · row_cond rds
      rfl
  · rintro σ H' ⟨seed, rfl, rfl⟩
    row_cond rds
    refine ⟨fun σ H2 => ∃ b : Bool, σ = [some (.ref st), some (.ref cells), some (.int nth), some (.int seed), none, none, none] ∧ (b = false → 10 ^ 18 ≤ seed) ∧ H2 = upd (upd H' st (.lst [.ref cells, .int (nth + 1), .int left, .bl mx])) st (.lst [.ref cells, .int (nth + 1), .int left, .bl b]), ?_, ?_⟩
    · row_cond rds
      refine rd_if (fun c => ?_) (fun c => ?_)
      · row_cond rds
        exact ⟨fun z => Bool.noConfusion z, rfl⟩
      · row_cond rds
        refine ⟨fun z => ?_, rfl⟩
        have := of_decide_eq_false z
        have e : (10 : Int) ^ Int.toNat 18 = 10 ^ 18 := rfl
        omega
    · rintro σ H2 ⟨b, rfl, hb, rfl⟩
      have g0 : Gr [st] G H' G (upd (upd H' st (.lst [.ref cells, .int (nth + 1), .int left, .bl mx])) st (.lst [.ref cells, .int (nth + 1), .int left, .bl b])) := by
        refine Gr.set (Gr.set (Gr.refl gh) gs (by rw [hs]; simp) (.inr (by simp))) gs (by rw [upd_same]; simp) (.inr (by simp))
      row_cond rds
      refine rd_ifB (fun c => ?_) (fun c => ?_)
      · row_cond rds
        intro p hp
        row_cond rds
        refine for_it (walk_enumT (xs := primes)) (fun i σ H3 => ∃ (v4 v5 v6 : Option V) (z : Int), σ = [some (.ref st), some (.ref cells), some (.int nth), some (.int seed), v4, v5, v6] ∧ 0 ≤ z ∧ Gr [st] G H' G H3 ∧
            H3 st = some (.lst [.ref cells, .int (nth + 1), .int z, .bl b]) ∧ H3 p = some (.tup primes)) ?_ ?_ ?_ ?_
        · refine ⟨none, none, none, 0, rfl, Int.le_refl _, ?_, ?_, upd_same⟩
          · exact ((g0.set gs (by rw [upd_same]; simp) (.inr (by simp))).set gs (by rw [upd_same]; simp) (.inr (by simp))).newM hp
          · row_cond get
        · rintro i σ H3 hi ⟨v4, v5, v6, z, rfl, hz, g3, h3, h4⟩
          exact SqT.of h4
        · rintro i x σ H3 H4 hi ⟨v4, v5, v6, z, rfl, hz, g3, h3, h4⟩ ⟨T, x1, y1, rfl, hT, rfl, e1, e2⟩
          cases e1
          obtain ⟨q, rfl, q0, q1⟩ := primes_mem e2
          have hi5 : i < 5 := hi
          have hk : CMul (10007 * (i : Int)) i := .inr ⟨by omega, by omega⟩
          have hk2 : CMul (seed + 10007 * (i : Int) * i + 101 * i) (48271 + 2 * i) := .inr ⟨by omega, by omega⟩
          have hk3 : CMul z q := .inr ⟨by omega, by omega⟩
          have hst : H3 st ≠ none := by rw [h3]; simp
          have nT : st ≠ T := ne_none h3 hT
          have npT : p ≠ T := ne_none h4 hT
          have nps : p ≠ st := ne_of h4 h3 (by intro z; cases z)
          row_cond rds
          refine ⟨⟨by decide, by decide, pow_ok q0 q1⟩, ?_⟩
          row_cond rds
          refine ⟨_, _, _, _, rfl, ?_, (g3.newM hT).set gs (by rw [upd_ne nT]; exact hst) (.inr (by simp)), upd_same, ?_⟩
          · have a1 : 0 ≤ z * q := Int.mul_nonneg hz (by omega)
            exact Int.add_nonneg a1 (Int.emod_nonneg _ (by omega))
          · row_cond get
        · rintro σ H3 ⟨v4, v5, v6, z, rfl, hz, g3, h3, h4⟩
          exact k G H3 g3 ⟨cells, ns, nth + 1, z, b, ⟨h3, g3.gh _ _ gc, hn, by omega, hz⟩, gc, gs⟩
      · have hb := hb c
        refine k G _ (g0.set gs (by rw [upd_same]; simp) (.inr (by simp))) ⟨cells, ns, nth + 1, _, b, ⟨upd_same, ?_, hn, by omega, ?_⟩, gc, gs⟩
        · row_cond get
        · have e : (10 : Int) ^ Int.toNat 18 = 10 ^ 18 := rfl
          omega
theorem r_law_take {A : Ad} {K : PySem.W.Frag} {vs : List V} {H : Hp} {Q : VK} {E : XK} (h : sp_law_take A K vs H Q E) :
    t_law_take A K { nx := fun _ H' => Q .non H', rt := Q } (start ["_law_state", "_law_many", "_law_laps", "_law_digit"] vs) H := by
  obtain ⟨G, st, m, rfl, gh, S, m0, m1, k⟩ := h
  show t_law_take A K _ [some (.ref st), some (.int m), none, none] H
  have cm : CMul m 4096 := .inl ⟨by omega, by omega⟩
  refine ⟨fun n σ H1 => ∃ (G1 : Hp) (laps : Int), n = (64 - laps).toNat ∧ laps ≤ 64 ∧ σ = [some (.ref st), some (.int m), some (.int laps), none] ∧ Gr [st] G H G1 H1 ∧ StOk G1 H1 st, ⟨64, G, 0, rfl, by decide, rfl, Gr.refl gh, S⟩, ?_⟩
  rintro n σ H1 ⟨G1, laps, rfl, hl, rfl, g1, S1⟩
  obtain ⟨cells, ns, nth, left, mx, SA, gc, gs⟩ := id S1
  obtain ⟨hs, hc, hn, hn0, hl0⟩ := id SA
  have ev : ∃ b : Bool, (b = true → laps < 64) ∧ ∀ R : Bool → Hp → Prop, R b H1 → c_law_take_1 A K [some (.ref st), some (.int m), some (.int laps), none] H1 R := by
    by_cases c : laps < 64
    · by_cases c2 : left = 0
      · refine ⟨true, fun _ => c, fun R hR => ?_⟩
        row_cond rds
        rw [decide_eq_true c]
        row_cond rds
        rw [int_eq_dec, decide_eq_true c2]
        exact hR
      · cases mx with
        | true =>
          refine ⟨decide (left < m * 4096), fun _ => c, fun R hR => ?_⟩
          row_cond rds
          rw [decide_eq_true c]
          row_cond rds
          rw [int_eq_dec, decide_eq_false c2]
          row_cond rds
          exact hR
        | false =>
          refine ⟨false, fun z => Bool.noConfusion z, fun R hR => ?_⟩
          row_cond rds
          rw [decide_eq_true c]
          row_cond rds
          rw [int_eq_dec, decide_eq_false c2]
          row_cond rds
          exact hR
    · refine ⟨false, fun z => Bool.noConfusion z, fun R hR => ?_⟩
      row_cond rds
      rw [decide_eq_false c]
      exact hR
  obtain ⟨b, hb, ev⟩ := ev
  refine ev _ ?_
  refine rd_ifB (fun c => ?_) (fun c => ?_)
  · have hlt := hb c
    refine ⟨fun σ' H' => ∃ (G2 : Hp), σ' = [some (.ref st), some (.int m), some (.int (laps + 1)), none] ∧ Gr [st] G H G2 H' ∧ StOk G2 H' st, fun σ' H' ⟨G2, e, g2, S2⟩ => ⟨(64 - (laps + 1)).toNat, by omega, G2, laps + 1, rfl, by omega, e, g2, S2⟩, ?_⟩
    row_cond rds
    refine ⟨G1, st, rfl, g1.gh, S1, fun G2 H2 g2 S2 => ?_⟩
    have g12 := g1.trans g2 (fun _ h => h)
    obtain ⟨cells2, ns2, nth2, left2, mx2, SA2, gc2, gs2⟩ := id S2
    obtain ⟨hs2, hc2, hn2, hn02, hl02⟩ := id SA2
    row_cond rds
    refine rd_ifB (fun c => ?_) (fun c => ?_)
    · row_cond rds
      refine rd_if (fun c2 => ?_) (fun c2 => ?_)
      · have c3 : CMul (m * 4096) (1 + left2 % 4093) := .inl ⟨by omega, by omega⟩
        row_cond rds
        refine ⟨G2, rfl, g12.set gs2 (by rw [hs2]; simp) (.inr (by simp)), cells2, ns2, nth2, _, mx2, ⟨upd_same, get_set SA2.ne hc2, hn2, hn02, ?_⟩, gc2, gs2⟩
        have a1 := Int.emod_nonneg left2 (by decide : (4093 : Int) ≠ 0)
        exact Int.add_nonneg hl02 (Int.mul_nonneg (by omega) (by omega))
      · exact ⟨G2, rfl, g12, S2⟩
    · exact ⟨G2, rfl, g12, S2⟩
  · have cd : CDiv left m := ⟨by omega, by omega⟩
    row_cond rds
    exact k _ G1 _ (Int.emod_nonneg _ (by omega)) (Int.emod_lt_of_pos _ m0) (g1.set gs (by rw [hs]; simp) (.inr (by simp)))
      ⟨cells, ns, nth, _, mx, ⟨upd_same, get_set SA.ne hc, hn, hn0, Int.ediv_nonneg hl0 (by omega)⟩, gc, gs⟩
theorem r_law_fresh {A : Ad} {K : PySem.W.Frag} {vs : List V} {H : Hp} {Q : VK} {E : XK} (h : sp_law_fresh A K vs H Q E) :
    t_law_fresh A K { nx := fun _ H' => Q .non H', rt := Q } (start ["_law_script"] vs) H := by
  obtain ⟨G, a, ns, rfl, gh, ha, k⟩ := h
  show t_law_fresh A K _ [some (.ref a)] H
  row_cond rds
  intro p hp
  row_cond rds
  intro st hst
  obtain ⟨ms, e1, e2⟩ : ∃ ms : List Int, cutV (ns.map V.int) none (some 63) = ms.map V.int ∧ ms.length ≤ 63 := by
    refine ⟨ns.take 63, ?_, by simp; omega⟩
    rw [show (63 : Int) = ((63 : Nat) : Int) from rfl, cut_to, List.map_take]
  have gp : Gr [] G H (upd G p (.lst (ms.map V.int))) (upd H p (.lst (cutV (ns.map V.int) none (some 63)))) := by
    rw [e1]
    exact (Gr.refl gh).newF hp
  have nsp : p ≠ st := by
    rintro rfl
    rw [upd_same] at hst; cases hst
  refine k st _ _ ?_ (gp.newM hst) ⟨p, ms, 0, 0, false, ⟨upd_same, ?_, e2, by decide, by decide⟩, upd_same, gp.free hst⟩
  · rw [upd_ne (Ne.symm nsp)] at hst; exact hst
  · rw [upd_ne nsp, upd_same, e1]
end Mz
end
section
set_option Elab.async false
set_option linter.all false
set_option maxRecDepth 100000
set_option maxHeartbeats 2000000
namespace L2
open PySem PySem.Spec PyProof.Rows PySem.W Mz
section
variable {X : Cx}
/-- text * 0 or 1 -/
def rMulS : V → V → Hp → VK → Prop := fun x y H Q => ∃ (s : Str) (k : Int), x = .str s ∧ y = .int k ∧ (k = 0 ∨ k = 1) ∧ Q (.str (if k = 1 then s else Str.empty)) H
theorem op_mul_str : OpR X (binaryOp .Mult) rMulS := by
  intro pins s σ H x y v u Q I rx ry h
  obtain ⟨z, k, rfl, rfl, hk, q⟩ := h
  obtain ⟨t, rfl⟩ := rx
  obtain ⟨t', rfl⟩ := ry
  rcases hk with rfl | rfl
  · exact PySem.P.mul_str_none (by decide) (by decide) ⟨.str Str.empty, H, I.tok _, ⟨_, rfl⟩, q⟩
  · refine PySem.P.mul_str (by decide) (fun _ h => absurd h (by simp)) (fun _ h => absurd h (by simp)) ?_
    rw [if_neg (by decide), if_pos (by simp)]
    exact ⟨.str z, H, I, ⟨_, rfl⟩, q⟩
end
end L2
end
section
set_option Elab.async false
set_option linter.all false
set_option maxRecDepth 100000
set_option maxHeartbeats 2000000
namespace L2
open PySem PySem.Spec PyProof.Rows PySem.W Mz
end L2
end
section
set_option Elab.async false
set_option linter.all false
set_option maxRecDepth 100000
set_option maxHeartbeats 2000000
namespace L2
open PySem PySem.Spec PyProof.Rows
/-! ### a def with defaults -/
end L2
end
section
set_option Elab.async false
set_option linter.all false
set_option maxRecDepth 100000
set_option maxHeartbeats 2000000
namespace L2
open PySem PySem.Spec PyProof.Rows
end L2
end
section
set_option Elab.async false
set_option linter.all false
set_option maxRecDepth 100000
set_option maxHeartbeats 2000000
namespace L2
open PySem PySem.Spec PyProof.Rows ItX
/-! ### x walked over by an own __iter__ that hands the iterator of a list in a field -/
end L2
end
section
set_option Elab.async false
set_option linter.all false
set_option maxRecDepth 100000
set_option maxHeartbeats 2000000
/-! ### an own error whose __init__ says super().__init__(..) over ValueError's -/
namespace L2
open PySem PySem.Spec PySem.Calls PyProof.Rows LamX NdefX
section
variable {h : Heap} {g : Array GenState} {d : Drawn} {t : Nat} {os : OsState} {prog : Program} {w : World} {A : Around} {E : Value → Shared → Prop}
theorem call_mwVE {nm q : Str} {C N : Addr} {bs bm : List Value} {hdct : Bool} {sn : List Str} {sub : List Value} {ab : Bool} {col : Option Bool} {dd : Option Addr} {k0 k1 k2 k3 k5 : Option Value} {u e t0 : Addr} {rest : List Value} {Q : Value → Shared → Prop}
    (hC : h.get? C = some (excClassObj nm q C N bs bm hdct sn sub ab col dd k0 k1 k2 k3 k5 "ValueError.__new__")) (he : h.get? e = some (HandSPX.excO C t0)) (hu : h.get? u = some (PySem.W.kxs_mw "ValueError.__init__" e)) (hrest : rest.length ≤ sizeLine)
    (hq : ∀ h' t1, (∀ b o, b ≠ e → h.get? b = some o → h'.get? b = some o) → h'.get? e = some (HandSPX.excO C t1) → Q .none ⟨h', g, d, t, os⟩) :
    wpAny (model prog w) A (call (.ref u) rest) Q E ⟨h, g, d, t, os⟩ := by
  refine wpAny_call (codeAny_of_tree ?_)
  show wpAny _ A.in1 (callAny (.ref u) ⟨rest, []⟩) _ _ _
  simp only [callAny]
  refine wpAny_bind (wpAny_load hu ?_)
  simp only [PySem.W.kxs_mw, show (Value.type "method-wrapper" == Value.type "method" || Value.type "method-wrapper" == Value.type "builtin_function_or_method" || Value.type "method-wrapper" == Value.type "method-wrapper") = true by decide, if_true]
  refine W.KFB.if_so (by decide) ?_
  refine wpAny_bind (PySem.ESX.check_bound F.excBase_ValueError hC he rfl ?_)
  refine wpAny_bind (wpAny_pure (wpAny_pure ?_))
  refine ⟨Code.quiet_builtin _ (by decide +kernel), codeAny_builtin F.excBase_ValueError.initEntry ?_⟩
  rw [Around.under_plainId F.excBase_ValueError.init.plain _]
  wp_walk
  refine hq _ h.objs.size (fun b o hb ho => ?_) ?_
  · rw [Heap.get?_update_other _ _ (Ne.symm hb)]
    exact Heap.get?_push_of_some _ ho
  · rw [Heap.get?_update_self _ (Heap.get?_push_of_some _ he) rfl]
    rfl
end
/-- what is asked of the text and of the written part -/
structure SupP (P : Program) (file : Str) : Prop where
  file : ((P.main.file : Str) == file) = true
  top : (P.main.scope.names.lookup ("super" : Str)).isSome = false
structure SupK (K : PySem.W.Frag) (mg : Str → Option Value) (C cc cda : Addr) (file : Str) : Prop where
  code : ∃ ccl cdd vs ccs tf, K.lookup cda = some ⟨ccl, cdd, .fields vs, ccs⟩ ∧ vs[2]? = some (.str file tf)
  cell : ∃ cl cld csl, K.lookup cc = some ⟨cl, cld, .cell (some (.ref C)), csl⟩
  sup : mg "super" = none
  stat : PySem.W.nsIn K cStatics "thirdparty.any" = some none
  ini : PySem.W.ks_superIn K C C "__init__" = some (some (.builtin "ValueError.__init__"))
  mro : PySem.W.mroIn K C (.ref C) = some true
  sub : PySem.W.subIn K (.ref C) (.type "ValueError") = some true
section
variable {X : Cx} {pins : List (Addr × Obj)} {σ : St} {H : Hp} {s : Shared} {a C cc : Addr} {file : Str}
theorem Inv.pin1 (I : Inv X pins σ H s) {u : Addr} {o : Obj} (h1 : s.heap.get? u = some o) (h2 : H u = none) (h3 : u ≠ X.env.locals) (h4 : u ∉ X.fs) (h5 : ∀ v, o.data ≠ .cell v) : Inv X (pins ++ [(u, o)]) σ H s := by
  refine { I with pin := fun p hp => ?_ }
  rcases List.mem_append.mp hp with hp | hp
  · exact I.pin p (List.mem_append_left _ hp)
  rcases List.mem_append.mp hp with hp | hp
  · exact I.pin p (List.mem_append_right _ hp)
  · simp only [List.mem_cons, List.not_mem_nil, or_false] at hp
    subst hp
    exact ⟨h1, h2, h3, h4, h5⟩
theorem Inv.unpin {pn : List (Addr × Obj)} (I : Inv X (pins ++ pn) σ H s) : Inv X pins σ H s := by
  refine { I with pin := fun p hp => I.pin p ?_ }
  rcases List.mem_append.mp hp with hp | hp
  · exact List.mem_append_left _ hp
  · exact List.mem_append_right _ (List.mem_append_left _ hp)
/-- super().__init__(e, ..), self being the exception at a -/
theorem super_init {F : NF} {f : Addr} {doc pm ctv oc : Value} {od : Option Addr} {osl : Array (Option Value)} {ar : Arg} {e1 : Expr} {es : List Expr} {ta : TA} {Q : Hp → Prop} {p0 p1 p2 pos pos' : Pos} {pl : Sem Bool}
    (hE : X.env = envF F f X.env.locals) (hcl : F.cl.lookup ("__class__" : Str) = some cc) (hks : F.scope.names.lookup ("super" : Str) = some .globalImplicit) (hkc : F.scope.names.lookup ("__class__" : Str) = some .free) (hkind : F.scope.kind = .function)
    (hpar : (F.params.posonlyargs ++ F.params.args).head? = some ar) (har : F.scope.names.lookup ar.arg = some .local) (hN : X.N[0]? = some ar.arg)
    (T : OexC X.K C) (SP : SupP X.prog file) (SK : SupK X.K X.mg C cc F.c file) (lk : X.K.lookup f = some ⟨oc, od, .func (F.fd doc pm ctv), osl⟩)
    (I : Inv X pins σ H s) (hσ : σ[0]? = some (some (.ref a))) (e : H a = some (exo a C none)) (ha : PA X (e1 :: es) ta) (hq : ta σ H fun vs H' => vs.length ≤ 1000 ∧ H' a = some (exo a C none) ∧ Q H')
    (hcall : eval (.Call (.Attribute (.Call (.Name "super" p0) [] [] p1) "__init__" p2) (e1 :: es) [] pos) X.env = (do
      let ov ← attributeBase (.Call (.Name "super" p0) [] [] p1) "__init__" X.env (eval (.Call (.Name "super" p0) [] [] p1) X.env)
      standAt p2.atName
      let (f, first) ← holding [ov] (getMethod ov "__init__" pl)
      callWith pos f first (backTo pos (starEach (e1 :: es) X.env)) []) := by rfl)
    (hi : interactive X.env = false := by rfl) (he : starEach (e1 :: es) X.env = (false, eval e1 X.env) :: starEach es X.env := by rfl) (hpl : (backTo pos (starEach es X.env)).any (·.1) = false := by rfl) :
    _root_.PySem.wpAt (model X.prog X.w) X.A (.func F.body X.env) (exec (.Expr (.Call (.Attribute (.Call (.Name "super" p0) [] [] p1) "__init__" p2) (e1 :: es) [] pos) pos') X.env) (fun fl s' => fl = .next ∧ ∃ H', Inv X pins σ H' s' ∧ Q H') X.xe s := by
  obtain ⟨nm, q, N, bs, bm, sn, sub, ab, col, dd, k0, k1, k2, k3, k5, hC, hbm⟩ := T.cls
  have hcd : PySem.W.clsIn X.K C = some { name := nm, bases := bs, mro := .ref C :: bm, ns := N, qualname := q, hasDict := true, slotNames := sn, subclasses := sub, abstract := ab, collection := col, hasDel := false } := by unfold PySem.W.clsIn; rw [hC] <;> rfl
  obtain ⟨ccl, cdd, vs, ccs, tf, hcode, hvs⟩ := SK.code
  obtain ⟨cl, cld, csl, hcell⟩ := SK.cell
  have KX := I.kIn
  obtain ⟨t1, ho⟩ := exo_at I.hok e
  have hIx : PySem.W.InstAt s.heap a ({ cls := .ref C, dict := none, data := .fields #[.ref t1, .none, .none, .none, .bool false, .none] } : Obj) C none := ⟨ho, rfl, rfl, trivial⟩
  have haC : a ≠ C := PySem.W.ks_ne KX hIx hcd
  refine ks_wpAt_Expr_any (ks_wpAt_MethodCall ?_ hcall) hi (by rfl)
  have hkX : ∀ x, X.env.kindOf x = F.scope.names.lookup x := fun x => by rw [hE]; rfl
  refine ks_wpAt_super_base (f := f) (cc := F.c) (ar := ar) (by rw [hkX]; exact hks) (by rw [hkX]; exact hkc) (by decide) (by rw [hE]) (KX _ _ lk) rfl hpar (by rw [hE]) (KX _ _ hcode) rfl hvs SP.file SP.top ?_
  have hkk := I.ok.kind
  obtain ⟨mb, hb1, hb2⟩ := I.mod.blt
  refine PySem.W.ks_loadName_global hkk (by rw [hkX]; exact hks) (Calls.loadGlobal_builtin (by rw [I.ok.glob]; exact I.mod.glob.keeps I.bk) SK.sup (by rw [I.ok.blt]; exact hb1.keeps I.bk) ((hb2 _ (by decide)).trans PyProof.Rows.Boot.«super») ⟨rfl, ?_⟩)
  refine wpAny_loadName_free hkk (by rw [hkX]; exact hkc) (by rw [hE]; exact hcl) ⟨_, KX _ _ hcell, rfl⟩ ?_
  obtain ⟨m, hns, hl⟩ := I.loc
  obtain ⟨u, ru, hlk⟩ := hl 0 ar.arg (.ref a) hN hσ (.inl (by rw [← hkX] at har; exact har))
  obtain rfl : u = Value.ref a := ru
  have hm : m ar.arg = some (.ref a) := by
    rcases hlk with ⟨_, z⟩ | ⟨z, _⟩
    · exact z
    · rw [hkX, har] at z
      rcases z with z | z <;> cases z
  refine wpAny_loadName_local hkk (by rw [hkX]; exact har) hns hm ?_
  obtain ⟨hp, g, dr, tk, os⟩ := s
  refine ks_wpAny_isType_cls (KX _ _ hC) rfl ⟨rfl, ?_⟩
  refine ks_wpAny_call_super (cdD := _) (KX _ _ hC) rfl ho rfl (fun c z => by cases z) (PySem.W.looks_mroIn KX SK.mro) (fun h' e' k => ?_)
  have I1 : Inv X pins σ H ⟨h', g, dr, tk, os⟩ := I.kept (t' := tk) k
  have KX1 := I1.kIn
  have hI1 : PySem.W.Looks (model X.prog X.w) h' (isInstance (.ref a) (.type "ValueError")) true := (show PySem.W.InstAt h' a _ C none from ⟨k _ _ ho, rfl, rfl, trivial⟩).type.andThen (PySem.W.looks_subIn KX1 SK.sub)
  have hini : PySem.W.alongIn X.K "__init__" (((Value.ref C :: bm).dropWhile (· != .ref C)).drop 1) = some (some (.builtin "ValueError.__init__")) := by
    have := SK.ini
    unfold PySem.W.ks_superIn at this
    rw [hcd] at this
    exact this
  refine PySem.W.kxs_getMethod PySem.W.kxs_ValueError e' (PySem.W.looks_opaque KX1 SK.stat) (l₀ := .ref C :: bm) (fun A Q E s k q => wpAny_bind ((PySem.W.looks_clsIn KX1 hcd) A _ E s k (wpAny_pure q))) rfl KX1 hini hI1 haC (by decide) ?_
  have I2 : Inv X pins σ H ⟨h'.push (PySem.W.kxs_mw "ValueError.__init__" a), g, dr, tk + 1, os⟩ := I1.kept (t' := tk + 1) fun b o q => Heap.get?_push_of_some _ q
  have hmw : (h'.push (PySem.W.kxs_mw "ValueError.__init__" a)).get? h'.objs.size = some (PySem.W.kxs_mw "ValueError.__init__" a) := Heap.get?_push_at rfl rfl
  have hnu : H h'.objs.size = none := I1.hok.fresh (Nat.le_refl _)
  have I3 := I2.pin1 hmw hnu (Nat.ne_of_gt I1.lt) (I1.nofs (Nat.le_refl _)) (fun v z => by cases z)
  show wpAny _ _ (callWith pos (.ref h'.objs.size) [] (backTo pos (starEach (e1 :: es) X.env)) []) _ _ _
  have hr := ha.run pos _ _ σ H _ I3 hq
  rw [he] at hr ⊢
  refine PySem.W.kxs_callWith (i := "ValueError.__init__") (x := a) (by show (false || (backTo pos (starEach es X.env)).any (·.1)) = false; rw [hpl]; rfl) (evalArgs_plain (thn hr fun us s1 hz => ?_))
  obtain ⟨vs1, H1, I4, r1, hl1, e1', q1⟩ := hz
  have hu4 := (I4.pin (h'.objs.size, PySem.W.kxs_mw "ValueError.__init__" a) (by simp)).1
  refine ⟨hu4, ?_⟩
  have I5 := I4.unpin
  obtain ⟨t4, ho4⟩ := exo_at I5.hok e1'
  have hC4 := I5.kIn _ _ hC
  obtain ⟨hp4, g4, dr4, tk4, os4⟩ := s1
  show wpAny _ _ (call (.ref h'.objs.size) us) _ _ _
  refine call_mwVE hC4 ho4 hu4 (by rw [← r1.length, sizeLine_eq]; omega) fun h6 t6 k6 hx6 => ?_
  have J := I5.write (t' := tk4) (x := a) (e := a) (o := exo a C none) (by rw [e1']; exact True.intro) (.inl rfl) k6 ⟨_, hx6⟩ (exo_ok hx6)
  have eu : upd H1 a (exo a C none) = H1 := by
    funext b
    by_cases hb : b = a
    · rw [hb, upd_same, e1']
    · rw [upd_ne hb]
  rw [eu] at J
  exact ⟨rfl, H1, J, q1⟩
end
end L2
end
section
set_option Elab.async false
set_option linter.all false
set_option maxRecDepth 100000
set_option maxHeartbeats 2000000
namespace L2
open PySem PySem.Spec PySem.Calls PyProof.Rows LamX NdefX
section
variable {P : Program} {w : World} {K : PySem.W.Frag} {mg : Str → Option Value} {base : Heap}
/-- the promise of such an __init__: ta its arguments to super().__init__, t what follows -/
def spI (C : Addr) (N : List Str) (k : Nat) (ta : TA) (t : TS) : Sp := fun vs H Q _ => vs.length = k ∧ ∃ a, vs[0]? = some (.ref a) ∧ H a = some (exo a C none) ∧
  ta (startF N vs [none]) H fun ws H' => ws.length ≤ 1000 ∧ H' a = some (exo a C none) ∧ t { nx := fun _ H' => Q .non H', rt := Q } (startF N vs [none]) H'
theorem startF0 {N : List Str} {v : V} {vs : List V} {ws : List (Option V)} : (startF N (v :: vs) ws)[0]? = some (some v) := by
  unfold startF; simp
theorem init_fn {F : NF} {f C cc : Addr} {file : Str} {N ps : List Str} {doc pm ctv oc : Value} {od : Option Addr} {osl : Array (Option Value)} {ar : Arg} {e1 : Expr} {es : List Expr} {rest : List Stmt} {ta : TA} {t : TS} {p0 p1 p2 pos pos' : Pos} {pl : Addr → Sem Bool}
    (S : NScope N ps ["__class__"] F.scope) (hcl : F.cl = [(("__class__" : Str), cc)]) (hks : F.scope.names.lookup ("super" : Str) = some .globalImplicit)
    (hpar : (F.params.posonlyargs ++ F.params.args).head? = some ar) (har : F.scope.names.lookup ar.arg = some .local) (hN : N[0]? = some ar.arg)
    (T : OexC K C) (SP : SupP P file) (SK : SupK K mg C cc F.c file) (lk : K.lookup f = some ⟨oc, od, .func (F.fd doc pm ctv), osl⟩) (hcd : PySem.W.codeIn K (.ref F.c) F.qual = true)
    (hbody : F.body = .Expr (.Call (.Attribute (.Call (.Name "super" p0) [] [] p1) "__init__" p2) (e1 :: es) [] pos) pos' :: rest)
    (ha : ∀ (A : Around) (outer : List Env) (s : Shared) (H : Hp) (E : XK), PA (ncx CX0 P w K mg base N F f A outer s H E) (e1 :: es) ta)
    (hrest : ∀ (A : Around) (outer : List Env) (s : Shared) (H : Hp) (E : XK), PSs (ncx CX0 P w K mg base N F f A outer s H E) rest t)
    (hcall : ∀ L, eval (.Call (.Attribute (.Call (.Name "super" p0) [] [] p1) "__init__" p2) (e1 :: es) [] pos) (envF F f L) = (do
      let ov ← attributeBase (.Call (.Name "super" p0) [] [] p1) "__init__" (envF F f L) (eval (.Call (.Name "super" p0) [] [] p1) (envF F f L))
      standAt p2.atName
      let (z, first) ← holding [ov] (getMethod ov "__init__" (pl L))
      callWith pos z first (backTo pos (starEach (e1 :: es) (envF F f L))) []) := by intro; rfl)
    (he : ∀ L, starEach (e1 :: es) (envF F f L) = (false, eval e1 (envF F f L)) :: starEach es (envF F f L) := by intro; rfl) (hpl : ∀ L, (backTo pos (starEach es (envF F f L))).any (·.1) = false := by intro; rfl) :
    FnOk P w K mg base CX0 1 f (F.fd doc pm ctv) ps (spI C N ps.length ta t) := by
  refine ⟨fun vs H Q E h => h.1, fun A outer s H args us vs Q E hr e0 hb r hsp => ?_⟩
  obtain ⟨hl, a, hv0, ea, hta⟩ := hsp
  have KX : K.In s.heap := e0.mod.kin.keeps fun b o e => (e0.bs b o e).1
  have lim : s.heap.NoLimit := e0.mod.nolimit.keeps fun b o e => (e0.bs b o e).1
  obtain ⟨cl, cld, csl, hcell⟩ := SK.cell
  have hcb := e0.bs _ _ (e0.mod.kin _ _ hcell)
  have CA : CellsAt F.cl ["__class__"] [none] s.heap H := by
    rw [hcl]
    have hlk : ∀ {y c}, ([(("__class__" : Str), cc)] : List (Str × Addr)).lookup y = some c → y = "__class__" ∧ c = cc := fun {y c} e => by
      by_cases h : y = "__class__"
      · subst h
        rw [List.lookup_cons_self] at e
        exact ⟨rfl, (Option.some.inj e).symm⟩
      · have h' : (y == ("__class__" : Str)) = false := by simpa using h
        simp [List.lookup, h'] at e
    refine ⟨rfl, fun y c e => ?_, fun x y c e1 e2 => (hlk e1).1.trans (hlk e2).1.symm, fun i y hi => ?_⟩
    · obtain ⟨_, rfl⟩ := hlk e
      exact ⟨hcb.2, _, _, hcb.1, rfl⟩
    · match i, hi with
      | 0, hi =>
        cases hi
        exact ⟨cc, List.lookup_cons_self, fun v hv => by cases hv⟩
      | i + 1, hi => cases hi
  refine codeAny_call_function hr.depth (KX _ _ lk) rfl S.co S.gen rfl (PySem.W.codeRec_of KX hcd) (hb _ _ _ _ ?_)
  refine wpAny_newFunctionEnv S.nocell (fun ⟨n, _⟩ hy => S.par n (List.of_mem_zip hy).1) (fun h₁ hns hsb => ⟨lim.fresh _ hsb, ?_⟩) S.kind
  show codeAny _ _ (.func F.body (envF F f s.heap.objs.size)) _ _
  have kp : ∀ b o, s.heap.get? b = some o → h₁.get? b = some o := fun b o e => hsb.extBut b o (Nat.ne_of_lt (Heap.lt_size e)) (Heap.get?_push_of_some _ e)
  have I : Inv (ncx CX0 P w K mg base N F f A outer s H E) [] (startF N vs [none]) H { s with heap := h₁, toks := s.toks + (ps.zip us).length } := inv_startN S hr.hd e0 hl r CA hns kp
  have h0 : (startF N vs [none])[0]? = some (some (.ref a)) := by
    cases vs with
    | nil => cases hv0
    | cons v vs => cases hv0; exact startF0
  have fin : ∀ {s' : Shared} {σ' : St} {H' : Hp} {v : V} {u : Value}, Inv (ncx CX0 P w K mg base N F f A outer s H E) [] σ' H' s' → RelV v u → Q v H' → CE outer P w H s Q u s' :=
    fun {s' σ' H' v u} J rv q => ⟨v, H', J.os, J.bare, J.base, J.hok, rv, q⟩
  refine ks_codeAny_funcAt ?_
  rw [show execs F.body (envF F f s.heap.objs.size) = execs (.Expr (.Call (.Attribute (.Call (.Name "super" p0) [] [] p1) "__init__" p2) (e1 :: es) [] pos) pos' :: rest) (envF F f s.heap.objs.size) by rw [hbody]]
  refine ks_wpAt_execs_cons (ks_wpAt_mono (super_init (X := ncx CX0 P w K mg base N F f A outer s H E) (pl := pl s.heap.objs.size) rfl (by rw [hcl]; exact List.lookup_cons_self) hks (S.frk _ (by simp)) S.kind hpar har hN T SP SK lk I h0 ea (ha A outer s H E) hta (hcall _) (by
    have := S.kind
    show interactive (envF F f s.heap.objs.size) = false
    unfold interactive
    rw [show (envF F f s.heap.objs.size).scope.kind = .function from this] <;> rfl) (he _) (hpl _)) (fun fl s' hs => ?_) fun e s' hs => hs)
  obtain ⟨rfl, H', J, q⟩ := hs
  refine wpAt_of_wpAny (wpAny_mono ((hrest A outer s H E).run [] s' _ H' _ J q) (fun fl s2 hs => ?_) fun e s2 hs => hs)
  cases fl with
  | ret u =>
    obtain ⟨v, σ', H2, J2, rv, q2⟩ := hs
    exact fin J2 rv q2
  | next =>
    obtain ⟨σ', H2, J2, q2⟩ := hs
    exact fin (v := V.non) (u := Value.none) J2 rfl q2
  | brk =>
    obtain ⟨_, _, _, q2⟩ := hs
    exact False.elim q2
  | cont =>
    obtain ⟨_, _, _, q2⟩ := hs
    exact False.elim q2
end
end L2
end
section
set_option Elab.async false
set_option linter.all false
set_option maxRecDepth 100000
set_option maxHeartbeats 2000000
namespace L2
open PySem PySem.Spec PySem.Calls PyProof.Rows LamX NdefX
theorem PMk.imp {X : Cx} {e : Expr} {t t' : St → Hp → XK → Prop} (h : PMk X e t) (hi : ∀ σ H Q, t' σ H Q → t σ H Q) : PMk X e t' := fun pins s σ H Q I hq => h pins s σ H Q I (hi σ H Q hq)
abbrev spI1 (K : PySem.W.Frag) (C : Addr) (f : Str) : Sp := spI C ["self", f, "__class__"] 2 (tCons (tVar 1) tNil) (tOst K f (tVar 0) (tVar 1))
abbrev spI2 (K : PySem.W.Frag) (C : Addr) (f g : Str) : Sp := spI C ["self", f, g, "__class__"] 3 (tCons (tVar 1) (tCons (tVar 2) tNil)) (tSeq (tOst K f (tVar 0) (tVar 1)) (tOst K g (tVar 0) (tVar 2)))
section
variable {X : Cx} {x f g : Str} {C : Addr} {p pos : Pos} {e e2 : Expr} {te : TE} {ta : TA}
theorem pass0X {X : Cx} : Passes CX0 X (fun _ _ _ => False) := fun _ _ _ _ _ _ _ h => (show False from h).elim
end
end L2
end
section
set_option Elab.async false
set_option linter.all false
set_option maxRecDepth 100000
set_option maxHeartbeats 2000000
namespace L2
open PySem PySem.Spec PySem.Calls PyProof.Rows LamX NdefX
/-- a method call whose parts stand on one line -/
theorem mcall_plain {o : Expr} {m : Str} {apos pos : Pos} {env : Env} {args : List Expr} (hln : (apos.endLine == pos.line) = true) (hf : methodCallForm (args.length + 0) (backTo pos (starEach args env)) [] = true) :
    eval (.Call (.Attribute o m apos) args [] pos) env = (do
      let ov ← attributeBase o m env (eval o env)
      standAt apos.atName
      let (z, first) ← holding [ov] (getMethod ov m (do return (← importBound o env).getD true))
      callWith pos z first (backTo pos (starEach args env)) []) := by
  rw [arm_eval_Call]
  have e : ∀ ov, methodCall o m apos pos env ov (args.length + ([] : List Keyword).length) (backTo pos (starEach args env)) (backToKw pos (keywordEach [] env)) = (do
      let (z, first) ← holding [ov] (getMethod ov m (do return (← importBound o env).getD true))
      callWith pos z first (backTo pos (starEach args env)) []) := fun ov => by
    have hf' : methodCallForm (args.length + ([] : List Keyword).length) (backTo pos (starEach args env)) (backToKw pos (keywordEach [] env)) = true := hf
    unfold methodCall
    rw [hf']
    unfold calleeOf methodCallPos
    simp only [hln, Bool.not_true, Bool.false_or, if_true, pure_bind]
    rfl
  simp only [e]
abbrev nfI (st : Stmt) (qual : Str) (cc cda : Addr) : NF := ⟨"__init__", qual, defArgs st, defBody st, defScope st, [(("__class__" : Str), cc)], cda⟩
/-- what the written part says of an own error class with its own __init__ -/
structure ErrT (K : PySem.W.Frag) (mg : Str → Option Value) (C : Addr) (st : Stmt) (qual : Str) (ps : List Str) (file : Str) : Prop where
  T : OexC K C
  ex : ∃ (fI cc cda : Addr) (oc : Value) (od : Option Addr) (osl : Array (Option Value)) (doc pm ctv : Value), PySem.W.findIn K (.ref C) "__init__" = some (some (.ref fI)) ∧ PySem.W.typeIn K (.ref fI) = some (.type "function") ∧
    K.lookup fI = some ⟨oc, od, .func ((nfI st qual cc cda).fd doc pm ctv), osl⟩ ∧ PySem.W.codeIn K (.ref cda) qual = true ∧ SupK K mg C cc cda file
  nof : ∀ f ∈ ps, PySem.W.findIn K (.ref C) f = some none
end L2
end
section
set_option Elab.async false
set_option linter.all false
set_option maxRecDepth 100000
set_option maxHeartbeats 2000000
/-! ### a caught own error: looked at, handed on to a def -/
namespace L2
open PySem PySem.Spec PySem.Calls PyProof.Rows L2H
/-! ### a def that gets the caught error -/
end L2
end
section
set_option Elab.async false
set_option linter.all false
set_option maxRecDepth 100000
set_option maxHeartbeats 2000000
/-! ### try: return ("told", a()) / except MakerError as e: return the word for it -/
namespace Mz
open PySem L2 L2H LamX
def err1b (A : Ad) : List (Addr × Str × Str) := [(A.BadWord, "word", "word"), (A.BadWish, "wish", "wish"), (A.BadRun, "run", "thing"), (A.BadCallers, "callers", "callers"), (A.BadKind, "kind", "kind"), (A.BadRule, "rule", "index")]
def err0 (A : Ad) : List (Addr × Str) := [(A.Refused, "refused"), (A.BadThing, "thing")]
def errCls (A : Ad) : List Addr := [A.BadField, A.BadModes, A.BadCall, A.UnknownCall, A.BadPlace, A.BadText, A.BadRow, A.BadWord, A.BadWish, A.BadRun, A.BadCallers, A.BadKind, A.BadRule, A.Refused, A.BadThing]
/-- what the written part says of the error classes -/
structure ErrK (K : PySem.W.Frag) (A : Ad) : Prop where
  exc : ∀ D ∈ errCls A, ExcC K D
  xf : ∀ D ∈ errCls A, XfC K D
  kit : ∀ (i j : Nat) (D C : Addr), (errCls A)[i]? = some D → (errCls A)[j]? = some C → PySem.W.kitOne K (.ref D) (.ref C) = some (decide (i = j))
  mkr : ∀ D ∈ errCls A, PySem.W.exmOne K (.ref D) (.ref A.MakerError) = some true
/-- the word for an error with one field -/
def Out1 (D : Addr) (w f : Str) (d : Option Addr) (H : Hp) (Q : VK) : Prop := ∃ (dd : Addr) (fs : List (Str × V)) (v : V), d = some dd ∧ H dd = some (.xd fs) ∧ fs.lookup f = some v ∧ ∀ p, H p = none → Q (.ref p) (upd H p (.tup [.str w, v]))
def Out2 (d : Option Addr) (H : Hp) (Q : VK) : Prop := ∃ (dd : Addr) (fs : List (Str × V)) (v u : V), d = some dd ∧ H dd = some (.xd fs) ∧ fs.lookup ("index" : Str) = some v ∧ fs.lookup ("reason" : Str) = some u ∧ ∀ p, H p = none → ∀ p', (upd H p (.tup [v, u])) p' = none → Q (.ref p') (upd (upd H p (.tup [v, u])) p' (.tup [.str "call", .ref p]))
def Out0 (w : Str) (d : Option Addr) (H : Hp) (Q : VK) : Prop := (∀ dd, d = some dd → ∃ fs, H dd = some (.xd fs)) ∧ ∀ p, H p = none → Q (.ref p) (upd H p (.tup [.str w, .non]))
def OutB (A : Ad) (D : Addr) (d : Option Addr) (H : Hp) (Q : VK) : Prop := (∃ w f, (D, w, f) ∈ err1b A ∧ Out1 D w f d H Q) ∨ ∃ w, (D, w) ∈ err0 A ∧ Out0 w d H Q
section
variable {X : Cx}
theorem Takes.len {W : WX} (tk : Takes X W) : Takes X (fun cls d σ H => σ.length = X.N.length → W cls d σ H) := fun u s' ⟨a, B, sI, pins, σ, H, cls, d, e, I, nb, up, sky, na, os, ag, w⟩ =>
  tk u s' ⟨a, B, sI, pins, σ, H, cls, d, e, I, nb, up, sky, na, os, ag, w I.len⟩
end
end Mz
end
section
set_option Elab.async false
set_option linter.all false
set_option maxRecDepth 100000
set_option maxHeartbeats 2000000
/-! ### a lambda handed to a def: what the making of it changes, told exactly -/
namespace L2
open PySem PySem.Spec PyProof.Rows LamX
end L2
end
section
set_option Elab.async false
set_option linter.all false
set_option maxRecDepth 100000
set_option maxHeartbeats 4000000
/-! An own error made with keywords: `C(a, .., k = v, ..)`. -/
namespace PySem
namespace HandSPX
section
variable {M : Model} {A : Around} {E : Value → Shared → Prop} {h : Heap} {g : Array GenState} {d : Drawn} {t : Nat} {os : OsState}
variable {nm q : Str} {C N : Addr} {bs bm bmB : List Value} {hdct : Bool} {sn : List Str} {sub : List Value} {ab : Bool} {col : Option Bool} {dd : Option Addr} {k0 k1 k2 k3 k5 : Option Value} {B newId initId : String} {us : List Value} {kw : List (Str × Value)}
theorem kw_check (F : ExcBaseFacts B newId initId bmB) (hT : ∀ X : String, bm.contains (.type X) = bmB.contains (.type X)) {Q : Unit → Shared → Prop}
    (hC : h.get? C = some (excClassObj nm q C N bs bm hdct sn sub ab col dd k0 k1 k2 k3 k5 newId)) (hq : Q () ⟨h, g, d, t, os⟩) : wpAny M A (checkBuiltinCall newId ⟨.ref C :: us, kw⟩) Q E ⟨h, g, d, t, os⟩ := by
  have mB : (Value.ref C :: bm).contains (.type B) = true := by
    rw [List.contains_cons, hT, F.hasB, Bool.or_true]
  have ns := F.noStar
  simp only [checkBuiltinCall, F.newKind, F.newSplit, F.newRow]
  repeat (first
    | refine wpAny_loadPart_at hC ?_
    | (refine wpAny_isSubtype_exc hC ?_
       rw [mB])
    | refine wpAny_staticBase_exc hC ?_
    | refine wpAny_madeBy_exc hC ?_
    | simp only [bne_self_eq_false, Bool.false_eq_true, if_false]
    | wp_step)
  exact hq
end
section
variable {prog : Program} {w : World} {A : Around} {E : Value → Shared → Prop} {R : Result → Shared → Prop} {h : Heap} {g : Array GenState} {d : Drawn} {t : Nat} {os : OsState}
variable {nm q : Str} {C N : Addr} {bs bm bmB : List Value} {hdct : Bool} {sn : List Str} {sub : List Value} {ab : Bool} {col : Option Bool} {dd : Option Addr} {k0 k1 k2 k3 k5 : Option Value} {B newId initId : String} {us : List Value} {kw : List (Str × Value)}
/-- the heap with the args and the error laid behind it -/
abbrev laidE (h : Heap) (C : Addr) (us : List Value) : Heap := (h.push (W.kdv_tup us)).push (excO C h.objs.size)
theorem kw_new (F : ExcBaseFacts B newId initId bmB) (hT : ∀ X : String, bm.contains (.type X) = bmB.contains (.type X))
    (hC : h.get? C = some (excClassObj nm q C N bs bm hdct sn sub ab col dd k0 k1 k2 k3 k5 newId)) (hus : us.length ≤ sizeLine)
    (hq : R (.ok (.ret (.ref (h.objs.size + 1)))) ⟨laidE h C us, g, d, t, os⟩) : codeAny (model prog w) A (.builtin newId ⟨.ref C :: us, kw⟩) R ⟨h, g, d, t, os⟩ := by
  have e0 := F.ends
  have mB : (Value.ref C :: bm).contains (.type B) = true := by
    rw [List.contains_cons, hT, F.hasB, Bool.or_true]
  have mA : (Value.ref C :: bm).contains (.type "AttributeError") = false := by
    rw [List.contains_cons, hT, F.noAttr]
    rfl
  have mN : (Value.ref C :: bm).contains (.type "NameError") = false := by
    rw [List.contains_cons, hT, F.noName]
    rfl
  refine codeAny_builtinAt F.entry ?_
  unfold Builtin.«BaseException.__new__»
  refine wpAt_bind ?_
  show wpAt _ _ _ (stack >>= _) _ _ _
  refine wpAt_bind (wpAt_stack fun p below => wpAt_of_wpAny ?_)
  wp_walk
  refine wpAt_of_wpAny ?_
  rw [F.owner]
  repeat (first
    | with_reducible refine wpAny_madeHere_exc F.canon hC ?_
    | with_reducible refine wpAny_loadPart_at hC ?_
    | (with_reducible refine wpAny_isSubtype_exc hC ?_
       first | rw [mB] | rw [mA] | rw [mN])
    | wp_step)
  show R _ _
  rw [Heap.size_push]
  exact hq
theorem kw_type (F : ExcBaseFacts B newId initId bmB) (hT : ∀ X : String, bm.contains (.type X) = bmB.contains (.type X)) {fI : Addr} {Q : Fin → Shared → Prop}
    (hC : h.get? C = some (excClassObj nm q C N bs bm hdct sn sub ab col dd k0 k1 k2 k3 k5 newId)) (hus : us.length ≤ sizeLine)
    (hi : W.Looks (model prog w) h (typeLookup (.ref C) "__init__") (some (.ref fI))) (hb : ∀ self, W.Looks (model prog w) h (bindSpecial (.ref fI) self) (.ref fI, [self]))
    (hq : codeAny (model prog w) A (.call (.ref fI) ⟨.ref (h.objs.size + 1) :: us, kw⟩) (fun r s' => match r with
      | .ok (.ret v) => v = .none ∧ Q (.done (.ret (.ref (h.objs.size + 1)))) s'
      | .ok _ => False
      | .error e => E e s') ⟨laidE h C us, g, d, t, os⟩) :
    wpAny (model prog w) A (Builtin.«type.__call__» ⟨.ref C :: us, kw⟩) Q E ⟨h, g, d, t, os⟩ := by
  repeat (first
    | with_reducible refine wpAny_loadPart_at hC ?_
    | with_reducible refine wpAny_madeBy_exc hC ?_
    | wp_step)
  refine codeAny_call_builtin_code (Code.quiet_builtin _ F.quiet) (kw_check F hT hC ?_)
  refine kw_new F hT hC hus ?_
  show wpAny _ _ _ _ _ _
  have kp : ∀ b o, h.get? b = some o → (laidE h C us).get? b = some o := fun b o e => Heap.get?_push_of_some _ (Heap.get?_push_of_some _ e)
  have hC1 := kp _ _ hC
  have he : (laidE h C us).get? (h.objs.size + 1) = some (excO C h.objs.size) := by
    unfold laidE
    heap_get
  have mC : (Value.ref C :: bm).contains (.ref C) = true := by simp
  have i1 := hi.keeps kp
  have b1 := (hb (.ref (h.objs.size + 1))).keeps kp
  unfold isInstance
  repeat (first
    | with_reducible refine wpAny_loadPart_at he ?_
    | (with_reducible refine wpAny_isSubtype_exc hC1 ?_
       rw [mC])
    | wp_step)
  show wpAny _ _ (typeLookup (.ref C) _) _ _ _
  refine i1.at ?_
  refine wpAny_holding (wpAny_bind (b1.at ?_))
  refine wpAny_bind (wpAny_call (codeAny_mono hq fun r s' z => ?_))
  rcases r with e | (v | _ | _ | _) <;> first | exact z | exact z.elim | skip
  obtain ⟨rfl, z⟩ := z
  first
    | exact wpAny_pure (wpAny_pure z)
    | (wp_walk
       exact z)
theorem kw_call (F : ExcBaseFacts B newId initId bmB) (hT : ∀ X : String, bm.contains (.type X) = bmB.contains (.type X)) {fI : Addr}
    (hC : h.get? C = some (excClassObj nm q C N bs bm hdct sn sub ab col dd k0 k1 k2 k3 k5 newId)) (hus : us.length ≤ sizeLine)
    (hi : W.Looks (model prog w) h (typeLookup (.ref C) "__init__") (some (.ref fI))) (hb : ∀ self, W.Looks (model prog w) h (bindSpecial (.ref fI) self) (.ref fI, [self]))
    (hq : codeAny (model prog w) (A.under (.builtin "type.__call__" ⟨.ref C :: us, kw⟩)) (.call (.ref fI) ⟨.ref (h.objs.size + 1) :: us, kw⟩) (W.InitBack (h.objs.size + 1) R) ⟨laidE h C us, g, d, t, os⟩) :
    codeAny (model prog w) A (.call (.ref C) ⟨us, kw⟩) R ⟨h, g, d, t, os⟩ := by
  have f1 := tc_lookup
  have f2 := tc_bind (.ref C)
  have ty : (⟨h, g, d, t, os⟩ : Shared).TypeIs (.ref C) "type" := ⟨_, hC, rfl⟩
  refine codeAny_of_tree ?_
  show wpAny _ _ (callAny (.ref C) _) _ _ _
  repeat (any_goals (first
    | assumption
    | with_reducible refine wpAny_loadPart_at hC ?_
    | wp_step))
  refine ⟨rfl, ?_⟩
  refine codeAny_call_builtin_at (Code.quiet_builtin _ (by decide +kernel)) entry_typeCall (wpAny_check_type_call_sub hC (kw_type F hT hC hus hi hb ?_))
  refine codeAny_mono hq fun r s' z => ?_
  rcases r with e | (v | _ | _ | _) <;> exact z
end
end HandSPX
end PySem
end
section
set_option Elab.async false
set_option linter.all false
set_option maxRecDepth 100000
set_option maxHeartbeats 4000000
namespace L2
open PySem PySem.Spec PyProof.Rows
/-- what the written part says of an own error class without own __init__ over ValueError -/
structure Err0 (K : PySem.W.Frag) (C : Addr) : Prop where
  q : PySem.W.excIn K C PySem.HandSPX.veTail "ValueError.__new__" = true
  kC : PySem.W.keepIn K (.ref C) = true
  ex : PySem.W.subIn K (.ref C) (.type "BaseException") = some true
  ty : PySem.W.typeIn K (.ref C) = some (.type "type")
def err0B (K : PySem.W.Frag) (C : Addr) : Bool := PySem.W.excIn K C PySem.HandSPX.veTail "ValueError.__new__" && (PySem.W.keepIn K (.ref C) && (decide (PySem.W.subIn K (.ref C) (.type "BaseException") = some true) && decide (PySem.W.typeIn K (.ref C) = some (.type "type"))))
theorem err0_ok {K : PySem.W.Frag} {C : Addr} (h : err0B K C = true) : Err0 K C := by
  unfold err0B at h
  simp only [Bool.and_eq_true, decide_eq_true_eq] at h
  exact ⟨h.1, h.2.1, h.2.2.1, h.2.2.2⟩
end L2
end
section
set_option Elab.async false
set_option linter.all false
set_option maxRecDepth 100000
set_option maxHeartbeats 4000000
/-! ### errors as values: made, looked at, their fields read -/
namespace L2
open PySem PySem.Spec PySem.Calls PyProof.Rows LamX NdefX
/-- what is known of an own error class, its __init__ bound with keywords too -/
structure ErrV (P : Program) (w : World) (K : PySem.W.Frag) (mg : Str → Option Value) (base : Heap) (C : Addr) (n : Nat) (ks : List Str) (g : {α : Type} → List α → List α → List α) (sp : Sp) : Prop where
  T : OexC K C
  ex : ∃ (fI : Addr) (fd : FuncData) (ps : List Str), PySem.W.findIn K (.ref C) "__init__" = some (some (.ref fI)) ∧ PySem.W.typeIn K (.ref fI) = some (.type "function") ∧ FnOk P w K mg base CX0 1 fI fd ps sp ∧ KBn K fd ps (n + 1) ks (fun us ws => g us ws) (fun vs zs => g vs zs)
/-- an error made: n arguments by place, m by name -/
def tMkV (C : Addr) (n m : Nat) (g : {α : Type} → List α → List α → List α) (sp : Sp) (t tk : TA) : TE := fun σ H Q => t σ H fun vs H1 => tk σ H1 fun zs H2 => vs.length = n ∧ zs.length = m ∧ ∀ a, H2 a = none →
  sp (g (.ref a :: vs) zs) (upd H2 a (exo a C none)) (fun v H3 => v = .non ∧ Q (.ref a) H3) fun _ _ _ => False
section
variable {X : Cx} {C : Addr} {sp : Sp} {x : Str} {p pos : Pos} {e : Expr} {es : List Expr} {kws : List Keyword} {t tk : TA} {n : Nat} {ks : List Str} {g : {α : Type} → List α → List α → List α}
theorem run_mkV (h : ErrV X.prog X.w X.K X.mg X.base C n ks g sp) (hr : Room 2 X.A) {pins : List (Addr × Obj)} {σ : St} {H : Hp} {s : Shared} {Q : VK} {us ws : List Value} {vs zs : List V} (I : Inv X pins σ H s) (r : Vals vs us) (rz : Vals zs ws) (l1 : vs.length = n) (l2 : zs.length = ks.length) (hn : n ≤ 1000)
    (q : ∀ a, H a = none → sp (g (.ref a :: vs) zs) (upd H a (exo a C none)) (fun v H3 => v = .non ∧ Q (.ref a) H3) fun _ _ _ => False) :
    wpAny (model X.prog X.w) X.A (call (.ref C) us (ks.zip ws)) (EP X pins σ Q) X.xe s := by
  obtain ⟨fI, fd, ps, i1, i2, F1, hb⟩ := h.ex
  obtain ⟨nm, qq, N, bs, bm, sn, sub, ab, col, dd, k0, k1, k2, k3, k5, hC, hbm⟩ := h.T.cls
  obtain ⟨hp, gg, dr, tk, os⟩ := s
  have hsz : hp.objs.size ≤ hp.objs.size + 1 := Nat.le_succ _
  have hnone : H (hp.objs.size + 1) = none := I.hok.fresh hsz
  have hq := q (hp.objs.size + 1) hnone
  have kk : ∀ b o, hp.get? b = some o → (PySem.HandSPX.laidE hp C us).get? b = some o := fun b o z => Heap.get?_push_of_some _ (Heap.get?_push_of_some _ z)
  have hget : (PySem.HandSPX.laidE hp C us).get? (hp.objs.size + 1) = some (PySem.HandSPX.excO C hp.objs.size) := by
    unfold PySem.HandSPX.laidE
    heap_get
  have I2 : Inv X pins σ (upd H (hp.objs.size + 1) (exo (hp.objs.size + 1) C none)) ⟨PySem.HandSPX.laidE hp C us, gg, dr, tk, os⟩ := I.laid (t' := tk) (a := hp.objs.size + 1) (o := exo (hp.objs.size + 1) C none) kk hsz (exo_ok hget)
  have r1 : Vals (V.ref (hp.objs.size + 1) :: vs) (Value.ref (hp.objs.size + 1) :: us) := .cons rfl r
  have n1 : (Value.ref (hp.objs.size + 1) :: us).length = n + 1 := by
    rw [List.length_cons, ← r.length, l1]
  have hus : us.length ≤ sizeLine := by
    rw [← Paired.length r, l1]
    exact Nat.le_trans hn (by decide)
  refine wpAny_call (PySem.HandSPX.kw_call F.excBase_ValueError (fun Y => PySem.HandSPX.refsVE_contains Y bm hbm) (I.kIn _ _ hC) hus (PySem.W.looks_findIn I.kIn i1) (fun self => PySem.W.bind_fn I.kIn self i2) ?_)
  refine codeAny_mono (F1.run _ X.stack _ _ ⟨Value.ref (hp.objs.size + 1) :: us, ks.zip ws⟩ (g (Value.ref (hp.objs.size + 1) :: us) ws) _ _ (fun _ _ _ => False) (hr.make C us (ks.zip ws)) (I2.env0.make C us (ks.zip ws)) (hb.to _ (Value.ref (hp.objs.size + 1) :: us) ws I2.kIn n1 (rz.length.symm.trans l2)) (hb.rel r1 rz) hq) fun res s' hq' => ?_
  cases res with
  | error er => exact pass0X pins σ _ _ er s' I2 hq'
  | ok fl =>
    cases fl with
    | ret u =>
      obtain ⟨v, H', I3, rv, ev, q3⟩ := I2.after hq'
      subst ev
      exact ⟨rv, ⟨V.ref (hp.objs.size + 1), H', I3, rfl, q3⟩⟩
    | next => exact False.elim hq'
    | brk => exact False.elim hq'
    | cont => exact False.elim hq'
/-- C(e, ..) -/
theorem pe_mkVP (h : ErrV X.prog X.w X.K X.mg X.base C n [] g sp) (hn : n ≤ 1000) (hr : Room 2 X.A) (hg : Gl X x) (hm : X.mg x = some (.ref C)) (ha : PA X (e :: es) t) (hdb : (x == ("__debug__" : Str)) = false := by decide)
    (he : starEach (e :: es) X.env = (false, eval e X.env) :: starEach es X.env := by rfl) (hpl : (backTo pos (starEach es X.env)).any (·.1) = false := by rfl) :
    PE X (.Call (.Name x p) (e :: es) [] pos) (tMkV C n 0 g sp t tNil) := by
  refine ⟨fun pins s σ H Q I hq => ?_⟩
  refine wpAny_Call_Name_kw (ld_glob I hg hm ?_ hdb)
  refine PySem.W.callWith_K (h₀ := X.base) I.ok.mod.kin h.T.kC (thn (ha.run pos pins s σ H _ I hq) fun us s1 hv => ?_) he hpl
  obtain ⟨vs, H1, I1, r1, l1, _, q1⟩ := hv
  exact ⟨I1.kIn, run_mkV (ks := []) (ws := []) (zs := []) h hr I1 r1 .nil l1 rfl hn q1⟩
/-- C(k = v, ..) -/
theorem pe_mkVK (h : ErrV X.prog X.w X.K X.mg X.base C 0 ks g sp) (hr : Room 2 X.A) (hg : Gl X x) (hm : X.mg x = some (.ref C)) (hkw : PK X kws tk)
    (hall : (backToKw pos (keywordEach kws X.env)).all (·.1.isSome) = true := by rfl) (hks : (backToKw pos (keywordEach kws X.env)).filterMap (·.1) = ks := by rfl) (hdb : (x == ("__debug__" : Str)) = false := by decide)
    (hpl : ((backTo pos (starEach [] X.env)).any (·.1) || (backToKw pos (keywordEach kws X.env)).any (·.1.isNone)) = false := by rfl) :
    PE X (.Call (.Name x p) [] kws pos) (tMkV C 0 ks.length g sp tNil tk) := by
  refine ⟨fun pins s σ H Q I hq => ?_⟩
  refine wpAny_Call_Name_kw (ld_glob I hg hm ?_ hdb)
  refine PySem.W.callWith_KW0 (h₀ := X.base) I.ok.mod.kin h.T.kC hall (thn (hkw.run pos pins s σ H _ I hq) fun ws s2 hv => ?_) hpl
  obtain ⟨zs, H2, I2, rz, l1, l2, q2⟩ := hv
  refine ⟨I2.kIn, ?_⟩
  rw [hks]
  exact run_mkV (us := []) (vs := []) h hr I2 .nil rz rfl l2 (Nat.zero_le _) q2
end
/-- one field -/
theorem mkV1 {K : PySem.W.Frag} {C a : Addr} {f : Str} {v : V} {H : Hp} {Q : VK} (T : OexC K C) (hf : PySem.W.findIn K (.ref C) f = some none) (ha : H a = none) (hq : ∀ d, H d = none → d ≠ a → Q (.ref a) (upd (upd H d (exd d [(f, v)])) a (exo a C (some d)))) :
    spI1 K C f [.ref a, v] (upd H a (exo a C none)) (fun v H3 => v = .non ∧ Q (.ref a) H3) fun _ _ _ => False := by
  refine ⟨rfl, a, rfl, upd_same, v, rfl, by simp, upd_same, ?_⟩
  refine ⟨v, rfl, .ref a, rfl, a, C, rfl, T, hf, .inl ⟨upd_same, fun dx hdx hne => ?_⟩⟩
  have hd : H dx = none := by
    rw [upd_ne hne] at hdx
    exact hdx
  refine ⟨rfl, ?_⟩
  have q := hq dx hd hne
  have e : upd (upd (upd H a (exo a C none)) dx (exd dx [(f, v)])) a (exo a C (some dx)) = upd (upd H dx (exd dx [(f, v)])) a (exo a C (some dx)) := by
    funext b
    by_cases h1 : b = a
    · subst h1
      rw [upd_same, upd_same]
    · rw [upd_ne h1, upd_ne h1]
      by_cases h2 : b = dx
      · subst h2
        rw [upd_same, upd_same]
      · rw [upd_ne h2, upd_ne h2, upd_ne h1]
  rw [← e] at q
  exact q
/-- two fields -/
theorem mkV2 {K : PySem.W.Frag} {C a : Addr} {f g : Str} {v u : V} {H : Hp} {Q : VK} (T : OexC K C) (hf : PySem.W.findIn K (.ref C) f = some none) (hg : PySem.W.findIn K (.ref C) g = some none) (ha : H a = none) (hq : ∀ d, H d = none → d ≠ a → Q (.ref a) (upd (upd H d (exd d [(g, u), (f, v)])) a (exo a C (some d)))) :
    spI2 K C f g [.ref a, v, u] (upd H a (exo a C none)) (fun v H3 => v = .non ∧ Q (.ref a) H3) fun _ _ _ => False := by
  refine ⟨rfl, a, rfl, upd_same, v, rfl, u, rfl, by simp, upd_same, ?_⟩
  refine ⟨v, rfl, .ref a, rfl, a, C, rfl, T, hf, .inl ⟨upd_same, fun dx hdx hne => ?_⟩⟩
  have hd : H dx = none := by
    rw [upd_ne hne] at hdx
    exact hdx
  refine ⟨u, rfl, .ref a, rfl, a, C, rfl, T, hg, .inr ⟨dx, [(f, v)], upd_same, by rw [upd_ne hne, upd_same], by simp, ?_⟩⟩
  refine ⟨rfl, ?_⟩
  have q := hq dx hd hne
  have e : upd (upd (upd (upd H a (exo a C none)) dx (exd dx [(f, v)])) a (exo a C (some dx))) dx (exd dx [(g, u), (f, v)]) = upd (upd H dx (exd dx [(g, u), (f, v)])) a (exo a C (some dx)) := by
    funext b
    by_cases h2 : b = dx
    · subst h2
      rw [upd_same, upd_ne hne, upd_same]
    · rw [upd_ne h2]
      by_cases h1 : b = a
      · subst h1
        rw [upd_same, upd_same]
      · rw [upd_ne h1, upd_ne h1, upd_ne h2, upd_ne h2, upd_ne h1]
  rw [← e] at q
  exact q
section
variable {X : Cx} {C : Addr}
/-- e.n, e an error that is a value -/
def tFV (C : Addr) (n : Str) (te : TE) : TE := fun σ H Q => te σ H fun x H1 => ∃ (a dd : Addr) (fs : List (Str × V)) (v : V), x = .ref a ∧ H1 a = some (exo a C (some dd)) ∧ H1 dd = some (exd dd fs) ∧ fs.lookup n = some v ∧ Q v H1
theorem pe_fV {e : Expr} {te : TE} {pos : Pos} {n : Str} (T : XfC X.K C) (hno : PySem.W.findIn X.K (.ref C) n = some none) (he : PE X e te) (hb : attributeBase e n X.env (eval e X.env) = eval e X.env := by rfl) : PE X (.Attribute e n pos) (tFV C n te) := by
  refine ⟨fun pins s σ H Q I hq => ?_⟩
  refine attr_of hb (thn (he.run pins s σ H _ I hq) fun u s1 hv => ?_)
  obtain ⟨x, H1, I1, rx, a, dd, fs, v, rfl, ea, ed, l, q⟩ := hv
  obtain rfl : u = Value.ref a := rx
  obtain ⟨t1, ho⟩ := exo_at I1.hok ea
  obtain ⟨mA, hns, hr⟩ := exd_at I1.hok ed
  obtain ⟨od, hod, hl⟩ := lookIn_ns hns
  obtain ⟨z, hz, rz⟩ := RelO.some_of (v := v) (o := mA n) (by rw [← l]; exact hr n)
  have J : PySem.W.InstAt s1.heap a _ C (some od) := ⟨ho, rfl, rfl, hod⟩
  exact HandSPX.exc_get I1.kIn J T.ga T.gg T.exC (PySem.W.findObj_own T.hdC hno rfl (by rw [hl, hz])) (handed_of rz) ⟨v, H1, I1.tok _, rz, q⟩
def rIsV (K : PySem.W.Frag) (D : Addr) : List V → Hp → VK → Prop := fun xs H Q => ∃ (a : Addr) (d : Option Addr) (c : V) (cv : Value) (b : Bool), xs = [.ref a, c] ∧ H a = some (exo a D d) ∧ (∀ dd, d = some dd → ∃ fs, H dd = some (exd dd fs)) ∧ (∀ u, RelV c u → u = cv) ∧ PySem.W.kitOne K (.ref D) cv = some b ∧ Q (.bl b) H
theorem isV_run {D : Addr} (C : ExcC X.K D) {pins : List (Addr × Obj)} {s : Shared} {σ : St} {H : Hp} {xs : List V} {us : List Value} {Q : VK} (I : Inv X pins σ H s) (r : Vals xs us) (h : rIsV X.K D xs H Q) : wpAny (model X.prog X.w) X.A (call (.builtin "isinstance") us) (EP X pins σ Q) X.xe s := by
  obtain ⟨a, d, c, cv, b, rfl, ea, hd, hcv, e, q⟩ := h
  cases r with
  | cons rx rr =>
    cases rr with
    | cons rt rr =>
      cases rr
      cases rx
      obtain rfl := hcv _ rt
      obtain ⟨t1, ho⟩ := exo_at I.hok ea
      obtain ⟨od, J⟩ : ∃ od, PySem.W.InstAt s.heap a { cls := .ref D, dict := d, data := .fields #[.ref t1, .none, .none, .none, .bool false, .none] } D od := by
        cases d with
        | none => exact ⟨none, ho, rfl, rfl, trivial⟩
        | some dd =>
          obtain ⟨fs, ed⟩ := hd dd rfl
          obtain ⟨mA, hns, hr⟩ := exd_at I.hok ed
          obtain ⟨od, hod, hl⟩ := lookIn_ns hns
          exact ⟨some od, ho, rfl, rfl, hod⟩
      have hcl : (PySem.W.clsIn X.K D).isSome = true := by
        obtain ⟨cd, hc, _⟩ := PySem.W.any_some C.hd
        rw [hc]
        rfl
      exact PySem.W.kia_one (PySem.W.kitx_exc hcl C.hg C.hk C.hs C.ha C.hn C.ht C.hm) I.kIn J e (fun z => nomatch z) fun tk => ⟨.bl b, H, I.kept (t' := tk) fun _ _ z => z, rfl, q⟩
end
end L2
end
section
set_option Elab.async false
set_option linter.all false
set_option maxRecDepth 100000
set_option maxHeartbeats 4000000
namespace L2
open PySem PySem.Spec PySem.Calls PyProof.Rows LamX NdefX
def tMkV0 (C : Addr) : TE := fun _ H Q => ∀ a, H a = none → Q (.ref a) (upd H a (exo a C none))
theorem pe_mkV0 {X : Cx} {C : Addr} {x : Str} {p pos : Pos} (e : Err0 X.K C) (hg : Gl X x) (gC : X.mg x = some (.ref C)) (hdb : (x == ("__debug__" : Str)) = false := by decide) : PE X (.Call (.Name x p) [] [] pos) (tMkV0 C) := by
  refine ⟨fun pins s σ H Q I q => ?_⟩
  refine wpAny_Call_Name_kw (ld_glob I hg gC ?_ hdb)
  refine PySem.W.callWith_K0 I.kIn e.kC ?_
  obtain ⟨bm, N, nm, qn, bs, hdct, sn, sub, ab, col, dd, k0, k1, k2, k3, k5, mN, hC, hN, hni, T⟩ := exc_obj I.kIn e.q
  refine wpAny_call_exc_subT PySem.F.excBase_ValueError T hC hN hni (fun h' a hm => ?_) (by show 0 ≤ sizeLine; exact Nat.zero_le _)
  obtain ⟨t, ho, _, _⟩ := hm.there
  have hna : H a = none := I.hok.gone hm.new
  exact ⟨V.ref a, _, Inv.laidN (t' := s.toks) I hm.keeps hm.new hna (exo_ok ho), rfl, q a hna⟩
section
variable {P : Program} {w : World} {K : PySem.W.Frag} {mg : Str → Option Value} {base : Heap} {C : Addr} {st : Stmt} {qual file f f2 : Str}
/-- the two orders of two words -/
abbrev gApp : {α : Type} → List α → List α → List α := fun us ws => us ++ ws
abbrev gRev : {α : Type} → List α → List α → List α := fun us ws => us ++ ws.reverse
theorem kbn_of {fd : FuncData} {ps : List Str} {n : Nat} {ks : List Str} {g : {α : Type} → List α → List α → List α} (h : ∀ us ws : List Value, us.length = n → ws.length = ks.length → bindArgs fd ⟨us, ks.zip ws⟩ = pure (ps.zip (g us ws)))
    (hg : ∀ {vs zs : List V} {us ws : List Value}, Vals vs us → Vals zs ws → Vals (g vs zs) (g us ws)) : KBn K fd ps n ks (fun us ws => g us ws) (fun vs zs => g vs zs) :=
  ⟨fun s us ws _ h1 h2 => BindsTo.of_looks fun M => PySem.W.Looks.of_pure (h us ws h1 h2), fun r1 r2 => hg r1 r2⟩
theorem gApp_rel {vs zs : List V} {us ws : List Value} (r1 : Vals vs us) (r2 : Vals zs ws) : Vals (gApp vs zs) (gApp us ws) := r1.append r2
theorem gRev_rel {vs zs : List V} {us ws : List Value} (r1 : Vals vs us) (r2 : Vals zs ws) : Vals (gRev vs zs) (gRev us ws) := r1.append r2.reverse
/-- one field -/
theorem errV1 {p0 p1 p2 p3 p4 p5 p6 p7 p8 p9 q0 : Pos} {n : Nat} {ks : List Str} {g : {α : Type} → List α → List α → List α} (h : ErrT K mg C st qual [f] file) (hP : SupP P file)
    (hst : defBody st = [.Expr (.Call (.Attribute (.Call (.Name "super" p0) [] [] p1) "__init__" p2) [.Name f p3] [] p4) p5, .Assign [.Attribute (.Name "self" p6) f p7] (.Name f p8) p9]) (hln : (p2.endLine == p4.line) = true)
    (S : NScope ["self", f, "__class__"] ["self", f] ["__class__"] (defScope st)) (hks : (defScope st).names.lookup ("super" : Str) = some .globalImplicit)
    (hpar : ((defArgs st).posonlyargs ++ (defArgs st).args).head? = some { arg := "self", annotation := none, pos := q0 })
    (hb : ∀ (cc cda : Addr) (doc pm ctv : Value) (us ws : List Value), us.length = n + 1 → ws.length = ks.length → bindArgs ((nfI st qual cc cda).fd doc pm ctv) ⟨us, ks.zip ws⟩ = pure ((["self", f] : List Str).zip (g us ws)))
    (hg : ∀ {vs zs : List V} {us ws : List Value}, Vals vs us → Vals zs ws → Vals (g vs zs) (g us ws))
    (d1 : (f == ("__debug__" : Str)) = false := by decide) (d2 : (f == ("__classdict__" : Str)) = false := by decide) : ErrV P w K mg base C n ks g (spI1 K C f) := by
  obtain ⟨fI, cc, cda, oc, od, osl, doc, pm, ctv, i1, i2, lk, hcd, SK⟩ := h.ex
  have s0 : (defScope st).names.lookup ("self" : Str) = some .local := S.par _ (by simp)
  have s1 : (defScope st).names.lookup f = some .local := S.par _ (by simp)
  refine ⟨h.T, fI, (nfI st qual cc cda).fd doc pm ctv, ["self", f], i1, i2, ?_, kbn_of (hb cc cda doc pm ctv) hg⟩
  refine init_fn (F := nfI st qual cc cda) (N := ["self", f, "__class__"]) (ps := ["self", f]) S rfl hks hpar s0 rfl h.T hP SK lk hcd hst ?_ ?_ (hcall := fun L => mcall_plain hln (by rfl)) (he := by intro L; rfl) (hpl := by intro L; rfl)
  · exact fun A outer s H E => pa_cons (pe_var (i := 1) rfl (.inl s1) d1 d2) pa_nil
  · exact fun A outer s H E => pss_one (ps_ost (pe_var (i := 0) rfl (.inl s0) (by decide) (by decide)) (pe_var (i := 1) rfl (.inl s1) d1 d2) (by rfl))
/-- two fields -/
theorem errV2 {p0 p1 p2 p3 p3' p4 p5 p6 p7 p8 p9 p6' p7' p8' p9' q0 : Pos} {n : Nat} {ks : List Str} {g : {α : Type} → List α → List α → List α} (h : ErrT K mg C st qual [f, f2] file) (hP : SupP P file)
    (hst : defBody st = [.Expr (.Call (.Attribute (.Call (.Name "super" p0) [] [] p1) "__init__" p2) [.Name f p3, .Name f2 p3'] [] p4) p5, .Assign [.Attribute (.Name "self" p6) f p7] (.Name f p8) p9, .Assign [.Attribute (.Name "self" p6') f2 p7'] (.Name f2 p8') p9']) (hln : (p2.endLine == p4.line) = true)
    (S : NScope ["self", f, f2, "__class__"] ["self", f, f2] ["__class__"] (defScope st)) (hks : (defScope st).names.lookup ("super" : Str) = some .globalImplicit)
    (hpar : ((defArgs st).posonlyargs ++ (defArgs st).args).head? = some { arg := "self", annotation := none, pos := q0 })
    (hb : ∀ (cc cda : Addr) (doc pm ctv : Value) (us ws : List Value), us.length = n + 1 → ws.length = ks.length → bindArgs ((nfI st qual cc cda).fd doc pm ctv) ⟨us, ks.zip ws⟩ = pure ((["self", f, f2] : List Str).zip (g us ws)))
    (hg : ∀ {vs zs : List V} {us ws : List Value}, Vals vs us → Vals zs ws → Vals (g vs zs) (g us ws))
    (d1 : (f == ("__debug__" : Str)) = false := by decide) (d2 : (f == ("__classdict__" : Str)) = false := by decide) (d3 : (f2 == ("__debug__" : Str)) = false := by decide) (d4 : (f2 == ("__classdict__" : Str)) = false := by decide) : ErrV P w K mg base C n ks g (spI2 K C f f2) := by
  obtain ⟨fI, cc, cda, oc, od, osl, doc, pm, ctv, i1, i2, lk, hcd, SK⟩ := h.ex
  have s0 : (defScope st).names.lookup ("self" : Str) = some .local := S.par _ (by simp)
  have s1 : (defScope st).names.lookup f = some .local := S.par _ (by simp)
  have s2 : (defScope st).names.lookup f2 = some .local := S.par _ (by simp)
  refine ⟨h.T, fI, (nfI st qual cc cda).fd doc pm ctv, ["self", f, f2], i1, i2, ?_, kbn_of (hb cc cda doc pm ctv) hg⟩
  refine init_fn (F := nfI st qual cc cda) (N := ["self", f, f2, "__class__"]) (ps := ["self", f, f2]) S rfl hks hpar s0 rfl h.T hP SK lk hcd hst ?_ ?_ (hcall := fun L => mcall_plain hln (by rfl)) (he := by intro L; rfl) (hpl := by intro L; rfl)
  · exact fun A outer s H E => pa_cons (pe_var (i := 1) rfl (.inl s1) d1 d2) (pa_cons (pe_var (i := 2) rfl (.inl s2) d3 d4) pa_nil)
  · exact fun A outer s H E => pss_cons (ps_ost (pe_var (i := 0) rfl (.inl s0) (by decide) (by decide)) (pe_var (i := 1) rfl (.inl s1) d1 d2) (by rfl)) (pss_one (ps_ost (pe_var (i := 0) rfl (.inl s0) (by decide) (by decide)) (pe_var (i := 2) rfl (.inl s2) d3 d4) (by rfl)))
end
end L2
end
section
set_option Elab.async false
set_option linter.all false
set_option maxRecDepth 100000
set_option maxHeartbeats 4000000
namespace Mz
open PySem L2
/-! ### data -/
inductive Da where
  | non | bl (b : Bool) | int (i : Int) | str (s : Str)
  | lst (xs : List Da) | tup (xs : List Da)
  | dct (kvs : List (Key × Da))
  | ins (C : Addr) (fs : List (Str × Da))
  | cls (a : Addr) | ty (n : String) | st
instance : Inhabited Da := ⟨.non⟩
/-- a value: data, a mutable object, a tuple with such in it -/
inductive Dv where
  | d (x : Da) | ob (n : Nat) | tp (xs : List Dv)
instance : Inhabited Dv := ⟨.d .non⟩
/-- a mutable object -/
inductive MO where
  | lst (ds : List Dv) | dct (kvs : List (Key × Dv)) | ins (C : Addr) (fs : List (Str × Dv)) | frz (d : Da) | lck (od : Obj) (kvs : List (Key × V)) (kds : List (Key × Dv)) | tb (P : Addr) (q : Str) | exc (C : Addr) (fs : List (Str × Dv))
abbrev MS := List MO
/-- the fixed part -/
structure Cn where
  K : PySem.W.Frag
  st : Addr
mutual
inductive AtD (c : Cn) (G : Hp) : V → Da → Prop
  | non : AtD c G .non .non
  | bl (b : Bool) : AtD c G (.bl b) (.bl b)
  | int (i : Int) : AtD c G (.int i) (.int i)
  | str (s : Str) : AtD c G (.str s) (.str s)
  | lst {a : Addr} {vs : List V} {ds : List Da} : G a = some (.lst vs) → AtDs c G vs ds → AtD c G (.ref a) (.lst ds)
  | tup {a : Addr} {vs : List V} {ds : List Da} : SqT c.K G a vs → AtDs c G vs ds → AtD c G (.ref a) (.tup ds)
  | dct {a : Addr} {kvs : List (Key × V)} {kds : List (Key × Da)} : G a = some (.dK kvs) → kvs.map (·.1) = kds.map (·.1) → AtDs c G (kvs.map (·.2)) (kds.map (·.2)) → AtD c G (.ref a) (.dct kds)
  | ins {a C dx : Addr} {fvs : List (Str × V)} {fds : List (Str × Da)} : G a = some (.ins C dx fvs) → fvs.map (·.1) = fds.map (·.1) → AtDs c G (fvs.map (·.2)) (fds.map (·.2)) → AtD c G (.ref a) (.ins C fds)
  | cls (a : Addr) : AtD c G (.ref a) (.cls a)
  | ty (n : String) : AtD c G (.ty n) (.ty n)
  | st : AtD c G (.ref c.st) .st
inductive AtDs (c : Cn) (G : Hp) : List V → List Da → Prop
  | nil : AtDs c G [] []
  | cons {v : V} {vs : List V} {d : Da} {ds : List Da} : AtD c G v d → AtDs c G vs ds → AtDs c G (v :: vs) (d :: ds)
end
mutual
inductive At (c : Cn) (ρ : List Addr) (G : Hp) : V → Dv → Prop
  | d {v : V} {x : Da} : AtD c G v x → At c ρ G v (.d x)
  | ob {n : Nat} {a : Addr} : ρ[n]? = some a → At c ρ G (.ref a) (.ob n)
  | tp {a : Addr} {vs : List V} {ds : List Dv} : SqT c.K G a vs → AtAll c ρ G vs ds → At c ρ G (.ref a) (.tp ds)
inductive AtAll (c : Cn) (ρ : List Addr) (G : Hp) : List V → List Dv → Prop
  | nil : AtAll c ρ G [] []
  | cons {v : V} {vs : List V} {d : Dv} {ds : List Dv} : At c ρ G v d → AtAll c ρ G vs ds → AtAll c ρ G (v :: vs) (d :: ds)
end
section
variable {c : Cn} {ρ ρ' : List Addr} {G G' : Hp}
mutual
theorem AtD.mono (s : Same G G') : ∀ {v : V} {d : Da}, AtD c G v d → AtD c G' v d
  | _, _, .non => .non
  | _, _, .bl b => .bl b
  | _, _, .int i => .int i
  | _, _, .str x => .str x
  | _, _, .lst h hs => .lst (s _ _ h) (AtDs.mono s hs)
  | _, _, .tup h hs => .tup (Same.tup s h) (AtDs.mono s hs)
  | _, _, .dct h k hs => .dct (s _ _ h) k (AtDs.mono s hs)
  | _, _, .ins h k hs => .ins (s _ _ h) k (AtDs.mono s hs)
  | _, _, .cls a => .cls a
  | _, _, .ty n => .ty n
  | _, _, .st => .st
theorem AtDs.mono (s : Same G G') : ∀ {vs : List V} {ds : List Da}, AtDs c G vs ds → AtDs c G' vs ds
  | _, _, .nil => .nil
  | _, _, .cons h hs => .cons (AtD.mono s h) (AtDs.mono s hs)
end
mutual
theorem At.mono (s : Same G G') (p : ∃ l, ρ' = ρ ++ l) : ∀ {v : V} {d : Dv}, At c ρ G v d → At c ρ' G' v d
  | _, _, .d h => .d (h.mono s)
  | _, _, .ob h => .ob (by obtain ⟨l, rfl⟩ := p; rw [List.getElem?_append_left (List.getElem?_eq_some_iff.mp h).1]; exact h)
  | _, _, .tp h hs => .tp (Same.tup s h) (AtAll.mono s p hs)
theorem AtAll.mono (s : Same G G') (p : ∃ l, ρ' = ρ ++ l) : ∀ {vs : List V} {ds : List Dv}, AtAll c ρ G vs ds → AtAll c ρ' G' vs ds
  | _, _, .nil => .nil
  | _, _, .cons h hs => .cons (At.mono s p h) (AtAll.mono s p hs)
end
theorem AtDs.up : ∀ {vs : List V} {ds : List Da}, AtDs c G vs ds → AtAll c ρ G vs (ds.map Dv.d)
  | _, _, .nil => .nil
  | _, _, .cons h t => .cons (.d h) (AtDs.up t)
theorem AtAll.down : ∀ {vs : List V} {ds : List Da}, AtAll c ρ G vs (ds.map Dv.d) → AtDs c G vs ds
  | vs, [], h => by
    cases vs with
    | nil => exact .nil
    | cons _ _ => cases h
  | vs, d :: ds, h => by
    cases vs with
    | nil => cases h
    | cons v vs =>
      rw [List.map_cons] at h
      generalize e : Dv.d d = y at h
      cases h with
      | cons h1 h2 =>
        subst e
        cases h1 with
        | d h1 => exact .cons h1 (AtAll.down h2)
theorem AtDs.length : ∀ {vs : List V} {ds : List Da}, AtDs c G vs ds → vs.length = ds.length
  | _, _, .nil => rfl
  | _, _, .cons _ t => by simp [AtDs.length t]
theorem AtAll.get : ∀ {vs : List V} {ds : List Dv} {i : Nat} {v : V}, AtAll c ρ G vs ds → vs[i]? = some v → ∃ d, ds[i]? = some d ∧ At c ρ G v d
  | _, _, _, _, .nil, e => by simp at e
  | _, _, 0, _, .cons h _, e => by simp at e; subst e; exact ⟨_, rfl, h⟩
  | _, _, i + 1, v, .cons _ t, e => by
    obtain ⟨d, h1, h2⟩ := AtAll.get (i := i) (v := v) t (by simpa using e)
    exact ⟨d, by simpa using h1, h2⟩
theorem AtAll.getD : ∀ {vs : List V} {ds : List Dv} {i : Nat} {d : Dv}, AtAll c ρ G vs ds → ds[i]? = some d → ∃ v, vs[i]? = some v ∧ At c ρ G v d
  | _, _, _, _, .nil, e => by simp at e
  | _, _, 0, _, .cons h _, e => by simp at e; subst e; exact ⟨_, rfl, h⟩
  | _, _, i + 1, d, .cons _ t, e => by
    obtain ⟨v, h1, h2⟩ := AtAll.getD (i := i) (d := d) t (by simpa using e)
    exact ⟨v, by simpa using h1, h2⟩
theorem AtAll.length : ∀ {vs : List V} {ds : List Dv}, AtAll c ρ G vs ds → vs.length = ds.length
  | _, _, .nil => rfl
  | _, _, .cons _ t => by simp [AtAll.length t]
theorem AtAll.append : ∀ {vs ws : List V} {ds es : List Dv}, AtAll c ρ G vs ds → AtAll c ρ G ws es → AtAll c ρ G (vs ++ ws) (ds ++ es)
  | _, _, _, _, .nil, t => t
  | _, _, _, _, .cons h s, t => .cons h (AtAll.append s t)
theorem AtAll.one {v : V} {d : Dv} (h : At c ρ G v d) : AtAll c ρ G [v] [d] := .cons h .nil
theorem AtAll.take : ∀ {vs : List V} {ds : List Dv} (n : Nat), AtAll c ρ G vs ds → AtAll c ρ G (vs.take n) (ds.take n)
  | _, _, 0, _ => .nil
  | _, _, _ + 1, .nil => .nil
  | _, _, n + 1, .cons r t => .cons r (AtAll.take n t)
theorem AtAll.drop : ∀ {vs : List V} {ds : List Dv} (n : Nat), AtAll c ρ G vs ds → AtAll c ρ G (vs.drop n) (ds.drop n)
  | _, _, 0, r => r
  | _, _, _ + 1, .nil => .nil
  | _, _, n + 1, .cons _ t => AtAll.drop n t
theorem AtAll.set {v : V} {d : Dv} (r : At c ρ G v d) : ∀ {vs : List V} {ds : List Dv} (i : Nat), AtAll c ρ G vs ds → AtAll c ρ G (vs.set i v) (ds.set i d)
  | _, _, _, .nil => .nil
  | _, _, 0, .cons _ t => .cons r t
  | _, _, i + 1, .cons q t => .cons q (AtAll.set r i t)
theorem AtAll.reverse : ∀ {vs : List V} {ds : List Dv}, AtAll c ρ G vs ds → AtAll c ρ G vs.reverse ds.reverse
  | _, _, .nil => .nil
  | _, _, .cons r t => by
    rw [List.reverse_cons, List.reverse_cons]
    exact (AtAll.reverse t).append (.one r)
theorem AtAll.map {α : Type} {f : α → V} {g : α → Dv} (h : ∀ x, At c ρ G (f x) (g x)) : ∀ l : List α, AtAll c ρ G (l.map f) (l.map g)
  | [] => .nil
  | x :: r => .cons (h x) (AtAll.map h r)
/-- slots -/
inductive EnvOk (c : Cn) (ρ : List Addr) (G : Hp) : St → List (Option Dv) → Prop
  | nil : EnvOk c ρ G [] []
  | no {σ : St} {α : List (Option Dv)} : EnvOk c ρ G σ α → EnvOk c ρ G (none :: σ) (none :: α)
  | un {v : Option V} {σ : St} {α : List (Option Dv)} : EnvOk c ρ G σ α → EnvOk c ρ G (v :: σ) (none :: α)
  | yes {v : V} {d : Dv} {σ : St} {α : List (Option Dv)} : At c ρ G v d → EnvOk c ρ G σ α → EnvOk c ρ G (some v :: σ) (some d :: α)
theorem EnvOk.mono (s : Same G G') (p : ∃ l, ρ' = ρ ++ l) : ∀ {σ : St} {α : List (Option Dv)}, EnvOk c ρ G σ α → EnvOk c ρ' G' σ α
  | _, _, .nil => .nil
  | _, _, .no t => .no (t.mono s p)
  | _, _, .un t => .un (t.mono s p)
  | _, _, .yes h t => .yes (h.mono s p) (t.mono s p)
theorem EnvOk.get : ∀ {σ : St} {α : List (Option Dv)} {i : Nat} {d : Dv}, EnvOk c ρ G σ α → α[i]? = some (some d) → ∃ v, σ[i]? = some (some v) ∧ At c ρ G v d
  | _, _, _, _, .nil, e => by simp at e
  | _, _, 0, _, .no _, e => by simp at e
  | _, _, 0, _, .un _, e => by simp at e
  | _, _, 0, _, .yes h _, e => by simp at e; subst e; exact ⟨_, rfl, h⟩
  | _, _, i + 1, d, .no t, e => by
    obtain ⟨v, h1, h2⟩ := EnvOk.get (i := i) (d := d) t (by simpa using e)
    exact ⟨v, by simpa using h1, h2⟩
  | _, _, i + 1, d, .un t, e => by
    obtain ⟨v, h1, h2⟩ := EnvOk.get (i := i) (d := d) t (by simpa using e)
    exact ⟨v, by simpa using h1, h2⟩
  | _, _, i + 1, d, .yes _ t, e => by
    obtain ⟨v, h1, h2⟩ := EnvOk.get (i := i) (d := d) t (by simpa using e)
    exact ⟨v, by simpa using h1, h2⟩
theorem EnvOk.set {v : V} {d : Dv} (r : At c ρ G v d) : ∀ {σ : St} {α : List (Option Dv)} (i : Nat), EnvOk c ρ G σ α → EnvOk c ρ G (σ.set i (some v)) (α.set i (some d))
  | _, _, _, .nil => .nil
  | _, _, 0, .no t => .yes r t
  | _, _, 0, .un t => .yes r t
  | _, _, 0, .yes _ t => .yes r t
  | _, _, i + 1, .no t => .no (EnvOk.set r i t)
  | _, _, i + 1, .un t => .un (EnvOk.set r i t)
  | _, _, i + 1, .yes h t => .yes h (EnvOk.set r i t)
theorem EnvOk.unset : ∀ {σ : St} {α : List (Option Dv)} (i : Nat), EnvOk c ρ G σ α → EnvOk c ρ G (σ.set i none) (α.set i none)
  | _, _, _, .nil => .nil
  | _, _, 0, .no t => .no t
  | _, _, 0, .un t => .no t
  | _, _, 0, .yes _ t => .no t
  | _, _, i + 1, .no t => .no (EnvOk.unset i t)
  | _, _, i + 1, .un t => .un (EnvOk.unset i t)
  | _, _, i + 1, .yes h t => .yes h (EnvOk.unset i t)
end
/-! ### the mutable objects -/
def ObAt (c : Cn) (ρ : List Addr) (G H : Hp) (a : Addr) : MO → Prop
  | .lst ds => G a = none ∧ ∃ vs, H a = some (.lst vs) ∧ AtAll c ρ G vs ds
  | .dct kds => G a = none ∧ ∃ kvs : List (Key × V), H a = some (.dK kvs) ∧ kvs.map (·.1) = kds.map (·.1) ∧ AtAll c ρ G (kvs.map (·.2)) (kds.map (·.2))
  | .ins C fds => G a = none ∧ ∃ dx fvs, H a = some (.ins C dx fvs) ∧ fvs.map (·.1) = fds.map (·.1) ∧ AtAll c ρ G (fvs.map (·.2)) (fds.map (·.2))
  | .frz d => G a ≠ none ∧ AtD c G (.ref a) d
  | .lck od kvs kds => G a = none ∧ H a = some (.frz od (.dK kvs)) ∧ kvs.map (·.1) = kds.map (·.1) ∧ AtAll c ρ G (kvs.map (·.2)) (kds.map (·.2))
  | .tb P q => G a = none ∧ a = P ∧ ∃ ps : Array Value, H a = some (.tbl ps) ∧ TriplesOk ps.toList ∧ ∀ (pos : Pos) (cv : Value), codeAmong pos ps.toList = some cv → ∃ z, cv = .ref z ∧ G z = some (LamX.CodeO z q)
  | .exc C fds => G a = none ∧ ∃ (d : Option Addr) (fvs : List (Str × V)), H a = some (exo a C d) ∧ (∀ dx, d = some dx → G dx = some (exd dx fvs)) ∧ (d = none → fvs = []) ∧ fvs.map (·.1) = fds.map (·.1) ∧ AtAll c ρ G (fvs.map (·.2)) (fds.map (·.2))
structure Rel (c : Cn) (ρ : List Addr) (G H : Hp) (μ : MS) : Prop where
  gh : Same G H
  len : ρ.length = μ.length
  nd : ρ.Nodup
  ob : ∀ (n : Nat) (a : Addr) (o : MO), ρ[n]? = some a → μ[n]? = some o → ObAt c ρ G H a o
  so : StOk G H c.st
  sn : c.st ∉ ρ
structure Stp (st : Addr) (ρ : List Addr) (G H : Hp) (ρ' : List Addr) (G' H' : Hp) : Prop where
  pre : ∃ l, ρ' = ρ ++ l
  gg : Same G G'
  hh : ∀ b o, b ∉ ρ → b ≠ st → H b = some o → H' b = some o
  dm : ∀ b, H' b = none → H b = none
  fr : ∀ b o, G' b = some o → G b = none → H b = none ∨ b ∈ ρ
  nw : ∀ b, b ∈ ρ' → b ∈ ρ ∨ H b = none
section
variable {c : Cn} {st : Addr} {ρ ρ1 ρ2 : List Addr} {G H G1 H1 G2 H2 : Hp} {μ μ1 : MS}
theorem Stp.refl : Stp st ρ G H ρ G H := ⟨⟨[], by simp⟩, Same.refl _, fun _ _ _ _ e => e, fun _ e => e, fun b o e n => (by rw [e] at n; cases n), fun _ h => .inl h⟩
theorem Stp.trans (a : Stp st ρ G H ρ1 G1 H1) (b : Stp st ρ1 G1 H1 ρ2 G2 H2) : Stp st ρ G H ρ2 G2 H2 where
  pre := by
    obtain ⟨l, rfl⟩ := a.pre
    obtain ⟨m, rfl⟩ := b.pre
    exact ⟨l ++ m, by simp⟩
  gg := a.gg.trans b.gg
  hh := fun x o n1 n2 e => b.hh x o (fun z => by
    rcases a.nw x z with h | h
    · exact n1 h
    · rw [e] at h; cases h) n2 (a.hh x o n1 n2 e)
  dm := fun x e => a.dm x (b.dm x e)
  fr := fun x o e n => by
    cases q : G1 x with
    | none =>
      rcases b.fr x o e q with h | h
      · exact .inl (a.dm x h)
      · exact (a.nw x h).symm
    | some u => exact a.fr x u q n
  nw := fun x h => by
    rcases b.nw x h with h | h
    · exact a.nw x h
    · exact .inr (a.dm x h)
theorem ObAt.mono {a : Addr} {o : MO} (s : Same G G1) (p : ∃ l, ρ1 = ρ ++ l) (hg : G1 a = none ∨ ∃ d, o = .frz d) (hh : ∀ u, H a = some u → H1 a = some u) (h : ObAt c ρ G H a o) : ObAt c ρ1 G1 H1 a o := by
  cases o with
  | lst ds =>
    obtain ⟨g, vs, e, t⟩ := h
    rcases hg with hg | ⟨d, hg⟩
    · exact ⟨hg, vs, hh _ e, t.mono s p⟩
    · cases hg
  | dct kds =>
    obtain ⟨g, vs, e, k, t⟩ := h
    rcases hg with hg | ⟨d, hg⟩
    · exact ⟨hg, vs, hh _ e, k, t.mono s p⟩
    · cases hg
  | ins C fds =>
    obtain ⟨g, dx, vs, e, k, t⟩ := h
    rcases hg with hg | ⟨d, hg⟩
    · exact ⟨hg, dx, vs, hh _ e, k, t.mono s p⟩
    · cases hg
  | lck od vs kds =>
    obtain ⟨g, e, k, t⟩ := h
    rcases hg with hg | ⟨d, hg⟩
    · exact ⟨hg, hh _ e, k, t.mono s p⟩
    · cases hg
  | exc C fds =>
    obtain ⟨g, d, vs, e, ed, en, k, t⟩ := h
    rcases hg with hg | ⟨d, hg⟩
    · exact ⟨hg, d, vs, hh _ e, fun dx z => s _ _ (ed dx z), en, k, t.mono s p⟩
    · cases hg
  | tb P q =>
    obtain ⟨g, eP, ps, e, k, t⟩ := h
    rcases hg with hg | ⟨d, hg⟩
    · exact ⟨hg, eP, ps, hh _ e, k, fun pos cv hc => by obtain ⟨z, e1, e2⟩ := t pos cv hc; exact ⟨z, e1, s _ _ e2⟩⟩
    · cases hg
  | frz d =>
    refine ⟨fun z => ?_, AtD.mono s h.2⟩
    cases q : G a with
    | none => exact h.1 q
    | some u => rw [s a u q] at z; cases z
theorem Rel.free (R : Rel c ρ G H μ) {a : Addr} (h : H a = none) : G a = none := by
  cases q : G a with
  | none => rfl
  | some u => rw [R.gh a u q] at h; cases h
theorem ObAt.there {a : Addr} {o : MO} (gh : Same G H) (h : ObAt c ρ G H a o) : H a ≠ none := by
  cases o with
  | lst ds => obtain ⟨g, vs, e, t⟩ := h; rw [e]; simp
  | dct ds => obtain ⟨g, vs, e, t⟩ := h; rw [e]; simp
  | ins C ds => obtain ⟨g, dx, vs, e, t⟩ := h; rw [e]; simp
  | lck od vs ds => obtain ⟨g, e, t⟩ := h; rw [e]; simp
  | tb P q => obtain ⟨g, eP, ps, e, t⟩ := h; rw [e]; simp
  | exc C ds => obtain ⟨g, d, vs, e, t⟩ := h; rw [e]; simp
  | frz d =>
    cases q : G a with
    | none => exact absurd q h.1
    | some u => rw [gh a u q]; simp
theorem Rel.there (R : Rel c ρ G H μ) {a : Addr} (h : a ∈ ρ) : H a ≠ none := by
  obtain ⟨n, hn⟩ := List.getElem?_of_mem h
  have hl : n < μ.length := by rw [← R.len]; exact (List.getElem?_eq_some_iff.mp hn).1
  exact (R.ob n a _ hn (List.getElem?_eq_getElem hl)).there R.gh
theorem Rel.new (R : Rel c ρ G H μ) {a : Addr} (h : H a = none) : a ∉ ρ := fun z => R.there z h
theorem Rel.newst (R : Rel c ρ G H μ) {a : Addr} (h : H a = none) : a ≠ c.st := R.so.new h
theorem Stp.at_ (S : Stp st ρ G H ρ1 G1 H1) {v : V} {d : Dv} (h : At c ρ G v d) : At c ρ1 G1 v d := h.mono S.gg S.pre
theorem Stp.all (S : Stp st ρ G H ρ1 G1 H1) {v : List V} {d : List Dv} (h : AtAll c ρ G v d) : AtAll c ρ1 G1 v d := h.mono S.gg S.pre
theorem Stp.env (S : Stp st ρ G H ρ1 G1 H1) {σ : St} {α : List (Option Dv)} (h : EnvOk c ρ G σ α) : EnvOk c ρ1 G1 σ α := h.mono S.gg S.pre
theorem pre0 {ρ : List Addr} : ∃ l, ρ = ρ ++ l := ⟨[], by simp⟩
theorem pre1 {ρ : List Addr} {p : Addr} : ∃ l, ρ ++ [p] = ρ ++ l := ⟨[p], rfl⟩
/-- the objects stay as they are -/
theorem Rel.keep (R : Rel c ρ G H μ) (gg : Same G G1) (gh : Same G1 H1) (hh : ∀ b o, b ∈ ρ → H b = some o → H1 b = some o) (gn : ∀ b, b ∈ ρ → G b = none → G1 b = none) (so : StOk G1 H1 c.st) : Rel c ρ G1 H1 μ where
  gh := gh
  len := R.len
  nd := R.nd
  ob := fun n a o h1 h2 => by
    have hm : a ∈ ρ := List.mem_of_getElem? h1
    refine (R.ob n a o h1 h2).mono gg pre0 ?_ fun u e => hh a u hm e
    cases o with
    | frz d => exact .inr ⟨d, rfl⟩
    | lst ds => obtain ⟨g, _⟩ := R.ob n a _ h1 h2; exact .inl (gn a hm g)
    | dct ds => obtain ⟨g, _⟩ := R.ob n a _ h1 h2; exact .inl (gn a hm g)
    | ins C ds => obtain ⟨g, _⟩ := R.ob n a _ h1 h2; exact .inl (gn a hm g)
    | lck _ _ ds => obtain ⟨g, _⟩ := R.ob n a _ h1 h2; exact .inl (gn a hm g)
    | tb _ _ => obtain ⟨g, _⟩ := R.ob n a _ h1 h2; exact .inl (gn a hm g)
    | exc _ _ => obtain ⟨g, _⟩ := R.ob n a _ h1 h2; exact .inl (gn a hm g)
  so := so
  sn := R.sn
/-- something new that nobody looks at -/
theorem Rel.junk (R : Rel c ρ G H μ) {p : Addr} {u : HO} (hp : H p = none) : Rel c ρ G (upd H p u) μ ∧ Stp c.st ρ G H ρ G (upd H p u) := by
  have g := (Gr.refl (M := []) R.gh).newM (o := u) hp
  exact ⟨R.keep (Same.refl _) g.gh (fun b o _ e => get_new hp e) (fun _ _ h => h) (R.so.step g (by simp)), ⟨pre0, Same.refl _, fun b o _ _ e => get_new hp e, g.dm, fun b o e n => (by rw [e] at n; cases n), fun _ h => .inl h⟩⟩
/-- a new object that stays as it is -/
theorem Rel.newF (R : Rel c ρ G H μ) {p : Addr} {u : HO} (hp : H p = none) : Rel c ρ (upd G p u) (upd H p u) μ ∧ Stp c.st ρ G H ρ (upd G p u) (upd H p u) := by
  have g := (Gr.refl (M := []) R.gh).newF (o := u) hp
  refine ⟨R.keep g.gg g.gh (fun b o _ e => get_new hp e) (fun b hb h => ?_) (R.so.step g (by simp)), ⟨pre0, g.gg, fun b o _ _ e => get_new hp e, g.dm, fun b o e n => .inl (g.fr b o e n), fun _ h => .inl h⟩⟩
  rw [upd_ne (fun z => R.new hp (by rw [← z]; exact hb))]
  exact h
/-- a new object that may change -/
theorem Rel.alloc (R : Rel c ρ G H μ) {p : Addr} {u : HO} {o : MO} (hp : H p = none) (ho : ObAt c (ρ ++ [p]) G (upd H p u) p o) : Rel c (ρ ++ [p]) G (upd H p u) (μ ++ [o]) ∧ Stp c.st ρ G H (ρ ++ [p]) G (upd H p u) := by
  have g := (Gr.refl (M := []) R.gh).newM (o := u) hp
  have hn := R.new hp
  refine ⟨⟨g.gh, by simp [R.len], ?_, ?_, R.so.step g (by simp), ?_⟩, ⟨pre1, Same.refl _, fun b o _ _ e => get_new hp e, g.dm, fun b o e n => (by rw [e] at n; cases n), fun b h => ?_⟩⟩
  · exact List.nodup_append.mpr ⟨R.nd, by simp, fun a ha b hb z => hn (by
      have : b = p := by simpa using hb
      rw [← this, ← z]; exact ha)⟩
  · intro n a o' h1 h2
    by_cases hl : n < ρ.length
    · rw [List.getElem?_append_left hl] at h1
      rw [List.getElem?_append_left (by rw [← R.len]; exact hl)] at h2
      have hm : a ∈ ρ := List.mem_of_getElem? h1
      refine (R.ob n a o' h1 h2).mono (Same.refl _) pre1 ?_ fun w e => get_new hp e
      cases o' with
      | frz d => exact .inr ⟨d, rfl⟩
      | lst ds => obtain ⟨g, _⟩ := R.ob n a _ h1 h2; exact .inl g
      | dct ds => obtain ⟨g, _⟩ := R.ob n a _ h1 h2; exact .inl g
      | ins C ds => obtain ⟨g, _⟩ := R.ob n a _ h1 h2; exact .inl g
      | lck _ _ ds => obtain ⟨g, _⟩ := R.ob n a _ h1 h2; exact .inl g
      | tb _ _ => obtain ⟨g, _⟩ := R.ob n a _ h1 h2; exact .inl g
      | exc _ _ => obtain ⟨g, _⟩ := R.ob n a _ h1 h2; exact .inl g
    · have hz : n = ρ.length := by
        have := (List.getElem?_eq_some_iff.mp h1).1
        simp at this
        omega
      subst hz
      have e1 : p = a := by simpa using h1
      have e2 : o = o' := by
        rw [R.len] at h2
        simpa using h2
      subst e1
      subst e2
      exact ho
  · intro z
    rcases List.mem_append.mp z with z | z
    · exact R.sn z
    · have : c.st = p := by simpa using z
      exact R.newst hp this.symm
  · rcases List.mem_append.mp h with h | h
    · exact .inl h
    · have : b = p := by simpa using h
      rw [this]; exact .inr hp
/-- an object is changed -/
theorem Rel.put (R : Rel c ρ G H μ) {n : Nat} {a : Addr} {u : HO} {o o' : MO} (hn : ρ[n]? = some a) (hm : μ[n]? = some o) (hz : ∀ d, o ≠ .frz d) (ho : ObAt c ρ G (upd H a u) a o') : Rel c ρ G (upd H a u) (μ.set n o') ∧ Stp c.st ρ G H ρ G (upd H a u) := by
  have ha : a ∈ ρ := List.mem_of_getElem? hn
  have hth := R.there ha
  have hg : G a = none := by
    have := R.ob n a o hn hm
    cases o with
    | lst ds => exact this.1
    | dct ds => exact this.1
    | ins C ds => exact this.1
    | lck _ _ ds => exact this.1
    | tb _ _ => exact this.1
    | exc _ _ => exact this.1
    | frz d => exact absurd rfl (hz d)
  have g := (Gr.refl (M := [a]) R.gh).set (o := u) hg hth (.inr (by simp))
  have nst : a ≠ c.st := fun z => R.sn (by rw [← z]; exact ha)
  refine ⟨⟨g.gh, by simp [R.len], R.nd, ?_, R.so.set nst hg, R.sn⟩, ⟨pre0, Same.refl _, fun b o hb _ e => get_set (fun z => hb (by rw [z]; exact ha)) e, g.dm, fun b o e n => (by rw [e] at n; cases n), fun _ h => .inl h⟩⟩
  intro m b o1 h1 h2
  by_cases hmn : m = n
  · subst hmn
    rw [hn] at h1
    cases h1
    have hl := (List.getElem?_eq_some_iff.mp hm).1
    rw [List.getElem?_set_self hl] at h2
    cases h2
    exact ho
  · rw [List.getElem?_set_ne (Ne.symm hmn)] at h2
    have hba : b ≠ a := by
      rintro rfl
      exact hmn ((List.getElem?_inj (List.getElem?_eq_some_iff.mp h1).1 R.nd).mp (h1.trans hn.symm))
    refine (R.ob m b o1 h1 h2).mono (Same.refl _) pre0 ?_ fun w e => get_set hba e
    cases o1 with
    | frz d => exact .inr ⟨d, rfl⟩
    | lst ds => obtain ⟨g, _⟩ := R.ob m b _ h1 h2; exact .inl g
    | dct ds => obtain ⟨g, _⟩ := R.ob m b _ h1 h2; exact .inl g
    | ins C ds => obtain ⟨g, _⟩ := R.ob m b _ h1 h2; exact .inl g
    | lck _ _ ds => obtain ⟨g, _⟩ := R.ob m b _ h1 h2; exact .inl g
    | tb _ _ => obtain ⟨g, _⟩ := R.ob m b _ h1 h2; exact .inl g
    | exc _ _ => obtain ⟨g, _⟩ := R.ob m b _ h1 h2; exact .inl g
/-- a draw -/
theorem Rel.draw (R : Rel c ρ G H μ) (g : Gr [c.st] G H G1 H1) (so : StOk G1 H1 c.st) : Rel c ρ G1 H1 μ ∧ Stp c.st ρ G H ρ G1 H1 := by
  have hh : ∀ b o, b ∈ ρ → H b = some o → H1 b = some o := fun b o hb e => g.hh b o (by
    intro z
    have : b = c.st := by simpa using z
    exact R.sn (by rw [← this]; exact hb)) e
  refine ⟨R.keep g.gg g.gh hh (fun b hb n => ?_) so, ⟨pre0, g.gg, fun b o _ n e => g.hh b o (by simpa using n) e, g.dm, fun b o e n => .inl (g.fr b o e n), fun _ h => .inl h⟩⟩
  cases e : H b with
  | none => exact absurd e (R.there hb)
  | some o => exact g.nog n e
end
end Mz
end
section
set_option Elab.async false
set_option linter.all false
set_option maxRecDepth 100000
set_option maxHeartbeats 4000000
namespace Mz
open PySem L2
/-! ### the mirror's forms -/
structure Ex where
  cls : Addr
  fs : List (Str × Da)
abbrev Env' := List (Option Dv)
abbrev DK := Dv → MS → Prop
abbrev XS := Ex → MS → Prop
abbrev ES := XS → Env' → MS → DK → Prop
abbrev AS := XS → Env' → MS → (List Dv → MS → Prop) → Prop
abbrev TS' := XS → Env' → MS → (Bool → MS → Prop) → Prop
def ExAt (c : Cn) (ρ : List Addr) (G H : Hp) (e : Ex) (cls : Value) (dd : Option Addr) : Prop := cls = .ref e.cls ∧ ((e.fs = [] ∧ dd = none) ∨ ∃ d fvs, dd = some d ∧ H d = some (.xd fvs) ∧ fvs.map (·.1) = e.fs.map (·.1) ∧ AtDs c G (fvs.map (·.2)) (e.fs.map (·.2)))
def PX (c : Cn) (ρ : List Addr) (G H : Hp) (E : XK) (E' : XS) : Prop := ∀ e μ', E' e μ' → ∀ cls dd ρ' G' H', Stp c.st ρ G H ρ' G' H' → Rel c ρ' G' H' μ' → ExAt c ρ' G' H' e cls dd → E cls dd H'
def PQ (c : Cn) (ρ : List Addr) (G H : Hp) (Q : VK) (Q' : DK) : Prop := ∀ d μ', Q' d μ' → ∀ v ρ' G' H', Stp c.st ρ G H ρ' G' H' → Rel c ρ' G' H' μ' → At c ρ' G' v d → Q v H'
def PQs (c : Cn) (ρ : List Addr) (G H : Hp) (Q : List V → Hp → Prop) (Q' : List Dv → MS → Prop) : Prop := ∀ d μ', Q' d μ' → ∀ v ρ' G' H', Stp c.st ρ G H ρ' G' H' → Rel c ρ' G' H' μ' → AtAll c ρ' G' v d → Q v H'
def PB (c : Cn) (ρ : List Addr) (G H : Hp) (Q : Bool → Hp → Prop) (Q' : Bool → MS → Prop) : Prop := ∀ b μ', Q' b μ' → ∀ ρ' G' H', Stp c.st ρ G H ρ' G' H' → Rel c ρ' G' H' μ' → Q b H'
structure SE (c : Cn) (E : XK) (te : TE) (me : ES)  : Prop where
  run : ∀ {ρ : List Addr} {G H : Hp} {σ : St} {α : Env'} {μ : MS} {Q : VK} {E' : XS} {Q' : DK}, Rel c ρ G H μ → EnvOk c ρ G σ α → PX c ρ G H E E' → PQ c ρ G H Q Q' → me E' α μ Q' → te σ H Q
instance (c : Cn) (E : XK) (te : TE) (me : ES)  : CoeFun (SE c E te me) fun _ => ∀ {ρ : List Addr} {G H : Hp} {σ : St} {α : Env'} {μ : MS} {Q : VK} {E' : XS} {Q' : DK}, Rel c ρ G H μ → EnvOk c ρ G σ α → PX c ρ G H E E' → PQ c ρ G H Q Q' → me E' α μ Q' → te σ H Q := ⟨fun h => h.run⟩
structure SA (c : Cn) (E : XK) (te : TA) (me : AS)  : Prop where
  run : ∀ {ρ : List Addr} {G H : Hp} {σ : St} {α : Env'} {μ : MS} {Q : List V → Hp → Prop} {E' : XS} {Q' : List Dv → MS → Prop}, Rel c ρ G H μ → EnvOk c ρ G σ α → PX c ρ G H E E' → PQs c ρ G H Q Q' → me E' α μ Q' → te σ H Q
instance (c : Cn) (E : XK) (te : TA) (me : AS)  : CoeFun (SA c E te me) fun _ => ∀ {ρ : List Addr} {G H : Hp} {σ : St} {α : Env'} {μ : MS} {Q : List V → Hp → Prop} {E' : XS} {Q' : List Dv → MS → Prop}, Rel c ρ G H μ → EnvOk c ρ G σ α → PX c ρ G H E E' → PQs c ρ G H Q Q' → me E' α μ Q' → te σ H Q := ⟨fun h => h.run⟩
structure ST (c : Cn) (E : XK) (te : TT) (me : TS')  : Prop where
  run : ∀ {ρ : List Addr} {G H : Hp} {σ : St} {α : Env'} {μ : MS} {Q : Bool → Hp → Prop} {E' : XS} {Q' : Bool → MS → Prop}, Rel c ρ G H μ → EnvOk c ρ G σ α → PX c ρ G H E E' → PB c ρ G H Q Q' → me E' α μ Q' → te σ H Q
instance (c : Cn) (E : XK) (te : TT) (me : TS')  : CoeFun (ST c E te me) fun _ => ∀ {ρ : List Addr} {G H : Hp} {σ : St} {α : Env'} {μ : MS} {Q : Bool → Hp → Prop} {E' : XS} {Q' : Bool → MS → Prop}, Rel c ρ G H μ → EnvOk c ρ G σ α → PX c ρ G H E E' → PB c ρ G H Q Q' → me E' α μ Q' → te σ H Q := ⟨fun h => h.run⟩
section
variable {c : Cn} {E : XK} {ρ ρ1 : List Addr} {G H G1 H1 : Hp} {Q : VK} {Q' : DK} {E' : XS} {μ : MS}
theorem PX.step (h : PX c ρ G H E E') (s : Stp c.st ρ G H ρ1 G1 H1) : PX c ρ1 G1 H1 E E' := fun e μ' x cls dd ρ' G' H' s' R' a => h e μ' x cls dd ρ' G' H' (s.trans s') R' a
theorem PQ.step (h : PQ c ρ G H Q Q') (s : Stp c.st ρ G H ρ1 G1 H1) : PQ c ρ1 G1 H1 Q Q' := fun d μ' x v ρ' G' H' s' R' a => h d μ' x v ρ' G' H' (s.trans s') R' a
theorem PQs.step {Q : List V → Hp → Prop} {Q' : List Dv → MS → Prop} (h : PQs c ρ G H Q Q') (s : Stp c.st ρ G H ρ1 G1 H1) : PQs c ρ1 G1 H1 Q Q' := fun d μ' x v ρ' G' H' s' R' a => h d μ' x v ρ' G' H' (s.trans s') R' a
theorem PB.step {Q : Bool → Hp → Prop} {Q' : Bool → MS → Prop} (h : PB c ρ G H Q Q') (s : Stp c.st ρ G H ρ1 G1 H1) : PB c ρ1 G1 H1 Q Q' := fun b μ' x ρ' G' H' s' R' => h b μ' x ρ' G' H' (s.trans s') R'
theorem PQ.here (h : PQ c ρ G H Q Q') (R : Rel c ρ G H μ) {v : V} {d : Dv} (a : At c ρ G v d) (q : Q' d μ) : Q v H := h d μ q v ρ G H Stp.refl R a
end
/-! ### names and constants -/
def mVar (i : Nat) : ES := fun _ α μ Q => ∃ d, α[i]? = some (some d) ∧ Q d μ
def mC (d : Dv) : ES := fun _ _ μ Q => Q d μ
section
variable {c : Cn} {E : XK}
theorem se_var (i : Nat) : SE c E (tVar i) (mVar i) := by
  refine ⟨?_⟩
  rintro ρ G H σ α μ Q E' Q' R e _ q ⟨d, h1, h2⟩
  obtain ⟨v, h3, h4⟩ := e.get h1
  exact ⟨v, h3, q.here R h4 h2⟩
theorem se_c {v : V} {x : Da} (h : ∀ G, AtD c G v x) : SE c E (tC v) (mC (.d x)) := ⟨fun R _ _ q k => q.here R (.d (h _)) k⟩
theorem se_int {i : Int} : SE c E (tC (.int i)) (mC (.d (.int i))) := se_c fun _ => .int _
theorem se_str {i : Str} : SE c E (tC (.str i)) (mC (.d (.str i))) := se_c fun _ => .str _
theorem se_bl {i : Bool} : SE c E (tC (.bl i)) (mC (.d (.bl i))) := se_c fun _ => .bl _
theorem se_non : SE c E (tC .non) (mC (.d .non)) := se_c fun _ => .non
theorem se_cls {a : Addr} : SE c E (tC (.ref a)) (mC (.d (.cls a))) := se_c fun _ => .cls _
theorem se_ty {n : String} : SE c E (tC (.ty n)) (mC (.d (.ty n))) := se_c fun _ => .ty _
end
/-! ### operators -/
abbrev O2 := Dv → Dv → MS → DK → Prop
structure SO (c : Cn) (r : R2) (o : O2)  : Prop where
  run : ∀ {ρ : List Addr} {G H : Hp} {μ : MS} {x y : V} {d1 d2 : Dv} {Q : VK} {Q' : DK}, Rel c ρ G H μ → At c ρ G x d1 → At c ρ G y d2 → PQ c ρ G H Q Q' → o d1 d2 μ Q' → r x y H Q
instance (c : Cn) (r : R2) (o : O2)  : CoeFun (SO c r o) fun _ => ∀ {ρ : List Addr} {G H : Hp} {μ : MS} {x y : V} {d1 d2 : Dv} {Q : VK} {Q' : DK}, Rel c ρ G H μ → At c ρ G x d1 → At c ρ G y d2 → PQ c ρ G H Q Q' → o d1 d2 μ Q' → r x y H Q := ⟨fun h => h.run⟩
def mOp (o : O2) (a b : ES) : ES := fun E α μ Q => a E α μ fun d1 μ1 => b E α μ1 fun d2 μ2 => o d1 d2 μ2 Q
section
variable {c : Cn} {E : XK}
theorem se_op {r : R2} {o : O2} {ta tb : TE} {a b : ES} (so : SO c r o) (ha : SE c E ta a) (hb : SE c E tb b) : SE c E (tOp r ta tb) (mOp o a b) := by
  refine ⟨?_⟩
  intro ρ G H σ α μ Q E' Q' R e px q h
  refine ha R e px ?_ h
  intro d1 μ1 h1 x ρ1 G1 H1 s1 R1 a1
  refine hb R1 (s1.env e) (px.step s1) ?_ h1
  intro d2 μ2 h2 y ρ2 G2 H2 s2 R2 a2
  exact so R2 (s2.at_ a1) a2 (q.step (s1.trans s2)) h2
/-! texts -/
/-! == and != of plain values -/
/-- plain values as such -/
def pD : Da → Option V
  | .non => some .non
  | .bl b => some (.bl b)
  | .int i => some (.int i)
  | .str s => some (.str s)
  | _ => none
def pV : Dv → Option V
  | .d x => pD x
  | _ => none
theorem AtD.plain {G : Hp} {v w : V} {d : Da} (h : AtD c G v d) (e : pD d = some w) : v = w := by
  cases h <;> first | (cases e; rfl) | cases e
theorem At.plain {ρ : List Addr} {G : Hp} {v w : V} {d : Dv} (h : At c ρ G v d) (e : pV d = some w) : v = w := by
  cases h with
  | d h => exact h.plain e
  | _ => cases e
def oEq (neg : Bool) : O2 := fun d1 d2 μ Q => ∃ x y, pV d1 = some x ∧ pV d2 = some y ∧ scal x y = true ∧ Q (.d (.bl (if neg = true then !decide (x = y) else decide (x = y)))) μ
theorem so_eq : SO c rEq (oEq false) := by
  refine ⟨?_⟩
  rintro ρ G H μ x y d1 d2 Q Q' R a1 a2 q ⟨x', y', h1, h2, h3, h4⟩
  obtain rfl := a1.plain h1
  obtain rfl := a2.plain h2
  exact ⟨h3, q.here R (.d (.bl _)) h4⟩
theorem so_ne : SO c rNe (oEq true) := by
  refine ⟨?_⟩
  rintro ρ G H μ x y d1 d2 Q Q' R a1 a2 q ⟨x', y', h1, h2, h3, h4⟩
  obtain rfl := a1.plain h1
  obtain rfl := a2.plain h2
  exact ⟨h3, q.here R (.d (.bl _)) h4⟩
/-! is None -/
theorem at_non {ρ : List Addr} {G : Hp} {v : V} (h : At c ρ G v (.d .non)) : v = .non := by
  cases h with
  | d h => cases h; rfl
theorem at_bl {ρ : List Addr} {G : Hp} {v : V} {b : Bool} (h : At c ρ G v (.d (.bl b))) : v = .bl b := by
  cases h with
  | d h => cases h; rfl
theorem at_int {ρ : List Addr} {G : Hp} {v : V} {b : Int} (h : At c ρ G v (.d (.int b))) : v = .int b := by
  cases h with
  | d h => cases h; rfl
theorem at_str {ρ : List Addr} {G : Hp} {v : V} {b : Str} (h : At c ρ G v (.d (.str b))) : v = .str b := by
  cases h with
  | d h => cases h; rfl
end
/-! ### truth -/
def mAndV (a b : ES) : ES := fun E α μ Q => a E α μ fun d μ1 => ∃ k, d = .d (.bl k) ∧ if k = true then b E α μ1 Q else Q (.d (.bl false)) μ1
def mT (a : ES) : TS' := fun E α μ Q => a E α μ fun d μ1 => ∃ k, d = .d (.bl k) ∧ Q k μ1
def mNotT (a : TS') : TS' := fun E α μ Q => a E α μ fun k μ1 => Q (!k) μ1
def mOrT (a b : TS') : TS' := fun E α μ Q => a E α μ fun k μ1 => if k = true then Q true μ1 else b E α μ1 Q
section
variable {c : Cn} {E : XK} {ta tb tc : TE} {a b d : ES} {tA tB' : TT} {ma mb : TS'}
theorem se_andV (ha : SE c E ta a) (hb : SE c E tb b) : SE c E (tAndV ta tb) (mAndV a b) := by
  refine ⟨?_⟩
  intro ρ G H σ α μ Q E' Q' R e px q h
  refine ha R e px ?_ h
  rintro d1 μ1 ⟨k, rfl, h1⟩ x ρ1 G1 H1 s1 R1 a1
  obtain rfl := at_bl a1
  refine ⟨k, rfl, ?_⟩
  cases k with
  | true => exact hb R1 (s1.env e) (px.step s1) (q.step s1) h1
  | false => exact (q.step s1).here R1 (.d (.bl _)) h1
theorem st_val (ha : SE c E ta a) : ST c E (tB ta) (mT a) := by
  refine ⟨?_⟩
  intro ρ G H σ α μ Q E' Q' R e px q h
  refine ha R e px ?_ h
  rintro d1 μ1 ⟨k, rfl, h1⟩ x ρ1 G1 H1 s1 R1 a1
  obtain rfl := at_bl a1
  exact ⟨k, rfl, q k μ1 h1 _ _ _ s1 R1⟩
theorem st_test (ha : SE c E ta a) : ST c E (tTest ta) (mT a) := by
  refine ⟨?_⟩
  intro ρ G H σ α μ Q E' Q' R e px q h
  refine ha R e px ?_ h
  rintro d1 μ1 ⟨k, rfl, h1⟩ x ρ1 G1 H1 s1 R1 a1
  obtain rfl := at_bl a1
  exact ⟨k, rfl, q k μ1 h1 _ _ _ s1 R1⟩
theorem st_not (ha : ST c E tA ma) : ST c E (tNot tA) (mNotT ma) := by
  refine ⟨?_⟩
  intro ρ G H σ α μ Q E' Q' R e px q h
  refine ha R e px ?_ h
  exact fun k μ1 h1 ρ1 G1 H1 s1 R1 => q _ μ1 h1 _ _ _ s1 R1
theorem st_or (ha : ST c E tA ma) (hb : ST c E tB' mb) : ST c E (tOr tA tB') (mOrT ma mb) := by
  refine ⟨?_⟩
  intro ρ G H σ α μ Q E' Q' R e px q h
  refine ha R e px ?_ h
  intro k μ1 h1 ρ1 G1 H1 s1 R1
  cases k with
  | false => exact hb R1 (s1.env e) (px.step s1) (q.step s1) h1
  | true => exact q _ μ1 h1 _ _ _ s1 R1
end
/-! ### arguments -/
def mNil : AS := fun _ _ μ Q => Q [] μ
def mCons (a : ES) (r : AS) : AS := fun E α μ Q => a E α μ fun d μ1 => r E α μ1 fun ds μ2 => Q (d :: ds) μ2
section
variable {c : Cn} {E : XK} {ta tb tc : TE} {a b d : ES} {tr : TA} {r : AS}
theorem sa_nil : SA c E tNil mNil := ⟨fun R _ _ q h => q _ _ h _ _ _ _ Stp.refl R .nil⟩
theorem sa_cons (ha : SE c E ta a) (hr : SA c E tr r) : SA c E (tCons ta tr) (mCons a r) := by
  refine ⟨?_⟩
  intro ρ G H σ α μ Q E' Q' R e px q h
  refine ha R e px ?_ h
  intro d1 μ1 h1 x ρ1 G1 H1 s1 R1 a1
  refine hr R1 (s1.env e) (px.step s1) ?_ h1
  intro ds μ2 h2 xs ρ2 G2 H2 s2 R2 a2
  exact q _ μ2 h2 _ _ _ _ (s1.trans s2) R2 (.cons (s2.at_ a1) a2)
/-! ### displays -/
/-- all of them data -/
def allD : List Dv → Option (List Da)
  | [] => some []
  | .d x :: r => (allD r).map (x :: ·)
  | _ => none
def mkTup (xs : List Dv) : Dv := match allD xs with
  | some ds => .d (.tup ds)
  | none => .tp xs
theorem allD_eq : ∀ {xs : List Dv} {ds : List Da}, allD xs = some ds → xs = ds.map Dv.d
  | [], _, e => by cases e; rfl
  | .d x :: r, ds, e => by
    simp only [allD] at e
    cases q : allD r with
    | none => rw [q] at e; cases e
    | some y =>
      rw [q] at e
      cases e
      rw [allD_eq q]; rfl
  | .ob _ :: _, _, e => by cases e
  | .tp _ :: _, _, e => by cases e
theorem at_mk {ρ : List Addr} {G : Hp} {a : Addr} {vs : List V} {ds : List Dv} (h : SqT c.K G a vs) (t : AtAll c ρ G vs ds) : At c ρ G (.ref a) (mkTup ds) := by
  unfold mkTup
  cases q : allD ds with
  | none => exact .tp h t
  | some xs =>
    have := allD_eq q
    subst this
    exact .d (.tup h t.down)
def mTup (r : AS) : ES := fun E α μ Q => r E α μ fun ds μ1 => ds.length ≤ sizeLine ∧ Q (mkTup ds) μ1
def mLst (r : AS) : ES := fun E α μ Q => r E α μ fun ds μ1 => ds.length ≤ sizeLine ∧ Q (.ob μ1.length) (μ1 ++ [.lst ds])
theorem newTup {ρ : List Addr} {G H : Hp} {μ : MS} {Q : VK} {Q' : DK} {vs : List V} {ds : List Dv} (R : Rel c ρ G H μ) (q : PQ c ρ G H Q Q') (a : AtAll c ρ G vs ds) (h : Q' (mkTup ds) μ) {p : Addr} (hp : H p = none) : Q (.ref p) (upd H p (.tup vs)) := by
  obtain ⟨R1, s1⟩ := R.newF (u := .tup vs) hp
  exact q _ _ h _ _ _ _ s1 R1 (at_mk (SqT.of upd_same) (s1.all a))
theorem newLst {ρ : List Addr} {G H : Hp} {μ : MS} {Q : VK} {Q' : DK} {vs : List V} {ds : List Dv} (R : Rel c ρ G H μ) (q : PQ c ρ G H Q Q') (a : AtAll c ρ G vs ds) (h : Q' (.ob μ.length) (μ ++ [.lst ds])) {p : Addr} (hp : H p = none) : Q (.ref p) (upd H p (.lst vs)) := by
  obtain ⟨R1, s1⟩ := R.alloc (u := .lst vs) (o := .lst ds) hp ⟨R.free hp, vs, upd_same, a.mono (Same.refl _) pre1⟩
  refine q _ _ h _ _ _ _ s1 R1 (.ob ?_)
  rw [← R.len]; simp
theorem se_tup (hr : SA c E tr r) : SE c E (tTup tr) (mTup r) := by
  refine ⟨?_⟩
  intro ρ G H σ α μ Q E' Q' R e px q h
  refine hr R e px ?_ h
  rintro ds μ1 ⟨hl, h1⟩ vs ρ1 G1 H1 s1 R1 a1
  exact ⟨by rw [a1.length]; exact hl, fun p hp => newTup R1 (q.step s1) a1 h1 hp⟩
theorem se_lst (hr : SA c E tr r) : SE c E (tLst tr) (mLst r) := by
  refine ⟨?_⟩
  intro ρ G H σ α μ Q E' Q' R e px q h
  refine hr R e px ?_ h
  rintro ds μ1 ⟨hl, h1⟩ vs ρ1 G1 H1 s1 R1 a1
  exact ⟨by rw [a1.length]; exact hl, fun p hp => newLst R1 (q.step s1) a1 h1 hp⟩
end
end Mz
end
section
set_option Elab.async false
set_option linter.all false
set_option maxRecDepth 100000
set_option maxHeartbeats 4000000
namespace Mz
open PySem L2
/-! ### views -/
def eD {κ : Type} (p : κ × Da) : κ × Dv := (p.1, .d p.2)
def lsV (μ : MS) : Dv → Option (List Dv)
  | .d (.lst ds) => some (ds.map .d)
  | .ob n => match μ[n]? with
    | some (.lst ds) => some ds
    | some (.frz (.lst ds)) => some (ds.map .d)
    | _ => none
  | _ => none
def sqV (μ : MS) : Dv → Option (List Dv)
  | .d (.tup ds) => some (ds.map .d)
  | .d (.lst ds) => some (ds.map .d)
  | .tp ds => some ds
  | .ob n => lsV μ (.ob n)
  | _ => none
def tpV : Dv → Option (List Dv)
  | .d (.tup ds) => some (ds.map .d)
  | .tp ds => some ds
  | _ => none
def dcV (μ : MS) : Dv → Option (List (Key × Dv))
  | .d (.dct ds) => some (ds.map eD)
  | .ob n => match μ[n]? with
    | some (.dct ds) => some ds
    | some (.frz (.dct ds)) => some (ds.map eD)
    | _ => none
  | _ => none
def isV (μ : MS) : Dv → Option (Addr × List (Str × Dv))
  | .d (.ins C fs) => some (C, fs.map eD)
  | .ob n => match μ[n]? with
    | some (.ins C fs) => some (C, fs)
    | some (.frz (.ins C fs)) => some (C, fs.map eD)
    | _ => none
  | _ => none
section
variable {c : Cn} {E : XK} {ρ : List Addr} {G H : Hp} {μ : MS}
theorem Rel.at_ob (R : Rel c ρ G H μ) {v : V} {n : Nat} {o : MO} (a : At c ρ G v (.ob n)) (h : μ[n]? = some o) : ∃ p, v = .ref p ∧ ρ[n]? = some p ∧ ObAt c ρ G H p o := by
  cases a with
  | ob hn => exact ⟨_, rfl, hn, R.ob n _ o hn h⟩
theorem at_lst (gh : Same G H) {v : V} {ds : List Da} (a : AtD c G v (.lst ds)) : ∃ p vs, v = .ref p ∧ H p = some (.lst vs) ∧ AtAll c ρ G vs (ds.map .d) := by
  cases a with
  | lst h t => exact ⟨_, _, rfl, gh _ _ h, t.up⟩
theorem lsV_ok (R : Rel c ρ G H μ) {v : V} {d : Dv} {ds : List Dv} (a : At c ρ G v d) (e : lsV μ d = some ds) : ∃ p vs, v = .ref p ∧ H p = some (.lst vs) ∧ AtAll c ρ G vs ds := by
  cases d with
  | d x =>
    cases a with
    | d a =>
      cases x with
      | lst xs => cases e; exact at_lst R.gh a
      | _ => cases e
  | ob n =>
    simp only [lsV] at e
    split at e
    · rename_i hm
      cases e
      obtain ⟨p, rfl, hn, g, vs, h1, h2⟩ := R.at_ob a hm
      exact ⟨p, vs, rfl, h1, h2⟩
    · rename_i hm
      cases e
      obtain ⟨p, rfl, hn, g, h1⟩ := R.at_ob a hm
      exact at_lst R.gh h1
    · cases e
  | tp xs => cases e
theorem tpV_ok {v : V} {d : Dv} {ds : List Dv} (gh : Same G H) (a : At c ρ G v d) (e : tpV d = some ds) : ∃ p vs, v = .ref p ∧ SqT c.K H p vs ∧ AtAll c ρ G vs ds := by
  cases d with
  | d x =>
    cases a with
    | d a =>
      cases x with
      | tup xs =>
        cases e
        cases a with
        | tup h t => exact ⟨_, _, rfl, Same.tup gh h, t.up⟩
      | _ => cases e
  | tp xs =>
    cases e
    cases a with
    | tp h t => exact ⟨_, _, rfl, Same.tup gh h, t⟩
  | ob n => cases e
theorem sqV_or {d : Dv} {ds : List Dv} (e : sqV μ d = some ds) : lsV μ d = some ds ∨ tpV d = some ds := by
  cases d with
  | d x =>
    cases x with
    | lst xs => exact .inl e
    | tup xs => exact .inr e
    | _ => cases e
  | tp xs => exact .inr e
  | ob n => exact .inl e
theorem sqV_ok (R : Rel c ρ G H μ) {v : V} {d : Dv} {ds : List Dv} (a : At c ρ G v d) (e : sqV μ d = some ds) : ∃ p vs, v = .ref p ∧ (H p = some (.lst vs) ∨ SqT c.K H p vs) ∧ AtAll c ρ G vs ds := by
  rcases sqV_or e with e | e
  · obtain ⟨p, vs, h1, h2, h3⟩ := lsV_ok R a e
    exact ⟨p, vs, h1, .inl h2, h3⟩
  · obtain ⟨p, vs, h1, h2, h3⟩ := tpV_ok R.gh a e
    exact ⟨p, vs, h1, .inr h2, h3⟩
theorem eD_fst {κ : Type} (l : List (κ × Da)) : (l.map eD).map (·.1) = l.map (·.1) := by
  rw [List.map_map]; rfl
theorem eD_snd {κ : Type} (l : List (κ × Da)) : (l.map eD).map (·.2) = (l.map (·.2)).map Dv.d := by
  rw [List.map_map, List.map_map]; rfl
theorem dcV_ok (R : Rel c ρ G H μ) {v : V} {d : Dv} {kds : List (Key × Dv)} (a : At c ρ G v d) (e : dcV μ d = some kds) : ∃ p, ∃ kvs : List (Key × V), v = .ref p ∧ H p = some (.dK kvs) ∧ kvs.map (·.1) = kds.map (·.1) ∧ AtAll c ρ G (kvs.map (·.2)) (kds.map (·.2)) := by
  have dat : ∀ {v : V} {xs : List (Key × Da)}, AtD c G v (.dct xs) → ∃ p, ∃ kvs : List (Key × V), v = .ref p ∧ H p = some (.dK kvs) ∧ kvs.map (·.1) = (xs.map eD).map (·.1) ∧ AtAll c ρ G (kvs.map (·.2)) ((xs.map eD).map (·.2)) := by
    intro v xs a
    cases a with
    | dct h k t => exact ⟨_, _, rfl, R.gh _ _ h, by rw [eD_fst]; exact k, by rw [eD_snd]; exact t.up⟩
  cases d with
  | d x =>
    cases a with
    | d a =>
      cases x with
      | dct xs => cases e; exact dat a
      | _ => cases e
  | ob n =>
    simp only [dcV] at e
    split at e
    · rename_i hm
      cases e
      obtain ⟨p, rfl, hn, g, vs, h1, h2, h3⟩ := R.at_ob a hm
      exact ⟨p, vs, rfl, h1, h2, h3⟩
    · rename_i hm
      cases e
      obtain ⟨p, rfl, hn, g, h1⟩ := R.at_ob a hm
      exact dat h1
    · cases e
  | tp xs => cases e
theorem isV_ok (R : Rel c ρ G H μ) {v : V} {d : Dv} {C : Addr} {fds : List (Str × Dv)} (a : At c ρ G v d) (e : isV μ d = some (C, fds)) : ∃ p dx fvs, v = .ref p ∧ H p = some (.ins C dx fvs) ∧ fvs.map (·.1) = fds.map (·.1) ∧ AtAll c ρ G (fvs.map (·.2)) (fds.map (·.2)) := by
  have dat : ∀ {v : V} {C : Addr} {xs : List (Str × Da)}, AtD c G v (.ins C xs) → ∃ p dx fvs, v = .ref p ∧ H p = some (.ins C dx fvs) ∧ fvs.map (·.1) = (xs.map eD).map (·.1) ∧ AtAll c ρ G (fvs.map (·.2)) ((xs.map eD).map (·.2)) := by
    intro v C xs a
    cases a with
    | ins h k t => exact ⟨_, _, _, rfl, R.gh _ _ h, by rw [eD_fst]; exact k, by rw [eD_snd]; exact t.up⟩
  cases d with
  | d x =>
    cases a with
    | d a =>
      cases x with
      | ins C' xs => cases e; exact dat a
      | _ => cases e
  | ob n =>
    simp only [isV] at e
    split at e
    · rename_i hm
      cases e
      obtain ⟨p, rfl, hn, g, dx, vs, h1, h2, h3⟩ := R.at_ob a hm
      exact ⟨p, dx, vs, rfl, h1, h2, h3⟩
    · rename_i hm
      cases e
      obtain ⟨p, rfl, hn, g, h1⟩ := R.at_ob a hm
      exact dat h1
    · cases e
  | tp xs => cases e
/-! entries -/
theorem ents_get {κ : Type} [BEq κ] [LawfulBEq κ] {f : κ} : ∀ {fvs : List (κ × V)} {fds : List (κ × Dv)} {d : Dv}, fvs.map (·.1) = fds.map (·.1) → AtAll c ρ G (fvs.map (·.2)) (fds.map (·.2)) → fds.lookup f = some d → ∃ v, fvs.lookup f = some v ∧ At c ρ G v d
  | [], [], _, _, _, e => by cases e
  | [], _ :: _, _, hk, _, _ => by cases hk
  | _ :: _, [], _, hk, _, _ => by cases hk
  | (k, v) :: r, (k', d') :: r', d, hk, ha, e => by
    simp only [List.map_cons, List.cons.injEq] at hk
    obtain ⟨rfl, hk⟩ := hk
    cases ha with
    | cons h1 h2 =>
      simp only [List.lookup_cons] at e ⊢
      split at e
      · rename_i hb
        cases e
        exact ⟨v, by simp_all, h1⟩
      · rename_i hb
        obtain ⟨w, h3, h4⟩ := ents_get hk h2 e
        exact ⟨w, by simp_all, h4⟩
/-! ### subscripts -/
theorem AtAll.atI {vs : List V} {ds : List Dv} {i : Int} {d : Dv} (h : AtAll c ρ G vs ds) (e : L2.atI ds i = some d) : ∃ v, L2.atI vs i = some v ∧ At c ρ G v d := by
  unfold L2.atI at e ⊢
  rw [h.length]
  cases q : ixN ds.length i with
  | none => rw [q] at e; cases e
  | some j =>
    rw [q] at e
    exact h.getD e
def okS : Dv → Prop
  | .d (.str s) => s.length ≤ sizeLine
  | _ => True
def ixD (μ : MS) (d : Dv) : Dv → Option Dv
  | .d (.int i) => match d with
    | .d (.str z) => (atI z.cps.toList i).map fun k => .d (.str ⟨#[k]⟩)
    | d => (sqV μ d).bind fun ds => atI ds i
  | _ => none
def oIx : O2 := fun d i μ Q => okS d ∧ ∃ x, ixD μ d i = some x ∧ Q x μ
theorem so_ix : SO c (rIx c.K) oIx := by
  refine ⟨?_⟩
  rintro ρ G H μ x y d1 d2 Q Q' R a1 a2 q ⟨hs, z, e, h⟩
  have other : ∀ {i : Int} {ds}, At c ρ G y (.d (.int i)) → sqV μ d1 = some ds → L2.atI ds i = some z → rIx c.K x y H Q := by
    intro i ds a2 e1 e2
    obtain rfl := at_int a2
    obtain ⟨p, vs, rfl, h1, h2⟩ := sqV_ok R a1 e1
    obtain ⟨v, h3, h4⟩ := h2.atI e2
    rcases h1 with h1 | h1
    · exact .inl ⟨p, vs, i, v, rfl, rfl, SqL.of h1, h3, q.here R h4 h⟩
    · exact .inr (.inl ⟨p, vs, i, v, rfl, rfl, h1, h3, q.here R h4 h⟩)
  cases d2 with
  | d x2 =>
    cases x2 with
    | int i =>
      cases d1 with
      | d x1 =>
        cases x1 with
        | str s =>
          simp only [ixD] at e
          obtain rfl := at_int a2
          obtain rfl := at_str a1
          cases q2 : L2.atI s.cps.toList i with
          | none => rw [q2] at e; cases e
          | some k =>
            rw [q2] at e
            cases e
            exact .inr (.inr ⟨s, i, k, rfl, rfl, hs, q2, q.here R (.d (.str _)) h⟩)
        | lst xs => exact other a2 rfl e
        | tup xs => exact other a2 rfl e
        | _ => cases e
      | tp xs => exact other a2 rfl e
      | ob n =>
        simp only [ixD] at e
        cases q2 : sqV μ (.ob n) with
        | none => rw [q2] at e; cases e
        | some ds => rw [q2] at e; exact other a2 q2 e
    | _ => cases e
  | _ => cases e
/-! slices -/
abbrev OS := XS → Env' → MS → (Option Int → MS → Prop) → Prop
structure SOp (c : Cn) (E : XK) (te : TO) (me : OS)  : Prop where
  run : ∀ {ρ : List Addr} {G H : Hp} {σ : St} {α : Env'} {μ : MS} {Q : Option Int → Hp → Prop} {E' : XS} {Q' : Option Int → MS → Prop}, Rel c ρ G H μ → EnvOk c ρ G σ α → PX c ρ G H E E' → (∀ d μ', Q' d μ' → ∀ ρ' G' H', Stp c.st ρ G H ρ' G' H' → Rel c ρ' G' H' μ' → Q d H') → me E' α μ Q' → te σ H Q
instance (c : Cn) (E : XK) (te : TO) (me : OS)  : CoeFun (SOp c E te me) fun _ => ∀ {ρ : List Addr} {G H : Hp} {σ : St} {α : Env'} {μ : MS} {Q : Option Int → Hp → Prop} {E' : XS} {Q' : Option Int → MS → Prop}, Rel c ρ G H μ → EnvOk c ρ G σ α → PX c ρ G H E E' → (∀ d μ', Q' d μ' → ∀ ρ' G' H', Stp c.st ρ G H ρ' G' H' → Rel c ρ' G' H' μ' → Q d H') → me E' α μ Q' → te σ H Q := ⟨fun h => h.run⟩
abbrev O3 := Dv → Option Int → Option Int → MS → DK → Prop
structure SSl (c : Cn) (r : V → Option Int → Option Int → Hp → VK → Prop) (o : O3)  : Prop where
  run : ∀ {ρ : List Addr} {G H : Hp} {μ : MS} {x : V} {d : Dv} {lo hi : Option Int} {Q : VK} {Q' : DK}, Rel c ρ G H μ → At c ρ G x d → PQ c ρ G H Q Q' → o d lo hi μ Q' → r x lo hi H Q
instance (c : Cn) (r : V → Option Int → Option Int → Hp → VK → Prop) (o : O3)  : CoeFun (SSl c r o) fun _ => ∀ {ρ : List Addr} {G H : Hp} {μ : MS} {x : V} {d : Dv} {lo hi : Option Int} {Q : VK} {Q' : DK}, Rel c ρ G H μ → At c ρ G x d → PQ c ρ G H Q Q' → o d lo hi μ Q' → r x lo hi H Q := ⟨fun h => h.run⟩
/-! ### + and * of lists and tuples -/
def oCat : O2 := fun d1 d2 μ Q => ∃ xs ys, lsV μ d1 = some xs ∧ lsV μ d2 = some ys ∧ xs.length + ys.length ≤ sizeLine ∧ Q (.ob μ.length) (μ ++ [.lst (xs ++ ys)])
theorem so_cat : SO c rCat oCat := by
  refine ⟨?_⟩
  rintro ρ G H μ x y d1 d2 Q Q' R a1 a2 q ⟨xs, ys, e1, e2, hl, h⟩
  obtain ⟨p1, vs1, rfl, h1, t1⟩ := lsV_ok R a1 e1
  obtain ⟨p2, vs2, rfl, h2, t2⟩ := lsV_ok R a2 e2
  exact ⟨p1, p2, vs1, vs2, rfl, rfl, h1, h2, by rw [t1.length, t2.length]; exact hl, fun l hl => newLst R q (t1.append t2) h hl⟩
def oMulS : O2 := fun d1 d2 μ Q => ∃ s k, d1 = .d (.str s) ∧ d2 = .d (.int k) ∧ (k = 0 ∨ k = 1) ∧ Q (.d (.str (if k = 1 then s else Str.empty))) μ
theorem so_mulS : SO c rMulS oMulS := by
  refine ⟨?_⟩
  rintro ρ G H μ x y d1 d2 Q Q' R a1 a2 q ⟨s, k, rfl, rfl, hk, h⟩
  obtain rfl := at_str a1
  obtain rfl := at_int a2
  exact ⟨s, k, rfl, rfl, hk, q.here R (.d (.str _)) h⟩
/-! ### in -/
def pVs : List Dv → Option (List V)
  | [] => some []
  | d :: r => match pV d with
    | some v => (pVs r).map (v :: ·)
    | none => none
theorem pV_flat {d : Dv} {v : V} (h : pV d = some v) : flatV v = true := by
  cases d with
  | d x => cases x <;> first | (cases h; rfl) | cases h
  | _ => cases h
theorem pVs_ok : ∀ {ws : List V} {ds : List Dv} {vs : List V}, AtAll c ρ G ws ds → pVs ds = some vs → ws = vs ∧ vs.all flatV = true
  | _, _, _, .nil, e => by cases e; exact ⟨rfl, rfl⟩
  | _, _, _, .cons (d := d) (ds := ds) h t, e => by
    simp only [pVs] at e
    cases q : pV d with
    | none => rw [q] at e; cases e
    | some v =>
      rw [q] at e
      cases q2 : pVs ds with
      | none => rw [q2] at e; cases e
      | some r =>
        rw [q2] at e
        cases e
        obtain ⟨h1, h2⟩ := pVs_ok t q2
        obtain rfl := h.plain q
        refine ⟨by rw [h1], ?_⟩
        rw [List.all_cons, h2, Bool.and_true]
        exact pV_flat q
def oIn (neg : Bool) : O2 := fun d1 d2 μ Q => ∃ x ds vs, pV d1 = some x ∧ sqV μ d2 = some ds ∧ pVs ds = some vs ∧ Q (.d (.bl (if neg = true then !inV x vs else inV x vs))) μ
theorem so_in {neg : Bool} : SO c (rIn c.K neg) (oIn neg) := by
  refine ⟨?_⟩
  rintro ρ G H μ x y d1 d2 Q Q' R a1 a2 q ⟨x', ds, vs, e1, e2, e3, h⟩
  obtain ⟨p, ws, rfl, h1, t⟩ := sqV_ok R a2 e2
  obtain ⟨rfl, hf⟩ := pVs_ok t e3
  obtain rfl := a1.plain e1
  refine ⟨p, ws, rfl, ?_, pV_flat e1, hf, ?_⟩
  · rcases h1 with h1 | h1
    · exact .inl (SqL.of h1)
    · exact .inr h1
  · have := q.here R (.d (.bl _)) h
    cases neg <;> exact this
end
/-! ### == at any depth -/
mutual
def pyD : Da → Option PyData
  | .non => some .none
  | .bl b => some (.bool b)
  | .int i => some (.int i)
  | .str s => some (.str s)
  | .lst xs => (pyDs xs).map .list
  | .tup xs => (pyDs xs).map .tuple
  | _ => none
def pyDs : List Da → Option (List PyData)
  | [] => some []
  | x :: r => match pyD x, pyDs r with
    | some p, some ps => some (p :: ps)
    | _, _ => none
end
mutual
inductive PyAt (μ : MS) : Dv → PyData → Prop
  | d {x : Da} {p : PyData} : pyD x = some p → PyAt μ (.d x) p
  | lst {d : Dv} {ds : List Dv} {ps : List PyData} : lsV μ d = some ds → PyAll μ ds ps → PyAt μ d (.list ps)
  | tup {d : Dv} {ds : List Dv} {ps : List PyData} : tpV d = some ds → PyAll μ ds ps → PyAt μ d (.tuple ps)
inductive PyAll (μ : MS) : List Dv → List PyData → Prop
  | nil : PyAll μ [] []
  | cons {d : Dv} {ds : List Dv} {p : PyData} {ps : List PyData} : PyAt μ d p → PyAll μ ds ps → PyAll μ (d :: ds) (p :: ps)
end
section
variable {c : Cn} {E : XK} {ρ : List Addr} {G H : Hp} {μ : MS}
mutual
theorem pyD_dp (gh : Same G H) : ∀ {d : Da} {p : PyData} {v : V}, pyD d = some p → AtD c G v d → Dp c.K H v p
  | .non, _, _, e, a => by cases e; cases a; exact .non
  | .bl b, _, _, e, a => by cases e; cases a; exact .bl b
  | .int b, _, _, e, a => by cases e; cases a; exact .int b
  | .str b, _, _, e, a => by cases e; cases a; exact .str b
  | .lst xs, _, _, e, a => by
    simp only [pyD] at e
    cases q : pyDs xs with
    | none => rw [q] at e; cases e
    | some ps =>
      rw [q] at e
      cases e
      cases a with
      | lst h t => exact .lst (SqL.of (gh _ _ h)) (pyDs_dp gh q t)
  | .tup xs, _, _, e, a => by
    simp only [pyD] at e
    cases q : pyDs xs with
    | none => rw [q] at e; cases e
    | some ps =>
      rw [q] at e
      cases e
      cases a with
      | tup h t => exact .tup (Same.tup gh h) (pyDs_dp gh q t)
  | .dct _, _, _, e, _ => by cases e
  | .ins _ _, _, _, e, _ => by cases e
  | .cls _, _, _, e, _ => by cases e
  | .ty _, _, _, e, _ => by cases e
  | .st, _, _, e, _ => by cases e
theorem pyDs_dp (gh : Same G H) : ∀ {ds : List Da} {ps : List PyData} {vs : List V}, pyDs ds = some ps → AtDs c G vs ds → DpAll c.K H vs ps
  | [], _, _, e, a => by cases e; cases a; exact .nil
  | x :: r, _, _, e, a => by
    simp only [pyDs] at e
    cases q1 : pyD x with
    | none => rw [q1] at e; cases e
    | some p =>
      cases q2 : pyDs r with
      | none => rw [q1, q2] at e; cases e
      | some ps =>
        rw [q1, q2] at e
        cases e
        cases a with
        | cons h1 h2 => exact .cons (pyD_dp gh q1 h1) (pyDs_dp gh q2 h2)
end
mutual
theorem PyAt.dp (R : Rel c ρ G H μ) : ∀ {d : Dv} {p : PyData} {v : V}, PyAt μ d p → At c ρ G v d → Dp c.K H v p
  | _, _, _, .d e, a => by
    cases a with
    | d a => exact pyD_dp R.gh e a
  | _, _, _, .lst e t, a => by
    obtain ⟨q, vs, rfl, h1, h2⟩ := lsV_ok R a e
    exact .lst (SqL.of h1) (PyAll.dp R t h2)
  | _, _, _, .tup e t, a => by
    obtain ⟨q, vs, rfl, h1, h2⟩ := tpV_ok R.gh a e
    exact .tup h1 (PyAll.dp R t h2)
theorem PyAll.dp (R : Rel c ρ G H μ) : ∀ {ds : List Dv} {ps : List PyData} {vs : List V}, PyAll μ ds ps → AtAll c ρ G vs ds → DpAll c.K H vs ps
  | _, _, _, .nil, a => by cases a; exact .nil
  | _, _, _, .cons h t, a => by
    cases a with
    | cons h1 h2 => exact .cons (PyAt.dp R h h1) (PyAll.dp R t h2)
end
def oEqD (neg : Bool) : O2 := fun d1 d2 μ Q => ∃ p1 p2, PyAt μ d1 p1 ∧ PyAt μ d2 p2 ∧ SeqAt.shaped p1 = true ∧ SeqAt.shaped p2 = true ∧ Q (.d (.bl (if neg = true then !PyData.eqv p1 p2 else PyData.eqv p1 p2))) μ
theorem so_eqD : SO c (rEqD c.K) (oEqD false) := by
  refine ⟨?_⟩
  rintro ρ G H μ x y d1 d2 Q Q' R a1 a2 q ⟨p1, p2, h1, h2, s1, s2, h⟩
  exact ⟨p1, p2, h1.dp R a1, h2.dp R a2, s1, s2, q.here R (.d (.bl _)) h⟩
theorem so_neD : SO c (rNeD c.K) (oEqD true) := by
  refine ⟨?_⟩
  rintro ρ G H μ x y d1 d2 Q Q' R a1 a2 q ⟨p1, p2, h1, h2, s1, s2, h⟩
  exact ⟨p1, p2, h1.dp R a1, h2.dp R a2, s1, s2, q.here R (.d (.bl _)) h⟩
/-! ### builtins by values -/
abbrev OB := List Dv → MS → DK → Prop
structure SB (c : Cn) (r : List V → Hp → VK → Prop) (o : OB)  : Prop where
  run : ∀ {ρ : List Addr} {G H : Hp} {μ : MS} {vs : List V} {ds : List Dv} {Q : VK} {Q' : DK}, Rel c ρ G H μ → AtAll c ρ G vs ds → PQ c ρ G H Q Q' → o ds μ Q' → r vs H Q
instance (c : Cn) (r : List V → Hp → VK → Prop) (o : OB)  : CoeFun (SB c r o) fun _ => ∀ {ρ : List Addr} {G H : Hp} {μ : MS} {vs : List V} {ds : List Dv} {Q : VK} {Q' : DK}, Rel c ρ G H μ → AtAll c ρ G vs ds → PQ c ρ G H Q Q' → o ds μ Q' → r vs H Q := ⟨fun h => h.run⟩
def mCB (o : OB) (r : AS) : ES := fun E α μ Q => r E α μ fun ds μ1 => o ds μ1 Q
theorem se_cb {r : List V → Hp → VK → Prop} {o : OB} {ta : TA} {a : AS} (so : SB c r o) (ha : SA c E ta a) : SE c E (tCB r ta) (mCB o a) := by
  refine ⟨?_⟩
  intro ρ G H σ α μ Q E' Q' R e px q h
  refine ha R e px ?_ h
  intro ds μ1 h1 vs ρ1 G1 H1 s1 R1 a1
  exact so R1 a1 (q.step s1) h1
def lenD (μ : MS) (d : Dv) : Option Nat := match d with
  | .d (.str s) => some s.length
  | d => match sqV μ d with
    | some ds => some ds.length
    | none => (dcV μ d).map List.length
def oLen : OB := fun ds μ Q => ∃ d, ds = [d] ∧ okS d ∧ ∃ n : Nat, lenD μ d = some n ∧ Q (.d (.int n)) μ
theorem AtAll.sole {vs : List V} {d : Dv} (a : AtAll c ρ G vs [d]) : ∃ v, vs = [v] ∧ At c ρ G v d := by
  cases a with
  | cons h1 h =>
    cases h
    exact ⟨_, rfl, h1⟩
theorem AtAll.two {vs : List V} {d k : Dv} (a : AtAll c ρ G vs [d, k]) : ∃ v w, vs = [v, w] ∧ At c ρ G v d ∧ At c ρ G w k := by
  cases a with
  | cons h1 h =>
    obtain ⟨w, rfl, h2⟩ := h.sole
    exact ⟨_, _, rfl, h1, h2⟩
abbrev rLenAny (K : PySem.W.Frag) : List V → Hp → VK → Prop := fun xs H Q => (∃ x n, xs = [x] ∧ LenV K x H n ∧ Q (.int n) H) ∨ (∃ a kvs, xs = [V.ref a] ∧ H a = some (.dK kvs) ∧ Q (.int kvs.length) H)
theorem so_len : SB c (rLenAny c.K) oLen := by
  refine ⟨?_⟩
  rintro ρ G H μ vs ds Q Q' R a q ⟨d, rfl, hs, n, e, h⟩
  obtain ⟨v, rfl, b0⟩ := a.sole
  clear a
  have a := b0
  have gen : (match sqV μ d with | some ds => some ds.length | none => (dcV μ d).map List.length) = some n → rLenAny c.K [v] H Q := by
    intro e
    cases q1 : sqV μ d with
    | some xs =>
      rw [q1] at e
      cases e
      obtain ⟨p, vs, rfl, h1, t⟩ := sqV_ok R a q1
      refine .inl ⟨_, xs.length, rfl, ?_, q.here R (.d (.int _)) h⟩
      rcases h1 with h1 | h1
      · exact .inl ⟨vs, SqL.of h1, by rw [t.length]⟩
      · exact .inr ⟨vs, h1, by rw [t.length]⟩
    | none =>
      rw [q1] at e
      cases q2 : dcV μ d with
      | none => rw [q2] at e; cases e
      | some xs =>
        rw [q2] at e
        cases e
        obtain ⟨p, kvs, rfl, h1, hk, t⟩ := dcV_ok R a q2
        refine .inr ⟨p, kvs, rfl, h1, ?_⟩
        have e3 : kvs.length = xs.length := by have := congrArg List.length hk; simpa using this
        rw [e3]
        exact q.here R (.d (.int _)) h
  cases d with
  | d x =>
    cases x with
    | str s =>
      cases e
      obtain rfl := at_str a
      exact .inl ⟨_, _, rfl, ⟨hs, rfl⟩, q.here R (.d (.int _)) h⟩
    | _ => exact gen e
  | _ => exact gen e
def bls : List Dv → Option (List Bool)
  | [] => some []
  | .d (.bl b) :: r => (bls r).map (b :: ·)
  | _ => none
theorem bls_map : ∀ bs : List Bool, bls (bs.map fun b => .d (.bl b)) = some bs
  | [] => rfl
  | b :: r => by simp [bls, bls_map r]
theorem bls_eq : ∀ {ds : List Dv} {bs : List Bool}, bls ds = some bs → ds = bs.map fun b => .d (.bl b)
  | [], _, e => by cases e; rfl
  | d :: ds, bs, e => by
    unfold bls at e
    split at e
    · rename_i h; cases h
    · rename_i b r h
      cases h
      cases q : bls ds with
      | none => rw [q] at e; cases e
      | some r =>
        rw [q] at e
        cases e
        rw [bls_eq q]; rfl
    · cases e
theorem bls_at : ∀ {vs : List V} {bs : List Bool}, AtAll c ρ G vs (bs.map fun b => .d (.bl b)) → vs = bs.map V.bl
  | vs, [], h => by
    cases vs with
    | nil => rfl
    | cons _ _ => cases h
  | vs, b :: bs, h => by
    cases vs with
    | nil => cases h
    | cons v vs =>
      rw [List.map_cons] at h
      cases h with
      | cons h1 h2 =>
        obtain rfl := at_bl h1
        rw [bls_at h2]; rfl
def oAll : OB := fun ds μ Q => ∃ d xs bs, ds = [d] ∧ lsV μ d = some xs ∧ bls xs = some bs ∧ Q (.d (.bl (bs.all id))) μ
theorem so_all : SB c (rAll c.K) oAll := by
  refine ⟨?_⟩
  rintro ρ G H μ vs ds Q Q' R a q ⟨d, xs, bs, rfl, e, e2, h⟩
  obtain ⟨v, rfl, b0⟩ := a.sole
  clear a
  have a := b0
  obtain ⟨p, vs, rfl, h1, t⟩ := lsV_ok R a e
  rw [bls_eq e2] at t
  have := bls_at t
  subst this
  exact ⟨p, bs, rfl, SqL.of h1, q.here R (.d (.bl _)) h⟩
/-! isinstance -/
/-- what isinstance asks of an own class -/
structure OwnI (K : PySem.W.Frag) (C : Addr) : Prop where
  cl : Cls K C
  ha : PySem.W.findIn K (.ref C) "__class__" = some (some (.builtin "object.__class__"))
  hn : PySem.W.specialIn K (.builtin "object.__class__") "__get__" = some (some (.builtin "getset_descriptor.__get__"))
  htk : PySem.W.takesIn K (.builtin "object.__class__") = some true
  hm : PySem.W.mroIn K C (.type "object") = some true
inductive TyD (K : PySem.W.Frag) (μ : MS) : Dv → Value → Prop
  | non : TyD K μ (.d .non) (.type "NoneType")
  | bl (b : Bool) : TyD K μ (.d (.bl b)) (.type "bool")
  | int (i : Int) : TyD K μ (.d (.int i)) (.type "int")
  | str (i : Str) : TyD K μ (.d (.str i)) (.type "str")
  | tup {d : Dv} {xs : List Dv} : tpV d = some xs → TyD K μ d (.type "tuple")
  | lst {d : Dv} {xs : List Dv} : lsV μ d = some xs → TyD K μ d (.type "list")
  | dct {d : Dv} {xs : List (Key × Dv)} : dcV μ d = some xs → TyD K μ d (.type "dict")
  | ins {d : Dv} {C : Addr} {fs : List (Str × Dv)} : isV μ d = some (C, fs) → OwnI K C → TyD K μ d (.ref C)
theorem TyD.ok (R : Rel c ρ G H μ) {v : V} {d : Dv} {t : Value} (a : At c ρ G v d) (h : TyD c.K μ d t) : TyX c.K H v t := by
  cases h with
  | non => obtain rfl := at_non a; exact .base .non
  | bl b => obtain rfl := at_bl a; exact .base (.bl b)
  | int b => obtain rfl := at_int a; exact .base (.int b)
  | str b => obtain rfl := at_str a; exact .base (.str b)
  | tup e =>
    obtain ⟨p, vs, rfl, h1, t⟩ := tpV_ok R.gh a e
    rcases h1 with (h1 | ⟨o, h1⟩) | ⟨o, its, n, h1, h2, _⟩
    · exact .base (.tup h1)
    · exact .fTuple h1
    · exact .kTuple h1 h2
  | lst e =>
    obtain ⟨p, vs, rfl, h1, t⟩ := lsV_ok R a e
    exact .base (.lst h1)
  | dct e =>
    obtain ⟨p, vs, rfl, h1, t⟩ := dcV_ok R a e
    exact .base (.dK h1)
  | ins e o =>
    obtain ⟨p, dx, vs, rfl, h1, t⟩ := isV_ok R a e
    exact .base (.ins h1 o.cl o.ha o.hn o.htk o.hm)
def clV : Dv → Option Value
  | .d (.ty n) => some (.type n)
  | .d (.cls a) => some (.ref a)
  | _ => none
theorem clV_ok {v : V} {d : Dv} {u : Value} (a : At c ρ G v d) (h : clV d = some u) : ClsV v u := by
  cases d with
  | d x =>
    cases a with
    | d a =>
      cases x with
      | ty n => cases h; cases a; exact .ty n
      | cls n => cases h; cases a; exact .own n
      | _ => cases h
  | _ => cases h
def oIsi (K : PySem.W.Frag) : OB := fun ds μ Q => ∃ d k, ds = [d, k] ∧ ∃ t u b, TyD K μ d t ∧ clV k = some u ∧ PySem.W.kitOne K t u = some b ∧ Q (.d (.bl b)) μ
theorem so_isi : SB c (rIsi c.K) (oIsi c.K) := by
  refine ⟨?_⟩
  rintro ρ G H μ vs ds Q Q' R a q ⟨d, k, rfl, t, u, b, h1, h2, h3, h⟩
  obtain ⟨v, w, rfl, a, a2⟩ := a.two
  exact ⟨_, _, t, u, b, rfl, clV_ok a2 h2, h1.ok R a, h3, q.here R (.d (.bl _)) h⟩
def clVs : List Dv → Option (List Value)
  | [] => some []
  | d :: r => match clV d with
    | some v => (clVs r).map (v :: ·)
    | none => none
theorem clVs_ok : ∀ {ws : List V} {ds : List Dv} {vs : List Value}, AtAll c ρ G ws ds → clVs ds = some vs → Paired ClsV ws vs
  | _, _, _, .nil, e => by cases e; exact .nil
  | _, _, _, .cons (d := d) (ds := ds) h t, e => by
    simp only [clVs] at e
    cases q : clV d with
    | none => rw [q] at e; cases e
    | some v =>
      rw [q] at e
      cases q2 : clVs ds with
      | none => rw [q2] at e; cases e
      | some r =>
        rw [q2] at e
        cases e
        exact .cons (clV_ok h q) (clVs_ok t q2)
/-- isinstance(x, (c1, c2)): the tuple is laid and forgotten -/
def mIsT (K : PySem.W.Frag) (a : ES) (ks : AS) : ES := fun E α μ Q => a E α μ fun d μ1 => ks E α μ1 fun cs μ2 => ∃ t us b, TyD K μ2 d t ∧ clVs cs = some us ∧ PySem.W.kitAny K t us = some b ∧ cs.length ≤ sizeLine ∧ Q (.d (.bl b)) μ2
theorem se_isT {ta : TE} {a : ES} {tk : TA} {ks : AS} (ha : SE c E ta a) (hk : SA c E tk ks) : SE c E (tCB (rIsiT c.K) (tCons ta (tCons (tTup tk) tNil))) (mIsT c.K a ks) := by
  refine ⟨?_⟩
  intro ρ G H σ α μ Q E' Q' R e px q h
  refine ha R e px ?_ h
  intro d μ1 h1 x ρ1 G1 H1 s1 R1 a1
  refine hk R1 (s1.env e) (px.step s1) ?_ h1
  rintro cs μ2 ⟨t, us, b, h2, h3, h4, hl, h5⟩ ws ρ2 G2 H2 s2 R2 a2
  refine ⟨by rw [a2.length]; exact hl, fun p hp => ?_⟩
  obtain ⟨R3, s3⟩ := R2.newF (u := .tup ws) hp
  exact ⟨x, p, ws, t, us, b, rfl, upd_same, clVs_ok a2 h3, h2.ok R3 (s3.at_ (s2.at_ a1)), h4, (q.step ((s1.trans s2).trans s3)).here R3 (.d (.bl _)) h5⟩
end
end Mz
end
section
set_option Elab.async false
set_option linter.all false
set_option maxRecDepth 100000
set_option maxHeartbeats 4000000
namespace Mz
open PySem L2
section
variable {c : Cn} {E : XK} {ρ : List Addr} {G H : Hp} {μ : MS}
/-! ### methods of lists -/
abbrev OM := Dv → List Dv → MS → DK → Prop
structure SM (c : Cn) (r : V → List V → Hp → VK → Prop) (o : OM)  : Prop where
  run : ∀ {ρ : List Addr} {G H : Hp} {μ : MS} {x : V} {d : Dv} {vs : List V} {ds : List Dv} {Q : VK} {Q' : DK}, Rel c ρ G H μ → At c ρ G x d → AtAll c ρ G vs ds → PQ c ρ G H Q Q' → o d ds μ Q' → r x vs H Q
instance (c : Cn) (r : V → List V → Hp → VK → Prop) (o : OM)  : CoeFun (SM c r o) fun _ => ∀ {ρ : List Addr} {G H : Hp} {μ : MS} {x : V} {d : Dv} {vs : List V} {ds : List Dv} {Q : VK} {Q' : DK}, Rel c ρ G H μ → At c ρ G x d → AtAll c ρ G vs ds → PQ c ρ G H Q Q' → o d ds μ Q' → r x vs H Q := ⟨fun h => h.run⟩
def mBM (o : OM) (a : ES) (r : AS) : ES := fun E α μ Q => a E α μ fun d μ1 => (lsV μ1 d).isSome = true ∧ r E α μ1 fun ds μ2 => o d ds μ2 Q
theorem tyL_ok (R : Rel c ρ G H μ) {v : V} {d : Dv} (a : At c ρ G v d) (e : (lsV μ d).isSome = true) : tyV c.K "list" v H := by
  cases q : lsV μ d with
  | none => rw [q] at e; cases e
  | some ds =>
    obtain ⟨p, vs, rfl, h1, t⟩ := lsV_ok R a q
    exact .inl ⟨rfl, vs, SqL.of h1⟩
theorem se_bm {r : V → List V → Hp → VK → Prop} {o : OM} {ta : TE} {a : ES} {tr : TA} {rr : AS} (so : SM c r o) (ha : SE c E ta a) (hr : SA c E tr rr) : SE c E (tBM c.K "list" r ta tr) (mBM o a rr) := by
  refine ⟨?_⟩
  intro ρ G H σ α μ Q E' Q' R e px q h
  refine ha R e px ?_ h
  rintro d1 μ1 ⟨hs, h1⟩ x ρ1 G1 H1 s1 R1 a1
  refine ⟨tyL_ok R1 a1 hs, ?_⟩
  refine hr R1 (s1.env e) (px.step s1) ?_ h1
  intro ds μ2 h2 vs ρ2 G2 H2 s2 R2 a2
  exact so R2 (s2.at_ a1) a2 (q.step (s1.trans s2)) h2
def oAppend : OM := fun d ds μ Q => ∃ n xs y, d = .ob n ∧ ds = [y] ∧ μ[n]? = some (.lst xs) ∧ xs.length < sizeLine ∧ Q (.d .non) (μ.set n (.lst (xs ++ [y])))
theorem sm_append : SM c rAppend oAppend := by
  refine ⟨?_⟩
  rintro ρ G H μ x d vs ds Q Q' R a1 a2 q ⟨n, xs, y, rfl, rfl, hn, hl, h⟩
  obtain ⟨w, rfl, b0⟩ := a2.sole
  obtain ⟨p, rfl, hp, g, ws, h1, h2⟩ := R.at_ob a1 hn
  obtain ⟨R1, s1⟩ := R.put (u := .lst (ws ++ [w])) (o' := .lst (xs ++ [y])) hp hn (fun _ z => by cases z) ⟨g, _, upd_same, h2.append (.one b0)⟩
  exact ⟨p, ws, w, rfl, rfl, h1, by rw [h2.length]; exact hl, q _ _ h _ _ _ _ s1 R1 (.d .non)⟩
/-! ### methods of texts -/
def strsD (ys : List Str) : List Dv := ys.map fun s => .d (.str s)
/-! ### dicts -/
def keyD : Dv → Option Key
  | .d (.int i) => some (.inl i)
  | .d (.str s) => some (.inr s)
  | _ => none
theorem keyD_ok {v : V} {d : Dv} {k : Key} (a : At c ρ G v d) (e : keyD d = some k) : v = kV k := by
  cases d with
  | d x =>
    cases x with
    | int i => cases e; exact at_int a
    | str i => cases e; exact at_str a
    | _ => cases e
  | _ => cases e
def putD (kvs : List (Key × Dv)) (k : Key) (v : Dv) : List (Key × Dv) :=
  if (kvs.any fun kv => decide (kv.1 = k)) = true then kvs.map (fun kv => if kv.1 = k then (kv.1, v) else kv) else kvs ++ [(k, v)]
theorem any_key {k : Key} : ∀ {kvs : List (Key × V)} {kds : List (Key × Dv)}, kvs.map (·.1) = kds.map (·.1) → (kvs.any fun kv => decide (kv.1 = k)) = kds.any fun kv => decide (kv.1 = k)
  | [], [], _ => rfl
  | [], _ :: _, hk => by cases hk
  | _ :: _, [], hk => by cases hk
  | (k1, v) :: r, (k2, d') :: r', hk => by
    simp only [List.map_cons, List.cons.injEq] at hk
    obtain ⟨rfl, hk⟩ := hk
    simp only [List.any_cons]
    rw [any_key hk]
theorem put_keys {kvs : List (Key × V)} {kds : List (Key × Dv)} {k : Key} {v : V} {d : Dv} (hk : kvs.map (·.1) = kds.map (·.1)) : (putK kvs k v).map (·.1) = (putD kds k d).map (·.1) := by
  unfold putK putD
  rw [any_key hk]
  by_cases h : (kds.any fun kv => decide (kv.1 = k)) = true
  · rw [if_pos h, if_pos h, List.map_map, List.map_map]
    have e1 : ((fun x : Key × V => x.1) ∘ fun kv : Key × V => if kv.1 = k then (kv.1, v) else kv) = fun x => x.1 := by
      funext x; simp only [Function.comp]; split <;> rfl
    have e2 : ((fun x : Key × Dv => x.1) ∘ fun kv : Key × Dv => if kv.1 = k then (kv.1, d) else kv) = fun x => x.1 := by
      funext x; simp only [Function.comp]; split <;> rfl
    rw [e1, e2]; exact hk
  · rw [if_neg h, if_neg h, List.map_append, List.map_append, hk]; rfl
theorem put_vals {k : Key} {v : V} {d : Dv} (hv : At c ρ G v d) {kvs : List (Key × V)} {kds : List (Key × Dv)} (hk : kvs.map (·.1) = kds.map (·.1)) (ha : AtAll c ρ G (kvs.map (·.2)) (kds.map (·.2))) : AtAll c ρ G ((putK kvs k v).map (·.2)) ((putD kds k d).map (·.2)) := by
  have aux : ∀ {kvs : List (Key × V)} {kds : List (Key × Dv)}, kvs.map (·.1) = kds.map (·.1) → AtAll c ρ G (kvs.map (·.2)) (kds.map (·.2)) → AtAll c ρ G ((kvs.map fun kv => if kv.1 = k then (kv.1, v) else kv).map (·.2)) ((kds.map fun kv => if kv.1 = k then (kv.1, d) else kv).map (·.2)) := by
    intro kvs
    induction kvs with
    | nil =>
      intro kds hk ha
      cases kds with
      | nil => exact .nil
      | cons _ _ => cases hk
    | cons p r ih =>
      intro kds hk ha
      cases kds with
      | nil => cases hk
      | cons p' r' =>
        obtain ⟨k1, w⟩ := p
        obtain ⟨k2, d'⟩ := p'
        simp only [List.map_cons, List.cons.injEq] at hk
        obtain ⟨rfl, hk⟩ := hk
        cases ha with
        | cons h1 h2 =>
          have := ih hk h2
          by_cases hh : k1 = k
          · simp only [List.map_cons, if_pos hh]
            exact .cons hv this
          · simp only [List.map_cons, if_neg hh]
            exact .cons h1 this
  unfold putK putD
  rw [any_key hk]
  by_cases h : (kds.any fun kv => decide (kv.1 = k)) = true
  · rw [if_pos h, if_pos h]
    exact aux hk ha
  · rw [if_neg h, if_neg h, List.map_append, List.map_append]
    exact ha.append (.one hv)
end
end Mz
end
section
set_option Elab.async false
set_option linter.all false
set_option maxRecDepth 100000
set_option maxHeartbeats 4000000
namespace Mz
open PySem L2
/-! ### an object of one's own that is not yet told of -/
structure Ow (st : Addr) (ρ : List Addr) (G H : Hp) (D : Addr) (o : HO) : Prop where
  nr : D ∉ ρ
  ns : D ≠ st
  g : G D = none
  h : H D = some o
section
variable {c : Cn} {E : XK} {ρ ρ1 ρ0 : List Addr} {G H G1 H1 G0 H0 : Hp} {μ : MS} {D : Addr} {o o' : HO}
theorem Ow.step (w : Ow c.st ρ G H D o) (s : Stp c.st ρ G H ρ1 G1 H1) : Ow c.st ρ1 G1 H1 D o where
  nr := fun z => by
    rcases s.nw D z with h | h
    · exact w.nr h
    · rw [w.h] at h; cases h
  ns := w.ns
  g := by
    cases q : G1 D with
    | none => rfl
    | some u =>
      rcases s.fr D u q w.g with h | h
      · rw [w.h] at h; cases h
      · exact absurd h w.nr
  h := s.hh D o w.nr w.ns w.h
theorem Ow.new (R : Rel c ρ G H μ) (hD : H D = none) : Ow c.st ρ G (upd H D o) D o := ⟨R.new hD, R.newst hD, R.free hD, upd_same⟩
theorem Rel.owSet (R : Rel c ρ G H μ) (w : Ow c.st ρ G H D o) : Rel c ρ G (upd H D o') μ ∧ Ow c.st ρ G (upd H D o') D o' := by
  have g := (Gr.refl (M := [D]) R.gh).set (o := o') w.g (by rw [w.h]; simp) (.inr (by simp))
  exact ⟨R.keep (Same.refl _) g.gh (fun b u hb e => get_set (fun z => w.nr (by rw [← z]; exact hb)) e) (fun _ _ h => h) (R.so.set w.ns w.g), ⟨w.nr, w.ns, w.g, upd_same⟩⟩
/-- a step that began when D was free -/
theorem Stp.owSet (s : Stp c.st ρ0 G0 H0 ρ G H) (hD : H0 D = none) (w : Ow c.st ρ G H D o) : Stp c.st ρ0 G0 H0 ρ G (upd H D o') where
  pre := s.pre
  gg := s.gg
  hh := fun b u n1 n2 e => get_set (fun z => by rw [z, hD] at e; cases e) (s.hh b u n1 n2 e)
  dm := fun b e => by
    by_cases hb : b = D
    · rw [hb]; exact hD
    · rw [upd_ne hb] at e; exact s.dm b e
  fr := s.fr
  nw := s.nw
theorem Rel.adopt (R : Rel c ρ G H μ) {m : MO} (w : Ow c.st ρ G H D o) (h : ObAt c (ρ ++ [D]) G H D m) : Rel c (ρ ++ [D]) G H (μ ++ [m]) := by
  refine ⟨R.gh, by simp [R.len], ?_, ?_, R.so, ?_⟩
  · exact List.nodup_append.mpr ⟨R.nd, by simp, fun a ha b hb z => w.nr (by
      have : b = D := by simpa using hb
      rw [← this, ← z]; exact ha)⟩
  · intro n a o' h1 h2
    by_cases hl : n < ρ.length
    · rw [List.getElem?_append_left hl] at h1
      rw [List.getElem?_append_left (by rw [← R.len]; exact hl)] at h2
      refine (R.ob n a o' h1 h2).mono (Same.refl _) pre1 ?_ fun w e => e
      cases o' with
      | frz d => exact .inr ⟨d, rfl⟩
      | lst ds => obtain ⟨g, _⟩ := R.ob n a _ h1 h2; exact .inl g
      | dct ds => obtain ⟨g, _⟩ := R.ob n a _ h1 h2; exact .inl g
      | ins C ds => obtain ⟨g, _⟩ := R.ob n a _ h1 h2; exact .inl g
      | lck _ _ ds => obtain ⟨g, _⟩ := R.ob n a _ h1 h2; exact .inl g
      | tb _ _ => obtain ⟨g, _⟩ := R.ob n a _ h1 h2; exact .inl g
      | exc _ _ => obtain ⟨g, _⟩ := R.ob n a _ h1 h2; exact .inl g
    · have hz : n = ρ.length := by
        have := (List.getElem?_eq_some_iff.mp h1).1
        simp at this
        omega
      subst hz
      have e1 : D = a := by simpa using h1
      have e2 : m = o' := by
        rw [R.len] at h2
        simpa using h2
      subst e1
      subst e2
      exact h
  · intro z
    rcases List.mem_append.mp z with z | z
    · exact R.sn z
    · have : c.st = D := by simpa using z
      exact w.ns this.symm
theorem Stp.adopt (s : Stp c.st ρ0 G0 H0 ρ G H) (hD : H0 D = none) : Stp c.st ρ0 G0 H0 (ρ ++ [D]) G H where
  pre := by
    obtain ⟨l, rfl⟩ := s.pre
    exact ⟨l ++ [D], by simp⟩
  gg := s.gg
  hh := s.hh
  dm := s.dm
  fr := s.fr
  nw := fun b h => by
    rcases List.mem_append.mp h with h | h
    · exact s.nw b h
    · have : b = D := by simpa using h
      rw [this]; exact .inr hD
theorem Rel.lastOb (R : Rel c ρ G H μ) : (ρ ++ [D])[μ.length]? = some D := by rw [← R.len]; simp
/-! ### a written dict -/
def mPairs : List (ES × ES) → XS → Env' → MS → (List (Dv × Dv) → MS → Prop) → Prop
  | [], _, _, μ, Q => Q [] μ
  | (k, v) :: r, E, α, μ, Q => k E α μ fun x μ1 => v E α μ1 fun y μ2 => mPairs r E α μ2 fun ps μ3 => Q ((x, y) :: ps) μ3
inductive SPr (c : Cn) (E : XK) : List (TE × TE) → List (ES × ES) → Prop
  | nil : SPr c E [] []
  | cons {tk tv : TE} {k v : ES} {tr : List (TE × TE)} {r : List (ES × ES)} : SE c E tk k → SE c E tv v → SPr c E tr r → SPr c E ((tk, tv) :: tr) ((k, v) :: r)
theorem pairs_ok : ∀ {trs : List (TE × TE)} {ps : List (ES × ES)}, SPr c E trs ps → ∀ {ρ : List Addr} {G H : Hp} {σ : St} {α : Env'} {μ : MS} {Q : List (V × V) → Hp → Prop} {E' : XS} {Q' : List (Dv × Dv) → MS → Prop}, Rel c ρ G H μ → EnvOk c ρ G σ α → PX c ρ G H E E' →
    (∀ ds μ', Q' ds μ' → ∀ vs ρ' G' H', Stp c.st ρ G H ρ' G' H' → Rel c ρ' G' H' μ' → AtAll c ρ' G' (vs.map (·.1)) (ds.map (·.1)) → AtAll c ρ' G' (vs.map (·.2)) (ds.map (·.2)) → Q vs H') → mPairs ps E' α μ Q' → tPairs trs σ H Q
  | _, _, .nil, _, _, _, _, _, _, _, _, _, R, e, px, q, h => q _ _ h [] _ _ _ Stp.refl R .nil .nil
  | _, _, .cons hk hv hr, _, _, _, _, _, _, _, _, _, R, e, px, q, h => by
    refine hk R e px ?_ h
    intro d1 μ1 h1 x ρ1 G1 H1 s1 R1 a1
    refine hv R1 (s1.env e) (px.step s1) ?_ h1
    intro d2 μ2 h2 y ρ2 G2 H2 s2 R2 a2
    have s02 := s1.trans s2
    refine pairs_ok hr R2 (s02.env e) (px.step s02) ?_ h2
    intro ds μ3 h3 vs ρ3 G3 H3 s3 R3 b1 b2
    exact q _ _ h3 _ _ _ _ (s02.trans s3) R3 (.cons ((s2.trans s3).at_ a1) b1) (.cons (s3.at_ a2) b2)
def keysD : List (Dv × Dv) → Option (List (Key × Dv))
  | [] => some []
  | (k, v) :: r => match keyD k, keysD r with
    | some k, some r => some ((k, v) :: r)
    | _, _ => none
def mergeD (kvs more : List (Key × Dv)) : List (Key × Dv) := more.foldl (fun acc kv => putD acc kv.1 kv.2) kvs
theorem keysD_ok : ∀ {vs : List (V × V)} {ds : List (Dv × Dv)} {kds : List (Key × Dv)}, keysD ds = some kds → AtAll c ρ G (vs.map (·.1)) (ds.map (·.1)) → AtAll c ρ G (vs.map (·.2)) (ds.map (·.2)) →
    ∃ kvs : List (Key × V), vs = kvs.map (fun kv => (kV kv.1, kv.2)) ∧ kvs.map (·.1) = kds.map (·.1) ∧ AtAll c ρ G (kvs.map (·.2)) (kds.map (·.2))
  | [], [], _, e, _, _ => by cases e; exact ⟨[], rfl, rfl, .nil⟩
  | [], _ :: _, _, _, h, _ => by cases h
  | _ :: _, [], _, _, h, _ => by cases h
  | (x, y) :: vs, (k, v) :: r, kds, e, h1, h2 => by
    simp only [keysD] at e
    cases q1 : keyD k with
    | none => rw [q1] at e; cases e
    | some k' =>
      cases q2 : keysD r with
      | none => rw [q1, q2] at e; cases e
      | some r' =>
        rw [q1, q2] at e
        cases e
        cases h1 with
        | cons a1 t1 =>
          cases h2 with
          | cons a2 t2 =>
            obtain ⟨kvs, e1, e2, e3⟩ := keysD_ok q2 t1 t2
            have := keyD_ok a1 q1
            refine ⟨(k', y) :: kvs, ?_, ?_, .cons a2 e3⟩
            · rw [e1]; simp only [List.map_cons]; rw [← this]
            · simp only [List.map_cons]; rw [e2]
theorem merge_ok : ∀ {more : List (Key × V)} {mored : List (Key × Dv)} {kvs : List (Key × V)} {kds : List (Key × Dv)}, kvs.map (·.1) = kds.map (·.1) → AtAll c ρ G (kvs.map (·.2)) (kds.map (·.2)) → more.map (·.1) = mored.map (·.1) → AtAll c ρ G (more.map (·.2)) (mored.map (·.2)) →
    (mergeK kvs more).map (·.1) = (mergeD kds mored).map (·.1) ∧ AtAll c ρ G ((mergeK kvs more).map (·.2)) ((mergeD kds mored).map (·.2))
  | [], [], _, _, h1, h2, _, _ => ⟨h1, h2⟩
  | [], _ :: _, _, _, _, _, h, _ => by cases h
  | _ :: _, [], _, _, _, _, h, _ => by cases h
  | (k, v) :: r, (k', d) :: r', kvs, kds, h1, h2, h3, h4 => by
    simp only [List.map_cons, List.cons.injEq] at h3
    obtain ⟨rfl, h3⟩ := h3
    cases h4 with
    | cons a t => exact merge_ok (kvs := putK kvs k v) (kds := putD kds k d) (put_keys h1) (put_vals a h1 h2) h3 t
def mDisp (ps : List (ES × ES)) : ES := fun E α μ Q => mPairs ps E α μ fun ds μ1 => ∃ kds, keysD ds = some kds ∧ kds.length ≤ 15 ∧ Q (.ob μ1.length) (μ1 ++ [.dct (mergeD [] kds)])
theorem se_disp {trs : List (TE × TE)} {ps : List (ES × ES)} (hp : SPr c E trs ps) : SE c E (tDisp trs) (mDisp ps) := by
  refine ⟨?_⟩
  intro ρ G H σ α μ Q E' Q' R e px q h p hpn
  obtain ⟨R0, s0⟩ := R.junk (u := .dK []) hpn
  have w0 : Ow c.st ρ G (upd H p (.dK [])) p (.dK []) := Ow.new R hpn
  refine pairs_ok hp R0 (s0.env e) (px.step s0) ?_ h
  rintro ds μ1 ⟨kds, e1, hl, h1⟩ vs ρ1 G1 H1 s1 R1 b1 b2
  obtain ⟨kvs, e2, e3, e4⟩ := keysD_ok e1 b1 b2
  have w1 := w0.step s1
  obtain ⟨m1, m2⟩ := merge_ok (c := c) (ρ := ρ1) (G := G1) (kvs := []) (kds := []) rfl .nil e3 e4
  obtain ⟨R2, w2⟩ := R1.owSet (o' := .dK (mergeK [] kvs)) w1
  have s2 : Stp c.st ρ G H ρ1 G1 (upd H1 p (.dK (mergeK [] kvs))) := (s0.trans s1).owSet hpn w1
  refine ⟨w1.h, kvs, e2, by have := congrArg List.length e3; simp at this; omega, ?_⟩
  refine q _ _ h1 _ _ _ _ (s2.adopt hpn) (R2.adopt w2 ⟨w2.g, _, w2.h, m1, m2.mono (Same.refl _) pre1⟩) (.ob R2.lastOb)
/-! ### attributes -/
end
/-! ### statements -/
structure En where
  nx : Env' → MS → Prop
  rt : DK
  bk : Env' → MS → Prop := fun _ _ => False
  ct : Env' → MS → Prop := fun _ _ => False
  er : XS := fun _ _ => False
abbrev BS := En → Env' → MS → Prop
def PN (c : Cn) (ρ : List Addr) (G H : Hp) (N : St → Hp → Prop) (N' : Env' → MS → Prop) : Prop := ∀ α' μ', N' α' μ' → ∀ σ' ρ' G' H', Stp c.st ρ G H ρ' G' H' → Rel c ρ' G' H' μ' → EnvOk c ρ' G' σ' α' → N σ' H'
structure PD (c : Cn) (ρ : List Addr) (G H : Hp) (E : XK) (D : Ends) (D' : En) : Prop where
  nx : PN c ρ G H D.nx D'.nx
  rt : PQ c ρ G H D.rt D'.rt
  bk : PN c ρ G H D.bk D'.bk
  ct : PN c ρ G H D.ct D'.ct
  er : PX c ρ G H E D'.er
structure SS (c : Cn) (E : XK) (t : TS) (m : BS)  : Prop where
  run : ∀ {ρ : List Addr} {G H : Hp} {σ : St} {α : Env'} {μ : MS} {D : Ends} {D' : En}, Rel c ρ G H μ → EnvOk c ρ G σ α → PD c ρ G H E D D' → m D' α μ → t D σ H
instance (c : Cn) (E : XK) (t : TS) (m : BS)  : CoeFun (SS c E t m) fun _ => ∀ {ρ : List Addr} {G H : Hp} {σ : St} {α : Env'} {μ : MS} {D : Ends} {D' : En}, Rel c ρ G H μ → EnvOk c ρ G σ α → PD c ρ G H E D D' → m D' α μ → t D σ H := ⟨fun h => h.run⟩
section
variable {c : Cn} {E : XK} {ρ ρ1 : List Addr} {G H G1 H1 : Hp} {μ : MS}
theorem PN.step {N : St → Hp → Prop} {N' : Env' → MS → Prop} (h : PN c ρ G H N N') (s : Stp c.st ρ G H ρ1 G1 H1) : PN c ρ1 G1 H1 N N' := fun α' μ' x σ' ρ' G' H' s' R' e => h α' μ' x σ' ρ' G' H' (s.trans s') R' e
theorem PD.step {D : Ends} {D' : En} (h : PD c ρ G H E D D') (s : Stp c.st ρ G H ρ1 G1 H1) : PD c ρ1 G1 H1 E D D' := ⟨h.nx.step s, h.rt.step s, h.bk.step s, h.ct.step s, h.er.step s⟩
def bNext : BS := fun D α μ => D.nx α μ
def bSeq (a b : BS) : BS := fun D α μ => a { D with nx := b D } α μ
def bDrop (a : ES) : BS := fun D α μ => a D.er α μ fun _ μ1 => D.nx α μ1
def bRet (a : ES) : BS := fun D α μ => a D.er α μ D.rt
def bIf (t : TS') (a b : BS) : BS := fun D α μ => t D.er α μ fun k μ1 => if k = true then a D α μ1 else b D α μ1
theorem ss_next : SS c E tNext bNext := ⟨fun R e p h => p.nx _ _ h _ _ _ _ Stp.refl R e⟩
theorem ss_seq {t u : TS} {a b : BS} (ha : SS c E t a) (hb : SS c E u b) : SS c E (tSeq t u) (bSeq a b) := by
  refine ⟨?_⟩
  intro ρ G H σ α μ D D' R e p h
  refine ha.run (D := { D with nx := u D }) (D' := { D' with nx := b D' }) R e ⟨?_, p.rt, p.bk, p.ct, p.er⟩ h
  intro α' μ' x σ' ρ' G' H' s' R' e'
  exact hb R' e' (p.step s') x
theorem ss_drop {ta : TE} {a : ES} (ha : SE c E ta a) : SS c E (tDrop ta) (bDrop a) := by
  refine ⟨?_⟩
  intro ρ G H σ α μ D D' R e p h
  refine ha R e p.er ?_ h
  intro d μ1 h1 v ρ1 G1 H1 s1 R1 a1
  exact p.nx _ _ h1 _ _ _ _ s1 R1 (s1.env e)
theorem ss_ret {ta : TE} {a : ES} (ha : SE c E ta a) : SS c E (tRet ta) (bRet a) := ⟨fun R e p h => ha R e p.er p.rt h⟩
theorem ss_if {tt : TT} {t u : TS} {k : TS'} {a b : BS} (ht : ST c E tt k) (ha : SS c E t a) (hb : SS c E u b) : SS c E (tIfS tt t u) (bIf k a b) := by
  refine ⟨?_⟩
  intro ρ G H σ α μ D D' R e p h
  refine ht R e p.er ?_ h
  intro k μ1 h1 ρ1 G1 H1 s1 R1
  cases k with
  | true => exact ha R1 (s1.env e) (p.step s1) h1
  | false => exact hb R1 (s1.env e) (p.step s1) h1
/-! targets -/
abbrev GS := Dv → XS → Env' → MS → (Env' → MS → Prop) → Prop
abbrev GSs := List Dv → XS → Env' → MS → (Env' → MS → Prop) → Prop
structure SG (c : Cn) (E : XK) (t : TG) (g : GS)  : Prop where
  run : ∀ {ρ : List Addr} {G H : Hp} {σ : St} {α : Env'} {μ : MS} {v : V} {d : Dv} {N : St → Hp → Prop} {N' : Env' → MS → Prop} {E' : XS}, Rel c ρ G H μ → EnvOk c ρ G σ α → At c ρ G v d → PX c ρ G H E E' → PN c ρ G H N N' → g d E' α μ N' → t v σ H N
instance (c : Cn) (E : XK) (t : TG) (g : GS)  : CoeFun (SG c E t g) fun _ => ∀ {ρ : List Addr} {G H : Hp} {σ : St} {α : Env'} {μ : MS} {v : V} {d : Dv} {N : St → Hp → Prop} {N' : Env' → MS → Prop} {E' : XS}, Rel c ρ G H μ → EnvOk c ρ G σ α → At c ρ G v d → PX c ρ G H E E' → PN c ρ G H N N' → g d E' α μ N' → t v σ H N := ⟨fun h => h.run⟩
structure SGs (c : Cn) (E : XK) (t : TGs) (g : GSs)  : Prop where
  run : ∀ {ρ : List Addr} {G H : Hp} {σ : St} {α : Env'} {μ : MS} {v : List V} {d : List Dv} {N : St → Hp → Prop} {N' : Env' → MS → Prop} {E' : XS}, Rel c ρ G H μ → EnvOk c ρ G σ α → AtAll c ρ G v d → PX c ρ G H E E' → PN c ρ G H N N' → g d E' α μ N' → t v σ H N
instance (c : Cn) (E : XK) (t : TGs) (g : GSs)  : CoeFun (SGs c E t g) fun _ => ∀ {ρ : List Addr} {G H : Hp} {σ : St} {α : Env'} {μ : MS} {v : List V} {d : List Dv} {N : St → Hp → Prop} {N' : Env' → MS → Prop} {E' : XS}, Rel c ρ G H μ → EnvOk c ρ G σ α → AtAll c ρ G v d → PX c ρ G H E E' → PN c ρ G H N N' → g d E' α μ N' → t v σ H N := ⟨fun h => h.run⟩
def nName (i : Nat) : GS := fun d _ α μ N => N (α.set i (some d)) μ
def nNil : GSs := fun ds _ α μ N => ds = [] ∧ N α μ
def nCons (g : GS) (r : GSs) : GSs := fun ds E α μ N => ∃ d rest, ds = d :: rest ∧ g d E α μ fun α1 μ1 => r rest E α1 μ1 N
def nTup (n : Nat) (r : GSs) : GS := fun d E α μ N => ∃ ds, tpV d = some ds ∧ ds.length = n ∧ r ds E α μ N
def nSeq (n : Nat) (r : GSs) : GS := fun d E α μ N => ∃ ds, sqV μ d = some ds ∧ ds.length = n ∧ r ds E α μ N
theorem sg_name (i : Nat) : SG c E (gName i) (nName i) := ⟨fun R e a px p h => p _ _ h _ _ _ _ Stp.refl R (e.set a i)⟩
theorem sg_nil : SGs c E gNil nNil := by
  refine ⟨?_⟩
  rintro ρ G H σ α μ v d N N' E' R e a px p ⟨rfl, h⟩
  cases a
  exact ⟨rfl, p _ _ h _ _ _ _ Stp.refl R e⟩
theorem sg_cons {t : TG} {u : TGs} {g : GS} {r : GSs} (hg : SG c E t g) (hr : SGs c E u r) : SGs c E (gCons t u) (nCons g r) := by
  refine ⟨?_⟩
  rintro ρ G H σ α μ v d N N' E' R e a px p ⟨d1, rest, rfl, h⟩
  cases a with
  | cons a1 a2 =>
    refine ⟨_, _, rfl, ?_⟩
    refine hg R e a1 px ?_ h
    intro α' μ' x σ' ρ' G' H' s' R' e'
    exact hr R' e' (s'.all a2) (px.step s') (p.step s') x
theorem sg_tup {n : Nat} {u : TGs} {r : GSs} (hr : SGs c E u r) : SG c E (gTup c.K n u) (nTup n r) := by
  refine ⟨?_⟩
  rintro ρ G H σ α μ v d N N' E' R e a px p ⟨ds, e1, hl, h⟩
  obtain ⟨q, vs, rfl, h1, t⟩ := tpV_ok R.gh a e1
  exact ⟨q, vs, rfl, h1, by rw [t.length]; exact hl, hr R e t px p h⟩
theorem sg_seq {n : Nat} {u : TGs} {r : GSs} (hr : SGs c E u r) : SG c E (gSeq c.K n u) (nSeq n r) := by
  refine ⟨?_⟩
  rintro ρ G H σ α μ v d N N' E' R e a px p ⟨ds, e1, hl, h⟩
  obtain ⟨q, vs, rfl, h1, t⟩ := sqV_ok R a e1
  refine ⟨.mk, ?_⟩
  rcases h1 with h1 | h1
  · exact .inr ⟨q, vs, rfl, SqL.of h1, by rw [t.length]; exact hl, hr R e t px p h⟩
  · exact .inl ⟨q, vs, rfl, h1, by rw [t.length]; exact hl, hr R e t px p h⟩
def bAsg (a : ES) (g : GS) : BS := fun D α μ => a D.er α μ fun d μ1 => g d D.er α μ1 D.nx
theorem ss_asg {ta : TE} {tg : TG} {a : ES} {g : GS} (ha : SE c E ta a) (hg : SG c E tg g) : SS c E (tAsg ta tg) (bAsg a g) := by
  refine ⟨?_⟩
  intro ρ G H σ α μ D D' R e p h
  refine ha R e p.er ?_ h
  intro d μ1 h1 v ρ1 G1 H1 s1 R1 a1
  exact hg R1 (s1.env e) a1 (p.er.step s1) (p.nx.step s1) h1
def bPar (i j : Nat) (a : AS) : BS := fun D α μ => a D.er α μ fun ds μ1 => ∃ d1 d2, ds = [d1, d2] ∧ D.nx ((α.set i (some d1)).set j (some d2)) μ1
theorem ss_par {i j : Nat} {ta : TA} {a : AS} (ha : SA c E ta a) : SS c E (tPar i j ta) (bPar i j a) := by
  refine ⟨?_⟩
  intro ρ G H σ α μ D D' R e p h
  refine ha R e p.er ?_ h
  rintro ds μ1 ⟨d1, d2, rfl, h1⟩ vs ρ1 G1 H1 s1 R1 a1
  obtain ⟨v, w, rfl, b1, b2⟩ := a1.two
  exact ⟨v, w, rfl, p.nx _ _ h1 _ _ _ _ s1 R1 (((s1.env e).set b1 i).set b2 j)⟩
end
end Mz
end
section
set_option Elab.async false
set_option linter.all false
set_option maxRecDepth 100000
set_option maxHeartbeats 4000000
namespace Mz
open PySem L2
/-! ### what is walked -/
structure IW where
  items : List Dv
  gd : MS → Prop
structure WOk (c : Cn) (ρ0 : List Addr) (G0 H0 : Hp) (J : It) (w : IW) : Prop where
  goes : ∀ {ρ : List Addr} {G H : Hp} {μ : MS} (i : Nat), Stp c.st ρ0 G0 H0 ρ G H → Rel c ρ G H μ → w.gd μ → i < w.items.length → J.go i H
  stops : ∀ {ρ : List Addr} {G H : Hp} {μ : MS}, Stp c.st ρ0 G0 H0 ρ G H → Rel c ρ G H μ → w.gd μ → J.stop w.items.length H
  yields : ∀ {ρ : List Addr} {G H : Hp} {μ : MS} {i : Nat} {x : V} {H' : Hp}, Stp c.st ρ0 G0 H0 ρ G H → Rel c ρ G H μ → w.gd μ → i < w.items.length → J.yld i H x H' → ∃ d G', w.items[i]? = some d ∧ Rel c ρ G' H' μ ∧ Stp c.st ρ G H ρ G' H' ∧ At c ρ G' x d
abbrev IS := XS → Env' → MS → (IW → MS → Prop) → Prop
structure SI (c : Cn) (E : XK) (ti : TI) (mi : IS)  : Prop where
  run : ∀ {ρ : List Addr} {G H : Hp} {σ : St} {α : Env'} {μ : MS} {R : It → Hp → Prop} {E' : XS} {R' : IW → MS → Prop}, Rel c ρ G H μ → EnvOk c ρ G σ α → PX c ρ G H E E' →
  (∀ w μ', R' w μ' → ∀ J ρ' G' H', Stp c.st ρ G H ρ' G' H' → Rel c ρ' G' H' μ' → WOk c ρ' G' H' J w → R J H') → mi E' α μ R' → ti σ H R
instance (c : Cn) (E : XK) (ti : TI) (mi : IS)  : CoeFun (SI c E ti mi) fun _ => ∀ {ρ : List Addr} {G H : Hp} {σ : St} {α : Env'} {μ : MS} {R : It → Hp → Prop} {E' : XS} {R' : IW → MS → Prop}, Rel c ρ G H μ → EnvOk c ρ G σ α → PX c ρ G H E E' →
  (∀ w μ', R' w μ' → ∀ J ρ' G' H', Stp c.st ρ G H ρ' G' H' → Rel c ρ' G' H' μ' → WOk c ρ' G' H' J w → R J H') → mi E' α μ R' → ti σ H R := ⟨fun h => h.run⟩
section
variable {c : Cn} {E : XK} {ρ ρ0 : List Addr} {G H G0 H0 : Hp} {μ : MS}
/-- from a Walk -/
theorem WOk.of {J : It} {n : Nat} {Gd : Hp → Prop} {Y : Nat → Hp → V → Hp → Prop} {w : IW} (W : Walk J n Gd Y) (hn : n = w.items.length)
    (hg : ∀ {ρ : List Addr} {G H : Hp} {μ : MS}, Stp c.st ρ0 G0 H0 ρ G H → Rel c ρ G H μ → w.gd μ → Gd H)
    (hy : ∀ {ρ : List Addr} {G H : Hp} {μ : MS} {i : Nat} {x : V} {H' : Hp}, Stp c.st ρ0 G0 H0 ρ G H → Rel c ρ G H μ → w.gd μ → i < n → Y i H x H' → ∃ d G', w.items[i]? = some d ∧ Rel c ρ G' H' μ ∧ Stp c.st ρ G H ρ G' H' ∧ At c ρ G' x d) : WOk c ρ0 G0 H0 J w := by
  subst hn
  exact ⟨fun i s R g hi => W.goes i _ hi (hg s R g), fun s R g => W.stops _ (hg s R g), fun s R g hi y => hy s R g hi (W.yields _ _ _ _ hi (hg s R g) y)⟩
def iwSq (d : Dv) (ds : List Dv) : IW := ⟨ds, fun μ => sqV μ d = some ds⟩
def miSq (a : ES) : IS := fun E α μ R => a E α μ fun d μ1 => ∃ ds, sqV μ1 d = some ds ∧ R (iwSq d ds) μ1
theorem lsV_gd {d : Dv} {ds : List Dv} {μ μ' : MS} (h : lsV μ d = some ds) (h' : sqV μ' d = some ds) : lsV μ' d = some ds := by
  cases d with
  | d x =>
    cases x with
    | lst xs => exact h'
    | tup xs => cases h
    | _ => cases h
  | ob n => exact h'
  | tp xs => cases h
theorem Itl_go {K : PySem.W.Frag} {p : Addr} {vs : List V} {H : Hp} {i : Nat} (h : H p = some (.lst vs)) (hi : i < vs.length) : (Itl K p).go i H := ⟨vs, vs[i], SqL.of h, by simp [hi]⟩
theorem wok_sq {v : V} {d : Dv} {ds : List Dv} (a : At c ρ0 G0 v d) (e : lsV μ d = some ds) {p : Addr} (ep : v = .ref p) : WOk c ρ0 G0 H0 (Itl c.K p) (iwSq d ds) := by
  subst ep
  have at_ : ∀ {ρ : List Addr} {G H : Hp} {μ' : MS}, Stp c.st ρ0 G0 H0 ρ G H → Rel c ρ G H μ' → sqV μ' d = some ds → ∃ vs, H p = some (.lst vs) ∧ AtAll c ρ G vs ds := by
    intro ρ G H μ' s R g
    obtain ⟨q, vs, eq, h1, t⟩ := lsV_ok R (s.at_ a) (lsV_gd e g)
    cases eq
    exact ⟨vs, h1, t⟩
  refine ⟨fun i s R g hi => ?_, fun s R g => ?_, fun s R g hi y => ?_⟩
  · obtain ⟨vs, h1, t⟩ := at_ s R g
    exact Itl_go h1 (by rw [t.length]; exact hi)
  · obtain ⟨vs, h1, t⟩ := at_ s R g
    exact ⟨vs, SqL.of h1, by rw [t.length]; exact Nat.le_refl _⟩
  · obtain ⟨vs, h1, t⟩ := at_ s R g
    obtain ⟨rfl, hx⟩ := y
    obtain ⟨d', h2, h3⟩ := t.get (hx vs (SqL.of h1))
    exact ⟨d', _, h2, R, Stp.refl, h3⟩
theorem wok_tp {v : V} {d : Dv} {ds : List Dv} (a : At c ρ0 G0 v d) (e : tpV d = some ds) {p : Addr} (ep : v = .ref p) : WOk c ρ0 G0 H0 (Itt c.K p) (iwSq d ds) := by
  subst ep
  have at_ : ∀ {ρ : List Addr} {G H : Hp} {μ' : MS}, Stp c.st ρ0 G0 H0 ρ G H → Rel c ρ G H μ' → ∃ vs, SqT c.K H p vs ∧ AtAll c ρ G vs ds := by
    intro ρ G H μ' s R
    obtain ⟨q, vs, eq, h1, t⟩ := tpV_ok R.gh (s.at_ a) e
    cases eq
    exact ⟨vs, h1, t⟩
  refine ⟨fun i s R g hi => ?_, fun s R g => ?_, fun s R g hi y => ?_⟩
  · obtain ⟨vs, h1, t⟩ := at_ s R
    exact ⟨vs, vs[i]'(by rw [t.length]; exact hi), h1, by simp⟩
  · obtain ⟨vs, h1, t⟩ := at_ s R
    exact ⟨vs, h1, by rw [t.length]; exact Nat.le_refl _⟩
  · obtain ⟨vs, h1, t⟩ := at_ s R
    obtain ⟨rfl, hx⟩ := y
    obtain ⟨d', h2, h3⟩ := t.get (hx vs h1)
    exact ⟨d', _, h2, R, Stp.refl, h3⟩
theorem si_sq {ta : TE} {a : ES} (ha : SE c E ta a) : SI c E (iSq c.K ta) (miSq a) := by
  refine ⟨?_⟩
  intro ρ G H σ α μ R E' R' Rl e px r h
  refine ha Rl e px ?_ h
  rintro d μ1 ⟨ds, e1, h1⟩ v ρ1 G1 H1 s1 R1 a1
  refine ⟨.mk, ?_⟩
  rcases sqV_or e1 with e2 | e2
  · obtain ⟨p, vs, rfl, h2, t⟩ := lsV_ok R1 a1 e2
    exact ⟨p, rfl, .inl ⟨⟨vs, SqL.of h2⟩, r _ _ h1 _ _ _ _ s1 R1 (wok_sq a1 e2 rfl)⟩⟩
  · obtain ⟨p, vs, rfl, h2, t⟩ := tpV_ok R1.gh a1 e2
    exact ⟨p, rfl, .inr ⟨⟨vs, h2⟩, r _ _ h1 _ _ _ _ s1 R1 (wok_tp a1 e2 rfl)⟩⟩
/-! enumerate -/
def enumD (ds : List Dv) : List Dv := ds.zipIdx.map fun p => mkTup [.d (.int (p.2 : Nat)), p.1]
theorem enumD_len (ds : List Dv) : (enumD ds).length = ds.length := by unfold enumD; simp
theorem enumD_get {ds : List Dv} {i : Nat} {d : Dv} (h : ds[i]? = some d) : (enumD ds)[i]? = some (mkTup [.d (.int (i : Nat)), d]) := by
  unfold enumD
  rw [List.getElem?_map, List.getElem?_zipIdx, h]; simp
def iwEn (d : Dv) (ds : List Dv) : IW := ⟨enumD ds, fun μ => sqV μ d = some ds⟩
theorem new_pair {i : Nat} {x : V} {d : Dv} {T : Addr} (R : Rel c ρ G H μ) (hT : H T = none) (a : At c ρ G x d) : ∃ G', Rel c ρ G' (upd H T (.tup [.int (i : Nat), x])) μ ∧ Stp c.st ρ G H ρ G' (upd H T (.tup [.int (i : Nat), x])) ∧ At c ρ G' (.ref T) (mkTup [.d (.int (i : Nat)), d]) := by
  obtain ⟨R1, s1⟩ := R.newF (u := .tup [.int (i : Nat), x]) hT
  exact ⟨_, R1, s1, at_mk (SqT.of upd_same) (.cons (.d (.int _)) (.cons (s1.at_ a) .nil))⟩
theorem si_en {ta : TA} {a : ES} (ha : SA c E ta (mCons a mNil)) : SI c E (iEnSq c.K ta) (fun E α μ R => a E α μ fun d μ1 => ∃ ds, sqV μ1 d = some ds ∧ R (iwEn d ds) μ1) := by
  refine ⟨?_⟩
  intro ρ G H σ α μ R E' R' Rl e px r h
  refine ha.run (Q' := fun ds μ1 => ∃ d xs, ds = [d] ∧ sqV μ1 d = some xs ∧ R' (iwEn d xs) μ1) Rl e px ?_ ?_
  · rintro ds μ1 ⟨d, xs, rfl, e1, h1⟩ vs ρ1 G1 H1 s1 R1 a1
    obtain ⟨v, rfl, a1'⟩ := a1.sole
    refine ⟨.mk, ?_⟩
    rcases sqV_or e1 with e2 | e2
    · obtain ⟨p, vs, rfl, h2, t⟩ := lsV_ok R1 a1' e2
      refine ⟨p, vs, rfl, .inl ⟨SqL.of h2, r _ _ h1 _ _ _ _ s1 R1 ?_⟩⟩
      have at_ : ∀ {ρ : List Addr} {G H : Hp} {μ' : MS}, Stp c.st ρ1 G1 H1 ρ G H → Rel c ρ G H μ' → sqV μ' d = some xs → ∃ vs, H p = some (.lst vs) ∧ AtAll c ρ G vs xs := by
        intro ρ G H μ' s R g
        obtain ⟨q, vs, eq, h1, t⟩ := lsV_ok R (s.at_ a1') (lsV_gd e2 g)
        cases eq
        exact ⟨vs, h1, t⟩
      refine ⟨fun i s R g hi => ?_, fun s R g => ?_, fun s R g hi y => ?_⟩
      · obtain ⟨vs, h1, t⟩ := at_ s R g
        have : i < vs.length := by rw [t.length, ← enumD_len]; exact hi
        exact ⟨vs, vs[i], SqL.of h1, by simp [this]⟩
      · obtain ⟨vs, h1, t⟩ := at_ s R g
        exact ⟨vs, SqL.of h1, by rw [t.length]; show xs.length ≤ (enumD xs).length; rw [enumD_len]; exact Nat.le_refl _⟩
      · obtain ⟨vs, h1, t⟩ := at_ s R g
        obtain ⟨T, x, rfl, hT, rfl, hx⟩ := y
        obtain ⟨d', h2, h3⟩ := t.get (hx vs (SqL.of h1))
        obtain ⟨G', R2, s2, a2⟩ := new_pair R hT h3
        exact ⟨_, G', enumD_get h2, R2, s2, a2⟩
    · obtain ⟨p, vs, rfl, h2, t⟩ := tpV_ok R1.gh a1' e2
      refine ⟨p, vs, rfl, .inr ⟨h2, r _ _ h1 _ _ _ _ s1 R1 ?_⟩⟩
      have at_ : ∀ {ρ : List Addr} {G H : Hp} {μ' : MS}, Stp c.st ρ1 G1 H1 ρ G H → Rel c ρ G H μ' → ∃ vs, SqT c.K H p vs ∧ AtAll c ρ G vs xs := by
        intro ρ G H μ' s R
        obtain ⟨q, vs, eq, h1, t⟩ := tpV_ok R.gh (s.at_ a1') e2
        cases eq
        exact ⟨vs, h1, t⟩
      refine ⟨fun i s R g hi => ?_, fun s R g => ?_, fun s R g hi y => ?_⟩
      · obtain ⟨vs, h1, t⟩ := at_ s R
        have : i < vs.length := by rw [t.length, ← enumD_len]; exact hi
        exact ⟨vs, vs[i], h1, by simp [this]⟩
      · obtain ⟨vs, h1, t⟩ := at_ s R
        exact ⟨vs, h1, by rw [t.length]; show xs.length ≤ (enumD xs).length; rw [enumD_len]; exact Nat.le_refl _⟩
      · obtain ⟨vs, h1, t⟩ := at_ s R
        obtain ⟨T, x, rfl, hT, rfl, hx⟩ := y
        obtain ⟨d', h2, h3⟩ := t.get (hx vs h1)
        obtain ⟨G', R2, s2, a2⟩ := new_pair R hT h3
        exact ⟨_, G', enumD_get h2, R2, s2, a2⟩
  · show a E' α μ fun d μ1 => _
    have : (fun d μ1 => ∃ ds, sqV μ1 d = some ds ∧ R' (iwEn d ds) μ1) = fun d μ1 => ∃ d_1 xs, [d] = [d_1] ∧ sqV μ1 d_1 = some xs ∧ R' (iwEn d_1 xs) μ1 := by
      funext d μ1
      refine propext ⟨fun ⟨ds, h1, h2⟩ => ⟨d, ds, rfl, h1, h2⟩, fun ⟨d', xs, h0, h1, h2⟩ => ?_⟩
      have : d = d' := (List.cons.inj h0).1
      subst this
      exact ⟨xs, h1, h2⟩
    exact this ▸ h
def miEn (a : ES) : IS := fun E α μ R => a E α μ fun d μ1 => ∃ ds, sqV μ1 d = some ds ∧ R (iwEn d ds) μ1
/-! range -/
def rngD (lo : Int) (n : Nat) : List Dv := (List.range n).map fun i => .d (.int (lo + (i : Nat)))
def iwR (lo : Int) (n : Nat) : IW := ⟨rngD lo n, fun _ => True⟩
theorem wok_r {lo : Int} {n : Nat} : WOk c ρ0 G0 H0 (Itr lo n) (iwR lo n) := by
  refine WOk.of walk_range (by simp [iwR, rngD]) (fun _ _ _ => trivial) ?_
  rintro ρ G H μ i x H' s R g hi ⟨rfl, rfl⟩
  refine ⟨.d (.int (lo + (i : Nat))), G, ?_, R, Stp.refl, .d (.int _)⟩
  simp [iwR, rngD, hi]
def miR1 (a : AS) : IS := fun E α μ R => a E α μ fun ds μ1 => ∃ j : Int, ds = [.d (.int j)] ∧ (-(2 ^ 62) ≤ j ∧ j < 2 ^ 62) ∧ R (iwR 0 j.toNat) μ1
theorem si_r1 {ta : TA} {a : AS} (ha : SA c E ta a) : SI c E (iRng1 ta) (miR1 a) := by
  refine ⟨?_⟩
  intro ρ G H σ α μ R E' R' Rl e px r h
  refine ha Rl e px ?_ h
  rintro ds μ1 ⟨j, rfl, ⟨j1, j2⟩, h1⟩ vs ρ1 G1 H1 s1 R1 a1
  obtain ⟨v, rfl, b0⟩ := a1.sole
  obtain rfl := at_int b0
  exact ⟨j, rfl, j1, j2, r _ _ h1 _ _ _ _ s1 R1 wok_r⟩
/-! a text -/
/-! ### for -/
def mLoop (gd : MS → Prop) (g : GS) (b : BS) (D : En) : List Dv → Env' → MS → Prop
  | [], α, μ => D.nx α μ
  | d :: r, α, μ => g d D.er α μ fun α1 μ1 => b { D with nx := fun α2 μ2 => gd μ2 ∧ mLoop gd g b D r α2 μ2, ct := fun α2 μ2 => gd μ2 ∧ mLoop gd g b D r α2 μ2, bk := D.nx } α1 μ1
def bFor (mi : IS) (g : GS) (b : BS) : BS := fun D α μ => mi D.er α μ fun w μ1 => w.gd μ1 ∧ mLoop w.gd g b D w.items α μ1
theorem ss_for {ti : TI} {tg : TG} {tb : TS} {mi : IS} {g : GS} {b : BS} (hi : SI c E ti mi) (hg : SG c E tg g) (hb : SS c E tb b) : SS c E (tFor ti tg tb) (bFor mi g b) := by
  refine ⟨?_⟩
  intro ρ G H σ α μ D D' R e p h
  refine hi R e p.er ?_ h
  rintro w μ1 ⟨gd1, h1⟩ J ρ1 G1 H1 s1 R1 W
  refine ⟨fun i m σ H => m = w.items.length - i ∧ i ≤ w.items.length ∧ ∃ ρ' G' α' μ', Stp c.st ρ1 G1 H1 ρ' G' H ∧ Rel c ρ' G' H μ' ∧ EnvOk c ρ' G' σ α' ∧ w.gd μ' ∧ mLoop w.gd g b D' (w.items.drop i) α' μ',
    ⟨_, rfl, Nat.zero_le _, ρ1, G1, α, μ1, Stp.refl, R1, s1.env e, gd1, h1⟩, ?_⟩
  rintro i m σ2 H2 ⟨rfl, hi2, ρ2, G2, α2, μ2, s2, R2, e2, gd2, h2⟩
  have s02 := s1.trans s2
  by_cases hlt : i < w.items.length
  · refine .inr ⟨W.goes i s2 R2 gd2 hlt, _, fun σ' H' h' => ⟨_, by omega, rfl, hlt, h'⟩, fun x H' y => ?_⟩
    obtain ⟨d, G3, hd, R3, s3, a3⟩ := W.yields s2 R2 gd2 hlt y
    have ed : w.items.drop i = d :: w.items.drop (i + 1) := by
      rw [List.drop_eq_getElem_cons hlt]
      have := (List.getElem?_eq_some_iff.mp hd).2
      rw [this]
    rw [ed] at h2
    have s03 := s02.trans s3
    refine hg R3 (s3.env e2) a3 (p.er.step s03) ?_ h2
    intro α4 μ4 h4 σ4 ρ4 G4 H4 s4 R4 e4
    have s04 := s03.trans s4
    refine hb.run (D' := { D' with nx := fun α2 μ2 => w.gd μ2 ∧ mLoop w.gd g b D' (w.items.drop (i + 1)) α2 μ2, ct := fun α2 μ2 => w.gd μ2 ∧ mLoop w.gd g b D' (w.items.drop (i + 1)) α2 μ2, bk := D'.nx }) R4 e4 ⟨?_, p.rt.step s04, p.nx.step s04, ?_, p.er.step s04⟩ h4
    · rintro α5 μ5 ⟨gd5, h5⟩ σ5 ρ5 G5 H5 s5 R5 e5
      exact ⟨ρ5, G5, α5, μ5, ((s2.trans s3).trans s4).trans s5, R5, e5, gd5, h5⟩
    · rintro α5 μ5 ⟨gd5, h5⟩ σ5 ρ5 G5 H5 s5 R5 e5
      exact ⟨ρ5, G5, α5, μ5, ((s2.trans s3).trans s4).trans s5, R5, e5, gd5, h5⟩
  · have ei : i = w.items.length := by omega
    subst ei
    refine .inl ⟨W.stops s2 R2 gd2, ?_⟩
    rw [List.drop_length] at h2
    exact p.nx _ _ h2 _ _ _ _ s02 R2 e2
/-! ### while -/
/-! ### comprehensions -/
/-- alike but for some slots -/
def Ag (vs : List Nat) (σ σ2 : St) : Prop := σ2.length = σ.length ∧ ∀ i, i ∉ vs → σ2[i]? = σ[i]?
theorem wipe_in {σ : St} {i : Nat} : ∀ {vs : List Nat}, i ∈ vs → i < σ.length → (wipe σ vs)[i]? = some none
  | v :: vs, h, hl => by
    unfold wipe
    by_cases e : v = i
    · subst e
      rw [List.getElem?_set_self (by rw [wipe_length]; exact hl)]
    · rw [List.getElem?_set_ne e]
      exact wipe_in (by rcases List.mem_cons.mp h with h | h; exact absurd h.symm e; exact h) hl
theorem wipe_ag {vs : List Nat} {σ σ2 : St} (h : Ag vs σ σ2) : wipe σ2 vs = wipe σ vs := by
  refine List.ext_getElem? fun i => ?_
  by_cases hi : i ∈ vs
  · by_cases hl : i < σ.length
    · rw [wipe_in hi hl, wipe_in hi (by rw [h.1]; exact hl)]
    · rw [List.getElem?_eq_none (by rw [wipe_length, h.1]; omega), List.getElem?_eq_none (by rw [wipe_length]; omega)]
  · rw [wipe_out hi, wipe_out hi]
    exact h.2 i hi
theorem ag_wipe {vs : List Nat} {σ : St} : Ag vs σ (wipe σ vs) := ⟨wipe_length _ _, fun i hi => wipe_out hi⟩
theorem Ag.refl {vs : List Nat} {σ : St} : Ag vs σ σ := ⟨rfl, fun _ _ => rfl⟩
theorem Ag.trans {vs : List Nat} {σ σ2 σ3 : St} (a : Ag vs σ σ2) (b : Ag vs σ2 σ3) : Ag vs σ σ3 := ⟨b.1.trans a.1, fun i hi => (b.2 i hi).trans (a.2 i hi)⟩
theorem Ag.set {vs : List Nat} {σ : St} {i : Nat} {v : Option V} (h : i ∈ vs) : Ag vs σ (σ.set i v) := ⟨by simp, fun j hj => by rw [List.getElem?_set_ne (fun z => hj (by rw [← z]; exact h))]⟩
def wpD (α : Env') : List Nat → Env'
  | [] => α
  | v :: vs => (wpD α vs).set v none
theorem EnvOk.wipe {σ : St} {α : Env'} (h : EnvOk c ρ G σ α) : ∀ vs : List Nat, EnvOk c ρ G (wipe σ vs) (wpD α vs)
  | [] => h
  | v :: vs => (h.wipe vs).unset v
/-- a target that stores into vs alone -/
structure SGw (c : Cn) (E : XK) (vs : List Nat) (t : TG) (g : GS)  : Prop where
  run : ∀ {ρ : List Addr} {G H : Hp} {σ σ0 : St} {α : Env'} {μ : MS} {v : V} {d : Dv} {N : St → Hp → Prop} {N' : Env' → MS → Prop} {E' : XS}, Rel c ρ G H μ → EnvOk c ρ G σ α → At c ρ G v d → Ag vs σ0 σ → PN c ρ G H N N' → g d E' α μ N' → t v σ H fun σ2 H2 => wipe σ2 vs = wipe σ0 vs ∧ N σ2 H2
instance (c : Cn) (E : XK) (vs : List Nat) (t : TG) (g : GS)  : CoeFun (SGw c E vs t g) fun _ => ∀ {ρ : List Addr} {G H : Hp} {σ σ0 : St} {α : Env'} {μ : MS} {v : V} {d : Dv} {N : St → Hp → Prop} {N' : Env' → MS → Prop} {E' : XS}, Rel c ρ G H μ → EnvOk c ρ G σ α → At c ρ G v d → Ag vs σ0 σ → PN c ρ G H N N' → g d E' α μ N' → t v σ H fun σ2 H2 => wipe σ2 vs = wipe σ0 vs ∧ N σ2 H2 := ⟨fun h => h.run⟩
structure SGws (c : Cn) (E : XK) (vs : List Nat) (t : TGs) (g : GSs)  : Prop where
  run : ∀ {ρ : List Addr} {G H : Hp} {σ σ0 : St} {α : Env'} {μ : MS} {v : List V} {d : List Dv} {N : St → Hp → Prop} {N' : Env' → MS → Prop} {E' : XS}, Rel c ρ G H μ → EnvOk c ρ G σ α → AtAll c ρ G v d → Ag vs σ0 σ → PN c ρ G H N N' → g d E' α μ N' → t v σ H fun σ2 H2 => wipe σ2 vs = wipe σ0 vs ∧ N σ2 H2
instance (c : Cn) (E : XK) (vs : List Nat) (t : TGs) (g : GSs)  : CoeFun (SGws c E vs t g) fun _ => ∀ {ρ : List Addr} {G H : Hp} {σ σ0 : St} {α : Env'} {μ : MS} {v : List V} {d : List Dv} {N : St → Hp → Prop} {N' : Env' → MS → Prop} {E' : XS}, Rel c ρ G H μ → EnvOk c ρ G σ α → AtAll c ρ G v d → Ag vs σ0 σ → PN c ρ G H N N' → g d E' α μ N' → t v σ H fun σ2 H2 => wipe σ2 vs = wipe σ0 vs ∧ N σ2 H2 := ⟨fun h => h.run⟩
theorem sw_name {vs : List Nat} (i : Nat) (h : i ∈ vs) : SGw c E vs (gName i) (nName i) := ⟨fun R e a g p x => ⟨wipe_ag (g.trans (Ag.set h)), p _ _ x _ _ _ _ Stp.refl R (e.set a i)⟩⟩
theorem sw_nil {vs : List Nat} : SGws c E vs gNil nNil := by
  refine ⟨?_⟩
  rintro ρ G H σ σ0 α μ v d N N' E' R e a g p ⟨rfl, h⟩
  cases a
  exact ⟨rfl, wipe_ag g, p _ _ h _ _ _ _ Stp.refl R e⟩
theorem sw_cons {vs : List Nat} {i : Nat} {u : TGs} {r : GSs} (h : i ∈ vs) (hr : SGws c E vs u r) : SGws c E vs (gCons (gName i) u) (nCons (nName i) r) := by
  refine ⟨?_⟩
  rintro ρ G H σ σ0 α μ v d N N' E' R e a g p ⟨d1, rest, rfl, x⟩
  cases a with
  | cons a1 a2 => exact ⟨_, _, rfl, hr R (e.set a1 i) a2 (g.trans (Ag.set h)) p x⟩
theorem sw_tup {vs : List Nat} {n : Nat} {u : TGs} {r : GSs} (hr : SGws c E vs u r) : SGw c E vs (gTup c.K n u) (nTup n r) := by
  refine ⟨?_⟩
  rintro ρ G H σ σ0 α μ v d N N' E' R e a g p ⟨ds, e1, hl, h⟩
  obtain ⟨q, vs, rfl, h1, t⟩ := tpV_ok R.gh a e1
  exact ⟨q, vs, rfl, h1, by rw [t.length]; exact hl, hr R e t g p h⟩
def noX : XS := fun _ _ => False
theorem px_no : PX c ρ G H E noX := fun _ _ h => h.elim
def mLcL (gd : MS → Prop) (g : GS) (t : TS') (e : ES) (vs : List Nat) (α : Env') (Q : List Dv → MS → Prop) : List Dv → List Dv → MS → Prop
  | [], acc, μ => Q acc μ
  | d :: r, acc, μ => g d noX (wpD α vs) μ fun α2 μ2 => t noX α2 μ2 fun k μ3 => if k = true then e noX α2 μ3 fun y μ4 => acc.length < sizeLine ∧ gd μ4 ∧ mLcL gd g t e vs α Q r (acc ++ [y]) μ4 else gd μ3 ∧ mLcL gd g t e vs α Q r acc μ3
def mLc (mi : IS) (g : GS) (t : TS') (e : ES) (vs : List Nat) : ES := fun E α μ Q => mi E α μ fun w μ1 => w.gd μ1 ∧ mLcL w.gd g t e vs α (fun acc μ2 => Q (.ob μ2.length) (μ2 ++ [.lst acc])) w.items [] μ1
def mYes : TS' := fun _ _ μ Q => Q true μ
theorem st_yes : ST c E tYes mYes := ⟨fun R e px q h => q _ _ h _ _ _ Stp.refl R⟩
theorem se_lc {ti : TI} {tg : TG} {tt : TT} {te : TE} {mi : IS} {g : GS} {t : TS'} {e : ES} {vs : List Nat} (hi : SI c E ti mi) (hg : SGw c E vs tg g) (ht : ST c E0 tt t) (he : SE c E0 te e) : SE c E (tLc ti tg tt te vs) (mLc mi g t e vs) := by
  refine ⟨?_⟩
  intro ρ G H σ α μ Q E' Q' R en px q h
  refine hi R en px ?_ h
  rintro w μ1 ⟨gd1, h1⟩ J ρ1 G1 H1 s1 R1 W D hD
  have w0 : Ow c.st ρ1 G1 (upd H1 D (.lst [])) D (.lst []) := Ow.new R1 hD
  obtain ⟨R1', s1'⟩ := R1.junk (u := .lst []) hD
  refine ⟨fun i m H2 => m = w.items.length - i ∧ i ≤ w.items.length ∧ ∃ ρ2 G2 μ2 acc us, Stp c.st ρ1 G1 H1 ρ2 G2 H2 ∧ Rel c ρ2 G2 H2 μ2 ∧ Ow c.st ρ2 G2 H2 D (.lst us) ∧ AtAll c ρ2 G2 us acc ∧ w.gd μ2 ∧ mLcL w.gd g t e vs α (fun acc μ2 => Q' (.ob μ2.length) (μ2 ++ [.lst acc])) (w.items.drop i) acc μ2,
    ⟨_, rfl, Nat.zero_le _, ρ1, G1, μ1, [], [], s1', R1', w0, .nil, gd1, h1⟩, ?_⟩
  rintro i m H2 ⟨rfl, hi2, ρ2, G2, μ2, acc, us, s2, R2, w2, t2, gd2, h2⟩
  have s02 := s1.trans s2
  by_cases hlt : i < w.items.length
  · refine .inr ⟨W.goes i s2 R2 gd2 hlt, _, fun H' h' => ⟨_, by omega, rfl, hlt, h'⟩, fun x H' y => ?_⟩
    obtain ⟨d, G3, hd, R3, s3, a3⟩ := W.yields s2 R2 gd2 hlt y
    have ed : w.items.drop i = d :: w.items.drop (i + 1) := by
      rw [List.drop_eq_getElem_cons hlt]
      have := (List.getElem?_eq_some_iff.mp hd).2
      rw [this]
    rw [ed] at h2
    have s03 := s02.trans s3
    refine hg R3 ((s03.env en).wipe vs) a3 ag_wipe ?_ h2
    intro α4 μ4 h4 σ4 ρ4 G4 H4 s4 R4 e4
    refine ht R4 e4 px_no ?_ h4
    intro k μ5 h5 ρ5 G5 H5 s5 R5
    cases k with
    | true =>
      refine he R5 (s5.env e4) px_no ?_ h5
      rintro y μ6 ⟨hl, gd6, h6⟩ v ρ6 G6 H6 s6 R6 a6
      have s26 := ((s3.trans s4).trans s5).trans s6
      have w6 := w2.step s26
      obtain ⟨R7, w7⟩ := R6.owSet (o' := .lst (us ++ [v])) w6
      exact ⟨us, w6.h, by rw [t2.length]; exact hl, ρ6, G6, μ6, acc ++ [y], us ++ [v], (s2.trans s26).owSet hD w6, R7, w7, (s26.all t2).append (.one a6), gd6, h6⟩
    | false =>
      obtain ⟨gd5, h5⟩ := h5
      have s25 := (s3.trans s4).trans s5
      exact ⟨ρ5, G5, μ5, acc, us, s2.trans s25, R5, w2.step s25, s25.all t2, gd5, h5⟩
  · have ei : i = w.items.length := by omega
    subst ei
    refine .inl ⟨W.stops s2 R2 gd2, ?_⟩
    rw [List.drop_length] at h2
    exact q _ _ h2 _ _ _ _ (s1.trans (s2.adopt hD)) (R2.adopt w2 ⟨w2.g, us, w2.h, t2.mono (Same.refl _) pre1⟩) (.ob R2.lastOb)
end
end Mz
end
section
set_option Elab.async false
set_option linter.all false
set_option maxRecDepth 100000
set_option maxHeartbeats 4000000
namespace Mz
open PySem L2
section
variable {c : Cn} {E : XK} {ρ ρ0 : List Addr} {G H G0 H0 : Hp} {μ : MS}
/-! ### texts: slices, f-strings -/
/-! ### zip -/
def zipD (xs ys : List Dv) : List Dv := (xs.zip ys).map fun p => mkTup [p.1, p.2]
def iwZ (d1 d2 : Dv) (xs ys : List Dv) : IW := ⟨zipD xs ys, fun μ => sqV μ d1 = some xs ∧ sqV μ d2 = some ys⟩
theorem zipD_len (xs ys : List Dv) : (zipD xs ys).length = min xs.length ys.length := by unfold zipD; simp
theorem zipD_get {xs ys : List Dv} {i : Nat} {x y : Dv} (h1 : xs[i]? = some x) (h2 : ys[i]? = some y) : (zipD xs ys)[i]? = some (mkTup [x, y]) := by
  unfold zipD
  have : (xs.zip ys)[i]? = some (x, y) := List.getElem?_zip_eq_some.mpr ⟨h1, h2⟩
  rw [List.getElem?_map, this]; rfl
theorem new_two {x y : V} {d1 d2 : Dv} {T : Addr} (R : Rel c ρ G H μ) (hT : H T = none) (a : At c ρ G x d1) (b : At c ρ G y d2) : ∃ G', Rel c ρ G' (upd H T (.tup [x, y])) μ ∧ Stp c.st ρ G H ρ G' (upd H T (.tup [x, y])) ∧ At c ρ G' (.ref T) (mkTup [d1, d2]) := by
  obtain ⟨R1, s1⟩ := R.newF (u := .tup [x, y]) hT
  exact ⟨_, R1, s1, at_mk (SqT.of upd_same) (.cons (s1.at_ a) (.cons (s1.at_ b) .nil))⟩
def miZip (a : AS) : IS := fun E α μ R => a E α μ fun ds μ1 => ∃ d1 d2 xs ys, ds = [d1, d2] ∧ ((lsV μ1 d1 = some xs ∧ lsV μ1 d2 = some ys) ∨ (tpV d1 = some xs ∧ tpV d2 = some ys)) ∧ R (iwZ d1 d2 xs ys) μ1
theorem tpV_sq {d : Dv} {ds : List Dv} {μ : MS} (h : tpV d = some ds) : sqV μ d = some ds := by
  cases d with
  | d x => cases x <;> first | exact h | cases h
  | tp xs => exact h
  | ob n => cases h
theorem si_zip {ta : TA} {a : AS} (ha : SA c E ta a) : SI c E (RZ.iZipA c.K ta) (miZip a) := by
  refine ⟨?_⟩
  intro ρ G H σ α μ R E' R' Rl e px r h
  refine ha Rl e px ?_ h
  rintro ds μ1 ⟨d1, d2, xs, ys, rfl, hv, h1⟩ vs ρ1 G1 H1 s1 R1 a1
  obtain ⟨v, w, rfl, b1, b2⟩ := a1.two
  rcases hv with ⟨e1, e2⟩ | ⟨e1, e2⟩
  · obtain ⟨p, vs, rfl, h2, t2⟩ := lsV_ok R1 b1 e1
    obtain ⟨p', ws, rfl, h3, t3⟩ := lsV_ok R1 b2 e2
    refine ⟨p, p', vs, ws, rfl, .inl ⟨SqL.of h2, SqL.of h3, r _ _ h1 _ _ _ _ s1 R1 ?_⟩⟩
    have at_ : ∀ {ρ : List Addr} {G H : Hp} {μ' : MS}, Stp c.st ρ1 G1 H1 ρ G H → Rel c ρ G H μ' → (sqV μ' d1 = some xs ∧ sqV μ' d2 = some ys) → ∃ vs ws, H p = some (.lst vs) ∧ H p' = some (.lst ws) ∧ AtAll c ρ G vs xs ∧ AtAll c ρ G ws ys := by
      intro ρ G H μ' s R g
      obtain ⟨q, vs, eq, h1, t⟩ := lsV_ok R (s.at_ b1) (lsV_gd e1 g.1)
      cases eq
      obtain ⟨q, ws, eq, h2, t2⟩ := lsV_ok R (s.at_ b2) (lsV_gd e2 g.2)
      cases eq
      exact ⟨vs, ws, h1, h2, t, t2⟩
    refine ⟨fun i s R g hi => ?_, fun s R g => ?_, fun s R g hi y => ?_⟩
    · obtain ⟨vs, ws, h1, h2, t, t2⟩ := at_ s R g
      have hi' : i < min xs.length ys.length := by rw [← zipD_len]; exact hi
      have l1 : i < vs.length := by rw [t.length]; omega
      have l2 : i < ws.length := by rw [t2.length]; omega
      exact ⟨vs, ws, vs[i], ws[i], SqL.of h1, SqL.of h2, by simp [l1], by simp [l2]⟩
    · obtain ⟨vs, ws, h1, h2, t, t2⟩ := at_ s R g
      refine ⟨vs, ws, SqL.of h1, SqL.of h2, ?_⟩
      rw [t.length, t2.length]
      show xs.length ≤ (zipD xs ys).length ∨ ys.length ≤ (zipD xs ys).length
      rw [zipD_len]; omega
    · obtain ⟨vs, ws, h1, h2, t, t2⟩ := at_ s R g
      obtain ⟨T, x, z, rfl, hT, rfl, hx, hz⟩ := y
      obtain ⟨d', h4, h5⟩ := t.get (hx vs (SqL.of h1))
      obtain ⟨d'', h6, h7⟩ := t2.get (hz ws (SqL.of h2))
      obtain ⟨G', R2, s2, a2⟩ := new_two R hT h5 h7
      exact ⟨_, G', zipD_get h4 h6, R2, s2, a2⟩
  · obtain ⟨p, vs, rfl, h2, t2⟩ := tpV_ok R1.gh b1 e1
    obtain ⟨p', ws, rfl, h3, t3⟩ := tpV_ok R1.gh b2 e2
    refine ⟨p, p', vs, ws, rfl, .inr ⟨h2, h3, r _ _ h1 _ _ _ _ s1 R1 ?_⟩⟩
    have at_ : ∀ {ρ : List Addr} {G H : Hp} {μ' : MS}, Stp c.st ρ1 G1 H1 ρ G H → Rel c ρ G H μ' → ∃ vs ws, SqT c.K H p vs ∧ SqT c.K H p' ws ∧ AtAll c ρ G vs xs ∧ AtAll c ρ G ws ys := by
      intro ρ G H μ' s R
      obtain ⟨q, vs, eq, h1, t⟩ := tpV_ok R.gh (s.at_ b1) e1
      cases eq
      obtain ⟨q, ws, eq, h2, t2⟩ := tpV_ok R.gh (s.at_ b2) e2
      cases eq
      exact ⟨vs, ws, h1, h2, t, t2⟩
    refine ⟨fun i s R g hi => ?_, fun s R g => ?_, fun s R g hi y => ?_⟩
    · obtain ⟨vs, ws, h1, h2, t, t2⟩ := at_ s R
      have hi' : i < min xs.length ys.length := by rw [← zipD_len]; exact hi
      have l1 : i < vs.length := by rw [t.length]; omega
      have l2 : i < ws.length := by rw [t2.length]; omega
      exact ⟨vs, ws, vs[i], ws[i], h1, h2, by simp [l1], by simp [l2]⟩
    · obtain ⟨vs, ws, h1, h2, t, t2⟩ := at_ s R
      refine ⟨vs, ws, h1, h2, ?_⟩
      rw [t.length, t2.length]
      show xs.length ≤ (zipD xs ys).length ∨ ys.length ≤ (zipD xs ys).length
      rw [zipD_len]; omega
    · obtain ⟨vs, ws, h1, h2, t, t2⟩ := at_ s R
      obtain ⟨T, x, z, rfl, hT, rfl, hx, hz⟩ := y
      obtain ⟨d', h4, h5⟩ := t.get (hx vs h1)
      obtain ⟨d'', h6, h7⟩ := t2.get (hz ws h2)
      obtain ⟨G', R2, s2, a2⟩ := new_two R hT h5 h7
      exact ⟨_, G', zipD_get h4 h6, R2, s2, a2⟩
/-! ### dict comprehensions -/
end
/-! ### freezing -/
def pu (μ : MS) : Dv → Option Da
  | .d x => some x
  | .ob n => match μ[n]? with
    | some (.frz x) => some x
    | _ => none
  | .tp _ => none
def pus (μ : MS) : List Dv → Option (List Da)
  | [] => some []
  | y :: r => match pu μ y, pus μ r with
    | some x, some xs => some (x :: xs)
    | _, _ => none
theorem pus_map (μ : MS) : ∀ xs : List Da, pus μ (xs.map .d) = some xs
  | [] => rfl
  | x :: r => by simp [pus, pu, pus_map μ r]
def fz1 (μ : MS) : Dv → Option (MS × Da)
  | .d x => some (μ, x)
  | .ob n => match μ[n]? with
    | some (.frz x) => some (μ, x)
    | some (.lst ys) => (pus μ ys).map fun xs => (μ.set n (.frz (.lst xs)), .lst xs)
    | some (.dct ks) => (pus μ (ks.map (·.2))).map fun xs => (μ.set n (.frz (.dct ((ks.map (·.1)).zip xs))), .dct ((ks.map (·.1)).zip xs))
    | some (.ins C fs) => (pus μ (fs.map (·.2))).map fun xs => (μ.set n (.frz (.ins C ((fs.map (·.1)).zip xs))), .ins C ((fs.map (·.1)).zip xs))
    | _ => none
  | .tp ys => (pus μ ys).map fun xs => (μ, .tup xs)
def fzs (μ : MS) : List Dv → Option (MS × List Da)
  | [] => some (μ, [])
  | d :: r => match fz1 μ d with
    | some (μ1, x) => (fzs μ1 r).map fun p => (p.1, x :: p.2)
    | none => none
section
variable {c : Cn} {E : XK} {ρ ρ0 : List Addr} {G H G0 H0 : Hp} {μ : MS}
theorem pu_ok (R : Rel c ρ G H μ) {v : V} {y : Dv} {x : Da} (a : At c ρ G v y) (e : pu μ y = some x) : AtD c G v x := by
  cases y with
  | d z =>
    cases e
    cases a with
    | d a => exact a
  | ob n =>
    simp only [pu] at e
    split at e
    · rename_i hm
      cases e
      obtain ⟨p, rfl, hn, g, h1⟩ := R.at_ob a hm
      exact h1
    · cases e
  | tp _ => cases e
theorem pus_ok (R : Rel c ρ G H μ) : ∀ {vs : List V} {ys : List Dv} {xs : List Da}, AtAll c ρ G vs ys → pus μ ys = some xs → AtDs c G vs xs
  | _, _, _, .nil, e => by cases e; exact .nil
  | _, _, _, .cons (d := d) (ds := ds) a t, e => by
    simp only [pus] at e
    cases q1 : pu μ d with
    | none => rw [q1] at e; cases e
    | some x =>
      cases q2 : pus μ ds with
      | none => rw [q1, q2] at e; cases e
      | some xs =>
        rw [q1, q2] at e
        cases e
        exact .cons (pu_ok R a q1) (pus_ok R t q2)
theorem zip_fst {κ α : Type} {ks : List κ} {xs : List α} (h : ks.length = xs.length) : (ks.zip xs).map (·.1) = ks := by
  rw [List.map_fst_zip]; omega
theorem zip_snd {κ α : Type} {ks : List κ} {xs : List α} (h : ks.length = xs.length) : (ks.zip xs).map (·.2) = xs := by
  rw [List.map_snd_zip]; omega
/-- an object is frozen -/
theorem Rel.frz (R : Rel c ρ G H μ) {n : Nat} {a : Addr} {o : MO} {u : HO} {x : Da} (hn : ρ[n]? = some a) (hm : μ[n]? = some o) (hg : G a = none) (hu : H a = some u) (hx : AtD c (upd G a u) (.ref a) x) : Rel c ρ (upd G a u) H (μ.set n (.frz x)) ∧ Stp c.st ρ G H ρ (upd G a u) H := by
  have ha : a ∈ ρ := List.mem_of_getElem? hn
  have gg : Same G (upd G a u) := fun b w e => get_new hg e
  have nst : a ≠ c.st := fun z => R.sn (by rw [← z]; exact ha)
  refine ⟨⟨?_, by simp [R.len], R.nd, ?_, R.so.freeze nst hg, R.sn⟩, ⟨pre0, gg, fun _ _ _ _ e => e, fun _ e => e, fun b w e n => ?_, fun _ h => .inl h⟩⟩
  · intro b w e
    by_cases hb : b = a
    · subst hb; rw [upd_same] at e; rw [hu]; exact e
    · rw [upd_ne hb] at e; exact R.gh b w e
  · intro m b o1 h1 h2
    by_cases hmn : m = n
    · subst hmn
      rw [hn] at h1
      cases h1
      have hl := (List.getElem?_eq_some_iff.mp hm).1
      rw [List.getElem?_set_self hl] at h2
      cases h2
      exact ⟨by rw [upd_same]; simp, hx⟩
    · rw [List.getElem?_set_ne (Ne.symm hmn)] at h2
      have hba : b ≠ a := by
        rintro rfl
        exact hmn ((List.getElem?_inj (List.getElem?_eq_some_iff.mp h1).1 R.nd).mp (h1.trans hn.symm))
      refine (R.ob m b o1 h1 h2).mono gg pre0 ?_ fun w e => e
      cases o1 with
      | frz d => exact .inr ⟨d, rfl⟩
      | lst ds => obtain ⟨g, _⟩ := R.ob m b _ h1 h2; exact .inl (by rw [upd_ne hba]; exact g)
      | dct ds => obtain ⟨g, _⟩ := R.ob m b _ h1 h2; exact .inl (by rw [upd_ne hba]; exact g)
      | ins C ds => obtain ⟨g, _⟩ := R.ob m b _ h1 h2; exact .inl (by rw [upd_ne hba]; exact g)
      | lck _ _ ds => obtain ⟨g, _⟩ := R.ob m b _ h1 h2; exact .inl (by rw [upd_ne hba]; exact g)
      | tb _ _ => obtain ⟨g, _⟩ := R.ob m b _ h1 h2; exact .inl (by rw [upd_ne hba]; exact g)
      | exc _ _ => obtain ⟨g, _⟩ := R.ob m b _ h1 h2; exact .inl (by rw [upd_ne hba]; exact g)
  · by_cases hb : b = a
    · subst hb; exact .inr ha
    · rw [upd_ne hb] at e; rw [e] at n; cases n
theorem fz1_ok (R : Rel c ρ G H μ) {v : V} {y : Dv} {μ1 : MS} {x : Da} (a : At c ρ G v y) (e : fz1 μ y = some (μ1, x)) : ∃ G', Rel c ρ G' H μ1 ∧ Stp c.st ρ G H ρ G' H ∧ AtD c G' v x := by
  cases y with
  | d z =>
    cases e
    cases a with
    | d a => exact ⟨G, R, Stp.refl, a⟩
  | tp ys =>
    simp only [fz1] at e
    cases q : pus μ ys with
    | none => rw [q] at e; cases e
    | some xs =>
      rw [q] at e
      cases e
      cases a with
      | tp h t => exact ⟨G, R, Stp.refl, .tup h (pus_ok R t q)⟩
  | ob n =>
    simp only [fz1] at e
    split at e
    · rename_i hm
      cases e
      obtain ⟨p, rfl, hn, g, h1⟩ := R.at_ob a hm
      exact ⟨G, R, Stp.refl, h1⟩
    · rename_i ys hm
      cases q : pus μ ys with
      | none => rw [q] at e; cases e
      | some xs =>
        rw [q] at e
        cases e
        obtain ⟨p, rfl, hn, g, vs, h1, t⟩ := R.at_ob a hm
        have hx : AtD c (upd G p (.lst vs)) (.ref p) (.lst xs) := .lst upd_same ((pus_ok R t q).mono fun b w e => get_new g e)
        obtain ⟨R1, s1⟩ := R.frz hn hm g h1 hx
        exact ⟨_, R1, s1, hx⟩
    · rename_i ks hm
      cases q : pus μ (ks.map (·.2)) with
      | none => rw [q] at e; cases e
      | some xs =>
        rw [q] at e
        cases e
        obtain ⟨p, rfl, hn, g, vs, h1, hk, t⟩ := R.at_ob a hm
        have hd := pus_ok R t q
        have hl : (ks.map (·.1)).length = xs.length := by
          have l1 := hd.length
          have l2 := congrArg List.length hk
          simp at l1 l2 ⊢
          omega
        have hx : AtD c (upd G p (.dK vs)) (.ref p) (.dct ((ks.map (·.1)).zip xs)) := .dct upd_same (by rw [zip_fst hl]; exact hk) (by rw [zip_snd hl]; exact hd.mono fun b w e => get_new g e)
        obtain ⟨R1, s1⟩ := R.frz hn hm g h1 hx
        exact ⟨_, R1, s1, hx⟩
    · rename_i C fs hm
      cases q : pus μ (fs.map (·.2)) with
      | none => rw [q] at e; cases e
      | some xs =>
        rw [q] at e
        cases e
        obtain ⟨p, rfl, hn, g, dx, vs, h1, hk, t⟩ := R.at_ob a hm
        have hd := pus_ok R t q
        have hl : (fs.map (·.1)).length = xs.length := by
          have l1 := hd.length
          have l2 := congrArg List.length hk
          simp at l1 l2 ⊢
          omega
        have hx : AtD c (upd G p (.ins C dx vs)) (.ref p) (.ins C ((fs.map (·.1)).zip xs)) := .ins upd_same (by rw [zip_fst hl]; exact hk) (by rw [zip_snd hl]; exact hd.mono fun b w e => get_new g e)
        obtain ⟨R1, s1⟩ := R.frz hn hm g h1 hx
        exact ⟨_, R1, s1, hx⟩
    · cases e
theorem fzs_ok : ∀ {G : Hp} {μ : MS} {vs : List V} {ys : List Dv} {μ1 : MS} {xs : List Da}, Rel c ρ G H μ → AtAll c ρ G vs ys → fzs μ ys = some (μ1, xs) → ∃ G', Rel c ρ G' H μ1 ∧ Stp c.st ρ G H ρ G' H ∧ AtDs c G' vs xs
  | G, _, _, _, _, _, R, .nil, e => by cases e; exact ⟨G, R, Stp.refl, .nil⟩
  | G, μ, _, _, _, _, R, .cons (d := d) (ds := ds) a t, e => by
    simp only [fzs] at e
    cases q1 : fz1 μ d with
    | none => rw [q1] at e; cases e
    | some p =>
      obtain ⟨μ1, x⟩ := p
      rw [q1] at e
      cases q2 : fzs μ1 ds with
      | none => simp only [q2] at e; cases e
      | some p2 =>
        simp only [q2] at e
        cases e
        obtain ⟨G1, R1, s1, h1⟩ := fz1_ok R a q1
        obtain ⟨G2, R2, s2, h2⟩ := fzs_ok R1 (s1.all t) q2
        exact ⟨G2, R2, s1.trans s2, .cons (h1.mono s2.gg) h2⟩
end
end Mz
end
section
set_option Elab.async false
set_option linter.all false
set_option maxRecDepth 100000
set_option maxHeartbeats 4000000
namespace Mz
open PySem L2
/-! ### what a value is as data, at the end of a def -/
mutual
inductive Rz (μ : MS) : Dv → Da → Prop
  | d (x : Da) : Rz μ (.d x) x
  | frz {n : Nat} {x : Da} : μ[n]? = some (.frz x) → Rz μ (.ob n) x
  | lst {n : Nat} {ys : List Dv} {xs : List Da} : μ[n]? = some (.lst ys) → RzAll μ ys xs → Rz μ (.ob n) (.lst xs)
  | dct {n : Nat} {ks : List (Key × Dv)} {xs : List Da} : μ[n]? = some (.dct ks) → RzAll μ (ks.map (·.2)) xs → Rz μ (.ob n) (.dct ((ks.map (·.1)).zip xs))
  | ins {n : Nat} {C : Addr} {fs : List (Str × Dv)} {xs : List Da} : μ[n]? = some (.ins C fs) → RzAll μ (fs.map (·.2)) xs → Rz μ (.ob n) (.ins C ((fs.map (·.1)).zip xs))
  | tp {ys : List Dv} {xs : List Da} : RzAll μ ys xs → Rz μ (.tp ys) (.tup xs)
inductive RzAll (μ : MS) : List Dv → List Da → Prop
  | nil : RzAll μ [] []
  | cons {y : Dv} {ys : List Dv} {x : Da} {xs : List Da} : Rz μ y x → RzAll μ ys xs → RzAll μ (y :: ys) (x :: xs)
end
theorem RzAll.map (μ : MS) : ∀ xs : List Da, RzAll μ (xs.map .d) xs
  | [] => .nil
  | x :: r => .cons (.d x) (RzAll.map μ r)
theorem RzAll.length {μ : MS} : ∀ {ys : List Dv} {xs : List Da}, RzAll μ ys xs → ys.length = xs.length
  | _, _, .nil => rfl
  | _, _, .cons _ t => by simp [t.length]
/-- all one's own objects frozen -/
def frzG (ρ : List Addr) (G H : Hp) : Hp := fun b => if b ∈ ρ then H b else G b
section
variable {c : Cn} {E : XK} {ρ ρ0 : List Addr} {G H G0 H0 : Hp} {μ : MS}
theorem frzG_in {b : Addr} (h : b ∈ ρ) : frzG ρ G H b = H b := if_pos h
theorem frzG_out {b : Addr} (h : b ∉ ρ) : frzG ρ G H b = G b := if_neg h
theorem frzG_gg (R : Rel c ρ G H μ) : Same G (frzG ρ G H) := fun b o e => by
  by_cases h : b ∈ ρ
  · rw [frzG_in h]; exact R.gh b o e
  · rw [frzG_out h]; exact e
mutual
theorem Rz.at_ (R : Rel c ρ G H μ) : ∀ {v : V} {y : Dv} {x : Da}, Rz μ y x → At c ρ G v y → AtD c (frzG ρ G H) v x
  | _, _, _, .d x, a => by
    cases a with
    | d a => exact a.mono (frzG_gg R)
  | _, _, _, .frz hm, a => by
    obtain ⟨p, rfl, hn, g, h1⟩ := R.at_ob a hm
    exact h1.mono (frzG_gg R)
  | _, _, _, .lst hm t, a => by
    obtain ⟨p, rfl, hn, g, vs, h1, h2⟩ := R.at_ob a hm
    exact .lst (by rw [frzG_in (List.mem_of_getElem? hn)]; exact h1) (RzAll.at_ R t h2)
  | _, _, _, .dct hm t, a => by
    obtain ⟨p, rfl, hn, g, vs, h1, hk, h2⟩ := R.at_ob a hm
    have hd := RzAll.at_ R t h2
    have hl := t.length
    simp only [List.length_map] at hl
    exact .dct (by rw [frzG_in (List.mem_of_getElem? hn)]; exact h1) (by rw [zip_fst (by simpa using hl)]; exact hk) (by rw [zip_snd (by simpa using hl)]; exact hd)
  | _, _, _, .ins hm t, a => by
    obtain ⟨p, rfl, hn, g, dx, vs, h1, hk, h2⟩ := R.at_ob a hm
    have hd := RzAll.at_ R t h2
    have hl := t.length
    simp only [List.length_map] at hl
    exact .ins (by rw [frzG_in (List.mem_of_getElem? hn)]; exact h1) (by rw [zip_fst (by simpa using hl)]; exact hk) (by rw [zip_snd (by simpa using hl)]; exact hd)
  | _, _, _, .tp t, a => by
    cases a with
    | tp h t2 => exact .tup (Same.tup (frzG_gg R) h) (RzAll.at_ R t t2)
theorem RzAll.at_ (R : Rel c ρ G H μ) : ∀ {vs : List V} {ys : List Dv} {xs : List Da}, RzAll μ ys xs → AtAll c ρ G vs ys → AtDs c (frzG ρ G H) vs xs
  | _, _, _, .nil, a => by cases a; exact .nil
  | _, _, _, .cons h t, a => by
    cases a with
    | cons a1 a2 => exact .cons (h.at_ R a1) (t.at_ R a2)
end
end
/-! ### defs that keep to themselves -/
abbrev PF := List Da → (Ex → Prop) → (Da → Prop) → Prop
def ExD (c : Cn) (G H : Hp) (e : Ex) (cls : Value) (dd : Option Addr) : Prop := cls = .ref e.cls ∧ ((e.fs = [] ∧ dd = none) ∨ ∃ d fvs, dd = some d ∧ H d = some (.xd fvs) ∧ fvs.map (·.1) = e.fs.map (·.1) ∧ AtDs c G (fvs.map (·.2)) (e.fs.map (·.2)))
def spP (K : PySem.W.Frag) (f : PF) : Sp := fun vs H Q E => ∃ (st : Addr) (G : Hp) (ds : List Da), StOk G H st ∧ Same G H ∧ AtDs ⟨K, st⟩ G vs ds ∧
  ∃ (E' : Ex → Prop) (Q' : Da → Prop), f ds E' Q' ∧ (∀ e, E' e → ∀ cls dd G' H', Gr [st] G H G' H' → StOk G' H' st → ExD ⟨K, st⟩ G' H' e cls dd → E cls dd H') ∧ (∀ d, Q' d → ∀ v G' H', Gr [st] G H G' H' → StOk G' H' st → AtD ⟨K, st⟩ G' v d → Q v H')
def startD (n : Nat) (ds : List Dv) : Env' := ds.map some ++ List.replicate (n - ds.length) none
section
variable {K : PySem.W.Frag} {E : XK} {ρ ρ0 : List Addr} {G H G0 H0 : Hp} {μ : MS}
theorem env_none {c : Cn} : ∀ n : Nat, EnvOk c ρ G (List.replicate n none) (List.replicate n none)
  | 0 => .nil
  | n + 1 => .no (env_none n)
theorem env_start {c : Cn} {N : List Str} : ∀ {vs : List V} {ds : List Dv}, AtAll c ρ G vs ds → EnvOk c ρ G (L2.start N vs) (startD N.length ds) := by
  intro vs ds a
  unfold L2.start startD
  rw [a.length]
  generalize N.length - ds.length = k
  induction vs generalizing ds with
  | nil => cases a; exact env_none k
  | cons v vs ih =>
    cases a with
    | cons a1 a2 => exact .yes a1 (ih a2)
/-- nothing is raised -/
def fNo (f : PF) : PF := fun ds _ Q => f ds (fun _ => False) Q
/-! ### defs that work on objects -/
abbrev OF := List Dv → XS → MS → DK → Prop
def spO (K : PySem.W.Frag) (f : OF) : Sp := fun vs H Q E => ∃ (st : Addr) (ρ : List Addr) (G : Hp) (μ : MS) (ds : List Dv), Rel ⟨K, st⟩ ρ G H μ ∧ AtAll ⟨K, st⟩ ρ G vs ds ∧
  ∃ (E' : XS) (Q' : DK), f ds E' μ Q' ∧ PX ⟨K, st⟩ ρ G H E E' ∧ PQ ⟨K, st⟩ ρ G H Q Q'
def fOpen (n k : Nat) (b : BS) : OF := fun ds E μ Q => ds.length = k ∧ b { nx := fun _ μ' => Q (.d .non) μ', rt := Q, er := E } (startD n ds) μ
def fNoO (f : OF) : OF := fun ds _ μ Q => f ds noX μ Q
theorem open_ok0 {N : List Str} {k : Nat} {t : TS} {b : BS} (S : ∀ st, SS ⟨K, st⟩ E0 t b) {vs : List V} {H : Hp} {Q : VK} (h : spO K (fNoO (fOpen N.length k b)) vs H Q E) : t { nx := fun _ H' => Q .non H', rt := Q } (L2.start N vs) H := by
  obtain ⟨st, ρ, G, μ, ds, R, a, E', Q', ⟨hl, h⟩, px, q⟩ := h
  refine (S st).run (D' := { nx := fun _ μ' => Q' (.d .non) μ', rt := Q', er := noX }) R (env_start a) ⟨?_, q, ?_, ?_, px_no⟩ h
  · intro α' μ' x σ' ρ' G' H' s' R' e'
    exact q _ _ x _ _ _ _ s' R' (.d .non)
  · intro α' μ' x; exact x.elim
  · intro α' μ' x; exact x.elim
theorem open_len0 {n k : Nat} {b : BS} {vs : List V} {H : Hp} {Q : VK} (h : spO K (fNoO (fOpen n k b)) vs H Q E) : vs.length = k := by
  obtain ⟨st, ρ, G, μ, ds, R, a, E', Q', ⟨hl, h⟩, px, q⟩ := h
  rw [a.length]; exact hl
end
/-! ### calls -/
section
variable {c : Cn} {E : XK} {ρ ρ0 : List Addr} {G H G0 H0 : Hp} {μ : MS}
/-- what a call does, by values -/
abbrev CF := List Dv → XS → MS → DK → Prop
def cP (f : PF) : CF := fun ds E μ Q => ∃ μ2 xs, fzs μ ds = some (μ2, xs) ∧ f xs (fun e => E e μ2) (fun x => Q (.d x) μ2)
def cO (f : OF) : CF := fun ds E μ Q => f ds E μ Q
/-- sp serves the call: for what is raised Ex is wished -/
structure SC (c : Cn) (E Ex : XK) (sp : Sp) (f : CF)  : Prop where
  run : ∀ {ρ : List Addr} {G H : Hp} {μ : MS} {vs : List V} {ds : List Dv} {Q : VK} {E' : XS} {Q' : DK}, Rel c ρ G H μ → AtAll c ρ G vs ds → PX c ρ G H E E' → PQ c ρ G H Q Q' → f ds E' μ Q' → sp vs H Q Ex
instance (c : Cn) (E Ex : XK) (sp : Sp) (f : CF)  : CoeFun (SC c E Ex sp f) fun _ => ∀ {ρ : List Addr} {G H : Hp} {μ : MS} {vs : List V} {ds : List Dv} {Q : VK} {E' : XS} {Q' : DK}, Rel c ρ G H μ → AtAll c ρ G vs ds → PX c ρ G H E E' → PQ c ρ G H Q Q' → f ds E' μ Q' → sp vs H Q Ex := ⟨fun h => h.run⟩
theorem Rel.after (R : Rel c ρ G H μ) {G1 H1 : Hp} (g : Gr [c.st] G H G1 H1) (so : StOk G1 H1 c.st) : Rel c ρ G1 H1 μ ∧ Stp c.st ρ G H ρ G1 H1 := R.draw g so
/-- nothing is raised by it -/
def NoE (f : PF) : Prop := ∀ ds E Q, f ds E Q → f ds (fun _ => False) Q
def NoEO (f : OF) : Prop := ∀ ds E μ Q, f ds E μ Q → f ds noX μ Q
theorem sc_P0 {f : PF} (hf : NoE f) : SC c E E0 (spP c.K f) (cP f) := by
  refine ⟨?_⟩
  rintro ρ G H μ vs ds Q E' Q' R a px q ⟨μ2, xs, e, h⟩
  obtain ⟨G', R', s', a'⟩ := fzs_ok R a e
  refine ⟨c.st, G', xs, R'.so, R'.gh, a', fun _ => False, _, hf _ _ _ h, fun _ x => x.elim, ?_⟩
  intro d hd v G2 H2 g so a2
  obtain ⟨R2, s2⟩ := R'.draw g so
  exact q _ _ hd _ _ _ _ (s'.trans s2) R2 (.d a2)
theorem sc_O0 {f : OF} (hf : NoEO f) : SC c E E0 (spO c.K f) (cO f) := ⟨fun R a px q h => ⟨c.st, _, _, _, _, R, a, noX, _, hf _ _ _ _ h, px_no, q⟩⟩
/-! the forms of calls -/
def mCall (f : CF) (r : AS) : ES := fun E α μ Q => r E α μ fun ds μ1 => f ds E μ1 Q
theorem se_call {E1 : XK} {sp : Sp} {f : CF} {ta : TA} {r : AS} (hs : SC c E E1 sp f) (ha : SA c E ta r) : SE c E (tCall sp [] E1 ta) (mCall f r) := by
  refine ⟨?_⟩
  intro ρ G H σ α μ Q E' Q' R e px q h
  refine ha R e px ?_ h
  intro ds μ1 h1 vs ρ1 G1 H1 s1 R1 a1
  have := hs R1 a1 (px.step s1) (q.step s1) h1
  rw [List.append_nil]
  exact this
/-! ### draws -/
def fTake : PF := fun ds _ Q => ∃ m : Int, ds = [.st, .int m] ∧ 0 < m ∧ m < 1048576 ∧ ∀ d : Int, 0 ≤ d → d < m → Q (.int d)
theorem take_of {A : Ad} {K : PySem.W.Frag} {vs : List V} {H : Hp} {Q : VK} {E : XK} (h : spP K (fNo fTake) vs H Q E) : sp_law_take A K vs H Q E := by
  obtain ⟨st, G, ds, so, gh, a, E', Q', ⟨m, rfl, m0, m1, hd⟩, hE, hQ⟩ := h
  cases a with
  | cons a1 t =>
    cases t with
    | cons a2 t =>
      cases t
      cases a1
      cases a2
      exact ⟨G, st, m, rfl, gh, so, m0, m1, fun d G' H' d0 d1 g s => hQ _ (hd d d0 d1) _ _ _ g s (.int _)⟩
end
end Mz
end
section
set_option Elab.async false
set_option linter.all false
set_option maxRecDepth 100000
set_option maxHeartbeats 4000000
namespace Mz
open PySem L2
theorem call_lenAny {X : Cx} : CallR X (.builtin "len") (rLenAny X.K) := CallR.or call_len call_lenD
end Mz
namespace Mz
open PySem L2
end Mz
end
section
set_option Elab.async false
set_option linter.all false
set_option maxRecDepth 100000
set_option maxHeartbeats 4000000
namespace L2
open PySem PySem.Spec PyProof.Rows Mz
section
variable {X : Cx}
theorem ix_seqK (K : PySem.W.Frag) (h : X.K = K := by rfl) : IxR X (rIx K) := by subst h; exact ix_seq
theorem op_eqDK (K : PySem.W.Frag) (hu : X.A.units + 64 < cLine) (h : X.K = K := by rfl) : OpR X (compareOp .Eq) (rEqD K) := by subst h; exact op_eqD hu
theorem op_neDK (K : PySem.W.Frag) (hu : X.A.units + 64 < cLine) (h : X.K = K := by rfl) : OpR X (compareOp .NotEq) (rNeD K) := by subst h; exact op_neD hu
theorem op_in_seqK (K : PySem.W.Frag) (h : X.K = K := by rfl) : OpR X (compareOp .In) (rIn K false) := by subst h; exact op_in_seq
theorem call_lenAnyK (K : PySem.W.Frag) (h : X.K = K := by rfl) : CallR X (.builtin "len") (rLenAny K) := by subst h; exact call_lenAny
theorem cr_allK (K : PySem.W.Frag) (hc : X.calm = true) (h : X.K = K := by rfl) : CallR X (.builtin "all") (rAll K) := by subst h; exact cr_all hc
theorem call_isiKK (K : PySem.W.Frag) (h : X.K = K := by rfl) : CallR X (.builtin "isinstance") (rIsi K) := by subst h; exact call_isi
theorem call_isiTK (K : PySem.W.Frag) (h : X.K = K := by rfl) : CallR X (.builtin "isinstance") (rIsiT K) := by subst h; exact call_isiT
theorem pi_sqK (K : PySem.W.Frag) {tg l : Expr} {tl : TE} (hl : PE X l tl) (h : X.K = K := by rfl) : PI X tg l (iSq K tl) := by subst h; exact pi_sq hl
end
end L2
end
section
set_option Elab.async false
set_option linter.all false
set_option maxRecDepth 100000
set_option maxHeartbeats 4000000
namespace Mz
open PySem L2
/-! ### freezing at will: lists whose items are frozen, through tuples -/
mutual
inductive Pu (μ : MS) : Dv → Da → Prop
  | d (x : Da) : Pu μ (.d x) x
  | frz {n : Nat} {x : Da} : μ[n]? = some (.frz x) → Pu μ (.ob n) x
  | tp {ys : List Dv} {xs : List Da} : PuAll μ ys xs → Pu μ (.tp ys) (.tup xs)
inductive PuAll (μ : MS) : List Dv → List Da → Prop
  | nil : PuAll μ [] []
  | cons {y : Dv} {ys : List Dv} {x : Da} {xs : List Da} : Pu μ y x → PuAll μ ys xs → PuAll μ (y :: ys) (x :: xs)
end
theorem PuAll.map (μ : MS) : ∀ xs : List Da, PuAll μ (xs.map .d) xs
  | [] => .nil
  | x :: r => .cons (.d x) (PuAll.map μ r)
inductive Fz : MS → MS → Prop
  | refl (μ : MS) : Fz μ μ
  | lst {μ μ' : MS} {n : Nat} {ys : List Dv} {xs : List Da} : μ[n]? = some (.lst ys) → PuAll μ ys xs → Fz (μ.set n (.frz (.lst xs))) μ' → Fz μ μ'
theorem Fz.trans {μ1 μ2 μ3 : MS} (h : Fz μ1 μ2) (g : Fz μ2 μ3) : Fz μ1 μ3 := by
  induction h with
  | refl => exact g
  | lst h1 h2 _ ih => exact .lst h1 h2 (ih g)
section
variable {c : Cn} {E : XK} {ρ : List Addr} {H : Hp}
mutual
theorem Pu.ok {G : Hp} {μ : MS} (R : Rel c ρ G H μ) : ∀ {v : V} {y : Dv} {x : Da}, At c ρ G v y → Pu μ y x → AtD c G v x
  | _, _, _, a, .d _ => by cases a with | d a => exact a
  | _, _, _, a, .frz hm => by
    obtain ⟨p, rfl, hn, g, h1⟩ := R.at_ob a hm
    exact h1
  | _, _, _, a, .tp t => by cases a with | tp h t' => exact .tup h (PuAll.ok R t' t)
theorem PuAll.ok {G : Hp} {μ : MS} (R : Rel c ρ G H μ) : ∀ {vs : List V} {ys : List Dv} {xs : List Da}, AtAll c ρ G vs ys → PuAll μ ys xs → AtDs c G vs xs
  | _, _, _, a, .nil => by cases a; exact .nil
  | _, _, _, a, .cons h t => by cases a with | cons a1 a2 => exact .cons (Pu.ok R a1 h) (PuAll.ok R a2 t)
end
theorem Fz.ok {μ μ1 : MS} (h : Fz μ μ1) : ∀ {G : Hp}, Rel c ρ G H μ → ∃ G', Rel c ρ G' H μ1 ∧ Stp c.st ρ G H ρ G' H := by
  induction h with
  | refl μ => intro G R; exact ⟨G, R, Stp.refl⟩
  | @lst μ μ' n ys xs hm t _ ih =>
    intro G R
    have hl : n < ρ.length := by rw [R.len]; exact (List.getElem?_eq_some_iff.mp hm).1
    obtain ⟨p, ep, hn, g, vs, h1, t1⟩ := R.at_ob (.ob (List.getElem?_eq_getElem hl)) hm
    have hx : AtD c (upd G p (.lst vs)) (.ref p) (.lst xs) := .lst upd_same ((PuAll.ok R t1 t).mono fun b w e => get_new g e)
    obtain ⟨R1, s1⟩ := R.frz hn hm g h1 hx
    obtain ⟨G2, R2, s2⟩ := ih R1
    exact ⟨G2, R2, s1.trans s2⟩
end
section
variable {c : Cn}
/-! ### is True, is False -/
def oIsB (neg : Bool) : O2 := fun d1 d2 μ Q => ∃ a b, d1 = .d (.bl a) ∧ d2 = .d (.bl b) ∧ Q (.d (.bl (if neg = true then !decide (a = b) else decide (a = b)))) μ
theorem so_isB : SO c rIsB (oIsB false) := by
  refine ⟨?_⟩
  rintro ρ G H μ x y d1 d2 Q Q' R a1 a2 q ⟨a, b, rfl, rfl, h⟩
  exact ⟨a, b, at_bl a1, at_bl a2, q.here R (.d (.bl _)) h⟩
end
end Mz
end
section
set_option Elab.async false
set_option linter.all false
set_option maxRecDepth 100000
set_option maxHeartbeats 4000000
namespace Mz
open PySem L2
@[irreducible] def m_law_take (A : Ad) (K : PySem.W.Frag) : PF := fNo fTake
theorem ne_law_take {A : Ad} {K : PySem.W.Frag} : NoE (m_law_take A K) := by unfold m_law_take; exact fun _ _ _ h => h
end Mz
end
section
set_option Elab.async false
set_option linter.all false
set_option maxRecDepth 100000
set_option maxHeartbeats 4000000
namespace Mz
open PySem L2
/-! ### the law itself: a state is made, the rest runs over data -/
end Mz
end
section
set_option Elab.async false
set_option linter.all false
set_option maxRecDepth 100000
set_option maxHeartbeats 4000000
namespace Mz
open PySem L2
end Mz
end
section
set_option Elab.async false
set_option linter.all false
set_option maxRecDepth 100000
set_option maxHeartbeats 4000000
namespace Mz
open PySem L2
end Mz
end
section
set_option Elab.async false
set_option linter.all false
set_option maxRecDepth 100000
set_option maxHeartbeats 4000000
namespace Mz
open PySem L2
end Mz
end
section
set_option Elab.async false
set_option linter.all false
set_option maxRecDepth 100000
set_option maxHeartbeats 4000000
namespace Mz
open PySem L2
end Mz
end
section
set_option Elab.async false
set_option linter.all false
set_option maxRecDepth 100000
set_option maxHeartbeats 4000000
namespace Mz
open PySem L2
theorem fn_badO {P : Program} {w : World} {K : PySem.W.Frag} {mg : Str → Option Value} {base : Heap} {k : Nat} {f : Addr} {fd : FuncData} {ps : List Str} : FnOk P w K mg base CX0 k f fd ps (spO K fun _ _ _ _ => False) :=
  ⟨fun vs H Q E h => by obtain ⟨_, _, _, _, _, _, _, _, _, h, _⟩ := h; exact h.elim, fun A outer s H args us vs Q E _ _ _ _ h => by obtain ⟨_, _, _, _, _, _, _, _, _, h, _⟩ := h; exact h.elim⟩
end Mz
end
section
set_option Elab.async false
set_option linter.all false
set_option maxRecDepth 100000
set_option maxHeartbeats 4000000
namespace Mz
open PySem L2
end Mz
end
section
set_option Elab.async false
set_option linter.all false
set_option maxRecDepth 100000
set_option maxHeartbeats 4000000
namespace Mz
open PySem L2
end Mz
end
section
set_option Elab.async false
set_option linter.all false
set_option maxRecDepth 100000
set_option maxHeartbeats 4000000
namespace L2
open PySem
end L2
namespace Mz
open PySem L2
end Mz
end
section
set_option Elab.async false
set_option linter.all false
set_option maxRecDepth 100000
set_option maxHeartbeats 4000000
namespace Mz
open PySem L2
end Mz
end
section
set_option Elab.async false
set_option linter.all false
set_option maxRecDepth 100000
set_option maxHeartbeats 4000000
namespace Mz
open PySem L2 LamX
/-! ### raise -/
section
variable {c : Cn} {E : XK}
theorem AtDs.two {G : Hp} {vs : List V} {x y : Da} (h : AtDs c G vs [x, y]) : ∃ v u, vs = [v, u] ∧ AtD c G v x ∧ AtD c G u y := by
  match vs, h with
  | [v, u], .cons h1 (.cons h2 .nil) => exact ⟨v, u, rfl, h1, h2⟩
theorem AtDs.one_ {G : Hp} {vs : List V} {x : Da} (h : AtDs c G vs [x]) : ∃ v, vs = [v] ∧ AtD c G v x := by
  match vs, h with
  | [v], .cons h1 .nil => exact ⟨v, rfl, h1⟩
end
/-! ### tried -/
abbrev lamQ : Str := "law.<locals>.<lambda>"
end Mz
end
section
set_option Elab.async false
set_option linter.all false
set_option maxRecDepth 100000
set_option maxHeartbeats 4000000
namespace L2
open PySem PySem.Spec PyProof.Rows LamX
/-- THE RULE for the law, its code object told -/
theorem Fun.okT {P : Program} {w : World} {K : PySem.W.Frag} {mg : Str → Option Value} {base : Heap} {x qual : Str} {st : Stmt} {f : Addr} {fd : FuncData} {N ps : List Str} {k : Nat} {sp : Sp} (F : Fun K x qual st f fd) (S : FnScope N ps (defScope st)) (len : ∀ vs H Q E, sp vs H Q E → vs.length = ps.length)
    (hbody : ∀ (c : Addr), fd.code = .ref c → ∀ (A : Around) (outer : List Env) (s : Shared) (H : Hp) (vs : List V) (Q : VK) (E : XK), Room k (A.deeper (envOfC qual (defScope st) s.heap.objs.size f (.ref c))) → sp vs H Q E →
      ∃ t, PSs (cxOf CX0 P w K mg base N qual (defScope st) f (.ref c) A outer s H E).nox (defBody st) t ∧ t { nx := fun _ H' => Q .non H', rt := Q } (start N vs) H) : FnOk P w K mg base CX0 (k + 1) f fd ps sp := by
  obtain ⟨oc, od, kV, doc, pm, an, cdv, ct, osl, rfl, lk, hcd⟩ := F.ex
  obtain ⟨c, rfl⟩ := He.codeIn_ref hcd
  refine fn_of lk hcd S len fun A outer s H vs Q E hr hsp => ?_
  obtain ⟨t, h, q⟩ := hbody c rfl A outer s H vs Q E hr hsp
  exact ⟨t, h.nox, q⟩
end L2
namespace Mz
open PySem L2 LamX
def spLawT (K : PySem.W.Frag) (P : Addr) : Sp := fun vs H Q _ => ∃ (a : Addr) (ns : List Int), vs = [.ref a] ∧ SqL K H a (ns.map V.int) ∧ ns.length ≤ 63 ∧ H P = some (.tbl #[]) ∧ ∀ H', Q (.bl true) H'
theorem relT {K : PySem.W.Frag} {st P : Addr} {G H : Hp} {q : Str} (so : StOk G H st) (gh : Same G H) (hP : H P = some (.tbl #[])) (gP : G P = none) (hst : st ≠ P) : Rel ⟨K, st⟩ [P] G H [.tb P q] where
  gh := gh
  len := rfl
  nd := by simp
  ob := fun n a o h1 h2 => by
    match n, h1, h2 with
    | 0, h1, h2 =>
      cases h1
      cases h2
      exact ⟨gP, rfl, #[], hP, True.intro, fun pos cv hc => by simp [codeAmong] at hc⟩
    | n + 1, h1, h2 => simp at h1
  so := so
  sn := by simpa using hst
theorem law_okT {A : Ad} {K : PySem.W.Frag} {m : Nat} {t : TS} {b : BS} {N : List Str} (S : ∀ st, SS ⟨K, st⟩ E0 t b) (hN : N.length = m + 2)
    (hb : ∀ D : En, (∀ μ, D.rt (.d (.bl true)) μ) → D.er = noX → b D (none :: some (.d .st) :: List.replicate m none) [.tb A.lawT lamQ]) {vs : List V} {H : Hp} {Q : VK} {E : XK} (h : spLawT K A.lawT vs H Q E) :
    tSeq (tAsg (tCall (sp_law_fresh A K) [] E0 (tCons (tVar 0) tNil)) (gName 1)) t { nx := fun _ H' => Q .non H', rt := Q } (L2.start N vs) H := by
  obtain ⟨a, ns, rfl, hS, hl, hT, k⟩ := h
  have e : L2.start N [V.ref a] = some (.ref a) :: none :: List.replicate m none := by
    unfold L2.start
    rw [hN]
    rfl
  rw [e]
  refine ⟨.ref a, rfl, fun _ => none, a, ns, rfl, fun _ _ z => (by cases z), hS, fun st G' H' hn g so => ?_⟩
  have hP : H' A.lawT = some (.tbl #[]) := g.hh _ _ (by simp) hT
  have gP : G' A.lawT = none := by
    cases e2 : G' A.lawT with
    | none => rfl
    | some o =>
      have := g.fr _ _ e2 rfl
      rw [hT] at this
      cases this
  have hst : st ≠ A.lawT := fun z => by rw [z, hT] at hn; cases hn
  refine (S st).run (relT so g.gh hP gP hst) (α := none :: some (.d .st) :: List.replicate m none) (D' := { nx := fun _ _ => False, rt := fun d _ => d = .d (.bl true), er := noX, bk := fun _ _ => False, ct := fun _ _ => False }) (.un (.yes (.d .st) (env_none m))) ⟨?_, ?_, ?_, ?_, ?_⟩ (hb _ (fun _ => rfl) rfl)
  · intro α' μ' x; exact x.elim
  · rintro d μ' rfl v ρ' G1 H1 s' R' a'
    obtain rfl := at_bl a'
    exact k H1
  · intro α' μ' x; exact x.elim
  · intro α' μ' x; exact x.elim
  · intro e μ' x; exact x.elim
/-! ### the words for errors: what the two defs of the law tell -/
theorem Out1.dd {D : Addr} {w f : Str} {d : Option Addr} {H : Hp} {Q : VK} (h : Out1 D w f d H Q) : ∀ dd, d = some dd → ∃ fs, H dd = some (.xd fs) := by
  obtain ⟨dd, fs, v, rfl, h1, _⟩ := h
  intro x hx
  cases hx
  exact ⟨fs, h1⟩
theorem Out2.dd {d : Option Addr} {H : Hp} {Q : VK} (h : Out2 d H Q) : ∀ dd, d = some dd → ∃ fs, H dd = some (.xd fs) := by
  obtain ⟨dd, fs, v, u, rfl, h1, _⟩ := h
  intro x hx
  cases hx
  exact ⟨fs, h1⟩
theorem OutB.dd {A : Ad} {D : Addr} {d : Option Addr} {H : Hp} {Q : VK} (h : OutB A D d H Q) : ∀ dd, d = some dd → ∃ fs, H dd = some (.xd fs) := by
  rcases h with ⟨w, f, _, h⟩ | ⟨w, _, h⟩
  · exact h.dd
  · exact h.1
theorem ErrK.no {K : PySem.W.Frag} {A : Ad} (E : ErrK K A) {i j : Nat} {D C : Addr} (hi : (errCls A)[i]? = some D) (hj : (errCls A)[j]? = some C) (n : i ≠ j) : PySem.W.kitOne K (.ref D) (.ref C) = some false := by
  rw [E.kit i j D C hi hj, decide_eq_false n]
theorem ErrK.yes {K : PySem.W.Frag} {A : Ad} (E : ErrK K A) {i : Nat} {D : Addr} (hi : (errCls A)[i]? = some D) : PySem.W.kitOne K (.ref D) (.ref D) = some true := by
  rw [E.kit i i D D hi hi, decide_eq_true rfl]
end Mz
end
section
set_option Elab.async false
set_option linter.all false
set_option maxRecDepth 100000
set_option maxHeartbeats 4000000
namespace Mz
open PySem L2
end Mz
end
section
set_option Elab.async false
set_option linter.all false
set_option maxRecDepth 100000
set_option maxHeartbeats 1000000
namespace Mz
open PySem L2 TL
local macro_rules | `(tactic| row_cond sd) => `(tactic| first | with_reducible assumption | with_reducible exact rfl | exact rfl | exact True.intro | assumption | decide)
local macro_rules | `(tactic| row_cond st) => `(tactic| first
  | refine And.intro (by row_cond sd) ?_
  | refine ⟨_, by row_cond sd, ?_⟩
  | refine ⟨_, _, by row_cond sd, ?_⟩
  | refine ⟨_, _, by row_cond sd, by row_cond sd, ?_⟩
  | refine ⟨_, _, _, by row_cond sd, ?_⟩
  | refine ⟨_, _, _, by row_cond sd, by row_cond sd, ?_⟩
  | refine ⟨_, _, _, by row_cond sd, by row_cond sd, by row_cond sd, ?_⟩
  | refine ⟨_, _, _, _, by row_cond sd, ?_⟩
  | refine ⟨_, _, _, _, by row_cond sd, by row_cond sd, by row_cond sd, ?_⟩
  | refine ⟨_, _, _, _, by row_cond sd, by row_cond sd, by row_cond sd, by row_cond sd, ?_⟩
  | refine iteT ?_
  | refine iteF ?_)
local macro_rules | `(tactic| row_cond go) => `(tactic| repeat (row_cond st))
/-! ### lists and dicts that are never changed; {} == {} -/
def rEqX (K : PySem.W.Frag) : R2 := fun x y H Q => rEqD K x y H Q ∨ rEqDA x y H Q
theorem op_eqXK {X : Cx} (K : PySem.W.Frag) (hu : X.A.units + 64 < cLine) (h : X.K = K := by rfl) : OpR X (compareOp .Eq) (rEqX K) := by
  intro pins s σ H x y v u Q I rx ry hh
  rcases hh with hh | hh
  · exact op_eqDK K hu h pins s σ H x y v u Q I rx ry hh
  · exact op_eq_dictA (by omega) pins s σ H x y v u Q I rx ry hh
def oEqX : O2 := fun d1 d2 μ Q => oEqD false d1 d2 μ Q ∨ (d1 = .d (.dct []) ∧ d2 = .d (.dct []) ∧ Q (.d (.bl true)) μ)
theorem so_eqX {c : Cn} : SO c (rEqX c.K) oEqX := by
  refine ⟨?_⟩
  rintro ρ G H μ x y d1 d2 Q Q' R a1 a2 q (h | ⟨rfl, rfl, h⟩)
  · exact .inl (so_eqD.run R a1 a2 q h)
  · cases a1 with
    | d a1 => cases a2 with
      | d a2 =>
        cases a1 with
        | dct e1 k1 t1 => cases a2 with
          | dct e2 k2 t2 =>
            rename_i a kvs b kvs2
            have z1 : kvs = [] := List.map_eq_nil_iff.mp k1
            have z2 : kvs2 = [] := List.map_eq_nil_iff.mp k2
            subst z1 z2
            exact .inr ⟨a, b, [], [], rfl, rfl, R.gh _ _ e1, R.gh _ _ e2, rfl, by simp, q.here R (.d (.bl _)) h⟩
end Mz
end
section
set_option Elab.async false
set_option linter.all false
set_option maxRecDepth 100000
set_option maxHeartbeats 4000000
namespace Mz
open PySem L2
end Mz
end
section
set_option Elab.async false
set_option linter.all false
set_option maxRecDepth 100000
set_option maxHeartbeats 2000000
namespace L2
open PySem PySem.Spec PyProof.Rows PySem.W Mz
end L2
end
section
set_option Elab.async false
set_option linter.all false
set_option maxRecDepth 100000
set_option maxHeartbeats 1000000
namespace Mz
open PySem L2 TL
local macro_rules | `(tactic| row_cond sd) => `(tactic| first | with_reducible assumption | with_reducible exact rfl | exact rfl | exact True.intro | assumption | decide)
local macro_rules | `(tactic| row_cond st) => `(tactic| first
  | refine And.intro (by row_cond sd) ?_
  | refine ⟨_, by row_cond sd, ?_⟩
  | refine ⟨_, _, by row_cond sd, ?_⟩
  | refine ⟨_, _, by row_cond sd, by row_cond sd, ?_⟩
  | refine ⟨_, _, _, by row_cond sd, ?_⟩
  | refine ⟨_, _, _, by row_cond sd, by row_cond sd, ?_⟩
  | refine ⟨_, _, _, by row_cond sd, by row_cond sd, by row_cond sd, ?_⟩
  | refine ⟨_, _, _, _, by row_cond sd, ?_⟩
  | refine ⟨_, _, _, _, by row_cond sd, by row_cond sd, by row_cond sd, ?_⟩
  | refine ⟨_, _, _, _, by row_cond sd, by row_cond sd, by row_cond sd, by row_cond sd, ?_⟩
  | refine iteT ?_
  | refine iteF ?_)
local macro_rules | `(tactic| row_cond go) => `(tactic| repeat (row_cond st))
/-! ### the own == against anything -/
end Mz
end
section
set_option Elab.async false
set_option linter.all false
set_option maxRecDepth 100000
set_option maxHeartbeats 1000000
namespace Mz
open PySem L2 TL
local macro_rules | `(tactic| row_cond sd) => `(tactic| first | with_reducible assumption | with_reducible exact rfl | exact rfl | exact True.intro | assumption | decide)
local macro_rules | `(tactic| row_cond st) => `(tactic| first
  | refine And.intro (by row_cond sd) ?_
  | refine ⟨_, by row_cond sd, ?_⟩
  | refine ⟨_, _, by row_cond sd, ?_⟩
  | refine ⟨_, _, by row_cond sd, by row_cond sd, ?_⟩
  | refine ⟨_, _, _, by row_cond sd, ?_⟩
  | refine ⟨_, _, _, by row_cond sd, by row_cond sd, ?_⟩
  | refine ⟨_, _, _, by row_cond sd, by row_cond sd, by row_cond sd, ?_⟩
  | refine ⟨_, _, _, _, by row_cond sd, ?_⟩
  | refine ⟨_, _, _, _, by row_cond sd, by row_cond sd, by row_cond sd, ?_⟩
  | refine ⟨_, _, _, _, by row_cond sd, by row_cond sd, by row_cond sd, by row_cond sd, ?_⟩
  | refine iteT ?_
  | refine iteF ?_)
local macro_rules | `(tactic| row_cond go) => `(tactic| repeat (row_cond st))
/-! ### an instance made apart, read off as data -/
end Mz
end
section
set_option Elab.async false
set_option linter.all false
set_option maxRecDepth 100000
set_option maxHeartbeats 1000000
namespace Mz
open PySem L2 TL
local macro_rules | `(tactic| row_cond sd) => `(tactic| first | with_reducible assumption | with_reducible exact rfl | exact rfl | exact True.intro | assumption | decide)
local macro_rules | `(tactic| row_cond st) => `(tactic| first
  | refine And.intro (by row_cond sd) ?_
  | refine ⟨_, by row_cond sd, ?_⟩
  | refine ⟨_, _, by row_cond sd, ?_⟩
  | refine ⟨_, _, by row_cond sd, by row_cond sd, ?_⟩
  | refine ⟨_, _, _, by row_cond sd, ?_⟩
  | refine ⟨_, _, _, by row_cond sd, by row_cond sd, ?_⟩
  | refine ⟨_, _, _, by row_cond sd, by row_cond sd, by row_cond sd, ?_⟩
  | refine ⟨_, _, _, _, by row_cond sd, ?_⟩
  | refine ⟨_, _, _, _, by row_cond sd, by row_cond sd, by row_cond sd, ?_⟩
  | refine ⟨_, _, _, _, by row_cond sd, by row_cond sd, by row_cond sd, by row_cond sd, ?_⟩
  | refine iteT ?_
  | refine iteF ?_)
local macro_rules | `(tactic| row_cond go) => `(tactic| repeat (row_cond st))
/-! ### a value that will not be changed any more -/
section
variable {c : Cn} {E : XK}
def mFz (a : ES) : ES := fun E α μ Q => a E α μ fun d μ1 => ∃ μ2 x, fz1 μ1 d = some (μ2, x) ∧ Q (.d x) μ2
theorem se_fz {te : TE} {a : ES} (ha : SE c E te a) : SE c E te (mFz a) := by
  refine ⟨?_⟩
  intro ρ G H σ α μ Q E' Q' R e px q h
  refine ha R e px ?_ h
  rintro d μ1 ⟨μ2, x, hz, h1⟩ v ρ1 G1 H1 s1 R1 a1
  obtain ⟨G2, R2, s2, a2⟩ := fzs_ok (ys := [d]) (xs := [x]) (μ1 := μ2) R1 (.cons a1 .nil) (by simp [fzs, hz])
  obtain ⟨u, hu, hx⟩ := a2.one_
  obtain rfl : v = u := by simpa using hu
  exact q _ _ h1 _ _ _ _ (s1.trans s2) R2 (.d hx)
end
end Mz
end
section
set_option Elab.async false
set_option linter.all false
set_option maxRecDepth 100000
set_option maxHeartbeats 4000000
namespace Mz
open PySem L2
end Mz
end
section
set_option Elab.async false
set_option linter.all false
set_option maxRecDepth 100000
set_option maxHeartbeats 1000000
namespace Mz
open PySem L2 TL
local macro_rules | `(tactic| row_cond sd) => `(tactic| first | with_reducible assumption | with_reducible exact rfl | exact rfl | exact True.intro | assumption | decide)
local macro_rules | `(tactic| row_cond st) => `(tactic| first
  | refine And.intro (by row_cond sd) ?_
  | refine ⟨_, by row_cond sd, ?_⟩
  | refine ⟨_, _, by row_cond sd, ?_⟩
  | refine ⟨_, _, by row_cond sd, by row_cond sd, ?_⟩
  | refine ⟨_, _, _, by row_cond sd, ?_⟩
  | refine ⟨_, _, _, by row_cond sd, by row_cond sd, ?_⟩
  | refine ⟨_, _, _, by row_cond sd, by row_cond sd, by row_cond sd, ?_⟩
  | refine ⟨_, _, _, _, by row_cond sd, ?_⟩
  | refine ⟨_, _, _, _, by row_cond sd, by row_cond sd, by row_cond sd, ?_⟩
  | refine ⟨_, _, _, _, by row_cond sd, by row_cond sd, by row_cond sd, by row_cond sd, ?_⟩
  | refine iteT ?_
  | refine iteF ?_)
local macro_rules | `(tactic| row_cond go) => `(tactic| repeat (row_cond st))
/-! ### things that are no runs -/
end Mz
end
section
set_option Elab.async false
set_option linter.all false
set_option maxRecDepth 100000
set_option maxHeartbeats 4000000
namespace Mz
open PySem L2
end Mz
end
section
set_option Elab.async false
set_option linter.all false
set_option maxRecDepth 100000
set_option maxHeartbeats 4000000
namespace L2
open PySem PySem.Spec PyProof.Rows
end L2
namespace Mz
open PySem L2
end Mz
end
section
set_option Elab.async false
set_option linter.all false
set_option maxRecDepth 100000
set_option maxHeartbeats 4000000
namespace Mz
open PySem L2
end Mz
end
section
set_option Elab.async false
set_option linter.all false
set_option maxRecDepth 100000
set_option maxHeartbeats 4000000
namespace Mz
open PySem L2
end Mz
end
section
set_option Elab.async false
set_option linter.all false
set_option maxRecDepth 100000
set_option maxHeartbeats 4000000
namespace Mz
open PySem L2
end Mz
end
section
set_option Elab.async false
set_option linter.all false
set_option maxRecDepth 100000
set_option maxHeartbeats 4000000
namespace Mz
open PySem L2
end Mz
end
section
set_option Elab.async false
set_option linter.all false
set_option maxRecDepth 100000
set_option maxHeartbeats 4000000
namespace Mz
open PySem L2
end Mz
end
section
set_option Elab.async false
set_option linter.all false
set_option maxRecDepth 100000
set_option maxHeartbeats 4000000
namespace Mz
open PySem L2
section
variable {c : Cn} {E : XK}
/-! ### a value made anew that will not be changed any more: its lists frozen at will, then itself -/
inductive FzS : MS → MS → Prop
  | refl (μ : MS) : FzS μ μ
  | step {μ μ1 μ2 : MS} {n : Nat} {x : Da} : fz1 μ (.ob n) = some (μ1, x) → FzS μ1 μ2 → FzS μ μ2
theorem FzS.ok {ρ : List Addr} {H : Hp} {μ μ' : MS} (h : FzS μ μ') : ∀ {G : Hp}, Rel c ρ G H μ → ∃ G', Rel c ρ G' H μ' ∧ Stp c.st ρ G H ρ G' H := by
  induction h with
  | refl μ => exact fun {G} R => ⟨G, R, Stp.refl⟩
  | @step μ μ1 μ2 n x hz _ ih =>
    intro G R
    have hn : n < μ.length := by
      refine Nat.lt_of_not_le fun hl => ?_
      have : fz1 μ (.ob n) = none := by simp only [fz1, List.getElem?_eq_none hl]
      rw [this] at hz
      cases hz
    obtain ⟨a, ha⟩ : ∃ a, ρ[n]? = some a := ⟨_, List.getElem?_eq_getElem (by rw [R.len]; exact hn)⟩
    obtain ⟨G1, R1, s1, _⟩ := fzs_ok (ys := [.ob n]) (xs := [x]) (μ1 := μ1) R (.cons (.ob ha) .nil) (by simp [fzs, hz])
    obtain ⟨G2, R2, s2⟩ := ih R1
    exact ⟨G2, R2, s1.trans s2⟩
/-! ### C(..) with the keyword-only parameters left out -/
/-! ### xs[::-1] -/
end
end Mz
end
section
set_option Elab.async false
set_option linter.all false
set_option maxRecDepth 100000
set_option maxHeartbeats 1000000
namespace Mz
open PySem L2 TL
local macro_rules | `(tactic| row_cond sd) => `(tactic| first | with_reducible assumption | with_reducible exact rfl | exact rfl | exact True.intro | assumption | decide)
/-! ### x[i] by an own __getitem__ that may raise -/
/-! ### things that are no kinds -/
end Mz
end
section
set_option Elab.async false
set_option linter.all false
set_option maxRecDepth 100000
set_option maxHeartbeats 4000000
namespace Mz
open PySem L2
/-! ### errors as values -/
def excV (μ : MS) : Dv → Option (Addr × List (Str × Dv))
  | .ob n => match μ[n]? with
    | some (.exc C fs) => some (C, fs)
    | _ => none
  | _ => none
section
variable {c : Cn} {E : XK} {ρ : List Addr} {G H : Hp} {μ : MS}
theorem excV_ok (R : Rel c ρ G H μ) {v : V} {d : Dv} {C : Addr} {fds : List (Str × Dv)} (a : At c ρ G v d) (e : excV μ d = some (C, fds)) :
    ∃ p dx fvs, v = .ref p ∧ H p = some (exo p C dx) ∧ (∀ x, dx = some x → H x = some (exd x fvs)) ∧ (dx = none → fvs = []) ∧ fvs.map (·.1) = fds.map (·.1) ∧ AtAll c ρ G (fvs.map (·.2)) (fds.map (·.2)) := by
  cases d with
  | ob n =>
    unfold excV at e
    cases hm : μ[n]? with
    | none => simp [hm] at e
    | some o =>
      cases o with
      | exc C' fs =>
        simp only [hm, Option.some.injEq, Prod.mk.injEq] at e
        obtain ⟨rfl, rfl⟩ := e
        obtain ⟨p, rfl, _, o⟩ := R.at_ob a hm
        obtain ⟨_, dx, fvs, h1, h2, h3, h4, h5⟩ := o
        exact ⟨p, dx, fvs, rfl, h1, fun x z => R.gh _ _ (h2 x z), h3, h4, h5⟩
      | _ => simp [hm] at e
  | _ => cases e
/-- an error with a dict, new -/
theorem Rel.exc (R : Rel c ρ G H μ) {a dx C : Addr} {fvs : List (Str × V)} {fds : List (Str × Dv)} (ha : H a = none) (hd : H dx = none) (hne : dx ≠ a) (hk : fvs.map (·.1) = fds.map (·.1)) (t : AtAll c ρ G (fvs.map (·.2)) (fds.map (·.2))) :
    ∃ G', Rel c (ρ ++ [a]) G' (upd (upd H dx (exd dx fvs)) a (exo a C (some dx))) (μ ++ [.exc C fds]) ∧ Stp c.st ρ G H (ρ ++ [a]) G' (upd (upd H dx (exd dx fvs)) a (exo a C (some dx))) := by
  obtain ⟨R1, s1⟩ := R.newF (u := exd dx fvs) hd
  have ha1 : upd H dx (exd dx fvs) a = none := by
    rw [upd_ne (Ne.symm hne)]
    exact ha
  obtain ⟨R2, s2⟩ := R1.alloc (u := exo a C (some dx)) (o := .exc C fds) ha1 ⟨R1.free ha1, some dx, fvs, upd_same, fun x z => (by cases z; exact upd_same), fun z => (by cases z), hk, t.mono s1.gg pre1⟩
  exact ⟨_, R2, s1.trans s2⟩
/-- C(e): one field -/
def mMkV1 (C : Addr) (f : Str) (n m : Nat) (r rk : AS) : ES := fun E α μ Q => r E α μ fun ds μ1 => rk E α μ1 fun zs μ2 => ds.length = n ∧ zs.length = m ∧ ∃ d, ds ++ zs = [d] ∧ Q (.ob μ2.length) (μ2 ++ [.exc C [(f, d)]])
theorem se_mkV1 {C : Addr} {f : Str} {n m : Nat} {tr tk : TA} {r rk : AS} (T : OexC c.K C) (hf : PySem.W.findIn c.K (.ref C) f = some none) (hr : SA c E tr r) (hk : SA c E tk rk) : SE c E (tMkV C n m gApp (spI1 c.K C f) tr tk) (mMkV1 C f n m r rk) := by
  refine ⟨?_⟩
  intro ρ G H σ α μ Q E' Q' R e px q h
  refine hr R e px ?_ h
  intro ds μ1 h1 vs ρ1 G1 H1 s1 R1 a1
  refine hk R1 (s1.env e) (px.step s1) ?_ h1
  rintro zs μ2 ⟨l1, l2, d, hd, h2⟩ ws ρ2 G2 H2 s2 R2 a2
  have a3 := (s2.all a1).append a2
  rw [hd] at a3
  obtain ⟨v, hv, av⟩ := a3.sole
  refine ⟨by rw [a1.length]; exact l1, by rw [a2.length]; exact l2, fun a ha => ?_⟩
  show spI1 c.K C f ((V.ref a :: vs) ++ ws) _ _ _
  rw [List.cons_append, hv]
  refine mkV1 T hf ha fun dx hdx hne => ?_
  obtain ⟨G3, R3, s3⟩ := R2.exc (C := C) (fvs := [(f, v)]) (fds := [(f, d)]) ha hdx hne rfl (.cons av .nil)
  exact q _ _ h2 _ _ _ _ (s1.trans (s2.trans s3)) R3 (.ob (by rw [← R2.len]; simp))
def flip2 (rev : Bool) : List Dv → Option (Dv × Dv)
  | [x, y] => if rev then some (y, x) else some (x, y)
  | _ => none
/-- C(d, e): two fields -/
def mMkV2 (C : Addr) (f g : Str) (n m : Nat) (rev : Bool) (r rk : AS) : ES := fun E α μ Q => r E α μ fun ds μ1 => rk E α μ1 fun zs μ2 => ds.length = n ∧ zs.length = m ∧ ∃ d e, flip2 rev (ds ++ zs) = some (d, e) ∧ (rev = true → ds = []) ∧ Q (.ob μ2.length) (μ2 ++ [.exc C [(g, e), (f, d)]])
theorem AtAll.two2 {vs : List V} {x y : Dv} (h : AtAll c ρ G vs [x, y]) : ∃ v u, vs = [v, u] ∧ At c ρ G v x ∧ At c ρ G u y := by
  cases h with
  | cons a t => cases t with
    | cons b t => cases t; exact ⟨_, _, rfl, a, b⟩
theorem flip2_some {rev : Bool} {l : List Dv} {d e : Dv} (h : flip2 rev l = some (d, e)) : l = if rev then [e, d] else [d, e] := by
  unfold flip2 at h
  split at h
  · cases rev <;> simp_all
  · cases h
theorem se_mkV2 {C : Addr} {f g : Str} {n m : Nat} {tr tk : TA} {r rk : AS} (T : OexC c.K C) (hf : PySem.W.findIn c.K (.ref C) f = some none) (hg : PySem.W.findIn c.K (.ref C) g = some none) (hr : SA c E tr r) (hk : SA c E tk rk) : SE c E (tMkV C n m gApp (spI2 c.K C f g) tr tk) (mMkV2 C f g n m false r rk) := by
  refine ⟨?_⟩
  intro ρ G H σ α μ Q E' Q' R e px q h
  refine hr R e px ?_ h
  intro ds μ1 h1 vs ρ1 G1 H1 s1 R1 a1
  refine hk R1 (s1.env e) (px.step s1) ?_ h1
  rintro zs μ2 ⟨l1, l2, d, d2, hd, _, h2⟩ ws ρ2 G2 H2 s2 R2 a2
  have a3 := (s2.all a1).append a2
  rw [show ds ++ zs = [d, d2] from flip2_some hd] at a3
  obtain ⟨v, u, hv, av, au⟩ := a3.two2
  refine ⟨by rw [a1.length]; exact l1, by rw [a2.length]; exact l2, fun a ha => ?_⟩
  show spI2 c.K C f g ((V.ref a :: vs) ++ ws) _ _ _
  rw [List.cons_append, hv]
  refine mkV2 T hf hg ha fun dx hdx hne => ?_
  obtain ⟨G3, R3, s3⟩ := R2.exc (C := C) (fvs := [(g, u), (f, v)]) (fds := [(g, d2), (f, d)]) ha hdx hne rfl (.cons au (.cons av .nil))
  exact q _ _ h2 _ _ _ _ (s1.trans (s2.trans s3)) R3 (.ob (by rw [← R2.len]; simp))
theorem se_mkV2r {C : Addr} {f g : Str} {m : Nat} {tk : TA} {rk : AS} (T : OexC c.K C) (hf : PySem.W.findIn c.K (.ref C) f = some none) (hg : PySem.W.findIn c.K (.ref C) g = some none) (hk : SA c E tk rk) : SE c E (tMkV C 0 m gRev (spI2 c.K C f g) tNil tk) (mMkV2 C f g 0 m true mNil rk) := by
  refine ⟨?_⟩
  intro ρ G H σ α μ Q E' Q' R e px q h
  refine sa_nil R e px ?_ h
  intro ds μ1 h1 vs ρ1 G1 H1 s1 R1 a1
  refine hk R1 (s1.env e) (px.step s1) ?_ h1
  rintro zs μ2 ⟨l1, l2, d, d2, hd, h0, h2⟩ ws ρ2 G2 H2 s2 R2 a2
  obtain rfl := h0 rfl
  cases a1
  have hz : zs = [d2, d] := flip2_some hd
  rw [hz] at a2
  obtain ⟨u, v, rfl, au, av⟩ := a2.two2
  refine ⟨rfl, by rw [← l2, hz]; rfl, fun a ha => ?_⟩
  show spI2 c.K C f g [.ref a, v, u] _ _ _
  refine mkV2 T hf hg ha fun dx hdx hne => ?_
  obtain ⟨G3, R3, s3⟩ := R2.exc (C := C) (fvs := [(g, u), (f, v)]) (fds := [(g, d2), (f, d)]) ha hdx hne rfl (.cons au (.cons av .nil))
  exact q _ _ h2 _ _ _ _ (s1.trans (s2.trans s3)) R3 (.ob (by rw [← R2.len]; simp))
/-- C(): no field -/
def mMkV0 (C : Addr) : ES := fun E α μ Q => Q (.ob μ.length) (μ ++ [.exc C []])
theorem se_mkV0 {C : Addr} : SE c E (tMkV0 C) (mMkV0 C) := by
  refine ⟨?_⟩
  intro ρ G H σ α μ Q E' Q' R e px q h a ha
  obtain ⟨R2, s2⟩ := R.alloc (u := exo a C none) (o := .exc C []) ha ⟨R.free ha, none, [], upd_same, fun x z => (by cases z), fun _ => rfl, rfl, AtAll.nil⟩
  exact q _ _ h _ _ _ _ s2 R2 (.ob (by rw [← R.len]; simp))
/-- e.n -/
def mFldV (C : Addr) (n : Str) (a : ES) : ES := fun E α μ Q => a E α μ fun d μ1 => ∃ fs y, excV μ1 d = some (C, fs) ∧ fs.lookup n = some y ∧ Q y μ1
theorem se_fldV {C : Addr} {n : Str} {te : TE} {a : ES} (ha : SE c E te a) : SE c E (tFV C n te) (mFldV C n a) := by
  refine ⟨?_⟩
  intro ρ G H σ α μ Q E' Q' R e px q h
  refine ha R e px ?_ h
  rintro d μ1 ⟨fs, y, e1, e2, h1⟩ x ρ1 G1 H1 s1 R1 a1
  obtain ⟨p, dx, fvs, rfl, h3, h4, h5, hk, t⟩ := excV_ok R1 a1 e1
  obtain ⟨v, hv, av⟩ := ents_get hk t e2
  cases dx with
  | none =>
    rw [h5 rfl] at hv
    cases hv
  | some dx => exact ⟨p, dx, fvs, v, rfl, h3, h4 dx rfl, hv, q _ _ h1 _ _ _ _ s1 R1 av⟩
end
end Mz
end
section
set_option Elab.async false
set_option linter.all false
set_option maxRecDepth 100000
set_option maxHeartbeats 4000000
namespace Mz
open PySem L2
abbrev errAll (A : Ad) : List Addr := A.MakerError :: errCls A
/-- what the written part says of MakerError and of ValueError -/
structure ErrM (K : PySem.W.Frag) (A : Ad) : Prop where
  exc : ∀ D ∈ errAll A, ExcC K D
  km : ∀ D ∈ errAll A, PySem.W.kitOne K (.ref D) (.ref A.MakerError) = some true
  kn : ∀ C ∈ errCls A, PySem.W.kitOne K (.ref A.MakerError) (.ref C) = some false
  kv : ∀ D ∈ errAll A, PySem.W.kitOne K (.ref D) (.type "ValueError") = some true
def rIsVL (K : PySem.W.Frag) (L : List Addr) : List V → Hp → VK → Prop := fun xs H Q => ∃ D ∈ L, rIsV K D xs H Q
theorem call_isVL {X : Cx} {L : List Addr} (K : PySem.W.Frag) (h : ∀ D ∈ L, ExcC K D) (e : X.K = K := by rfl) : CallR X (.builtin "isinstance") (rIsVL K L) := by
  subst e
  rintro pins s σ H xs us Q I r ⟨D, hD, hq⟩
  exact isV_run (h D hD) I r hq
def oIsV (K : PySem.W.Frag) (L : List Addr) : OB := fun ds μ Q => ∃ d k D fs u b, ds = [d, k] ∧ D ∈ L ∧ excV μ d = some (D, fs) ∧ clV k = some u ∧ PySem.W.kitOne K (.ref D) u = some b ∧ Q (.d (.bl b)) μ
theorem so_isV {c : Cn} {L : List Addr} : SB c (rIsVL c.K L) (oIsV c.K L) := by
  refine ⟨?_⟩
  rintro ρ G H μ vs ds Q Q' R a q ⟨d, k, D, fs, u, b, rfl, hD, h1, h2, h3, h⟩
  obtain ⟨v, w, rfl, a, a2⟩ := a.two
  obtain ⟨p, dx, fvs, rfl, e1, e2, _, _, _⟩ := excV_ok R a h1
  have hc := clV_ok a2 h2
  exact ⟨D, hD, p, dx, w, u, b, rfl, e1, fun x z => ⟨_, e2 x z⟩, fun w h => hc.eq h, h3, q.here R (.d (.bl _)) h⟩
/-- == on data, {} and dicts of one number -/
def oEqY : O2 := fun d1 d2 μ Q => oEqX d1 d2 μ Q ∨ ∃ k i, d1 = .d (.dct [(k, .int i)]) ∧ d2 = .d (.dct [(k, .int i)]) ∧ Q (.d (.bl true)) μ
theorem so_eqY {c : Cn} : SO c (rEqX c.K) oEqY := by
  refine ⟨?_⟩
  rintro ρ G H μ x y d1 d2 Q Q' R a1 a2 q (h | ⟨k, i, rfl, rfl, h⟩)
  · exact so_eqX.run R a1 a2 q h
  · cases a1 with
    | d a1 => cases a2 with
      | d a2 =>
        cases a1 with
        | dct e1 k1 t1 => cases a2 with
          | dct e2 k2 t2 =>
            rename_i a kvs b kvs2
            have one : ∀ {kvs : List (Key × V)}, kvs.map (·.1) = ([(k, Da.int i)] : List (Key × Da)).map (·.1) → AtDs c G (kvs.map (·.2)) ([(k, Da.int i)].map (·.2)) → kvs = [(k, .int i)] := fun {kvs} hk ht => by
              match kvs, hk, ht with
              | [(k', v)], hk, ht =>
                cases ht with
                | cons a _ =>
                  cases a
                  simp only [List.map_cons, List.map_nil, List.cons.injEq, and_true] at hk
                  rw [hk]
              | [], hk, _ => cases hk
              | _ :: _ :: _, hk, _ => simp at hk
            obtain rfl := one k1 t1
            obtain rfl := one k2 t2
            refine .inr ⟨a, b, _, _, rfl, rfl, R.gh _ _ e1, R.gh _ _ e2, rfl, fun p hp => ?_, q.here R (.d (.bl _)) h⟩
            obtain rfl := List.mem_singleton.mp hp
            exact ⟨by simp [valV], rfl⟩
end Mz
end
section
set_option Elab.async false
set_option linter.all false
set_option maxRecDepth 100000
set_option maxHeartbeats 4000000
namespace Mz
open PySem L2
def b_law_one_o (A : Ad) (K : PySem.W.Frag) : BS :=
 (bRet (mOp oIx (mVar 1) (mCall (cP (m_law_take A K)) (mCons (mVar 0) (mCons (mCB oLen (mCons (mVar 1) mNil)) mNil)))))
@[irreducible] def m_law_one_o (A : Ad) (K : PySem.W.Frag) : OF := fNoO (fOpen 2 2 (b_law_one_o A K))
theorem ne_law_one_o {A : Ad} {K : PySem.W.Frag} : NoEO (m_law_one_o A K) := by unfold m_law_one_o; exact fun _ _ _ _ h => h
def b_law_same_y (self : OF) (A : Ad) (K : PySem.W.Frag) : BS :=
 (bSeq (bIf (mT (mIsT K (mVar 1) (mCons (mC (.d (.ty "list"))) (mCons (mC (.d (.ty "tuple"))) mNil))))
 (bSeq (bIf (mOrT (mT (mOp (oEq true) (mCB (oIsi K) (mCons (mVar 0) (mCons (mC (.d (.ty "list"))) mNil))) (mCB (oIsi K) (mCons (mVar 1) (mCons (mC (.d (.ty "list"))) mNil))))) (mT (mOp (oEq true) (mCB (oIsi K) (mCons (mVar 0) (mCons (mC (.d (.ty "tuple"))) mNil))) (mCB (oIsi K) (mCons (mVar 1) (mCons (mC (.d (.ty "tuple"))) mNil))))))
 (bRet (mC (.d (.bl false))))
 bNext)
 (bRet (mAndV (mOp (oEq false) (mCB oLen (mCons (mVar 0) mNil)) (mCB oLen (mCons (mVar 1) mNil))) (mCB oAll (mCons (mLc (miZip (mCons (mVar 0) (mCons (mVar 1) mNil))) (nTup 2 (nCons (nName 2) (nCons (nName 3) nNil))) mYes (mCall (cO self) (mCons (mVar 2) (mCons (mVar 3) mNil))) [2, 3]) mNil)))))
 bNext)
 (bSeq (bIf (mT (mCB (oIsi K) (mCons (mVar 1) (mCons (mC (.d (.ty "int"))) mNil))))
 (bRet (mAndV (mCB (oIsi K) (mCons (mVar 0) (mCons (mC (.d (.ty "int"))) mNil))) (mAndV (mOp (oEq false) (mCB (oIsi K) (mCons (mVar 0) (mCons (mC (.d (.ty "bool"))) mNil))) (mCB (oIsi K) (mCons (mVar 1) (mCons (mC (.d (.ty "bool"))) mNil)))) (mOp oEqY (mVar 0) (mVar 1)))))
 bNext)
 (bRet (mAndV (mOp (oIsB false) (mIsT K (mVar 0) (mCons (mC (.d (.ty "bool"))) (mCons (mC (.d (.ty "int"))) (mCons (mC (.d (.ty "list"))) (mCons (mC (.d (.ty "tuple"))) mNil))))) (mC (.d (.bl false)))) (mOp oEqY (mVar 0) (mVar 1))))))
@[irreducible] def ms_law_same_y (self : OF) (A : Ad) (K : PySem.W.Frag) : OF := fNoO (fOpen 4 2 (b_law_same_y self A K))
theorem nes_law_same_y {self : OF} {A : Ad} {K : PySem.W.Frag} : NoEO (ms_law_same_y self A K) := by unfold ms_law_same_y; exact fun _ _ _ _ h => h
def m_law_same_y (A : Ad) (K : PySem.W.Frag) : Nat → OF
  | 0 => fun _ _ _ _ => False
  | n + 1 => ms_law_same_y (m_law_same_y A K n) A K
theorem ne_law_same_y {A : Ad} {K : PySem.W.Frag} : ∀ n, NoEO (m_law_same_y A K n)
  | 0 => fun _ _ _ _ h => h
  | n + 1 => nes_law_same_y
def b_law_with_one (A : Ad) (K : PySem.W.Frag) : BS :=
 (bSeq (bAsg (mLst (mCons (mMkV1 A.BadField "index" 0 1 mNil (mCons (mVar 0) mNil)) (mCons (mMkV1 A.BadModes "modes" 0 1 mNil (mCons (mVar 0) mNil)) (mCons (mMkV1 A.UnknownCall "name" 0 1 mNil (mCons (mVar 0) mNil)) (mCons (mMkV1 A.BadPlace "place" 0 1 mNil (mCons (mVar 0) mNil)) (mCons (mMkV1 A.BadText "line" 0 1 mNil (mCons (mVar 0) mNil)) mNil)))))) (nName 1))
 (bSeq (bAsg (mOp oCat (mVar 1) (mLst (mCons (mMkV1 A.BadRow "index" 0 1 mNil (mCons (mVar 0) mNil)) (mCons (mMkV1 A.BadWord "word" 0 1 mNil (mCons (mVar 0) mNil)) (mCons (mMkV1 A.BadWish "wish" 0 1 mNil (mCons (mVar 0) mNil)) (mCons (mMkV1 A.BadRun "thing" 0 1 mNil (mCons (mVar 0) mNil)) (mCons (mMkV1 A.BadCallers "callers" 0 1 mNil (mCons (mVar 0) mNil)) mNil))))))) (nName 1))
 (bRet (mOp oCat (mVar 1) (mLst (mCons (mMkV1 A.BadKind "kind" 0 1 mNil (mCons (mVar 0) mNil)) (mCons (mMkV1 A.BadRule "index" 0 1 mNil (mCons (mVar 0) mNil)) mNil)))))))
@[irreducible] def m_law_with_one (A : Ad) (K : PySem.W.Frag) : OF := fNoO (fOpen 2 1 (b_law_with_one A K))
theorem ne_law_with_one {A : Ad} {K : PySem.W.Frag} : NoEO (m_law_with_one A K) := by unfold m_law_with_one; exact fun _ _ _ _ h => h
def b_law_by_place (A : Ad) (K : PySem.W.Frag) : BS :=
 (bSeq (bAsg (mLst (mCons (mMkV1 A.BadField "index" 1 0 (mCons (mVar 0) mNil) mNil) (mCons (mMkV1 A.BadModes "modes" 1 0 (mCons (mVar 0) mNil) mNil) (mCons (mMkV1 A.UnknownCall "name" 1 0 (mCons (mVar 0) mNil) mNil) (mCons (mMkV1 A.BadPlace "place" 1 0 (mCons (mVar 0) mNil) mNil) (mCons (mMkV1 A.BadText "line" 1 0 (mCons (mVar 0) mNil) mNil) (mCons (mMkV1 A.BadRow "index" 1 0 (mCons (mVar 0) mNil) mNil) (mCons (mMkV1 A.BadWord "word" 1 0 (mCons (mVar 0) mNil) mNil) (mCons (mMkV1 A.BadWish "wish" 1 0 (mCons (mVar 0) mNil) mNil) mNil))))))))) (nName 1))
 (bRet (mOp oCat (mVar 1) (mLst (mCons (mMkV1 A.BadRun "thing" 1 0 (mCons (mVar 0) mNil) mNil) (mCons (mMkV1 A.BadCallers "callers" 1 0 (mCons (mVar 0) mNil) mNil) (mCons (mMkV1 A.BadKind "kind" 1 0 (mCons (mVar 0) mNil) mNil) (mCons (mMkV1 A.BadRule "index" 1 0 (mCons (mVar 0) mNil) mNil) mNil))))))))
@[irreducible] def m_law_by_place (A : Ad) (K : PySem.W.Frag) : OF := fNoO (fOpen 2 1 (b_law_by_place A K))
theorem ne_law_by_place {A : Ad} {K : PySem.W.Frag} : NoEO (m_law_by_place A K) := by unfold m_law_by_place; exact fun _ _ _ _ h => h
def b_law_held (A : Ad) (K : PySem.W.Frag) : BS :=
 (bSeq (bAsg (mLst (mCons (mFldV A.BadField "index" (mOp oIx (mVar 0) (mC (.d (.int 0))))) (mCons (mFldV A.BadModes "modes" (mOp oIx (mVar 0) (mC (.d (.int 1))))) (mCons (mFldV A.UnknownCall "name" (mOp oIx (mVar 0) (mC (.d (.int 2))))) (mCons (mFldV A.BadPlace "place" (mOp oIx (mVar 0) (mC (.d (.int 3))))) (mCons (mFldV A.BadText "line" (mOp oIx (mVar 0) (mC (.d (.int 4))))) (mCons (mFldV A.BadRow "index" (mOp oIx (mVar 0) (mC (.d (.int 5))))) (mCons (mFldV A.BadWord "word" (mOp oIx (mVar 0) (mC (.d (.int 6))))) mNil)))))))) (nName 1))
 (bRet (mOp oCat (mVar 1) (mLst (mCons (mFldV A.BadWish "wish" (mOp oIx (mVar 0) (mC (.d (.int 7))))) (mCons (mFldV A.BadRun "thing" (mOp oIx (mVar 0) (mC (.d (.int 8))))) (mCons (mFldV A.BadCallers "callers" (mOp oIx (mVar 0) (mC (.d (.int 9))))) (mCons (mFldV A.BadKind "kind" (mOp oIx (mVar 0) (mC (.d (.int 10))))) (mCons (mFldV A.BadRule "index" (mOp oIx (mVar 0) (mC (.d (.int 11))))) mNil)))))))))
@[irreducible] def m_law_held (A : Ad) (K : PySem.W.Frag) : OF := fNoO (fOpen 2 1 (b_law_held A K))
theorem ne_law_held {A : Ad} {K : PySem.W.Frag} : NoEO (m_law_held A K) := by unfold m_law_held; exact fun _ _ _ _ h => h
def b_law_classes (A : Ad) (K : PySem.W.Frag) : BS :=
 (bSeq (bAsg (mLst (mCons (mCB (oIsV K (errAll A)) (mCons (mVar 0) (mCons (mC (.d (.cls A.BadField))) mNil))) (mCons (mCB (oIsV K (errAll A)) (mCons (mVar 0) (mCons (mC (.d (.cls A.BadModes))) mNil))) (mCons (mCB (oIsV K (errAll A)) (mCons (mVar 0) (mCons (mC (.d (.cls A.UnknownCall))) mNil))) (mCons (mCB (oIsV K (errAll A)) (mCons (mVar 0) (mCons (mC (.d (.cls A.BadPlace))) mNil))) mNil))))) (nName 1))
 (bSeq (bAsg (mOp oCat (mVar 1) (mLst (mCons (mCB (oIsV K (errAll A)) (mCons (mVar 0) (mCons (mC (.d (.cls A.BadText))) mNil))) (mCons (mCB (oIsV K (errAll A)) (mCons (mVar 0) (mCons (mC (.d (.cls A.BadRow))) mNil))) (mCons (mCB (oIsV K (errAll A)) (mCons (mVar 0) (mCons (mC (.d (.cls A.BadWord))) mNil))) (mCons (mCB (oIsV K (errAll A)) (mCons (mVar 0) (mCons (mC (.d (.cls A.BadWish))) mNil))) mNil)))))) (nName 1))
 (bSeq (bAsg (mOp oCat (mVar 1) (mLst (mCons (mCB (oIsV K (errAll A)) (mCons (mVar 0) (mCons (mC (.d (.cls A.BadRun))) mNil))) (mCons (mCB (oIsV K (errAll A)) (mCons (mVar 0) (mCons (mC (.d (.cls A.BadCallers))) mNil))) (mCons (mCB (oIsV K (errAll A)) (mCons (mVar 0) (mCons (mC (.d (.cls A.BadKind))) mNil))) mNil))))) (nName 1))
 (bSeq (bAsg (mOp oCat (mVar 1) (mLst (mCons (mCB (oIsV K (errAll A)) (mCons (mVar 0) (mCons (mC (.d (.cls A.BadRule))) mNil))) (mCons (mCB (oIsV K (errAll A)) (mCons (mVar 0) (mCons (mC (.d (.cls A.BadCall))) mNil))) (mCons (mCB (oIsV K (errAll A)) (mCons (mVar 0) (mCons (mC (.d (.cls A.Refused))) mNil))) mNil))))) (nName 1))
 (bRet (mOp oCat (mVar 1) (mLst (mCons (mCB (oIsV K (errAll A)) (mCons (mVar 0) (mCons (mC (.d (.cls A.BadThing))) mNil))) mNil))))))))
@[irreducible] def m_law_classes (A : Ad) (K : PySem.W.Frag) : OF := fNoO (fOpen 2 1 (b_law_classes A K))
theorem ne_law_classes {A : Ad} {K : PySem.W.Frag} : NoEO (m_law_classes A K) := by unfold m_law_classes; exact fun _ _ _ _ h => h
def l_law_1_k01 (A : Ad) (K : PySem.W.Frag) : BS := (bIf (mT (mCB (oIsi K) (mCons (mVar 8) (mCons (mC (.d (.ty "list"))) mNil))))
 (bDrop (mBM oAppend (mVar 8) (mCons (mC (.d (.str "more"))) mNil)))
 bNext)
def l_law_2_k01 (A : Ad) (K : PySem.W.Frag) : BS := (bIf (mNotT (mT (mCB oAll (mCons (mLc (miSq (mCall (cO (m_law_held A K)) (mCons (mVar 9) mNil))) (nName 10) mYes (mCall (cO (m_law_same_y A K 4)) (mCons (mVar 10) (mCons (mVar 3) mNil))) [10]) mNil))))
 (bRet (mC (.d (.bl false))))
 bNext)
def l_law_3_k01 (A : Ad) (K : PySem.W.Frag) : BS := (bSeq (bIf (mOrT (mNotT (mT (mCB (oIsV K (errAll A)) (mCons (mVar 11) (mCons (mC (.d (.cls A.MakerError))) mNil))))) (mNotT (mT (mCB (oIsV K (errAll A)) (mCons (mVar 11) (mCons (mC (.d (.ty "ValueError"))) mNil))))))
 (bRet (mC (.d (.bl false))))
 bNext)
 (bIf (mT (mOp (oEqD true) (mCall (cO (m_law_classes A K)) (mCons (mVar 11) mNil)) (mLc (miR1 (mCons (mCB oLen (mCons (mVar 9) mNil)) mNil)) (nName 12) mYes (mOp (oEqD false) (mVar 12) (mVar 5)) [12])))
 (bRet (mC (.d (.bl false))))
 bNext))
def k_law_4_k01 (A : Ad) (K : PySem.W.Frag) : BS := (bIf (mT (mOp (oIn false) (mC (.d (.bl true))) (mCall (cO (m_law_classes A K)) (mCons (mMkV0 A.MakerError) mNil))))
 (bRet (mC (.d (.bl false))))
 bNext)
def k_law_5_k01 (A : Ad) (K : PySem.W.Frag) : BS := (bSeq (bIf (mNotT (mT (mCB oAll (mCons (mLc (miSq (mVar 7)) (nName 9) mYes (mCall (cO (m_law_same_y A K 4)) (mCons (mLst (mCons (mFldV A.BadCall "index" (mVar 9)) (mCons (mFldV A.BadCall "reason" (mVar 9)) mNil))) (mCons (mLst (mCons (mVar 3) (mCons (mVar 4) mNil))) mNil))) [9]) mNil))))
 (bRet (mC (.d (.bl false))))
 bNext)
 (bSeq (bAsg (mOp oCat (mOp oIx (mVar 6) (mC (.d (.int 0)))) (mLst (mCons (mOp oIx (mVar 7) (mC (.d (.int 1)))) (mCons (mMkV0 A.Refused) (mCons (mMkV0 A.BadThing) mNil))))) (nName 9))
 (bSeq (bFor (miEn (mVar 9)) (nTup 2 (nCons (nName 5) (nCons (nName 11) nNil))) (l_law_3_k01 A K))
 (k_law_4_k01 A K))))
def k_law_6_k01 (A : Ad) (K : PySem.W.Frag) : BS := (bSeq (bFor (miSq (mVar 6)) (nName 9) (l_law_2_k01 A K))
 (k_law_5_k01 A K))
def l_law_7_k01 (A : Ad) (K : PySem.W.Frag) : BS := (bSeq (bAsg (mLc (miR1 (mCons (mC (.d (.int 2))) mNil)) (nName 5) mYes (mCall (cO (m_law_one_o A K)) (mCons (mVar 1) (mCons (mLst (mCons (mVar 5) (mCons (mOp oMulS (mC (.d (.str "w"))) (mVar 5)) (mCons (mLst (mCons (mVar 5) mNil)) (mCons (mTup (mCons (mVar 5) (mCons (mLst (mCons (mVar 5) mNil)) mNil))) (mCons (mC (.d .non)) (mCons (mC (.d (.bl true))) (mCons (mFz (mDisp [((mC (.d (.str "w"))), (mVar 5))])) mNil)))))))) mNil))) [5]) (nSeq 2 (nCons (nName 3) (nCons (nName 4) nNil))))
 (bSeq (bPar 6 7 (mCons (mLst (mCons (mCall (cO (m_law_with_one A K)) (mCons (mVar 3) mNil)) (mCons (mCall (cO (m_law_by_place A K)) (mCons (mVar 3) mNil)) mNil))) (mCons (mLst (mCons (mMkV2 A.BadCall "index" "reason" 2 0 false (mCons (mVar 3) (mCons (mVar 4) mNil)) mNil) (mCons (mMkV2 A.BadCall "index" "reason" 0 2 true mNil (mCons (mVar 4) (mCons (mVar 3) mNil))) mNil))) mNil)))
 (bSeq (bFor (miSq (mLst (mCons (mVar 3) (mCons (mVar 4) mNil)))) (nName 8) (l_law_1_k01 A K))
 (k_law_6_k01 A K))))
def k_law_8_k01 (A : Ad) (K : PySem.W.Frag) : BS := (bRet (mCB (oIsV K (errAll A)) (mCons (mMkV0 A.MakerError) (mCons (mC (.d (.ty "ValueError"))) mNil))))
def b_law_k01 (A : Ad) (K : PySem.W.Frag) : BS :=
 (bSeq (bFor (miR1 (mCons (mC (.d (.int 4))) mNil)) (nName 2) (l_law_7_k01 A K))
 (k_law_8_k01 A K))
end Mz
end
section
set_option Elab.async false
set_option linter.all false
set_option maxRecDepth 100000
set_option maxHeartbeats 4000000
namespace Mz
open PySem L2
def top (i : Nat) : Stmt := PySem.Challenge.pw_makerlines_k01_errors_made.main.body.getD i (.Pass ⟨0, 0, 0, 0⟩)
abbrev s_law_fill : Stmt := top 19
abbrev N_law_fill : List Str := ["_law_state", "_law_cells", "_law_nth", "_law_seed", "_law_k", "_law_prime", "_law_far"]
theorem sc_law_fill : FnScope N_law_fill ["_law_state"] (defScope s_law_fill) := ⟨rfl, rfl, rfl, by decide +kernel, rfl, by decide +kernel, by decide +kernel⟩
abbrev s_law_take : Stmt := top 20
abbrev N_law_take : List Str := ["_law_state", "_law_many", "_law_laps", "_law_digit"]
theorem sc_law_take : FnScope N_law_take ["_law_state", "_law_many"] (defScope s_law_take) := ⟨rfl, rfl, rfl, by decide +kernel, rfl, by decide +kernel, by decide +kernel⟩
abbrev s_law_fresh : Stmt := top 18
abbrev N_law_fresh : List Str := ["_law_script"]
theorem sc_law_fresh : FnScope N_law_fresh ["_law_script"] (defScope s_law_fresh) := ⟨rfl, rfl, rfl, by decide +kernel, rfl, by decide +kernel, by decide +kernel⟩
abbrev s_law_one_o : Stmt := top 21
abbrev N_law_one_o : List Str := ["_law_state", "_law_things"]
theorem sc_law_one_o : FnScope N_law_one_o ["_law_state", "_law_things"] (defScope s_law_one_o) := ⟨rfl, rfl, rfl, by decide +kernel, rfl, by decide +kernel, by decide +kernel⟩
abbrev s_law_same_y : Stmt := top 22
abbrev N_law_same_y : List Str := ["_law_found", "_law_due", "_law_a", "_law_b"]
theorem sc_law_same_y : FnScope N_law_same_y ["_law_found", "_law_due"] (defScope s_law_same_y) := ⟨rfl, rfl, rfl, by decide +kernel, rfl, by decide +kernel, by decide +kernel⟩
abbrev s_law_with_one : Stmt := top 23
abbrev N_law_with_one : List Str := ["_law_x", "_law_found"]
theorem sc_law_with_one : FnScope N_law_with_one ["_law_x"] (defScope s_law_with_one) := ⟨rfl, rfl, rfl, by decide +kernel, rfl, by decide +kernel, by decide +kernel⟩
abbrev s_law_by_place : Stmt := top 24
abbrev N_law_by_place : List Str := ["_law_x", "_law_found"]
theorem sc_law_by_place : FnScope N_law_by_place ["_law_x"] (defScope s_law_by_place) := ⟨rfl, rfl, rfl, by decide +kernel, rfl, by decide +kernel, by decide +kernel⟩
abbrev s_law_held : Stmt := top 25
abbrev N_law_held : List Str := ["_law_made", "_law_found"]
theorem sc_law_held : FnScope N_law_held ["_law_made"] (defScope s_law_held) := ⟨rfl, rfl, rfl, by decide +kernel, rfl, by decide +kernel, by decide +kernel⟩
abbrev s_law_classes : Stmt := top 26
abbrev N_law_classes : List Str := ["_law_e", "_law_found"]
theorem sc_law_classes : FnScope N_law_classes ["_law_e"] (defScope s_law_classes) := ⟨rfl, rfl, rfl, by decide +kernel, rfl, by decide +kernel, by decide +kernel⟩
abbrev s_law : Stmt := top 27
abbrev N_law : List Str := ["_law_script", "_law_state", "_law_turn", "_law_x", "_law_y", "_law_k", "_law_ones", "_law_rows", "_law_part", "_law_made", "_law_found", "_law_e", "_law_at"]
theorem sc_law : FnScope N_law ["_law_script"] (defScope s_law) := ⟨rfl, rfl, rfl, by decide +kernel, rfl, by decide +kernel, by decide +kernel⟩
abbrev lawFile : Str := "/claim/cut.py"
abbrev s_BadCall___init__ : Stmt := inClass (top 4) 0
abbrev s_BadCallers___init__ : Stmt := inClass (top 14) 0
abbrev s_BadField___init__ : Stmt := inClass (top 2) 0
abbrev s_BadKind___init__ : Stmt := inClass (top 15) 0
abbrev s_BadModes___init__ : Stmt := inClass (top 3) 0
abbrev s_BadPlace___init__ : Stmt := inClass (top 6) 0
abbrev s_BadRow___init__ : Stmt := inClass (top 8) 0
abbrev s_BadRule___init__ : Stmt := inClass (top 16) 0
abbrev s_BadRun___init__ : Stmt := inClass (top 13) 0
abbrev s_BadText___init__ : Stmt := inClass (top 7) 0
abbrev s_BadWish___init__ : Stmt := inClass (top 12) 0
abbrev s_BadWord___init__ : Stmt := inClass (top 9) 0
abbrev s_UnknownCall___init__ : Stmt := inClass (top 5) 0
structure Bd where
  f_law_fill : Addr
  d_law_fill : FuncData
  f_law_take : Addr
  d_law_take : FuncData
  f_law_fresh : Addr
  d_law_fresh : FuncData
  f_law_one_o : Addr
  d_law_one_o : FuncData
  f_law_same_y : Addr
  d_law_same_y : FuncData
  f_law_with_one : Addr
  d_law_with_one : FuncData
  f_law_by_place : Addr
  d_law_by_place : FuncData
  f_law_held : Addr
  d_law_held : FuncData
  f_law_classes : Addr
  d_law_classes : FuncData
  f_law : Addr
  d_law : FuncData
structure Tx (w : World) (K : PySem.W.Frag) (mg : Str → Option Value) (A : Ad) (B : Bd) : Prop where
  xk : ErrK K A
  xm : ErrM K A
  xe_BadCall : ErrT K mg A.BadCall s_BadCall___init__ "BadCall.__init__" ["index", "reason"] lawFile
  xe_BadCallers : ErrT K mg A.BadCallers s_BadCallers___init__ "BadCallers.__init__" ["callers"] lawFile
  xe_BadField : ErrT K mg A.BadField s_BadField___init__ "BadField.__init__" ["index"] lawFile
  xe_BadKind : ErrT K mg A.BadKind s_BadKind___init__ "BadKind.__init__" ["kind"] lawFile
  xe_BadModes : ErrT K mg A.BadModes s_BadModes___init__ "BadModes.__init__" ["modes"] lawFile
  xe_BadPlace : ErrT K mg A.BadPlace s_BadPlace___init__ "BadPlace.__init__" ["place"] lawFile
  xe_BadRow : ErrT K mg A.BadRow s_BadRow___init__ "BadRow.__init__" ["index"] lawFile
  xe_BadRule : ErrT K mg A.BadRule s_BadRule___init__ "BadRule.__init__" ["index"] lawFile
  xe_BadRun : ErrT K mg A.BadRun s_BadRun___init__ "BadRun.__init__" ["thing"] lawFile
  xe_BadText : ErrT K mg A.BadText s_BadText___init__ "BadText.__init__" ["line"] lawFile
  xz_BadThing : Err0 K A.BadThing
  xe_BadWish : ErrT K mg A.BadWish s_BadWish___init__ "BadWish.__init__" ["wish"] lawFile
  xe_BadWord : ErrT K mg A.BadWord s_BadWord___init__ "BadWord.__init__" ["word"] lawFile
  xz_MakerError : Err0 K A.MakerError
  xz_Refused : Err0 K A.Refused
  xe_UnknownCall : ErrT K mg A.UnknownCall s_UnknownCall___init__ "UnknownCall.__init__" ["name"] lawFile
  n_len : mg "len" = none
  n_int : mg "int" = none
  n_bool : mg "bool" = none
  n_list : mg "list" = none
  n_tuple : mg "tuple" = none
  n_range : mg "range" = none
  n_enumerate : mg "enumerate" = none
  n_zip : mg "zip" = none
  n_isinstance : mg "isinstance" = none
  n_all : mg "all" = none
  n_ValueError : mg "ValueError" = none
  g_BadCall : mg "BadCall" = some (.ref A.BadCall)
  g_BadCallers : mg "BadCallers" = some (.ref A.BadCallers)
  g_BadField : mg "BadField" = some (.ref A.BadField)
  g_BadKind : mg "BadKind" = some (.ref A.BadKind)
  g_BadModes : mg "BadModes" = some (.ref A.BadModes)
  g_BadPlace : mg "BadPlace" = some (.ref A.BadPlace)
  g_BadRow : mg "BadRow" = some (.ref A.BadRow)
  g_BadRule : mg "BadRule" = some (.ref A.BadRule)
  g_BadRun : mg "BadRun" = some (.ref A.BadRun)
  g_BadText : mg "BadText" = some (.ref A.BadText)
  g_BadThing : mg "BadThing" = some (.ref A.BadThing)
  g_BadWish : mg "BadWish" = some (.ref A.BadWish)
  g_BadWord : mg "BadWord" = some (.ref A.BadWord)
  g_MakerError : mg "MakerError" = some (.ref A.MakerError)
  g_Refused : mg "Refused" = some (.ref A.Refused)
  g_UnknownCall : mg "UnknownCall" = some (.ref A.UnknownCall)
  na_BadCall_index : NoAttr K A.BadCall "index"
  na_BadCall_reason : NoAttr K A.BadCall "reason"
  na_BadCallers_callers : NoAttr K A.BadCallers "callers"
  na_BadField_index : NoAttr K A.BadField "index"
  na_BadKind_kind : NoAttr K A.BadKind "kind"
  na_BadModes_modes : NoAttr K A.BadModes "modes"
  na_BadPlace_place : NoAttr K A.BadPlace "place"
  na_BadRow_index : NoAttr K A.BadRow "index"
  na_BadRule_index : NoAttr K A.BadRule "index"
  na_BadRun_thing : NoAttr K A.BadRun "thing"
  na_BadText_line : NoAttr K A.BadText "line"
  na_BadWish_wish : NoAttr K A.BadWish "wish"
  na_BadWord_word : NoAttr K A.BadWord "word"
  na_UnknownCall_name : NoAttr K A.UnknownCall "name"
  F_law_fill : Fun K "_law_fill" "_law_fill" s_law_fill B.f_law_fill B.d_law_fill
  m_law_fill : mg "_law_fill" = some (.ref B.f_law_fill)
  b_law_fill : Binds K B.d_law_fill ["_law_state"] []
  F_law_take : Fun K "_law_take" "_law_take" s_law_take B.f_law_take B.d_law_take
  m_law_take : mg "_law_take" = some (.ref B.f_law_take)
  b_law_take : Binds K B.d_law_take ["_law_state", "_law_many"] []
  F_law_fresh : Fun K "_law_fresh" "_law_fresh" s_law_fresh B.f_law_fresh B.d_law_fresh
  m_law_fresh : mg "_law_fresh" = some (.ref B.f_law_fresh)
  b_law_fresh : Binds K B.d_law_fresh ["_law_script"] []
  F_law_one_o : Fun K "_law_one" "_law_one" s_law_one_o B.f_law_one_o B.d_law_one_o
  m_law_one_o : mg "_law_one" = some (.ref B.f_law_one_o)
  b_law_one_o : Binds K B.d_law_one_o ["_law_state", "_law_things"] []
  F_law_same_y : Fun K "_law_same" "_law_same" s_law_same_y B.f_law_same_y B.d_law_same_y
  m_law_same_y : mg "_law_same" = some (.ref B.f_law_same_y)
  b_law_same_y : Binds K B.d_law_same_y ["_law_found", "_law_due"] []
  F_law_with_one : Fun K "_law_with_one" "_law_with_one" s_law_with_one B.f_law_with_one B.d_law_with_one
  m_law_with_one : mg "_law_with_one" = some (.ref B.f_law_with_one)
  b_law_with_one : Binds K B.d_law_with_one ["_law_x"] []
  F_law_by_place : Fun K "_law_by_place" "_law_by_place" s_law_by_place B.f_law_by_place B.d_law_by_place
  m_law_by_place : mg "_law_by_place" = some (.ref B.f_law_by_place)
  b_law_by_place : Binds K B.d_law_by_place ["_law_x"] []
  F_law_held : Fun K "_law_held" "_law_held" s_law_held B.f_law_held B.d_law_held
  m_law_held : mg "_law_held" = some (.ref B.f_law_held)
  b_law_held : Binds K B.d_law_held ["_law_made"] []
  F_law_classes : Fun K "_law_classes" "_law_classes" s_law_classes B.f_law_classes B.d_law_classes
  m_law_classes : mg "_law_classes" = some (.ref B.f_law_classes)
  b_law_classes : Binds K B.d_law_classes ["_law_e"] []
  F_law : Fun K "law" "law" s_law B.f_law B.d_law
  m_law : mg "law" = some (.ref B.f_law)
end Mz
end
section
set_option Elab.async false
set_option linter.all false
set_option maxRecDepth 100000
set_option maxHeartbeats 4000000
namespace Mz
open PySem L2
end Mz
end
section
set_option Elab.async false
set_option linter.all false
set_option maxRecDepth 100000
set_option maxHeartbeats 4000000
/-! ### the head by one run -/
namespace Mz
open PySem L2
theorem fun_of {K : PySem.W.Frag} {x qual : Str} {st : Stmt} {f : Addr} {fd : FuncData} (F : FunD K x qual (defArgs st) (defBody st) (defScope st) [] [] f fd) : Fun K x qual st f fd := by
  obtain ⟨oc, od, dV, kV, doc, pm, an, cdv, ct, osl, e, lk, hc, hd, hk⟩ := F.ex
  rcases hd with ⟨_, rfl⟩ | ⟨h, _⟩
  · exact ⟨⟨oc, od, kV, doc, pm, an, cdv, ct, osl, e, lk, hc⟩, F.kp⟩
  · exact absurd rfl h
/-- what a table of the top holds at a key, if it is an object -/
def dkA (K : PySem.W.Frag) (x k : Str) : Addr := match PySem.W.nsIn K (He.ga K x) k with
  | some (some (.ref a)) => a
  | _ => 0
theorem ex_at {l : List (PySem.W.Frag → Bool)} {K : PySem.W.Frag} (h : (l.all fun f => f K) = true) (i : Nat) {f : PySem.W.Frag → Bool} (hi : l[i]? = some f) : f K = true := List.all_eq_true.mp h f (List.mem_of_getElem? hi)
end Mz
end
section
set_option Elab.async false
set_option linter.all false
set_option maxRecDepth 100000
set_option maxHeartbeats 4000000
namespace Mz
open PySem L2
end Mz
end
section
set_option Elab.async false
set_option linter.all false
set_option maxRecDepth 100000
set_option maxHeartbeats 1000000
namespace Mz
open PySem L2 TL
local macro_rules | `(tactic| row_cond sd) => `(tactic| first | with_reducible assumption | with_reducible exact rfl | exact rfl | exact True.intro | assumption | decide)
local macro_rules | `(tactic| row_cond st) => `(tactic| first
  | refine And.intro (by row_cond sd) ?_
  | refine ⟨_, by row_cond sd, ?_⟩
  | refine ⟨_, _, by row_cond sd, ?_⟩
  | refine ⟨_, _, by row_cond sd, by row_cond sd, ?_⟩
  | refine ⟨_, _, _, by row_cond sd, ?_⟩
  | refine ⟨_, _, _, by row_cond sd, by row_cond sd, ?_⟩
  | refine ⟨_, _, _, by row_cond sd, by row_cond sd, by row_cond sd, ?_⟩
  | refine ⟨_, _, _, _, by row_cond sd, ?_⟩
  | refine ⟨_, _, _, _, by row_cond sd, by row_cond sd, by row_cond sd, ?_⟩
  | refine ⟨_, _, _, _, by row_cond sd, by row_cond sd, by row_cond sd, by row_cond sd, ?_⟩
  | refine iteT ?_
  | refine iteF ?_)
local macro_rules | `(tactic| row_cond go) => `(tactic| repeat (row_cond st))
/-! ### the head of a law with own errors and a lambda -/
open LamX
/-- an own error class -/
def clsZ (C : Addr) (cd : ClassData) : Bool := (match cd.mro with
  | .ref D :: bm => decide (D = C) && PySem.HandSPX.refsVE bm
  | _ => false) && (cd.hasDict && !cd.hasDel)
def slZ (sl : Array (Option Value)) : Bool := match sl.toList with
  | [_, _, _, _, some (.builtin b), _] => decide (b = "ValueError.__new__")
  | _ => false
def oexZ (K : PySem.W.Frag) (C : Addr) : Bool := match K.lookup C with
  | some ⟨.type c, _, .cls cd, sl⟩ => decide (c = "type") && (clsZ C cd && slZ sl)
  | _ => false
theorem slZ_ok {sl : Array (Option Value)} (h : slZ sl = true) : ∃ k0 k1 k2 k3 k5, sl = #[k0, k1, k2, k3, some (.builtin "ValueError.__new__"), k5] := by
  unfold slZ at h
  split at h
  · rename_i k0 k1 k2 k3 b k5 e
    have hb := of_decide_eq_true h
    subst hb
    exact ⟨k0, k1, k2, k3, k5, by rw [← Array.toList_inj, e]⟩
  · cases h
theorem oexZ_ok {K : PySem.W.Frag} {C : Addr} (h : oexZ K C = true) : ∃ nm q N bs bm sn sub ab col dd k0 k1 k2 k3 k5, K.lookup C = some (excClassObj nm q C N bs bm true sn sub ab col dd k0 k1 k2 k3 k5 "ValueError.__new__") ∧ PySem.HandSPX.refsVE bm = true := by
  unfold oexZ at h
  split at h
  · rename_i c dd cd sl e
    obtain ⟨h1, h⟩ := He.ba h
    obtain ⟨h2, h3⟩ := He.ba h
    have hc := of_decide_eq_true h1
    subst hc
    obtain ⟨k0, k1, k2, k3, k5, rfl⟩ := slZ_ok h3
    obtain ⟨nm, bs, mro, N, q, hd, sn, sub, ab, col, hdel⟩ := cd
    unfold clsZ at h2
    obtain ⟨h4, h5⟩ := He.ba h2
    obtain ⟨h6, h7⟩ := He.ba h5
    dsimp only at h4 h6 h7
    split at h4
    · rename_i D bm _
      obtain ⟨h8, h9⟩ := He.ba h4
      have hD := of_decide_eq_true h8
      subst hD h6
      have h7' : hdel = false := by cases hdel <;> simp_all
      subst h7'
      exact ⟨nm, q, N, bs, bm, sn, sub, ab, col, dd, k0, k1, k2, k3, k5, e, h9⟩
    · cases h4
  · cases h
abbrev FnZ : Type := Option (Str × Str × Arguments × FuncBody × Scope × Addr × Addr)
def iniA (K : PySem.W.Frag) (C : Str) : Addr := He.ma K (He.ga K C) "__init__"
def fnZ (K : PySem.W.Frag) (C : Str) : FnZ := match K.lookup (iniA K C) with
  | some ⟨_, _, .func fd, _⟩ => some (fd.name, fd.qualname, fd.params, fd.body, fd.scope, fd.globals, fd.builtins)
  | _ => none
/-- an own error class with its own __init__ -/
structure EnD where
  C : Str
  st : Stmt
  qual : Str
  ps : List Str
def EnD.val (e : EnD) : FnZ := some ("__init__", e.qual, defArgs e.st, .stmts (defBody e.st), defScope e.st, mainGlobals, builtinsNs)
def codeZ (file qual : Str) (K : PySem.W.Frag) : Value → Bool
  | .ref c => PySem.W.codeIn K (.ref c) qual && (match K.lookup c with
    | some ⟨_, _, .fields vs, _⟩ => (match (vs[2]? : Option Value) with
      | some (.str f _) => decide (f = file)
      | _ => false)
    | _ => false)
  | _ => false
def cloZ (C : Addr) (K : PySem.W.Frag) : List (Str × Addr) → Bool
  | [(y, cc)] => decide (y = "__class__") && (match K.lookup cc with
    | some ⟨_, _, .cell (some (.ref D)), _⟩ => decide (D = C)
    | _ => false)
  | _ => false
def dflZ : Value → Value → Option Addr → Bool
  | .none, .none, none => true
  | _, _, _ => false
def iniZ (file : Str) (e : EnD) (K : PySem.W.Frag) : Bool := match K.lookup (iniA K e.C) with
  | some ⟨_, _, .func fd, _⟩ => cloZ (He.ga K e.C) K fd.closure && (dflZ fd.defaults fd.kwdefaults fd.annotations && codeZ file e.qual K fd.code)
  | _ => false
theorem iniZ_ok {file : Str} {e : EnD} {K : PySem.W.Frag} (hv : fnZ K e.C = e.val) (h : iniZ file e K = true) : ∃ (cc cda : Addr) (oc : Value) (od : Option Addr) (osl : Array (Option Value)) (doc pm ctv : Value),
    K.lookup (iniA K e.C) = some ⟨oc, od, .func ((nfI e.st e.qual cc cda).fd doc pm ctv), osl⟩ ∧ PySem.W.codeIn K (.ref cda) e.qual = true ∧ (∃ ccl cdd vs ccs tf, K.lookup cda = some ⟨ccl, cdd, .fields vs, ccs⟩ ∧ vs[2]? = some (.str file tf)) ∧ ∃ cl cld csl, K.lookup cc = some ⟨cl, cld, .cell (some (.ref (He.ga K e.C))), csl⟩ := by
  unfold iniZ at h
  unfold fnZ EnD.val at hv
  split at h
  · rename_i oc od fd osl lk
    rw [lk] at hv
    obtain ⟨n1, n2, n3, n4, n5, n6, n7, n8, n9, n10, n11, n12, n13, n14, n15⟩ := fd
    simp only [Option.some.injEq, Prod.mk.injEq] at hv
    obtain ⟨h1, h2, h3, h4, h5, h6, h7⟩ := hv
    subst h1 h2 h3 h4 h5 h6 h7
    obtain ⟨c1, c0⟩ := He.ba h
    obtain ⟨c2, c3⟩ := He.ba c0
    dsimp only at c1 c2 c3
    unfold cloZ at c1
    unfold dflZ at c2
    unfold codeZ at c3
    split at c1
    · rename_i y cc
      obtain ⟨c4, c5⟩ := He.ba c1
      have hy := of_decide_eq_true c4
      subst hy
      split at c5
      · rename_i cl cld D csl lc
        have hD := of_decide_eq_true c5
        subst hD
        split at c2
        · split at c3
          · rename_i cda
            obtain ⟨c6, c7⟩ := He.ba c3
            split at c7
            · rename_i ccl cdd vs ccs lcc
              split at c7
              · rename_i f tf hf
                have hfi := of_decide_eq_true c7
                subst hfi
                exact ⟨cc, cda, oc, od, osl, _, _, _, lk, c6, ⟨ccl, cdd, vs, ccs, tf, lcc, hf⟩, cl, cld, csl, lc⟩
              · cases c7
            · cases c7
          · cases c3
        · cases c2
      · cases c5
    · cases c1
  · cases h
/-- all that an own error class must say -/
def errZ (file : Str) (e : EnD) (K : PySem.W.Frag) : Bool :=
  oexZ K (He.ga K e.C) && (He.eqO (PySem.W.findIn K (.ref (He.ga K e.C)) "__setattr__") (some (some (.builtin "object.__setattr__"))) && (decide (PySem.W.subIn K (.ref (He.ga K e.C)) (.type "BaseException") = some true) && (decide (PySem.W.typeIn K (.ref (He.ga K e.C)) = some (.type "type")) && (PySem.W.keepIn K (.ref (He.ga K e.C)) &&
  (He.eqO (PySem.W.findIn K (.ref (He.ga K e.C)) "__init__") (some (some (.ref (iniA K e.C)))) && (decide (PySem.W.typeIn K (.ref (iniA K e.C)) = some (.type "function")) && (iniZ file e K && (He.eqO (PySem.W.nsIn K cStatics "thirdparty.any") (some none) && (He.eqO (PySem.W.ks_superIn K (He.ga K e.C) (He.ga K e.C) "__init__") (some (some (.builtin "ValueError.__init__"))) &&
  (decide (PySem.W.mroIn K (He.ga K e.C) (.ref (He.ga K e.C)) = some true) && (decide (PySem.W.subIn K (.ref (He.ga K e.C)) (.type "ValueError") = some true) && (e.ps.all fun f => He.eqO (PySem.W.findIn K (.ref (He.ga K e.C)) f) (some none)))))))))))))
theorem errZ_ok {file : Str} {e : EnD} {K : PySem.W.Frag} {mg : Str → Option Value} (hs : mg "super" = none) (hv : fnZ K e.C = e.val) (h : errZ file e K = true) : ErrT K mg (He.ga K e.C) e.st e.qual e.ps file := by
  obtain ⟨h1, h⟩ := He.ba h
  obtain ⟨h2, h⟩ := He.ba h
  obtain ⟨h3, h⟩ := He.ba h
  obtain ⟨h4, h⟩ := He.ba h
  obtain ⟨h5, h⟩ := He.ba h
  obtain ⟨h6, h⟩ := He.ba h
  obtain ⟨h7, h⟩ := He.ba h
  obtain ⟨h8, h⟩ := He.ba h
  obtain ⟨h9, h⟩ := He.ba h
  obtain ⟨h10, h⟩ := He.ba h
  obtain ⟨h11, h⟩ := He.ba h
  obtain ⟨h12, h13⟩ := He.ba h
  obtain ⟨cc, cda, oc, od, osl, doc, pm, ctv, lk, hcd, hcode, hcell⟩ := iniZ_ok hv h8
  exact ⟨⟨oexZ_ok h1, He.eqO_ok h2, of_decide_eq_true h3, of_decide_eq_true h4, h5⟩, ⟨iniA K e.C, cc, cda, oc, od, osl, doc, pm, ctv, He.eqO_ok h6, of_decide_eq_true h7, lk, hcd, ⟨hcode, hcell, hs, He.eqO_ok h9, He.eqO_ok h10, of_decide_eq_true h11, of_decide_eq_true h12⟩⟩, fun f hf => He.eqO_ok (List.all_eq_true.mp h13 f hf)⟩
/-- the error classes, by name -/
def errN : List Str := ["BadField", "BadModes", "BadCall", "UnknownCall", "BadPlace", "BadText", "BadRow", "BadWord", "BadWish", "BadRun", "BadCallers", "BadKind", "BadRule", "Refused", "BadThing"]
def excZ (K : PySem.W.Frag) (D : Addr) : Bool :=
  He.eqO (PySem.W.findIn K (.ref D) "__getattribute__") (some (some (.builtin "BaseException.__getattribute__"))) && (He.eqO (PySem.W.findIn K (.ref D) "__getattr__") (some none) && (decide (PySem.W.subIn K (.ref D) (.type "BaseException") = some true) && (PySem.W.hasDictIn K D &&
  (He.eqO (PySem.W.findIn K (.ref D) "__class__") (some (some (.builtin "object.__class__"))) && (He.eqO (PySem.W.specialIn K (.builtin "object.__class__") "__get__") (some (some (.builtin "getset_descriptor.__get__"))) && (decide (PySem.W.takesIn K (.builtin "object.__class__") = some true) && decide (PySem.W.mroIn K D (.type "object") = some true)))))))
theorem excZ_ok {K : PySem.W.Frag} {D : Addr} (h : excZ K D = true) : ExcC K D ∧ XfC K D := by
  obtain ⟨h1, h⟩ := He.ba h
  obtain ⟨h2, h⟩ := He.ba h
  obtain ⟨h3, h⟩ := He.ba h
  obtain ⟨h4, h⟩ := He.ba h
  obtain ⟨h5, h⟩ := He.ba h
  obtain ⟨h6, h⟩ := He.ba h
  obtain ⟨h7, h8⟩ := He.ba h
  exact ⟨⟨He.eqO_ok h1, He.eqO_ok h2, of_decide_eq_true h3, h4, He.eqO_ok h5, He.eqO_ok h6, of_decide_eq_true h7, of_decide_eq_true h8⟩, ⟨He.eqO_ok h1, He.eqO_ok h2, of_decide_eq_true h3, h4⟩⟩
def kitZ (K : PySem.W.Frag) (as : List Addr) : Bool := (List.range as.length).all fun i => (List.range as.length).all fun j => decide (PySem.W.kitOne K (.ref (as.getD i 0)) (.ref (as.getD j 0)) = some (decide (i = j)))
def errKZ (K : PySem.W.Frag) : Bool := (errN.map (He.ga K)).all (excZ K) && (kitZ K (errN.map (He.ga K)) && (errN.map (He.ga K)).all fun D => decide (PySem.W.exmOne K (.ref D) (.ref (He.ga K "MakerError")) = some true))
theorem errKZ_ok {K : PySem.W.Frag} {A : Ad} (h : errKZ K = true) (e : errCls A = errN.map (He.ga K)) (em : A.MakerError = He.ga K "MakerError") : ErrK K A := by
  obtain ⟨h1, h⟩ := He.ba h
  obtain ⟨h2, h3⟩ := He.ba h
  refine ⟨fun D hD => (excZ_ok (List.all_eq_true.mp h1 D (e ▸ hD))).1, fun D hD => (excZ_ok (List.all_eq_true.mp h1 D (e ▸ hD))).2, fun i j D C hi hj => ?_, fun D hD => ?_⟩
  · rw [e] at hi hj
    have li := (List.getElem?_eq_some_iff.mp hi).1
    have lj := (List.getElem?_eq_some_iff.mp hj).1
    have q := List.all_eq_true.mp (List.all_eq_true.mp h2 i (List.mem_range.mpr li)) j (List.mem_range.mpr lj)
    have q2 := of_decide_eq_true q
    rw [List.getD_eq_getElem?_getD, List.getD_eq_getElem?_getD, hi, hj] at q2
    exact q2
  · rw [em]
    exact of_decide_eq_true (List.all_eq_true.mp h3 D (e ▸ hD))
/-! ### the Hook -/
def selZ (o : Obj) : List Addr := match o.data with
  | .func fd => He.refV fd.code ++ (He.refV fd.defaults ++ (He.refV fd.kwdefaults ++ fd.closure.map (·.2)))
  | .cls cd => [cd.ns]
  | .dict es _ => es.toList.flatMap fun e => He.refV e.val
  | .seq its _ => its.toList.flatMap He.refV
  | _ => []
def lvlZ (g : Addr → Option Obj) (as : List Addr) : List Addr := as.flatMap fun a => match g a with
  | some o => selZ o
  | none => []
def asZ (g : Addr → Option Obj) : Nat → List Addr → List Addr
  | 0, as => as
  | n + 1, as => as ++ asZ g n (lvlZ g as)
def frZ (g : Addr → Option Obj) : PySem.W.Frag := He.frT g (cStatics :: asZ g 5 [mainGlobals])
abbrev AlZ : Type := (He.AlT × List FnZ) × Bool
structure SaysZ (fa : List He.Fa) (fn : List He.DefD) (ts : List He.Tab) (en : List EnD) (tf : List He.Defn) (ex : PySem.W.Frag → Bool) (w : World) (h : Heap) (K : PySem.W.Frag) : Prop where
  t : He.SaysT fa fn ts w K
  en : (en.map fun e => fnZ K e.C) = en.map EnD.val
  more : ex K = true
  hd : ∀ p ∈ tf, PySem.W.codeHdIn K (He.cT K p).1 (He.cT K p).2 = true
  out : ∀ p ∈ tf, K.lookup (He.cT K p).2 = none
  empty : ∀ p ∈ tf, h.get? (He.cT K p).2 = some { cls := .none, data := .fields #[] }
def obsZ (fa : List He.Fa) (fn : List He.DefD) (ts : List He.Tab) (en : List EnD) (tf : List He.Defn) (ex : PySem.W.Frag → Bool) (g : Addr → Option Obj) : AlZ := ((He.obsT fa fn ts (frZ g), en.map fun e => fnZ (frZ g) e.C), ex (frZ g) && He.tabsB g tf (frZ g))
def valZ (fn : List He.DefD) (ts : List He.Tab) (en : List EnD) (w : World) : AlZ := ((He.valT fn ts w, en.map EnD.val), true)
theorem saysZ_of {fa : List He.Fa} {fn : List He.DefD} {ts : List He.Tab} {en : List EnD} {tf : List He.Defn} {ex : PySem.W.Frag → Bool} {w : World} {h : Heap} (e : obsZ fa fn ts en tf ex h.get? = valZ fn ts en w) : SaysZ fa fn ts en tf ex w h (frZ h.get?) := by
  have e1 := congrArg (fun z : AlZ => z.1) e
  have e2 : (ex (frZ h.get?) && He.tabsB h.get? tf (frZ h.get?)) = true := congrArg (fun z : AlZ => z.2) e
  obtain ⟨h1, h2⟩ := He.ba e2
  have key : ∀ p ∈ tf, PySem.W.codeHdIn (frZ h.get?) (He.cT (frZ h.get?) p).1 (He.cT (frZ h.get?) p).2 = true ∧ ∃ o, h.get? (He.cT (frZ h.get?) p).2 = some o ∧ He.emptyTab o = true := fun p hp => by
    obtain ⟨h3, h4⟩ := He.ba (List.all_eq_true.mp h2 p hp)
    refine ⟨h3, ?_⟩
    cases q : h.get? (He.cT (frZ h.get?) p).2 with
    | none => rw [q] at h4; cases h4
    | some o => rw [q] at h4; exact ⟨o, rfl, h4⟩
  exact ⟨congrArg (fun z : He.AlT × List FnZ => z.1) e1, congrArg (fun z : He.AlT × List FnZ => z.2) e1, h1, fun p hp => (key p hp).1, fun p hp => by
    obtain ⟨_, o, q, z⟩ := key p hp
    exact He.frT_none q z, fun p hp => by
    obtain ⟨_, o, q, z⟩ := key p hp
    rw [q, He.emptyTab_eq z]⟩
def hookZ (fa : List He.Fa) (fn : List He.DefD) (ts : List He.Tab) (en : List EnD) (tf : List He.Defn) (ex : PySem.W.Frag → Bool) : PySem.W.Hook where
  α := AlZ
  obs := fun s => obsZ fa fn ts en tf ex s.heap.get?
  val := fun w => valZ fn ts en w
  says := fun w h => ∃ K : PySem.W.Frag, K.In h ∧ SaysZ fa fn ts en tf ex w h K
  of := fun _ _ e => ⟨_, He.frT_in, saysZ_of e⟩
  keeps := fun _ _ _ ⟨K, hK, c⟩ k => ⟨K, PySem.W.Frag.In.keeps hK k, ⟨c.t, c.en, c.more, c.hd, c.out, fun p hp => k _ _ (c.empty p hp)⟩⟩
theorem obsZ_eq {fa : List He.Fa} {fn : List He.DefD} {ts : List He.Tab} {en : List EnD} {tf : List He.Defn} {ex : PySem.W.Frag → Bool} {g : Addr → Option Obj} {s : Shared} (h : ∀ a, g a = s.heap.get? a) : obsZ fa fn ts en tf ex g = (hookZ fa fn ts en tf ex).obs s := by
  have e : g = s.heap.get? := funext h
  rw [e] <;> rfl
theorem en_at {K : PySem.W.Frag} {en : List EnD} (h : (en.map fun e => fnZ K e.C) = en.map EnD.val) (i : Nat) {e : EnD} (hi : en[i]? = some e) : fnZ K e.C = e.val := by
  have q := congrArg (fun l : List FnZ => l[i]?) h
  simp only [List.getElem?_map, hi, Option.map_some] at q
  exact Option.some.inj q
/-- the law's code object and its table -/
theorem lawT_of {K : PySem.W.Frag} {h : Heap} {fa : List He.Fa} {fn : List He.DefD} {ts : List He.Tab} {en : List EnD} {ex : PySem.W.Frag → Bool} {w : World} {mg : Str → Option Value} {CX : CXT} {l : PySem.W.OpenLaw} {lv n : Nat} {fd : FuncData} {st : Stmt}
    (X : K.In h) (c : SaysZ fa fn ts en [("law", none)] ex w h K) (F : Fun K "law" "law" st (He.ga K "law") fd) (hb : ∀ (s : Shared) (v : Value), BindsTo s fd ⟨[v], []⟩ [("_law_script", v)])
    (hF : ∀ base : Heap, K.In base → base.Ns mainGlobals mg → (∀ cd, fd.code = .ref cd → TabB base mg cd (He.cT K ("law", none)).2) → FnOk l.prog w K mg base CX lv (He.ga K "law") fd ["_law_script"] (spLawT K (He.cT K ("law", none)).2)) (hn : n ≤ 63) :
    LawAtS l w K CX lv n "_law_script" mg (He.ga K "law") h := by
  have m : (("law", none) : He.Defn) ∈ [(("law", none) : He.Defn)] := List.mem_singleton.mpr rfl
  refine ⟨fd, [He.cT K ("law", none)], spLawT K (He.cT K ("law", none)).2, fun p hp => ?_, fun p hp => ?_, fun p hp => ?_, hb, fun H a ns hl _ hT hS => ?_, fun base hK hG hTB => hF base hK hG fun cd hcd => ?_⟩
  · rw [List.mem_singleton.mp hp]; exact c.empty _ m
  · rw [List.mem_singleton.mp hp]; exact c.out _ m
  · rw [List.mem_singleton.mp hp]; exact PySem.W.codeHd_of_K X (c.hd _ m)
  · exact ⟨a, ns, rfl, hS, Nat.le_trans hl hn, hT _ (List.mem_singleton.mpr rfl), fun _ => rfl⟩
  · obtain ⟨oc, od, kV, doc, pm, an, cdv, ct, osl, rfl, lk, hcg⟩ := F.ex
    have e := He.codeOf_eq (p := ("law", none)) lk hcd
    have t := hTB _ (List.mem_singleton.mpr rfl)
    have e2 : (He.cT K ("law", none)).1 = cd := e
    rw [← e2]
    exact t
end Mz
end
section
set_option Elab.async false
set_option linter.all false
set_option maxRecDepth 100000
set_option maxHeartbeats 4000000
namespace Mz
open PySem L2
/-- MakerError and ValueError, by name -/
def errMZ (K : PySem.W.Frag) : Bool := (He.ga K "MakerError" :: errN.map (He.ga K)).all (fun D => excZ K D && (decide (PySem.W.kitOne K (.ref D) (.ref (He.ga K "MakerError")) = some true) && decide (PySem.W.kitOne K (.ref D) (.type "ValueError") = some true))) &&
  (errN.map (He.ga K)).all fun C => decide (PySem.W.kitOne K (.ref (He.ga K "MakerError")) (.ref C) = some false)
theorem errMZ_ok {K : PySem.W.Frag} {A : Ad} (h : errMZ K = true) (e : errCls A = errN.map (He.ga K)) (em : A.MakerError = He.ga K "MakerError") : ErrM K A := by
  obtain ⟨h1, h2⟩ := He.ba h
  have ea : errAll A = He.ga K "MakerError" :: errN.map (He.ga K) := by
    unfold errAll
    rw [e, em]
  have key : ∀ D ∈ errAll A, excZ K D = true ∧ PySem.W.kitOne K (.ref D) (.ref (He.ga K "MakerError")) = some true ∧ PySem.W.kitOne K (.ref D) (.type "ValueError") = some true := fun D hD => by
    rw [ea] at hD
    obtain ⟨q1, q2⟩ := He.ba (List.all_eq_true.mp h1 D hD)
    obtain ⟨q2, q3⟩ := He.ba q2
    exact ⟨q1, of_decide_eq_true q2, of_decide_eq_true q3⟩
  refine ⟨fun D hD => (excZ_ok (key D hD).1).1, fun D hD => ?_, fun C hC => ?_, fun D hD => (key D hD).2.2⟩
  · rw [em]
    exact (key D hD).2.1
  · rw [em]
    rw [e] at hC
    exact of_decide_eq_true (List.all_eq_true.mp h2 C hC)
end Mz
end
section
set_option Elab.async false
set_option linter.all false
set_option maxRecDepth 100000
set_option maxHeartbeats 4000000
set_option maxHeartbeats 0
namespace Mz
open PySem L2
def hd_law_fill : He.DefD := ⟨("_law_fill", none), "_law_fill", "_law_fill", defArgs s_law_fill, defBody s_law_fill, defScope s_law_fill, [], []⟩
def hd_law_take : He.DefD := ⟨("_law_take", none), "_law_take", "_law_take", defArgs s_law_take, defBody s_law_take, defScope s_law_take, [], []⟩
def hd_law_fresh : He.DefD := ⟨("_law_fresh", none), "_law_fresh", "_law_fresh", defArgs s_law_fresh, defBody s_law_fresh, defScope s_law_fresh, [], []⟩
def hd_law_with_one : He.DefD := ⟨("_law_with_one", none), "_law_with_one", "_law_with_one", defArgs s_law_with_one, defBody s_law_with_one, defScope s_law_with_one, [], []⟩
def hd_law_by_place : He.DefD := ⟨("_law_by_place", none), "_law_by_place", "_law_by_place", defArgs s_law_by_place, defBody s_law_by_place, defScope s_law_by_place, [], []⟩
def hd_law_held : He.DefD := ⟨("_law_held", none), "_law_held", "_law_held", defArgs s_law_held, defBody s_law_held, defScope s_law_held, [], []⟩
def hd_law_classes : He.DefD := ⟨("_law_classes", none), "_law_classes", "_law_classes", defArgs s_law_classes, defBody s_law_classes, defScope s_law_classes, [], []⟩
def hd_law : He.DefD := ⟨("law", none), "law", "law", defArgs s_law, defBody s_law, defScope s_law, [], []⟩
def hd_law_one_o : He.DefD := ⟨("_law_one", none), "_law_one", "_law_one", defArgs s_law_one_o, defBody s_law_one_o, defScope s_law_one_o, [], []⟩
def hd_law_same_y : He.DefD := ⟨("_law_same", none), "_law_same", "_law_same", defArgs s_law_same_y, defBody s_law_same_y, defScope s_law_same_y, [], []⟩
def ed_BadCall : EnD := ⟨"BadCall", s_BadCall___init__, "BadCall.__init__", ["index", "reason"]⟩
def ed_BadCallers : EnD := ⟨"BadCallers", s_BadCallers___init__, "BadCallers.__init__", ["callers"]⟩
def ed_BadField : EnD := ⟨"BadField", s_BadField___init__, "BadField.__init__", ["index"]⟩
def ed_BadKind : EnD := ⟨"BadKind", s_BadKind___init__, "BadKind.__init__", ["kind"]⟩
def ed_BadModes : EnD := ⟨"BadModes", s_BadModes___init__, "BadModes.__init__", ["modes"]⟩
def ed_BadPlace : EnD := ⟨"BadPlace", s_BadPlace___init__, "BadPlace.__init__", ["place"]⟩
def ed_BadRow : EnD := ⟨"BadRow", s_BadRow___init__, "BadRow.__init__", ["index"]⟩
def ed_BadRule : EnD := ⟨"BadRule", s_BadRule___init__, "BadRule.__init__", ["index"]⟩
def ed_BadRun : EnD := ⟨"BadRun", s_BadRun___init__, "BadRun.__init__", ["thing"]⟩
def ed_BadText : EnD := ⟨"BadText", s_BadText___init__, "BadText.__init__", ["line"]⟩
def ed_BadWish : EnD := ⟨"BadWish", s_BadWish___init__, "BadWish.__init__", ["wish"]⟩
def ed_BadWord : EnD := ⟨"BadWord", s_BadWord___init__, "BadWord.__init__", ["word"]⟩
def ed_UnknownCall : EnD := ⟨"UnknownCall", s_UnknownCall___init__, "UnknownCall.__init__", ["name"]⟩
def hk_en : List EnD := [ed_BadCall, ed_BadCallers, ed_BadField, ed_BadKind, ed_BadModes, ed_BadPlace, ed_BadRow, ed_BadRule, ed_BadRun, ed_BadText, ed_BadWish, ed_BadWord, ed_UnknownCall]
def hk_fa0 : List (He.Fa) := [.glo "_law_fill", .glo "_law_take", .glo "_law_fresh", .glo "_law_with_one", .glo "_law_by_place", .glo "_law_held", .glo "_law_classes", .glo "law", .glo "_law_one", .glo "_law_same", .free "super", .free "len", .free "int", .free "bool", .free "list", .free "tuple", .free "range", .free "enumerate", .free "zip", .free "isinstance", .free "all", .free "ValueError", .glo "BadCall", .glo "BadCallers", .glo "BadField", .glo "BadKind", .glo "BadModes", .glo "BadPlace", .glo "BadRow", .glo "BadRule"]
def hk_fa1 : List (He.Fa) := [.glo "BadRun", .glo "BadText", .glo "BadThing", .glo "BadWish", .glo "BadWord", .glo "MakerError", .glo "Refused", .glo "UnknownCall", .noat "BadCall" "index", .noat "BadCall" "reason", .noat "BadCallers" "callers", .noat "BadField" "index", .noat "BadKind" "kind", .noat "BadModes" "modes", .noat "BadPlace" "place", .noat "BadRow" "index", .noat "BadRule" "index", .noat "BadRun" "thing", .noat "BadText" "line", .noat "BadWish" "wish", .noat "BadWord" "word", .noat "UnknownCall" "name"]
def hk_fa : List (He.Fa) := hk_fa0 ++ hk_fa1
def hk_fn0 : List (He.DefD) := [hd_law_fill, hd_law_take, hd_law_fresh, hd_law_with_one, hd_law_by_place, hd_law_held, hd_law_classes, hd_law, hd_law_one_o, hd_law_same_y]
def hk_fn : List (He.DefD) := hk_fn0
def hk_ts0 : List (He.Tab) := []
def hk_ts : List (He.Tab) := hk_ts0
def hk_ex0 : List (PySem.W.Frag → Bool) := [errKZ, errMZ, errZ lawFile ed_BadCall, errZ lawFile ed_BadCallers, errZ lawFile ed_BadField, errZ lawFile ed_BadKind, errZ lawFile ed_BadModes, errZ lawFile ed_BadPlace, errZ lawFile ed_BadRow, errZ lawFile ed_BadRule, errZ lawFile ed_BadRun, errZ lawFile ed_BadText, fun K => err0B K (He.ga K "BadThing"), errZ lawFile ed_BadWish, errZ lawFile ed_BadWord, fun K => err0B K (He.ga K "MakerError"), fun K => err0B K (He.ga K "Refused"), errZ lawFile ed_UnknownCall]
def hk_ex : List (PySem.W.Frag → Bool) := hk_ex0
def hk_nm0 : List (Str) := ["MakerError", "BadField", "BadModes", "BadCall", "UnknownCall", "BadPlace", "BadText", "BadRow", "BadWord", "Refused", "BadThing", "BadWish", "BadRun", "BadCallers", "BadKind", "BadRule", "_law_fresh", "_law_fill", "_law_take", "_law_one", "_law_same", "_law_with_one", "_law_by_place", "_law_held", "_law_classes"]
def hk_nm : List (Str) := hk_nm0
abbrev hk_x (K : PySem.W.Frag) : Bool := hk_ex.all fun f => f K
abbrev hkR : PySem.W.OpenRow := PySem.W.OpenLaw.row PySem.Challenge.rw_makerlines_k01_errors_made
abbrev hk : PySem.W.Hook := hookZ hk_fa hk_fn hk_ts hk_en [("law", none)] hk_x
def hk_ob (s : PySem.W.SharedT) : AlZ := obsZ hk_fa hk_fn hk_ts hk_en [("law", none)] hk_x (HandSHeadRun.getT s)
theorem hk_ob_eq (s : PySem.W.SharedT) : hk_ob s = hk.obs s.abs := obsZ_eq (HandSHeadRun.getT_eq s)
theorem hk_run_false (w : World) : HandSHeadRun.RunEq hkR (PySem.W.view hkR.prog [27]) hk hk_ob 9000 hk_nm (w.withFollow "special-get-raises" false) := by
  intro os
  kernel_rfl
theorem hk_run_true (w : World) : HandSHeadRun.RunEq hkR (PySem.W.view hkR.prog [27]) hk hk_ob 9000 hk_nm (w.withFollow "special-get-raises" true) := by
  intro os
  kernel_rfl
theorem hk_run (w : World) : HandSHeadRun.RunEq hkR (PySem.W.view hkR.prog [27]) hk hk_ob 9000 hk_nm w := PySem.W.byRow2 "special-get-raises" hk_run_false hk_run_true w
end Mz
end
section
set_option Elab.async false
set_option linter.all false
set_option maxRecDepth 100000
set_option maxHeartbeats 4000000
namespace Mz
open PySem L2
section
variable {P : Program} {w : World} {K : PySem.W.Frag} {mg : Str → Option Value} {base : Heap} {A : Ad} {B : Bd}
theorem ev_BadCall_p (T : Tx w K mg A B) (hP : SupP P lawFile) : ErrV P w K mg base A.BadCall 2 [] gApp (spI2 K A.BadCall "index" "reason") :=
  errV2 (st := s_BadCall___init__) T.xe_BadCall hP rfl rfl (NdefX.nscope_by (by decide +kernel)) (by rfl) rfl (fun _ _ _ _ _ us ws h1 h2 => match us, ws, h1, h2 with | [_, _, _], [], _, _ => rfl) gApp_rel
theorem ev_BadCall_r (T : Tx w K mg A B) (hP : SupP P lawFile) : ErrV P w K mg base A.BadCall 0 ["reason", "index"] gRev (spI2 K A.BadCall "index" "reason") :=
  errV2 (st := s_BadCall___init__) T.xe_BadCall hP rfl rfl (NdefX.nscope_by (by decide +kernel)) (by rfl) rfl (fun _ _ _ _ _ us ws h1 h2 => match us, ws, h1, h2 with | [_], [_, _], _, _ => rfl) gRev_rel
theorem ev_BadCallers_k (T : Tx w K mg A B) (hP : SupP P lawFile) : ErrV P w K mg base A.BadCallers 0 ["callers"] gApp (spI1 K A.BadCallers "callers") :=
  errV1 (st := s_BadCallers___init__) T.xe_BadCallers hP rfl rfl (NdefX.nscope_by (by decide +kernel)) (by rfl) rfl (fun _ _ _ _ _ us ws h1 h2 => match us, ws, h1, h2 with | [_], [_], _, _ => rfl) gApp_rel
theorem ev_BadCallers_p (T : Tx w K mg A B) (hP : SupP P lawFile) : ErrV P w K mg base A.BadCallers 1 [] gApp (spI1 K A.BadCallers "callers") :=
  errV1 (st := s_BadCallers___init__) T.xe_BadCallers hP rfl rfl (NdefX.nscope_by (by decide +kernel)) (by rfl) rfl (fun _ _ _ _ _ us ws h1 h2 => match us, ws, h1, h2 with | [_, _], [], _, _ => rfl) gApp_rel
theorem ev_BadField_k (T : Tx w K mg A B) (hP : SupP P lawFile) : ErrV P w K mg base A.BadField 0 ["index"] gApp (spI1 K A.BadField "index") :=
  errV1 (st := s_BadField___init__) T.xe_BadField hP rfl rfl (NdefX.nscope_by (by decide +kernel)) (by rfl) rfl (fun _ _ _ _ _ us ws h1 h2 => match us, ws, h1, h2 with | [_], [_], _, _ => rfl) gApp_rel
theorem ev_BadField_p (T : Tx w K mg A B) (hP : SupP P lawFile) : ErrV P w K mg base A.BadField 1 [] gApp (spI1 K A.BadField "index") :=
  errV1 (st := s_BadField___init__) T.xe_BadField hP rfl rfl (NdefX.nscope_by (by decide +kernel)) (by rfl) rfl (fun _ _ _ _ _ us ws h1 h2 => match us, ws, h1, h2 with | [_, _], [], _, _ => rfl) gApp_rel
theorem ev_BadKind_k (T : Tx w K mg A B) (hP : SupP P lawFile) : ErrV P w K mg base A.BadKind 0 ["kind"] gApp (spI1 K A.BadKind "kind") :=
  errV1 (st := s_BadKind___init__) T.xe_BadKind hP rfl rfl (NdefX.nscope_by (by decide +kernel)) (by rfl) rfl (fun _ _ _ _ _ us ws h1 h2 => match us, ws, h1, h2 with | [_], [_], _, _ => rfl) gApp_rel
theorem ev_BadKind_p (T : Tx w K mg A B) (hP : SupP P lawFile) : ErrV P w K mg base A.BadKind 1 [] gApp (spI1 K A.BadKind "kind") :=
  errV1 (st := s_BadKind___init__) T.xe_BadKind hP rfl rfl (NdefX.nscope_by (by decide +kernel)) (by rfl) rfl (fun _ _ _ _ _ us ws h1 h2 => match us, ws, h1, h2 with | [_, _], [], _, _ => rfl) gApp_rel
theorem ev_BadModes_k (T : Tx w K mg A B) (hP : SupP P lawFile) : ErrV P w K mg base A.BadModes 0 ["modes"] gApp (spI1 K A.BadModes "modes") :=
  errV1 (st := s_BadModes___init__) T.xe_BadModes hP rfl rfl (NdefX.nscope_by (by decide +kernel)) (by rfl) rfl (fun _ _ _ _ _ us ws h1 h2 => match us, ws, h1, h2 with | [_], [_], _, _ => rfl) gApp_rel
theorem ev_BadModes_p (T : Tx w K mg A B) (hP : SupP P lawFile) : ErrV P w K mg base A.BadModes 1 [] gApp (spI1 K A.BadModes "modes") :=
  errV1 (st := s_BadModes___init__) T.xe_BadModes hP rfl rfl (NdefX.nscope_by (by decide +kernel)) (by rfl) rfl (fun _ _ _ _ _ us ws h1 h2 => match us, ws, h1, h2 with | [_, _], [], _, _ => rfl) gApp_rel
theorem ev_BadPlace_k (T : Tx w K mg A B) (hP : SupP P lawFile) : ErrV P w K mg base A.BadPlace 0 ["place"] gApp (spI1 K A.BadPlace "place") :=
  errV1 (st := s_BadPlace___init__) T.xe_BadPlace hP rfl rfl (NdefX.nscope_by (by decide +kernel)) (by rfl) rfl (fun _ _ _ _ _ us ws h1 h2 => match us, ws, h1, h2 with | [_], [_], _, _ => rfl) gApp_rel
theorem ev_BadPlace_p (T : Tx w K mg A B) (hP : SupP P lawFile) : ErrV P w K mg base A.BadPlace 1 [] gApp (spI1 K A.BadPlace "place") :=
  errV1 (st := s_BadPlace___init__) T.xe_BadPlace hP rfl rfl (NdefX.nscope_by (by decide +kernel)) (by rfl) rfl (fun _ _ _ _ _ us ws h1 h2 => match us, ws, h1, h2 with | [_, _], [], _, _ => rfl) gApp_rel
theorem ev_BadRow_k (T : Tx w K mg A B) (hP : SupP P lawFile) : ErrV P w K mg base A.BadRow 0 ["index"] gApp (spI1 K A.BadRow "index") :=
  errV1 (st := s_BadRow___init__) T.xe_BadRow hP rfl rfl (NdefX.nscope_by (by decide +kernel)) (by rfl) rfl (fun _ _ _ _ _ us ws h1 h2 => match us, ws, h1, h2 with | [_], [_], _, _ => rfl) gApp_rel
theorem ev_BadRow_p (T : Tx w K mg A B) (hP : SupP P lawFile) : ErrV P w K mg base A.BadRow 1 [] gApp (spI1 K A.BadRow "index") :=
  errV1 (st := s_BadRow___init__) T.xe_BadRow hP rfl rfl (NdefX.nscope_by (by decide +kernel)) (by rfl) rfl (fun _ _ _ _ _ us ws h1 h2 => match us, ws, h1, h2 with | [_, _], [], _, _ => rfl) gApp_rel
theorem ev_BadRule_k (T : Tx w K mg A B) (hP : SupP P lawFile) : ErrV P w K mg base A.BadRule 0 ["index"] gApp (spI1 K A.BadRule "index") :=
  errV1 (st := s_BadRule___init__) T.xe_BadRule hP rfl rfl (NdefX.nscope_by (by decide +kernel)) (by rfl) rfl (fun _ _ _ _ _ us ws h1 h2 => match us, ws, h1, h2 with | [_], [_], _, _ => rfl) gApp_rel
theorem ev_BadRule_p (T : Tx w K mg A B) (hP : SupP P lawFile) : ErrV P w K mg base A.BadRule 1 [] gApp (spI1 K A.BadRule "index") :=
  errV1 (st := s_BadRule___init__) T.xe_BadRule hP rfl rfl (NdefX.nscope_by (by decide +kernel)) (by rfl) rfl (fun _ _ _ _ _ us ws h1 h2 => match us, ws, h1, h2 with | [_, _], [], _, _ => rfl) gApp_rel
theorem ev_BadRun_k (T : Tx w K mg A B) (hP : SupP P lawFile) : ErrV P w K mg base A.BadRun 0 ["thing"] gApp (spI1 K A.BadRun "thing") :=
  errV1 (st := s_BadRun___init__) T.xe_BadRun hP rfl rfl (NdefX.nscope_by (by decide +kernel)) (by rfl) rfl (fun _ _ _ _ _ us ws h1 h2 => match us, ws, h1, h2 with | [_], [_], _, _ => rfl) gApp_rel
theorem ev_BadRun_p (T : Tx w K mg A B) (hP : SupP P lawFile) : ErrV P w K mg base A.BadRun 1 [] gApp (spI1 K A.BadRun "thing") :=
  errV1 (st := s_BadRun___init__) T.xe_BadRun hP rfl rfl (NdefX.nscope_by (by decide +kernel)) (by rfl) rfl (fun _ _ _ _ _ us ws h1 h2 => match us, ws, h1, h2 with | [_, _], [], _, _ => rfl) gApp_rel
theorem ev_BadText_k (T : Tx w K mg A B) (hP : SupP P lawFile) : ErrV P w K mg base A.BadText 0 ["line"] gApp (spI1 K A.BadText "line") :=
  errV1 (st := s_BadText___init__) T.xe_BadText hP rfl rfl (NdefX.nscope_by (by decide +kernel)) (by rfl) rfl (fun _ _ _ _ _ us ws h1 h2 => match us, ws, h1, h2 with | [_], [_], _, _ => rfl) gApp_rel
theorem ev_BadText_p (T : Tx w K mg A B) (hP : SupP P lawFile) : ErrV P w K mg base A.BadText 1 [] gApp (spI1 K A.BadText "line") :=
  errV1 (st := s_BadText___init__) T.xe_BadText hP rfl rfl (NdefX.nscope_by (by decide +kernel)) (by rfl) rfl (fun _ _ _ _ _ us ws h1 h2 => match us, ws, h1, h2 with | [_, _], [], _, _ => rfl) gApp_rel
theorem ev_BadWish_k (T : Tx w K mg A B) (hP : SupP P lawFile) : ErrV P w K mg base A.BadWish 0 ["wish"] gApp (spI1 K A.BadWish "wish") :=
  errV1 (st := s_BadWish___init__) T.xe_BadWish hP rfl rfl (NdefX.nscope_by (by decide +kernel)) (by rfl) rfl (fun _ _ _ _ _ us ws h1 h2 => match us, ws, h1, h2 with | [_], [_], _, _ => rfl) gApp_rel
theorem ev_BadWish_p (T : Tx w K mg A B) (hP : SupP P lawFile) : ErrV P w K mg base A.BadWish 1 [] gApp (spI1 K A.BadWish "wish") :=
  errV1 (st := s_BadWish___init__) T.xe_BadWish hP rfl rfl (NdefX.nscope_by (by decide +kernel)) (by rfl) rfl (fun _ _ _ _ _ us ws h1 h2 => match us, ws, h1, h2 with | [_, _], [], _, _ => rfl) gApp_rel
theorem ev_BadWord_k (T : Tx w K mg A B) (hP : SupP P lawFile) : ErrV P w K mg base A.BadWord 0 ["word"] gApp (spI1 K A.BadWord "word") :=
  errV1 (st := s_BadWord___init__) T.xe_BadWord hP rfl rfl (NdefX.nscope_by (by decide +kernel)) (by rfl) rfl (fun _ _ _ _ _ us ws h1 h2 => match us, ws, h1, h2 with | [_], [_], _, _ => rfl) gApp_rel
theorem ev_BadWord_p (T : Tx w K mg A B) (hP : SupP P lawFile) : ErrV P w K mg base A.BadWord 1 [] gApp (spI1 K A.BadWord "word") :=
  errV1 (st := s_BadWord___init__) T.xe_BadWord hP rfl rfl (NdefX.nscope_by (by decide +kernel)) (by rfl) rfl (fun _ _ _ _ _ us ws h1 h2 => match us, ws, h1, h2 with | [_, _], [], _, _ => rfl) gApp_rel
theorem ev_UnknownCall_k (T : Tx w K mg A B) (hP : SupP P lawFile) : ErrV P w K mg base A.UnknownCall 0 ["name"] gApp (spI1 K A.UnknownCall "name") :=
  errV1 (st := s_UnknownCall___init__) T.xe_UnknownCall hP rfl rfl (NdefX.nscope_by (by decide +kernel)) (by rfl) rfl (fun _ _ _ _ _ us ws h1 h2 => match us, ws, h1, h2 with | [_], [_], _, _ => rfl) gApp_rel
theorem ev_UnknownCall_p (T : Tx w K mg A B) (hP : SupP P lawFile) : ErrV P w K mg base A.UnknownCall 1 [] gApp (spI1 K A.UnknownCall "name") :=
  errV1 (st := s_UnknownCall___init__) T.xe_UnknownCall hP rfl rfl (NdefX.nscope_by (by decide +kernel)) (by rfl) rfl (fun _ _ _ _ _ us ws h1 h2 => match us, ws, h1, h2 with | [_, _], [], _, _ => rfl) gApp_rel
theorem ok0_law_fill (T : Tx w K mg A B) : FnOk P w K mg base CX0 1 B.f_law_fill B.d_law_fill ["_law_state"] (sp_law_fill A K) := by
  refine T.F_law_fill.ok sc_law_fill (fun vs H Q E h => ?_) (fun cdv AA outer s H vs Q E hr h => ⟨t_law_fill A K, ?_, r_law_fill h⟩)
  · (repeat obtain ⟨x, h⟩ := h); subst_vars; rfl
  · exact (pss_cons (ps_par (i := 1) (j := 2) (by rfl) sc_law_fill.nd rfl rfl (by decide) rfl rfl (pa_cons (pe_ix ix_list (pv 0) pe_int (fun _ _ => rfl)) (pa_cons (pe_ix ix_list (pv 0) pe_int (fun _ _ => rfl)) pa_nil)) (by rfl))
(pss_cons (ps_set (i := 3) sc_law_fill.nd rfl (.inl rfl) (pe_op op_add (pe_op op_mul pe_int (pv 2)) pe_int))
(pss_cut (ps_if (pt_cmpR op_gt (pe_callB call_len_seq (by rfl) T.n_len PySem.boot_len (pa_cons (pv 1) pa_nil)) pe_int (nomark _))
(pss_one (ps_set (i := 3) sc_law_fill.nd rfl (.inl rfl) (pe_op op_add (pe_op op_mul pe_int (pe_op op_fdiv (pv 2) (pe_callB call_len_seq (by rfl) T.n_len PySem.boot_len (pa_cons (pv 1) pa_nil)))) (pe_ix ix_list (pv 1) (pe_op op_mod (pe_callTy call_int1 (by rfl) T.n_int (by decide +kernel) (pa_cons (pv 2) pa_nil)) (pe_callB call_len_seq (by rfl) T.n_len PySem.boot_len (pa_cons (pv 1) pa_nil))) (fun _ _ => rfl)))))
pss_nil)
(pss_cons (ps_asg (pe_op op_add (pv 2) pe_int) (pg_sub (pv 0) pe_int set_list))
(pss_cut (ps_asg (pe_or (pe_cmpR op_ge (pv 2) (pe_callB call_len_seq (by rfl) T.n_len PySem.boot_len (pa_cons (pv 1) pa_nil)) (nomark _)) (pe_one (pe_cmpR op_lt (pv 3) (pe_op op_pow pe_int pe_int) (nomark _)))) (pg_sub (pv 0) pe_int set_list))
(pss_cons (ps_asg (pe_op op_sub (pv 3) (pe_op op_pow pe_int pe_int)) (pg_sub (pv 0) pe_int set_list))
(pss_one (ps_if (pt_val (pe_ix ix_list (pv 0) pe_int (fun _ _ => rfl)))
(pss_cons (ps_asg pe_int (pg_sub (pv 0) pe_int set_list))
(pss_one (ps_for PassesOwn.never rfl (pi_enumT (by rfl) T.n_enumerate (pa_cons (pe_tup (pa_cons pe_int (pa_cons pe_int (pa_cons pe_int (pa_cons pe_int (pa_cons pe_int pa_nil)))))) pa_nil)) (pg_tup rfl (pgs_cons (pg_name (i := 4) sc_law_fill.nd rfl (.inl rfl)) (pgs_cons (pg_name (i := 5) sc_law_fill.nd rfl (.inl rfl)) pgs_nil)))
(pss_cons (ps_set (i := 6) sc_law_fill.nd rfl (.inl rfl) (pe_op op_mod (pe_callTy call_int1 (by rfl) T.n_int (by decide +kernel) (pa_cons (pe_op op_mul (pe_op op_add (pe_op op_add (pv 3) (pe_op op_mul (pe_op op_mul pe_int (pv 4)) (pv 4))) (pe_op op_mul pe_int (pv 4))) (pe_op op_add pe_int (pe_op op_mul pe_int (pv 4)))) pa_nil)) (pv 5)))
(pss_one (ps_asg (pe_op op_add (pe_op op_mul (pe_ix ix_list (pv 0) pe_int (fun _ _ => rfl)) (pv 5)) (pe_op op_mod (pe_callTy call_int1 (by rfl) T.n_int (by decide +kernel) (pa_cons (pe_op op_pow (pv 6) pe_int) pa_nil)) (pv 5))) (pg_sub (pv 0) pe_int set_list)))))))
pss_nil))))))))
theorem ok0_law_take (T : Tx w K mg A B) : FnOk P w K mg base CX0 2 B.f_law_take B.d_law_take ["_law_state", "_law_many"] (sp_law_take A K) := by
  have G_law_fill := ok0_law_fill (P := P) (base := base) T
  refine T.F_law_take.ok sc_law_take (fun vs H Q E h => ?_) (fun cdv AA outer s H vs Q E hr h => ⟨t_law_take A K, ?_, r_law_take h⟩)
  · (repeat obtain ⟨x, h⟩ := h); subst_vars; rfl
  · exact (pss_cons (ps_set (i := 2) sc_law_take.nd rfl (.inl rfl) pe_int)
(pss_cons (ps_while PassesOwn.never (PW.pt (pw_and (pt_cmpR op_lt (pv 2) pe_int (nomark _)) (pw_and1 (PW.pt (pw_or (pt_cmpR op_eq (pe_ix ix_list (pv 0) pe_int (fun _ _ => rfl)) pe_int (nomark _)) (pw_or1 (PW.pt (pw_and (pt_val (pe_ix ix_list (pv 0) pe_int (fun _ _ => rfl))) (pw_and1 (pt_cmpR op_lt (pe_ix ix_list (pv 0) pe_int (fun _ _ => rfl)) (pe_op op_mul (pv 1) pe_int) (nomark _)))))))))))
(pss_cons (ps_expr (pe_call G_law_fill (hr.mono (by decide)) (by rfl) T.m_law_fill T.F_law_fill.kp T.b_law_fill .nil pass0 (pa_cons (pv 0) pa_nil)))
(pss_cons (ps_aug (i := 2) sc_law_take.nd rfl (.inl rfl) pe_int ip_add)
(pss_one (ps_if (PW.pt (pw_and (pt_val (pe_ix ix_list (pv 0) pe_int (fun _ _ => rfl))) (pw_and1 (pt_cmpR op_lt (pe_ix ix_list (pv 0) pe_int (fun _ _ => rfl)) (pe_op op_mul (pv 1) pe_int) (nomark _)))))
(pss_one (ps_asg (pe_op op_add (pe_ix ix_list (pv 0) pe_int (fun _ _ => rfl)) (pe_op op_mul (pe_op op_mul (pv 1) pe_int) (pe_op op_add pe_int (pe_op op_mod (pe_callTy call_int1 (by rfl) T.n_int (by decide +kernel) (pa_cons (pe_ix ix_list (pv 0) pe_int (fun _ _ => rfl)) pa_nil)) pe_int)))) (pg_sub (pv 0) pe_int set_list)))
pss_nil)))))
(pss_cons (ps_set (i := 3) sc_law_take.nd rfl (.inl rfl) (pe_op op_mod (pe_callTy call_int1 (by rfl) T.n_int (by decide +kernel) (pa_cons (pe_ix ix_list (pv 0) pe_int (fun _ _ => rfl)) pa_nil)) (pv 1)))
(pss_cons (ps_asg (pe_op op_fdiv (pe_ix ix_list (pv 0) pe_int (fun _ _ => rfl)) (pv 1)) (pg_sub (pv 0) pe_int set_list))
(pss_one (ps_ret (pv 3)))))))
theorem ok_law_take (T : Tx w K mg A B) : FnOk P w K mg base CX0 2 B.f_law_take B.d_law_take ["_law_state", "_law_many"] (spP K (m_law_take A K)) := by
  unfold m_law_take
  exact (ok0_law_take T).imp fun _ _ _ _ h => take_of h
theorem ok0_law_fresh (T : Tx w K mg A B) : FnOk P w K mg base CX0 1 B.f_law_fresh B.d_law_fresh ["_law_script"] (sp_law_fresh A K) := by
  refine T.F_law_fresh.ok sc_law_fresh (fun vs H Q E h => ?_) (fun cdv AA outer s H vs Q E hr h => ⟨t_law_fresh A K, ?_, r_law_fresh h⟩)
  · (repeat obtain ⟨x, h⟩ := h); subst_vars; rfl
  · exact (pss_one (ps_ret (pe_lst (pa_cons (pe_slice sl_list (pv 0) po_none (po_some pe_int)) (pa_cons pe_int (pa_cons pe_int (pa_cons pe_bl pa_nil)))))))
theorem ok_law_fresh (T : Tx w K mg A B) : FnOk P w K mg base CX0 1 B.f_law_fresh B.d_law_fresh ["_law_script"] (sp_law_fresh A K) := ok0_law_fresh T
theorem ok_law_one_o (T : Tx w K mg A B) : FnOk P w K mg base CX0 3 B.f_law_one_o B.d_law_one_o ["_law_state", "_law_things"] (spO K (m_law_one_o A K)) := by
  have G_law_take := ok_law_take (P := P) (base := base) T
  unfold m_law_one_o
  refine T.F_law_one_o.ok sc_law_one_o (fun vs H Q E h => open_len0 h) (fun cdv AA outer s H vs Q E hr h => ?_)
  exact ⟨_, (pss_one (ps_ret (pe_ix (ix_seqK K) (pv 1) (pe_call G_law_take (hr.mono (by decide)) (by rfl) T.m_law_take T.F_law_take.kp T.b_law_take .nil pass0 (pa_cons (pv 0) (pa_cons (pe_callB (call_lenAnyK K) (by rfl) T.n_len PySem.boot_len (pa_cons (pv 1) pa_nil)) pa_nil))) (fun _ _ => rfl)))), open_ok0 (N := N_law_one_o) (fun st => (ss_ret (se_op so_ix (se_var 1) (se_call (sc_P0 ne_law_take) (sa_cons (se_var 0) (sa_cons (se_cb so_len (sa_cons (se_var 1) sa_nil)) sa_nil)))))) h⟩
theorem ok_law_same_y (T : Tx w K mg A B) : ∀ n : Nat, FnOk P w K mg base CX0 (1 + n) B.f_law_same_y B.d_law_same_y ["_law_found", "_law_due"] (spO K (m_law_same_y A K n))
  | 0 => fn_badO
  | n + 1 => by
    show FnOk P w K mg base CX0 (1 + n + 1) B.f_law_same_y B.d_law_same_y ["_law_found", "_law_due"] (spO K (ms_law_same_y (m_law_same_y A K n) A K))
    have G_law_same_y := ok_law_same_y T n
    unfold ms_law_same_y
    refine T.F_law_same_y.ok sc_law_same_y (fun vs H Q E h => open_len0 h) (fun cdv AA outer s H vs Q E hr h => ?_)
    exact ⟨_, (pss_cons (ps_if (pt_val (pe_callB (call_isiTK K) (by rfl) T.n_isinstance (by decide +kernel) (pa_cons (pv 1) (pa_cons (pe_tup (pa_cons (pe_bltn (v := .ty "list") (u := .type "list") (by rfl) T.n_list (by decide +kernel) rfl) (pa_cons (pe_bltn (v := .ty "tuple") (u := .type "tuple") (by rfl) T.n_tuple (by decide +kernel) rfl) pa_nil))) pa_nil))))
(pss_cons (ps_if (PW.pt (pw_or (pt_cmpR op_ne (pe_callB (call_isiKK K) (by rfl) T.n_isinstance (by decide +kernel) (pa_cons (pv 0) (pa_cons (pe_bltn (v := .ty "list") (u := .type "list") (by rfl) T.n_list (by decide +kernel) rfl) pa_nil))) (pe_callB (call_isiKK K) (by rfl) T.n_isinstance (by decide +kernel) (pa_cons (pv 1) (pa_cons (pe_bltn (v := .ty "list") (u := .type "list") (by rfl) T.n_list (by decide +kernel) rfl) pa_nil))) (nomark _)) (pw_or1 (pt_cmpR op_ne (pe_callB (call_isiKK K) (by rfl) T.n_isinstance (by decide +kernel) (pa_cons (pv 0) (pa_cons (pe_bltn (v := .ty "tuple") (u := .type "tuple") (by rfl) T.n_tuple (by decide +kernel) rfl) pa_nil))) (pe_callB (call_isiKK K) (by rfl) T.n_isinstance (by decide +kernel) (pa_cons (pv 1) (pa_cons (pe_bltn (v := .ty "tuple") (u := .type "tuple") (by rfl) T.n_tuple (by decide +kernel) rfl) pa_nil))) (nomark _)))))
(pss_one (ps_ret pe_bl))
pss_nil)
(pss_one (ps_ret (pe_and (pe_cmpR op_eq (pe_callB (call_lenAnyK K) (by rfl) T.n_len PySem.boot_len (pa_cons (pv 0) pa_nil)) (pe_callB (call_lenAnyK K) (by rfl) T.n_len PySem.boot_len (pa_cons (pv 1) pa_nil)) (nomark _)) (pe_one (pe_callB (cr_allK K rfl) (by rfl) T.n_all (by decide +kernel) (pa_cons (pe_lc (own := [("_law_a", 2), ("_law_b", 3)]) (g := (gTup K 2 (gCons (gName 2) (gCons (gName 3) gNil)))) (by rfl) sc_law_same_y.nd (RZ.pi_zipA (by rfl) T.n_zip (pa_cons (pv 0) (pa_cons (pv 1) pa_nil))) (blkOk_by (own := [("_law_a", 2), ("_law_b", 3)]) (N := N_law_same_y) (sc := defScope s_law_same_y) (by decide +kernel)) (fun _ _ _ _ _ => (pg_tup rfl (pgs_cons (pg_name (i := 2) sc_law_same_y.nd rfl (.inl rfl)) (pgs_cons (pg_name (i := 3) sc_law_same_y.nd rfl (.inl rfl)) pgs_nil)))) (fun _ _ _ _ _ => pts_nil) (fun _ _ _ _ _ => (pe_call G_law_same_y (hr.mono (by omega)) (by rfl) T.m_law_same_y T.F_law_same_y.kp T.b_law_same_y .nil pass0 (pa_cons (pv 2) (pa_cons (pv 3) pa_nil))))) pa_nil)))))))
pss_nil)
(pss_cons (ps_if (pt_val (pe_callB (call_isiKK K) (by rfl) T.n_isinstance (by decide +kernel) (pa_cons (pv 1) (pa_cons (pe_bltn (v := .ty "int") (u := .type "int") (by rfl) T.n_int (by decide +kernel) rfl) pa_nil))))
(pss_one (ps_ret (pe_and (pe_callB (call_isiKK K) (by rfl) T.n_isinstance (by decide +kernel) (pa_cons (pv 0) (pa_cons (pe_bltn (v := .ty "int") (u := .type "int") (by rfl) T.n_int (by decide +kernel) rfl) pa_nil))) (pe_and (pe_cmpR op_eq (pe_callB (call_isiKK K) (by rfl) T.n_isinstance (by decide +kernel) (pa_cons (pv 0) (pa_cons (pe_bltn (v := .ty "bool") (u := .type "bool") (by rfl) T.n_bool (by decide +kernel) rfl) pa_nil))) (pe_callB (call_isiKK K) (by rfl) T.n_isinstance (by decide +kernel) (pa_cons (pv 1) (pa_cons (pe_bltn (v := .ty "bool") (u := .type "bool") (by rfl) T.n_bool (by decide +kernel) rfl) pa_nil))) (nomark _)) (pe_one (pe_cmpR (op_eqXK K hr.units) (pv 0) (pv 1) (nomark _)))))))
pss_nil)
(pss_one (ps_ret (pe_and (pe_cmpR op_isBl (pe_callB (call_isiTK K) (by rfl) T.n_isinstance (by decide +kernel) (pa_cons (pv 0) (pa_cons (pe_tup (pa_cons (pe_bltn (v := .ty "bool") (u := .type "bool") (by rfl) T.n_bool (by decide +kernel) rfl) (pa_cons (pe_bltn (v := .ty "int") (u := .type "int") (by rfl) T.n_int (by decide +kernel) rfl) (pa_cons (pe_bltn (v := .ty "list") (u := .type "list") (by rfl) T.n_list (by decide +kernel) rfl) (pa_cons (pe_bltn (v := .ty "tuple") (u := .type "tuple") (by rfl) T.n_tuple (by decide +kernel) rfl) pa_nil))))) pa_nil))) pe_bl (nomark _)) (pe_one (pe_cmpR (op_eqXK K hr.units) (pv 0) (pv 1) (nomark _)))))))), open_ok0 (N := N_law_same_y) (fun st => (ss_seq (ss_if (st_val (se_isT (se_var 1) (sa_cons se_ty (sa_cons se_ty sa_nil))))
(ss_seq (ss_if (st_or (st_test (se_op so_ne (se_cb so_isi (sa_cons (se_var 0) (sa_cons se_ty sa_nil))) (se_cb so_isi (sa_cons (se_var 1) (sa_cons se_ty sa_nil))))) (st_test (se_op so_ne (se_cb so_isi (sa_cons (se_var 0) (sa_cons se_ty sa_nil))) (se_cb so_isi (sa_cons (se_var 1) (sa_cons se_ty sa_nil))))))
(ss_ret se_bl)
ss_next)
(ss_ret (se_andV (se_op so_eq (se_cb so_len (sa_cons (se_var 0) sa_nil)) (se_cb so_len (sa_cons (se_var 1) sa_nil))) (se_cb so_all (sa_cons (se_lc (si_zip (sa_cons (se_var 0) (sa_cons (se_var 1) sa_nil))) (sw_tup (sw_cons (vs := [2, 3]) (by decide) (sw_cons (vs := [2, 3]) (by decide) sw_nil))) st_yes (se_call (sc_O0 (ne_law_same_y _)) (sa_cons (se_var 2) (sa_cons (se_var 3) sa_nil)))) sa_nil)))))
ss_next)
(ss_seq (ss_if (st_val (se_cb so_isi (sa_cons (se_var 1) (sa_cons se_ty sa_nil))))
(ss_ret (se_andV (se_cb so_isi (sa_cons (se_var 0) (sa_cons se_ty sa_nil))) (se_andV (se_op so_eq (se_cb so_isi (sa_cons (se_var 0) (sa_cons se_ty sa_nil))) (se_cb so_isi (sa_cons (se_var 1) (sa_cons se_ty sa_nil)))) (se_op so_eqY (se_var 0) (se_var 1)))))
ss_next)
(ss_ret (se_andV (se_op so_isB (se_isT (se_var 0) (sa_cons se_ty (sa_cons se_ty (sa_cons se_ty (sa_cons se_ty sa_nil))))) se_bl) (se_op so_eqY (se_var 0) (se_var 1))))))) h⟩
theorem ok_law_with_one (T : Tx w K mg A B) (hP : SupP P lawFile) : FnOk P w K mg base CX0 3 B.f_law_with_one B.d_law_with_one ["_law_x"] (spO K (m_law_with_one A K)) := by
  unfold m_law_with_one
  refine T.F_law_with_one.ok sc_law_with_one (fun vs H Q E h => open_len0 h) (fun cdv AA outer s H vs Q E hr h => ?_)
  exact ⟨_, (pss_cons (ps_set (i := 1) sc_law_with_one.nd rfl (.inl rfl) (pe_lst (pa_cons (pe_mkVK (ev_BadField_k (P := P) (w := w) (base := base) T hP) (hr.mono (by decide)) (by rfl) T.g_BadField (pk_cons (pv 0) pk_nil)) (pa_cons (pe_mkVK (ev_BadModes_k (P := P) (w := w) (base := base) T hP) (hr.mono (by decide)) (by rfl) T.g_BadModes (pk_cons (pv 0) pk_nil)) (pa_cons (pe_mkVK (ev_UnknownCall_k (P := P) (w := w) (base := base) T hP) (hr.mono (by decide)) (by rfl) T.g_UnknownCall (pk_cons (pv 0) pk_nil)) (pa_cons (pe_mkVK (ev_BadPlace_k (P := P) (w := w) (base := base) T hP) (hr.mono (by decide)) (by rfl) T.g_BadPlace (pk_cons (pv 0) pk_nil)) (pa_cons (pe_mkVK (ev_BadText_k (P := P) (w := w) (base := base) T hP) (hr.mono (by decide)) (by rfl) T.g_BadText (pk_cons (pv 0) pk_nil)) pa_nil)))))))
(pss_cons (ps_set (i := 1) sc_law_with_one.nd rfl (.inl rfl) (pe_op op_cat (pv 1) (pe_lst (pa_cons (pe_mkVK (ev_BadRow_k (P := P) (w := w) (base := base) T hP) (hr.mono (by decide)) (by rfl) T.g_BadRow (pk_cons (pv 0) pk_nil)) (pa_cons (pe_mkVK (ev_BadWord_k (P := P) (w := w) (base := base) T hP) (hr.mono (by decide)) (by rfl) T.g_BadWord (pk_cons (pv 0) pk_nil)) (pa_cons (pe_mkVK (ev_BadWish_k (P := P) (w := w) (base := base) T hP) (hr.mono (by decide)) (by rfl) T.g_BadWish (pk_cons (pv 0) pk_nil)) (pa_cons (pe_mkVK (ev_BadRun_k (P := P) (w := w) (base := base) T hP) (hr.mono (by decide)) (by rfl) T.g_BadRun (pk_cons (pv 0) pk_nil)) (pa_cons (pe_mkVK (ev_BadCallers_k (P := P) (w := w) (base := base) T hP) (hr.mono (by decide)) (by rfl) T.g_BadCallers (pk_cons (pv 0) pk_nil)) pa_nil))))))))
(pss_one (ps_ret (pe_op op_cat (pv 1) (pe_lst (pa_cons (pe_mkVK (ev_BadKind_k (P := P) (w := w) (base := base) T hP) (hr.mono (by decide)) (by rfl) T.g_BadKind (pk_cons (pv 0) pk_nil)) (pa_cons (pe_mkVK (ev_BadRule_k (P := P) (w := w) (base := base) T hP) (hr.mono (by decide)) (by rfl) T.g_BadRule (pk_cons (pv 0) pk_nil)) pa_nil)))))))), open_ok0 (N := N_law_with_one) (fun st => (ss_seq (ss_asg (se_lst (sa_cons (se_mkV1 T.xe_BadField.T (T.xe_BadField.nof _ (by simp)) sa_nil (sa_cons (se_var 0) sa_nil)) (sa_cons (se_mkV1 T.xe_BadModes.T (T.xe_BadModes.nof _ (by simp)) sa_nil (sa_cons (se_var 0) sa_nil)) (sa_cons (se_mkV1 T.xe_UnknownCall.T (T.xe_UnknownCall.nof _ (by simp)) sa_nil (sa_cons (se_var 0) sa_nil)) (sa_cons (se_mkV1 T.xe_BadPlace.T (T.xe_BadPlace.nof _ (by simp)) sa_nil (sa_cons (se_var 0) sa_nil)) (sa_cons (se_mkV1 T.xe_BadText.T (T.xe_BadText.nof _ (by simp)) sa_nil (sa_cons (se_var 0) sa_nil)) sa_nil)))))) (sg_name 1))
(ss_seq (ss_asg (se_op so_cat (se_var 1) (se_lst (sa_cons (se_mkV1 T.xe_BadRow.T (T.xe_BadRow.nof _ (by simp)) sa_nil (sa_cons (se_var 0) sa_nil)) (sa_cons (se_mkV1 T.xe_BadWord.T (T.xe_BadWord.nof _ (by simp)) sa_nil (sa_cons (se_var 0) sa_nil)) (sa_cons (se_mkV1 T.xe_BadWish.T (T.xe_BadWish.nof _ (by simp)) sa_nil (sa_cons (se_var 0) sa_nil)) (sa_cons (se_mkV1 T.xe_BadRun.T (T.xe_BadRun.nof _ (by simp)) sa_nil (sa_cons (se_var 0) sa_nil)) (sa_cons (se_mkV1 T.xe_BadCallers.T (T.xe_BadCallers.nof _ (by simp)) sa_nil (sa_cons (se_var 0) sa_nil)) sa_nil))))))) (sg_name 1))
(ss_ret (se_op so_cat (se_var 1) (se_lst (sa_cons (se_mkV1 T.xe_BadKind.T (T.xe_BadKind.nof _ (by simp)) sa_nil (sa_cons (se_var 0) sa_nil)) (sa_cons (se_mkV1 T.xe_BadRule.T (T.xe_BadRule.nof _ (by simp)) sa_nil (sa_cons (se_var 0) sa_nil)) sa_nil)))))))) h⟩
theorem ok_law_by_place (T : Tx w K mg A B) (hP : SupP P lawFile) : FnOk P w K mg base CX0 3 B.f_law_by_place B.d_law_by_place ["_law_x"] (spO K (m_law_by_place A K)) := by
  unfold m_law_by_place
  refine T.F_law_by_place.ok sc_law_by_place (fun vs H Q E h => open_len0 h) (fun cdv AA outer s H vs Q E hr h => ?_)
  exact ⟨_, (pss_cons (ps_set (i := 1) sc_law_by_place.nd rfl (.inl rfl) (pe_lst (pa_cons (pe_mkVP (ev_BadField_p (P := P) (w := w) (base := base) T hP) (by decide) (hr.mono (by decide)) (by rfl) T.g_BadField (pa_cons (pv 0) pa_nil)) (pa_cons (pe_mkVP (ev_BadModes_p (P := P) (w := w) (base := base) T hP) (by decide) (hr.mono (by decide)) (by rfl) T.g_BadModes (pa_cons (pv 0) pa_nil)) (pa_cons (pe_mkVP (ev_UnknownCall_p (P := P) (w := w) (base := base) T hP) (by decide) (hr.mono (by decide)) (by rfl) T.g_UnknownCall (pa_cons (pv 0) pa_nil)) (pa_cons (pe_mkVP (ev_BadPlace_p (P := P) (w := w) (base := base) T hP) (by decide) (hr.mono (by decide)) (by rfl) T.g_BadPlace (pa_cons (pv 0) pa_nil)) (pa_cons (pe_mkVP (ev_BadText_p (P := P) (w := w) (base := base) T hP) (by decide) (hr.mono (by decide)) (by rfl) T.g_BadText (pa_cons (pv 0) pa_nil)) (pa_cons (pe_mkVP (ev_BadRow_p (P := P) (w := w) (base := base) T hP) (by decide) (hr.mono (by decide)) (by rfl) T.g_BadRow (pa_cons (pv 0) pa_nil)) (pa_cons (pe_mkVP (ev_BadWord_p (P := P) (w := w) (base := base) T hP) (by decide) (hr.mono (by decide)) (by rfl) T.g_BadWord (pa_cons (pv 0) pa_nil)) (pa_cons (pe_mkVP (ev_BadWish_p (P := P) (w := w) (base := base) T hP) (by decide) (hr.mono (by decide)) (by rfl) T.g_BadWish (pa_cons (pv 0) pa_nil)) pa_nil))))))))))
(pss_one (ps_ret (pe_op op_cat (pv 1) (pe_lst (pa_cons (pe_mkVP (ev_BadRun_p (P := P) (w := w) (base := base) T hP) (by decide) (hr.mono (by decide)) (by rfl) T.g_BadRun (pa_cons (pv 0) pa_nil)) (pa_cons (pe_mkVP (ev_BadCallers_p (P := P) (w := w) (base := base) T hP) (by decide) (hr.mono (by decide)) (by rfl) T.g_BadCallers (pa_cons (pv 0) pa_nil)) (pa_cons (pe_mkVP (ev_BadKind_p (P := P) (w := w) (base := base) T hP) (by decide) (hr.mono (by decide)) (by rfl) T.g_BadKind (pa_cons (pv 0) pa_nil)) (pa_cons (pe_mkVP (ev_BadRule_p (P := P) (w := w) (base := base) T hP) (by decide) (hr.mono (by decide)) (by rfl) T.g_BadRule (pa_cons (pv 0) pa_nil)) pa_nil))))))))), open_ok0 (N := N_law_by_place) (fun st => (ss_seq (ss_asg (se_lst (sa_cons (se_mkV1 T.xe_BadField.T (T.xe_BadField.nof _ (by simp)) (sa_cons (se_var 0) sa_nil) sa_nil) (sa_cons (se_mkV1 T.xe_BadModes.T (T.xe_BadModes.nof _ (by simp)) (sa_cons (se_var 0) sa_nil) sa_nil) (sa_cons (se_mkV1 T.xe_UnknownCall.T (T.xe_UnknownCall.nof _ (by simp)) (sa_cons (se_var 0) sa_nil) sa_nil) (sa_cons (se_mkV1 T.xe_BadPlace.T (T.xe_BadPlace.nof _ (by simp)) (sa_cons (se_var 0) sa_nil) sa_nil) (sa_cons (se_mkV1 T.xe_BadText.T (T.xe_BadText.nof _ (by simp)) (sa_cons (se_var 0) sa_nil) sa_nil) (sa_cons (se_mkV1 T.xe_BadRow.T (T.xe_BadRow.nof _ (by simp)) (sa_cons (se_var 0) sa_nil) sa_nil) (sa_cons (se_mkV1 T.xe_BadWord.T (T.xe_BadWord.nof _ (by simp)) (sa_cons (se_var 0) sa_nil) sa_nil) (sa_cons (se_mkV1 T.xe_BadWish.T (T.xe_BadWish.nof _ (by simp)) (sa_cons (se_var 0) sa_nil) sa_nil) sa_nil))))))))) (sg_name 1))
(ss_ret (se_op so_cat (se_var 1) (se_lst (sa_cons (se_mkV1 T.xe_BadRun.T (T.xe_BadRun.nof _ (by simp)) (sa_cons (se_var 0) sa_nil) sa_nil) (sa_cons (se_mkV1 T.xe_BadCallers.T (T.xe_BadCallers.nof _ (by simp)) (sa_cons (se_var 0) sa_nil) sa_nil) (sa_cons (se_mkV1 T.xe_BadKind.T (T.xe_BadKind.nof _ (by simp)) (sa_cons (se_var 0) sa_nil) sa_nil) (sa_cons (se_mkV1 T.xe_BadRule.T (T.xe_BadRule.nof _ (by simp)) (sa_cons (se_var 0) sa_nil) sa_nil) sa_nil))))))))) h⟩
theorem ok_law_held (T : Tx w K mg A B) : FnOk P w K mg base CX0 1 B.f_law_held B.d_law_held ["_law_made"] (spO K (m_law_held A K)) := by
  unfold m_law_held
  refine T.F_law_held.ok sc_law_held (fun vs H Q E h => open_len0 h) (fun cdv AA outer s H vs Q E hr h => ?_)
  exact ⟨_, (pss_cons (ps_set (i := 1) sc_law_held.nd rfl (.inl rfl) (pe_lst (pa_cons (pe_fV (T.xk.xf A.BadField (by simp [errCls])) T.na_BadField_index (pe_ix (ix_seqK K) (pv 0) pe_int (fun _ _ => rfl))) (pa_cons (pe_fV (T.xk.xf A.BadModes (by simp [errCls])) T.na_BadModes_modes (pe_ix (ix_seqK K) (pv 0) pe_int (fun _ _ => rfl))) (pa_cons (pe_fV (T.xk.xf A.UnknownCall (by simp [errCls])) T.na_UnknownCall_name (pe_ix (ix_seqK K) (pv 0) pe_int (fun _ _ => rfl))) (pa_cons (pe_fV (T.xk.xf A.BadPlace (by simp [errCls])) T.na_BadPlace_place (pe_ix (ix_seqK K) (pv 0) pe_int (fun _ _ => rfl))) (pa_cons (pe_fV (T.xk.xf A.BadText (by simp [errCls])) T.na_BadText_line (pe_ix (ix_seqK K) (pv 0) pe_int (fun _ _ => rfl))) (pa_cons (pe_fV (T.xk.xf A.BadRow (by simp [errCls])) T.na_BadRow_index (pe_ix (ix_seqK K) (pv 0) pe_int (fun _ _ => rfl))) (pa_cons (pe_fV (T.xk.xf A.BadWord (by simp [errCls])) T.na_BadWord_word (pe_ix (ix_seqK K) (pv 0) pe_int (fun _ _ => rfl))) pa_nil)))))))))
(pss_one (ps_ret (pe_op op_cat (pv 1) (pe_lst (pa_cons (pe_fV (T.xk.xf A.BadWish (by simp [errCls])) T.na_BadWish_wish (pe_ix (ix_seqK K) (pv 0) pe_int (fun _ _ => rfl))) (pa_cons (pe_fV (T.xk.xf A.BadRun (by simp [errCls])) T.na_BadRun_thing (pe_ix (ix_seqK K) (pv 0) pe_int (fun _ _ => rfl))) (pa_cons (pe_fV (T.xk.xf A.BadCallers (by simp [errCls])) T.na_BadCallers_callers (pe_ix (ix_seqK K) (pv 0) pe_int (fun _ _ => rfl))) (pa_cons (pe_fV (T.xk.xf A.BadKind (by simp [errCls])) T.na_BadKind_kind (pe_ix (ix_seqK K) (pv 0) pe_int (fun _ _ => rfl))) (pa_cons (pe_fV (T.xk.xf A.BadRule (by simp [errCls])) T.na_BadRule_index (pe_ix (ix_seqK K) (pv 0) pe_int (fun _ _ => rfl))) pa_nil)))))))))), open_ok0 (N := N_law_held) (fun st => (ss_seq (ss_asg (se_lst (sa_cons (se_fldV (se_op so_ix (se_var 0) se_int)) (sa_cons (se_fldV (se_op so_ix (se_var 0) se_int)) (sa_cons (se_fldV (se_op so_ix (se_var 0) se_int)) (sa_cons (se_fldV (se_op so_ix (se_var 0) se_int)) (sa_cons (se_fldV (se_op so_ix (se_var 0) se_int)) (sa_cons (se_fldV (se_op so_ix (se_var 0) se_int)) (sa_cons (se_fldV (se_op so_ix (se_var 0) se_int)) sa_nil)))))))) (sg_name 1))
(ss_ret (se_op so_cat (se_var 1) (se_lst (sa_cons (se_fldV (se_op so_ix (se_var 0) se_int)) (sa_cons (se_fldV (se_op so_ix (se_var 0) se_int)) (sa_cons (se_fldV (se_op so_ix (se_var 0) se_int)) (sa_cons (se_fldV (se_op so_ix (se_var 0) se_int)) (sa_cons (se_fldV (se_op so_ix (se_var 0) se_int)) sa_nil)))))))))) h⟩
theorem ok_law_classes (T : Tx w K mg A B) : FnOk P w K mg base CX0 1 B.f_law_classes B.d_law_classes ["_law_e"] (spO K (m_law_classes A K)) := by
  unfold m_law_classes
  refine T.F_law_classes.ok sc_law_classes (fun vs H Q E h => open_len0 h) (fun cdv AA outer s H vs Q E hr h => ?_)
  exact ⟨_, (pss_cons (ps_set (i := 1) sc_law_classes.nd rfl (.inl rfl) (pe_lst (pa_cons (pe_callB (call_isVL K T.xm.exc) (by rfl) T.n_isinstance (by decide +kernel) (pa_cons (pv 0) (pa_cons (pe_glob (v := .ref A.BadField) (by rfl) T.g_BadField rfl) pa_nil))) (pa_cons (pe_callB (call_isVL K T.xm.exc) (by rfl) T.n_isinstance (by decide +kernel) (pa_cons (pv 0) (pa_cons (pe_glob (v := .ref A.BadModes) (by rfl) T.g_BadModes rfl) pa_nil))) (pa_cons (pe_callB (call_isVL K T.xm.exc) (by rfl) T.n_isinstance (by decide +kernel) (pa_cons (pv 0) (pa_cons (pe_glob (v := .ref A.UnknownCall) (by rfl) T.g_UnknownCall rfl) pa_nil))) (pa_cons (pe_callB (call_isVL K T.xm.exc) (by rfl) T.n_isinstance (by decide +kernel) (pa_cons (pv 0) (pa_cons (pe_glob (v := .ref A.BadPlace) (by rfl) T.g_BadPlace rfl) pa_nil))) pa_nil))))))
(pss_cons (ps_set (i := 1) sc_law_classes.nd rfl (.inl rfl) (pe_op op_cat (pv 1) (pe_lst (pa_cons (pe_callB (call_isVL K T.xm.exc) (by rfl) T.n_isinstance (by decide +kernel) (pa_cons (pv 0) (pa_cons (pe_glob (v := .ref A.BadText) (by rfl) T.g_BadText rfl) pa_nil))) (pa_cons (pe_callB (call_isVL K T.xm.exc) (by rfl) T.n_isinstance (by decide +kernel) (pa_cons (pv 0) (pa_cons (pe_glob (v := .ref A.BadRow) (by rfl) T.g_BadRow rfl) pa_nil))) (pa_cons (pe_callB (call_isVL K T.xm.exc) (by rfl) T.n_isinstance (by decide +kernel) (pa_cons (pv 0) (pa_cons (pe_glob (v := .ref A.BadWord) (by rfl) T.g_BadWord rfl) pa_nil))) (pa_cons (pe_callB (call_isVL K T.xm.exc) (by rfl) T.n_isinstance (by decide +kernel) (pa_cons (pv 0) (pa_cons (pe_glob (v := .ref A.BadWish) (by rfl) T.g_BadWish rfl) pa_nil))) pa_nil)))))))
(pss_cons (ps_set (i := 1) sc_law_classes.nd rfl (.inl rfl) (pe_op op_cat (pv 1) (pe_lst (pa_cons (pe_callB (call_isVL K T.xm.exc) (by rfl) T.n_isinstance (by decide +kernel) (pa_cons (pv 0) (pa_cons (pe_glob (v := .ref A.BadRun) (by rfl) T.g_BadRun rfl) pa_nil))) (pa_cons (pe_callB (call_isVL K T.xm.exc) (by rfl) T.n_isinstance (by decide +kernel) (pa_cons (pv 0) (pa_cons (pe_glob (v := .ref A.BadCallers) (by rfl) T.g_BadCallers rfl) pa_nil))) (pa_cons (pe_callB (call_isVL K T.xm.exc) (by rfl) T.n_isinstance (by decide +kernel) (pa_cons (pv 0) (pa_cons (pe_glob (v := .ref A.BadKind) (by rfl) T.g_BadKind rfl) pa_nil))) pa_nil))))))
(pss_cons (ps_set (i := 1) sc_law_classes.nd rfl (.inl rfl) (pe_op op_cat (pv 1) (pe_lst (pa_cons (pe_callB (call_isVL K T.xm.exc) (by rfl) T.n_isinstance (by decide +kernel) (pa_cons (pv 0) (pa_cons (pe_glob (v := .ref A.BadRule) (by rfl) T.g_BadRule rfl) pa_nil))) (pa_cons (pe_callB (call_isVL K T.xm.exc) (by rfl) T.n_isinstance (by decide +kernel) (pa_cons (pv 0) (pa_cons (pe_glob (v := .ref A.BadCall) (by rfl) T.g_BadCall rfl) pa_nil))) (pa_cons (pe_callB (call_isVL K T.xm.exc) (by rfl) T.n_isinstance (by decide +kernel) (pa_cons (pv 0) (pa_cons (pe_glob (v := .ref A.Refused) (by rfl) T.g_Refused rfl) pa_nil))) pa_nil))))))
(pss_one (ps_ret (pe_op op_cat (pv 1) (pe_lst (pa_cons (pe_callB (call_isVL K T.xm.exc) (by rfl) T.n_isinstance (by decide +kernel) (pa_cons (pv 0) (pa_cons (pe_glob (v := .ref A.BadThing) (by rfl) T.g_BadThing rfl) pa_nil))) pa_nil))))))))), open_ok0 (N := N_law_classes) (fun st => (ss_seq (ss_asg (se_lst (sa_cons (se_cb (show SB ⟨K, st⟩ (rIsVL K (errAll A)) (oIsV K (errAll A)) from so_isV) (sa_cons (se_var 0) (sa_cons se_cls sa_nil))) (sa_cons (se_cb (show SB ⟨K, st⟩ (rIsVL K (errAll A)) (oIsV K (errAll A)) from so_isV) (sa_cons (se_var 0) (sa_cons se_cls sa_nil))) (sa_cons (se_cb (show SB ⟨K, st⟩ (rIsVL K (errAll A)) (oIsV K (errAll A)) from so_isV) (sa_cons (se_var 0) (sa_cons se_cls sa_nil))) (sa_cons (se_cb (show SB ⟨K, st⟩ (rIsVL K (errAll A)) (oIsV K (errAll A)) from so_isV) (sa_cons (se_var 0) (sa_cons se_cls sa_nil))) sa_nil))))) (sg_name 1))
(ss_seq (ss_asg (se_op so_cat (se_var 1) (se_lst (sa_cons (se_cb (show SB ⟨K, st⟩ (rIsVL K (errAll A)) (oIsV K (errAll A)) from so_isV) (sa_cons (se_var 0) (sa_cons se_cls sa_nil))) (sa_cons (se_cb (show SB ⟨K, st⟩ (rIsVL K (errAll A)) (oIsV K (errAll A)) from so_isV) (sa_cons (se_var 0) (sa_cons se_cls sa_nil))) (sa_cons (se_cb (show SB ⟨K, st⟩ (rIsVL K (errAll A)) (oIsV K (errAll A)) from so_isV) (sa_cons (se_var 0) (sa_cons se_cls sa_nil))) (sa_cons (se_cb (show SB ⟨K, st⟩ (rIsVL K (errAll A)) (oIsV K (errAll A)) from so_isV) (sa_cons (se_var 0) (sa_cons se_cls sa_nil))) sa_nil)))))) (sg_name 1))
(ss_seq (ss_asg (se_op so_cat (se_var 1) (se_lst (sa_cons (se_cb (show SB ⟨K, st⟩ (rIsVL K (errAll A)) (oIsV K (errAll A)) from so_isV) (sa_cons (se_var 0) (sa_cons se_cls sa_nil))) (sa_cons (se_cb (show SB ⟨K, st⟩ (rIsVL K (errAll A)) (oIsV K (errAll A)) from so_isV) (sa_cons (se_var 0) (sa_cons se_cls sa_nil))) (sa_cons (se_cb (show SB ⟨K, st⟩ (rIsVL K (errAll A)) (oIsV K (errAll A)) from so_isV) (sa_cons (se_var 0) (sa_cons se_cls sa_nil))) sa_nil))))) (sg_name 1))
(ss_seq (ss_asg (se_op so_cat (se_var 1) (se_lst (sa_cons (se_cb (show SB ⟨K, st⟩ (rIsVL K (errAll A)) (oIsV K (errAll A)) from so_isV) (sa_cons (se_var 0) (sa_cons se_cls sa_nil))) (sa_cons (se_cb (show SB ⟨K, st⟩ (rIsVL K (errAll A)) (oIsV K (errAll A)) from so_isV) (sa_cons (se_var 0) (sa_cons se_cls sa_nil))) (sa_cons (se_cb (show SB ⟨K, st⟩ (rIsVL K (errAll A)) (oIsV K (errAll A)) from so_isV) (sa_cons (se_var 0) (sa_cons se_cls sa_nil))) sa_nil))))) (sg_name 1))
(ss_ret (se_op so_cat (se_var 1) (se_lst (sa_cons (se_cb (show SB ⟨K, st⟩ (rIsVL K (errAll A)) (oIsV K (errAll A)) from so_isV) (sa_cons (se_var 0) (sa_cons se_cls sa_nil))) sa_nil))))))))) h⟩
end
end Mz
end
section
set_option Elab.async false
set_option linter.all false
set_option maxRecDepth 100000
set_option maxHeartbeats 1000000
namespace Mz
open PySem L2
/-! ### a stepper for mirrors -/
local macro_rules | `(tactic| row_cond sd) => `(tactic| first | with_reducible assumption | with_reducible exact rfl | exact rfl | exact True.intro | assumption | decide)
local macro_rules | `(tactic| row_cond st) => `(tactic| first
  | refine And.intro (by row_cond sd) ?_
  | refine ⟨_, by row_cond sd, ?_⟩
  | refine ⟨_, _, by row_cond sd, ?_⟩
  | refine ⟨_, _, by row_cond sd, by row_cond sd, ?_⟩
  | refine ⟨_, _, _, by row_cond sd, ?_⟩
  | refine ⟨_, _, _, by row_cond sd, by row_cond sd, ?_⟩
  | refine ⟨_, _, _, by row_cond sd, by row_cond sd, by row_cond sd, ?_⟩
  | refine ⟨_, _, _, _, by row_cond sd, ?_⟩
  | refine ⟨_, _, _, _, by row_cond sd, by row_cond sd, by row_cond sd, ?_⟩
  | refine ⟨_, _, _, _, by row_cond sd, by row_cond sd, by row_cond sd, by row_cond sd, ?_⟩
  | refine iteT ?_
  | refine iteF ?_)
local macro_rules | `(tactic| row_cond go) => `(tactic| repeat (row_cond st))
/-! ### isinstance -/
/-- data that is no class, no object -/
def Da.pl : Da → Bool
  | .ins _ _ => false
  | .cls _ => false
  | .ty _ => false
  | .st => false
  | _ => true
inductive Kn | non | bl | int | str | lst | tup | dct
inductive Ty5 | int | bool | str | list | tuple
def Kn.nm : Kn → String
  | .non => "NoneType"
  | .bl => "bool"
  | .int => "int"
  | .str => "str"
  | .lst => "list"
  | .tup => "tuple"
  | .dct => "dict"
def Ty5.nm : Ty5 → String
  | .int => "int"
  | .bool => "bool"
  | .str => "str"
  | .list => "list"
  | .tuple => "tuple"
def Kn.isA : Kn → Ty5 → Bool
  | .bl, .int => true
  | .bl, .bool => true
  | .int, .int => true
  | .str, .str => true
  | .lst, .list => true
  | .tup, .tuple => true
  | _, _ => false
def Da.kn : Da → Kn
  | .bl _ => .bl
  | .int _ => .int
  | .str _ => .str
  | .lst _ => .lst
  | .tup _ => .tup
  | .dct _ => .dct
  | _ => .non
def Da.isA (d : Da) (T : Ty5) : Bool := d.kn.isA T
theorem kit_all (k : Kn) (T : Ty5) : kitB k.nm T.nm = some (k.isA T) := by
  cases k <;> cases T <;> decide +kernel
theorem tyD_kn {K : PySem.W.Frag} {μ : MS} {d : Da} (hd : d.pl = true) : TyD K μ (.d d) (.type d.kn.nm) := by
  cases d with
  | non => exact .non
  | bl b => exact .bl _
  | int b => exact .int _
  | str b => exact .str _
  | lst b => exact .lst rfl
  | tup b => exact .tup rfl
  | dct b => exact .dct rfl
  | _ => cases hd
theorem isT_data {K : PySem.W.Frag} {d : Da} : PySem.W.kitAny K (.type d.kn.nm) [.type "list", .type "tuple"] = some (d.isA .list || d.isA .tuple) := by
  have k1 := kit_all d.kn .list
  have k2 := kit_all d.kn .tuple
  refine kitAny_cons (kit_ty k1) (fun e => ?_) (fun e => ?_)
  · refine kitAny_cons (kit_ty k2) (fun e2 => ?_) (fun e2 => ?_)
    · unfold Da.isA; rw [e, e2]; exact kitAny_nil
    · unfold Da.isA; rw [e, e2]; rfl
  · unfold Da.isA; rw [e]; rfl
section
variable {A : Ad} {K : PySem.W.Frag} {E : Ex → Prop} {Q : Da → Prop}
/-- the items of a list or a tuple -/
def Da.items : Da → Option (List Da)
  | .lst xs => some xs
  | .tup xs => some xs
  | _ => none
/-! ### words -/
abbrev LET : Str := "abcdefghijklmnopqrstuvwxyz"
def lowS (s : Str) : Bool := (s.cps.toList.map fun k => decide (k ∈ LET.cps.toList)).all id
def Da.isWord : Da → Bool
  | .str s => decide (1 ≤ s.length) && decide (s.length ≤ 8) && lowS s
  | _ => false
/-- [e for i in ..], the items inj x, the element f x -/
theorem lc_name {β : Type} (inj f : β → Dv) {gd : MS → Prop} {e : ES} {i : Nat} {α : Env'} {Q : List Dv → MS → Prop} {μ : MS} (hg : gd μ) :
    ∀ (l : List β) (acc : List Dv), (∀ x ∈ l, ∀ P : DK, P (f x) μ → e noX ((wpD α [i]).set i (some (inj x))) μ P) → l.length + acc.length < 1000000 → Q (acc ++ l.map f) μ → mLcL gd (nName i) mYes e [i] α Q (l.map inj) acc μ
  | [], acc, _, _, h => by
    rw [List.map_nil, List.append_nil] at h
    exact h
  | x :: r, acc, hd, hl, h => by
    show (if true = true then e noX ((wpD α [i]).set i (some (inj x))) μ fun y μ4 => acc.length < sizeLine ∧ gd μ4 ∧ mLcL gd (nName i) mYes e [i] α Q (r.map inj) (acc ++ [y]) μ4 else gd μ ∧ mLcL gd (nName i) mYes e [i] α Q (r.map inj) acc μ)
    refine iteT ?_
    refine hd x (by simp) _ ⟨Nat.lt_of_lt_of_le (m := 1000000) (by simp at hl; omega) (by decide), hg, ?_⟩
    refine lc_name inj f hg r (acc ++ [f x]) (fun y hy => hd y (by simp [hy])) (by simp at hl ⊢; omega) ?_
    rw [List.append_assoc]
    exact h
theorem bls_of {α : Type} (f : α → Bool) (l : List α) : bls (l.map fun x => .d (.bl (f x))) = some (l.map f) := by
  rw [← bls_map, List.map_map]; rfl
/-! ### no two alike -/
end
end Mz
end
section
set_option Elab.async false
set_option linter.all false
set_option maxRecDepth 100000
set_option maxHeartbeats 1000000
namespace Mz
open PySem L2
local macro_rules | `(tactic| row_cond sd) => `(tactic| first | with_reducible assumption | with_reducible exact rfl | exact rfl | exact True.intro | assumption | decide)
local macro_rules | `(tactic| row_cond st) => `(tactic| first
  | refine And.intro (by row_cond sd) ?_
  | refine ⟨_, by row_cond sd, ?_⟩
  | refine ⟨_, _, by row_cond sd, ?_⟩
  | refine ⟨_, _, by row_cond sd, by row_cond sd, ?_⟩
  | refine ⟨_, _, _, by row_cond sd, ?_⟩
  | refine ⟨_, _, _, by row_cond sd, by row_cond sd, ?_⟩
  | refine ⟨_, _, _, by row_cond sd, by row_cond sd, by row_cond sd, ?_⟩
  | refine ⟨_, _, _, _, by row_cond sd, ?_⟩
  | refine ⟨_, _, _, _, by row_cond sd, by row_cond sd, by row_cond sd, ?_⟩
  | refine ⟨_, _, _, _, by row_cond sd, by row_cond sd, by row_cond sd, by row_cond sd, ?_⟩
  | refine iteT ?_
  | refine iteF ?_)
local macro_rules | `(tactic| row_cond go) => `(tactic| repeat (row_cond st))
/-! ### loops -/
theorem loop_by {gd : MS → Prop} {g : GS} {b : BS} {D : En} (P : Nat → Env' → MS → Prop) {items : List Dv}
    (hs : ∀ (i : Nat) (d : Dv) (α : Env') (μ : MS) (N : Env' → MS → Prop), items[i]? = some d → P i α μ → (∀ α' μ', P (i + 1) α' μ' → N α' μ') → g d D.er α μ fun α1 μ1 => b { D with nx := fun α2 μ2 => gd μ2 ∧ N α2 μ2, ct := fun α2 μ2 => gd μ2 ∧ N α2 μ2, bk := D.nx } α1 μ1)
    (he : ∀ α μ, P items.length α μ → D.nx α μ) {α : Env'} {μ : MS} (h0 : P 0 α μ) : mLoop gd g b D items α μ := by
  have key : ∀ (k i : Nat) (α : Env') (μ : MS), items.length - i = k → i ≤ items.length → P i α μ → mLoop gd g b D (items.drop i) α μ := by
    intro k
    induction k with
    | zero =>
      intro i α μ e hi p
      have : i = items.length := by omega
      subst this
      rw [List.drop_length]
      exact he α μ p
    | succ k ih =>
      intro i α μ e hi p
      have hlt : i < items.length := by omega
      rw [List.drop_eq_getElem_cons hlt]
      exact hs i _ α μ _ (List.getElem?_eq_getElem hlt) p fun α' μ' p' => ih (i + 1) α' μ' (by omega) hlt p'
  have := key _ 0 α μ rfl (Nat.zero_le _) h0
  rwa [List.drop_zero] at this
/-! ### fields and calls as data -/
structure Fld where
  nm : Str
  many : Bool
  need : Bool
def Fld.sort (f : Fld) : Str := if f.many then "many" else "one"
def Fld.da (f : Fld) : Da := .tup [.str f.nm, .str f.sort, .bl f.need]
structure FldsOk (fs : List Fld) : Prop where
  ne : 0 < fs.length
  le : fs.length ≤ 3
  wd : ∀ f ∈ fs, (Da.str f.nm).isWord = true
  nd : (fs.map Fld.nm).Nodup
theorem Paired.getL {α β : Type} {R : α → β → Prop} : ∀ {l : List α} {m : List β} {i : Nat} {x : α}, Paired R l m → l[i]? = some x → ∃ y, m[i]? = some y ∧ R x y
  | _, _, _, _, .nil, e => by simp at e
  | _, _, 0, _, .cons h _, e => by simp at e; subst e; exact ⟨_, rfl, h⟩
  | _, _, i + 1, x, .cons _ t, e => by
    obtain ⟨y, h1, h2⟩ := Paired.getL (i := i) (x := x) t (by simpa using e)
    exact ⟨y, by simpa using h1, h2⟩
theorem take_snoc {α : Type} {l : List α} {i : Nat} {x : α} (h : l[i]? = some x) : l.take (i + 1) = l.take i ++ [x] := by
  rw [List.take_succ, h]; rfl
theorem sqV_last {μ : MS} {ys : List Dv} : sqV (μ ++ [.lst ys]) (.ob μ.length) = some ys := by simp [sqV, lsV]
theorem lsV_last {μ : MS} {ys : List Dv} : lsV (μ ++ [.lst ys]) (.ob μ.length) = some ys := by simp [lsV]
theorem get_last {μ : MS} {o : MO} : (μ ++ [o])[μ.length]? = some o := by simp
theorem en_get {ds : List Dv} {i : Nat} {d : Dv} (h : (enumD ds)[i]? = some d) : ∃ x, ds[i]? = some x ∧ d = mkTup [.d (.int (i : Nat)), x] := by
  have hl : i < ds.length := by rw [← enumD_len]; exact (List.getElem?_eq_some_iff.mp h).1
  refine ⟨ds[i], List.getElem?_eq_getElem hl, ?_⟩
  rw [enumD_get (List.getElem?_eq_getElem hl)] at h
  exact (Option.some.inj h).symm
end Mz
end
section
set_option Elab.async false
set_option linter.all false
set_option maxRecDepth 100000
set_option maxHeartbeats 1000000
namespace Mz
open PySem L2
local macro_rules | `(tactic| row_cond sd) => `(tactic| first | with_reducible assumption | with_reducible exact rfl | exact rfl | exact True.intro | assumption | decide)
local macro_rules | `(tactic| row_cond st) => `(tactic| first
  | refine And.intro (by row_cond sd) ?_
  | refine ⟨_, by row_cond sd, ?_⟩
  | refine ⟨_, _, by row_cond sd, ?_⟩
  | refine ⟨_, _, by row_cond sd, by row_cond sd, ?_⟩
  | refine ⟨_, _, _, by row_cond sd, ?_⟩
  | refine ⟨_, _, _, by row_cond sd, by row_cond sd, ?_⟩
  | refine ⟨_, _, _, by row_cond sd, by row_cond sd, by row_cond sd, ?_⟩
  | refine ⟨_, _, _, _, by row_cond sd, ?_⟩
  | refine ⟨_, _, _, _, by row_cond sd, by row_cond sd, by row_cond sd, ?_⟩
  | refine ⟨_, _, _, _, by row_cond sd, by row_cond sd, by row_cond sd, by row_cond sd, ?_⟩
  | refine iteT ?_
  | refine iteF ?_)
local macro_rules | `(tactic| row_cond go) => `(tactic| repeat (row_cond st))
/-! ### comprehensions -/
theorem lc_by {gd : MS → Prop} {g : GS} {t : TS'} {e : ES} {vs : List Nat} {α : Env'} {Q : List Dv → MS → Prop} (P : Nat → List Dv → MS → Prop) {items : List Dv}
    (hs : ∀ (i : Nat) (d : Dv) (acc : List Dv) (μ : MS) (N : List Dv → MS → Prop), items[i]? = some d → P i acc μ → (∀ acc' μ', P (i + 1) acc' μ' → N acc' μ') → g d noX (wpD α vs) μ fun α2 μ2 => t noX α2 μ2 fun k μ3 => if k = true then e noX α2 μ3 fun y μ4 => acc.length < sizeLine ∧ gd μ4 ∧ N (acc ++ [y]) μ4 else gd μ3 ∧ N acc μ3)
    (he : ∀ acc μ, P items.length acc μ → Q acc μ) {μ : MS} (h0 : P 0 [] μ) : mLcL gd g t e vs α Q items [] μ := by
  have key : ∀ (k i : Nat) (acc : List Dv) (μ : MS), items.length - i = k → i ≤ items.length → P i acc μ → mLcL gd g t e vs α Q (items.drop i) acc μ := by
    intro k
    induction k with
    | zero =>
      intro i acc μ e hi p
      have : i = items.length := by omega
      subst this
      rw [List.drop_length]
      exact he acc μ p
    | succ k ih =>
      intro i acc μ e hi p
      have hlt : i < items.length := by omega
      rw [List.drop_eq_getElem_cons hlt]
      exact hs i _ acc μ _ (List.getElem?_eq_getElem hlt) p fun acc' μ' p' => ih (i + 1) acc' μ' (by omega) hlt p'
  have := key _ 0 [] μ rfl (Nat.zero_le _) h0
  rwa [List.drop_zero] at this
/-! ### the sorts of fields -/
def sortOf (fs : List Fld) (s : Str) : Option Str := (fs.find? fun f => decide (f.nm = s)).map Fld.sort
abbrev deedsOf (s : Str) : List Str := if s = "many" then ["add", "strike", "fresh", "clear"] else ["set", "clear"]
def DeedOk (fs : List Fld) (p : Str × Str) : Prop := ∃ t, sortOf fs p.2 = some t ∧ p.1 ∈ deedsOf t
section
variable {A : Ad} {K : PySem.W.Frag} {E : Ex → Prop} {Q : Da → Prop}
structure Cal where
  nm : Str
  hand : Str
  moves : List Int
  deeds : List (Str × Str)
  same : List Str
abbrev addish : List Str := ["add", "strike"]
structure CalOk (fs : List Fld) (md : Int) (c : Cal) : Prop where
  wd : (Da.str c.nm).isWord = true
  hd : c.hand ∈ (["self", "new", "last"] : List Str)
  ml : (c.moves.length : Int) = md
  m4 : md ≤ 4
  mv : ∀ m ∈ c.moves, -1 ≤ m ∧ m ≤ md - 1
  dl : c.deeds.length ≤ 4
  dd : ∀ p ∈ c.deeds, DeedOk fs p
  un : ((c.deeds.filter fun p => decide (p.1 ∈ addish)).map (·.2)).Nodup
  sm : ∀ s ∈ c.same, sortOf fs s = some "many"
  sn : c.same.Nodup
  sl : c.same.length ≤ 3
  ss : c.hand = "self" → c.same = []
end
end Mz
end
section
set_option Elab.async false
set_option linter.all false
set_option maxRecDepth 100000
set_option maxHeartbeats 1000000
namespace Mz
open PySem L2
local macro_rules | `(tactic| row_cond sd) => `(tactic| first | with_reducible assumption | with_reducible exact rfl | exact rfl | exact True.intro | assumption | decide)
local macro_rules | `(tactic| row_cond st) => `(tactic| first
  | refine And.intro (by row_cond sd) ?_
  | refine ⟨_, by row_cond sd, ?_⟩
  | refine ⟨_, _, by row_cond sd, ?_⟩
  | refine ⟨_, _, by row_cond sd, by row_cond sd, ?_⟩
  | refine ⟨_, _, _, by row_cond sd, ?_⟩
  | refine ⟨_, _, _, by row_cond sd, by row_cond sd, ?_⟩
  | refine ⟨_, _, _, by row_cond sd, by row_cond sd, by row_cond sd, ?_⟩
  | refine ⟨_, _, _, _, by row_cond sd, ?_⟩
  | refine ⟨_, _, _, _, by row_cond sd, by row_cond sd, by row_cond sd, ?_⟩
  | refine ⟨_, _, _, _, by row_cond sd, by row_cond sd, by row_cond sd, by row_cond sd, ?_⟩
  | refine iteT ?_
  | refine iteF ?_)
local macro_rules | `(tactic| row_cond go) => `(tactic| repeat (row_cond st))
def pairDa (p : Str × Str) : Da := .tup [.str p.1, .str p.2]
def Cal.row (c : Cal) : Da := .tup [.str c.nm, .str c.hand, .tup (c.moves.map Da.int), .tup (c.deeds.map pairDa), .tup (c.same.map Da.str)]
end Mz
end
section
set_option Elab.async false
set_option linter.all false
set_option maxRecDepth 100000
set_option maxHeartbeats 1000000
namespace Mz
open PySem L2
local macro_rules | `(tactic| row_cond sd) => `(tactic| first | with_reducible assumption | with_reducible exact rfl | exact rfl | exact True.intro | assumption | decide)
local macro_rules | `(tactic| row_cond st) => `(tactic| first
  | refine And.intro (by row_cond sd) ?_
  | refine ⟨_, by row_cond sd, ?_⟩
  | refine ⟨_, _, by row_cond sd, ?_⟩
  | refine ⟨_, _, by row_cond sd, by row_cond sd, ?_⟩
  | refine ⟨_, _, _, by row_cond sd, ?_⟩
  | refine ⟨_, _, _, by row_cond sd, by row_cond sd, ?_⟩
  | refine ⟨_, _, _, by row_cond sd, by row_cond sd, by row_cond sd, ?_⟩
  | refine ⟨_, _, _, _, by row_cond sd, ?_⟩
  | refine ⟨_, _, _, _, by row_cond sd, by row_cond sd, by row_cond sd, ?_⟩
  | refine ⟨_, _, _, _, by row_cond sd, by row_cond sd, by row_cond sd, by row_cond sd, ?_⟩
  | refine iteT ?_
  | refine iteF ?_)
local macro_rules | `(tactic| row_cond go) => `(tactic| repeat (row_cond st))
structure KD where
  fs : List Fld
  cs : List Cal
  md : Int
structure KDOk (kd : KD) : Prop where
  f : FldsOk kd.fs
  m1 : 1 ≤ kd.md
  m4 : kd.md ≤ 4
  c0 : 0 < kd.cs.length
  c6 : kd.cs.length ≤ 6
  c : ∀ c ∈ kd.cs, CalOk kd.fs kd.md c
  nd : (kd.cs.map Cal.nm).Nodup
theorem set_mid {α : Type} {l r : List α} {o o' : α} : (l ++ o :: r).set l.length o' = l ++ o' :: r := by simp
theorem zip_eD {κ : Type} : ∀ kvs : List (κ × Da), ((kvs.map eD).map (·.1)).zip (kvs.map (·.2)) = kvs
  | [] => rfl
  | (k, v) :: r => by simp only [List.map_cons, eD, List.zip_cons_cons]; rw [zip_eD r]
theorem fz1_dct {μ : MS} {n : Nat} {kvs : List (Key × Da)} (h : μ[n]? = some (.dct (kvs.map eD))) : fz1 μ (.ob n) = some (μ.set n (.frz (.dct kvs)), .dct kvs) := by
  have e : (kvs.map eD).map (·.2) = (kvs.map (·.2)).map Dv.d := by rw [List.map_map, List.map_map]; rfl
  unfold fz1
  simp only [h, e, pus_map, Option.map_some, zip_eD]
end Mz
end
section
set_option Elab.async false
set_option linter.all false
set_option maxRecDepth 100000
set_option maxHeartbeats 1000000
namespace Mz
open PySem L2
local macro_rules | `(tactic| row_cond sd) => `(tactic| first | with_reducible assumption | with_reducible exact rfl | exact rfl | exact True.intro | assumption | decide)
local macro_rules | `(tactic| row_cond st) => `(tactic| first
  | refine And.intro (by row_cond sd) ?_
  | refine ⟨_, by row_cond sd, ?_⟩
  | refine ⟨_, _, by row_cond sd, ?_⟩
  | refine ⟨_, _, by row_cond sd, by row_cond sd, ?_⟩
  | refine ⟨_, _, _, by row_cond sd, ?_⟩
  | refine ⟨_, _, _, by row_cond sd, by row_cond sd, ?_⟩
  | refine ⟨_, _, _, by row_cond sd, by row_cond sd, by row_cond sd, ?_⟩
  | refine ⟨_, _, _, _, by row_cond sd, ?_⟩
  | refine ⟨_, _, _, _, by row_cond sd, by row_cond sd, by row_cond sd, ?_⟩
  | refine ⟨_, _, _, _, by row_cond sd, by row_cond sd, by row_cond sd, by row_cond sd, ?_⟩
  | refine iteT ?_
  | refine iteF ?_)
local macro_rules | `(tactic| row_cond go) => `(tactic| repeat (row_cond st))
mutual
theorem Rz.app {μ r : MS} : ∀ {d : Dv} {x : Da}, Rz μ d x → Rz (μ ++ r) d x
  | _, _, .d x => .d x
  | _, _, .frz h => .frz (by rw [List.getElem?_append_left (List.getElem?_eq_some_iff.mp h).1]; exact h)
  | _, _, .lst h t => .lst (by rw [List.getElem?_append_left (List.getElem?_eq_some_iff.mp h).1]; exact h) (RzAll.app t)
  | _, _, .dct h t => .dct (by rw [List.getElem?_append_left (List.getElem?_eq_some_iff.mp h).1]; exact h) (RzAll.app t)
  | _, _, .ins h t => .ins (by rw [List.getElem?_append_left (List.getElem?_eq_some_iff.mp h).1]; exact h) (RzAll.app t)
  | _, _, .tp t => .tp (RzAll.app t)
theorem RzAll.app {μ r : MS} : ∀ {d : List Dv} {x : List Da}, RzAll μ d x → RzAll (μ ++ r) d x
  | _, _, .nil => .nil
  | _, _, .cons h t => .cons (Rz.app h) (RzAll.app t)
end
section
variable {A : Ad} {K : PySem.W.Frag} {E : Ex → Prop} {Q : Da → Prop}
theorem x_law_take {m : Int} (h0 : 0 < m) (h1 : m < 1048576) (h : ∀ k : Int, 0 ≤ k → k < m → Q (.int k)) : m_law_take A K [.st, .int m] E Q := by
  unfold m_law_take
  exact ⟨m, rfl, h0, h1, h⟩
end
end Mz
end
section
set_option Elab.async false
set_option linter.all false
set_option maxRecDepth 100000
set_option maxHeartbeats 1000000
namespace Mz
open PySem L2
local macro_rules | `(tactic| row_cond sd) => `(tactic| first | with_reducible assumption | with_reducible exact rfl | exact rfl | exact True.intro | assumption | decide)
local macro_rules | `(tactic| row_cond st) => `(tactic| first
  | refine And.intro (by row_cond sd) ?_
  | refine ⟨_, by row_cond sd, ?_⟩
  | refine ⟨_, _, by row_cond sd, ?_⟩
  | refine ⟨_, _, by row_cond sd, by row_cond sd, ?_⟩
  | refine ⟨_, _, _, by row_cond sd, ?_⟩
  | refine ⟨_, _, _, by row_cond sd, by row_cond sd, ?_⟩
  | refine ⟨_, _, _, by row_cond sd, by row_cond sd, by row_cond sd, ?_⟩
  | refine ⟨_, _, _, _, by row_cond sd, ?_⟩
  | refine ⟨_, _, _, _, by row_cond sd, by row_cond sd, by row_cond sd, ?_⟩
  | refine ⟨_, _, _, _, by row_cond sd, by row_cond sd, by row_cond sd, by row_cond sd, ?_⟩
  | refine iteT ?_
  | refine iteF ?_)
local macro_rules | `(tactic| row_cond go) => `(tactic| repeat (row_cond st))
end Mz
end
section
set_option Elab.async false
set_option linter.all false
set_option maxRecDepth 100000
set_option maxHeartbeats 1000000
namespace Mz
open PySem L2
local macro_rules | `(tactic| row_cond sd) => `(tactic| first | with_reducible assumption | with_reducible exact rfl | exact rfl | exact True.intro | assumption | decide)
local macro_rules | `(tactic| row_cond st) => `(tactic| first
  | refine And.intro (by row_cond sd) ?_
  | refine ⟨_, by row_cond sd, ?_⟩
  | refine ⟨_, _, by row_cond sd, ?_⟩
  | refine ⟨_, _, by row_cond sd, by row_cond sd, ?_⟩
  | refine ⟨_, _, _, by row_cond sd, ?_⟩
  | refine ⟨_, _, _, by row_cond sd, by row_cond sd, ?_⟩
  | refine ⟨_, _, _, by row_cond sd, by row_cond sd, by row_cond sd, ?_⟩
  | refine ⟨_, _, _, _, by row_cond sd, ?_⟩
  | refine ⟨_, _, _, _, by row_cond sd, by row_cond sd, by row_cond sd, ?_⟩
  | refine ⟨_, _, _, _, by row_cond sd, by row_cond sd, by row_cond sd, by row_cond sd, ?_⟩
  | refine iteT ?_
  | refine iteF ?_)
local macro_rules | `(tactic| row_cond go) => `(tactic| repeat (row_cond st))
abbrev FIVE : List Str := ["a", "need", "many", "do", "quantity"]
abbrev NAMES : List Str := ["add", "put", "cut", "make", "jqzxvkgw"]
structure Drawn (kd : KD) (wide many far : Int) : Prop where
  ok : KDOk kd
  fl : (kd.fs.length : Int) ≤ wide
  fn : ∀ f ∈ kd.fs, f.nm ∈ FIVE
  md : kd.md ≤ far
  cs : ∃ n : Nat, 1 ≤ n ∧ (n : Int) ≤ many - 1 ∧ kd.cs.map Cal.nm = NAMES.take n ++ [("build" : Str)]
  bl : ∀ c ∈ kd.cs, c.nm = "build" → c.hand = "last"
theorem sq_at {μ : MS} {n : Nat} {ys : List Dv} (h : μ[n]? = some (.lst ys)) : sqV μ (.ob n) = some ys := by
  show (match μ[n]? with
    | some (.lst ds) => some ds
    | some (.frz (.lst ds)) => some (ds.map .d)
    | _ => none) = _
  rw [h]
theorem ls_at {μ : MS} {n : Nat} {ys : List Dv} (h : μ[n]? = some (.lst ys)) : lsV μ (.ob n) = some ys := sq_at h
theorem ls_some {μ : MS} {d : Dv} {ys : List Dv} (h : lsV μ d = some ys) : (lsV μ d).isSome = true := by rw [h]; rfl
end Mz
end
section
set_option Elab.async false
set_option linter.all false
set_option maxRecDepth 100000
set_option maxHeartbeats 1000000
namespace Mz
open PySem L2
open TL
/-! ### lines, plain -/
inductive Ln where
  | modes (m : Int) | fld (f : Fld) | cal (nm hand : Str) (ms : List Int) | deed (p : Str × Str) | same (s : Str)
abbrev toS (m : Int) : Str := Str.ofString (toString m)
def Ln.words : Ln → List Str
  | .modes m => ["modes", toS m]
  | .fld f => ([("field" : Str), f.nm, f.sort] : List Str) ++ (if f.need = true then [("need" : Str)] else [])
  | .cal nm hand ms => ([("call" : Str), nm, hand] : List Str) ++ ms.map toS
  | .deed p => ["do", p.1, p.2]
  | .same s => ["same", s]
def Ln.line (l : Ln) : Str := Txt.join " " l.words
def Num (m : Int) : Prop := -1 ≤ m ∧ m ≤ 4
def LnOk : Ln → Prop
  | .modes m => Num m ∧ 1 ≤ m
  | .fld f => (Da.str f.nm).isWord = true
  | .cal nm hand ms => (Da.str nm).isWord = true ∧ (Da.str hand).isWord = true ∧ ms.length ≤ 4 ∧ ∀ m ∈ ms, Num m
  | .deed p => (Da.str p.1).isWord = true ∧ (Da.str p.2).isWord = true
  | .same s => (Da.str s).isWord = true
theorem len_tl (s : Str) : s.length = (tl s).length := by
  unfold Str.length tl; simp
/-! ### what the lines, read one by one, make -/
def onLast (f : Cal → Cal) : List Cal → List Cal
  | [] => []
  | [c] => [f c]
  | c :: z :: r => c :: onLast f (z :: r)
def rdLn (r : KD) : Ln → KD
  | .modes m => ⟨r.fs, r.cs, m⟩
  | .fld f => ⟨r.fs ++ [f], r.cs, r.md⟩
  | .cal nm hand ms => ⟨r.fs, r.cs ++ [⟨nm, hand, ms, [], []⟩], r.md⟩
  | .deed p => ⟨r.fs, onLast (fun c => { c with deeds := c.deeds ++ [p] }) r.cs, r.md⟩
  | .same s => ⟨r.fs, onLast (fun c => { c with same := c.same ++ [s] }) r.cs, r.md⟩
def Fits (r : KD) (j : Nat) : Ln → Prop
  | .modes _ => j = 0
  | .fld _ => j ≠ 0 ∧ r.cs = []
  | .cal _ _ _ => j ≠ 0
  | .deed _ => j ≠ 0 ∧ ∃ cs0 c, r.cs = cs0 ++ [c] ∧ c.same = []
  | .same _ => j ≠ 0 ∧ ∃ cs0 c, r.cs = cs0 ++ [c]
def Reads : KD → Nat → List Ln → KD → Prop
  | r, _, [], r' => r = r'
  | r, j, l :: ls, r' => Fits r j l ∧ LnOk l ∧ Reads (rdLn r l) (j + 1) ls r'
theorem Reads.app : ∀ {r r' r'' : KD} {j : Nat} {a b : List Ln}, Reads r j a r' → Reads r' (j + a.length) b r'' → Reads r j (a ++ b) r''
  | _, _, _, _, [], _, h, k => by
    obtain rfl : _ = _ := h
    exact k
  | _, _, _, j, l :: ls, b, h, k => ⟨h.1, h.2.1, Reads.app h.2.2 (by
      have e : j + 1 + ls.length = j + (l :: ls).length := by simp; omega
      rw [e]; exact k)⟩
/-! ### the lines as they are written -/
end Mz
end
section
set_option Elab.async false
set_option linter.all false
set_option maxRecDepth 100000
set_option maxHeartbeats 1000000
namespace Mz
open PySem L2 TL
local macro_rules | `(tactic| row_cond sd) => `(tactic| first | with_reducible assumption | with_reducible exact rfl | exact rfl | exact True.intro | assumption | decide)
local macro_rules | `(tactic| row_cond st) => `(tactic| first
  | refine And.intro (by row_cond sd) ?_
  | refine ⟨_, by row_cond sd, ?_⟩
  | refine ⟨_, _, by row_cond sd, ?_⟩
  | refine ⟨_, _, by row_cond sd, by row_cond sd, ?_⟩
  | refine ⟨_, _, _, by row_cond sd, ?_⟩
  | refine ⟨_, _, _, by row_cond sd, by row_cond sd, ?_⟩
  | refine ⟨_, _, _, by row_cond sd, by row_cond sd, by row_cond sd, ?_⟩
  | refine ⟨_, _, _, _, by row_cond sd, ?_⟩
  | refine ⟨_, _, _, _, by row_cond sd, by row_cond sd, by row_cond sd, ?_⟩
  | refine ⟨_, _, _, _, by row_cond sd, by row_cond sd, by row_cond sd, by row_cond sd, ?_⟩
  | refine iteT ?_
  | refine iteF ?_)
local macro_rules | `(tactic| row_cond go) => `(tactic| repeat (row_cond st))
theorem app_len (a b : Str) : (a ++ b).length = a.length + b.length := by
  rw [len_tl, len_tl, len_tl, tl_append, List.length_append]
theorem lt_emp : Str.empty.length = 0 := rfl
theorem lt_modes : (Str.ofString "modes ").length = 6 := by decide
theorem lt_field : (Str.ofString "field ").length = 6 := by decide
theorem lt_do : (Str.ofString "do ").length = 3 := by decide
theorem lt_same : (Str.ofString "same ").length = 5 := by decide
theorem lt_sp : (Str.ofString " ").length = 1 := by decide
theorem lt_nl : (Str.ofString "\n").length = 1 := by decide
theorem lt_need : (Str.ofString " need").length = 5 := by decide
theorem lt_none : (Str.ofString "").length = 0 := by decide
theorem line_k : (1000 : Nat) ≤ sizeLine := by decide
local macro_rules | `(tactic| row_cond ln) => `(tactic| (refine Nat.le_trans (m := 1000) ?_ line_k; (try simp only [app_len, lt_emp, lt_modes, lt_field, lt_do, lt_same, lt_sp, lt_nl, lt_need, lt_none]); omega))
end Mz
end
section
set_option Elab.async false
set_option linter.all false
set_option maxRecDepth 100000
set_option maxHeartbeats 1000000
namespace Mz
open PySem L2 TL
local macro_rules | `(tactic| row_cond sd) => `(tactic| first | with_reducible assumption | with_reducible exact rfl | exact rfl | exact True.intro | assumption | decide)
local macro_rules | `(tactic| row_cond st) => `(tactic| first
  | refine And.intro (by row_cond sd) ?_
  | refine ⟨_, by row_cond sd, ?_⟩
  | refine ⟨_, _, by row_cond sd, ?_⟩
  | refine ⟨_, _, by row_cond sd, by row_cond sd, ?_⟩
  | refine ⟨_, _, _, by row_cond sd, ?_⟩
  | refine ⟨_, _, _, by row_cond sd, by row_cond sd, ?_⟩
  | refine ⟨_, _, _, by row_cond sd, by row_cond sd, by row_cond sd, ?_⟩
  | refine ⟨_, _, _, _, by row_cond sd, ?_⟩
  | refine ⟨_, _, _, _, by row_cond sd, by row_cond sd, by row_cond sd, ?_⟩
  | refine ⟨_, _, _, _, by row_cond sd, by row_cond sd, by row_cond sd, by row_cond sd, ?_⟩
  | refine iteT ?_
  | refine iteF ?_)
local macro_rules | `(tactic| row_cond go) => `(tactic| repeat (row_cond st))
local macro_rules | `(tactic| row_cond ln) => `(tactic| (refine Nat.le_trans (m := 1000) ?_ line_k; (try simp only [app_len, lt_emp, lt_modes, lt_field, lt_do, lt_same, lt_sp, lt_nl, lt_need, lt_none]); omega))
end Mz
end
section
set_option Elab.async false
set_option linter.all false
set_option maxRecDepth 100000
set_option maxHeartbeats 1000000
namespace Mz
open PySem L2 TL
local macro_rules | `(tactic| row_cond sd) => `(tactic| first | with_reducible assumption | with_reducible exact rfl | exact rfl | exact True.intro | assumption | decide)
local macro_rules | `(tactic| row_cond st) => `(tactic| first
  | refine And.intro (by row_cond sd) ?_
  | refine ⟨_, by row_cond sd, ?_⟩
  | refine ⟨_, _, by row_cond sd, ?_⟩
  | refine ⟨_, _, by row_cond sd, by row_cond sd, ?_⟩
  | refine ⟨_, _, _, by row_cond sd, ?_⟩
  | refine ⟨_, _, _, by row_cond sd, by row_cond sd, ?_⟩
  | refine ⟨_, _, _, by row_cond sd, by row_cond sd, by row_cond sd, ?_⟩
  | refine ⟨_, _, _, _, by row_cond sd, ?_⟩
  | refine ⟨_, _, _, _, by row_cond sd, by row_cond sd, by row_cond sd, ?_⟩
  | refine ⟨_, _, _, _, by row_cond sd, by row_cond sd, by row_cond sd, by row_cond sd, ?_⟩
  | refine iteT ?_
  | refine iteF ?_)
local macro_rules | `(tactic| row_cond go) => `(tactic| repeat (row_cond st))
end Mz
end
section
set_option Elab.async false
set_option linter.all false
set_option maxRecDepth 100000
set_option maxHeartbeats 1000000
namespace Mz
open PySem L2 TL
local macro_rules | `(tactic| row_cond sd) => `(tactic| first | with_reducible assumption | with_reducible exact rfl | exact rfl | exact True.intro | assumption | decide)
local macro_rules | `(tactic| row_cond st) => `(tactic| first
  | refine And.intro (by row_cond sd) ?_
  | refine ⟨_, by row_cond sd, ?_⟩
  | refine ⟨_, _, by row_cond sd, ?_⟩
  | refine ⟨_, _, by row_cond sd, by row_cond sd, ?_⟩
  | refine ⟨_, _, _, by row_cond sd, ?_⟩
  | refine ⟨_, _, _, by row_cond sd, by row_cond sd, ?_⟩
  | refine ⟨_, _, _, by row_cond sd, by row_cond sd, by row_cond sd, ?_⟩
  | refine ⟨_, _, _, _, by row_cond sd, ?_⟩
  | refine ⟨_, _, _, _, by row_cond sd, by row_cond sd, by row_cond sd, ?_⟩
  | refine ⟨_, _, _, _, by row_cond sd, by row_cond sd, by row_cond sd, by row_cond sd, ?_⟩
  | refine iteT ?_
  | refine iteF ?_)
local macro_rules | `(tactic| row_cond go) => `(tactic| repeat (row_cond st))
/-! ### all lists of data frozen -/
/-! ### what the reader has read -/
abbrev calTp (c : Cal) (m d s : Nat) : Dv := .tp [.d (.str c.nm), .d (.str c.hand), .ob (m + 5), .ob (d + 5), .ob (s + 5)]
structure CalAt (g : MS) (c : Cal) (m d s : Nat) : Prop where
  m : g[m]? = some (.lst ((c.moves.map Da.int).map .d))
  d : g[d]? = some (.lst ((c.deeds.map pairDa).map .d))
  s : g[s]? = some (.lst ((c.same.map Da.str).map .d))
def OldAt (g : MS) (b : Nat) (cs : List Cal) (items : List Dv) : Prop := Paired (fun c x => ∃ m d s, m < b ∧ d < b ∧ s < b ∧ x = calTp c m d s ∧ CalAt g c m d s) cs items
def RdC (g : MS) (cs : List Cal) (items : List Dv) : Prop := (cs = [] ∧ items = []) ∨ ∃ cs0 c items0 b m d s, cs = cs0 ++ [c] ∧ items = items0 ++ [calTp c m d s] ∧ OldAt g b cs0 items0 ∧ b ≤ m ∧ m < d ∧ d < s ∧ CalAt g c m d s
abbrev rdIns (A : Ad) (md : Int) : MO := .ins A.TextReader [("modes_read", .d (.int md)), ("fields_read", .ob 1), ("calls_read", .ob 2)]
def RdSt (A : Ad) (L S : MO) (r : KD) (μ : MS) : Prop := ∃ items g, μ = rdIns A r.md :: .lst ((r.fs.map Fld.da).map .d) :: .lst items :: L :: S :: g ∧ RdC g r.cs items
theorem CalAt.app {g r : MS} {c : Cal} {m d s : Nat} (h : CalAt g c m d s) : CalAt (g ++ r) c m d s :=
  ⟨by rw [List.getElem?_append_left (List.getElem?_eq_some_iff.mp h.m).1]; exact h.m, by rw [List.getElem?_append_left (List.getElem?_eq_some_iff.mp h.d).1]; exact h.d, by rw [List.getElem?_append_left (List.getElem?_eq_some_iff.mp h.s).1]; exact h.s⟩
theorem OldAt.app {g r : MS} {b : Nat} : ∀ {cs : List Cal} {items : List Dv}, OldAt g b cs items → OldAt (g ++ r) b cs items
  | _, _, .nil => .nil
  | _, _, .cons ⟨m, d, s, h1, h2, h3, h4, h5⟩ t => .cons ⟨m, d, s, h1, h2, h3, h4, h5.app⟩ (OldAt.app t)
theorem RdC.app {g r : MS} {cs : List Cal} {items : List Dv} (h : RdC g cs items) : RdC (g ++ r) cs items := by
  rcases h with h | ⟨cs0, c, items0, b, m, d, s, h1, h2, h3, h4, h5, h6, h7⟩
  · exact .inl h
  · exact .inr ⟨cs0, c, items0, b, m, d, s, h1, h2, h3.app, h4, h5, h6, h7.app⟩
end Mz
end
section
set_option Elab.async false
set_option linter.all false
set_option maxRecDepth 100000
set_option maxHeartbeats 1000000
namespace Mz
open PySem L2 TL
local macro_rules | `(tactic| row_cond sd) => `(tactic| first | with_reducible assumption | with_reducible exact rfl | exact rfl | exact True.intro | assumption | decide)
local macro_rules | `(tactic| row_cond st) => `(tactic| first
  | refine And.intro (by row_cond sd) ?_
  | refine ⟨_, by row_cond sd, ?_⟩
  | refine ⟨_, _, by row_cond sd, ?_⟩
  | refine ⟨_, _, by row_cond sd, by row_cond sd, ?_⟩
  | refine ⟨_, _, _, by row_cond sd, ?_⟩
  | refine ⟨_, _, _, by row_cond sd, by row_cond sd, ?_⟩
  | refine ⟨_, _, _, by row_cond sd, by row_cond sd, by row_cond sd, ?_⟩
  | refine ⟨_, _, _, _, by row_cond sd, ?_⟩
  | refine ⟨_, _, _, _, by row_cond sd, by row_cond sd, by row_cond sd, ?_⟩
  | refine ⟨_, _, _, _, by row_cond sd, by row_cond sd, by row_cond sd, by row_cond sd, ?_⟩
  | refine iteT ?_
  | refine iteF ?_)
local macro_rules | `(tactic| row_cond go) => `(tactic| repeat (row_cond st))
section
variable {A : Ad} {K : PySem.W.Frag} {E : XS} {Q : DK} {L S : MO} {r : KD} {μ : MS}
theorem len_ob {w : Nat} {ys : List Dv} (h : sqV μ (.ob w) = some ys) : lenD μ (.ob w) = some ys.length := by
  show (match sqV μ (.ob w) with
    | some ds => some ds.length
    | none => (dcV μ (.ob w)).map List.length) = _
  rw [h]
theorem ix_ob {w j : Nat} {i : Int} {ys : List Dv} {y : Dv} (h : sqV μ (.ob w) = some ys) (hi : i = (j : Nat)) (hy : ys[j]? = some y) : ixD μ (.ob w) (.d (.int i)) = some y := by
  subst hi
  show (sqV μ (.ob w)).bind (fun ds => atI ds (j : Int)) = _
  rw [h]
  exact atI_nat hy
/-! ### shapes of data for == -/
def Sh (n : Nat) (p : PyData) : Prop := p.canLay0 = true ∧ p.depth ≤ n
theorem Sh.ok {n : Nat} {p : PyData} (h : Sh n p) (hn : n ≤ 64) : SeqAt.shaped p = true := by
  unfold SeqAt.shaped
  rw [h.1]
  have := h.2
  simp; omega
theorem sh_str {n : Nat} {s : Str} (h : (Da.str s).isWord = true) : Sh n (.str s) := by
  refine ⟨?_, by simp [PyData.depth]⟩
  simp only [Da.isWord, lowS, Bool.and_eq_true, decide_eq_true_eq, List.all_map, List.all_eq_true] at h
  obtain ⟨_, h3⟩ := h
  show PyData.canLay0 (.str s) = true
  simp only [PyData.canLay0, PyData.strOk]
  rw [← Array.all_toList, List.all_eq_true]
  intro x hx
  have := h3 x hx
  simp only [Function.comp, id, decide_eq_true_eq] at this ⊢
  have hl : ∀ y ∈ LET.cps.toList, y < 1114112 := by decide
  exact hl x this
theorem sh_int {n : Nat} {i : Int} : Sh n (.int i) := ⟨by simp [PyData.canLay0], by simp [PyData.depth]⟩
theorem sh_bl {n : Nat} {i : Bool} : Sh n (.bool i) := ⟨by simp [PyData.canLay0], by simp [PyData.depth]⟩
theorem sh_all {n : Nat} : ∀ {ps : List PyData}, (∀ p ∈ ps, Sh n p) → PyData.canLayAll0 ps = true ∧ PyData.depthAll ps ≤ n
  | [], _ => ⟨by simp [PyData.canLayAll0], by simp [PyData.depthAll]⟩
  | p :: ps, h => by
    obtain ⟨h1, h2⟩ := h p (by simp)
    obtain ⟨h3, h4⟩ := sh_all (ps := ps) fun q hq => h q (by simp [hq])
    refine ⟨by simp [PyData.canLayAll0, h1, h3], ?_⟩
    simp only [PyData.depthAll]
    omega
theorem sh_list {n : Nat} {ps : List PyData} (h : ∀ p ∈ ps, Sh n p) : Sh (n + 1) (.list ps) := by
  obtain ⟨h1, h2⟩ := sh_all h
  refine ⟨by simp [PyData.canLay0, h1], ?_⟩
  simp only [PyData.depth]
  omega
theorem sh_tup {n : Nat} {ps : List PyData} (h : ∀ p ∈ ps, Sh n p) : Sh (n + 1) (.tuple ps) := by
  obtain ⟨h1, h2⟩ := sh_all h
  refine ⟨by simp [PyData.canLay0, h1], ?_⟩
  simp only [PyData.depth]
  omega
theorem pyAll_map {μ : MS} {β : Type} {f : β → Da} {g : β → PyData} (h : ∀ x, pyD (f x) = some (g x)) : ∀ l : List β, PyAll μ ((l.map f).map .d) (l.map g)
  | [] => .nil
  | x :: r => .cons (.d (h x)) (pyAll_map h r)
def pairPy (p : Str × Str) : PyData := .tuple [.str p.1, .str p.2]
theorem pyD_pair (p : Str × Str) : pyD (pairDa p) = some (pairPy p) := rfl
/-- a call as read: words all through -/
structure CalW (c : Cal) : Prop where
  nm : (Da.str c.nm).isWord = true
  hd : (Da.str c.hand).isWord = true
  dd : ∀ p ∈ c.deeds, (Da.str p.1).isWord = true ∧ (Da.str p.2).isWord = true
  sm : ∀ s ∈ c.same, (Da.str s).isWord = true
def Cal.py (c : Cal) : PyData := .tuple [.str c.nm, .str c.hand, .list (c.moves.map PyData.int), .list (c.deeds.map pairPy), .list (c.same.map PyData.str)]
theorem sh_pair {p : Str × Str} (h : (Da.str p.1).isWord = true ∧ (Da.str p.2).isWord = true) : Sh 1 (pairPy p) := by
  refine sh_tup fun q hq => ?_
  simp only [List.mem_cons, List.not_mem_nil, or_false] at hq
  rcases hq with rfl | rfl
  · exact sh_str h.1
  · exact sh_str h.2
theorem Sh.mono {n m : Nat} {p : PyData} (h : Sh n p) (hn : n ≤ m) : Sh m p := ⟨h.1, Nat.le_trans h.2 hn⟩
theorem sh_cal {c : Cal} (h : CalW c) : Sh 3 c.py := by
  refine sh_tup fun q hq => ?_
  simp only [List.mem_cons, List.not_mem_nil, or_false] at hq
  rcases hq with rfl | rfl | rfl | rfl | rfl
  · exact sh_str h.nm
  · exact sh_str h.hd
  · refine sh_list fun q hq => ?_
    obtain ⟨i, _, rfl⟩ := List.mem_map.mp hq
    exact sh_int
  · refine sh_list fun q hq => ?_
    obtain ⟨p, hp, rfl⟩ := List.mem_map.mp hq
    exact sh_pair (h.dd p hp)
  · refine sh_list fun q hq => ?_
    obtain ⟨p, hp, rfl⟩ := List.mem_map.mp hq
    exact sh_str (h.sm p hp)
theorem at5 {μ g : MS} {a b x y z : MO} {m : Nat} {o : MO} (e : μ = a :: b :: x :: y :: z :: g) (h : g[m]? = some o) : μ[m + 5]? = some o := by rw [e]; exact h
theorem calAt_py {μ g : MS} {a b x y z : MO} {c : Cal} {m d s : Nat} (e : μ = a :: b :: x :: y :: z :: g) (h : CalAt g c m d s) : PyAt μ (calTp c m d s) c.py :=
  .tup rfl (.cons (.d rfl) (.cons (.d rfl) (.cons (.lst (ls_at (at5 e h.m)) (pyAll_map (fun _ => rfl) _)) (.cons (.lst (ls_at (at5 e h.d)) (pyAll_map pyD_pair _)) (.cons (.lst (ls_at (at5 e h.s)) (pyAll_map (fun _ => rfl) _)) .nil)))))
theorem PyAll.app {μ : MS} : ∀ {xs ys : List Dv} {ps qs : List PyData}, PyAll μ xs ps → PyAll μ ys qs → PyAll μ (xs ++ ys) (ps ++ qs)
  | _, _, _, _, .nil, h => h
  | _, _, _, _, .cons a b, h => .cons a (PyAll.app b h)
theorem oldAt_py {μ g : MS} {a b x y z : MO} (e : μ = a :: b :: x :: y :: z :: g) {k : Nat} : ∀ {cs : List Cal} {items : List Dv}, OldAt g k cs items → PyAll μ items (cs.map Cal.py)
  | _, _, .nil => .nil
  | _, _, .cons ⟨m, d, s, _, _, _, h4, h5⟩ t => .cons (by rw [h4]; exact calAt_py e h5) (oldAt_py e t)
theorem rdC_py {μ g : MS} {a b x y z : MO} (e : μ = a :: b :: x :: y :: z :: g) {cs : List Cal} {items : List Dv} (h : RdC g cs items) : PyAll μ items (cs.map Cal.py) := by
  rcases h with ⟨rfl, rfl⟩ | ⟨cs0, c, items0, b, m, d, s, rfl, rfl, h3, _, _, _, h7⟩
  · exact .nil
  · rw [List.map_append]
    exact (oldAt_py e h3).app (.cons (calAt_py e h7) .nil)
/-! ### the reader's state -/
theorem RdSt.app {r' : MS} (st : RdSt A L S r μ) : RdSt A L S r (μ ++ r') := by
  obtain ⟨items, g, rfl, hc⟩ := st
  exact ⟨items, g ++ r', rfl, hc.app⟩
theorem RdSt.py (st : RdSt A L S r μ) : PyAt μ (.ob 2) (.list (r.cs.map Cal.py)) := by
  obtain ⟨items, g, e, hc⟩ := st
  refine .lst (ds := items) ?_ (rdC_py e hc)
  rw [e]; rfl
theorem RdSt.sh (hw : ∀ c ∈ r.cs, CalW c) : SeqAt.shaped (.list (r.cs.map Cal.py)) = true := by
  refine Sh.ok (n := 4) (sh_list fun p hp => ?_) (by decide)
  obtain ⟨c, hc, rfl⟩ := List.mem_map.mp hp
  exact sh_cal (hw c hc)
end
end Mz
end
section
set_option Elab.async false
set_option linter.all false
set_option maxRecDepth 100000
set_option maxHeartbeats 1000000
namespace Mz
open PySem L2 TL
local macro_rules | `(tactic| row_cond sd) => `(tactic| first | with_reducible assumption | with_reducible exact rfl | exact rfl | exact True.intro | assumption | decide)
local macro_rules | `(tactic| row_cond st) => `(tactic| first
  | refine And.intro (by row_cond sd) ?_
  | refine ⟨_, by row_cond sd, ?_⟩
  | refine ⟨_, _, by row_cond sd, ?_⟩
  | refine ⟨_, _, by row_cond sd, by row_cond sd, ?_⟩
  | refine ⟨_, _, _, by row_cond sd, ?_⟩
  | refine ⟨_, _, _, by row_cond sd, by row_cond sd, ?_⟩
  | refine ⟨_, _, _, by row_cond sd, by row_cond sd, by row_cond sd, ?_⟩
  | refine ⟨_, _, _, _, by row_cond sd, ?_⟩
  | refine ⟨_, _, _, _, by row_cond sd, by row_cond sd, by row_cond sd, ?_⟩
  | refine ⟨_, _, _, _, by row_cond sd, by row_cond sd, by row_cond sd, by row_cond sd, ?_⟩
  | refine iteT ?_
  | refine iteF ?_)
local macro_rules | `(tactic| row_cond go) => `(tactic| repeat (row_cond st))
end Mz
end
section
set_option Elab.async false
set_option linter.all false
set_option maxRecDepth 100000
set_option maxHeartbeats 1000000
namespace Mz
open PySem L2 TL
local macro_rules | `(tactic| row_cond sd) => `(tactic| first | with_reducible assumption | with_reducible exact rfl | exact rfl | exact True.intro | assumption | decide)
local macro_rules | `(tactic| row_cond st) => `(tactic| first
  | refine And.intro (by row_cond sd) ?_
  | refine ⟨_, by row_cond sd, ?_⟩
  | refine ⟨_, _, by row_cond sd, ?_⟩
  | refine ⟨_, _, by row_cond sd, by row_cond sd, ?_⟩
  | refine ⟨_, _, _, by row_cond sd, ?_⟩
  | refine ⟨_, _, _, by row_cond sd, by row_cond sd, ?_⟩
  | refine ⟨_, _, _, by row_cond sd, by row_cond sd, by row_cond sd, ?_⟩
  | refine ⟨_, _, _, _, by row_cond sd, ?_⟩
  | refine ⟨_, _, _, _, by row_cond sd, by row_cond sd, by row_cond sd, ?_⟩
  | refine ⟨_, _, _, _, by row_cond sd, by row_cond sd, by row_cond sd, by row_cond sd, ?_⟩
  | refine iteT ?_
  | refine iteF ?_)
local macro_rules | `(tactic| row_cond go) => `(tactic| repeat (row_cond st))
section
variable {A : Ad} {K : PySem.W.Frag} {E : XS} {Q : DK} {L S : MO} {r : KD} {μ : MS}
theorem CalAt.lt {g : MS} {c : Cal} {m d s : Nat} (h : CalAt g c m d s) : m < g.length ∧ d < g.length ∧ s < g.length :=
  ⟨(List.getElem?_eq_some_iff.mp h.m).1, (List.getElem?_eq_some_iff.mp h.d).1, (List.getElem?_eq_some_iff.mp h.s).1⟩
theorem OldAt.mono {g : MS} {b b' : Nat} (hb : b ≤ b') : ∀ {cs : List Cal} {items : List Dv}, OldAt g b cs items → OldAt g b' cs items
  | _, _, .nil => .nil
  | _, _, .cons ⟨m, d, s, h1, h2, h3, h4, h5⟩ t => .cons ⟨m, d, s, by omega, by omega, by omega, h4, h5⟩ (OldAt.mono hb t)
theorem OldAt.to {g : MS} {b : Nat} : ∀ {cs : List Cal} {items : List Dv}, OldAt g b cs items → OldAt g g.length cs items
  | _, _, .nil => .nil
  | _, _, .cons ⟨m, d, s, h1, h2, h3, h4, h5⟩ t => .cons ⟨m, d, s, h5.lt.1, h5.lt.2.1, h5.lt.2.2, h4, h5⟩ (OldAt.to t)
end
end Mz
end
section
set_option Elab.async false
set_option linter.all false
set_option maxRecDepth 100000
set_option maxHeartbeats 1000000
namespace Mz
open PySem L2 TL
local macro_rules | `(tactic| row_cond sd) => `(tactic| first | with_reducible assumption | with_reducible exact rfl | exact rfl | exact True.intro | assumption | decide)
local macro_rules | `(tactic| row_cond st) => `(tactic| first
  | refine And.intro (by row_cond sd) ?_
  | refine ⟨_, by row_cond sd, ?_⟩
  | refine ⟨_, _, by row_cond sd, ?_⟩
  | refine ⟨_, _, by row_cond sd, by row_cond sd, ?_⟩
  | refine ⟨_, _, _, by row_cond sd, ?_⟩
  | refine ⟨_, _, _, by row_cond sd, by row_cond sd, ?_⟩
  | refine ⟨_, _, _, by row_cond sd, by row_cond sd, by row_cond sd, ?_⟩
  | refine ⟨_, _, _, _, by row_cond sd, ?_⟩
  | refine ⟨_, _, _, _, by row_cond sd, by row_cond sd, by row_cond sd, ?_⟩
  | refine ⟨_, _, _, _, by row_cond sd, by row_cond sd, by row_cond sd, by row_cond sd, ?_⟩
  | refine iteT ?_
  | refine iteF ?_)
local macro_rules | `(tactic| row_cond go) => `(tactic| repeat (row_cond st))
end Mz
end
section
set_option Elab.async false
set_option linter.all false
set_option maxRecDepth 100000
set_option maxHeartbeats 1000000
namespace Mz
open PySem L2 TL
local macro_rules | `(tactic| row_cond sd) => `(tactic| first | with_reducible assumption | with_reducible exact rfl | exact rfl | exact True.intro | assumption | decide)
local macro_rules | `(tactic| row_cond st) => `(tactic| first
  | refine And.intro (by row_cond sd) ?_
  | refine ⟨_, by row_cond sd, ?_⟩
  | refine ⟨_, _, by row_cond sd, ?_⟩
  | refine ⟨_, _, by row_cond sd, by row_cond sd, ?_⟩
  | refine ⟨_, _, _, by row_cond sd, ?_⟩
  | refine ⟨_, _, _, by row_cond sd, by row_cond sd, ?_⟩
  | refine ⟨_, _, _, by row_cond sd, by row_cond sd, by row_cond sd, ?_⟩
  | refine ⟨_, _, _, _, by row_cond sd, ?_⟩
  | refine ⟨_, _, _, _, by row_cond sd, by row_cond sd, by row_cond sd, ?_⟩
  | refine ⟨_, _, _, _, by row_cond sd, by row_cond sd, by row_cond sd, by row_cond sd, ?_⟩
  | refine iteT ?_
  | refine iteF ?_)
local macro_rules | `(tactic| row_cond go) => `(tactic| repeat (row_cond st))
section
variable {A : Ad} {K : PySem.W.Frag} {E : XS} {Q : DK} {L S : MO} {r : KD} {μ : MS}
structure RdOk (n : Nat) (r : KD) : Prop where
  f : r.fs.length ≤ n
  c : r.cs.length ≤ n
  w : ∀ c ∈ r.cs, CalW c ∧ c.deeds.length ≤ n ∧ c.same.length ≤ n
theorem onLast_mem {f : Cal → Cal} {x : Cal} : ∀ {cs : List Cal}, x ∈ onLast f cs → x ∈ cs ∨ ∃ c ∈ cs, x = f c
  | [], h => by cases h
  | [c], h => by
    have : x = f c := by simpa [onLast] using h
    exact .inr ⟨c, by simp, this⟩
  | c :: z :: r, h => by
    rcases List.mem_cons.mp (show x ∈ c :: onLast f (z :: r) from h) with rfl | h
    · exact .inl (by simp)
    · rcases onLast_mem h with h | ⟨y, hy, e⟩
      · exact .inl (List.mem_cons_of_mem _ h)
      · exact .inr ⟨y, List.mem_cons_of_mem _ hy, e⟩
theorem onLast_len {f : Cal → Cal} : ∀ cs : List Cal, (onLast f cs).length = cs.length
  | [] => rfl
  | [c] => rfl
  | c :: z :: r => by
    show (onLast f (z :: r)).length + 1 = _
    rw [onLast_len (z :: r)]; rfl
theorem RdOk.step {n : Nat} (k : RdOk n r) {l : Ln} (ok : LnOk l) : RdOk (n + 1) (rdLn r l) := by
  have up : ∀ c ∈ r.cs, CalW c ∧ c.deeds.length ≤ n + 1 ∧ c.same.length ≤ n + 1 := fun c hc => by
    obtain ⟨h1, h2, h3⟩ := k.w c hc
    exact ⟨h1, by omega, by omega⟩
  have kf := k.f
  have kc := k.c
  cases l with
  | modes m => exact ⟨by show r.fs.length ≤ _; omega, by show r.cs.length ≤ _; omega, up⟩
  | fld f => exact ⟨by show (r.fs ++ [f]).length ≤ _; simp; omega, by show r.cs.length ≤ _; omega, up⟩
  | cal nm hand ms =>
    refine ⟨by show r.fs.length ≤ _; omega, by show (r.cs ++ [_]).length ≤ _; simp; omega, fun c hc => ?_⟩
    rcases List.mem_append.mp (show c ∈ r.cs ++ [_] from hc) with hc | hc
    · exact up c hc
    · obtain rfl : c = _ := by simpa using hc
      exact ⟨⟨ok.1, ok.2.1, by simp, by simp⟩, by simp, by simp⟩
  | deed p =>
    refine ⟨by show r.fs.length ≤ _; omega, by show (onLast _ r.cs).length ≤ _; rw [onLast_len]; omega, fun c hc => ?_⟩
    rcases onLast_mem (show c ∈ onLast _ r.cs from hc) with hc | ⟨y, hy, rfl⟩
    · exact up c hc
    · obtain ⟨h1, h2, h3⟩ := k.w y hy
      refine ⟨⟨h1.nm, h1.hd, fun q hq => ?_, h1.sm⟩, by simp; omega, by show y.same.length ≤ _; omega⟩
      rcases List.mem_append.mp hq with hq | hq
      · exact h1.dd q hq
      · obtain rfl : q = p := by simpa using hq
        exact ok
  | same p =>
    refine ⟨by show r.fs.length ≤ _; omega, by show (onLast _ r.cs).length ≤ _; rw [onLast_len]; omega, fun c hc => ?_⟩
    rcases onLast_mem (show c ∈ onLast _ r.cs from hc) with hc | ⟨y, hy, rfl⟩
    · exact up c hc
    · obtain ⟨h1, h2, h3⟩ := k.w y hy
      refine ⟨⟨h1.nm, h1.hd, h1.dd, fun q hq => ?_⟩, by show y.deeds.length ≤ _; omega, by simp; omega⟩
      rcases List.mem_append.mp hq with hq | hq
      · exact h1.sm q hq
      · obtain rfl : q = p := by simpa using hq
        exact ok
end
end Mz
end
section
set_option Elab.async false
set_option linter.all false
set_option maxRecDepth 100000
set_option maxHeartbeats 1000000
namespace Mz
open PySem L2 TL
local macro_rules | `(tactic| row_cond sd) => `(tactic| first | with_reducible assumption | with_reducible exact rfl | exact rfl | exact True.intro | assumption | decide)
local macro_rules | `(tactic| row_cond st) => `(tactic| first
  | refine And.intro (by row_cond sd) ?_
  | refine ⟨_, by row_cond sd, ?_⟩
  | refine ⟨_, _, by row_cond sd, ?_⟩
  | refine ⟨_, _, by row_cond sd, by row_cond sd, ?_⟩
  | refine ⟨_, _, _, by row_cond sd, ?_⟩
  | refine ⟨_, _, _, by row_cond sd, by row_cond sd, ?_⟩
  | refine ⟨_, _, _, by row_cond sd, by row_cond sd, by row_cond sd, ?_⟩
  | refine ⟨_, _, _, _, by row_cond sd, ?_⟩
  | refine ⟨_, _, _, _, by row_cond sd, by row_cond sd, by row_cond sd, ?_⟩
  | refine ⟨_, _, _, _, by row_cond sd, by row_cond sd, by row_cond sd, by row_cond sd, ?_⟩
  | refine iteT ?_
  | refine iteF ?_)
local macro_rules | `(tactic| row_cond go) => `(tactic| repeat (row_cond st))
end Mz
end
section
set_option Elab.async false
set_option linter.all false
set_option maxRecDepth 100000
set_option maxHeartbeats 1000000
namespace Mz
open PySem L2 TL
local macro_rules | `(tactic| row_cond sd) => `(tactic| first | with_reducible assumption | with_reducible exact rfl | exact rfl | exact True.intro | assumption | decide)
local macro_rules | `(tactic| row_cond st) => `(tactic| first
  | refine And.intro (by row_cond sd) ?_
  | refine ⟨_, by row_cond sd, ?_⟩
  | refine ⟨_, _, by row_cond sd, ?_⟩
  | refine ⟨_, _, by row_cond sd, by row_cond sd, ?_⟩
  | refine ⟨_, _, _, by row_cond sd, ?_⟩
  | refine ⟨_, _, _, by row_cond sd, by row_cond sd, ?_⟩
  | refine ⟨_, _, _, by row_cond sd, by row_cond sd, by row_cond sd, ?_⟩
  | refine ⟨_, _, _, _, by row_cond sd, ?_⟩
  | refine ⟨_, _, _, _, by row_cond sd, by row_cond sd, by row_cond sd, ?_⟩
  | refine ⟨_, _, _, _, by row_cond sd, by row_cond sd, by row_cond sd, by row_cond sd, ?_⟩
  | refine iteT ?_
  | refine iteF ?_)
local macro_rules | `(tactic| row_cond go) => `(tactic| repeat (row_cond st))
section
variable {A : Ad} {K : PySem.W.Frag} {E : Ex → Prop} {Q : Da → Prop}
def Fld.py (f : Fld) : PyData := .tuple [.str f.nm, .str f.sort, .bool f.need]
/-! ### signs of the text -/
def Sg (s : Str) : Prop := ∀ k ∈ tl s, k < 1114112
theorem sh_sg {n : Nat} {s : Str} (h : Sg s) : Sh n (.str s) := by
  refine ⟨?_, by simp [PyData.depth]⟩
  show PyData.canLay0 (.str s) = true
  simp only [PyData.canLay0, PyData.strOk]
  rw [← Array.all_toList, List.all_eq_true]
  intro x hx
  simp only [decide_eq_true_eq]
  exact h x hx
theorem kitS2 {K : PySem.W.Frag} : PySem.W.kitAny K (.type "str") [.type "list", .type "tuple"] = some false := isT_data (K := K) (d := .str "")
theorem kitS4 {K : PySem.W.Frag} : PySem.W.kitAny K (.type "str") [.type "bool", .type "int", .type "list", .type "tuple"] = some false := by
  refine kitAny_cons (kit_ty (kit_all .str .bool)) (fun e => ?_) (fun e => by cases e)
  refine kitAny_cons (kit_ty (kit_all .str .int)) (fun e => ?_) (fun e => by cases e)
  exact kitS2
end
end Mz
end
section
set_option Elab.async false
set_option linter.all false
set_option maxRecDepth 100000
set_option maxHeartbeats 1000000
namespace Mz
open PySem L2 TL
local macro_rules | `(tactic| row_cond sd) => `(tactic| first | with_reducible assumption | with_reducible exact rfl | exact rfl | exact True.intro | assumption | decide)
local macro_rules | `(tactic| row_cond st) => `(tactic| first
  | refine And.intro (by row_cond sd) ?_
  | refine ⟨_, by row_cond sd, ?_⟩
  | refine ⟨_, _, by row_cond sd, ?_⟩
  | refine ⟨_, _, by row_cond sd, by row_cond sd, ?_⟩
  | refine ⟨_, _, _, by row_cond sd, ?_⟩
  | refine ⟨_, _, _, by row_cond sd, by row_cond sd, ?_⟩
  | refine ⟨_, _, _, by row_cond sd, by row_cond sd, by row_cond sd, ?_⟩
  | refine ⟨_, _, _, _, by row_cond sd, ?_⟩
  | refine ⟨_, _, _, _, by row_cond sd, by row_cond sd, by row_cond sd, ?_⟩
  | refine ⟨_, _, _, _, by row_cond sd, by row_cond sd, by row_cond sd, by row_cond sd, ?_⟩
  | refine iteT ?_
  | refine iteF ?_)
local macro_rules | `(tactic| row_cond go) => `(tactic| repeat (row_cond st))
local macro_rules | `(tactic| row_cond ln) => `(tactic| (refine Nat.le_trans (m := 1000) ?_ line_k; (try simp only [app_len, lt_emp, lt_modes, lt_field, lt_do, lt_same, lt_sp, lt_nl, lt_need, lt_none]); omega))
end Mz
end
section
set_option Elab.async false
set_option linter.all false
set_option maxRecDepth 100000
set_option maxHeartbeats 1000000
namespace Mz
open PySem L2 TL
local macro_rules | `(tactic| row_cond sd) => `(tactic| first | with_reducible assumption | with_reducible exact rfl | exact rfl | exact True.intro | assumption | decide)
local macro_rules | `(tactic| row_cond st) => `(tactic| first
  | refine And.intro (by row_cond sd) ?_
  | refine ⟨_, by row_cond sd, ?_⟩
  | refine ⟨_, _, by row_cond sd, ?_⟩
  | refine ⟨_, _, by row_cond sd, by row_cond sd, ?_⟩
  | refine ⟨_, _, _, by row_cond sd, ?_⟩
  | refine ⟨_, _, _, by row_cond sd, by row_cond sd, ?_⟩
  | refine ⟨_, _, _, by row_cond sd, by row_cond sd, by row_cond sd, ?_⟩
  | refine ⟨_, _, _, _, by row_cond sd, ?_⟩
  | refine ⟨_, _, _, _, by row_cond sd, by row_cond sd, by row_cond sd, ?_⟩
  | refine ⟨_, _, _, _, by row_cond sd, by row_cond sd, by row_cond sd, by row_cond sd, ?_⟩
  | refine iteT ?_
  | refine iteF ?_)
local macro_rules | `(tactic| row_cond go) => `(tactic| repeat (row_cond st))
/-! ### rows of programs, plain -/
inductive Row where
  | make
  | call (nm : Str) (k : Nat) (w : Option Str)
def calOf (kd : KD) (nm : Str) : Option Cal := kd.cs.find? fun c => decide (c.nm = nm)
abbrev takish : List Str := ["set", "add", "strike"]
def Cal.tk (c : Cal) : Bool := c.deeds.any fun p => decide (p.1 ∈ takish)
def Row.isLast (kd : KD) : Row → Bool
  | .make => false
  | .call nm _ _ => match calOf kd nm with
    | some c => decide (c.hand = "last")
    | none => false
/-- a row that may stand behind rs -/
def RowOk (kd : KD) (rs : List Row) : Row → Prop
  | .make => True
  | .call nm k w => ∃ c r, calOf kd nm = some c ∧ rs[k]? = some r ∧ r.isLast kd = false ∧ c.tk = w.isSome ∧ ∀ x, w = some x → (Da.str x).isWord = true
def Prog (kd : KD) (rs : List Row) : Prop := ∀ i r, rs[i]? = some r → RowOk kd (rs.take i) r
end Mz
end
section
set_option Elab.async false
set_option linter.all false
set_option maxRecDepth 100000
set_option maxHeartbeats 1000000
namespace Mz
open PySem L2 TL
local macro_rules | `(tactic| row_cond sd) => `(tactic| first | with_reducible assumption | with_reducible exact rfl | exact rfl | exact True.intro | assumption | decide)
local macro_rules | `(tactic| row_cond st) => `(tactic| first
  | refine And.intro (by row_cond sd) ?_
  | refine ⟨_, by row_cond sd, ?_⟩
  | refine ⟨_, _, by row_cond sd, ?_⟩
  | refine ⟨_, _, by row_cond sd, by row_cond sd, ?_⟩
  | refine ⟨_, _, _, by row_cond sd, ?_⟩
  | refine ⟨_, _, _, by row_cond sd, by row_cond sd, ?_⟩
  | refine ⟨_, _, _, by row_cond sd, by row_cond sd, by row_cond sd, ?_⟩
  | refine ⟨_, _, _, _, by row_cond sd, ?_⟩
  | refine ⟨_, _, _, _, by row_cond sd, by row_cond sd, by row_cond sd, ?_⟩
  | refine ⟨_, _, _, _, by row_cond sd, by row_cond sd, by row_cond sd, by row_cond sd, ?_⟩
  | refine iteT ?_
  | refine iteF ?_)
local macro_rules | `(tactic| row_cond go) => `(tactic| repeat (row_cond st))
section
variable {A : Ad} {K : PySem.W.Frag} {E : XS} {Q : DK} {μ : MS}
theorem Prog.take {kd : KD} {rs : List Row} (h : Prog kd rs) (n : Nat) : Prog kd (rs.take n) := by
  intro i r hi
  have hi2 : i < n ∧ rs[i]? = some r := by
    rw [List.getElem?_take] at hi
    split at hi
    · exact ⟨by assumption, hi⟩
    · cases hi
  have := h i r hi2.2
  rw [List.take_take, Nat.min_eq_left (by omega)]
  exact this
end
end Mz
end
section
set_option Elab.async false
set_option linter.all false
set_option maxRecDepth 100000
set_option maxHeartbeats 1000000
namespace Mz
open PySem L2 TL
local macro_rules | `(tactic| row_cond sd) => `(tactic| first | with_reducible assumption | with_reducible exact rfl | exact rfl | exact True.intro | assumption | decide)
local macro_rules | `(tactic| row_cond st) => `(tactic| first
  | refine And.intro (by row_cond sd) ?_
  | refine ⟨_, by row_cond sd, ?_⟩
  | refine ⟨_, _, by row_cond sd, ?_⟩
  | refine ⟨_, _, by row_cond sd, by row_cond sd, ?_⟩
  | refine ⟨_, _, _, by row_cond sd, ?_⟩
  | refine ⟨_, _, _, by row_cond sd, by row_cond sd, ?_⟩
  | refine ⟨_, _, _, by row_cond sd, by row_cond sd, by row_cond sd, ?_⟩
  | refine ⟨_, _, _, _, by row_cond sd, ?_⟩
  | refine ⟨_, _, _, _, by row_cond sd, by row_cond sd, by row_cond sd, ?_⟩
  | refine ⟨_, _, _, _, by row_cond sd, by row_cond sd, by row_cond sd, by row_cond sd, ?_⟩
  | refine iteT ?_
  | refine iteF ?_)
local macro_rules | `(tactic| row_cond go) => `(tactic| repeat (row_cond st))
/-! ### stores, plain -/
inductive Slot where
  | no
  | wd (w : Str)
  | ls (n : Nat)
def Slot.dv : Slot → Dv
  | .no => .d .non
  | .wd w => .d (.str w)
  | .ls n => .d (.int n)
structure Mkr where
  mode : Int
  slots : List Slot
structure Sto where
  ls : List (List Str)
  mks : List Mkr
abbrev slD (ss : List Slot) : MO := .lst (ss.map Slot.dv)
/-- what tells the objects of a store apart -/
structure Shp (so_ : MO) (mf : Nat → Int → Nat → MO) : Prop where
  o1 : ∀ l, so_ ≠ .lst l
  o2 : ∀ k md s, mf k md s ≠ so_
  m1 : ∀ k md s ws, mf k md s ≠ .lst (strsD ws)
  m2 : ∀ k md s (la : List Nat), mf k md s ≠ .lst (la.map .ob)
  m3 : ∀ k md s ss, mf k md s ≠ slD ss
/-- a store and its makers among the objects; fx: other objects that stay as they are -/
structure HpAt (so_ : MO) (mf : Nat → Int → Nat → MO) (b : Nat) (fx : List (Nat × MO)) (so lo : Nat) (la : List Nat) (ms : List (Nat × Nat)) (S : Sto) (μ : MS) : Prop where
  sh : Shp so_ mf
  st : μ[so]? = some so_
  ll : μ[lo]? = some (.lst (la.map .ob))
  ln : la.length = S.ls.length
  l : ∀ (k i : Nat) (ws : List Str), la[k]? = some i → S.ls[k]? = some ws → μ[i]? = some (.lst (strsD ws))
  mn : ms.length = S.mks.length
  m : ∀ (k : Nat) (p : Nat × Nat) (mk : Mkr), ms[k]? = some p → S.mks[k]? = some mk → μ[p.1]? = some (mf k mk.mode p.2) ∧ μ[p.2]? = some (slD mk.slots)
  nl : ∀ j k i : Nat, la[j]? = some i → la[k]? = some i → j = k
  nm : ∀ (j k : Nat) (p q : Nat × Nat), ms[j]? = some p → ms[k]? = some q → p.1 = q.1 → j = k
  ns : ∀ (j k : Nat) (p q : Nat × Nat), ms[j]? = some p → ms[k]? = some q → p.2 = q.2 → j = k
  d1 : ∀ i ∈ la, ∀ p ∈ ms, i ≠ p.2
  d2 : ∀ i ∈ la, i ≠ lo
  d3 : ∀ p ∈ ms, p.2 ≠ lo
  f : ∀ p ∈ fx, μ[p.1]? = some p.2 ∧ p.1 ∉ la ∧ (∀ q ∈ ms, p.1 ≠ q.1 ∧ p.1 ≠ q.2) ∧ p.1 ≠ lo
  bl : b ≤ lo ∧ (∀ i ∈ la, b ≤ i) ∧ ∀ p ∈ ms, b ≤ p.1 ∧ b ≤ p.2
theorem lt_of_get {α : Type} {l : List α} {i : Nat} {x : α} (h : l[i]? = some x) : i < l.length := (List.getElem?_eq_some_iff.mp h).1
theorem get_app {α : Type} {l r : List α} {i : Nat} {x : α} (h : l[i]? = some x) : (l ++ r)[i]? = some x := by rw [List.getElem?_append_left (lt_of_get h)]; exact h
theorem mem_get {α : Type} {l : List α} {i : Nat} {x : α} (h : l[i]? = some x) : x ∈ l := List.mem_of_getElem? h
section
variable {so_ : MO} {mf : Nat → Int → Nat → MO} {b : Nat} {fx : List (Nat × MO)} {so lo : Nat} {la : List Nat} {ms : List (Nat × Nat)} {S : Sto} {μ : MS}
theorem HpAt.lget (h : HpAt so_ mf b fx so lo la ms S μ) {k i : Nat} (hi : la[k]? = some i) : ∃ ws, S.ls[k]? = some ws ∧ μ[i]? = some (.lst (strsD ws)) := by
  have hk : k < S.ls.length := by rw [← h.ln]; exact lt_of_get hi
  exact ⟨_, List.getElem?_eq_getElem hk, h.l k i _ hi (List.getElem?_eq_getElem hk)⟩
theorem HpAt.mget (h : HpAt so_ mf b fx so lo la ms S μ) {k : Nat} {p : Nat × Nat} (hi : ms[k]? = some p) : ∃ mk, S.mks[k]? = some mk ∧ μ[p.1]? = some (mf k mk.mode p.2) ∧ μ[p.2]? = some (slD mk.slots) := by
  have hk : k < S.mks.length := by rw [← h.mn]; exact lt_of_get hi
  exact ⟨_, List.getElem?_eq_getElem hk, h.m k p _ hi (List.getElem?_eq_getElem hk)⟩
theorem HpAt.lmem (h : HpAt so_ mf b fx so lo la ms S μ) {i : Nat} (hi : i ∈ la) : ∃ ws, μ[i]? = some (.lst (strsD ws)) := by
  obtain ⟨k, hk⟩ := List.getElem?_of_mem hi
  obtain ⟨ws, _, h2⟩ := h.lget hk
  exact ⟨ws, h2⟩
theorem HpAt.mmem (h : HpAt so_ mf b fx so lo la ms S μ) {p : Nat × Nat} (hp : p ∈ ms) : ∃ (k : Nat) (mk : Mkr), μ[p.1]? = some (mf k mk.mode p.2) ∧ μ[p.2]? = some (slD mk.slots) := by
  obtain ⟨k, hk⟩ := List.getElem?_of_mem hp
  obtain ⟨mk, _, h2⟩ := h.mget hk
  exact ⟨k, mk, h2⟩
/-- new objects behind -/
theorem HpAt.app (h : HpAt so_ mf b fx so lo la ms S μ) (r : MS) : HpAt so_ mf b fx so lo la ms S (μ ++ r) :=
  { h with st := get_app h.st, ll := get_app h.ll, l := fun k i ws h1 h2 => get_app (h.l k i ws h1 h2), m := fun k p mk h1 h2 => ⟨get_app (h.m k p mk h1 h2).1, get_app (h.m k p mk h1 h2).2⟩, f := fun p hp => ⟨get_app (h.f p hp).1, (h.f p hp).2⟩ }
theorem len_out (h : HpAt so_ mf b fx so lo la ms S μ) : μ.length ∉ la ∧ (∀ p ∈ ms, μ.length ≠ p.1 ∧ μ.length ≠ p.2) ∧ μ.length ≠ lo ∧ ∀ p ∈ fx, p.1 ≠ μ.length := by
  refine ⟨fun hm => ?_, fun p hp => ?_, ?_, fun p hp => ?_⟩
  · obtain ⟨ws, e⟩ := h.lmem hm
    exact absurd (lt_of_get e) (by omega)
  · obtain ⟨_, mk, e1, e2⟩ := h.mmem hp
    have := lt_of_get e1
    have := lt_of_get e2
    exact ⟨by omega, by omega⟩
  · have := lt_of_get h.ll
    omega
  · have := lt_of_get (h.f p hp).1
    omega
/-- a new maker, its slots in a list of nobody -/
theorem HpAt.newM (h : HpAt so_ mf b fx so lo la ms S μ) (hb : b ≤ μ.length) {s : Nat} {ss : List Slot} (md : Int) (hs : μ[s]? = some (slD ss)) (n1 : s ∉ la) (n2 : ∀ p ∈ ms, s ≠ p.2) (n3 : s ≠ lo) (n4 : ∀ p ∈ fx, p.1 ≠ s) (n5 : b ≤ s) : HpAt so_ mf b fx so lo la (ms ++ [(μ.length, s)]) ⟨S.ls, S.mks ++ [⟨md, ss⟩]⟩ (μ ++ [mf ms.length md s]) := by
  obtain ⟨o1, o2, o3, o4⟩ := len_out h
  have hsl := lt_of_get hs
  have key : ∀ (j : Nat) (p : Nat × Nat), (ms ++ [(μ.length, s)])[j]? = some p → (ms[j]? = some p ∧ j < ms.length ∧ p ∈ ms) ∨ (j = ms.length ∧ p = (μ.length, s)) := fun j p e => by
    rcases Nat.lt_trichotomy j ms.length with hk | hk | hk
    · rw [List.getElem?_append_left hk] at e
      exact .inl ⟨e, hk, mem_get e⟩
    · subst hk
      exact .inr ⟨rfl, by simpa using e.symm⟩
    · rw [List.getElem?_eq_none (by simp; omega)] at e
      cases e
  have hmem : ∀ p, p ∈ ms ++ [(μ.length, s)] → p ∈ ms ∨ p = (μ.length, s) := fun p hp => by
    rcases List.mem_append.mp hp with hp | hp
    · exact .inl hp
    · exact .inr (by simpa using hp)
  refine { sh := h.sh, st := get_app h.st, ll := get_app h.ll, ln := h.ln, l := fun k i w e1 e2 => get_app (h.l k i w e1 e2), mn := by simp [h.mn], m := fun k p mk e1 e2 => ?_, nl := h.nl, nm := fun j k p q e1 e2 e3 => ?_, ns := fun j k p q e1 e2 e3 => ?_, d1 := fun i hi p hp => ?_, d2 := h.d2, d3 := fun p hp => ?_, f := fun p hp => ⟨get_app (h.f p hp).1, (h.f p hp).2.1, fun q hq => ?_, (h.f p hp).2.2.2⟩, bl := ⟨h.bl.1, h.bl.2.1, fun p hp => ?_⟩ }
  · simp only at e2
    rcases key k p e1 with ⟨a1, a2, a3⟩ | ⟨rfl, rfl⟩
    · rw [List.getElem?_append_left (by rw [← h.mn]; exact a2)] at e2
      exact ⟨get_app (h.m k p mk a1 e2).1, get_app (h.m k p mk a1 e2).2⟩
    · rw [h.mn] at e2
      obtain rfl : (⟨md, ss⟩ : Mkr) = mk := by simpa using e2
      exact ⟨by simp, get_app hs⟩
  · rcases key j p e1 with ⟨a1, a2, a3⟩ | ⟨rfl, rfl⟩ <;> rcases key k q e2 with ⟨b1, b2, b3⟩ | ⟨rfl, rfl⟩
    · exact h.nm j k p q a1 b1 e3
    · exact absurd e3.symm (o2 p a3).1
    · exact absurd e3 (o2 q b3).1
    · rfl
  · rcases key j p e1 with ⟨a1, a2, a3⟩ | ⟨rfl, rfl⟩ <;> rcases key k q e2 with ⟨b1, b2, b3⟩ | ⟨rfl, rfl⟩
    · exact h.ns j k p q a1 b1 e3
    · exact absurd e3.symm (n2 p a3)
    · exact absurd e3 (n2 q b3)
    · rfl
  · rcases hmem p hp with hp | rfl
    · exact h.d1 i hi p hp
    · exact fun e => n1 (by have e' : i = s := e; rw [← e']; exact hi)
  · rcases hmem p hp with hp | rfl
    · exact h.d3 p hp
    · exact n3
  · rcases hmem q hq with hq | rfl
    · exact (h.f p hp).2.2.1 q hq
    · exact ⟨o4 p hp, n4 p hp⟩
  · rcases hmem p hp with hp | rfl
    · exact h.bl.2.2 p hp
    · exact ⟨hb, n5⟩
/-- fewer objects that are looked at -/
theorem HpAt.sub (h : HpAt so_ mf b fx so lo la ms S μ) {fx' : List (Nat × MO)} (hs : ∀ p ∈ fx', p ∈ fx) : HpAt so_ mf b fx' so lo la ms S μ := { h with f := fun p hp => h.f p (hs p hp) }
end
end Mz
end
section
set_option Elab.async false
set_option linter.all false
set_option maxRecDepth 100000
set_option maxHeartbeats 1000000
namespace Mz
open PySem L2 TL
local macro_rules | `(tactic| row_cond sd) => `(tactic| first | with_reducible assumption | with_reducible exact rfl | exact rfl | exact True.intro | assumption | decide)
local macro_rules | `(tactic| row_cond st) => `(tactic| first
  | refine And.intro (by row_cond sd) ?_
  | refine ⟨_, by row_cond sd, ?_⟩
  | refine ⟨_, _, by row_cond sd, ?_⟩
  | refine ⟨_, _, by row_cond sd, by row_cond sd, ?_⟩
  | refine ⟨_, _, _, by row_cond sd, ?_⟩
  | refine ⟨_, _, _, by row_cond sd, by row_cond sd, ?_⟩
  | refine ⟨_, _, _, by row_cond sd, by row_cond sd, by row_cond sd, ?_⟩
  | refine ⟨_, _, _, _, by row_cond sd, ?_⟩
  | refine ⟨_, _, _, _, by row_cond sd, by row_cond sd, by row_cond sd, ?_⟩
  | refine ⟨_, _, _, _, by row_cond sd, by row_cond sd, by row_cond sd, by row_cond sd, ?_⟩
  | refine iteT ?_
  | refine iteF ?_)
local macro_rules | `(tactic| row_cond go) => `(tactic| repeat (row_cond st))
section
variable {A : Ad} {K : PySem.W.Frag} {kd : KD} {b : Nat} {fx : List (Nat × MO)} {so lo : Nat} {la : List Nat} {ms : List (Nat × Nat)} {S : Sto} {μ : MS} {E : XS} {Q : DK}
theorem big {n : Nat} (h : n < 100000) : n < sizeLine := Nat.lt_of_lt_of_le h (by decide)
end
end Mz
end
section
set_option Elab.async false
set_option linter.all false
set_option maxRecDepth 100000
set_option maxHeartbeats 1000000
namespace Mz
open PySem L2 TL
local macro_rules | `(tactic| row_cond sd) => `(tactic| first | with_reducible assumption | with_reducible exact rfl | exact rfl | exact True.intro | assumption | decide)
local macro_rules | `(tactic| row_cond st) => `(tactic| first
  | refine And.intro (by row_cond sd) ?_
  | refine ⟨_, by row_cond sd, ?_⟩
  | refine ⟨_, _, by row_cond sd, ?_⟩
  | refine ⟨_, _, by row_cond sd, by row_cond sd, ?_⟩
  | refine ⟨_, _, _, by row_cond sd, ?_⟩
  | refine ⟨_, _, _, by row_cond sd, by row_cond sd, ?_⟩
  | refine ⟨_, _, _, by row_cond sd, by row_cond sd, by row_cond sd, ?_⟩
  | refine ⟨_, _, _, _, by row_cond sd, ?_⟩
  | refine ⟨_, _, _, _, by row_cond sd, by row_cond sd, by row_cond sd, ?_⟩
  | refine ⟨_, _, _, _, by row_cond sd, by row_cond sd, by row_cond sd, by row_cond sd, ?_⟩
  | refine iteT ?_
  | refine iteF ?_)
local macro_rules | `(tactic| row_cond go) => `(tactic| repeat (row_cond st))
theorem lsD_appy {μ r : MS} {d : Dv} {xs : List Dv} (h : lsV μ d = some xs) : lsV (μ ++ r) d = some xs := by
  cases d with
  | d x => cases x <;> exact h
  | tp ys => exact h
  | ob n =>
    simp only [lsV] at h ⊢
    cases q : μ[n]? with
    | none => rw [q] at h; cases h
    | some o => rw [get_app q]; rw [q] at h; exact h
theorem lsD_sqy {μ : MS} {d : Dv} {xs : List Dv} (h : lsV μ d = some xs) : sqV μ d = some xs := by
  cases d with
  | d x => cases x <;> first | exact h | cases h
  | tp ys => cases h
  | ob n => exact h
theorem len_sqy {μ : MS} {d : Dv} {xs : List Dv} (h : sqV μ d = some xs) : lenD μ d = some xs.length := by
  cases d with
  | d x => cases x <;> first | (cases h; rfl) | cases h
  | tp ys => cases h; rfl
  | ob n => exact len_ob h
theorem ok_sqy {μ : MS} {d : Dv} {xs : List Dv} (h : sqV μ d = some xs) : okS d := by
  cases d with
  | d x => cases x <;> first | trivial | cases h
  | tp ys => trivial
  | ob n => trivial
theorem ix_sqy {μ : MS} {d : Dv} {ys : List Dv} {j : Nat} {i : Int} {y : Dv} (h : sqV μ d = some ys) (hi : i = (j : Nat)) (hy : ys[j]? = some y) : ixD μ d (.d (.int i)) = some y := by
  subst hi
  cases d with
  | d x => cases x <;> first | cases h; exact atI_nat hy | cases h
  | tp zs => cases h; exact atI_nat hy
  | ob n => exact ix_ob h rfl hy
theorem kitN2y {K : PySem.W.Frag} : PySem.W.kitAny K (.type "NoneType") [.type "list", .type "tuple"] = some false := isT_data (K := K) (d := .non)
theorem kitN4y {K : PySem.W.Frag} : PySem.W.kitAny K (.type "NoneType") [.type "bool", .type "int", .type "list", .type "tuple"] = some false := by
  refine kitAny_cons (kit_ty (kit_all .non .bool)) (fun e => ?_) (fun e => by cases e)
  refine kitAny_cons (kit_ty (kit_all .non .int)) (fun e => ?_) (fun e => by cases e)
  exact kitN2y
theorem tp_mky {x y : Dv} : tpV (mkTup [x, y]) = some [x, y] := by cases x <;> cases y <;> rfl
/-! ### the law's own equality, on trees with objects and {} -/
theorem kitD2y {K : PySem.W.Frag} : PySem.W.kitAny K (.type "dict") [.type "list", .type "tuple"] = some false := isT_data (K := K) (d := .dct [])
theorem kitD4y {K : PySem.W.Frag} : PySem.W.kitAny K (.type "dict") [.type "bool", .type "int", .type "list", .type "tuple"] = some false := by
  refine kitAny_cons (kit_ty (kit_all .dct .bool)) (fun e => ?_) (fun e => by cases e)
  refine kitAny_cons (kit_ty (kit_all .dct .int)) (fun e => ?_) (fun e => by cases e)
  exact kitD2y
def leafOkY : Da → Prop
  | .non => True
  | .bl _ => True
  | .int _ => True
  | .str s => Sg s
  | .dct [] => True
  | .dct [(_, .int _)] => True
  | _ => False
def TrY (μ : MS) : Nat → Dv → Da → Prop
  | 0, _, _ => False
  | n + 1, d, t => (d = .d t ∧ leafOkY t) ∨ (∃ xs ts, t = .lst ts ∧ lsV μ d = some xs ∧ xs.length = ts.length ∧ ts.length < 10000 ∧ ∀ (i : Nat) (x : Dv) (u : Da), xs[i]? = some x → ts[i]? = some u → TrY μ n x u) ∨ (∃ xs ts, t = .tup ts ∧ tpV d = some xs ∧ xs.length = ts.length ∧ ts.length < 10000 ∧ ∀ (i : Nat) (x : Dv) (u : Da), xs[i]? = some x → ts[i]? = some u → TrY μ n x u)
theorem TrY.app {μ : MS} (g : MS) : ∀ {n : Nat} {d : Dv} {t : Da}, TrY μ n d t → TrY (μ ++ g) n d t
  | 0, _, _, h => h
  | n + 1, d, t, h => by
    rcases h with h | ⟨xs, ts, e, h1, h2, h3, h4⟩ | ⟨xs, ts, e, h1, h2, h3, h4⟩
    · exact .inl h
    · exact .inr (.inl ⟨xs, ts, e, lsD_appy h1, h2, h3, fun i x u a b => (h4 i x u a b).app g⟩)
    · exact .inr (.inr ⟨xs, ts, e, h1, h2, h3, fun i x u a b => (h4 i x u a b).app g⟩)
section
variable {A : Ad} {K : PySem.W.Frag}
theorem lc_same_y {n : Nat} {xs ys : List Dv} {ts : List Da} {d1 d2 : Dv} {x2 x3 : Option Dv} {μ : MS} {Q : List Dv → MS → Prop} (hl1 : xs.length = ts.length) (hl2 : ys.length = ts.length) (hl : ts.length < 10000)
    (hs : ∀ (i : Nat) (x y : Dv), xs[i]? = some x → ys[i]? = some y → ∀ (g : MS) (E : XS) (Q : DK), (∀ g', Q (.d (.bl true)) ((μ ++ g) ++ g')) → m_law_same_y A K n [x, y] E (μ ++ g) Q) (h1 : ∀ g, sqV (μ ++ g) d1 = some xs) (h2 : ∀ g, sqV (μ ++ g) d2 = some ys) (h : ∀ g, Q (ts.map fun _ => .d (.bl true)) (μ ++ g)) :
    mLcL (iwZ d1 d2 xs ys).gd (nTup 2 (nCons (nName 2) (nCons (nName 3) nNil))) mYes (mCall (cO (m_law_same_y A K n)) (mCons (mVar 2) (mCons (mVar 3) mNil))) [2, 3] [some d1, some d2, x2, x3] Q (iwZ d1 d2 xs ys).items [] μ := by
  refine lc_by (fun i acc ν => ∃ g, ν = μ ++ g ∧ acc = (ts.take i).map fun _ => .d (.bl true)) ?_ ?_ ⟨[], by simp, by simp⟩
  · rintro i d acc ν N hi ⟨g, rfl, rfl⟩ hN
    have hi' : (zipD xs ys)[i]? = some d := hi
    have hil := lt_of_get hi'
    rw [zipD_len] at hil
    have e1 := List.getElem?_eq_getElem (show i < xs.length by omega)
    have e2 := List.getElem?_eq_getElem (show i < ys.length by omega)
    have e3 := List.getElem?_eq_getElem (show i < ts.length by omega)
    rw [zipD_get e1 e2] at hi'
    obtain rfl := Option.some.inj hi'
    have htp : tpV (mkTup [xs[i], ys[i]]) = some [xs[i], ys[i]] := tp_mky
    row_cond go
    refine hs i _ _ e1 e2 g _ _ fun g' => ?_
    refine ⟨by rw [List.length_map, List.length_take]; exact big (by omega), ⟨by rw [List.append_assoc]; exact h1 _, by rw [List.append_assoc]; exact h2 _⟩, hN _ _ ⟨g ++ g', by rw [List.append_assoc], ?_⟩⟩
    rw [take_snoc e3, List.map_append]; rfl
  · rintro acc ν ⟨g, rfl, rfl⟩
    rw [show (iwZ d1 d2 xs ys).items.length = ts.length by show (zipD _ _).length = _; rw [zipD_len]; omega, List.take_length]
    exact h g
theorem x_same_y : ∀ (n : Nat) {μ : MS} {d1 d2 : Dv} {t : Da}, TrY μ n d1 t → TrY μ n d2 t → ∀ (E : XS) (Q : DK), (∀ g, Q (.d (.bl true)) (μ ++ g)) → m_law_same_y A K n [d1, d2] E μ Q
  | 0, _, _, _, _, h, _, _, _, _ => absurd h id
  | n + 1, μ, d1, d2, t, h1, h2, E, Q, h => by
    have h0 : Q (.d (.bl true)) μ := by
      have := h []
      rw [List.append_nil] at this
      exact this
    show ms_law_same_y (m_law_same_y A K n) A K [d1, d2] E μ Q
    unfold ms_law_same_y
    refine ⟨rfl, ?_⟩
    unfold b_law_same_y
    rcases h1 with ⟨rfl, hl⟩ | ⟨xs, ts, rfl, l1, l2, l3, l4⟩ | ⟨xs, ts, rfl, l1, l2, l3, l4⟩
    · rcases h2 with ⟨rfl, _⟩ | ⟨ys, ts, rfl, _⟩ | ⟨ys, ts, rfl, _⟩
      · cases t with
        | bl b =>
          row_cond go
          refine ⟨_, _, _, .bl _, rfl, isT_data (d := .bl b), by decide, ?_⟩
          row_cond go
          refine ⟨_, _, _, .bl _, rfl, kit_ty (kit_all .bl .int), ?_⟩
          row_cond go
          refine ⟨_, _, _, .bl _, rfl, kit_ty (kit_all .bl .int), ?_⟩
          row_cond go
          refine ⟨_, _, _, .bl _, rfl, kit_ty (kit_all .bl .bool), ?_⟩
          row_cond go
          refine ⟨_, _, _, .bl _, rfl, kit_ty (kit_all .bl .bool), ?_⟩
          row_cond go
          refine .inl (.inl ⟨.bool b, .bool b, .d rfl, .d rfl, by cases b <;> decide, by cases b <;> decide, ?_⟩)
          rw [show PyData.eqv (.bool b) (.bool b) = true by simp [PyData.eqv]]
          exact h0
        | non =>
          row_cond go
          refine ⟨_, _, _, .non, rfl, kitN2y, by decide, ?_⟩
          row_cond go
          refine ⟨_, _, _, .non, rfl, kit_ty (kit_all .non .int), ?_⟩
          row_cond go
          refine ⟨_, _, _, .non, rfl, kitN4y, by decide, ?_⟩
          row_cond go
          refine .inl (.inl ⟨.none, .none, .d rfl, .d rfl, by decide, by decide, ?_⟩)
          rw [show PyData.eqv .none .none = true by simp [PyData.eqv]]
          exact h0
        | int i =>
          row_cond go
          refine ⟨_, _, _, .int _, rfl, isT_data (d := .int i), by decide, ?_⟩
          row_cond go
          refine ⟨_, _, _, .int _, rfl, kit_ty (kit_all .int .int), ?_⟩
          row_cond go
          refine ⟨_, _, _, .int _, rfl, kit_ty (kit_all .int .int), ?_⟩
          row_cond go
          refine ⟨_, _, _, .int _, rfl, kit_ty (kit_all .int .bool), ?_⟩
          row_cond go
          refine ⟨_, _, _, .int _, rfl, kit_ty (kit_all .int .bool), ?_⟩
          row_cond go
          have s1 : Sh 0 (.int i) := sh_int
          refine .inl (.inl ⟨.int i, .int i, .d rfl, .d rfl, s1.ok (by decide), s1.ok (by decide), ?_⟩)
          rw [SeqAt.eqv_refl _ s1.1]
          exact h0
        | str s =>
          row_cond go
          refine ⟨_, _, _, .str _, rfl, kitS2, by decide, ?_⟩
          row_cond go
          refine ⟨_, _, _, .str _, rfl, kit_ty (kit_all .str .int), ?_⟩
          row_cond go
          refine ⟨_, _, _, .str _, rfl, kitS4, by decide, ?_⟩
          row_cond go
          have s1 : Sh 0 (.str s) := sh_sg hl
          refine .inl (.inl ⟨_, _, .d rfl, .d rfl, s1.ok (by decide), s1.ok (by decide), ?_⟩)
          rw [SeqAt.eqv_refl _ s1.1]
          exact h0
        | dct ks =>
          cases ks with
          | cons p r =>
            obtain ⟨k, v⟩ := p
            cases r with
            | cons _ _ => cases v <;> exact absurd hl id
            | nil =>
              cases v with
              | int i =>
                row_cond go
                refine ⟨_, _, _, .dct rfl, rfl, kitD2y, by decide, ?_⟩
                row_cond go
                refine ⟨_, _, _, .dct rfl, rfl, kit_ty (kit_all .dct .int), ?_⟩
                row_cond go
                refine ⟨_, _, _, .dct rfl, rfl, kitD4y, by decide, ?_⟩
                row_cond go
                exact .inr ⟨k, i, rfl, rfl, h0⟩
              | _ => exact absurd hl id
          | nil =>
            row_cond go
            refine ⟨_, _, _, .dct rfl, rfl, kitD2y, by decide, ?_⟩
            row_cond go
            refine ⟨_, _, _, .dct rfl, rfl, kit_ty (kit_all .dct .int), ?_⟩
            row_cond go
            refine ⟨_, _, _, .dct rfl, rfl, kitD4y, by decide, ?_⟩
            row_cond go
            exact .inl (.inr ⟨rfl, rfl, h0⟩)
        | _ => exact absurd hl id
      · exact absurd hl id
      · exact absurd hl id
    · rcases h2 with ⟨rfl, hl⟩ | ⟨ys, ts', e, k1, k2, k3, k4⟩ | ⟨ys, ts', e, _⟩
      · exact absurd hl id
      · cases e
        have q1 := len_sqy (lsD_sqy l1)
        have q2 := len_sqy (lsD_sqy k1)
        have o1 := ok_sqy (lsD_sqy l1)
        have o2 := ok_sqy (lsD_sqy k1)
        row_cond go
        refine ⟨_, _, _, .lst k1, rfl, isT_data (d := .lst ts), by decide, ?_⟩
        row_cond go
        refine ⟨_, _, _, .lst l1, rfl, kit_ty (kit_all .lst .list), ?_⟩
        row_cond go
        refine ⟨_, _, _, .lst k1, rfl, kit_ty (kit_all .lst .list), ?_⟩
        row_cond go
        refine ⟨_, _, _, .lst l1, rfl, kit_ty (kit_all .lst .tuple), ?_⟩
        row_cond go
        refine ⟨_, _, _, .lst k1, rfl, kit_ty (kit_all .lst .tuple), ?_⟩
        row_cond go
        rw [show decide (V.int ((xs.length : Nat) : Int) = V.int ((ys.length : Nat) : Int)) = true from decide_eq_true (by rw [l2, k2])]
        row_cond go
        refine ⟨d1, d2, xs, ys, rfl, .inl ⟨l1, k1⟩, ⟨lsD_sqy l1, lsD_sqy k1⟩, ?_⟩
        refine lc_same_y l2 k2 l3 (fun i x y hx hy g E' Q' h' => ?_) (fun g => lsD_sqy (lsD_appy l1)) (fun g => lsD_sqy (lsD_appy k1)) fun g => ?_
        · obtain ⟨u, hu⟩ : ∃ u, ts[i]? = some u := ⟨_, List.getElem?_eq_getElem (by rw [← l2]; exact lt_of_get hx)⟩
          exact x_same_y n ((l4 i x u hx hu).app g) ((k4 i y u hy hu).app g) E' Q' h'
        · row_cond go
          refine ⟨_, _, _, rfl, lsV_last, bls_of (fun _ => true) ts, ?_⟩
          rw [show (ts.map fun _ => true).all id = true by simp]
          have := h (g ++ [.lst (ts.map fun _ => .d (.bl true))])
          rw [← List.append_assoc] at this
          exact this
      · cases e
    · rcases h2 with ⟨rfl, hl⟩ | ⟨ys, ts', e, _⟩ | ⟨ys, ts', e, k1, k2, k3, k4⟩
      · exact absurd hl id
      · cases e
      · cases e
        have q1 := len_sqy (tpV_sq (μ := μ) l1)
        have q2 := len_sqy (tpV_sq (μ := μ) k1)
        have o1 := ok_sqy (tpV_sq (μ := μ) l1)
        have o2 := ok_sqy (tpV_sq (μ := μ) k1)
        row_cond go
        refine ⟨_, _, _, .tup k1, rfl, isT_data (d := .tup ts), by decide, ?_⟩
        row_cond go
        refine ⟨_, _, _, .tup l1, rfl, kit_ty (kit_all .tup .list), ?_⟩
        row_cond go
        refine ⟨_, _, _, .tup k1, rfl, kit_ty (kit_all .tup .list), ?_⟩
        row_cond go
        refine ⟨_, _, _, .tup l1, rfl, kit_ty (kit_all .tup .tuple), ?_⟩
        row_cond go
        refine ⟨_, _, _, .tup k1, rfl, kit_ty (kit_all .tup .tuple), ?_⟩
        row_cond go
        rw [show decide (V.int ((xs.length : Nat) : Int) = V.int ((ys.length : Nat) : Int)) = true from decide_eq_true (by rw [l2, k2])]
        row_cond go
        refine ⟨d1, d2, xs, ys, rfl, .inr ⟨l1, k1⟩, ⟨tpV_sq l1, tpV_sq k1⟩, ?_⟩
        refine lc_same_y l2 k2 l3 (fun i x y hx hy g E' Q' h' => ?_) (fun g => tpV_sq l1) (fun g => tpV_sq k1) fun g => ?_
        · obtain ⟨u, hu⟩ : ∃ u, ts[i]? = some u := ⟨_, List.getElem?_eq_getElem (by rw [← l2]; exact lt_of_get hx)⟩
          exact x_same_y n ((l4 i x u hx hu).app g) ((k4 i y u hy hu).app g) E' Q' h'
        · row_cond go
          refine ⟨_, _, _, rfl, lsV_last, bls_of (fun _ => true) ts, ?_⟩
          rw [show (ts.map fun _ => true).all id = true by simp]
          have := h (g ++ [.lst (ts.map fun _ => .d (.bl true))])
          rw [← List.append_assoc] at this
          exact this
end
end Mz
end
section
set_option Elab.async false
set_option linter.all false
set_option maxRecDepth 100000
set_option maxHeartbeats 1000000
namespace Mz
open PySem L2 TL
local macro_rules | `(tactic| row_cond sd) => `(tactic| first | with_reducible assumption | with_reducible exact rfl | exact rfl | exact True.intro | assumption | decide)
local macro_rules | `(tactic| row_cond st) => `(tactic| first
  | refine And.intro (by row_cond sd) ?_
  | refine ⟨_, by row_cond sd, ?_⟩
  | refine ⟨_, _, by row_cond sd, ?_⟩
  | refine ⟨_, _, by row_cond sd, by row_cond sd, ?_⟩
  | refine ⟨_, _, _, by row_cond sd, ?_⟩
  | refine ⟨_, _, _, by row_cond sd, by row_cond sd, ?_⟩
  | refine ⟨_, _, _, by row_cond sd, by row_cond sd, by row_cond sd, ?_⟩
  | refine ⟨_, _, _, _, by row_cond sd, ?_⟩
  | refine ⟨_, _, _, _, by row_cond sd, by row_cond sd, by row_cond sd, ?_⟩
  | refine ⟨_, _, _, _, by row_cond sd, by row_cond sd, by row_cond sd, by row_cond sd, ?_⟩
  | refine iteT ?_
  | refine iteF ?_)
local macro_rules | `(tactic| row_cond go) => `(tactic| repeat (row_cond st))
section
variable {A : Ad} {K : PySem.W.Frag} {μ : MS} {E : XS} {Q : DK}
theorem x_one_o {d : Dv} {xs : List Dv} (hd : sqV μ d = some xs) (h0 : 0 < xs.length) (h1 : xs.length < 1048576) (h : ∀ x ∈ xs, Q x μ) : m_law_one_o A K [.d .st, d] E μ Q := by
  have l1 := len_sqy hd
  have o1 := ok_sqy hd
  unfold m_law_one_o
  refine ⟨rfl, ?_⟩
  unfold b_law_one_o
  row_cond go
  refine x_law_take (by omega) (by omega) fun k k0 k1 => ?_
  obtain ⟨j, rfl⟩ : ∃ j : Nat, k = (j : Nat) := ⟨k.toNat, by omega⟩
  have hj : j < xs.length := by omega
  row_cond go
  refine ⟨_, ix_sqy hd rfl (List.getElem?_eq_getElem hj), ?_⟩
  exact h _ (List.getElem_mem hj)
/-- an error with one field -/
def EvAt (μ : MS) (d : Dv) (e : Dv) (p : Addr × Str) : Prop := excV μ e = some (p.1, [(p.2, d)])
theorem excV_app {μ g : MS} {e : Dv} {x : Addr × List (Str × Dv)} (h : excV μ e = some x) : excV (μ ++ g) e = some x := by
  cases e with
  | ob n =>
    simp only [excV] at h ⊢
    cases q : μ[n]? with
    | none => rw [q] at h; cases h
    | some o => rw [get_app q]; rw [q] at h; exact h
  | _ => cases h
theorem excV_last {μ : MS} {C : Addr} {fs : List (Str × Dv)} : excV (μ ++ [.exc C fs]) (.ob μ.length) = some (C, fs) := by
  simp only [excV]
  rw [show (μ ++ [MO.exc C fs])[μ.length]? = some (.exc C fs) from get_last]
abbrev err12 (A : Ad) : List (Addr × Str) := [(A.BadField, "index"), (A.BadModes, "modes"), (A.UnknownCall, "name"), (A.BadPlace, "place"), (A.BadText, "line"), (A.BadRow, "index"), (A.BadWord, "word"), (A.BadWish, "wish"), (A.BadRun, "thing"), (A.BadCallers, "callers"), (A.BadKind, "kind"), (A.BadRule, "index")]
def mErr1 (kw : Bool) (p : Addr × Str) : ES := match kw with
  | true => mMkV1 p.1 p.2 0 1 mNil (mCons (mVar 0) mNil)
  | false => mMkV1 p.1 p.2 1 0 (mCons (mVar 0) mNil) mNil
def mErrs (kw : Bool) : List (Addr × Str) → AS
  | [] => mNil
  | p :: r => mCons (mErr1 kw p) (mErrs kw r)
theorem EvAt.app {μ g : MS} {d e : Dv} {p : Addr × Str} (h : EvAt μ d e p) : EvAt (μ ++ g) d e p := excV_app h
theorem Pd.imp {α β : Type} {R S : α → β → Prop} (h : ∀ x y, R x y → S x y) : ∀ {l : List α} {m : List β}, Paired R l m → Paired S l m
  | _, _, .nil => .nil
  | _, _, .cons a t => .cons (h _ _ a) (Pd.imp h t)
theorem mErrs_ok {d : Dv} {α : Env'} {kw : Bool} (ha : α[0]? = some (some d)) : ∀ (ps : List (Addr × Str)) {μ : MS} {R : List Dv → MS → Prop}, (∀ es g, Paired (EvAt (μ ++ g) d) es ps → R es (μ ++ g)) → mErrs kw ps E α μ R
  | [], μ, R, h => by
    have := h [] [] .nil
    rw [List.append_nil] at this
    exact this
  | p :: r, μ, R, h => by
    show mErr1 kw p E α μ fun x μ1 => mErrs kw r E α μ1 fun xs μ2 => R (x :: xs) μ2
    have key : mErrs kw r E α (μ ++ [.exc p.1 [(p.2, d)]]) fun xs μ2 => R (.ob μ.length :: xs) μ2 := by
      refine mErrs_ok ha r fun es g hp => ?_
      have := h (.ob μ.length :: es) ([.exc p.1 [(p.2, d)]] ++ g)
      rw [← List.append_assoc] at this
      exact this (.cons (EvAt.app excV_last) hp)
    cases kw with
    | true => exact ⟨_, ha, rfl, rfl, d, rfl, key⟩
    | false => exact ⟨_, ha, rfl, rfl, d, rfl, key⟩
theorem Pd.append {α β : Type} {R : α → β → Prop} : ∀ {l l' : List α} {m m' : List β}, Paired R l m → Paired R l' m' → Paired R (l ++ l') (m ++ m')
  | _, _, _, _, .nil, t => t
  | _, _, _, _, .cons a s, t => .cons a (Pd.append s t)
theorem sz_small {n : Nat} (h : n ≤ 1000) : n ≤ sizeLine := Nat.le_trans h (by decide)
theorem cat_errs {d : Dv} {α : Env'} {kw : Bool} {ν : MS} {n : Nat} {es : List Dv} {R : DK} (ha0 : α[0]? = some (some d)) (ha1 : α[1]? = some (some (.ob n))) (hl : lsV ν (.ob n) = some es) (ps : List (Addr × Str)) (hn : es.length ≤ 100) (hps : ps.length ≤ 100)
    (h : ∀ g m es', lsV (ν ++ g) (.ob m) = some (es ++ es') → Paired (EvAt (ν ++ g) d) es' ps → R (.ob m) (ν ++ g)) : mOp oCat (mVar 1) (mLst (mErrs kw ps)) E α ν R := by
  refine ⟨_, ha1, ?_⟩
  show mErrs kw ps E α ν fun ds μ1 => ds.length ≤ sizeLine ∧ oCat (.ob n) (.ob μ1.length) (μ1 ++ [.lst ds]) R
  refine mErrs_ok ha0 ps fun es' g p => ?_
  have e1 := Paired.length p
  refine ⟨sz_small (by omega), _, _, lsD_appy (lsD_appy hl), lsV_last, sz_small (by omega), ?_⟩
  have := h ((g ++ [.lst es']) ++ [.lst (es ++ es')]) ((ν ++ g) ++ [MO.lst es']).length es'
  rw [← List.append_assoc, ← List.append_assoc] at this
  exact this lsV_last (Pd.imp (fun _ _ h => EvAt.app (EvAt.app h)) p)
theorem x_with_one {d : Dv} (h : ∀ n g es, lsV (μ ++ g) (.ob n) = some es → Paired (EvAt (μ ++ g) d) es (err12 A) → Q (.ob n) (μ ++ g)) : m_law_with_one A K [d] E μ Q := by
  unfold m_law_with_one
  refine ⟨rfl, ?_⟩
  show bSeq (bAsg (mLst (mErrs true ((err12 A).take 5))) (nName 1)) (bSeq (bAsg (mOp oCat (mVar 1) (mLst (mErrs true (((err12 A).drop 5).take 5)))) (nName 1)) (bRet (mOp oCat (mVar 1) (mLst (mErrs true ((err12 A).drop 10)))))) _ _ _
  refine mErrs_ok (kw := true) rfl _ fun es1 g1 p1 => ?_
  have e1 := Paired.length p1
  have e1' : es1.length = 5 := e1
  refine ⟨sz_small (by omega), ?_⟩
  refine cat_errs (n := (μ ++ g1).length) (es := es1) rfl rfl lsV_last _ (by omega) (by show 5 ≤ 100; decide) fun g2 m es2 l2 p2 => ?_
  have e2' : es2.length = 5 := Paired.length p2
  refine cat_errs (n := m) (es := es1 ++ es2) rfl rfl l2 _ (by rw [List.length_append]; omega) (by show 2 ≤ 100; decide) fun g3 m3 es3 l3 p3 => ?_
  have q1 : Paired (EvAt (((((μ ++ g1) ++ [MO.lst es1]) ++ g2)) ++ g3) d) es1 ((err12 A).take 5) := Pd.imp (fun _ _ h => EvAt.app (EvAt.app (EvAt.app h))) p1
  have q2 : Paired (EvAt (((((μ ++ g1) ++ [MO.lst es1]) ++ g2)) ++ g3) d) es2 (((err12 A).drop 5).take 5) := Pd.imp (fun _ _ h => EvAt.app h) p2
  have q := Pd.append (Pd.append q1 q2) p3
  have := h m3 (((g1 ++ [MO.lst es1]) ++ g2) ++ g3) ((es1 ++ es2) ++ es3)
  rw [← List.append_assoc, ← List.append_assoc, ← List.append_assoc] at this
  exact this l3 q
theorem x_by_place {d : Dv} (h : ∀ n g es, lsV (μ ++ g) (.ob n) = some es → Paired (EvAt (μ ++ g) d) es (err12 A) → Q (.ob n) (μ ++ g)) : m_law_by_place A K [d] E μ Q := by
  unfold m_law_by_place
  refine ⟨rfl, ?_⟩
  show bSeq (bAsg (mLst (mErrs false ((err12 A).take 8))) (nName 1)) (bRet (mOp oCat (mVar 1) (mLst (mErrs false ((err12 A).drop 8))))) _ _ _
  refine mErrs_ok (kw := false) rfl _ fun es1 g1 p1 => ?_
  have e1' : es1.length = 8 := Paired.length p1
  refine ⟨sz_small (by omega), ?_⟩
  refine cat_errs (n := (μ ++ g1).length) (es := es1) rfl rfl lsV_last _ (by omega) (by show 4 ≤ 100; decide) fun g2 m es2 l2 p2 => ?_
  have q1 : Paired (EvAt (((μ ++ g1) ++ [MO.lst es1]) ++ g2) d) es1 ((err12 A).take 8) := Pd.imp (fun _ _ h => EvAt.app (EvAt.app h)) p1
  have q := Pd.append q1 p2
  have := h m ((g1 ++ [MO.lst es1]) ++ g2) (es1 ++ es2)
  rw [← List.append_assoc, ← List.append_assoc] at this
  exact this l2 q
/-- what they hold -/
def mHeld : List (Nat × (Addr × Str)) → AS
  | [] => mNil
  | p :: r => mCons (mFldV p.2.1 p.2.2 (mOp oIx (mVar 0) (mC (.d (.int (p.1 : Nat)))))) (mHeld r)
theorem mHeld_ok {d d0 : Dv} {α : Env'} {es : List Dv} (ha : α[0]? = some (some d0)) {μ : MS} (hl : lsV μ d0 = some es) : ∀ (ps : List (Nat × (Addr × Str))) {R : List Dv → MS → Prop}, (∀ p ∈ ps, ∃ e, es[p.1]? = some e ∧ EvAt μ d e p.2) → R (List.replicate ps.length d) μ → mHeld ps E α μ R
  | [], R, _, h => h
  | p :: r, R, hp, h => by
    obtain ⟨e, he, hv⟩ := hp p (by simp)
    refine ⟨d0, ha, ok_sqy (lsD_sqy hl), e, ix_sqy (lsD_sqy hl) rfl he, _, d, hv, ?_, ?_⟩
    · simp [List.lookup]
    · exact mHeld_ok ha hl r (fun q hq => hp q (by simp [hq])) h
theorem x_held {d d0 : Dv} {es : List Dv} (hl : lsV μ d0 = some es) (hp : Paired (EvAt μ d) es (err12 A)) (h : ∀ n g, lsV (μ ++ g) (.ob n) = some (List.replicate 12 d) → Q (.ob n) (μ ++ g)) : m_law_held A K [d0] E μ Q := by
  have all : ∀ (g : MS) (ps : List (Nat × (Addr × Str))), (∀ p ∈ ps, (err12 A)[p.1]? = some p.2) → ∀ p ∈ ps, ∃ e, es[p.1]? = some e ∧ EvAt (μ ++ g) d e p.2 := fun g ps hps p hpm => by
    have h1 := hps p hpm
    have hlen := Paired.length hp
    have hlt : p.1 < es.length := by rw [hlen]; exact lt_of_get h1
    obtain ⟨q, hq, hv⟩ := Paired.getL hp (List.getElem?_eq_getElem hlt)
    rw [hq] at h1
    cases h1
    exact ⟨_, List.getElem?_eq_getElem hlt, EvAt.app hv⟩
  unfold m_law_held
  refine ⟨rfl, ?_⟩
  show bSeq (bAsg (mLst (mHeld ((err12 A).zipIdx.map (fun p => (p.2, p.1)) |>.take 7))) (nName 1)) (bRet (mOp oCat (mVar 1) (mLst (mHeld ((err12 A).zipIdx.map (fun p => (p.2, p.1)) |>.drop 7))))) _ _ _
  have a0 := all []
  rw [List.append_nil] at a0
  refine mHeld_ok rfl hl _ (a0 _ fun p hp => ?_) ?_
  · obtain ⟨q, hq, rfl⟩ := List.mem_map.mp (List.mem_of_mem_take hp)
    exact List.mem_zipIdx_iff_getElem?.mp hq
  refine ⟨by show 7 ≤ sizeLine; decide, ?_⟩
  refine ⟨_, rfl, ?_⟩
  refine mHeld_ok rfl (lsD_appy hl) _ (all _ _ fun p hp => ?_) ?_
  · obtain ⟨q, hq, rfl⟩ := List.mem_map.mp (List.mem_of_mem_drop hp)
    exact List.mem_zipIdx_iff_getElem?.mp hq
  refine ⟨by show 5 ≤ sizeLine; decide, _, _, lsD_appy lsV_last, lsV_last, by show 12 ≤ sizeLine; decide, ?_⟩
  have := h ((μ ++ [MO.lst (List.replicate 7 d)]) ++ [MO.lst (List.replicate 5 d)]).length (([MO.lst (List.replicate 7 d)] ++ [MO.lst (List.replicate 5 d)]) ++ [MO.lst (List.replicate 12 d)])
  rw [← List.append_assoc, ← List.append_assoc] at this
  exact this lsV_last
end
end Mz
end
section
set_option Elab.async false
set_option linter.all false
set_option maxRecDepth 100000
set_option maxHeartbeats 1000000
namespace Mz
open PySem L2 TL
local macro_rules | `(tactic| row_cond sd) => `(tactic| first | with_reducible assumption | with_reducible exact rfl | exact rfl | exact True.intro | assumption | decide)
local macro_rules | `(tactic| row_cond st) => `(tactic| first
  | refine And.intro (by row_cond sd) ?_
  | refine ⟨_, by row_cond sd, ?_⟩
  | refine ⟨_, _, by row_cond sd, ?_⟩
  | refine ⟨_, _, by row_cond sd, by row_cond sd, ?_⟩
  | refine ⟨_, _, _, by row_cond sd, ?_⟩
  | refine ⟨_, _, _, by row_cond sd, by row_cond sd, ?_⟩
  | refine ⟨_, _, _, by row_cond sd, by row_cond sd, by row_cond sd, ?_⟩
  | refine ⟨_, _, _, _, by row_cond sd, ?_⟩
  | refine ⟨_, _, _, _, by row_cond sd, by row_cond sd, by row_cond sd, ?_⟩
  | refine ⟨_, _, _, _, by row_cond sd, by row_cond sd, by row_cond sd, by row_cond sd, ?_⟩
  | refine iteT ?_
  | refine iteF ?_)
local macro_rules | `(tactic| row_cond go) => `(tactic| repeat (row_cond st))
section
variable {A : Ad} {K : PySem.W.Frag} {μ : MS} {E : XS} {Q : DK}
/-- the classes, in the law's order -/
abbrev cls15 (A : Ad) : List Addr := [A.BadField, A.BadModes, A.UnknownCall, A.BadPlace, A.BadText, A.BadRow, A.BadWord, A.BadWish, A.BadRun, A.BadCallers, A.BadKind, A.BadRule, A.BadCall, A.Refused, A.BadThing]
def mClss (A : Ad) (K : PySem.W.Frag) : List Addr → AS
  | [] => mNil
  | C :: r => mCons (mCB (oIsV K (errAll A)) (mCons (mVar 0) (mCons (mC (.d (.cls C))) mNil))) (mClss A K r)
theorem mClss_ok {d : Dv} {D : Addr} {fs : List (Str × Dv)} {α : Env'} {kb : Addr → Bool} (ha : α[0]? = some (some d)) (hD : D ∈ errAll A) (hv : excV μ d = some (D, fs)) : ∀ (Cs : List Addr) {R : List Dv → MS → Prop}, (∀ C ∈ Cs, PySem.W.kitOne K (.ref D) (.ref C) = some (kb C)) → R (Cs.map fun C => .d (.bl (kb C))) μ → mClss A K Cs E α μ R
  | [], R, _, h => h
  | C :: r, R, hk, h => by
    refine ⟨d, ha, d, .d (.cls C), D, fs, .ref C, kb C, rfl, hD, hv, rfl, hk C (by simp), ?_⟩
    exact mClss_ok ha hD hv r (fun C' hC => hk C' (by simp [hC])) h
theorem cat_clss {d : Dv} {D : Addr} {fs : List (Str × Dv)} {α : Env'} {kb : Addr → Bool} {ν : MS} {n : Nat} {es : List Dv} {R : DK} (ha : α[0]? = some (some d)) (ha1 : α[1]? = some (some (.ob n))) (hD : D ∈ errAll A) (hv : excV ν d = some (D, fs)) (hl : lsV ν (.ob n) = some es) (Cs : List Addr) (hk : ∀ C ∈ Cs, PySem.W.kitOne K (.ref D) (.ref C) = some (kb C)) (hn : es.length ≤ 100) (hps : Cs.length ≤ 100)
    (h : ∀ g m, lsV (ν ++ g) (.ob m) = some (es ++ Cs.map fun C => .d (.bl (kb C))) → R (.ob m) (ν ++ g)) : mOp oCat (mVar 1) (mLst (mClss A K Cs)) E α ν R := by
  refine ⟨_, ha1, ?_⟩
  show mClss A K Cs E α ν fun ds μ1 => ds.length ≤ sizeLine ∧ oCat (.ob n) (.ob μ1.length) (μ1 ++ [.lst ds]) R
  refine mClss_ok ha hD hv Cs hk ?_
  refine ⟨sz_small (by rw [List.length_map]; omega), _, _, lsD_appy hl, lsV_last, sz_small (by rw [List.length_map]; omega), ?_⟩
  have := h ([.lst (Cs.map fun C => .d (.bl (kb C)))] ++ [.lst (es ++ Cs.map fun C => .d (.bl (kb C)))]) (ν ++ [MO.lst (Cs.map fun C => .d (.bl (kb C)))]).length
  rw [← List.append_assoc] at this
  exact this lsV_last
theorem x_classes {d : Dv} {D : Addr} {fs : List (Str × Dv)} {kb : Addr → Bool} (hD : D ∈ errAll A) (hv : excV μ d = some (D, fs)) (hk : ∀ C ∈ cls15 A, PySem.W.kitOne K (.ref D) (.ref C) = some (kb C))
    (h : ∀ n g, lsV (μ ++ g) (.ob n) = some ((cls15 A).map fun C => .d (.bl (kb C))) → Q (.ob n) (μ ++ g)) : m_law_classes A K [d] E μ Q := by
  unfold m_law_classes
  refine ⟨rfl, ?_⟩
  show bSeq (bAsg (mLst (mClss A K ((cls15 A).take 4))) (nName 1)) (bSeq (bAsg (mOp oCat (mVar 1) (mLst (mClss A K (((cls15 A).drop 4).take 4)))) (nName 1)) (bSeq (bAsg (mOp oCat (mVar 1) (mLst (mClss A K (((cls15 A).drop 8).take 3)))) (nName 1)) (bSeq (bAsg (mOp oCat (mVar 1) (mLst (mClss A K (((cls15 A).drop 11).take 3)))) (nName 1)) (bRet (mOp oCat (mVar 1) (mLst (mClss A K ((cls15 A).drop 14)))))))) _ _ _
  have sub : ∀ {l : List Addr}, (∀ C ∈ l, C ∈ cls15 A) → ∀ C ∈ l, PySem.W.kitOne K (.ref D) (.ref C) = some (kb C) := fun hl C hC => hk C (hl C hC)
  have dt : ∀ {a b : Nat}, ∀ C ∈ ((cls15 A).drop a).take b, C ∈ cls15 A := fun C hC => List.mem_of_mem_drop (List.mem_of_mem_take hC)
  refine mClss_ok rfl hD hv _ (sub fun C hC => List.mem_of_mem_take hC) ?_
  refine ⟨by show 4 ≤ sizeLine; decide, ?_⟩
  refine cat_clss (n := μ.length) rfl rfl hD (excV_app hv) lsV_last _ (sub dt) (by show 4 ≤ 100; decide) (by show 4 ≤ 100; decide) fun g2 m2 l2 => ?_
  refine cat_clss (n := m2) rfl rfl hD (excV_app (excV_app hv)) l2 _ (sub dt) (by show 8 ≤ 100; decide) (by show 3 ≤ 100; decide) fun g3 m3 l3 => ?_
  refine cat_clss (n := m3) rfl rfl hD (excV_app (excV_app (excV_app hv))) l3 _ (sub dt) (by show 11 ≤ 100; decide) (by show 3 ≤ 100; decide) fun g4 m4 l4 => ?_
  refine cat_clss (n := m4) rfl rfl hD (excV_app (excV_app (excV_app (excV_app hv)))) l4 _ (sub fun C hC => List.mem_of_mem_drop hC) (by show 14 ≤ 100; decide) (by show 1 ≤ 100; decide) fun g5 m5 l5 => ?_
  have := h m5 (((([.lst (((cls15 A).take 4).map fun C => .d (.bl (kb C)))] ++ g2) ++ g3) ++ g4) ++ g5)
  rw [← List.append_assoc, ← List.append_assoc, ← List.append_assoc, ← List.append_assoc] at this
  exact this l5
end
end Mz
end
section
set_option Elab.async false
set_option linter.all false
set_option maxRecDepth 100000
set_option maxHeartbeats 1000000
namespace Mz
open PySem L2 TL
local macro_rules | `(tactic| row_cond sd) => `(tactic| first | with_reducible assumption | with_reducible exact rfl | exact rfl | exact True.intro | assumption | decide)
local macro_rules | `(tactic| row_cond st) => `(tactic| first
  | refine And.intro (by row_cond sd) ?_
  | refine ⟨_, by row_cond sd, ?_⟩
  | refine ⟨_, _, by row_cond sd, ?_⟩
  | refine ⟨_, _, by row_cond sd, by row_cond sd, ?_⟩
  | refine ⟨_, _, _, by row_cond sd, ?_⟩
  | refine ⟨_, _, _, by row_cond sd, by row_cond sd, ?_⟩
  | refine ⟨_, _, _, by row_cond sd, by row_cond sd, by row_cond sd, ?_⟩
  | refine ⟨_, _, _, _, by row_cond sd, ?_⟩
  | refine ⟨_, _, _, _, by row_cond sd, by row_cond sd, by row_cond sd, ?_⟩
  | refine ⟨_, _, _, _, by row_cond sd, by row_cond sd, by row_cond sd, by row_cond sd, ?_⟩
  | refine iteT ?_
  | refine iteF ?_)
local macro_rules | `(tactic| row_cond go) => `(tactic| repeat (row_cond st))
/-! ### the values that errors hold -/
def Lf (m : Nat) (xs : List Dv) : Prop := ∃ ts : List Da, xs = ts.map .d ∧ ts.length ≤ m ∧ ∀ t ∈ ts, leafOkY t
def XOk (m : Nat) (μ : MS) (x : Dv) : Prop := (∃ t, x = .d t ∧ leafOkY t) ∨ (∃ p xs, x = .ob p ∧ μ[p]? = some (.lst xs) ∧ Lf m xs) ∨ (∃ i p xs, x = .tp [.d (.int i), .ob p] ∧ μ[p]? = some (.lst xs) ∧ Lf m xs)
theorem XOk.app {m : Nat} {μ g : MS} {x : Dv} (h : XOk m μ x) : XOk m (μ ++ g) x := by
  rcases h with h | ⟨p, xs, e, h1, h2⟩ | ⟨i, p, xs, e, h1, h2⟩
  · exact .inl h
  · exact .inr (.inl ⟨p, xs, e, get_app h1, h2⟩)
  · exact .inr (.inr ⟨i, p, xs, e, get_app h1, h2⟩)
theorem Lf.up {m : Nat} {xs : List Dv} (h : Lf m xs) : Lf (m + 1) xs := by
  obtain ⟨ts, h1, h2, h3⟩ := h
  exact ⟨ts, h1, by omega, h3⟩
theorem Lf.more {m : Nat} {xs : List Dv} (h : Lf m xs) : Lf (m + 1) (xs ++ [.d (.str "more")]) := by
  obtain ⟨ts, rfl, h2, h3⟩ := h
  refine ⟨ts ++ [.str "more"], by rw [List.map_append]; rfl, by simp; omega, fun t ht => ?_⟩
  rcases List.mem_append.mp ht with ht | ht
  · exact h3 t ht
  · obtain rfl := List.mem_singleton.mp ht
    show Sg "more"
    unfold Sg
    decide
theorem XOk.set {m p : Nat} {μ : MS} {x : Dv} {xs : List Dv} (h : XOk m μ x) (hp : μ[p]? = some (.lst xs)) (hl : Lf m xs) : XOk (m + 1) (μ.set p (.lst (xs ++ [.d (.str "more")]))) x := by
  have hpl := lt_of_get hp
  have one : ∀ {q : Nat} {ys : List Dv}, μ[q]? = some (MO.lst ys) → Lf m ys → ∃ zs : List Dv, (μ.set p (MO.lst (xs ++ [.d (.str "more")])))[q]? = some (MO.lst zs) ∧ Lf (m + 1) zs := fun {q ys} h1 h2 => by
    by_cases e : p = q
    · subst e
      exact ⟨_, List.getElem?_set_self hpl, hl.more⟩
    · exact ⟨ys, by rw [List.getElem?_set_ne e]; exact h1, h2.up⟩
  rcases h with h | ⟨q, ys, e, h1, h2⟩ | ⟨i, q, ys, e, h1, h2⟩
  · exact .inl h
  · obtain ⟨zs, a, b⟩ := one h1 h2
    exact .inr (.inl ⟨q, zs, e, a, b⟩)
  · obtain ⟨zs, a, b⟩ := one h1 h2
    exact .inr (.inr ⟨i, q, zs, e, a, b⟩)
theorem pd_data {R : Dv → Da → Prop} : ∀ (ts : List Da), (∀ t ∈ ts, R (.d t) t) → Paired R (ts.map .d) ts
  | [], _ => .nil
  | t :: r, h => .cons (h t (by simp)) (pd_data r fun x hx => h x (by simp [hx]))
theorem trY_list {μ : MS} {n : Nat} {d : Dv} {xs : List Dv} {ts : List Da} (h1 : lsV μ d = some xs) (hp : Paired (TrY μ n) xs ts) (hl : ts.length < 10000) : TrY μ (n + 1) d (.lst ts) := by
  refine .inr (.inl ⟨xs, ts, rfl, h1, Paired.length hp, hl, fun i x u a b => ?_⟩)
  obtain ⟨p, q, r⟩ := Paired.getL hp a
  rw [q] at b
  cases b
  exact r
theorem trY_tup {μ : MS} {n : Nat} {d : Dv} {xs : List Dv} {ts : List Da} (h1 : tpV d = some xs) (hp : Paired (TrY μ n) xs ts) (hl : ts.length < 10000) : TrY μ (n + 1) d (.tup ts) := by
  refine .inr (.inr ⟨xs, ts, rfl, h1, Paired.length hp, hl, fun i x u a b => ?_⟩)
  obtain ⟨p, q, r⟩ := Paired.getL hp a
  rw [q] at b
  cases b
  exact r
theorem Lf.tr {m p n : Nat} {μ : MS} {xs : List Dv} (hm : m ≤ 100) (hp : μ[p]? = some (.lst xs)) (h : Lf m xs) : ∃ t, TrY μ (n + 2) (.ob p) t := by
  obtain ⟨ts, rfl, h2, h3⟩ := h
  exact ⟨.lst ts, trY_list (ls_at hp) (pd_data ts fun t ht => .inl ⟨rfl, h3 t ht⟩) (by omega)⟩
theorem XOk.tr {m : Nat} {μ : MS} {x : Dv} (hm : m ≤ 100) (h : XOk m μ x) : ∃ t, TrY μ 3 x t := by
  rcases h with ⟨t, rfl, h⟩ | ⟨p, xs, rfl, h1, h2⟩ | ⟨i, p, xs, rfl, h1, h2⟩
  · exact ⟨t, .inl ⟨rfl, h⟩⟩
  · exact h2.tr (n := 1) hm h1
  · obtain ⟨t, ht⟩ := h2.tr (n := 0) hm h1
    exact ⟨_, trY_tup rfl (.cons (.inl ⟨rfl, trivial⟩) (.cons ht .nil)) (by show 2 < 10000; decide)⟩
theorem TrY.up {μ : MS} : ∀ {n : Nat} {d : Dv} {t : Da}, TrY μ n d t → TrY μ (n + 1) d t
  | 0, _, _, h => absurd h id
  | n + 1, d, t, h => by
    rcases h with h | ⟨xs, ts, e, h1, h2, h3, h4⟩ | ⟨xs, ts, e, h1, h2, h3, h4⟩
    · exact .inl h
    · exact .inr (.inl ⟨xs, ts, e, h1, h2, h3, fun i x u a b => (h4 i x u a b).up⟩)
    · exact .inr (.inr ⟨xs, ts, e, h1, h2, h3, fun i x u a b => (h4 i x u a b).up⟩)
theorem excV_set {μ : MS} {p : Nat} {xs zs : List Dv} {e : Dv} {r : Addr × List (Str × Dv)} (hp : μ[p]? = some (.lst xs)) (h : excV μ e = some r) : excV (μ.set p (.lst zs)) e = some r := by
  cases e with
  | ob n =>
    simp only [excV] at h ⊢
    by_cases q : p = n
    · subst q
      rw [hp] at h
      cases h
    · rw [List.getElem?_set_ne q]
      exact h
  | _ => cases h
theorem lsV_set {μ : MS} {p n k : Nat} {ts : List Da} {zs es : List Dv} (hp : μ[p]? = some (.lst (ts.map .d))) (h : lsV μ (.ob n) = some es) (hk : Dv.ob k ∈ es) : lsV (μ.set p (.lst zs)) (.ob n) = some es := by
  simp only [lsV] at h ⊢
  by_cases q : p = n
  · subst q
    rw [hp] at h
    simp only [Option.some.injEq] at h
    rw [← h] at hk
    obtain ⟨t, _, z⟩ := List.mem_map.mp hk
    cases z
  · rw [List.getElem?_set_ne q]
    exact h
section
variable {A : Ad} {K : PySem.W.Frag}
/-- all of a list are the same -/
theorem lc_all_same {x : Dv} {n : Nat} {μ : MS} {gd : MS → Prop} {α : Env'} {R : List Dv → MS → Prop} {t : Da} (hx : ∀ g, gd (μ ++ g)) (ht : TrY μ 4 x t) (hi : ((wpD α [10]).set 10 (some x))[10]? = some (some x)) (h3 : ((wpD α [10]).set 10 (some x))[3]? = some (some x)) (hn : n ≤ 1000)
    (h : ∀ g, R (List.replicate n (.d (.bl true))) (μ ++ g)) :
    mLcL gd (nName 10) mYes (mCall (cO (m_law_same_y A K 4)) (mCons (mVar 10) (mCons (mVar 3) mNil))) [10] α R (List.replicate n x) [] μ := by
  refine lc_by (fun i acc ν => ∃ g, ν = μ ++ g ∧ acc = List.replicate i (.d (.bl true)) ∧ i ≤ n) ?_ ?_ ⟨[], by simp, rfl, Nat.zero_le _⟩
  · rintro i d' acc ν N hget ⟨g, rfl, rfl, hin⟩ hN
    have hl := lt_of_get hget
    rw [List.length_replicate] at hl
    rw [List.getElem?_replicate, if_pos hl] at hget
    cases hget
    show (if true = true then mCall (cO (m_law_same_y A K 4)) (mCons (mVar 10) (mCons (mVar 3) mNil)) noX ((wpD α [10]).set 10 (some x)) (μ ++ g) fun y μ4 => (List.replicate i (Dv.d (.bl true))).length < sizeLine ∧ gd μ4 ∧ N (List.replicate i (.d (.bl true)) ++ [y]) μ4 else gd (μ ++ g) ∧ N (List.replicate i (.d (.bl true))) (μ ++ g))
    refine iteT ?_
    refine ⟨x, hi, x, h3, ?_⟩
    refine x_same_y 4 (ht.app g) (ht.app g) _ _ fun g' => ?_
    refine ⟨by rw [List.length_replicate]; exact big (by omega), by rw [List.append_assoc]; exact hx _, hN _ _ ⟨g ++ g', by rw [List.append_assoc], by rw [List.replicate_succ'], by omega⟩⟩
  · rintro acc ν ⟨g, rfl, rfl, _⟩
    rw [List.length_replicate]
    exact h g
end
end Mz
end
section
set_option Elab.async false
set_option linter.all false
set_option maxRecDepth 100000
set_option maxHeartbeats 1000000
namespace Mz
open PySem L2 TL
local macro_rules | `(tactic| row_cond sd) => `(tactic| first | with_reducible assumption | with_reducible exact rfl | exact rfl | exact True.intro | assumption | decide)
local macro_rules | `(tactic| row_cond st) => `(tactic| first
  | refine And.intro (by row_cond sd) ?_
  | refine ⟨_, by row_cond sd, ?_⟩
  | refine ⟨_, _, by row_cond sd, ?_⟩
  | refine ⟨_, _, by row_cond sd, by row_cond sd, ?_⟩
  | refine ⟨_, _, _, by row_cond sd, ?_⟩
  | refine ⟨_, _, _, by row_cond sd, by row_cond sd, ?_⟩
  | refine ⟨_, _, _, by row_cond sd, by row_cond sd, by row_cond sd, ?_⟩
  | refine ⟨_, _, _, _, by row_cond sd, ?_⟩
  | refine ⟨_, _, _, _, by row_cond sd, by row_cond sd, by row_cond sd, ?_⟩
  | refine ⟨_, _, _, _, by row_cond sd, by row_cond sd, by row_cond sd, by row_cond sd, ?_⟩
  | refine iteT ?_
  | refine iteF ?_)
local macro_rules | `(tactic| row_cond go) => `(tactic| repeat (row_cond st))
def eOne (A : Ad) (K : PySem.W.Frag) : ES := (mCall (cO (m_law_one_o A K)) (mCons (mVar 1) (mCons (mLst (mCons (mVar 5) (mCons (mOp oMulS (mC (.d (.str "w"))) (mVar 5)) (mCons (mLst (mCons (mVar 5) mNil)) (mCons (mTup (mCons (mVar 5) (mCons (mLst (mCons (mVar 5) mNil)) mNil))) (mCons (mC (.d .non)) (mCons (mC (.d (.bl true))) (mCons (mFz (mDisp [((mC (.d (.str "w"))), (mVar 5))])) mNil)))))))) mNil)))
section
variable {A : Ad} {K : PySem.W.Frag} {μ : MS} {E : XS} {Q : DK}
theorem one_ok {k : Int} {α : Env'} (h1 : α[1]? = some (some (.d .st))) (h5 : α[5]? = some (some (.d (.int k)))) (k0 : 0 ≤ k) (k1 : k ≤ 1) (h : ∀ x g, XOk 1 (μ ++ g) x → Q x (μ ++ g)) : eOne A K E α μ Q := by
  unfold eOne
  row_cond go
  refine ⟨by omega, ?_⟩
  generalize hs : (if k = 1 then ("w" : Str) else Str.empty) = s
  have hsg : Sg s := by
    rw [← hs]
    split
    · unfold Sg; decide
    · unfold Sg; decide
  row_cond go
  refine ⟨show 1 ≤ sizeLine by decide, ?_⟩
  row_cond go
  refine ⟨show 1 ≤ sizeLine by decide, ?_⟩
  row_cond go
  refine ⟨show 2 ≤ sizeLine by decide, ?_⟩
  row_cond go
  refine ⟨show 1 ≤ 15 by decide, ?_⟩
  have hk2 : ((μ ++ [MO.lst [.d (.int k)]]) ++ [MO.lst [.d (.int k)]] ++ [MO.dct (([((.inr "w" : Key), Da.int k)] : List (Key × Da)).map eD)])[((μ ++ [MO.lst [.d (.int k)]]) ++ [MO.lst [.d (.int k)]]).length]? = some (.dct (([((.inr "w" : Key), Da.int k)] : List (Key × Da)).map eD)) := get_last
  refine ⟨_, _, fz1_dct hk2, ?_⟩
  rw [set_mid]
  row_cond go
  refine ⟨show 7 ≤ sizeLine by decide, ?_⟩
  row_cond go
  refine x_one_o sqV_last (by show 0 < 7; decide) (by show 7 < 1048576; decide) fun x hx => ?_
  have L1 : Lf 1 [.d (.int k)] := ⟨[.int k], rfl, by simp, fun t ht => by
    obtain rfl := List.mem_singleton.mp ht
    trivial⟩
  have fin : ∀ g x, XOk 1 (((μ ++ [MO.lst [.d (.int k)]]) ++ [MO.lst [.d (.int k)]]) ++ g) x → Q x (((μ ++ [MO.lst [.d (.int k)]]) ++ [MO.lst [.d (.int k)]]) ++ g) := fun g x hx => by
    have := h x (([MO.lst [.d (.int k)]] ++ [MO.lst [.d (.int k)]]) ++ g)
    rw [← List.append_assoc, ← List.append_assoc] at this
    exact this hx
  rw [List.append_assoc (((μ ++ [MO.lst [.d (.int k)]]) ++ [MO.lst [.d (.int k)]]))]
  refine fin _ x ?_
  refine XOk.app ?_
  simp only [List.mem_cons, List.not_mem_nil, or_false] at hx
  rcases hx with rfl | rfl | rfl | rfl | rfl | rfl | rfl
  · exact .inl ⟨_, rfl, trivial⟩
  · exact .inl ⟨_, rfl, hsg⟩
  · exact .inr (.inl ⟨μ.length, _, rfl, get_app get_last, L1⟩)
  · exact .inr (.inr ⟨k, (μ ++ [MO.lst [.d (.int k)]]).length, _, rfl, get_last, L1⟩)
  · exact .inl ⟨_, rfl, trivial⟩
  · exact .inl ⟨_, rfl, trivial⟩
  · exact .inl ⟨_, rfl, trivial⟩
end
end Mz
end
section
set_option Elab.async false
set_option linter.all false
set_option maxRecDepth 100000
set_option maxHeartbeats 1000000
namespace Mz
open PySem L2 TL
local macro_rules | `(tactic| row_cond sd) => `(tactic| first | with_reducible assumption | with_reducible exact rfl | exact rfl | exact True.intro | assumption | decide)
local macro_rules | `(tactic| row_cond st) => `(tactic| first
  | refine And.intro (by row_cond sd) ?_
  | refine ⟨_, by row_cond sd, ?_⟩
  | refine ⟨_, _, by row_cond sd, ?_⟩
  | refine ⟨_, _, by row_cond sd, by row_cond sd, ?_⟩
  | refine ⟨_, _, _, by row_cond sd, ?_⟩
  | refine ⟨_, _, _, by row_cond sd, by row_cond sd, ?_⟩
  | refine ⟨_, _, _, by row_cond sd, by row_cond sd, by row_cond sd, ?_⟩
  | refine ⟨_, _, _, _, by row_cond sd, ?_⟩
  | refine ⟨_, _, _, _, by row_cond sd, by row_cond sd, by row_cond sd, ?_⟩
  | refine ⟨_, _, _, _, by row_cond sd, by row_cond sd, by row_cond sd, by row_cond sd, ?_⟩
  | refine iteT ?_
  | refine iteF ?_)
local macro_rules | `(tactic| row_cond go) => `(tactic| repeat (row_cond st))
def q1_1 (A : Ad) (K : PySem.W.Frag) (R : BS) : BS := (bSeq (bAsg (mLc (miR1 (mCons (mC (.d (.int 2))) mNil)) (nName 5) mYes (eOne A K) [5]) (nSeq 2 (nCons (nName 3) (nCons (nName 4) nNil)))) R)
def q1_2 (A : Ad) (K : PySem.W.Frag) (R : BS) : BS := (bSeq (bPar 6 7 (mCons (mLst (mCons (mCall (cO (m_law_with_one A K)) (mCons (mVar 3) mNil)) (mCons (mCall (cO (m_law_by_place A K)) (mCons (mVar 3) mNil)) mNil))) (mCons (mLst (mCons (mMkV2 A.BadCall "index" "reason" 2 0 false (mCons (mVar 3) (mCons (mVar 4) mNil)) mNil) (mCons (mMkV2 A.BadCall "index" "reason" 0 2 true mNil (mCons (mVar 4) (mCons (mVar 3) mNil))) mNil))) mNil))) R)
def q1_3 (A : Ad) (K : PySem.W.Frag) (R : BS) : BS := (bSeq (bFor (miSq (mLst (mCons (mVar 3) (mCons (mVar 4) mNil)))) (nName 8) (l_law_1_k01 A K)) R)
def q1_4 (A : Ad) (K : PySem.W.Frag) : BS := (k_law_6_k01 A K)
theorem q1_eq {A : Ad} {K : PySem.W.Frag} : l_law_7_k01 A K = (q1_1 A K (q1_2 A K (q1_3 A K (q1_4 A K)))) := rfl
def env01 (x2 : Option Dv) (x y : Dv) (x5 x6 x7 x8 x9 x10 x11 x12 : Option Dv) : Env' := [none, some (.d .st), x2, some x, some y, x5, x6, x7, x8, x9, x10, x11, x12]
section
variable {A : Ad} {K : PySem.W.Frag} {μ : MS} {D : En} {R : BS}
theorem lc_cons {gd : MS → Prop} {i : Nat} {e : ES} {α : Env'} {Q : List Dv → MS → Prop} {d : Dv} {r acc : List Dv} {μ : MS} (h : e noX ((wpD α [i]).set i (some d)) μ fun y μ4 => acc.length < sizeLine ∧ gd μ4 ∧ mLcL gd (nName i) mYes e [i] α Q r (acc ++ [y]) μ4) : mLcL gd (nName i) mYes e [i] α Q (d :: r) acc μ := by
  show (if true = true then e noX ((wpD α [i]).set i (some d)) μ fun y μ4 => acc.length < sizeLine ∧ gd μ4 ∧ mLcL gd (nName i) mYes e [i] α Q r (acc ++ [y]) μ4 else gd μ ∧ mLcL gd (nName i) mYes e [i] α Q r acc μ)
  exact iteT h
theorem x1_1 {x2 x3 x4 x5 x6 x7 x8 x9 x10 x11 x12 : Option Dv} (hC : ∀ x y g, XOk 1 (μ ++ g) x → XOk 1 (μ ++ g) y → R D (env01 x2 x y x5 x6 x7 x8 x9 x10 x11 x12) (μ ++ g)) :
    q1_1 A K R D [none, some (.d .st), x2, x3, x4, x5, x6, x7, x8, x9, x10, x11, x12] μ := by
  unfold q1_1
  refine ⟨2, rfl, by decide, trivial, ?_⟩
  refine lc_cons (d := .d (.int 0)) (r := [.d (.int 1)]) ?_
  refine one_ok rfl rfl (by decide) (by decide) fun x g hx => ?_
  refine ⟨show 0 < sizeLine by decide, trivial, ?_⟩
  refine lc_cons (d := .d (.int 1)) (r := []) ?_
  refine one_ok rfl rfl (by decide) (by decide) fun y g2 hy => ?_
  refine ⟨show 1 < sizeLine by decide, trivial, ?_⟩
  refine ⟨_, sqV_last, rfl, ?_⟩
  row_cond go
  have := hC x y ((g ++ g2) ++ [MO.lst [x, y]])
  rw [← List.append_assoc, ← List.append_assoc] at this
  exact this (XOk.app (XOk.app hx)) (XOk.app hy)
/-- what stands behind the making -/
structure Mde (A : Ad) (x y : Dv) (n6 n7 : Nat) (m : Nat) (μ : MS) : Prop where
  hx : XOk m μ x
  hy : XOk m μ y
  o : ∃ o1 o2 es1 es2, lsV μ (.ob n6) = some [.ob o1, .ob o2] ∧ lsV μ (.ob o1) = some es1 ∧ Paired (EvAt μ x) es1 (err12 A) ∧ lsV μ (.ob o2) = some es2 ∧ Paired (EvAt μ x) es2 (err12 A)
  r : ∃ r1 r2, lsV μ (.ob n7) = some [.ob r1, .ob r2] ∧ excV μ (.ob r1) = some (A.BadCall, [(("reason" : Str), y), (("index" : Str), x)]) ∧ excV μ (.ob r2) = some (A.BadCall, [(("reason" : Str), y), (("index" : Str), x)])
theorem Mde.app {x y : Dv} {n6 n7 m : Nat} {g : MS} (h : Mde A x y n6 n7 m μ) : Mde A x y n6 n7 m (μ ++ g) := by
  obtain ⟨hx, hy, ⟨o1, o2, es1, es2, a1, a2, a3, a4, a5⟩, r1, r2, b1, b2, b3⟩ := h
  exact ⟨hx.app, hy.app, ⟨o1, o2, es1, es2, lsD_appy a1, lsD_appy a2, Pd.imp (fun _ _ h => EvAt.app h) a3, lsD_appy a4, Pd.imp (fun _ _ h => EvAt.app h) a5⟩, r1, r2, lsD_appy b1, excV_app b2, excV_app b3⟩
theorem ob_of {d : Dv} {e : Dv} {p : Addr × Str} (h : EvAt μ d e p) : ∃ k, e = .ob k := by
  cases e with
  | ob n => exact ⟨n, rfl⟩
  | _ => cases h
theorem ob_in {d : Dv} {es : List Dv} (h : Paired (EvAt μ d) es (err12 A)) : ∃ k, Dv.ob k ∈ es := by
  cases h with
  | cons a _ =>
    obtain ⟨k, rfl⟩ := ob_of a
    exact ⟨k, by simp⟩
theorem Mde.set {x y : Dv} {n6 n7 m p : Nat} {xs : List Dv} (h : Mde A x y n6 n7 m μ) (hp : μ[p]? = some (.lst xs)) (hl : Lf m xs) : Mde A x y n6 n7 (m + 1) (μ.set p (.lst (xs ++ [.d (.str "more")]))) := by
  obtain ⟨hx, hy, ⟨o1, o2, es1, es2, a1, a2, a3, a4, a5⟩, r1, r2, b1, b2, b3⟩ := h
  have hx' := hx.set hp hl
  have hy' := hy.set hp hl
  obtain ⟨ts, rfl, _, _⟩ := hl
  obtain ⟨k1, hk1⟩ := ob_in a3
  obtain ⟨k2, hk2⟩ := ob_in a5
  exact ⟨hx', hy', ⟨o1, o2, es1, es2, lsV_set (k := o1) hp a1 (by simp), lsV_set hp a2 hk1, Pd.imp (fun _ _ h => excV_set hp h) a3, lsV_set hp a4 hk2, Pd.imp (fun _ _ h => excV_set hp h) a5⟩, r1, r2, lsV_set (k := r1) hp b1 (by simp), excV_set hp b2, excV_set hp b3⟩
theorem x1_2 {x y : Dv} {x2 x5 x6 x7 x8 x9 x10 x11 x12 : Option Dv} (hx : XOk 1 μ x) (hy : XOk 1 μ y) (hC : ∀ n6 n7 g, Mde A x y n6 n7 1 (μ ++ g) → R D (env01 x2 x y x5 (some (.ob n6)) (some (.ob n7)) x8 x9 x10 x11 x12) (μ ++ g)) :
    q1_2 A K R D (env01 x2 x y x5 x6 x7 x8 x9 x10 x11 x12) μ := by
  unfold q1_2 env01
  row_cond go
  refine x_with_one fun o1 g1 es1 l1 p1 => ?_
  row_cond go
  refine x_by_place fun o2 g2 es2 l2 p2 => ?_
  row_cond go
  refine ⟨show 2 ≤ sizeLine by decide, ?_⟩
  have q1 : lsV (((μ ++ g1) ++ g2) ++ [MO.lst [.ob o1, .ob o2]]) (.ob ((μ ++ g1) ++ g2).length) = some [.ob o1, .ob o2] := lsV_last
  generalize hν : ((μ ++ g1) ++ g2) ++ [MO.lst [.ob o1, .ob o2]] = ν at q1
  generalize ((μ ++ g1) ++ g2).length = n6 at q1 ⊢
  have l1' : lsV ν (.ob o1) = some es1 := by rw [← hν]; exact lsD_appy (lsD_appy l1)
  have l2' : lsV ν (.ob o2) = some es2 := by rw [← hν]; exact lsD_appy l2
  have p1' : Paired (EvAt ν x) es1 (err12 A) := by rw [← hν]; exact Pd.imp (fun _ _ h => EvAt.app (EvAt.app h)) p1
  have p2' : Paired (EvAt ν x) es2 (err12 A) := by rw [← hν]; exact Pd.imp (fun _ _ h => EvAt.app h) p2
  have hx' : XOk 1 ν x := by rw [← hν]; exact XOk.app (XOk.app (XOk.app hx))
  have hy' : XOk 1 ν y := by rw [← hν]; exact XOk.app (XOk.app (XOk.app hy))
  obtain ⟨g, hg⟩ : ∃ g, ν = μ ++ g := ⟨(g1 ++ g2) ++ [MO.lst [.ob o1, .ob o2]], by rw [← hν, List.append_assoc, List.append_assoc, List.append_assoc]⟩
  row_cond go
  refine ⟨fun z => (by cases z), ?_⟩
  row_cond go
  refine ⟨show 2 ≤ sizeLine by decide, ?_⟩
  row_cond go
  have m : Mde A x y n6 ((ν ++ [MO.exc A.BadCall [(("reason" : Str), y), (("index" : Str), x)]]) ++ [MO.exc A.BadCall [(("reason" : Str), y), (("index" : Str), x)]]).length 1 (((ν ++ [MO.exc A.BadCall [(("reason" : Str), y), (("index" : Str), x)]]) ++ [MO.exc A.BadCall [(("reason" : Str), y), (("index" : Str), x)]]) ++ [MO.lst [.ob ν.length, .ob (ν ++ [MO.exc A.BadCall [(("reason" : Str), y), (("index" : Str), x)]]).length]]) :=
    ⟨hx'.app.app.app, hy'.app.app.app, ⟨o1, o2, es1, es2, lsD_appy (lsD_appy (lsD_appy q1)), lsD_appy (lsD_appy (lsD_appy l1')), Pd.imp (fun _ _ h => EvAt.app (EvAt.app (EvAt.app h))) p1', lsD_appy (lsD_appy (lsD_appy l2')), Pd.imp (fun _ _ h => EvAt.app (EvAt.app (EvAt.app h))) p2'⟩, _, _, lsV_last, excV_app (excV_app excV_last), excV_app excV_last⟩
  have key : ∀ (a b c : MS) (n7 : Nat), Mde A x y n6 n7 1 (((ν ++ a) ++ b) ++ c) → R D (env01 x2 x y x5 (some (.ob n6)) (some (.ob n7)) x8 x9 x10 x11 x12) (((ν ++ a) ++ b) ++ c) := fun a b c n7 hm => by
    rw [hg] at hm ⊢
    rw [List.append_assoc, List.append_assoc, List.append_assoc] at hm ⊢
    exact hC _ _ _ hm
  exact key _ _ _ _ m
end
end Mz
end
section
set_option Elab.async false
set_option linter.all false
set_option maxRecDepth 100000
set_option maxHeartbeats 1000000
namespace Mz
open PySem L2 TL
local macro_rules | `(tactic| row_cond sd) => `(tactic| first | with_reducible assumption | with_reducible exact rfl | exact rfl | exact True.intro | assumption | decide)
local macro_rules | `(tactic| row_cond st) => `(tactic| first
  | refine And.intro (by row_cond sd) ?_
  | refine ⟨_, by row_cond sd, ?_⟩
  | refine ⟨_, _, by row_cond sd, ?_⟩
  | refine ⟨_, _, by row_cond sd, by row_cond sd, ?_⟩
  | refine ⟨_, _, _, by row_cond sd, ?_⟩
  | refine ⟨_, _, _, by row_cond sd, by row_cond sd, ?_⟩
  | refine ⟨_, _, _, by row_cond sd, by row_cond sd, by row_cond sd, ?_⟩
  | refine ⟨_, _, _, _, by row_cond sd, ?_⟩
  | refine ⟨_, _, _, _, by row_cond sd, by row_cond sd, by row_cond sd, ?_⟩
  | refine ⟨_, _, _, _, by row_cond sd, by row_cond sd, by row_cond sd, by row_cond sd, ?_⟩
  | refine iteT ?_
  | refine iteF ?_)
local macro_rules | `(tactic| row_cond go) => `(tactic| repeat (row_cond st))
section
variable {A : Ad} {K : PySem.W.Frag} {μ : MS} {D : En} {R : BS}
theorem leaf_no {t : Da} (h : leafOkY t) : t.pl = true ∧ t.kn.isA .list = false := by
  cases t with
  | lst _ => exact absurd h id
  | tup _ => exact absurd h id
  | ins _ _ => exact absurd h id
  | cls _ => exact absurd h id
  | ty _ => exact absurd h id
  | st => exact absurd h id
  | _ => exact ⟨rfl, rfl⟩
theorem x1_part {x y d : Dv} {m n6 n7 n : Nat} {x2 x5 x9 x10 x11 x12 : Option Dv} (hm : m ≤ 50) (M : Mde A x y n6 n7 m μ) (hd : d ∈ [x, y]) (hn : lsV μ (.ob n) = some [x, y])
    (hN : ∀ ν, Mde A x y n6 n7 (m + 1) ν → lsV ν (.ob n) = some [x, y] → D.nx (env01 x2 x y x5 (some (.ob n6)) (some (.ob n7)) (some d) x9 x10 x11 x12) ν) :
    l_law_1_k01 A K D (env01 x2 x y x5 (some (.ob n6)) (some (.ob n7)) (some d) x9 x10 x11 x12) μ := by
  have hx : XOk m μ d := by
    simp only [List.mem_cons, List.not_mem_nil, or_false] at hd
    rcases hd with rfl | rfl
    · exact M.hx
    · exact M.hy
  have up : ∀ {m : Nat} {z : Dv}, XOk m μ z → XOk (m + 1) μ z := fun h => by
    rcases h with h | ⟨p, xs, e, h1, h2⟩ | ⟨i, p, xs, e, h1, h2⟩
    · exact .inl h
    · exact .inr (.inl ⟨p, xs, e, h1, h2.up⟩)
    · exact .inr (.inr ⟨i, p, xs, e, h1, h2.up⟩)
  have M1 : Mde A x y n6 n7 (m + 1) μ := ⟨up M.hx, up M.hy, M.o, M.r⟩
  unfold l_law_1_k01 env01
  rcases hx with ⟨t, rfl, h⟩ | ⟨p, xs, rfl, h1, h2⟩ | ⟨i, p, xs, rfl, h1, h2⟩
  · obtain ⟨l1, l2⟩ := leaf_no h
    row_cond go
    refine ⟨_, _, _, tyD_kn l1, rfl, kit_ty (kit_all _ .list), ?_⟩
    rw [l2]
    row_cond go
    exact hN _ M1 hn
  · have lp := ls_at h1
    have ls := ls_some lp
    row_cond go
    refine ⟨_, _, _, .lst lp, rfl, kit_ty (kit_all .lst .list), ?_⟩
    row_cond go
    have hl : xs.length < sizeLine := by
      obtain ⟨ts, rfl, h3, _⟩ := h2
      exact Nat.lt_of_le_of_lt (m := 50) (by rw [List.length_map]; omega) (by decide)
    refine ⟨hl, ?_⟩
    refine hN _ (M.set h1 h2) ?_
    obtain ⟨ts, rfl, _, _⟩ := h2
    exact lsV_set h1 hn hd
  · have tp : tpV (.tp [.d (.int i), .ob p]) = some [.d (.int i), .ob p] := rfl
    row_cond go
    refine ⟨_, _, _, .tup tp, rfl, kit_ty (kit_all .tup .list), ?_⟩
    row_cond go
    exact hN _ M1 hn
theorem x1_3 {x y : Dv} {n6 n7 : Nat} {x2 x5 x8 x9 x10 x11 x12 : Option Dv} (M : Mde A x y n6 n7 1 μ)
    (hC : ∀ x8 ν, Mde A x y n6 n7 3 ν → R D (env01 x2 x y x5 (some (.ob n6)) (some (.ob n7)) x8 x9 x10 x11 x12) ν) :
    q1_3 A K R D (env01 x2 x y x5 (some (.ob n6)) (some (.ob n7)) x8 x9 x10 x11 x12) μ := by
  unfold q1_3 env01
  row_cond go
  refine ⟨show 2 ≤ sizeLine by decide, ?_⟩
  refine ⟨_, sqV_last, sqV_last, ?_⟩
  refine loop_by (fun i α ν => ∃ x8, α = env01 x2 x y x5 (some (.ob n6)) (some (.ob n7)) x8 x9 x10 x11 x12 ∧ i ≤ 2 ∧ Mde A x y n6 n7 (1 + i) ν ∧ lsV ν (.ob μ.length) = some [x, y]) ?_ ?_ ⟨_, rfl, by omega, M.app, lsV_last⟩
  · rintro i d α ν N hi ⟨x8, rfl, hi2, M1, hn⟩ hN
    have hil := lt_of_get hi
    have hil2 : i < 2 := hil
    show l_law_1_k01 A K _ (env01 x2 x y x5 (some (.ob n6)) (some (.ob n7)) (some d) x9 x10 x11 x12) ν
    refine x1_part (n := μ.length) (by omega) M1 (mem_get hi) hn fun ν2 M2 hn2 => ?_
    exact ⟨lsD_sqy hn2, hN _ _ ⟨_, rfl, by omega, M2, hn2⟩⟩
  · rintro α ν ⟨x8, rfl, _, M1, _⟩
    exact hC _ _ M1
/-- one list of errors looked at -/
theorem x1_look {x y : Dv} {n6 n7 o : Nat} {es : List Dv} {x2 x5 x8 x10 x11 x12 : Option Dv} (M : Mde A x y n6 n7 3 μ) (hl : lsV μ (.ob o) = some es) (hp : Paired (EvAt μ x) es (err12 A))
    (hN : ∀ g x10, D.nx (env01 x2 x y x5 (some (.ob n6)) (some (.ob n7)) x8 (some (.ob o)) x10 x11 x12) (μ ++ g)) :
    l_law_2_k01 A K D (env01 x2 x y x5 (some (.ob n6)) (some (.ob n7)) x8 (some (.ob o)) x10 x11 x12) μ := by
  unfold l_law_2_k01 env01
  row_cond go
  refine x_held hl hp fun n g h1 => ?_
  refine ⟨_, lsD_sqy h1, lsD_sqy h1, ?_⟩
  obtain ⟨t, ht⟩ := (M.hx.app (g := g)).tr (by omega)
  refine lc_all_same (fun g' => lsD_sqy (lsD_appy h1)) ht.up rfl rfl (by decide) fun g' => ?_
  refine ⟨_, _, List.replicate 12 true, rfl, lsV_last, rfl, ?_⟩
  row_cond go
  have := hN ((g ++ g') ++ [MO.lst (List.replicate 12 (.d (.bl true)))]) x10
  rw [← List.append_assoc, ← List.append_assoc] at this
  exact this
end
end Mz
end
section
set_option Elab.async false
set_option linter.all false
set_option maxRecDepth 100000
set_option maxHeartbeats 1000000
namespace Mz
open PySem L2 TL
local macro_rules | `(tactic| row_cond sd) => `(tactic| first | with_reducible assumption | with_reducible exact rfl | exact rfl | exact True.intro | assumption | decide)
local macro_rules | `(tactic| row_cond st) => `(tactic| first
  | refine And.intro (by row_cond sd) ?_
  | refine ⟨_, by row_cond sd, ?_⟩
  | refine ⟨_, _, by row_cond sd, ?_⟩
  | refine ⟨_, _, by row_cond sd, by row_cond sd, ?_⟩
  | refine ⟨_, _, _, by row_cond sd, ?_⟩
  | refine ⟨_, _, _, by row_cond sd, by row_cond sd, ?_⟩
  | refine ⟨_, _, _, by row_cond sd, by row_cond sd, by row_cond sd, ?_⟩
  | refine ⟨_, _, _, _, by row_cond sd, ?_⟩
  | refine ⟨_, _, _, _, by row_cond sd, by row_cond sd, by row_cond sd, ?_⟩
  | refine ⟨_, _, _, _, by row_cond sd, by row_cond sd, by row_cond sd, by row_cond sd, ?_⟩
  | refine iteT ?_
  | refine iteF ?_)
local macro_rules | `(tactic| row_cond go) => `(tactic| repeat (row_cond st))
section
variable {A : Ad} {K : PySem.W.Frag} {μ : MS} {D : En} {R : BS}
/-- both lists of errors looked at -/
theorem x1_4 {x y : Dv} {n6 n7 : Nat} {x2 x5 x8 x9 x10 x11 x12 : Option Dv} (M : Mde A x y n6 n7 3 μ)
    (hC : ∀ x9 x10 g, k_law_5_k01 A K D (env01 x2 x y x5 (some (.ob n6)) (some (.ob n7)) x8 x9 x10 x11 x12) (μ ++ g)) :
    k_law_6_k01 A K D (env01 x2 x y x5 (some (.ob n6)) (some (.ob n7)) x8 x9 x10 x11 x12) μ := by
  obtain ⟨o1, o2, es1, es2, a1, a2, a3, a4, a5⟩ := M.o
  unfold k_law_6_k01 env01
  refine ⟨_, rfl, _, lsD_sqy a1, lsD_sqy a1, ?_⟩
  refine loop_by (fun i α ν => ∃ x9 x10 g, α = env01 x2 x y x5 (some (.ob n6)) (some (.ob n7)) x8 x9 x10 x11 x12 ∧ ν = μ ++ g) ?_ ?_ ⟨_, _, [], rfl, by simp⟩
  · rintro i d α ν N hi ⟨x9, x10, g, rfl, rfl⟩ hN
    have hd : d ∈ [Dv.ob o1, Dv.ob o2] := mem_get hi
    obtain ⟨o, es, rfl, e1, e2⟩ : ∃ o es, d = .ob o ∧ lsV (μ ++ g) (.ob o) = some es ∧ Paired (EvAt (μ ++ g) x) es (err12 A) := by
      simp only [List.mem_cons, List.not_mem_nil, or_false] at hd
      rcases hd with rfl | rfl
      · exact ⟨o1, es1, rfl, lsD_appy a2, Pd.imp (fun _ _ h => EvAt.app h) a3⟩
      · exact ⟨o2, es2, rfl, lsD_appy a4, Pd.imp (fun _ _ h => EvAt.app h) a5⟩
    show l_law_2_k01 A K _ (env01 x2 x y x5 (some (.ob n6)) (some (.ob n7)) x8 (some (.ob o)) x10 x11 x12) (μ ++ g)
    refine x1_look M.app e1 e2 fun g2 x10 => ?_
    exact ⟨by rw [List.append_assoc]; exact lsD_sqy (lsD_appy a1), hN _ _ ⟨_, _, g ++ g2, rfl, by rw [List.append_assoc]⟩⟩
  · rintro α ν ⟨x9, x10, g, rfl, rfl⟩
    exact hC x9 x10 g
end
end Mz
end
section
set_option Elab.async false
set_option linter.all false
set_option maxRecDepth 100000
set_option maxHeartbeats 1000000
namespace Mz
open PySem L2 TL
local macro_rules | `(tactic| row_cond sd) => `(tactic| first | with_reducible assumption | with_reducible exact rfl | exact rfl | exact True.intro | assumption | decide)
local macro_rules | `(tactic| row_cond st) => `(tactic| first
  | refine And.intro (by row_cond sd) ?_
  | refine ⟨_, by row_cond sd, ?_⟩
  | refine ⟨_, _, by row_cond sd, ?_⟩
  | refine ⟨_, _, by row_cond sd, by row_cond sd, ?_⟩
  | refine ⟨_, _, _, by row_cond sd, ?_⟩
  | refine ⟨_, _, _, by row_cond sd, by row_cond sd, ?_⟩
  | refine ⟨_, _, _, by row_cond sd, by row_cond sd, by row_cond sd, ?_⟩
  | refine ⟨_, _, _, _, by row_cond sd, ?_⟩
  | refine ⟨_, _, _, _, by row_cond sd, by row_cond sd, by row_cond sd, ?_⟩
  | refine ⟨_, _, _, _, by row_cond sd, by row_cond sd, by row_cond sd, by row_cond sd, ?_⟩
  | refine iteT ?_
  | refine iteF ?_)
local macro_rules | `(tactic| row_cond go) => `(tactic| repeat (row_cond st))
def r1_1 (A : Ad) (K : PySem.W.Frag) (R : BS) : BS := (bSeq (bIf (mNotT (mT (mCB oAll (mCons (mLc (miSq (mVar 7)) (nName 9) mYes (mCall (cO (m_law_same_y A K 4)) (mCons (mLst (mCons (mFldV A.BadCall "index" (mVar 9)) (mCons (mFldV A.BadCall "reason" (mVar 9)) mNil))) (mCons (mLst (mCons (mVar 3) (mCons (mVar 4) mNil))) mNil))) [9]) mNil))))  (bRet (mC (.d (.bl false))))  bNext) R)
def r1_2 (A : Ad) (K : PySem.W.Frag) (R : BS) : BS := (bSeq (bAsg (mOp oCat (mOp oIx (mVar 6) (mC (.d (.int 0)))) (mLst (mCons (mOp oIx (mVar 7) (mC (.d (.int 1)))) (mCons (mMkV0 A.Refused) (mCons (mMkV0 A.BadThing) mNil))))) (nName 9)) R)
def r1_3 (A : Ad) (K : PySem.W.Frag) : BS := (bSeq (bFor (miEn (mVar 9)) (nTup 2 (nCons (nName 5) (nCons (nName 11) nNil))) (l_law_3_k01 A K)) (k_law_4_k01 A K))
theorem r1_eq {A : Ad} {K : PySem.W.Frag} : k_law_5_k01 A K = (r1_1 A K (r1_2 A K (r1_3 A K))) := rfl
/-! ### the classes -/
def pi15 : List Nat := [0, 1, 3, 4, 5, 6, 7, 8, 9, 10, 11, 12, 2, 13, 14]
theorem cls_pi {A : Ad} {i : Nat} (hi : i < 15) : (errCls A)[pi15.getD i 0]? = (cls15 A)[i]? := by
  match i, hi with
  | 0, _ => rfl
  | 1, _ => rfl
  | 2, _ => rfl
  | 3, _ => rfl
  | 4, _ => rfl
  | 5, _ => rfl
  | 6, _ => rfl
  | 7, _ => rfl
  | 8, _ => rfl
  | 9, _ => rfl
  | 10, _ => rfl
  | 11, _ => rfl
  | 12, _ => rfl
  | 13, _ => rfl
  | 14, _ => rfl
  | _ + 15, h => omega
theorem pi_inj : ∀ i < 15, ∀ j < 15, decide (pi15.getD i 0 = pi15.getD j 0) = decide (i = j) := by decide +kernel
theorem kit15 {K : PySem.W.Frag} {A : Ad} (EK : ErrK K A) {i j : Nat} {D C : Addr} (hi : (cls15 A)[i]? = some D) (hj : (cls15 A)[j]? = some C) : PySem.W.kitOne K (.ref D) (.ref C) = some (decide (i = j)) := by
  have li : i < 15 := lt_of_get hi
  have lj : j < 15 := lt_of_get hj
  rw [← pi_inj i li j lj]
  exact EK.kit _ _ D C ((cls_pi li).trans hi) ((cls_pi lj).trans hj)
theorem cls_mem {A : Ad} {C : Addr} (h : C ∈ cls15 A) : C ∈ errCls A := by
  obtain ⟨i, hi⟩ := List.getElem?_of_mem h
  have li : i < 15 := lt_of_get hi
  exact List.mem_of_getElem? ((cls_pi li).trans hi)
theorem cls_all {A : Ad} {C : Addr} (h : C ∈ cls15 A) : C ∈ errAll A := List.mem_cons_of_mem _ (cls_mem h)
/-- an error of a class -/
def Exc (μ : MS) (e : Dv) (C : Addr) : Prop := ∃ fs, excV μ e = some (C, fs)
theorem Exc.app {μ g : MS} {e : Dv} {C : Addr} (h : Exc μ e C) : Exc (μ ++ g) e C := by
  obtain ⟨fs, h⟩ := h
  exact ⟨fs, excV_app h⟩
theorem exc_of {A : Ad} {μ : MS} {x : Dv} : ∀ {es : List Dv} {ps : List (Addr × Str)}, Paired (EvAt μ x) es ps → Paired (Exc μ) es (ps.map (·.1))
  | _, _, .nil => .nil
  | _, _, .cons a t => .cons ⟨_, a⟩ (exc_of (A := A) t)
theorem pyAll_bl {μ : MS} : ∀ bs : List Bool, PyAll μ (bs.map fun b => .d (.bl b)) (bs.map .bool)
  | [] => .nil
  | b :: r => .cons (.d rfl) (pyAll_bl r)
section
variable {A : Ad} {K : PySem.W.Frag} {μ : MS} {D : En} {R : BS}
theorem x1_5 {x y : Dv} {n6 n7 : Nat} {x2 x5 x8 x9 x10 x11 x12 : Option Dv} (M : Mde A x y n6 n7 3 μ)
    (hC : ∀ g, R D (env01 x2 x y x5 (some (.ob n6)) (some (.ob n7)) x8 x9 x10 x11 x12) (μ ++ g)) :
    r1_1 A K R D (env01 x2 x y x5 (some (.ob n6)) (some (.ob n7)) x8 x9 x10 x11 x12) μ := by
  obtain ⟨r1, r2, b1, b2, b3⟩ := M.r
  have one : ∀ (r : Nat) (g : MS) (Q : DK), excV μ (.ob r) = some (A.BadCall, [(("reason" : Str), y), (("index" : Str), x)]) → (∀ g', Q (.d (.bl true)) ((μ ++ g) ++ g')) →
      mCall (cO (m_law_same_y A K 4)) (mCons (mLst (mCons (mFldV A.BadCall "index" (mVar 9)) (mCons (mFldV A.BadCall "reason" (mVar 9)) mNil))) (mCons (mLst (mCons (mVar 3) (mCons (mVar 4) mNil))) mNil)) noX (env01 x2 x y x5 (some (.ob n6)) (some (.ob n7)) x8 (some (.ob r)) x10 x11 x12) (μ ++ g) Q := fun r g Q hr hQ => by
    have hr1 : excV (μ ++ g) (.ob r) = some (A.BadCall, [(("reason" : Str), y), (("index" : Str), x)]) := excV_app hr
    obtain ⟨tx, hx⟩ := (M.hx.app (g := g)).tr (by omega)
    obtain ⟨ty, hy⟩ := (M.hy.app (g := g)).tr (by omega)
    unfold env01
    refine ⟨_, rfl, _, x, hr1, rfl, _, rfl, _, y, hr1, rfl, show 2 ≤ sizeLine by decide, _, rfl, _, rfl, show 2 ≤ sizeLine by decide, ?_⟩
    have p1 : Paired (TrY (((μ ++ g) ++ [MO.lst [x, y]]) ++ [MO.lst [x, y]]) 3) [x, y] [tx, ty] := .cons ((hx.app _).app _) (.cons ((hy.app _).app _) .nil)
    refine x_same_y 4 (t := .lst [tx, ty]) (trY_list (lsD_appy lsV_last) p1 (by show 2 < 10000; decide)) (trY_list lsV_last p1 (by show 2 < 10000; decide)) _ _ fun g' => ?_
    have := hQ (([MO.lst [x, y]] ++ [MO.lst [x, y]]) ++ g')
    rw [← List.append_assoc, ← List.append_assoc] at this
    exact this
  unfold r1_1 env01
  refine ⟨_, rfl, _, lsD_sqy b1, lsD_sqy b1, ?_⟩
  refine lc_cons (d := .ob r1) (r := [.ob r2]) ?_
  have o1 := one r1 []
  rw [List.append_nil] at o1
  refine o1 _ b2 fun g1 => ?_
  refine ⟨show 0 < sizeLine by decide, lsD_sqy (lsD_appy b1), ?_⟩
  refine lc_cons (d := .ob r2) (r := []) ?_
  refine one r2 g1 _ b3 fun g2 => ?_
  refine ⟨show 1 < sizeLine by decide, lsD_sqy (lsD_appy (lsD_appy b1)), ?_⟩
  refine ⟨_, _, [true, true], rfl, lsV_last, rfl, ?_⟩
  row_cond go
  have := hC ((g1 ++ g2) ++ [MO.lst [.d (.bl true), .d (.bl true)]])
  rw [← List.append_assoc, ← List.append_assoc] at this
  exact this
theorem x1_6 {x y : Dv} {n6 n7 : Nat} {x2 x5 x8 x9 x10 x11 x12 : Option Dv} (M : Mde A x y n6 n7 3 μ)
    (hC : ∀ n9 es g, lsV (μ ++ g) (.ob n9) = some es → Paired (Exc (μ ++ g)) es (cls15 A) → R D (env01 x2 x y x5 (some (.ob n6)) (some (.ob n7)) x8 (some (.ob n9)) x10 x11 x12) (μ ++ g)) :
    r1_2 A K R D (env01 x2 x y x5 (some (.ob n6)) (some (.ob n7)) x8 x9 x10 x11 x12) μ := by
  obtain ⟨o1, o2, es1, es2, a1, a2, a3, a4, a5⟩ := M.o
  obtain ⟨r1, r2, b1, b2, b3⟩ := M.r
  have i6 : ixD μ (.ob n6) (.d (.int 0)) = some (.ob o1) := ix_sqy (j := 0) (lsD_sqy a1) rfl rfl
  have i7 : ixD μ (.ob n7) (.d (.int 1)) = some (.ob r2) := ix_sqy (j := 1) (lsD_sqy b1) rfl rfl
  have le : es1.length = 12 := Paired.length a3
  unfold r1_2 env01
  row_cond go
  refine ⟨show 3 ≤ sizeLine by decide, ?_⟩
  refine ⟨_, _, lsD_appy (lsD_appy (lsD_appy a2)), lsV_last, sz_small (by rw [le]; show 15 ≤ 1000; decide), ?_⟩
  have hl := lsV_last (μ := ((μ ++ [MO.exc A.Refused []]) ++ [MO.exc A.BadThing []]) ++ [MO.lst [.ob r2, .ob μ.length, .ob (μ ++ [MO.exc A.Refused []]).length]]) (ys := es1 ++ [.ob r2, .ob μ.length, .ob (μ ++ [MO.exc A.Refused []]).length])
  have hp : Paired (Exc ((((μ ++ [MO.exc A.Refused []]) ++ [MO.exc A.BadThing []]) ++ [MO.lst [.ob r2, .ob μ.length, .ob (μ ++ [MO.exc A.Refused []]).length]]) ++ [MO.lst (es1 ++ [.ob r2, .ob μ.length, .ob (μ ++ [MO.exc A.Refused []]).length])])) (es1 ++ [.ob r2, .ob μ.length, .ob (μ ++ [MO.exc A.Refused []]).length]) (cls15 A) :=
    Pd.append (Pd.imp (fun _ _ h => Exc.app (Exc.app (Exc.app (Exc.app h)))) (exc_of (A := A) a3)) (.cons (Exc.app (Exc.app (Exc.app (Exc.app ⟨_, b3⟩)))) (.cons (Exc.app (Exc.app (Exc.app ⟨_, excV_last⟩))) (.cons (Exc.app (Exc.app ⟨_, excV_last⟩)) .nil)))
  have key : ∀ (a b c d : MS) (n9 : Nat) (es : List Dv), lsV ((((μ ++ a) ++ b) ++ c) ++ d) (.ob n9) = some es → Paired (Exc ((((μ ++ a) ++ b) ++ c) ++ d)) es (cls15 A) → R D (env01 x2 x y x5 (some (.ob n6)) (some (.ob n7)) x8 (some (.ob n9)) x10 x11 x12) ((((μ ++ a) ++ b) ++ c) ++ d) := fun a b c d n9 es h1 h2 => by
    rw [List.append_assoc, List.append_assoc, List.append_assoc] at h1 h2 ⊢
    exact hC n9 es _ h1 h2
  exact key _ _ _ _ _ _ hl hp
end
end Mz
end
section
set_option Elab.async false
set_option linter.all false
set_option maxRecDepth 100000
set_option maxHeartbeats 1000000
namespace Mz
open PySem L2 TL
local macro_rules | `(tactic| row_cond sd) => `(tactic| first | with_reducible assumption | with_reducible exact rfl | exact rfl | exact True.intro | assumption | decide)
local macro_rules | `(tactic| row_cond st) => `(tactic| first
  | refine And.intro (by row_cond sd) ?_
  | refine ⟨_, by row_cond sd, ?_⟩
  | refine ⟨_, _, by row_cond sd, ?_⟩
  | refine ⟨_, _, by row_cond sd, by row_cond sd, ?_⟩
  | refine ⟨_, _, _, by row_cond sd, ?_⟩
  | refine ⟨_, _, _, by row_cond sd, by row_cond sd, ?_⟩
  | refine ⟨_, _, _, by row_cond sd, by row_cond sd, by row_cond sd, ?_⟩
  | refine ⟨_, _, _, _, by row_cond sd, ?_⟩
  | refine ⟨_, _, _, _, by row_cond sd, by row_cond sd, by row_cond sd, ?_⟩
  | refine ⟨_, _, _, _, by row_cond sd, by row_cond sd, by row_cond sd, by row_cond sd, ?_⟩
  | refine iteT ?_
  | refine iteF ?_)
local macro_rules | `(tactic| row_cond go) => `(tactic| repeat (row_cond st))
section
variable {A : Ad} {K : PySem.W.Frag} {μ : MS} {D : En} {R : BS}
theorem pVs_bl : ∀ bs : List Bool, pVs (bs.map fun b => Dv.d (.bl b)) = some (bs.map .bl)
  | [] => rfl
  | b :: r => by
    show (pVs (r.map fun b => Dv.d (.bl b))).map (V.bl b :: ·) = _
    rw [pVs_bl r]
    rfl
/-- one error of the fifteen -/
theorem x1_cls {x y : Dv} {i n9 : Nat} {e : Dv} {C : Addr} {es : List Dv} {x2 x6 x7 x8 x10 x12 : Option Dv} (EK : ErrK K A) (EM : ErrM K A) (hl : lsV μ (.ob n9) = some es) (hn : es.length = 15) (hi : (cls15 A)[i]? = some C) (he : Exc μ e C)
    (hN : ∀ g x12, D.nx (env01 x2 x y (some (.d (.int (i : Nat)))) x6 x7 x8 (some (.ob n9)) x10 (some e) x12) (μ ++ g)) :
    l_law_3_k01 A K D (env01 x2 x y (some (.d (.int (i : Nat)))) x6 x7 x8 (some (.ob n9)) x10 (some e) x12) μ := by
  obtain ⟨fs, he⟩ := he
  have hC : C ∈ errAll A := cls_all (mem_get hi)
  unfold l_law_3_k01 env01
  refine ⟨_, rfl, ?_⟩
  refine ⟨e, .d (.cls A.MakerError), C, fs, .ref A.MakerError, true, rfl, hC, he, rfl, EM.km C hC, ?_⟩
  row_cond go
  refine ⟨e, .d (.ty "ValueError"), C, fs, .type "ValueError", true, rfl, hC, he, rfl, EM.kv C hC, ?_⟩
  row_cond go
  refine x_classes (kb := fun C' => decide (PySem.W.kitOne K (.ref C) (.ref C') = some true)) hC he (fun C' hC' => ?_) fun n g h1 => ?_
  · obtain ⟨j, hj⟩ := List.getElem?_of_mem hC'
    rw [kit15 EK hi hj]
    cases decide (i = j) <;> rfl
  have eb : (cls15 A).map (fun C' => Dv.d (.bl (decide (PySem.W.kitOne K (.ref C) (.ref C') = some true)))) = ((List.range 15).map fun j => decide (j = i)).map fun b => Dv.d (.bl b) := by
    refine List.ext_getElem? fun j => ?_
    rw [List.getElem?_map, List.getElem?_map, List.getElem?_map]
    cases hj : (cls15 A)[j]? with
    | none =>
      have : 15 ≤ j := List.getElem?_eq_none_iff.mp hj
      rw [List.getElem?_eq_none (by simpa using this)]
      rfl
    | some C' =>
      have lj : j < 15 := lt_of_get hj
      rw [List.getElem?_range lj]
      simp only [Option.map_some, kit15 EK hi hj]
      by_cases e2 : i = j
      · subst e2
        simp
      · have e3 : ¬ j = i := fun z => e2 z.symm
        simp [e2, e3]
  rw [eb] at h1
  have h9 : lenD (μ ++ g) (.ob n9) = some 15 := by
    have := len_sqy (lsD_sqy (lsD_appy (r := g) hl))
    rw [hn] at this
    exact this
  refine ⟨_, rfl, _, rfl, trivial, 15, h9, (15 : Nat), rfl, by decide, trivial, ?_⟩
  have ei : (iwR 0 ((15 : Nat) : Int).toNat).items = (List.range 15).map fun j => Dv.d (.int (j : Nat)) := rfl
  rw [ei]
  refine lc_name (fun j : Nat => .d (.int (j : Nat))) (fun j => .d (.bl (decide (j = i)))) trivial (List.range 15) [] (fun j _ P hP => ?_) (by simp) ?_
  · have s1 : ∀ z : Int, Sh 0 (.int z) := fun z => sh_int
    refine ⟨_, rfl, _, rfl, .int (j : Nat), .int (i : Nat), .d rfl, .d rfl, (s1 _).ok (by decide), (s1 _).ok (by decide), ?_⟩
    rw [show PyData.eqv (.int ((j : Nat) : Int)) (.int ((i : Nat) : Int)) = decide (j = i) by
      simp only [PyData.eqv]
      by_cases e2 : j = i
      · subst e2; simp
      · rw [decide_eq_false e2]
        exact beq_eq_false_iff_ne.mpr fun z => e2 (by omega)]
    exact hP
  have sb : Sh 1 (.list (((List.range 15).map fun j => decide (j = i)).map .bool)) := sh_list fun q hq => by
    obtain ⟨b, _, rfl⟩ := List.mem_map.mp hq
    exact sh_bl
  have el : ([] ++ (List.range 15).map fun j => Dv.d (.bl (decide (j = i)))) = ((List.range 15).map fun j => decide (j = i)).map fun b => Dv.d (.bl b) := by
    rw [List.nil_append, List.map_map]
    rfl
  rw [el]
  refine ⟨_, _, .lst (lsD_appy h1) (pyAll_bl _), .lst lsV_last (pyAll_bl _), sb.ok (by decide), sb.ok (by decide), ?_⟩
  rw [SeqAt.eqv_refl _ sb.1]
  row_cond go
  have := hN (g ++ [MO.lst (((List.range 15).map fun j => decide (j = i)).map fun b => Dv.d (.bl b))]) x12
  rw [← List.append_assoc] at this
  exact this
theorem x1_7 {x y : Dv} {n6 n7 n9 : Nat} {es : List Dv} {x2 x5 x8 x10 x11 x12 : Option Dv} (EK : ErrK K A) (EM : ErrM K A) (hl : lsV μ (.ob n9) = some es) (hp : Paired (Exc μ) es (cls15 A))
    (hN : ∀ x5 x10 x11 x12 ν, D.nx (env01 x2 x y x5 (some (.ob n6)) (some (.ob n7)) x8 (some (.ob n9)) x10 x11 x12) ν) :
    r1_3 A K D (env01 x2 x y x5 (some (.ob n6)) (some (.ob n7)) x8 (some (.ob n9)) x10 x11 x12) μ := by
  have le : es.length = 15 := Paired.length hp
  have o9 : okS (.ob n9) := trivial
  unfold r1_3 env01
  row_cond go
  refine loop_by (fun i α ν => ∃ x5 x11 x12 g, α = env01 x2 x y x5 (some (.ob n6)) (some (.ob n7)) x8 (some (.ob n9)) x10 x11 x12 ∧ ν = μ ++ g) ?_ ?_ ⟨_, _, _, [], rfl, by simp⟩
  · rintro i d α ν N hi ⟨x5, x11, x12, g, rfl, rfl⟩ hN1
    obtain ⟨e, he, rfl⟩ := en_get hi
    obtain ⟨C, hC, hx⟩ := Paired.getL hp he
    refine ⟨_, tp_mky, rfl, ?_⟩
    refine ⟨_, _, rfl, ?_⟩
    dsimp only [nName]
    refine ⟨_, _, rfl, ?_⟩
    dsimp only [nName]
    refine ⟨rfl, ?_⟩
    show l_law_3_k01 A K _ (env01 x2 x y (some (.d (.int (i : Nat)))) (some (.ob n6)) (some (.ob n7)) x8 (some (.ob n9)) x10 (some e) x12) (μ ++ g)
    refine x1_cls EK EM (lsD_appy hl) le hC (Exc.app hx) fun g2 x12 => ?_
    exact ⟨by rw [List.append_assoc]; exact lsD_sqy (lsD_appy hl), hN1 _ _ ⟨_, _, _, g ++ g2, rfl, by rw [List.append_assoc]⟩⟩
  · rintro α ν ⟨x5, x11, x12, g, rfl, rfl⟩
    show k_law_4_k01 A K D (env01 x2 x y x5 (some (.ob n6)) (some (.ob n7)) x8 (some (.ob n9)) x10 x11 x12) (μ ++ g)
    unfold k_law_4_k01 env01
    row_cond go
    refine x_classes (kb := fun _ => false) (D := A.MakerError) (by simp [errAll]) excV_last (fun C hC => EM.kn C (cls_mem hC)) fun n g2 h1 => ?_
    refine ⟨_, _, _, rfl, lsD_sqy h1, pVs_bl (List.replicate 15 false), ?_⟩
    row_cond go
    exact hN _ _ _ _ _
theorem x_law01 {D : En} (EK : ErrK K A) (EM : ErrM K A) (hD : ∀ μ, D.rt (.d (.bl true)) μ) (hE : D.er = noX) : b_law_k01 A K D [none, some (.d .st), none, none, none, none, none, none, none, none, none, none, none] [.tb A.lawT lamQ] := by
  unfold b_law_k01
  show bSeq (bFor (miR1 (mCons (mC (.d (.int 4))) mNil)) (nName 2) (l_law_7_k01 A K)) (k_law_8_k01 A K) _ _ _
  refine ⟨4, rfl, by decide, trivial, ?_⟩
  refine loop_by (fun i α μ => ∃ x2 x3 x4 x5 x6 x7 x8 x9 x10 x11 x12, α = [none, some (.d .st), x2, x3, x4, x5, x6, x7, x8, x9, x10, x11, x12]) ?_ ?_ ⟨none, none, none, none, none, none, none, none, none, none, none, rfl⟩
  · rintro i d α μ N hi ⟨x2, x3, x4, x5, x6, x7, x8, x9, x10, x11, x12, rfl⟩ hN
    show l_law_7_k01 A K _ [none, some (.d .st), some d, x3, x4, x5, x6, x7, x8, x9, x10, x11, x12] μ
    rw [q1_eq]
    refine x1_1 fun x y g hx hy => ?_
    refine x1_2 hx hy fun n6 n7 g2 M => ?_
    refine x1_3 M fun x8 ν M3 => ?_
    refine x1_4 M3 fun x9 x10 g3 => ?_
    rw [r1_eq]
    refine x1_5 M3.app fun g4 => ?_
    refine x1_6 M3.app.app fun n9 es g5 hl hp => ?_
    refine x1_7 EK EM hl hp fun x5 x10 x11 x12 ν => ?_
    exact ⟨trivial, hN _ _ ⟨_, _, _, _, _, _, _, _, _, _, _, rfl⟩⟩
  · rintro α ν ⟨x2, x3, x4, x5, x6, x7, x8, x9, x10, x11, x12, rfl⟩
    show k_law_8_k01 A K D [none, some (.d .st), x2, x3, x4, x5, x6, x7, x8, x9, x10, x11, x12] ν
    unfold k_law_8_k01
    refine ⟨_, .d (.ty "ValueError"), A.MakerError, [], .type "ValueError", true, rfl, by simp [errAll], excV_last, rfl, EM.kv _ (by simp [errAll]), ?_⟩
    exact hD _
end
end Mz
end
section
set_option Elab.async false
set_option linter.all false
set_option maxRecDepth 100000
set_option maxHeartbeats 4000000
namespace Mz
open PySem L2
section
variable {P : Program} {w : World} {K : PySem.W.Frag} {mg : Str → Option Value} {base : Heap} {A : Ad} {B : Bd}
theorem ok_law (T : Tx w K mg A B) (hP : SupP P lawFile) (TB : ∀ c, B.d_law.code = .ref c → LamX.TabB base mg c A.lawT) : FnOk P w K mg base CX0 6 B.f_law B.d_law ["_law_script"] (spLawT K A.lawT) := by
  have G_law_fresh := ok_law_fresh (P := P) (base := base) T
  have G_law_one_o := ok_law_one_o (P := P) (base := base) T
  have G_law_same_y := ok_law_same_y (P := P) (base := base) T 4
  have G_law_with_one := ok_law_with_one (P := P) (base := base) T hP
  have G_law_by_place := ok_law_by_place (P := P) (base := base) T hP
  have G_law_held := ok_law_held (P := P) (base := base) T
  have G_law_classes := ok_law_classes (P := P) (base := base) T
  refine T.F_law.okT sc_law (fun vs H Q E h => ?_) (fun c hc AA outer s H vs Q E hr h => ?_)
  · obtain ⟨a, ns, rfl, _⟩ := h; rfl
  · exact ⟨_, (pss_cons (ps_set (i := 1) sc_law.nd rfl (.inr rfl) (pe_call G_law_fresh (hr.mono (by decide)) (by rfl) T.m_law_fresh T.F_law_fresh.kp T.b_law_fresh .nil pass0 (pa_cons (pv 0) pa_nil)))
(pss_cons (ps_for PassesOwn.never rfl (pi_range1 (by rfl) T.n_range (pa_cons pe_int pa_nil)) (pg_name (i := 2) sc_law.nd rfl (.inl rfl))
(pss_cons (ps_asg (pe_lc (own := [("_law_k", 5)]) (g := (gName 5)) (by rfl) sc_law.nd (pi_range1 (by rfl) T.n_range (pa_cons pe_int pa_nil)) (blkOk_by (own := [("_law_k", 5)]) (N := N_law) (sc := defScope s_law) (by decide +kernel)) (fun _ _ _ _ _ => (pg_name (i := 5) sc_law.nd rfl (.inl rfl))) (fun _ _ _ _ _ => pts_nil) (fun _ _ _ _ _ => (pe_call G_law_one_o (hr.mono (by decide)) (by rfl) T.m_law_one_o T.F_law_one_o.kp T.b_law_one_o .nil pass0 (pa_cons (pv 1) (pa_cons (pe_lst (pa_cons (pv 5) (pa_cons (pe_op op_mul_str pe_str (pv 5)) (pa_cons (pe_lst (pa_cons (pv 5) pa_nil)) (pa_cons (pe_tup (pa_cons (pv 5) (pa_cons (pe_lst (pa_cons (pv 5) pa_nil)) pa_nil))) (pa_cons pe_non (pa_cons pe_bl (pa_cons (pe_disp (pps_cons pe_str (pv 5) pps_nil) (by rfl) (by rfl) (fun z => by cases z) (by decide)) pa_nil)))))))) pa_nil))))) (pg_seq rfl (pgs_cons (pg_name (i := 3) sc_law.nd rfl (.inr rfl)) (pgs_cons (pg_name (i := 4) sc_law.nd rfl (.inr rfl)) pgs_nil))))
(pss_cons (ps_par (i := 6) (j := 7) (by rfl) sc_law.nd rfl rfl (by decide) rfl rfl (pa_cons (pe_lst (pa_cons (pe_call G_law_with_one (hr.mono (by decide)) (by rfl) T.m_law_with_one T.F_law_with_one.kp T.b_law_with_one .nil pass0 (pa_cons (pv 3) pa_nil)) (pa_cons (pe_call G_law_by_place (hr.mono (by decide)) (by rfl) T.m_law_by_place T.F_law_by_place.kp T.b_law_by_place .nil pass0 (pa_cons (pv 3) pa_nil)) pa_nil))) (pa_cons (pe_lst (pa_cons (pe_mkVP (ev_BadCall_p (P := P) (w := w) (base := base) T hP) (by decide) (hr.mono (by decide)) (by rfl) T.g_BadCall (pa_cons (pv 3) (pa_cons (pv 4) pa_nil))) (pa_cons (pe_mkVK (ev_BadCall_r (P := P) (w := w) (base := base) T hP) (hr.mono (by decide)) (by rfl) T.g_BadCall (pk_cons (pv 4) (pk_cons (pv 3) pk_nil))) pa_nil))) pa_nil)) (by rfl))
(pss_cons (ps_for PassesOwn.never rfl (pi_sqK K (pe_lst (pa_cons (pv 3) (pa_cons (pv 4) pa_nil)))) (pg_name (i := 8) sc_law.nd rfl (.inl rfl))
(pss_one (ps_if (pt_val (pe_callB (call_isiKK K) (by rfl) T.n_isinstance (by decide +kernel) (pa_cons (pv 8) (pa_cons (pe_bltn (v := .ty "list") (u := .type "list") (by rfl) T.n_list (by decide +kernel) rfl) pa_nil))))
(pss_one (ps_expr (pe_bm PySem.F.plainAttrs_list PySem.F.slot_list_append PySem.F.type_list_append mt_append (pv 8) (pa_cons pe_str pa_nil))))
pss_nil)))
(pss_cons (ps_for PassesOwn.never rfl (pi_sqK K (pv 6)) (pg_name (i := 9) sc_law.nd rfl (.inl rfl))
(pss_one (ps_if (pt_not (pt_val (pe_callB (cr_allK K rfl) (by rfl) T.n_all (by decide +kernel) (pa_cons (pe_lc (own := [("_law_found", 10)]) (g := (gName 10)) (by rfl) sc_law.nd (pi_sqK K (pe_call G_law_held (hr.mono (by decide)) (by rfl) T.m_law_held T.F_law_held.kp T.b_law_held .nil pass0 (pa_cons (pv 9) pa_nil))) (blkOk_by (own := [("_law_found", 10)]) (N := N_law) (sc := defScope s_law) (by decide +kernel)) (fun _ _ _ _ _ => (pg_name (i := 10) sc_law.nd rfl (.inl rfl))) (fun _ _ _ _ _ => pts_nil) (fun _ _ _ _ _ => (pe_call G_law_same_y (hr.mono (by decide)) (by rfl) T.m_law_same_y T.F_law_same_y.kp T.b_law_same_y .nil pass0 (pa_cons (pv 10) (pa_cons (pv 3) pa_nil))))) pa_nil))))
(pss_one (ps_ret pe_bl))
pss_nil)))
(pss_cons (ps_if (pt_not (pt_val (pe_callB (cr_allK K rfl) (by rfl) T.n_all (by decide +kernel) (pa_cons (pe_lc (own := [("_law_made", 9)]) (g := (gName 9)) (by rfl) sc_law.nd (pi_sqK K (pv 7)) (blkOk_by (own := [("_law_made", 9)]) (N := N_law) (sc := defScope s_law) (by decide +kernel)) (fun _ _ _ _ _ => (pg_name (i := 9) sc_law.nd rfl (.inl rfl))) (fun _ _ _ _ _ => pts_nil) (fun _ _ _ _ _ => (pe_call G_law_same_y (hr.mono (by decide)) (by rfl) T.m_law_same_y T.F_law_same_y.kp T.b_law_same_y .nil pass0 (pa_cons (pe_lst (pa_cons (pe_fV (T.xk.xf A.BadCall (by simp [errCls])) T.na_BadCall_index (pv 9)) (pa_cons (pe_fV (T.xk.xf A.BadCall (by simp [errCls])) T.na_BadCall_reason (pv 9)) pa_nil))) (pa_cons (pe_lst (pa_cons (pv 3) (pa_cons (pv 4) pa_nil))) pa_nil))))) pa_nil))))
(pss_one (ps_ret pe_bl))
pss_nil)
(pss_cons (ps_set (i := 9) sc_law.nd rfl (.inl rfl) (pe_op op_cat (pe_ix (ix_seqK K) (pv 6) pe_int (fun _ _ => rfl)) (pe_lst (pa_cons (pe_ix (ix_seqK K) (pv 7) pe_int (fun _ _ => rfl)) (pa_cons (pe_mkV0 T.xz_Refused (by rfl) T.g_Refused) (pa_cons (pe_mkV0 T.xz_BadThing (by rfl) T.g_BadThing) pa_nil))))))
(pss_cons (ps_for PassesOwn.never rfl (pi_enSq (by rfl) T.n_enumerate (pa_cons (pv 9) pa_nil)) (pg_tup rfl (pgs_cons (pg_name (i := 5) sc_law.nd rfl (.inr rfl)) (pgs_cons (pg_name (i := 11) sc_law.nd rfl (.inl rfl)) pgs_nil)))
(pss_cons (ps_if (PW.pt (pw_or (pt_not (pt_val (pe_callB (call_isVL K T.xm.exc) (by rfl) T.n_isinstance (by decide +kernel) (pa_cons (pv 11) (pa_cons (pe_glob (v := .ref A.MakerError) (by rfl) T.g_MakerError rfl) pa_nil))))) (pw_or1 (pt_not (pt_val (pe_callB (call_isVL K T.xm.exc) (by rfl) T.n_isinstance (by decide +kernel) (pa_cons (pv 11) (pa_cons (pe_bltn (v := .ty "ValueError") (u := .type "ValueError") (by rfl) T.n_ValueError (by decide +kernel) rfl) pa_nil))))))))
(pss_one (ps_ret pe_bl))
pss_nil)
(pss_one (ps_if (pt_cmpR (op_neDK K hr.units) (pe_call G_law_classes (hr.mono (by decide)) (by rfl) T.m_law_classes T.F_law_classes.kp T.b_law_classes .nil pass0 (pa_cons (pv 11) pa_nil)) (pe_lc (own := [("_law_at", 12)]) (g := (gName 12)) (by rfl) sc_law.nd (pi_range1 (by rfl) T.n_range (pa_cons (pe_callB (call_lenAnyK K) (by rfl) T.n_len PySem.boot_len (pa_cons (pv 9) pa_nil)) pa_nil)) (blkOk_by (own := [("_law_at", 12)]) (N := N_law) (sc := defScope s_law) (by decide +kernel)) (fun _ _ _ _ _ => (pg_name (i := 12) sc_law.nd rfl (.inl rfl))) (fun _ _ _ _ _ => pts_nil) (fun _ _ _ _ _ => (pe_cmpR (op_eqDK K hr.units) (pv 12) (pv 5) (nomark _)))) (nomark _))
(pss_one (ps_ret pe_bl))
pss_nil))))
(pss_one (ps_if (pt_cmpR (op_in_seqK K) pe_bl (pe_call G_law_classes (hr.mono (by decide)) (by rfl) T.m_law_classes T.F_law_classes.kp T.b_law_classes .nil pass0 (pa_cons (pe_mkV0 T.xz_MakerError (by rfl) T.g_MakerError) pa_nil)) (by rfl))
(pss_one (ps_ret pe_bl))
pss_nil))))))))))
(pss_one (ps_ret (pe_callB (call_isVL K T.xm.exc) (by rfl) T.n_isinstance (by decide +kernel) (pa_cons (pe_mkV0 T.xz_MakerError (by rfl) T.g_MakerError) (pa_cons (pe_bltn (v := .ty "ValueError") (u := .type "ValueError") (by rfl) T.n_ValueError (by decide +kernel) rfl) pa_nil))))))), law_okT (A := A) (N := N_law) (m := 11) (fun st => (ss_seq (ss_for (si_r1 (sa_cons se_int sa_nil)) (sg_name 2)
(ss_seq (ss_asg (se_lc (si_r1 (sa_cons se_int sa_nil)) (sw_name (vs := [5]) 5 (by decide)) st_yes (se_call (sc_O0 ne_law_one_o) (sa_cons (se_var 1) (sa_cons (se_lst (sa_cons (se_var 5) (sa_cons (se_op so_mulS se_str (se_var 5)) (sa_cons (se_lst (sa_cons (se_var 5) sa_nil)) (sa_cons (se_tup (sa_cons (se_var 5) (sa_cons (se_lst (sa_cons (se_var 5) sa_nil)) sa_nil))) (sa_cons se_non (sa_cons se_bl (sa_cons (se_fz (se_disp (.cons se_str (se_var 5) .nil))) sa_nil)))))))) sa_nil)))) (sg_seq (sg_cons (sg_name 3) (sg_cons (sg_name 4) sg_nil))))
(ss_seq (ss_par (sa_cons (se_lst (sa_cons (se_call (sc_O0 ne_law_with_one) (sa_cons (se_var 3) sa_nil)) (sa_cons (se_call (sc_O0 ne_law_by_place) (sa_cons (se_var 3) sa_nil)) sa_nil))) (sa_cons (se_lst (sa_cons (se_mkV2 T.xe_BadCall.T (T.xe_BadCall.nof _ (by simp)) (T.xe_BadCall.nof _ (by simp)) (sa_cons (se_var 3) (sa_cons (se_var 4) sa_nil)) sa_nil) (sa_cons (se_mkV2r T.xe_BadCall.T (T.xe_BadCall.nof _ (by simp)) (T.xe_BadCall.nof _ (by simp)) (sa_cons (se_var 4) (sa_cons (se_var 3) sa_nil))) sa_nil))) sa_nil)))
(ss_seq (ss_for (si_sq (se_lst (sa_cons (se_var 3) (sa_cons (se_var 4) sa_nil)))) (sg_name 8)
(ss_if (st_val (se_cb (show SB ⟨K, st⟩ (rIsi K) (oIsi K) from so_isi) (sa_cons (se_var 8) (sa_cons se_ty sa_nil))))
(ss_drop (se_bm sm_append (se_var 8) (sa_cons se_str sa_nil)))
ss_next))
(ss_seq (ss_for (si_sq (se_var 6)) (sg_name 9)
(ss_if (st_not (st_val (se_cb so_all (sa_cons (se_lc (si_sq (se_call (sc_O0 ne_law_held) (sa_cons (se_var 9) sa_nil))) (sw_name (vs := [10]) 10 (by decide)) st_yes (se_call (sc_O0 (ne_law_same_y _)) (sa_cons (se_var 10) (sa_cons (se_var 3) sa_nil)))) sa_nil))))
(ss_ret se_bl)
ss_next))
(ss_seq (ss_if (st_not (st_val (se_cb so_all (sa_cons (se_lc (si_sq (se_var 7)) (sw_name (vs := [9]) 9 (by decide)) st_yes (se_call (sc_O0 (ne_law_same_y _)) (sa_cons (se_lst (sa_cons (se_fldV (se_var 9)) (sa_cons (se_fldV (se_var 9)) sa_nil))) (sa_cons (se_lst (sa_cons (se_var 3) (sa_cons (se_var 4) sa_nil))) sa_nil)))) sa_nil))))
(ss_ret se_bl)
ss_next)
(ss_seq (ss_asg (se_op so_cat (se_op so_ix (se_var 6) se_int) (se_lst (sa_cons (se_op so_ix (se_var 7) se_int) (sa_cons se_mkV0 (sa_cons se_mkV0 sa_nil))))) (sg_name 9))
(ss_seq (ss_for (si_en (sa_cons (se_var 9) sa_nil)) (sg_tup (sg_cons (sg_name 5) (sg_cons (sg_name 11) sg_nil)))
(ss_seq (ss_if (st_or (st_not (st_val (se_cb (show SB ⟨K, st⟩ (rIsVL K (errAll A)) (oIsV K (errAll A)) from so_isV) (sa_cons (se_var 11) (sa_cons se_cls sa_nil))))) (st_not (st_val (se_cb (show SB ⟨K, st⟩ (rIsVL K (errAll A)) (oIsV K (errAll A)) from so_isV) (sa_cons (se_var 11) (sa_cons se_ty sa_nil))))))
(ss_ret se_bl)
ss_next)
(ss_if (st_test (se_op so_neD (se_call (sc_O0 ne_law_classes) (sa_cons (se_var 11) sa_nil)) (se_lc (si_r1 (sa_cons (se_cb so_len (sa_cons (se_var 9) sa_nil)) sa_nil)) (sw_name (vs := [12]) 12 (by decide)) st_yes (se_op so_eqD (se_var 12) (se_var 5)))))
(ss_ret se_bl)
ss_next)))
(ss_if (st_test (se_op so_in se_bl (se_call (sc_O0 ne_law_classes) (sa_cons se_mkV0 sa_nil))))
(ss_ret se_bl)
ss_next)))))))))
(ss_ret (se_cb (show SB ⟨K, st⟩ (rIsVL K (errAll A)) (oIsV K (errAll A)) from so_isV) (sa_cons se_mkV0 (sa_cons se_ty sa_nil)))))) rfl (fun D hD hE => x_law01 T.xk T.xm hD hE) h⟩
end
end Mz
end
section
set_option Elab.async false
set_option linter.all false
set_option maxRecDepth 100000
set_option maxHeartbeats 4000000
set_option maxHeartbeats 0
namespace Mz
open PySem L2
theorem hk_facts {l : PySem.W.OpenLaw} {w : World} {K : PySem.W.Frag} {h : Heap} {mg : Str → Option Value} {fa : Addr} (X : K.In h) (G : h.Ns mainGlobals mg) (hfa : mg "law" = some (.ref fa)) (hP : SupP l.prog lawFile) (c : SaysZ hk_fa hk_fn hk_ts hk_en [("law", none)] hk_x w h K) :
    LamX.LawAtS l w K CX0 6 63 "_law_script" mg fa h := by
  obtain ⟨fd_law_fill, F_law_fill⟩ := c.t.d.def_ 0 (d := hd_law_fill) rfl
  obtain ⟨fd_law_take, F_law_take⟩ := c.t.d.def_ 1 (d := hd_law_take) rfl
  obtain ⟨fd_law_fresh, F_law_fresh⟩ := c.t.d.def_ 2 (d := hd_law_fresh) rfl
  obtain ⟨fd_law_with_one, F_law_with_one⟩ := c.t.d.def_ 3 (d := hd_law_with_one) rfl
  obtain ⟨fd_law_by_place, F_law_by_place⟩ := c.t.d.def_ 4 (d := hd_law_by_place) rfl
  obtain ⟨fd_law_held, F_law_held⟩ := c.t.d.def_ 5 (d := hd_law_held) rfl
  obtain ⟨fd_law_classes, F_law_classes⟩ := c.t.d.def_ 6 (d := hd_law_classes) rfl
  obtain ⟨fd_law, F_law⟩ := c.t.d.def_ 7 (d := hd_law) rfl
  obtain ⟨fd_law_one_o, F_law_one_o⟩ := c.t.d.def_ 8 (d := hd_law_one_o) rfl
  obtain ⟨fd_law_same_y, F_law_same_y⟩ := c.t.d.def_ 9 (d := hd_law_same_y) rfl
  have e := hfa.symm.trans (He.glo_ok X G (c.t.d.fact 7 (f := .glo "law") rfl))
  cases e
  have T : Tx w K mg ⟨He.ga K "MakerError", He.ga K "BadField", He.ga K "BadModes", He.ga K "BadCall", He.ga K "UnknownCall", He.ga K "BadPlace", He.ga K "BadText", He.ga K "BadRow", He.ga K "BadWord", He.ga K "Refused", He.ga K "BadThing", He.ga K "BadWish", He.ga K "BadRun", He.ga K "BadCallers", He.ga K "BadKind", He.ga K "BadRule", 0, 0, 0, 0, 0, 0, 0, 0, 0, 0, 0, 0, 0, 0, dkA K "DEEDS" "one", dkA K "DEEDS" "many", 0, 0, 0, (He.cT K ("law", none)).2⟩ { f_law_fill := (He.ga K "_law_fill"), d_law_fill := fd_law_fill, f_law_take := (He.ga K "_law_take"), d_law_take := fd_law_take, f_law_fresh := (He.ga K "_law_fresh"), d_law_fresh := fd_law_fresh, f_law_one_o := (He.ga K "_law_one"), d_law_one_o := fd_law_one_o, f_law_same_y := (He.ga K "_law_same"), d_law_same_y := fd_law_same_y, f_law_with_one := (He.ga K "_law_with_one"), d_law_with_one := fd_law_with_one, f_law_by_place := (He.ga K "_law_by_place"), d_law_by_place := fd_law_by_place, f_law_held := (He.ga K "_law_held"), d_law_held := fd_law_held, f_law_classes := (He.ga K "_law_classes"), d_law_classes := fd_law_classes, f_law := (He.ga K "law"), d_law := fd_law } := {
    xk := errKZ_ok (ex_at c.more 0 (f := errKZ) rfl) rfl rfl
    xm := errMZ_ok (ex_at c.more 1 (f := errMZ) rfl) rfl rfl
    xe_BadCall := errZ_ok (He.free_ok X G (c.t.d.fact 10 (f := .free "super") rfl)) (en_at c.en 0 (e := ed_BadCall) rfl) (ex_at c.more 2 (f := errZ lawFile ed_BadCall) rfl)
    xe_BadCallers := errZ_ok (He.free_ok X G (c.t.d.fact 10 (f := .free "super") rfl)) (en_at c.en 1 (e := ed_BadCallers) rfl) (ex_at c.more 3 (f := errZ lawFile ed_BadCallers) rfl)
    xe_BadField := errZ_ok (He.free_ok X G (c.t.d.fact 10 (f := .free "super") rfl)) (en_at c.en 2 (e := ed_BadField) rfl) (ex_at c.more 4 (f := errZ lawFile ed_BadField) rfl)
    xe_BadKind := errZ_ok (He.free_ok X G (c.t.d.fact 10 (f := .free "super") rfl)) (en_at c.en 3 (e := ed_BadKind) rfl) (ex_at c.more 5 (f := errZ lawFile ed_BadKind) rfl)
    xe_BadModes := errZ_ok (He.free_ok X G (c.t.d.fact 10 (f := .free "super") rfl)) (en_at c.en 4 (e := ed_BadModes) rfl) (ex_at c.more 6 (f := errZ lawFile ed_BadModes) rfl)
    xe_BadPlace := errZ_ok (He.free_ok X G (c.t.d.fact 10 (f := .free "super") rfl)) (en_at c.en 5 (e := ed_BadPlace) rfl) (ex_at c.more 7 (f := errZ lawFile ed_BadPlace) rfl)
    xe_BadRow := errZ_ok (He.free_ok X G (c.t.d.fact 10 (f := .free "super") rfl)) (en_at c.en 6 (e := ed_BadRow) rfl) (ex_at c.more 8 (f := errZ lawFile ed_BadRow) rfl)
    xe_BadRule := errZ_ok (He.free_ok X G (c.t.d.fact 10 (f := .free "super") rfl)) (en_at c.en 7 (e := ed_BadRule) rfl) (ex_at c.more 9 (f := errZ lawFile ed_BadRule) rfl)
    xe_BadRun := errZ_ok (He.free_ok X G (c.t.d.fact 10 (f := .free "super") rfl)) (en_at c.en 8 (e := ed_BadRun) rfl) (ex_at c.more 10 (f := errZ lawFile ed_BadRun) rfl)
    xe_BadText := errZ_ok (He.free_ok X G (c.t.d.fact 10 (f := .free "super") rfl)) (en_at c.en 9 (e := ed_BadText) rfl) (ex_at c.more 11 (f := errZ lawFile ed_BadText) rfl)
    xz_BadThing := err0_ok (ex_at c.more 12 (f := fun K => err0B K (He.ga K "BadThing")) rfl)
    xe_BadWish := errZ_ok (He.free_ok X G (c.t.d.fact 10 (f := .free "super") rfl)) (en_at c.en 10 (e := ed_BadWish) rfl) (ex_at c.more 13 (f := errZ lawFile ed_BadWish) rfl)
    xe_BadWord := errZ_ok (He.free_ok X G (c.t.d.fact 10 (f := .free "super") rfl)) (en_at c.en 11 (e := ed_BadWord) rfl) (ex_at c.more 14 (f := errZ lawFile ed_BadWord) rfl)
    xz_MakerError := err0_ok (ex_at c.more 15 (f := fun K => err0B K (He.ga K "MakerError")) rfl)
    xz_Refused := err0_ok (ex_at c.more 16 (f := fun K => err0B K (He.ga K "Refused")) rfl)
    xe_UnknownCall := errZ_ok (He.free_ok X G (c.t.d.fact 10 (f := .free "super") rfl)) (en_at c.en 12 (e := ed_UnknownCall) rfl) (ex_at c.more 17 (f := errZ lawFile ed_UnknownCall) rfl)
    n_len := He.free_ok X G (c.t.d.fact 11 (f := .free "len") rfl)
    n_int := He.free_ok X G (c.t.d.fact 12 (f := .free "int") rfl)
    n_bool := He.free_ok X G (c.t.d.fact 13 (f := .free "bool") rfl)
    n_list := He.free_ok X G (c.t.d.fact 14 (f := .free "list") rfl)
    n_tuple := He.free_ok X G (c.t.d.fact 15 (f := .free "tuple") rfl)
    n_range := He.free_ok X G (c.t.d.fact 16 (f := .free "range") rfl)
    n_enumerate := He.free_ok X G (c.t.d.fact 17 (f := .free "enumerate") rfl)
    n_zip := He.free_ok X G (c.t.d.fact 18 (f := .free "zip") rfl)
    n_isinstance := He.free_ok X G (c.t.d.fact 19 (f := .free "isinstance") rfl)
    n_all := He.free_ok X G (c.t.d.fact 20 (f := .free "all") rfl)
    n_ValueError := He.free_ok X G (c.t.d.fact 21 (f := .free "ValueError") rfl)
    g_BadCall := He.glo_ok X G (c.t.d.fact 22 (f := .glo "BadCall") rfl)
    g_BadCallers := He.glo_ok X G (c.t.d.fact 23 (f := .glo "BadCallers") rfl)
    g_BadField := He.glo_ok X G (c.t.d.fact 24 (f := .glo "BadField") rfl)
    g_BadKind := He.glo_ok X G (c.t.d.fact 25 (f := .glo "BadKind") rfl)
    g_BadModes := He.glo_ok X G (c.t.d.fact 26 (f := .glo "BadModes") rfl)
    g_BadPlace := He.glo_ok X G (c.t.d.fact 27 (f := .glo "BadPlace") rfl)
    g_BadRow := He.glo_ok X G (c.t.d.fact 28 (f := .glo "BadRow") rfl)
    g_BadRule := He.glo_ok X G (c.t.d.fact 29 (f := .glo "BadRule") rfl)
    g_BadRun := He.glo_ok X G (c.t.d.fact 30 (f := .glo "BadRun") rfl)
    g_BadText := He.glo_ok X G (c.t.d.fact 31 (f := .glo "BadText") rfl)
    g_BadThing := He.glo_ok X G (c.t.d.fact 32 (f := .glo "BadThing") rfl)
    g_BadWish := He.glo_ok X G (c.t.d.fact 33 (f := .glo "BadWish") rfl)
    g_BadWord := He.glo_ok X G (c.t.d.fact 34 (f := .glo "BadWord") rfl)
    g_MakerError := He.glo_ok X G (c.t.d.fact 35 (f := .glo "MakerError") rfl)
    g_Refused := He.glo_ok X G (c.t.d.fact 36 (f := .glo "Refused") rfl)
    g_UnknownCall := He.glo_ok X G (c.t.d.fact 37 (f := .glo "UnknownCall") rfl)
    na_BadCall_index := He.noat_ok (c.t.d.fact 38 (f := .noat "BadCall" "index") rfl)
    na_BadCall_reason := He.noat_ok (c.t.d.fact 39 (f := .noat "BadCall" "reason") rfl)
    na_BadCallers_callers := He.noat_ok (c.t.d.fact 40 (f := .noat "BadCallers" "callers") rfl)
    na_BadField_index := He.noat_ok (c.t.d.fact 41 (f := .noat "BadField" "index") rfl)
    na_BadKind_kind := He.noat_ok (c.t.d.fact 42 (f := .noat "BadKind" "kind") rfl)
    na_BadModes_modes := He.noat_ok (c.t.d.fact 43 (f := .noat "BadModes" "modes") rfl)
    na_BadPlace_place := He.noat_ok (c.t.d.fact 44 (f := .noat "BadPlace" "place") rfl)
    na_BadRow_index := He.noat_ok (c.t.d.fact 45 (f := .noat "BadRow" "index") rfl)
    na_BadRule_index := He.noat_ok (c.t.d.fact 46 (f := .noat "BadRule" "index") rfl)
    na_BadRun_thing := He.noat_ok (c.t.d.fact 47 (f := .noat "BadRun" "thing") rfl)
    na_BadText_line := He.noat_ok (c.t.d.fact 48 (f := .noat "BadText" "line") rfl)
    na_BadWish_wish := He.noat_ok (c.t.d.fact 49 (f := .noat "BadWish" "wish") rfl)
    na_BadWord_word := He.noat_ok (c.t.d.fact 50 (f := .noat "BadWord" "word") rfl)
    na_UnknownCall_name := He.noat_ok (c.t.d.fact 51 (f := .noat "UnknownCall" "name") rfl)
    F_law_fill := fun_of (st := s_law_fill) F_law_fill
    m_law_fill := He.glo_ok X G (c.t.d.fact 0 (f := .glo "_law_fill") rfl)
    b_law_fill := (fun_of (st := s_law_fill) F_law_fill).binds fun _ _ _ _ _ _ us hl => match us, hl with | [_], _ => rfl
    F_law_take := fun_of (st := s_law_take) F_law_take
    m_law_take := He.glo_ok X G (c.t.d.fact 1 (f := .glo "_law_take") rfl)
    b_law_take := (fun_of (st := s_law_take) F_law_take).binds fun _ _ _ _ _ _ us hl => match us, hl with | [_, _], _ => rfl
    F_law_fresh := fun_of (st := s_law_fresh) F_law_fresh
    m_law_fresh := He.glo_ok X G (c.t.d.fact 2 (f := .glo "_law_fresh") rfl)
    b_law_fresh := (fun_of (st := s_law_fresh) F_law_fresh).binds fun _ _ _ _ _ _ us hl => match us, hl with | [_], _ => rfl
    F_law_one_o := fun_of (st := s_law_one_o) F_law_one_o
    m_law_one_o := He.glo_ok X G (c.t.d.fact 8 (f := .glo "_law_one") rfl)
    b_law_one_o := (fun_of (st := s_law_one_o) F_law_one_o).binds fun _ _ _ _ _ _ us hl => match us, hl with | [_, _], _ => rfl
    F_law_same_y := fun_of (st := s_law_same_y) F_law_same_y
    m_law_same_y := He.glo_ok X G (c.t.d.fact 9 (f := .glo "_law_same") rfl)
    b_law_same_y := (fun_of (st := s_law_same_y) F_law_same_y).binds fun _ _ _ _ _ _ us hl => match us, hl with | [_, _], _ => rfl
    F_law_with_one := fun_of (st := s_law_with_one) F_law_with_one
    m_law_with_one := He.glo_ok X G (c.t.d.fact 3 (f := .glo "_law_with_one") rfl)
    b_law_with_one := (fun_of (st := s_law_with_one) F_law_with_one).binds fun _ _ _ _ _ _ us hl => match us, hl with | [_], _ => rfl
    F_law_by_place := fun_of (st := s_law_by_place) F_law_by_place
    m_law_by_place := He.glo_ok X G (c.t.d.fact 4 (f := .glo "_law_by_place") rfl)
    b_law_by_place := (fun_of (st := s_law_by_place) F_law_by_place).binds fun _ _ _ _ _ _ us hl => match us, hl with | [_], _ => rfl
    F_law_held := fun_of (st := s_law_held) F_law_held
    m_law_held := He.glo_ok X G (c.t.d.fact 5 (f := .glo "_law_held") rfl)
    b_law_held := (fun_of (st := s_law_held) F_law_held).binds fun _ _ _ _ _ _ us hl => match us, hl with | [_], _ => rfl
    F_law_classes := fun_of (st := s_law_classes) F_law_classes
    m_law_classes := He.glo_ok X G (c.t.d.fact 6 (f := .glo "_law_classes") rfl)
    b_law_classes := (fun_of (st := s_law_classes) F_law_classes).binds fun _ _ _ _ _ _ us hl => match us, hl with | [_], _ => rfl
    F_law := fun_of (st := s_law) F_law
    m_law := He.glo_ok X G (c.t.d.fact 7 (f := .glo "law") rfl)
  }
  have b := FunD.bindsA (ps := ["_law_script"]) F_law fun _ _ _ _ _ _ us hl => match us, hl with | [_], _ => rfl
  exact lawT_of (ex := hk_x) X c T.F_law (fun s v => b s [v] rfl) (fun base _ _ TB => ok_law T  hP TB) (Nat.le_refl _)
end Mz
end
section
set_option Elab.async false
set_option linter.all false
set_option maxRecDepth 100000
set_option maxHeartbeats 4000000
set_option maxHeartbeats 0
open PySem PySem.W PySem.Calls PyProof.Rows
theorem PySem.Challenge.cw_makerlines_k01_errors_made_holds : PySem.Challenge.rw_makerlines_k01_errors_made.Holds := by
  w_on; o_law
  refine HandSHeadRun.head_any (r := OpenLaw.row PySem.Challenge.rw_makerlines_k01_errors_made) (q := view (OpenLaw.row PySem.Challenge.rw_makerlines_k01_errors_made).prog [27]) (H := Mz.hk) (ob := Mz.hk_ob) (M := 9000) (loose := Mz.hk_nm) (d := HandSHeadRun.topDef (OpenLaw.row PySem.Challenge.rw_makerlines_k01_errors_made).prog 27) (kwd := []) Mz.hk_ob_eq (by kernel_rfl) (fun s => by kernel_rfl) Mz.hk_run (by kernel_rfl) (by kernel_rfl) (by kernel_rfl) (by rfl) (by first | assumption | decide +kernel) (by decide +kernel) ⟨rfl, rfl, rfl, rfl, rfl, by decide +kernel⟩ ?hw ?hc
  case hw => w_witness2
  case hc =>
    refine LamX.walk_ofTsE (l := PySem.Challenge.rw_makerlines_k01_errors_made) (n := 63) (k := 6) (x := "_law_script") (CX := fun _ => L2.CX0) rfl (by decide) (by kernel_rfl) ⟨rfl, by decide, by decide⟩ ?F (fun _ _ _ _ _ z => z)
    intro w mg fa h Y G hmg0
    obtain ⟨K, KX, c⟩ := Y
    have hmg : mg ("law" : PySem.Str) = some (.ref fa) := by
      have e : (HandSHeadRun.topDef (OpenLaw.row PySem.Challenge.rw_makerlines_k01_errors_made).prog 27).name = ("law" : PySem.Str) := by kernel_rfl
      rw [← e]
      exact hmg0
    exact ⟨K, KX, Mz.hk_facts (l := PySem.Challenge.rw_makerlines_k01_errors_made) (w := w) KX G hmg ⟨by kernel_rfl, by kernel_rfl⟩ c⟩
#print axioms PySem.Challenge.cw_makerlines_k01_errors_made_holds
end
