import PyProof.Rows.All
import Wide.All
import OpenK.AllK
import Wide.FinOn
import PyProof.ListMulRoad
import PyProof.FactsAll.tuple_2
import KE.GoesEnum
import HandS.ForExc
import HandS.ForMost
import HandS.ExcInit
import HandS.ExcField
import HandS.IsInst
import HandS.Walk
import HandS.TupAny
import HandS.TupMul
import PySem.Challenge.RW_onlywhatvaries_k65_rows_of_one_root
set_option Elab.async false
set_option linter.all false
set_option maxRecDepth 100000
set_option maxHeartbeats 4000000
namespace KR
open PySem PySem.Spec PyProof.Rows L2

/-! ### tuple * 1 is the tuple itself -/
theorem tup_mul_one (l : Addr) (items : Array Value) (n : Nat) (dd : Option Addr) (sl : Array (Option Value)) (u : Tok) :
    Meets (Builtin.«tuple.__mul__» ⟨[.ref l, .int 1 u], []⟩) (fun _ R s => s.heap.get? l = some { cls := .type "tuple", dict := dd, data := .seq items n, slots := sl } ∧ R (.ok (.ret (Value.ref l))) s) :=
  .of_wp fun prog w A R s h => by
    obtain ⟨hp, g, d, tk, os⟩ := s
    obtain ⟨hl, h⟩ := h
    have f1 := AutoSeq1.idx_int
    wp_walk using wpAny_loadPart' hl
    repeat (first
      | (refine wpAny_ite_false (by decide) ?_; wp_walk using wpAny_loadPart' hl)
      | (refine wpAny_ite_true (by simp) ?_; wp_walk using wpAny_loadPart' hl))
    exact ⟨_, rfl, h⟩
section
variable {X : Cx}
def rRep1 (K : PySem.W.Frag) : R2 := fun x y H Q => ∃ l xs, x = .ref l ∧ y = .int 1 ∧ SqT K H l xs ∧ Q (.ref l) H
theorem op_rep1 : OpR X (binaryOp .Mult) (rRep1 X.K) := by
  intro pins s σ H x y v u Q I rx ry h
  obtain ⟨l, xs, rfl, rfl, hT, q⟩ := h
  cases rx
  obtain ⟨t, rfl⟩ := ry
  obtain ⟨its, r, ⟨⟨cls, dd, data, sl⟩, ho, hc, n, hd⟩, hs⟩ := I.tuple hT
  simp only at hc hd
  subst hc hd
  refine wpAny_binaryOp_repeat_ref (T := "tuple") (U := "int") (by decide) ⟨_, ho, rfl⟩ (fun s' => typeIs_int s' 1 t) noFill_tuple_mul F.fills_int_mul F.slot_int_rmul repeat_tuple F.slot_int_index.lookup
    (call_meets F.slot_int_rmul (typeIs_int s 1 t) F.entry_int_rmul (F.args_int_rmul_2 _ _) (int_rmul_tuple 1 t l its.toArray n dd sl)
      ⟨ho, rfl, ⟨_, ho, rfl⟩, call_meets F.slot_tuple_mul ⟨_, ho, rfl⟩ F.entry_tuple_mul (F.args_tuple_mul_2 _ _) (tup_mul_one l its.toArray n dd sl t) ⟨ho, ?_⟩⟩)
  exact ⟨.ref l, H, I, rfl, q⟩
/-- t * k, k from 1 on, whatever object comes -/
def rRepA (K : PySem.W.Frag) : R2 := fun x y H Q => ∃ l k xs, x = .ref l ∧ y = .int k ∧ SqT K H l xs ∧ xs ≠ [] ∧ 1 ≤ k ∧ k ≤ 1000 ∧ xs.length ≤ 1000 ∧ ∀ p H', Same H H' → SqT K H' p (List.replicate k.toNat xs).flatten → Q (.ref p) H'
theorem same_new {H : Hp} {p : Addr} {o : HO} (h : H p = none) : Same H (upd H p o) := fun b x e => by
  rw [upd_ne (ne_of_none e h)]
  exact e
theorem op_repA : OpR X (binaryOp .Mult) (rRepA X.K) := by
  intro pins s σ H x y v u Q I rx ry h
  obtain ⟨l, k, xs, rfl, rfl, hT, hne, h1, h2, hz, q⟩ := h
  by_cases hk : k = 1
  · subst hk
    refine op_rep1 pins s σ H _ _ v u Q I rx ry ⟨l, xs, rfl, rfl, hT, q l H (Same.refl H) ?_⟩
    have e : (List.replicate (1 : Int).toNat xs).flatten = xs := by simp
    rw [e]
    exact hT
  · exact op_repT pins s σ H _ _ v u Q I rx ry ⟨l, k, xs, rfl, rfl, hT, hne, by omega, h2, hz, fun p hp => q p _ (same_new hp) (SqT.of upd_same)⟩
end

/-! ### enumerate of a tuple -/
section
variable {prog : Program} {w : World} {A : Around} {E : Value → Shared → Prop} {s : Shared}
set_option maxHeartbeats 1000000 in
theorem enum_new1 {v : Value} {o : Obj} {H : Heap → Prop} (B : Begins v o H) :
    Meets (Builtin.«enumerate.__new__» ⟨[.type "enumerate", v], []⟩) (fun _ R s => H s.heap ∧
      R (.ok (.ret (.ref (s.heap.push o).objs.size))) { s with heap := (s.heap.push o).push { cls := .type "enumerate", data := .fields #[.none, .bool false, .ref s.heap.objs.size, rawInt 0, .none, .none] } }) :=
  .of_wp fun prog w A R s h => by
    obtain ⟨hp, g, d, tk, os⟩ := s
    obtain ⟨h1, h⟩ := h
    have hsub := sub_enumerate
    have q1 : ∀ {A' : Around} {E : Value → Shared → Prop} {Q : Value → Shared → Prop}, Q (.ref hp.objs.size) ⟨hp.push o, g, d, tk, os⟩ → wpAny (model prog w) A' (pyIter v) Q E ⟨hp, g, d, tk, os⟩ :=
      fun q => B.iter prog w _ _ ⟨hp, g, d, tk, os⟩ _ h1 q
    wp_walk using q1
    refine wpAny_stack_any fun st => wpAny_pure ?_
    split
    · rename_i c _ _ _ _ _
      cases (c == Value.type "enumerate")
      · wp_walk using q1
        exact ⟨_, rfl, h⟩
      · wp_walk using q1
        exact ⟨_, rfl, h⟩
    · wp_walk using q1
      exact ⟨_, rfl, h⟩
theorem enum_call1 {v : Value} {o : Obj} {H : Heap → Prop} {Q : Value → Shared → Prop} (B : Begins v o H) (h1 : H s.heap)
    (h : ∀ h', IsEnum h' (s.heap.objs.size + 1) s.heap.objs.size 0 .none → h'.get? s.heap.objs.size = some o → h'.objs.size = s.heap.objs.size + 2 →
      (∀ b o, s.heap.get? b = some o → h'.get? b = some o) → Q (.ref (s.heap.objs.size + 1)) { s with heap := h' }) :
    wpAny (model prog w) A (call (.type "enumerate") [v]) Q E s := by
  refine callType_new F.called_enumerate (by decide) (F.typeCall_enumerate_1 _) (F.newCall_enumerate_1 _) (fun obj => F.args_object_init_2 obj _) F.entry_enumerate_new (enum_new1 B) ⟨h1, ?_⟩
  have hz : (s.heap.push o).objs.size = s.heap.objs.size + 1 := Heap.size_push ..
  show _ ∧ _
  rw [hz]
  have he : IsEnum ((s.heap.push o).push { cls := .type "enumerate", data := .fields #[.none, .bool false, .ref s.heap.objs.size, rawInt 0, .none, .none] }) (s.heap.objs.size + 1) s.heap.objs.size 0 .none := by
    have := Heap.get?_push_size (s.heap.push o) (o := { cls := .type "enumerate", data := .fields #[.none, .bool false, .ref s.heap.objs.size, rawInt 0, .none, .none] }) rfl
    rw [hz] at this
    exact this
  exact ⟨⟨_, he, rfl⟩, h _ he (Heap.get?_push_of_some _ (Heap.get?_push_size _ B.free)) (by rw [Heap.size_push, hz]) fun b o x => Heap.get?_push_of_some _ (Heap.get?_push_of_some _ x)⟩
end
/-- the tuple at a, each item in a new pair -/
def IteT (K : PySem.W.Frag) (a : Addr) : It :=
  ⟨fun i H => ∃ (xs : List V) (x : V), SqT K H a xs ∧ xs[i]? = some x, fun i H v H' => ∃ T x, v = .ref T ∧ H T = none ∧ H' = upd H T (.tup [.int (i : Nat), x]) ∧ ∀ xs, SqT K H a xs → xs[i]? = some x, fun i H => ∃ xs : List V, SqT K H a xs ∧ xs.length ≤ i⟩
theorem apart_of {h : Heap} {a b : Addr} {items : Array Value} {n : String} (ht : h.IsTuple a items) {o : Obj} (hb : h.get? b = some o) (hc : o.cls = .type n) (hn : n ≠ "tuple") : b ≠ a := fun z => by
  obtain ⟨o', ho', hc', _⟩ := ht
  rw [z, ho'] at hb
  cases hb
  rw [hc'] at hc
  exact hn (Value.type.inj hc).symm
theorem turn_enumT {P : Program} {w : World} {K : PySem.W.Frag} {elts : List Expr} {kk : Nat} {tpos : Pos} (a e it : Addr) :
    Turn P w K (.Tuple elts kk tpos) (IteT K a) [e, it] e (fun i h => (∃ old, IsEnum h e it ((i : Nat) : Int) old) ∧ h.IsTupleIter it a i ∧ e ≠ it) where
  mem := by simp
  obj := fun i h st b hb => by
    obtain ⟨⟨old, he⟩, ⟨o, ho, hc, hd⟩, _⟩ := st
    have e' : b = e ∨ b = it := by simpa using hb
    rcases e' with z | z
    · rw [z]; exact ⟨_, he, fun v q => nomatch q⟩
    · rw [z]; exact ⟨o, ho, fun v q => by rw [hd] at q; cases q⟩
  keep := fun i h h' st k => let ⟨⟨old, he⟩, hi, hne⟩ := st; ⟨⟨old, k e (by simp) _ he⟩, hi.at fun o q => k it (by simp) o q, hne⟩
  item := by
    intro X hP hw hK hc i pins s σ H E I hf st hg
    subst hP hw hK
    obtain ⟨⟨old, he⟩, hit, hne⟩ := st
    obtain ⟨xs, x, hq, hx⟩ := hg
    obtain ⟨its, rv, p, hz⟩ := I.tuple hq
    obtain ⟨u, hu, ru⟩ := rv.get hx
    have hel : e < s.heap.objs.size := Heap.lt_size he
    have hil : it < s.heap.objs.size := by obtain ⟨_, q, _⟩ := hit; exact Heap.lt_size q
    have pt : s.heap.IsTuple a its.toArray := p
    have nea : e ≠ a := apart_of pt he rfl (by decide)
    have nia : it ≠ a := by
      obtain ⟨o, ho, hc', _⟩ := hit
      exact apart_of pt ho hc' (by decide)
    have D := Draws.tuple (prog := X.prog) (w := X.w) (A := X.A.in1) (I.ok.hd hc) it a (Ne.symm nia) its.toArray
    have hi : i < its.toArray.size := by
      have hl := rv.length
      have := (List.getElem?_eq_some_iff.mp hx).1
      simp only [List.size_toArray]
      omega
    refine wpAny_pyNext_enum_itemD D he ⟨hit, pt⟩ hi hne (by simp [hne, nea]) fun y h' tk hy ho hit' hT hsz hk => ?_
    have ey : y = u := by
      have q : its[i]? = some y := by simpa using hy
      rw [hu] at q
      exact (Option.some.inj q).symm
    subst ey
    refine ⟨_, rfl, wpAny_letOwnedTupleGo_enum (s := { s with heap := h', toks := tk + 1 }) ho fun h'' he' sb => ?_⟩
    have hT2 : h''.get? s.heap.objs.size = some { cls := .type "tuple", data := .seq #[.int i tk, y] } := (sb.2 _ (Nat.ne_of_gt hel)).trans hT
    have new : ObjOk X.prog X.w (upd H s.heap.objs.size (.tup [.int (i : Nat), x])) h'' s.heap.objs.size (.tup [.int (i : Nat), x]) :=
      ⟨by show 2 ≤ sizeLine; decide, [.int i tk, y], .cons ⟨_, rfl⟩ (.cons ru .nil), ⟨_, hT2, rfl, _, rfl⟩⟩
    have I1 : Inv X pins σ (upd H s.heap.objs.size (.tup [.int (i : Nat), x])) { s with heap := h'', toks := tk + 1 } :=
      I.turnedNew (ch := [e, it]) (fun b ob hb q => (sb.2 b (fun z => hb (by simp [z]))).trans (hk b ob (fun z => hb (by simp [z])) (fun z => hb (by simp [z])) q)) hf (Nat.le_refl _) new
    refine ⟨.ref s.heap.objs.size, _, I1, rfl, ⟨_, x, rfl, I.hok.fresh (Nat.le_refl _), rfl, fun ys hy => by rw [I.tuple_inj hy hq]; exact hx⟩, ⟨⟨y, ?_⟩, hit'.1.at fun o q => (sb.2 it (Ne.symm hne)).trans q, hne⟩, fun b hb => ?_⟩
    · have e1 : ((i + 1 : Nat) : Int) = (i : Int) + 1 := by omega
      rw [e1]; exact he'
    · have hb' : b < s.heap.objs.size := by
        have e' : b = e ∨ b = it := by simpa using hb
        rcases e' with z | z
        · rw [z]; exact hel
        · rw [z]; exact hil
      rw [upd_ne (Nat.ne_of_lt hb')]
      exact (hf b hb).1
  done := by
    intro X hP hw hK hc i pins s σ H E I hf st hg
    subst hP hw hK
    obtain ⟨⟨old, he⟩, hit, hne⟩ := st
    obtain ⟨xs, hq, hx⟩ := hg
    obtain ⟨its, rv, p, hz⟩ := I.tuple hq
    obtain ⟨f0, f1, f2, f3, f4, f5⟩ := hf it (by simp)
    have pt : s.heap.IsTuple a its.toArray := p
    have nia : it ≠ a := by
      obtain ⟨o, ho, hc', _⟩ := hit
      exact apart_of pt ho hc' (by decide)
    have hl := rv.length
    have hT : s.TypeIs (.ref e) "enumerate" := ⟨_, he, rfl⟩
    unfold pyNext
    refine wpAny_bind (wpAny_attempt (wpAny_callSpecial?_slot (name := Str.ofString "__next__") hT F.slot_enumerate_next
      (wpAny_call_entry F.slot_enumerate_next hT F.entry_enumerate_next ?_ (F.args_enumerate_next_1 _))))
    show wpAny _ _ (field (.ref e) 2 >>= _) _ _ _
    refine wpAny_bind (wpAny_field he rfl (x := .ref it) rfl ?_)
    refine wpAny_bind (wpAny_nextOf_tuple_end (I.ok.hd hc) hit pt (by simp; omega) fun h' x he' hx' => ?_)
    obtain ⟨o, ho, hc'⟩ := hx'
    refine wpAny_bind (wpAny_isInstance (T := "StopIteration") (b := true) ⟨o, ho, hc'⟩ isSubtype_stop ?_)
    exact wpAny_pure ⟨rfl, I.turned (t' := s.toks) (fun b o hb q => he' b o hb q) f0 f1 f3 f4 f5⟩
  self := fun A i s Q E st h => let ⟨⟨_, he⟩, _⟩ := st; wpAny_pyIter_enum he h
/-- enumerate of a list or of a tuple -/
def iEnumA (K : PySem.W.Frag) (ta : TA) : TI := fun σ H R => ta σ H fun vs H1 => ∃ a xs, vs = [.ref a] ∧ ((SqL K H1 a xs ∧ R (Ite K a) H1) ∨ (SqT K H1 a xs ∧ R (IteT K a) H1))
theorem pi_enumA {X : Cx} {e : Expr} {ta : TA} {p pos tpos : Pos} {elts : List Expr} {kk : Nat} (hg : Gl X "enumerate") (hm : X.mg "enumerate" = none) (ha : PA X [e] ta) (hs : starEach [e] X.env = [(false, eval e X.env)] := by rfl) :
    PI X (.Tuple elts kk tpos) (.Call (.Name "enumerate" p) [e] [] pos) (iEnumA X.K ta) := by
  refine ⟨fun pins s σ H R I h => ?_⟩
  refine Call_ (ld_blt I hg hm boot_enumerate (PyProof.Rows.callWith_type1 (thn (ha.run pos pins s σ H _ I h) fun us s1 ⟨vs, H1, I1, r1, q1⟩ => ?_) hs rfl))
  obtain ⟨a, xs, ex, q⟩ := q1
  subst ex
  cases r1 with
  | cons r rr =>
    cases rr
    cases r
    have old : ∀ b, b ∈ [s1.heap.objs.size + 1, s1.heap.objs.size] → FpOk X pins H1 b := fun b hb => by
      have e' : b = s1.heap.objs.size + 1 ∨ b = s1.heap.objs.size := by simpa using hb
      have hle : s1.heap.objs.size ≤ b := by
        rcases e' with z | z
        · rw [z]; exact Nat.le_add_right _ _
        · rw [z]; exact Nat.le_refl _
      exact I1.fpOk hle (I1.hok.fresh hle)
    rcases q with ⟨hq, q⟩ | ⟨hq, q⟩
    · obtain ⟨its, rv, p', hz⟩ := I1.list hq
      refine call_enumerate_list p'.isList fun h' he hit hsz hk => wpAny_pyIter_enum he ?_
      have I2 : Inv X pins σ H1 { s1 with heap := h' } := I1.kept (t' := s1.toks) hk
      exact ⟨s1.heap.objs.size + 1, [s1.heap.objs.size + 1, s1.heap.objs.size], _, _, H1, rfl, I2, turn_enum a (s1.heap.objs.size + 1) s1.heap.objs.size, ⟨⟨.none, he⟩, hit, Nat.succ_ne_self _⟩, old, q⟩
    · obtain ⟨its, rv, p', hz⟩ := I1.tuple hq
      have pt : s1.heap.IsTuple a its.toArray := p'
      refine enum_call1 (begins_tuple a its.toArray) pt fun h' he hit hsz hk => wpAny_pyIter_enum he ?_
      have I2 : Inv X pins σ H1 { s1 with heap := h' } := I1.kept (t' := s1.toks) hk
      exact ⟨s1.heap.objs.size + 1, [s1.heap.objs.size + 1, s1.heap.objs.size], _, _, H1, rfl, I2, turn_enumT a (s1.heap.objs.size + 1) s1.heap.objs.size, ⟨⟨.none, he⟩, ⟨_, hit, rfl, rfl⟩, Nat.succ_ne_self _⟩, old, q⟩
/-- the walk of enumerate over a tuple -/
theorem walk_enumT {K : PySem.W.Frag} {a : Addr} {xs : List V} : Walk (IteT K a) xs.length (fun H => SqT K H a xs) (YPair (fun i => some (.int (i : Nat))) (fun i => xs[i]?)) := by
  refine ⟨fun i _ hi q => ⟨xs, xs[i], q, by simp [hi]⟩, fun _ q => ⟨xs, q, Nat.le_refl _⟩, fun i H v H' _ q y => ?_⟩
  obtain ⟨T, x, h1, h2, h3, h4⟩ := y
  exact ⟨T, .int (i : Nat), x, h1, h2, h3, rfl, h4 xs q⟩

/-! ### try with a named first clause that takes every exception of the body; further clauses stand behind it -/
def wFirst (K : PySem.W.Frag) (c : Value) (i : Nat) (ts : Addr → Value → Option Addr → TS) (D : Ends) : WX := fun cls d σ H =>
  PySem.W.exmOne K cls c = some true ∧ ∀ a, H a = none → ts a cls d { nx := fun σ' H' => D.nx (σ'.set i none) H', rt := D.rt, bk := fun σ' H' => D.bk (σ'.set i none) H', ct := fun σ' H' => D.ct (σ'.set i none) H' } (σ.set i (some (.ref a))) H
theorem ps_try_first {X : Cx} {x n : Str} {c : Value} {i : Nat} {body suite : List Stmt} {b₀ : Stmt} {np pos pos' : Pos} {hds : List ExceptHandler} {tb : WX → TS} {ts : Addr → Value → Option Addr → TS}
    (hs : X.stack = X.env :: X.outer) (hf : X.env.frame = some X.env.locals) (hN : X.N.Nodup) (hi : X.N[i]? = some n) (hln : X.env.kindOf n = some .local) (hc : Names X x c)
    (hb : ∀ (W : WX) (pn : List (Addr × Obj)) (xe : Value → Shared → Prop), Takes (X.tr pn xe) W → PassesOwn (model X.prog X.w) X.A X.env xe → PSs (X.tr pn xe) body (tb W))
    (hsu : ∀ (a : Addr) (oe : Obj) (cls : Value) (d : Option Addr) (pn : List (Addr × Obj)), Zc cls d oe → (∃ vs, oe.data = .fields vs) → PSs (X.suite a ((a, oe) :: pn)) (b₀ :: suite) (ts a cls d)) :
    PS X (.Try body (.ExceptHandler (some (.Name x np)) (some n) (b₀ :: suite) pos' :: hds) [] [] pos) (fun D σ H => tb (wFirst X.K c i ts D) D σ H) := by
  refine ⟨fun pins s σ H D I h => ?_⟩
  have ok := I.ok
  have hfr : X.A.frames = some (X.env :: X.outer) := by rw [ok.frames, hs]
  have hloc : Loc X.env.scope n := .inl hln
  refine wpAny_Try_except ?_
  refine wpAny_mono ((hb (wFirst X.K c i ts D) (X.pn ++ pins) (fun e s₁ => wpAny (model X.prog X.w) X.A (noteFrame e X.env) (fun _ s₂ => wpAny (model X.prog X.w) X.A (setFlight e none) (fun _ s₃ =>
    wpAny (model X.prog X.w) X.A (handleBy e X.env (.ExceptHandler (some (.Name x np)) (some n) (b₀ :: suite) pos' :: hds)) (SP X pins D) X.xe s₃) X.xe s₂) X.xe s₁) (fun u s' xx => ?_) PassesOwn.looking).run [] s σ H D (I.toTry _) h) (fun f s1 hsp => ?_) (fun e s1 he => he)
  · obtain ⟨a, B, sI, pins', σ', H', cls, d, rfl, J', nb, up, sky, na, os, ag, hb1, hyes⟩ := xx
    have J : Inv X pins σ' H' sI := J'.ofTry ok
    have sky' : Sky B (X.env :: X.outer) a (Zc cls d) X.env.locals s'.heap := by rw [← hs]; exact sky
    show wpAny (model X.prog X.w) X.A (noteFrame (.ref a) X.env) _ _ _
    refine Sky.land Zc.steady hfr hf sky' fun h3 fl3 up3 => ?_
    have J3 : Inv X pins σ' H' { s' with heap := h3 } := J.landed nb fl3.1 (up.trans up3) os ag
    obtain ⟨oe3, vs3, he3, hz3, hd3⟩ := fl3.there
    have nfr : a ∉ frs (X.env :: X.outer) := fun hm => by
      obtain ⟨_, o', e', hnf⟩ := fl3.2.2.1.mem hm
      rw [he3] at e'
      cases e'
      exact hnf _ hd3
    have nL : a ≠ X.env.locals := fun z => nfr (List.mem_filterMap.mpr ⟨X.env, List.mem_cons_self, by rw [hf, z]⟩)
    have nF : a ∉ X.fs := fun hm => by
      obtain ⟨e, he, q⟩ := List.mem_filterMap.mp hm
      exact nfr (List.mem_filterMap.mpr ⟨e, List.mem_cons_of_mem _ he, q⟩)
    have S3 := J3.suite he3 hd3 na nL nF
    refine wpAny_handleBy_cons (codeAny_handlers_test ?_) (by intro q; cases q)
    have LT : PySem.W.Looks (model X.prog X.w) h3 (typeOf (.ref a)) cls := fun A Q E s k q => wpAny_typeOf_ref (k _ _ he3) (by rw [hz3.1]; exact q)
    have LM := PySem.W.exm_one (M := model X.prog X.w) (J3.kIn) LT hb1
    have test : ∀ {Q : Value → Shared → Prop} {E : Value → Shared → Prop}, Q c { s' with heap := h3 } → wpAny (model X.prog X.w) (X.A.mark (some (.ref a))) (eval (.Name x np) X.env) Q E { s' with heap := h3 } := fun {Q E} q => by
      obtain ⟨hg, hdbg, hm | ⟨hm, hv, hnn⟩⟩ := hc
      · exact ld_glob (X := X.suite a ((a, oe3) :: (X.pn ++ pins))) S3 hg hm q hdbg
      · exact ld_blt (X := X.suite a ((a, oe3) :: (X.pn ++ pins))) S3 hg hm hv q hnn hdbg
    refine test (LM.here ?_)
    refine codeAny_handlers_suite_as ?_
    refine HandSPX.lands_againZ fl3 fun h4 fl4 up4 => ?_
    have J4 : Inv X pins σ' H' { s' with heap := h4 } := J.landed nb fl4.1 ((up.trans up3).trans up4) os ag
    obtain ⟨oe4, vs4, he4, hz4, hd4⟩ := fl4.there
    have S4 := J4.suite he4 hd4 na nL nF
    refine store_ok (X := X.suite a ((a, oe4) :: (X.pn ++ pins))) (v := .ref a) S4 hN hi hloc rfl (fun s5 S5 => ?_) (.inr hln)
    refine wpAny_mono ((hsu a oe4 cls d (X.pn ++ pins) hz4 ⟨_, hd4⟩).run [] s5 _ H' _ S5 (hyes a na)) (fun f s6 hsp => ?_) (fun _ _ z => False.elim z)
    have end_ : ∀ {σ6 : L2.St} {H6 : Hp} {Q : Shared → Prop}, Inv (X.suite a ((a, oe4) :: (X.pn ++ pins))) [] σ6 H6 s6 → (∀ s7, Inv X pins (σ6.set i none) H6 s7 → Q s7) →
        wpAny (model X.prog X.w) X.A (do bindName X.env n .none; unbindBehindTheSuite X.env n pos') (fun _ s7 => Q s7) X.xe s6 := fun {σ6 H6 Q} S6 hq => gone_ok (S6.unsuite ok) hN hi hln hq
    cases f with
    | next =>
      obtain ⟨σ6, H6, S6, q6⟩ := hsp
      exact end_ S6 fun s7 J7 => ⟨_, _, J7, q6⟩
    | brk =>
      obtain ⟨σ6, H6, S6, q6⟩ := hsp
      exact end_ S6 fun s7 J7 => ⟨_, _, J7, q6⟩
    | cont =>
      obtain ⟨σ6, H6, S6, q6⟩ := hsp
      exact end_ S6 fun s7 J7 => ⟨_, _, J7, q6⟩
    | ret u =>
      obtain ⟨v6, σ6, H6, S6, r6, q6⟩ := hsp
      exact end_ S6 fun s7 J7 => ⟨_, _, _, J7, r6, q6⟩
  · cases f with
    | next =>
      obtain ⟨σ', H', J', q⟩ := hsp
      exact wpAny_execs_nil ⟨σ', H', J'.ofTry ok, q⟩
    | brk =>
      obtain ⟨σ', H', J', q⟩ := hsp
      exact ⟨σ', H', J'.ofTry ok, q⟩
    | cont =>
      obtain ⟨σ', H', J', q⟩ := hsp
      exact ⟨σ', H', J'.ofTry ok, q⟩
    | ret u =>
      obtain ⟨v, σ', H', J', r, q⟩ := hsp
      exact ⟨v, σ', H', J'.ofTry ok, r, q⟩
/-! ### for over a list or a tuple -/
def iSeq (K : PySem.W.Frag) (tl : TE) : TI := fun σ H R => tl σ H fun x H1 => ∃ a xs, x = .ref a ∧ ((SqL K H1 a xs ∧ R (Itl K a) H1) ∨ (SqT K H1 a xs ∧ R (Itt K a) H1))
theorem pi_seq {X : Cx} {tg l : Expr} {tl : TE} (hl : PE X l tl) : PI X tg l (iSeq X.K tl) := by
  refine ⟨fun pins s σ H R I h => ?_⟩
  refine thn (hl.run pins s σ H _ I h) fun v s1 ⟨x, H1, I1, r1, q1⟩ => ?_
  obtain ⟨a, xs, e, q⟩ := q1
  subst e
  cases r1
  have fresh : ∀ b ∈ [s1.heap.objs.size], FpOk X pins H1 b := fun b hb => by
    have e : b = s1.heap.objs.size := by simpa using hb
    rw [e]
    exact I1.fpOk (Nat.le_refl _) (I1.hok.fresh (Nat.le_refl _))
  rcases q with ⟨hq, q⟩ | ⟨hq, q⟩
  · obtain ⟨its, rv, p, hz⟩ := I1.list hq
    exact wpAny_pyIter_list p.isList ⟨s1.heap.objs.size, [s1.heap.objs.size], _, _, H1, rfl, I1.kept (t' := s1.toks) fun b o e => Heap.get?_push_of_some _ e, turn_list a _, ⟨_, Heap.get?_push_size _ rfl, rfl, rfl⟩, fresh, q⟩
  · obtain ⟨its, rv, p, hz⟩ := I1.tuple hq
    exact wpAny_pyIter_tuple (show s1.heap.IsTuple a its.toArray from p) ⟨s1.heap.objs.size, [s1.heap.objs.size], _, _, H1, rfl, I1.kept (t' := s1.toks) fun b o e => Heap.get?_push_of_some _ e, turn_tuple a _, ⟨_, Heap.get?_push_size _ rfl, rfl, rfl⟩, fresh, q⟩
/-! ### the rules whose readings speak of the written part, the written part told (for blocks) -/
section
variable {X : Cx} {K : PySem.W.Frag}
theorem ix_tupK (h : X.K = K) : IxR X (rIxT K) := h ▸ ix_tup
theorem ix_listK (h : X.K = K) : IxR X (rIxL K) := h ▸ ix_list
theorem sl_tupK (h : X.K = K) : SlR X (rSlA K) := h ▸ sl_tupA
theorem sl_listK (h : X.K = K) : SlR X (rSlL K) := h ▸ sl_list
theorem op_eqDK (h : X.K = K) (hu : X.A.units + 64 < cLine) : OpR X (compareOp .Eq) (rEqD K) := h ▸ op_eqD hu
theorem op_neDK (h : X.K = K) (hu : X.A.units + 64 < cLine) : OpR X (compareOp .NotEq) (rNeD K) := h ▸ op_neD hu
theorem op_catK (h : X.K = K) : OpR X (binaryOp .Add) (rCatA K) := h ▸ op_catA
theorem op_repK (h : X.K = K) : OpR X (binaryOp .Mult) (rRepA K) := h ▸ op_repA
theorem call_isiK1 (h : X.K = K) : CallR X (.builtin "isinstance") (rIsi K) := h ▸ call_isi
theorem call_isiTK (h : X.K = K) : CallR X (.builtin "isinstance") (rIsiT K) := h ▸ call_isiT
def rLenQ (K : PySem.W.Frag) : List V → Hp → VK → Prop := fun xs H Q => ∃ p ys, xs = [.ref p] ∧ (SqL K H p ys ∨ SqT K H p ys) ∧ Q (.int ys.length) H
theorem call_lenK (h : X.K = K) : CallR X (.builtin "len") (rLenQ K) := h ▸ call_len_seq
def rListQ (K : PySem.W.Frag) : List V → Hp → VK → Prop := fun xs H Q => ∃ p ys, xs = [.ref p] ∧ (SqL K H p ys ∨ SqT K H p ys) ∧ ∀ l, H l = none → Q (.ref l) (upd H l (.lst ys))
theorem call_listK (h : X.K = K) : CallR X (.type "list") (rListQ K) := h ▸ call_list_of
def rTupQ (K : PySem.W.Frag) : List V → Hp → VK → Prop := fun xs H Q => ∃ p ys, xs = [.ref p] ∧ ((SqL K H p ys ∧ ∀ l, H l = none → Q (.ref l) (upd H l (.tup ys))) ∨ (SqT K H p ys ∧ Q (.ref p) H))
theorem call_tupK (h : X.K = K) : CallR X (.type "tuple") (rTupQ K) := h ▸ call_tuple_of
theorem cr_allK (h : X.K = K) (hc : X.calm = true) : CallR X (.builtin "all") (rAll K) := h ▸ cr_all hc
def tTr (K : PySem.W.Frag) (ta : TE) : TT := fun σ H Q => ta σ H fun x H' => ∃ k, TruV K x H' k ∧ Q k H'
theorem pt_truthK {a : Expr} {ta : TE} (h : X.K = K) (ha : PE X a ta) (he : ∀ whole, isTrue a X.env whole = (do let v ← whole; standAt a.pos; holding [v] (truthy v))) : PT X a (tTr K ta) := h ▸ pt_truth ha he
end
/-! ### the ways of an if meet -/
def tCutS (t u : TS) : TS := fun D σ H => ∃ M : L2.St → Hp → Prop, t { D with nx := M } σ H ∧ ∀ σ' H', M σ' H' → u D σ' H'
theorem pss_cutS {X : Cx} {st : Stmt} {rest : List Stmt} {t u : TS} (h1 : PS X st t) (h2 : PSs X rest u) : PSs X (st :: rest) (tCutS t u) := by
  refine ⟨fun pins s σ H D I h => ?_⟩
  obtain ⟨M, hM, k⟩ := h
  have h3 : PSs X rest (fun D' σ' H' => D' = D ∧ M σ' H') := ⟨fun pins s σ' H' D' I' m => by
    obtain ⟨rfl, m⟩ := m
    exact h2.run pins s σ' H' _ I' (k σ' H' m)⟩
  refine (pss_cons h1 h3).run pins s σ H D I ?_
  have e : (fun σ' H' => D = D ∧ M σ' H') = M := by
    funext σ' H'
    simp
  show t { D with nx := fun σ' H' => D = D ∧ M σ' H' } σ H
  rw [e]
  exact hM
/-! ### the ways of a test, of a value meet -/
def tCutE (t : TE) : TE := fun σ H Q => ∃ M : VK, t σ H M ∧ ∀ v H', M v H' → Q v H'
def tCutT (t : TT) : TT := fun σ H Q => ∃ M : Bool → Hp → Prop, t σ H M ∧ ∀ b H', M b H' → Q b H'
theorem pe_cut {X : Cx} {e : Expr} {t : TE} (h : PE X e t) : PE X e (tCutE t) := ⟨fun pins s σ H Q I ⟨M, hM, k⟩ => thn (h.run pins s σ H M I hM) fun _ _ ⟨v, H', J, r, m⟩ => ⟨v, H', J, r, k v H' m⟩⟩
theorem pt_cut {X : Cx} {e : Expr} {t : TT} (h : PT X e t) : PT X e (tCutT t) := ⟨fun pins s σ H Q I ⟨M, hM, k⟩ => thn (h.run pins s σ H M I hM) fun b _ ⟨H', J, m⟩ => ⟨H', J, k b H' m⟩⟩
end KR

namespace KK
open PySem PySem.Spec PyProof.Rows L2 KR

/-! ### heaps that grow -/
theorem st_same {K : PySem.W.Frag} {H H' : Hp} {a : Addr} {xs : List V} (e : Same H H') (h : SqT K H a xs) : SqT K H' a xs := by
  rcases h with (h | ⟨o, h⟩) | h
  · exact .inl (.inl (e _ _ h))
  · exact .inl (.inr ⟨o, e _ _ h⟩)
  · exact .inr h
/-- all but d is as it was -/
def SameB (d : Addr) (H H' : Hp) : Prop := ∀ b o, b ≠ d → H b = some o → H' b = some o
theorem SameB.refl {d : Addr} (H : Hp) : SameB d H H := fun _ _ _ h => h
theorem SameB.trans {d : Addr} {H H1 H2 : Hp} (a : SameB d H H1) (b : SameB d H1 H2) : SameB d H H2 := fun c o n h => b c o n (a c o n h)
theorem SameB.of {d : Addr} {H H' : Hp} (e : Same H H') : SameB d H H' := fun c o _ h => e c o h
theorem SameB.upd {d : Addr} {H : Hp} {o : HO} : SameB d H (upd H d o) := fun c u n h => by
  rw [upd_ne n]
  exact h
/-- a change at an address that H does not know -/
theorem same_mut {H H' : Hp} {p : Addr} (h : H p = none) (e : SameB p H H') : Same H H' := fun b o hb => e b o (ne_of_none hb h) hb
theorem sl_b {K : PySem.W.Frag} {d : Addr} {ds : List V} {H H' : Hp} {a : Addr} {xs : List V} (e : SameB d H H') (n : a ≠ d) (h : SqL K H a xs) : SqL K H' a xs := by
  rcases h with (h | ⟨o, h⟩) | h
  · exact .inl (.inl (e _ _ n h))
  · exact .inl (.inr ⟨o, e _ _ n h⟩)
  · exact .inr h
theorem st_b {K : PySem.W.Frag} {d : Addr} {ds : List V} {H H' : Hp} {a : Addr} {xs : List V} (hd : H d = some (.lst ds)) (e : SameB d H H') (h : SqT K H a xs) : SqT K H' a xs := by
  rcases h with (h | ⟨o, h⟩) | h
  · exact .inl (.inl (e _ _ (ne_of h hd (fun z => by cases z)) h))
  · exact .inl (.inr ⟨o, e _ _ (ne_of h hd (fun z => by cases z)) h⟩)
  · exact .inr h

/-! ### data -/
mutual
theorem dp_same {K : PySem.W.Frag} {H H' : Hp} (e : Same H H') : ∀ {d : PyData} {v : V}, Dp K H v d → Dp K H' v d
  | .none, _, h => by cases h; exact .non
  | .bool b, _, h => by cases h; exact .bl b
  | .int i, _, h => by cases h; exact .int i
  | .str x, _, h => by cases h; exact .str x
  | .list ds, _, h => by
    cases h with
    | lst hs ha => exact .lst (e.seq hs) (dpAll_same e ha)
  | .tuple ds, _, h => by
    cases h with
    | tup hs ha => exact .tup (st_same e hs) (dpAll_same e ha)
  | .dict _, _, h => by cases h
theorem dpAll_same {K : PySem.W.Frag} {H H' : Hp} (e : Same H H') : ∀ {ds : List PyData} {vs : List V}, DpAll K H vs ds → DpAll K H' vs ds
  | [], _, h => by cases h; exact .nil
  | d :: ds, _, h => by
    cases h with
    | cons h1 h2 => exact .cons (dp_same e h1) (dpAll_same e h2)
end
def toD : V → PyData
  | .bl b => .bool b
  | .int i => .int i
  | .str s => .str s
  | _ => .none
def flat : V → Bool
  | .non => true
  | .bl _ => true
  | .int _ => true
  | .str s => PyData.strOk s && decide (s.length ≤ 1000)
  | _ => false
/-- an entry of a row: a number or a text -/
def sc : V → Bool
  | .int _ => true
  | .str s => PyData.strOk s && decide (s.length ≤ 1000)
  | _ => false
theorem flat_sc {v : V} (h : sc v = true) : flat v = true := by
  cases v <;> first | rfl | exact h | cases h
theorem all_flat {xs : List V} (h : xs.all sc = true) : xs.all flat = true := List.all_eq_true.mpr fun v hv => flat_sc (List.all_eq_true.mp h v hv)
theorem dp_flat {K : PySem.W.Frag} {H : Hp} : ∀ {v : V}, flat v = true → Dp K H v (toD v)
  | .non, _ => .non
  | .bl b, _ => .bl b
  | .int i, _ => .int i
  | .str x, _ => .str x
  | .byt _, h => by cases h
  | .flt _, h => by cases h
  | .ref _, h => by cases h
  | .ty _, h => by cases h
theorem dpAll_flat {K : PySem.W.Frag} {H : Hp} : ∀ {xs : List V}, xs.all flat = true → DpAll K H xs (xs.map toD)
  | [], _ => .nil
  | v :: r, h => by
    rw [List.all_cons, Bool.and_eq_true] at h
    exact .cons (dp_flat h.1) (dpAll_flat h.2)
theorem eqv_sc : ∀ {x y : V}, sc x = true → sc y = true → PyData.eqv (toD x) (toD y) = decide (x = y)
  | .int i, .int j, _, _ => by
    show PyData.eqv (.int i) (.int j) = _
    rw [dec_int]
    simp only [PyData.eqv]
  | .int i, .str s, _, _ => by
    show PyData.eqv (.int i) (.str s) = _
    rw [decide_eq_false (fun z => by cases z)]
    simp only [PyData.eqv]
  | .str s, .int i, _, _ => by
    show PyData.eqv (.str s) (.int i) = _
    rw [decide_eq_false (fun z => by cases z)]
    simp only [PyData.eqv]
  | .str s, .str t, _, _ => by
    show PyData.eqv (.str s) (.str t) = _
    rw [dec_str]
    simp only [PyData.eqv]
  | .non, _, h, _ => by cases h
  | .bl _, _, h, _ => by cases h
  | .byt _, _, h, _ => by cases h
  | .flt _, _, h, _ => by cases h
  | .ref _, _, h, _ => by cases h
  | .ty _, _, h, _ => by cases h
  | .int _, .non, _, h => by cases h
  | .int _, .bl _, _, h => by cases h
  | .int _, .byt _, _, h => by cases h
  | .int _, .flt _, _, h => by cases h
  | .int _, .ref _, _, h => by cases h
  | .int _, .ty _, _, h => by cases h
  | .str _, .non, _, h => by cases h
  | .str _, .bl _, _, h => by cases h
  | .str _, .byt _, _, h => by cases h
  | .str _, .flt _, _, h => by cases h
  | .str _, .ref _, _, h => by cases h
  | .str _, .ty _, _, h => by cases h
theorem eqvAll_sc : ∀ {xs ys : List V}, xs.all sc = true → ys.all sc = true → PyData.eqvAll (xs.map toD) (ys.map toD) = decide (xs = ys)
  | [], [], _, _ => by simp [PyData.eqvAll]
  | [], y :: ys, _, _ => by simp [PyData.eqvAll]
  | x :: xs, [], _, _ => by simp [PyData.eqvAll]
  | x :: xs, y :: ys, h, g => by
    rw [List.all_cons, Bool.and_eq_true] at h g
    show PyData.eqvAll (toD x :: xs.map toD) (toD y :: ys.map toD) = _
    simp only [PyData.eqvAll]
    rw [eqv_sc h.1 g.1, eqvAll_sc h.2 g.2, Bool.eq_iff_iff]
    simp [Bool.and_eq_true, List.cons.injEq]
theorem can_flat : ∀ {v : V}, flat v = true → PyData.canLay0 (toD v) = true
  | .non, _ => by simp [toD, PyData.canLay0]
  | .bl b, _ => by simp [toD, PyData.canLay0]
  | .int i, _ => by simp [toD, PyData.canLay0]
  | .str x, h => by
    simp only [toD, PyData.canLay0]
    exact (Bool.and_eq_true_iff.mp h).1
  | .byt _, h => by cases h
  | .flt _, h => by cases h
  | .ref _, h => by cases h
  | .ty _, h => by cases h
theorem depth_flat (v : V) : PyData.depth (toD v) = 1 ∨ PyData.depth (toD v) = 0 := by
  cases v <;> simp [toD, PyData.depth]
theorem canAll_flat : ∀ {xs : List V}, xs.all flat = true → PyData.canLayAll0 (xs.map toD) = true
  | [], _ => by simp [PyData.canLayAll0]
  | v :: r, h => by
    rw [List.all_cons, Bool.and_eq_true] at h
    show PyData.canLayAll0 (toD v :: r.map toD) = true
    simp only [PyData.canLayAll0]
    rw [can_flat h.1, canAll_flat h.2]
    rfl
theorem depthAll_flat : ∀ (xs : List V), PyData.depthAll (xs.map toD) ≤ 1
  | [] => by simp [PyData.depthAll]
  | v :: r => by
    show PyData.depthAll (toD v :: r.map toD) ≤ 1
    simp only [PyData.depthAll]
    have h := depthAll_flat r
    rcases depth_flat v with e | e <;> rw [e] <;> omega
theorem shaped_flat {v : V} (h : flat v = true) : SeqAt.shaped (toD v) = true := by
  unfold SeqAt.shaped
  rw [can_flat h]
  rcases depth_flat v with e | e <;> rw [e] <;> rfl
theorem shaped_tup {xs : List V} (h : xs.all flat = true) : SeqAt.shaped (.tuple (xs.map toD)) = true := by
  unfold SeqAt.shaped
  have h1 := depthAll_flat xs
  have h2 := canAll_flat h
  rw [Bool.and_eq_true]
  refine ⟨?_, decide_eq_true ?_⟩
  · simp only [PyData.canLay0]
    exact h2
  · simp only [PyData.depth]
    omega
theorem dp_tup {K : PySem.W.Frag} {H : Hp} {a : Addr} {xs : List V} (h : SqT K H a xs) (f : xs.all flat = true) : Dp K H (.ref a) (.tuple (xs.map toD)) := .tup h (dpAll_flat f)

/-! ### == and != -/
section
variable {K : PySem.W.Frag} {H : Hp} {a b : Addr} {xs ys : List V} {x y : V} {Q : VK}
theorem r_eqTT (h : SqT K H a xs) (g : SqT K H b ys) (hx : xs.all sc = true) (hy : ys.all sc = true) (q : Q (.bl (decide (xs = ys))) H) : rEqD K (.ref a) (.ref b) H Q :=
  ⟨_, _, dp_tup h (all_flat hx), dp_tup g (all_flat hy), shaped_tup (all_flat hx), shaped_tup (all_flat hy), by
    have e : PyData.eqv (.tuple (xs.map toD)) (.tuple (ys.map toD)) = decide (xs = ys) := by
      simp only [PyData.eqv]
      exact eqvAll_sc hx hy
    rw [e]
    exact q⟩
theorem r_neTT (h : SqT K H a xs) (g : SqT K H b ys) (hx : xs.all sc = true) (hy : ys.all sc = true) (q : Q (.bl (!decide (xs = ys))) H) : rNeD K (.ref a) (.ref b) H Q :=
  ⟨_, _, dp_tup h (all_flat hx), dp_tup g (all_flat hy), shaped_tup (all_flat hx), shaped_tup (all_flat hy), by
    have e : PyData.eqv (.tuple (xs.map toD)) (.tuple (ys.map toD)) = decide (xs = ys) := by
      simp only [PyData.eqv]
      exact eqvAll_sc hx hy
    rw [e]
    exact q⟩
theorem r_eqSS (hx : sc x = true) (hy : sc y = true) (q : Q (.bl (decide (x = y))) H) : rEqD K x y H Q :=
  ⟨_, _, dp_flat (flat_sc hx), dp_flat (flat_sc hy), shaped_flat (flat_sc hx), shaped_flat (flat_sc hy), by rw [eqv_sc hx hy]; exact q⟩
theorem r_neSS (hx : sc x = true) (hy : sc y = true) (q : Q (.bl (!decide (x = y))) H) : rNeD K x y H Q :=
  ⟨_, _, dp_flat (flat_sc hx), dp_flat (flat_sc hy), shaped_flat (flat_sc hx), shaped_flat (flat_sc hy), by rw [eqv_sc hx hy]; exact q⟩

/-! ### + and slices of tuples -/
theorem r_catA (h : SqT K H a xs) (g : SqT K H b ys) (hl : xs.length + ys.length ≤ sizeLine) (q : ∀ p H', Same H H' → SqT K H' p (xs ++ ys) → Q (.ref p) H') : rCatA K (.ref a) (.ref b) H Q :=
  ⟨a, b, xs, ys, rfl, rfl, h, g, hl, fun e => q b H (Same.refl H) (by rw [e]; exact g), fun _ e => q a H (Same.refl H) (by rw [e, List.append_nil]; exact h), fun _ _ p hp => q p _ (same_new hp) (SqT.of upd_same)⟩
theorem r_slA {lo hi : Option Int} (h : SqT K H a xs) (q : ∀ p H', Same H H' → SqT K H' p (cutV xs lo hi) → Q (.ref p) H') : rSlA K (.ref a) lo hi H Q :=
  ⟨a, xs, rfl, h, fun e => q a H (Same.refl H) (by
    have z : cutV xs lo hi = xs := by
      unfold cutV
      rw [e.1, e.2]
      simp
    rw [z]
    exact h), fun _ p hp => q p _ (same_new hp) (SqT.of upd_same)⟩
theorem cut_to {n : Nat} (xs : List V) : cutV xs none (some (n : Int)) = xs.take n := by
  unfold cutV
  rw [HT.sIx_none, HT.sIx_nat, List.drop_zero, Nat.sub_zero]
  by_cases h : n ≤ xs.length
  · rw [Nat.min_eq_left h]
  · rw [Nat.min_eq_right (by omega), List.take_of_length_le (Nat.le_refl _), List.take_of_length_le (by omega)]
theorem cut_from {n : Nat} (xs : List V) : cutV xs (some (n : Int)) none = xs.drop n := by
  unfold cutV
  rw [HT.sIx_none, HT.sIx_nat]
  by_cases h : n ≤ xs.length
  · rw [Nat.min_eq_left h]
    exact List.take_of_length_le (by rw [List.length_drop]; exact Nat.le_refl _)
  · rw [Nat.min_eq_right (by omega), List.drop_of_length_le (Nat.le_refl _), List.drop_of_length_le (by omega)]
    exact List.take_nil

/-! ### isinstance -/
theorem tyx_t (h : SqT K H a xs) : TyX K H (.ref a) (.type "tuple") := by
  rcases h with (h | ⟨o, h⟩) | ⟨o, its, n, e, c, _⟩
  · exact .base (.tup h)
  · exact .fTuple h
  · exact .kTuple e c
theorem tyx_l (h : SqL K H a xs) : TyX K H (.ref a) (.type "list") := by
  rcases h with (h | ⟨o, h⟩) | ⟨o, its, n, e, c, _⟩
  · exact .base (.lst h)
  · exact .base (.frz h)
  · exact .kList e c
/-- a value whose kind is known -/
inductive Kd (K : PySem.W.Frag) (H : Hp) : V → Prop
  | flat {v : V} (h : flat v = true) : Kd K H v
  | tup {a : Addr} {xs : List V} (h : SqT K H a xs) : Kd K H (.ref a)
  | lst {a : Addr} {xs : List V} (h : SqL K H a xs) : Kd K H (.ref a)
theorem Kd.same {H' : Hp} {v : V} (e : Same H H') (h : Kd K H v) : Kd K H' v := by
  cases h with
  | flat h => exact .flat h
  | tup h => exact .tup (st_same e h)
  | lst h => exact .lst (e.seq h)
theorem r_isi {x : V} {t n : String} {b : Bool} (ty : TyX K H x (.type t)) (h : kitB t n = some b) (q : Q (.bl b) H) : rIsi K [x, .ty n] H Q :=
  ⟨x, .ty n, .type t, .type n, b, rfl, .ty n, ty, kit_ty h, q⟩
def isIntV : V → Bool
  | .int _ => true
  | _ => false
def isStrV : V → Bool
  | .str _ => true
  | _ => false
def isBlV : V → Bool
  | .bl _ => true
  | _ => false
theorem r_isStr {x : V} (k : Kd K H x) (q : Q (.bl (isStrV x)) H) : rIsi K [x, .ty "str"] H Q := by
  cases k with
  | flat h =>
    cases x with
    | non => exact r_isi (.base .non) (b := false) (by decide +kernel) q
    | bl b => exact r_isi (.base (.bl b)) (b := false) (by decide +kernel) q
    | int i => exact r_isi (.base (.int i)) (b := false) (by decide +kernel) q
    | str s => exact r_isi (.base (.str s)) (b := true) (by decide +kernel) q
    | _ => cases h
  | tup h => exact r_isi (tyx_t h) (b := false) (by decide +kernel) q
  | lst h => exact r_isi (tyx_l h) (b := false) (by decide +kernel) q
theorem r_isInt {x : V} (k : Kd K H x) (q : Q (.bl (isIntV x || isBlV x)) H) : rIsi K [x, .ty "int"] H Q := by
  cases k with
  | flat h =>
    cases x with
    | non => exact r_isi (.base .non) (b := false) (by decide +kernel) q
    | bl b => exact r_isi (.base (.bl b)) (b := true) (by decide +kernel) q
    | int i => exact r_isi (.base (.int i)) (b := true) (by decide +kernel) q
    | str s => exact r_isi (.base (.str s)) (b := false) (by decide +kernel) q
    | _ => cases h
  | tup h => exact r_isi (tyx_t h) (b := false) (by decide +kernel) q
  | lst h => exact r_isi (tyx_l h) (b := false) (by decide +kernel) q
theorem r_isBl {x : V} (k : Kd K H x) (q : Q (.bl (isBlV x)) H) : rIsi K [x, .ty "bool"] H Q := by
  cases k with
  | flat h =>
    cases x with
    | non => exact r_isi (.base .non) (b := false) (by decide +kernel) q
    | bl b => exact r_isi (.base (.bl b)) (b := true) (by decide +kernel) q
    | int i => exact r_isi (.base (.int i)) (b := false) (by decide +kernel) q
    | str s => exact r_isi (.base (.str s)) (b := false) (by decide +kernel) q
    | _ => cases h
  | tup h => exact r_isi (tyx_t h) (b := false) (by decide +kernel) q
  | lst h => exact r_isi (tyx_l h) (b := false) (by decide +kernel) q
/-- is it a tuple? -/
inductive TupB (K : PySem.W.Frag) (H : Hp) : V → Bool → Prop
  | flat {v : V} (h : flat v = true) : TupB K H v false
  | tup {a : Addr} {xs : List V} (h : SqT K H a xs) : TupB K H (.ref a) true
  | lst {a : Addr} {xs : List V} (h : SqL K H a xs) : TupB K H (.ref a) false
theorem r_isTup {x : V} {b : Bool} (k : TupB K H x b) (q : Q (.bl b) H) : rIsi K [x, .ty "tuple"] H Q := by
  cases k with
  | flat h =>
    cases x with
    | non => exact r_isi (.base .non) (b := false) (by decide +kernel) q
    | bl b => exact r_isi (.base (.bl b)) (b := false) (by decide +kernel) q
    | int i => exact r_isi (.base (.int i)) (b := false) (by decide +kernel) q
    | str s => exact r_isi (.base (.str s)) (b := false) (by decide +kernel) q
    | _ => cases h
  | tup h => exact r_isi (tyx_t h) (b := true) (by decide +kernel) q
  | lst h => exact r_isi (tyx_l h) (b := false) (by decide +kernel) q
/-- isinstance(x, (list, tuple)) -/
def isRowV (b : Bool) : Bool := b
theorem r_isRow {x : V} {tp : Addr} {t : String} {b : Bool} (hT : H tp = some (.tup [.ty "list", .ty "tuple"])) (ty : TyX K H x (.type t)) (h1 : kitB t "list" = some b) (h2 : b = true ∨ kitB t "tuple" = some false ∨ kitB t "tuple" = some true)
    (c : Bool) (hc : c = (b || (kitB t "tuple" == some true))) (q : Q (.bl c) H) : rIsiT K [x, .ref tp] H Q := by
  refine ⟨x, tp, [.ty "list", .ty "tuple"], .type t, [.type "list", .type "tuple"], c, rfl, hT, .cons (.ty _) (.cons (.ty _) .nil), ty, ?_, q⟩
  cases b with
  | true =>
    rw [Bool.true_or] at hc
    subst hc
    exact kitAny_cons (kit_ty h1) (fun z => by cases z) (fun _ => rfl)
  | false =>
    rcases h2 with z | z | z
    · cases z
    · rw [z] at hc
      have hc' : c = false := hc
      subst hc'
      exact kitAny_cons (kit_ty h1) (fun _ => kitAny_cons (kit_ty z) (fun _ => kitAny_nil) (fun z => by cases z)) (fun z => by cases z)
    · rw [z] at hc
      have hc' : c = true := hc
      subst hc'
      exact kitAny_cons (kit_ty h1) (fun _ => kitAny_cons (kit_ty z) (fun z => by cases z) (fun _ => rfl)) (fun z => by cases z)
theorem r_isRowT {tp : Addr} (hT : H tp = some (.tup [.ty "list", .ty "tuple"])) (h : SqT K H a xs) (q : Q (.bl true) H) : rIsiT K [.ref a, .ref tp] H Q :=
  r_isRow hT (tyx_t h) (b := false) (by decide +kernel) (.inr (.inr (by decide +kernel))) true (by decide +kernel) q
theorem r_isRowL {tp : Addr} (hT : H tp = some (.tup [.ty "list", .ty "tuple"])) (h : SqL K H a xs) (q : Q (.bl true) H) : rIsiT K [.ref a, .ref tp] H Q :=
  r_isRow hT (tyx_l h) (b := true) (by decide +kernel) (.inl rfl) true (by decide +kernel) q
theorem r_isRowF {tp : Addr} {v : V} (hT : H tp = some (.tup [.ty "list", .ty "tuple"])) (h : flat v = true) (q : Q (.bl false) H) : rIsiT K [v, .ref tp] H Q := by
  cases v with
  | non => exact r_isRow hT (.base .non) (b := false) (by decide +kernel) (.inr (.inl (by decide +kernel))) false (by decide +kernel) q
  | bl b => exact r_isRow hT (.base (.bl b)) (b := false) (by decide +kernel) (.inr (.inl (by decide +kernel))) false (by decide +kernel) q
  | int i => exact r_isRow hT (.base (.int i)) (b := false) (by decide +kernel) (.inr (.inl (by decide +kernel))) false (by decide +kernel) q
  | str s => exact r_isRow hT (.base (.str s)) (b := false) (by decide +kernel) (.inr (.inl (by decide +kernel))) false (by decide +kernel) q
  | _ => cases h
/-! ### lo <= s <= hi of texts -/
def rangeS (lo hi x : Str) : Bool := (!decide (x.cps.toList < lo.cps.toList)) && (!decide (hi.cps.toList < x.cps.toList))
def rLeS : R2 := fun x y H Q => ∃ i j, x = .str i ∧ y = .str j ∧ Q (.bl (!decide (j.cps.toList < i.cps.toList))) H
def rLeI : R2 := rI0 fun i j => .bl (decide (i ≤ j))
theorem t_rngS {lo hi : Str} {tb : TE} {σ : L2.St} (h : tb σ H fun y H1 => ∃ s, y = .str s ∧ Q (.bl (rangeS lo hi s)) H1) : tChain rLeS rLeS (tC (.str lo)) tb (tC (.str hi)) σ H Q := by
  show tb σ H fun y H2 => rLeS (.str lo) y H2 fun z H3 => ∃ k, z = .bl k ∧ (if k = true then rLeS y (.str hi) H3 Q else Q (.bl false) H3)
  have e : (fun y H2 => rLeS (.str lo) y H2 fun z H3 => ∃ k, z = .bl k ∧ (if k = true then rLeS y (.str hi) H3 Q else Q (.bl false) H3)) = fun y H1 => ∃ s, y = .str s ∧ Q (.bl (rangeS lo hi s)) H1 := by
    funext y H2
    refine propext ⟨fun z => ?_, fun z => ?_⟩
    · obtain ⟨i, s, e1, rfl, k, ek, z⟩ := z
      cases e1
      refine ⟨s, rfl, ?_⟩
      cases ek
      unfold rangeS
      cases e : (!decide (s.cps.toList < lo.cps.toList)) with
      | true =>
        rw [e, if_pos rfl] at z
        obtain ⟨i, j, e1, e2, z⟩ := z
        cases e1
        cases e2
        rw [Bool.true_and]
        exact z
      | false =>
        rw [e, if_neg Bool.false_ne_true] at z
        rw [Bool.false_and]
        exact z
    · obtain ⟨s, rfl, q⟩ := z
      refine ⟨lo, s, rfl, rfl, _, rfl, ?_⟩
      unfold rangeS at q
      cases e : (!decide (s.cps.toList < lo.cps.toList)) with
      | true =>
        rw [e, Bool.true_and] at q
        exact iteT ⟨s, hi, rfl, rfl, q⟩
      | false =>
        rw [e, Bool.false_and] at q
        exact iteF q
  rw [e]
  exact h
theorem t_rngI {lo hi : Int} {tb : TE} {σ : L2.St} (h : tb σ H fun y H1 => ∃ n, y = .int n ∧ Q (.bl (decide (lo ≤ n) && decide (n ≤ hi))) H1) : tChain rLeI rLeI (tC (.int lo)) tb (tC (.int hi)) σ H Q := by
  show tb σ H fun y H2 => rLeI (.int lo) y H2 fun z H3 => ∃ k, z = .bl k ∧ (if k = true then rLeI y (.int hi) H3 Q else Q (.bl false) H3)
  have e : (fun y H2 => rLeI (.int lo) y H2 fun z H3 => ∃ k, z = .bl k ∧ (if k = true then rLeI y (.int hi) H3 Q else Q (.bl false) H3)) = fun y H1 => ∃ n, y = .int n ∧ Q (.bl (decide (lo ≤ n) && decide (n ≤ hi))) H1 := by
    funext y H2
    refine propext ⟨fun z => ?_, fun z => ?_⟩
    · obtain ⟨i, s, e1, rfl, k, ek, z⟩ := z
      cases e1
      refine ⟨s, rfl, ?_⟩
      cases ek
      cases e : decide (lo ≤ s) with
      | true =>
        rw [e, if_pos rfl] at z
        obtain ⟨i, j, e1, e2, z⟩ := z
        cases e1
        cases e2
        rw [Bool.true_and]
        exact z
      | false =>
        rw [e, if_neg Bool.false_ne_true] at z
        rw [Bool.false_and]
        exact z
    · obtain ⟨s, rfl, q⟩ := z
      refine ⟨lo, s, rfl, rfl, _, rfl, ?_⟩
      cases e : decide (lo ≤ s) with
      | true =>
        rw [e, Bool.true_and] at q
        exact iteT ⟨s, hi, rfl, rfl, q⟩
      | false =>
        rw [e, Bool.false_and] at q
        exact iteF q
  rw [e]
  exact h
end
/-! ### loops and comprehensions -/
section
variable {K : PySem.W.Frag} {wi : TI} {g : TG} {tb : TS} {tt : TT} {te : TE} {vs : List Nat} {D : Ends} {σ : L2.St} {H : Hp} {Q : VK}
theorem t_for {J : It} {n : Nat} {G : Hp → Prop} {Y : Nat → Hp → V → Hp → Prop} {H1 : Hp} (w : Walk J n G Y) (hw : ∀ R : It → Hp → Prop, R J H1 → wi σ H R) (Pv : Nat → L2.St → Hp → Prop) (h0 : Pv 0 σ H1) (hG : ∀ i σ H, i ≤ n → Pv i σ H → G H)
    (hs : ∀ i x σ H H', i < n → Pv i σ H → Y i H x H' → g x σ H' fun σ2 H2 => tb { D with nx := Pv (i + 1), ct := Pv (i + 1), bk := D.nx } σ2 H2) (hd : ∀ σ H, Pv n σ H → D.nx σ H) : tFor wi g tb D σ H :=
  hw _ (for_it w Pv h0 hG hs hd)
/-- .. where what is walked comes at a place that is not known ahead -/
theorem t_forS (S : It → Hp → Prop) (hw : ∀ R : It → Hp → Prop, (∀ J H1, S J H1 → R J H1) → wi σ H R)
    (h : ∀ J H1, S J H1 → ∃ W : Nat → Nat → L2.St → Hp → Prop, (∃ m, W 0 m σ H1) ∧ ∀ i m σ H, W i m σ H →
      (J.stop i H ∧ D.nx σ H) ∨ (J.go i H ∧ ∃ N : L2.St → Hp → Prop, (∀ σ' H', N σ' H' → ∃ m', m' < m ∧ W (i + 1) m' σ' H') ∧ ∀ x H', J.yld i H x H' → g x σ H' fun σ2 H2 => tb { D with nx := N, ct := N, bk := D.nx } σ2 H2)) : tFor wi g tb D σ H := hw _ h
theorem t_lc {J : It} {n : Nat} {G : Hp → Prop} {Y : Nat → Hp → V → Hp → Prop} {H1 : Hp} (w : Walk J n G Y) (hw : ∀ R : It → Hp → Prop, R J H1 → wi σ H R) (Pv : Addr → Nat → Hp → Prop) (h0 : ∀ D, H1 D = none → Pv D 0 (upd H1 D (.lst []))) (hG : ∀ D i H, i ≤ n → Pv D i H → G H)
    (hs : ∀ D, H1 D = none → ∀ i x H H', i < n → Pv D i H → Y i H x H' → g x (wipe σ vs) H' fun σ2 H2 => wipe σ2 vs = wipe σ vs ∧ tt σ2 H2 fun b H3 =>
      if b = true then te σ2 H3 fun y H4 => ∃ acc, H4 D = some (.lst acc) ∧ acc.length < sizeLine ∧ Pv D (i + 1) (upd H4 D (.lst (acc ++ [y]))) else Pv D (i + 1) H3)
    (hd : ∀ D, H1 D = none → ∀ H, Pv D n H → Q (.ref D) H) : tLc wi g tt te vs σ H Q :=
  hw _ fun D hD => lc_it w (Pv D) (h0 D hD) (hG D) (hs D hD) (hd D hD)
/-- .. where what is walked comes at a place that is not known ahead -/
theorem t_lcS (S : It → Hp → Prop) (hw : ∀ R : It → Hp → Prop, (∀ J H1, S J H1 → R J H1) → wi σ H R)
    (h : ∀ J H1, S J H1 → ∃ n G Y, Walk J n G Y ∧ ∃ Pv : Addr → Nat → Hp → Prop, (∀ D, H1 D = none → Pv D 0 (upd H1 D (.lst []))) ∧ (∀ D i H, i ≤ n → Pv D i H → G H) ∧
      (∀ D, H1 D = none → ∀ i x H H', i < n → Pv D i H → Y i H x H' → g x (wipe σ vs) H' fun σ2 H2 => wipe σ2 vs = wipe σ vs ∧ tt σ2 H2 fun b H3 =>
        if b = true then te σ2 H3 fun y H4 => ∃ acc, H4 D = some (.lst acc) ∧ acc.length < sizeLine ∧ Pv D (i + 1) (upd H4 D (.lst (acc ++ [y]))) else Pv D (i + 1) H3) ∧
      (∀ D, H1 D = none → ∀ H, Pv D n H → Q (.ref D) H)) : tLc wi g tt te vs σ H Q :=
  hw _ fun J H1 s => by
    obtain ⟨n, G, Y, w, Pv, h0, hG, hs, hd⟩ := h J H1 s
    exact fun D hD => lc_it w (Pv D) (h0 D hD) (hG D) (hs D hD) (hd D hD)
end
/-! ### names -/
def sg (c : Nat) : Str := ⟨#[c]⟩
def okSign (c : Nat) : Bool := rangeS "a" "z" (sg c) || rangeS "0" "9" (sg c)
def firstOk : List Nat → Bool
  | [] => false
  | c :: _ => rangeS "a" "z" (sg c)
def nameOk (s : Str) : Bool := (decide ((1 : Int) ≤ s.length) && decide ((s.length : Int) ≤ 12)) && (firstOk s.cps.toList && s.cps.toList.all okSign)
def isNameV : V → Bool
  | .str s => nameOk s
  | _ => false
end KK

namespace K65
open PySem PySem.Spec PyProof.Rows L2 KR KK
/-! ### the text -/
def topS (i : Nat) : Stmt := PySem.Challenge.pw_onlywhatvaries_k65_rows_of_one_root.main.body.getD i (.Pass ⟨0, 0, 0, 0⟩)
abbrev s_BadRow___init__ : Stmt := inClass (topS 2) 0
abbrev n_BadRow___init__ : List Str := ["self", "at"]
abbrev p_BadRow___init__ : List Str := ["self", "at"]
theorem sc_BadRow___init__ : FnScope n_BadRow___init__ p_BadRow___init__ (defScope s_BadRow___init__) := ⟨rfl, rfl, rfl, by decide +kernel, rfl, by decide +kernel, by decide +kernel⟩
abbrev s_is_int : Stmt := topS 4
abbrev n_is_int : List Str := ["x"]
abbrev p_is_int : List Str := ["x"]
theorem sc_is_int : FnScope n_is_int p_is_int (defScope s_is_int) := ⟨rfl, rfl, rfl, by decide +kernel, rfl, by decide +kernel, by decide +kernel⟩
abbrev s_is_name : Stmt := topS 5
abbrev n_is_name : List Str := ["x", "sign"]
abbrev p_is_name : List Str := ["x"]
theorem sc_is_name : FnScope n_is_name p_is_name (defScope s_is_name) := ⟨rfl, rfl, rfl, by decide +kernel, rfl, by decide +kernel, by decide +kernel⟩
abbrev s_wrong_entry : Stmt := topS 7
abbrev n_wrong_entry : List Str := ["row", "at", "entry"]
abbrev p_wrong_entry : List Str := ["row"]
theorem sc_wrong_entry : FnScope n_wrong_entry p_wrong_entry (defScope s_wrong_entry) := ⟨rfl, rfl, rfl, by decide +kernel, rfl, by decide +kernel, by decide +kernel⟩
abbrev s_check_entries : Stmt := topS 8
abbrev n_check_entries : List Str := ["row", "wrong"]
abbrev p_check_entries : List Str := ["row"]
theorem sc_check_entries : FnScope n_check_entries p_check_entries (defScope s_check_entries) := ⟨rfl, rfl, rfl, by decide +kernel, rfl, by decide +kernel, by decide +kernel⟩
abbrev s_check_entry_rows : Stmt := topS 9
abbrev n_check_entry_rows : List Str := ["rows", "at", "row", "wrong"]
abbrev p_check_entry_rows : List Str := ["rows"]
theorem sc_check_entry_rows : FnScope n_check_entry_rows p_check_entry_rows (defScope s_check_entry_rows) := ⟨rfl, rfl, rfl, by decide +kernel, rfl, by decide +kernel, by decide +kernel⟩
abbrev s_check_two_rows : Stmt := topS 10
abbrev n_check_two_rows : List Str := ["row", "other", "first", "wrong"]
abbrev p_check_two_rows : List Str := ["row", "other"]
theorem sc_check_two_rows : FnScope n_check_two_rows p_check_two_rows (defScope s_check_two_rows) := ⟨rfl, rfl, rfl, by decide +kernel, rfl, by decide +kernel, by decide +kernel⟩
abbrev s_plain_root : Stmt := topS 11
abbrev n_plain_root : List Str := ["row", "many", "size"]
abbrev p_plain_root : List Str := ["row"]
theorem sc_plain_root : FnScope n_plain_root p_plain_root (defScope s_plain_root) := ⟨rfl, rfl, rfl, by decide +kernel, rfl, by decide +kernel, by decide +kernel⟩
abbrev s_rows_root : Stmt := topS 12
abbrev n_rows_root : List Str := ["rows", "roots", "row", "root"]
abbrev p_rows_root : List Str := ["rows"]
theorem sc_rows_root : FnScope n_rows_root p_rows_root (defScope s_rows_root) := ⟨rfl, rfl, rfl, by decide +kernel, rfl, by decide +kernel, by decide +kernel⟩
abbrev s_root_of : Stmt := topS 13
abbrev n_root_of : List Str := ["row"]
abbrev p_root_of : List Str := ["row"]
theorem sc_root_of : FnScope n_root_of p_root_of (defScope s_root_of) := ⟨rfl, rfl, rfl, by decide +kernel, rfl, by decide +kernel, by decide +kernel⟩
abbrev s_common_root : Stmt := topS 14
abbrev n_common_root : List Str := ["rows"]
abbrev p_common_root : List Str := ["rows"]
theorem sc_common_root : FnScope n_common_root p_common_root (defScope s_common_root) := ⟨rfl, rfl, rfl, by decide +kernel, rfl, by decide +kernel, by decide +kernel⟩
abbrev s_do_rows_commute : Stmt := topS 15
abbrev n_do_rows_commute : List Str := ["row", "other", "first", "second"]
abbrev p_do_rows_commute : List Str := ["row", "other"]
theorem sc_do_rows_commute : FnScope n_do_rows_commute p_do_rows_commute (defScope s_do_rows_commute) := ⟨rfl, rfl, rfl, by decide +kernel, rfl, by decide +kernel, by decide +kernel⟩
abbrev s_orders_steady : Stmt := topS 16
abbrev n_orders_steady : List Str := ["rows"]
abbrev p_orders_steady : List Str := ["rows"]
theorem sc_orders_steady : FnScope n_orders_steady p_orders_steady (defScope s_orders_steady) := ⟨rfl, rfl, rfl, by decide +kernel, rfl, by decide +kernel, by decide +kernel⟩
abbrev s_mixings_steady : Stmt := topS 17
abbrev n_mixings_steady : List Str := ["row", "other", "first", "second", "entry"]
abbrev p_mixings_steady : List Str := ["row", "other"]
theorem sc_mixings_steady : FnScope n_mixings_steady p_mixings_steady (defScope s_mixings_steady) := ⟨rfl, rfl, rfl, by decide +kernel, rfl, by decide +kernel, by decide +kernel⟩
abbrev s_law_draws : Stmt := topS 19
abbrev n_law_draws : List Str := ["script", "draws", "at", "cell", "turn"]
abbrev p_law_draws : List Str := ["script"]
theorem sc_law_draws : FnScope n_law_draws p_law_draws (defScope s_law_draws) := ⟨rfl, rfl, rfl, by decide +kernel, rfl, by decide +kernel, by decide +kernel⟩
abbrev s_law_take : Stmt := topS 20
abbrev n_law_take : List Str := ["draws", "many"]
abbrev p_law_take : List Str := ["draws", "many"]
theorem sc_law_take : FnScope n_law_take p_law_take (defScope s_law_take) := ⟨rfl, rfl, rfl, by decide +kernel, rfl, by decide +kernel, by decide +kernel⟩
abbrev s_law_equal : Stmt := topS 21
abbrev n_law_equal : List Str := ["told", "due", "waiting", "turn", "one", "two", "at"]
abbrev p_law_equal : List Str := ["told", "due"]
theorem sc_law_equal : FnScope n_law_equal p_law_equal (defScope s_law_equal) := ⟨rfl, rfl, rfl, by decide +kernel, rfl, by decide +kernel, by decide +kernel⟩
abbrev s_law_pool : Stmt := topS 22
abbrev n_law_pool : List Str := ["at"]
abbrev p_law_pool : List Str := ["at"]
theorem sc_law_pool : FnScope n_law_pool p_law_pool (defScope s_law_pool) := ⟨rfl, rfl, rfl, by decide +kernel, rfl, by decide +kernel, by decide +kernel⟩
abbrev s_law_base : Stmt := topS 23
abbrev n_law_base : List Str := ["draws", "size", "row", "shift", "at", "turn"]
abbrev p_law_base : List Str := ["draws"]
theorem sc_law_base : FnScope n_law_base p_law_base (defScope s_law_base) := ⟨rfl, rfl, rfl, by decide +kernel, rfl, by decide +kernel, by decide +kernel⟩
abbrev s_law_row : Stmt := topS 24
abbrev n_law_row : List Str := ["draws", "base", "other", "kind", "many", "at", "entry", "row"]
abbrev p_law_row : List Str := ["draws", "base", "other"]
theorem sc_law_row : FnScope n_law_row p_law_row (defScope s_law_row) := ⟨rfl, rfl, rfl, by decide +kernel, rfl, by decide +kernel, by decide +kernel⟩
abbrev s_law_root : Stmt := topS 25
abbrev n_law_root : List Str := ["row", "size"]
abbrev p_law_root : List Str := ["row"]
theorem sc_law_root : FnScope n_law_root p_law_root (defScope s_law_root) := ⟨rfl, rfl, rfl, by decide +kernel, rfl, by decide +kernel, by decide +kernel⟩
abbrev s_law_common : Stmt := topS 26
abbrev n_law_common : List Str := ["rows", "roots", "row", "root"]
abbrev p_law_common : List Str := ["rows"]
theorem sc_law_common : FnScope n_law_common p_law_common (defScope s_law_common) := ⟨rfl, rfl, rfl, by decide +kernel, rfl, by decide +kernel, by decide +kernel⟩
abbrev s_law_pair_right : Stmt := topS 27
abbrev n_law_pair_right : List Str := ["row", "other", "commute", "one", "two", "alike", "entry"]
abbrev p_law_pair_right : List Str := ["row", "other"]
theorem sc_law_pair_right : FnScope n_law_pair_right p_law_pair_right (defScope s_law_pair_right) := ⟨rfl, rfl, rfl, by decide +kernel, rfl, by decide +kernel, by decide +kernel⟩
abbrev s_law_rows_right : Stmt := topS 28
abbrev n_law_rows_right : List Str := ["rows", "common", "row", "at", "mate"]
abbrev p_law_rows_right : List Str := ["rows"]
theorem sc_law_rows_right : FnScope n_law_rows_right p_law_rows_right (defScope s_law_rows_right) := ⟨rfl, rfl, rfl, by decide +kernel, rfl, by decide +kernel, by decide +kernel⟩
abbrev s_law_heard : Stmt := topS 29
abbrev n_law_heard : List Str := ["which", "one", "two", "told", "wrong"]
abbrev p_law_heard : List Str := ["which", "one", "two"]
theorem sc_law_heard : FnScope n_law_heard p_law_heard (defScope s_law_heard) := ⟨rfl, rfl, rfl, by decide +kernel, rfl, by decide +kernel, by decide +kernel⟩
abbrev s_law_refuses : Stmt := topS 30
abbrev n_law_refuses : List Str := ["rows", "pick", "at", "spot", "wrong", "row", "bent", "several", "asked", "which", "one"]
abbrev p_law_refuses : List Str := ["rows", "pick", "at", "spot"]
theorem sc_law_refuses : FnScope n_law_refuses p_law_refuses (defScope s_law_refuses) := ⟨rfl, rfl, rfl, by decide +kernel, rfl, by decide +kernel, by decide +kernel⟩
abbrev s_law : Stmt := topS 31
abbrev n_law : List Str := ["script", "draws", "base", "other", "rows", "pick", "at", "spot", "right", "entry", "turn"]
abbrev p_law : List Str := ["script"]
theorem sc_law : FnScope n_law p_law (defScope s_law) := ⟨rfl, rfl, rfl, by decide +kernel, rfl, by decide +kernel, by decide +kernel⟩
/-- the built-in names are the built-ins still -/
structure Bi (mg : Str → Option Value) : Prop where
  len : mg "len" = none
  all : mg "all" = none
  isinstance : mg "isinstance" = none
  enumerate : mg "enumerate" = none
  range : mg "range" = none
  min : mg "min" = none
  int_ : mg "int" = none
  bool_ : mg "bool" = none
  str_ : mg "str" = none
  list_ : mg "list" = none
  tuple_ : mg "tuple" = none
/-- a def that may be called: its promise, where it stands -/
structure Cal (P : Program) (w : World) (K : PySem.W.Frag) (mg : Str → Option Value) (base : Heap) (CX : CXT) (k : Nat) (x : Str) (ps : List Str) (sp : Sp) where
  f : Addr
  fd : FuncData
  G : FnOk P w K mg base CX k f fd ps sp
  g : mg x = some (.ref f)
  kp : PySem.W.keepIn K (.ref f) = true
  b : Binds K fd ps []
/-! ### BadRow -/
/-- what the written part says of BadRow, at C, and of its __init__, at fI -/
structure BadT (K : PySem.W.Frag) (mg : Str → Option Value) (C fI : Addr) : Prop where
  gC : mg "BadRow" = some (.ref C)
  ox : OexC K C
  xf : XfC K C
  noA : PySem.W.findIn K (.ref C) "at" = some none
  iC : PySem.W.findIn K (.ref C) "__init__" = some (some (.ref fI))
  tI : PySem.W.typeIn K (.ref fI) = some (.type "function")
  te : PySem.W.exmOne K (.ref C) (.ref C) = some true
def spInit (K : PySem.W.Frag) : Sp := fun vs H Q _ => ∃ (a C : Addr) (y : V), vs = [.ref a, y] ∧ OexC K C ∧ PySem.W.findIn K (.ref C) "at" = some none ∧ H a = some (exo a C none) ∧
  ∀ dx, H dx = none → dx ≠ a → Q .non (upd (upd H dx (exd dx [("at", y)])) a (exo a C (some dx)))
section
variable {P : Program} {w : World} {K : PySem.W.Frag} {mg : Str → Option Value} {base : Heap}
theorem ok_init {f : Addr} {fd : FuncData} (F : Fun K "__init__" "BadRow.__init__" s_BadRow___init__ f fd) : FnOk P w K mg base CX0 1 f fd p_BadRow___init__ (spInit K) := by
  refine F.ok sc_BadRow___init__ (fun vs H Q E h => ?_) (fun cdv A outer s H vs Q E hr h => ?_)
  · obtain ⟨a, C, y, rfl, _⟩ := h
    rfl
  · obtain ⟨a, C, y, rfl, T, no, ea, q⟩ := h
    refine ⟨_, (pss_one (ps_ost (pv 0) (pv 1))), ?_⟩
    exact ⟨y, rfl, .ref a, rfl, a, C, rfl, T, no, .inl ⟨ea, fun dx hd ne => q dx hd ne⟩⟩
end
/-- BadRow(e) -/
structure BadF (P : Program) (w : World) (K : PySem.W.Frag) (mg : Str → Option Value) (base : Heap) where
  C : Addr
  fI : Addr
  fd : FuncData
  T : BadT K mg C fI
  G : FnOk P w K mg base CX0 1 fI fd p_BadRow___init__ (spInit K)
  b : Binds K fd p_BadRow___init__ []
def tBad (C : Addr) (ta : TA) : L2.St → Hp → XK → Prop := fun σ H Q => ta σ H fun vs H1 => ∃ y, vs = [y] ∧ ∀ d, H1 d = none → Q (.ref C) (some d) (upd H1 d (.xd [("at", y)]))
theorem pmk_bad {X : Cx} {a : Expr} {ta : TA} {p pos : Pos} {k : Nat} (T : BadF X.prog X.w X.K X.mg X.base) (hr : Room k X.A) (hk : 2 ≤ k) (ha : PA X [a] ta) (hg : Gl X "BadRow" := by rfl)
    (he : starEach [a] X.env = (false, eval a X.env) :: starEach [] X.env := by rfl) (hpl : (backTo pos (starEach [] X.env)).any (·.1) = false := by rfl) :
    PMk X (.Call (.Name "BadRow" p) [a] [] pos) (tBad T.C ta) := by
  intro pins s σ H Q I h
  have hm := T.T.gC
  refine pmk_oex (dvs := []) (ds := []) (sp := spInit X.K) T.T.ox T.T.iC T.T.tI T.G (hr.mono hk) T.b .nil (fun _ _ _ _ _ _ _ h => h.elim) hg hm
    (ta := fun σ' H' R => ta σ' H' (fun vs H1 => ∃ y, vs = [y] ∧ ∀ d, H1 d = none → Q (.ref T.C) (some d) (upd H1 d (.xd [("at", y)]))) ∧ ∀ vs H1, (∃ y, vs = [y] ∧ ∀ d, H1 d = none → Q (.ref T.C) (some d) (upd H1 d (.xd [("at", y)]))) → R vs H1)
    ⟨fun pos pins s σ H R I h => ?_⟩ (by decide) he hpl pins s σ H Q I ⟨h, fun vs H1 hv => ?_⟩
  · obtain ⟨h1, h2⟩ := h
    exact thn (ha.run pos pins s σ H _ I h1) fun us s1 ⟨vs, H1, I1, r1, q1⟩ => ⟨vs, H1, I1, r1, h2 vs H1 q1⟩
  · obtain ⟨y, rfl, q⟩ := hv
    refine ⟨by show 1 ≤ 1000; decide, fun e he => ⟨e, T.C, y, rfl, T.T.ox, T.T.noA, upd_same, fun dx hd ne => ⟨rfl, dx, [("at", y)], upd_same, ?_, ?_, ?_⟩⟩⟩
    · rw [upd_ne ne, upd_same]
    · rw [upd_ne ne] at hd
      exact hd
    · have hd' : H1 dx = none := by
        rw [upd_ne ne] at hd
        exact hd
      have eq : upd (del (upd (upd (upd H1 e (exo e T.C none)) dx (exd dx [("at", y)])) e (exo e T.C (some dx))) e) dx (.xd [("at", y)]) = upd H1 dx (.xd [("at", y)]) := by
        funext b
        by_cases hb : b = dx
        · rw [hb, upd_same, upd_same]
        · rw [upd_ne hb, upd_ne hb]
          by_cases hb2 : b = e
          · rw [hb2, del_same, he]
          · rw [del_ne hb2, upd_ne hb2, upd_ne hb, upd_ne hb2]
      rw [eq]
      exact q dx hd'
end K65

namespace K65
open PySem PySem.Spec PyProof.Rows L2 KR KK
local macro_rules | `(tactic| walk_at "u") => `(tactic| try dsimp only [tSeq, tCutS, tCutE, tCutT, tIfS, tRet, tRetN, tNext, tBreak, tCont, tDrop, tAsg, gName, gTup, gCons, gNil, tOr, tAnd, tNot, tB, tTest, tCB, tCons, tNil, tC, tVar, tAndV, tOrV, tNotV, tOp, tUn, tIf, tIsN, tNotN, tTup, tLst, tCall, tCallS, tBM, tBM0, tSl, tPart, tNoPart, tYes, iList, iTup, iSeq, iStr, iRng1, iRng2, iEnumA, rI, rI0, rU, cxOf, Cx.nox, Cx.wish, L2.start, List.map, List.set, Nat.repeat, List.length_cons, List.length_nil, List.replicate, List.nil_append, List.cons_append, List.append_nil, Nat.reduceAdd, Nat.reduceSub, E0, tBad, tTr])
section
variable {P : Program} {w : World} {K : PySem.W.Frag} {mg : Str → Option Value} {base : Heap}
/-! ### is_int, is_name -/
def spIsInt (K : PySem.W.Frag) : Sp := fun vs H Q _ => ∃ v, vs = [v] ∧ Kd K H v ∧ Q (.bl (isIntV v)) H
theorem ok_is_int {f : Addr} {fd : FuncData} (B : Bi mg) (F : Fun K "is_int" "is_int" s_is_int f fd) : FnOk P w K mg base CX0 1 f fd p_is_int (spIsInt K) := by
  refine F.ok sc_is_int (fun vs H Q E h => ?_) (fun cdv A outer s H vs Q E hr h => ?_)
  · obtain ⟨v, rfl, _⟩ := h
    rfl
  · obtain ⟨v, rfl, kd, q⟩ := h
    refine ⟨_, (pss_one (ps_ret (pe_and (pe_callB (call_isiK1 (K := K) rfl) (by rfl) B.isinstance (by decide +kernel) (pa_cons (pv 0) (pa_cons (pe_bltn (v := .ty "int") (by rfl) B.int_ (by decide +kernel) rfl) pa_nil))) (pe_one (pe_not (pe_callB (call_isiK1 (K := K) rfl) (by rfl) B.isinstance (by decide +kernel) (pa_cons (pv 0) (pa_cons (pe_bltn (v := .ty "bool") (by rfl) B.bool_ (by decide +kernel) rfl) pa_nil)))))))), ?_⟩
    walk_at "u"
    refine ⟨v, rfl, r_isInt kd ⟨_, rfl, ?_⟩⟩
    cases v with
    | int i => exact iteT ⟨_, rfl, r_isBl kd ⟨_, rfl, q⟩⟩
    | bl b => exact iteT ⟨_, rfl, r_isBl kd ⟨_, rfl, q⟩⟩
    | _ => exact iteF q
def spIsName (K : PySem.W.Frag) : Sp := fun vs H Q _ => ∃ v, vs = [v] ∧ Kd K H v ∧ ∀ H', Same H H' → Q (.bl (isNameV v)) H'
theorem ok_is_name {f : Addr} {fd : FuncData} (B : Bi mg) (F : Fun K "is_name" "is_name" s_is_name f fd) : FnOk P w K mg base CX0 1 f fd p_is_name (spIsName K) := by
  refine F.ok sc_is_name (fun vs H Q E h => ?_) (fun cdv A outer s H vs Q E hr h => ?_)
  · obtain ⟨v, rfl, _⟩ := h
    rfl
  · obtain ⟨v, rfl, kd, q⟩ := h
    refine ⟨_, (pss_cons (ps_if (PW.pt (pw_or (pt_not (pt_val (pe_callB (call_isiK1 (K := K) rfl) (by rfl) B.isinstance (by decide +kernel) (pa_cons (pv 0) (pa_cons (pe_bltn (v := .ty "str") (by rfl) B.str_ (by decide +kernel) rfl) pa_nil))))) (pw_or1 (pt_not (pt_chain op_le op_le pe_int (pe_callB call_len_str (by rfl) B.len PySem.boot_len (pa_cons (pv 0) pa_nil)) pe_int)))))
      (pss_one (ps_ret pe_bl))
      pss_nil)
      (pss_cons (ps_if (pt_not (pt_chain op_le_str op_le_str pe_str (pe_ix ix_str (pv 0) pe_int (fun _ _ => rfl)) pe_str))
      (pss_one (ps_ret pe_bl))
      pss_nil)
      (pss_one (ps_ret (pe_callB (cr_allK (K := K) rfl (by rfl)) (by rfl) B.all (by decide +kernel) (pa_cons (pe_lc (own := [("sign", 1)]) (by rfl) sc_is_name.nd (pi_str (pv 0)) (blkOk_by (own := [("sign", 1)]) (N := n_is_name) (sc := defScope s_is_name) (by decide +kernel)) (fun _ _ _ _ _ => (pg_name (i := 1) sc_is_name.nd rfl (by first | exact .inl rfl | exact .inr rfl))) (fun _ _ _ _ _ => pts_nil) (fun _ _ _ _ _ => (pe_or (pe_chain op_le_str op_le_str pe_str (pv 1) pe_str) (pe_one (pe_chain op_le_str op_le_str pe_str (pv 1) pe_str))))) pa_nil)))))), ?_⟩
    walk_at "u"
    have q0 : isNameV v = false → Q (.bl false) H := fun e => by
      have := q H (Same.refl H)
      rw [e] at this
      exact this
    refine ⟨v, rfl, r_isStr kd ⟨_, rfl, ?_⟩⟩
    cases v with
    | str z => 
      have hz : z.length ≤ 1000 := by
        cases kd with
        | flat h => exact of_decide_eq_true (Bool.and_eq_true_iff.mp h).2
      have hzl : z.length ≤ sizeLine := Nat.le_of_lt (small1000 hz)
      refine iteF ?_
      refine t_rngI ?_
      refine ⟨.str z, rfl, z, rfl, hzl, _, rfl, _, rfl, ?_⟩
      cases e1 : (decide ((1 : Int) ≤ (z.length : Int)) && decide ((z.length : Int) ≤ 12)) with
      | false =>
        refine iteT (q0 ?_)
        show nameOk z = false
        unfold nameOk
        rw [e1] <;> rfl
      | true =>
        refine iteF ?_
        have h1 := of_decide_eq_true (Bool.and_eq_true_iff.mp e1).1
        have h2 := of_decide_eq_true (Bool.and_eq_true_iff.mp e1).2
        obtain ⟨c, r, ec⟩ : ∃ c r, z.cps.toList = c :: r := by
          cases e : z.cps.toList with
          | nil =>
            have e2 : z.length = 0 := by
              show z.cps.size = 0
              rw [← Array.length_toList, e] <;> rfl
            omega
          | cons c r => exact ⟨c, r, rfl⟩
        have ei : atI z.cps.toList 0 = some c := atI_nat (j := 0) (by rw [ec] <;> rfl)
        refine t_rngS ?_
        refine ⟨.str z, rfl, z, 0, c, rfl, rfl, hzl, ei, _, rfl, _, rfl, ?_⟩
        cases e3 : rangeS "a" "z" ⟨#[c]⟩ with
        | false =>
          refine iteT (q0 ?_)
          have z1 : firstOk z.cps.toList = false := by
            rw [ec]
            exact e3
          show nameOk z = false
          unfold nameOk
          rw [z1, Bool.false_and, Bool.and_false]
        | true =>
          refine iteF ?_
          refine t_lc (walk_str (z := z)) (fun R r => ⟨.str z, rfl, z, rfl, r⟩) (fun D i H' => Same H H' ∧ H' D = some (.lst (((z.cps.toList.take i).map okSign).map V.bl))) (fun D hD => ⟨same_new hD, upd_same⟩) (fun _ _ _ _ _ => trivial) (fun D hD i x H1 H2 hi p y => ?_) (fun D hD H1 p => ?_)
          · obtain ⟨sm, eD⟩ := p
            obtain ⟨rfl, c2, ec2, rfl⟩ := y
            walk_at "u"
            refine ⟨rfl, iteT ?_⟩
            have fin : ∃ acc, H2 D = some (.lst acc) ∧ acc.length < sizeLine ∧ Same H (upd H2 D (.lst (acc ++ [.bl (okSign c2)]))) ∧ (upd H2 D (.lst (acc ++ [.bl (okSign c2)]))) D = some (.lst (((z.cps.toList.take (i + 1)).map okSign).map V.bl)) := by
              refine ⟨_, eD, ?_, same_mut hD ((SameB.of sm).trans SameB.upd), ?_⟩
              · rw [List.length_map, List.length_map, List.length_take]
                refine small1000 ?_
                have : z.cps.toList.length = z.length := rfl
                omega
              · rw [upd_same, List.take_add_one]
                have e5 : z.cps.toList[i]? = some c2 := by
                  rw [Array.getElem?_toList]
                  exact ec2
                rw [e5]
                simp
            refine t_rngS ?_
            refine ⟨.str ⟨#[c2]⟩, rfl, _, rfl, _, rfl, ?_⟩
            cases e6 : rangeS "a" "z" ⟨#[c2]⟩ with
            | true =>
              refine iteT ?_
              have e7 : okSign c2 = true := by
                unfold okSign sg
                rw [e6] <;> rfl
              rw [e7] at fin
              exact fin
            | false =>
              refine iteF (t_rngS ⟨.str ⟨#[c2]⟩, rfl, _, rfl, ?_⟩)
              have e7 : okSign c2 = rangeS "0" "9" ⟨#[c2]⟩ := by
                unfold okSign sg
                rw [e6] <;> rfl
              rw [e7] at fin
              exact fin
          · obtain ⟨sm, eD⟩ := p
            have et : z.cps.toList.take z.cps.size = z.cps.toList := List.take_of_length_le (by rw [Array.length_toList]; exact Nat.le_refl _)
            rw [et] at eD
            refine ⟨D, _, rfl, .inl (.inl eD), ?_⟩
            have e9 : isNameV (.str z) = ((z.cps.toList.map okSign).all id) := by
              show nameOk z = _
              unfold nameOk
              rw [e1, ec]
              show (true && (rangeS "a" "z" (sg c) && _)) = _
              have e3' : rangeS "a" "z" (sg c) = true := e3
              rw [e3', Bool.true_and, Bool.true_and, List.all_map]
              rfl
            have := q H1 sm
            rw [e9] at this
            exact this
    | _ => exact iteT (q0 rfl)
end
end K65

namespace K65
open PySem PySem.Spec PyProof.Rows L2 KR KK
local macro_rules | `(tactic| walk_at "u") => `(tactic| try dsimp only [tSeq, tCutS, tCutE, tCutT, tIfS, tRet, tRetN, tNext, tBreak, tCont, tDrop, tAsg, gName, gTup, gCons, gNil, tOr, tAnd, tNot, tB, tTest, tCB, tCons, tNil, tC, tVar, tAndV, tOrV, tNotV, tOp, tUn, tIf, tIsN, tNotN, tTup, tLst, tCall, tCallS, tBM, tBM0, tSl, tPart, tNoPart, tYes, iList, iTup, iSeq, iStr, iRng1, iRng2, iEnumA, rI, rI0, rU, cxOf, Cx.nox, Cx.wish, L2.start, List.map, List.set, Nat.repeat, List.length_cons, List.length_nil, List.replicate, List.nil_append, List.cons_append, List.append_nil, Nat.reduceAdd, Nat.reduceSub, E0, tBad, tTr])

/-! ### entries and rows as they are passed -/
inductive Ent (K : PySem.W.Frag) (H : Hp) : V → Prop
  | flat {v : V} (h : flat v = true) : Ent K H v
  | tup {a : Addr} {xs : List V} (h : SqT K H a xs) (f : xs.all flat = true) : Ent K H (.ref a)
theorem Ent.same {K : PySem.W.Frag} {H H' : Hp} {v : V} (e : Same H H') (h : Ent K H v) : Ent K H' v := by
  cases h with
  | flat h => exact .flat h
  | tup h f => exact .tup (st_same e h) f
theorem Ent.kd {K : PySem.W.Frag} {H : Hp} {v : V} (h : Ent K H v) : Kd K H v := by
  cases h with
  | flat h => exact .flat h
  | tup h f => exact .tup h
theorem r_neStr {K : PySem.W.Frag} {H : Hp} {v : V} {s : Str} {Q : VK} (h : Ent K H v) (hs : flat (.str s) = true) (q : Q (.bl (!decide (v = .str s))) H) : rNeD K v (.str s) H Q := by
  cases h with
  | flat h =>
    refine ⟨_, _, dp_flat h, dp_flat hs, shaped_flat h, shaped_flat hs, ?_⟩
    have e : PyData.eqv (toD v) (toD (.str s)) = decide (v = .str s) := by
      cases v with
      | non =>
        show PyData.eqv .none (.str s) = _
        rw [decide_eq_false (fun z => by cases z)]
        simp only [PyData.eqv]
      | bl b =>
        show PyData.eqv (.bool b) (.str s) = _
        rw [decide_eq_false (fun z => by cases z)]
        simp only [PyData.eqv]
      | int i =>
        show PyData.eqv (.int i) (.str s) = _
        rw [decide_eq_false (fun z => by cases z)]
        simp only [PyData.eqv]
      | str t =>
        show PyData.eqv (.str t) (.str s) = _
        rw [dec_str]
        simp only [PyData.eqv]
      | _ => cases h
    rw [e]
    exact q
  | tup h f =>
    refine ⟨_, _, dp_tup h f, dp_flat hs, shaped_tup f, shaped_flat hs, ?_⟩
    have e : ∀ ds : List PyData, PyData.eqv (.tuple ds) (toD (.str s)) = false := fun ds => by
      show PyData.eqv (.tuple ds) (.str s) = false
      simp only [PyData.eqv]
    rw [e]
    rw [decide_eq_false (fun z => by cases z)] at q
    exact q
def entOk (v : V) : Bool := isNameV v || (isIntV v || decide (v = .str "*"))
/-- a row as it is passed: a tuple or a list of entries, or neither -/
inductive RowA (K : PySem.W.Frag) (H : Hp) : V → Option (List V) → Prop
  | tup {a : Addr} {xs : List V} (h : SqT K H a xs) (f : ∀ x ∈ xs, Ent K H x) (l : xs.length ≤ 1000) : RowA K H (.ref a) (some xs)
  | lst {a : Addr} {xs : List V} (h : SqL K H a xs) (f : ∀ x ∈ xs, Ent K H x) (l : xs.length ≤ 1000) : RowA K H (.ref a) (some xs)
  | no {v : V} (h : flat v = true) : RowA K H v none
theorem RowA.same {K : PySem.W.Frag} {H H' : Hp} {v : V} {o : Option (List V)} (e : Same H H') (h : RowA K H v o) : RowA K H' v o := by
  cases h with
  | tup h f l => exact .tup (st_same e h) (fun x m => (f x m).same e) l
  | lst h f l => exact .lst (e.seq h) (fun x m => (f x m).same e) l
  | no h => exact .no h
def wrongGo : List V → Nat → V
  | [], _ => .non
  | x :: r, i => if entOk x then wrongGo r (i + 1) else .int (i : Nat)
def wrongV : Option (List V) → V
  | none => .int (-1)
  | some xs => wrongGo xs 0
theorem wrongGo_drop {xs : List V} {i : Nat} {x : V} (h : xs[i]? = some x) (k : Nat) : wrongGo (xs.drop i) k = if entOk x then wrongGo (xs.drop (i + 1)) (k + 1) else .int (k : Nat) := by
  have e : xs.drop i = x :: xs.drop (i + 1) := by
    obtain ⟨hi, e⟩ := List.getElem?_eq_some_iff.mp h
    rw [List.drop_eq_getElem_cons hi, e]
  rw [e]
  rfl
section
variable {K : PySem.W.Frag} {H : Hp} {v : V} {xs : List V} {o : Option (List V)}
theorem r_isRowA {tp : Addr} {Q : VK} (hT : H tp = some (.tup [.ty "list", .ty "tuple"])) (h : RowA K H v o) (q : Q (.bl o.isSome) H) : rIsiT K [v, .ref tp] H Q := by
  cases h with
  | tup h f l => exact r_isRowT hT h q
  | lst h f l => exact r_isRowL hT h q
  | no h => exact r_isRowF hT h q
theorem rowA_enum (h : RowA K H v (some xs)) : ∃ (J : It) (G : Hp → Prop), Walk J xs.length G (YPair (fun i => some (.int (i : Nat))) (fun i => xs[i]?)) ∧ (∀ H', Same H H' → G H') ∧
    ∀ (σ : L2.St) (H1 : Hp), σ[0]? = some (some v) → Same H H1 → ∀ R : It → Hp → Prop, R J H1 → iEnumA K (tCons (tVar 0) tNil) σ H1 R := by
  cases h with
  | tup h f l => exact ⟨_, _, walk_enumT, fun H' e => st_same e h, fun σ H1 e0 e R r => ⟨_, e0, _, xs, rfl, .inr ⟨st_same e h, r⟩⟩⟩
  | lst h f l => exact ⟨_, _, walk_enum, fun H' e => e.seq h, fun σ H1 e0 e R r => ⟨_, e0, _, xs, rfl, .inl ⟨e.seq h, r⟩⟩⟩
theorem rowA_ent (h : RowA K H v (some xs)) : (∀ x ∈ xs, Ent K H x) ∧ xs.length ≤ 1000 := by
  cases h with
  | tup h f l => exact ⟨f, l⟩
  | lst h f l => exact ⟨f, l⟩
/-- tuple(row) -/
theorem r_tupOf {Q : VK} (h : RowA K H v (some xs)) (q : ∀ p H', Same H H' → SqT K H' p xs → Q (.ref p) H') : rTupQ K [v] H Q := by
  cases h with
  | tup h f l => exact ⟨_, xs, rfl, .inr ⟨h, q _ H (Same.refl H) h⟩⟩
  | lst h f l => exact ⟨_, xs, rfl, .inl ⟨h, fun l hl => q l _ (same_new hl) (SqT.of upd_same)⟩⟩
end
theorem flat_star : flat (.str "*") = true := by decide +kernel
section
variable {P : Program} {w : World} {K : PySem.W.Frag} {mg : Str → Option Value} {base : Heap}
def spWrong (K : PySem.W.Frag) : Sp := fun vs H Q _ => ∃ v o, vs = [v] ∧ RowA K H v o ∧ ∀ H', Same H H' → Q (wrongV o) H'
theorem ok_wrong_entry {f : Addr} {fd : FuncData} (B : Bi mg) (F : Fun K "wrong_entry" "wrong_entry" s_wrong_entry f fd)
    (Cis_name : Cal P w K mg base CX0 1 "is_name" p_is_name (spIsName K)) (Cis_int : Cal P w K mg base CX0 1 "is_int" p_is_int (spIsInt K)) : FnOk P w K mg base CX0 2 f fd p_wrong_entry (spWrong K) := by
  refine F.ok sc_wrong_entry (fun vs H Q E h => ?_) (fun cdv A outer s H vs Q E hr h => ?_)
  · obtain ⟨v, o, rfl, _⟩ := h
    rfl
  · obtain ⟨v, o, rfl, ra, q⟩ := h
    refine ⟨_, (pss_cons (ps_if (pt_not (pt_val (pe_callB (call_isiTK (K := K) rfl) (by rfl) B.isinstance (by decide +kernel) (pa_cons (pv 0) (pa_cons (pe_tup (pa_cons (pe_bltn (v := .ty "list") (by rfl) B.list_ (by decide +kernel) rfl) (pa_cons (pe_bltn (v := .ty "tuple") (by rfl) B.tuple_ (by decide +kernel) rfl) pa_nil))) pa_nil)))))
      (pss_one (ps_ret (pe_un un_neg pe_int)))
      pss_nil)
      (pss_cons (ps_for PassesOwn.never rfl (pi_enumA (by rfl) B.enumerate (pa_cons (pv 0) pa_nil)) (pg_tup rfl (pgs_cons (pg_name (i := 1) sc_wrong_entry.nd rfl (by first | exact .inl rfl | exact .inr rfl)) (pgs_cons (pg_name (i := 2) sc_wrong_entry.nd rfl (by first | exact .inl rfl | exact .inr rfl)) pgs_nil)))
      (pss_one (ps_if (PW.pt (pw_and (pt_not (pt_val (pe_call Cis_name.G (hr.mono (by decide)) (by rfl) Cis_name.g Cis_name.kp Cis_name.b .nil pass0 (pa_cons (pv 2) pa_nil)))) (pw_and (pt_not (pt_val (pe_call Cis_int.G (hr.mono (by decide)) (by rfl) Cis_int.g Cis_int.kp Cis_int.b .nil pass0 (pa_cons (pv 2) pa_nil)))) (pw_and1 (pt_cmpR (op_neDK (K := K) rfl hr.units) (pv 2) pe_str (nomark _))))))
      (pss_one (ps_ret (pv 1)))
      pss_nil)))
      (pss_one (ps_ret pe_non)))), ?_⟩
    walk_at "u"
    refine ⟨v, rfl, by show 2 ≤ sizeLine; decide, fun p hp => ?_⟩
    have sm1 : Same H (upd H p (.tup [.ty "list", .ty "tuple"])) := same_new hp
    refine r_isRowA upd_same (ra.same sm1) ⟨_, rfl, ?_⟩
    cases o with
    | none => exact iteT ⟨1, rfl, q _ sm1⟩
    | some xs =>
      refine iteF ?_
      obtain ⟨J, G, wk, hG, hw⟩ := rowA_enum ra
      obtain ⟨fe, hl⟩ := rowA_ent ra
      refine t_for wk (hw _ _ rfl sm1) (fun i σ H' => Same H H' ∧ (∃ y1 y2, σ = [some v, y1, y2]) ∧ wrongGo xs 0 = wrongGo (xs.drop i) i) ⟨sm1, ⟨_, _, rfl⟩, rfl⟩ (fun i σ H' _ p => hG H' p.1) (fun i x σ H1 H2 hi p y => ?_) (fun σ H1 p => ?_)
      · obtain ⟨sm, ⟨y1, y2, rfl⟩, ew⟩ := p
        obtain ⟨T, x1, e, rfl, nT, rfl, f1, f2⟩ := y
        cases f1
        have smT : Same H (upd H1 T (.tup [.int (i : Nat), e])) := sm.trans (same_new nT)
        refine ⟨T, [.int (i : Nat), e], rfl, .inl (.inl upd_same), rfl, _, _, rfl, _, _, rfl, rfl, ?_⟩
        walk_at "u"
        have en : Ent K H e := fe e (List.mem_of_getElem? f2)
        rw [wrongGo_drop f2] at ew
        refine ⟨e, rfl, e, rfl, (en.same smT).kd, fun H3 s3 => ⟨_, rfl, ?_⟩⟩
        have sm3 := smT.trans s3
        have yes : entOk e = true → Same H H3 ∧ (∃ y1 y2, [some v, some (V.int (i : Nat)), some e] = [some v, y1, y2]) ∧ wrongGo xs 0 = wrongGo (xs.drop (i + 1)) (i + 1) := fun z => ⟨sm3, ⟨_, _, rfl⟩, by rw [ew, if_pos z]⟩
        cases e1 : isNameV e with
        | true => exact iteF (iteF (yes (by unfold entOk; rw [e1] <;> rfl)))
        | false =>
          refine iteT ⟨e, rfl, e, rfl, (en.same sm3).kd, _, rfl, ?_⟩
          cases e2 : isIntV e with
          | true => exact iteF (iteF (yes (by unfold entOk; rw [e1, e2] <;> rfl)))
          | false =>
            refine iteT ⟨e, rfl, r_neStr (en.same sm3) flat_star ⟨_, rfl, ?_⟩⟩
            have eo : entOk e = decide (e = .str "*") := by
              unfold entOk
              rw [e1, e2] <;> rfl
            cases e3 : decide (e = V.str "*") with
            | true => exact iteF (yes (by rw [eo, e3]))
            | false =>
              refine iteT ⟨_, rfl, ?_⟩
              have := q H3 sm3
              have e4 : wrongV (some xs) = .int (i : Nat) := by
                show wrongGo xs 0 = _
                rw [ew, eo, e3]
                rfl
              rw [e4] at this
              exact this
      · obtain ⟨sm, _, ew⟩ := p
        have := q H1 sm
        have e4 : wrongV (some xs) = .non := by
          show wrongGo xs 0 = _
          rw [ew, List.drop_length]
          rfl
        rw [e4] at this
        exact this
end
end K65

namespace K65
open PySem PySem.Spec PyProof.Rows L2 KR KK
local macro_rules | `(tactic| walk_at "u") => `(tactic| try dsimp only [tSeq, tCutS, tCutE, tCutT, tIfS, tRet, tRetN, tNext, tBreak, tCont, tDrop, tAsg, gName, gTup, gCons, gNil, tOr, tAnd, tNot, tB, tTest, tCB, tCons, tNil, tC, tVar, tAndV, tOrV, tNotV, tOp, tUn, tIf, tIsN, tNotN, tTup, tLst, tCall, tCallS, tBM, tBM0, tSl, tPart, tNoPart, tYes, iList, iTup, iSeq, iStr, iRng1, iRng2, iEnumA, rI, rI0, rU, cxOf, Cx.nox, Cx.wish, L2.start, List.map, List.set, Nat.repeat, List.length_cons, List.length_nil, List.replicate, List.nil_append, List.cons_append, List.append_nil, Nat.reduceAdd, Nat.reduceSub, E0, tBad, tTr])

/-! ### an answer, or a refusal with what it tells -/
inductive Res (α : Type) where
  | ok (a : α)
  | bad (z : PyData)
def Res.map {α β : Type} (f : α → β) : Res α → Res β
  | .ok a => .ok (f a)
  | .bad z => .bad z
def OutR (K : PySem.W.Frag) (C : Addr) {α : Type} (H : Hp) (good : α → V → Hp → Prop) (r : Res α) (Q : VK) (E : XK) : Prop := match r with
  | .ok a => ∀ v H', Same H H' → good a v H' → Q v H'
  | .bad z => ∀ d y H', Same H H' → H' d = some (.xd [("at", y)]) → Dp K H' y z → E (.ref C) (some d) H'
theorem OutR.same {K : PySem.W.Frag} {C : Addr} {α : Type} {H H1 : Hp} {good : α → V → Hp → Prop} {r : Res α} {Q : VK} {E : XK} (h : OutR K C H good r Q E) (e : Same H H1) : OutR K C H1 good r Q E := by
  cases r with
  | ok a => exact fun v H' e' g => h v H' (e.trans e') g
  | bad z => exact fun d y H' e' => h d y H' (e.trans e')
def gRow (K : PySem.W.Frag) : List V → V → Hp → Prop := fun xs v H => ∃ p, v = .ref p ∧ SqT K H p xs
def rowOf (o : Option (List V)) : List V := o.getD []
def checkE (o : Option (List V)) : Res (List V) := if wrongV o = .non then .ok (rowOf o) else .bad (toD (wrongV o))
theorem wrongGo_flat : ∀ (xs : List V) (i : Nat), flat (wrongGo xs i) = true
  | [], _ => rfl
  | x :: r, i => by
    show flat (if entOk x then wrongGo r (i + 1) else .int (i : Nat)) = true
    split
    · exact wrongGo_flat r (i + 1)
    · rfl
theorem wrongV_flat : ∀ (o : Option (List V)), flat (wrongV o) = true
  | none => rfl
  | some xs => wrongGo_flat xs 0
theorem right_some {o : Option (List V)} (h : wrongV o = .non) : ∃ xs, o = some xs := by
  cases o with
  | none => cases h
  | some xs => exact ⟨xs, rfl⟩
section
variable {P : Program} {w : World} {K : PySem.W.Frag} {mg : Str → Option Value} {base : Heap}
def spCheckE (K : PySem.W.Frag) (C : Addr) : Sp := fun vs H Q E => ∃ v o, vs = [v] ∧ RowA K H v o ∧ OutR K C H (gRow K) (checkE o) Q E
theorem ok_check_entries {f : Addr} {fd : FuncData} (B : Bi mg) (T : BadF P w K mg base) (F : Fun K "check_entries" "check_entries" s_check_entries f fd)
    (Cwrong_entry : Cal P w K mg base CX0 2 "wrong_entry" p_wrong_entry (spWrong K)) : FnOk P w K mg base (L2.CX P w) 3 f fd p_check_entries (spCheckE K T.C) := by
  refine F.okX sc_check_entries (fun vs H Q E h => ?_) (fun cdv A outer s H vs Q E hr h => ?_)
  · obtain ⟨v, o, rfl, _⟩ := h
    rfl
  · obtain ⟨v, o, rfl, ra, q⟩ := h
    refine ⟨_, (pss_cons (ps_set (i := 1) sc_check_entries.nd rfl (by first | exact .inl rfl | exact .inr rfl) (pe_call Cwrong_entry.G (hr.mono (by decide)) (by rfl) Cwrong_entry.g Cwrong_entry.kp Cwrong_entry.b .nil pass0 (pa_cons (pv 0) pa_nil)))
      (pss_cons (ps_if (pt_cmp (pc_notN (pv 1)))
      (pss_one (ps_raise rfl (takes_of (E := E) rfl rfl rfl rfl) (pmk_bad T hr (by decide) (pa_cons (pv 1) pa_nil))))
      pss_nil)
      (pss_one (ps_ret (pe_callTy (call_tupK (K := K) rfl) (by rfl) B.tuple_ (by decide +kernel) (pa_cons (pv 0) pa_nil)))))), ?_⟩
    walk_at "u"
    refine ⟨v, rfl, v, o, rfl, ra, fun H1 s1 => ?_⟩
    refine ⟨wrongV o, rfl, _, rfl, ?_⟩
    unfold checkE at q
    by_cases e : wrongV o = .non
    · rw [if_pos e] at q
      rw [decide_eq_true e]
      obtain ⟨xs, rfl⟩ := right_some e
      exact iteF ⟨v, rfl, r_tupOf (ra.same s1) fun p H' e' hT => q _ H' (s1.trans e') ⟨p, rfl, hT⟩⟩
    · rw [if_neg e] at q
      rw [decide_eq_false e]
      exact iteT ⟨_, rfl, _, rfl, fun d hd => q d _ _ (s1.trans (same_new hd)) upd_same (dp_flat (wrongV_flat o))⟩
/-! ### rows of rows -/
inductive RowsA (K : PySem.W.Frag) (H : Hp) : V → Option (List (Option (List V))) → Prop
  | tup {a : Addr} {rs : List V} {os : List (Option (List V))} (h : SqT K H a rs) (f : Paired (RowA K H) rs os) (l : rs.length ≤ 1000) : RowsA K H (.ref a) (some os)
  | lst {a : Addr} {rs : List V} {os : List (Option (List V))} (h : SqL K H a rs) (f : Paired (RowA K H) rs os) (l : rs.length ≤ 1000) : RowsA K H (.ref a) (some os)
  | no {v : V} (h : flat v = true) : RowsA K H v none
theorem pair_at {α β : Type} {F : α → β → Prop} : ∀ {l₁ : List α} {l₂ : List β} {i : Nat} {x : α}, Paired F l₁ l₂ → l₁[i]? = some x → ∃ y, l₂[i]? = some y ∧ F x y
  | _, _, _, _, .nil, h => by simp at h
  | _, _, 0, _, .cons f _, h => by
    have e := Option.some.inj h
    subst e
    exact ⟨_, rfl, f⟩
  | _, _, i + 1, _, .cons _ r, h => pair_at (i := i) r h
theorem pair_cat {α β : Type} {F : α → β → Prop} : ∀ {l₁ : List α} {l₂ : List β} {m₁ : List α} {m₂ : List β}, Paired F l₁ l₂ → Paired F m₁ m₂ → Paired F (l₁ ++ m₁) (l₂ ++ m₂)
  | _, _, _, _, .nil, h => h
  | _, _, _, _, .cons f r, h => .cons f (pair_cat r h)
theorem RowsA.rows {v : V} {K : PySem.W.Frag} {H : Hp} {os : List (Option (List V))} (h : RowsA K H v (some os)) : ∃ (a : Addr) (rs : List V), v = .ref a ∧ (SqT K H a rs ∨ SqL K H a rs) ∧ Paired (RowA K H) rs os ∧ rs.length ≤ 1000 := by
  cases h with
  | tup h f l => exact ⟨_, _, rfl, .inl h, f, l⟩
  | lst h f l => exact ⟨_, _, rfl, .inr h, f, l⟩
def firstBad : List (Option (List V)) → Nat → Option PyData
  | [], _ => none
  | o :: r, i => if wrongV o = .non then firstBad r (i + 1) else some (.tuple [.int (i : Nat), toD (wrongV o)])
theorem firstBad_drop {os : List (Option (List V))} {i : Nat} {o : Option (List V)} (h : os[i]? = some o) (k : Nat) : firstBad (os.drop i) k = if wrongV o = .non then firstBad (os.drop (i + 1)) (k + 1) else some (.tuple [.int (k : Nat), toD (wrongV o)]) := by
  have e : os.drop i = o :: os.drop (i + 1) := by
    obtain ⟨hi, e⟩ := List.getElem?_eq_some_iff.mp h
    rw [List.drop_eq_getElem_cons hi, e]
  rw [e]
  rfl
theorem firstBad_none : ∀ {os : List (Option (List V))} {k : Nat}, firstBad os k = none → ∀ o ∈ os, wrongV o = .non
  | [], _, _, o, m => by cases m
  | a :: r, k, h, o, m => by
    have h' : (if wrongV a = .non then firstBad r (k + 1) else some (.tuple [.int (k : Nat), toD (wrongV a)])) = none := h
    by_cases e : wrongV a = .non
    · rw [if_pos e] at h'
      rcases List.mem_cons.mp m with z | z
      · rw [z]; exact e
      · exact firstBad_none h' o z
    · rw [if_neg e] at h'
      cases h'
def checkRs : Option (List (Option (List V))) → Res (List (List V))
  | none => .bad (.tuple [.int (-1), .int (-1)])
  | some os => match firstBad os 0 with
    | some z => .bad z
    | none => .ok (os.map rowOf)
theorem checkRs_bad {os : List (Option (List V))} {z : PyData} (h : firstBad os 0 = some z) : checkRs (some os) = .bad z := by
  show (match firstBad os 0 with
    | some z => Res.bad z
    | none => .ok (os.map rowOf)) = _
  rw [h]
theorem checkRs_ok {os : List (Option (List V))} (h : firstBad os 0 = none) : checkRs (some os) = .ok (os.map rowOf) := by
  show (match firstBad os 0 with
    | some z => Res.bad z
    | none => .ok (os.map rowOf)) = _
  rw [h]
/-- a value that is a tuple of xs -/
def IsT (K : PySem.W.Frag) (H : Hp) (x : V) (xs : List V) : Prop := ∃ a, x = .ref a ∧ SqT K H a xs
theorem IsT.same {K : PySem.W.Frag} {H H' : Hp} {x : V} {xs : List V} (e : Same H H') (h : IsT K H x xs) : IsT K H' x xs := by
  obtain ⟨a, r, h⟩ := h
  exact ⟨a, r, st_same e h⟩
def gRows (K : PySem.W.Frag) : List (List V) → V → Hp → Prop := fun xss v H => ∃ p rs, v = .ref p ∧ SqL K H p rs ∧ Paired (IsT K H) rs xss
def spCheckRs (K : PySem.W.Frag) (C : Addr) : Sp := fun vs H Q E => ∃ v o, vs = [v] ∧ RowsA K H v o ∧ OutR K C H (gRows K) (checkRs o) Q E
theorem dp_pair {H : Hp} {a : Addr} {x y : V} (h : SqT K H a [x, y]) (hx : flat x = true) (hy : flat y = true) : Dp K H (.ref a) (.tuple [toD x, toD y]) := .tup h (.cons (dp_flat hx) (.cons (dp_flat hy) .nil))
theorem rowsA_enum {H : Hp} {a : Addr} {rs : List V} (h : SqT K H a rs ∨ SqL K H a rs) : ∃ (J : It) (G : Hp → Prop), Walk J rs.length G (YPair (fun i => some (.int (i : Nat))) (fun i => rs[i]?)) ∧ (∀ H', Same H H' → G H') ∧
    ∀ (σ : L2.St) (H1 : Hp), σ[0]? = some (some (.ref a)) → Same H H1 → ∀ R : It → Hp → Prop, R J H1 → iEnumA K (tCons (tVar 0) tNil) σ H1 R := by
  rcases h with h | h
  · exact ⟨_, _, walk_enumT, fun H' e => st_same e h, fun σ H1 e0 e R r => ⟨_, e0, _, rs, rfl, .inr ⟨st_same e h, r⟩⟩⟩
  · exact ⟨_, _, walk_enum, fun H' e => e.seq h, fun σ H1 e0 e R r => ⟨_, e0, _, rs, rfl, .inl ⟨e.seq h, r⟩⟩⟩
theorem rowsA_seq {H : Hp} {a : Addr} {rs : List V} (h : SqT K H a rs ∨ SqL K H a rs) : ∃ (J : It) (G : Hp → Prop), Walk J rs.length G (YAt rs) ∧ (∀ H', Same H H' → G H') ∧
    ∀ (σ : L2.St) (H1 : Hp), σ[0]? = some (some (.ref a)) → Same H H1 → ∀ R : It → Hp → Prop, R J H1 → iSeq K (tVar 0) σ H1 R := by
  rcases h with h | h
  · exact ⟨_, _, walk_tup, fun H' e => st_same e h, fun σ H1 e0 e R r => ⟨_, e0, _, rs, rfl, .inr ⟨st_same e h, r⟩⟩⟩
  · exact ⟨_, _, walk_list, fun H' e => e.seq h, fun σ H1 e0 e R r => ⟨_, e0, _, rs, rfl, .inl ⟨e.seq h, r⟩⟩⟩
theorem ok_check_entry_rows {f : Addr} {fd : FuncData} (B : Bi mg) (T : BadF P w K mg base) (F : Fun K "check_entry_rows" "check_entry_rows" s_check_entry_rows f fd)
    (Cwrong_entry : Cal P w K mg base CX0 2 "wrong_entry" p_wrong_entry (spWrong K)) : FnOk P w K mg base (L2.CX P w) 3 f fd p_check_entry_rows (spCheckRs K T.C) := by
  refine F.okX sc_check_entry_rows (fun vs H Q E h => ?_) (fun cdv A outer s H vs Q E hr h => ?_)
  · obtain ⟨v, o, rfl, _⟩ := h
    rfl
  · obtain ⟨v, o, rfl, ra, q⟩ := h
    refine ⟨_, (pss_cons (ps_if (pt_not (pt_val (pe_callB (call_isiTK (K := K) rfl) (by rfl) B.isinstance (by decide +kernel) (pa_cons (pv 0) (pa_cons (pe_tup (pa_cons (pe_bltn (v := .ty "list") (by rfl) B.list_ (by decide +kernel) rfl) (pa_cons (pe_bltn (v := .ty "tuple") (by rfl) B.tuple_ (by decide +kernel) rfl) pa_nil))) pa_nil)))))
      (pss_one (ps_raise rfl (takes_of (E := E) rfl rfl rfl rfl) (pmk_bad T hr (by decide) (pa_cons (pe_tup (pa_cons (pe_un un_neg pe_int) (pa_cons (pe_un un_neg pe_int) pa_nil))) pa_nil))))
      pss_nil)
      (pss_cons (ps_for (passes_of rfl) rfl (pi_enumA (by rfl) B.enumerate (pa_cons (pv 0) pa_nil)) (pg_tup rfl (pgs_cons (pg_name (i := 1) sc_check_entry_rows.nd rfl (by first | exact .inl rfl | exact .inr rfl)) (pgs_cons (pg_name (i := 2) sc_check_entry_rows.nd rfl (by first | exact .inl rfl | exact .inr rfl)) pgs_nil)))
      (pss_cons (ps_set (i := 3) sc_check_entry_rows.nd rfl (by first | exact .inl rfl | exact .inr rfl) (pe_call Cwrong_entry.G (hr.mono (by decide)) (by rfl) Cwrong_entry.g Cwrong_entry.kp Cwrong_entry.b .nil pass0 (pa_cons (pv 2) pa_nil)))
      (pss_one (ps_if (pt_cmp (pc_notN (pv 3)))
      (pss_one (ps_raise rfl (takes_of (E := E) rfl rfl rfl rfl) (pmk_bad T hr (by decide) (pa_cons (pe_tup (pa_cons (pv 1) (pa_cons (pv 3) pa_nil))) pa_nil))))
      pss_nil))))
      (pss_one (ps_ret (pe_lc (own := [("row", 2)]) (by rfl) sc_check_entry_rows.nd (pi_seq (pv 0)) (blkOk_by (own := [("row", 2)]) (N := n_check_entry_rows) (sc := defScope s_check_entry_rows) (by decide +kernel)) (fun _ _ _ _ _ => (pg_name (i := 2) sc_check_entry_rows.nd rfl (by first | exact .inl rfl | exact .inr rfl))) (fun _ _ _ _ _ => pts_nil) (fun _ _ _ _ _ => (pe_callTy (call_tupK (K := K) rfl) (by rfl) B.tuple_ (by decide +kernel) (pa_cons (pv 2) pa_nil)))))))), ?_⟩
    walk_at "u"
    refine ⟨v, rfl, by show 2 ≤ sizeLine; decide, fun p hp => ?_⟩
    have sm1 : Same H (upd H p (.tup [.ty "list", .ty "tuple"])) := same_new hp
    cases o with
    | none =>
      cases ra with
      | no hf =>
        refine r_isRowF upd_same hf ⟨_, rfl, ?_⟩
        refine iteT ⟨1, rfl, 1, rfl, by show 2 ≤ sizeLine; decide, fun t ht => ⟨_, rfl, fun d hd => ?_⟩⟩
        exact q d _ _ ((sm1.trans (same_new ht)).trans (same_new hd)) upd_same (dp_pair (st_same (same_new hd) (SqT.of upd_same)) rfl rfl)
    | some os =>
      obtain ⟨a, rs, rfl, hq, fr, hl⟩ := ra.rows
      have isr : ∀ Q' : VK, Q' (.bl true) (upd H p (.tup [.ty "list", .ty "tuple"])) → rIsiT K [.ref a, .ref p] (upd H p (.tup [.ty "list", .ty "tuple"])) Q' := fun Q' q' => by
        rcases hq with h | h
        · exact r_isRowT upd_same (st_same sm1 h) q'
        · exact r_isRowL upd_same (sm1.seq h) q'
      refine isr _ ⟨_, rfl, iteF ?_⟩
      obtain ⟨J, G, wk, hG, hw⟩ := rowsA_enum hq
      refine t_for wk (hw _ _ rfl sm1) (fun i σ H' => Same H H' ∧ (∃ y1 y2 y3, σ = [some (.ref a), y1, y2, y3]) ∧ firstBad os 0 = firstBad (os.drop i) i) ⟨sm1, ⟨_, _, _, rfl⟩, rfl⟩ (fun i σ H' _ p => hG H' p.1) (fun i x σ H1 H2 hi p y => ?_) (fun σ H1 p => ?_)
      · obtain ⟨sm, ⟨y1, y2, y3, rfl⟩, ew⟩ := p
        obtain ⟨t, x1, e, rfl, nT, rfl, f1, f2⟩ := y
        cases f1
        have smT : Same H (upd H1 t (.tup [.int (i : Nat), e])) := sm.trans (same_new nT)
        refine ⟨t, [.int (i : Nat), e], rfl, .inl (.inl upd_same), rfl, _, _, rfl, _, _, rfl, rfl, ?_⟩
        walk_at "u"
        obtain ⟨o, eo, hro⟩ := pair_at fr f2
        rw [firstBad_drop eo] at ew
        refine ⟨e, rfl, e, o, rfl, hro.same smT, fun H3 s3 => ⟨_, rfl, _, rfl, ?_⟩⟩
        have sm3 := smT.trans s3
        by_cases ez : wrongV o = .non
        · rw [if_pos ez] at ew
          rw [decide_eq_true ez]
          exact iteF ⟨sm3, ⟨_, _, _, rfl⟩, ew⟩
        · rw [if_neg ez] at ew
          rw [decide_eq_false ez]
          refine iteT ⟨_, rfl, _, rfl, by show 2 ≤ sizeLine; decide, fun t2 ht2 => ⟨_, rfl, fun d hd => ?_⟩⟩
          have q' : OutR K T.C H (gRows K) (checkRs (some os)) Q E := q
          rw [checkRs_bad ew] at q'
          exact q' d _ _ ((sm3.trans (same_new ht2)).trans (same_new hd)) upd_same (dp_pair (st_same (same_new hd) (SqT.of upd_same)) rfl (wrongV_flat o))
      · obtain ⟨sm, ⟨y1, y2, y3, rfl⟩, ew⟩ := p
        have hlen : rs.length = os.length := Paired.length fr
        rw [hlen, List.drop_length] at ew
        have e0 : firstBad os 0 = none := ew
        have q' : OutR K T.C H (gRows K) (checkRs (some os)) Q E := q
        rw [checkRs_ok e0] at q'
        have hall := firstBad_none e0
        obtain ⟨J2, G2, wk2, hG2, hw2⟩ := rowsA_seq hq
        refine t_lc wk2 (hw2 _ _ rfl sm) (fun D i H' => Same H H' ∧ ∃ ts, H' D = some (.lst ts) ∧ Paired (IsT K H') ts ((os.take i).map rowOf) ∧ ts.length = i) (fun D hD => ⟨sm.trans (same_new hD), [], upd_same, .nil, rfl⟩) (fun D i H' _ p => hG2 H' p.1) (fun D hD i x H2 H3 hi p y => ?_) (fun D hD H2 p => ?_)
        · obtain ⟨sm2, ts, eD, pt, lt⟩ := p
          obtain ⟨rfl, f2⟩ := y
          walk_at "u"
          refine ⟨rfl, iteT ?_⟩
          obtain ⟨o, eo, hro⟩ := pair_at fr f2
          obtain ⟨xs, rfl⟩ := right_some (hall o (List.mem_of_getElem? eo))
          refine ⟨x, rfl, r_tupOf (hro.same sm2) fun p H4 s4 hT => ⟨ts, s4 _ _ eD, small1000 (by omega), ?_⟩⟩
          have hDH : H D = none := by
            cases z : H D with
            | none => rfl
            | some u =>
              rw [sm _ _ z] at hD
              cases hD
          have s5 : Same H3 (upd H4 D (.lst (ts ++ [.ref p]))) ∨ True := .inr trivial
          have st5 : ∀ {x : V} {xs : List V}, IsT K H4 x xs → IsT K (upd H4 D (.lst (ts ++ [.ref p]))) x xs := fun {x xs} ⟨a, r, h⟩ => ⟨a, r, st_b (s4 _ _ eD) SameB.upd h⟩
          refine ⟨same_mut hDH ((SameB.of (sm2.trans s4)).trans SameB.upd), ts ++ [.ref p], upd_same, ?_, by rw [List.length_append, lt] <;> rfl⟩
          rw [List.take_add_one, eo, List.map_append]
          exact pair_cat (L2.Paired.mapP pt fun a b h => st5 (h.same s4)) (.cons (st5 ⟨p, rfl, hT⟩) .nil)
        · obtain ⟨sm2, ts, eD, pt, lt⟩ := p
          rw [hlen, List.take_length] at pt
          exact q' _ H2 sm2 ⟨D, ts, rfl, .inl (.inl eD), pt⟩
end
end K65

namespace K65
open PySem PySem.Spec PyProof.Rows L2 KR KK
local macro_rules | `(tactic| walk_at "u") => `(tactic| try dsimp only [tSeq, tCutS, tCutE, tCutT, tIfS, tRet, tRetN, tNext, tBreak, tCont, tDrop, tAsg, gName, gTup, gCons, gNil, tOr, tAnd, tNot, tB, tTest, tCB, tCons, tNil, tC, tVar, tAndV, tOrV, tNotV, tOp, tUn, tIf, tIsN, tNotN, tTup, tLst, tCall, tCallS, tBM, tBM0, tSl, tPart, tNoPart, tYes, iList, iTup, iSeq, iStr, iRng1, iRng2, iEnumA, rI, rI0, rU, cxOf, Cx.nox, Cx.wish, L2.start, List.map, List.set, Nat.repeat, List.length_cons, List.length_nil, List.replicate, List.nil_append, List.cons_append, List.append_nil, Nat.reduceAdd, Nat.reduceSub, E0, tBad, tTr])

/-! ### roots -/
def rep (p : List V) (k : Nat) : List V := (List.replicate k p).flatten
def rootAt (xs : List V) (s : Nat) : Bool := xs.length % s == 0 && decide (rep (xs.take s) (xs.length / s) = xs)
def rootGo (xs : List V) : Nat → Nat → List V × Nat
  | _, 0 => ([], 0)
  | s, n + 1 => if rootAt xs s then (xs.take s, xs.length / s) else rootGo xs (s + 1) n
def rootF (xs : List V) : List V × Nat := rootGo xs 1 xs.length
theorem fmod_nat (a b : Nat) : Int.fmod (a : Int) (b : Int) = ((a % b : Nat) : Int) := by
  rw [Int.ofNat_fmod]
theorem fdiv_nat (a b : Nat) : Int.fdiv (a : Int) (b : Int) = ((a / b : Nat) : Int) := by
  rw [Int.ofNat_fdiv]
/-- a tuple of numbers and texts -/
def gRoot (K : PySem.W.Frag) : List V × Nat → V → Hp → Prop := fun r v H => ∃ p q, v = .ref p ∧ SqT K H p [.ref q, .int (r.2 : Nat)] ∧ SqT K H q r.1
theorem mod_test {a b : Nat} : decide (V.int ((a % b : Nat) : Int) = V.int 0) = (a % b == 0) := by
  rw [dec_int, Bool.eq_iff_iff, beq_iff_eq, beq_iff_eq]
  omega
section
variable {P : Program} {w : World} {K : PySem.W.Frag} {mg : Str → Option Value} {base : Heap}
/-- row[:size] * (n // size) -/
theorem r_repT {H : Hp} {p : Addr} {xs : List V} {s : Nat} {Q : VK} (hp : SqT K H p (xs.take s)) (hl : xs.length ≤ 1000) (h1 : 1 ≤ s) (h2 : s ≤ xs.length)
    (q : ∀ p H', Same H H' → SqT K H' p (rep (xs.take s) (xs.length / s)) → Q (.ref p) H') : rRepA K (.ref p) (.int ((xs.length / s : Nat) : Int)) H Q := by
  have hk : 1 ≤ xs.length / s := (Nat.one_le_div_iff (by omega)).mpr h2
  have hk2 : xs.length / s ≤ xs.length := Nat.div_le_self _ _
  have hlen : (xs.take s).length = s := by rw [List.length_take]; omega
  refine ⟨p, _, xs.take s, rfl, rfl, hp, fun z => ?_, by omega, by omega, by omega, fun p2 H2 e2 hp2 => ?_⟩
  · rw [z] at hlen
    simp at hlen
    omega
  · rw [Int.toNat_natCast] at hp2
    exact q p2 H2 e2 hp2
theorem rep_sc {xs : List V} (hs : xs.all sc = true) (s k : Nat) : (rep (xs.take s) k).all sc = true := by
  refine List.all_eq_true.mpr fun x hx => ?_
  obtain ⟨l, hl1, hl2⟩ := List.mem_flatten.mp hx
  have e : l = xs.take s := (List.mem_replicate.mp hl1).2
  rw [e] at hl2
  exact List.all_eq_true.mp hs x (List.mem_of_mem_take hl2)
theorem rootGo_step {xs : List V} {i : Nat} (hi : i < xs.length) : rootGo xs (1 + i) (xs.length - i) = if rootAt xs (1 + i) then (xs.take (1 + i), xs.length / (1 + i)) else rootGo xs (1 + (i + 1)) (xs.length - (i + 1)) := by
  obtain ⟨m, em⟩ : ∃ m, xs.length - i = m + 1 := ⟨xs.length - i - 1, by omega⟩
  have e2 : xs.length - (i + 1) = m := by omega
  rw [em, e2]
  rfl
def spRoot (K : PySem.W.Frag) : Sp := fun vs H Q _ => ∃ a xs, vs = [.ref a] ∧ SqT K H a xs ∧ xs.all sc = true ∧ xs.length ≤ 1000 ∧ ∀ v H', Same H H' → gRoot K (rootF xs) v H' → Q v H'
theorem ok_plain_root {f : Addr} {fd : FuncData} (B : Bi mg) (F : Fun K "plain_root" "plain_root" s_plain_root f fd) : FnOk P w K mg base CX0 1 f fd p_plain_root (spRoot K) := by
  refine F.ok sc_plain_root (fun vs H Q E h => ?_) (fun cdv A outer s H vs Q E hr h => ?_)
  · obtain ⟨a, xs, rfl, _⟩ := h
    rfl
  · obtain ⟨a, xs, rfl, hT, hs, hl, q⟩ := h
    refine ⟨_, (pss_cons (ps_set (i := 1) sc_plain_root.nd rfl (by first | exact .inl rfl | exact .inr rfl) (pe_callB (call_lenK (K := K) rfl) (by rfl) B.len PySem.boot_len (pa_cons (pv 0) pa_nil)))
      (pss_cons (ps_for PassesOwn.never rfl (pi_range2 rfl B.range (pa_cons pe_int (pa_cons (pe_op op_add (pv 1) pe_int) pa_nil))) (pg_name (i := 2) sc_plain_root.nd rfl (by first | exact .inl rfl | exact .inr rfl))
      (pss_one (ps_if (PW.pt (pw_and (pt_cmpR op_eq (pe_op op_modN (pv 1) (pv 2)) pe_int (nomark _)) (pw_and1 (pt_cmpR (op_eqDK (K := K) rfl hr.units) (pe_op (op_repK (K := K) rfl) (pe_slice (sl_tupK (K := K) rfl) (pv 0) po_none (po_some (pv 2))) (pe_op op_fdivN (pv 1) (pv 2))) (pv 0) (nomark _)))))
      (pss_one (ps_ret (pe_tup (pa_cons (pe_slice (sl_tupK (K := K) rfl) (pv 0) po_none (po_some (pv 2))) (pa_cons (pe_op op_fdivN (pv 1) (pv 2)) pa_nil)))))
      pss_nil)))
      (pss_one (ps_ret (pe_tup (pa_cons (pe_tup pa_nil) (pa_cons pe_int pa_nil))))))), ?_⟩
    walk_at "u"
    refine ⟨.ref a, rfl, a, xs, rfl, .inr hT, ?_⟩
    have e2 : ((xs.length : Int) + 1 - 1).toNat = xs.length := by omega
    refine t_for (walk_range (lo := 1) (n := xs.length)) (fun R r => by
      walk_at "u"
      refine ⟨_, rfl, _, _, rfl, rfl, 1, _, rfl, ⟨by decide, by decide, by omega, by omega⟩, ?_⟩
      rw [e2]
      exact r) (fun i σ H' => Same H H' ∧ (∃ y, σ = [some (.ref a), some (.int (xs.length : Nat)), y]) ∧ rootF xs = rootGo xs (1 + i) (xs.length - i)) ⟨Same.refl H, ⟨_, rfl⟩, rfl⟩ (fun _ _ _ _ _ => trivial) (fun i x σ H1 H2 hi p y => ?_) (fun σ H1 p => ?_)
    · obtain ⟨sm, ⟨y1, rfl⟩, er⟩ := p
      obtain ⟨rfl, rfl⟩ := y
      walk_at "u"
      have ei : (1 : Int) + (i : Nat) = ((1 + i : Nat) : Int) := by omega
      rw [ei]
      rw [rootGo_step hi] at er
      refine ⟨_, rfl, _, rfl, _, _, rfl, rfl, by omega, ?_⟩
      rw [fmod_nat]
      refine ⟨rfl, _, rfl, ?_⟩
      rw [mod_test]
      have no : ∀ H', Same H2 H' → rootAt xs (1 + i) = false → Same H H' ∧ (∃ y, [some (V.ref a), some (V.int (xs.length : Nat)), some (V.int ((1 + i : Nat) : Int))] = [some (.ref a), some (.int (xs.length : Nat)), y]) ∧ rootF xs = rootGo xs (1 + (i + 1)) (xs.length - (i + 1)) := fun H' e z => ⟨sm.trans e, ⟨_, rfl⟩, by
        rw [er, z]
        rfl⟩
      cases e1 : xs.length % (1 + i) == 0 with
      | false => exact iteF (iteF (no H2 (Same.refl H2) (by unfold rootAt; rw [e1] <;> rfl)))
      | true =>
        have e3 : xs.length % (1 + i) = 0 := beq_iff_eq.mp e1
        refine iteT ⟨_, rfl, _, rfl, _, rfl, ?_⟩
        refine r_slA (st_same sm hT) fun p H3 s3 hp => ?_
        rw [cut_to] at hp
        refine ⟨_, rfl, _, rfl, _, _, rfl, rfl, ⟨by omega, by omega⟩, ?_⟩
        rw [fdiv_nat]
        refine r_repT hp hl (by omega) (by omega) fun p4 H4 s4 hp4 => ⟨_, rfl, r_eqTT hp4 (st_same s4 (st_same s3 (st_same sm hT))) (rep_sc hs _ _) hs ⟨_, rfl, ?_⟩⟩
        cases e5 : decide (rep (xs.take (1 + i)) (xs.length / (1 + i)) = xs) with
        | false => exact iteF (no H4 (s3.trans s4) (by unfold rootAt; rw [e1, e5] <;> rfl))
        | true =>
          have sm4 := (sm.trans s3).trans s4
          refine iteT ⟨_, rfl, _, rfl, _, rfl, r_slA (st_same sm4 hT) fun p5 H5 s5 hp5 => ⟨_, rfl, _, rfl, _, _, rfl, rfl, ⟨by omega, by omega⟩, by show 2 ≤ sizeLine; decide, fun t ht => ?_⟩⟩
          rw [fdiv_nat]
          rw [cut_to] at hp5
          have er2 : rootF xs = (xs.take (1 + i), xs.length / (1 + i)) := by
            rw [er, if_pos (by unfold rootAt; rw [e1, e5] <;> rfl)]
          refine q _ _ ((sm4.trans s5).trans (same_new ht)) ⟨t, p5, rfl, ?_, ?_⟩
          · rw [er2]
            exact SqT.of upd_same
          · rw [er2]
            exact st_same (same_new ht) hp5
    · obtain ⟨sm, ⟨y1, rfl⟩, er⟩ := p
      refine ⟨Nat.zero_le _, fun t ht => ⟨by show 2 ≤ sizeLine; decide, fun t2 ht2 => ?_⟩⟩
      have er2 : rootF xs = ([], 0) := by
        rw [er, Nat.sub_self]
        rfl
      refine q _ _ ((sm.trans (same_new ht)).trans (same_new ht2)) ⟨t2, t, rfl, ?_, ?_⟩
      · rw [er2]
        exact SqT.of upd_same
      · rw [er2]
        exact st_same (same_new ht2) (SqT.of upd_same)
theorem ok_law_root {f : Addr} {fd : FuncData} (B : Bi mg) (F : Fun K "_law_root" "_law_root" s_law_root f fd) : FnOk P w K mg base CX0 1 f fd p_law_root (spRoot K) := by
  refine F.ok sc_law_root (fun vs H Q E h => ?_) (fun cdv A outer s H vs Q E hr h => ?_)
  · obtain ⟨a, xs, rfl, _⟩ := h
    rfl
  · obtain ⟨a, xs, rfl, hT, hs, hl, q⟩ := h
    refine ⟨_, (pss_cons (ps_for PassesOwn.never rfl (pi_range2 rfl B.range (pa_cons pe_int (pa_cons (pe_op op_add (pe_callB (call_lenK (K := K) rfl) (by rfl) B.len PySem.boot_len (pa_cons (pv 0) pa_nil)) pe_int) pa_nil))) (pg_name (i := 1) sc_law_root.nd rfl (by first | exact .inl rfl | exact .inr rfl))
      (pss_one (ps_if (PW.pt (pw_and (pt_cmpR op_eq (pe_op op_modN (pe_callB (call_lenK (K := K) rfl) (by rfl) B.len PySem.boot_len (pa_cons (pv 0) pa_nil)) (pv 1)) pe_int (nomark _)) (pw_and1 (pt_cmpR (op_eqDK (K := K) rfl hr.units) (pe_op (op_repK (K := K) rfl) (pe_slice (sl_tupK (K := K) rfl) (pv 0) po_none (po_some (pv 1))) (pe_op op_fdivN (pe_callB (call_lenK (K := K) rfl) (by rfl) B.len PySem.boot_len (pa_cons (pv 0) pa_nil)) (pv 1))) (pv 0) (nomark _)))))
      (pss_one (ps_ret (pe_tup (pa_cons (pe_slice (sl_tupK (K := K) rfl) (pv 0) po_none (po_some (pv 1))) (pa_cons (pe_op op_fdivN (pe_callB (call_lenK (K := K) rfl) (by rfl) B.len PySem.boot_len (pa_cons (pv 0) pa_nil)) (pv 1)) pa_nil)))))
      pss_nil)))
      (pss_one (ps_ret (pe_tup (pa_cons (pe_tup pa_nil) (pa_cons pe_int pa_nil)))))), ?_⟩
    walk_at "u"
    have e2 : ((xs.length : Int) + 1 - 1).toNat = xs.length := by omega
    refine t_for (H1 := H) (walk_range (lo := 1) (n := xs.length)) (fun R r => by
      walk_at "u"
      refine ⟨_, rfl, a, xs, rfl, .inr hT, _, _, rfl, rfl, 1, _, rfl, ⟨by decide, by decide, by omega, by omega⟩, ?_⟩
      rw [e2]
      exact r) (fun i σ H' => Same H H' ∧ (∃ y, σ = [some (.ref a), y]) ∧ rootF xs = rootGo xs (1 + i) (xs.length - i)) ⟨Same.refl H, ⟨_, rfl⟩, rfl⟩ (fun _ _ _ _ _ => trivial) (fun i x σ H1 H2 hi p y => ?_) (fun σ H1 p => ?_)
    · obtain ⟨sm, ⟨y1, rfl⟩, er⟩ := p
      obtain ⟨rfl, rfl⟩ := y
      walk_at "u"
      have ei : (1 : Int) + (i : Nat) = ((1 + i : Nat) : Int) := by omega
      rw [ei]
      rw [rootGo_step hi] at er
      refine ⟨_, rfl, a, xs, rfl, .inr (st_same sm hT), _, rfl, _, _, rfl, rfl, by omega, ?_⟩
      rw [fmod_nat]
      refine ⟨rfl, _, rfl, ?_⟩
      rw [mod_test]
      have no : ∀ H', Same H2 H' → rootAt xs (1 + i) = false → Same H H' ∧ (∃ y, [some (V.ref a), some (V.int ((1 + i : Nat) : Int))] = [some (.ref a), y]) ∧ rootF xs = rootGo xs (1 + (i + 1)) (xs.length - (i + 1)) := fun H' e z => ⟨sm.trans e, ⟨_, rfl⟩, by
        rw [er, z]
        rfl⟩
      cases e1 : xs.length % (1 + i) == 0 with
      | false => exact iteF (iteF (no H2 (Same.refl H2) (by unfold rootAt; rw [e1] <;> rfl)))
      | true =>
        have e3 : xs.length % (1 + i) = 0 := beq_iff_eq.mp e1
        refine iteT ⟨_, rfl, _, rfl, _, rfl, ?_⟩
        refine r_slA (st_same sm hT) fun p H3 s3 hp => ?_
        rw [cut_to] at hp
        refine ⟨_, rfl, a, xs, rfl, .inr (st_same s3 (st_same sm hT)), _, rfl, _, _, rfl, rfl, ⟨by omega, by omega⟩, ?_⟩
        rw [fdiv_nat]
        refine r_repT hp hl (by omega) (by omega) fun p4 H4 s4 hp4 => ⟨_, rfl, r_eqTT hp4 (st_same s4 (st_same s3 (st_same sm hT))) (rep_sc hs _ _) hs ⟨_, rfl, ?_⟩⟩
        cases e5 : decide (rep (xs.take (1 + i)) (xs.length / (1 + i)) = xs) with
        | false => exact iteF (no H4 (s3.trans s4) (by unfold rootAt; rw [e1, e5] <;> rfl))
        | true =>
          have sm4 := (sm.trans s3).trans s4
          refine iteT ⟨_, rfl, _, rfl, _, rfl, r_slA (st_same sm4 hT) fun p5 H5 s5 hp5 => ⟨_, rfl, a, xs, rfl, .inr (st_same s5 (st_same sm4 hT)), _, rfl, _, _, rfl, rfl, ⟨by omega, by omega⟩, by show 2 ≤ sizeLine; decide, fun t ht => ?_⟩⟩
          rw [fdiv_nat]
          rw [cut_to] at hp5
          have er2 : rootF xs = (xs.take (1 + i), xs.length / (1 + i)) := by
            rw [er, if_pos (by unfold rootAt; rw [e1, e5] <;> rfl)]
          refine q _ _ ((sm4.trans s5).trans (same_new ht)) ⟨t, p5, rfl, ?_, ?_⟩
          · rw [er2]
            exact SqT.of upd_same
          · rw [er2]
            exact st_same (same_new ht) hp5
    · obtain ⟨sm, ⟨y1, rfl⟩, er⟩ := p
      refine ⟨Nat.zero_le _, fun t ht => ⟨by show 2 ≤ sizeLine; decide, fun t2 ht2 => ?_⟩⟩
      have er2 : rootF xs = ([], 0) := by
        rw [er, Nat.sub_self]
        rfl
      refine q _ _ ((sm.trans (same_new ht)).trans (same_new ht2)) ⟨t2, t, rfl, ?_, ?_⟩
      · rw [er2]
        exact SqT.of upd_same
      · rw [er2]
        exact st_same (same_new ht2) (SqT.of upd_same)
end
end K65

namespace K65
open PySem PySem.Spec PyProof.Rows L2 KR KK
local macro_rules | `(tactic| walk_at "u") => `(tactic| try dsimp only [tSeq, tCutS, tCutE, tCutT, tIfS, tRet, tRetN, tNext, tBreak, tCont, tDrop, tAsg, gName, gTup, gCons, gNil, tOr, tAnd, tNot, tB, tTest, tCB, tCons, tNil, tC, tVar, tAndV, tOrV, tNotV, tOp, tUn, tIf, tIsN, tNotN, tTup, tLst, tCall, tCallS, tBM, tBM0, tSl, tPart, tNoPart, tYes, iList, iTup, iSeq, iStr, iRng1, iRng2, iEnumA, rI, rI0, rU, cxOf, Cx.nox, Cx.wish, L2.start, List.map, List.set, Nat.repeat, List.length_cons, List.length_nil, List.replicate, List.nil_append, List.cons_append, List.append_nil, Nat.reduceAdd, Nat.reduceSub, E0, tBad, tTr])

/-! ### the common root of several rows -/
def rootsOf (xss : List (List V)) : List (List V) := (xss.filter fun xs => !xs.isEmpty).map fun xs => (rootF xs).1
def rowsRoot (xss : List (List V)) : Option (List V) := match rootsOf xss with
  | [] => some []
  | r :: rs => if (r :: rs).all (fun x => decide (x = r)) then some r else none
def gOpt (K : PySem.W.Frag) : Option (List V) → V → Hp → Prop
  | none, v, _ => v = .non
  | some xs, v, H => IsT K H v xs
theorem rootGo_sc {xs : List V} (h : xs.all sc = true) : ∀ (n s : Nat), (rootGo xs s n).1.all sc = true
  | 0, _ => rfl
  | n + 1, s => by
    show (if rootAt xs s then (xs.take s, xs.length / s) else rootGo xs (s + 1) n).1.all sc = true
    split
    · exact List.all_eq_true.mpr fun x hx => List.all_eq_true.mp h x (List.mem_of_mem_take hx)
    · exact rootGo_sc h n (s + 1)
theorem rootF_sc {xs : List V} (h : xs.all sc = true) : (rootF xs).1.all sc = true := rootGo_sc h _ _
theorem rootsOf_take {xss : List (List V)} {i : Nat} {xs : List V} (h : xss[i]? = some xs) : rootsOf (xss.take (i + 1)) = rootsOf (xss.take i) ++ (if xs.isEmpty then [] else [(rootF xs).1]) := by
  unfold rootsOf
  rw [List.take_add_one, h, List.filter_append, List.map_append]
  cases e : xs.isEmpty <;> simp [e]
theorem rootsOf_sc {xss : List (List V)} (h : ∀ xs ∈ xss, xs.all sc = true ∧ xs.length ≤ 1000) : ∀ y ∈ rootsOf xss, y.all sc = true := fun y hy => by
  obtain ⟨xs, hx, rfl⟩ := List.mem_map.mp hy
  exact rootF_sc (h xs (List.mem_filter.mp hx).1).1
theorem rootsOf_len (xss : List (List V)) : (rootsOf xss).length ≤ xss.length := by
  unfold rootsOf
  rw [List.length_map]
  exact List.length_filter_le _ _
theorem pair_at2 {α β : Type} {F : α → β → Prop} : ∀ {l₁ : List α} {l₂ : List β} {i : Nat} {y : β}, Paired F l₁ l₂ → l₂[i]? = some y → ∃ x, l₁[i]? = some x ∧ F x y
  | _, _, _, _, .nil, h => by simp at h
  | _, _, 0, _, .cons f _, h => by
    have e := Option.some.inj h
    subst e
    exact ⟨_, rfl, f⟩
  | _, _, i + 1, _, .cons _ r, h => pair_at2 (i := i) r h
section
variable {P : Program} {w : World} {K : PySem.W.Frag} {mg : Str → Option Value} {base : Heap}
def Xss (xss : List (List V)) : Prop := (∀ xs ∈ xss, xs.all sc = true ∧ xs.length ≤ 1000) ∧ xss.length ≤ 1000
def spRowsRoot (K : PySem.W.Frag) : Sp := fun vs H Q _ => ∃ a rs xss, vs = [.ref a] ∧ SqL K H a rs ∧ Paired (IsT K H) rs xss ∧ Xss xss ∧ ∀ v H', Same H H' → gOpt K (rowsRoot xss) v H' → Q v H'
theorem pair_isT {H H' : Hp} {rs : List V} {xss : List (List V)} (e : Same H H') (h : Paired (IsT K H) rs xss) : Paired (IsT K H') rs xss := L2.Paired.mapP h fun _ _ z => z.same e
/-- .. behind a change of a list -/
theorem pair_isB {H : Hp} {d : Addr} {ds : List V} {o : HO} {rs : List V} {xss : List (List V)} (hd : H d = some (.lst ds)) (h : Paired (IsT K H) rs xss) : Paired (IsT K (upd H d o)) rs xss :=
  L2.Paired.mapP h fun _ _ ⟨a, r, z⟩ => ⟨a, r, st_b hd SameB.upd z⟩
theorem free_of {H H1 : Hp} {D : Addr} (e : Same H H1) (h : H1 D = none) : H D = none := by
  cases z : H D with
  | none => rfl
  | some u =>
    rw [e _ _ z] at h
    cases h
theorem ok_rows_root {f : Addr} {fd : FuncData} (B : Bi mg) (F : Fun K "rows_root" "rows_root" s_rows_root f fd) (Cplain_root : Cal P w K mg base CX0 1 "plain_root" p_plain_root (spRoot K)) : FnOk P w K mg base CX0 2 f fd p_rows_root (spRowsRoot K) := by
  refine F.ok sc_rows_root (fun vs H Q E h => ?_) (fun cdv A outer s H vs Q E hr h => ?_)
  · obtain ⟨a, rs, xss, rfl, _⟩ := h
    rfl
  · obtain ⟨a, rs, xss, rfl, hL, fr, ⟨hx, hxl⟩, q⟩ := h
    refine ⟨_, (pss_cons (ps_set (i := 1) sc_rows_root.nd rfl (by first | exact .inl rfl | exact .inr rfl) (pe_lc (own := [("row", 2)]) (by rfl) sc_rows_root.nd (pi_list (pv 0)) (blkOk_by (own := [("row", 2)]) (N := n_rows_root) (sc := defScope s_rows_root) (by decide +kernel)) (fun _ _ _ _ _ => (pg_name (i := 2) sc_rows_root.nd rfl (by first | exact .inl rfl | exact .inr rfl))) (fun _ _ _ _ _ => (pts_one (pt_truthK (K := K) rfl (pv 2) (by intro _; rfl)))) (fun _ _ _ _ _ => (pe_ix (ix_tupK (K := K) rfl) (pe_call Cplain_root.G (hr.mono (by decide)) (by rfl) Cplain_root.g Cplain_root.kp Cplain_root.b .nil pass0 (pa_cons (pv 2) pa_nil)) pe_int (fun _ _ => rfl)))))
      (pss_cons (ps_if (pt_not (pt_truthK (K := K) rfl (pv 1) (by intro _; rfl)))
      (pss_one (ps_ret (pe_tup pa_nil)))
      pss_nil)
      (pss_one (ps_ret (pe_ifExp (pt_val (pe_callB (cr_allK (K := K) rfl (by rfl)) (by rfl) B.all (by decide +kernel) (pa_cons (pe_lc (own := [("root", 3)]) (by rfl) sc_rows_root.nd (pi_list (pv 1)) (blkOk_by (own := [("root", 3)]) (N := n_rows_root) (sc := defScope s_rows_root) (by decide +kernel)) (fun _ _ _ _ _ => (pg_name (i := 3) sc_rows_root.nd rfl (by first | exact .inl rfl | exact .inr rfl))) (fun _ _ _ _ _ => pts_nil) (fun _ _ _ _ _ => (pe_cmpR (op_eqDK (K := K) rfl hr.units) (pv 3) (pe_ix (ix_listK (K := K) rfl) (pv 1) pe_int (fun _ _ => rfl)) (nomark _)))) pa_nil))) (pe_ix (ix_listK (K := K) rfl) (pv 1) pe_int (fun _ _ => rfl)) pe_non))))), ?_⟩
    walk_at "u"
    have hlen : rs.length = xss.length := Paired.length fr
    refine t_lc (H1 := H) (walk_list (xs := rs)) (fun R r => ⟨_, rfl, a, rfl, ⟨_, hL⟩, r⟩) (fun D i H' => Same H H' ∧ ∃ ts, H' D = some (.lst ts) ∧ Paired (IsT K H') ts (rootsOf (xss.take i)) ∧ ts.length ≤ i)
      (fun D hD => ⟨same_new hD, [], upd_same, .nil, Nat.le_refl _⟩) (fun D i H' _ p => p.1.seq hL) (fun D hD i x H1 H2 hi p y => ?_) (fun D hD H1 p => ?_)
    · obtain ⟨sm, ts, eD, pt, lt⟩ := p
      obtain ⟨rfl, f2⟩ := y
      walk_at "u"
      obtain ⟨xs, exs, ax, rfl, hT⟩ := pair_at fr f2
      have hxs := hx xs (List.mem_of_getElem? exs)
      refine ⟨rfl, _, rfl, (!xs.isEmpty), .inr (.inl ⟨xs, st_same sm hT, rfl⟩), ?_⟩
      rw [rootsOf_take exs]
      cases ee : xs.isEmpty with
      | true => exact iteF ⟨sm, ts, eD, by simpa using pt, by omega⟩
      | false =>
        refine iteT ⟨_, rfl, ax, xs, rfl, st_same sm hT, hxs.1, hxs.2, fun v H3 s3 g => ?_⟩
        obtain ⟨p, q2, rfl, hp, hq⟩ := g
        refine ⟨p, _, 0, .ref q2, rfl, rfl, hp, atI_nat (j := 0) rfl, ts, s3 _ _ eD, small1000 (by omega), same_mut hD ((SameB.of (sm.trans s3)).trans SameB.upd), ts ++ [.ref q2], upd_same, ?_, by rw [List.length_append]; show ts.length + 1 ≤ i + 1; omega⟩
        exact pair_isB (s3 _ _ eD) (pair_cat (pair_isT s3 pt) (.cons ⟨q2, rfl, hq⟩ .nil))
    · obtain ⟨sm, ts, eD, pt, lt⟩ := p
      rw [hlen, List.take_length] at pt
      walk_at "u"
      refine ⟨_, rfl, (!ts.isEmpty), .inl ⟨ts, .inl (.inl eD), rfl⟩, ?_⟩
      have hys := rootsOf_sc hx
      have hyl := rootsOf_len xss
      unfold rowsRoot at q
      generalize rootsOf xss = yss at pt q hys hyl
      cases pt with
      | nil =>
        refine iteT ⟨Nat.zero_le _, fun t ht => q _ _ (sm.trans (same_new ht)) ⟨t, rfl, SqT.of upd_same⟩⟩
      | @cons v0 r0 vr yr hv hrr =>
        obtain ⟨a0, rfl, h0⟩ := hv
        refine iteF ?_
        have ptt : Paired (IsT K H1) (.ref a0 :: vr) (r0 :: yr) := .cons ⟨a0, rfl, h0⟩ hrr
        have hr0 := hys r0 List.mem_cons_self
        have lt2 : (V.ref a0 :: vr).length = (r0 :: yr).length := Paired.length ptt
        refine t_lc (H1 := H1) (walk_list (xs := .ref a0 :: vr)) (fun R r => ⟨_, rfl, D, rfl, ⟨_, .inl (.inl eD)⟩, r⟩) (fun D2 i H' => Same H1 H' ∧ H' D2 = some (.lst ((((r0 :: yr).take i).map fun y => decide (y = r0)).map V.bl)))
          (fun D2 hD2 => ⟨same_new hD2, upd_same⟩) (fun D2 i H' _ p => .inl (.inl (p.1 _ _ eD))) (fun D2 hD2 i x H2 H3 hi p y => ?_) (fun D2 hD2 H2 p => ?_)
        · obtain ⟨sm2, eD2⟩ := p
          obtain ⟨rfl, f2⟩ := y
          walk_at "u"
          obtain ⟨yi, eyi, ai, rfl, hai⟩ := pair_at ptt f2
          refine ⟨rfl, iteT ⟨_, rfl, _, rfl, D, _, 0, .ref a0, rfl, rfl, .inl (.inl (sm2 _ _ eD)), atI_nat (j := 0) rfl, ?_⟩⟩
          refine r_eqTT (st_same sm2 hai) (st_same sm2 h0) (hys yi (List.mem_of_getElem? eyi)) hr0 ⟨_, eD2, small1000 ?_, same_mut hD2 ((SameB.of sm2).trans SameB.upd), ?_⟩
          · rw [List.length_map, List.length_map, List.length_take]
            omega
          · rw [upd_same, List.take_add_one, eyi]
            simp
        · obtain ⟨sm2, eD2⟩ := p
          rw [lt2, List.take_length] at eD2
          refine ⟨D2, _, rfl, .inl (.inl eD2), _, rfl, ?_⟩
          rw [List.all_map]
          have q2 := q
          clear q
          cases ea : (r0 :: yr).all (fun x => decide (x = r0)) with
          | true =>
            have q3 : ∀ v H', Same H H' → gOpt K (some r0) v H' → Q v H' := fun v H' e g => q2 v H' e (by
              show gOpt K (if (r0 :: yr).all (fun x => decide (x = r0)) = true then some r0 else none) v H'
              rw [ea]
              exact g)
            have ea' : (r0 :: yr).all (id ∘ fun y => decide (y = r0)) = true := ea
            rw [ea']
            exact iteT ⟨_, rfl, D, _, 0, .ref a0, rfl, rfl, .inl (.inl (sm2 _ _ eD)), atI_nat (j := 0) rfl, q3 _ _ (sm.trans sm2) ⟨a0, rfl, st_same sm2 h0⟩⟩
          | false =>
            have q3 : ∀ v H', Same H H' → gOpt K none v H' → Q v H' := fun v H' e g => q2 v H' e (by
              show gOpt K (if (r0 :: yr).all (fun x => decide (x = r0)) = true then some r0 else none) v H'
              rw [ea]
              exact g)
            have ea' : (r0 :: yr).all (id ∘ fun y => decide (y = r0)) = false := ea
            rw [ea']
            exact iteF (q3 _ _ (sm.trans sm2) rfl)
end
end K65

namespace K65
open PySem PySem.Spec PyProof.Rows L2 KR KK
local macro_rules | `(tactic| walk_at "u") => `(tactic| try dsimp only [tSeq, tCutS, tCutE, tCutT, tIfS, tRet, tRetN, tNext, tBreak, tCont, tDrop, tAsg, gName, gTup, gCons, gNil, tOr, tAnd, tNot, tB, tTest, tCB, tCons, tNil, tC, tVar, tAndV, tOrV, tNotV, tOp, tUn, tIf, tIsN, tNotN, tTup, tLst, tCall, tCallS, tBM, tBM0, tSl, tPart, tNoPart, tYes, iList, iTup, iSeq, iStr, iRng1, iRng2, iEnumA, rI, rI0, rU, cxOf, Cx.nox, Cx.wish, L2.start, List.map, List.set, Nat.repeat, List.length_cons, List.length_nil, List.replicate, List.nil_append, List.cons_append, List.append_nil, Nat.reduceAdd, Nat.reduceSub, E0, tBad, tTr])

theorem ent_sc {K : PySem.W.Frag} {H : Hp} {v : V} (h : Ent K H v) (o : entOk v = true) : sc v = true := by
  cases h with
  | flat h =>
    cases v with
    | int i => rfl
    | str s => exact h
    | non => exact absurd o (by decide)
    | bl b => cases b <;> exact absurd o (by decide)
    | _ => cases h
  | tup h f => cases o
theorem wrongGo_ok : ∀ {xs : List V} {i : Nat}, wrongGo xs i = .non → ∀ x ∈ xs, entOk x = true
  | [], _, _, x, m => by cases m
  | a :: r, i, h, x, m => by
    have h' : (if entOk a then wrongGo r (i + 1) else .int (i : Nat)) = V.non := h
    by_cases e : entOk a = true
    · rw [if_pos e] at h'
      rcases List.mem_cons.mp m with z | z
      · rw [z]; exact e
      · exact wrongGo_ok h' x z
    · rw [if_neg e] at h'
      cases h'
theorem rowA_sc {K : PySem.W.Frag} {H : Hp} {v : V} {o : Option (List V)} (h : RowA K H v o) (e : wrongV o = .non) : (rowOf o).all sc = true ∧ (rowOf o).length ≤ 1000 := by
  obtain ⟨xs, rfl⟩ := right_some e
  obtain ⟨f, l⟩ := rowA_ent h
  exact ⟨List.all_eq_true.mpr fun x hx => ent_sc (f x hx) (wrongGo_ok e x hx), l⟩
def checkTwo (o1 o2 : Option (List V)) : Res (List V × List V) := match checkE o1 with
  | .bad z => .bad z
  | .ok xs => if wrongV o2 = .non then .ok (xs, rowOf o2) else .bad (.tuple [.int (-2), toD (wrongV o2)])
def gTwo (K : PySem.W.Frag) : List V × List V → V → Hp → Prop := fun r v H => ∃ p a b, v = .ref p ∧ SqT K H p [.ref a, .ref b] ∧ SqT K H a r.1 ∧ SqT K H b r.2
def gBool : Bool → V → Hp → Prop := fun b v _ => v = .bl b
section
variable {P : Program} {w : World} {K : PySem.W.Frag} {mg : Str → Option Value} {base : Heap}
theorem checkE_ok {H : Hp} {v : V} {o : Option (List V)} {xs : List V} (ra : RowA K H v o) (e : checkE o = .ok xs) : xs.all sc = true ∧ xs.length ≤ 1000 := by
  unfold checkE at e
  by_cases z : wrongV o = .non
  · rw [if_pos z] at e
    cases e
    exact rowA_sc ra z
  · rw [if_neg z] at e
    cases e
theorem checkTwo_ok {H : Hp} {v1 v2 : V} {o1 o2 : Option (List V)} {r : List V × List V} (r1 : RowA K H v1 o1) (r2 : RowA K H v2 o2) (e : checkTwo o1 o2 = .ok r) : (r.1.all sc = true ∧ r.1.length ≤ 1000) ∧ (r.2.all sc = true ∧ r.2.length ≤ 1000) := by
  unfold checkTwo at e
  cases e1 : checkE o1 with
  | bad z => rw [e1] at e; cases e
  | ok xs =>
    rw [e1] at e
    by_cases z : wrongV o2 = .non
    · have e' : (if wrongV o2 = .non then Res.ok (xs, rowOf o2) else .bad (.tuple [.int (-2), toD (wrongV o2)])) = .ok r := e
      rw [if_pos z] at e'
      cases e'
      exact ⟨checkE_ok r1 e1, rowA_sc r2 z⟩
    · have e' : (if wrongV o2 = .non then Res.ok (xs, rowOf o2) else .bad (.tuple [.int (-2), toD (wrongV o2)])) = .ok r := e
      rw [if_neg z] at e'
      cases e'
def spTwo (K : PySem.W.Frag) (C : Addr) : Sp := fun vs H Q E => ∃ v1 v2 o1 o2, vs = [v1, v2] ∧ RowA K H v1 o1 ∧ RowA K H v2 o2 ∧ OutR K C H (gTwo K) (checkTwo o1 o2) Q E
theorem ok_check_two_rows {f : Addr} {fd : FuncData} (B : Bi mg) (T : BadF P w K mg base) (F : Fun K "check_two_rows" "check_two_rows" s_check_two_rows f fd)
    (Cwrong_entry : Cal P w K mg base CX0 2 "wrong_entry" p_wrong_entry (spWrong K)) (Ccheck_entries : Cal P w K mg base (L2.CX P w) 3 "check_entries" p_check_entries (spCheckE K T.C)) : FnOk P w K mg base (L2.CX P w) 4 f fd p_check_two_rows (spTwo K T.C) := by
  refine F.okX sc_check_two_rows (fun vs H Q E h => ?_) (fun cdv A outer s H vs Q E hr h => ?_)
  · obtain ⟨v1, v2, o1, o2, rfl, _⟩ := h
    rfl
  · obtain ⟨v1, v2, o1, o2, rfl, r1, r2, q⟩ := h
    refine ⟨_, (pss_cons (ps_set (i := 2) sc_check_two_rows.nd rfl (by first | exact .inl rfl | exact .inr rfl) (pe_call Ccheck_entries.G (hr.mono (by decide)) (by rfl) Ccheck_entries.g Ccheck_entries.kp Ccheck_entries.b .nil (passes_call (takes_of (E := E) rfl rfl rfl rfl) (fun _ _ _ _ h => h)) (pa_cons (pv 0) pa_nil)))
      (pss_cons (ps_set (i := 3) sc_check_two_rows.nd rfl (by first | exact .inl rfl | exact .inr rfl) (pe_call Cwrong_entry.G (hr.mono (by decide)) (by rfl) Cwrong_entry.g Cwrong_entry.kp Cwrong_entry.b .nil pass0 (pa_cons (pv 1) pa_nil)))
      (pss_cons (ps_if (pt_cmp (pc_notN (pv 3)))
      (pss_one (ps_raise rfl (takes_of (E := E) rfl rfl rfl rfl) (pmk_bad T hr (by decide) (pa_cons (pe_tup (pa_cons (pe_un un_neg pe_int) (pa_cons (pv 3) pa_nil))) pa_nil))))
      pss_nil)
      (pss_one (ps_ret (pe_tup (pa_cons (pv 2) (pa_cons (pe_callTy (call_tupK (K := K) rfl) (by rfl) B.tuple_ (by decide +kernel) (pa_cons (pv 1) pa_nil)) pa_nil)))))))), ?_⟩
    walk_at "u"
    refine ⟨v1, rfl, v1, o1, rfl, r1, ?_⟩
    unfold checkTwo at q
    cases e1 : checkE o1 with
    | bad z =>
      rw [e1] at q
      exact q
    | ok xs =>
      rw [e1] at q
      intro v H1 s1 g
      obtain ⟨p, rfl, hp⟩ := g
      walk_at "u"
      refine ⟨v2, rfl, v2, o2, rfl, r2.same s1, fun H2 s2 => ⟨_, rfl, _, rfl, ?_⟩⟩
      have q' : OutR K T.C H (gTwo K) (if wrongV o2 = .non then Res.ok (xs, rowOf o2) else .bad (.tuple [.int (-2), toD (wrongV o2)])) Q E := q
      by_cases z : wrongV o2 = .non
      · rw [if_pos z] at q'
        rw [decide_eq_true z]
        obtain ⟨ys, rfl⟩ := right_some z
        refine iteF ⟨_, rfl, v2, rfl, r_tupOf (r2.same (s1.trans s2)) fun p2 H3 s3 hp2 => ⟨by show 2 ≤ sizeLine; decide, fun t ht => ?_⟩⟩
        exact q' _ _ (((s1.trans s2).trans s3).trans (same_new ht)) ⟨t, p, p2, rfl, SqT.of upd_same, st_same (same_new ht) (st_same s3 (st_same s2 hp)), st_same (same_new ht) hp2⟩
      · rw [if_neg z] at q'
        rw [decide_eq_false z]
        refine iteT ⟨2, rfl, _, rfl, by show 2 ≤ sizeLine; decide, fun t ht => ⟨_, rfl, fun d hd => ?_⟩⟩
        exact q' d _ _ (((s1.trans s2).trans (same_new ht)).trans (same_new hd)) upd_same (dp_pair (st_same (same_new hd) (SqT.of upd_same)) rfl (wrongV_flat o2))
def spRootOf (K : PySem.W.Frag) (C : Addr) : Sp := fun vs H Q E => ∃ v o, vs = [v] ∧ RowA K H v o ∧ OutR K C H (gRoot K) ((checkE o).map rootF) Q E
theorem ok_root_of {f : Addr} {fd : FuncData} (B : Bi mg) (T : BadF P w K mg base) (F : Fun K "root_of" "root_of" s_root_of f fd)
    (Cplain_root : Cal P w K mg base CX0 1 "plain_root" p_plain_root (spRoot K)) (Ccheck_entries : Cal P w K mg base (L2.CX P w) 3 "check_entries" p_check_entries (spCheckE K T.C)) : FnOk P w K mg base (L2.CX P w) 4 f fd p_root_of (spRootOf K T.C) := by
  refine F.okX sc_root_of (fun vs H Q E h => ?_) (fun cdv A outer s H vs Q E hr h => ?_)
  · obtain ⟨v, o, rfl, _⟩ := h
    rfl
  · obtain ⟨v, o, rfl, ra, q⟩ := h
    refine ⟨_, (pss_one (ps_ret (pe_call Cplain_root.G (hr.mono (by decide)) (by rfl) Cplain_root.g Cplain_root.kp Cplain_root.b .nil pass0 (pa_cons (pe_call Ccheck_entries.G (hr.mono (by decide)) (by rfl) Ccheck_entries.g Ccheck_entries.kp Ccheck_entries.b .nil (passes_call (takes_of (E := E) rfl rfl rfl rfl) (fun _ _ _ _ h => h)) (pa_cons (pv 0) pa_nil)) pa_nil)))), ?_⟩
    walk_at "u"
    refine ⟨v, rfl, v, o, rfl, ra, ?_⟩
    cases e1 : checkE o with
    | bad z =>
      rw [e1] at q
      exact q
    | ok xs =>
      rw [e1] at q
      intro v H1 s1 g
      obtain ⟨p, rfl, hp⟩ := g
      obtain ⟨h1, h2⟩ := checkE_ok ra e1
      exact ⟨p, xs, rfl, hp, h1, h2, fun v H2 s2 g => q v H2 (s1.trans s2) g⟩
theorem checkRs_xss {H : Hp} {v : V} {o : Option (List (Option (List V)))} {xss : List (List V)} (ra : RowsA K H v o) (e : checkRs o = .ok xss) : Xss xss := by
  cases o with
  | none => cases e
  | some os =>
    obtain ⟨a, rs, rfl, _, fr, hl⟩ := ra.rows
    cases e0 : firstBad os 0 with
    | some z => rw [checkRs_bad e0] at e; cases e
    | none =>
      rw [checkRs_ok e0] at e
      cases e
      have hlen : rs.length = os.length := Paired.length fr
      refine ⟨fun xs hx => ?_, by rw [List.length_map]; omega⟩
      obtain ⟨o, ho, rfl⟩ := List.mem_map.mp hx
      obtain ⟨i, hi, eo⟩ := List.mem_iff_getElem.mp ho
      obtain ⟨x, _, hr⟩ := pair_at2 fr (List.getElem?_eq_some_iff.mpr ⟨hi, eo⟩)
      exact rowA_sc hr (firstBad_none e0 o ho)
def spCommonRoot (K : PySem.W.Frag) (C : Addr) : Sp := fun vs H Q E => ∃ v o, vs = [v] ∧ RowsA K H v o ∧ OutR K C H (gOpt K) ((checkRs o).map rowsRoot) Q E
theorem ok_common_root {f : Addr} {fd : FuncData} (B : Bi mg) (T : BadF P w K mg base) (F : Fun K "common_root" "common_root" s_common_root f fd)
    (Crows_root : Cal P w K mg base CX0 2 "rows_root" p_rows_root (spRowsRoot K)) (Ccheck_entry_rows : Cal P w K mg base (L2.CX P w) 3 "check_entry_rows" p_check_entry_rows (spCheckRs K T.C)) : FnOk P w K mg base (L2.CX P w) 4 f fd p_common_root (spCommonRoot K T.C) := by
  refine F.okX sc_common_root (fun vs H Q E h => ?_) (fun cdv A outer s H vs Q E hr h => ?_)
  · obtain ⟨v, o, rfl, _⟩ := h
    rfl
  · obtain ⟨v, o, rfl, ra, q⟩ := h
    refine ⟨_, (pss_one (ps_ret (pe_call Crows_root.G (hr.mono (by decide)) (by rfl) Crows_root.g Crows_root.kp Crows_root.b .nil pass0 (pa_cons (pe_call Ccheck_entry_rows.G (hr.mono (by decide)) (by rfl) Ccheck_entry_rows.g Ccheck_entry_rows.kp Ccheck_entry_rows.b .nil (passes_call (takes_of (E := E) rfl rfl rfl rfl) (fun _ _ _ _ h => h)) (pa_cons (pv 0) pa_nil)) pa_nil)))), ?_⟩
    walk_at "u"
    refine ⟨v, rfl, v, o, rfl, ra, ?_⟩
    cases e1 : checkRs o with
    | bad z =>
      rw [e1] at q
      exact q
    | ok xss =>
      rw [e1] at q
      intro v H1 s1 g
      obtain ⟨p, rs, rfl, hp, fr⟩ := g
      exact ⟨p, rs, xss, rfl, hp, fr, checkRs_xss ra e1, fun v H2 s2 g => q v H2 (s1.trans s2) g⟩
def spOrders (K : PySem.W.Frag) (C : Addr) : Sp := fun vs H Q E => ∃ v o, vs = [v] ∧ RowsA K H v o ∧ OutR K C H gBool ((checkRs o).map fun x => (rowsRoot x).isSome) Q E
theorem ok_orders_steady {f : Addr} {fd : FuncData} (B : Bi mg) (T : BadF P w K mg base) (F : Fun K "orders_steady" "orders_steady" s_orders_steady f fd)
    (Crows_root : Cal P w K mg base CX0 2 "rows_root" p_rows_root (spRowsRoot K)) (Ccheck_entry_rows : Cal P w K mg base (L2.CX P w) 3 "check_entry_rows" p_check_entry_rows (spCheckRs K T.C)) : FnOk P w K mg base (L2.CX P w) 4 f fd p_orders_steady (spOrders K T.C) := by
  refine F.okX sc_orders_steady (fun vs H Q E h => ?_) (fun cdv A outer s H vs Q E hr h => ?_)
  · obtain ⟨v, o, rfl, _⟩ := h
    rfl
  · obtain ⟨v, o, rfl, ra, q⟩ := h
    refine ⟨_, (pss_one (ps_ret (pe_cmp (pc_notN (pe_call Crows_root.G (hr.mono (by decide)) (by rfl) Crows_root.g Crows_root.kp Crows_root.b .nil pass0 (pa_cons (pe_call Ccheck_entry_rows.G (hr.mono (by decide)) (by rfl) Ccheck_entry_rows.g Ccheck_entry_rows.kp Ccheck_entry_rows.b .nil (passes_call (takes_of (E := E) rfl rfl rfl rfl) (fun _ _ _ _ h => h)) (pa_cons (pv 0) pa_nil)) pa_nil))) rfl))), ?_⟩
    walk_at "u"
    refine ⟨v, rfl, v, o, rfl, ra, ?_⟩
    cases e1 : checkRs o with
    | bad z =>
      rw [e1] at q
      exact q
    | ok xss =>
      rw [e1] at q
      intro v H1 s1 g
      obtain ⟨p, rs, rfl, hp, fr⟩ := g
      refine ⟨p, rs, xss, rfl, hp, fr, checkRs_xss ra e1, fun v H2 s2 g => ?_⟩
      have q' : ∀ v H', Same H H' → gBool (rowsRoot xss).isSome v H' → Q v H' := q
      refine q' _ H2 (s1.trans s2) ?_
      cases er : rowsRoot xss with
      | none =>
        rw [er] at g
        have gv : v = .non := g
        rw [gv]
        rfl
      | some xs =>
        rw [er] at g
        obtain ⟨a, gv, _⟩ := g
        rw [gv]
        show V.bl (!decide (V.ref a = V.non)) = V.bl true
        rw [decide_eq_false (fun z => by cases z)] <;> rfl
def spCommute (K : PySem.W.Frag) (C : Addr) : Sp := fun vs H Q E => ∃ v1 v2 o1 o2, vs = [v1, v2] ∧ RowA K H v1 o1 ∧ RowA K H v2 o2 ∧ OutR K C H gBool ((checkTwo o1 o2).map fun r => decide (r.1 ++ r.2 = r.2 ++ r.1)) Q E
theorem ok_do_rows_commute {f : Addr} {fd : FuncData} (B : Bi mg) (T : BadF P w K mg base) (F : Fun K "do_rows_commute" "do_rows_commute" s_do_rows_commute f fd)
    (Ccheck_two_rows : Cal P w K mg base (L2.CX P w) 4 "check_two_rows" p_check_two_rows (spTwo K T.C)) : FnOk P w K mg base (L2.CX P w) 5 f fd p_do_rows_commute (spCommute K T.C) := by
  refine F.okX sc_do_rows_commute (fun vs H Q E h => ?_) (fun cdv A outer s H vs Q E hr h => ?_)
  · obtain ⟨v1, v2, o1, o2, rfl, _⟩ := h
    rfl
  · obtain ⟨v1, v2, o1, o2, rfl, r1, r2, q⟩ := h
    refine ⟨_, (pss_cons (ps_asg (pe_call Ccheck_two_rows.G (hr.mono (by decide)) (by rfl) Ccheck_two_rows.g Ccheck_two_rows.kp Ccheck_two_rows.b .nil (passes_call (takes_of (E := E) rfl rfl rfl rfl) (fun _ _ _ _ h => h)) (pa_cons (pv 0) (pa_cons (pv 1) pa_nil))) (pg_tup rfl (pgs_cons (pg_name (i := 2) sc_do_rows_commute.nd rfl (by first | exact .inl rfl | exact .inr rfl)) (pgs_cons (pg_name (i := 3) sc_do_rows_commute.nd rfl (by first | exact .inl rfl | exact .inr rfl)) pgs_nil))))
      (pss_one (ps_ret (pe_cmpR (op_eqDK (K := K) rfl hr.units) (pe_op (op_catK (K := K) rfl) (pv 2) (pv 3)) (pe_op (op_catK (K := K) rfl) (pv 3) (pv 2)) (nomark _))))), ?_⟩
    walk_at "u"
    refine ⟨v1, rfl, v2, rfl, v1, v2, o1, o2, rfl, r1, r2, ?_⟩
    cases e1 : checkTwo o1 o2 with
    | bad z =>
      rw [e1] at q
      exact q
    | ok r =>
      rw [e1] at q
      intro v H1 s1 g
      obtain ⟨p, a, b, rfl, hp, ha, hb⟩ := g
      obtain ⟨⟨x1, x2⟩, y1, y2⟩ := checkTwo_ok r1 r2 e1
      obtain ⟨xs, ys⟩ := r
      have x3 : xs.length ≤ 1000 := x2
      have y3 : ys.length ≤ 1000 := y2
      have small : xs.length + ys.length ≤ sizeLine := Nat.le_trans (show xs.length + ys.length ≤ 2000 by omega) (by decide)
      have small2 : ys.length + xs.length ≤ sizeLine := by omega
      walk_at "u"
      refine ⟨p, [.ref a, .ref b], rfl, hp, rfl, _, _, rfl, _, _, rfl, rfl, ?_⟩
      walk_at "u"
      refine ⟨_, rfl, _, rfl, r_catA ha hb small fun p1 H2 s2 h1 => ⟨_, rfl, _, rfl, r_catA (st_same s2 hb) (st_same s2 ha) small2 fun p2 H3 s3 h2 => ?_⟩⟩
      have a1 : (xs ++ ys).all sc = true := by rw [List.all_append, x1, y1] <;> rfl
      have a2 : (ys ++ xs).all sc = true := by rw [List.all_append, x1, y1] <;> rfl
      exact r_eqTT (st_same s3 h1) h2 a1 a2 (q _ H3 ((s1.trans s2).trans s3) rfl)
def mixF (r : List V × List V) : Bool := r.1.isEmpty || (r.2.isEmpty || (r.1 ++ r.2).all fun x => decide (some x = r.1.head?))
def spMix (K : PySem.W.Frag) (C : Addr) : Sp := fun vs H Q E => ∃ v1 v2 o1 o2, vs = [v1, v2] ∧ RowA K H v1 o1 ∧ RowA K H v2 o2 ∧ OutR K C H gBool ((checkTwo o1 o2).map mixF) Q E
theorem ok_mixings_steady {f : Addr} {fd : FuncData} (B : Bi mg) (T : BadF P w K mg base) (F : Fun K "mixings_steady" "mixings_steady" s_mixings_steady f fd)
    (Ccheck_two_rows : Cal P w K mg base (L2.CX P w) 4 "check_two_rows" p_check_two_rows (spTwo K T.C)) : FnOk P w K mg base (L2.CX P w) 5 f fd p_mixings_steady (spMix K T.C) := by
  refine F.okX sc_mixings_steady (fun vs H Q E h => ?_) (fun cdv A outer s H vs Q E hr h => ?_)
  · obtain ⟨v1, v2, o1, o2, rfl, _⟩ := h
    rfl
  · obtain ⟨v1, v2, o1, o2, rfl, r1, r2, q⟩ := h
    refine ⟨_, (pss_cons (ps_asg (pe_call Ccheck_two_rows.G (hr.mono (by decide)) (by rfl) Ccheck_two_rows.g Ccheck_two_rows.kp Ccheck_two_rows.b .nil (passes_call (takes_of (E := E) rfl rfl rfl rfl) (fun _ _ _ _ h => h)) (pa_cons (pv 0) (pa_cons (pv 1) pa_nil))) (pg_tup rfl (pgs_cons (pg_name (i := 2) sc_mixings_steady.nd rfl (by first | exact .inl rfl | exact .inr rfl)) (pgs_cons (pg_name (i := 3) sc_mixings_steady.nd rfl (by first | exact .inl rfl | exact .inr rfl)) pgs_nil))))
      (pss_cons (ps_if (PW.pt (pw_or (pt_not (pt_truthK (K := K) rfl (pv 2) (by intro _; rfl))) (pw_or1 (pt_not (pt_truthK (K := K) rfl (pv 3) (by intro _; rfl))))))
      (pss_one (ps_ret pe_bl))
      pss_nil)
      (pss_one (ps_ret (pe_callB (cr_allK (K := K) rfl (by rfl)) (by rfl) B.all (by decide +kernel) (pa_cons (pe_lc (own := [("entry", 4)]) (by rfl) sc_mixings_steady.nd (pi_tup (pe_op (op_catK (K := K) rfl) (pv 2) (pv 3))) (blkOk_by (own := [("entry", 4)]) (N := n_mixings_steady) (sc := defScope s_mixings_steady) (by decide +kernel)) (fun _ _ _ _ _ => (pg_name (i := 4) sc_mixings_steady.nd rfl (by first | exact .inl rfl | exact .inr rfl))) (fun _ _ _ _ _ => pts_nil) (fun _ _ _ _ _ => (pe_cmpR (op_eqDK (K := K) rfl hr.units) (pv 4) (pe_ix (ix_tupK (K := K) rfl) (pv 2) pe_int (fun _ _ => rfl)) (nomark _)))) pa_nil)))))), ?_⟩
    walk_at "u"
    refine ⟨v1, rfl, v2, rfl, v1, v2, o1, o2, rfl, r1, r2, ?_⟩
    cases e1 : checkTwo o1 o2 with
    | bad z =>
      rw [e1] at q
      exact q
    | ok r =>
      rw [e1] at q
      intro v H1 s1 g
      obtain ⟨p, a, b, rfl, hp, ha, hb⟩ := g
      obtain ⟨⟨x1, x2⟩, y1, y2⟩ := checkTwo_ok r1 r2 e1
      obtain ⟨xs, ys⟩ := r
      have x3 : xs.length ≤ 1000 := x2
      have y3 : ys.length ≤ 1000 := y2
      have q' : ∀ v H', Same H H' → gBool (mixF (xs, ys)) v H' → Q v H' := q
      have small : xs.length + ys.length ≤ sizeLine := Nat.le_trans (show xs.length + ys.length ≤ 2000 by omega) (by decide)
      walk_at "u"
      refine ⟨p, [.ref a, .ref b], rfl, hp, rfl, _, _, rfl, _, _, rfl, rfl, ?_⟩
      walk_at "u"
      refine ⟨_, rfl, (!xs.isEmpty), .inr (.inl ⟨xs, ha, rfl⟩), ?_⟩
      cases xs with
      | nil => exact iteT (iteT (q' _ H1 s1 rfl))
      | cons x0 xr =>
        refine iteF ⟨_, rfl, (!ys.isEmpty), .inr (.inl ⟨ys, hb, rfl⟩), ?_⟩
        cases ys with
        | nil => exact iteT (q' _ H1 s1 rfl)
        | cons y0 yr =>
          refine iteF ?_
          generalize ez : (x0 :: xr) ++ (y0 :: yr) = zs
          have hzs : zs.all sc = true := by rw [← ez, List.all_append, x1, y1] <;> rfl
          have hzl : zs.length ≤ 2000 := by rw [← ez, List.length_append]; simp only [List.length_cons] at *; omega
          have hx0 : sc x0 = true := (Bool.and_eq_true_iff.mp x1).1
          refine t_lcS (fun J H2 => ∃ p2, J = Itt K p2 ∧ Same H1 H2 ∧ SqT K H2 p2 zs) (fun R r => ⟨_, rfl, _, rfl, r_catA ha hb small fun p2 H2 s2 h2 => ⟨p2, rfl, ⟨_, h2⟩, r _ _ ⟨p2, rfl, s2, by rw [← ez]; exact h2⟩⟩⟩) (fun J H2 hS => ?_)
          obtain ⟨p2, rfl, s2, h2⟩ := hS
          refine ⟨_, _, _, walk_tup (xs := zs), fun D i H' => Same H2 H' ∧ H' D = some (.lst (((zs.take i).map fun y => decide (y = x0)).map V.bl)), fun D hD => ⟨same_new hD, upd_same⟩, fun D i H' _ p => st_same p.1 h2, fun D hD i x H3 H4 hi p y => ?_, fun D hD H3 p => ?_⟩
          · obtain ⟨sm, eD⟩ := p
            obtain ⟨rfl, f2⟩ := y
            walk_at "u"
            refine ⟨rfl, iteT ⟨_, rfl, _, rfl, a, _, 0, x0, rfl, rfl, st_same sm (st_same s2 ha), atI_nat (j := 0) rfl, ?_⟩⟩
            refine r_eqSS (List.all_eq_true.mp hzs x (List.mem_of_getElem? f2)) hx0 ⟨_, eD, ?_, same_mut hD ((SameB.of sm).trans SameB.upd), ?_⟩
            · rw [List.length_map, List.length_map, List.length_take]
              exact Nat.lt_of_le_of_lt (show min i zs.length ≤ 2000 by omega) (by decide)
            · rw [upd_same, List.take_add_one, f2]
              simp
          · obtain ⟨sm, eD⟩ := p
            rw [List.take_length] at eD
            refine ⟨D, _, rfl, .inl (.inl eD), ?_⟩
            rw [List.all_map]
            refine q' _ H3 ((s1.trans s2).trans sm) ?_
            show V.bl _ = V.bl _
            have em : mixF (x0 :: xr, y0 :: yr) = zs.all (id ∘ fun y => decide (y = x0)) := by
              show (false || (false || ((x0 :: xr) ++ (y0 :: yr)).all fun x => decide (some x = some x0))) = _
              rw [ez, Bool.false_or, Bool.false_or]
              congr 1
              funext y
              show decide (some y = some x0) = decide (y = x0)
              rw [Bool.eq_iff_iff]
              simp
            rw [em]
end
end K65

namespace K65
open PySem PySem.Spec PyProof.Rows L2 KR KK
local macro_rules | `(tactic| walk_at "u") => `(tactic| try dsimp only [tSeq, tCutS, tCutE, tCutT, tIfS, tRet, tRetN, tNext, tBreak, tCont, tDrop, tAsg, gName, gTup, gCons, gNil, tOr, tAnd, tNot, tB, tTest, tCB, tCons, tNil, tC, tVar, tAndV, tOrV, tNotV, tOp, tUn, tIf, tIsN, tNotN, tTup, tLst, tCall, tCallS, tBM, tBM0, tSl, tPart, tNoPart, tYes, iList, iTup, iSeq, iStr, iRng1, iRng2, iEnumA, rI, rI0, rU, cxOf, Cx.nox, Cx.wish, L2.start, List.map, List.set, Nat.repeat, List.length_cons, List.length_nil, List.replicate, List.nil_append, List.cons_append, List.append_nil, Nat.reduceAdd, Nat.reduceSub, E0, tBad, tTr])

/-! ### _law_equal: two values of one datum -/
mutual
def okD : PyData → Bool
  | .none => true
  | .bool _ => true
  | .int _ => true
  | .str s => PyData.strOk s && decide (s.length ≤ 1000)
  | .tuple ds => okAll ds
  | .list _ => false
  | .dict _ => false
def okAll : List PyData → Bool
  | [] => true
  | d :: ds => okD d && okAll ds
end
mutual
def nodes : PyData → Nat
  | .tuple ds => 1 + nodesAll ds
  | .none => 1
  | .bool _ => 1
  | .int _ => 1
  | .str _ => 1
  | .list _ => 1
  | .dict _ => 1
def nodesAll : List PyData → Nat
  | [] => 0
  | d :: ds => nodes d + nodesAll ds
end
theorem nodes_pos : ∀ d : PyData, 1 ≤ nodes d
  | .tuple ds => by simp only [nodes]; omega
  | .none => by simp only [nodes]; omega
  | .bool _ => by simp only [nodes]; omega
  | .int _ => by simp only [nodes]; omega
  | .str _ => by simp only [nodes]; omega
  | .list _ => by simp only [nodes]; omega
  | .dict _ => by simp only [nodes]; omega
theorem nodesAll_cat : ∀ (a b : List PyData), nodesAll (a ++ b) = nodesAll a + nodesAll b
  | [], b => by simp [nodesAll]
  | d :: a, b => by
    show nodesAll (d :: (a ++ b)) = _
    simp only [nodesAll]
    rw [nodesAll_cat a b]
    omega
theorem nodesAll_len : ∀ (a : List PyData), a.length ≤ nodesAll a
  | [] => by simp [nodesAll]
  | d :: a => by
    simp only [nodesAll, List.length_cons]
    have h1 := nodes_pos d
    have h2 := nodesAll_len a
    omega
theorem nodesAll_take (a : List PyData) (i : Nat) : nodesAll (a.take i) ≤ nodesAll a := by
  have h := nodesAll_cat (a.take i) (a.drop i)
  rw [List.take_append_drop] at h
  omega
theorem okAll_mem : ∀ {a : List PyData}, okAll a = true → ∀ d ∈ a, okD d = true
  | [], _, d, m => by cases m
  | x :: r, h, d, m => by
    have h' : (okD x && okAll r) = true := by simpa only [okAll] using h
    rw [Bool.and_eq_true] at h'
    rcases List.mem_cons.mp m with z | z
    · rw [z]; exact h'.1
    · exact okAll_mem h'.2 d z
theorem dpAll_at {K : PySem.W.Frag} {H : Hp} : ∀ {vs : List V} {ds : List PyData} {i : Nat} {d : PyData}, DpAll K H vs ds → ds[i]? = some d → ∃ v, vs[i]? = some v ∧ Dp K H v d
  | _, _, _, _, .nil, h => by simp at h
  | _, _, 0, _, .cons f _, h => by
    have e := Option.some.inj h
    subst e
    exact ⟨_, rfl, f⟩
  | _, _, i + 1, _, .cons _ r, h => dpAll_at (i := i) r h
theorem dpAll_len {K : PySem.W.Frag} {H : Hp} : ∀ {vs : List V} {ds : List PyData}, DpAll K H vs ds → vs.length = ds.length
  | _, _, .nil => rfl
  | _, _, .cons _ r => by rw [List.length_cons, List.length_cons, dpAll_len r]
theorem pair_last {α β : Type} {F : α → β → Prop} : ∀ {l : List α} {x : α} {m : List β}, Paired F (l ++ [x]) m → ∃ m0 d, m = m0 ++ [d] ∧ Paired F l m0 ∧ F x d
  | [], x, _, .cons f .nil => ⟨[], _, rfl, .nil, f⟩
  | a :: l, x, _, .cons f r => by
    obtain ⟨m0, d, rfl, h1, h2⟩ := pair_last r
    exact ⟨_ :: m0, d, rfl, .cons f h1, h2⟩
mutual
theorem dp_b {K : PySem.W.Frag} {H H' : Hp} {w : Addr} {ws : List V} (hw : H w = some (.lst ws)) (e : SameB w H H') : ∀ {d : PyData} {v : V}, okD d = true → Dp K H v d → Dp K H' v d
  | .none, _, _, h => by cases h; exact .non
  | .bool b, _, _, h => by cases h; exact .bl b
  | .int i, _, _, h => by cases h; exact .int i
  | .str x, _, _, h => by cases h; exact .str x
  | .list ds, _, z, h => by simp [okD] at z
  | .tuple ds, _, z, h => by
    cases h with
    | tup hs ha => exact .tup (st_b hw e hs) (dpAll_b hw e (by simpa only [okD] using z) ha)
  | .dict _, _, _, h => by cases h
theorem dpAll_b {K : PySem.W.Frag} {H H' : Hp} {w : Addr} {ws : List V} (hw : H w = some (.lst ws)) (e : SameB w H H') : ∀ {ds : List PyData} {vs : List V}, okAll ds = true → DpAll K H vs ds → DpAll K H' vs ds
  | [], _, _, h => by cases h; exact .nil
  | d :: ds, _, z, h => by
    have z' : (okD d && okAll ds) = true := by simpa only [okAll] using z
    rw [Bool.and_eq_true] at z'
    cases h with
    | cons h1 h2 => exact .cons (dp_b hw e z'.1 h1) (dpAll_b hw e z'.2 h2)
end
/-- a pair that waits -/
def IsPr (K : PySem.W.Frag) (H : Hp) (x : V) (d : PyData) : Prop := okD d = true ∧ ∃ t a b, x = .ref t ∧ SqT K H t [a, b] ∧ Dp K H a d ∧ Dp K H b d
theorem IsPr.same {K : PySem.W.Frag} {H H' : Hp} {x : V} {d : PyData} (e : Same H H') (h : IsPr K H x d) : IsPr K H' x d := by
  obtain ⟨o, t, a, b, r, h1, h2, h3⟩ := h
  exact ⟨o, t, a, b, r, st_same e h1, dp_same e h2, dp_same e h3⟩
theorem IsPr.b {K : PySem.W.Frag} {H H' : Hp} {w : Addr} {ws : List V} {x : V} {d : PyData} (hw : H w = some (.lst ws)) (e : SameB w H H') (h : IsPr K H x d) : IsPr K H' x d := by
  obtain ⟨z, t, a, b, r, h1, h2, h3⟩ := h
  exact ⟨z, t, a, b, r, st_b hw e h1, dp_b hw e z h2, dp_b hw e z h3⟩
theorem r_neSame {H : Hp} {b : Bool} {Q : VK} (q : Q (.bl false) H) : rNe (.bl b) (.bl b) H Q := ⟨rfl, by rw [decide_eq_true rfl]; exact q⟩
theorem r_neEq {H : Hp} {i j : Int} {Q : VK} (e : i = j) (q : Q (.bl false) H) : rNe (.int i) (.int j) H Q := ⟨rfl, by rw [e, decide_eq_true rfl]; exact q⟩
theorem r_neDSame {K : PySem.W.Frag} {H : Hp} {v : V} {Q : VK} (h : flat v = true) (q : Q (.bl false) H) : rNeD K v v H Q := by
  refine ⟨_, _, dp_flat h, dp_flat h, shaped_flat h, shaped_flat h, ?_⟩
  have e : PyData.eqv (toD v) (toD v) = true := by
    cases v with
    | non => show PyData.eqv .none .none = true; simp only [PyData.eqv]
    | bl b => show PyData.eqv (.bool b) (.bool b) = true; simp [PyData.eqv]
    | int i => show PyData.eqv (.int i) (.int i) = true; simp [PyData.eqv]
    | str t => show PyData.eqv (.str t) (.str t) = true; simp [PyData.eqv]
    | _ => cases h
  rw [e]
  exact q
section
variable {P : Program} {w : World} {K : PySem.W.Frag} {mg : Str → Option Value} {base : Heap}
def spEqual (K : PySem.W.Frag) : Sp := fun vs H Q _ => ∃ a b d, vs = [a, b] ∧ Dp K H a d ∧ Dp K H b d ∧ okD d = true ∧ nodes d ≤ 100000 ∧ ∀ H', Same H H' → Q (.bl true) H'
theorem ok_law_equal {f : Addr} {fd : FuncData} (B : Bi mg) (F : Fun K "_law_equal" "_law_equal" s_law_equal f fd) : FnOk P w K mg base CX0 1 f fd p_law_equal (spEqual K) := by
  refine F.ok sc_law_equal (fun vs H Q E h => ?_) (fun cdv A outer s H vs Q E hr h => ?_)
  · obtain ⟨a, b, d, rfl, _⟩ := h
    rfl
  · obtain ⟨told, due, d, rfl, h1, h2, hok, hn, q⟩ := h
    refine ⟨_, (pss_cons (ps_set (i := 2) sc_law_equal.nd rfl (by first | exact .inl rfl | exact .inr rfl) (pe_lst (pa_cons (pe_tup (pa_cons (pv 0) (pa_cons (pv 1) pa_nil))) pa_nil)))
      (pss_cons (ps_for PassesOwn.never rfl (pi_range1 rfl B.range (pa_cons pe_int pa_nil)) (pg_name (i := 3) sc_law_equal.nd rfl (by first | exact .inl rfl | exact .inr rfl))
      (pss_cons (ps_if (pt_cmpR op_eq (pe_callB (call_lenK (K := K) rfl) (by rfl) B.len PySem.boot_len (pa_cons (pv 2) pa_nil)) pe_int (nomark _))
      (pss_one (ps_ret pe_bl))
      pss_nil)
      (pss_cons (ps_asg (pe_bm0 PySem.F.plainAttrs_list PySem.F.slot_list_pop PySem.F.type_list_pop mt_pop (pv 2)) (pg_tup rfl (pgs_cons (pg_name (i := 4) sc_law_equal.nd rfl (by first | exact .inl rfl | exact .inr rfl)) (pgs_cons (pg_name (i := 5) sc_law_equal.nd rfl (by first | exact .inl rfl | exact .inr rfl)) pgs_nil))))
      (pss_one (ps_if (pt_val (pe_callB (call_isiK1 (K := K) rfl) (by rfl) B.isinstance (by decide +kernel) (pa_cons (pv 5) (pa_cons (pe_bltn (v := .ty "tuple") (by rfl) B.tuple_ (by decide +kernel) rfl) pa_nil))))
      (pss_cons (ps_if (PW.pt (pw_or (pt_not (pt_val (pe_callB (call_isiK1 (K := K) rfl) (by rfl) B.isinstance (by decide +kernel) (pa_cons (pv 4) (pa_cons (pe_bltn (v := .ty "tuple") (by rfl) B.tuple_ (by decide +kernel) rfl) pa_nil))))) (pw_or1 (pt_cmpR op_ne (pe_callB (call_lenK (K := K) rfl) (by rfl) B.len PySem.boot_len (pa_cons (pv 4) pa_nil)) (pe_callB (call_lenK (K := K) rfl) (by rfl) B.len PySem.boot_len (pa_cons (pv 5) pa_nil)) (nomark _)))))
      (pss_one (ps_ret pe_bl))
      pss_nil)
      (pss_one (ps_for PassesOwn.never rfl (pi_range1 rfl B.range (pa_cons (pe_callB (call_lenK (K := K) rfl) (by rfl) B.len PySem.boot_len (pa_cons (pv 5) pa_nil)) pa_nil)) (pg_name (i := 6) sc_law_equal.nd rfl (by first | exact .inl rfl | exact .inr rfl))
      (pss_one (ps_expr (pe_bm PySem.F.plainAttrs_list PySem.F.slot_list_append PySem.F.type_list_append mt_append (pv 2) (pa_cons (pe_tup (pa_cons (pe_ix (ix_tupK (K := K) rfl) (pv 4) (pv 6) (fun _ _ => rfl)) (pa_cons (pe_ix (ix_tupK (K := K) rfl) (pv 5) (pv 6) (fun _ _ => rfl)) pa_nil))) pa_nil)))))))
      (pss_one (ps_if (pt_cmp (pc_isN (pv 5)))
      (pss_one (ps_if (pt_cmp (pc_notN (pv 4)))
      (pss_one (ps_ret pe_bl))
      pss_nil))
      (pss_one (ps_if (PW.pt (pw_or (pt_cmpR op_ne (pe_callB (call_isiK1 (K := K) rfl) (by rfl) B.isinstance (by decide +kernel) (pa_cons (pv 4) (pa_cons (pe_bltn (v := .ty "bool") (by rfl) B.bool_ (by decide +kernel) rfl) pa_nil))) (pe_callB (call_isiK1 (K := K) rfl) (by rfl) B.isinstance (by decide +kernel) (pa_cons (pv 5) (pa_cons (pe_bltn (v := .ty "bool") (by rfl) B.bool_ (by decide +kernel) rfl) pa_nil))) (nomark _)) (pw_or1 (pt_cmpR op_ne (pe_callB (call_isiK1 (K := K) rfl) (by rfl) B.isinstance (by decide +kernel) (pa_cons (pv 4) (pa_cons (pe_bltn (v := .ty "int") (by rfl) B.int_ (by decide +kernel) rfl) pa_nil))) (pe_callB (call_isiK1 (K := K) rfl) (by rfl) B.isinstance (by decide +kernel) (pa_cons (pv 5) (pa_cons (pe_bltn (v := .ty "int") (by rfl) B.int_ (by decide +kernel) rfl) pa_nil))) (nomark _)))))
      (pss_one (ps_ret pe_bl))
      (pss_one (ps_if (PW.pt (pw_or (pt_cmpR op_ne (pe_callB (call_isiK1 (K := K) rfl) (by rfl) B.isinstance (by decide +kernel) (pa_cons (pv 4) (pa_cons (pe_bltn (v := .ty "str") (by rfl) B.str_ (by decide +kernel) rfl) pa_nil))) (pe_callB (call_isiK1 (K := K) rfl) (by rfl) B.isinstance (by decide +kernel) (pa_cons (pv 5) (pa_cons (pe_bltn (v := .ty "str") (by rfl) B.str_ (by decide +kernel) rfl) pa_nil))) (nomark _)) (pw_or1 (pt_cmpR (op_neDK (K := K) rfl hr.units) (pv 4) (pv 5) (nomark _)))))
      (pss_one (ps_ret pe_bl))
      pss_nil)))))))))))
      (pss_one (ps_ret pe_bl)))), ?_⟩
    walk_at "u"
    refine ⟨_, rfl, _, rfl, by show 2 ≤ sizeLine; decide, fun t ht => ⟨by show 1 ≤ sizeLine; decide, fun wt hwt => ?_⟩⟩
    have sm1 : Same H (upd H t (.tup [told, due])) := same_new ht
    have hwH : H wt = none := free_of sm1 hwt
    have ex : ∀ (σ : L2.St) (H' : Hp), (Same H H' ∧ ∃ ws ds y3 y4 y5 y6, σ = [some told, some due, some (.ref wt), y3, y4, y5, y6] ∧ H' wt = some (.lst ws) ∧ Paired (IsPr K H') ws ds ∧ nodesAll ds ≤ 100000) → Q (.bl true) H' := fun σ H' p => q H' p.1
    refine t_for (walk_range (lo := 0) (n := 400000)) (fun R r => by
      walk_at "u"
      exact ⟨400000, rfl, by decide, by decide, r⟩) (fun i σ H' => Same H H' ∧ ∃ ws ds y3 y4 y5 y6, σ = [some told, some due, some (.ref wt), y3, y4, y5, y6] ∧ H' wt = some (.lst ws) ∧ Paired (IsPr K H') ws ds ∧ nodesAll ds ≤ 100000)
      ⟨sm1.trans (same_new hwt), [.ref t], [d], none, none, none, none, rfl, upd_same, .cons ⟨hok, t, told, due, rfl, st_same (same_new hwt) (SqT.of upd_same), dp_same (sm1.trans (same_new hwt)) h1, dp_same (sm1.trans (same_new hwt)) h2⟩ .nil, by simp only [nodesAll]; omega⟩
      (fun _ _ _ _ _ => trivial) (fun i x σ H1 H2 hi p y => ?_) (fun σ H1 p => ex σ H1 p)
    obtain ⟨rfl, rfl⟩ := y
    obtain ⟨sm, ws, ds, y3, y4, y5, y6, rfl, eW, pr, hsum⟩ := p
    walk_at "u"
    refine ⟨_, rfl, wt, ws, rfl, .inl (.inl (.inl eW)), rfl, _, rfl, ?_⟩
    rcases List.eq_nil_or_concat ws with rfl | ⟨ws0, x, rfl⟩
    · exact iteT (q H2 sm)
    · rw [List.concat_eq_append] at eW pr ⊢
      obtain ⟨ds0, d, rfl, pr0, hx⟩ := pair_last pr
      rw [nodesAll_cat] at hsum
      have hsum' : nodesAll ds0 + nodes d ≤ 100000 := by simpa [nodesAll] using hsum
      have hne : decide (V.int (((ws0 ++ [x]).length : Nat) : Int) = V.int 0) = false := decide_eq_false fun z => by
        have := V.int.inj z
        rw [List.length_append, List.length_singleton] at this
        omega
      rw [hne]
      refine iteF ⟨_, rfl, .inl ⟨rfl, _, .inl (.inl eW)⟩, wt, _, x, rfl, rfl, eW, by simp, ?_⟩
      rw [List.dropLast_concat]
      obtain ⟨od, tx, a, b, rfl, hT, ha, hb⟩ := hx
      refine ⟨tx, [a, b], rfl, st_b eW SameB.upd hT, rfl, _, _, rfl, _, _, rfl, rfl, ?_⟩
      have pr1 : Paired (IsPr K (upd H2 wt (.lst ws0))) ws0 ds0 := L2.Paired.mapP pr0 fun _ _ z => z.b eW SameB.upd
      have ha1 : Dp K (upd H2 wt (.lst ws0)) a d := dp_b eW SameB.upd od ha
      have hb1 : Dp K (upd H2 wt (.lst ws0)) b d := dp_b eW SameB.upd od hb
      have sm2 : Same H (upd H2 wt (.lst ws0)) := same_mut hwH ((SameB.of sm).trans SameB.upd)
      have eW1 : (upd H2 wt (.lst ws0)) wt = some (.lst ws0) := upd_same
      generalize upd H2 wt (.lst ws0) = H3 at pr1 ha1 hb1 sm2 eW1 ⊢
      clear pr0 ha hb hT sm eW pr
      walk_at "u"
      by_cases hsc : ∃ v : V, flat v = true ∧ v ≠ .non ∧ a = v ∧ b = v
      · obtain ⟨v, fv, nv, ea, eb⟩ := hsc
        rw [ea, eb]
        refine ⟨v, rfl, r_isTup (.flat fv) ⟨_, rfl, iteF ⟨v, rfl, false, by rw [decide_eq_false nv], iteF ?_⟩⟩⟩
        refine ⟨v, rfl, r_isBl (.flat fv) ⟨v, rfl, r_isBl (.flat fv) (r_neSame ⟨_, rfl, iteF ?_⟩)⟩⟩
        refine ⟨v, rfl, r_isInt (.flat fv) ⟨v, rfl, r_isInt (.flat fv) (r_neSame ⟨_, rfl, iteF ?_⟩)⟩⟩
        refine ⟨v, rfl, r_isStr (.flat fv) ⟨v, rfl, r_isStr (.flat fv) (r_neSame ⟨_, rfl, iteF ?_⟩)⟩⟩
        refine ⟨v, rfl, v, rfl, r_neDSame fv ⟨_, rfl, iteF ?_⟩⟩
        exact ⟨sm2, ws0, ds0, _, _, _, _, rfl, eW1, pr1, by omega⟩
      cases d with
      | none =>
        cases ha1
        cases hb1
        exact ⟨_, rfl, r_isTup (.flat rfl) ⟨_, rfl, iteF ⟨_, rfl, true, rfl, iteT ⟨_, rfl, false, rfl, iteF ⟨sm2, ws0, ds0, _, _, _, _, rfl, eW1, pr1, by omega⟩⟩⟩⟩⟩
      | bool k =>
        cases ha1
        cases hb1
        exact absurd ⟨.bl k, rfl, (fun z => by cases z), rfl, rfl⟩ hsc
      | int k =>
        cases ha1
        cases hb1
        exact absurd ⟨.int k, rfl, (fun z => by cases z), rfl, rfl⟩ hsc
      | str k =>
        cases ha1
        cases hb1
        exact absurd ⟨.str k, (by simp only [okD] at od; exact od), (fun z => by cases z), rfl, rfl⟩ hsc
      | list ds' => simp [okD] at od
      | dict ds' => simp [okD] at od
      | tuple ds' =>
        have oA : okAll ds' = true := by simpa only [okD] using od
        have hnd : nodesAll ds0 + (1 + nodesAll ds') ≤ 100000 := by simpa only [nodes] using hsum'
        have hdl := nodesAll_len ds'
        cases ha1 with
        | @tup a1 os1 _ hSa hDa =>
        cases hb1 with
        | @tup b1 os2 _ hSb hDb =>
        have l1 := dpAll_len hDa
        have l2 := dpAll_len hDb
        refine ⟨_, rfl, r_isTup (.tup hSb) ⟨_, rfl, iteT ⟨_, rfl, r_isTup (.tup hSa) ⟨_, rfl, iteF ⟨_, rfl, a1, os1, rfl, .inr hSa, _, rfl, b1, os2, rfl, .inr hSb, r_neEq (by rw [l1, l2]) ⟨_, rfl, iteF ?_⟩⟩⟩⟩⟩⟩
        refine t_for (H1 := H3) (walk_range (lo := 0) (n := os2.length)) (fun R r => by
          walk_at "u"
          exact ⟨_, rfl, b1, os2, rfl, .inr hSb, _, rfl, by omega, by omega, by rw [Int.toNat_natCast]; exact r⟩) (fun j σ H' => (SameB wt H3 H' ∧ Same H H') ∧ ∃ ws y6, σ = [some told, some due, some (.ref wt), some (V.int (0 + (i : Nat))), some (.ref a1), some (.ref b1), y6] ∧ H' wt = some (.lst ws) ∧ Paired (IsPr K H') ws (ds0 ++ ds'.take j))
          ⟨⟨SameB.refl _, sm2⟩, ws0, _, rfl, eW1, by rw [List.take_zero, List.append_nil]; exact pr1⟩ (fun _ _ _ _ _ => trivial) (fun j x σ H4 H5 hj p y => ?_) (fun σ H4 p => ?_)
        · obtain ⟨rfl, rfl⟩ := y
          obtain ⟨⟨sb, sm5⟩, ws, y6, rfl, eW5, pr5⟩ := p
          walk_at "u"
          have hlt : j < ds'.length := by omega
          obtain ⟨v1, e1, D1⟩ := dpAll_at hDa (List.getElem?_eq_getElem hlt)
          obtain ⟨v2, e2, D2⟩ := dpAll_at hDb (List.getElem?_eq_getElem hlt)
          have ej : (0 : Int) + (j : Nat) = (j : Int) := by omega
          refine ⟨_, rfl, .inl ⟨rfl, _, .inl (.inl eW5)⟩, _, rfl, _, rfl, a1, os1, _, v1, rfl, rfl, st_b eW1 sb hSa, at_of ej e1, _, rfl, _, rfl, b1, os2, _, v2, rfl, rfl, st_b eW1 sb hSb, at_of ej e2, by show 2 ≤ sizeLine; decide, fun t ht => ?_⟩
          have s6 := same_new (o := .tup [v1, v2]) ht
          have eW6 := s6 _ _ eW5
          have lw := Paired.length pr5
          refine ⟨wt, ws, .ref t, rfl, rfl, eW6, ?_, ⟨(sb.trans (SameB.of s6)).trans SameB.upd, same_mut hwH ((SameB.of (sm5.trans s6)).trans SameB.upd)⟩, _, _, rfl, upd_same, ?_⟩
          · rw [lw, List.length_append, List.length_take]
            have h1 := nodesAll_len ds0
            exact Nat.lt_of_le_of_lt (show ds0.length + min j ds'.length ≤ 200000 by omega) (by decide)
          · rw [List.take_add_one, List.getElem?_eq_getElem hlt, ← List.append_assoc]
            refine pair_cat (L2.Paired.mapP pr5 fun _ _ z => (z.same s6).b eW6 SameB.upd) (.cons ?_ .nil)
            have od1 := okAll_mem oA _ (List.getElem_mem hlt)
            exact ⟨od1, t, v1, v2, rfl, st_b eW6 SameB.upd (SqT.of upd_same), dp_b eW6 SameB.upd od1 (dp_same s6 (dp_b eW1 sb od1 D1)), dp_b eW6 SameB.upd od1 (dp_same s6 (dp_b eW1 sb od1 D2))⟩
        · obtain ⟨⟨sb, sm5⟩, ws, y6, rfl, eW5, pr5⟩ := p
          refine ⟨sm5, ws, _, _, _, _, _, rfl, eW5, pr5, ?_⟩
          rw [nodesAll_cat]
          have := nodesAll_take ds' os2.length
          omega
end
end K65

namespace K65
open PySem PySem.Spec PyProof.Rows L2 KR KK
local macro_rules | `(tactic| walk_at "u") => `(tactic| try dsimp only [tSeq, tCutS, tCutE, tCutT, tIfS, tRet, tRetN, tNext, tBreak, tCont, tDrop, tAsg, gName, gTup, gCons, gNil, tOr, tAnd, tNot, tB, tTest, tCB, tCons, tNil, tC, tVar, tAndV, tOrV, tNotV, tOp, tUn, tIf, tIsN, tNotN, tTup, tLst, tCall, tCallS, tBM, tBM0, tSl, tPart, tNoPart, tYes, iList, iTup, iSeq, iStr, iRng1, iRng2, iEnumA, rI, rI0, rU, cxOf, Cx.nox, Cx.wish, L2.start, List.map, List.set, Nat.repeat, List.length_cons, List.length_nil, List.replicate, List.nil_append, List.cons_append, List.append_nil, Nat.reduceAdd, Nat.reduceSub, E0, tBad, tTr])

/-! ### the draws -/
/-- a list of whole numbers -/
def IntL (H : Hp) (d : Addr) : Prop := ∃ ns : List Int, H d = some (.lst (ns.map V.int))
section
variable {P : Program} {w : World} {K : PySem.W.Frag} {mg : Str → Option Value} {base : Heap}
def spDraws (K : PySem.W.Frag) : Sp := fun vs H Q _ => ∃ (a : Addr) (ns : List Int), vs = [.ref a] ∧ SqL K H a (ns.map V.int) ∧ ns.length ≤ 63 ∧ ∀ d H', Same H H' → IntL H' d → Q (.ref d) H'
theorem ok_law_draws {f : Addr} {fd : FuncData} (B : Bi mg) (F : Fun K "_law_draws" "_law_draws" s_law_draws f fd) : FnOk P w K mg base CX0 1 f fd p_law_draws (spDraws K) := by
  refine F.ok sc_law_draws (fun vs H Q E h => ?_) (fun cdv A outer s H vs Q E hr h => ?_)
  · obtain ⟨a, ns, rfl, _⟩ := h
    rfl
  · obtain ⟨a, ns, rfl, hL, hl, q⟩ := h
    refine ⟨_, (pss_cons (ps_set (i := 1) sc_law_draws.nd rfl (by first | exact .inl rfl | exact .inr rfl) (pe_lst pa_nil))
      (pss_cons (ps_for PassesOwn.never rfl (pi_range1 rfl B.range (pa_cons (pe_callB (call_min2 (by rfl)) (by rfl) B.min (by decide +kernel) (pa_cons (pe_callB (call_lenK (K := K) rfl) (by rfl) B.len PySem.boot_len (pa_cons (pv 0) pa_nil)) (pa_cons pe_int pa_nil))) pa_nil)) (pg_name (i := 2) sc_law_draws.nd rfl (by first | exact .inl rfl | exact .inr rfl))
      (pss_cons (ps_set (i := 3) sc_law_draws.nd rfl (by first | exact .inl rfl | exact .inr rfl) (pe_callTy call_int1 (by rfl) B.int_ (by decide +kernel) (pa_cons (pe_ix (ix_listK (K := K) rfl) (pv 0) (pv 2) (fun _ _ => rfl)) pa_nil)))
      (pss_cutS (ps_if (pt_cmpR op_lt (pv 3) pe_int (nomark _))
      (pss_one (ps_set (i := 3) sc_law_draws.nd rfl (by first | exact .inl rfl | exact .inr rfl) (pe_op op_sub pe_int (pe_op op_mul pe_int (pv 3)))))
      pss_nil)
      (pss_cons (ps_set (i := 3) sc_law_draws.nd rfl (by first | exact .inl rfl | exact .inr rfl) (pe_op op_modN (pe_callTy call_int1 (by rfl) B.int_ (by decide +kernel) (pa_cons (pv 3) pa_nil)) (pe_op op_pow pe_int pe_int)))
      (pss_one (ps_for PassesOwn.never rfl (pi_range1 rfl B.range (pa_cons pe_int pa_nil)) (pg_name (i := 4) sc_law_draws.nd rfl (by first | exact .inl rfl | exact .inr rfl))
      (pss_cons (ps_expr (pe_bm PySem.F.plainAttrs_list PySem.F.slot_list_append PySem.F.type_list_append mt_append (pv 1) (pa_cons (pe_op op_modN (pe_callTy call_int1 (by rfl) B.int_ (by decide +kernel) (pa_cons (pv 3) pa_nil)) pe_int) pa_nil)))
      (pss_cons (ps_set (i := 3) sc_law_draws.nd rfl (by first | exact .inl rfl | exact .inr rfl) (pe_op op_fdivN (pv 3) pe_int))
      (pss_one (ps_if (pt_cmpR op_eq (pv 3) pe_int (nomark _))
      (pss_one ps_break)
      pss_nil))))))))))
      (pss_cons (ps_expr (pe_bm0 PySem.F.plainAttrs_list PySem.F.slot_list_reverse PySem.F.type_list_reverse mt_reverse (pv 1)))
      (pss_one (ps_ret (pv 1)))))), ?_⟩
    walk_at "u"
    refine ⟨Nat.zero_le _, fun d hd => ?_⟩
    have em : (if (63 : Int) < ((ns.map V.int).length : Nat) then (63 : Int) else ((ns.map V.int).length : Nat)) = (ns.length : Nat) := by
      rw [List.length_map, if_neg (by omega)]
    refine t_for (walk_range (lo := 0) (n := ns.length)) (fun R r => by
      walk_at "u"
      refine ⟨_, rfl, a, _, rfl, .inl ((same_new hd).seq hL), _, _, rfl, ?_⟩
      rw [em]
      exact ⟨_, rfl, by omega, by omega, by rw [Int.toNat_natCast]; exact r⟩) (fun i σ H' => Same H H' ∧ ∃ ms y2 y3 y4, σ = [some (.ref a), some (.ref d), y2, y3, y4] ∧ H' d = some (.lst (ms.map V.int)) ∧ ms.length ≤ 24 * i)
      ⟨same_new hd, [], none, none, none, rfl, upd_same, Nat.le_refl _⟩ (fun _ _ _ _ _ => trivial) (fun i x σ H1 H2 hi p y => ?_) (fun σ H1 p => ?_)
    · obtain ⟨rfl, rfl⟩ := y
      obtain ⟨sm, ms, y2, y3, y4, rfl, eD, hm⟩ := p
      walk_at "u"
      have ei : (0 : Int) + (i : Nat) = (i : Int) := by omega
      refine ⟨_, rfl, _, rfl, a, _, _, .int ns[i], rfl, rfl, sm.seq hL, at_of ei (by rw [List.getElem?_map, List.getElem?_eq_getElem hi]; rfl), .inl ⟨_, rfl, ?_⟩⟩
      refine ⟨fun σ' H' => H' = H2 ∧ ∃ c : Int, σ' = [some (.ref a), some (.ref d), some (V.int (0 + (i : Nat))), some (.int c), y4], ?_, ?_⟩
      · refine ⟨_, rfl, _, _, rfl, rfl, _, rfl, ite2 (fun _ => ?_) (fun _ => ⟨rfl, _, rfl⟩)⟩
        exact ⟨_, rfl, _, _, rfl, rfl, .inl ⟨by decide, by decide⟩, _, _, rfl, rfl, rfl, _, rfl⟩
      · rintro σ' H' ⟨rfl, c, rfl⟩
        refine ⟨_, rfl, .inl ⟨_, rfl, _, _, rfl, rfl, ⟨by decide, by decide, by decide⟩, _, _, rfl, rfl, by decide, ?_⟩⟩
        generalize Int.fmod c _ = c2
        walk_at "u"
        refine t_for (walk_range (lo := 0) (n := 24)) (fun R r => by
          walk_at "u"
          exact ⟨24, rfl, by decide, by decide, r⟩) (fun j σ H' => Same H H' ∧ ∃ ms c y4, σ = [some (.ref a), some (.ref d), some (V.int (0 + (i : Nat))), some (.int c), y4] ∧ H' d = some (.lst (ms.map V.int)) ∧ ms.length ≤ 24 * i + j)
          ⟨sm, ms, c2, y4, rfl, eD, hm⟩ (fun _ _ _ _ _ => trivial) (fun j x σ H4 H5 hj p y => ?_) (fun σ H4 p => ?_)
        · obtain ⟨rfl, rfl⟩ := y
          obtain ⟨sm5, ms5, c5, y5, rfl, eD5, hm5⟩ := p
          walk_at "u"
          have sm6 : ∀ z : Int, Same H (upd H5 d (.lst (ms5.map V.int ++ [.int z]))) := fun z => same_mut hd ((SameB.of sm5).trans SameB.upd)
          refine ⟨_, rfl, .inl ⟨rfl, _, .inl (.inl eD5)⟩, _, rfl, .inl ⟨_, rfl, _, _, rfl, rfl, by decide, d, _, _, rfl, rfl, eD5, ?_, ?_⟩⟩
          · rw [List.length_map]
            exact Nat.lt_of_le_of_lt (show ms5.length ≤ 2000 by omega) (by decide)
          · refine ⟨_, rfl, _, _, rfl, rfl, ⟨by decide, by decide⟩, _, rfl, rfl, _, rfl, ite2 (fun _ => ?_) (fun _ => ?_)⟩
            · refine ⟨sm6 _, ms5 ++ [_], _, _, _, rfl, by rw [upd_same, List.map_append]; rfl, ?_⟩
              rw [List.length_append]
              show ms5.length + 1 ≤ _
              omega
            · refine ⟨sm6 _, ms5 ++ [_], _, _, rfl, by rw [upd_same, List.map_append]; rfl, ?_⟩
              rw [List.length_append]
              show ms5.length + 1 ≤ _
              omega
        · obtain ⟨sm5, ms5, c5, y5, rfl, eD5, hm5⟩ := p
          exact ⟨sm5, ms5, _, _, _, rfl, eD5, by omega⟩
    · obtain ⟨sm, ms, y2, y3, y4, rfl, eD, hm⟩ := p
      walk_at "u"
      refine ⟨_, rfl, .inl ⟨rfl, _, .inl (.inl eD)⟩, d, _, rfl, rfl, eD, _, rfl, ?_⟩
      refine q d _ (same_mut hd ((SameB.of sm).trans SameB.upd)) ⟨ms.reverse, ?_⟩
      rw [upd_same, List.map_reverse]
/-! ### the drawn -/
/-- int(draws.pop()) % many, 0 where none is left -/
def spTake (K : PySem.W.Frag) : Sp := fun vs H Q _ => ∃ (d : Addr) (many : Int), vs = [.ref d, .int many] ∧ IntL H d ∧ 0 < many ∧ ∀ r H', 0 ≤ r → r < many → SameB d H H' → IntL H' d → Q (.int r) H'
theorem ok_law_take {f : Addr} {fd : FuncData} (B : Bi mg) (F : Fun K "_law_take" "_law_take" s_law_take f fd) : FnOk P w K mg base CX0 1 f fd p_law_take (spTake K) := by
  refine F.ok sc_law_take (fun vs H Q E h => ?_) (fun cdv A outer s H vs Q E hr h => ?_)
  · obtain ⟨d, many, rfl, _⟩ := h
    rfl
  · obtain ⟨d, many, rfl, ⟨ns, eD⟩, hm, q⟩ := h
    refine ⟨_, (pss_cons (ps_if (pt_cmpR op_eq (pe_callB (call_lenK (K := K) rfl) (by rfl) B.len PySem.boot_len (pa_cons (pv 0) pa_nil)) pe_int (nomark _))
      (pss_one (ps_ret pe_int))
      pss_nil)
      (pss_one (ps_ret (pe_op op_modN (pe_callTy call_int1 (by rfl) B.int_ (by decide +kernel) (pa_cons (pe_bm0 PySem.F.plainAttrs_list PySem.F.slot_list_pop PySem.F.type_list_pop mt_pop (pv 0)) pa_nil)) (pv 1))))), ?_⟩
    walk_at "u"
    refine ⟨_, rfl, d, _, rfl, .inl (.inl (.inl eD)), rfl, _, rfl, ?_⟩
    rcases List.eq_nil_or_concat ns with rfl | ⟨ns0, x, rfl⟩
    · exact iteT (q 0 H (by omega) hm (SameB.refl H) ⟨[], eD⟩)
    · rw [List.concat_eq_append] at eD ⊢
      have hne : decide (V.int ((((ns0 ++ [x]).map V.int).length : Nat) : Int) = V.int 0) = false := decide_eq_false fun z => by
        have := V.int.inj z
        rw [List.length_map, List.length_append, List.length_singleton] at this
        omega
      rw [hne]
      refine iteF ⟨_, rfl, .inl ⟨rfl, _, .inl (.inl eD)⟩, d, _, .int x, rfl, rfl, eD, by simp, .inl ⟨_, rfl, _, rfl, _, _, rfl, rfl, by omega, ?_⟩⟩
      refine q _ _ ?_ ?_ SameB.upd ⟨ns0, ?_⟩
      · rw [Int.fmod_eq_emod_of_nonneg _ (by omega)]
        exact Int.emod_nonneg _ (by omega)
      · rw [Int.fmod_eq_emod_of_nonneg _ (by omega)]
        exact Int.emod_lt_of_pos _ hm
      · rw [upd_same, List.map_append]
        show some (HO.lst ((ns0.map V.int ++ [V.int x]).dropLast)) = _
        rw [List.dropLast_concat]
/-- an entry of the pool -/
def pool : List V := [.str "a", .int 0, .str "*", .str "abcdefghijkl", .int 1, .str "abcdefghijkm", .int (-1), .int (10 ^ 30), .str "b9"]
def spPool (K : PySem.W.Frag) : Sp := fun vs H Q _ => ∃ (n : Int), vs = [.int n] ∧ 0 ≤ n ∧ n < 9 ∧ ∀ v H', Same H H' → v ∈ pool → Q v H'
theorem ok_law_pool {f : Addr} {fd : FuncData} (B : Bi mg) (F : Fun K "_law_pool" "_law_pool" s_law_pool f fd) : FnOk P w K mg base CX0 1 f fd p_law_pool (spPool K) := by
  refine F.ok sc_law_pool (fun vs H Q E h => ?_) (fun cdv A outer s H vs Q E hr h => ?_)
  · obtain ⟨n, rfl, _⟩ := h
    rfl
  · obtain ⟨n, rfl, h0, h9, q⟩ := h
    refine ⟨_, (pss_one (ps_ret (pe_ix (ix_listK (K := K) rfl) (pe_lst (pa_cons pe_str (pa_cons pe_int (pa_cons pe_str (pa_cons pe_str (pa_cons pe_int (pa_cons pe_str (pa_cons (pe_un un_neg pe_int) (pa_cons (pe_op op_pow pe_int pe_int) (pa_cons pe_str pa_nil)))))))))) (pv 0) (fun _ _ => rfl)))), ?_⟩
    walk_at "u"
    refine ⟨1, rfl, 10, 30, rfl, rfl, ⟨by decide, by decide, by decide⟩, by show 9 ≤ sizeLine; decide, fun l hl => ⟨_, rfl, ?_⟩⟩
    obtain ⟨m, rfl⟩ : ∃ m : Nat, n = (m : Int) := ⟨n.toNat, by omega⟩
    have hm : m < pool.length := by show m < 9; omega
    refine ⟨l, pool, (m : Int), pool[m], rfl, rfl, .inl (.inl ?_), atI_nat (List.getElem?_eq_getElem hm), q _ _ (same_new hl) (List.getElem_mem hm)⟩
    exact upd_same
end
end K65

namespace K65
open PySem PySem.Spec PyProof.Rows L2 KR KK
local macro_rules | `(tactic| walk_at "u") => `(tactic| try dsimp only [tSeq, tCutS, tCutE, tCutT, tIfS, tRet, tRetN, tNext, tBreak, tCont, tDrop, tAsg, gName, gTup, gCons, gNil, tOr, tAnd, tNot, tB, tTest, tCB, tCons, tNil, tC, tVar, tAndV, tOrV, tNotV, tOp, tUn, tIf, tIsN, tNotN, tTup, tLst, tCall, tCallS, tBM, tBM0, tSl, tPart, tNoPart, tYes, iList, iTup, iSeq, iStr, iRng1, iRng2, iEnumA, rI, rI0, rU, cxOf, Cx.nox, Cx.wish, L2.start, List.map, List.set, Nat.repeat, List.length_cons, List.length_nil, List.replicate, List.nil_append, List.cons_append, List.append_nil, Nat.reduceAdd, Nat.reduceSub, E0, tBad, tTr])

theorem pool_sc {v : V} (h : v ∈ pool) : sc v = true := List.all_eq_true.mp (by decide +kernel : pool.all sc = true) v h
theorem pool_ok {v : V} (h : v ∈ pool) : entOk v = true := List.all_eq_true.mp (by decide +kernel : pool.all entOk = true) v h
def PoolL (xs : List V) : Prop := ∀ x ∈ xs, x ∈ pool
theorem PoolL.sc {xs : List V} (h : PoolL xs) : xs.all sc = true := List.all_eq_true.mpr fun x hx => pool_sc (h x hx)
theorem PoolL.cat {xs ys : List V} (h : PoolL xs) (g : PoolL ys) : PoolL (xs ++ ys) := fun x hx => (List.mem_append.mp hx).elim (h x) (g x)
theorem PoolL.take {xs : List V} (h : PoolL xs) (n : Nat) : PoolL (xs.take n) := fun x hx => h x (List.mem_of_mem_take hx)
theorem PoolL.drop {xs : List V} (h : PoolL xs) (n : Nat) : PoolL (xs.drop n) := fun x hx => h x (List.mem_of_mem_drop hx)
theorem PoolL.rep {xs : List V} (h : PoolL xs) (k : Nat) : PoolL (List.replicate k xs).flatten := fun x hx => by
  obtain ⟨l, h1, h2⟩ := List.mem_flatten.mp hx
  rw [(List.mem_replicate.mp h1).2] at h2
  exact h x h2
theorem sb_mut {d D : Addr} {H H' : Hp} {o : HO} (h : H D = none) (e : SameB d H H') : SameB d H (upd H' D o) := fun b u n hb => by
  rw [upd_ne (ne_of_none hb h)]
  exact e b u n hb
theorem intL_same {H H' : Hp} {d : Addr} (e : Same H H') (h : IntL H d) : IntL H' d := by
  obtain ⟨ns, h⟩ := h
  exact ⟨ns, e _ _ h⟩
theorem intL_ne {H : Hp} {d D : Addr} (n : d ≠ D) {o : HO} (h : IntL H d) : IntL (upd H D o) d := by
  obtain ⟨ns, h⟩ := h
  exact ⟨ns, by rw [upd_ne n]; exact h⟩
theorem sb_at {d D : Addr} {H H' : Hp} {o : HO} (e : SameB d H H') (n : D ≠ d) (h : H D = some o) : H' D = some o := e _ _ n h
theorem st_sb {K : PySem.W.Frag} {H H' : Hp} {d a : Addr} {xs : List V} (hd : IntL H d) (e : SameB d H H') (h : SqT K H a xs) : SqT K H' a xs := by
  obtain ⟨ns, hd⟩ := hd
  exact st_b hd e h
section
variable {P : Program} {w : World} {K : PySem.W.Frag} {mg : Str → Option Value} {base : Heap}
def spBase (K : PySem.W.Frag) : Sp := fun vs H Q _ => ∃ (d : Addr), vs = [.ref d] ∧ IntL H d ∧ ∀ p H' xs, SameB d H H' → IntL H' d → SqT K H' p xs → PoolL xs → 1 ≤ xs.length → xs.length ≤ 40 → Q (.ref p) H'
theorem size_at {r : Int} (h0 : 0 ≤ r) (h1 : r < 10) : ∃ n : Nat, 1 ≤ n ∧ n ≤ 40 ∧ atI [V.int 1, .int 2, .int 3, .int 11, .int 12, .int 7, .int 40, .int 20, .int 5, .int 33] r = some (.int (n : Nat)) := by
  obtain ⟨m, rfl⟩ : ∃ m : Nat, r = (m : Int) := ⟨r.toNat, by omega⟩
  have hm : m < 10 := by omega
  have key : ∀ m : Nat, m < 10 → ∃ n : Nat, 1 ≤ n ∧ n ≤ 40 ∧ [V.int 1, .int 2, .int 3, .int 11, .int 12, .int 7, .int 40, .int 20, .int 5, .int 33][m]? = some (.int (n : Nat)) := by
    intro m hm
    match m, hm with
    | 0, _ => exact ⟨1, by decide, by decide, rfl⟩
    | 1, _ => exact ⟨2, by decide, by decide, rfl⟩
    | 2, _ => exact ⟨3, by decide, by decide, rfl⟩
    | 3, _ => exact ⟨11, by decide, by decide, rfl⟩
    | 4, _ => exact ⟨12, by decide, by decide, rfl⟩
    | 5, _ => exact ⟨7, by decide, by decide, rfl⟩
    | 6, _ => exact ⟨40, by decide, by decide, rfl⟩
    | 7, _ => exact ⟨20, by decide, by decide, rfl⟩
    | 8, _ => exact ⟨5, by decide, by decide, rfl⟩
    | 9, _ => exact ⟨33, by decide, by decide, rfl⟩
  obtain ⟨n, h2, h3, e⟩ := key m hm
  exact ⟨n, h2, h3, atI_nat e⟩
theorem ok_law_base {f : Addr} {fd : FuncData} (B : Bi mg) (F : Fun K "_law_base" "_law_base" s_law_base f fd)
    (Claw_take : Cal P w K mg base CX0 1 "_law_take" p_law_take (spTake K)) (Claw_pool : Cal P w K mg base CX0 1 "_law_pool" p_law_pool (spPool K)) : FnOk P w K mg base CX0 2 f fd p_law_base (spBase K) := by
  refine F.ok sc_law_base (fun vs H Q E h => ?_) (fun cdv A outer s H vs Q E hr h => ?_)
  · obtain ⟨d, rfl, _⟩ := h
    rfl
  · obtain ⟨d, rfl, hd, q⟩ := h
    refine ⟨_, (pss_cons (ps_set (i := 1) sc_law_base.nd rfl (by first | exact .inl rfl | exact .inr rfl) (pe_ix (ix_listK (K := K) rfl) (pe_lst (pa_cons pe_int (pa_cons pe_int (pa_cons pe_int (pa_cons pe_int (pa_cons pe_int (pa_cons pe_int (pa_cons pe_int (pa_cons pe_int (pa_cons pe_int (pa_cons pe_int pa_nil))))))))))) (pe_call Claw_take.G (hr.mono (by decide)) (by rfl) Claw_take.g Claw_take.kp Claw_take.b .nil pass0 (pa_cons (pv 0) (pa_cons pe_int pa_nil))) (fun _ _ => rfl)))
      (pss_cons (ps_setLc (i := 2) (own := [("turn", 5)]) (by rfl) sc_law_base.nd rfl rfl (sw_true rfl rfl rfl (by decide +kernel)) (pi_range1 rfl B.range (pa_cons (pe_callB (call_min2 (by rfl)) (by rfl) B.min (by decide +kernel) (pa_cons (pv 1) (pa_cons pe_int pa_nil))) pa_nil)) (blkOk_by (own := [("turn", 5)]) (N := n_law_base) (sc := defScope s_law_base) (by decide +kernel)) (fun _ _ _ _ _ => (pg_name (i := 5) sc_law_base.nd rfl (by first | exact .inl rfl | exact .inr rfl))) (fun _ _ _ _ _ => pts_nil) (fun _ _ _ _ _ => (pe_call Claw_pool.G (hr.mono (by decide)) (by rfl) Claw_pool.g Claw_pool.kp Claw_pool.b .nil pass0 (pa_cons (pe_call Claw_take.G (hr.mono (by decide)) (by rfl) Claw_take.g Claw_take.kp Claw_take.b .nil pass0 (pa_cons (pv 0) (pa_cons pe_int pa_nil))) pa_nil))))
      (pss_cons (ps_set (i := 3) sc_law_base.nd rfl (by first | exact .inl rfl | exact .inr rfl) (pe_call Claw_take.G (hr.mono (by decide)) (by rfl) Claw_take.g Claw_take.kp Claw_take.b .nil pass0 (pa_cons (pv 0) (pa_cons pe_int pa_nil))))
      (pss_cons (ps_for PassesOwn.never rfl (pi_range2 rfl B.range (pa_cons (pe_callB (call_lenK (K := K) rfl) (by rfl) B.len PySem.boot_len (pa_cons (pv 2) pa_nil)) (pa_cons (pv 1) pa_nil))) (pg_name (i := 4) sc_law_base.nd rfl (by first | exact .inl rfl | exact .inr rfl))
      (pss_one (ps_expr (pe_bm PySem.F.plainAttrs_list PySem.F.slot_list_append PySem.F.type_list_append mt_append (pv 2) (pa_cons (pe_call Claw_pool.G (hr.mono (by decide)) (by rfl) Claw_pool.g Claw_pool.kp Claw_pool.b .nil pass0 (pa_cons (pe_op op_modN (pe_callTy call_int1 (by rfl) B.int_ (by decide +kernel) (pa_cons (pe_op op_add (pv 3) (pe_op op_mul (pv 4) (pv 4))) pa_nil)) pe_int) pa_nil)) pa_nil)))))
      (pss_one (ps_ret (pe_callTy (call_tupK (K := K) rfl) (by rfl) B.tuple_ (by decide +kernel) (pa_cons (pv 2) pa_nil)))))))), ?_⟩
    walk_at "u"
    refine ⟨by show 10 ≤ sizeLine; decide, fun l hl => ?_⟩
    have nl : l ≠ d := by
      obtain ⟨ns, e⟩ := hd
      exact fun z => by rw [z, e] at hl; cases hl
    have hd1 : IntL (upd H l (.lst [V.int 1, .int 2, .int 3, .int 11, .int 12, .int 7, .int 40, .int 20, .int 5, .int 33])) d := intL_same (same_new hl) hd
    refine ⟨_, rfl, d, 10, rfl, hd1, by decide, fun r H2 r0 r1 s2 hd2 => ?_⟩
    obtain ⟨sz, z1, z2, ez⟩ := size_at r0 r1
    refine ⟨l, _, r, _, rfl, rfl, .inl (.inl (s2 _ _ nl upd_same)), ez, ?_⟩
    have sb2 : SameB d H H2 := (SameB.of (same_new hl)).trans s2
    clear ez r0 r1 s2 hd1
    walk_at "u"
    refine t_lc (H1 := H2) (walk_range (lo := 0) (n := min sz 6)) (fun R r => by
      walk_at "u"
      refine ⟨_, rfl, _, _, rfl, ?_⟩
      have e : (if (6 : Int) < (sz : Nat) then (6 : Int) else (sz : Nat)) = ((min sz 6 : Nat) : Int) := by
        by_cases h : sz ≤ 6
        · rw [if_neg (by omega)]; omega
        · rw [if_pos (by omega)]; omega
      rw [e]
      exact ⟨_, rfl, by omega, by omega, by rw [Int.toNat_natCast]; exact r⟩) (fun D i H' => SameB d H2 H' ∧ IntL H' d ∧ ∃ xs, H' D = some (.lst xs) ∧ PoolL xs ∧ xs.length = i)
      (fun D hD => ⟨SameB.of (same_new hD), intL_same (same_new hD) hd2, [], upd_same, (fun x hx => by cases hx), rfl⟩) (fun _ _ _ _ _ => trivial) (fun D hD i x H3 H4 hi p y => ?_) (fun D hD H3 p => ?_)
    · obtain ⟨rfl, rfl⟩ := y
      obtain ⟨sb, hd4, xs, eD, px, lx⟩ := p
      have nD : D ≠ d := fun z => by
        obtain ⟨ns, e⟩ := hd2
        rw [z, e] at hD
        cases hD
      walk_at "u"
      refine ⟨rfl, iteT ⟨_, rfl, d, 9, rfl, hd4, by decide, fun r H5 r0 r1 s5 hd5 => ?_⟩⟩
      refine ⟨r, rfl, r0, r1, fun v H6 s6 hv => ?_⟩
      have eD6 : H6 D = some (.lst xs) := s6 _ _ (s5 _ _ nD eD)
      refine ⟨xs, eD6, small1000 (by omega), sb_mut hD ((sb.trans s5).trans (SameB.of s6)), intL_ne (Ne.symm nD) (intL_same s6 hd5), xs ++ [v], upd_same, px.cat fun x hx => by rw [List.mem_singleton.mp hx]; exact hv, by rw [List.length_append, lx]; rfl⟩
    · obtain ⟨sb, hd3, xs, eD, px, lx⟩ := p
      have nD : D ≠ d := fun z => by
        obtain ⟨ns, e⟩ := hd2
        rw [z, e] at hD
        cases hD
      walk_at "u"
      refine ⟨_, rfl, d, 9, rfl, hd3, by decide, fun sh H4 h0 h9 s4 hd4 => ?_⟩
      have eD4 := s4 _ _ nD eD
      have sb4 := sb.trans s4
      clear eD sb s4 hd3
      walk_at "u"
      refine t_for (H1 := H4) (walk_range (lo := (min sz 6 : Nat)) (n := sz - min sz 6)) (fun R r => by
        walk_at "u"
        refine ⟨_, rfl, D, xs, rfl, .inl (.inl (.inl eD4)), _, rfl, _, _, rfl, ⟨by omega, by omega, by omega, by omega⟩, ?_⟩
        rw [lx]
        have e : (((sz : Nat) : Int) - ((min sz 6 : Nat) : Int)).toNat = sz - min sz 6 := by omega
        rw [e]
        exact r) (fun i σ H' => (SameB d H2 H' ∧ IntL H' d) ∧ ∃ ys y4 y5, σ = [some (.ref d), some (.int (sz : Nat)), some (.ref D), some (.int sh), y4, y5] ∧ H' D = some (.lst ys) ∧ PoolL ys ∧ ys.length = min sz 6 + i)
        ⟨⟨sb4, hd4⟩, xs, _, _, rfl, eD4, px, by omega⟩ (fun _ _ _ _ _ => trivial) (fun i x σ H5 H6 hi p y => ?_) (fun σ H5 p => ?_)
      · obtain ⟨rfl, rfl⟩ := y
        obtain ⟨⟨sb6, hd6⟩, ys, y4, y5, rfl, eD6, py, ly⟩ := p
        walk_at "u"
        refine ⟨_, rfl, .inl ⟨rfl, _, .inl (.inl eD6)⟩, _, rfl, _, rfl, _, rfl, _, _, rfl, rfl, .inl ⟨by omega, by omega⟩, _, _, rfl, rfl, .inl ⟨_, rfl, _, _, rfl, rfl, by decide, _, rfl, ?_, ?_, fun v H7 s7 hv => ?_⟩⟩
        · rw [Int.fmod_eq_emod_of_nonneg _ (by decide)]
          exact Int.emod_nonneg _ (by decide)
        · rw [Int.fmod_eq_emod_of_nonneg _ (by decide)]
          exact Int.emod_lt_of_pos _ (by decide)
        · have eD7 := s7 _ _ eD6
          refine ⟨D, ys, v, rfl, rfl, eD7, small1000 (by omega), ⟨sb_mut hD (sb6.trans (SameB.of s7)), intL_ne (Ne.symm nD) (intL_same s7 hd6)⟩, ys ++ [v], _, _, rfl, upd_same, py.cat fun x hx => by rw [List.mem_singleton.mp hx]; exact hv, by rw [List.length_append, ly]; show _ + 1 = _; omega⟩
      · obtain ⟨⟨sb6, hd6⟩, ys, y4, y5, rfl, eD6, py, ly⟩ := p
        walk_at "u"
        refine ⟨_, rfl, D, ys, rfl, .inl ⟨.inl (.inl eD6), fun t ht => ?_⟩⟩
        exact q t _ ys ((sb2.trans sb6).trans (SameB.of (same_new ht))) (intL_same (same_new ht) hd6) (SqT.of upd_same) py (by omega) (by omega)
end
end K65

namespace K65
open PySem PySem.Spec PyProof.Rows L2 KR KK
local macro_rules | `(tactic| walk_at "u") => `(tactic| try dsimp only [tSeq, tCutS, tCutE, tCutT, tIfS, tRet, tRetN, tNext, tBreak, tCont, tDrop, tAsg, gName, gTup, gCons, gNil, tOr, tAnd, tNot, tB, tTest, tCB, tCons, tNil, tC, tVar, tAndV, tOrV, tNotV, tOp, tUn, tIf, tIsN, tNotN, tTup, tLst, tCall, tCallS, tBM, tBM0, tSl, tPart, tNoPart, tYes, iList, iTup, iSeq, iStr, iRng1, iRng2, iEnumA, rI, rI0, rU, cxOf, Cx.nox, Cx.wish, L2.start, List.map, List.set, Nat.repeat, List.length_cons, List.length_nil, List.replicate, List.nil_append, List.cons_append, List.append_nil, Nat.reduceAdd, Nat.reduceSub, E0, tBad, tTr])

section
variable {P : Program} {w : World} {K : PySem.W.Frag} {mg : Str → Option Value} {base : Heap}
theorem many_at {r : Int} (h0 : 0 ≤ r) (h1 : r < 7) : ∃ n : Nat, 1 ≤ n ∧ n ≤ 200 ∧ atI [V.int 1, .int 2, .int 3, .int 5, .int 17, .int 200, .int 4] r = some (.int (n : Nat)) := by
  obtain ⟨m, rfl⟩ : ∃ m : Nat, r = (m : Int) := ⟨r.toNat, by omega⟩
  have hm : m < 7 := by omega
  have key : ∀ m : Nat, m < 7 → ∃ n : Nat, 1 ≤ n ∧ n ≤ 200 ∧ [V.int 1, .int 2, .int 3, .int 5, .int 17, .int 200, .int 4][m]? = some (.int (n : Nat)) := by
    intro m hm
    match m, hm with
    | 0, _ => exact ⟨1, by decide, by decide, rfl⟩
    | 1, _ => exact ⟨2, by decide, by decide, rfl⟩
    | 2, _ => exact ⟨3, by decide, by decide, rfl⟩
    | 3, _ => exact ⟨5, by decide, by decide, rfl⟩
    | 4, _ => exact ⟨17, by decide, by decide, rfl⟩
    | 5, _ => exact ⟨200, by decide, by decide, rfl⟩
    | 6, _ => exact ⟨4, by decide, by decide, rfl⟩
  obtain ⟨n, h2, h3, e⟩ := key m hm
  exact ⟨n, h2, h3, atI_nat e⟩
def spRow (K : PySem.W.Frag) : Sp := fun vs H Q _ => ∃ (d b o : Addr) (xs ys : List V), vs = [.ref d, .ref b, .ref o] ∧ IntL H d ∧ (SqT K H b xs ∧ PoolL xs ∧ 1 ≤ xs.length ∧ xs.length ≤ 40) ∧ (SqT K H o ys ∧ PoolL ys ∧ 1 ≤ ys.length ∧ ys.length ≤ 40) ∧
  ∀ p H' zs, SameB d H H' → IntL H' d → SqT K H' p zs → PoolL zs → zs.length ≤ 200 → Q (.ref p) H'
theorem small2000 {n : Nat} (h : n ≤ 2000) : n ≤ sizeLine := Nat.le_trans h (by decide)
theorem ok_law_row {f : Addr} {fd : FuncData} (B : Bi mg) (F : Fun K "_law_row" "_law_row" s_law_row f fd)
    (Claw_take : Cal P w K mg base CX0 1 "_law_take" p_law_take (spTake K)) (Claw_pool : Cal P w K mg base CX0 1 "_law_pool" p_law_pool (spPool K)) : FnOk P w K mg base CX0 2 f fd p_law_row (spRow K) := by
  refine F.ok sc_law_row (fun vs H Q E h => ?_) (fun cdv A outer s H vs Q E hr h => ?_)
  · obtain ⟨d, b, o, xs, ys, rfl, _⟩ := h
    rfl
  · obtain ⟨d, b, o, xs, ys, rfl, hd, ⟨hb, pb, lb1, lb2⟩, ⟨ho, po, lo1, lo2⟩, q⟩ := h
    refine ⟨_, (pss_cons (ps_set (i := 3) sc_law_row.nd rfl (by first | exact .inl rfl | exact .inr rfl) (pe_call Claw_take.G (hr.mono (by decide)) (by rfl) Claw_take.g Claw_take.kp Claw_take.b .nil pass0 (pa_cons (pv 0) (pa_cons pe_int pa_nil))))
      (pss_cons (ps_set (i := 4) sc_law_row.nd rfl (by first | exact .inl rfl | exact .inr rfl) (pe_ix (ix_listK (K := K) rfl) (pe_lst (pa_cons pe_int (pa_cons pe_int (pa_cons pe_int (pa_cons pe_int (pa_cons pe_int (pa_cons pe_int (pa_cons pe_int pa_nil)))))))) (pe_call Claw_take.G (hr.mono (by decide)) (by rfl) Claw_take.g Claw_take.kp Claw_take.b .nil pass0 (pa_cons (pv 0) (pa_cons pe_int pa_nil))) (fun _ _ => rfl)))
      (pss_cons (ps_set (i := 5) sc_law_row.nd rfl (by first | exact .inl rfl | exact .inr rfl) (pe_op op_add (pe_call Claw_take.G (hr.mono (by decide)) (by rfl) Claw_take.g Claw_take.kp Claw_take.b .nil pass0 (pa_cons (pv 0) (pa_cons pe_int pa_nil))) (pe_op op_mul pe_int (pe_call Claw_take.G (hr.mono (by decide)) (by rfl) Claw_take.g Claw_take.kp Claw_take.b .nil pass0 (pa_cons (pv 0) (pa_cons pe_int pa_nil))))))
      (pss_cons (ps_set (i := 6) sc_law_row.nd rfl (by first | exact .inl rfl | exact .inr rfl) (pe_call Claw_pool.G (hr.mono (by decide)) (by rfl) Claw_pool.g Claw_pool.kp Claw_pool.b .nil pass0 (pa_cons (pe_call Claw_take.G (hr.mono (by decide)) (by rfl) Claw_take.g Claw_take.kp Claw_take.b .nil pass0 (pa_cons (pv 0) (pa_cons pe_int pa_nil))) pa_nil)))
      (pss_cons (ps_if (pt_cmpR op_eq (pv 3) pe_int (nomark _))
      (pss_one (ps_ret (pe_tup pa_nil)))
      pss_nil)
      (pss_cutS (ps_if (pt_cmpR op_eq (pv 3) pe_int (nomark _))
      (pss_one (ps_set (i := 1) sc_law_row.nd rfl (by first | exact .inl rfl | exact .inr rfl) (pv 2)))
      pss_nil)
      (pss_cutS (ps_if (pt_cmpR op_eq (pv 3) pe_int (nomark _))
      (pss_one (ps_set (i := 1) sc_law_row.nd rfl (by first | exact .inl rfl | exact .inr rfl) (pe_op (op_catK (K := K) rfl) (pv 1) (pv 1))))
      pss_nil)
      (pss_cutS (ps_if (pt_cmpR op_eq (pv 3) pe_int (nomark _))
      (pss_one (ps_set (i := 1) sc_law_row.nd rfl (by first | exact .inl rfl | exact .inr rfl) (pe_slice (sl_tupK (K := K) rfl) (pv 1) po_none (po_some pe_int))))
      pss_nil)
      (pss_cons (ps_set (i := 7) sc_law_row.nd rfl (by first | exact .inl rfl | exact .inr rfl) (pe_op (op_repK (K := K) rfl) (pv 1) (pe_callB (call_min2 (by rfl)) (by rfl) B.min (by decide +kernel) (pa_cons (pv 4) (pa_cons (pe_op op_fdivN pe_int (pe_callB (call_lenK (K := K) rfl) (by rfl) B.len PySem.boot_len (pa_cons (pv 1) pa_nil))) pa_nil)))))
      (pss_cutS (ps_if (pt_cmpR op_eq (pv 3) pe_int (nomark _))
      (pss_cons (ps_set (i := 5) sc_law_row.nd rfl (by first | exact .inl rfl | exact .inr rfl) (pe_op op_modN (pe_callTy call_int1 (by rfl) B.int_ (by decide +kernel) (pa_cons (pv 5) pa_nil)) (pe_callB (call_lenK (K := K) rfl) (by rfl) B.len PySem.boot_len (pa_cons (pv 7) pa_nil))))
      (pss_one (ps_set (i := 7) sc_law_row.nd rfl (by first | exact .inl rfl | exact .inr rfl) (pe_op (op_catK (K := K) rfl) (pe_op (op_catK (K := K) rfl) (pe_slice (sl_tupK (K := K) rfl) (pv 7) po_none (po_some (pv 5))) (pe_tup (pa_cons (pv 6) pa_nil))) (pe_slice (sl_tupK (K := K) rfl) (pv 7) (po_some (pe_op op_add (pv 5) pe_int)) po_none)))))
      pss_nil)
      (pss_cutS (ps_if (pt_cmpR op_eq (pv 3) pe_int (nomark _))
      (pss_cons (ps_set (i := 5) sc_law_row.nd rfl (by first | exact .inl rfl | exact .inr rfl) (pe_op op_modN (pe_callTy call_int1 (by rfl) B.int_ (by decide +kernel) (pa_cons (pv 5) pa_nil)) (pe_callB (call_lenK (K := K) rfl) (by rfl) B.len PySem.boot_len (pa_cons (pv 7) pa_nil))))
      (pss_one (ps_set (i := 7) sc_law_row.nd rfl (by first | exact .inl rfl | exact .inr rfl) (pe_op (op_catK (K := K) rfl) (pe_slice (sl_tupK (K := K) rfl) (pv 7) (po_some (pv 5)) po_none) (pe_slice (sl_tupK (K := K) rfl) (pv 7) po_none (po_some (pv 5)))))))
      pss_nil)
      (pss_one (ps_ret (pv 7)))))))))))))), ?_⟩
    walk_at "u"
    refine ⟨_, rfl, d, 7, rfl, hd, by decide, fun kind H1 k0 k1 s1 hd1 => ⟨by show 7 ≤ sizeLine; decide, fun l hl => ?_⟩⟩
    have nl : l ≠ d := by
      obtain ⟨ns, e⟩ := hd1
      exact fun z => by rw [z, e] at hl; cases hl
    refine ⟨_, rfl, d, 7, rfl, intL_same (same_new hl) hd1, by decide, fun r H2 r0 r1 s2 hd2 => ?_⟩
    obtain ⟨many, m1, m2, em⟩ := many_at r0 r1
    refine ⟨l, _, r, _, rfl, rfl, .inl (.inl (s2 _ _ nl upd_same)), em, ?_⟩
    have sb2 : SameB d H H2 := (s1.trans (SameB.of (same_new hl))).trans s2
    refine ⟨_, rfl, d, 30, rfl, hd2, by decide, fun at1 H3 a10 a11 s3 hd3 => ?_⟩
    refine ⟨_, rfl, d, 7, rfl, hd3, by decide, fun at2 H4 a20 a21 s4 hd4 => ⟨_, _, rfl, rfl, .inl ⟨by decide, by decide⟩, _, _, rfl, rfl, ?_⟩⟩
    refine ⟨_, rfl, d, 9, rfl, hd4, by decide, fun pr H5 p0 p1 s5 hd5 => ⟨pr, rfl, p0, p1, fun entry H6 s6 he => ?_⟩⟩
    have sb6 : SameB d H H6 := (((sb2.trans s3).trans s4).trans s5).trans (SameB.of s6)
    have hd6 := intL_same s6 hd5
    have hb6 := st_sb hd sb6 hb
    have ho6 := st_sb hd sb6 ho
    generalize eat : at1 + 30 * at2 = at0
    have hat : 0 ≤ at0 := by omega
    clear eat a10 a11 a20 a21 s1 s2 s3 s4 s5 s6 sb2 hd1 hd2 hd3 hd4 hd5 em r0 r1
    clear hl nl
    -- if kind == 1: return ()
    refine ⟨_, rfl, rfl, _, rfl, ite2 (fun _ => ?_) (fun _ => ?_)⟩
    · exact ⟨Nat.zero_le _, fun t ht => q t _ [] (sb6.trans (SameB.of (same_new ht))) (intL_same (same_new ht) hd6) (SqT.of upd_same) (fun x hx => by cases hx) (by decide)⟩
    -- if kind == 3: base = other
    refine ⟨fun σ' H' => H' = H6 ∧ ∃ b1 zs, σ' = [some (.ref d), some (.ref b1), some (.ref o), some (.int kind), some (.int (many : Nat)), some (.int at0), some entry, none] ∧ SqT K H6 b1 zs ∧ PoolL zs ∧ 1 ≤ zs.length ∧ zs.length ≤ 40, ?_, ?_⟩
    · refine ⟨_, rfl, rfl, _, rfl, ite2 (fun _ => ?_) (fun _ => ?_)⟩
      · exact ⟨_, rfl, rfl, o, ys, rfl, ho6, po, lo1, lo2⟩
      · exact ⟨rfl, b, xs, rfl, hb6, pb, lb1, lb2⟩
    rintro σ' H' ⟨rfl, b1, zs, rfl, hz, pz, lz1, lz2⟩
    walk_at "u"
    -- if kind == 4: base = base + base
    refine ⟨fun σ' H7 => Same H' H7 ∧ ∃ b1 zs, σ' = [some (.ref d), some (.ref b1), some (.ref o), some (.int kind), some (.int (many : Nat)), some (.int at0), some entry, none] ∧ SqT K H7 b1 zs ∧ PoolL zs ∧ 1 ≤ zs.length ∧ zs.length ≤ 80, ?_, ?_⟩
    · refine ⟨_, rfl, rfl, _, rfl, ite2 (fun _ => ?_) (fun _ => ?_)⟩
      · exact ⟨_, rfl, _, rfl, r_catA hz hz (small2000 (by omega)) fun p H7 s7 hp => ⟨s7, p, zs ++ zs, rfl, hp, pz.cat pz, by rw [List.length_append]; omega, by rw [List.length_append]; omega⟩⟩
      · exact ⟨Same.refl _, b1, zs, rfl, hz, pz, lz1, by omega⟩
    clear hz pz lz1 lz2 zs b1
    rintro σ' H7 ⟨s7, b1, zs, rfl, hz, pz, lz1, lz2⟩
    walk_at "u"
    -- if kind == 5: base = base[:1]
    refine ⟨fun σ' H8 => Same H7 H8 ∧ ∃ b1 zs, σ' = [some (.ref d), some (.ref b1), some (.ref o), some (.int kind), some (.int (many : Nat)), some (.int at0), some entry, none] ∧ SqT K H8 b1 zs ∧ PoolL zs ∧ 1 ≤ zs.length ∧ zs.length ≤ 80, ?_, ?_⟩
    · refine ⟨_, rfl, rfl, _, rfl, ite2 (fun _ => ?_) (fun _ => ?_)⟩
      · refine ⟨_, rfl, _, rfl, r_slA hz fun p H8 s8 hp => ?_⟩
        have e1 : cutV zs none (some 1) = zs.take 1 := cut_to (n := 1) zs
        rw [e1] at hp
        exact ⟨s8, p, zs.take 1, rfl, hp, pz.take 1, by rw [List.length_take]; omega, by rw [List.length_take]; omega⟩
      · exact ⟨Same.refl _, b1, zs, rfl, hz, pz, lz1, lz2⟩
    clear hz pz lz1 lz2 zs b1
    rintro σ' H8 ⟨s8, b1, zs, rfl, hz, pz, lz1, lz2⟩
    walk_at "u"
    -- row = base * min(many, 200 // len(base))
    refine ⟨_, rfl, _, rfl, _, rfl, b1, zs, rfl, .inr hz, _, _, rfl, rfl, ⟨by omega, by omega⟩, _, _, rfl, ?_⟩
    have ed : Int.fdiv 200 ((zs.length : Nat) : Int) = ((200 / zs.length : Nat) : Int) := fdiv_nat 200 zs.length
    rw [ed]
    have hq2 : 2 ≤ 200 / zs.length := (Nat.le_div_iff_mul_le (by omega)).mpr (by omega)
    have hq200 : 200 / zs.length ≤ 200 := Nat.div_le_self _ _
    have ek : (if ((200 / zs.length : Nat) : Int) < ((many : Nat) : Int) then ((200 / zs.length : Nat) : Int) else ((many : Nat) : Int)) = ((min many (200 / zs.length) : Nat) : Int) := by
      split <;> omega
    rw [ek]
    have hk1 : 1 ≤ min many (200 / zs.length) := by omega
    have hk2 : min many (200 / zs.length) ≤ 200 / zs.length := Nat.min_le_right _ _
    have hml : 200 / zs.length * zs.length ≤ 200 := Nat.div_mul_le_self _ _
    generalize min many (200 / zs.length) = k at hk1 hk2
    refine ⟨b1, _, zs, rfl, rfl, hz, (fun z => by rw [z] at lz1; exact absurd lz1 (by decide)), by omega, by omega, by omega, fun p9 H9 s9 h9 => ?_⟩
    rw [Int.toNat_natCast] at h9
    have pr9 := pz.rep k
    have lr9 : 1 ≤ (List.replicate k zs).flatten.length ∧ (List.replicate k zs).flatten.length ≤ 200 := by
      have e : (List.replicate k zs).flatten.length = k * zs.length := by
        rw [List.length_flatten, List.map_replicate, List.sum_replicate_nat]
      rw [e]
      refine ⟨Nat.le_trans lz1 (Nat.le_mul_of_pos_left _ hk1), Nat.le_trans (Nat.mul_le_mul_right _ hk2) hml⟩
    generalize (List.replicate k zs).flatten = rs at h9 pr9 lr9
    obtain ⟨lr1, lr2⟩ := lr9
    have sb9 : SameB d H H9 := ((sb6.trans (SameB.of s7)).trans (SameB.of s8)).trans (SameB.of s9)
    have hd9 : IntL H9 d := intL_same s9 (intL_same s8 (intL_same s7 hd6))
    clear hz pz lz1 lz2 hq2 hq200 ek hk1 hk2 hml ed s7 s8 s9 sb6 hd6 hb6 ho6
    walk_at "u"
    have atN : ∀ z : Int, 0 ≤ z → ∃ n : Nat, n < rs.length ∧ Int.fmod z ((rs.length : Nat) : Int) = (n : Int) := fun z hz => by
      obtain ⟨m, rfl⟩ : ∃ m : Nat, z = (m : Int) := ⟨z.toNat, by omega⟩
      exact ⟨m % rs.length, Nat.mod_lt _ (by omega), fmod_nat m rs.length⟩
    obtain ⟨n, hn, en⟩ := atN at0 hat
    -- if kind == 2
    refine ⟨fun σ' H10 => Same H9 H10 ∧ ∃ p ts a2, σ' = [some (.ref d), some (.ref b1), some (.ref o), some (.int kind), some (.int (many : Nat)), some (.int a2), some entry, some (.ref p)] ∧ 0 ≤ a2 ∧ SqT K H10 p ts ∧ PoolL ts ∧ 1 ≤ ts.length ∧ ts.length ≤ 200, ?_, ?_⟩
    · refine ⟨_, rfl, rfl, _, rfl, ite2 (fun _ => ?_) (fun _ => ?_)⟩
      · refine ⟨_, rfl, .inl ⟨_, rfl, _, rfl, p9, rs, rfl, .inr h9, _, _, rfl, rfl, by omega, ?_⟩⟩
        rw [en]
        walk_at "u"
        refine ⟨_, rfl, _, rfl, _, rfl, r_slA h9 fun p1 H10 s10 h10 => ⟨_, rfl, by show 1 ≤ sizeLine; decide, fun t ht => ?_⟩⟩
        rw [cut_to] at h10
        refine r_catA (st_same (same_new ht) h10) (SqT.of upd_same) (small2000 (by rw [List.length_take]; simp only [List.length_cons, List.length_nil]; omega)) fun p2 H11 s11 h11 => ?_
        have sm11 := (s10.trans (same_new ht)).trans s11
        refine ⟨_, rfl, _, rfl, _, _, rfl, rfl, _, rfl, r_slA (st_same sm11 h9) fun p3 H12 s12 h12 => ?_⟩
        have e1 : ((n : Nat) : Int) + 1 = ((n + 1 : Nat) : Int) := by omega
        rw [e1, cut_from] at h12
        refine r_catA (st_same s12 h11) h12 (small2000 (by rw [List.length_append, List.length_take, List.length_drop]; simp only [List.length_cons, List.length_nil]; omega)) fun p4 H13 s13 h13 => ?_
        exact ⟨(sm11.trans s12).trans s13, p4, _, _, rfl, by omega, h13, ((pr9.take n).cat fun x hx => by rw [List.mem_singleton.mp hx]; exact he).cat (pr9.drop (n + 1)), by rw [List.length_append, List.length_append]; simp only [List.length_cons, List.length_nil]; omega, by rw [List.length_append, List.length_append, List.length_take, List.length_drop]; simp only [List.length_cons, List.length_nil]; omega⟩
      · exact ⟨Same.refl _, p9, rs, at0, rfl, hat, h9, pr9, lr1, lr2⟩
    clear en hn n atN
    rintro σ' H10 ⟨s10, p, ts, a2, rfl, ha2, ht, pt, lt1, lt2⟩
    walk_at "u"
    have sb10 := sb9.trans (SameB.of s10)
    have hd10 := intL_same s10 hd9
    clear s10 sb9 hd9 h9 pr9 lr1 lr2
    obtain ⟨n, hn, en⟩ : ∃ n : Nat, n < ts.length ∧ Int.fmod a2 ((ts.length : Nat) : Int) = (n : Int) := by
      obtain ⟨m, rfl⟩ : ∃ m : Nat, a2 = (m : Int) := ⟨a2.toNat, by omega⟩
      exact ⟨m % ts.length, Nat.mod_lt _ (by omega), fmod_nat m ts.length⟩
    -- if kind == 6
    refine ⟨fun σ' H11 => Same H10 H11 ∧ ∃ p ts y2, σ' = [some (.ref d), some (.ref b1), some (.ref o), some (.int kind), some (.int (many : Nat)), y2, some entry, some (.ref p)] ∧ SqT K H11 p ts ∧ PoolL ts ∧ ts.length ≤ 200, ?_, ?_⟩
    · refine ⟨_, rfl, rfl, _, rfl, ite2 (fun _ => ?_) (fun _ => ?_)⟩
      · refine ⟨_, rfl, .inl ⟨_, rfl, _, rfl, p, ts, rfl, .inr ht, _, _, rfl, rfl, by omega, ?_⟩⟩
        rw [en]
        walk_at "u"
        refine ⟨_, rfl, _, rfl, _, rfl, r_slA ht fun p1 H11 s11 h11 => ⟨_, rfl, _, rfl, _, rfl, r_slA (st_same s11 ht) fun p2 H12 s12 h12 => ?_⟩⟩
        rw [cut_from] at h11
        rw [cut_to] at h12
        refine r_catA (st_same s12 h11) h12 (small2000 (by rw [List.length_take, List.length_drop]; omega)) fun p4 H13 s13 h13 => ?_
        exact ⟨(s11.trans s12).trans s13, p4, _, _, rfl, h13, (pt.drop n).cat (pt.take n), by rw [List.length_append, List.length_take, List.length_drop]; omega⟩
      · exact ⟨Same.refl _, p, ts, _, rfl, ht, pt, lt2⟩
    clear en hn n
    rintro σ' H11 ⟨s11, p2, us, y2, rfl, hu, pu, lu⟩
    exact ⟨_, rfl, q p2 H11 us (sb10.trans (SameB.of s11)) (intL_same s11 hd10) hu pu lu⟩
end
end K65

namespace K65
open PySem PySem.Spec PyProof.Rows L2 KR KK
/-! ### the mathematics: rows that commute are powers of one row -/
theorem rep_zero (p : List V) : rep p 0 = [] := rfl
theorem rep_succ (p : List V) (k : Nat) : rep p (k + 1) = p ++ rep p k := by
  unfold rep
  rw [List.replicate_succ, List.flatten_cons]
theorem rep_one (p : List V) : rep p 1 = p := by
  rw [rep_succ, rep_zero, List.append_nil]
theorem rep_add (p : List V) (a b : Nat) : rep p (a + b) = rep p a ++ rep p b := by
  induction a with
  | zero => rw [Nat.zero_add, rep_zero, List.nil_append]
  | succ a ih => rw [Nat.succ_add, rep_succ, rep_succ, ih, List.append_assoc]
theorem rep_rep (p : List V) (a b : Nat) : rep (rep p a) b = rep p (a * b) := by
  induction b with
  | zero => rfl
  | succ b ih => rw [rep_succ, ih, Nat.mul_succ, Nat.add_comm, rep_add]
theorem rep_len (p : List V) (k : Nat) : (rep p k).length = k * p.length := by
  induction k with
  | zero => simp [rep_zero]
  | succ k ih => rw [rep_succ, List.length_append, ih, Nat.succ_mul, Nat.add_comm]
theorem comm_pow : ∀ (n : Nat) (xs ys : List V), xs.length + ys.length ≤ n → xs ++ ys = ys ++ xs → ∃ t i j, xs = rep t i ∧ ys = rep t j
  | 0, xs, ys, h, _ => by
    have e1 : xs = [] := List.eq_nil_of_length_eq_zero (by omega)
    have e2 : ys = [] := List.eq_nil_of_length_eq_zero (by omega)
    exact ⟨[], 0, 0, e1, e2⟩
  | n + 1, xs, ys, h, hc => by
    by_cases hx : xs = []
    · exact ⟨ys, 0, 1, hx, (rep_one ys).symm⟩
    by_cases hy : ys = []
    · exact ⟨xs, 1, 0, (rep_one xs).symm, hy⟩
    have lx : 1 ≤ xs.length := by
      cases xs with
      | nil => exact absurd rfl hx
      | cons a r => simp
    have ly : 1 ≤ ys.length := by
      cases ys with
      | nil => exact absurd rfl hy
      | cons a r => simp
    by_cases hl : xs.length ≤ ys.length
    · have hp : xs <+: ys := List.prefix_of_prefix_length_le (l₃ := xs ++ ys) (List.prefix_append _ _) (by rw [hc]; exact List.prefix_append _ _) hl
      obtain ⟨zs, rfl⟩ := hp
      have hc2 : xs ++ zs = zs ++ xs := by
        rw [List.append_assoc] at hc
        exact List.append_cancel_left hc
      rw [List.length_append] at h
      obtain ⟨t, i, j, e1, e2⟩ := comm_pow n xs zs (by omega) hc2
      exact ⟨t, i, i + j, e1, by rw [rep_add, ← e1, ← e2]⟩
    · have hp : ys <+: xs := List.prefix_of_prefix_length_le (l₃ := xs ++ ys) (by rw [hc]; exact List.prefix_append _ _) (List.prefix_append _ _) (by omega)
      obtain ⟨zs, rfl⟩ := hp
      have hc2 : zs ++ ys = ys ++ zs := by
        rw [List.append_assoc] at hc
        exact List.append_cancel_left hc
      rw [List.length_append] at h
      obtain ⟨t, i, j, e1, e2⟩ := comm_pow n zs ys (by omega) hc2
      exact ⟨t, j + i, j, by rw [rep_add, ← e1, ← e2], e2⟩
theorem pre_rep {u : List V} {m : Nat} (h : 1 ≤ m) : u <+: rep u m := by
  obtain ⟨k, rfl⟩ : ∃ k, m = k + 1 := ⟨m - 1, by omega⟩
  rw [rep_succ]
  exact List.prefix_append _ _
theorem pre_two {u v : List V} {m k : Nat} (hm : 1 ≤ m) (hk : 1 ≤ k) (h : rep u m = rep v k) : u ++ v <+: rep u m ++ rep u m := by
  obtain ⟨c, rfl⟩ : ∃ c, m = c + 1 := ⟨m - 1, by omega⟩
  have e : rep u (c + 1) ++ rep u (c + 1) = u ++ (rep u (c + 1) ++ rep u c) := by
    rw [← rep_add, ← rep_add, show c + 1 + (c + 1) = (c + 1 + c) + 1 by omega, rep_succ]
  rw [e]
  have hv : v <+: rep u (c + 1) ++ rep u c := by
    rw [h]
    exact (pre_rep hk).trans (List.prefix_append _ _)
  exact (List.prefix_append_right_inj u).mpr hv
theorem pow_comm {u v : List V} {m k : Nat} (hm : 1 ≤ m) (hk : 1 ≤ k) (h : rep u m = rep v k) : u ++ v = v ++ u := by
  have h1 := pre_two hm hk h
  have h2 := pre_two hk hm h.symm
  rw [← h] at h2
  rw [List.prefix_iff_eq_take] at h1 h2
  rw [h1, h2, List.length_append, List.length_append, Nat.add_comm]
theorem rootGo_spec {xs : List V} : ∀ (n s : Nat), (∃ k, s ≤ k ∧ k < s + n ∧ rootAt xs k = true) → ∃ k, s ≤ k ∧ k < s + n ∧ rootAt xs k = true ∧ rootGo xs s n = (xs.take k, xs.length / k) ∧ ∀ j, s ≤ j → j < k → rootAt xs j = false
  | 0, s, h => by
    obtain ⟨k, h1, h2, _⟩ := h
    omega
  | n + 1, s, h => by
    by_cases e : rootAt xs s = true
    · refine ⟨s, Nat.le_refl _, by omega, e, ?_, fun j a b => by omega⟩
      show (if rootAt xs s then (xs.take s, xs.length / s) else rootGo xs (s + 1) n) = _
      rw [if_pos e]
    · obtain ⟨k, h1, h2, h3⟩ := h
      have hk : k ≠ s := fun z => e (z ▸ h3)
      obtain ⟨k', a, b, c, d, f⟩ := rootGo_spec n (s + 1) ⟨k, by omega, by omega, h3⟩
      refine ⟨k', by omega, by omega, c, ?_, fun j h4 h5 => ?_⟩
      · show (if rootAt xs s then (xs.take s, xs.length / s) else rootGo xs (s + 1) n) = _
        rw [if_neg e]
        exact d
      · by_cases hj : j = s
        · rw [hj]
          exact Bool.eq_false_iff.mpr e
        · exact f j (by omega) h5
theorem rootAt_iff {xs : List V} {s : Nat} : rootAt xs s = true ↔ xs.length % s = 0 ∧ rep (xs.take s) (xs.length / s) = xs := by
  unfold rootAt
  rw [Bool.and_eq_true, beq_iff_eq, decide_eq_true_eq]
theorem root_spec {xs : List V} (h : xs ≠ []) : ∃ s, 1 ≤ s ∧ s ≤ xs.length ∧ rootAt xs s = true ∧ rootF xs = (xs.take s, xs.length / s) ∧ ∀ j, 1 ≤ j → j < s → rootAt xs j = false := by
  have hl : 1 ≤ xs.length := by
    cases xs with
    | nil => exact absurd rfl h
    | cons a r => simp
  obtain ⟨k, h1, h2, h3, h4, h5⟩ := rootGo_spec (xs := xs) xs.length 1 ⟨xs.length, hl, by omega, rootAt_iff.mpr ⟨Nat.mod_self _, by rw [List.take_length, Nat.div_self hl, rep_one]⟩⟩
  exact ⟨k, h1, by omega, h3, h4, h5⟩
theorem rootAt_rep {xs t : List V} {m : Nat} (h : xs ≠ []) (e : xs = rep t m) : 1 ≤ t.length ∧ rootAt xs t.length = true := by
  have ht : 1 ≤ t.length := by
    cases t with
    | nil =>
      exfalso
      apply h
      rw [e]
      have : (rep [] m).length = 0 := by rw [rep_len]; simp
      exact List.eq_nil_of_length_eq_zero this
    | cons a r => simp
  have hm : 1 ≤ m := by
    cases m with
    | zero => exact absurd e h
    | succ m => omega
  refine ⟨ht, rootAt_iff.mpr ?_⟩
  have hl : xs.length = m * t.length := by rw [e, rep_len]
  have htk : xs.take t.length = t := by
    rw [e]
    have := List.prefix_iff_eq_take.mp (pre_rep (u := t) hm)
    exact this.symm
  rw [hl, Nat.mul_mod_left, Nat.mul_div_cancel _ ht, htk, e]
  exact ⟨rfl, rfl⟩
/-- the root of a row: how it is made, that it is short -/
theorem root_is {xs : List V} (h : xs ≠ []) : xs = rep (rootF xs).1 (rootF xs).2 ∧ (rootF xs).1 ≠ [] ∧ 1 ≤ (rootF xs).2 ∧ (rootF xs).2 = xs.length / (rootF xs).1.length ∧ ∀ (t : List V) (m : Nat), xs = rep t m → (rootF xs).1.length ≤ t.length := by
  obtain ⟨s, h1, h2, h3, h4, h5⟩ := root_spec h
  have hlen : (xs.take s).length = s := by rw [List.length_take]; omega
  rw [h4]
  refine ⟨(rootAt_iff.mp h3).2.symm, fun z => ?_, (Nat.one_le_div_iff (by omega)).mpr h2, by rw [hlen], fun t m e => ?_⟩
  · have z2 : xs.take s = [] := z
    rw [z2] at hlen
    simp at hlen
    omega
  · show (xs.take s).length ≤ t.length
    rw [hlen]
    obtain ⟨a, b⟩ := rootAt_rep h e
    by_cases hlt : t.length < s
    · rw [h5 _ a hlt] at b
      cases b
    · omega
theorem len_mul_one {c l : Nat} (hl : 1 ≤ l) (hc : 1 ≤ c) (h : c * l ≤ l) : c = 1 := by
  by_cases h2 : 2 ≤ c
  · have : 2 * l ≤ c * l := Nat.mul_le_mul_right _ h2
    omega
  · omega
theorem root_rep {xs w : List V} {i : Nat} (h : xs ≠ []) (e : xs = rep w i) : (rootF xs).1 = (rootF w).1 := by
  have hi : 1 ≤ i := by
    cases i with
    | zero => exact absurd e h
    | succ m => omega
  have hw : w ≠ [] := fun z => by
    apply h
    rw [e, z]
    exact List.eq_nil_of_length_eq_zero (by rw [rep_len]; simp)
  obtain ⟨x1, x2, x3, _, x5⟩ := root_is h
  obtain ⟨w1, w2, w3, _, w5⟩ := root_is hw
  generalize ep : (rootF xs).1 = p at x1 x2 x5 ⊢
  generalize (rootF xs).2 = a at x1 x3
  generalize eq : (rootF w).1 = q at w1 w2 w5 ⊢
  generalize (rootF w).2 = l at w1 w3
  have xq : xs = rep q (l * i) := by rw [e, ← rep_rep, ← w1]
  have hli : 1 ≤ l * i := Nat.mul_pos w3 hi
  have hc : p ++ q = q ++ p := pow_comm x3 hli (x1.symm.trans xq)
  obtain ⟨t, c, d, e1, e2⟩ := comm_pow _ p q (Nat.le_refl _) hc
  have ht := (rootAt_rep x2 e1).1
  have hc1 : 1 ≤ c := by
    cases c with
    | zero => exact absurd e1 x2
    | succ m => omega
  have hd1 : 1 ≤ d := by
    cases d with
    | zero => exact absurd e2 w2
    | succ m => omega
  have k1 := x5 t (c * a) (by rw [← rep_rep, ← e1]; exact x1)
  have k2 := w5 t (d * l) (by rw [← rep_rep, ← e2]; exact w1)
  rw [e1, rep_len] at k1
  rw [e2, rep_len] at k2
  have c1 := len_mul_one ht hc1 k1
  have d1 := len_mul_one ht hd1 k2
  rw [e1, e2, c1, d1]
theorem comm_root {xs ys : List V} (hx : xs ≠ []) (hy : ys ≠ []) : xs ++ ys = ys ++ xs ↔ (rootF xs).1 = (rootF ys).1 := by
  constructor
  · intro h
    obtain ⟨t, i, j, e1, e2⟩ := comm_pow _ xs ys (Nat.le_refl _) h
    rw [root_rep hx e1, root_rep hy e2]
  · intro h
    have x1 := (root_is hx).1
    have y1 := (root_is hy).1
    rw [← h] at y1
    generalize (rootF xs).1 = p at x1 y1
    rw [x1, y1, ← rep_add, ← rep_add, Nat.add_comm]
theorem root_cat {xs ys : List V} (hx : xs ≠ []) (hy : ys ≠ []) (h : xs ++ ys = ys ++ xs) : rootF (xs ++ ys) = ((rootF xs).1, (rootF xs).2 + (rootF ys).2) := by
  have hz : xs ++ ys ≠ [] := fun z => hx (List.append_eq_nil_iff.mp z).1
  have hr := (comm_root hx hy).mp h
  obtain ⟨x1, x2, _, x4, _⟩ := root_is hx
  obtain ⟨y1, y2, _, y4, _⟩ := root_is hy
  obtain ⟨z1, z2, _, z4, _⟩ := root_is hz
  have ez : xs ++ ys = rep (rootF xs).1 ((rootF xs).2 + (rootF ys).2) := by
    rw [rep_add, ← x1]
    rw [hr, ← y1]
  have e1 : (rootF (xs ++ ys)).1 = (rootF xs).1 := (root_rep hz ez).trans (root_rep hx x1).symm
  have hp : 1 ≤ (rootF xs).1.length := by
    cases e : (rootF xs).1 with
    | nil => exact absurd e x2
    | cons a r => simp
  have e2 : (rootF (xs ++ ys)).2 = (rootF xs).2 + (rootF ys).2 := by
    rw [z4, e1]
    have hl : (xs ++ ys).length = ((rootF xs).2 + (rootF ys).2) * (rootF xs).1.length := by
      rw [← rep_len, ← ez]
    rw [hl, Nat.mul_div_cancel _ hp]
  exact Prod.ext e1 e2
/-! ### the law's sentences about two rows -/
def commB (xs ys : List V) : Bool := decide (xs ++ ys = ys ++ xs)
theorem isEmpty_ne {xs : List V} (h : xs ≠ []) : xs.isEmpty = false := by
  cases xs with
  | nil => exact absurd rfl h
  | cons a r => rfl
theorem comm_law (xs ys : List V) : commB xs ys = (xs.isEmpty || (ys.isEmpty || decide ((rootF xs).1 = (rootF ys).1))) := by
  unfold commB
  by_cases hx : xs = []
  · subst hx
    simp
  · by_cases hy : ys = []
    · subst hy
      simp
    · rw [isEmpty_ne hx, isEmpty_ne hy, Bool.false_or, Bool.false_or, Bool.eq_iff_iff, decide_eq_true_eq, decide_eq_true_eq]
      exact comm_root hx hy
theorem rootsOf_two {xs ys : List V} (hx : xs ≠ []) (hy : ys ≠ []) : rootsOf [xs, ys] = [(rootF xs).1, (rootF ys).1] := by
  unfold rootsOf
  simp [isEmpty_ne hx, isEmpty_ne hy, List.filter]
theorem orders_law (xs ys : List V) : (rowsRoot [xs, ys]).isSome = commB xs ys := by
  rw [comm_law]
  by_cases hx : xs = []
  · subst hx
    by_cases hy : ys = []
    · subst hy
      rfl
    · have e : rootsOf [[], ys] = [(rootF ys).1] := by
        unfold rootsOf
        simp [isEmpty_ne hy, List.filter]
      unfold rowsRoot
      rw [e]
      simp
  · by_cases hy : ys = []
    · subst hy
      have e : rootsOf [xs, []] = [(rootF xs).1] := by
        unfold rootsOf
        simp [isEmpty_ne hx, List.filter]
      unfold rowsRoot
      rw [e]
      simp
    · unfold rowsRoot
      rw [rootsOf_two hx hy, isEmpty_ne hx, isEmpty_ne hy]
      simp only [List.all_cons, List.all_nil, Bool.and_true, Bool.false_or, decide_true, Bool.true_and]
      by_cases e : (rootF ys).1 = (rootF xs).1
      · simp [e]
      · have e' : ¬ (rootF xs).1 = (rootF ys).1 := fun z => e z.symm
        simp [e, e']
end K65

namespace K65
open PySem PySem.Spec PyProof.Rows L2 KR KK
local macro_rules | `(tactic| walk_at "u") => `(tactic| try dsimp only [tSeq, tCutS, tCutE, tCutT, tIfS, tRet, tRetN, tNext, tBreak, tCont, tDrop, tAsg, gName, gTup, gCons, gNil, tOr, tAnd, tNot, tB, tTest, tCB, tCons, tNil, tC, tVar, tAndV, tOrV, tNotV, tOp, tUn, tIf, tIsN, tNotN, tTup, tLst, tCall, tCallS, tBM, tBM0, tSl, tPart, tNoPart, tYes, iList, iTup, iSeq, iStr, iRng1, iRng2, iEnumA, rI, rI0, rU, cxOf, Cx.nox, Cx.wish, L2.start, List.map, List.set, Nat.repeat, List.length_cons, List.length_nil, List.replicate, List.nil_append, List.cons_append, List.append_nil, Nat.reduceAdd, Nat.reduceSub, E0, tBad, tTr])

section
variable {P : Program} {w : World} {K : PySem.W.Frag} {mg : Str → Option Value} {base : Heap}
def spCommonL (K : PySem.W.Frag) : Sp := fun vs H Q _ => ∃ a rs xss, vs = [.ref a] ∧ (SqT K H a rs ∨ SqL K H a rs) ∧ Paired (IsT K H) rs xss ∧ Xss xss ∧ ∀ v H', Same H H' → gOpt K (rowsRoot xss) v H' → Q v H'
theorem len_pos {xs : List V} : decide ((0 : Int) < ((xs.length : Nat) : Int)) = !xs.isEmpty := by
  cases xs with
  | nil => rfl
  | cons a r =>
    show decide _ = true
    rw [decide_eq_true]
    show (0 : Int) < ((r.length + 1 : Nat) : Int)
    omega
theorem len_zero {xs : List V} : decide (V.int ((xs.length : Nat) : Int) = V.int 0) = xs.isEmpty := by
  rw [dec_int]
  cases xs with
  | nil => rfl
  | cons a r =>
    show (((r.length + 1 : Nat) : Int) == 0) = false
    rw [beq_eq_false_iff_ne]
    omega
theorem filter_len {ys : List (List V)} {r : List V} : decide ((0 : Int) < (((ys.filter fun y => !decide (y = r)).length : Nat) : Int)) = !ys.all fun y => decide (y = r) := by
  induction ys with
  | nil => rfl
  | cons y ys ih =>
    by_cases e : y = r
    · simpa [List.filter, e] using ih
    · simp only [List.filter, List.all_cons, e, decide_false, Bool.not_false, Bool.false_and, List.length_cons, decide_eq_true_eq]
      omega
theorem filter_one {y r : List V} : ((some y).toList.filter fun y => !decide (y = r)).length = if decide (y = r) then 0 else 1 := by
  by_cases e : y = r
  · rw [decide_eq_true e]
    simp [List.filter, e]
  · rw [decide_eq_false e]
    simp [List.filter, e]
theorem ok_law_common {f : Addr} {fd : FuncData} (B : Bi mg) (F : Fun K "_law_common" "_law_common" s_law_common f fd) (Claw_root : Cal P w K mg base CX0 1 "_law_root" p_law_root (spRoot K)) : FnOk P w K mg base CX0 2 f fd p_law_common (spCommonL K) := by
  refine F.ok sc_law_common (fun vs H Q E h => ?_) (fun cdv A outer s H vs Q E hr h => ?_)
  · obtain ⟨a, rs, xss, rfl, _⟩ := h
    rfl
  · obtain ⟨a, rs, xss, rfl, hq, fr, ⟨hx, hxl⟩, q⟩ := h
    refine ⟨_, (pss_cons (ps_set (i := 1) sc_law_common.nd rfl (by first | exact .inl rfl | exact .inr rfl) (pe_lc (own := [("row", 2)]) (by rfl) sc_law_common.nd (pi_seq (pv 0)) (blkOk_by (own := [("row", 2)]) (N := n_law_common) (sc := defScope s_law_common) (by decide +kernel)) (fun _ _ _ _ _ => (pg_name (i := 2) sc_law_common.nd rfl (by first | exact .inl rfl | exact .inr rfl))) (fun _ _ _ _ _ => (pts_one (pt_cmpR op_gt (pe_callB (call_lenK (K := K) rfl) (by rfl) B.len PySem.boot_len (pa_cons (pv 2) pa_nil)) pe_int (nomark _)))) (fun _ _ _ _ _ => (pe_ix (ix_tupK (K := K) rfl) (pe_call Claw_root.G (hr.mono (by decide)) (by rfl) Claw_root.g Claw_root.kp Claw_root.b .nil pass0 (pa_cons (pv 2) pa_nil)) pe_int (fun _ _ => rfl)))))
      (pss_cons (ps_if (pt_cmpR op_eq (pe_callB (call_lenK (K := K) rfl) (by rfl) B.len PySem.boot_len (pa_cons (pv 1) pa_nil)) pe_int (nomark _))
      (pss_one (ps_ret (pe_tup pa_nil)))
      pss_nil)
      (pss_cons (ps_if (pt_cmpR op_gt (pe_callB (call_lenK (K := K) rfl) (by rfl) B.len PySem.boot_len (pa_cons (pe_lc (own := [("root", 3)]) (by rfl) sc_law_common.nd (pi_list (pv 1)) (blkOk_by (own := [("root", 3)]) (N := n_law_common) (sc := defScope s_law_common) (by decide +kernel)) (fun _ _ _ _ _ => (pg_name (i := 3) sc_law_common.nd rfl (by first | exact .inl rfl | exact .inr rfl))) (fun _ _ _ _ _ => (pts_one (pt_cmpR (op_neDK (K := K) rfl hr.units) (pv 3) (pe_ix (ix_listK (K := K) rfl) (pv 1) pe_int (fun _ _ => rfl)) (nomark _)))) (fun _ _ _ _ _ => (pv 3))) pa_nil)) pe_int (nomark _))
      (pss_one (ps_ret pe_non))
      pss_nil)
      (pss_one (ps_ret (pe_ix (ix_listK (K := K) rfl) (pv 1) pe_int (fun _ _ => rfl))))))), ?_⟩
    walk_at "u"
    have hlen : rs.length = xss.length := Paired.length fr
    obtain ⟨J, G, wk, hG, hw⟩ := rowsA_seq hq
    refine t_lc (H1 := H) wk (hw _ _ rfl (Same.refl H)) (fun D i H' => Same H H' ∧ ∃ ts, H' D = some (.lst ts) ∧ Paired (IsT K H') ts (rootsOf (xss.take i)) ∧ ts.length ≤ i)
      (fun D hD => ⟨same_new hD, [], upd_same, .nil, Nat.le_refl _⟩) (fun D i H' _ p => hG H' p.1) (fun D hD i x H1 H2 hi p y => ?_) (fun D hD H1 p => ?_)
    · obtain ⟨sm, ts, eD, pt, lt⟩ := p
      obtain ⟨rfl, f2⟩ := y
      walk_at "u"
      obtain ⟨xs, exs, ax, rfl, hT⟩ := pair_at fr f2
      have hxs := hx xs (List.mem_of_getElem? exs)
      refine ⟨rfl, _, rfl, ax, xs, rfl, .inr (st_same sm hT), _, _, rfl, rfl, _, rfl, ?_⟩
      rw [rootsOf_take exs, len_pos]
      cases ee : xs.isEmpty with
      | true => exact iteF ⟨sm, ts, eD, by simpa using pt, by omega⟩
      | false =>
        refine iteT ⟨_, rfl, ax, xs, rfl, st_same sm hT, hxs.1, hxs.2, fun v H3 s3 g => ?_⟩
        obtain ⟨p, q2, rfl, hp, hq2⟩ := g
        refine ⟨p, _, 0, .ref q2, rfl, rfl, hp, atI_nat (j := 0) rfl, ts, s3 _ _ eD, small1000 (by omega), same_mut hD ((SameB.of (sm.trans s3)).trans SameB.upd), ts ++ [.ref q2], upd_same, ?_, by rw [List.length_append]; show ts.length + 1 ≤ i + 1; omega⟩
        exact pair_isB (s3 _ _ eD) (pair_cat (pair_isT s3 pt) (.cons ⟨q2, rfl, hq2⟩ .nil))
    · obtain ⟨sm, ts, eD, pt, lt⟩ := p
      rw [hlen, List.take_length] at pt
      walk_at "u"
      refine ⟨_, rfl, D, ts, rfl, .inl (.inl (.inl eD)), rfl, _, rfl, ?_⟩
      rw [len_zero]
      have hys := rootsOf_sc hx
      have hyl := rootsOf_len xss
      unfold rowsRoot at q
      generalize rootsOf xss = yss at pt q hys hyl
      cases pt with
      | nil =>
        exact iteT ⟨Nat.zero_le _, fun t ht => q _ _ (sm.trans (same_new ht)) ⟨t, rfl, SqT.of upd_same⟩⟩
      | @cons v0 r0 vr yr hv hrr =>
        obtain ⟨a0, rfl, h0⟩ := hv
        refine iteF ?_
        have ptt : Paired (IsT K H1) (.ref a0 :: vr) (r0 :: yr) := .cons ⟨a0, rfl, h0⟩ hrr
        have hr0 := hys r0 List.mem_cons_self
        have lt2 : (V.ref a0 :: vr).length = (r0 :: yr).length := Paired.length ptt
        refine t_lc (H1 := H1) (walk_list (xs := .ref a0 :: vr)) (fun R r => ⟨_, rfl, D, rfl, ⟨_, .inl (.inl eD)⟩, r⟩) (fun D2 i H' => Same H1 H' ∧ ∃ us, H' D2 = some (.lst us) ∧ us.length = (((r0 :: yr).take i).filter fun y => !decide (y = r0)).length)
          (fun D2 hD2 => ⟨same_new hD2, [], upd_same, rfl⟩) (fun D2 i H' _ p => .inl (.inl (p.1 _ _ eD))) (fun D2 hD2 i x H2 H3 hi p y => ?_) (fun D2 hD2 H2 p => ?_)
        · obtain ⟨sm2, us, eD2, lu⟩ := p
          obtain ⟨rfl, f2⟩ := y
          walk_at "u"
          obtain ⟨yi, eyi, ai, rfl, hai⟩ := pair_at ptt f2
          refine ⟨rfl, _, rfl, _, rfl, D, _, 0, .ref a0, rfl, rfl, .inl (.inl (sm2 _ _ eD)), atI_nat (j := 0) rfl, ?_⟩
          refine r_neTT (st_same sm2 hai) (st_same sm2 h0) (hys yi (List.mem_of_getElem? eyi)) hr0 ⟨_, rfl, ?_⟩
          have ef : (((r0 :: yr).take (i + 1)).filter fun y => !decide (y = r0)).length = (((r0 :: yr).take i).filter fun y => !decide (y = r0)).length + (if decide (yi = r0) then 0 else 1) := by
            rw [List.take_add_one, eyi, List.filter_append, List.length_append, filter_one]
          rw [ef]
          cases ed : decide (yi = r0) with
          | true => exact iteF ⟨sm2, us, eD2, lu⟩
          | false =>
            have hul : us.length ≤ 1000 := by
              rw [lu]
              have h1 := List.length_filter_le (fun y => !decide (y = r0)) ((r0 :: yr).take i)
              rw [List.length_take] at h1
              omega
            exact iteT ⟨_, rfl, us, eD2, small1000 hul, same_mut hD2 ((SameB.of sm2).trans SameB.upd), us ++ [.ref ai], upd_same, by rw [List.length_append, lu]; rfl⟩
        · obtain ⟨sm2, us, eD2, lu⟩ := p
          rw [lt2, List.take_length] at lu
          refine ⟨D2, us, rfl, .inl (.inl (.inl eD2)), _, _, rfl, rfl, _, rfl, ?_⟩
          rw [lu, filter_len]
          have q2 := q
          clear q
          cases ea : (r0 :: yr).all (fun x => decide (x = r0)) with
          | true =>
            have q3 : ∀ v H', Same H H' → gOpt K (some r0) v H' → Q v H' := fun v H' e g => q2 v H' e (by
              show gOpt K (if (r0 :: yr).all (fun x => decide (x = r0)) = true then some r0 else none) v H'
              rw [ea]
              exact g)
            exact iteF ⟨_, rfl, D, _, 0, .ref a0, rfl, rfl, .inl (.inl (sm2 _ _ eD)), atI_nat (j := 0) rfl, q3 _ _ (sm.trans sm2) ⟨a0, rfl, st_same sm2 h0⟩⟩
          | false =>
            have q3 : ∀ v H', Same H H' → gOpt K none v H' → Q v H' := fun v H' e g => q2 v H' e (by
              show gOpt K (if (r0 :: yr).all (fun x => decide (x = r0)) = true then some r0 else none) v H'
              rw [ea]
              exact g)
            exact iteT (q3 _ _ (sm.trans sm2) rfl)
end
end K65

namespace K65
open PySem PySem.Spec PyProof.Rows L2 KR KK
local macro_rules | `(tactic| walk_at "u") => `(tactic| try dsimp only [tSeq, tCutS, tCutE, tCutT, tIfS, tRet, tRetN, tNext, tBreak, tCont, tDrop, tAsg, gName, gTup, gCons, gNil, tOr, tAnd, tNot, tB, tTest, tCB, tCons, tNil, tC, tVar, tAndV, tOrV, tNotV, tOp, tUn, tIf, tIsN, tNotN, tTup, tLst, tCall, tCallS, tBM, tBM0, tSl, tPart, tNoPart, tYes, iList, iTup, iSeq, iStr, iRng1, iRng2, iEnumA, rI, rI0, rU, cxOf, Cx.nox, Cx.wish, L2.start, List.map, List.set, Nat.repeat, List.length_cons, List.length_nil, List.replicate, List.nil_append, List.cons_append, List.append_nil, Nat.reduceAdd, Nat.reduceSub, E0, tBad, tTr])

/-! ### what is right with rows of the pool -/
theorem wrongGo_pool : ∀ {xs : List V} (i : Nat), (∀ x ∈ xs, entOk x = true) → wrongGo xs i = .non
  | [], _, _ => rfl
  | x :: r, i, h => by
    show (if entOk x then wrongGo r (i + 1) else .int (i : Nat)) = V.non
    rw [if_pos (h x List.mem_cons_self)]
    exact wrongGo_pool (i + 1) fun y hy => h y (List.mem_cons_of_mem _ hy)
theorem right_pool {xs : List V} (h : PoolL xs) : wrongV (some xs) = .non := wrongGo_pool 0 fun x hx => pool_ok (h x hx)
theorem checkE_pool {xs : List V} (h : PoolL xs) : checkE (some xs) = .ok xs := by
  unfold checkE
  rw [if_pos (right_pool h)]
  rfl
theorem checkTwo_pool {xs ys : List V} (h : PoolL xs) (g : PoolL ys) : checkTwo (some xs) (some ys) = .ok (xs, ys) := by
  unfold checkTwo
  rw [checkE_pool h]
  show (if wrongV (some ys) = .non then Res.ok (xs, rowOf (some ys)) else _) = _
  rw [if_pos (right_pool g)]
  rfl
theorem firstBad_pool : ∀ {xss : List (List V)} (i : Nat), (∀ xs ∈ xss, PoolL xs) → firstBad (xss.map some) i = none
  | [], _, _ => rfl
  | x :: r, i, h => by
    show (if wrongV (some x) = .non then firstBad (r.map some) (i + 1) else _) = none
    rw [if_pos (right_pool (h x List.mem_cons_self))]
    exact firstBad_pool (i + 1) fun y hy => h y (List.mem_cons_of_mem _ hy)
theorem checkRs_pool {xss : List (List V)} (h : ∀ xs ∈ xss, PoolL xs) : checkRs (some (xss.map some)) = .ok xss := by
  rw [checkRs_ok (firstBad_pool 0 h), List.map_map]
  congr 1
  exact List.map_id'' (fun _ => rfl) _
theorem ent_pool {K : PySem.W.Frag} {H : Hp} {xs : List V} (h : PoolL xs) : ∀ x ∈ xs, Ent K H x := fun x hx => .flat (flat_sc (pool_sc (h x hx)))
theorem rowT {K : PySem.W.Frag} {H : Hp} {a : Addr} {xs : List V} (h : SqT K H a xs) (p : PoolL xs) (l : xs.length ≤ 1000) : RowA K H (.ref a) (some xs) := .tup h (ent_pool p) l
theorem rowL {K : PySem.W.Frag} {H : Hp} {a : Addr} {xs : List V} (h : SqL K H a xs) (p : PoolL xs) (l : xs.length ≤ 1000) : RowA K H (.ref a) (some xs) := .lst h (ent_pool p) l
/-! ### data of the answers -/
theorem okD_sc {v : V} (h : sc v = true) : okD (toD v) = true := by
  cases v with
  | int i => simp [toD, okD]
  | str s =>
    simp only [toD, okD]
    exact h
  | _ => cases h
theorem okAll_sc : ∀ {xs : List V}, xs.all sc = true → okAll (xs.map toD) = true
  | [], _ => by simp [okAll]
  | x :: r, h => by
    rw [List.all_cons, Bool.and_eq_true] at h
    show okAll (toD x :: r.map toD) = true
    simp only [okAll]
    rw [okD_sc h.1, okAll_sc h.2]
    rfl
theorem nodes_toD (v : V) : nodes (toD v) = 1 := by
  cases v <;> simp [toD, nodes]
theorem nodes_row : ∀ (xs : List V), nodesAll (xs.map toD) = xs.length
  | [] => by simp [nodesAll]
  | x :: r => by
    show nodesAll (toD x :: r.map toD) = r.length + 1
    simp only [nodesAll]
    rw [nodes_toD, nodes_row r]
    omega
def dRow (xs : List V) : PyData := .tuple (xs.map toD)
def dRoot (r : List V × Nat) : PyData := .tuple [dRow r.1, .int (r.2 : Nat)]
def dOpt : Option (List V) → PyData
  | none => .none
  | some xs => dRow xs
theorem okD_row {xs : List V} (h : xs.all sc = true) (l : xs.length ≤ 1000) : okD (dRow xs) = true ∧ nodes (dRow xs) ≤ 1001 := by
  unfold dRow
  simp only [okD, nodes]
  exact ⟨okAll_sc h, by rw [nodes_row]; omega⟩
theorem okD_root {r : List V × Nat} (h : r.1.all sc = true) (l : r.1.length ≤ 1000) : okD (dRoot r) = true ∧ nodes (dRoot r) ≤ 100000 := by
  obtain ⟨h1, h2⟩ := okD_row h l
  unfold dRoot
  simp only [okD, okAll, nodes, nodesAll]
  rw [h1]
  exact ⟨rfl, by omega⟩
theorem rootGo_len {xs : List V} : ∀ (n s : Nat), (rootGo xs s n).1.length ≤ xs.length
  | 0, _ => Nat.zero_le _
  | n + 1, s => by
    show (if rootAt xs s then (xs.take s, xs.length / s) else rootGo xs (s + 1) n).1.length ≤ _
    split
    · show (xs.take s).length ≤ _
      rw [List.length_take]
      omega
    · exact rootGo_len n (s + 1)
theorem rootF_len (xs : List V) : (rootF xs).1.length ≤ xs.length := rootGo_len _ _
theorem rowsRoot_in {xss : List (List V)} {r : List V} (h : rowsRoot xss = some r) (hx : ∀ xs ∈ xss, xs.all sc = true ∧ xs.length ≤ 1000) : r.all sc = true ∧ r.length ≤ 1000 := by
  have key : ∀ y ∈ rootsOf xss, y.all sc = true ∧ y.length ≤ 1000 := fun y hy => by
    obtain ⟨xs, hm, rfl⟩ := List.mem_map.mp hy
    have hm2 := hx xs (List.mem_filter.mp hm).1
    exact ⟨rootF_sc hm2.1, Nat.le_trans (rootF_len xs) hm2.2⟩
  unfold rowsRoot at h
  cases e : rootsOf xss with
  | nil =>
    rw [e] at h
    cases h
    exact ⟨rfl, Nat.zero_le _⟩
  | cons a rs =>
    rw [e] at h
    have h' : (if (a :: rs).all (fun x => decide (x = a)) then some a else none) = some r := h
    split at h'
    · cases h'
      exact key _ (by rw [e]; exact List.mem_cons_self)
    · cases h'
theorem okD_opt {xss : List (List V)} (hx : ∀ xs ∈ xss, xs.all sc = true ∧ xs.length ≤ 1000) : okD (dOpt (rowsRoot xss)) = true ∧ nodes (dOpt (rowsRoot xss)) ≤ 100000 := by
  cases e : rowsRoot xss with
  | none => exact ⟨by simp [dOpt, okD], by simp [dOpt, nodes]⟩
  | some r =>
    obtain ⟨h1, h2⟩ := rowsRoot_in e hx
    obtain ⟨h3, h4⟩ := okD_row h1 h2
    exact ⟨h3, Nat.le_trans h4 (by decide)⟩
section
variable {P : Program} {w : World} {K : PySem.W.Frag} {mg : Str → Option Value} {base : Heap}
theorem dp_row {H : Hp} {a : Addr} {xs : List V} (h : SqT K H a xs) (s : xs.all sc = true) : Dp K H (.ref a) (dRow xs) := dp_tup h (all_flat s)
theorem dp_root {H : Hp} {r : List V × Nat} {v : V} (h : gRoot K r v H) (s : r.1.all sc = true) : Dp K H v (dRoot r) := by
  obtain ⟨p, q, rfl, hp, hq⟩ := h
  exact .tup hp (.cons (dp_row hq s) (.cons (.int _) .nil))
theorem dp_opt {H : Hp} {xss : List (List V)} {v : V} (h : gOpt K (rowsRoot xss) v H) (hx : ∀ xs ∈ xss, xs.all sc = true ∧ xs.length ≤ 1000) : Dp K H v (dOpt (rowsRoot xss)) := by
  cases e : rowsRoot xss with
  | none =>
    rw [e] at h
    have hv : v = .non := h
    rw [hv]
    exact .non
  | some r =>
    rw [e] at h
    obtain ⟨a, rfl, ha⟩ := h
    exact dp_row ha (rowsRoot_in e hx).1
theorem gRoot_same {H H' : Hp} {r : List V × Nat} {v : V} (e : Same H H') (h : gRoot K r v H) : gRoot K r v H' := by
  obtain ⟨p, q, r, hp, hq⟩ := h
  exact ⟨p, q, r, st_same e hp, st_same e hq⟩
theorem gOpt_same {H H' : Hp} {o : Option (List V)} {v : V} (e : Same H H') (h : gOpt K o v H) : gOpt K o v H' := by
  cases o with
  | none => exact h
  | some xs => exact h.same e
/-! ### two rows -/
theorem alike_law (xs ys : List V) : mixF (xs, ys) = (xs.isEmpty || (ys.isEmpty || decide (V.int ((((xs ++ ys).filter fun y => !decide (some y = xs.head?)).length : Nat) : Int) = V.int 0))) := by
  unfold mixF
  congr 2
  rw [dec_int, Bool.eq_iff_iff, beq_iff_eq, List.all_eq_true]
  constructor
  · intro h
    have e : (xs ++ ys).filter (fun y => !decide (some y = xs.head?)) = [] := by
      rw [List.filter_eq_nil_iff]
      intro y hy
      rw [h y hy]
      decide
    rw [e]
    rfl
  · intro h x hx
    have e : (xs ++ ys).filter (fun y => !decide (some y = xs.head?)) = [] := List.eq_nil_of_length_eq_zero (by omega)
    have := List.filter_eq_nil_iff.mp e x hx
    simpa using this
theorem mix_symm (xs ys : List V) : mixF (ys, xs) = mixF (xs, ys) := by
  cases xs with
  | nil => cases ys <;> rfl
  | cons x0 xr =>
    cases ys with
    | nil => rfl
    | cons y0 yr =>
      show (false || (false || ((y0 :: yr) ++ (x0 :: xr)).all fun x => decide (some x = some y0))) = (false || (false || ((x0 :: xr) ++ (y0 :: yr)).all fun x => decide (some x = some x0)))
      rw [Bool.false_or, Bool.false_or, Bool.false_or, Bool.false_or, Bool.eq_iff_iff, List.all_eq_true, List.all_eq_true]
      constructor
      · intro h x hx
        have h0 := h x0 (List.mem_append_right _ List.mem_cons_self)
        have h1 := h x (by rcases List.mem_append.mp hx with z | z
                           · exact List.mem_append_right _ z
                           · exact List.mem_append_left _ z)
        rw [decide_eq_true_eq] at h0 h1 ⊢
        rw [h1, h0]
      · intro h x hx
        have h0 := h y0 (List.mem_append_right _ List.mem_cons_self)
        have h1 := h x (by rcases List.mem_append.mp hx with z | z
                           · exact List.mem_append_right _ z
                           · exact List.mem_append_left _ z)
        rw [decide_eq_true_eq] at h0 h1 ⊢
        rw [h1, h0]
def spPair (K : PySem.W.Frag) : Sp := fun vs H Q _ => ∃ a b xs ys, vs = [.ref a, .ref b] ∧ SqT K H a xs ∧ SqT K H b ys ∧ (PoolL xs ∧ xs.length ≤ 200) ∧ (PoolL ys ∧ ys.length ≤ 200) ∧ ∀ H', Same H H' → Q (.bl true) H'
theorem ok_law_pair_right {f : Addr} {fd : FuncData} (B : Bi mg) (T : BadF P w K mg base) (F : Fun K "_law_pair_right" "_law_pair_right" s_law_pair_right f fd)
    (Claw_root : Cal P w K mg base CX0 1 "_law_root" p_law_root (spRoot K)) (Claw_equal : Cal P w K mg base CX0 1 "_law_equal" p_law_equal (spEqual K)) (Claw_common : Cal P w K mg base CX0 2 "_law_common" p_law_common (spCommonL K))
    (Cdo_rows_commute : Cal P w K mg base (L2.CX P w) 5 "do_rows_commute" p_do_rows_commute (spCommute K T.C)) (Cmixings_steady : Cal P w K mg base (L2.CX P w) 5 "mixings_steady" p_mixings_steady (spMix K T.C))
    (Corders_steady : Cal P w K mg base (L2.CX P w) 4 "orders_steady" p_orders_steady (spOrders K T.C)) (Ccommon_root : Cal P w K mg base (L2.CX P w) 4 "common_root" p_common_root (spCommonRoot K T.C))
    (Croot_of : Cal P w K mg base (L2.CX P w) 4 "root_of" p_root_of (spRootOf K T.C)) : FnOk P w K mg base CX0 6 f fd p_law_pair_right (spPair K) := by
  refine F.ok sc_law_pair_right (fun vs H Q E h => ?_) (fun cdv A outer s H vs Q E hr h => ?_)
  · obtain ⟨a, b, xs, ys, rfl, _⟩ := h
    rfl
  · obtain ⟨a, b, xs, ys, rfl, ha, hb, ⟨px, lx⟩, ⟨py, ly⟩, q⟩ := h
    refine ⟨_, (pss_cons (ps_set (i := 2) sc_law_pair_right.nd rfl (by first | exact .inl rfl | exact .inr rfl) (pe_cmpR (op_eqDK (K := K) rfl hr.units) (pe_op (op_catK (K := K) rfl) (pv 0) (pv 1)) (pe_op (op_catK (K := K) rfl) (pv 1) (pv 0)) (nomark _)))
      (pss_cons (ps_set (i := 3) sc_law_pair_right.nd rfl (by first | exact .inl rfl | exact .inr rfl) (pe_call Claw_root.G (hr.mono (by decide)) (by rfl) Claw_root.g Claw_root.kp Claw_root.b .nil pass0 (pa_cons (pv 0) pa_nil)))
      (pss_cons (ps_set (i := 4) sc_law_pair_right.nd rfl (by first | exact .inl rfl | exact .inr rfl) (pe_call Claw_root.G (hr.mono (by decide)) (by rfl) Claw_root.g Claw_root.kp Claw_root.b .nil pass0 (pa_cons (pv 1) pa_nil)))
      (pss_cons (ps_if (pt_cut (PW.pt (pw_or (pt_not (pt_val (pe_call Claw_equal.G (hr.mono (by decide)) (by rfl) Claw_equal.g Claw_equal.kp Claw_equal.b .nil pass0 (pa_cons (pe_call Cdo_rows_commute.G (hr.mono (by decide)) (by rfl) Cdo_rows_commute.g Cdo_rows_commute.kp Cdo_rows_commute.b .nil passL (pa_cons (pe_callTy (call_listK (K := K) rfl) (by rfl) B.list_ (by decide +kernel) (pa_cons (pv 0) pa_nil)) (pa_cons (pv 1) pa_nil))) (pa_cons (pv 2) pa_nil))))) (pw_or1 (pt_not (pt_val (pe_call Claw_equal.G (hr.mono (by decide)) (by rfl) Claw_equal.g Claw_equal.kp Claw_equal.b .nil pass0 (pa_cons (pe_call Cdo_rows_commute.G (hr.mono (by decide)) (by rfl) Cdo_rows_commute.g Cdo_rows_commute.kp Cdo_rows_commute.b .nil passL (pa_cons (pv 1) (pa_cons (pv 0) pa_nil))) (pa_cons (pv 2) pa_nil)))))))))
      (pss_one (ps_ret pe_bl))
      pss_nil)
      (pss_cons (ps_if (pt_cmpR op_ne (pv 2) (pe_cut (pe_or (pe_cmpR op_eq (pe_callB (call_lenK (K := K) rfl) (by rfl) B.len PySem.boot_len (pa_cons (pv 0) pa_nil)) pe_int (nomark _)) (pe_or (pe_cmpR op_eq (pe_callB (call_lenK (K := K) rfl) (by rfl) B.len PySem.boot_len (pa_cons (pv 1) pa_nil)) pe_int (nomark _)) (pe_one (pe_cmpR (op_eqDK (K := K) rfl hr.units) (pe_ix (ix_tupK (K := K) rfl) (pv 3) pe_int (fun _ _ => rfl)) (pe_ix (ix_tupK (K := K) rfl) (pv 4) pe_int (fun _ _ => rfl)) (nomark _)))))) (nomark _))
      (pss_one (ps_ret pe_bl))
      pss_nil)
      (pss_cons (ps_set (i := 5) sc_law_pair_right.nd rfl (by first | exact .inl rfl | exact .inr rfl) (pe_cut (pe_or (pe_cmpR op_eq (pe_callB (call_lenK (K := K) rfl) (by rfl) B.len PySem.boot_len (pa_cons (pv 0) pa_nil)) pe_int (nomark _)) (pe_or (pe_cmpR op_eq (pe_callB (call_lenK (K := K) rfl) (by rfl) B.len PySem.boot_len (pa_cons (pv 1) pa_nil)) pe_int (nomark _)) (pe_one (pe_cmpR op_eq (pe_callB (call_lenK (K := K) rfl) (by rfl) B.len PySem.boot_len (pa_cons (pe_lc (own := [("entry", 6)]) (by rfl) sc_law_pair_right.nd (pi_tup (pe_op (op_catK (K := K) rfl) (pv 0) (pv 1))) (blkOk_by (own := [("entry", 6)]) (N := n_law_pair_right) (sc := defScope s_law_pair_right) (by decide +kernel)) (fun _ _ _ _ _ => (pg_name (i := 6) sc_law_pair_right.nd rfl (by first | exact .inl rfl | exact .inr rfl))) (fun _ _ _ _ _ => (pts_one (pt_cmpR (op_neDK (K := K) rfl hr.units) (pv 6) (pe_ix (ix_tupK (K := K) rfl) (pv 0) pe_int (fun _ _ => rfl)) (nomark _)))) (fun _ _ _ _ _ => (pv 6))) pa_nil)) pe_int (nomark _)))))))
      (pss_cons (ps_if (pt_cut (PW.pt (pw_or (pt_not (pt_val (pe_call Claw_equal.G (hr.mono (by decide)) (by rfl) Claw_equal.g Claw_equal.kp Claw_equal.b .nil pass0 (pa_cons (pe_call Cmixings_steady.G (hr.mono (by decide)) (by rfl) Cmixings_steady.g Cmixings_steady.kp Cmixings_steady.b .nil passL (pa_cons (pv 0) (pa_cons (pe_callTy (call_listK (K := K) rfl) (by rfl) B.list_ (by decide +kernel) (pa_cons (pv 1) pa_nil)) pa_nil))) (pa_cons (pv 5) pa_nil))))) (pw_or1 (pt_not (pt_val (pe_call Claw_equal.G (hr.mono (by decide)) (by rfl) Claw_equal.g Claw_equal.kp Claw_equal.b .nil pass0 (pa_cons (pe_call Cmixings_steady.G (hr.mono (by decide)) (by rfl) Cmixings_steady.g Cmixings_steady.kp Cmixings_steady.b .nil passL (pa_cons (pe_callTy (call_listK (K := K) rfl) (by rfl) B.list_ (by decide +kernel) (pa_cons (pv 1) pa_nil)) (pa_cons (pv 0) pa_nil))) (pa_cons (pv 5) pa_nil)))))))))
      (pss_one (ps_ret pe_bl))
      pss_nil)
      (pss_cons (ps_if (pt_cut (PW.pt (pw_or (pt_not (pt_val (pe_call Claw_equal.G (hr.mono (by decide)) (by rfl) Claw_equal.g Claw_equal.kp Claw_equal.b .nil pass0 (pa_cons (pe_call Corders_steady.G (hr.mono (by decide)) (by rfl) Corders_steady.g Corders_steady.kp Corders_steady.b .nil passL (pa_cons (pe_tup (pa_cons (pv 0) (pa_cons (pe_callTy (call_listK (K := K) rfl) (by rfl) B.list_ (by decide +kernel) (pa_cons (pv 1) pa_nil)) pa_nil))) pa_nil)) (pa_cons (pv 2) pa_nil))))) (pw_or1 (pt_not (pt_val (pe_call Claw_equal.G (hr.mono (by decide)) (by rfl) Claw_equal.g Claw_equal.kp Claw_equal.b .nil pass0 (pa_cons (pe_call Ccommon_root.G (hr.mono (by decide)) (by rfl) Ccommon_root.g Ccommon_root.kp Ccommon_root.b .nil passL (pa_cons (pe_lst (pa_cons (pv 0) (pa_cons (pv 1) pa_nil))) pa_nil)) (pa_cons (pe_call Claw_common.G (hr.mono (by decide)) (by rfl) Claw_common.g Claw_common.kp Claw_common.b .nil pass0 (pa_cons (pe_tup (pa_cons (pv 0) (pa_cons (pv 1) pa_nil))) pa_nil)) pa_nil)))))))))
      (pss_one (ps_ret pe_bl))
      pss_nil)
      (pss_cons (ps_if (pt_cut (PW.pt (pw_and (pt_val (pv 2)) (pw_and (pt_cmpR op_gt (pe_callB (call_lenK (K := K) rfl) (by rfl) B.len PySem.boot_len (pa_cons (pv 0) pa_nil)) pe_int (nomark _)) (pw_and (pt_cmpR op_gt (pe_callB (call_lenK (K := K) rfl) (by rfl) B.len PySem.boot_len (pa_cons (pv 1) pa_nil)) pe_int (nomark _)) (pw_and1 (pt_cmpR op_le (pe_op op_add (pe_callB (call_lenK (K := K) rfl) (by rfl) B.len PySem.boot_len (pa_cons (pv 0) pa_nil)) (pe_callB (call_lenK (K := K) rfl) (by rfl) B.len PySem.boot_len (pa_cons (pv 1) pa_nil))) pe_int (nomark _))))))))
      (pss_one (ps_ret (pe_call Claw_equal.G (hr.mono (by decide)) (by rfl) Claw_equal.g Claw_equal.kp Claw_equal.b .nil pass0 (pa_cons (pe_call Croot_of.G (hr.mono (by decide)) (by rfl) Croot_of.g Croot_of.kp Croot_of.b .nil passL (pa_cons (pe_op (op_catK (K := K) rfl) (pv 0) (pv 1)) pa_nil)) (pa_cons (pe_tup (pa_cons (pe_ix (ix_tupK (K := K) rfl) (pv 3) pe_int (fun _ _ => rfl)) (pa_cons (pe_op op_add (pe_ix (ix_tupK (K := K) rfl) (pv 3) pe_int (fun _ _ => rfl)) (pe_ix (ix_tupK (K := K) rfl) (pv 4) pe_int (fun _ _ => rfl))) pa_nil))) pa_nil)))))
      pss_nil)
      (pss_one (ps_ret pe_bl))))))))))), ?_⟩
    walk_at "u"
    have sx := px.sc
    have sy := py.sc
    have small : xs.length + ys.length ≤ sizeLine := small2000 (by omega)
    have small2 : ys.length + xs.length ≤ sizeLine := small2000 (by omega)
    refine ⟨_, rfl, _, rfl, r_catA ha hb small fun p1 H1 s1 h1 => ⟨_, rfl, _, rfl, r_catA (st_same s1 hb) (st_same s1 ha) small2 fun p2 H2 s2 h2 => ?_⟩⟩
    refine r_eqTT (st_same s2 h1) h2 (px.cat py).sc (py.cat px).sc ?_
    have sm := s1.trans s2
    clear s1 s2 h1 h2
    refine ⟨_, rfl, a, xs, rfl, st_same sm ha, sx, by omega, fun one H3 s3 g1 => ?_⟩
    refine ⟨_, rfl, b, ys, rfl, st_same (sm.trans s3) hb, sy, by omega, fun two H4 s4 g2 => ?_⟩
    replace sm := (sm.trans s3).trans s4
    replace g1 := gRoot_same s4 g1
    clear s3 s4
    walk_at "u"
    -- do_rows_commute, twice
    refine ⟨fun b' H' => b' = false ∧ Same H4 H', ?_, ?_⟩
    · refine ⟨_, rfl, a, xs, rfl, .inr (st_same sm ha), fun l hl => ?_⟩
      have s5 := same_new (o := .lst xs) hl
      refine ⟨_, rfl, _, _, _, _, rfl, rowL (SqL.of upd_same) px (by omega), rowT (st_same s5 (st_same sm hb)) py (by omega), ?_⟩
      rw [checkTwo_pool px py]
      intro v H5 s6 gv
      have ev : v = .bl (decide (xs ++ ys = ys ++ xs)) := gv
      rw [ev]
      walk_at "u"
      refine ⟨_, rfl, _, _, _, rfl, .bl _, .bl _, by simp [okD], by simp [nodes], fun H6 s7 => ⟨_, rfl, iteF ?_⟩⟩
      have s8 := (s5.trans s6).trans s7
      refine ⟨_, rfl, _, rfl, _, _, _, _, rfl, rowT (st_same s8 (st_same sm hb)) py (by omega), rowT (st_same s8 (st_same sm ha)) px (by omega), ?_⟩
      rw [checkTwo_pool py px]
      intro v2 H7 s9 gv2
      have ev2 : v2 = .bl (decide (ys ++ xs = xs ++ ys)) := gv2
      have ec : decide (ys ++ xs = xs ++ ys) = decide (xs ++ ys = ys ++ xs) := by
        rw [Bool.eq_iff_iff, decide_eq_true_eq, decide_eq_true_eq]
        exact eq_comm
      rw [ev2, ec]
      walk_at "u"
      exact ⟨_, rfl, _, _, _, rfl, .bl _, .bl _, by simp [okD], by simp [nodes], fun H8 s10 => ⟨_, rfl, rfl, (s8.trans s9).trans s10⟩⟩
    rintro _ H5 ⟨rfl, s5⟩
    replace sm := sm.trans s5
    replace g1 := gRoot_same s5 g1
    replace g2 := gRoot_same s5 g2
    clear s5
    obtain ⟨p3, q3, rfl, hp3, hq3⟩ := id g1
    obtain ⟨p4, q4, rfl, hp4, hq4⟩ := id g2
    refine iteF ⟨_, rfl, fun v H' => v = .bl (commB xs ys) ∧ H5 = H', ?_, ?_⟩
    · refine ⟨_, rfl, a, xs, rfl, .inr (st_same sm ha), rfl, _, rfl, ?_⟩
      rw [len_zero, comm_law]
      cases xs.isEmpty with
      | true => exact iteT ⟨rfl, rfl⟩
      | false =>
        refine iteF ⟨_, rfl, b, ys, rfl, .inr (st_same sm hb), rfl, _, rfl, ?_⟩
        rw [len_zero]
        cases ys.isEmpty with
        | true => exact iteT ⟨rfl, rfl⟩
        | false =>
          refine iteF ⟨_, rfl, p3, _, 0, _, rfl, rfl, hp3, atI_nat (j := 0) rfl, _, rfl, p4, _, 0, _, rfl, rfl, hp4, atI_nat (j := 0) rfl, ?_⟩
          exact r_eqTT hq3 hq4 (rootF_sc sx) (rootF_sc sy) ⟨rfl, rfl⟩
    rintro _ _ ⟨rfl, rfl⟩
    refine r_neSame ⟨_, rfl, iteF ?_⟩
    -- alike
    refine ⟨fun v H' => v = .bl (mixF (xs, ys)) ∧ Same H5 H', ?_, ?_⟩
    · refine ⟨_, rfl, a, xs, rfl, .inr (st_same sm ha), rfl, _, rfl, ?_⟩
      rw [len_zero]
      have alk := alike_law xs ys
      cases xs with
      | nil => exact iteT ⟨rfl, Same.refl _⟩
      | cons x0 xr =>
        refine iteF ⟨_, rfl, b, ys, rfl, .inr (st_same sm hb), rfl, _, rfl, ?_⟩
        rw [len_zero]
        cases ys with
        | nil => exact iteT ⟨rfl, Same.refl _⟩
        | cons y0 yr =>
          refine iteF ?_
          generalize ez : (x0 :: xr) ++ (y0 :: yr) = zs at alk
          have hzs : zs.all sc = true := by rw [← ez]; exact (px.cat py).sc
          have hzl : zs.length ≤ 400 := by rw [← ez, List.length_append]; omega
          have hx0 : sc x0 = true := (Bool.and_eq_true_iff.mp sx).1
          refine t_lcS (fun J H2 => ∃ p2, J = Itt K p2 ∧ Same H5 H2 ∧ SqT K H2 p2 zs) (fun R r => ⟨_, rfl, _, rfl, r_catA (st_same sm ha) (st_same sm hb) small fun p2 H2 s2 h2 => ⟨p2, rfl, ⟨_, h2⟩, r _ _ ⟨p2, rfl, s2, by rw [← ez]; exact h2⟩⟩⟩) (fun J H2 hS => ?_)
          obtain ⟨p2, rfl, s2, h2⟩ := hS
          refine ⟨_, _, _, walk_tup (xs := zs), fun D i H' => Same H2 H' ∧ ∃ us, H' D = some (.lst us) ∧ us.length = ((zs.take i).filter fun y => !decide (some y = some x0)).length, fun D hD => ⟨same_new hD, [], upd_same, rfl⟩, fun D i H' _ p => st_same p.1 h2, fun D hD i x H3 H4 hi p y => ?_, fun D hD H3 p => ?_⟩
          · obtain ⟨sm3, us, eD, lu⟩ := p
            obtain ⟨rfl, f2⟩ := y
            walk_at "u"
            refine ⟨rfl, _, rfl, _, rfl, a, _, 0, x0, rfl, rfl, st_same sm3 (st_same s2 (st_same sm ha)), atI_nat (j := 0) rfl, ?_⟩
            refine r_neSS (List.all_eq_true.mp hzs x (List.mem_of_getElem? f2)) hx0 ⟨_, rfl, ?_⟩
            have ef : ((zs.take (i + 1)).filter fun y => !decide (some y = some x0)).length = ((zs.take i).filter fun y => !decide (some y = some x0)).length + (if decide (x = x0) then 0 else 1) := by
              rw [List.take_add_one, f2, List.filter_append, List.length_append]
              by_cases e : x = x0
              · rw [decide_eq_true e]
                simp [List.filter, e]
              · rw [decide_eq_false e]
                simp [List.filter, e]
            rw [ef]
            cases ed : decide (x = x0) with
            | true => exact iteF ⟨sm3, us, eD, lu⟩
            | false =>
              have hul : us.length ≤ 1000 := by
                rw [lu]
                have h1 := List.length_filter_le (fun y => !decide (some y = some x0)) (zs.take i)
                rw [List.length_take] at h1
                omega
              exact iteT ⟨_, rfl, us, eD, small1000 hul, same_mut hD ((SameB.of sm3).trans SameB.upd), us ++ [x], upd_same, by rw [List.length_append, lu]; rfl⟩
          · obtain ⟨sm3, us, eD, lu⟩ := p
            rw [List.take_length] at lu
            refine ⟨D, us, rfl, .inl (.inl (.inl eD)), rfl, ?_, s2.trans sm3⟩
            rw [lu, alk]
            rfl
    rintro _ H6 ⟨rfl, s6⟩
    replace sm := sm.trans s6
    replace g1 := gRoot_same s6 g1
    replace g2 := gRoot_same s6 g2
    clear s6 hp3 hq3 hp4 hq4
    walk_at "u"
    -- mixings_steady, twice
    refine ⟨fun b' H' => b' = false ∧ Same H6 H', ?_, ?_⟩
    · refine ⟨_, rfl, _, rfl, b, ys, rfl, .inr (st_same sm hb), fun l hl => ?_⟩
      have s5 := same_new (o := .lst ys) hl
      refine ⟨_, _, _, _, rfl, rowT (st_same s5 (st_same sm ha)) px (by omega), rowL (SqL.of upd_same) py (by omega), ?_⟩
      rw [checkTwo_pool px py]
      intro v H7 s6 gv
      have ev : v = .bl (mixF (xs, ys)) := gv
      rw [ev]
      walk_at "u"
      refine ⟨_, rfl, _, _, _, rfl, .bl _, .bl _, by simp [okD], by simp [nodes], fun H8 s7 => ⟨_, rfl, iteF ?_⟩⟩
      have s8 := (s5.trans s6).trans s7
      refine ⟨_, rfl, b, ys, rfl, .inr (st_same s8 (st_same sm hb)), fun l2 hl2 => ?_⟩
      have s9 := same_new (o := .lst ys) hl2
      refine ⟨_, rfl, _, _, _, _, rfl, rowL (SqL.of upd_same) py (by omega), rowT (st_same s9 (st_same s8 (st_same sm ha))) px (by omega), ?_⟩
      rw [checkTwo_pool py px]
      intro v2 H9 s10 gv2
      have ev2 : v2 = .bl (mixF (ys, xs)) := gv2
      rw [ev2, mix_symm]
      walk_at "u"
      exact ⟨_, rfl, _, _, _, rfl, .bl _, .bl _, by simp [okD], by simp [nodes], fun H8 s11 => ⟨_, rfl, rfl, ((s8.trans s9).trans s10).trans s11⟩⟩
    rintro _ H7 ⟨rfl, s7⟩
    replace sm := sm.trans s7
    replace g1 := gRoot_same s7 g1
    replace g2 := gRoot_same s7 g2
    clear s7
    refine iteF ?_
    have two : ∀ z ∈ [xs, ys], PoolL z := fun z hz => by
      rcases List.mem_cons.mp hz with e | hz
      · rw [e]; exact px
      · rw [List.mem_singleton.mp hz]; exact py
    have ckr : checkRs (some [some xs, some ys]) = .ok [xs, ys] := checkRs_pool (xss := [xs, ys]) two
    have xss : Xss [xs, ys] := ⟨fun z hz => by
      rcases List.mem_cons.mp hz with e | hz
      · rw [e]; exact ⟨sx, by omega⟩
      · rw [List.mem_singleton.mp hz]; exact ⟨sy, by omega⟩, by show 2 ≤ 1000; decide⟩
    -- orders_steady, common_root
    refine ⟨fun b' H' => b' = false ∧ Same H7 H', ?_, ?_⟩
    · refine ⟨_, rfl, _, rfl, b, ys, rfl, .inr (st_same sm hb), fun l hl => ⟨by show 2 ≤ sizeLine; decide, fun t ht => ?_⟩⟩
      have s5 := (same_new (o := .lst ys) hl).trans (same_new (o := .tup [.ref a, .ref l]) ht)
      have hl5 : SqL K (upd (upd H7 l (.lst ys)) t (.tup [.ref a, .ref l])) l ys := (same_new ht).seq (SqL.of upd_same)
      refine ⟨_, some [some xs, some ys], rfl, .tup (SqT.of upd_same) (.cons (rowT (st_same s5 (st_same sm ha)) px (by omega)) (.cons (rowL hl5 py (by omega)) .nil)) (by show 2 ≤ 1000; decide), ?_⟩
      rw [ckr]
      intro v H8 s6 gv
      have ev : v = .bl (rowsRoot [xs, ys]).isSome := gv
      rw [ev, orders_law]
      walk_at "u"
      refine ⟨_, rfl, _, _, _, rfl, .bl _, .bl _, by simp [okD], by simp [nodes], fun H9 s7 => ⟨_, rfl, iteF ?_⟩⟩
      have s8 := (s5.trans s6).trans s7
      refine ⟨_, rfl, _, rfl, by show 2 ≤ sizeLine; decide, fun l2 hl2 => ?_⟩
      have s9 := s8.trans (same_new (o := .lst [.ref a, .ref b]) hl2)
      refine ⟨_, some [some xs, some ys], rfl, .lst (SqL.of upd_same) (.cons (rowT (st_same s9 (st_same sm ha)) px (by omega)) (.cons (rowT (st_same s9 (st_same sm hb)) py (by omega)) .nil)) (by show 2 ≤ 1000; decide), ?_⟩
      rw [ckr]
      intro v2 H10 s10 gv2
      replace gv2 : gOpt K (rowsRoot [xs, ys]) v2 H10 := gv2
      replace s9 := s9.trans s10
      walk_at "u"
      refine ⟨_, rfl, _, rfl, by show 2 ≤ sizeLine; decide, fun t2 ht2 => ?_⟩
      have s11 := same_new (o := .tup [.ref a, .ref b]) ht2
      refine ⟨t2, [.ref a, .ref b], [xs, ys], rfl, .inl (SqT.of upd_same), .cons ⟨a, rfl, st_same s11 (st_same s9 (st_same sm ha))⟩ (.cons ⟨b, rfl, st_same s11 (st_same s9 (st_same sm hb))⟩ .nil), xss, fun v3 H11 s12 gv3 => ?_⟩
      obtain ⟨ok1, ok2⟩ := okD_opt xss.1
      exact ⟨v2, v3, _, rfl, dp_opt (gOpt_same s12 (gOpt_same s11 gv2)) xss.1, dp_opt gv3 xss.1, ok1, ok2, fun H12 s13 => ⟨_, rfl, rfl, ((s9.trans s11).trans s12).trans s13⟩⟩
    rintro _ H8 ⟨rfl, s8⟩
    replace sm := sm.trans s8
    replace g1 := gRoot_same s8 g1
    replace g2 := gRoot_same s8 g2
    clear s8
    refine iteF ?_
    -- both are powers of one root
    refine ⟨fun b' H' => (b' = true → xs ++ ys = ys ++ xs ∧ xs ≠ [] ∧ ys ≠ []) ∧ H8 = H', ?_, ?_⟩
    · refine ⟨_, rfl, _, rfl, ?_⟩
      cases ec : decide (xs ++ ys = ys ++ xs) with
      | false => exact iteF ⟨(fun z => by cases z), rfl⟩
      | true =>
        refine iteT ⟨_, rfl, a, xs, rfl, .inr (st_same sm ha), _, _, rfl, rfl, _, rfl, ?_⟩
        rw [len_pos]
        cases ex : xs with
        | nil => exact iteF ⟨(fun z => by cases z), rfl⟩
        | cons x0 xr =>
          refine iteT ⟨_, rfl, b, ys, rfl, .inr (st_same sm hb), _, _, rfl, rfl, _, rfl, ?_⟩
          rw [len_pos]
          cases ey : ys with
          | nil => exact iteF ⟨(fun z => by cases z), rfl⟩
          | cons y0 yr =>
            refine iteT ⟨_, rfl, a, xs, rfl, .inr (st_same sm ha), _, rfl, b, ys, rfl, .inr (st_same sm hb), _, _, rfl, rfl, _, _, rfl, rfl, _, rfl, fun _ => ⟨?_, (fun z => by cases z), (fun z => by cases z)⟩, rfl⟩
            rw [← ex, ← ey]
            exact of_decide_eq_true ec
    rintro b' _ ⟨hb', rfl⟩
    cases b' with
    | false => exact iteF (q H8 sm)
    | true =>
      obtain ⟨hc, nx, ny⟩ := hb' rfl
      have rc := root_cat nx ny hc
      refine iteT ⟨_, rfl, _, rfl, r_catA (st_same sm ha) (st_same sm hb) small fun p9 H9 s9 h9 => ?_⟩
      refine ⟨_, _, rfl, rowT h9 (px.cat py) (by rw [List.length_append]; omega), ?_⟩
      rw [checkE_pool (px.cat py)]
      intro v H10 s10 gv
      replace gv : gRoot K (rootF (xs ++ ys)) v H10 := gv
      obtain ⟨p3, q3, e3, hp3, hq3⟩ := gRoot_same (s9.trans s10) g1
      obtain ⟨p4, q4, e4, hp4, hq4⟩ := gRoot_same (s9.trans s10) g2
      cases e3
      cases e4
      walk_at "u"
      refine ⟨_, rfl, p3, _, 0, _, rfl, rfl, hp3, atI_nat (j := 0) rfl, _, rfl, p3, _, 1, _, rfl, rfl, hp3, atI_nat (j := 1) rfl, _, rfl, p4, _, 1, _, rfl, rfl, hp4, atI_nat (j := 1) rfl, _, _, rfl, rfl, by show 2 ≤ sizeLine; decide, fun t ht => ?_⟩
      have s11 := same_new (o := .tup [.ref q3, .int (((rootF xs).2 : Nat) + ((rootF ys).2 : Nat))]) ht
      have sc2 : (rootF (xs ++ ys)).1.all sc = true := rootF_sc (px.cat py).sc
      have ln2 : (rootF (xs ++ ys)).1.length ≤ 1000 := Nat.le_trans (rootF_len _) (by rw [List.length_append]; omega)
      obtain ⟨ok1, ok2⟩ := okD_root sc2 ln2
      refine ⟨v, _, dRoot (rootF (xs ++ ys)), rfl, dp_root (gRoot_same s11 gv) sc2, ?_, ok1, ok2, fun H12 s12 => q H12 ((((sm.trans s9).trans s10).trans s11).trans s12)⟩
      refine dp_root ⟨t, q3, rfl, ?_, ?_⟩ sc2
      · rw [rc]
        exact SqT.of upd_same
      · rw [rc]
        exact st_same s11 hq3
end
end K65

namespace K65
open PySem PySem.Spec PyProof.Rows L2 KR KK
local macro_rules | `(tactic| walk_at "u") => `(tactic| try dsimp only [tSeq, tCutS, tCutE, tCutT, tIfS, tRet, tRetN, tNext, tBreak, tCont, tDrop, tAsg, gName, gTup, gCons, gNil, tOr, tAnd, tNot, tB, tTest, tCB, tCons, tNil, tC, tVar, tAndV, tOrV, tNotV, tOp, tUn, tIf, tIsN, tNotN, tTup, tLst, tCall, tCallS, tBM, tBM0, tSl, tPart, tNoPart, tYes, iList, iTup, iSeq, iStr, iRng1, iRng2, iEnumA, rI, rI0, rU, cxOf, Cx.nox, Cx.wish, L2.start, List.map, List.set, Nat.repeat, List.length_cons, List.length_nil, List.replicate, List.nil_append, List.cons_append, List.append_nil, Nat.reduceAdd, Nat.reduceSub, E0, tBad, tTr])

section
variable {P : Program} {w : World} {K : PySem.W.Frag} {mg : Str → Option Value} {base : Heap}
theorem root_true {H : Hp} {xs : List V} {told due : V} {Q : VK} (px : PoolL xs) (l : xs.length ≤ 1000) (g1 : gRoot K (rootF xs) told H) (g2 : gRoot K (rootF xs) due H) (q : ∀ H', Same H H' → Q (.bl true) H') : spEqual K [told, due] H Q E0 := by
  obtain ⟨o1, o2⟩ := okD_root (rootF_sc px.sc) (Nat.le_trans (rootF_len xs) l)
  exact ⟨told, due, _, rfl, dp_root g1 (rootF_sc px.sc), dp_root g2 (rootF_sc px.sc), o1, o2, q⟩
theorem opt_true {H : Hp} {xss : List (List V)} {told due : V} {Q : VK} (hx : ∀ xs ∈ xss, xs.all sc = true ∧ xs.length ≤ 1000) (g1 : gOpt K (rowsRoot xss) told H) (g2 : gOpt K (rowsRoot xss) due H) (q : ∀ H', Same H H' → Q (.bl true) H') : spEqual K [told, due] H Q E0 := by
  obtain ⟨o1, o2⟩ := okD_opt hx
  exact ⟨told, due, _, rfl, dp_opt g1 hx, dp_opt g2 hx, o1, o2, q⟩
theorem bool_true {H : Hp} {b : Bool} {Q : VK} (q : ∀ H', Same H H' → Q (.bl true) H') : spEqual K [.bl b, .bl b] H Q E0 :=
  ⟨_, _, _, rfl, .bl b, .bl b, by simp [okD], by simp [nodes], q⟩
def spRowsRight (K : PySem.W.Frag) : Sp := fun vs H Q _ => ∃ a rs xss, vs = [.ref a] ∧ SqL K H a rs ∧ Paired (IsT K H) rs xss ∧ (∀ xs ∈ xss, PoolL xs ∧ xs.length ≤ 200) ∧ xss.length ≤ 5 ∧ ∀ H', Same H H' → Q (.bl true) H'
theorem pair_some {H : Hp} {rs : List V} {xss : List (List V)} (h : Paired (IsT K H) rs xss) (hx : ∀ xs ∈ xss, PoolL xs ∧ xs.length ≤ 200) : Paired (RowA K H) rs (xss.map some) := by
  induction h with
  | nil => exact .nil
  | @cons x xs r rs hx1 hr ih =>
    obtain ⟨a, rfl, ha⟩ := hx1
    have h1 := hx xs List.mem_cons_self
    exact .cons (rowT ha h1.1 (by omega)) (ih fun y hy => hx y (List.mem_cons_of_mem _ hy))
theorem ok_law_rows_right {f : Addr} {fd : FuncData} (B : Bi mg) (T : BadF P w K mg base) (F : Fun K "_law_rows_right" "_law_rows_right" s_law_rows_right f fd)
    (Claw_root : Cal P w K mg base CX0 1 "_law_root" p_law_root (spRoot K)) (Claw_equal : Cal P w K mg base CX0 1 "_law_equal" p_law_equal (spEqual K)) (Claw_common : Cal P w K mg base CX0 2 "_law_common" p_law_common (spCommonL K))
    (Claw_pair_right : Cal P w K mg base CX0 6 "_law_pair_right" p_law_pair_right (spPair K))
    (Corders_steady : Cal P w K mg base (L2.CX P w) 4 "orders_steady" p_orders_steady (spOrders K T.C)) (Ccommon_root : Cal P w K mg base (L2.CX P w) 4 "common_root" p_common_root (spCommonRoot K T.C))
    (Croot_of : Cal P w K mg base (L2.CX P w) 4 "root_of" p_root_of (spRootOf K T.C)) : FnOk P w K mg base CX0 7 f fd p_law_rows_right (spRowsRight K) := by
  refine F.ok sc_law_rows_right (fun vs H Q E h => ?_) (fun cdv A outer s H vs Q E hr h => ?_)
  · obtain ⟨a, rs, xss, rfl, _⟩ := h
    rfl
  · obtain ⟨a, rs, xss, rfl, hL, fr, hx, hxl, q⟩ := h
    refine ⟨_, (pss_cons (ps_set (i := 1) sc_law_rows_right.nd rfl (by first | exact .inl rfl | exact .inr rfl) (pe_call Claw_common.G (hr.mono (by decide)) (by rfl) Claw_common.g Claw_common.kp Claw_common.b .nil pass0 (pa_cons (pv 0) pa_nil)))
      (pss_cons (ps_for PassesOwn.never rfl (pi_list (pv 0)) (pg_name (i := 2) sc_law_rows_right.nd rfl (by first | exact .inl rfl | exact .inr rfl))
      (pss_one (ps_if (pt_cut (PW.pt (pw_or (pt_not (pt_val (pe_call Claw_equal.G (hr.mono (by decide)) (by rfl) Claw_equal.g Claw_equal.kp Claw_equal.b .nil pass0 (pa_cons (pe_call Croot_of.G (hr.mono (by decide)) (by rfl) Croot_of.g Croot_of.kp Croot_of.b .nil passL (pa_cons (pv 2) pa_nil)) (pa_cons (pe_call Claw_root.G (hr.mono (by decide)) (by rfl) Claw_root.g Claw_root.kp Claw_root.b .nil pass0 (pa_cons (pv 2) pa_nil)) pa_nil))))) (pw_or1 (pt_not (pt_val (pe_call Claw_equal.G (hr.mono (by decide)) (by rfl) Claw_equal.g Claw_equal.kp Claw_equal.b .nil pass0 (pa_cons (pe_call Croot_of.G (hr.mono (by decide)) (by rfl) Croot_of.g Croot_of.kp Croot_of.b .nil passL (pa_cons (pe_callTy (call_listK (K := K) rfl) (by rfl) B.list_ (by decide +kernel) (pa_cons (pv 2) pa_nil)) pa_nil)) (pa_cons (pe_call Claw_root.G (hr.mono (by decide)) (by rfl) Claw_root.g Claw_root.kp Claw_root.b .nil pass0 (pa_cons (pv 2) pa_nil)) pa_nil)))))))))
      (pss_one (ps_ret pe_bl))
      pss_nil)))
      (pss_cons (ps_if (pt_cut (PW.pt (pw_or (pt_not (pt_val (pe_call Claw_equal.G (hr.mono (by decide)) (by rfl) Claw_equal.g Claw_equal.kp Claw_equal.b .nil pass0 (pa_cons (pe_call Ccommon_root.G (hr.mono (by decide)) (by rfl) Ccommon_root.g Ccommon_root.kp Ccommon_root.b .nil passL (pa_cons (pe_callTy (call_tupK (K := K) rfl) (by rfl) B.tuple_ (by decide +kernel) (pa_cons (pv 0) pa_nil)) pa_nil)) (pa_cons (pv 1) pa_nil))))) (pw_or1 (pt_not (pt_val (pe_call Claw_equal.G (hr.mono (by decide)) (by rfl) Claw_equal.g Claw_equal.kp Claw_equal.b .nil pass0 (pa_cons (pe_call Ccommon_root.G (hr.mono (by decide)) (by rfl) Ccommon_root.g Ccommon_root.kp Ccommon_root.b .nil passL (pa_cons (pe_lc (own := [("row", 2)]) (by rfl) sc_law_rows_right.nd (pi_list (pv 0)) (blkOk_by (own := [("row", 2)]) (N := n_law_rows_right) (sc := defScope s_law_rows_right) (by decide +kernel)) (fun _ _ _ _ _ => (pg_name (i := 2) sc_law_rows_right.nd rfl (by first | exact .inl rfl | exact .inr rfl))) (fun _ _ _ _ _ => pts_nil) (fun _ _ _ _ _ => (pe_callTy (call_listK (K := K) rfl) (by rfl) B.list_ (by decide +kernel) (pa_cons (pv 2) pa_nil)))) pa_nil)) (pa_cons (pv 1) pa_nil)))))))))
      (pss_one (ps_ret pe_bl))
      pss_nil)
      (pss_cons (ps_if (pt_not (pt_val (pe_call Claw_equal.G (hr.mono (by decide)) (by rfl) Claw_equal.g Claw_equal.kp Claw_equal.b .nil pass0 (pa_cons (pe_call Corders_steady.G (hr.mono (by decide)) (by rfl) Corders_steady.g Corders_steady.kp Corders_steady.b .nil passL (pa_cons (pe_callTy (call_listK (K := K) rfl) (by rfl) B.list_ (by decide +kernel) (pa_cons (pv 0) pa_nil)) pa_nil)) (pa_cons (pe_cmp (pc_notN (pv 1)) rfl) pa_nil)))))
      (pss_one (ps_ret pe_bl))
      pss_nil)
      (pss_cons (ps_for PassesOwn.never rfl (pi_range1 rfl B.range (pa_cons (pe_callB (call_lenK (K := K) rfl) (by rfl) B.len PySem.boot_len (pa_cons (pv 0) pa_nil)) pa_nil)) (pg_name (i := 3) sc_law_rows_right.nd rfl (by first | exact .inl rfl | exact .inr rfl))
      (pss_one (ps_for PassesOwn.never rfl (pi_range2 rfl B.range (pa_cons (pv 3) (pa_cons (pe_callB (call_lenK (K := K) rfl) (by rfl) B.len PySem.boot_len (pa_cons (pv 0) pa_nil)) pa_nil))) (pg_name (i := 4) sc_law_rows_right.nd rfl (by first | exact .inl rfl | exact .inr rfl))
      (pss_one (ps_if (pt_not (pt_val (pe_call Claw_pair_right.G (hr.mono (by decide)) (by rfl) Claw_pair_right.g Claw_pair_right.kp Claw_pair_right.b .nil pass0 (pa_cons (pe_ix (ix_listK (K := K) rfl) (pv 0) (pv 3) (fun _ _ => rfl)) (pa_cons (pe_ix (ix_listK (K := K) rfl) (pv 0) (pv 4) (fun _ _ => rfl)) pa_nil)))))
      (pss_one (ps_ret pe_bl))
      pss_nil)))))
      (pss_one (ps_ret (pe_cut (pe_and (pe_call Claw_equal.G (hr.mono (by decide)) (by rfl) Claw_equal.g Claw_equal.kp Claw_equal.b .nil pass0 (pa_cons (pe_call Ccommon_root.G (hr.mono (by decide)) (by rfl) Ccommon_root.g Ccommon_root.kp Ccommon_root.b .nil passL (pa_cons (pe_tup pa_nil) pa_nil)) (pa_cons (pe_tup pa_nil) pa_nil))) (pe_and (pe_call Claw_equal.G (hr.mono (by decide)) (by rfl) Claw_equal.g Claw_equal.kp Claw_equal.b .nil pass0 (pa_cons (pe_call Corders_steady.G (hr.mono (by decide)) (by rfl) Corders_steady.g Corders_steady.kp Corders_steady.b .nil passL (pa_cons (pe_lst pa_nil) pa_nil)) (pa_cons pe_bl pa_nil))) (pe_one (pe_call Claw_equal.G (hr.mono (by decide)) (by rfl) Claw_equal.g Claw_equal.kp Claw_equal.b .nil pass0 (pa_cons (pe_call Ccommon_root.G (hr.mono (by decide)) (by rfl) Ccommon_root.g Ccommon_root.kp Ccommon_root.b .nil passL (pa_cons (pe_lst (pa_cons (pe_lst pa_nil) (pa_cons (pe_tup pa_nil) pa_nil))) pa_nil)) (pa_cons (pe_tup pa_nil) pa_nil)))))))))))))), ?_⟩
    walk_at "u"
    have hlen : rs.length = xss.length := Paired.length fr
    have hX : Xss xss := ⟨fun xs h => ⟨(hx xs h).1.sc, by have := (hx xs h).2; omega⟩, by omega⟩
    have hP : ∀ xs ∈ xss, PoolL xs := fun xs h => (hx xs h).1
    have ckr : checkRs (some (xss.map some)) = .ok xss := checkRs_pool hP
    refine ⟨_, rfl, a, rs, xss, rfl, .inr hL, fr, hX, fun v0 H1 s1 g0 => ?_⟩
    walk_at "u"
    -- for row in rows
    refine t_for (H1 := H1) (walk_list (xs := rs)) (fun R r => ⟨_, rfl, a, rfl, ⟨_, s1.seq hL⟩, r⟩) (fun i σ H' => Same H1 H' ∧ ∃ y2 y3 y4, σ = [some (.ref a), some v0, y2, y3, y4]) ⟨Same.refl _, _, _, _, rfl⟩ (fun i σ H' _ p => (s1.trans p.1).seq hL) (fun i x σ H2 H3 hi p y => ?_) (fun σ H2 p => ?_)
    · obtain ⟨sm, y2, y3, y4, rfl⟩ := p
      obtain ⟨rfl, f2⟩ := y
      walk_at "u"
      obtain ⟨xs, exs, ax, rfl, hT0⟩ := pair_at fr f2
      obtain ⟨px, lx⟩ := hx xs (List.mem_of_getElem? exs)
      have hT := st_same (s1.trans sm) hT0
      refine ⟨fun b' H' => b' = false ∧ Same H3 H', ?_, ?_⟩
      · refine ⟨_, rfl, _, _, rfl, rowT hT px (by omega), ?_⟩
        rw [checkE_pool px]
        intro v1 H4 s4 g1
        walk_at "u"
        refine ⟨_, rfl, ax, xs, rfl, st_same s4 hT, px.sc, by omega, fun v2 H5 s5 g2 => root_true px (by omega) (gRoot_same s5 g1) g2 fun H6 s6 => ⟨_, rfl, iteF ?_⟩⟩
        have s7 := (s4.trans s5).trans s6
        refine ⟨_, rfl, ax, xs, rfl, .inr (st_same s7 hT), fun l hl => ?_⟩
        refine ⟨_, _, rfl, rowL (SqL.of upd_same) px (by omega), ?_⟩
        rw [checkE_pool px]
        intro v3 H8 s8 g3
        have s9 := (s7.trans (same_new hl)).trans s8
        walk_at "u"
        exact ⟨_, rfl, ax, xs, rfl, st_same s9 hT, px.sc, by omega, fun v4 H10 s10 g4 => root_true px (by omega) (gRoot_same s10 g3) g4 fun H11 s11 => ⟨_, rfl, rfl, (s9.trans s10).trans s11⟩⟩
      · rintro _ H4 ⟨rfl, s4⟩
        exact iteF ⟨sm.trans s4, _, _, _, rfl⟩
    obtain ⟨sm, y2, y3, y4, rfl⟩ := p
    replace g0 := gOpt_same sm g0
    replace sm := s1.trans sm
    clear s1
    walk_at "u"
    -- common_root, twice
    refine ⟨fun b' H' => b' = false ∧ Same H2 H', ?_, ?_⟩
    · refine ⟨_, rfl, a, rs, rfl, .inl ⟨sm.seq hL, fun t ht => ?_⟩⟩
      have s3 := same_new (o := .tup rs) ht
      refine ⟨_, some (xss.map some), rfl, .tup (SqT.of upd_same) (pair_some (pair_isT (sm.trans s3) fr) hx) (by omega), ?_⟩
      rw [ckr]
      intro v1 H4 s4 g1
      walk_at "u"
      refine ⟨_, rfl, opt_true hX.1 g1 (gOpt_same (s3.trans s4) g0) fun H5 s5 => ⟨_, rfl, iteF ?_⟩⟩
      have s6 := (s3.trans s4).trans s5
      refine t_lc (H1 := H5) (walk_list (xs := rs)) (fun R r => ⟨_, rfl, a, rfl, ⟨_, (sm.trans s6).seq hL⟩, r⟩) (fun D i H' => Same H5 H' ∧ ∃ ts, H' D = some (.lst ts) ∧ Paired (fun x xs => ∃ l, x = V.ref l ∧ l ≠ D ∧ H' l = some (.lst xs)) ts (xss.take i) ∧ ts.length = i)
        (fun D hD => ⟨same_new hD, [], upd_same, .nil, rfl⟩) (fun D i H' _ p => ((sm.trans s6).trans p.1).seq hL) (fun D hD i x H7 H8 hi p y => ?_) (fun D hD H7 p => ?_)
      · obtain ⟨sm2, ts, eD, pt, lt⟩ := p
        obtain ⟨rfl, f2⟩ := y
        walk_at "u"
        obtain ⟨xs, exs, ax, rfl, hT0⟩ := pair_at fr f2
        refine ⟨rfl, iteT ⟨_, rfl, ax, xs, rfl, .inr (st_same ((sm.trans s6).trans sm2) hT0), fun l hl => ?_⟩⟩
        have s9 := same_new (o := .lst xs) hl
        have nl : l ≠ D := fun z => by rw [z, eD] at hl; cases hl
        refine ⟨ts, s9 _ _ eD, small1000 (by omega), same_mut hD ((SameB.of (sm2.trans s9)).trans SameB.upd), ts ++ [.ref l], upd_same, ?_, by rw [List.length_append, lt]; rfl⟩
        rw [List.take_add_one, exs]
        refine pair_cat (L2.Paired.mapP pt fun _ _ ⟨l2, r2, n2, e2⟩ => ⟨l2, r2, n2, by rw [upd_ne n2]; exact s9 _ _ e2⟩) (.cons ⟨l, rfl, nl, by rw [upd_ne nl, upd_same]⟩ .nil)
      · obtain ⟨sm2, ts, eD, pt, lt⟩ := p
        rw [hlen, List.take_length] at pt
        have prw : Paired (RowA K H7) ts (xss.map some) := by
          have key : ∀ {ts : List V} {yss : List (List V)}, Paired (fun x xs => ∃ l, x = V.ref l ∧ l ≠ D ∧ H7 l = some (.lst xs)) ts yss → (∀ xs ∈ yss, PoolL xs ∧ xs.length ≤ 200) → Paired (RowA K H7) ts (yss.map some) := by
            intro ts yss h hy
            induction h with
            | nil => exact .nil
            | @cons x xs r rs hx1 hr ih =>
              obtain ⟨l, rfl, _, hl⟩ := hx1
              have h1 := hy xs List.mem_cons_self
              exact .cons (rowL (SqL.of hl) h1.1 (by omega)) (ih fun y hz => hy y (List.mem_cons_of_mem _ hz))
          exact key pt hx
        refine ⟨_, some (xss.map some), rfl, .lst (SqL.of eD) prw (by omega), ?_⟩
        rw [ckr]
        intro v2 H8 s8 g2
        walk_at "u"
        exact ⟨_, rfl, opt_true hX.1 g2 (gOpt_same ((s6.trans sm2).trans s8) g0) fun H9 s9 => ⟨_, rfl, rfl, ((s6.trans sm2).trans s8).trans s9⟩⟩
    rintro _ H3 ⟨rfl, s3⟩
    replace g0 := gOpt_same s3 g0
    replace sm := sm.trans s3
    clear s3
    refine iteF ?_
    -- orders_steady
    refine ⟨_, rfl, a, rs, rfl, .inl (sm.seq hL), fun l hl => ?_⟩
    have s4 := same_new (o := .lst rs) hl
    refine ⟨_, some (xss.map some), rfl, .lst (SqL.of upd_same) (pair_some (pair_isT (sm.trans s4) fr) hx) (by omega), ?_⟩
    rw [ckr]
    intro v1 H5 s5 g1
    have ev : v1 = .bl (rowsRoot xss).isSome := g1
    rw [ev]
    walk_at "u"
    refine ⟨_, rfl, ?_⟩
    have e0 : (!decide (v0 = V.non)) = (rowsRoot xss).isSome := by
      cases e : rowsRoot xss with
      | none =>
        rw [e] at g0
        have hv : v0 = .non := g0
        rw [hv]
        rfl
      | some r =>
        rw [e] at g0
        obtain ⟨a0, hv, _⟩ := g0
        rw [hv, decide_eq_false (fun z => by cases z)]
        rfl
    rw [e0]
    refine bool_true fun H6 s6 => ⟨_, rfl, iteF ?_⟩
    replace sm := ((sm.trans s4).trans s5).trans s6
    clear g0 e0 g1 s4 s5 s6 hl
    walk_at "u"
    -- each two rows
    have hl5 : rs.length ≤ 5 := by omega
    refine t_for (H1 := H6) (walk_range (lo := 0) (n := rs.length)) (fun R r => by
      walk_at "u"
      exact ⟨_, rfl, a, rs, rfl, .inl (sm.seq hL), _, rfl, by omega, by omega, by rw [Int.toNat_natCast]; exact r⟩) (fun i σ H' => Same H H' ∧ ∃ y2 y3 y4, σ = [some (.ref a), some v0, y2, y3, y4]) ⟨sm, _, _, _, rfl⟩ (fun _ _ _ _ _ => trivial) (fun i x σ H7 H8 hi p y => ?_) (fun σ H7 p => ?_)
    · obtain ⟨sm7, y2, y3, y4, rfl⟩ := p
      obtain ⟨rfl, rfl⟩ := y
      walk_at "u"
      have ei : (0 : Int) + (i : Nat) = ((i : Nat) : Int) := by omega
      rw [ei]
      refine t_for (H1 := H8) (walk_range (lo := (i : Nat)) (n := rs.length - i)) (fun R r => by
        walk_at "u"
        refine ⟨_, rfl, _, rfl, a, rs, rfl, .inl (sm7.seq hL), _, _, rfl, ⟨by omega, by omega, by omega, by omega⟩, ?_⟩
        have e : (((rs.length : Nat) : Int) - ((i : Nat) : Int)).toNat = rs.length - i := by omega
        rw [e]
        exact r) (fun j σ H' => Same H H' ∧ ∃ y4, σ = [some (.ref a), some v0, y2, some (.int (i : Nat)), y4]) ⟨sm7, _, rfl⟩ (fun _ _ _ _ _ => trivial) (fun j x σ H9 H10 hj p y => ?_) (fun σ H9 p => ?_)
      · obtain ⟨sm10, y4, rfl⟩ := p
        obtain ⟨rfl, rfl⟩ := y
        walk_at "u"
        have h2 : i + j < rs.length := by omega
        obtain ⟨xs, exs, ax, eax, hTx⟩ := pair_at fr (List.getElem?_eq_getElem hi)
        obtain ⟨ys, eys, ay, eay, hTy⟩ := pair_at fr (List.getElem?_eq_getElem h2)
        refine ⟨_, rfl, _, rfl, a, rs, _, .ref ax, rfl, rfl, sm10.seq hL, at_of (j := i) rfl (by rw [List.getElem?_eq_getElem hi, eax]), _, rfl, _, rfl, a, rs, _, .ref ay, rfl, rfl, sm10.seq hL, at_of (j := i + j) (by omega) (by rw [List.getElem?_eq_getElem h2, eay]), ?_⟩
        exact ⟨ax, ay, xs, ys, rfl, st_same sm10 hTx, st_same sm10 hTy, hx xs (List.mem_of_getElem? exs), hx ys (List.mem_of_getElem? eys), fun H11 s11 => ⟨_, rfl, iteF ⟨sm10.trans s11, _, rfl⟩⟩⟩
      · obtain ⟨sm10, y4, rfl⟩ := p
        exact ⟨sm10, _, _, _, rfl⟩
    obtain ⟨sm7, y2, y3, y4, rfl⟩ := p
    walk_at "u"
    -- the empty ones
    refine ⟨fun v H' => v = .bl true ∧ Same H7 H', ?_, ?_⟩
    · refine ⟨Nat.zero_le _, fun t ht => ?_⟩
      have n0 : ∀ xs ∈ ([] : List (List V)), xs.all sc = true ∧ xs.length ≤ 1000 := fun xs h => by cases h
      have n2 : ∀ xs ∈ ([[], []] : List (List V)), PoolL xs := fun xs h x hx => by
        rcases List.mem_cons.mp h with e | e
        · rw [e] at hx; cases hx
        · rw [List.mem_singleton.mp e] at hx; cases hx
      have n3 : ∀ xs ∈ ([[], []] : List (List V)), xs.all sc = true ∧ xs.length ≤ 1000 := fun xs h => by
        rcases List.mem_cons.mp h with e | e
        · rw [e]; exact ⟨rfl, by decide⟩
        · rw [List.mem_singleton.mp e]; exact ⟨rfl, by decide⟩
      refine ⟨_, some [], rfl, .tup (SqT.of upd_same) .nil (by decide), ?_⟩
      intro v2 H8 s8 g2
      replace g2 : gOpt K (rowsRoot []) v2 H8 := g2
      walk_at "u"
      refine ⟨Nat.zero_le _, fun t2 ht2 => opt_true n0 (gOpt_same (same_new ht2) g2) ⟨t2, rfl, SqT.of upd_same⟩ fun H9 s9 => ⟨_, rfl, iteT ⟨Nat.zero_le _, fun l hl => ?_⟩⟩⟩
      have s10 := (((same_new ht).trans s8).trans (same_new ht2)).trans s9
      refine ⟨_, some [], rfl, .lst (SqL.of upd_same) .nil (by decide), ?_⟩
      intro v3 H10 s11 g3
      have ev3 : v3 = .bl true := g3
      rw [ev3]
      walk_at "u"
      refine bool_true fun H11 s12 => ⟨_, rfl, iteT ⟨Nat.zero_le _, fun l1 hl1 => ⟨Nat.zero_le _, fun t3 ht3 => ⟨by show 2 ≤ sizeLine; decide, fun l2 hl2 => ?_⟩⟩⟩⟩
      have s13 := ((s10.trans (same_new hl)).trans s11).trans s12
      have s14 := ((s13.trans (same_new hl1)).trans (same_new ht3)).trans (same_new (o := .lst [.ref l1, .ref t3]) hl2)
      refine ⟨_, some [some [], some []], rfl, .lst (SqL.of upd_same) (.cons (.lst ((same_new hl2).seq ((same_new ht3).seq (SqL.of upd_same))) (fun x hx => by cases hx) (by decide)) (.cons (.tup (st_same (same_new hl2) (SqT.of upd_same)) (fun x hx => by cases hx) (by decide)) .nil)) (by show 2 ≤ 1000; decide), ?_⟩
      have ck2 : checkRs (some [some [], some []]) = .ok [[], []] := checkRs_pool (xss := [[], []]) n2
      rw [ck2]
      intro v4 H12 s15 g4
      replace g4 : gOpt K (rowsRoot [[], []]) v4 H12 := g4
      walk_at "u"
      refine ⟨Nat.zero_le _, fun t5 ht5 => opt_true n3 (gOpt_same (same_new ht5) g4) ⟨t5, rfl, SqT.of upd_same⟩ fun H13 s16 => ⟨rfl, ((s14.trans s15).trans (same_new ht5)).trans s16⟩⟩
    rintro _ H8 ⟨rfl, s8⟩
    exact q H8 (sm7.trans s8)
end
end K65

namespace K65
open PySem PySem.Spec PyProof.Rows L2 KR KK
local macro_rules | `(tactic| walk_at "u") => `(tactic| try dsimp only [tSeq, tCutS, tCutE, tCutT, tIfS, tRet, tRetN, tNext, tBreak, tCont, tDrop, tAsg, gName, gTup, gCons, gNil, tOr, tAnd, tNot, tB, tTest, tCB, tCons, tNil, tC, tVar, tAndV, tOrV, tNotV, tOp, tUn, tIf, tIsN, tNotN, tTup, tLst, tCall, tCallS, tBM, tBM0, tSl, tPart, tNoPart, tYes, iList, iTup, iSeq, iStr, iRng1, iRng2, iEnumA, rI, rI0, rU, cxOf, Cx.nox, Cx.wish, L2.start, List.map, List.set, Nat.repeat, List.length_cons, List.length_nil, List.replicate, List.nil_append, List.cons_append, List.append_nil, Nat.reduceAdd, Nat.reduceSub, E0, tBad, tTr])

section
variable {P : Program} {w : World} {K : PySem.W.Frag} {mg : Str → Option Value} {base : Heap}
/-- what is refused, and with what -/
inductive Asked (K : PySem.W.Frag) (H : Hp) : Int → V → V → PyData → Prop
  | root {one two : V} {o : Option (List V)} {z : PyData} (h : RowA K H one o) (e : checkE o = .bad z) : Asked K H 0 one two z
  | common {one two : V} {o : Option (List (Option (List V)))} {z : PyData} (h : RowsA K H one o) (e : checkRs o = .bad z) : Asked K H 1 one two z
  | orders {one two : V} {o : Option (List (Option (List V)))} {z : PyData} (h : RowsA K H one o) (e : checkRs o = .bad z) : Asked K H 2 one two z
  | comm {one two : V} {o1 o2 : Option (List V)} {z : PyData} (h1 : RowA K H one o1) (h2 : RowA K H two o2) (e : checkTwo o1 o2 = .bad z) : Asked K H 3 one two z
  | mix {one two : V} {o1 o2 : Option (List V)} {z : PyData} (h1 : RowA K H one o1) (h2 : RowA K H two o2) (e : checkTwo o1 o2 = .bad z) : Asked K H 4 one two z
theorem rowsA_same {H H' : Hp} {v : V} {o : Option (List (Option (List V)))} (e : Same H H') (h : RowsA K H v o) : RowsA K H' v o := by
  cases h with
  | tup h f l => exact .tup (st_same e h) (L2.Paired.mapP f fun _ _ z => z.same e) l
  | lst h f l => exact .lst (e.seq h) (L2.Paired.mapP f fun _ _ z => z.same e) l
  | no h => exact .no h
theorem Asked.same {H H' : Hp} {which : Int} {one two : V} {z : PyData} (e : Same H H') (h : Asked K H which one two z) : Asked K H' which one two z := by
  cases h with
  | root h g => exact .root (h.same e) g
  | common h g => exact .common (rowsA_same e h) g
  | orders h g => exact .orders (rowsA_same e h) g
  | comm h1 h2 g => exact .comm (h1.same e) (h2.same e) g
  | mix h1 h2 g => exact .mix (h1.same e) (h2.same e) g
def spHeard (K : PySem.W.Frag) : Sp := fun vs H Q _ => ∃ which one two z, vs = [.int which, one, two] ∧ Asked K H which one two z ∧ ∀ v H', Same H H' → Dp K H' v (.tuple [.str "row", z]) → Q v H'
theorem ok_law_heard {f : Addr} {fd : FuncData} (B : Bi mg) (T : BadF P w K mg base) (F : Fun K "_law_heard" "_law_heard" s_law_heard f fd)
    (Cdo_rows_commute : Cal P w K mg base (L2.CX P w) 5 "do_rows_commute" p_do_rows_commute (spCommute K T.C)) (Cmixings_steady : Cal P w K mg base (L2.CX P w) 5 "mixings_steady" p_mixings_steady (spMix K T.C))
    (Corders_steady : Cal P w K mg base (L2.CX P w) 4 "orders_steady" p_orders_steady (spOrders K T.C)) (Ccommon_root : Cal P w K mg base (L2.CX P w) 4 "common_root" p_common_root (spCommonRoot K T.C))
    (Croot_of : Cal P w K mg base (L2.CX P w) 4 "root_of" p_root_of (spRootOf K T.C)) : FnOk P w K mg base CX0 6 f fd p_law_heard (spHeard K) := by
  refine F.ok sc_law_heard (fun vs H Q E h => ?_) (fun cdv A outer s H vs Q E hr h => ?_)
  · obtain ⟨which, one, two, z, rfl, _⟩ := h
    rfl
  · obtain ⟨which, one, two, z, rfl, hA, q⟩ := h
    refine ⟨_, (pss_cons (ps_set (i := 3) sc_law_heard.nd rfl (by first | exact .inl rfl | exact .inr rfl) (pe_tup (pa_cons pe_str pa_nil)))
      (pss_cutS (ps_try_first (i := 4) rfl rfl sc_law_heard.nd rfl (by rfl) ⟨rfl, by decide, .inl T.T.gC⟩ (fun W pn xe tk hpa => (pss_one (ps_if (pt_cmpR op_eq (pv 0) pe_int (nomark _))
      (pss_one (ps_expr (pe_callS Croot_of.G (hr.mono (by decide)) (by rfl) Croot_of.g Croot_of.kp Croot_of.b (fun σ => passAt tk σ) (pa_cons (pv 1) pa_nil))))
      (pss_one (ps_if (pt_cmpR op_eq (pv 0) pe_int (nomark _))
      (pss_one (ps_expr (pe_callS Ccommon_root.G (hr.mono (by decide)) (by rfl) Ccommon_root.g Ccommon_root.kp Ccommon_root.b (fun σ => passAt tk σ) (pa_cons (pv 1) pa_nil))))
      (pss_one (ps_if (pt_cmpR op_eq (pv 0) pe_int (nomark _))
      (pss_one (ps_expr (pe_callS Corders_steady.G (hr.mono (by decide)) (by rfl) Corders_steady.g Corders_steady.kp Corders_steady.b (fun σ => passAt tk σ) (pa_cons (pv 1) pa_nil))))
      (pss_one (ps_if (pt_cmpR op_eq (pv 0) pe_int (nomark _))
      (pss_one (ps_expr (pe_callS Cdo_rows_commute.G (hr.mono (by decide)) (by rfl) Cdo_rows_commute.g Cdo_rows_commute.kp Cdo_rows_commute.b (fun σ => passAt tk σ) (pa_cons (pv 1) (pa_cons (pv 2) pa_nil)))))
      (pss_one (ps_expr (pe_callS Cmixings_steady.G (hr.mono (by decide)) (by rfl) Cmixings_steady.g Cmixings_steady.kp Cmixings_steady.b (fun σ => passAt tk σ) (pa_cons (pv 1) (pa_cons (pv 2) pa_nil)))))))))))))) (fun a oe cls d pn hz hf => (pss_one (ps_set (i := 3) sc_law_heard.nd rfl (by first | exact .inl rfl | exact .inr rfl) (pe_tup (pa_cons pe_str (pa_cons (pe_xf T.T.xf T.T.noA hz hf (pv 4)) pa_nil)))))))
      (pss_one (ps_ret (pv 3))))), ?_⟩
    walk_at "u"
    refine ⟨by show 1 ≤ sizeLine; decide, fun t ht => ?_⟩
    have s1 := same_new (o := .tup [.str "let"]) ht
    refine ⟨fun σ' H' => ∃ v, σ'[3]? = some (some v) ∧ Q v H', ?_, fun σ' H' h => h⟩
    have bad : ∀ d y H', Same (upd H t (.tup [.str "let"])) H' → H' d = some (.xd [("at", y)]) → Dp K H' y z →
        WE (wFirst K (Value.ref T.C) 4 (fun a cls d => tAsg (tTup (tCons (tC (V.str "row")) (tCons (tXf a cls d T.C "at" (tVar 4)) tNil))) (gName 3)) { nx := fun σ' H' => ∃ v, σ'[3]? = some (some v) ∧ Q v H', rt := Q })
          [some (V.int which), some one, some two, some (V.ref t), none] (.ref T.C) (some d) H' := fun d y H' s hd hy => by
      refine ⟨T.T.te, fun a ha => ?_⟩
      refine ⟨_, rfl, rfl, rfl, d, _, y, rfl, hd, by simp [List.lookup], by show 2 ≤ sizeLine; decide, fun t2 ht2 => ⟨.ref t2, rfl, ?_⟩⟩
      exact q _ _ ((s1.trans s).trans (same_new ht2)) (.tup (SqT.of upd_same) (.cons (.str _) (.cons (dp_same (same_new ht2) hy) .nil)))
    cases hA with
    | @root _ _ o _ h e =>
      refine ⟨_, rfl, rfl, true, rfl, iteT ⟨_, rfl, _, o, rfl, h.same s1, ?_⟩⟩
      rw [e]
      exact bad
    | @common _ _ o _ h e =>
      refine ⟨_, rfl, rfl, false, by decide, iteF ⟨_, rfl, rfl, true, rfl, iteT ⟨_, rfl, _, o, rfl, rowsA_same s1 h, ?_⟩⟩⟩
      rw [e]
      exact bad
    | @orders _ _ o _ h e =>
      refine ⟨_, rfl, rfl, false, by decide, iteF ⟨_, rfl, rfl, false, by decide, iteF ⟨_, rfl, rfl, true, rfl, iteT ⟨_, rfl, _, o, rfl, rowsA_same s1 h, ?_⟩⟩⟩⟩
      rw [e]
      exact bad
    | @comm _ _ o1 o2 _ h1 h2 e =>
      refine ⟨_, rfl, rfl, false, by decide, iteF ⟨_, rfl, rfl, false, by decide, iteF ⟨_, rfl, rfl, false, by decide, iteF ⟨_, rfl, rfl, true, rfl, iteT ⟨_, rfl, _, rfl, _, _, o1, o2, rfl, h1.same s1, h2.same s1, ?_⟩⟩⟩⟩⟩
      rw [e]
      exact bad
    | @mix _ _ o1 o2 _ h1 h2 e =>
      refine ⟨_, rfl, rfl, false, by decide, iteF ⟨_, rfl, rfl, false, by decide, iteF ⟨_, rfl, rfl, false, by decide, iteF ⟨_, rfl, rfl, false, by decide, iteF ⟨_, rfl, _, rfl, _, _, o1, o2, rfl, h1.same s1, h2.same s1, ?_⟩⟩⟩⟩⟩
      rw [e]
      exact bad
end
end K65

namespace K65
open PySem PySem.Spec PyProof.Rows L2 KR KK
local macro_rules | `(tactic| walk_at "u") => `(tactic| try dsimp only [tSeq, tCutS, tCutE, tCutT, tIfS, tRet, tRetN, tNext, tBreak, tCont, tDrop, tAsg, gName, gTup, gCons, gNil, tOr, tAnd, tNot, tB, tTest, tCB, tCons, tNil, tC, tVar, tAndV, tOrV, tNotV, tOp, tUn, tIf, tIsN, tNotN, tTup, tLst, tCall, tCallS, tBM, tBM0, tSl, tPart, tNoPart, tYes, iList, iTup, iSeq, iStr, iRng1, iRng2, iEnumA, rI, rI0, rU, cxOf, Cx.nox, Cx.wish, L2.start, List.map, List.set, Nat.repeat, List.length_cons, List.length_nil, List.replicate, List.nil_append, List.cons_append, List.append_nil, Nat.reduceAdd, Nat.reduceSub, E0, tBad, tTr])

theorem wrongGo_at {w : V} {ys : List V} (hw : entOk w = false) : ∀ {xs : List V} (i : Nat), (∀ x ∈ xs, entOk x = true) → wrongGo (xs ++ w :: ys) i = .int ((i + xs.length : Nat) : Int)
  | [], i, _ => by
    show (if entOk w then wrongGo ys (i + 1) else .int (i : Nat)) = _
    rw [hw]
    rfl
  | x :: r, i, h => by
    show (if entOk x then wrongGo (r ++ w :: ys) (i + 1) else .int (i : Nat)) = _
    rw [if_pos (h x List.mem_cons_self), wrongGo_at hw (i + 1) fun y hy => h y (List.mem_cons_of_mem _ hy), List.length_cons]
    congr 2
    omega
theorem firstBad_at {o : Option (List V)} {os : List (Option (List V))} (ho : wrongV o ≠ .non) : ∀ {xss : List (List V)} (i : Nat), (∀ xs ∈ xss, PoolL xs) → firstBad (xss.map some ++ o :: os) i = some (.tuple [.int ((i + xss.length : Nat) : Int), toD (wrongV o)])
  | [], i, _ => by
    show (if wrongV o = .non then firstBad os (i + 1) else some (.tuple [.int (i : Nat), toD (wrongV o)])) = _
    rw [if_neg ho]
    rfl
  | x :: r, i, h => by
    show (if wrongV (some x) = .non then firstBad (r.map some ++ o :: os) (i + 1) else _) = _
    rw [if_pos (right_pool (h x List.mem_cons_self)), firstBad_at ho (i + 1) fun y hy => h y (List.mem_cons_of_mem _ hy), List.length_cons]
    congr 5
    omega
section
variable {P : Program} {w : World} {K : PySem.W.Frag} {mg : Str → Option Value} {base : Heap}
/-- one thing asked, and the refusal due -/
def ItemA (K : PySem.W.Frag) (H : Hp) (x : V) : Prop := ∃ t wh one two y z, x = .ref t ∧ SqT K H t [.int wh, one, two, y] ∧ Asked K H wh one two z ∧ Dp K H y z ∧ okD z = true ∧ nodes z ≤ 1000
theorem ItemA.same {H H' : Hp} {x : V} (e : Same H H') (h : ItemA K H x) : ItemA K H' x := by
  obtain ⟨t, wh, one, two, y, z, r, h1, h2, h3, h4, h5⟩ := h
  exact ⟨t, wh, one, two, y, z, r, st_same e h1, h2.same e, dp_same e h3, h4, h5⟩
theorem item_mk {H : Hp} {t : Addr} {wh : Int} {one two y : V} {z : PyData} (ht : H t = none) (h : Asked K H wh one two z) (d : Dp K H y z) (o : okD z = true) (n : nodes z ≤ 1000) : ItemA K (upd H t (.tup [.int wh, one, two, y])) (.ref t) :=
  ⟨t, wh, one, two, y, z, rfl, SqT.of upd_same, h.same (same_new ht), dp_same (same_new ht) d, o, n⟩
theorem bent_wrong {xs : List V} {wv : V} {k : Nat} (px : PoolL xs) (hw : entOk wv = false) (hk : k ≤ xs.length) : wrongV (some (xs.take k ++ [wv] ++ xs.drop k ++ [.bl false])) = .int (k : Nat) := by
  show wrongGo _ 0 = _
  have e : xs.take k ++ [wv] ++ xs.drop k ++ [.bl false] = xs.take k ++ wv :: (xs.drop k ++ [.bl false]) := by simp
  have hl : (xs.take k).length = k := by rw [List.length_take]; omega
  rw [e, wrongGo_at hw 0 fun x hx => pool_ok (px x (List.mem_of_mem_take hx)), hl, Nat.zero_add]
theorem bad_of {o : Option (List V)} {k : Int} (h : wrongV o = .int k) : checkE o = .bad (.int k) := by
  unfold checkE
  rw [if_neg (by rw [h]; intro z; cases z), h]
  rfl
theorem two_bad1 {o1 o2 : Option (List V)} {z : PyData} (h : checkE o1 = .bad z) : checkTwo o1 o2 = .bad z := by
  unfold checkTwo
  rw [h]
theorem two_bad2 {xs : List V} {o2 : Option (List V)} {k : Int} (h : PoolL xs) (g : wrongV o2 = .int k) : checkTwo (some xs) o2 = .bad (.tuple [.int (-2), .int k]) := by
  unfold checkTwo
  rw [checkE_pool h]
  show (if wrongV o2 = .non then _ else _) = _
  rw [if_neg (by rw [g]; intro z; cases z), g]
  rfl
/-- the wrong value -/
theorem wrong_at {H : Hp} {t : Addr} {r : Int} (h0 : 0 ≤ r) (h1 : r < 9) (ht : SqT K H t [.str "a"]) :
    ∃ wv, atI [V.str "xY", .str "", .bl true, .str "abcdefghijklm", .non, .ref t, .str "9a", .str "**", .str "a b"] r = some wv ∧ Ent K H wv ∧ entOk wv = false ∧ isNameV wv = false := by
  obtain ⟨m, rfl⟩ : ∃ m : Nat, r = (m : Int) := ⟨r.toNat, by omega⟩
  have hm : m < 9 := by omega
  have key : ∀ m : Nat, m < 9 → ∃ wv, [V.str "xY", .str "", .bl true, .str "abcdefghijklm", .non, .ref t, .str "9a", .str "**", .str "a b"][m]? = some wv ∧ Ent K H wv ∧ entOk wv = false ∧ isNameV wv = false := by
    intro m hm
    match m, hm with
    | 0, _ => exact ⟨_, rfl, .flat (by decide +kernel), by decide +kernel, by decide +kernel⟩
    | 1, _ => exact ⟨_, rfl, .flat (by decide +kernel), by decide +kernel, by decide +kernel⟩
    | 2, _ => exact ⟨_, rfl, .flat (by decide +kernel), by decide +kernel, by decide +kernel⟩
    | 3, _ => exact ⟨_, rfl, .flat (by decide +kernel), by decide +kernel, by decide +kernel⟩
    | 4, _ => exact ⟨_, rfl, .flat (by decide +kernel), by decide +kernel, by decide +kernel⟩
    | 5, _ => exact ⟨_, rfl, .tup ht (by decide +kernel), rfl, rfl⟩
    | 6, _ => exact ⟨_, rfl, .flat (by decide +kernel), by decide +kernel, by decide +kernel⟩
    | 7, _ => exact ⟨_, rfl, .flat (by decide +kernel), by decide +kernel, by decide +kernel⟩
    | 8, _ => exact ⟨_, rfl, .flat (by decide +kernel), by decide +kernel, by decide +kernel⟩
  obtain ⟨wv, e, h2, h3, h4⟩ := key m hm
  exact ⟨wv, atI_nat e, h2, h3, h4⟩
theorem pair_take {α β : Type} {F : α → β → Prop} : ∀ {l₁ : List α} {l₂ : List β} (n : Nat), Paired F l₁ l₂ → Paired F (l₁.take n) (l₂.take n)
  | _, _, 0, _ => by rw [List.take_zero, List.take_zero]; exact .nil
  | _, _, n + 1, .nil => .nil
  | _, _, n + 1, .cons f r => .cons f (pair_take n r)
theorem pair_drop {α β : Type} {F : α → β → Prop} : ∀ {l₁ : List α} {l₂ : List β} (n : Nat), Paired F l₁ l₂ → Paired F (l₁.drop n) (l₂.drop n)
  | _, _, 0, h => h
  | _, _, n + 1, .nil => .nil
  | _, _, n + 1, .cons f r => pair_drop n r
/-- the list of what is asked -/
def AskL (K : PySem.W.Frag) (H : Hp) (L : Addr) (n : Nat) : Prop := ∃ items, H L = some (.lst items) ∧ (∀ x ∈ items, ItemA K H x) ∧ items.length ≤ n
theorem AskL.same {H H' : Hp} {L : Addr} {n : Nat} (e : Same H H') (h : AskL K H L n) : AskL K H' L n := by
  obtain ⟨items, h1, h2, h3⟩ := h
  exact ⟨items, e _ _ h1, fun x hx => (h2 x hx).same e, h3⟩
/-- asked + [..] -/
theorem r_more {H : Hp} {L l : Addr} {n m : Nat} {Q : VK} (h : AskL K H L n) (g : AskL K H l m) (hs : n + m ≤ 1000) (q : ∀ p H', Same H H' → AskL K H' p (n + m) → Q (.ref p) H') : rCat (.ref L) (.ref l) H Q := by
  obtain ⟨xs, h1, h2, h3⟩ := h
  obtain ⟨ys, g1, g2, g3⟩ := g
  refine ⟨L, l, xs, ys, rfl, rfl, h1, g1, small2000 (by omega), fun p hp => q p _ (same_new hp) ⟨xs ++ ys, upd_same, fun x hx => ?_, by rw [List.length_append]; omega⟩⟩
  rcases List.mem_append.mp hx with z | z
  · exact (h2 x z).same (same_new hp)
  · exact (g2 x z).same (same_new hp)
theorem askL_new {H : Hp} {l : Addr} {xs : List V} {n : Nat} (hl : H l = none) (h : ∀ x ∈ xs, ItemA K H x) (hn : xs.length ≤ n) : AskL K (upd H l (.lst xs)) l n := ⟨xs, upd_same, fun x hx => (h x hx).same (same_new hl), hn⟩
theorem asked12 {H : Hp} {wh : Int} {one two : V} {o : Option (List (Option (List V)))} {z : PyData} (hw : wh = 1 ∨ wh = 2) (h : RowsA K H one o) (e : checkRs o = .bad z) : Asked K H wh one two z := by
  rcases hw with rfl | rfl
  · exact .common h e
  · exact .orders h e
theorem asked34 {H : Hp} {wh : Int} {one two : V} {o1 o2 : Option (List V)} {z : PyData} (hw : wh = 3 ∨ wh = 4) (h1 : RowA K H one o1) (h2 : RowA K H two o2) (e : checkTwo o1 o2 = .bad z) : Asked K H wh one two z := by
  rcases hw with rfl | rfl
  · exact .comm h1 h2 e
  · exact .mix h1 h2 e
theorem dp_ints {H : Hp} {t : Addr} {i j : Int} : Dp K (upd H t (.tup [.int i, .int j])) (.ref t) (.tuple [.int i, .int j]) := .tup (SqT.of upd_same) (.cons (.int i) (.cons (.int j) .nil))
theorem okD_ints {i j : Int} : okD (.tuple [.int i, .int j]) = true ∧ nodes (.tuple [.int i, .int j]) ≤ 1000 := by
  constructor
  · simp [okD, okAll]
  · simp [nodes, nodesAll]
theorem okD_int {i : Int} : okD (.int i) = true ∧ nodes (.int i) ≤ 1000 := by
  constructor
  · simp [okD]
  · simp [nodes]
def spRefuses (K : PySem.W.Frag) : Sp := fun vs H Q _ => ∃ a rs xss pick at0 spot, vs = [.ref a, .int pick, .int at0, .int spot] ∧ SqL K H a rs ∧ Paired (IsT K H) rs xss ∧ (∀ xs ∈ xss, PoolL xs ∧ xs.length ≤ 200) ∧ (1 ≤ xss.length ∧ xss.length ≤ 5) ∧ (0 ≤ pick ∧ pick < 9) ∧ 0 ≤ at0 ∧ 0 ≤ spot ∧ ∀ H', Same H H' → Q (.bl true) H'
theorem ok_law_refuses {f : Addr} {fd : FuncData} (B : Bi mg) (F : Fun K "_law_refuses" "_law_refuses" s_law_refuses f fd)
    (Claw_equal : Cal P w K mg base CX0 1 "_law_equal" p_law_equal (spEqual K)) (Claw_heard : Cal P w K mg base CX0 6 "_law_heard" p_law_heard (spHeard K)) (Cis_name : Cal P w K mg base CX0 1 "is_name" p_is_name (spIsName K)) : FnOk P w K mg base CX0 7 f fd p_law_refuses (spRefuses K) := by
  refine F.ok sc_law_refuses (fun vs H Q E h => ?_) (fun cdv A outer s H vs Q E hr h => ?_)
  · obtain ⟨a, rs, xss, pick, at0, spot, rfl, _⟩ := h
    rfl
  · obtain ⟨a, rs, xss, pick, at0, spot, rfl, hL, fr, hx, ⟨hl1, hl2⟩, ⟨hp1, hp2⟩, hat, hspot, q⟩ := h
    refine ⟨_, (pss_cons (ps_set (i := 4) sc_law_refuses.nd rfl (by first | exact .inl rfl | exact .inr rfl) (pe_ix (ix_listK (K := K) rfl) (pe_lst (pa_cons pe_str (pa_cons pe_str (pa_cons pe_bl (pa_cons pe_str (pa_cons pe_non (pa_cons (pe_tup (pa_cons pe_str pa_nil)) (pa_cons pe_str (pa_cons pe_str (pa_cons pe_str pa_nil)))))))))) (pv 1) (fun _ _ => rfl)))
      (pss_cons (ps_set (i := 5) sc_law_refuses.nd rfl (by first | exact .inl rfl | exact .inr rfl) (pe_ix (ix_listK (K := K) rfl) (pv 0) (pe_op op_modN (pe_callTy call_int1 (by rfl) B.int_ (by decide +kernel) (pa_cons (pv 3) pa_nil)) (pe_callB (call_lenK (K := K) rfl) (by rfl) B.len PySem.boot_len (pa_cons (pv 0) pa_nil))) (fun _ _ => rfl)))
      (pss_cons (ps_set (i := 2) sc_law_refuses.nd rfl (by first | exact .inl rfl | exact .inr rfl) (pe_op op_modN (pe_callTy call_int1 (by rfl) B.int_ (by decide +kernel) (pa_cons (pv 2) pa_nil)) (pe_op op_add (pe_callB (call_lenK (K := K) rfl) (by rfl) B.len PySem.boot_len (pa_cons (pv 5) pa_nil)) pe_int)))
      (pss_cons (ps_set (i := 6) sc_law_refuses.nd rfl (by first | exact .inl rfl | exact .inr rfl) (pe_op (op_catK (K := K) rfl) (pe_op (op_catK (K := K) rfl) (pe_op (op_catK (K := K) rfl) (pe_slice (sl_tupK (K := K) rfl) (pv 5) po_none (po_some (pv 2))) (pe_tup (pa_cons (pv 4) pa_nil))) (pe_slice (sl_tupK (K := K) rfl) (pv 5) (po_some (pv 2)) po_none)) (pe_tup (pa_cons pe_bl pa_nil))))
      (pss_cons (ps_set (i := 3) sc_law_refuses.nd rfl (by first | exact .inl rfl | exact .inr rfl) (pe_op op_modN (pe_callTy call_int1 (by rfl) B.int_ (by decide +kernel) (pa_cons (pv 3) pa_nil)) (pe_callB (call_lenK (K := K) rfl) (by rfl) B.len PySem.boot_len (pa_cons (pv 0) pa_nil))))
      (pss_cons (ps_set (i := 7) sc_law_refuses.nd rfl (by first | exact .inl rfl | exact .inr rfl) (pe_op (op_catK (K := K) rfl) (pe_op (op_catK (K := K) rfl) (pe_op (op_catK (K := K) rfl) (pe_callTy (call_tupK (K := K) rfl) (by rfl) B.tuple_ (by decide +kernel) (pa_cons (pe_slice (sl_listK (K := K) rfl) (pv 0) po_none (po_some (pv 3))) pa_nil)) (pe_tup (pa_cons (pv 6) pa_nil))) (pe_callTy (call_tupK (K := K) rfl) (by rfl) B.tuple_ (by decide +kernel) (pa_cons (pe_slice (sl_listK (K := K) rfl) (pv 0) (po_some (pv 3)) po_none) pa_nil))) (pe_tup (pa_cons pe_int pa_nil))))
      (pss_cons (ps_set (i := 8) sc_law_refuses.nd rfl (by first | exact .inl rfl | exact .inr rfl) (pe_lst (pa_cons (pe_tup (pa_cons pe_int (pa_cons (pv 6) (pa_cons pe_non (pa_cons (pv 2) pa_nil))))) (pa_cons (pe_tup (pa_cons pe_int (pa_cons (pe_callTy (call_listK (K := K) rfl) (by rfl) B.list_ (by decide +kernel) (pa_cons (pv 6) pa_nil)) (pa_cons pe_non (pa_cons (pv 2) pa_nil))))) (pa_cons (pe_tup (pa_cons pe_int (pa_cons pe_int (pa_cons pe_non (pa_cons (pe_un un_neg pe_int) pa_nil))))) (pa_cons (pe_tup (pa_cons pe_int (pa_cons pe_str (pa_cons pe_non (pa_cons (pe_un un_neg pe_int) pa_nil))))) pa_nil))))))
      (pss_cons (ps_for PassesOwn.never rfl (pi_tup (pe_tup (pa_cons pe_int (pa_cons pe_int pa_nil)))) (pg_name (i := 9) sc_law_refuses.nd rfl (by first | exact .inl rfl | exact .inr rfl))
      (pss_cons (ps_set (i := 8) sc_law_refuses.nd rfl (by first | exact .inl rfl | exact .inr rfl) (pe_op op_cat (pv 8) (pe_lst (pa_cons (pe_tup (pa_cons (pv 9) (pa_cons (pv 7) (pa_cons pe_non (pa_cons (pe_tup (pa_cons (pv 3) (pa_cons (pv 2) pa_nil))) pa_nil))))) (pa_cons (pe_tup (pa_cons (pv 9) (pa_cons (pe_callTy (call_listK (K := K) rfl) (by rfl) B.list_ (by decide +kernel) (pa_cons (pv 7) pa_nil)) (pa_cons pe_non (pa_cons (pe_tup (pa_cons (pv 3) (pa_cons (pv 2) pa_nil))) pa_nil))))) (pa_cons (pe_tup (pa_cons (pv 9) (pa_cons pe_non (pa_cons pe_non (pa_cons (pe_tup (pa_cons (pe_un un_neg pe_int) (pa_cons (pe_un un_neg pe_int) pa_nil))) pa_nil))))) pa_nil))))))
      (pss_one (ps_set (i := 8) sc_law_refuses.nd rfl (by first | exact .inl rfl | exact .inr rfl) (pe_op op_cat (pv 8) (pe_lst (pa_cons (pe_tup (pa_cons (pv 9) (pa_cons (pe_op (op_catK (K := K) rfl) (pe_callTy (call_tupK (K := K) rfl) (by rfl) B.tuple_ (by decide +kernel) (pa_cons (pv 0) pa_nil)) (pe_tup (pa_cons pe_str (pa_cons (pv 6) pa_nil)))) (pa_cons pe_non (pa_cons (pe_tup (pa_cons (pe_callB (call_lenK (K := K) rfl) (by rfl) B.len PySem.boot_len (pa_cons (pv 0) pa_nil)) (pa_cons (pe_un un_neg pe_int) pa_nil))) pa_nil))))) pa_nil)))))))
      (pss_cons (ps_for PassesOwn.never rfl (pi_tup (pe_tup (pa_cons pe_int (pa_cons pe_int pa_nil)))) (pg_name (i := 9) sc_law_refuses.nd rfl (by first | exact .inl rfl | exact .inr rfl))
      (pss_one (ps_set (i := 8) sc_law_refuses.nd rfl (by first | exact .inl rfl | exact .inr rfl) (pe_op op_cat (pv 8) (pe_lst (pa_cons (pe_tup (pa_cons (pv 9) (pa_cons (pv 6) (pa_cons pe_int (pa_cons (pv 2) pa_nil))))) (pa_cons (pe_tup (pa_cons (pv 9) (pa_cons (pv 5) (pa_cons (pv 6) (pa_cons (pe_tup (pa_cons (pe_un un_neg pe_int) (pa_cons (pv 2) pa_nil))) pa_nil))))) (pa_cons (pe_tup (pa_cons (pv 9) (pa_cons (pe_callTy (call_listK (K := K) rfl) (by rfl) B.list_ (by decide +kernel) (pa_cons (pv 5) pa_nil)) (pa_cons pe_non (pa_cons (pe_tup (pa_cons (pe_un un_neg pe_int) (pa_cons (pe_un un_neg pe_int) pa_nil))) pa_nil))))) (pa_cons (pe_tup (pa_cons (pv 9) (pa_cons pe_non (pa_cons (pv 6) (pa_cons (pe_un un_neg pe_int) pa_nil))))) pa_nil)))))))))
      (pss_cons (ps_for PassesOwn.never rfl (pi_list (pv 8)) (pg_name (i := 10) sc_law_refuses.nd rfl (by first | exact .inl rfl | exact .inr rfl))
      (pss_one (ps_if (pt_not (pt_val (pe_call Claw_equal.G (hr.mono (by decide)) (by rfl) Claw_equal.g Claw_equal.kp Claw_equal.b .nil pass0 (pa_cons (pe_call Claw_heard.G (hr.mono (by decide)) (by rfl) Claw_heard.g Claw_heard.kp Claw_heard.b .nil pass0 (pa_cons (pe_ix (ix_tupK (K := K) rfl) (pv 10) pe_int (fun _ _ => rfl)) (pa_cons (pe_ix (ix_tupK (K := K) rfl) (pv 10) pe_int (fun _ _ => rfl)) (pa_cons (pe_ix (ix_tupK (K := K) rfl) (pv 10) pe_int (fun _ _ => rfl)) pa_nil)))) (pa_cons (pe_tup (pa_cons pe_str (pa_cons (pe_ix (ix_tupK (K := K) rfl) (pv 10) pe_int (fun _ _ => rfl)) pa_nil))) pa_nil)))))
      (pss_one (ps_ret pe_bl))
      pss_nil)))
      (pss_one (ps_ret (pe_call Claw_equal.G (hr.mono (by decide)) (by rfl) Claw_equal.g Claw_equal.kp Claw_equal.b .nil pass0 (pa_cons (pe_call Cis_name.G (hr.mono (by decide)) (by rfl) Cis_name.g Cis_name.kp Cis_name.b .nil pass0 (pa_cons (pv 4) pa_nil)) (pa_cons pe_bl pa_nil))))))))))))))), ?_⟩
    walk_at "u"
    have hlen : rs.length = xss.length := Paired.length fr
    -- wrong
    refine ⟨by show 1 ≤ sizeLine; decide, fun t0 ht0 => ⟨by show 9 ≤ sizeLine; decide, fun l0 hl0 => ?_⟩⟩
    have s1 := (same_new (o := .tup [.str "a"]) ht0).trans (same_new (o := .lst [V.str "xY", .str "", .bl true, .str "abcdefghijklm", .non, .ref t0, .str "9a", .str "**", .str "a b"]) hl0)
    obtain ⟨wv, ew, we, wo, wn⟩ := wrong_at (K := K) (H := upd (upd H t0 (.tup [.str "a"])) l0 (.lst [V.str "xY", .str "", .bl true, .str "abcdefghijklm", .non, .ref t0, .str "9a", .str "**", .str "a b"])) hp1 hp2 (st_same (same_new hl0) (SqT.of upd_same))
    refine ⟨_, rfl, l0, _, pick, wv, rfl, rfl, .inl (.inl upd_same), ew, ?_⟩
    generalize upd (upd H t0 (.tup [.str "a"])) l0 (.lst [V.str "xY", .str "", .bl true, .str "abcdefghijklm", .non, .ref t0, .str "9a", .str "**", .str "a b"]) = H1 at s1 we ⊢
    clear ew hl0 ht0
    walk_at "u"
    -- row
    have hL1 := s1.seq hL
    obtain ⟨n0, hn0, en0⟩ : ∃ n : Nat, n < rs.length ∧ Int.fmod spot ((rs.length : Nat) : Int) = (n : Int) := by
      obtain ⟨m, rfl⟩ : ∃ m : Nat, spot = (m : Int) := ⟨spot.toNat, by omega⟩
      exact ⟨m % rs.length, Nat.mod_lt _ (by omega), fmod_nat m rs.length⟩
    obtain ⟨xs, exs, ax, eax, hTx⟩ := pair_at fr (List.getElem?_eq_getElem hn0)
    obtain ⟨px, lx⟩ := hx xs (List.mem_of_getElem? exs)
    have hT1 := st_same s1 hTx
    refine ⟨_, rfl, _, rfl, .inl ⟨_, rfl, _, rfl, a, rs, rfl, .inl hL1, _, _, rfl, rfl, by omega, ?_⟩⟩
    rw [en0]
    refine ⟨a, rs, _, .ref ax, rfl, rfl, hL1, at_of (j := n0) rfl (by rw [List.getElem?_eq_getElem hn0, eax]), ?_⟩
    walk_at "u"
    -- at
    obtain ⟨k, hk, ek⟩ : ∃ k : Nat, k ≤ xs.length ∧ Int.fmod at0 ((xs.length : Nat) + 1 : Int) = (k : Int) := by
      obtain ⟨m, rfl⟩ : ∃ m : Nat, at0 = (m : Int) := ⟨at0.toNat, by omega⟩
      refine ⟨m % (xs.length + 1), Nat.le_of_lt_succ (Nat.mod_lt _ (by omega)), ?_⟩
      have e : ((xs.length : Nat) : Int) + 1 = ((xs.length + 1 : Nat) : Int) := by omega
      rw [e, fmod_nat]
    refine ⟨_, rfl, .inl ⟨_, rfl, _, rfl, ax, xs, rfl, .inr hT1, _, _, rfl, rfl, _, _, rfl, rfl, by omega, ?_⟩⟩
    rw [ek]
    walk_at "u"
    -- bent
    refine ⟨_, rfl, _, rfl, _, rfl, r_slA hT1 fun p1 H2 s2 h2 => ⟨_, rfl, by show 1 ≤ sizeLine; decide, fun t1 ht1 => ?_⟩⟩
    rw [cut_to] at h2
    refine r_catA (st_same (same_new ht1) h2) (SqT.of upd_same) (small2000 (by rw [List.length_take]; simp only [List.length_cons, List.length_nil]; omega)) fun p2 H3 s3 h3 => ?_
    have s13 := (s2.trans (same_new (o := .tup [wv]) ht1)).trans s3
    refine ⟨_, rfl, _, rfl, _, rfl, r_slA (st_same s13 hT1) fun p3 H4 s4 h4 => ?_⟩
    rw [cut_from] at h4
    refine r_catA (st_same s4 h3) h4 (small2000 (by rw [List.length_append, List.length_take, List.length_drop]; simp only [List.length_cons, List.length_nil]; omega)) fun p4 H5 s5 h5 => ⟨by show 1 ≤ sizeLine; decide, fun t2 ht2 => ?_⟩
    refine r_catA (st_same (same_new ht2) h5) (SqT.of upd_same) (small2000 (by rw [List.length_append, List.length_append, List.length_take, List.length_drop]; simp only [List.length_cons, List.length_nil]; omega)) fun pb H6 s6 hB => ?_
    have s16 : Same H1 H6 := (((s13.trans s4).trans s5).trans (same_new (o := .tup [.bl false]) ht2)).trans s6
    generalize ebl : xs.take k ++ [wv] ++ xs.drop k ++ [V.bl false] = bl at hB
    have wb : wrongV (some bl) = .int (k : Nat) := by rw [← ebl]; exact bent_wrong px wo hk
    have lb : bl.length ≤ 1000 := by rw [← ebl, List.length_append, List.length_append, List.length_append, List.length_take, List.length_drop]; simp only [List.length_cons, List.length_nil]; omega
    have we6 := we.same s16
    have eb : ∀ x ∈ bl, Ent K H6 x := fun x hxx => by
      rw [← ebl] at hxx
      rcases List.mem_append.mp hxx with h | h
      · rcases List.mem_append.mp h with h | h
        · rcases List.mem_append.mp h with h | h
          · exact ent_pool px x (List.mem_of_mem_take h)
          · rw [List.mem_singleton.mp h]; exact we6
        · exact ent_pool px x (List.mem_of_mem_drop h)
      · rw [List.mem_singleton.mp h]; exact .flat rfl
    have hrs6 := (s1.trans s16).seq hL
    have sm6 := s1.trans s16
    clear s2 h2 ht1 s3 h3 s13 s4 h4 s5 h5 ht2 s6 s16 ebl ek we hL1 hT1 s1
    walk_at "u"
    -- spot
    refine ⟨_, rfl, .inl ⟨_, rfl, _, rfl, a, rs, rfl, .inl hrs6, _, _, rfl, rfl, by omega, ?_⟩⟩
    rw [en0]
    walk_at "u"
    -- several
    have ect : cutV rs none (some ((n0 : Nat) : Int)) = rs.take n0 := cut_to rs
    have ecf : cutV rs (some ((n0 : Nat) : Int)) none = rs.drop n0 := cut_from rs
    have hrl : rs.length ≤ 5 := by omega
    refine ⟨_, rfl, _, rfl, _, rfl, a, rs, rfl, hrs6, fun l1 hl1 => ⟨l1, _, rfl, .inl ⟨SqL.of upd_same, fun t3 ht3 => ⟨_, rfl, by show 1 ≤ sizeLine; decide, fun t4 ht4 => ?_⟩⟩⟩⟩
    rw [ect] at *
    refine r_catA (st_same (same_new ht4) (SqT.of upd_same)) (SqT.of upd_same) (small2000 (by rw [List.length_take]; simp only [List.length_cons, List.length_nil]; omega)) fun p5 H7 s7 h7 => ?_
    have s67 : Same H6 H7 := (((same_new hl1).trans (same_new ht3)).trans (same_new ht4)).trans s7
    refine ⟨_, rfl, _, rfl, _, rfl, a, rs, rfl, s67.seq hrs6, fun l2 hl2 => ⟨l2, _, rfl, .inl ⟨SqL.of upd_same, fun t5 ht5 => ?_⟩⟩⟩
    rw [ecf] at *
    refine r_catA (st_same (same_new ht5) (st_same (same_new hl2) h7)) (SqT.of upd_same) (small2000 (by rw [List.length_append, List.length_take, List.length_drop]; simp only [List.length_cons, List.length_nil]; omega)) fun p6 H8 s8 h8 => ⟨by show 1 ≤ sizeLine; decide, fun t6 ht6 => ?_⟩
    refine r_catA (st_same (same_new ht6) h8) (SqT.of upd_same) (small2000 (by rw [List.length_append, List.length_append, List.length_take, List.length_drop]; simp only [List.length_cons, List.length_nil]; omega)) fun sv H9 s9 hS => ?_
    have s69 : Same H6 H9 := (((s67.trans ((same_new hl2).trans (same_new ht5))).trans s8).trans (same_new (o := .tup [.int 7]) ht6)).trans s9
    clear hl1 ht3 ht4 s7 h7 s67 hl2 ht5 s8 h8 ht6 s9
    have sm9 := sm6.trans s69
    have hB9 := st_same s69 hB
    have eb9 : ∀ x ∈ bl, Ent K H9 x := fun x hxx => (eb x hxx).same s69
    have we9 := we6.same s69
    clear hB eb we6 hrs6 sm6 s69 ect ecf
    have hx2 : ∀ n, (∀ ys ∈ xss.take n, PoolL ys ∧ ys.length ≤ 200) ∧ ∀ ys ∈ xss.drop n, PoolL ys ∧ ys.length ≤ 200 := fun n => ⟨fun ys h => hx ys (List.mem_of_mem_take h), fun ys h => hx ys (List.mem_of_mem_drop h)⟩
    have fr9 := pair_isT sm9 fr
    have hn0x : n0 < xss.length := by omega
    have rBent : ∀ {H' : Hp}, Same H9 H' → RowA K H' (.ref pb) (some bl) := fun e => .tup (st_same e hB9) (fun x hxx => (eb9 x hxx).same e) lb
    generalize esv : rs.take n0 ++ [V.ref pb] ++ rs.drop n0 ++ [V.int 7] = svl at hS
    have eos : ∃ os, (∀ {H' : Hp}, Same H9 H' → Paired (RowA K H') svl os) ∧ checkRs (some os) = .bad (.tuple [.int (n0 : Nat), .int (k : Nat)]) := by
      refine ⟨(xss.take n0).map some ++ [some bl] ++ (xss.drop n0).map some ++ [none], fun {H'} e => ?_, ?_⟩
      · rw [← esv]
        exact pair_cat (pair_cat (pair_cat (pair_some (pair_take n0 (pair_isT e fr9)) (hx2 n0).1) (.cons (rBent e) .nil)) (pair_some (pair_drop n0 (pair_isT e fr9)) (hx2 n0).2)) (.cons (.no rfl) .nil)
      · have e : (xss.take n0).map some ++ [some bl] ++ (xss.drop n0).map some ++ [none] = (xss.take n0).map some ++ some bl :: ((xss.drop n0).map some ++ [none]) := by simp
        rw [e, checkRs_bad (firstBad_at (by rw [wb]; intro z; cases z) 0 fun ys h => ((hx2 n0).1 ys h).1), wb, List.length_take]
        have e2 : 0 + min n0 xss.length = n0 := by omega
        rw [e2]
        rfl
    have svlen : svl.length ≤ 1000 := by
      rw [← esv, List.length_append, List.length_append, List.length_append, List.length_take, List.length_drop]
      simp only [List.length_cons, List.length_nil]
      omega
    obtain ⟨os, pos, cos⟩ := eos
    have cab : checkRs (some (xss.map some ++ [none, some bl])) = .bad (.tuple [.int (xss.length : Nat), .int (-1)]) := by
      rw [checkRs_bad (firstBad_at (o := none) (os := [some bl]) (by intro z; cases z) 0 fun ys h => (hx ys h).1), Nat.zero_add]
      rfl
    have cnone : checkRs none = .bad (.tuple [.int (-1), .int (-1)]) := rfl
    have cE : checkE (some bl) = .bad (.int (k : Nat)) := bad_of wb
    have cE0 : checkE none = .bad (.int (-1)) := bad_of rfl
    have fab : flat (.str "ab") = true := by decide +kernel
    clear esv wo
    walk_at "u"
    -- asked
    refine ⟨_, rfl, _, rfl, by show 4 ≤ sizeLine; decide, fun i1 hi1 => ?_⟩
    have I1 := item_mk (K := K) (two := .non) hi1 (.root (rBent (Same.refl _)) cE) (.int _) okD_int.1 okD_int.2
    have t1 := same_new (o := .tup [.int 0, .ref pb, .non, .int (k : Nat)]) hi1
    refine ⟨_, rfl, pb, bl, rfl, .inr (st_same t1 hB9), fun l3 hl3 => ⟨_, rfl, by show 4 ≤ sizeLine; decide, fun i2 hi2 => ?_⟩⟩
    have t2 := t1.trans (same_new (o := .lst bl) hl3)
    have I2 := item_mk (K := K) (two := .non) hi2 (.root (o := some bl) (one := .ref l3) (.lst (SqL.of upd_same) (fun x hxx => (eb9 x hxx).same t2) lb) cE) (.int _) okD_int.1 okD_int.2
    have t3 := same_new (o := .tup [.int 0, .ref l3, .non, .int (k : Nat)]) hi2
    refine ⟨1, rfl, by show 4 ≤ sizeLine; decide, fun i3 hi3 => ?_⟩
    have I3 := item_mk (K := K) (two := .non) hi3 (.root (o := none) (one := .int 7) (.no rfl) cE0) (.int (-1)) okD_int.1 okD_int.2
    have t4 := same_new (o := .tup [.int 0, .int 7, .non, .int (-1)]) hi3
    refine ⟨1, rfl, by show 4 ≤ sizeLine; decide, fun i4 hi4 => ⟨by show 4 ≤ sizeLine; decide, fun L0 hL0 => ?_⟩⟩
    have I4 := item_mk (K := K) (two := .non) hi4 (.root (o := none) (one := .str "ab") (.no fab) cE0) (.int (-1)) okD_int.1 okD_int.2
    have t5 := same_new (o := .tup [.int 0, .str "ab", .non, .int (-1)]) hi4
    have A0 := askL_new (K := K) (n := 4) hL0 (xs := [.ref i1, .ref i2, .ref i3, .ref i4]) (fun x hxx => by
      rcases List.mem_cons.mp hxx with e | hxx
      · rw [e]; exact I1.same ((((same_new hl3).trans t3).trans t4).trans t5)
      rcases List.mem_cons.mp hxx with e | hxx
      · rw [e]; exact I2.same (t4.trans t5)
      rcases List.mem_cons.mp hxx with e | hxx
      · rw [e]; exact I3.same t5
      · rw [List.mem_singleton.mp hxx]; exact I4) (Nat.le_refl _)
    have s10 := ((((t1.trans (same_new hl3)).trans t3).trans t4).trans t5).trans (same_new (o := .lst [.ref i1, .ref i2, .ref i3, .ref i4]) hL0)
    generalize upd _ L0 _ = H10 at A0 s10 ⊢
    clear I1 I2 I3 I4 t1 t2 t3 t4 t5 hi1 hl3 hi2 hi3 hi4 hL0
    walk_at "u"
    -- for which in (1, 2)
    refine ⟨by show 2 ≤ sizeLine; decide, fun pa hpa => ⟨pa, rfl, ⟨_, SqT.of upd_same⟩, for_it (walk_tup (xs := [V.int 1, V.int 2])) (fun i σ H' => Same H10 H' ∧ SqT K H' pa [V.int 1, V.int 2] ∧ ∃ L y9 y10, AskL K H' L (4 + 4 * i) ∧ σ = [some (.ref a), some (.int pick), some (.int (k : Nat)), some (.int (n0 : Nat)), some wv, some (.ref ax), some (.ref pb), some (.ref sv), some (.ref L), y9, y10]) ⟨same_new hpa, SqT.of upd_same, L0, _, _, A0.same (same_new hpa), rfl⟩ (fun i σ H' _ p => p.2.1) (fun i x σ H11 H12 hi p y => ?_) (fun σ H11 p => ?_)⟩⟩
    · obtain ⟨s11, hpt, L, y9, y10, AL, rfl⟩ := p
      obtain ⟨rfl, f2⟩ := y
      have hi2 : i < 2 := hi
      obtain ⟨wh, rfl, hwh⟩ : ∃ wh : Int, x = .int wh ∧ (wh = 1 ∨ wh = 2) := by
        match i, hi2, f2 with
        | 0, _, f => exact ⟨1, (Option.some.inj f).symm, .inl rfl⟩
        | 1, _, f => exact ⟨2, (Option.some.inj f).symm, .inr rfl⟩
      have s12 := s10.trans s11
      walk_at "u"
      refine ⟨_, rfl, _, rfl, _, rfl, _, rfl, _, rfl, by show 2 ≤ sizeLine; decide, fun u1 hu1 => ⟨by show 4 ≤ sizeLine; decide, fun i1 hi1 => ?_⟩⟩
      have t1 := same_new (o := .tup [.int (n0 : Nat), .int (k : Nat)]) hu1
      have I1 := item_mk (K := K) (y := .ref u1) (two := .non) hi1 (asked12 hwh (.tup (st_same (s12.trans t1) hS) (pos (s12.trans t1)) svlen) cos) dp_ints okD_ints.1 okD_ints.2
      have t2 := t1.trans (same_new (o := .tup [.int wh, .ref sv, .non, .ref u1]) hi1)
      refine ⟨_, rfl, _, rfl, sv, svl, rfl, .inr (st_same (s12.trans t2) hS), fun l3 hl3 => ?_⟩
      have t3 := t2.trans (same_new (o := .lst svl) hl3)
      refine ⟨_, rfl, _, rfl, by show 2 ≤ sizeLine; decide, fun u2 hu2 => ⟨by show 4 ≤ sizeLine; decide, fun i2 hi2 => ?_⟩⟩
      have t4 := t3.trans (same_new (o := .tup [.int (n0 : Nat), .int (k : Nat)]) hu2)
      have I2 := item_mk (K := K) (y := .ref u2) (one := .ref l3) (two := .non) hi2 (asked12 hwh (.lst (((same_new hu2).seq (SqL.of upd_same))) (pos (s12.trans t4)) svlen) cos) dp_ints okD_ints.1 okD_ints.2
      have t5 := t4.trans (same_new (o := .tup [.int wh, .ref l3, .non, .ref u2]) hi2)
      refine ⟨_, rfl, 1, rfl, 1, rfl, by show 2 ≤ sizeLine; decide, fun u3 hu3 => ⟨by show 4 ≤ sizeLine; decide, fun i3 hi3 => ⟨by show 3 ≤ sizeLine; decide, fun m0 hm0 => ?_⟩⟩⟩
      have I3 := item_mk (K := K) (y := .ref u3) (one := .non) (two := .non) hi3 (asked12 hwh (.no rfl) cnone) dp_ints okD_ints.1 okD_ints.2
      have t6 := (same_new (o := .tup [.int (-1), .int (-1)]) hu3).trans (same_new (o := .tup [.int wh, .non, .non, .ref u3]) hi3)
      have B0 := askL_new (K := K) (n := 3) hm0 (xs := [.ref i1, .ref i2, .ref i3]) (fun x hxx => by
        rcases List.mem_cons.mp hxx with e | hxx
        · rw [e]; exact I1.same (((((same_new hl3).trans (same_new hu2)).trans (same_new hi2))).trans t6)
        rcases List.mem_cons.mp hxx with e | hxx
        · rw [e]; exact I2.same t6
        · rw [List.mem_singleton.mp hxx]; exact I3) (Nat.le_refl _)
      have s13 := (t5.trans t6).trans (same_new (o := .lst [.ref i1, .ref i2, .ref i3]) hm0)
      refine r_more (AL.same s13) B0 (by omega) fun L1 H13 s14 AL1 => ?_
      replace s13 := s13.trans s14
      clear I1 I2 I3 B0 t1 t2 t3 t4 t5 t6 s14 AL hu1 hi1 hl3 hu2 hi2 hu3 hi3 hm0
      walk_at "u"
      have s15 := s12.trans s13
      refine ⟨_, rfl, _, rfl, _, rfl, a, rs, rfl, .inl ⟨(sm9.trans s15).seq hL, fun u4 hu4 => ⟨_, rfl, by show 2 ≤ sizeLine; decide, fun u5 hu5 => ?_⟩⟩⟩
      refine r_catA (st_same (same_new hu5) (SqT.of upd_same)) (SqT.of upd_same) (small2000 (by simp only [List.length_cons, List.length_nil]; omega)) fun ps H14 s16 hp => ?_
      have s17 := ((same_new (o := .tup rs) hu4).trans (same_new (o := .tup [.str "ab", .ref pb]) hu5)).trans s16
      have s18 := s15.trans s17
      refine ⟨_, rfl, a, rs, rfl, .inl ((sm9.trans s18).seq hL), 1, rfl, by show 2 ≤ sizeLine; decide, fun u6 hu6 => ⟨by show 4 ≤ sizeLine; decide, fun i4 hi4 => ⟨by show 1 ≤ sizeLine; decide, fun m1 hm1 => ?_⟩⟩⟩
      rw [← hlen] at cab
      have t7 := same_new (o := .tup [.int (rs.length : Nat), .int (-1)]) hu6
      have I4 := item_mk (K := K) (y := .ref u6) (one := .ref ps) (two := .non) hi4 (asked12 hwh (.tup (st_same t7 hp) (pair_cat (pair_some (pair_isT (s18.trans t7) fr9) hx) (.cons (.no fab) (.cons (rBent (s18.trans t7)) .nil))) (by rw [List.length_append]; simp only [List.length_cons, List.length_nil]; omega)) cab) dp_ints okD_ints.1 okD_ints.2
      have B1 := askL_new (K := K) (n := 1) hm1 (xs := [.ref i4]) (fun x hxx => by rw [List.mem_singleton.mp hxx]; exact I4) (Nat.le_refl _)
      have s19 := (((s17.trans t7).trans (same_new (o := .tup [.int wh, .ref ps, .non, .ref u6]) hi4))).trans (same_new (o := .lst [.ref i4]) hm1)
      refine r_more (AL1.same s19) B1 (by omega) fun L2 H15 s20 AL2 => ?_
      have s21 := (s13.trans s19).trans s20
      exact ⟨s11.trans s21, st_same s21 hpt, L2, _, _, by rw [show 4 + 4 * (i + 1) = 4 + 4 * i + 3 + 1 by omega]; exact AL2, rfl⟩
    obtain ⟨s11, _, L, y9, y10, AL, rfl⟩ := p
    replace s10 := s10.trans s11
    clear s11 A0 hpa
    walk_at "u"
    have hT9 := st_same sm9 hTx
    refine ⟨by show 2 ≤ sizeLine; decide, fun pc hpc => ⟨pc, rfl, ⟨_, SqT.of upd_same⟩, for_it (walk_tup (xs := [V.int 3, V.int 4])) (fun i σ H' => Same H11 H' ∧ SqT K H' pc [V.int 3, V.int 4] ∧ ∃ L y9 y10, AskL K H' L (12 + 4 * i) ∧ σ = [some (.ref a), some (.int pick), some (.int (k : Nat)), some (.int (n0 : Nat)), some wv, some (.ref ax), some (.ref pb), some (.ref sv), some (.ref L), y9, y10]) ⟨same_new hpc, SqT.of upd_same, L, _, _, AL.same (same_new hpc), rfl⟩ (fun i σ H' _ p => p.2.1) (fun i x σ H12 H13 hi p y => ?_) (fun σ H12 p => ?_)⟩⟩
    · obtain ⟨s11, hpt, L1, y9, y10, AL1, rfl⟩ := p
      obtain ⟨rfl, f2⟩ := y
      have hi2 : i < 2 := hi
      obtain ⟨wh, rfl, hwh⟩ : ∃ wh : Int, x = .int wh ∧ (wh = 3 ∨ wh = 4) := by
        match i, hi2, f2 with
        | 0, _, f => exact ⟨3, (Option.some.inj f).symm, .inl rfl⟩
        | 1, _, f => exact ⟨4, (Option.some.inj f).symm, .inr rfl⟩
      have s12 := s10.trans s11
      walk_at "u"
      refine ⟨_, rfl, _, rfl, _, rfl, _, rfl, by show 4 ≤ sizeLine; decide, fun i1 hi1 => ?_⟩
      have t1 := same_new (o := .tup [.int wh, .ref pb, .int 7, .int (k : Nat)]) hi1
      have I1 := item_mk (K := K) (one := .ref pb) (two := .int 7) hi1 (asked34 hwh (rBent s12) (.no rfl) (two_bad1 (o2 := none) cE)) (.int _) okD_int.1 okD_int.2
      refine ⟨_, rfl, _, rfl, _, rfl, 2, rfl, _, rfl, by show 2 ≤ sizeLine; decide, fun u2 hu2 => ⟨by show 4 ≤ sizeLine; decide, fun i2 hi2 => ?_⟩⟩
      have t2 := t1.trans (same_new (o := .tup [.int (-2), .int (k : Nat)]) hu2)
      have I2 := item_mk (K := K) (y := .ref u2) (one := .ref ax) (two := .ref pb) hi2 (asked34 hwh (rowT (st_same (s12.trans t2) hT9) px (by omega)) (rBent (s12.trans t2)) (two_bad2 px wb)) dp_ints okD_ints.1 okD_ints.2
      have t3 := t2.trans (same_new (o := .tup [.int wh, .ref ax, .ref pb, .ref u2]) hi2)
      refine ⟨_, rfl, _, rfl, ax, xs, rfl, .inr (st_same (s12.trans t3) hT9), fun l3 hl3 => ?_⟩
      have t4 := t3.trans (same_new (o := .lst xs) hl3)
      refine ⟨2, rfl, 1, rfl, by show 2 ≤ sizeLine; decide, fun u3 hu3 => ⟨by show 4 ≤ sizeLine; decide, fun i3 hi3 => ?_⟩⟩
      have t5 := t4.trans (same_new (o := .tup [.int (-2), .int (-1)]) hu3)
      have I3 := item_mk (K := K) (y := .ref u3) (one := .ref l3) (two := .non) hi3 (asked34 hwh (rowL ((same_new hu3).seq (SqL.of upd_same)) px (by omega)) (.no rfl) (two_bad2 (o2 := none) px rfl)) dp_ints okD_ints.1 okD_ints.2
      have t6 := t5.trans (same_new (o := .tup [.int wh, .ref l3, .non, .ref u3]) hi3)
      refine ⟨_, rfl, _, rfl, 1, rfl, by show 4 ≤ sizeLine; decide, fun i4 hi4 => ⟨by show 4 ≤ sizeLine; decide, fun m0 hm0 => ?_⟩⟩
      have I4 := item_mk (K := K) (one := .non) (two := .ref pb) hi4 (asked34 hwh (.no rfl) (rBent (s12.trans t6)) (two_bad1 cE0)) (.int (-1)) okD_int.1 okD_int.2
      have t7 := same_new (o := .tup [.int wh, .non, .ref pb, .int (-1)]) hi4
      have B0 := askL_new (K := K) (n := 4) hm0 (xs := [.ref i1, .ref i2, .ref i3, .ref i4]) (fun x hxx => by
        rcases List.mem_cons.mp hxx with e | hxx
        · rw [e]; exact I1.same (((((((same_new hu2).trans (same_new hi2)).trans (same_new hl3)).trans (same_new hu3)).trans (same_new hi3))).trans t7)
        rcases List.mem_cons.mp hxx with e | hxx
        · rw [e]; exact I2.same ((((same_new hl3).trans (same_new hu3)).trans (same_new hi3)).trans t7)
        rcases List.mem_cons.mp hxx with e | hxx
        · rw [e]; exact I3.same t7
        · rw [List.mem_singleton.mp hxx]; exact I4) (Nat.le_refl _)
      have s13 := (t6.trans t7).trans (same_new (o := .lst [.ref i1, .ref i2, .ref i3, .ref i4]) hm0)
      refine r_more (AL1.same s13) B0 (by omega) fun L2 H14 s14 AL2 => ?_
      have s21 := s13.trans s14
      exact ⟨s11.trans s21, st_same s21 hpt, L2, _, _, by rw [show 12 + 4 * (i + 1) = 12 + 4 * i + 4 by omega]; exact AL2, rfl⟩
    obtain ⟨s11, _, L1, y9, y10, AL1, rfl⟩ := p
    replace s10 := s10.trans s11
    clear s11 AL hpc hT9
    obtain ⟨items, hL1, hI, _⟩ := AL1
    walk_at "u"
    -- for one in asked
    refine t_for (H1 := H12) (walk_list (xs := items)) (fun R r => ⟨_, rfl, L1, rfl, ⟨_, .inl (.inl hL1)⟩, r⟩) (fun i σ H' => Same H12 H' ∧ ∃ y9 y10, σ = [some (.ref a), some (.int pick), some (.int (k : Nat)), some (.int (n0 : Nat)), some wv, some (.ref ax), some (.ref pb), some (.ref sv), some (.ref L1), y9, y10]) ⟨Same.refl _, _, _, rfl⟩ (fun i σ H' _ p => .inl (.inl (p.1 _ _ hL1))) (fun i x σ H13 H14 hi p y => ?_) (fun σ H13 p => ?_)
    · obtain ⟨sm, y9, y10, rfl⟩ := p
      obtain ⟨rfl, f2⟩ := y
      obtain ⟨t, wh, one, two, y, z, rfl, hit, hA, hD, ok, nd⟩ := (hI x (List.mem_of_getElem? f2)).same sm
      walk_at "u"
      refine ⟨_, rfl, t, _, _, .int wh, rfl, rfl, hit, rfl, _, rfl, t, _, _, one, rfl, rfl, hit, rfl, _, rfl, t, _, _, two, rfl, rfl, hit, rfl, ?_⟩
      refine ⟨wh, one, two, z, rfl, hA, fun hv H15 s15 hd => ⟨_, rfl, t, _, _, y, rfl, rfl, st_same s15 hit, rfl, by show 2 ≤ sizeLine; decide, fun t2 ht2 => ?_⟩⟩
      have s16 := same_new (o := .tup [.str "row", y]) ht2
      refine ⟨hv, .ref t2, .tuple [.str "row", z], rfl, dp_same s16 hd, .tup (SqT.of upd_same) (.cons (.str _) (.cons (dp_same (s15.trans s16) hD) .nil)), ?_, ?_, fun H16 s17 => ⟨true, rfl, iteF ⟨sm.trans ((s15.trans s16).trans s17), _, _, rfl⟩⟩⟩
      · simp only [okD, okAll, ok, Bool.and_true]
        decide +kernel
      · simp only [nodes, nodesAll]
        omega
    obtain ⟨sm, y9, y10, rfl⟩ := p
    replace sm := s10.trans sm
    walk_at "u"
    refine ⟨_, rfl, wv, rfl, (we9.same sm).kd, fun H14 s14 => ?_⟩
    rw [wn]
    exact ⟨_, _, .bool false, rfl, .bl false, .bl false, rfl, by simp [nodes], fun H15 s15 => q H15 (((sm9.trans sm).trans s14).trans s15)⟩
end
end K65

namespace K65
open PySem PySem.Spec PyProof.Rows L2 KR KK
local macro_rules | `(tactic| walk_at "u") => `(tactic| try dsimp only [tSeq, tCutS, tCutE, tCutT, tIfS, tRet, tRetN, tNext, tBreak, tCont, tDrop, tAsg, gName, gTup, gCons, gNil, tOr, tAnd, tNot, tB, tTest, tCB, tCons, tNil, tC, tVar, tAndV, tOrV, tNotV, tOp, tUn, tIf, tIsN, tNotN, tTup, tLst, tCall, tCallS, tBM, tBM0, tSl, tPart, tNoPart, tYes, iList, iTup, iSeq, iStr, iRng1, iRng2, iEnumA, rI, rI0, rU, cxOf, Cx.nox, Cx.wish, L2.start, List.map, List.set, Nat.repeat, List.length_cons, List.length_nil, List.replicate, List.nil_append, List.cons_append, List.append_nil, Nat.reduceAdd, Nat.reduceSub, E0, tBad, tTr])

theorem pool_name {v : V} (h : v ∈ pool) : isNameV v = (isStrV v && decide (v ≠ .str "*")) := by
  have e : pool.all (fun v => isNameV v == (isStrV v && decide (v ≠ .str "*"))) = true := by decide +kernel
  exact eq_of_beq (List.all_eq_true.mp e v h)
theorem pool_flat {v : V} (h : v ∈ pool) : flat v = true := List.all_eq_true.mp (by decide +kernel : pool.all flat = true) v h
section
variable {P : Program} {w : World} {K : PySem.W.Frag} {mg : Str → Option Value} {base : Heap}
def spLaw (K : PySem.W.Frag) : Sp := fun vs H Q _ => ∃ (a : Addr) (ns : List Int), vs = [.ref a] ∧ SqL K H a (ns.map V.int) ∧ ns.length ≤ 63 ∧ ∀ H', Q (.bl true) H'
theorem ok_law {f : Addr} {fd : FuncData} (B : Bi mg) (F : Fun K "law" "law" s_law f fd)
    (Claw_draws : Cal P w K mg base CX0 1 "_law_draws" p_law_draws (spDraws K)) (Claw_take : Cal P w K mg base CX0 1 "_law_take" p_law_take (spTake K)) (Claw_equal : Cal P w K mg base CX0 1 "_law_equal" p_law_equal (spEqual K))
    (Claw_base : Cal P w K mg base CX0 2 "_law_base" p_law_base (spBase K)) (Claw_row : Cal P w K mg base CX0 2 "_law_row" p_law_row (spRow K)) (Claw_rows_right : Cal P w K mg base CX0 7 "_law_rows_right" p_law_rows_right (spRowsRight K))
    (Claw_refuses : Cal P w K mg base CX0 7 "_law_refuses" p_law_refuses (spRefuses K)) (Cis_name : Cal P w K mg base CX0 1 "is_name" p_is_name (spIsName K)) : FnOk P w K mg base CX0 8 f fd p_law (spLaw K) := by
  refine F.ok sc_law (fun vs H Q E h => ?_) (fun cdv A outer s H vs Q E hr h => ?_)
  · obtain ⟨a, ns, rfl, _⟩ := h
    rfl
  · obtain ⟨a, ns, rfl, hL, hl, q⟩ := h
    refine ⟨_, (pss_cons (ps_set (i := 1) sc_law.nd rfl (by first | exact .inl rfl | exact .inr rfl) (pe_call Claw_draws.G (hr.mono (by decide)) (by rfl) Claw_draws.g Claw_draws.kp Claw_draws.b .nil pass0 (pa_cons (pv 0) pa_nil)))
      (pss_cons (ps_set (i := 2) sc_law.nd rfl (by first | exact .inl rfl | exact .inr rfl) (pe_call Claw_base.G (hr.mono (by decide)) (by rfl) Claw_base.g Claw_base.kp Claw_base.b .nil pass0 (pa_cons (pv 1) pa_nil)))
      (pss_cons (ps_set (i := 3) sc_law.nd rfl (by first | exact .inl rfl | exact .inr rfl) (pe_call Claw_base.G (hr.mono (by decide)) (by rfl) Claw_base.g Claw_base.kp Claw_base.b .nil pass0 (pa_cons (pv 1) pa_nil)))
      (pss_cons (ps_setLc (i := 4) (own := [("turn", 10)]) (by rfl) sc_law.nd rfl rfl (sw_true rfl rfl rfl (by decide +kernel)) (pi_range1 rfl B.range (pa_cons (pe_op op_add pe_int (pe_call Claw_take.G (hr.mono (by decide)) (by rfl) Claw_take.g Claw_take.kp Claw_take.b .nil pass0 (pa_cons (pv 1) (pa_cons pe_int pa_nil)))) pa_nil)) (blkOk_by (own := [("turn", 10)]) (N := n_law) (sc := defScope s_law) (by decide +kernel)) (fun _ _ _ _ _ => (pg_name (i := 10) sc_law.nd rfl (by first | exact .inl rfl | exact .inr rfl))) (fun _ _ _ _ _ => pts_nil) (fun _ _ _ _ _ => (pe_call Claw_row.G (hr.mono (by decide)) (by rfl) Claw_row.g Claw_row.kp Claw_row.b .nil pass0 (pa_cons (pv 1) (pa_cons (pv 2) (pa_cons (pv 3) pa_nil))))))
      (pss_cons (ps_set (i := 5) sc_law.nd rfl (by first | exact .inl rfl | exact .inr rfl) (pe_call Claw_take.G (hr.mono (by decide)) (by rfl) Claw_take.g Claw_take.kp Claw_take.b .nil pass0 (pa_cons (pv 1) (pa_cons pe_int pa_nil))))
      (pss_cons (ps_set (i := 6) sc_law.nd rfl (by first | exact .inl rfl | exact .inr rfl) (pe_op op_add (pe_call Claw_take.G (hr.mono (by decide)) (by rfl) Claw_take.g Claw_take.kp Claw_take.b .nil pass0 (pa_cons (pv 1) (pa_cons pe_int pa_nil))) (pe_op op_mul pe_int (pe_call Claw_take.G (hr.mono (by decide)) (by rfl) Claw_take.g Claw_take.kp Claw_take.b .nil pass0 (pa_cons (pv 1) (pa_cons pe_int pa_nil))))))
      (pss_cons (ps_set (i := 7) sc_law.nd rfl (by first | exact .inl rfl | exact .inr rfl) (pe_call Claw_take.G (hr.mono (by decide)) (by rfl) Claw_take.g Claw_take.kp Claw_take.b .nil pass0 (pa_cons (pv 1) (pa_cons pe_int pa_nil))))
      (pss_cons (ps_set (i := 8) sc_law.nd rfl (by first | exact .inl rfl | exact .inr rfl) pe_bl)
      (pss_cutS (ps_try_thru0 (pss_cons (ps_set (i := 8) sc_law.nd rfl (by first | exact .inl rfl | exact .inr rfl) (pe_cut (pe_and (pe_call Claw_rows_right.G (hr.mono (by decide)) (by rfl) Claw_rows_right.g Claw_rows_right.kp Claw_rows_right.b .nil pass0 (pa_cons (pv 4) pa_nil)) (pe_one (pe_call Claw_refuses.G (hr.mono (by decide)) (by rfl) Claw_refuses.g Claw_refuses.kp Claw_refuses.b .nil pass0 (pa_cons (pv 4) (pa_cons (pv 5) (pa_cons (pv 6) (pa_cons (pv 7) pa_nil)))))))))
      (pss_one (ps_for PassesOwn.never rfl (pi_tup (pe_op (op_catK (K := K) rfl) (pv 2) (pv 3))) (pg_name (i := 9) sc_law.nd rfl (by first | exact .inl rfl | exact .inr rfl))
      (pss_one (ps_set (i := 8) sc_law.nd rfl (by first | exact .inl rfl | exact .inr rfl) (pe_cut (pe_and (pv 8) (pe_one (pe_call Claw_equal.G (hr.mono (by decide)) (by rfl) Claw_equal.g Claw_equal.kp Claw_equal.b .nil pass0 (pa_cons (pe_call Cis_name.G (hr.mono (by decide)) (by rfl) Cis_name.g Cis_name.kp Cis_name.b .nil pass0 (pa_cons (pv 9) pa_nil)) (pa_cons (pe_cut (pe_and (pe_callB (call_isiK1 (K := K) rfl) (by rfl) B.isinstance (by decide +kernel) (pa_cons (pv 9) (pa_cons (pe_bltn (v := .ty "str") (by rfl) B.str_ (by decide +kernel) rfl) pa_nil))) (pe_one (pe_cmpR (op_neDK (K := K) rfl hr.units) (pv 9) pe_str (nomark _))))) pa_nil))))))))))))
      (pss_one (ps_ret (pv 8)))))))))))), ?_⟩
    walk_at "u"
    refine ⟨_, rfl, a, ns, rfl, hL, hl, fun d H1 s1 hd1 => ⟨_, rfl, d, rfl, hd1, fun b H2 xs s2 hd2 hb pb lb1 lb2 => ⟨_, rfl, d, rfl, hd2, fun o H3 ys s3 hd3 ho po lo1 lo2 => ?_⟩⟩⟩
    have hb3 := st_sb hd2 s3 hb
    clear s1 s2 s3 hd1 hd2 hb
    walk_at "u"
    refine t_lcS (fun J H4 => ∃ n : Nat, 1 ≤ n ∧ n ≤ 5 ∧ J = Itr 0 n ∧ SameB d H3 H4 ∧ IntL H4 d) (fun R r => by
      walk_at "u"
      refine ⟨_, rfl, d, 5, rfl, hd3, by decide, fun t H4 t0 t1 s4 hd4 => ⟨_, _, rfl, rfl, _, rfl, by omega, by omega, r _ _ ⟨(1 + t).toNat, by omega, by omega, rfl, s4, hd4⟩⟩⟩) (fun J H4 h => ?_)
    obtain ⟨n, n1, n5, rfl, s4, hd4⟩ := h
    refine ⟨n, _, _, walk_range, fun D i H' => SameB d H4 H' ∧ IntL H' d ∧ ∃ rs xss, H' D = some (.lst rs) ∧ Paired (IsT K H') rs xss ∧ (∀ xs ∈ xss, PoolL xs ∧ xs.length ≤ 200) ∧ xss.length = i, fun D hD => ⟨SameB.of (same_new hD), intL_same (same_new hD) hd4, [], [], upd_same, .nil, (fun x hx => by cases hx), rfl⟩, fun _ _ _ _ _ => trivial, fun D hD i x H5 H6 hi p y => ?_, fun D hD H5 p => ?_⟩
    · obtain ⟨rfl, rfl⟩ := y
      obtain ⟨sb, hd5, rs, xss, eD, fr, hx, lx⟩ := p
      have nD : D ≠ d := fun z => by
        obtain ⟨ns, e⟩ := hd4
        rw [z, e] at hD
        cases hD
      walk_at "u"
      refine ⟨rfl, iteT ⟨_, rfl, _, rfl, _, rfl, d, b, o, xs, ys, rfl, hd5, ⟨st_sb hd3 (s4.trans sb) hb3, pb, lb1, lb2⟩, ⟨st_sb hd3 (s4.trans sb) ho, po, lo1, lo2⟩, fun p H7 zs s7 hd7 hz pz lz => ?_⟩⟩
      have eD7 : H7 D = some (.lst rs) := s7 _ _ nD eD
      have hlen := Paired.length fr
      refine ⟨rs, eD7, small1000 (by omega), sb_mut hD (sb.trans s7), intL_ne (Ne.symm nD) hd7, rs ++ [.ref p], xss ++ [zs], upd_same, pair_isB eD7 (pair_cat (L2.Paired.mapP fr fun _ _ ⟨a, r, z⟩ => ⟨a, r, st_sb hd5 s7 z⟩) (.cons ⟨p, rfl, hz⟩ .nil)), fun us hus => ?_, by rw [List.length_append, lx]; rfl⟩
      rcases List.mem_append.mp hus with h | h
      · exact hx us h
      · rw [List.mem_singleton.mp h]
        exact ⟨pz, lz⟩
    · obtain ⟨sb, hd5, rs, xss, eD, fr, hx, lx⟩ := p
      have nD : D ≠ d := fun z => by
        obtain ⟨ns, e⟩ := hd4
        rw [z, e] at hD
        cases hD
      have hb5 := st_sb hd3 (s4.trans sb) hb3
      have ho5 := st_sb hd3 (s4.trans sb) ho
      clear hb3 ho sb s4 hd3 hD
      walk_at "u"
      refine ⟨_, rfl, d, 9, rfl, hd5, by decide, fun pick H6 p0 p9 s6 hd6 => ⟨_, rfl, d, 30, rfl, hd6, by decide, fun at1 H7 a10 a11 s7 hd7 => ⟨_, rfl, d, 7, rfl, hd7, by decide, fun at2 H8 a20 a21 s8 hd8 => ⟨_, _, rfl, rfl, .inl ⟨by decide, by decide⟩, _, _, rfl, rfl, ⟨_, rfl, d, 5, rfl, hd8, by decide, fun spot H9 sp0 sp1 s9 hd9 => ?_⟩⟩⟩⟩⟩
      have sb9 := ((s6.trans s7).trans s8).trans s9
      have fr9 : Paired (IsT K H9) rs xss := L2.Paired.mapP fr fun _ _ ⟨a, r, z⟩ => ⟨a, r, st_sb hd5 sb9 z⟩
      have hb9 := st_sb hd5 sb9 hb5
      have ho9 := st_sb hd5 sb9 ho5
      have eD9 : H9 D = some (.lst rs) := sb9 _ _ nD eD
      generalize eat : at1 + 30 * at2 = at0
      have hat : 0 ≤ at0 := by omega
      clear eat a10 a11 a20 a21 s6 s7 s8 s9 sb9 hd6 hd7 hd8 hd9 fr hb5 ho5 eD
      walk_at "u"
      refine ⟨fun σ' H' => ∃ y9 y10, σ' = [some (.ref a), some (.ref d), some (.ref b), some (.ref o), some (.ref D), some (.int pick), some (.int at0), some (.int spot), some (.bl true), y9, y10], ⟨fun v H' => v = .bl true ∧ Same H9 H', ?_, ?_⟩, ?_⟩
      · exact ⟨_, rfl, D, rs, xss, rfl, .inl (.inl eD9), fr9, hx, by omega, fun H10 s10 => ⟨true, rfl, iteT ⟨_, rfl, _, rfl, _, rfl, _, rfl, D, rs, xss, pick, at0, spot, rfl, .inl (.inl (s10 _ _ eD9)), pair_isT s10 fr9, hx, ⟨by omega, by omega⟩, ⟨p0, p9⟩, hat, sp0, fun H11 s11 => ⟨rfl, s10.trans s11⟩⟩⟩⟩
      · rintro _ H10 ⟨rfl, s10⟩
        refine t_forS (fun J H' => ∃ p, J = Itt K p ∧ Same H10 H' ∧ SqT K H' p (xs ++ ys)) (fun R r => ?_) (fun J H11 h => ?_)
        · walk_at "u"
          exact ⟨_, rfl, _, rfl, r_catA (st_same s10 hb9) (st_same s10 ho9) (small2000 (by omega)) fun p H11 s11 hp => ⟨p, rfl, ⟨_, hp⟩, r _ _ ⟨p, rfl, s11, hp⟩⟩⟩
        · obtain ⟨p, rfl, s11, hp⟩ := h
          refine for_it (walk_tup (xs := xs ++ ys)) (fun i σ H' => Same H11 H' ∧ ∃ y9 y10, σ = [some (.ref a), some (.ref d), some (.ref b), some (.ref o), some (.ref D), some (.int pick), some (.int at0), some (.int spot), some (.bl true), y9, y10]) ⟨Same.refl _, _, _, rfl⟩ (fun i σ H' _ p => st_same p.1 hp) (fun i x σ H12 H13 hi p y => ?_) (fun σ H12 p => ?_)
          · obtain ⟨sm, y9, y10, rfl⟩ := p
            obtain ⟨rfl, f2⟩ := y
            have hx : x ∈ pool := (pb.cat po) x (List.mem_of_getElem? f2)
            walk_at "u"
            refine ⟨fun v H' => v = .bl true ∧ Same H13 H', ?_, ?_⟩
            · refine ⟨_, rfl, true, rfl, iteT ⟨_, rfl, x, rfl, .flat (pool_flat hx), fun H14 s14 => ⟨fun v H' => v = .bl (isStrV x && decide (x ≠ .str "*")) ∧ Same H13 H', ?_, ?_⟩⟩⟩
              · refine ⟨_, rfl, r_isStr (.flat (pool_flat hx)) ?_⟩
                refine ⟨_, rfl, ?_⟩
                cases e : isStrV x with
                | false => exact iteF ⟨rfl, s14⟩
                | true =>
                  refine iteT ⟨_, rfl, r_neSS (pool_sc hx) (by decide +kernel) ⟨?_, s14⟩⟩
                  simp
              · rintro _ H15 ⟨rfl, s15⟩
                rw [← pool_name hx]
                exact ⟨_, _, .bool (isNameV x), rfl, .bl _, .bl _, rfl, by simp [nodes], fun H16 s16 => ⟨rfl, s15.trans s16⟩⟩
            · rintro _ H14 ⟨rfl, s14⟩
              exact ⟨sm.trans s14, _, _, rfl⟩
          · obtain ⟨sm, y9, y10, rfl⟩ := p
            exact ⟨_, _, rfl⟩
      · rintro _ H10 ⟨y9, y10, rfl⟩
        exact ⟨_, rfl, q H10⟩
end
end K65

namespace K65
open PySem PySem.Spec PyProof.Rows L2 KR KK
theorem exm_self {K : PySem.W.Frag} {S : Addr} (h1 : PySem.W.subIn K (.ref S) (.type "BaseException") = some true) (h2 : PySem.W.isClsIn K S = true) (h3 : PySem.W.typeIn K (.ref S) = some (.type "type")) (h4 : PySem.W.subIn K (.ref S) (.ref S) = some true) :
    PySem.W.exmOne K (.ref S) (.ref S) = some true := by
  have e1 : (PySem.W.subIn K (.ref S) (.type "BaseException") == some true) = true := by rw [h1] <;> rfl
  have e2 : ((PySem.W.clsIn K S).isSome && PySem.W.typeIn K (.ref S) == some (.type "type")) = true := by
    have h2' : (PySem.W.clsIn K S).isSome = true := h2
    rw [h2', h3] <;> rfl
  show (if (PySem.W.subIn K (.ref S) (.type "BaseException") == some true) = true then (if ((PySem.W.clsIn K S).isSome && PySem.W.typeIn K (.ref S) == some (.type "type")) = true then PySem.W.subIn K (.ref S) (.ref S) else none) else none) = some true
  rw [if_pos e1, if_pos e2]
  exact h4
theorem all_mk {P : Program} {w : World} {K : PySem.W.Frag} {h : Heap} {mg : Str → Option Value} {fa f0 f1 f2 f3 f4 f5 f6 f7 f8 f9 f10 f11 f12 f13 f14 f15 f16 f17 f18 f19 f20 f21 f22 f23 f24 f25 C fI : Addr} (X : K.In h) (G : h.Ns mainGlobals mg) (hfa : mg "law" = some (.ref fa))
    {nmC qC : Str} {NC : Addr} {bsC bmC : List Value} {snC : List Str} {subC : List Value} {abC : Bool} {colC : Option Bool} {ddC : Option Addr} {m0 m1 m2 m3 m5 : Option Value}
    {odI anI : Option Addr} {slI : Array (Option Value)} {ocI kVI dcI pmI cdI ctI : Value}
    (aC : PySem.W.nsIn K mainGlobals "BadRow" = some (some (.ref C)))
    (xC : K.lookup C = some (excClassObj nmC qC C NC bsC bmC true snC subC abC colC ddC m0 m1 m2 m3 m5 "ValueError.__new__"))
    (rC : PySem.HandSPX.refsVE bmC = true)
    (saC : PySem.W.findIn K (.ref C) "__setattr__" = some (some (.builtin "object.__setattr__")))
    (gaC : PySem.W.findIn K (.ref C) "__getattribute__" = some (some (.builtin "BaseException.__getattribute__")))
    (ggC : PySem.W.findIn K (.ref C) "__getattr__" = some none)
    (nbC : PySem.W.findIn K (.ref C) "at" = some none)
    (aI : PySem.W.findIn K (.ref C) "__init__" = some (some (.ref fI)))
    (tI : PySem.W.typeIn K (.ref fI) = some (.type "function"))
    (lI : K.lookup fI = some ⟨ocI, odI, .func (PySem.W.fnOf "__init__" "BadRow.__init__" (defArgs s_BadRow___init__) (defBody s_BadRow___init__) (defScope s_BadRow___init__) .none kVI dcI pmI anI cdI ctI), slI⟩)
    (cI : PySem.W.codeIn K cdI "BadRow.__init__" = true)
    (kI : PySem.W.keepIn K (.ref fI) = true)
    (kC : PySem.W.keepIn K (.ref C) = true)
    (eC : PySem.W.subIn K (.ref C) (.type "BaseException") = some true)
    (tC : PySem.W.typeIn K (.ref C) = some (.type "type"))
    (hC : PySem.W.hasDictIn K C = true)
    (iC : PySem.W.isClsIn K C = true)
    (sC : PySem.W.subIn K (.ref C) (.ref C) = some true)
    {od0 an0 : Option Addr} {sl0 : Array (Option Value)} {oc0 kV0 dc0 pm0 cd0 ct0 : Value}
    (a0 : PySem.W.nsIn K mainGlobals "is_int" = some (some (.ref f0)))
    (l0 : K.lookup f0 = some ⟨oc0, od0, .func (PySem.W.fnOf "is_int" "is_int" (defArgs s_is_int) (defBody s_is_int) (defScope s_is_int) .none kV0 dc0 pm0 an0 cd0 ct0), sl0⟩)
    (c0 : PySem.W.codeIn K cd0 "is_int" = true) (k0 : PySem.W.keepIn K (.ref f0) = true)
    {od1 an1 : Option Addr} {sl1 : Array (Option Value)} {oc1 kV1 dc1 pm1 cd1 ct1 : Value}
    (a1 : PySem.W.nsIn K mainGlobals "is_name" = some (some (.ref f1)))
    (l1 : K.lookup f1 = some ⟨oc1, od1, .func (PySem.W.fnOf "is_name" "is_name" (defArgs s_is_name) (defBody s_is_name) (defScope s_is_name) .none kV1 dc1 pm1 an1 cd1 ct1), sl1⟩)
    (c1 : PySem.W.codeIn K cd1 "is_name" = true) (k1 : PySem.W.keepIn K (.ref f1) = true)
    {od2 an2 : Option Addr} {sl2 : Array (Option Value)} {oc2 kV2 dc2 pm2 cd2 ct2 : Value}
    (a2 : PySem.W.nsIn K mainGlobals "wrong_entry" = some (some (.ref f2)))
    (l2 : K.lookup f2 = some ⟨oc2, od2, .func (PySem.W.fnOf "wrong_entry" "wrong_entry" (defArgs s_wrong_entry) (defBody s_wrong_entry) (defScope s_wrong_entry) .none kV2 dc2 pm2 an2 cd2 ct2), sl2⟩)
    (c2 : PySem.W.codeIn K cd2 "wrong_entry" = true) (k2 : PySem.W.keepIn K (.ref f2) = true)
    {od3 an3 : Option Addr} {sl3 : Array (Option Value)} {oc3 kV3 dc3 pm3 cd3 ct3 : Value}
    (a3 : PySem.W.nsIn K mainGlobals "check_entries" = some (some (.ref f3)))
    (l3 : K.lookup f3 = some ⟨oc3, od3, .func (PySem.W.fnOf "check_entries" "check_entries" (defArgs s_check_entries) (defBody s_check_entries) (defScope s_check_entries) .none kV3 dc3 pm3 an3 cd3 ct3), sl3⟩)
    (c3 : PySem.W.codeIn K cd3 "check_entries" = true) (k3 : PySem.W.keepIn K (.ref f3) = true)
    {od4 an4 : Option Addr} {sl4 : Array (Option Value)} {oc4 kV4 dc4 pm4 cd4 ct4 : Value}
    (a4 : PySem.W.nsIn K mainGlobals "check_entry_rows" = some (some (.ref f4)))
    (l4 : K.lookup f4 = some ⟨oc4, od4, .func (PySem.W.fnOf "check_entry_rows" "check_entry_rows" (defArgs s_check_entry_rows) (defBody s_check_entry_rows) (defScope s_check_entry_rows) .none kV4 dc4 pm4 an4 cd4 ct4), sl4⟩)
    (c4 : PySem.W.codeIn K cd4 "check_entry_rows" = true) (k4 : PySem.W.keepIn K (.ref f4) = true)
    {od5 an5 : Option Addr} {sl5 : Array (Option Value)} {oc5 kV5 dc5 pm5 cd5 ct5 : Value}
    (a5 : PySem.W.nsIn K mainGlobals "plain_root" = some (some (.ref f5)))
    (l5 : K.lookup f5 = some ⟨oc5, od5, .func (PySem.W.fnOf "plain_root" "plain_root" (defArgs s_plain_root) (defBody s_plain_root) (defScope s_plain_root) .none kV5 dc5 pm5 an5 cd5 ct5), sl5⟩)
    (c5 : PySem.W.codeIn K cd5 "plain_root" = true) (k5 : PySem.W.keepIn K (.ref f5) = true)
    {od6 an6 : Option Addr} {sl6 : Array (Option Value)} {oc6 kV6 dc6 pm6 cd6 ct6 : Value}
    (a6 : PySem.W.nsIn K mainGlobals "_law_root" = some (some (.ref f6)))
    (l6 : K.lookup f6 = some ⟨oc6, od6, .func (PySem.W.fnOf "_law_root" "_law_root" (defArgs s_law_root) (defBody s_law_root) (defScope s_law_root) .none kV6 dc6 pm6 an6 cd6 ct6), sl6⟩)
    (c6 : PySem.W.codeIn K cd6 "_law_root" = true) (k6 : PySem.W.keepIn K (.ref f6) = true)
    {od7 an7 : Option Addr} {sl7 : Array (Option Value)} {oc7 kV7 dc7 pm7 cd7 ct7 : Value}
    (a7 : PySem.W.nsIn K mainGlobals "rows_root" = some (some (.ref f7)))
    (l7 : K.lookup f7 = some ⟨oc7, od7, .func (PySem.W.fnOf "rows_root" "rows_root" (defArgs s_rows_root) (defBody s_rows_root) (defScope s_rows_root) .none kV7 dc7 pm7 an7 cd7 ct7), sl7⟩)
    (c7 : PySem.W.codeIn K cd7 "rows_root" = true) (k7 : PySem.W.keepIn K (.ref f7) = true)
    {od8 an8 : Option Addr} {sl8 : Array (Option Value)} {oc8 kV8 dc8 pm8 cd8 ct8 : Value}
    (a8 : PySem.W.nsIn K mainGlobals "check_two_rows" = some (some (.ref f8)))
    (l8 : K.lookup f8 = some ⟨oc8, od8, .func (PySem.W.fnOf "check_two_rows" "check_two_rows" (defArgs s_check_two_rows) (defBody s_check_two_rows) (defScope s_check_two_rows) .none kV8 dc8 pm8 an8 cd8 ct8), sl8⟩)
    (c8 : PySem.W.codeIn K cd8 "check_two_rows" = true) (k8 : PySem.W.keepIn K (.ref f8) = true)
    {od9 an9 : Option Addr} {sl9 : Array (Option Value)} {oc9 kV9 dc9 pm9 cd9 ct9 : Value}
    (a9 : PySem.W.nsIn K mainGlobals "root_of" = some (some (.ref f9)))
    (l9 : K.lookup f9 = some ⟨oc9, od9, .func (PySem.W.fnOf "root_of" "root_of" (defArgs s_root_of) (defBody s_root_of) (defScope s_root_of) .none kV9 dc9 pm9 an9 cd9 ct9), sl9⟩)
    (c9 : PySem.W.codeIn K cd9 "root_of" = true) (k9 : PySem.W.keepIn K (.ref f9) = true)
    {od10 an10 : Option Addr} {sl10 : Array (Option Value)} {oc10 kV10 dc10 pm10 cd10 ct10 : Value}
    (a10 : PySem.W.nsIn K mainGlobals "common_root" = some (some (.ref f10)))
    (l10 : K.lookup f10 = some ⟨oc10, od10, .func (PySem.W.fnOf "common_root" "common_root" (defArgs s_common_root) (defBody s_common_root) (defScope s_common_root) .none kV10 dc10 pm10 an10 cd10 ct10), sl10⟩)
    (c10 : PySem.W.codeIn K cd10 "common_root" = true) (k10 : PySem.W.keepIn K (.ref f10) = true)
    {od11 an11 : Option Addr} {sl11 : Array (Option Value)} {oc11 kV11 dc11 pm11 cd11 ct11 : Value}
    (a11 : PySem.W.nsIn K mainGlobals "orders_steady" = some (some (.ref f11)))
    (l11 : K.lookup f11 = some ⟨oc11, od11, .func (PySem.W.fnOf "orders_steady" "orders_steady" (defArgs s_orders_steady) (defBody s_orders_steady) (defScope s_orders_steady) .none kV11 dc11 pm11 an11 cd11 ct11), sl11⟩)
    (c11 : PySem.W.codeIn K cd11 "orders_steady" = true) (k11 : PySem.W.keepIn K (.ref f11) = true)
    {od12 an12 : Option Addr} {sl12 : Array (Option Value)} {oc12 kV12 dc12 pm12 cd12 ct12 : Value}
    (a12 : PySem.W.nsIn K mainGlobals "do_rows_commute" = some (some (.ref f12)))
    (l12 : K.lookup f12 = some ⟨oc12, od12, .func (PySem.W.fnOf "do_rows_commute" "do_rows_commute" (defArgs s_do_rows_commute) (defBody s_do_rows_commute) (defScope s_do_rows_commute) .none kV12 dc12 pm12 an12 cd12 ct12), sl12⟩)
    (c12 : PySem.W.codeIn K cd12 "do_rows_commute" = true) (k12 : PySem.W.keepIn K (.ref f12) = true)
    {od13 an13 : Option Addr} {sl13 : Array (Option Value)} {oc13 kV13 dc13 pm13 cd13 ct13 : Value}
    (a13 : PySem.W.nsIn K mainGlobals "mixings_steady" = some (some (.ref f13)))
    (l13 : K.lookup f13 = some ⟨oc13, od13, .func (PySem.W.fnOf "mixings_steady" "mixings_steady" (defArgs s_mixings_steady) (defBody s_mixings_steady) (defScope s_mixings_steady) .none kV13 dc13 pm13 an13 cd13 ct13), sl13⟩)
    (c13 : PySem.W.codeIn K cd13 "mixings_steady" = true) (k13 : PySem.W.keepIn K (.ref f13) = true)
    {od14 an14 : Option Addr} {sl14 : Array (Option Value)} {oc14 kV14 dc14 pm14 cd14 ct14 : Value}
    (a14 : PySem.W.nsIn K mainGlobals "_law_equal" = some (some (.ref f14)))
    (l14 : K.lookup f14 = some ⟨oc14, od14, .func (PySem.W.fnOf "_law_equal" "_law_equal" (defArgs s_law_equal) (defBody s_law_equal) (defScope s_law_equal) .none kV14 dc14 pm14 an14 cd14 ct14), sl14⟩)
    (c14 : PySem.W.codeIn K cd14 "_law_equal" = true) (k14 : PySem.W.keepIn K (.ref f14) = true)
    {od15 an15 : Option Addr} {sl15 : Array (Option Value)} {oc15 kV15 dc15 pm15 cd15 ct15 : Value}
    (a15 : PySem.W.nsIn K mainGlobals "_law_draws" = some (some (.ref f15)))
    (l15 : K.lookup f15 = some ⟨oc15, od15, .func (PySem.W.fnOf "_law_draws" "_law_draws" (defArgs s_law_draws) (defBody s_law_draws) (defScope s_law_draws) .none kV15 dc15 pm15 an15 cd15 ct15), sl15⟩)
    (c15 : PySem.W.codeIn K cd15 "_law_draws" = true) (k15 : PySem.W.keepIn K (.ref f15) = true)
    {od16 an16 : Option Addr} {sl16 : Array (Option Value)} {oc16 kV16 dc16 pm16 cd16 ct16 : Value}
    (a16 : PySem.W.nsIn K mainGlobals "_law_take" = some (some (.ref f16)))
    (l16 : K.lookup f16 = some ⟨oc16, od16, .func (PySem.W.fnOf "_law_take" "_law_take" (defArgs s_law_take) (defBody s_law_take) (defScope s_law_take) .none kV16 dc16 pm16 an16 cd16 ct16), sl16⟩)
    (c16 : PySem.W.codeIn K cd16 "_law_take" = true) (k16 : PySem.W.keepIn K (.ref f16) = true)
    {od17 an17 : Option Addr} {sl17 : Array (Option Value)} {oc17 kV17 dc17 pm17 cd17 ct17 : Value}
    (a17 : PySem.W.nsIn K mainGlobals "_law_pool" = some (some (.ref f17)))
    (l17 : K.lookup f17 = some ⟨oc17, od17, .func (PySem.W.fnOf "_law_pool" "_law_pool" (defArgs s_law_pool) (defBody s_law_pool) (defScope s_law_pool) .none kV17 dc17 pm17 an17 cd17 ct17), sl17⟩)
    (c17 : PySem.W.codeIn K cd17 "_law_pool" = true) (k17 : PySem.W.keepIn K (.ref f17) = true)
    {od18 an18 : Option Addr} {sl18 : Array (Option Value)} {oc18 kV18 dc18 pm18 cd18 ct18 : Value}
    (a18 : PySem.W.nsIn K mainGlobals "_law_base" = some (some (.ref f18)))
    (l18 : K.lookup f18 = some ⟨oc18, od18, .func (PySem.W.fnOf "_law_base" "_law_base" (defArgs s_law_base) (defBody s_law_base) (defScope s_law_base) .none kV18 dc18 pm18 an18 cd18 ct18), sl18⟩)
    (c18 : PySem.W.codeIn K cd18 "_law_base" = true) (k18 : PySem.W.keepIn K (.ref f18) = true)
    {od19 an19 : Option Addr} {sl19 : Array (Option Value)} {oc19 kV19 dc19 pm19 cd19 ct19 : Value}
    (a19 : PySem.W.nsIn K mainGlobals "_law_row" = some (some (.ref f19)))
    (l19 : K.lookup f19 = some ⟨oc19, od19, .func (PySem.W.fnOf "_law_row" "_law_row" (defArgs s_law_row) (defBody s_law_row) (defScope s_law_row) .none kV19 dc19 pm19 an19 cd19 ct19), sl19⟩)
    (c19 : PySem.W.codeIn K cd19 "_law_row" = true) (k19 : PySem.W.keepIn K (.ref f19) = true)
    {od20 an20 : Option Addr} {sl20 : Array (Option Value)} {oc20 kV20 dc20 pm20 cd20 ct20 : Value}
    (a20 : PySem.W.nsIn K mainGlobals "_law_common" = some (some (.ref f20)))
    (l20 : K.lookup f20 = some ⟨oc20, od20, .func (PySem.W.fnOf "_law_common" "_law_common" (defArgs s_law_common) (defBody s_law_common) (defScope s_law_common) .none kV20 dc20 pm20 an20 cd20 ct20), sl20⟩)
    (c20 : PySem.W.codeIn K cd20 "_law_common" = true) (k20 : PySem.W.keepIn K (.ref f20) = true)
    {od21 an21 : Option Addr} {sl21 : Array (Option Value)} {oc21 kV21 dc21 pm21 cd21 ct21 : Value}
    (a21 : PySem.W.nsIn K mainGlobals "_law_pair_right" = some (some (.ref f21)))
    (l21 : K.lookup f21 = some ⟨oc21, od21, .func (PySem.W.fnOf "_law_pair_right" "_law_pair_right" (defArgs s_law_pair_right) (defBody s_law_pair_right) (defScope s_law_pair_right) .none kV21 dc21 pm21 an21 cd21 ct21), sl21⟩)
    (c21 : PySem.W.codeIn K cd21 "_law_pair_right" = true) (k21 : PySem.W.keepIn K (.ref f21) = true)
    {od22 an22 : Option Addr} {sl22 : Array (Option Value)} {oc22 kV22 dc22 pm22 cd22 ct22 : Value}
    (a22 : PySem.W.nsIn K mainGlobals "_law_rows_right" = some (some (.ref f22)))
    (l22 : K.lookup f22 = some ⟨oc22, od22, .func (PySem.W.fnOf "_law_rows_right" "_law_rows_right" (defArgs s_law_rows_right) (defBody s_law_rows_right) (defScope s_law_rows_right) .none kV22 dc22 pm22 an22 cd22 ct22), sl22⟩)
    (c22 : PySem.W.codeIn K cd22 "_law_rows_right" = true) (k22 : PySem.W.keepIn K (.ref f22) = true)
    {od23 an23 : Option Addr} {sl23 : Array (Option Value)} {oc23 kV23 dc23 pm23 cd23 ct23 : Value}
    (a23 : PySem.W.nsIn K mainGlobals "_law_heard" = some (some (.ref f23)))
    (l23 : K.lookup f23 = some ⟨oc23, od23, .func (PySem.W.fnOf "_law_heard" "_law_heard" (defArgs s_law_heard) (defBody s_law_heard) (defScope s_law_heard) .none kV23 dc23 pm23 an23 cd23 ct23), sl23⟩)
    (c23 : PySem.W.codeIn K cd23 "_law_heard" = true) (k23 : PySem.W.keepIn K (.ref f23) = true)
    {od24 an24 : Option Addr} {sl24 : Array (Option Value)} {oc24 kV24 dc24 pm24 cd24 ct24 : Value}
    (a24 : PySem.W.nsIn K mainGlobals "_law_refuses" = some (some (.ref f24)))
    (l24 : K.lookup f24 = some ⟨oc24, od24, .func (PySem.W.fnOf "_law_refuses" "_law_refuses" (defArgs s_law_refuses) (defBody s_law_refuses) (defScope s_law_refuses) .none kV24 dc24 pm24 an24 cd24 ct24), sl24⟩)
    (c24 : PySem.W.codeIn K cd24 "_law_refuses" = true) (k24 : PySem.W.keepIn K (.ref f24) = true)
    {od25 an25 : Option Addr} {sl25 : Array (Option Value)} {oc25 kV25 dc25 pm25 cd25 ct25 : Value}
    (a25 : PySem.W.nsIn K mainGlobals "law" = some (some (.ref f25)))
    (l25 : K.lookup f25 = some ⟨oc25, od25, .func (PySem.W.fnOf "law" "law" (defArgs s_law) (defBody s_law) (defScope s_law) .none kV25 dc25 pm25 an25 cd25 ct25), sl25⟩)
    (c25 : PySem.W.codeIn K cd25 "law" = true) (k25 : PySem.W.keepIn K (.ref f25) = true)
    (z0 : PySem.W.nsIn K mainGlobals "len" = some none)
    (z1 : PySem.W.nsIn K mainGlobals "all" = some none)
    (z2 : PySem.W.nsIn K mainGlobals "isinstance" = some none)
    (z3 : PySem.W.nsIn K mainGlobals "enumerate" = some none)
    (z4 : PySem.W.nsIn K mainGlobals "range" = some none)
    (z5 : PySem.W.nsIn K mainGlobals "min" = some none)
    (z6 : PySem.W.nsIn K mainGlobals "int" = some none)
    (z7 : PySem.W.nsIn K mainGlobals "bool" = some none)
    (z8 : PySem.W.nsIn K mainGlobals "str" = some none)
    (z9 : PySem.W.nsIn K mainGlobals "list" = some none)
    (z10 : PySem.W.nsIn K mainGlobals "tuple" = some none)
    : ∃ fd : FuncData, (∀ (s : Shared) (v : Value), BindsTo s fd ⟨[v], []⟩ [("script", v)]) ∧ ∀ base : Heap, K.In base → base.Ns mainGlobals mg → FnOk P w K mg base CX0 8 fa fd p_law (spLaw K) := by
  have e := hfa.symm.trans (PySem.W.mg_of X G a25)
  cases e
  have F0 := fun_mk (st := s_is_int) l0 c0 k0
  have F1 := fun_mk (st := s_is_name) l1 c1 k1
  have F2 := fun_mk (st := s_wrong_entry) l2 c2 k2
  have F3 := fun_mk (st := s_check_entries) l3 c3 k3
  have F4 := fun_mk (st := s_check_entry_rows) l4 c4 k4
  have F5 := fun_mk (st := s_plain_root) l5 c5 k5
  have F6 := fun_mk (st := s_law_root) l6 c6 k6
  have F7 := fun_mk (st := s_rows_root) l7 c7 k7
  have F8 := fun_mk (st := s_check_two_rows) l8 c8 k8
  have F9 := fun_mk (st := s_root_of) l9 c9 k9
  have F10 := fun_mk (st := s_common_root) l10 c10 k10
  have F11 := fun_mk (st := s_orders_steady) l11 c11 k11
  have F12 := fun_mk (st := s_do_rows_commute) l12 c12 k12
  have F13 := fun_mk (st := s_mixings_steady) l13 c13 k13
  have F14 := fun_mk (st := s_law_equal) l14 c14 k14
  have F15 := fun_mk (st := s_law_draws) l15 c15 k15
  have F16 := fun_mk (st := s_law_take) l16 c16 k16
  have F17 := fun_mk (st := s_law_pool) l17 c17 k17
  have F18 := fun_mk (st := s_law_base) l18 c18 k18
  have F19 := fun_mk (st := s_law_row) l19 c19 k19
  have F20 := fun_mk (st := s_law_common) l20 c20 k20
  have F21 := fun_mk (st := s_law_pair_right) l21 c21 k21
  have F22 := fun_mk (st := s_law_rows_right) l22 c22 k22
  have F23 := fun_mk (st := s_law_heard) l23 c23 k23
  have F24 := fun_mk (st := s_law_refuses) l24 c24 k24
  have F25 := fun_mk (st := s_law) l25 c25 k25
  have b0 := F0.binds (ps := p_is_int) fun _ _ _ _ _ _ us hl => match us, hl with | [_], _ => rfl
  have b1 := F1.binds (ps := p_is_name) fun _ _ _ _ _ _ us hl => match us, hl with | [_], _ => rfl
  have b2 := F2.binds (ps := p_wrong_entry) fun _ _ _ _ _ _ us hl => match us, hl with | [_], _ => rfl
  have b3 := F3.binds (ps := p_check_entries) fun _ _ _ _ _ _ us hl => match us, hl with | [_], _ => rfl
  have b4 := F4.binds (ps := p_check_entry_rows) fun _ _ _ _ _ _ us hl => match us, hl with | [_], _ => rfl
  have b5 := F5.binds (ps := p_plain_root) fun _ _ _ _ _ _ us hl => match us, hl with | [_], _ => rfl
  have b6 := F6.binds (ps := p_law_root) fun _ _ _ _ _ _ us hl => match us, hl with | [_], _ => rfl
  have b7 := F7.binds (ps := p_rows_root) fun _ _ _ _ _ _ us hl => match us, hl with | [_], _ => rfl
  have b8 := F8.binds (ps := p_check_two_rows) fun _ _ _ _ _ _ us hl => match us, hl with | [_, _], _ => rfl
  have b9 := F9.binds (ps := p_root_of) fun _ _ _ _ _ _ us hl => match us, hl with | [_], _ => rfl
  have b10 := F10.binds (ps := p_common_root) fun _ _ _ _ _ _ us hl => match us, hl with | [_], _ => rfl
  have b11 := F11.binds (ps := p_orders_steady) fun _ _ _ _ _ _ us hl => match us, hl with | [_], _ => rfl
  have b12 := F12.binds (ps := p_do_rows_commute) fun _ _ _ _ _ _ us hl => match us, hl with | [_, _], _ => rfl
  have b13 := F13.binds (ps := p_mixings_steady) fun _ _ _ _ _ _ us hl => match us, hl with | [_, _], _ => rfl
  have b14 := F14.binds (ps := p_law_equal) fun _ _ _ _ _ _ us hl => match us, hl with | [_, _], _ => rfl
  have b15 := F15.binds (ps := p_law_draws) fun _ _ _ _ _ _ us hl => match us, hl with | [_], _ => rfl
  have b16 := F16.binds (ps := p_law_take) fun _ _ _ _ _ _ us hl => match us, hl with | [_, _], _ => rfl
  have b17 := F17.binds (ps := p_law_pool) fun _ _ _ _ _ _ us hl => match us, hl with | [_], _ => rfl
  have b18 := F18.binds (ps := p_law_base) fun _ _ _ _ _ _ us hl => match us, hl with | [_], _ => rfl
  have b19 := F19.binds (ps := p_law_row) fun _ _ _ _ _ _ us hl => match us, hl with | [_, _, _], _ => rfl
  have b20 := F20.binds (ps := p_law_common) fun _ _ _ _ _ _ us hl => match us, hl with | [_], _ => rfl
  have b21 := F21.binds (ps := p_law_pair_right) fun _ _ _ _ _ _ us hl => match us, hl with | [_, _], _ => rfl
  have b22 := F22.binds (ps := p_law_rows_right) fun _ _ _ _ _ _ us hl => match us, hl with | [_], _ => rfl
  have b23 := F23.binds (ps := p_law_heard) fun _ _ _ _ _ _ us hl => match us, hl with | [_, _, _], _ => rfl
  have b24 := F24.binds (ps := p_law_refuses) fun _ _ _ _ _ _ us hl => match us, hl with | [_, _, _, _], _ => rfl
  have FI := fun_mk (st := s_BadRow___init__) lI cI kI
  have bI := FI.binds (ps := p_BadRow___init__) fun _ _ _ _ _ _ us hl => match us, hl with | [_, _], _ => rfl
  have BT : BadT K mg C fI := { gC := PySem.W.mg_of X G aC, ox := ⟨⟨nmC, qC, NC, bsC, bmC, snC, subC, abC, colC, ddC, m0, m1, m2, m3, m5, xC, rC⟩, saC, eC, tC, kC⟩, xf := ⟨gaC, ggC, eC, hC⟩, noA := nbC, iC := aI, tI := tI, te := exm_self eC iC tC sC }
  have B : Bi mg := { len := PySem.W.mg_none_of X G z0, all := PySem.W.mg_none_of X G z1, isinstance := PySem.W.mg_none_of X G z2, enumerate := PySem.W.mg_none_of X G z3, range := PySem.W.mg_none_of X G z4, min := PySem.W.mg_none_of X G z5, int_ := PySem.W.mg_none_of X G z6, bool_ := PySem.W.mg_none_of X G z7, str_ := PySem.W.mg_none_of X G z8, list_ := PySem.W.mg_none_of X G z9, tuple_ := PySem.W.mg_none_of X G z10 }
  refine ⟨PySem.W.fnOf "law" "law" (defArgs s_law) (defBody s_law) (defScope s_law) .none kV25 dc25 pm25 an25 cd25 ct25, fun s v => .of_eq rfl, fun base _ _ => ?_⟩
  have T : BadF P w K mg base := ⟨C, fI, _, BT, ok_init FI, bI⟩
  have Cis_int : Cal P w K mg base CX0 1 "is_int" p_is_int (spIsInt K) := ⟨f0, _, ok_is_int B F0 , PySem.W.mg_of X G a0, k0, b0⟩
  have Cis_name : Cal P w K mg base CX0 1 "is_name" p_is_name (spIsName K) := ⟨f1, _, ok_is_name B F1 , PySem.W.mg_of X G a1, k1, b1⟩
  have Cwrong_entry : Cal P w K mg base CX0 2 "wrong_entry" p_wrong_entry (spWrong K) := ⟨f2, _, ok_wrong_entry B F2 Cis_name Cis_int, PySem.W.mg_of X G a2, k2, b2⟩
  have Ccheck_entries : Cal P w K mg base (L2.CX P w) 3 "check_entries" p_check_entries (spCheckE K T.C) := ⟨f3, _, ok_check_entries B T F3 Cwrong_entry, PySem.W.mg_of X G a3, k3, b3⟩
  have Ccheck_entry_rows : Cal P w K mg base (L2.CX P w) 3 "check_entry_rows" p_check_entry_rows (spCheckRs K T.C) := ⟨f4, _, ok_check_entry_rows B T F4 Cwrong_entry, PySem.W.mg_of X G a4, k4, b4⟩
  have Cplain_root : Cal P w K mg base CX0 1 "plain_root" p_plain_root (spRoot K) := ⟨f5, _, ok_plain_root B F5 , PySem.W.mg_of X G a5, k5, b5⟩
  have Claw_root : Cal P w K mg base CX0 1 "_law_root" p_law_root (spRoot K) := ⟨f6, _, ok_law_root B F6 , PySem.W.mg_of X G a6, k6, b6⟩
  have Crows_root : Cal P w K mg base CX0 2 "rows_root" p_rows_root (spRowsRoot K) := ⟨f7, _, ok_rows_root B F7 Cplain_root, PySem.W.mg_of X G a7, k7, b7⟩
  have Ccheck_two_rows : Cal P w K mg base (L2.CX P w) 4 "check_two_rows" p_check_two_rows (spTwo K T.C) := ⟨f8, _, ok_check_two_rows B T F8 Cwrong_entry Ccheck_entries, PySem.W.mg_of X G a8, k8, b8⟩
  have Croot_of : Cal P w K mg base (L2.CX P w) 4 "root_of" p_root_of (spRootOf K T.C) := ⟨f9, _, ok_root_of B T F9 Cplain_root Ccheck_entries, PySem.W.mg_of X G a9, k9, b9⟩
  have Ccommon_root : Cal P w K mg base (L2.CX P w) 4 "common_root" p_common_root (spCommonRoot K T.C) := ⟨f10, _, ok_common_root B T F10 Crows_root Ccheck_entry_rows, PySem.W.mg_of X G a10, k10, b10⟩
  have Corders_steady : Cal P w K mg base (L2.CX P w) 4 "orders_steady" p_orders_steady (spOrders K T.C) := ⟨f11, _, ok_orders_steady B T F11 Crows_root Ccheck_entry_rows, PySem.W.mg_of X G a11, k11, b11⟩
  have Cdo_rows_commute : Cal P w K mg base (L2.CX P w) 5 "do_rows_commute" p_do_rows_commute (spCommute K T.C) := ⟨f12, _, ok_do_rows_commute B T F12 Ccheck_two_rows, PySem.W.mg_of X G a12, k12, b12⟩
  have Cmixings_steady : Cal P w K mg base (L2.CX P w) 5 "mixings_steady" p_mixings_steady (spMix K T.C) := ⟨f13, _, ok_mixings_steady B T F13 Ccheck_two_rows, PySem.W.mg_of X G a13, k13, b13⟩
  have Claw_equal : Cal P w K mg base CX0 1 "_law_equal" p_law_equal (spEqual K) := ⟨f14, _, ok_law_equal B F14 , PySem.W.mg_of X G a14, k14, b14⟩
  have Claw_draws : Cal P w K mg base CX0 1 "_law_draws" p_law_draws (spDraws K) := ⟨f15, _, ok_law_draws B F15 , PySem.W.mg_of X G a15, k15, b15⟩
  have Claw_take : Cal P w K mg base CX0 1 "_law_take" p_law_take (spTake K) := ⟨f16, _, ok_law_take B F16 , PySem.W.mg_of X G a16, k16, b16⟩
  have Claw_pool : Cal P w K mg base CX0 1 "_law_pool" p_law_pool (spPool K) := ⟨f17, _, ok_law_pool B F17 , PySem.W.mg_of X G a17, k17, b17⟩
  have Claw_base : Cal P w K mg base CX0 2 "_law_base" p_law_base (spBase K) := ⟨f18, _, ok_law_base B F18 Claw_take Claw_pool, PySem.W.mg_of X G a18, k18, b18⟩
  have Claw_row : Cal P w K mg base CX0 2 "_law_row" p_law_row (spRow K) := ⟨f19, _, ok_law_row B F19 Claw_take Claw_pool, PySem.W.mg_of X G a19, k19, b19⟩
  have Claw_common : Cal P w K mg base CX0 2 "_law_common" p_law_common (spCommonL K) := ⟨f20, _, ok_law_common B F20 Claw_root, PySem.W.mg_of X G a20, k20, b20⟩
  have Claw_pair_right : Cal P w K mg base CX0 6 "_law_pair_right" p_law_pair_right (spPair K) := ⟨f21, _, ok_law_pair_right B T F21 Claw_root Claw_equal Claw_common Cdo_rows_commute Cmixings_steady Corders_steady Ccommon_root Croot_of, PySem.W.mg_of X G a21, k21, b21⟩
  have Claw_rows_right : Cal P w K mg base CX0 7 "_law_rows_right" p_law_rows_right (spRowsRight K) := ⟨f22, _, ok_law_rows_right B T F22 Claw_root Claw_equal Claw_common Claw_pair_right Corders_steady Ccommon_root Croot_of, PySem.W.mg_of X G a22, k22, b22⟩
  have Claw_heard : Cal P w K mg base CX0 6 "_law_heard" p_law_heard (spHeard K) := ⟨f23, _, ok_law_heard B T F23 Cdo_rows_commute Cmixings_steady Corders_steady Ccommon_root Croot_of, PySem.W.mg_of X G a23, k23, b23⟩
  have Claw_refuses : Cal P w K mg base CX0 7 "_law_refuses" p_law_refuses (spRefuses K) := ⟨f24, _, ok_law_refuses B F24 Claw_equal Claw_heard Cis_name, PySem.W.mg_of X G a24, k24, b24⟩
  exact ok_law B F25 Claw_draws Claw_take Claw_equal Claw_base Claw_row Claw_rows_right Claw_refuses Cis_name
end K65

open PySem PySem.W PyProof.Rows
set_option maxHeartbeats 0 in
theorem PySem.Challenge.cw_onlywhatvaries_k65_rows_of_one_root_holds : PySem.Challenge.rw_onlywhatvaries_k65_rows_of_one_root.Holds := by
  w_on; o_law; k_head; (case hw => w_witness2)
  k_fill
  refine L2.walk_of (l := PySem.Challenge.rw_onlywhatvaries_k65_rows_of_one_root) (n := 63) (k := 8) (x := "script") (CX := fun _ => L2.CX0) (sp := fun w => K65.spLaw _) rfl (by decide) rfl ⟨rfl, by decide, by decide⟩ (fun w h Y => PySem.W.kIn_of Y) ?F (fun _ _ a ns hl _ hS => ⟨a, ns, rfl, hS, hl, fun _ => rfl⟩) (fun _ _ _ _ _ h => h)
  case F =>
    intro w mg fa h KX G hmg
    refine' K65.all_mk KX G hmg ?aC ?xC ?rC ?saC ?gaC ?ggC ?nbC ?aI ?tI ?lI ?cI ?kI ?kC ?eC ?tC ?hC ?iC ?sC ?a0 ?l0 ?c0 ?k0 ?a1 ?l1 ?c1 ?k1 ?a2 ?l2 ?c2 ?k2 ?a3 ?l3 ?c3 ?k3 ?a4 ?l4 ?c4 ?k4 ?a5 ?l5 ?c5 ?k5 ?a6 ?l6 ?c6 ?k6 ?a7 ?l7 ?c7 ?k7 ?a8 ?l8 ?c8 ?k8 ?a9 ?l9 ?c9 ?k9 ?a10 ?l10 ?c10 ?k10 ?a11 ?l11 ?c11 ?k11 ?a12 ?l12 ?c12 ?k12 ?a13 ?l13 ?c13 ?k13 ?a14 ?l14 ?c14 ?k14 ?a15 ?l15 ?c15 ?k15 ?a16 ?l16 ?c16 ?k16 ?a17 ?l17 ?c17 ?k17 ?a18 ?l18 ?c18 ?k18 ?a19 ?l19 ?c19 ?k19 ?a20 ?l20 ?c20 ?k20 ?a21 ?l21 ?c21 ?k21 ?a22 ?l22 ?c22 ?k22 ?a23 ?l23 ?c23 ?k23 ?a24 ?l24 ?c24 ?k24 ?a25 ?l25 ?c25 ?k25 ?z0 ?z1 ?z2 ?z3 ?z4 ?z5 ?z6 ?z7 ?z8 ?z9 ?z10
    (case aC => k_is)
    (case xC => k_is)
    (case rC => first | rfl | decide +kernel)
    (case saC => k_is)
    (case gaC => k_is)
    (case ggC => k_is)
    (case nbC => k_is)
    (case aI => k_is)
    (case tI => k_is)
    (case lI => k_is)
    (case cI => k_is)
    (case kI => k_is)
    (case kC => k_is)
    (case eC => k_is)
    (case tC => k_is)
    (case hC => k_is)
    (case iC => k_is)
    (case sC => first | rfl | k_is)
    (case a0 => k_is)
    (case l0 => k_is)
    (case c0 => k_is)
    (case k0 => k_is)
    (case a1 => k_is)
    (case l1 => k_is)
    (case c1 => k_is)
    (case k1 => k_is)
    (case a2 => k_is)
    (case l2 => k_is)
    (case c2 => k_is)
    (case k2 => k_is)
    (case a3 => k_is)
    (case l3 => k_is)
    (case c3 => k_is)
    (case k3 => k_is)
    (case a4 => k_is)
    (case l4 => k_is)
    (case c4 => k_is)
    (case k4 => k_is)
    (case a5 => k_is)
    (case l5 => k_is)
    (case c5 => k_is)
    (case k5 => k_is)
    (case a6 => k_is)
    (case l6 => k_is)
    (case c6 => k_is)
    (case k6 => k_is)
    (case a7 => k_is)
    (case l7 => k_is)
    (case c7 => k_is)
    (case k7 => k_is)
    (case a8 => k_is)
    (case l8 => k_is)
    (case c8 => k_is)
    (case k8 => k_is)
    (case a9 => k_is)
    (case l9 => k_is)
    (case c9 => k_is)
    (case k9 => k_is)
    (case a10 => k_is)
    (case l10 => k_is)
    (case c10 => k_is)
    (case k10 => k_is)
    (case a11 => k_is)
    (case l11 => k_is)
    (case c11 => k_is)
    (case k11 => k_is)
    (case a12 => k_is)
    (case l12 => k_is)
    (case c12 => k_is)
    (case k12 => k_is)
    (case a13 => k_is)
    (case l13 => k_is)
    (case c13 => k_is)
    (case k13 => k_is)
    (case a14 => k_is)
    (case l14 => k_is)
    (case c14 => k_is)
    (case k14 => k_is)
    (case a15 => k_is)
    (case l15 => k_is)
    (case c15 => k_is)
    (case k15 => k_is)
    (case a16 => k_is)
    (case l16 => k_is)
    (case c16 => k_is)
    (case k16 => k_is)
    (case a17 => k_is)
    (case l17 => k_is)
    (case c17 => k_is)
    (case k17 => k_is)
    (case a18 => k_is)
    (case l18 => k_is)
    (case c18 => k_is)
    (case k18 => k_is)
    (case a19 => k_is)
    (case l19 => k_is)
    (case c19 => k_is)
    (case k19 => k_is)
    (case a20 => k_is)
    (case l20 => k_is)
    (case c20 => k_is)
    (case k20 => k_is)
    (case a21 => k_is)
    (case l21 => k_is)
    (case c21 => k_is)
    (case k21 => k_is)
    (case a22 => k_is)
    (case l22 => k_is)
    (case c22 => k_is)
    (case k22 => k_is)
    (case a23 => k_is)
    (case l23 => k_is)
    (case c23 => k_is)
    (case k23 => k_is)
    (case a24 => k_is)
    (case l24 => k_is)
    (case c24 => k_is)
    (case k24 => k_is)
    (case a25 => k_is)
    (case l25 => k_is)
    (case c25 => k_is)
    (case k25 => k_is)
    (case z0 => k_is)
    (case z1 => k_is)
    (case z2 => k_is)
    (case z3 => k_is)
    (case z4 => k_is)
    (case z5 => k_is)
    (case z6 => k_is)
    (case z7 => k_is)
    (case z8 => k_is)
    (case z9 => k_is)
    (case z10 => k_is)

