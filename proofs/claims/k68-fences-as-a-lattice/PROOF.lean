import PyProof.Rows.All
import Wide.All
import OpenK.AllK
import Wide.FinOn
import PyProof.ListMulRoad
import PyProof.FactsAll.tuple_2
import KE.GoesEnum
import HandS.ForExc
import HandS.ForMost
import HandS.ExcInit
import HandS.ExcField
import HandS.IsInst
import HandS.Walk
import HandS.TupAny
import HandS.TupMul
import HandS.Gcd
import HandS.Wide
import PySem.Challenge.RW_onlywhatvaries_k68_fences_as_a_lattice
import KE.KExcIs
import KE.DataMinMax
import HandS.TryOnly
set_option Elab.async false
set_option linter.all false
set_option maxRecDepth 100000
set_option maxHeartbeats 4000000
namespace KR
open PySem PySem.Spec PyProof.Rows L2

/-! ### tuple * 1 is the tuple itself -/
theorem tup_mul_one (l : Addr) (items : Array Value) (n : Nat) (dd : Option Addr) (sl : Array (Option Value)) (u : Tok) :
    Meets (Builtin.«tuple.__mul__» ⟨[.ref l, .int 1 u], []⟩) (fun _ R s => s.heap.get? l = some { cls := .type "tuple", dict := dd, data := .seq items n, slots := sl } ∧ R (.ok (.ret (Value.ref l))) s) :=
  .of_wp fun prog w A R s h => by
    obtain ⟨hp, g, d, tk, os⟩ := s
    obtain ⟨hl, h⟩ := h
    have f1 := AutoSeq1.idx_int
    wp_walk using wpAny_loadPart' hl
    repeat (first
      | (refine wpAny_ite_false (by decide) ?_; wp_walk using wpAny_loadPart' hl)
      | (refine wpAny_ite_true (by simp) ?_; wp_walk using wpAny_loadPart' hl))
    exact ⟨_, rfl, h⟩
section
variable {X : Cx}
def rRep1 (K : PySem.W.Frag) : R2 := fun x y H Q => ∃ l xs, x = .ref l ∧ y = .int 1 ∧ SqT K H l xs ∧ Q (.ref l) H
theorem op_rep1 : OpR X (binaryOp .Mult) (rRep1 X.K) := by
  intro pins s σ H x y v u Q I rx ry h
  obtain ⟨l, xs, rfl, rfl, hT, q⟩ := h
  cases rx
  obtain ⟨t, rfl⟩ := ry
  obtain ⟨its, r, ⟨⟨cls, dd, data, sl⟩, ho, hc, n, hd⟩, hs⟩ := I.tuple hT
  simp only at hc hd
  subst hc hd
  refine wpAny_binaryOp_repeat_ref (T := "tuple") (U := "int") (by decide) ⟨_, ho, rfl⟩ (fun s' => typeIs_int s' 1 t) noFill_tuple_mul F.fills_int_mul F.slot_int_rmul repeat_tuple F.slot_int_index.lookup
    (call_meets F.slot_int_rmul (typeIs_int s 1 t) F.entry_int_rmul (F.args_int_rmul_2 _ _) (int_rmul_tuple 1 t l its.toArray n dd sl)
      ⟨ho, rfl, ⟨_, ho, rfl⟩, call_meets F.slot_tuple_mul ⟨_, ho, rfl⟩ F.entry_tuple_mul (F.args_tuple_mul_2 _ _) (tup_mul_one l its.toArray n dd sl t) ⟨ho, ?_⟩⟩)
  exact ⟨.ref l, H, I, rfl, q⟩
/-- t * k, k from 1 on, whatever object comes -/
def rRepA (K : PySem.W.Frag) : R2 := fun x y H Q => ∃ l k xs, x = .ref l ∧ y = .int k ∧ SqT K H l xs ∧ xs ≠ [] ∧ 1 ≤ k ∧ k ≤ 1000 ∧ xs.length ≤ 1000 ∧ ∀ p H', Same H H' → SqT K H' p (List.replicate k.toNat xs).flatten → Q (.ref p) H'
theorem same_new {H : Hp} {p : Addr} {o : HO} (h : H p = none) : Same H (upd H p o) := fun b x e => by
  rw [upd_ne (ne_of_none e h)]
  exact e
theorem op_repA : OpR X (binaryOp .Mult) (rRepA X.K) := by
  intro pins s σ H x y v u Q I rx ry h
  obtain ⟨l, k, xs, rfl, rfl, hT, hne, h1, h2, hz, q⟩ := h
  by_cases hk : k = 1
  · subst hk
    refine op_rep1 pins s σ H _ _ v u Q I rx ry ⟨l, xs, rfl, rfl, hT, q l H (Same.refl H) ?_⟩
    have e : (List.replicate (1 : Int).toNat xs).flatten = xs := by simp
    rw [e]
    exact hT
  · exact op_repT pins s σ H _ _ v u Q I rx ry ⟨l, k, xs, rfl, rfl, hT, hne, by omega, h2, hz, fun p hp => q p _ (same_new hp) (SqT.of upd_same)⟩
end

/-! ### enumerate of a tuple -/
section
variable {prog : Program} {w : World} {A : Around} {E : Value → Shared → Prop} {s : Shared}
set_option maxHeartbeats 1000000 in
theorem enum_new1 {v : Value} {o : Obj} {H : Heap → Prop} (B : Begins v o H) :
    Meets (Builtin.«enumerate.__new__» ⟨[.type "enumerate", v], []⟩) (fun _ R s => H s.heap ∧
      R (.ok (.ret (.ref (s.heap.push o).objs.size))) { s with heap := (s.heap.push o).push { cls := .type "enumerate", data := .fields #[.none, .bool false, .ref s.heap.objs.size, rawInt 0, .none, .none] } }) :=
  .of_wp fun prog w A R s h => by
    obtain ⟨hp, g, d, tk, os⟩ := s
    obtain ⟨h1, h⟩ := h
    have hsub := sub_enumerate
    have q1 : ∀ {A' : Around} {E : Value → Shared → Prop} {Q : Value → Shared → Prop}, Q (.ref hp.objs.size) ⟨hp.push o, g, d, tk, os⟩ → wpAny (model prog w) A' (pyIter v) Q E ⟨hp, g, d, tk, os⟩ :=
      fun q => B.iter prog w _ _ ⟨hp, g, d, tk, os⟩ _ h1 q
    wp_walk using q1
    refine wpAny_stack_any fun st => wpAny_pure ?_
    split
    · rename_i c _ _ _ _ _
      cases (c == Value.type "enumerate")
      · wp_walk using q1
        exact ⟨_, rfl, h⟩
      · wp_walk using q1
        exact ⟨_, rfl, h⟩
    · wp_walk using q1
      exact ⟨_, rfl, h⟩
theorem enum_call1 {v : Value} {o : Obj} {H : Heap → Prop} {Q : Value → Shared → Prop} (B : Begins v o H) (h1 : H s.heap)
    (h : ∀ h', IsEnum h' (s.heap.objs.size + 1) s.heap.objs.size 0 .none → h'.get? s.heap.objs.size = some o → h'.objs.size = s.heap.objs.size + 2 →
      (∀ b o, s.heap.get? b = some o → h'.get? b = some o) → Q (.ref (s.heap.objs.size + 1)) { s with heap := h' }) :
    wpAny (model prog w) A (call (.type "enumerate") [v]) Q E s := by
  refine callType_new F.called_enumerate (by decide) (F.typeCall_enumerate_1 _) (F.newCall_enumerate_1 _) (fun obj => F.args_object_init_2 obj _) F.entry_enumerate_new (enum_new1 B) ⟨h1, ?_⟩
  have hz : (s.heap.push o).objs.size = s.heap.objs.size + 1 := Heap.size_push ..
  show _ ∧ _
  rw [hz]
  have he : IsEnum ((s.heap.push o).push { cls := .type "enumerate", data := .fields #[.none, .bool false, .ref s.heap.objs.size, rawInt 0, .none, .none] }) (s.heap.objs.size + 1) s.heap.objs.size 0 .none := by
    have := Heap.get?_push_size (s.heap.push o) (o := { cls := .type "enumerate", data := .fields #[.none, .bool false, .ref s.heap.objs.size, rawInt 0, .none, .none] }) rfl
    rw [hz] at this
    exact this
  exact ⟨⟨_, he, rfl⟩, h _ he (Heap.get?_push_of_some _ (Heap.get?_push_size _ B.free)) (by rw [Heap.size_push, hz]) fun b o x => Heap.get?_push_of_some _ (Heap.get?_push_of_some _ x)⟩
end
/-- the tuple at a, each item in a new pair -/
def IteT (K : PySem.W.Frag) (a : Addr) : It :=
  ⟨fun i H => ∃ (xs : List V) (x : V), SqT K H a xs ∧ xs[i]? = some x, fun i H v H' => ∃ T x, v = .ref T ∧ H T = none ∧ H' = upd H T (.tup [.int (i : Nat), x]) ∧ ∀ xs, SqT K H a xs → xs[i]? = some x, fun i H => ∃ xs : List V, SqT K H a xs ∧ xs.length ≤ i⟩
theorem apart_of {h : Heap} {a b : Addr} {items : Array Value} {n : String} (ht : h.IsTuple a items) {o : Obj} (hb : h.get? b = some o) (hc : o.cls = .type n) (hn : n ≠ "tuple") : b ≠ a := fun z => by
  obtain ⟨o', ho', hc', _⟩ := ht
  rw [z, ho'] at hb
  cases hb
  rw [hc'] at hc
  exact hn (Value.type.inj hc).symm
theorem turn_enumT {P : Program} {w : World} {K : PySem.W.Frag} {elts : List Expr} {kk : Nat} {tpos : Pos} (a e it : Addr) :
    Turn P w K (.Tuple elts kk tpos) (IteT K a) [e, it] e (fun i h => (∃ old, IsEnum h e it ((i : Nat) : Int) old) ∧ h.IsTupleIter it a i ∧ e ≠ it) where
  mem := by simp
  obj := fun i h st b hb => by
    obtain ⟨⟨old, he⟩, ⟨o, ho, hc, hd⟩, _⟩ := st
    have e' : b = e ∨ b = it := by simpa using hb
    rcases e' with z | z
    · rw [z]; exact ⟨_, he, fun v q => nomatch q⟩
    · rw [z]; exact ⟨o, ho, fun v q => by rw [hd] at q; cases q⟩
  keep := fun i h h' st k => let ⟨⟨old, he⟩, hi, hne⟩ := st; ⟨⟨old, k e (by simp) _ he⟩, hi.at fun o q => k it (by simp) o q, hne⟩
  item := by
    intro X hP hw hK hc i pins s σ H E I hf st hg
    subst hP hw hK
    obtain ⟨⟨old, he⟩, hit, hne⟩ := st
    obtain ⟨xs, x, hq, hx⟩ := hg
    obtain ⟨its, rv, p, hz⟩ := I.tuple hq
    obtain ⟨u, hu, ru⟩ := rv.get hx
    have hel : e < s.heap.objs.size := Heap.lt_size he
    have hil : it < s.heap.objs.size := by obtain ⟨_, q, _⟩ := hit; exact Heap.lt_size q
    have pt : s.heap.IsTuple a its.toArray := p
    have nea : e ≠ a := apart_of pt he rfl (by decide)
    have nia : it ≠ a := by
      obtain ⟨o, ho, hc', _⟩ := hit
      exact apart_of pt ho hc' (by decide)
    have D := Draws.tuple (prog := X.prog) (w := X.w) (A := X.A.in1) (I.ok.hd hc) it a (Ne.symm nia) its.toArray
    have hi : i < its.toArray.size := by
      have hl := rv.length
      have := (List.getElem?_eq_some_iff.mp hx).1
      simp only [List.size_toArray]
      omega
    refine wpAny_pyNext_enum_itemD D he ⟨hit, pt⟩ hi hne (by simp [hne, nea]) fun y h' tk hy ho hit' hT hsz hk => ?_
    have ey : y = u := by
      have q : its[i]? = some y := by simpa using hy
      rw [hu] at q
      exact (Option.some.inj q).symm
    subst ey
    refine ⟨_, rfl, wpAny_letOwnedTupleGo_enum (s := { s with heap := h', toks := tk + 1 }) ho fun h'' he' sb => ?_⟩
    have hT2 : h''.get? s.heap.objs.size = some { cls := .type "tuple", data := .seq #[.int i tk, y] } := (sb.2 _ (Nat.ne_of_gt hel)).trans hT
    have new : ObjOk X.prog X.w (upd H s.heap.objs.size (.tup [.int (i : Nat), x])) h'' s.heap.objs.size (.tup [.int (i : Nat), x]) :=
      ⟨by show 2 ≤ sizeLine; decide, [.int i tk, y], .cons ⟨_, rfl⟩ (.cons ru .nil), ⟨_, hT2, rfl, _, rfl⟩⟩
    have I1 : Inv X pins σ (upd H s.heap.objs.size (.tup [.int (i : Nat), x])) { s with heap := h'', toks := tk + 1 } :=
      I.turnedNew (ch := [e, it]) (fun b ob hb q => (sb.2 b (fun z => hb (by simp [z]))).trans (hk b ob (fun z => hb (by simp [z])) (fun z => hb (by simp [z])) q)) hf (Nat.le_refl _) new
    refine ⟨.ref s.heap.objs.size, _, I1, rfl, ⟨_, x, rfl, I.hok.fresh (Nat.le_refl _), rfl, fun ys hy => by rw [I.tuple_inj hy hq]; exact hx⟩, ⟨⟨y, ?_⟩, hit'.1.at fun o q => (sb.2 it (Ne.symm hne)).trans q, hne⟩, fun b hb => ?_⟩
    · have e1 : ((i + 1 : Nat) : Int) = (i : Int) + 1 := by omega
      rw [e1]; exact he'
    · have hb' : b < s.heap.objs.size := by
        have e' : b = e ∨ b = it := by simpa using hb
        rcases e' with z | z
        · rw [z]; exact hel
        · rw [z]; exact hil
      rw [upd_ne (Nat.ne_of_lt hb')]
      exact (hf b hb).1
  done := by
    intro X hP hw hK hc i pins s σ H E I hf st hg
    subst hP hw hK
    obtain ⟨⟨old, he⟩, hit, hne⟩ := st
    obtain ⟨xs, hq, hx⟩ := hg
    obtain ⟨its, rv, p, hz⟩ := I.tuple hq
    obtain ⟨f0, f1, f2, f3, f4, f5⟩ := hf it (by simp)
    have pt : s.heap.IsTuple a its.toArray := p
    have nia : it ≠ a := by
      obtain ⟨o, ho, hc', _⟩ := hit
      exact apart_of pt ho hc' (by decide)
    have hl := rv.length
    have hT : s.TypeIs (.ref e) "enumerate" := ⟨_, he, rfl⟩
    unfold pyNext
    refine wpAny_bind (wpAny_attempt (wpAny_callSpecial?_slot (name := Str.ofString "__next__") hT F.slot_enumerate_next
      (wpAny_call_entry F.slot_enumerate_next hT F.entry_enumerate_next ?_ (F.args_enumerate_next_1 _))))
    show wpAny _ _ (field (.ref e) 2 >>= _) _ _ _
    refine wpAny_bind (wpAny_field he rfl (x := .ref it) rfl ?_)
    refine wpAny_bind (wpAny_nextOf_tuple_end (I.ok.hd hc) hit pt (by simp; omega) fun h' x he' hx' => ?_)
    obtain ⟨o, ho, hc'⟩ := hx'
    refine wpAny_bind (wpAny_isInstance (T := "StopIteration") (b := true) ⟨o, ho, hc'⟩ isSubtype_stop ?_)
    exact wpAny_pure ⟨rfl, I.turned (t' := s.toks) (fun b o hb q => he' b o hb q) f0 f1 f3 f4 f5⟩
  self := fun A i s Q E st h => let ⟨⟨_, he⟩, _⟩ := st; wpAny_pyIter_enum he h
/-- enumerate of a list or of a tuple -/
def iEnumA (K : PySem.W.Frag) (ta : TA) : TI := fun σ H R => ta σ H fun vs H1 => ∃ a xs, vs = [.ref a] ∧ ((SqL K H1 a xs ∧ R (Ite K a) H1) ∨ (SqT K H1 a xs ∧ R (IteT K a) H1))
theorem pi_enumA {X : Cx} {e : Expr} {ta : TA} {p pos tpos : Pos} {elts : List Expr} {kk : Nat} (hg : Gl X "enumerate") (hm : X.mg "enumerate" = none) (ha : PA X [e] ta) (hs : starEach [e] X.env = [(false, eval e X.env)] := by rfl) :
    PI X (.Tuple elts kk tpos) (.Call (.Name "enumerate" p) [e] [] pos) (iEnumA X.K ta) := by
  refine ⟨fun pins s σ H R I h => ?_⟩
  refine Call_ (ld_blt I hg hm boot_enumerate (PyProof.Rows.callWith_type1 (thn (ha.run pos pins s σ H _ I h) fun us s1 ⟨vs, H1, I1, r1, q1⟩ => ?_) hs rfl))
  obtain ⟨a, xs, ex, q⟩ := q1
  subst ex
  cases r1 with
  | cons r rr =>
    cases rr
    cases r
    have old : ∀ b, b ∈ [s1.heap.objs.size + 1, s1.heap.objs.size] → FpOk X pins H1 b := fun b hb => by
      have e' : b = s1.heap.objs.size + 1 ∨ b = s1.heap.objs.size := by simpa using hb
      have hle : s1.heap.objs.size ≤ b := by
        rcases e' with z | z
        · rw [z]; exact Nat.le_add_right _ _
        · rw [z]; exact Nat.le_refl _
      exact I1.fpOk hle (I1.hok.fresh hle)
    rcases q with ⟨hq, q⟩ | ⟨hq, q⟩
    · obtain ⟨its, rv, p', hz⟩ := I1.list hq
      refine call_enumerate_list p'.isList fun h' he hit hsz hk => wpAny_pyIter_enum he ?_
      have I2 : Inv X pins σ H1 { s1 with heap := h' } := I1.kept (t' := s1.toks) hk
      exact ⟨s1.heap.objs.size + 1, [s1.heap.objs.size + 1, s1.heap.objs.size], _, _, H1, rfl, I2, turn_enum a (s1.heap.objs.size + 1) s1.heap.objs.size, ⟨⟨.none, he⟩, hit, Nat.succ_ne_self _⟩, old, q⟩
    · obtain ⟨its, rv, p', hz⟩ := I1.tuple hq
      have pt : s1.heap.IsTuple a its.toArray := p'
      refine enum_call1 (begins_tuple a its.toArray) pt fun h' he hit hsz hk => wpAny_pyIter_enum he ?_
      have I2 : Inv X pins σ H1 { s1 with heap := h' } := I1.kept (t' := s1.toks) hk
      exact ⟨s1.heap.objs.size + 1, [s1.heap.objs.size + 1, s1.heap.objs.size], _, _, H1, rfl, I2, turn_enumT a (s1.heap.objs.size + 1) s1.heap.objs.size, ⟨⟨.none, he⟩, ⟨_, hit, rfl, rfl⟩, Nat.succ_ne_self _⟩, old, q⟩
/-- the walk of enumerate over a tuple -/
theorem walk_enumT {K : PySem.W.Frag} {a : Addr} {xs : List V} : Walk (IteT K a) xs.length (fun H => SqT K H a xs) (YPair (fun i => some (.int (i : Nat))) (fun i => xs[i]?)) := by
  refine ⟨fun i _ hi q => ⟨xs, xs[i], q, by simp [hi]⟩, fun _ q => ⟨xs, q, Nat.le_refl _⟩, fun i H v H' _ q y => ?_⟩
  obtain ⟨T, x, h1, h2, h3, h4⟩ := y
  exact ⟨T, .int (i : Nat), x, h1, h2, h3, rfl, h4 xs q⟩

/-! ### try with a named first clause that takes every exception of the body; further clauses stand behind it -/
def wFirst (K : PySem.W.Frag) (c : Value) (i : Nat) (ts : Addr → Value → Option Addr → TS) (D : Ends) : WX := fun cls d σ H =>
  PySem.W.exmOne K cls c = some true ∧ ∀ a, H a = none → ts a cls d { nx := fun σ' H' => D.nx (σ'.set i none) H', rt := D.rt, bk := fun σ' H' => D.bk (σ'.set i none) H', ct := fun σ' H' => D.ct (σ'.set i none) H' } (σ.set i (some (.ref a))) H
theorem ps_try_first {X : Cx} {x n : Str} {c : Value} {i : Nat} {body suite : List Stmt} {b₀ : Stmt} {np pos pos' : Pos} {hds : List ExceptHandler} {tb : WX → TS} {ts : Addr → Value → Option Addr → TS}
    (hs : X.stack = X.env :: X.outer) (hf : X.env.frame = some X.env.locals) (hN : X.N.Nodup) (hi : X.N[i]? = some n) (hln : X.env.kindOf n = some .local) (hc : Names X x c)
    (hb : ∀ (W : WX) (pn : List (Addr × Obj)) (xe : Value → Shared → Prop), Takes (X.tr pn xe) W → PassesOwn (model X.prog X.w) X.A X.env xe → PSs (X.tr pn xe) body (tb W))
    (hsu : ∀ (a : Addr) (oe : Obj) (cls : Value) (d : Option Addr) (pn : List (Addr × Obj)), Zc cls d oe → (∃ vs, oe.data = .fields vs) → PSs (X.suite a ((a, oe) :: pn)) (b₀ :: suite) (ts a cls d)) :
    PS X (.Try body (.ExceptHandler (some (.Name x np)) (some n) (b₀ :: suite) pos' :: hds) [] [] pos) (fun D σ H => tb (wFirst X.K c i ts D) D σ H) := by
  refine ⟨fun pins s σ H D I h => ?_⟩
  have ok := I.ok
  have hfr : X.A.frames = some (X.env :: X.outer) := by rw [ok.frames, hs]
  have hloc : Loc X.env.scope n := .inl hln
  refine wpAny_Try_except ?_
  refine wpAny_mono ((hb (wFirst X.K c i ts D) (X.pn ++ pins) (fun e s₁ => wpAny (model X.prog X.w) X.A (noteFrame e X.env) (fun _ s₂ => wpAny (model X.prog X.w) X.A (setFlight e none) (fun _ s₃ =>
    wpAny (model X.prog X.w) X.A (handleBy e X.env (.ExceptHandler (some (.Name x np)) (some n) (b₀ :: suite) pos' :: hds)) (SP X pins D) X.xe s₃) X.xe s₂) X.xe s₁) (fun u s' xx => ?_) PassesOwn.looking).run [] s σ H D (I.toTry _) h) (fun f s1 hsp => ?_) (fun e s1 he => he)
  · obtain ⟨a, B, sI, pins', σ', H', cls, d, rfl, J', nb, up, sky, na, os, ag, hb1, hyes⟩ := xx
    have J : Inv X pins σ' H' sI := J'.ofTry ok
    have sky' : Sky B (X.env :: X.outer) a (Zc cls d) X.env.locals s'.heap := by rw [← hs]; exact sky
    show wpAny (model X.prog X.w) X.A (noteFrame (.ref a) X.env) _ _ _
    refine Sky.land Zc.steady hfr hf sky' fun h3 fl3 up3 => ?_
    have J3 : Inv X pins σ' H' { s' with heap := h3 } := J.landed nb fl3.1 (up.trans up3) os ag
    obtain ⟨oe3, vs3, he3, hz3, hd3⟩ := fl3.there
    have nfr : a ∉ frs (X.env :: X.outer) := fun hm => by
      obtain ⟨_, o', e', hnf⟩ := fl3.2.2.1.mem hm
      rw [he3] at e'
      cases e'
      exact hnf _ hd3
    have nL : a ≠ X.env.locals := fun z => nfr (List.mem_filterMap.mpr ⟨X.env, List.mem_cons_self, by rw [hf, z]⟩)
    have nF : a ∉ X.fs := fun hm => by
      obtain ⟨e, he, q⟩ := List.mem_filterMap.mp hm
      exact nfr (List.mem_filterMap.mpr ⟨e, List.mem_cons_of_mem _ he, q⟩)
    have S3 := J3.suite he3 hd3 na nL nF
    refine wpAny_handleBy_cons (codeAny_handlers_test ?_) (by intro q; cases q)
    have LT : PySem.W.Looks (model X.prog X.w) h3 (typeOf (.ref a)) cls := fun A Q E s k q => wpAny_typeOf_ref (k _ _ he3) (by rw [hz3.1]; exact q)
    have LM := PySem.W.exm_one (M := model X.prog X.w) (J3.kIn) LT hb1
    have test : ∀ {Q : Value → Shared → Prop} {E : Value → Shared → Prop}, Q c { s' with heap := h3 } → wpAny (model X.prog X.w) (X.A.mark (some (.ref a))) (eval (.Name x np) X.env) Q E { s' with heap := h3 } := fun {Q E} q => by
      obtain ⟨hg, hdbg, hm | ⟨hm, hv, hnn⟩⟩ := hc
      · exact ld_glob (X := X.suite a ((a, oe3) :: (X.pn ++ pins))) S3 hg hm q hdbg
      · exact ld_blt (X := X.suite a ((a, oe3) :: (X.pn ++ pins))) S3 hg hm hv q hnn hdbg
    refine test (LM.here ?_)
    refine codeAny_handlers_suite_as ?_
    refine HandSPX.lands_againZ fl3 fun h4 fl4 up4 => ?_
    have J4 : Inv X pins σ' H' { s' with heap := h4 } := J.landed nb fl4.1 ((up.trans up3).trans up4) os ag
    obtain ⟨oe4, vs4, he4, hz4, hd4⟩ := fl4.there
    have S4 := J4.suite he4 hd4 na nL nF
    refine store_ok (X := X.suite a ((a, oe4) :: (X.pn ++ pins))) (v := .ref a) S4 hN hi hloc rfl (fun s5 S5 => ?_) (.inr hln)
    refine wpAny_mono ((hsu a oe4 cls d (X.pn ++ pins) hz4 ⟨_, hd4⟩).run [] s5 _ H' _ S5 (hyes a na)) (fun f s6 hsp => ?_) (fun _ _ z => False.elim z)
    have end_ : ∀ {σ6 : L2.St} {H6 : Hp} {Q : Shared → Prop}, Inv (X.suite a ((a, oe4) :: (X.pn ++ pins))) [] σ6 H6 s6 → (∀ s7, Inv X pins (σ6.set i none) H6 s7 → Q s7) →
        wpAny (model X.prog X.w) X.A (do bindName X.env n .none; unbindBehindTheSuite X.env n pos') (fun _ s7 => Q s7) X.xe s6 := fun {σ6 H6 Q} S6 hq => gone_ok (S6.unsuite ok) hN hi hln hq
    cases f with
    | next =>
      obtain ⟨σ6, H6, S6, q6⟩ := hsp
      exact end_ S6 fun s7 J7 => ⟨_, _, J7, q6⟩
    | brk =>
      obtain ⟨σ6, H6, S6, q6⟩ := hsp
      exact end_ S6 fun s7 J7 => ⟨_, _, J7, q6⟩
    | cont =>
      obtain ⟨σ6, H6, S6, q6⟩ := hsp
      exact end_ S6 fun s7 J7 => ⟨_, _, J7, q6⟩
    | ret u =>
      obtain ⟨v6, σ6, H6, S6, r6, q6⟩ := hsp
      exact end_ S6 fun s7 J7 => ⟨_, _, _, J7, r6, q6⟩
  · cases f with
    | next =>
      obtain ⟨σ', H', J', q⟩ := hsp
      exact wpAny_execs_nil ⟨σ', H', J'.ofTry ok, q⟩
    | brk =>
      obtain ⟨σ', H', J', q⟩ := hsp
      exact ⟨σ', H', J'.ofTry ok, q⟩
    | cont =>
      obtain ⟨σ', H', J', q⟩ := hsp
      exact ⟨σ', H', J'.ofTry ok, q⟩
    | ret u =>
      obtain ⟨v, σ', H', J', r, q⟩ := hsp
      exact ⟨v, σ', H', J'.ofTry ok, r, q⟩
/-! ### for over a list or a tuple -/
def iSeq (K : PySem.W.Frag) (tl : TE) : TI := fun σ H R => tl σ H fun x H1 => ∃ a xs, x = .ref a ∧ ((SqL K H1 a xs ∧ R (Itl K a) H1) ∨ (SqT K H1 a xs ∧ R (Itt K a) H1))
theorem pi_seq {X : Cx} {tg l : Expr} {tl : TE} (hl : PE X l tl) : PI X tg l (iSeq X.K tl) := by
  refine ⟨fun pins s σ H R I h => ?_⟩
  refine thn (hl.run pins s σ H _ I h) fun v s1 ⟨x, H1, I1, r1, q1⟩ => ?_
  obtain ⟨a, xs, e, q⟩ := q1
  subst e
  cases r1
  have fresh : ∀ b ∈ [s1.heap.objs.size], FpOk X pins H1 b := fun b hb => by
    have e : b = s1.heap.objs.size := by simpa using hb
    rw [e]
    exact I1.fpOk (Nat.le_refl _) (I1.hok.fresh (Nat.le_refl _))
  rcases q with ⟨hq, q⟩ | ⟨hq, q⟩
  · obtain ⟨its, rv, p, hz⟩ := I1.list hq
    exact wpAny_pyIter_list p.isList ⟨s1.heap.objs.size, [s1.heap.objs.size], _, _, H1, rfl, I1.kept (t' := s1.toks) fun b o e => Heap.get?_push_of_some _ e, turn_list a _, ⟨_, Heap.get?_push_size _ rfl, rfl, rfl⟩, fresh, q⟩
  · obtain ⟨its, rv, p, hz⟩ := I1.tuple hq
    exact wpAny_pyIter_tuple (show s1.heap.IsTuple a its.toArray from p) ⟨s1.heap.objs.size, [s1.heap.objs.size], _, _, H1, rfl, I1.kept (t' := s1.toks) fun b o e => Heap.get?_push_of_some _ e, turn_tuple a _, ⟨_, Heap.get?_push_size _ rfl, rfl, rfl⟩, fresh, q⟩
/-! ### the rules whose readings speak of the written part, the written part told (for blocks) -/
section
variable {X : Cx} {K : PySem.W.Frag}
theorem ix_tupK (h : X.K = K) : IxR X (rIxT K) := h ▸ ix_tup
theorem ix_listK (h : X.K = K) : IxR X (rIxL K) := h ▸ ix_list
theorem sl_tupK (h : X.K = K) : SlR X (rSlA K) := h ▸ sl_tupA
theorem sl_listK (h : X.K = K) : SlR X (rSlL K) := h ▸ sl_list
theorem op_eqDK (h : X.K = K) (hu : X.A.units + 64 < cLine) : OpR X (compareOp .Eq) (rEqD K) := h ▸ op_eqD hu
theorem op_neDK (h : X.K = K) (hu : X.A.units + 64 < cLine) : OpR X (compareOp .NotEq) (rNeD K) := h ▸ op_neD hu
theorem op_catK (h : X.K = K) : OpR X (binaryOp .Add) (rCatA K) := h ▸ op_catA
theorem op_repK (h : X.K = K) : OpR X (binaryOp .Mult) (rRepA K) := h ▸ op_repA
theorem call_isiK1 (h : X.K = K) : CallR X (.builtin "isinstance") (rIsi K) := h ▸ call_isi
theorem call_isiTK (h : X.K = K) : CallR X (.builtin "isinstance") (rIsiT K) := h ▸ call_isiT
def rLenQ (K : PySem.W.Frag) : List V → Hp → VK → Prop := fun xs H Q => ∃ p ys, xs = [.ref p] ∧ (SqL K H p ys ∨ SqT K H p ys) ∧ Q (.int ys.length) H
theorem call_lenK (h : X.K = K) : CallR X (.builtin "len") (rLenQ K) := h ▸ call_len_seq
def rListQ (K : PySem.W.Frag) : List V → Hp → VK → Prop := fun xs H Q => ∃ p ys, xs = [.ref p] ∧ (SqL K H p ys ∨ SqT K H p ys) ∧ ∀ l, H l = none → Q (.ref l) (upd H l (.lst ys))
theorem call_listK (h : X.K = K) : CallR X (.type "list") (rListQ K) := h ▸ call_list_of
def rTupQ (K : PySem.W.Frag) : List V → Hp → VK → Prop := fun xs H Q => ∃ p ys, xs = [.ref p] ∧ ((SqL K H p ys ∧ ∀ l, H l = none → Q (.ref l) (upd H l (.tup ys))) ∨ (SqT K H p ys ∧ Q (.ref p) H))
theorem call_tupK (h : X.K = K) : CallR X (.type "tuple") (rTupQ K) := h ▸ call_tuple_of
theorem cr_allK (h : X.K = K) (hc : X.calm = true) : CallR X (.builtin "all") (rAll K) := h ▸ cr_all hc
def tTr (K : PySem.W.Frag) (ta : TE) : TT := fun σ H Q => ta σ H fun x H' => ∃ k, TruV K x H' k ∧ Q k H'
theorem pt_truthK {a : Expr} {ta : TE} (h : X.K = K) (ha : PE X a ta) (he : ∀ whole, isTrue a X.env whole = (do let v ← whole; standAt a.pos; holding [v] (truthy v))) : PT X a (tTr K ta) := h ▸ pt_truth ha he
end
/-! ### the ways of an if meet -/
def tCutS (t u : TS) : TS := fun D σ H => ∃ M : L2.St → Hp → Prop, t { D with nx := M } σ H ∧ ∀ σ' H', M σ' H' → u D σ' H'
theorem pss_cutS {X : Cx} {st : Stmt} {rest : List Stmt} {t u : TS} (h1 : PS X st t) (h2 : PSs X rest u) : PSs X (st :: rest) (tCutS t u) := by
  refine ⟨fun pins s σ H D I h => ?_⟩
  obtain ⟨M, hM, k⟩ := h
  have h3 : PSs X rest (fun D' σ' H' => D' = D ∧ M σ' H') := ⟨fun pins s σ' H' D' I' m => by
    obtain ⟨rfl, m⟩ := m
    exact h2.run pins s σ' H' _ I' (k σ' H' m)⟩
  refine (pss_cons h1 h3).run pins s σ H D I ?_
  have e : (fun σ' H' => D = D ∧ M σ' H') = M := by
    funext σ' H'
    simp
  show t { D with nx := fun σ' H' => D = D ∧ M σ' H' } σ H
  rw [e]
  exact hM
/-! ### the ways of a test, of a value meet -/
def tCutE (t : TE) : TE := fun σ H Q => ∃ M : VK, t σ H M ∧ ∀ v H', M v H' → Q v H'
def tCutT (t : TT) : TT := fun σ H Q => ∃ M : Bool → Hp → Prop, t σ H M ∧ ∀ b H', M b H' → Q b H'
theorem pe_cut {X : Cx} {e : Expr} {t : TE} (h : PE X e t) : PE X e (tCutE t) := ⟨fun pins s σ H Q I ⟨M, hM, k⟩ => thn (h.run pins s σ H M I hM) fun _ _ ⟨v, H', J, r, m⟩ => ⟨v, H', J, r, k v H' m⟩⟩
theorem pt_cut {X : Cx} {e : Expr} {t : TT} (h : PT X e t) : PT X e (tCutT t) := ⟨fun pins s σ H Q I ⟨M, hM, k⟩ => thn (h.run pins s σ H M I hM) fun b _ ⟨H', J, m⟩ => ⟨H', J, k b H' m⟩⟩
end KR

namespace KK
open PySem PySem.Spec PyProof.Rows L2 KR

/-! ### heaps that grow -/
theorem st_same {K : PySem.W.Frag} {H H' : Hp} {a : Addr} {xs : List V} (e : Same H H') (h : SqT K H a xs) : SqT K H' a xs := by
  rcases h with (h | ⟨o, h⟩) | h
  · exact .inl (.inl (e _ _ h))
  · exact .inl (.inr ⟨o, e _ _ h⟩)
  · exact .inr h
/-- all but d is as it was -/
def SameB (d : Addr) (H H' : Hp) : Prop := ∀ b o, b ≠ d → H b = some o → H' b = some o
theorem SameB.refl {d : Addr} (H : Hp) : SameB d H H := fun _ _ _ h => h
theorem SameB.trans {d : Addr} {H H1 H2 : Hp} (a : SameB d H H1) (b : SameB d H1 H2) : SameB d H H2 := fun c o n h => b c o n (a c o n h)
theorem SameB.of {d : Addr} {H H' : Hp} (e : Same H H') : SameB d H H' := fun c o _ h => e c o h
theorem SameB.upd {d : Addr} {H : Hp} {o : HO} : SameB d H (upd H d o) := fun c u n h => by
  rw [upd_ne n]
  exact h
/-- a change at an address that H does not know -/
theorem same_mut {H H' : Hp} {p : Addr} (h : H p = none) (e : SameB p H H') : Same H H' := fun b o hb => e b o (ne_of_none hb h) hb
theorem sl_b {K : PySem.W.Frag} {d : Addr} {ds : List V} {H H' : Hp} {a : Addr} {xs : List V} (e : SameB d H H') (n : a ≠ d) (h : SqL K H a xs) : SqL K H' a xs := by
  rcases h with (h | ⟨o, h⟩) | h
  · exact .inl (.inl (e _ _ n h))
  · exact .inl (.inr ⟨o, e _ _ n h⟩)
  · exact .inr h
theorem st_b {K : PySem.W.Frag} {d : Addr} {ds : List V} {H H' : Hp} {a : Addr} {xs : List V} (hd : H d = some (.lst ds)) (e : SameB d H H') (h : SqT K H a xs) : SqT K H' a xs := by
  rcases h with (h | ⟨o, h⟩) | h
  · exact .inl (.inl (e _ _ (ne_of h hd (fun z => by cases z)) h))
  · exact .inl (.inr ⟨o, e _ _ (ne_of h hd (fun z => by cases z)) h⟩)
  · exact .inr h

/-! ### data -/
mutual
theorem dp_same {K : PySem.W.Frag} {H H' : Hp} (e : Same H H') : ∀ {d : PyData} {v : V}, Dp K H v d → Dp K H' v d
  | .none, _, h => by cases h; exact .non
  | .bool b, _, h => by cases h; exact .bl b
  | .int i, _, h => by cases h; exact .int i
  | .str x, _, h => by cases h; exact .str x
  | .list ds, _, h => by
    cases h with
    | lst hs ha => exact .lst (e.seq hs) (dpAll_same e ha)
  | .tuple ds, _, h => by
    cases h with
    | tup hs ha => exact .tup (st_same e hs) (dpAll_same e ha)
  | .dict _, _, h => by cases h
theorem dpAll_same {K : PySem.W.Frag} {H H' : Hp} (e : Same H H') : ∀ {ds : List PyData} {vs : List V}, DpAll K H vs ds → DpAll K H' vs ds
  | [], _, h => by cases h; exact .nil
  | d :: ds, _, h => by
    cases h with
    | cons h1 h2 => exact .cons (dp_same e h1) (dpAll_same e h2)
end
def toD : V → PyData
  | .bl b => .bool b
  | .int i => .int i
  | .str s => .str s
  | _ => .none
def flat : V → Bool
  | .non => true
  | .bl _ => true
  | .int _ => true
  | .str s => PyData.strOk s && decide (s.length ≤ 1000)
  | _ => false
/-- an entry of a row: a number or a text -/
def sc : V → Bool
  | .int _ => true
  | .str s => PyData.strOk s && decide (s.length ≤ 1000)
  | _ => false
theorem flat_sc {v : V} (h : sc v = true) : flat v = true := by
  cases v <;> first | rfl | exact h | cases h
theorem all_flat {xs : List V} (h : xs.all sc = true) : xs.all flat = true := List.all_eq_true.mpr fun v hv => flat_sc (List.all_eq_true.mp h v hv)
theorem dp_flat {K : PySem.W.Frag} {H : Hp} : ∀ {v : V}, flat v = true → Dp K H v (toD v)
  | .non, _ => .non
  | .bl b, _ => .bl b
  | .int i, _ => .int i
  | .str x, _ => .str x
  | .byt _, h => by cases h
  | .flt _, h => by cases h
  | .ref _, h => by cases h
  | .ty _, h => by cases h
theorem dpAll_flat {K : PySem.W.Frag} {H : Hp} : ∀ {xs : List V}, xs.all flat = true → DpAll K H xs (xs.map toD)
  | [], _ => .nil
  | v :: r, h => by
    rw [List.all_cons, Bool.and_eq_true] at h
    exact .cons (dp_flat h.1) (dpAll_flat h.2)
theorem eqv_sc : ∀ {x y : V}, sc x = true → sc y = true → PyData.eqv (toD x) (toD y) = decide (x = y)
  | .int i, .int j, _, _ => by
    show PyData.eqv (.int i) (.int j) = _
    rw [dec_int]
    simp only [PyData.eqv]
  | .int i, .str s, _, _ => by
    show PyData.eqv (.int i) (.str s) = _
    rw [decide_eq_false (fun z => by cases z)]
    simp only [PyData.eqv]
  | .str s, .int i, _, _ => by
    show PyData.eqv (.str s) (.int i) = _
    rw [decide_eq_false (fun z => by cases z)]
    simp only [PyData.eqv]
  | .str s, .str t, _, _ => by
    show PyData.eqv (.str s) (.str t) = _
    rw [dec_str]
    simp only [PyData.eqv]
  | .non, _, h, _ => by cases h
  | .bl _, _, h, _ => by cases h
  | .byt _, _, h, _ => by cases h
  | .flt _, _, h, _ => by cases h
  | .ref _, _, h, _ => by cases h
  | .ty _, _, h, _ => by cases h
  | .int _, .non, _, h => by cases h
  | .int _, .bl _, _, h => by cases h
  | .int _, .byt _, _, h => by cases h
  | .int _, .flt _, _, h => by cases h
  | .int _, .ref _, _, h => by cases h
  | .int _, .ty _, _, h => by cases h
  | .str _, .non, _, h => by cases h
  | .str _, .bl _, _, h => by cases h
  | .str _, .byt _, _, h => by cases h
  | .str _, .flt _, _, h => by cases h
  | .str _, .ref _, _, h => by cases h
  | .str _, .ty _, _, h => by cases h
theorem eqvAll_sc : ∀ {xs ys : List V}, xs.all sc = true → ys.all sc = true → PyData.eqvAll (xs.map toD) (ys.map toD) = decide (xs = ys)
  | [], [], _, _ => by simp [PyData.eqvAll]
  | [], y :: ys, _, _ => by simp [PyData.eqvAll]
  | x :: xs, [], _, _ => by simp [PyData.eqvAll]
  | x :: xs, y :: ys, h, g => by
    rw [List.all_cons, Bool.and_eq_true] at h g
    show PyData.eqvAll (toD x :: xs.map toD) (toD y :: ys.map toD) = _
    simp only [PyData.eqvAll]
    rw [eqv_sc h.1 g.1, eqvAll_sc h.2 g.2, Bool.eq_iff_iff]
    simp [Bool.and_eq_true, List.cons.injEq]
theorem can_flat : ∀ {v : V}, flat v = true → PyData.canLay0 (toD v) = true
  | .non, _ => by simp [toD, PyData.canLay0]
  | .bl b, _ => by simp [toD, PyData.canLay0]
  | .int i, _ => by simp [toD, PyData.canLay0]
  | .str x, h => by
    simp only [toD, PyData.canLay0]
    exact (Bool.and_eq_true_iff.mp h).1
  | .byt _, h => by cases h
  | .flt _, h => by cases h
  | .ref _, h => by cases h
  | .ty _, h => by cases h
theorem depth_flat (v : V) : PyData.depth (toD v) = 1 ∨ PyData.depth (toD v) = 0 := by
  cases v <;> simp [toD, PyData.depth]
theorem canAll_flat : ∀ {xs : List V}, xs.all flat = true → PyData.canLayAll0 (xs.map toD) = true
  | [], _ => by simp [PyData.canLayAll0]
  | v :: r, h => by
    rw [List.all_cons, Bool.and_eq_true] at h
    show PyData.canLayAll0 (toD v :: r.map toD) = true
    simp only [PyData.canLayAll0]
    rw [can_flat h.1, canAll_flat h.2]
    rfl
theorem depthAll_flat : ∀ (xs : List V), PyData.depthAll (xs.map toD) ≤ 1
  | [] => by simp [PyData.depthAll]
  | v :: r => by
    show PyData.depthAll (toD v :: r.map toD) ≤ 1
    simp only [PyData.depthAll]
    have h := depthAll_flat r
    rcases depth_flat v with e | e <;> rw [e] <;> omega
theorem shaped_flat {v : V} (h : flat v = true) : SeqAt.shaped (toD v) = true := by
  unfold SeqAt.shaped
  rw [can_flat h]
  rcases depth_flat v with e | e <;> rw [e] <;> rfl
theorem shaped_tup {xs : List V} (h : xs.all flat = true) : SeqAt.shaped (.tuple (xs.map toD)) = true := by
  unfold SeqAt.shaped
  have h1 := depthAll_flat xs
  have h2 := canAll_flat h
  rw [Bool.and_eq_true]
  refine ⟨?_, decide_eq_true ?_⟩
  · simp only [PyData.canLay0]
    exact h2
  · simp only [PyData.depth]
    omega
theorem dp_tup {K : PySem.W.Frag} {H : Hp} {a : Addr} {xs : List V} (h : SqT K H a xs) (f : xs.all flat = true) : Dp K H (.ref a) (.tuple (xs.map toD)) := .tup h (dpAll_flat f)

/-! ### == and != -/
section
variable {K : PySem.W.Frag} {H : Hp} {a b : Addr} {xs ys : List V} {x y : V} {Q : VK}
theorem r_eqTT (h : SqT K H a xs) (g : SqT K H b ys) (hx : xs.all sc = true) (hy : ys.all sc = true) (q : Q (.bl (decide (xs = ys))) H) : rEqD K (.ref a) (.ref b) H Q :=
  ⟨_, _, dp_tup h (all_flat hx), dp_tup g (all_flat hy), shaped_tup (all_flat hx), shaped_tup (all_flat hy), by
    have e : PyData.eqv (.tuple (xs.map toD)) (.tuple (ys.map toD)) = decide (xs = ys) := by
      simp only [PyData.eqv]
      exact eqvAll_sc hx hy
    rw [e]
    exact q⟩
theorem r_neTT (h : SqT K H a xs) (g : SqT K H b ys) (hx : xs.all sc = true) (hy : ys.all sc = true) (q : Q (.bl (!decide (xs = ys))) H) : rNeD K (.ref a) (.ref b) H Q :=
  ⟨_, _, dp_tup h (all_flat hx), dp_tup g (all_flat hy), shaped_tup (all_flat hx), shaped_tup (all_flat hy), by
    have e : PyData.eqv (.tuple (xs.map toD)) (.tuple (ys.map toD)) = decide (xs = ys) := by
      simp only [PyData.eqv]
      exact eqvAll_sc hx hy
    rw [e]
    exact q⟩
theorem r_eqSS (hx : sc x = true) (hy : sc y = true) (q : Q (.bl (decide (x = y))) H) : rEqD K x y H Q :=
  ⟨_, _, dp_flat (flat_sc hx), dp_flat (flat_sc hy), shaped_flat (flat_sc hx), shaped_flat (flat_sc hy), by rw [eqv_sc hx hy]; exact q⟩
theorem r_neSS (hx : sc x = true) (hy : sc y = true) (q : Q (.bl (!decide (x = y))) H) : rNeD K x y H Q :=
  ⟨_, _, dp_flat (flat_sc hx), dp_flat (flat_sc hy), shaped_flat (flat_sc hx), shaped_flat (flat_sc hy), by rw [eqv_sc hx hy]; exact q⟩

/-! ### + and slices of tuples -/
theorem r_catA (h : SqT K H a xs) (g : SqT K H b ys) (hl : xs.length + ys.length ≤ sizeLine) (q : ∀ p H', Same H H' → SqT K H' p (xs ++ ys) → Q (.ref p) H') : rCatA K (.ref a) (.ref b) H Q :=
  ⟨a, b, xs, ys, rfl, rfl, h, g, hl, fun e => q b H (Same.refl H) (by rw [e]; exact g), fun _ e => q a H (Same.refl H) (by rw [e, List.append_nil]; exact h), fun _ _ p hp => q p _ (same_new hp) (SqT.of upd_same)⟩
theorem r_slA {lo hi : Option Int} (h : SqT K H a xs) (q : ∀ p H', Same H H' → SqT K H' p (cutV xs lo hi) → Q (.ref p) H') : rSlA K (.ref a) lo hi H Q :=
  ⟨a, xs, rfl, h, fun e => q a H (Same.refl H) (by
    have z : cutV xs lo hi = xs := by
      unfold cutV
      rw [e.1, e.2]
      simp
    rw [z]
    exact h), fun _ p hp => q p _ (same_new hp) (SqT.of upd_same)⟩
theorem cut_to {n : Nat} (xs : List V) : cutV xs none (some (n : Int)) = xs.take n := by
  unfold cutV
  rw [HT.sIx_none, HT.sIx_nat, List.drop_zero, Nat.sub_zero]
  by_cases h : n ≤ xs.length
  · rw [Nat.min_eq_left h]
  · rw [Nat.min_eq_right (by omega), List.take_of_length_le (Nat.le_refl _), List.take_of_length_le (by omega)]
theorem cut_from {n : Nat} (xs : List V) : cutV xs (some (n : Int)) none = xs.drop n := by
  unfold cutV
  rw [HT.sIx_none, HT.sIx_nat]
  by_cases h : n ≤ xs.length
  · rw [Nat.min_eq_left h]
    exact List.take_of_length_le (by rw [List.length_drop]; exact Nat.le_refl _)
  · rw [Nat.min_eq_right (by omega), List.drop_of_length_le (Nat.le_refl _), List.drop_of_length_le (by omega)]
    exact List.take_nil

/-! ### isinstance -/
theorem tyx_t (h : SqT K H a xs) : TyX K H (.ref a) (.type "tuple") := by
  rcases h with (h | ⟨o, h⟩) | ⟨o, its, n, e, c, _⟩
  · exact .base (.tup h)
  · exact .fTuple h
  · exact .kTuple e c
theorem tyx_l (h : SqL K H a xs) : TyX K H (.ref a) (.type "list") := by
  rcases h with (h | ⟨o, h⟩) | ⟨o, its, n, e, c, _⟩
  · exact .base (.lst h)
  · exact .base (.frz h)
  · exact .kList e c
/-- a value whose kind is known -/
inductive Kd (K : PySem.W.Frag) (H : Hp) : V → Prop
  | flat {v : V} (h : flat v = true) : Kd K H v
  | tup {a : Addr} {xs : List V} (h : SqT K H a xs) : Kd K H (.ref a)
  | lst {a : Addr} {xs : List V} (h : SqL K H a xs) : Kd K H (.ref a)
theorem Kd.same {H' : Hp} {v : V} (e : Same H H') (h : Kd K H v) : Kd K H' v := by
  cases h with
  | flat h => exact .flat h
  | tup h => exact .tup (st_same e h)
  | lst h => exact .lst (e.seq h)
theorem r_isi {x : V} {t n : String} {b : Bool} (ty : TyX K H x (.type t)) (h : kitB t n = some b) (q : Q (.bl b) H) : rIsi K [x, .ty n] H Q :=
  ⟨x, .ty n, .type t, .type n, b, rfl, .ty n, ty, kit_ty h, q⟩
def isIntV : V → Bool
  | .int _ => true
  | _ => false
def isStrV : V → Bool
  | .str _ => true
  | _ => false
def isBlV : V → Bool
  | .bl _ => true
  | _ => false
theorem r_isStr {x : V} (k : Kd K H x) (q : Q (.bl (isStrV x)) H) : rIsi K [x, .ty "str"] H Q := by
  cases k with
  | flat h =>
    cases x with
    | non => exact r_isi (.base .non) (b := false) (by decide +kernel) q
    | bl b => exact r_isi (.base (.bl b)) (b := false) (by decide +kernel) q
    | int i => exact r_isi (.base (.int i)) (b := false) (by decide +kernel) q
    | str s => exact r_isi (.base (.str s)) (b := true) (by decide +kernel) q
    | _ => cases h
  | tup h => exact r_isi (tyx_t h) (b := false) (by decide +kernel) q
  | lst h => exact r_isi (tyx_l h) (b := false) (by decide +kernel) q
theorem r_isInt {x : V} (k : Kd K H x) (q : Q (.bl (isIntV x || isBlV x)) H) : rIsi K [x, .ty "int"] H Q := by
  cases k with
  | flat h =>
    cases x with
    | non => exact r_isi (.base .non) (b := false) (by decide +kernel) q
    | bl b => exact r_isi (.base (.bl b)) (b := true) (by decide +kernel) q
    | int i => exact r_isi (.base (.int i)) (b := true) (by decide +kernel) q
    | str s => exact r_isi (.base (.str s)) (b := false) (by decide +kernel) q
    | _ => cases h
  | tup h => exact r_isi (tyx_t h) (b := false) (by decide +kernel) q
  | lst h => exact r_isi (tyx_l h) (b := false) (by decide +kernel) q
theorem r_isBl {x : V} (k : Kd K H x) (q : Q (.bl (isBlV x)) H) : rIsi K [x, .ty "bool"] H Q := by
  cases k with
  | flat h =>
    cases x with
    | non => exact r_isi (.base .non) (b := false) (by decide +kernel) q
    | bl b => exact r_isi (.base (.bl b)) (b := true) (by decide +kernel) q
    | int i => exact r_isi (.base (.int i)) (b := false) (by decide +kernel) q
    | str s => exact r_isi (.base (.str s)) (b := false) (by decide +kernel) q
    | _ => cases h
  | tup h => exact r_isi (tyx_t h) (b := false) (by decide +kernel) q
  | lst h => exact r_isi (tyx_l h) (b := false) (by decide +kernel) q
/-- is it a tuple? -/
inductive TupB (K : PySem.W.Frag) (H : Hp) : V → Bool → Prop
  | flat {v : V} (h : flat v = true) : TupB K H v false
  | tup {a : Addr} {xs : List V} (h : SqT K H a xs) : TupB K H (.ref a) true
  | lst {a : Addr} {xs : List V} (h : SqL K H a xs) : TupB K H (.ref a) false
theorem r_isTup {x : V} {b : Bool} (k : TupB K H x b) (q : Q (.bl b) H) : rIsi K [x, .ty "tuple"] H Q := by
  cases k with
  | flat h =>
    cases x with
    | non => exact r_isi (.base .non) (b := false) (by decide +kernel) q
    | bl b => exact r_isi (.base (.bl b)) (b := false) (by decide +kernel) q
    | int i => exact r_isi (.base (.int i)) (b := false) (by decide +kernel) q
    | str s => exact r_isi (.base (.str s)) (b := false) (by decide +kernel) q
    | _ => cases h
  | tup h => exact r_isi (tyx_t h) (b := true) (by decide +kernel) q
  | lst h => exact r_isi (tyx_l h) (b := false) (by decide +kernel) q
/-- isinstance(x, (list, tuple)) -/
def isRowV (b : Bool) : Bool := b
theorem r_isRow {x : V} {tp : Addr} {t : String} {b : Bool} (hT : H tp = some (.tup [.ty "list", .ty "tuple"])) (ty : TyX K H x (.type t)) (h1 : kitB t "list" = some b) (h2 : b = true ∨ kitB t "tuple" = some false ∨ kitB t "tuple" = some true)
    (c : Bool) (hc : c = (b || (kitB t "tuple" == some true))) (q : Q (.bl c) H) : rIsiT K [x, .ref tp] H Q := by
  refine ⟨x, tp, [.ty "list", .ty "tuple"], .type t, [.type "list", .type "tuple"], c, rfl, hT, .cons (.ty _) (.cons (.ty _) .nil), ty, ?_, q⟩
  cases b with
  | true =>
    rw [Bool.true_or] at hc
    subst hc
    exact kitAny_cons (kit_ty h1) (fun z => by cases z) (fun _ => rfl)
  | false =>
    rcases h2 with z | z | z
    · cases z
    · rw [z] at hc
      have hc' : c = false := hc
      subst hc'
      exact kitAny_cons (kit_ty h1) (fun _ => kitAny_cons (kit_ty z) (fun _ => kitAny_nil) (fun z => by cases z)) (fun z => by cases z)
    · rw [z] at hc
      have hc' : c = true := hc
      subst hc'
      exact kitAny_cons (kit_ty h1) (fun _ => kitAny_cons (kit_ty z) (fun z => by cases z) (fun _ => rfl)) (fun z => by cases z)
theorem r_isRowT {tp : Addr} (hT : H tp = some (.tup [.ty "list", .ty "tuple"])) (h : SqT K H a xs) (q : Q (.bl true) H) : rIsiT K [.ref a, .ref tp] H Q :=
  r_isRow hT (tyx_t h) (b := false) (by decide +kernel) (.inr (.inr (by decide +kernel))) true (by decide +kernel) q
theorem r_isRowL {tp : Addr} (hT : H tp = some (.tup [.ty "list", .ty "tuple"])) (h : SqL K H a xs) (q : Q (.bl true) H) : rIsiT K [.ref a, .ref tp] H Q :=
  r_isRow hT (tyx_l h) (b := true) (by decide +kernel) (.inl rfl) true (by decide +kernel) q
theorem r_isRowF {tp : Addr} {v : V} (hT : H tp = some (.tup [.ty "list", .ty "tuple"])) (h : flat v = true) (q : Q (.bl false) H) : rIsiT K [v, .ref tp] H Q := by
  cases v with
  | non => exact r_isRow hT (.base .non) (b := false) (by decide +kernel) (.inr (.inl (by decide +kernel))) false (by decide +kernel) q
  | bl b => exact r_isRow hT (.base (.bl b)) (b := false) (by decide +kernel) (.inr (.inl (by decide +kernel))) false (by decide +kernel) q
  | int i => exact r_isRow hT (.base (.int i)) (b := false) (by decide +kernel) (.inr (.inl (by decide +kernel))) false (by decide +kernel) q
  | str s => exact r_isRow hT (.base (.str s)) (b := false) (by decide +kernel) (.inr (.inl (by decide +kernel))) false (by decide +kernel) q
  | _ => cases h
/-! ### lo <= s <= hi of texts -/
def rangeS (lo hi x : Str) : Bool := (!decide (x.cps.toList < lo.cps.toList)) && (!decide (hi.cps.toList < x.cps.toList))
def rLeS : R2 := fun x y H Q => ∃ i j, x = .str i ∧ y = .str j ∧ Q (.bl (!decide (j.cps.toList < i.cps.toList))) H
def rLeI : R2 := rI0 fun i j => .bl (decide (i ≤ j))
theorem t_rngS {lo hi : Str} {tb : TE} {σ : L2.St} (h : tb σ H fun y H1 => ∃ s, y = .str s ∧ Q (.bl (rangeS lo hi s)) H1) : tChain rLeS rLeS (tC (.str lo)) tb (tC (.str hi)) σ H Q := by
  show tb σ H fun y H2 => rLeS (.str lo) y H2 fun z H3 => ∃ k, z = .bl k ∧ (if k = true then rLeS y (.str hi) H3 Q else Q (.bl false) H3)
  have e : (fun y H2 => rLeS (.str lo) y H2 fun z H3 => ∃ k, z = .bl k ∧ (if k = true then rLeS y (.str hi) H3 Q else Q (.bl false) H3)) = fun y H1 => ∃ s, y = .str s ∧ Q (.bl (rangeS lo hi s)) H1 := by
    funext y H2
    refine propext ⟨fun z => ?_, fun z => ?_⟩
    · obtain ⟨i, s, e1, rfl, k, ek, z⟩ := z
      cases e1
      refine ⟨s, rfl, ?_⟩
      cases ek
      unfold rangeS
      cases e : (!decide (s.cps.toList < lo.cps.toList)) with
      | true =>
        rw [e, if_pos rfl] at z
        obtain ⟨i, j, e1, e2, z⟩ := z
        cases e1
        cases e2
        rw [Bool.true_and]
        exact z
      | false =>
        rw [e, if_neg Bool.false_ne_true] at z
        rw [Bool.false_and]
        exact z
    · obtain ⟨s, rfl, q⟩ := z
      refine ⟨lo, s, rfl, rfl, _, rfl, ?_⟩
      unfold rangeS at q
      cases e : (!decide (s.cps.toList < lo.cps.toList)) with
      | true =>
        rw [e, Bool.true_and] at q
        exact iteT ⟨s, hi, rfl, rfl, q⟩
      | false =>
        rw [e, Bool.false_and] at q
        exact iteF q
  rw [e]
  exact h
theorem t_rngI {lo hi : Int} {tb : TE} {σ : L2.St} (h : tb σ H fun y H1 => ∃ n, y = .int n ∧ Q (.bl (decide (lo ≤ n) && decide (n ≤ hi))) H1) : tChain rLeI rLeI (tC (.int lo)) tb (tC (.int hi)) σ H Q := by
  show tb σ H fun y H2 => rLeI (.int lo) y H2 fun z H3 => ∃ k, z = .bl k ∧ (if k = true then rLeI y (.int hi) H3 Q else Q (.bl false) H3)
  have e : (fun y H2 => rLeI (.int lo) y H2 fun z H3 => ∃ k, z = .bl k ∧ (if k = true then rLeI y (.int hi) H3 Q else Q (.bl false) H3)) = fun y H1 => ∃ n, y = .int n ∧ Q (.bl (decide (lo ≤ n) && decide (n ≤ hi))) H1 := by
    funext y H2
    refine propext ⟨fun z => ?_, fun z => ?_⟩
    · obtain ⟨i, s, e1, rfl, k, ek, z⟩ := z
      cases e1
      refine ⟨s, rfl, ?_⟩
      cases ek
      cases e : decide (lo ≤ s) with
      | true =>
        rw [e, if_pos rfl] at z
        obtain ⟨i, j, e1, e2, z⟩ := z
        cases e1
        cases e2
        rw [Bool.true_and]
        exact z
      | false =>
        rw [e, if_neg Bool.false_ne_true] at z
        rw [Bool.false_and]
        exact z
    · obtain ⟨s, rfl, q⟩ := z
      refine ⟨lo, s, rfl, rfl, _, rfl, ?_⟩
      cases e : decide (lo ≤ s) with
      | true =>
        rw [e, Bool.true_and] at q
        exact iteT ⟨s, hi, rfl, rfl, q⟩
      | false =>
        rw [e, Bool.false_and] at q
        exact iteF q
  rw [e]
  exact h
end
/-! ### loops and comprehensions -/
section
variable {K : PySem.W.Frag} {wi : TI} {g : TG} {tb : TS} {tt : TT} {te : TE} {vs : List Nat} {D : Ends} {σ : L2.St} {H : Hp} {Q : VK}
theorem t_for {J : It} {n : Nat} {G : Hp → Prop} {Y : Nat → Hp → V → Hp → Prop} {H1 : Hp} (w : Walk J n G Y) (hw : ∀ R : It → Hp → Prop, R J H1 → wi σ H R) (Pv : Nat → L2.St → Hp → Prop) (h0 : Pv 0 σ H1) (hG : ∀ i σ H, i ≤ n → Pv i σ H → G H)
    (hs : ∀ i x σ H H', i < n → Pv i σ H → Y i H x H' → g x σ H' fun σ2 H2 => tb { D with nx := Pv (i + 1), ct := Pv (i + 1), bk := D.nx } σ2 H2) (hd : ∀ σ H, Pv n σ H → D.nx σ H) : tFor wi g tb D σ H :=
  hw _ (for_it w Pv h0 hG hs hd)
/-- .. where what is walked comes at a place that is not known ahead -/
theorem t_forS (S : It → Hp → Prop) (hw : ∀ R : It → Hp → Prop, (∀ J H1, S J H1 → R J H1) → wi σ H R)
    (h : ∀ J H1, S J H1 → ∃ W : Nat → Nat → L2.St → Hp → Prop, (∃ m, W 0 m σ H1) ∧ ∀ i m σ H, W i m σ H →
      (J.stop i H ∧ D.nx σ H) ∨ (J.go i H ∧ ∃ N : L2.St → Hp → Prop, (∀ σ' H', N σ' H' → ∃ m', m' < m ∧ W (i + 1) m' σ' H') ∧ ∀ x H', J.yld i H x H' → g x σ H' fun σ2 H2 => tb { D with nx := N, ct := N, bk := D.nx } σ2 H2)) : tFor wi g tb D σ H := hw _ h
theorem t_lc {J : It} {n : Nat} {G : Hp → Prop} {Y : Nat → Hp → V → Hp → Prop} {H1 : Hp} (w : Walk J n G Y) (hw : ∀ R : It → Hp → Prop, R J H1 → wi σ H R) (Pv : Addr → Nat → Hp → Prop) (h0 : ∀ D, H1 D = none → Pv D 0 (upd H1 D (.lst []))) (hG : ∀ D i H, i ≤ n → Pv D i H → G H)
    (hs : ∀ D, H1 D = none → ∀ i x H H', i < n → Pv D i H → Y i H x H' → g x (wipe σ vs) H' fun σ2 H2 => wipe σ2 vs = wipe σ vs ∧ tt σ2 H2 fun b H3 =>
      if b = true then te σ2 H3 fun y H4 => ∃ acc, H4 D = some (.lst acc) ∧ acc.length < sizeLine ∧ Pv D (i + 1) (upd H4 D (.lst (acc ++ [y]))) else Pv D (i + 1) H3)
    (hd : ∀ D, H1 D = none → ∀ H, Pv D n H → Q (.ref D) H) : tLc wi g tt te vs σ H Q :=
  hw _ fun D hD => lc_it w (Pv D) (h0 D hD) (hG D) (hs D hD) (hd D hD)
/-- .. where what is walked comes at a place that is not known ahead -/
theorem t_lcS (S : It → Hp → Prop) (hw : ∀ R : It → Hp → Prop, (∀ J H1, S J H1 → R J H1) → wi σ H R)
    (h : ∀ J H1, S J H1 → ∃ n G Y, Walk J n G Y ∧ ∃ Pv : Addr → Nat → Hp → Prop, (∀ D, H1 D = none → Pv D 0 (upd H1 D (.lst []))) ∧ (∀ D i H, i ≤ n → Pv D i H → G H) ∧
      (∀ D, H1 D = none → ∀ i x H H', i < n → Pv D i H → Y i H x H' → g x (wipe σ vs) H' fun σ2 H2 => wipe σ2 vs = wipe σ vs ∧ tt σ2 H2 fun b H3 =>
        if b = true then te σ2 H3 fun y H4 => ∃ acc, H4 D = some (.lst acc) ∧ acc.length < sizeLine ∧ Pv D (i + 1) (upd H4 D (.lst (acc ++ [y]))) else Pv D (i + 1) H3) ∧
      (∀ D, H1 D = none → ∀ H, Pv D n H → Q (.ref D) H)) : tLc wi g tt te vs σ H Q :=
  hw _ fun J H1 s => by
    obtain ⟨n, G, Y, w, Pv, h0, hG, hs, hd⟩ := h J H1 s
    exact fun D hD => lc_it w (Pv D) (h0 D hD) (hG D) (hs D hD) (hd D hD)
end
/-! ### names -/
def sg (c : Nat) : Str := ⟨#[c]⟩
def okSign (c : Nat) : Bool := rangeS "a" "z" (sg c) || rangeS "0" "9" (sg c)
def firstOk : List Nat → Bool
  | [] => false
  | c :: _ => rangeS "a" "z" (sg c)
def nameOk (s : Str) : Bool := (decide ((1 : Int) ≤ s.length) && decide ((s.length : Int) ≤ 12)) && (firstOk s.cps.toList && s.cps.toList.all okSign)
def isNameV : V → Bool
  | .str s => nameOk s
  | _ => false
end KK

namespace KR
open PySem PySem.Spec PyProof.Rows L2
/-! ### try with several clauses, each with a name or without -/
abbrev Cls : Type := Value × Option Nat × (Addr → Value → Option Addr → TS)
def suIn (ts : Addr → Value → Option Addr → TS) : Option Nat → Addr → Value → Option Addr → TS
  | none, a, cls, d => ts a cls d
  | some i, a, cls, d => fun D σ H => ts a cls d { nx := fun σ' H' => D.nx (σ'.set i none) H', rt := D.rt, bk := fun σ' H' => D.bk (σ'.set i none) H', ct := fun σ' H' => D.ct (σ'.set i none) H' } (σ.set i (some (.ref a))) H
def wAll (K : PySem.W.Frag) (Wout : WX) (D : Ends) : List Cls → WX
  | [] => Wout
  | (c, i, ts) :: r => fun cls d σ H => ∃ b, PySem.W.exmOne K cls c = some b ∧ (b = true → ∀ a, H a = none → suIn ts i a cls d D σ H) ∧ (b = false → wAll K Wout D r cls d σ H)
inductive HdsA (X : Cx) : List ExceptHandler → List Cls → Prop
  | nil : HdsA X [] []
  | plain {x : Str} {c : Value} {ts : Addr → Value → Option Addr → TS} {b₀ : Stmt} {suite : List Stmt} {np pos' : Pos} {hds : List ExceptHandler} {l : List Cls} (hc : Names X x c)
      (hsu : ∀ (a : Addr) (oe : Obj) (cls : Value) (d : Option Addr) (pn : List (Addr × Obj)), Zc cls d oe → (∃ vs, oe.data = .fields vs) → PSs (X.suite a ((a, oe) :: pn)) (b₀ :: suite) (ts a cls d)) (r : HdsA X hds l) :
      HdsA X (.ExceptHandler (some (.Name x np)) none (b₀ :: suite) pos' :: hds) ((c, none, ts) :: l)
  | named {x n : Str} {c : Value} {i : Nat} {ts : Addr → Value → Option Addr → TS} {b₀ : Stmt} {suite : List Stmt} {np pos' : Pos} {hds : List ExceptHandler} {l : List Cls} (hN : X.N.Nodup) (hi : X.N[i]? = some n) (hln : X.env.kindOf n = some .local) (hc : Names X x c)
      (hsu : ∀ (a : Addr) (oe : Obj) (cls : Value) (d : Option Addr) (pn : List (Addr × Obj)), Zc cls d oe → (∃ vs, oe.data = .fields vs) → PSs (X.suite a ((a, oe) :: pn)) (b₀ :: suite) (ts a cls d)) (r : HdsA X hds l) :
      HdsA X (.ExceptHandler (some (.Name x np)) (some n) (b₀ :: suite) pos' :: hds) ((c, some i, ts) :: l)
section
variable {X : Cx} {body : List Stmt} {h₀ : ExceptHandler} {hds : List ExceptHandler} {l : List Cls} {pos : Pos} {tb : WX → TS} {Wout : WX}
theorem ps_try_all (hs : X.stack = X.env :: X.outer) (hf : X.env.frame = some X.env.locals) (tk : Takes X Wout)
    (hb : ∀ (W : WX) (pn : List (Addr × Obj)) (xe : Value → Shared → Prop), Takes (X.tr pn xe) W → PassesOwn (model X.prog X.w) X.A X.env xe → PSs (X.tr pn xe) body (tb W))
    (hh : HdsA X (h₀ :: hds) l) : PS X (.Try body (h₀ :: hds) [] [] pos) (fun D σ H => tb (wAll X.K Wout D l) D σ H) := by
  refine ⟨fun pins s σ H D I h => ?_⟩
  have ok := I.ok
  have hfr : X.A.frames = some (X.env :: X.outer) := by rw [ok.frames, hs]
  refine wpAny_Try_except ?_
  refine wpAny_mono ((hb (wAll X.K Wout D l) (X.pn ++ pins) (fun e s₁ => wpAny (model X.prog X.w) X.A (noteFrame e X.env) (fun _ s₂ => wpAny (model X.prog X.w) X.A (setFlight e none) (fun _ s₃ =>
    wpAny (model X.prog X.w) X.A (handleBy e X.env (h₀ :: hds)) (SP X pins D) X.xe s₃) X.xe s₂) X.xe s₁) (fun u s' xx => ?_) PassesOwn.looking).run [] s σ H D (I.toTry _) h) (fun f s1 hsp => ?_) (fun e s1 he => he)
  · obtain ⟨a, B, sI, pins', σ', H', cls, d, rfl, J', nb, up, sky, na, os, ag, w⟩ := xx
    have J : Inv X pins σ' H' sI := J'.ofTry ok
    have sky' : Sky B (X.env :: X.outer) a (Zc cls d) X.env.locals s'.heap := by rw [← hs]; exact sky
    show wpAny (model X.prog X.w) X.A (noteFrame (.ref a) X.env) _ _ _
    refine Sky.land Zc.steady hfr hf sky' fun h3 fl3 up3 => ?_
    have J3 : Inv X pins σ' H' { s' with heap := h3 } := J.landed nb fl3.1 (up.trans up3) os ag
    obtain ⟨oe3, vs3, he3, hz3, hd3⟩ := fl3.there
    have notFr : ∀ {h : Heap} {o : Obj} {vs : Array Value}, h.FunFrames B (X.env :: X.outer) → h.get? a = some o → o.data = .fields vs → a ∉ frs (X.env :: X.outer) := fun {h o vs} ff e dd hm => by
      obtain ⟨_, o', e', hnf⟩ := ff.mem hm
      rw [e] at e'; cases e'
      exact hnf _ dd
    have nfr := notFr fl3.2.2.1 he3 hd3
    have nL : a ≠ X.env.locals := fun z => nfr (List.mem_filterMap.mpr ⟨X.env, List.mem_cons_self, by rw [hf, z]⟩)
    have nF : a ∉ X.fs := fun hm => by
      obtain ⟨e, he, q⟩ := List.mem_filterMap.mp hm
      exact nfr (List.mem_filterMap.mpr ⟨e, List.mem_cons_of_mem _ he, q⟩)
    have S3 := J3.suite he3 hd3 na nL nF
    have LT : PySem.W.Looks (model X.prog X.w) h3 (typeOf (.ref a)) cls := fun A Q E s k q => wpAny_typeOf_ref (k _ _ he3) (by rw [hz3.1]; exact q)
    have test : ∀ {x : Str} {np : Pos} {c : Value} {Q : Value → Shared → Prop} {E : Value → Shared → Prop}, Names X x c → Q c { s' with heap := h3 } → wpAny (model X.prog X.w) (X.A.mark (some (.ref a))) (eval (.Name x np) X.env) Q E { s' with heap := h3 } := fun {x np c Q E} hc q => by
      obtain ⟨hg, hdbg, hm | ⟨hm, hv, hnn⟩⟩ := hc
      · exact ld_glob (X := X.suite a ((a, oe3) :: (X.pn ++ pins))) S3 hg hm q hdbg
      · exact ld_blt (X := X.suite a ((a, oe3) :: (X.pn ++ pins))) S3 hg hm hv q hnn hdbg
    have go : ∀ {hds' : List ExceptHandler} {l' : List Cls}, HdsA X hds' l' → wAll X.K Wout D l' cls d σ' H' →
        wpAny (model X.prog X.w) X.A (handleBy (.ref a) X.env hds') (SP X pins D) X.xe { s' with heap := h3 } := by
      intro hds' l' hk
      induction hk with
      | nil =>
        intro w
        refine wpAny_handleBy_nil ?_
        obtain ⟨k1, k2, k3, oe, vs, T, oT, ts', he, hz, hd, h1, hr⟩ := id fl3
        unfold PySem.passOn
        refine wpAny_bind (wpAny_field he hd h1 ?_)
        rw [if_neg (show ¬ ((Value.ref T == Value.none) = true) from by simp)]
        have fin : wpAny (model X.prog X.w) X.A (setFlight (.ref a) X.env.frame) (fun _ s4 => wpAny (model X.prog X.w) X.A (throw (.ref a) : Sem Flow) (SP X pins D) X.xe s4) X.xe { s' with heap := h3 } := by
          rw [hf]
          refine HandSPX.setFlight_upZ fl3 fun h4 hh4 up4 => wpAny_throw (tk _ _ ?_)
          exact ⟨a, B, sI, pins, σ', H', cls, d, rfl, J, nb, (up.trans up3).trans up4, .inr (.inr (by rw [hs]; exact hh4)), na, os, ag, w⟩
        first
          | exact wpAny_bind (wpAny_pure (wpAny_bind fin))
          | exact wpAny_bind fin
      | @plain x c ts b₀ suite np pos' hds2 l2 hc hsu r ih =>
        intro w
        obtain ⟨b, hb1, hyes, hno⟩ := w
        refine wpAny_handleBy_cons (codeAny_handlers_test ?_) (by intro q; cases q)
        have LM := PySem.W.exm_one (M := model X.prog X.w) (J3.kIn) LT hb1
        refine test hc (LM.here ?_)
        cases b with
        | true =>
          refine codeAny_handlers_suite ?_
          refine HandSPX.lands_againZ fl3 fun h4 fl4 up4 => ?_
          have J4 : Inv X pins σ' H' { s' with heap := h4 } := J.landed nb fl4.1 ((up.trans up3).trans up4) os ag
          obtain ⟨oe4, vs4, he4, hz4, hd4⟩ := fl4.there
          have S4 := J4.suite he4 hd4 na nL nF
          refine wpAny_mono ((hsu a oe4 cls d (X.pn ++ pins) hz4 ⟨_, hd4⟩).run [] _ _ H' _ S4 (hyes rfl a na)) (fun f s6 hsp => ?_) (fun _ _ z => False.elim z)
          cases f with
          | next =>
            obtain ⟨σ6, H6, S6, q6⟩ := hsp
            exact ⟨_, _, S6.unsuite ok, q6⟩
          | brk =>
            obtain ⟨σ6, H6, S6, q6⟩ := hsp
            exact ⟨_, _, S6.unsuite ok, q6⟩
          | cont =>
            obtain ⟨σ6, H6, S6, q6⟩ := hsp
            exact ⟨_, _, S6.unsuite ok, q6⟩
          | ret u =>
            obtain ⟨v6, σ6, H6, S6, r6, q6⟩ := hsp
            exact ⟨_, _, _, S6.unsuite ok, r6, q6⟩
        | false =>
          show wpAny _ X.A (handleBy (.ref a) X.env hds2) _ _ _
          exact ih (hno rfl)
      | @named x n c i ts b₀ suite np pos' hds2 l2 hN hi hln hc hsu r ih =>
        intro w
        obtain ⟨b, hb1, hyes, hno⟩ := w
        have hloc : Loc X.env.scope n := .inl hln
        refine wpAny_handleBy_cons (codeAny_handlers_test ?_) (by intro q; cases q)
        have LM := PySem.W.exm_one (M := model X.prog X.w) (J3.kIn) LT hb1
        refine test hc (LM.here ?_)
        cases b with
        | true =>
          refine codeAny_handlers_suite_as ?_
          refine HandSPX.lands_againZ fl3 fun h4 fl4 up4 => ?_
          have J4 : Inv X pins σ' H' { s' with heap := h4 } := J.landed nb fl4.1 ((up.trans up3).trans up4) os ag
          obtain ⟨oe4, vs4, he4, hz4, hd4⟩ := fl4.there
          have S4 := J4.suite he4 hd4 na nL nF
          refine store_ok (X := X.suite a ((a, oe4) :: (X.pn ++ pins))) (v := .ref a) S4 hN hi hloc rfl (fun s5 S5 => ?_) (.inr hln)
          refine wpAny_mono ((hsu a oe4 cls d (X.pn ++ pins) hz4 ⟨_, hd4⟩).run [] s5 _ H' _ S5 (hyes rfl a na)) (fun f s6 hsp => ?_) (fun _ _ z => False.elim z)
          have end_ : ∀ {σ6 : L2.St} {H6 : Hp} {Q : Shared → Prop}, Inv (X.suite a ((a, oe4) :: (X.pn ++ pins))) [] σ6 H6 s6 → (∀ s7, Inv X pins (σ6.set i none) H6 s7 → Q s7) →
              wpAny (model X.prog X.w) X.A (do bindName X.env n .none; unbindBehindTheSuite X.env n pos') (fun _ s7 => Q s7) X.xe s6 := fun {σ6 H6 Q} S6 hq => gone_ok (S6.unsuite ok) hN hi hln hq
          cases f with
          | next =>
            obtain ⟨σ6, H6, S6, q6⟩ := hsp
            exact end_ S6 fun s7 J7 => ⟨_, _, J7, q6⟩
          | brk =>
            obtain ⟨σ6, H6, S6, q6⟩ := hsp
            exact end_ S6 fun s7 J7 => ⟨_, _, J7, q6⟩
          | cont =>
            obtain ⟨σ6, H6, S6, q6⟩ := hsp
            exact end_ S6 fun s7 J7 => ⟨_, _, J7, q6⟩
          | ret u =>
            obtain ⟨v6, σ6, H6, S6, r6, q6⟩ := hsp
            exact end_ S6 fun s7 J7 => ⟨_, _, _, J7, r6, q6⟩
        | false =>
          show wpAny _ X.A (handleBy (.ref a) X.env hds2) _ _ _
          exact ih (hno rfl)
    exact go hh w
  · cases f with
    | next =>
      obtain ⟨σ', H', J', q⟩ := hsp
      exact wpAny_execs_nil ⟨σ', H', J'.ofTry ok, q⟩
    | brk =>
      obtain ⟨σ', H', J', q⟩ := hsp
      exact ⟨σ', H', J'.ofTry ok, q⟩
    | cont =>
      obtain ⟨σ', H', J', q⟩ := hsp
      exact ⟨σ', H', J'.ofTry ok, q⟩
    | ret u =>
      obtain ⟨v, σ', H', J', r, q⟩ := hsp
      exact ⟨v, σ', H', J'.ofTry ok, r, q⟩
end
theorem takes_no {X : Cx} : Takes X (fun _ _ _ _ => False) := fun _ _ ⟨_, _, _, _, _, _, _, _, _, _, _, _, _, _, _, _, w⟩ => w.elim
/-! ### math.lcm -/
def rLcm : List V → Hp → VK → Prop := fun vs H Q => ∃ a b : Int, vs = [.int a, .int b] ∧ a.natAbs < 2 ^ 1000 ∧ b.natAbs < 2 ^ 1000 ∧ Q (.int ((Nat.lcm a.natAbs b.natAbs : Nat) : Int)) H
theorem cr_lcm {X : Cx} : CallR X (.builtin "math.lcm") rLcm := by
  intro pins s σ H vs us Q I r h
  obtain ⟨a, b, rfl, ha, hb, q⟩ := h
  obtain ⟨t, u, rfl⟩ := Vals.int2 r
  have e1 : Nat.lcm 1 a.natAbs = a.natAbs := by
    show 1 * a.natAbs / Nat.gcd 1 a.natAbs = _
    rw [Nat.gcd_one_left, Nat.one_mul, Nat.div_one]
  have hl : (Nat.lcm a.natAbs b.natAbs) < 2 ^ 2000 := by
    refine Nat.lt_of_le_of_lt (Nat.div_le_self _ _) ?_
    have e : (2 : Nat) ^ 2000 = 2 ^ 1000 * 2 ^ 1000 := by rw [← Nat.pow_add]
    rw [e]
    exact Nat.mul_lt_mul'' ha hb
  have m1 : (max 1 a.natAbs).log2 ≤ 999 := PySem.W.mg_log (by
    have : 1 < 2 ^ 1000 := by decide +kernel
    show max 1 a.natAbs < 2 ^ 1000
    omega)
  have m2 : (max a.natAbs b.natAbs).log2 ≤ 999 := PySem.W.mg_log (by
    show max a.natAbs b.natAbs < 2 ^ 1000
    omega)
  have hsz : ((((Nat.lcm 1 a.natAbs).lcm b.natAbs : Nat) : Int)).natAbs.log2 < bitsLine := by
    rw [e1]
    have : (Nat.lcm a.natAbs b.natAbs).log2 ≤ 1999 := PySem.W.mg_log hl
    show (Nat.lcm a.natAbs b.natAbs).log2 < 2 ^ 27
    omega
  refine call_function_meets PySem.W.MGF.kind_lcm PySem.W.MGF.plain_lcm PySem.W.MGF.entry_lcm (PySem.W.MGF.args_lcm _ _) (PySem.W.mg_run_lcm a t b u (by omega) (by omega) hsz).meets ?_
  refine ⟨.int _, H, I.tok _, ⟨_, rfl⟩, ?_⟩
  rw [e1]
  exact q
/-! ### what stands behind a certain return -/
def tDead : TS := fun _ _ _ => False
theorem pss_dead {X : Cx} {rest : List Stmt} : PSs X rest tDead := ⟨fun _ _ _ _ _ _ h => h.elim⟩
/-! ### a, b, .. = a list or a tuple -/
def gSeq (K : PySem.W.Frag) (n : Nat) (t : TGs) : TG := fun v σ H Q => gTup K n t v σ H Q ∨ gLst K n t v σ H Q
theorem pg_seq {X : Cx} {es : List Expr} {k : Nat} {t : TGs} {n : Nat} {pos : Pos} (hc : X.calm = true) (h : PGs X es t)
    (hn : (assignEach es X.env).length = n := by rfl) (hst : (assignEach es X.env).findIdx? (·.1) = none := by rfl) : PG X (.Tuple es k pos) (gSeq X.K n t) := by
  refine ⟨fun pins s σ H v u Q I r hw => ?_⟩
  rcases hw with hw | hw
  · exact (pg_tup hc h hn hst).run pins s σ H v u Q I r hw
  · exact (pg_lst hc h hn hst).run pins s σ H v u Q I r hw
/-! ### min and max of a tuple -/
theorem reads_ints {h : Heap} : ∀ {us : List Value} {ns : List Int}, Vals (ns.map V.int) us → ReadsAll h us (ns.map PyData.int) []
  | _, [], .nil => .nil
  | _, _ :: _, .cons ⟨t, e⟩ r => by
    subst e
    exact .cons (as := []) (.int _ _) (reads_ints r)
theorem alike_ints (ns : List Int) : PySem.W.AlikeAll (ns.map PyData.int) := by
  refine ⟨fun x hx y hy => ?_, fun x hx => ?_⟩
  · obtain ⟨i, _, rfl⟩ := List.mem_map.mp hx
    obtain ⟨j, _, rfl⟩ := List.mem_map.mp hy
    rfl
  · obtain ⟨i, _, rfl⟩ := List.mem_map.mp hx
    intro z; cases z
theorem depth_ints : ∀ ns : List Int, PyData.depthAll (ns.map PyData.int) ≤ 1
  | [] => by simp [PyData.depthAll]
  | n :: r => by
    have := depth_ints r
    simp only [List.map_cons, PyData.depthAll, PyData.depth]
    omega
def rMinT (K : PySem.W.Frag) : List V → Hp → VK → Prop := fun vs H Q => ∃ (a : Addr) (n : Int) (ns : List Int), vs = [V.ref a] ∧ SqT K H a ((n :: ns).map V.int) ∧ Q (.int (ns.foldl min n)) H
def rMaxT (K : PySem.W.Frag) : List V → Hp → VK → Prop := fun vs H Q => ∃ (a : Addr) (n : Int) (ns : List Int), vs = [V.ref a] ∧ SqT K H a ((n :: ns).map V.int) ∧ Q (.int (ns.foldl max n)) H
theorem cr_minT {X : Cx} (hc : X.calm = true) (hu : X.A.units + 64 < cLine) : CallR X (.builtin "min") (rMinT X.K) := by
  intro pins s σ H vs us Q I r h
  obtain ⟨a, n, ns, rfl, hs, q⟩ := h
  obtain ⟨its, rv, ht, _⟩ := I.tuple hs
  rw [Vals.ref1 r]
  have hd := depth_ints (n :: ns)
  refine PySem.W.min_tuple_data (I.ok.hd hc) ht (x := .int n) (xs := ns.map .int) (as := []) (by simpa using reads_ints rv) (alike_ints (n :: ns)) (by simp only [List.map_cons] at hd; omega) fun i v h' tk bs hv hr hk => ?_
  rw [PySem.W.minD_ints] at hr
  cases hr
  exact ⟨.int _, H, I.kept hk, ⟨_, rfl⟩, q⟩
theorem cr_maxT {X : Cx} (hc : X.calm = true) (hu : X.A.units + 64 < cLine) : CallR X (.builtin "max") (rMaxT X.K) := by
  intro pins s σ H vs us Q I r h
  obtain ⟨a, n, ns, rfl, hs, q⟩ := h
  obtain ⟨its, rv, ht, _⟩ := I.tuple hs
  rw [Vals.ref1 r]
  have hd := depth_ints (n :: ns)
  refine PySem.W.max_tuple_data (I.ok.hd hc) ht (x := .int n) (xs := ns.map .int) (as := []) (by simpa using reads_ints rv) (alike_ints (n :: ns)) (by simp only [List.map_cons] at hd; omega) fun i v h' tk bs hv hr hk => ?_
  rw [PySem.W.maxD_ints] at hr
  cases hr
  exact ⟨.int _, H, I.kept hk, ⟨_, rfl⟩, q⟩
/-! ### isinstance of the caught error that has a dict of its own -/
structure IsC (K : PySem.W.Frag) (C : Addr) : Prop where
  ga : PySem.W.findIn K (.ref C) "__getattribute__" = some (some (.builtin "BaseException.__getattribute__"))
  gg : PySem.W.findIn K (.ref C) "__getattr__" = some none
  exC : PySem.W.subIn K (.ref C) (.type "BaseException") = some true
  cl : (PySem.W.clsIn K C).isSome = true
  ha : PySem.W.findIn K (.ref C) "__class__" = some (some (.builtin "object.__class__"))
  hn : PySem.W.specialIn K (.builtin "object.__class__") "__get__" = some (some (.builtin "getset_descriptor.__get__"))
  ht : PySem.W.takesIn K (.builtin "object.__class__") = some true
  hm : PySem.W.mroIn K C (.type "object") = some true
def rIsX (K : PySem.W.Frag) (C a : Addr) (cls : Value) (d : Option Addr) : List V → Hp → VK → Prop := fun xs H Q => ∃ (D dd : Addr) (fs : List (Str × V)) (b : Bool), xs = [.ref a, .ref D] ∧ cls = .ref C ∧ d = some dd ∧ H dd = some (.xd fs) ∧ PySem.W.kitOne K (.ref C) (.ref D) = some b ∧ Q (.bl b) H
theorem call_isX {X : Cx} {a C : Addr} {oe : Obj} {cls : Value} {d : Option Addr} {pn : List (Addr × Obj)} (T : IsC X.K C) (hz : Zc cls d oe) (hf : ∃ vs, oe.data = .fields vs) : CallR (X.suite a ((a, oe) :: pn)) (.builtin "isinstance") (rIsX X.K C a cls d) := by
  intro pins s σ H xs us Q I r h
  obtain ⟨D, dd, fs, b, rfl, ec, ed, ea, e, q⟩ := h
  subst ec
  subst ed
  cases r with
  | cons rx rr =>
    cases rr with
    | cons rt rr =>
      cases rr
      cases rx
      cases rt
      obtain ⟨ha, _⟩ := I.pin (a, oe) (List.mem_append_left _ List.mem_cons_self)
      obtain ⟨vs, hd⟩ := hf
      have hx : ObjOk X.prog X.w H s.heap dd (.xd fs) := I.hok dd _ ea
      obtain ⟨mA, hns, hr⟩ := hx
      obtain ⟨od, ho, hl⟩ := lookIn_ns hns
      have J : PySem.W.InstAt s.heap a oe C (some od) := ⟨ha, hz.1, by unfold PySem.W.notCls; rw [hd] <;> rfl, by rw [hz.2]; exact ho⟩
      exact PySem.W.kia_one (PySem.W.kitx_exc T.cl T.ga T.gg T.exC T.ha T.hn T.ht T.hm) I.kIn J e (fun z => nomatch z) fun tk => ⟨.bl b, H, I.kept (t' := tk) fun _ _ z => z, rfl, q⟩
end KR
namespace KK
open PySem PySem.Spec PyProof.Rows L2 KR
/-! ### isinstance(x, (tuple, list)) -/
section
variable {K : PySem.W.Frag} {H : Hp} {a : Addr} {xs : List V} {Q : VK}
theorem r_isRow2 {x : V} {tp : Addr} {t : String} {b : Bool} (hT : H tp = some (.tup [.ty "tuple", .ty "list"])) (ty : TyX K H x (.type t)) (h1 : kitB t "tuple" = some b) (h2 : b = true ∨ kitB t "list" = some false ∨ kitB t "list" = some true)
    (c : Bool) (hc : c = (b || (kitB t "list" == some true))) (q : Q (.bl c) H) : rIsiT K [x, .ref tp] H Q := by
  refine ⟨x, tp, [.ty "tuple", .ty "list"], .type t, [.type "tuple", .type "list"], c, rfl, hT, .cons (.ty _) (.cons (.ty _) .nil), ty, ?_, q⟩
  cases b with
  | true =>
    rw [Bool.true_or] at hc
    subst hc
    exact kitAny_cons (kit_ty h1) (fun z => by cases z) (fun _ => rfl)
  | false =>
    rcases h2 with z | z | z
    · cases z
    · rw [z] at hc
      have hc' : c = false := hc
      subst hc'
      exact kitAny_cons (kit_ty h1) (fun _ => kitAny_cons (kit_ty z) (fun _ => kitAny_nil) (fun z => by cases z)) (fun z => by cases z)
    · rw [z] at hc
      have hc' : c = true := hc
      subst hc'
      exact kitAny_cons (kit_ty h1) (fun _ => kitAny_cons (kit_ty z) (fun z => by cases z) (fun _ => rfl)) (fun z => by cases z)
theorem r_isRow2T {tp : Addr} (hT : H tp = some (.tup [.ty "tuple", .ty "list"])) (h : SqT K H a xs) (q : Q (.bl true) H) : rIsiT K [.ref a, .ref tp] H Q :=
  r_isRow2 hT (tyx_t h) (b := true) (by decide +kernel) (.inl rfl) true (by decide +kernel) q
theorem r_isRow2L {tp : Addr} (hT : H tp = some (.tup [.ty "tuple", .ty "list"])) (h : SqL K H a xs) (q : Q (.bl true) H) : rIsiT K [.ref a, .ref tp] H Q :=
  r_isRow2 hT (tyx_l h) (b := false) (by decide +kernel) (.inr (.inr (by decide +kernel))) true (by decide +kernel) q
theorem r_isRow2F {tp : Addr} {v : V} (hT : H tp = some (.tup [.ty "tuple", .ty "list"])) (h : flat v = true) (q : Q (.bl false) H) : rIsiT K [v, .ref tp] H Q := by
  cases v with
  | non => exact r_isRow2 hT (.base .non) (b := false) (by decide +kernel) (.inr (.inl (by decide +kernel))) false (by decide +kernel) q
  | bl b => exact r_isRow2 hT (.base (.bl b)) (b := false) (by decide +kernel) (.inr (.inl (by decide +kernel))) false (by decide +kernel) q
  | int i => exact r_isRow2 hT (.base (.int i)) (b := false) (by decide +kernel) (.inr (.inl (by decide +kernel))) false (by decide +kernel) q
  | str s => exact r_isRow2 hT (.base (.str s)) (b := false) (by decide +kernel) (.inr (.inl (by decide +kernel))) false (by decide +kernel) q
  | _ => cases h
end
end KK

namespace K68
open PySem PySem.Spec PyProof.Rows L2 KR KK
/-! ### the text -/
def topS (i : Nat) : Stmt := PySem.Challenge.pw_onlywhatvaries_k68_fences_as_a_lattice.main.body.getD i (.Pass ⟨0, 0, 0, 0⟩)
abbrev s_BadNumber___init__ : Stmt := inClass (topS 3) 0
abbrev n_BadNumber___init__ : List Str := ["self", "at"]
abbrev p_BadNumber___init__ : List Str := ["self", "at"]
theorem sc_BadNumber___init__ : FnScope n_BadNumber___init__ p_BadNumber___init__ (defScope s_BadNumber___init__) := ⟨rfl, rfl, rfl, by decide +kernel, rfl, by decide +kernel, by decide +kernel⟩
abbrev s_BadRow___init__ : Stmt := inClass (topS 4) 0
abbrev n_BadRow___init__ : List Str := ["self", "at"]
abbrev p_BadRow___init__ : List Str := ["self", "at"]
theorem sc_BadRow___init__ : FnScope n_BadRow___init__ p_BadRow___init__ (defScope s_BadRow___init__) := ⟨rfl, rfl, rfl, by decide +kernel, rfl, by decide +kernel, by decide +kernel⟩
abbrev s_is_int : Stmt := topS 6
abbrev n_is_int : List Str := ["x"]
abbrev p_is_int : List Str := ["x"]
theorem sc_is_int : FnScope n_is_int p_is_int (defScope s_is_int) := ⟨rfl, rfl, rfl, by decide +kernel, rfl, by decide +kernel, by decide +kernel⟩
abbrev s_plain_form : Stmt := topS 7
abbrev n_plain_form : List Str := ["x", "held", "done", "source", "at", "built", "above", "place", "told"]
abbrev p_plain_form : List Str := ["x"]
theorem sc_plain_form : FnScope n_plain_form p_plain_form (defScope s_plain_form) := ⟨rfl, rfl, rfl, by decide +kernel, rfl, by decide +kernel, by decide +kernel⟩
abbrev s_check_number : Stmt := topS 8
abbrev n_check_number : List Str := ["x", "least"]
abbrev p_check_number : List Str := ["x", "least"]
theorem sc_check_number : FnScope n_check_number p_check_number (defScope s_check_number) := ⟨rfl, rfl, rfl, by decide +kernel, rfl, by decide +kernel, by decide +kernel⟩
abbrev s_wrong_fence_part : Stmt := topS 10
abbrev n_wrong_fence_part : List Str := ["fence", "lo", "hi", "step"]
abbrev p_wrong_fence_part : List Str := ["fence"]
theorem sc_wrong_fence_part : FnScope n_wrong_fence_part p_wrong_fence_part (defScope s_wrong_fence_part) := ⟨rfl, rfl, rfl, by decide +kernel, rfl, by decide +kernel, by decide +kernel⟩
abbrev s_check_fence : Stmt := topS 11
abbrev n_check_fence : List Str := ["fence", "wrong"]
abbrev p_check_fence : List Str := ["fence"]
theorem sc_check_fence : FnScope n_check_fence p_check_fence (defScope s_check_fence) := ⟨rfl, rfl, rfl, by decide +kernel, rfl, by decide +kernel, by decide +kernel⟩
abbrev s_check_other_fence : Stmt := topS 12
abbrev n_check_other_fence : List Str := ["fence", "wrong"]
abbrev p_check_other_fence : List Str := ["fence"]
theorem sc_check_other_fence : FnScope n_check_other_fence p_check_other_fence (defScope s_check_other_fence) := ⟨rfl, rfl, rfl, by decide +kernel, rfl, by decide +kernel, by decide +kernel⟩
abbrev s_check_integers : Stmt := topS 13
abbrev n_check_integers : List Str := ["numbers", "j", "number"]
abbrev p_check_integers : List Str := ["numbers"]
theorem sc_check_integers : FnScope n_check_integers p_check_integers (defScope s_check_integers) := ⟨rfl, rfl, rfl, by decide +kernel, rfl, by decide +kernel, by decide +kernel⟩
abbrev s_fence_of_plain : Stmt := topS 14
abbrev n_fence_of_plain : List Str := ["numbers", "lo", "step", "number"]
abbrev p_fence_of_plain : List Str := ["numbers"]
theorem sc_fence_of_plain : FnScope n_fence_of_plain p_fence_of_plain (defScope s_fence_of_plain) := ⟨rfl, rfl, rfl, by decide +kernel, rfl, by decide +kernel, by decide +kernel⟩
abbrev s_fence_of : Stmt := topS 15
abbrev n_fence_of : List Str := ["values"]
abbrev p_fence_of : List Str := ["values"]
theorem sc_fence_of : FnScope n_fence_of p_fence_of (defScope s_fence_of) := ⟨rfl, rfl, rfl, by decide +kernel, rfl, by decide +kernel, by decide +kernel⟩
abbrev s_holds_number : Stmt := topS 16
abbrev n_holds_number : List Str := ["fence", "v", "lo", "hi", "step"]
abbrev p_holds_number : List Str := ["fence", "v"]
theorem sc_holds_number : FnScope n_holds_number p_holds_number (defScope s_holds_number) := ⟨rfl, rfl, rfl, by decide +kernel, rfl, by decide +kernel, by decide +kernel⟩
abbrev s_has_number : Stmt := topS 17
abbrev n_has_number : List Str := ["fence", "v", "told"]
abbrev p_has_number : List Str := ["fence", "v"]
theorem sc_has_number : FnScope n_has_number p_has_number (defScope s_has_number) := ⟨rfl, rfl, rfl, by decide +kernel, rfl, by decide +kernel, by decide +kernel⟩
abbrev s_fence_size : Stmt := topS 18
abbrev n_fence_size : List Str := ["fence", "lo", "hi", "step"]
abbrev p_fence_size : List Str := ["fence"]
theorem sc_fence_size : FnScope n_fence_size p_fence_size (defScope s_fence_size) := ⟨rfl, rfl, rfl, by decide +kernel, rfl, by decide +kernel, by decide +kernel⟩
abbrev s_turned_by : Stmt := topS 19
abbrev n_turned_by : List Str := ["number", "base", "left", "right", "less", "more", "times"]
abbrev p_turned_by : List Str := ["number", "base"]
theorem sc_turned_by : FnScope n_turned_by p_turned_by (defScope s_turned_by) := ⟨rfl, rfl, rfl, by decide +kernel, rfl, by decide +kernel, by decide +kernel⟩
abbrev s_common_numbers : Stmt := topS 20
abbrev n_common_numbers : List Str := ["fence", "other", "step", "mate", "both", "around", "turns", "whole", "low", "high", "first", "last"]
abbrev p_common_numbers : List Str := ["fence", "other"]
theorem sc_common_numbers : FnScope n_common_numbers p_common_numbers (defScope s_common_numbers) := ⟨rfl, rfl, rfl, by decide +kernel, rfl, by decide +kernel, by decide +kernel⟩
abbrev s_fences_met : Stmt := topS 21
abbrev n_fences_met : List Str := ["fence", "other", "told", "mate"]
abbrev p_fences_met : List Str := ["fence", "other"]
theorem sc_fences_met : FnScope n_fences_met p_fences_met (defScope s_fences_met) := ⟨rfl, rfl, rfl, by decide +kernel, rfl, by decide +kernel, by decide +kernel⟩
abbrev s_is_fence_within : Stmt := topS 22
abbrev n_is_fence_within : List Str := ["fence", "other", "told", "mate"]
abbrev p_is_fence_within : List Str := ["fence", "other"]
theorem sc_is_fence_within : FnScope n_is_fence_within p_is_fence_within (defScope s_is_fence_within) := ⟨rfl, rfl, rfl, by decide +kernel, rfl, by decide +kernel, by decide +kernel⟩
abbrev s_fence_behind : Stmt := topS 23
abbrev n_fence_behind : List Str := ["fence", "other", "told", "mate"]
abbrev p_fence_behind : List Str := ["fence", "other"]
theorem sc_fence_behind : FnScope n_fence_behind p_fence_behind (defScope s_fence_behind) := ⟨rfl, rfl, rfl, by decide +kernel, rfl, by decide +kernel, by decide +kernel⟩
abbrev s_either_fence : Stmt := topS 24
abbrev n_either_fence : List Str := ["told", "mate", "step"]
abbrev p_either_fence : List Str := ["told", "mate"]
theorem sc_either_fence : FnScope n_either_fence p_either_fence (defScope s_either_fence) := ⟨rfl, rfl, rfl, by decide +kernel, rfl, by decide +kernel, by decide +kernel⟩
abbrev s_fence_either : Stmt := topS 25
abbrev n_fence_either : List Str := ["fence", "other", "told"]
abbrev p_fence_either : List Str := ["fence", "other"]
theorem sc_fence_either : FnScope n_fence_either p_fence_either (defScope s_fence_either) := ⟨rfl, rfl, rfl, by decide +kernel, rfl, by decide +kernel, by decide +kernel⟩
abbrev s_fence_times : Stmt := topS 26
abbrev n_fence_times : List Str := ["fence", "k", "lo", "hi", "step"]
abbrev p_fence_times : List Str := ["fence", "k"]
theorem sc_fence_times : FnScope n_fence_times p_fence_times (defScope s_fence_times) := ⟨rfl, rfl, rfl, by decide +kernel, rfl, by decide +kernel, by decide +kernel⟩
abbrev s_law_draws : Stmt := topS 28
abbrev n_law_draws : List Str := ["script", "draws", "at", "cell", "turn"]
abbrev p_law_draws : List Str := ["script"]
theorem sc_law_draws : FnScope n_law_draws p_law_draws (defScope s_law_draws) := ⟨rfl, rfl, rfl, by decide +kernel, rfl, by decide +kernel, by decide +kernel⟩
abbrev s_law_take : Stmt := topS 29
abbrev n_law_take : List Str := ["draws", "many"]
abbrev p_law_take : List Str := ["draws", "many"]
theorem sc_law_take : FnScope n_law_take p_law_take (defScope s_law_take) := ⟨rfl, rfl, rfl, by decide +kernel, rfl, by decide +kernel, by decide +kernel⟩
abbrev s_law_gcd : Stmt := topS 30
abbrev n_law_gcd : List Str := ["a", "b", "turn"]
abbrev p_law_gcd : List Str := ["a", "b"]
theorem sc_law_gcd : FnScope n_law_gcd p_law_gcd (defScope s_law_gcd) := ⟨rfl, rfl, rfl, by decide +kernel, rfl, by decide +kernel, by decide +kernel⟩
abbrev s_law_just : Stmt := topS 31
abbrev n_law_just : List Str := ["told", "due", "waiting", "turn", "one", "two", "at"]
abbrev p_law_just : List Str := ["told", "due"]
theorem sc_law_just : FnScope n_law_just p_law_just (defScope s_law_just) := ⟨rfl, rfl, rfl, by decide +kernel, rfl, by decide +kernel, by decide +kernel⟩
abbrev s_law_fence_drawn : Stmt := topS 32
abbrev n_law_fence_drawn : List Str := ["draws", "elder", "lo", "step", "many", "near", "at"]
abbrev p_law_fence_drawn : List Str := ["draws", "elder"]
theorem sc_law_fence_drawn : FnScope n_law_fence_drawn p_law_fence_drawn (defScope s_law_fence_drawn) := ⟨rfl, rfl, rfl, by decide +kernel, rfl, by decide +kernel, by decide +kernel⟩
abbrev s_law_inverse : Stmt := topS 33
abbrev n_law_inverse : List Str := ["number", "base", "left", "right", "less", "more", "turn", "times"]
abbrev p_law_inverse : List Str := ["number", "base"]
theorem sc_law_inverse : FnScope n_law_inverse p_law_inverse (defScope s_law_inverse) := ⟨rfl, rfl, rfl, by decide +kernel, rfl, by decide +kernel, by decide +kernel⟩
abbrev s_law_has : Stmt := topS 34
abbrev n_law_has : List Str := ["fence", "v"]
abbrev p_law_has : List Str := ["fence", "v"]
theorem sc_law_has : FnScope n_law_has p_law_has (defScope s_law_has) := ⟨rfl, rfl, rfl, by decide +kernel, rfl, by decide +kernel, by decide +kernel⟩
abbrev s_law_met : Stmt := topS 35
abbrev n_law_met : List Str := ["fence", "other", "both", "around", "turn", "at", "whole", "low", "high", "last"]
abbrev p_law_met : List Str := ["fence", "other"]
theorem sc_law_met : FnScope n_law_met p_law_met (defScope s_law_met) := ⟨rfl, rfl, rfl, by decide +kernel, rfl, by decide +kernel, by decide +kernel⟩
abbrev s_law_either : Stmt := topS 36
abbrev n_law_either : List Str := ["fence", "other", "step"]
abbrev p_law_either : List Str := ["fence", "other"]
theorem sc_law_either : FnScope n_law_either p_law_either (defScope s_law_either) := ⟨rfl, rfl, rfl, by decide +kernel, rfl, by decide +kernel, by decide +kernel⟩
abbrev s_law_behind : Stmt := topS 37
abbrev n_law_behind : List Str := ["fence", "other"]
abbrev p_law_behind : List Str := ["fence", "other"]
theorem sc_law_behind : FnScope n_law_behind p_law_behind (defScope s_law_behind) := ⟨rfl, rfl, rfl, by decide +kernel, rfl, by decide +kernel, by decide +kernel⟩
abbrev s_law_within : Stmt := topS 38
abbrev n_law_within : List Str := ["fence", "other"]
abbrev p_law_within : List Str := ["fence", "other"]
theorem sc_law_within : FnScope n_law_within p_law_within (defScope s_law_within) := ⟨rfl, rfl, rfl, by decide +kernel, rfl, by decide +kernel, by decide +kernel⟩
abbrev s_law_pair_asked : Stmt := topS 39
abbrev n_law_pair_asked : List Str := ["one", "two", "either", "met", "within"]
abbrev p_law_pair_asked : List Str := ["one", "two"]
theorem sc_law_pair_asked : FnScope n_law_pair_asked p_law_pair_asked (defScope s_law_pair_asked) := ⟨rfl, rfl, rfl, by decide +kernel, rfl, by decide +kernel, by decide +kernel⟩
abbrev s_law_three_asked : Stmt := topS 40
abbrev n_law_three_asked : List Str := ["one", "two", "three", "near", "far", "told", "pair", "met", "due"]
abbrev p_law_three_asked : List Str := ["one", "two", "three"]
theorem sc_law_three_asked : FnScope n_law_three_asked p_law_three_asked (defScope s_law_three_asked) := ⟨rfl, rfl, rfl, by decide +kernel, rfl, by decide +kernel, by decide +kernel⟩
abbrev s_law_times_asked : Stmt := topS 41
abbrev n_law_times_asked : List Str := ["fence", "j", "k", "lo", "hi", "step", "many"]
abbrev p_law_times_asked : List Str := ["fence", "j", "k"]
theorem sc_law_times_asked : FnScope n_law_times_asked p_law_times_asked (defScope s_law_times_asked) := ⟨rfl, rfl, rfl, by decide +kernel, rfl, by decide +kernel, by decide +kernel⟩
abbrev s_law_members_asked : Stmt := topS 42
abbrev n_law_members_asked : List Str := ["fence", "other", "picks", "size", "inner", "numbers", "v", "values", "step", "value"]
abbrev p_law_members_asked : List Str := ["fence", "other", "picks"]
theorem sc_law_members_asked : FnScope n_law_members_asked p_law_members_asked (defScope s_law_members_asked) := ⟨rfl, rfl, rfl, by decide +kernel, rfl, by decide +kernel, by decide +kernel⟩
abbrev s_law_asked : Stmt := topS 43
abbrev n_law_asked : List Str := ["fences", "j", "k", "picks", "one", "two"]
abbrev p_law_asked : List Str := ["fences", "j", "k", "picks"]
theorem sc_law_asked : FnScope n_law_asked p_law_asked (defScope s_law_asked) := ⟨rfl, rfl, rfl, by decide +kernel, rfl, by decide +kernel, by decide +kernel⟩
abbrev s_law_call : Stmt := topS 44
abbrev n_law_call : List Str := ["which", "one", "two"]
abbrev p_law_call : List Str := ["which", "one", "two"]
theorem sc_law_call : FnScope n_law_call p_law_call (defScope s_law_call) := ⟨rfl, rfl, rfl, by decide +kernel, rfl, by decide +kernel, by decide +kernel⟩
abbrev s_law_refused : Stmt := topS 45
abbrev n_law_refused : List Str := ["which", "one", "two", "told", "wrong"]
abbrev p_law_refused : List Str := ["which", "one", "two"]
theorem sc_law_refused : FnScope n_law_refused p_law_refused (defScope s_law_refused) := ⟨rfl, rfl, rfl, by decide +kernel, rfl, by decide +kernel, by decide +kernel⟩
abbrev s_law_refuses : Stmt := topS 46
abbrev n_law_refuses : List Str := ["fence", "way", "wrong", "at", "which", "number", "one"]
abbrev p_law_refuses : List Str := ["fence", "way"]
theorem sc_law_refuses : FnScope n_law_refuses p_law_refuses (defScope s_law_refuses) := ⟨rfl, rfl, rfl, by decide +kernel, rfl, by decide +kernel, by decide +kernel⟩
abbrev s_law : Stmt := topS 47
abbrev n_law : List Str := ["script", "draws", "fences", "turn", "j", "k", "picks", "way", "right"]
abbrev p_law : List Str := ["script"]
theorem sc_law : FnScope n_law p_law (defScope s_law) := ⟨rfl, rfl, rfl, by decide +kernel, rfl, by decide +kernel, by decide +kernel⟩
/-- the built-in names are the built-ins still -/
structure Bi (mg : Str → Option Value) : Prop where
  len : mg "len" = none
  isinstance : mg "isinstance" = none
  enumerate : mg "enumerate" = none
  range : mg "range" = none
  min : mg "min" = none
  max : mg "max" = none
  abs : mg "abs" = none
  int_ : mg "int" = none
  bool_ : mg "bool" = none
  str_ : mg "str" = none
  list_ : mg "list" = none
  tuple_ : mg "tuple" = none
  gcd : mg "gcd" = some (.builtin "math.gcd")
  lcm : mg "lcm" = some (.builtin "math.lcm")
/-- a def that may be called: its promise, where it stands -/
structure Cal (P : Program) (w : World) (K : PySem.W.Frag) (mg : Str → Option Value) (base : Heap) (CX : CXT) (k : Nat) (x : Str) (ps : List Str) (sp : Sp) where
  f : Addr
  fd : FuncData
  G : FnOk P w K mg base CX k f fd ps sp
  g : mg x = some (.ref f)
  kp : PySem.W.keepIn K (.ref f) = true
  b : Binds K fd ps []
/-! ### the errors -/
/-- what the written part says of an error class, at C, and of its __init__, at fI -/
structure BadT (nm : Str) (K : PySem.W.Frag) (mg : Str → Option Value) (C fI : Addr) : Prop where
  gC : mg nm = some (.ref C)
  ox : OexC K C
  xf : XfC K C
  is : IsC K C
  noA : PySem.W.findIn K (.ref C) "at" = some none
  iC : PySem.W.findIn K (.ref C) "__init__" = some (some (.ref fI))
  tI : PySem.W.typeIn K (.ref fI) = some (.type "function")
  te : PySem.W.exmOne K (.ref C) (.ref C) = some true
def spInit (K : PySem.W.Frag) : Sp := fun vs H Q _ => ∃ (a C : Addr) (y : V), vs = [.ref a, y] ∧ OexC K C ∧ PySem.W.findIn K (.ref C) "at" = some none ∧ H a = some (exo a C none) ∧
  ∀ dx, H dx = none → dx ≠ a → Q .non (upd (upd H dx (exd dx [("at", y)])) a (exo a C (some dx)))
section
variable {P : Program} {w : World} {K : PySem.W.Frag} {mg : Str → Option Value} {base : Heap}
theorem ok_initR {f : Addr} {fd : FuncData} (F : Fun K "__init__" "BadRow.__init__" s_BadRow___init__ f fd) : FnOk P w K mg base CX0 1 f fd p_BadRow___init__ (spInit K) := by
  refine F.ok sc_BadRow___init__ (fun vs H Q E h => ?_) (fun cdv A outer s H vs Q E hr h => ?_)
  · obtain ⟨a, C, y, rfl, _⟩ := h
    rfl
  · obtain ⟨a, C, y, rfl, T, no, ea, q⟩ := h
    refine ⟨_, (pss_one (ps_ost (pv 0) (pv 1))), ?_⟩
    exact ⟨y, rfl, .ref a, rfl, a, C, rfl, T, no, .inl ⟨ea, fun dx hd ne => q dx hd ne⟩⟩
theorem ok_initN {f : Addr} {fd : FuncData} (F : Fun K "__init__" "BadNumber.__init__" s_BadNumber___init__ f fd) : FnOk P w K mg base CX0 1 f fd p_BadNumber___init__ (spInit K) := by
  refine F.ok sc_BadNumber___init__ (fun vs H Q E h => ?_) (fun cdv A outer s H vs Q E hr h => ?_)
  · obtain ⟨a, C, y, rfl, _⟩ := h
    rfl
  · obtain ⟨a, C, y, rfl, T, no, ea, q⟩ := h
    refine ⟨_, (pss_one (ps_ost (pv 0) (pv 1))), ?_⟩
    exact ⟨y, rfl, .ref a, rfl, a, C, rfl, T, no, .inl ⟨ea, fun dx hd ne => q dx hd ne⟩⟩
end
/-- Bad(e) -/
structure BadF (nm : Str) (P : Program) (w : World) (K : PySem.W.Frag) (mg : Str → Option Value) (base : Heap) where
  C : Addr
  fI : Addr
  fd : FuncData
  T : BadT nm K mg C fI
  G : FnOk P w K mg base CX0 1 fI fd ["self", "at"] (spInit K)
  b : Binds K fd ["self", "at"] []
def tBad (C : Addr) (ta : TA) : L2.St → Hp → XK → Prop := fun σ H Q => ta σ H fun vs H1 => ∃ y, vs = [y] ∧ ∀ d, H1 d = none → Q (.ref C) (some d) (upd H1 d (.xd [("at", y)]))
theorem pmk_bad {nm : Str} {X : Cx} {a : Expr} {ta : TA} {p pos : Pos} {k : Nat} (T : BadF nm X.prog X.w X.K X.mg X.base) (hr : Room k X.A) (hk : 2 ≤ k) (ha : PA X [a] ta) (hg : Gl X nm := by rfl) (hdb : (nm == ("__debug__" : Str)) = false := by decide)
    (he : starEach [a] X.env = (false, eval a X.env) :: starEach [] X.env := by rfl) (hpl : (backTo pos (starEach [] X.env)).any (·.1) = false := by rfl) :
    PMk X (.Call (.Name nm p) [a] [] pos) (tBad T.C ta) := by
  intro pins s σ H Q I h
  have hm := T.T.gC
  refine pmk_oex (dvs := []) (ds := []) (sp := spInit X.K) T.T.ox T.T.iC T.T.tI T.G (hr.mono hk) T.b .nil (fun _ _ _ _ _ _ _ h => h.elim) hg hm
    (ta := fun σ' H' R => ta σ' H' (fun vs H1 => ∃ y, vs = [y] ∧ ∀ d, H1 d = none → Q (.ref T.C) (some d) (upd H1 d (.xd [("at", y)]))) ∧ ∀ vs H1, (∃ y, vs = [y] ∧ ∀ d, H1 d = none → Q (.ref T.C) (some d) (upd H1 d (.xd [("at", y)]))) → R vs H1)
    ⟨fun pos pins s σ H R I h => ?_⟩ hdb he hpl pins s σ H Q I ⟨h, fun vs H1 hv => ?_⟩
  · obtain ⟨h1, h2⟩ := h
    exact thn (ha.run pos pins s σ H _ I h1) fun us s1 ⟨vs, H1, I1, r1, q1⟩ => ⟨vs, H1, I1, r1, h2 vs H1 q1⟩
  · obtain ⟨y, rfl, q⟩ := hv
    refine ⟨by show 1 ≤ 1000; decide, fun e he => ⟨e, T.C, y, rfl, T.T.ox, T.T.noA, upd_same, fun dx hd ne => ⟨rfl, dx, [("at", y)], upd_same, ?_, ?_, ?_⟩⟩⟩
    · rw [upd_ne ne, upd_same]
    · rw [upd_ne ne] at hd
      exact hd
    · have hd' : H1 dx = none := by
        rw [upd_ne ne] at hd
        exact hd
      have eq : upd (del (upd (upd (upd H1 e (exo e T.C none)) dx (exd dx [("at", y)])) e (exo e T.C (some dx))) e) dx (.xd [("at", y)]) = upd H1 dx (.xd [("at", y)]) := by
        funext b
        by_cases hb : b = dx
        · rw [hb, upd_same, upd_same]
        · rw [upd_ne hb, upd_ne hb]
          by_cases hb2 : b = e
          · rw [hb2, del_same, he]
          · rw [del_ne hb2, upd_ne hb2, upd_ne hb, upd_ne hb2]
      rw [eq]
      exact q dx hd'
end K68

namespace K68
open PySem PySem.Spec PyProof.Rows L2 KR KK
local macro_rules | `(tactic| walk_at "u") => `(tactic| try dsimp only [tSeq, tCutS, tCutE, tCutT, tIfS, tRet, tRetN, tNext, tBreak, tCont, tDrop, tAsg, gName, gTup, gCons, gNil, tOr, tAnd, tNot, tB, tTest, tCB, tCons, tNil, tC, tVar, tAndV, tOrV, tNotV, tOp, tUn, tIf, tIsN, tNotN, tTup, tLst, tCall, tCallS, tBM, tBM0, tSl, tPart, tNoPart, tYes, iList, iTup, iSeq, iStr, iRng1, iRng2, iEnumA, rI, rI0, rU, cxOf, Cx.nox, Cx.wish, L2.start, List.map, List.set, Nat.repeat, List.length_cons, List.length_nil, List.replicate, List.nil_append, List.cons_append, List.append_nil, Nat.reduceAdd, Nat.reduceSub, E0, tBad, tTr])

theorem ifT {b : Bool} {A B : Prop} (h : b = true) (a : A) : if b = true then A else B := by rw [if_pos h]; exact a
theorem ifF {b : Bool} {A B : Prop} (h : b = false) (a : B) : if b = true then A else B := by rw [h, if_neg Bool.false_ne_true]; exact a
/-! ### an answer, or a refusal with what it tells: a row's, a number's -/
inductive Res (α : Type) where
  | ok (a : α)
  | row (z : PyData)
  | num (z : PyData)
def OutR (K : PySem.W.Frag) (C N : Addr) {α : Type} (H : Hp) (good : α → V → Hp → Prop) (r : Res α) (Q : VK) (E : XK) : Prop := match r with
  | .ok a => ∀ v H', Same H H' → good a v H' → Q v H'
  | .row z => ∀ d y H', Same H H' → H' d = some (.xd [("at", y)]) → Dp K H' y z → E (.ref C) (some d) H'
  | .num z => ∀ d y H', Same H H' → H' d = some (.xd [("at", y)]) → Dp K H' y z → E (.ref N) (some d) H'
theorem OutR.same {K : PySem.W.Frag} {C N : Addr} {α : Type} {H H1 : Hp} {good : α → V → Hp → Prop} {r : Res α} {Q : VK} {E : XK} (h : OutR K C N H good r Q E) (e : Same H H1) : OutR K C N H1 good r Q E := by
  cases r with
  | ok a => exact fun v H' e' g => h v H' (e.trans e') g
  | row z => exact fun d y H' e' => h d y H' (e.trans e')
  | num z => exact fun d y H' e' => h d y H' (e.trans e')
/-- a row as it is passed: a tuple, a list of plain values, or another plain value -/
inductive RowA (K : PySem.W.Frag) (H : Hp) : V → Option (List V) → Prop
  | tup {a : Addr} {xs : List V} (h : SqT K H a xs) (f : xs.all flat = true) (l : xs.length ≤ 1000) : RowA K H (.ref a) (some xs)
  | lst {a : Addr} {xs : List V} (h : SqL K H a xs) (f : xs.all flat = true) (l : xs.length ≤ 1000) : RowA K H (.ref a) (some xs)
  | no {v : V} (h : flat v = true) : RowA K H v none
theorem RowA.same {K : PySem.W.Frag} {H H' : Hp} {v : V} {o : Option (List V)} (e : Same H H') (h : RowA K H v o) : RowA K H' v o := by
  cases h with
  | tup h f l => exact .tup (st_same e h) f l
  | lst h f l => exact .lst (e.seq h) f l
  | no h => exact .no h
theorem RowA.flat {K : PySem.W.Frag} {H : Hp} {v : V} {xs : List V} (h : RowA K H v (some xs)) : xs.all flat = true ∧ xs.length ≤ 1000 := by
  cases h with
  | tup h f l => exact ⟨f, l⟩
  | lst h f l => exact ⟨f, l⟩
section
variable {K : PySem.W.Frag} {H : Hp} {v : V} {xs : List V}
/-- tuple(row) -/
theorem r_tupOf {Q : VK} (h : RowA K H v (some xs)) (q : ∀ p H', Same H H' → SqT K H' p xs → Q (.ref p) H') : rTupQ K [v] H Q := by
  cases h with
  | tup h f l => exact ⟨_, xs, rfl, .inr ⟨h, q _ H (Same.refl H) h⟩⟩
  | lst h f l => exact ⟨_, xs, rfl, .inl ⟨h, fun l hl => q l _ (same_new hl) (SqT.of upd_same)⟩⟩
theorem r_lenOf {Q : VK} (h : RowA K H v (some xs)) (q : Q (.int (xs.length : Nat)) H) : rLenQ K [v] H Q := by
  cases h with
  | tup h f l => exact ⟨_, xs, rfl, .inr h, q⟩
  | lst h f l => exact ⟨_, xs, rfl, .inl h, q⟩
/-- isinstance(row, (tuple, list)) -/
theorem r_isRowA {o : Option (List V)} {tp : Addr} {Q : VK} (hT : H tp = some (.tup [.ty "tuple", .ty "list"])) (h : RowA K H v o) (q : Q (.bl o.isSome) H) : rIsiT K [v, .ref tp] H Q := by
  cases h with
  | tup h f l => exact r_isRow2T hT h q
  | lst h f l => exact r_isRow2L hT h q
  | no h => exact r_isRow2F hT h q
theorem rowA_enum (h : RowA K H v (some xs)) : ∃ (J : It) (G : Hp → Prop), Walk J xs.length G (YPair (fun i => some (.int (i : Nat))) (fun i => xs[i]?)) ∧ (∀ H', Same H H' → G H') ∧
    ∀ (σ : L2.St) (H1 : Hp), σ[0]? = some (some v) → Same H H1 → ∀ R : It → Hp → Prop, R J H1 → iEnumA K (tCons (tVar 0) tNil) σ H1 R := by
  cases h with
  | tup h f l => exact ⟨_, _, walk_enumT, fun H' e => st_same e h, fun σ H1 e0 e R r => ⟨_, e0, _, xs, rfl, .inr ⟨st_same e h, r⟩⟩⟩
  | lst h f l => exact ⟨_, _, walk_enum, fun H' e => e.seq h, fun σ H1 e0 e R r => ⟨_, e0, _, xs, rfl, .inl ⟨e.seq h, r⟩⟩⟩
theorem r_seq {n : Nat} {t : TGs} {σ : L2.St} {Q : L2.St → Hp → Prop} (h : RowA K H v (some xs)) (hn : xs.length = n) (q : t xs σ H Q) : gSeq K n t v σ H Q := by
  cases h with
  | tup h f l => exact .inl ⟨_, xs, rfl, h, hn, q⟩
  | lst h f l => exact .inr ⟨_, xs, rfl, h, hn, q⟩
theorem t_rngV {i j k : Nat} {lo n hi : Int} {σ : L2.St} {Q : VK} (e1 : σ[i]? = some (some (.int lo))) (e2 : σ[j]? = some (some (.int n))) (e3 : σ[k]? = some (some (.int hi))) (q : Q (.bl (decide (lo ≤ n) && decide (n ≤ hi))) H) : tChain rLeI rLeI (tVar i) (tVar j) (tVar k) σ H Q := by
  refine ⟨_, e1, _, e2, lo, n, rfl, rfl, _, rfl, ?_⟩
  cases e : decide (lo ≤ n) with
  | true =>
    rw [e, Bool.true_and] at q
    exact iteT ⟨_, e3, n, hi, rfl, rfl, q⟩
  | false =>
    rw [e, Bool.false_and] at q
    exact iteF q
end
/-- what is wrong in a fence's parts -/
def wrongS (lo hi : Int) : V → V
  | .int st => if st < 0 then .int 2 else if st = 0 then (if lo = hi then .non else .int 2) else if lo < hi ∧ (hi - lo) % st = 0 then .non else .int 2
  | _ => .int 2
def wrongH (lo : Int) (st : V) : V → V
  | .int hi => if hi < lo then .int 1 else wrongS lo hi st
  | _ => .int 1
def wrongL (hi st : V) : V → V
  | .int lo => wrongH lo st hi
  | _ => .int 0
def wrongF : Option (List V) → V
  | some [lo, hi, st] => wrongL hi st lo
  | _ => .int (-1)
theorem wrongF_len {xs : List V} (h : xs.length ≠ 3) : wrongF (some xs) = .int (-1) := by
  unfold wrongF
  split
  · rename_i e
    cases e
    exact absurd rfl h
  · rfl
section
variable {P : Program} {w : World} {K : PySem.W.Frag} {mg : Str → Option Value} {base : Heap}
def spIsInt (K : PySem.W.Frag) : Sp := fun vs H Q _ => ∃ v, vs = [v] ∧ Kd K H v ∧ Q (.bl (isIntV v)) H
theorem ok_is_int {f : Addr} {fd : FuncData} (B : Bi mg) (F : Fun K "is_int" "is_int" s_is_int f fd) : FnOk P w K mg base CX0 1 f fd p_is_int (spIsInt K) := by
  refine F.ok sc_is_int (fun vs H Q E h => ?_) (fun cdv A outer s H vs Q E hr h => ?_)
  · obtain ⟨v, rfl, _⟩ := h
    rfl
  · obtain ⟨v, rfl, kd, q⟩ := h
    refine ⟨_, (pss_one (ps_ret (pe_and (pe_callB (call_isiK1 (K := K) rfl) (by rfl) B.isinstance (by decide +kernel) (pa_cons (pv 0) (pa_cons (pe_bltn (v := .ty "int") (by rfl) B.int_ (by decide +kernel) rfl) pa_nil))) (pe_one (pe_not (pe_callB (call_isiK1 (K := K) rfl) (by rfl) B.isinstance (by decide +kernel) (pa_cons (pv 0) (pa_cons (pe_bltn (v := .ty "bool") (by rfl) B.bool_ (by decide +kernel) rfl) pa_nil)))))))), ?_⟩
    walk_at "u"
    refine ⟨v, rfl, r_isInt kd ⟨_, rfl, ?_⟩⟩
    cases v with
    | int i => exact iteT ⟨_, rfl, r_isBl kd ⟨_, rfl, q⟩⟩
    | bl b => exact iteT ⟨_, rfl, r_isBl kd ⟨_, rfl, q⟩⟩
    | _ => exact iteF q
/-- a plain value stays -/
def spPlain (K : PySem.W.Frag) : Sp := fun vs H Q _ => ∃ v, vs = [v] ∧ flat v = true ∧ ∀ H', Same H H' → Q v H'
theorem ok_plain_form {f : Addr} {fd : FuncData} (B : Bi mg) (F : Fun K "plain_form" "plain_form" s_plain_form f fd) : FnOk P w K mg base CX0 1 f fd p_plain_form (spPlain K) := by
  refine F.ok sc_plain_form (fun vs H Q E h => ?_) (fun cdv A outer s H vs Q E hr h => ?_)
  · obtain ⟨v, rfl, _⟩ := h
    rfl
  · obtain ⟨v, rfl, fv, q⟩ := h
    refine ⟨_, (pss_cons (ps_if (pt_not (pt_val (pe_callB (call_isiTK (K := K) rfl) (by rfl) B.isinstance (by decide +kernel) (pa_cons (pv 0) (pa_cons (pe_tup (pa_cons (pe_bltn (v := .ty "list") (by rfl) B.list_ (by decide +kernel) rfl) (pa_cons (pe_bltn (v := .ty "tuple") (by rfl) B.tuple_ (by decide +kernel) rfl) pa_nil))) pa_nil)))))
      (pss_one (ps_ret (pv 0)))
      pss_nil)
      pss_dead), ?_⟩
    walk_at "u"
    refine ⟨v, rfl, by show 2 ≤ sizeLine; decide, fun p hp => r_isRowF upd_same fv ⟨_, rfl, iteT ⟨v, rfl, q _ (same_new hp)⟩⟩⟩
def checkN (v : V) (least : Int) : Res Int := match v with
  | .int i => if i < least then .num (.int i) else .ok i
  | v => .num (toD v)
def gInt : Int → V → Hp → Prop := fun i v _ => v = .int i
def spCheckN (K : PySem.W.Frag) (C N : Addr) : Sp := fun vs H Q E => ∃ v least, vs = [v, .int least] ∧ flat v = true ∧ OutR K C N H gInt (checkN v least) Q E
theorem ok_check_number {f : Addr} {fd : FuncData} (B : Bi mg) (T : BadF "BadRow" P w K mg base) (N : BadF "BadNumber" P w K mg base) (F : Fun K "check_number" "check_number" s_check_number f fd)
    (Cis_int : Cal P w K mg base CX0 1 "is_int" p_is_int (spIsInt K)) (Cplain_form : Cal P w K mg base CX0 1 "plain_form" p_plain_form (spPlain K)) : FnOk P w K mg base (L2.CX P w) 3 f fd p_check_number (spCheckN K T.C N.C) := by
  refine F.okX sc_check_number (fun vs H Q E h => ?_) (fun cdv A outer s H vs Q E hr h => ?_)
  · obtain ⟨v, least, rfl, _⟩ := h
    rfl
  · obtain ⟨v, least, rfl, fv, q⟩ := h
    refine ⟨_, (pss_cons (ps_if (PW.pt (pw_or (pt_not (pt_val (pe_call Cis_int.G (hr.mono (by decide)) (by rfl) Cis_int.g Cis_int.kp Cis_int.b .nil pass0 (pa_cons (pv 0) pa_nil)))) (pw_or1 (pt_cmpR op_lt (pv 0) (pv 1) (nomark _)))))
      (pss_one (ps_raise rfl (takes_of (E := E) rfl rfl rfl rfl) (pmk_bad N hr (by decide) (pa_cons (pe_call Cplain_form.G (hr.mono (by decide)) (by rfl) Cplain_form.g Cplain_form.kp Cplain_form.b .nil pass0 (pa_cons (pv 0) pa_nil)) pa_nil))))
      pss_nil)
      (pss_one (ps_ret (pv 0)))), ?_⟩
    walk_at "u"
    refine ⟨v, rfl, v, rfl, .flat fv, _, rfl, ?_⟩
    have bad : OutR K T.C N.C H gInt (.num (toD v)) Q E → spPlain K [v] H (fun y H1 => ∃ x, y = x ∧ True) E0 := fun _ => ⟨v, rfl, fv, fun _ _ => ⟨_, rfl, trivial⟩⟩
    clear bad
    cases v with
    | int i =>
      refine iteF ⟨_, rfl, _, rfl, _, _, rfl, rfl, _, rfl, ?_⟩
      have q' : OutR K T.C N.C H gInt (if i < least then .num (.int i) else .ok i) Q E := q
      by_cases c : i < least
      · rw [if_pos c] at q'
        rw [decide_eq_true c]
        exact iteT ⟨_, rfl, _, rfl, fv, fun H1 s1 => ⟨_, rfl, fun d hd => q' d _ _ (s1.trans (same_new hd)) upd_same (.int i)⟩⟩
      · rw [if_neg c] at q'
        rw [decide_eq_false c]
        exact iteF ⟨_, rfl, q' _ H (Same.refl H) rfl⟩
    | non => exact iteT ⟨_, rfl, _, rfl, fv, fun H1 s1 => ⟨_, rfl, fun d hd => q d _ _ (s1.trans (same_new hd)) upd_same .non⟩⟩
    | bl b => exact iteT ⟨_, rfl, _, rfl, fv, fun H1 s1 => ⟨_, rfl, fun d hd => q d _ _ (s1.trans (same_new hd)) upd_same (.bl b)⟩⟩
    | str z => exact iteT ⟨_, rfl, _, rfl, fv, fun H1 s1 => ⟨_, rfl, fun d hd => q d _ _ (s1.trans (same_new hd)) upd_same (.str z)⟩⟩
    | byt _ => cases fv
    | flt _ => cases fv
    | ref _ => cases fv
    | ty _ => cases fv
/-- the sizes of numbers that the walks allow -/
def sm (i : Int) : Prop := i.natAbs < 2 ^ 400
def smL (xs : List V) : Prop := ∀ i, V.int i ∈ xs → sm i
def spWrong (K : PySem.W.Frag) : Sp := fun vs H Q _ => ∃ v o, vs = [v] ∧ RowA K H v o ∧ ∀ H', Same H H' → Q (wrongF o) H'
theorem ok_wrong_fence_part {f : Addr} {fd : FuncData} (B : Bi mg) (F : Fun K "wrong_fence_part" "wrong_fence_part" s_wrong_fence_part f fd)
    (Cis_int : Cal P w K mg base CX0 1 "is_int" p_is_int (spIsInt K)) : FnOk P w K mg base CX0 2 f fd p_wrong_fence_part (spWrong K) := by
  refine F.ok sc_wrong_fence_part (fun vs H Q E h => ?_) (fun cdv A outer s H vs Q E hr h => ?_)
  · obtain ⟨v, o, rfl, _⟩ := h
    rfl
  · obtain ⟨v, o, rfl, ra, q⟩ := h
    refine ⟨_, (pss_cons (ps_if (PW.pt (pw_or (pt_not (pt_val (pe_callB (call_isiTK (K := K) rfl) (by rfl) B.isinstance (by decide +kernel) (pa_cons (pv 0) (pa_cons (pe_tup (pa_cons (pe_bltn (v := .ty "tuple") (by rfl) B.tuple_ (by decide +kernel) rfl) (pa_cons (pe_bltn (v := .ty "list") (by rfl) B.list_ (by decide +kernel) rfl) pa_nil))) pa_nil))))) (pw_or1 (pt_cmpR op_ne (pe_callB (call_lenK (K := K) rfl) (by rfl) B.len PySem.boot_len (pa_cons (pv 0) pa_nil)) pe_int (nomark _)))))
      (pss_one (ps_ret (pe_un un_neg pe_int)))
      pss_nil)
      (pss_cons (ps_asg (pv 0) (pg_seq rfl (pgs_cons (pg_name (i := 1) sc_wrong_fence_part.nd rfl (by first | exact .inl rfl | exact .inr rfl)) (pgs_cons (pg_name (i := 2) sc_wrong_fence_part.nd rfl (by first | exact .inl rfl | exact .inr rfl)) (pgs_cons (pg_name (i := 3) sc_wrong_fence_part.nd rfl (by first | exact .inl rfl | exact .inr rfl)) pgs_nil)))))
      (pss_cons (ps_if (pt_not (pt_val (pe_call Cis_int.G (hr.mono (by decide)) (by rfl) Cis_int.g Cis_int.kp Cis_int.b .nil pass0 (pa_cons (pv 1) pa_nil))))
      (pss_one (ps_ret pe_int))
      pss_nil)
      (pss_cons (ps_if (PW.pt (pw_or (pt_not (pt_val (pe_call Cis_int.G (hr.mono (by decide)) (by rfl) Cis_int.g Cis_int.kp Cis_int.b .nil pass0 (pa_cons (pv 2) pa_nil)))) (pw_or1 (pt_cmpR op_lt (pv 2) (pv 1) (nomark _)))))
      (pss_one (ps_ret pe_int))
      pss_nil)
      (pss_cons (ps_if (PW.pt (pw_or (pt_not (pt_val (pe_call Cis_int.G (hr.mono (by decide)) (by rfl) Cis_int.g Cis_int.kp Cis_int.b .nil pass0 (pa_cons (pv 3) pa_nil)))) (pw_or1 (pt_cmpR op_lt (pv 3) pe_int (nomark _)))))
      (pss_one (ps_ret pe_int))
      pss_nil)
      (pss_cons (ps_if (pt_cmpR op_eq (pv 3) pe_int (nomark _))
      (pss_one (ps_ret (pe_ifExp (pt_cmpR op_eq (pv 1) (pv 2) (nomark _)) pe_non pe_int)))
      pss_nil)
      (pss_one (ps_ret (pe_ifExp (PW.pt (pw_and (pt_cmpR op_lt (pv 1) (pv 2) (nomark _)) (pw_and1 (pt_cmpR op_eq (pe_op op_mod (pe_op op_sub (pv 2) (pv 1)) (pv 3)) pe_int (nomark _))))) pe_non pe_int))))))))), ?_⟩
    walk_at "u"
    refine ⟨v, rfl, by show 2 ≤ sizeLine; decide, fun p hp => ?_⟩
    have sm1 : Same H (upd H p (.tup [.ty "tuple", .ty "list"])) := same_new hp
    refine r_isRowA upd_same (ra.same sm1) ⟨_, rfl, ?_⟩
    cases o with
    | none => exact iteT ⟨1, rfl, q _ sm1⟩
    | some xs =>
      have ra1 := ra.same sm1
      obtain ⟨fx, lx⟩ := ra.flat
      refine iteF ⟨v, rfl, r_lenOf ra1 ⟨rfl, _, rfl, ?_⟩⟩
      by_cases hl : xs.length = 3
      · have e : decide (V.int ((xs.length : Nat) : Int) = V.int 3) = true := by rw [hl]; rfl
        rw [e]
        obtain ⟨lo, hi, st, rfl⟩ : ∃ lo hi st, xs = [lo, hi, st] := by
          match xs, hl with
          | [a, b, c], _ => exact ⟨a, b, c, rfl⟩
        have f0 : flat lo = true ∧ flat hi = true ∧ flat st = true := by simpa using fx
        obtain ⟨f1, f2, f3⟩ := f0
        have q' := q _ sm1
        refine iteF ⟨v, rfl, ?_⟩
        refine r_seq ra1 rfl ?_
        walk_at "u"
        refine ⟨_, _, rfl, _, _, rfl, _, _, rfl, rfl, ?_⟩
        walk_at "u"
        refine ⟨lo, rfl, lo, rfl, .flat f1, _, rfl, ?_⟩
        have q0 : Q (wrongL hi st lo) (upd H p (.tup [.ty "tuple", .ty "list"])) := q'
        clear q'
        generalize upd H p (.tup [.ty "tuple", .ty "list"]) = H1 at q0 ⊢
        clear ra ra1 sm1 q fx lx hl e
        cases lo with
        | int lo =>
          refine iteF ⟨hi, rfl, hi, rfl, .flat f2, _, rfl, ?_⟩
          cases hi with
          | int hi =>
            have q1 : Q (if hi < lo then V.int 1 else wrongS lo hi st) H1 := q0
            refine iteF ⟨_, rfl, _, rfl, _, _, rfl, rfl, _, rfl, ?_⟩
            by_cases c : hi < lo
            · rw [if_pos c] at q1
              rw [decide_eq_true c]
              refine iteT ?_
              exact q1
            · rw [if_neg c] at q1
              rw [decide_eq_false c]
              refine iteF ⟨st, rfl, st, rfl, .flat f3, _, rfl, ?_⟩
              cases st with
              | int st =>
                have q2 : Q (if st < 0 then V.int 2 else if st = 0 then (if lo = hi then .non else .int 2) else if lo < hi ∧ (hi - lo) % st = 0 then .non else .int 2) H1 := q1
                refine iteF ⟨_, rfl, _, _, rfl, rfl, _, rfl, ?_⟩
                by_cases c2 : st < 0
                · rw [if_pos c2] at q2
                  rw [decide_eq_true c2]
                  exact iteT q2
                · rw [if_neg c2] at q2
                  rw [decide_eq_false c2]
                  refine iteF ⟨_, rfl, rfl, _, rfl, ?_⟩
                  by_cases c3 : st = 0
                  · rw [if_pos c3] at q2
                    rw [c3]
                    refine iteT ⟨_, rfl, _, rfl, rfl, _, rfl, ?_⟩
                    by_cases c4 : lo = hi
                    · rw [if_pos c4] at q2
                      rw [c4]
                      exact ifT (decide_eq_true rfl) q2
                    · rw [if_neg c4] at q2
                      exact ifF (decide_eq_false fun z => c4 (V.int.inj z)) q2
                  · rw [if_neg c3] at q2
                    refine ifF (decide_eq_false fun z => c3 (V.int.inj z)) ?_
                    refine ⟨_, rfl, _, rfl, _, _, rfl, rfl, _, rfl, ?_⟩
                    by_cases c5 : lo < hi
                    · refine ifT (decide_eq_true c5) ⟨_, rfl, _, rfl, _, _, rfl, rfl, _, rfl, _, _, rfl, rfl, by omega, rfl, _, rfl, ?_⟩
                      by_cases c6 : (hi - lo) % st = 0
                      · rw [if_pos ⟨c5, c6⟩] at q2
                        exact ifT (decide_eq_true (by rw [c6])) q2
                      · rw [if_neg fun z => c6 z.2] at q2
                        exact ifF (decide_eq_false fun z => c6 (V.int.inj z)) q2
                    · rw [if_neg fun z => c5 z.1] at q2
                      exact ifF (decide_eq_false c5) (iteF q2)
              | _ => exact iteT (iteT q1)
          | _ => exact iteT (iteT q0)
        | _ => exact iteT q0
      · have e : decide (V.int ((xs.length : Nat) : Int) = V.int 3) = false := decide_eq_false fun z => hl (by have := V.int.inj z; omega)
        rw [e]
        have q' := q _ sm1
        rw [wrongF_len hl] at q'
        exact iteT ⟨1, rfl, q'⟩
end
end K68

namespace K68
open PySem PySem.Spec PyProof.Rows L2 KR KK
/-! ### fences in plain Lean -/
structure Fen where
  lo : Int
  hi : Int
  st : Int
def Fen.V (f : Fen) : List V := [.int f.lo, .int f.hi, .int f.st]
def gcdI (a b : Int) : Int := ((Nat.gcd a.natAbs b.natAbs : Nat) : Int)
theorem dvd_gcdI {d a b : Int} : d ∣ gcdI a b ↔ d ∣ a ∧ d ∣ b := by
  have e : gcdI a b = ((Int.gcd a b : Nat) : Int) := rfl
  rw [e]
  constructor
  · intro h
    exact ⟨Int.dvd_trans h (Int.gcd_dvd_left ..), Int.dvd_trans h (Int.gcd_dvd_right ..)⟩
  · rintro ⟨h1, h2⟩
    exact Int.dvd_coe_gcd h1 h2
theorem gcdI_nn (a b : Int) : 0 ≤ gcdI a b := Int.natCast_nonneg _
theorem eq_of_dvd {a b : Int} (ha : 0 ≤ a) (hb : 0 ≤ b) (h1 : a ∣ b) (h2 : b ∣ a) : a = b := by
  have h := Nat.dvd_antisymm (Int.natAbs_dvd_natAbs.mpr h1) (Int.natAbs_dvd_natAbs.mpr h2)
  omega
/-- two numbers with the same divisors -/
theorem eq_of_div {a b : Int} (ha : 0 ≤ a) (hb : 0 ≤ b) (h : ∀ d, d ∣ a ↔ d ∣ b) : a = b := eq_of_dvd ha hb ((h a).mp (Int.dvd_refl a)) ((h b).mpr (Int.dvd_refl b))
def Fen.ok (f : Fen) : Prop := 0 ≤ f.st ∧ f.lo ≤ f.hi ∧ f.st ∣ f.hi - f.lo ∧ (f.lo = f.hi → f.st = 0)
def Fen.mem (f : Fen) (v : Int) : Prop := f.lo ≤ v ∧ v ≤ f.hi ∧ f.st ∣ v - f.lo
theorem Fen.ok.st0 {f : Fen} (h : f.ok) (e : f.st = 0) : f.lo = f.hi := by
  have := h.2.2.1
  rw [e] at this
  have := Int.zero_dvd.mp this
  omega
theorem Fen.ok.stp {f : Fen} (h : f.ok) (e : f.lo < f.hi) : 0 < f.st := by
  have h0 := h.1
  have h1 := h.st0
  omega
theorem Fen.ok.mlo {f : Fen} (h : f.ok) : f.mem f.lo := ⟨Int.le_refl _, h.2.1, by rw [Int.sub_self]; exact Int.dvd_zero _⟩
theorem Fen.ok.mhi {f : Fen} (h : f.ok) : f.mem f.hi := ⟨h.2.1, Int.le_refl _, h.2.2.1⟩
theorem Fen.ok.st_le {f : Fen} (h : f.ok) : f.st ≤ f.hi - f.lo := by
  by_cases e : f.lo = f.hi
  · have := h.2.2.2 e
    omega
  · have h2 := h.2.1
    exact Int.le_of_dvd (by omega) h.2.2.1
theorem within_iff {a b : Fen} (ha : a.ok) (hb : b.ok) : (∀ v, a.mem v → b.mem v) ↔ b.mem a.lo ∧ b.mem a.hi ∧ b.st ∣ a.st := by
  constructor
  · intro h
    refine ⟨h _ ha.mlo, h _ ha.mhi, ?_⟩
    by_cases e : a.lo = a.hi
    · rw [ha.2.2.2 e]; exact Int.dvd_zero _
    · have h2 := ha.2.1
      have h3 := ha.st_le
      have h4 := ha.1
      have m : a.mem (a.lo + a.st) := ⟨by omega, by omega, by rw [Int.add_comm, Int.add_sub_cancel]; exact Int.dvd_refl _⟩
      have d1 := (h _ m).2.2
      have d2 := (h _ ha.mlo).2.2
      have d3 := Int.dvd_sub d1 d2
      have e2 : a.lo + a.st - b.lo - (a.lo - b.lo) = a.st := by omega
      rw [e2] at d3
      exact d3
  · rintro ⟨⟨h1, h2, h3⟩, ⟨h4, h5, h6⟩, h7⟩ v ⟨v1, v2, v3⟩
    refine ⟨by omega, by omega, ?_⟩
    have d := Int.dvd_add (Int.dvd_trans h7 v3) h3
    have e : v - a.lo + (a.lo - b.lo) = v - b.lo := by omega
    rw [e] at d
    exact d
theorem fen_ext {a b : Fen} (ha : a.ok) (hb : b.ok) (h : ∀ v, a.mem v ↔ b.mem v) : a = b := by
  obtain ⟨⟨x1, x2, x3⟩, ⟨x4, x5, x6⟩, x7⟩ := (within_iff ha hb).mp fun v => (h v).mp
  obtain ⟨⟨y1, y2, y3⟩, ⟨y4, y5, y6⟩, y7⟩ := (within_iff hb ha).mp fun v => (h v).mpr
  obtain ⟨al, ah, as⟩ := a
  obtain ⟨bl, bh, bs⟩ := b
  have e3 : as = bs := eq_of_dvd ha.1 hb.1 y7 x7
  have e1 : al = bl := by simp only at x1 y1; omega
  have e2 : ah = bh := by simp only at x5 y5; omega
  rw [e1, e2, e3]
/-- the fence of a set of numbers -/
def IsSet (P : Int → Prop) : Option Fen → Prop
  | none => ∀ v, ¬ P v
  | some m => m.ok ∧ ∀ v, m.mem v ↔ P v
theorem isSet_uniq {P : Int → Prop} {o o' : Option Fen} (h : IsSet P o) (h' : IsSet P o') : o = o' := by
  cases o with
  | none =>
    cases o' with
    | none => rfl
    | some m => exact absurd ((h'.2 _).mp h'.1.mlo) (h _)
  | some m =>
    cases o' with
    | none => exact absurd ((h.2 _).mp h.1.mlo) (h' _)
    | some m' => rw [fen_ext h.1 h'.1 fun v => (h.2 v).trans (h'.2 v).symm]
theorem isSet_congr {P P' : Int → Prop} {o : Option Fen} (e : ∀ v, P v ↔ P' v) (h : IsSet P o) : IsSet P' o := by
  cases o with
  | none => exact fun v z => h v ((e v).mpr z)
  | some m => exact ⟨h.1, fun v => (h.2 v).trans (e v)⟩
abbrev IsMet (a b : Fen) (o : Option Fen) : Prop := IsSet (fun v => a.mem v ∧ b.mem v) o
/-! ### the answers -/
def eitherF (a b : Fen) : Fen := ⟨min a.lo b.lo, max a.hi b.hi, gcdI (gcdI a.st b.st) (b.lo - a.lo)⟩
def behindF (a b : Fen) : Fen := ⟨a.lo + b.lo, a.hi + b.hi, gcdI a.st b.st⟩
def timesF (k : Int) (a : Fen) : Fen := ⟨k * a.lo, k * a.hi, a.st⟩
def sizeF (a : Fen) : Int := if a.st = 0 then 1 else (a.hi - a.lo) / a.st + 1
def hasF (f : Fen) (v : Int) : Bool := if f.st = 0 then decide (v = f.lo) else decide (f.lo ≤ v) && decide (v ≤ f.hi) && decide ((v - f.lo) % f.st = 0)
theorem hasF_mem {f : Fen} (h : f.ok) (v : Int) : hasF f v = true ↔ f.mem v := by
  unfold hasF Fen.mem
  by_cases e : f.st = 0
  · have e2 := h.st0 e
    rw [if_pos e, e]
    constructor
    · intro z
      have z := of_decide_eq_true z
      refine ⟨by omega, by omega, ?_⟩
      rw [z, Int.sub_self]
      exact Int.dvd_refl _
    · rintro ⟨z1, z2, z3⟩
      exact decide_eq_true (by omega)
  · rw [if_neg e, Bool.and_eq_true, Bool.and_eq_true, decide_eq_true_iff, decide_eq_true_iff, decide_eq_true_iff, ← Int.dvd_iff_emod_eq_zero]
    exact ⟨fun ⟨⟨x, y⟩, z⟩ => ⟨x, y, z⟩, fun ⟨x, y, z⟩ => ⟨⟨x, y⟩, z⟩⟩
theorem dvd_either {a b : Fen} {d : Int} : d ∣ (eitherF a b).st ↔ d ∣ a.st ∧ d ∣ b.st ∧ d ∣ b.lo - a.lo := by
  show d ∣ gcdI (gcdI a.st b.st) (b.lo - a.lo) ↔ _
  rw [dvd_gcdI, dvd_gcdI, and_assoc]
theorem dvd_flip {d x y : Int} (h : d ∣ x - y) : d ∣ y - x := by
  have := Int.dvd_neg.mpr h
  have e : -(x - y) = y - x := by omega
  rw [e] at this
  exact this
theorem dvd_tri {d x y z : Int} (h : d ∣ x - y) (g : d ∣ y - z) : d ∣ x - z := by
  have := Int.dvd_add h g
  have e : x - y + (y - z) = x - z := by omega
  rw [e] at this
  exact this
theorem either_ok {a b : Fen} (ha : a.ok) (hb : b.ok) : (eitherF a b).ok := by
  obtain ⟨d1, d2, d3⟩ := dvd_either.mp (Int.dvd_refl (eitherF a b).st)
  have a2 := ha.2.1
  have b2 := hb.2.1
  refine ⟨gcdI_nn _ _, by show min a.lo b.lo ≤ max a.hi b.hi; omega, ?_, fun e => ?_⟩
  · show _ ∣ max a.hi b.hi - min a.lo b.lo
    have x1 := Int.dvd_trans d1 ha.2.2.1
    have x2 := Int.dvd_trans d2 hb.2.2.1
    have x3 := dvd_flip d3
    have x4 := dvd_tri x1 x3
    have x5 := dvd_tri x2 d3
    rcases Int.le_total a.hi b.hi with h | h <;> rcases Int.le_total a.lo b.lo with g | g
    · rw [Int.max_eq_right h, Int.min_eq_left g]; exact x5
    · rw [Int.max_eq_right h, Int.min_eq_right g]; exact x2
    · rw [Int.max_eq_left h, Int.min_eq_left g]; exact x1
    · rw [Int.max_eq_left h, Int.min_eq_right g]; exact x4
  · have e' : min a.lo b.lo = max a.hi b.hi := e
    have z1 := ha.2.2.2 (by omega)
    have z2 := hb.2.2.2 (by omega)
    have z3 : b.lo - a.lo = 0 := by omega
    show gcdI (gcdI a.st b.st) (b.lo - a.lo) = 0
    rw [z1, z2, z3]
    rfl
theorem behind_ok {a b : Fen} (ha : a.ok) (hb : b.ok) : (behindF a b).ok := by
  obtain ⟨d1, d2⟩ := dvd_gcdI.mp (Int.dvd_refl (gcdI a.st b.st))
  have a2 := ha.2.1
  have b2 := hb.2.1
  refine ⟨gcdI_nn _ _, by show a.lo + b.lo ≤ a.hi + b.hi; omega, ?_, fun e => ?_⟩
  · show gcdI a.st b.st ∣ a.hi + b.hi - (a.lo + b.lo)
    have := Int.dvd_add (Int.dvd_trans d1 ha.2.2.1) (Int.dvd_trans d2 hb.2.2.1)
    have e : a.hi - a.lo + (b.hi - b.lo) = a.hi + b.hi - (a.lo + b.lo) := by omega
    rw [e] at this
    exact this
  · have e' : a.lo + b.lo = a.hi + b.hi := e
    show gcdI a.st b.st = 0
    rw [ha.2.2.2 (by omega), hb.2.2.2 (by omega)]
    rfl
theorem times_ok {a : Fen} {k : Int} (hk : 1 ≤ k) (ha : a.ok) : (timesF k a).ok := by
  have a2 := ha.2.1
  have e : k * a.hi - k * a.lo = k * (a.hi - a.lo) := by rw [Int.mul_sub]
  refine ⟨ha.1, ?_, ?_, fun z => ha.2.2.2 ?_⟩
  · exact Int.mul_le_mul_of_nonneg_left a2 (by omega)
  · show a.st ∣ k * a.hi - k * a.lo
    rw [e]
    exact Int.dvd_trans ha.2.2.1 (Int.dvd_mul_left _ _)
  · have z' : k * a.lo = k * a.hi := z
    exact Int.eq_of_mul_eq_mul_left (by omega) z'
/-! ### laws -/
theorem Fen.ext3 {a b : Fen} (h1 : a.lo = b.lo) (h2 : a.hi = b.hi) (h3 : a.st = b.st) : a = b := by
  obtain ⟨_, _, _⟩ := a
  obtain ⟨_, _, _⟩ := b
  simp only at h1 h2 h3
  rw [h1, h2, h3]
theorem either_within {a b : Fen} (ha : a.ok) (hb : b.ok) : eitherF a b = b ↔ ∀ v, a.mem v → b.mem v := by
  rw [within_iff ha hb]
  have a2 := ha.2.1
  have b2 := hb.2.1
  constructor
  · intro e
    obtain ⟨d1, d2, d3⟩ := dvd_either.mp (Int.dvd_refl (eitherF a b).st)
    have el : min a.lo b.lo = b.lo := congrArg Fen.lo e
    have eh : max a.hi b.hi = b.hi := congrArg Fen.hi e
    rw [e] at d1 d3
    have d3' := dvd_flip d3
    exact ⟨⟨by omega, by omega, d3'⟩, ⟨by omega, by omega, dvd_tri (Int.dvd_trans d1 ha.2.2.1) d3'⟩, d1⟩
  · rintro ⟨⟨h1, h2, h3⟩, ⟨h4, h5, h6⟩, h7⟩
    refine Fen.ext3 (by show min a.lo b.lo = b.lo; omega) (by show max a.hi b.hi = b.hi; omega) ?_
    refine eq_of_div (gcdI_nn _ _) hb.1 fun d => ?_
    have := @dvd_either a b d
    rw [this]
    exact ⟨fun z => z.2.1, fun z => ⟨Int.dvd_trans z h7, z, dvd_flip (Int.dvd_trans z h3)⟩⟩
theorem met_within {a b : Fen} {o : Option Fen} (ha : a.ok) (h : IsMet a b o) : o = some a ↔ ∀ v, a.mem v → b.mem v := by
  constructor
  · intro e v hv
    subst e
    exact ((h.2 v).mp hv).2
  · intro g
    exact isSet_uniq h (o' := some a) ⟨ha, fun v => ⟨fun z => ⟨z, g v z⟩, fun z => z.1⟩⟩
theorem either_assoc {a b c : Fen} : eitherF (eitherF a b) c = eitherF a (eitherF b c) := by
  refine Fen.ext3 (by show min (min a.lo b.lo) c.lo = min a.lo (min b.lo c.lo); omega) (by show max (max a.hi b.hi) c.hi = max a.hi (max b.hi c.hi); omega) ?_
  refine eq_of_div (gcdI_nn _ _) (gcdI_nn _ _) fun d => ?_
  rw [dvd_either, dvd_either, dvd_either, dvd_either]
  show (d ∣ a.st ∧ d ∣ b.st ∧ d ∣ b.lo - a.lo) ∧ d ∣ c.st ∧ d ∣ c.lo - min a.lo b.lo ↔ d ∣ a.st ∧ (d ∣ b.st ∧ d ∣ c.st ∧ d ∣ c.lo - b.lo) ∧ d ∣ min b.lo c.lo - a.lo
  constructor
  · rintro ⟨⟨h1, h2, h3⟩, h4, h5⟩
    have x : d ∣ c.lo - b.lo ∧ d ∣ c.lo - a.lo := by
      rcases Int.le_total a.lo b.lo with g | g
      · rw [Int.min_eq_left g] at h5
        exact ⟨dvd_tri h5 (dvd_flip h3), h5⟩
      · rw [Int.min_eq_right g] at h5
        exact ⟨h5, dvd_tri h5 h3⟩
    refine ⟨h1, ⟨h2, h4, x.1⟩, ?_⟩
    rcases Int.le_total b.lo c.lo with g | g
    · rw [Int.min_eq_left g]; exact h3
    · rw [Int.min_eq_right g]; exact x.2
  · rintro ⟨h1, ⟨h2, h4, h5⟩, h3⟩
    have x : d ∣ b.lo - a.lo ∧ d ∣ c.lo - a.lo := by
      rcases Int.le_total b.lo c.lo with g | g
      · rw [Int.min_eq_left g] at h3
        exact ⟨h3, dvd_tri h5 h3⟩
      · rw [Int.min_eq_right g] at h3
        exact ⟨dvd_tri (dvd_flip h5) h3, h3⟩
    refine ⟨⟨h1, h2, x.1⟩, h4, ?_⟩
    rcases Int.le_total a.lo b.lo with g | g
    · rw [Int.min_eq_left g]; exact x.2
    · rw [Int.min_eq_right g]; exact h5
theorem behind_either {a b c : Fen} : behindF (eitherF a b) c = eitherF (behindF a c) (behindF b c) := by
  refine Fen.ext3 (by show min a.lo b.lo + c.lo = min (a.lo + c.lo) (b.lo + c.lo); omega) (by show max a.hi b.hi + c.hi = max (a.hi + c.hi) (b.hi + c.hi); omega) ?_
  refine eq_of_div (gcdI_nn _ _) (gcdI_nn _ _) fun d => ?_
  show d ∣ gcdI (eitherF a b).st c.st ↔ _
  rw [dvd_gcdI, dvd_either, dvd_either]
  show _ ↔ d ∣ gcdI a.st c.st ∧ d ∣ gcdI b.st c.st ∧ d ∣ b.lo + c.lo - (a.lo + c.lo)
  have e : b.lo + c.lo - (a.lo + c.lo) = b.lo - a.lo := by omega
  rw [e, dvd_gcdI, dvd_gcdI]
  exact ⟨fun ⟨⟨h1, h2, h3⟩, h4⟩ => ⟨⟨h1, h4⟩, ⟨h2, h4⟩, h3⟩, fun ⟨⟨h1, h4⟩, ⟨h2, _⟩, h3⟩ => ⟨⟨h1, h2, h3⟩, h4⟩⟩
theorem gcdI_self {a : Int} (h : 0 ≤ a) : gcdI a a = a := eq_of_div (gcdI_nn _ _) h fun d => by rw [dvd_gcdI]; exact ⟨fun z => z.1, fun z => ⟨z, z⟩⟩
theorem behind_times {a : Fen} {j k : Int} (ha : a.ok) : behindF (timesF j a) (timesF k a) = timesF (j + k) a :=
  Fen.ext3 (by show j * a.lo + k * a.lo = (j + k) * a.lo; rw [Int.add_mul]) (by show j * a.hi + k * a.hi = (j + k) * a.hi; rw [Int.add_mul]) (gcdI_self ha.1)
/-- three met, in two orders -/
def met3 (P : Int → Prop) (o1 o2 : Option Fen) (c : Fen) : Prop := IsSet P o1 ∧ match o1 with
  | none => o2 = none
  | some m => IsMet m c o2
theorem met3_set {P : Int → Prop} {o1 o2 : Option Fen} {c : Fen} (h : met3 P o1 o2 c) : IsSet (fun v => P v ∧ c.mem v) o2 := by
  obtain ⟨h1, h2⟩ := h
  cases o1 with
  | none =>
    have e : o2 = none := h2
    subst e
    exact fun v z => h1 v z.1
  | some m =>
    have h2' : IsMet m c o2 := h2
    exact isSet_congr (fun v => by rw [h1.2 v]) h2'
/-! ### the common numbers -/
theorem met_none {a b : Fen} {g : Int} (h1 : g ∣ a.st) (h2 : g ∣ b.st) (h : ¬ g ∣ b.lo - a.lo) : IsMet a b none := fun v ⟨x, y⟩ => h (dvd_tri (dvd_flip (Int.dvd_trans h2 y.2.2)) (Int.dvd_trans h1 x.2.2))
/-- x solves both steps: the common numbers stand at x by whole -/
theorem met_dvd {a b : Fen} {x whole : Int} (hx1 : a.st ∣ x - a.lo) (hx2 : b.st ∣ x - b.lo) (hw : ∀ d, whole ∣ d ↔ a.st ∣ d ∧ b.st ∣ d) (v : Int) : (a.mem v ∧ b.mem v) ↔ (max a.lo b.lo ≤ v ∧ v ≤ min a.hi b.hi ∧ whole ∣ v - x) := by
  rw [hw]
  constructor
  · rintro ⟨⟨p1, p2, p3⟩, ⟨q1, q2, q3⟩⟩
    exact ⟨by omega, by omega, dvd_tri p3 (dvd_flip hx1), dvd_tri q3 (dvd_flip hx2)⟩
  · rintro ⟨p1, p2, p3, p4⟩
    exact ⟨⟨by omega, by omega, dvd_tri p3 hx1⟩, ⟨by omega, by omega, dvd_tri p4 hx2⟩⟩
theorem le_of_cong {w v f low : Int} (hw : 0 < w) (h1 : w ∣ v - f) (h2 : low ≤ v) (h3 : f < low + w) : f ≤ v := by
  obtain ⟨k, e⟩ := h1
  by_cases hk : k < 0
  · have : w * k ≤ w * (-1) := Int.mul_le_mul_of_nonneg_left (by omega) (by omega)
    omega
  · have : 0 ≤ w * k := Int.mul_nonneg (by omega) (by omega)
    omega
theorem met_over {a b : Fen} {x whole first : Int} (hx1 : a.st ∣ x - a.lo) (hx2 : b.st ∣ x - b.lo) (hw0 : 0 < whole) (hw : ∀ d, whole ∣ d ↔ a.st ∣ d ∧ b.st ∣ d) (hf : whole ∣ first - x) (hf2 : first < max a.lo b.lo + whole) (h : min a.hi b.hi < first) : IsMet a b none := fun v z => by
  obtain ⟨z1, z2, z3⟩ := (met_dvd hx1 hx2 hw v).mp z
  have := le_of_cong hw0 (dvd_tri z3 (dvd_flip hf)) z1 hf2
  omega
theorem met_some {a b : Fen} {x whole first last : Int} (hx1 : a.st ∣ x - a.lo) (hx2 : b.st ∣ x - b.lo) (hw0 : 0 < whole) (hw : ∀ d, whole ∣ d ↔ a.st ∣ d ∧ b.st ∣ d) (hf : whole ∣ first - x) (hf1 : max a.lo b.lo ≤ first) (hf2 : first < max a.lo b.lo + whole) (h : first ≤ min a.hi b.hi)
    (hl : whole ∣ last - first) (hl1 : last ≤ min a.hi b.hi) (hl2 : min a.hi b.hi < last + whole) : IsMet a b (some ⟨first, last, if first = last then 0 else whole⟩) := by
  have fl : first ≤ last := by
    obtain ⟨k, e⟩ := hl
    by_cases hk : k < 0
    · have : whole * k ≤ whole * (-1) := Int.mul_le_mul_of_nonneg_left (by omega) (by omega)
      omega
    · have : 0 ≤ whole * k := Int.mul_nonneg (by omega) (by omega)
      omega
  refine ⟨⟨?_, fl, ?_, fun e => if_pos e⟩, fun v => ?_⟩
  · show 0 ≤ if first = last then 0 else whole
    split <;> omega
  · show (if first = last then 0 else whole) ∣ last - first
    split
    · rename_i e
      rw [e, Int.sub_self]; exact Int.dvd_refl _
    · exact hl
  · show _ ↔ (a.mem v ∧ b.mem v)
    rw [met_dvd hx1 hx2 hw v]
    show (first ≤ v ∧ v ≤ last ∧ (if first = last then 0 else whole) ∣ v - first) ↔ _
    constructor
    · rintro ⟨z1, z2, z3⟩
      refine ⟨by omega, by omega, ?_⟩
      by_cases e : first = last
      · have : v = first := by omega
        rw [this]; exact hf
      · rw [if_neg e] at z3
        exact dvd_tri z3 hf
    · rintro ⟨z1, z2, z3⟩
      have c := dvd_tri z3 (dvd_flip hf)
      have c2 := dvd_tri hl (dvd_flip c)
      have z4 := le_of_cong hw0 c z1 hf2
      have z5 : v ≤ last := by
        obtain ⟨k, e⟩ := c2
        by_cases hk : k < 0
        · have : whole * k ≤ whole * (-1) := Int.mul_le_mul_of_nonneg_left (by omega) (by omega)
          omega
        · have : 0 ≤ whole * k := Int.mul_nonneg (by omega) (by omega)
          omega
      refine ⟨z4, z5, ?_⟩
      by_cases e : first = last
      · have : v = first := by omega
        rw [if_pos e, this, Int.sub_self]; exact Int.dvd_refl _
      · rw [if_neg e]; exact c
theorem crt {a b : Fen} {g r t q : Int} (hg : g ∣ a.st) (hg2 : g ∣ b.st) (g0 : 0 < g) (eq : b.lo - a.lo = g * q) (hr : b.st / g ∣ r * (a.st / g) - 1) (ht : b.st / g ∣ t - q * r) : a.st ∣ (a.lo + a.st * t) - a.lo ∧ b.st ∣ (a.lo + a.st * t) - b.lo := by
  refine ⟨?_, ?_⟩
  · rw [Int.add_comm, Int.add_sub_cancel]
    exact Int.dvd_mul_right _ _
  · obtain ⟨m, em⟩ := hg
    obtain ⟨n, en⟩ := hg2
    have e1 : a.st / g = m := by rw [em]; exact Int.mul_ediv_cancel_left _ (by omega)
    have e2 : b.st / g = n := by rw [en]; exact Int.mul_ediv_cancel_left _ (by omega)
    rw [e1, e2] at hr
    rw [e2] at ht
    have d1 : n ∣ m * (t - q * r) := Int.dvd_trans ht (Int.dvd_mul_left _ _)
    have d2 : n ∣ q * (r * m - 1) := Int.dvd_trans hr (Int.dvd_mul_left _ _)
    have d3 := Int.dvd_add d1 d2
    have e3 : m * (t - q * r) + q * (r * m - 1) = m * t - q := by
      rw [Int.mul_sub, Int.mul_sub]
      have : m * (q * r) = q * (r * m) := by rw [Int.mul_comm m, Int.mul_assoc]
      omega
    rw [e3] at d3
    have e4 : a.lo + a.st * t - b.lo = g * (m * t - q) := by
      rw [em, Int.mul_sub, ← eq, Int.mul_assoc]
      omega
    rw [e4, en]
    exact Int.mul_dvd_mul_left g d3
theorem lcm_whole {m n : Int} (hm : 0 < m) (hn : 0 < n) : ((Nat.lcm m.natAbs n.natAbs : Nat) : Int) = m / gcdI m n * n := by
  have hg := Nat.gcd_dvd_left m.natAbs n.natAbs
  have e : m / gcdI m n = ((m.natAbs / Nat.gcd m.natAbs n.natAbs : Nat) : Int) := by
    have em : m = (m.natAbs : Int) := by omega
    conv => lhs; rw [em]
    exact (Int.natCast_ediv _ _).symm
  have en : n = (n.natAbs : Int) := by omega
  rw [e]
  conv => rhs; rw [en]
  rw [Int.natAbs_natCast, ← Int.natCast_mul, Nat.div_mul_right_comm hg]
  rfl
theorem lcm_dvd_iff {m n : Int} (d : Int) : ((Nat.lcm m.natAbs n.natAbs : Nat) : Int) ∣ d ↔ m ∣ d ∧ n ∣ d := by
  rw [← Int.natAbs_dvd_natAbs, Int.natAbs_natCast, Nat.lcm_dvd_iff, Int.natAbs_dvd_natAbs, Int.natAbs_dvd_natAbs]
theorem lcm_pos {m n : Int} (hm : 0 < m) (hn : 0 < n) : 0 < ((Nat.lcm m.natAbs n.natAbs : Nat) : Int) := by
  have := Nat.lcm_pos (m := m.natAbs) (n := n.natAbs) (by omega) (by omega)
  omega
/-! ### the numbers of the walks are small -/
def Fen.sml (B : Nat) (f : Fen) : Prop := f.lo.natAbs < 2 ^ B ∧ f.hi.natAbs < 2 ^ B
theorem Fen.ok.st_sml {f : Fen} {B : Nat} (h : f.ok) (s : f.sml B) : f.st.natAbs < 2 ^ (B + 1) := by
  have h1 := h.st_le
  have h2 := h.1
  obtain ⟨s1, s2⟩ := s
  rw [Nat.pow_succ]
  omega
theorem gcdI_pos {a b : Int} (h : 0 < a) : 0 < gcdI a b := by
  have := Nat.gcd_pos_of_pos_left b.natAbs (show 0 < a.natAbs by omega)
  show (0 : Int) < ((Nat.gcd a.natAbs b.natAbs : Nat) : Int)
  omega
end K68

namespace K68
open PySem PySem.Spec PyProof.Rows L2 KR KK
local macro_rules | `(tactic| walk_at "u") => `(tactic| try dsimp only [tSeq, tCutS, tCutE, tCutT, tIfS, tRet, tRetN, tNext, tBreak, tCont, tDrop, tAsg, gName, gTup, gCons, gNil, tOr, tAnd, tNot, tB, tTest, tCB, tCons, tNil, tC, tVar, tAndV, tOrV, tNotV, tOp, tUn, tIf, tIsN, tNotN, tTup, tLst, tCall, tCallS, tBM, tBM0, tSl, tPart, tNoPart, tYes, iList, iTup, iSeq, iStr, iRng1, iRng2, iEnumA, rI, rI0, rU, cxOf, Cx.nox, Cx.wish, L2.start, List.map, List.set, Nat.repeat, List.length_cons, List.length_nil, List.replicate, List.nil_append, List.cons_append, List.append_nil, Nat.reduceAdd, Nat.reduceSub, E0, tBad, tTr])

/-! ### the checks -/
def fenOf : Option (List V) → Fen
  | some [.int lo, .int hi, .int st] => ⟨lo, hi, st⟩
  | _ => ⟨0, 0, 0⟩
def checkF (o : Option (List V)) : Res Fen := if wrongF o = .non then .ok (fenOf o) else .row (toD (wrongF o))
def checkO (o : Option (List V)) : Res Fen := if wrongF o = .non then .ok (fenOf o) else .row (.tuple [.int (-2), toD (wrongF o)])
theorem wrongF_flat (o : Option (List V)) : flat (wrongF o) = true := by
  unfold wrongF
  split
  · rename_i lo hi st
    unfold wrongL
    split
    · unfold wrongH
      split
      · split
        · rfl
        · unfold wrongS
          split
          · split
            · rfl
            · split
              · split <;> rfl
              · split <;> rfl
          · rfl
      · rfl
    · rfl
  · rfl
theorem wrongF_non {o : Option (List V)} (h : wrongF o = .non) : o = some (fenOf o).V ∧ (fenOf o).ok := by
  unfold wrongF at h
  split at h
  · rename_i lo hi st
    unfold wrongL at h
    split at h
    · rename_i lo
      unfold wrongH at h
      split at h
      · rename_i hi
        split at h
        · cases h
        · rename_i c
          unfold wrongS at h
          split at h
          · rename_i st
            split at h
            · cases h
            · rename_i c1
              refine ⟨rfl, ?_⟩
              split at h
              · rename_i c2
                split at h
                · rename_i c3
                  subst c2
                  subst c3
                  exact ⟨Int.le_refl _, Int.le_refl _, by show (0 : Int) ∣ lo - lo; rw [Int.sub_self]; exact Int.dvd_refl _, fun _ => rfl⟩
                · cases h
              · rename_i c2
                split at h
                · rename_i c3
                  refine ⟨?_, ?_, Int.dvd_of_emod_eq_zero c3.2, fun e => ?_⟩
                  · show 0 ≤ st; omega
                  · show lo ≤ hi; omega
                  · have e' : lo = hi := e
                    omega
                · cases h
          · cases h
      · cases h
    · cases h
  · cases h
theorem wrongF_good {f : Fen} (h : f.ok) : wrongF (some f.V) = .non := by
  obtain ⟨lo, hi, st⟩ := f
  obtain ⟨h1, h2, h3, h4⟩ := h
  simp only at h1 h2 h3 h4
  show (if hi < lo then V.int 1 else if st < 0 then V.int 2 else if st = 0 then (if lo = hi then V.non else .int 2) else if lo < hi ∧ (hi - lo) % st = 0 then .non else .int 2) = .non
  rw [if_neg (by omega), if_neg (by omega)]
  by_cases e : st = 0
  · rw [if_pos e]
    rw [e] at h3
    have := Int.zero_dvd.mp h3
    rw [if_pos (by omega)]
  · rw [if_neg e]
    have : lo ≠ hi := fun z => e (h4 z)
    rw [if_pos ⟨by omega, Int.emod_eq_zero_of_dvd h3⟩]
theorem checkF_good {f : Fen} (h : f.ok) : checkF (some f.V) = .ok f := by
  unfold checkF
  rw [if_pos (wrongF_good h)]
  rfl
theorem checkO_good {f : Fen} (h : f.ok) : checkO (some f.V) = .ok f := by
  unfold checkO
  rw [if_pos (wrongF_good h)]
  rfl
def gFen (K : PySem.W.Frag) : Fen → V → Hp → Prop := fun f v H => ∃ p, v = .ref p ∧ SqT K H p f.V ∧ f.ok
theorem gFen.same {K : PySem.W.Frag} {f : Fen} {v : V} {H H' : Hp} (e : Same H H') (h : gFen K f v H) : gFen K f v H' := by
  obtain ⟨p, r, h1, h2⟩ := h
  exact ⟨p, r, st_same e h1, h2⟩
theorem dp_pair {K : PySem.W.Frag} {H : Hp} {t : Addr} {a b : V} (h : SqT K H t [a, b]) (fa : flat a = true) (fb : flat b = true) : Dp K H (.ref t) (.tuple [toD a, toD b]) := .tup h (.cons (dp_flat fa) (.cons (dp_flat fb) .nil))
/-- the first that is no whole number -/
def intGo : List V → Nat → Option Nat
  | [], _ => none
  | x :: r, i => if isIntV x then intGo r (i + 1) else some i
def intsOf : List V → List Int
  | [] => []
  | .int i :: r => i :: intsOf r
  | _ :: r => intsOf r
theorem intGo_drop {xs : List V} {i : Nat} {x : V} (h : xs[i]? = some x) : intGo (xs.drop i) i = if isIntV x then intGo (xs.drop (i + 1)) (i + 1) else some i := by
  obtain ⟨hi, e⟩ := List.getElem?_eq_some_iff.mp h
  rw [List.drop_eq_getElem_cons hi, e]
  rfl
theorem intGo_none : ∀ {xs : List V} {i : Nat}, intGo xs i = none → xs = (intsOf xs).map V.int
  | [], _, _ => rfl
  | .int k :: r, i, h => by
    have h' : intGo r (i + 1) = none := h
    show _ = V.int k :: (intsOf r).map V.int
    rw [← intGo_none h']
  | .non :: _, _, h => by cases h
  | .bl _ :: _, _, h => by cases h
  | .str _ :: _, _, h => by cases h
  | .byt _ :: _, _, h => by cases h
  | .flt _ :: _, _, h => by cases h
  | .ref _ :: _, _, h => by cases h
  | .ty _ :: _, _, h => by cases h
def checkI : Option (List V) → Res (List Int)
  | none => .row (.int (-1))
  | some [] => .row (.int (-1))
  | some (x :: r) => match intGo (x :: r) 0 with
    | none => .ok (intsOf (x :: r))
    | some i => .row (.int (i : Nat))
def gInts (K : PySem.W.Frag) : List Int → V → Hp → Prop := fun ns v H => ∃ p, v = .ref p ∧ SqT K H p (ns.map V.int) ∧ ns ≠ [] ∧ ns.length ≤ 1000
section
variable {P : Program} {w : World} {K : PySem.W.Frag} {mg : Str → Option Value} {base : Heap}
def spCheckF (K : PySem.W.Frag) (C N : Addr) : Sp := fun vs H Q E => ∃ v o, vs = [v] ∧ RowA K H v o ∧ OutR K C N H (gFen K) (checkF o) Q E
theorem ok_check_fence {f : Addr} {fd : FuncData} (B : Bi mg) (T : BadF "BadRow" P w K mg base) (N : BadF "BadNumber" P w K mg base) (F : Fun K "check_fence" "check_fence" s_check_fence f fd)
    (Cwrong_fence_part : Cal P w K mg base CX0 2 "wrong_fence_part" p_wrong_fence_part (spWrong K)) : FnOk P w K mg base (L2.CX P w) 3 f fd p_check_fence (spCheckF K T.C N.C) := by
  refine F.okX sc_check_fence (fun vs H Q E h => ?_) (fun cdv A outer s H vs Q E hr h => ?_)
  · obtain ⟨v, o, rfl, _⟩ := h
    rfl
  · obtain ⟨v, o, rfl, ra, q⟩ := h
    refine ⟨_, (pss_cons (ps_set (i := 1) sc_check_fence.nd rfl (by first | exact .inl rfl | exact .inr rfl) (pe_call Cwrong_fence_part.G (hr.mono (by decide)) (by rfl) Cwrong_fence_part.g Cwrong_fence_part.kp Cwrong_fence_part.b .nil pass0 (pa_cons (pv 0) pa_nil)))
      (pss_cons (ps_if (pt_cmp (pc_notN (pv 1)))
      (pss_one (ps_raise rfl (takes_of (E := E) rfl rfl rfl rfl) (pmk_bad T hr (by decide) (pa_cons (pv 1) pa_nil))))
      pss_nil)
      (pss_one (ps_ret (pe_callTy (call_tupK (K := K) rfl) (by rfl) B.tuple_ (by decide +kernel) (pa_cons (pv 0) pa_nil)))))), ?_⟩
    walk_at "u"
    refine ⟨v, rfl, v, o, rfl, ra, fun H1 s1 => ⟨_, rfl, _, rfl, ?_⟩⟩
    unfold checkF at q
    by_cases z : wrongF o = .non
    · rw [if_pos z] at q
      rw [decide_eq_true z]
      obtain ⟨e1, e2⟩ := wrongF_non z
      rw [e1] at ra
      exact iteF ⟨v, rfl, r_tupOf (ra.same s1) fun p H2 s2 hp => q _ _ (s1.trans s2) ⟨p, rfl, hp, e2⟩⟩
    · rw [if_neg z] at q
      rw [decide_eq_false z]
      exact iteT ⟨_, rfl, _, rfl, fun d hd => q d _ _ (s1.trans (same_new hd)) upd_same (dp_flat (wrongF_flat o))⟩
theorem ok_check_other_fence {f : Addr} {fd : FuncData} (B : Bi mg) (T : BadF "BadRow" P w K mg base) (N : BadF "BadNumber" P w K mg base) (F : Fun K "check_other_fence" "check_other_fence" s_check_other_fence f fd)
    (Cwrong_fence_part : Cal P w K mg base CX0 2 "wrong_fence_part" p_wrong_fence_part (spWrong K)) : FnOk P w K mg base (L2.CX P w) 3 f fd p_check_other_fence (fun vs H Q E => ∃ v o, vs = [v] ∧ RowA K H v o ∧ OutR K T.C N.C H (gFen K) (checkO o) Q E) := by
  refine F.okX sc_check_other_fence (fun vs H Q E h => ?_) (fun cdv A outer s H vs Q E hr h => ?_)
  · obtain ⟨v, o, rfl, _⟩ := h
    rfl
  · obtain ⟨v, o, rfl, ra, q⟩ := h
    refine ⟨_, (pss_cons (ps_set (i := 1) sc_check_other_fence.nd rfl (by first | exact .inl rfl | exact .inr rfl) (pe_call Cwrong_fence_part.G (hr.mono (by decide)) (by rfl) Cwrong_fence_part.g Cwrong_fence_part.kp Cwrong_fence_part.b .nil pass0 (pa_cons (pv 0) pa_nil)))
      (pss_cons (ps_if (pt_cmp (pc_notN (pv 1)))
      (pss_one (ps_raise rfl (takes_of (E := E) rfl rfl rfl rfl) (pmk_bad T hr (by decide) (pa_cons (pe_tup (pa_cons (pe_un un_neg pe_int) (pa_cons (pv 1) pa_nil))) pa_nil))))
      pss_nil)
      (pss_one (ps_ret (pe_callTy (call_tupK (K := K) rfl) (by rfl) B.tuple_ (by decide +kernel) (pa_cons (pv 0) pa_nil)))))), ?_⟩
    walk_at "u"
    refine ⟨v, rfl, v, o, rfl, ra, fun H1 s1 => ⟨_, rfl, _, rfl, ?_⟩⟩
    unfold checkO at q
    by_cases z : wrongF o = .non
    · rw [if_pos z] at q
      rw [decide_eq_true z]
      obtain ⟨e1, e2⟩ := wrongF_non z
      rw [e1] at ra
      exact iteF ⟨v, rfl, r_tupOf (ra.same s1) fun p H2 s2 hp => q _ _ (s1.trans s2) ⟨p, rfl, hp, e2⟩⟩
    · rw [if_neg z] at q
      rw [decide_eq_false z]
      refine iteT ⟨2, rfl, _, rfl, by show 2 ≤ sizeLine; decide, fun t ht => ⟨_, rfl, fun d hd => ?_⟩⟩
      exact q d _ _ ((s1.trans (same_new ht)).trans (same_new hd)) upd_same (dp_pair (st_same (same_new hd) (SqT.of upd_same)) rfl (wrongF_flat o))
def spCheckI (K : PySem.W.Frag) (C N : Addr) : Sp := fun vs H Q E => ∃ v o, vs = [v] ∧ RowA K H v o ∧ OutR K C N H (gInts K) (checkI o) Q E
theorem ok_check_integers {f : Addr} {fd : FuncData} (B : Bi mg) (T : BadF "BadRow" P w K mg base) (N : BadF "BadNumber" P w K mg base) (F : Fun K "check_integers" "check_integers" s_check_integers f fd)
    (Cis_int : Cal P w K mg base CX0 1 "is_int" p_is_int (spIsInt K)) : FnOk P w K mg base (L2.CX P w) 3 f fd p_check_integers (spCheckI K T.C N.C) := by
  refine F.okX sc_check_integers (fun vs H Q E h => ?_) (fun cdv A outer s H vs Q E hr h => ?_)
  · obtain ⟨v, o, rfl, _⟩ := h
    rfl
  · obtain ⟨v, o, rfl, ra, q⟩ := h
    refine ⟨_, (pss_cons (ps_if (PW.pt (pw_or (pt_not (pt_val (pe_callB (call_isiTK (K := K) rfl) (by rfl) B.isinstance (by decide +kernel) (pa_cons (pv 0) (pa_cons (pe_tup (pa_cons (pe_bltn (v := .ty "tuple") (by rfl) B.tuple_ (by decide +kernel) rfl) (pa_cons (pe_bltn (v := .ty "list") (by rfl) B.list_ (by decide +kernel) rfl) pa_nil))) pa_nil))))) (pw_or1 (pt_cmpR op_eq (pe_callB (call_lenK (K := K) rfl) (by rfl) B.len PySem.boot_len (pa_cons (pv 0) pa_nil)) pe_int (nomark _)))))
      (pss_one (ps_raise rfl (takes_of (E := E) rfl rfl rfl rfl) (pmk_bad T hr (by decide) (pa_cons (pe_un un_neg pe_int) pa_nil))))
      pss_nil)
      (pss_cons (ps_for (passes_of rfl) rfl (pi_enumA (by rfl) B.enumerate (pa_cons (pv 0) pa_nil)) (pg_tup rfl (pgs_cons (pg_name (i := 1) sc_check_integers.nd rfl (by first | exact .inl rfl | exact .inr rfl)) (pgs_cons (pg_name (i := 2) sc_check_integers.nd rfl (by first | exact .inl rfl | exact .inr rfl)) pgs_nil)))
      (pss_one (ps_if (pt_not (pt_val (pe_call Cis_int.G (hr.mono (by decide)) (by rfl) Cis_int.g Cis_int.kp Cis_int.b .nil pass0 (pa_cons (pv 2) pa_nil))))
      (pss_one (ps_raise rfl (takes_of (E := E) rfl rfl rfl rfl) (pmk_bad T hr (by decide) (pa_cons (pv 1) pa_nil))))
      pss_nil)))
      (pss_one (ps_ret (pe_callTy (call_tupK (K := K) rfl) (by rfl) B.tuple_ (by decide +kernel) (pa_cons (pv 0) pa_nil)))))), ?_⟩
    walk_at "u"
    refine ⟨v, rfl, by show 2 ≤ sizeLine; decide, fun p hp => ?_⟩
    have sm1 : Same H (upd H p (.tup [.ty "tuple", .ty "list"])) := same_new hp
    refine r_isRowA upd_same (ra.same sm1) ⟨_, rfl, ?_⟩
    cases o with
    | none =>
      exact iteT (iteT ⟨1, rfl, _, rfl, fun d hd => q d _ _ (sm1.trans (same_new hd)) upd_same (.int (-1))⟩)
    | some xs =>
      obtain ⟨fx, lx⟩ := ra.flat
      refine iteF ⟨v, rfl, r_lenOf (ra.same sm1) ⟨rfl, _, rfl, ?_⟩⟩
      cases xs with
      | nil =>
        exact iteT ⟨1, rfl, _, rfl, fun d hd => q d _ _ (sm1.trans (same_new hd)) upd_same (.int (-1))⟩
      | cons x0 xr =>
        have e : decide (V.int (((x0 :: xr).length : Nat) : Int) = V.int 0) = false := decide_eq_false fun z => by
          have := V.int.inj z
          rw [List.length_cons] at this
          omega
        rw [e]
        refine iteF ?_
        obtain ⟨J, G, wk, hG, hw⟩ := rowA_enum ra
        refine t_for wk (hw _ _ rfl sm1) (fun i σ H' => Same H H' ∧ (∃ y1 y2, σ = [some v, y1, y2]) ∧ intGo (x0 :: xr) 0 = intGo ((x0 :: xr).drop i) i) ⟨sm1, ⟨_, _, rfl⟩, rfl⟩ (fun i σ H' _ p => hG H' p.1) (fun i x σ H1 H2 hi p y => ?_) (fun σ H1 p => ?_)
        · obtain ⟨sm, ⟨y1, y2, rfl⟩, ew⟩ := p
          obtain ⟨t, x1, e, rfl, nT, rfl, f1, f2⟩ := y
          cases f1
          have smT : Same H (upd H1 t (.tup [.int (i : Nat), e])) := sm.trans (same_new nT)
          refine ⟨t, [.int (i : Nat), e], rfl, .inl (.inl upd_same), rfl, _, _, rfl, _, _, rfl, rfl, ?_⟩
          walk_at "u"
          rw [intGo_drop f2] at ew
          have fe : flat e = true := List.all_eq_true.mp fx e (List.mem_of_getElem? f2)
          refine ⟨e, rfl, e, rfl, .flat fe, _, rfl, ?_⟩
          cases ei : isIntV e with
          | true =>
            rw [ei, if_pos rfl] at ew
            exact iteF ⟨smT, ⟨_, _, rfl⟩, ew⟩
          | false =>
            rw [ei, if_neg Bool.false_ne_true] at ew
            have q' : OutR K T.C N.C H (gInts K) (match intGo (x0 :: xr) 0 with
              | none => .ok (intsOf (x0 :: xr))
              | some i => .row (.int (i : Nat))) Q E := q
            rw [ew] at q'
            exact iteT ⟨_, rfl, _, rfl, fun d hd => q' d _ _ (smT.trans (same_new hd)) upd_same (.int _)⟩
        · obtain ⟨sm, ⟨y1, y2, rfl⟩, ew⟩ := p
          walk_at "u"
          rw [List.drop_length] at ew
          have q' : OutR K T.C N.C H (gInts K) (match intGo (x0 :: xr) 0 with
            | none => .ok (intsOf (x0 :: xr))
            | some i => .row (.int (i : Nat))) Q E := q
          have ew' : intGo (x0 :: xr) 0 = none := ew
          rw [ew'] at q'
          have ei := intGo_none ew'
          refine ⟨v, rfl, r_tupOf (ra.same sm) fun p2 H2 s2 hp2 => q' _ _ (sm.trans s2) ⟨p2, rfl, by rw [← ei]; exact hp2, ?_, ?_⟩⟩
          · intro z
            rw [z] at ei
            cases ei
          · have := congrArg List.length ei
            rw [List.length_map] at this
            omega
def spHolds (K : PySem.W.Frag) : Sp := fun vs H Q _ => ∃ p f v, vs = [.ref p, .int v] ∧ SqT K H p f.V ∧ f.ok ∧ Q (.bl (hasF f v)) H
theorem ok_holds_number {f : Addr} {fd : FuncData} (B : Bi mg) (F : Fun K "holds_number" "holds_number" s_holds_number f fd) : FnOk P w K mg base CX0 1 f fd p_holds_number (spHolds K) := by
  refine F.ok sc_holds_number (fun vs H Q E h => ?_) (fun cdv A outer s H vs Q E hr h => ?_)
  · obtain ⟨p, f, v, rfl, _⟩ := h
    rfl
  · obtain ⟨p, f, v, rfl, hp, fo, q⟩ := h
    obtain ⟨lo, hi, st⟩ := f
    refine ⟨_, (pss_cons (ps_asg (pv 0) (pg_tup rfl (pgs_cons (pg_name (i := 2) sc_holds_number.nd rfl (by first | exact .inl rfl | exact .inr rfl)) (pgs_cons (pg_name (i := 3) sc_holds_number.nd rfl (by first | exact .inl rfl | exact .inr rfl)) (pgs_cons (pg_name (i := 4) sc_holds_number.nd rfl (by first | exact .inl rfl | exact .inr rfl)) pgs_nil)))))
      (pss_cons (ps_if (pt_cmpR op_eq (pv 4) pe_int (nomark _))
      (pss_one (ps_ret (pe_cmpR op_eq (pv 1) (pv 2) (nomark _))))
      pss_nil)
      (pss_one (ps_ret (pe_and (pe_chain op_le op_le (pv 2) (pv 1) (pv 3)) (pe_one (pe_cmpR op_eq (pe_op op_mod (pe_op op_sub (pv 1) (pv 2)) (pv 4)) pe_int (nomark _)))))))), ?_⟩
    walk_at "u"
    refine ⟨_, rfl, p, _, rfl, hp, rfl, _, _, rfl, _, _, rfl, _, _, rfl, rfl, ?_⟩
    walk_at "u"
    have q' : Q (.bl (if st = 0 then decide (v = lo) else decide (lo ≤ v) && decide (v ≤ hi) && decide ((v - lo) % st = 0))) H := q
    have h0 : 0 ≤ st := fo.1
    refine ⟨_, rfl, rfl, _, rfl, ?_⟩
    by_cases c : st = 0
    · rw [if_pos c] at q'
      rw [c]
      refine iteT ⟨_, rfl, _, rfl, rfl, ?_⟩
      have e : decide (V.int v = V.int lo) = decide (v = lo) := by simp
      rw [e]
      exact q'
    · rw [if_neg c] at q'
      refine ifF (decide_eq_false fun z => c (V.int.inj z)) (t_rngV rfl rfl rfl ⟨_, rfl, ?_⟩)
      cases e : decide (lo ≤ v) && decide (v ≤ hi) with
      | false =>
        rw [e] at q'
        exact iteF q'
      | true =>
        rw [e] at q'
        refine iteT ⟨_, rfl, _, rfl, _, _, rfl, rfl, _, rfl, _, _, rfl, rfl, by omega, rfl, ?_⟩
        have e : decide (V.int ((v - lo) % st) = V.int 0) = decide ((v - lo) % st = 0) := by simp
        rw [e]
        exact q'
/-- min, max, the steps of a row -/
def stepGo (c : Int) : List Int → Int → Int
  | [], g => g
  | x :: r, g => stepGo c r (gcdI g (x - c))
def rowF : List Int → Fen
  | [] => ⟨0, 0, 0⟩
  | n :: ns => ⟨ns.foldl min n, ns.foldl max n, stepGo (ns.foldl min n) (n :: ns) 0⟩
theorem stepGo_drop {c g : Int} {ns : List Int} {i : Nat} {x : Int} (h : ns[i]? = some x) : stepGo c (ns.drop i) g = stepGo c (ns.drop (i + 1)) (gcdI g (x - c)) := by
  obtain ⟨hi, e⟩ := List.getElem?_eq_some_iff.mp h
  rw [List.drop_eq_getElem_cons hi, e]
  rfl
def spRowF (K : PySem.W.Frag) : Sp := fun vs H Q _ => ∃ p ns, vs = [.ref p] ∧ SqT K H p (ns.map V.int) ∧ ns ≠ [] ∧ ∀ p' H', Same H H' → SqT K H' p' (rowF ns).V → Q (.ref p') H'
theorem ok_fence_of_plain {f : Addr} {fd : FuncData} (B : Bi mg) (F : Fun K "fence_of_plain" "fence_of_plain" s_fence_of_plain f fd) : FnOk P w K mg base CX0 1 f fd p_fence_of_plain (spRowF K) := by
  refine F.ok sc_fence_of_plain (fun vs H Q E h => ?_) (fun cdv A outer s H vs Q E hr h => ?_)
  · obtain ⟨p, ns, rfl, _⟩ := h
    rfl
  · obtain ⟨p, ns, rfl, hp, hne, q⟩ := h
    refine ⟨_, (pss_cons (ps_set (i := 1) sc_fence_of_plain.nd rfl (by first | exact .inl rfl | exact .inr rfl) (pe_callB (cr_minT (by rfl) hr.units) (by rfl) B.min (by decide +kernel) (pa_cons (pv 0) pa_nil)))
      (pss_cons (ps_set (i := 2) sc_fence_of_plain.nd rfl (by first | exact .inl rfl | exact .inr rfl) pe_int)
      (pss_cons (ps_for PassesOwn.never rfl (pi_tup (pv 0)) (pg_name (i := 3) sc_fence_of_plain.nd rfl (by first | exact .inl rfl | exact .inr rfl))
      (pss_one (ps_set (i := 2) sc_fence_of_plain.nd rfl (by first | exact .inl rfl | exact .inr rfl) (pe_callBfun cr_gcd (by rfl) B.gcd (pa_cons (pv 2) (pa_cons (pe_op op_sub (pv 3) (pv 1)) pa_nil))))))
      (pss_one (ps_ret (pe_tup (pa_cons (pv 1) (pa_cons (pe_callB (cr_maxT (by rfl) hr.units) (by rfl) B.max (by decide +kernel) (pa_cons (pv 0) pa_nil)) (pa_cons (pv 2) pa_nil))))))))), ?_⟩
    walk_at "u"
    obtain ⟨n, r, rfl⟩ : ∃ n r, ns = n :: r := by
      cases ns with
      | nil => exact absurd rfl hne
      | cons n r => exact ⟨n, r, rfl⟩
    refine ⟨_, rfl, p, n, r, rfl, hp, ?_⟩
    walk_at "u"
    refine t_for (H1 := H) (walk_tup (xs := (n :: r).map V.int)) (fun R r => ⟨_, rfl, p, rfl, ⟨_, hp⟩, r⟩) (fun i σ H' => Same H H' ∧ ∃ g y, σ = [some (.ref p), some (.int (r.foldl min n)), some (.int g), y] ∧ stepGo (r.foldl min n) (n :: r) 0 = stepGo (r.foldl min n) ((n :: r).drop i) g) ⟨Same.refl _, 0, _, rfl, rfl⟩ (fun i σ H' _ p => st_same p.1 hp) (fun i x σ H1 H2 hi p y => ?_) (fun σ H1 p => ?_)
    · obtain ⟨sm, g, y3, rfl, eg⟩ := p
      obtain ⟨rfl, f2⟩ := y
      obtain ⟨k, ek, rfl⟩ : ∃ k, (n :: r)[i]? = some k ∧ x = .int k := by
        rw [List.getElem?_map] at f2
        cases e : (n :: r)[i]? with
        | none => rw [e] at f2; cases f2
        | some k => rw [e] at f2; exact ⟨k, rfl, (Option.some.inj f2).symm⟩
      walk_at "u"
      rw [stepGo_drop ek] at eg
      exact ⟨_, rfl, _, rfl, _, rfl, _, _, rfl, rfl, _, _, rfl, sm, _, _, rfl, eg⟩
    · obtain ⟨sm, g, y3, rfl, eg⟩ := p
      walk_at "u"
      rw [List.length_map, List.drop_length] at eg
      refine ⟨_, rfl, _, rfl, p, n, r, rfl, st_same sm hp, _, rfl, by show 3 ≤ sizeLine; decide, fun t ht => q t _ (sm.trans (same_new ht)) ?_⟩
      have e : (rowF (n :: r)).V = [.int (r.foldl min n), .int (r.foldl max n), .int g] := by
        show [V.int (r.foldl min n), V.int (r.foldl max n), V.int (stepGo (r.foldl min n) (n :: r) 0)] = _
        rw [eg]
        rfl
      rw [e]
      exact SqT.of upd_same
def gRowF (K : PySem.W.Frag) : List Int → V → Hp → Prop := fun ns v H => ∃ p, v = .ref p ∧ SqT K H p (rowF ns).V
def spFenceOf (K : PySem.W.Frag) (C N : Addr) : Sp := fun vs H Q E => ∃ v o, vs = [v] ∧ RowA K H v o ∧ OutR K C N H (gRowF K) (checkI o) Q E
theorem ok_fence_of {f : Addr} {fd : FuncData} (B : Bi mg) (T : BadF "BadRow" P w K mg base) (N : BadF "BadNumber" P w K mg base) (F : Fun K "fence_of" "fence_of" s_fence_of f fd)
    (Ccheck_integers : Cal P w K mg base (L2.CX P w) 3 "check_integers" p_check_integers (spCheckI K T.C N.C)) (Cfence_of_plain : Cal P w K mg base CX0 1 "fence_of_plain" p_fence_of_plain (spRowF K)) : FnOk P w K mg base (L2.CX P w) 4 f fd p_fence_of (spFenceOf K T.C N.C) := by
  refine F.okX sc_fence_of (fun vs H Q E h => ?_) (fun cdv A outer s H vs Q E hr h => ?_)
  · obtain ⟨v, o, rfl, _⟩ := h
    rfl
  · obtain ⟨v, o, rfl, ra, q⟩ := h
    refine ⟨_, (pss_one (ps_ret (pe_call Cfence_of_plain.G (hr.mono (by decide)) (by rfl) Cfence_of_plain.g Cfence_of_plain.kp Cfence_of_plain.b .nil pass0 (pa_cons (pe_call Ccheck_integers.G (hr.mono (by decide)) (by rfl) Ccheck_integers.g Ccheck_integers.kp Ccheck_integers.b .nil (passes_call (takes_of (E := E) rfl rfl rfl rfl) (fun _ _ _ _ h => h)) (pa_cons (pv 0) pa_nil)) pa_nil)))), ?_⟩
    walk_at "u"
    refine ⟨v, rfl, v, o, rfl, ra, ?_⟩
    cases e : checkI o with
    | row z => rw [e] at q; exact q
    | num z => rw [e] at q; exact q
    | ok ns =>
      rw [e] at q
      rintro v' H1 s1 ⟨p, rfl, hp, hne, hl⟩
      exact ⟨p, ns, rfl, hp, hne, fun p' H2 s2 hp' => q _ _ (s1.trans s2) ⟨p', rfl, hp'⟩⟩
def checkH (o : Option (List V)) (v : V) : Res Bool := match checkF o with
  | .ok f => match v with
    | .int i => .ok (hasF f i)
    | v => .num (toD v)
  | .row z => .row z
  | .num z => .num z
def gBool : Bool → V → Hp → Prop := fun b v _ => v = .bl b
def spHas (K : PySem.W.Frag) (C N : Addr) : Sp := fun vs H Q E => ∃ v o u, vs = [v, u] ∧ RowA K H v o ∧ flat u = true ∧ OutR K C N H gBool (checkH o u) Q E
theorem ok_has_number {f : Addr} {fd : FuncData} (B : Bi mg) (T : BadF "BadRow" P w K mg base) (N : BadF "BadNumber" P w K mg base) (F : Fun K "has_number" "has_number" s_has_number f fd)
    (Ccheck_fence : Cal P w K mg base (L2.CX P w) 3 "check_fence" p_check_fence (spCheckF K T.C N.C)) (Cis_int : Cal P w K mg base CX0 1 "is_int" p_is_int (spIsInt K)) (Cplain_form : Cal P w K mg base CX0 1 "plain_form" p_plain_form (spPlain K)) (Cholds_number : Cal P w K mg base CX0 1 "holds_number" p_holds_number (spHolds K)) : FnOk P w K mg base (L2.CX P w) 4 f fd p_has_number (spHas K T.C N.C) := by
  refine F.okX sc_has_number (fun vs H Q E h => ?_) (fun cdv A outer s H vs Q E hr h => ?_)
  · obtain ⟨v, o, u, rfl, _⟩ := h
    rfl
  · obtain ⟨v, o, u, rfl, ra, fu, q⟩ := h
    refine ⟨_, (pss_cons (ps_set (i := 2) sc_has_number.nd rfl (by first | exact .inl rfl | exact .inr rfl) (pe_call Ccheck_fence.G (hr.mono (by decide)) (by rfl) Ccheck_fence.g Ccheck_fence.kp Ccheck_fence.b .nil (passes_call (takes_of (E := E) rfl rfl rfl rfl) (fun _ _ _ _ h => h)) (pa_cons (pv 0) pa_nil)))
      (pss_cons (ps_if (pt_not (pt_val (pe_call Cis_int.G (hr.mono (by decide)) (by rfl) Cis_int.g Cis_int.kp Cis_int.b .nil pass0 (pa_cons (pv 1) pa_nil))))
      (pss_one (ps_raise rfl (takes_of (E := E) rfl rfl rfl rfl) (pmk_bad N hr (by decide) (pa_cons (pe_call Cplain_form.G (hr.mono (by decide)) (by rfl) Cplain_form.g Cplain_form.kp Cplain_form.b .nil pass0 (pa_cons (pv 1) pa_nil)) pa_nil))))
      pss_nil)
      (pss_one (ps_ret (pe_call Cholds_number.G (hr.mono (by decide)) (by rfl) Cholds_number.g Cholds_number.kp Cholds_number.b .nil pass0 (pa_cons (pv 2) (pa_cons (pv 1) pa_nil))))))), ?_⟩
    walk_at "u"
    refine ⟨v, rfl, v, o, rfl, ra, ?_⟩
    unfold checkH at q
    cases e : checkF o with
    | row z => rw [e] at q; exact q
    | num z => rw [e] at q; exact q
    | ok f =>
      rw [e] at q
      rintro v' H1 s1 ⟨p, rfl, hp, fo⟩
      walk_at "u"
      refine ⟨u, rfl, u, rfl, .flat fu, _, rfl, ?_⟩
      cases u with
      | int i => exact iteF ⟨_, rfl, _, rfl, p, f, i, rfl, hp, fo, q _ _ s1 rfl⟩
      | non => exact iteT ⟨_, rfl, _, rfl, fu, fun H2 s2 => ⟨_, rfl, fun d hd => q d _ _ ((s1.trans s2).trans (same_new hd)) upd_same .non⟩⟩
      | bl b => exact iteT ⟨_, rfl, _, rfl, fu, fun H2 s2 => ⟨_, rfl, fun d hd => q d _ _ ((s1.trans s2).trans (same_new hd)) upd_same (.bl b)⟩⟩
      | str z => exact iteT ⟨_, rfl, _, rfl, fu, fun H2 s2 => ⟨_, rfl, fun d hd => q d _ _ ((s1.trans s2).trans (same_new hd)) upd_same (.str z)⟩⟩
      | byt _ => cases fu
      | flt _ => cases fu
      | ref _ => cases fu
      | ty _ => cases fu
theorem log_lt {i : Int} {a : Nat} (h : i.natAbs < 2 ^ a) (b : Nat) (h0 : 0 < b) (hab : a ≤ b) : i.natAbs.log2 < b := by
  refine PySem.Flt.log2_lt_of h0 (Nat.lt_of_lt_of_le h (Nat.pow_le_pow_right (by decide) hab))
def spSize (K : PySem.W.Frag) (C N : Addr) : Sp := fun vs H Q E => ∃ v o, vs = [v] ∧ RowA K H v o ∧ (∀ f, checkF o = .ok f → f.sml 390) ∧ OutR K C N H (fun f v _ => v = .int (sizeF f)) (checkF o) Q E
theorem ok_fence_size {f : Addr} {fd : FuncData} (B : Bi mg) (T : BadF "BadRow" P w K mg base) (N : BadF "BadNumber" P w K mg base) (F : Fun K "fence_size" "fence_size" s_fence_size f fd)
    (Ccheck_fence : Cal P w K mg base (L2.CX P w) 3 "check_fence" p_check_fence (spCheckF K T.C N.C)) : FnOk P w K mg base (L2.CX P w) 4 f fd p_fence_size (spSize K T.C N.C) := by
  refine F.okX sc_fence_size (fun vs H Q E h => ?_) (fun cdv A outer s H vs Q E hr h => ?_)
  · obtain ⟨v, o, rfl, _⟩ := h
    rfl
  · obtain ⟨v, o, rfl, ra, hs, q⟩ := h
    refine ⟨_, (pss_cons (ps_asg (pe_call Ccheck_fence.G (hr.mono (by decide)) (by rfl) Ccheck_fence.g Ccheck_fence.kp Ccheck_fence.b .nil (passes_call (takes_of (E := E) rfl rfl rfl rfl) (fun _ _ _ _ h => h)) (pa_cons (pv 0) pa_nil)) (pg_tup rfl (pgs_cons (pg_name (i := 1) sc_fence_size.nd rfl (by first | exact .inl rfl | exact .inr rfl)) (pgs_cons (pg_name (i := 2) sc_fence_size.nd rfl (by first | exact .inl rfl | exact .inr rfl)) (pgs_cons (pg_name (i := 3) sc_fence_size.nd rfl (by first | exact .inl rfl | exact .inr rfl)) pgs_nil)))))
      (pss_one (ps_ret (pe_ifExp (pt_cmpR op_eq (pv 3) pe_int (nomark _)) pe_int (pe_op op_add (pe_op op_fdivW (pe_op op_sub (pv 2) (pv 1)) (pv 3)) pe_int))))), ?_⟩
    walk_at "u"
    refine ⟨v, rfl, v, o, rfl, ra, ?_⟩
    cases e : checkF o with
    | row z => rw [e] at q; exact q
    | num z => rw [e] at q; exact q
    | ok f =>
      rw [e] at q
      have sf := hs f e
      rintro v' H1 s1 ⟨p, rfl, hp, fo⟩
      refine ⟨p, _, rfl, hp, rfl, _, _, rfl, _, _, rfl, _, _, rfl, rfl, ?_⟩
      walk_at "u"
      have s2 := fo.st_sml sf
      have h0 := fo.1
      have q' : Q (.int (if f.st = 0 then 1 else (f.hi - f.lo) / f.st + 1)) H1 := q _ _ s1 rfl
      refine ⟨_, rfl, rfl, _, rfl, ?_⟩
      by_cases c : f.st = 0
      · rw [if_pos c] at q'
        exact ifT (decide_eq_true (by rw [c])) q'
      · rw [if_neg c] at q'
        exact ifF (decide_eq_false fun z => c (V.int.inj z)) ⟨_, rfl, _, rfl, _, _, rfl, rfl, _, rfl, _, _, rfl, rfl, ⟨by omega, log_lt s2 9000 (by decide) (by decide)⟩, _, _, rfl, rfl, q'⟩
end
end K68

namespace K68
open PySem PySem.Spec PyProof.Rows L2 KR KK
local macro_rules | `(tactic| walk_at "u") => `(tactic| try dsimp only [tSeq, tCutS, tCutE, tCutT, tIfS, tRet, tRetN, tNext, tBreak, tCont, tDrop, tAsg, tPar, gName, gTup, gCons, gNil, tOr, tAnd, tNot, tB, tTest, tCB, tCons, tNil, tC, tVar, tAndV, tOrV, tNotV, tOp, tUn, tIf, tIsN, tNotN, tTup, tLst, tCall, tCallS, tBM, tBM0, tSl, tPart, tNoPart, tYes, iList, iTup, iSeq, iStr, iRng1, iRng2, iEnumA, rI, rI0, rU, cxOf, Cx.nox, Cx.wish, L2.start, List.map, List.set, Nat.repeat, List.length_cons, List.length_nil, List.replicate, List.nil_append, List.cons_append, List.append_nil, Nat.reduceAdd, Nat.reduceSub, E0, tBad, tTr])

theorem mulW {i j : Int} {a b : Nat} (h1 : i.natAbs < 2 ^ a) (h2 : j.natAbs < 2 ^ b) (ha : a ≤ 2000) (hb : b ≤ 2000) : CMulW i j := by
  have x := log_lt h1 2000 (by decide) ha
  have y := log_lt h2 2000 (by decide) hb
  show _ + _ < 1000000
  omega
theorem divW {i j : Int} {b : Nat} (h0 : 0 < j) (h2 : j.natAbs < 2 ^ b) (hb : b ≤ 2000) : CDivW i j := ⟨h0, Nat.lt_trans (log_lt h2 2001 (by decide) (by omega)) (by decide)⟩
theorem min_if (a b : Int) : (if b < a then b else a) = min a b := by
  split <;> omega
theorem max_if (a b : Int) : (if b > a then b else a) = max a b := by
  split <;> omega
/-! ### Euclid's turns, with the numbers that tell the inverse -/
structure Inv0 (number base L R less more : Int) : Prop where
  l0 : 0 < L
  r0 : 0 ≤ R
  rl : R < L
  d1 : base ∣ L - less * number
  d2 : base ∣ R - more * number
  g : ∀ d, (d ∣ L ∧ d ∣ R) → d ∣ number ∧ d ∣ base
  b : (less.natAbs : Int) * R + (more.natAbs : Int) * L ≤ base
  lb : L ≤ base
theorem inv0_start {number base : Int} (hb : 0 < base) : Inv0 number base base (number % base) 0 1 where
  l0 := hb
  r0 := Int.emod_nonneg _ (by omega)
  rl := Int.emod_lt_of_pos _ hb
  d1 := by rw [Int.zero_mul, Int.sub_zero]; exact Int.dvd_refl _
  d2 := by
    rw [Int.one_mul]
    have e := Int.emod_add_mul_ediv number base
    exact ⟨-(number / base), by rw [Int.mul_neg]; omega⟩
  g := fun d ⟨h1, h2⟩ => by
    refine ⟨?_, h1⟩
    have e := Int.emod_add_mul_ediv number base
    rw [← e]
    exact Int.dvd_add h2 (Int.dvd_trans h1 (Int.dvd_mul_right _ _))
  b := by simp
  lb := Int.le_refl _
theorem sub_mod (L R : Int) : L - L / R * R = L % R := by
  have e := Int.emod_add_mul_ediv L R
  have e2 : L / R * R = R * (L / R) := Int.mul_comm _ _
  omega
theorem inv0_step {number base L R less more : Int} (h : Inv0 number base L R less more) (hr : R ≠ 0) : Inv0 number base R (L - L / R * R) more (less - L / R * more) := by
  have r0 := h.r0
  have l0 := h.l0
  have rl := h.rl
  have hR : 0 < R := by omega
  have e := sub_mod L R
  have t0 : 0 ≤ L / R := Int.ediv_nonneg (by omega) (by omega)
  refine ⟨hR, ?_, ?_, h.d2, ?_, ?_, ?_, ?_⟩
  · rw [e]; exact Int.emod_nonneg _ (by omega)
  · rw [e]; exact Int.emod_lt_of_pos _ hR
  · have x := Int.dvd_sub h.d1 (Int.dvd_trans h.d2 (Int.dvd_mul_left (L / R) (R - more * number)))
    have e2 : L - less * number - L / R * (R - more * number) = L - L / R * R - (less - L / R * more) * number := by
      rw [Int.mul_sub, Int.sub_mul, Int.mul_assoc]
      omega
    rw [e2] at x
    exact x
  · rintro d ⟨h1, h2⟩
    refine h.g d ⟨?_, h1⟩
    have x := Int.dvd_add h2 (Int.dvd_trans h1 (Int.dvd_mul_left (L / R) R))
    have e2 : L - L / R * R + L / R * R = L := by omega
    rw [e2] at x
    exact x
  · have hb := h.b
    have tri : ((less - L / R * more).natAbs : Int) ≤ (less.natAbs : Int) + L / R * (more.natAbs : Int) := by
      have h1 : (less - L / R * more).natAbs ≤ less.natAbs + (L / R * more).natAbs := Int.natAbs_sub_le _ _
      rw [Int.natAbs_mul] at h1
      have e3 : ((L / R).natAbs : Int) = L / R := by omega
      have h2 : ((less - L / R * more).natAbs : Int) ≤ ((less.natAbs + (L / R).natAbs * more.natAbs : Nat) : Int) := by exact_mod_cast h1
      rw [Int.natCast_add, Int.natCast_mul, e3] at h2
      exact h2
    have h3 := Int.mul_le_mul_of_nonneg_right tri (show 0 ≤ R by omega)
    have e4 : ((less.natAbs : Int) + L / R * (more.natAbs : Int)) * R = (less.natAbs : Int) * R + (more.natAbs : Int) * (L / R * R) := by
      rw [Int.add_mul]
      congr 1
      rw [Int.mul_comm (L / R) (more.natAbs : Int), Int.mul_assoc]
    have e5 : (more.natAbs : Int) * (L - L / R * R) = (more.natAbs : Int) * L - (more.natAbs : Int) * (L / R * R) := Int.mul_sub _ _ _
    omega
  · have := h.lb
    omega
theorem Inv0.more_le {number base L R less more : Int} (h : Inv0 number base L R less more) : (more.natAbs : Int) ≤ base := by
  have l0 := h.l0
  have r0 := h.r0
  have hb := h.b
  have h1 : (more.natAbs : Int) * 1 ≤ (more.natAbs : Int) * L := Int.mul_le_mul_of_nonneg_left (by omega) (by omega)
  have h2 : 0 ≤ (less.natAbs : Int) * R := Int.mul_nonneg (by omega) (by omega)
  omega
theorem inv0_end {number base L less more : Int} (h : Inv0 number base L 0 less more) (co : ∀ d, d ∣ number → d ∣ base → d ∣ 1) : base ∣ less % base * number - 1 := by
  have x := h.g L ⟨Int.dvd_refl _, Int.dvd_zero _⟩
  have y := co L x.1 x.2
  have l0 := h.l0
  have z : L = 1 := by
    have := Int.le_of_dvd (by decide) y
    omega
  have d1 := h.d1
  rw [z] at d1
  have e := Int.emod_add_mul_ediv less base
  have d2 : base ∣ less * number - less % base * number := by
    rw [← Int.sub_mul]
    have e2 : less - less % base = base * (less / base) := by omega
    rw [e2, Int.mul_assoc]
    exact Int.dvd_mul_right _ _
  have d3 := Int.dvd_add d1 d2
  have e3 : 1 - less * number + (less * number - less % base * number) = 1 - less % base * number := by omega
  rw [e3] at d3
  exact dvd_flip d3
section
variable {P : Program} {w : World} {K : PySem.W.Frag} {mg : Str → Option Value} {base : Heap}
def spInv (K : PySem.W.Frag) : Sp := fun vs H Q _ => ∃ n b : Int, vs = [.int n, .int b] ∧ 0 < b ∧ b.natAbs < 2 ^ 500 ∧ (∀ d, d ∣ n → d ∣ b → d ∣ 1) ∧ ∀ r H', Same H H' → 0 ≤ r → r < b → b ∣ r * n - 1 → Q (.int r) H'
theorem ok_turned_by {f : Addr} {fd : FuncData} (B : Bi mg) (F : Fun K "turned_by" "turned_by" s_turned_by f fd) : FnOk P w K mg base CX0 1 f fd p_turned_by (spInv K) := by
  refine F.ok sc_turned_by (fun vs H Q E h => ?_) (fun cdv A outer s H vs Q E hr h => ?_)
  · obtain ⟨n, b, rfl, _⟩ := h
    rfl
  · obtain ⟨n, b, rfl, hb, hs, co, q⟩ := h
    refine ⟨_, (pss_cons (ps_par (i := 2) (j := 3) (by rfl) sc_turned_by.nd rfl rfl (by decide) rfl rfl (pa_cons (pv 1) (pa_cons (pe_op op_mod (pv 0) (pv 1)) pa_nil)) rfl)
      (pss_cons (ps_asg (pe_tup (pa_cons pe_int (pa_cons pe_int pa_nil))) (pg_tup rfl (pgs_cons (pg_name (i := 4) sc_turned_by.nd rfl (by first | exact .inl rfl | exact .inr rfl)) (pgs_cons (pg_name (i := 5) sc_turned_by.nd rfl (by first | exact .inl rfl | exact .inr rfl)) pgs_nil))))
      (pss_cons (ps_while PassesOwn.never (pt_cmpR op_ne (pv 3) pe_int (nomark _))
      (pss_cons (ps_set (i := 6) sc_turned_by.nd rfl (by first | exact .inl rfl | exact .inr rfl) (pe_op op_fdivW (pv 2) (pv 3)))
      (pss_cons (ps_par (i := 2) (j := 3) (by rfl) sc_turned_by.nd rfl rfl (by decide) rfl rfl (pa_cons (pv 3) (pa_cons (pe_op op_sub (pv 2) (pe_op op_mulW (pv 6) (pv 3))) pa_nil)) rfl)
      (pss_one (ps_par (i := 4) (j := 5) (by rfl) sc_turned_by.nd rfl rfl (by decide) rfl rfl (pa_cons (pv 5) (pa_cons (pe_op op_sub (pv 4) (pe_op op_mulW (pv 6) (pv 5))) pa_nil)) rfl)))))
      (pss_one (ps_ret (pe_op op_mod (pv 4) (pv 1))))))), ?_⟩
    walk_at "u"
    refine ⟨_, rfl, _, rfl, _, rfl, _, _, rfl, rfl, hb, _, _, rfl, by show 2 ≤ sizeLine; decide, fun t2 ht2 => ⟨t2, _, rfl, SqT.of upd_same, rfl, _, _, rfl, _, _, rfl, rfl, ?_⟩⟩
    have s2 := same_new (o := .tup [.int 0, .int 1]) ht2
    generalize upd H t2 _ = H2 at s2 ⊢
    clear ht2
    refine ⟨fun m σ H' => Same H H' ∧ ∃ L R less more y, σ = [some (.int n), some (.int b), some (.int L), some (.int R), some (.int less), some (.int more), y] ∧ Inv0 n b L R less more ∧ m = R.toNat, ⟨_, s2, _, _, _, _, _, rfl, inv0_start hb, rfl⟩, ?_⟩
    rintro m σ H3 ⟨s3, L, R, less, more, y, rfl, I, rfl⟩
    walk_at "u"
    refine ⟨_, rfl, rfl, _, rfl, ?_⟩
    by_cases c : R = 0
    · have e : (!decide (V.int R = V.int 0)) = false := by rw [c]; rfl
      rw [e]
      refine iteF ?_
      subst c
      refine ⟨_, rfl, _, rfl, _, _, rfl, rfl, hb, q _ _ s3 (Int.emod_nonneg _ (by omega)) (Int.emod_lt_of_pos _ hb) (inv0_end I co)⟩
    · have e : (!decide (V.int R = V.int 0)) = true := by rw [decide_eq_false fun z => c (V.int.inj z)]; rfl
      rw [e]
      have r0 := I.r0
      have rl := I.rl
      have lb := I.lb
      have ml := I.more_le
      have hL : L.natAbs < 2 ^ 500 := by omega
      have hR : R.natAbs < 2 ^ 500 := by omega
      have hM : more.natAbs < 2 ^ 500 := by omega
      have t0 : 0 ≤ L / R := Int.ediv_nonneg (by omega) (by omega)
      have t1 : L / R ≤ L := Int.ediv_le_self _ (by omega)
      have hT : (L / R).natAbs < 2 ^ 500 := by omega
      have J := inv0_step I c
      refine iteT ⟨fun σ' H' => Same H H' ∧ ∃ L' R' less more y, σ' = [some (.int n), some (.int b), some (.int L'), some (.int R'), some (.int less), some (.int more), y] ∧ Inv0 n b L' R' less more ∧ R' < R, ?_, ?_⟩
      · rintro σ' H' ⟨s', L', R', less', more', y', rfl, I', hlt⟩
        exact ⟨_, by have := I'.r0; omega, s', L', R', less', more', y', rfl, I', rfl⟩
      · walk_at "u"
        refine ⟨_, rfl, _, rfl, _, _, rfl, rfl, divW (by omega) hR (by decide), ?_⟩
        refine ⟨_, rfl, _, rfl, _, rfl, _, rfl, _, _, rfl, rfl, mulW hT hR (by decide) (by decide), _, _, rfl, rfl, _, _, rfl, ?_⟩
        refine ⟨_, rfl, _, rfl, _, rfl, _, rfl, _, _, rfl, rfl, mulW hT hM (by decide) (by decide), _, _, rfl, rfl, _, _, rfl, ?_⟩
        refine ⟨s3, _, _, _, _, _, rfl, J, ?_⟩
        rw [sub_mod]
        exact Int.emod_lt_of_pos _ (by omega)
end
end K68

namespace K68
open PySem PySem.Spec PyProof.Rows L2 KR KK
local macro_rules | `(tactic| walk_at "u") => `(tactic| try dsimp only [tSeq, tCutS, tCutE, tCutT, tIfS, tRet, tRetN, tNext, tBreak, tCont, tDrop, tAsg, tPar, gName, gTup, gCons, gNil, tOr, tAnd, tNot, tB, tTest, tCB, tCons, tNil, tC, tVar, tAndV, tOrV, tNotV, tOp, tUn, tIf, tIsN, tNotN, tTup, tLst, tCall, tCallS, tBM, tBM0, tSl, tPart, tNoPart, tYes, iList, iTup, iSeq, iStr, iRng1, iRng2, iEnumA, rI, rI0, rU, cxOf, Cx.nox, Cx.wish, L2.start, List.map, List.set, Nat.repeat, List.length_cons, List.length_nil, List.replicate, List.nil_append, List.cons_append, List.append_nil, Nat.reduceAdd, Nat.reduceSub, E0, tBad, tTr])

def gOptF (K : PySem.W.Frag) : Option Fen → V → Hp → Prop
  | none, v, _ => v = .non
  | some f, v, H => gFen K f v H
theorem gOptF_same {K : PySem.W.Frag} {H H' : Hp} {o : Option Fen} {v : V} (e : Same H H') (h : gOptF K o v H) : gOptF K o v H' := by
  cases o with
  | none => exact h
  | some f => exact gFen.same e h
def gMet (K : PySem.W.Frag) : Fen × Fen → V → Hp → Prop := fun ab v H => ∃ o, IsMet ab.1 ab.2 o ∧ gOptF K o v H
theorem div_lt {i j : Int} {a : Nat} (h : i.natAbs < 2 ^ a) : (i / j).natAbs < 2 ^ a := by
  refine Nat.lt_of_le_of_lt ?_ h
  first | exact Int.natAbs_ediv_le_natAbs i j | exact Int.natAbs_div_le_natAbs i j
theorem up_to {x low whole : Int} (hw : 0 < whole) : whole ∣ x + (low - x + whole - 1) / whole * whole - x ∧ low ≤ x + (low - x + whole - 1) / whole * whole ∧ x + (low - x + whole - 1) / whole * whole < low + whole := by
  have e := sub_mod (low - x + whole - 1) whole
  have h0 := Int.emod_nonneg (low - x + whole - 1) (show whole ≠ 0 by omega)
  have h1 := Int.emod_lt_of_pos (low - x + whole - 1) hw
  refine ⟨?_, by omega, by omega⟩
  rw [Int.add_comm x, Int.add_sub_cancel]
  exact Int.dvd_mul_left _ _
theorem down_to {x high whole : Int} (hw : 0 < whole) : whole ∣ x + (high - x) / whole * whole - x ∧ x + (high - x) / whole * whole ≤ high ∧ high < x + (high - x) / whole * whole + whole := by
  have e := sub_mod (high - x) whole
  have h0 := Int.emod_nonneg (high - x) (show whole ≠ 0 by omega)
  have h1 := Int.emod_lt_of_pos (high - x) hw
  refine ⟨?_, by omega, by omega⟩
  rw [Int.add_comm x, Int.add_sub_cancel]
  exact Int.dvd_mul_left _ _
/-- the inverse of the parted steps -/
theorem parted_co {m n : Int} (hm : 0 < m) : ∀ d, d ∣ m / gcdI m n → d ∣ n / gcdI m n → d ∣ 1 := by
  intro d h1 h2
  have hg := gcdI_pos (b := n) hm
  obtain ⟨g1, g2⟩ := dvd_gcdI.mp (Int.dvd_refl (gcdI m n))
  have e1 : gcdI m n * (m / gcdI m n) = m := Int.mul_ediv_cancel' g1
  have e2 : gcdI m n * (n / gcdI m n) = n := Int.mul_ediv_cancel' g2
  have d1 : gcdI m n * d ∣ m := by
    conv => rhs; rw [← e1]
    exact Int.mul_dvd_mul_left _ h1
  have d2 : gcdI m n * d ∣ n := by
    conv => rhs; rw [← e2]
    exact Int.mul_dvd_mul_left _ h2
  have d3 : gcdI m n * d ∣ gcdI m n * 1 := by rw [Int.mul_one]; exact dvd_gcdI.mpr ⟨d1, d2⟩
  exact Int.dvd_of_mul_dvd_mul_left (by omega) d3
theorem fdiv_dvd (a b : Int) : b ∣ a / b * b := Int.dvd_mul_left _ _
theorem met_bounds {a b m : Fen} (h : IsMet a b (some m)) : a.lo ≤ m.lo ∧ m.hi ≤ a.hi := by
  have h1 := (h.2 _).mp h.1.mlo
  have h2 := (h.2 _).mp h.1.mhi
  exact ⟨h1.1.1, h2.1.2.1⟩
section
variable {P : Program} {w : World} {K : PySem.W.Frag} {mg : Str → Option Value} {base : Heap}
def spCommon (K : PySem.W.Frag) : Sp := fun vs H Q _ => ∃ p q a b, vs = [.ref p, .ref q] ∧ SqT K H p a.V ∧ SqT K H q b.V ∧ a.ok ∧ b.ok ∧ 0 < a.st ∧ 0 < b.st ∧ a.sml 390 ∧ b.sml 390 ∧ ∀ v H' o, Same H H' → IsMet a b o → gOptF K o v H' → Q v H'
theorem ok_common_numbers {f : Addr} {fd : FuncData} (B : Bi mg) (F : Fun K "common_numbers" "common_numbers" s_common_numbers f fd)
    (Cturned_by : Cal P w K mg base CX0 1 "turned_by" p_turned_by (spInv K)) : FnOk P w K mg base CX0 2 f fd p_common_numbers (spCommon K) := by
  refine F.ok sc_common_numbers (fun vs H Q E h => ?_) (fun cdv A outer s H vs Q E hr h => ?_)
  · obtain ⟨p, q, a, b, rfl, _⟩ := h
    rfl
  · obtain ⟨p, p2, a, b, rfl, hp, hp2, ao, bo, as, bs, sa, sb, q⟩ := h
    refine ⟨_, (pss_cons (ps_par (i := 2) (j := 3) (by rfl) sc_common_numbers.nd rfl rfl (by decide) rfl rfl (pa_cons (pe_ix (ix_tupK (K := K) rfl) (pv 0) pe_int (fun _ _ => rfl)) (pa_cons (pe_ix (ix_tupK (K := K) rfl) (pv 1) pe_int (fun _ _ => rfl)) pa_nil)) rfl)
      (pss_cons (ps_set (i := 4) sc_common_numbers.nd rfl (by first | exact .inl rfl | exact .inr rfl) (pe_callBfun cr_gcd (by rfl) B.gcd (pa_cons (pv 2) (pa_cons (pv 3) pa_nil))))
      (pss_cons (ps_if (pt_cmpR op_ne (pe_op op_mod (pe_op op_sub (pe_ix (ix_tupK (K := K) rfl) (pv 1) pe_int (fun _ _ => rfl)) (pe_ix (ix_tupK (K := K) rfl) (pv 0) pe_int (fun _ _ => rfl))) (pv 4)) pe_int (nomark _))
      (pss_one (ps_ret pe_non))
      pss_nil)
      (pss_cons (ps_set (i := 5) sc_common_numbers.nd rfl (by first | exact .inl rfl | exact .inr rfl) (pe_op op_fdivW (pv 3) (pv 4)))
      (pss_cons (ps_set (i := 6) sc_common_numbers.nd rfl (by first | exact .inl rfl | exact .inr rfl) (pe_op op_mulW (pe_op op_fdivW (pe_op op_sub (pe_ix (ix_tupK (K := K) rfl) (pv 1) pe_int (fun _ _ => rfl)) (pe_ix (ix_tupK (K := K) rfl) (pv 0) pe_int (fun _ _ => rfl))) (pv 4)) (pe_call Cturned_by.G (hr.mono (by decide)) (by rfl) Cturned_by.g Cturned_by.kp Cturned_by.b .nil pass0 (pa_cons (pe_op op_fdivW (pv 2) (pv 4)) (pa_cons (pv 5) pa_nil)))))
      (pss_cons (ps_set (i := 7) sc_common_numbers.nd rfl (by first | exact .inl rfl | exact .inr rfl) (pe_callBfun cr_lcm (by rfl) B.lcm (pa_cons (pv 2) (pa_cons (pv 3) pa_nil))))
      (pss_cons (ps_par (i := 8) (j := 9) (by rfl) sc_common_numbers.nd rfl rfl (by decide) rfl rfl (pa_cons (pe_callB (call_max2 (by rfl)) (by rfl) B.max (by decide +kernel) (pa_cons (pe_ix (ix_tupK (K := K) rfl) (pv 0) pe_int (fun _ _ => rfl)) (pa_cons (pe_ix (ix_tupK (K := K) rfl) (pv 1) pe_int (fun _ _ => rfl)) pa_nil))) (pa_cons (pe_callB (call_min2 (by rfl)) (by rfl) B.min (by decide +kernel) (pa_cons (pe_ix (ix_tupK (K := K) rfl) (pv 0) pe_int (fun _ _ => rfl)) (pa_cons (pe_ix (ix_tupK (K := K) rfl) (pv 1) pe_int (fun _ _ => rfl)) pa_nil))) pa_nil)) rfl)
      (pss_cons (ps_set (i := 10) sc_common_numbers.nd rfl (by first | exact .inl rfl | exact .inr rfl) (pe_op op_add (pe_ix (ix_tupK (K := K) rfl) (pv 0) pe_int (fun _ _ => rfl)) (pe_op op_mulW (pv 2) (pe_op op_mod (pv 6) (pv 5)))))
      (pss_cons (ps_set (i := 10) sc_common_numbers.nd rfl (by first | exact .inl rfl | exact .inr rfl) (pe_op op_add (pv 10) (pe_op op_mulW (pe_op op_fdivW (pe_op op_sub (pe_op op_add (pe_op op_sub (pv 8) (pv 10)) (pv 7)) pe_int) (pv 7)) (pv 7))))
      (pss_cons (ps_if (pt_cmpR op_gt (pv 10) (pv 9) (nomark _))
      (pss_one (ps_ret pe_non))
      pss_nil)
      (pss_cons (ps_set (i := 11) sc_common_numbers.nd rfl (by first | exact .inl rfl | exact .inr rfl) (pe_op op_add (pv 10) (pe_op op_mulW (pe_op op_fdivW (pe_op op_sub (pv 9) (pv 10)) (pv 7)) (pv 7))))
      (pss_one (ps_ret (pe_tup (pa_cons (pv 10) (pa_cons (pv 11) (pa_cons (pe_ifExp (pt_cmpR op_eq (pv 10) (pv 11) (nomark _)) pe_int (pv 7)) pa_nil))))))))))))))))), ?_⟩
    walk_at "u"
    have zas := ao.st_sml sa
    have zbs := bo.st_sml sb
    have hg0 : 0 < gcdI a.st b.st := gcdI_pos as
    obtain ⟨g1, g2⟩ := dvd_gcdI.mp (Int.dvd_refl (gcdI a.st b.st))
    have gle : gcdI a.st b.st ≤ a.st := Int.le_of_dvd as g1
    have gle2 : gcdI a.st b.st ≤ b.st := Int.le_of_dvd bs g2
    have zg : (gcdI a.st b.st).natAbs < 2 ^ 391 := by omega
    refine ⟨_, rfl, p, _, 2, _, rfl, rfl, hp, atI_nat (j := 2) rfl, _, rfl, p2, _, 2, _, rfl, rfl, hp2, atI_nat (j := 2) rfl, _, _, rfl, ?_⟩
    refine ⟨_, rfl, _, rfl, a.st, b.st, rfl, ?_⟩
    refine ⟨_, rfl, p2, _, 0, _, rfl, rfl, hp2, atI_nat (j := 0) rfl, _, rfl, p, _, 0, _, rfl, rfl, hp, atI_nat (j := 0) rfl, _, _, rfl, rfl, ?_⟩
    have eg : ((Nat.gcd a.st.natAbs b.st.natAbs : Nat) : Int) = gcdI a.st b.st := rfl
    rw [eg]
    refine ⟨_, rfl, _, _, rfl, rfl, hg0, ?_⟩
    by_cases c0 : gcdI a.st b.st ∣ b.lo - a.lo
    · refine ⟨rfl, _, rfl, ?_⟩
      rw [Int.emod_eq_zero_of_dvd c0]
      obtain ⟨qq, eq⟩ := c0
      have zd : (b.lo - a.lo).natAbs < 2 ^ 391 := by
        have := sa.1
        have := sb.1
        omega
      have ear : gcdI a.st b.st * (b.st / gcdI a.st b.st) = b.st := Int.mul_ediv_cancel' g2
      have har : 0 < b.st / gcdI a.st b.st := Int.ediv_pos_of_pos_of_dvd bs (by omega) g2
      have zar : (b.st / gcdI a.st b.st).natAbs < 2 ^ 391 := div_lt zbs
      have zan : (a.st / gcdI a.st b.st).natAbs < 2 ^ 391 := div_lt zas
      have zq : ((b.lo - a.lo) / gcdI a.st b.st).natAbs < 2 ^ 391 := div_lt zd
      have eqq : (b.lo - a.lo) / gcdI a.st b.st = qq := by rw [eq]; exact Int.mul_ediv_cancel_left _ (by omega)
      refine iteF ⟨_, rfl, _, rfl, _, _, rfl, rfl, divW hg0 zg (by decide), ?_⟩
      refine ⟨_, rfl, p2, _, 0, _, rfl, rfl, hp2, atI_nat (j := 0) rfl, _, rfl, p, _, 0, _, rfl, rfl, hp, atI_nat (j := 0) rfl, _, _, rfl, rfl, _, rfl, _, _, rfl, rfl, divW hg0 zg (by decide), ?_⟩
      refine ⟨_, rfl, _, rfl, _, _, rfl, rfl, divW hg0 zg (by decide), _, rfl, _, _, rfl, har, Nat.lt_of_lt_of_le zar (Nat.pow_le_pow_right (by decide) (by decide)), parted_co as, fun r H1 s1 r0 r1 rd => ?_⟩
      have zr : r.natAbs < 2 ^ 391 := by omega
      refine ⟨_, _, rfl, rfl, mulW zq zr (by decide) (by decide), ?_⟩
      have k1000 : ∀ n : Nat, n ≤ 1000 → (2 : Nat) ^ n ≤ 2 ^ 1000 := fun n h => Nat.pow_le_pow_right (by decide) h
      refine ⟨_, rfl, _, rfl, _, _, rfl, Nat.lt_of_lt_of_le zas (k1000 391 (by decide)), Nat.lt_of_lt_of_le zbs (k1000 391 (by decide)), ?_⟩
      have hp1 := st_same s1 hp
      have hp21 := st_same s1 hp2
      have hw0 := lcm_pos as bs
      have hw := lcm_dvd_iff (m := a.st) (n := b.st)
      have zw : ((Nat.lcm a.st.natAbs b.st.natAbs : Nat) : Int).natAbs < 2 ^ 782 := by
        rw [lcm_whole as bs]
        exact wide_lt zan zbs
      generalize ((Nat.lcm a.st.natAbs b.st.natAbs : Nat) : Int) = whole at hw0 hw zw ⊢
      have hcr := crt (t := (b.lo - a.lo) / gcdI a.st b.st * r % (b.st / gcdI a.st b.st)) g1 g2 hg0 eq rd (by
        rw [eqq]
        exact ⟨-(qq * r / (b.st / gcdI a.st b.st)), by
          have := Int.emod_add_mul_ediv (qq * r) (b.st / gcdI a.st b.st)
          rw [Int.mul_neg]
          omega⟩)
      have zt : ((b.lo - a.lo) / gcdI a.st b.st * r % (b.st / gcdI a.st b.st)).natAbs < 2 ^ 391 := by
        have := Int.emod_nonneg ((b.lo - a.lo) / gcdI a.st b.st * r) (show b.st / gcdI a.st b.st ≠ 0 by omega)
        have := Int.emod_lt_of_pos ((b.lo - a.lo) / gcdI a.st b.st * r) har
        omega
      have zst : (a.st * ((b.lo - a.lo) / gcdI a.st b.st * r % (b.st / gcdI a.st b.st))).natAbs < 2 ^ 782 := wide_lt zas zt
      refine ⟨_, rfl, p, _, 0, _, rfl, rfl, hp1, atI_nat (j := 0) rfl, _, rfl, p2, _, 0, _, rfl, rfl, hp21, atI_nat (j := 0) rfl, _, _, rfl, ?_⟩
      refine ⟨_, rfl, p, _, 1, _, rfl, rfl, hp1, atI_nat (j := 1) rfl, _, rfl, p2, _, 1, _, rfl, rfl, hp21, atI_nat (j := 1) rfl, _, _, rfl, _, _, rfl, ?_⟩
      rw [max_if, min_if]
      refine ⟨_, rfl, p, _, 0, _, rfl, rfl, hp1, atI_nat (j := 0) rfl, _, rfl, _, rfl, _, rfl, _, _, rfl, rfl, har, _, _, rfl, rfl, mulW zas zt (by decide) (by decide), _, _, rfl, rfl, ?_⟩
      generalize a.st * ((b.lo - a.lo) / gcdI a.st b.st * r % (b.st / gcdI a.st b.st)) = xt at hcr zst ⊢
      obtain ⟨hx1, hx2⟩ := hcr
      have zlo := sa.1
      have zhi := sa.2
      have zlo2 := sb.1
      have zhi2 := sb.2
      have big : (2 : Nat) ^ 782 + 2 ^ 782 ≤ 2 ^ 790 := by decide +kernel
      have big2 : (2 : Nat) ^ 390 ≤ 2 ^ 780 := by decide +kernel
      have big3 : (2 : Nat) ^ 780 * 4 = 2 ^ 782 := by decide +kernel
      have big4 : (2 : Nat) ^ 782 * 256 = 2 ^ 790 := by decide +kernel
      walk_at "u"
      have zc : (max a.lo b.lo - (a.lo + xt) + whole - 1).natAbs < 2 ^ 790 := by omega
      have zcq : ((max a.lo b.lo - (a.lo + xt) + whole - 1) / whole).natAbs < 2 ^ 790 := div_lt zc
      refine ⟨_, rfl, _, rfl, _, rfl, _, _, rfl, rfl, _, rfl, _, _, rfl, rfl, _, _, rfl, rfl, _, rfl, _, _, rfl, rfl, divW hw0 zw (by decide), _, rfl, _, _, rfl, rfl, mulW zcq zw (by decide) (by decide), _, _, rfl, rfl, ?_⟩
      obtain ⟨u1, u2, u3⟩ := up_to (x := a.lo + xt) (low := max a.lo b.lo) hw0
      generalize a.lo + xt + (max a.lo b.lo - (a.lo + xt) + whole - 1) / whole * whole = first at u1 u2 u3 ⊢
      walk_at "u"
      refine ⟨_, rfl, _, rfl, _, _, rfl, rfl, _, rfl, ?_⟩
      by_cases c1 : min a.hi b.hi < first
      · rw [decide_eq_true c1]
        exact iteT (q .non H1 none s1 (met_over hx1 hx2 hw0 hw u1 u3 c1) rfl)
      · rw [decide_eq_false c1]
        have zh : (min a.hi b.hi - first).natAbs < 2 ^ 790 := by omega
        have zhq : ((min a.hi b.hi - first) / whole).natAbs < 2 ^ 790 := div_lt zh
        refine iteF ⟨_, rfl, _, rfl, _, rfl, _, _, rfl, rfl, _, rfl, _, _, rfl, rfl, divW hw0 zw (by decide), _, rfl, _, _, rfl, rfl, mulW zhq zw (by decide) (by decide), _, _, rfl, rfl, ?_⟩
        obtain ⟨w1, w2, w3⟩ := down_to (x := first) (high := min a.hi b.hi) hw0
        generalize first + (min a.hi b.hi - first) / whole * whole = last at w1 w2 w3 ⊢
        have M := met_some hx1 hx2 hw0 hw u1 u2 u3 (by omega) w1 w2 w3
        walk_at "u"
        refine ⟨_, rfl, _, rfl, _, rfl, _, rfl, rfl, _, rfl, ?_⟩
        by_cases c2 : first = last
        · rw [if_pos c2] at M
          exact ifT (decide_eq_true (by rw [c2])) ⟨by show 3 ≤ sizeLine; decide, fun t ht => q _ _ _ (s1.trans (same_new ht)) M ⟨t, rfl, SqT.of upd_same, M.1⟩⟩
        · rw [if_neg c2] at M
          exact ifF (decide_eq_false fun z => c2 (V.int.inj z)) ⟨_, rfl, by show 3 ≤ sizeLine; decide, fun t ht => q _ _ _ (s1.trans (same_new ht)) M ⟨t, rfl, SqT.of upd_same, M.1⟩⟩
    · refine ⟨rfl, _, rfl, ?_⟩
      have e : (!decide (V.int ((b.lo - a.lo) % gcdI a.st b.st) = V.int 0)) = true := by
        rw [decide_eq_false fun z => c0 (Int.dvd_of_emod_eq_zero (V.int.inj z))]
        rfl
      rw [e]
      exact iteT (q .non H none (Same.refl H) (met_none g1 g2 c0) rfl)
/-! ### two fences -/
def twoF (o1 o2 : Option (List V)) : Res (Fen × Fen) := match checkF o1 with
  | .ok a => match checkO o2 with
    | .ok b => .ok (a, b)
    | .row z => .row z
    | .num z => .num z
  | .row z => .row z
  | .num z => .num z
def spTwo (K : PySem.W.Frag) (C N : Addr) (good : Fen × Fen → V → Hp → Prop) : Sp := fun vs H Q E => ∃ v1 v2 o1 o2, vs = [v1, v2] ∧ RowA K H v1 o1 ∧ RowA K H v2 o2 ∧ (∀ ab, twoF o1 o2 = .ok ab → ab.1.sml 390 ∧ ab.2.sml 390) ∧ OutR K C N H good (twoF o1 o2) Q E
abbrev spOther (K : PySem.W.Frag) (C N : Addr) : Sp := fun vs H Q E => ∃ v o, vs = [v] ∧ RowA K H v o ∧ OutR K C N H (gFen K) (checkO o) Q E
/-- the two checks, one behind the other -/
theorem two_go {C N : Addr} {H : Hp} {good : Fen × Fen → V → Hp → Prop} {v1 v2 : V} {o1 o2 : Option (List V)} {Q : VK} {E : XK} {R : Addr → Addr → VK} (r1 : RowA K H v1 o1) (r2 : RowA K H v2 o2) (hs : ∀ ab, twoF o1 o2 = .ok ab → ab.1.sml 390 ∧ ab.2.sml 390) (q : OutR K C N H good (twoF o1 o2) Q E)
    {k1 k2 : VK} (h1 : ∀ v H1, k1 v H1 ↔ ∃ w, v = w ∧ spOther K C N [v2] H1 (fun u H2 => ∃ p p2, v = .ref p ∧ u = .ref p2 ∧ R p p2 u H2) E)
    (h : ∀ a b p p2 H', Same H H' → SqT K H' p a.V → SqT K H' p2 b.V → a.ok → b.ok → a.sml 390 → b.sml 390 → (∀ v H'', Same H' H'' → good (a, b) v H'' → Q v H'') → R p p2 (.ref p2) H') : spCheckF K C N [v1] H k1 E := by
  refine ⟨v1, o1, rfl, r1, ?_⟩
  unfold twoF at q hs
  cases e1 : checkF o1 with
  | row z => rw [e1] at q; exact q
  | num z => rw [e1] at q; exact q
  | ok a =>
    rw [e1] at q hs
    rintro v H1 s1 ⟨p, rfl, hp, ao⟩
    rw [h1]
    refine ⟨_, rfl, v2, o2, rfl, r2.same s1, ?_⟩
    cases e2 : checkO o2 with
    | row z => rw [e2] at q; exact OutR.same q s1
    | num z => rw [e2] at q; exact OutR.same q s1
    | ok b =>
      rw [e2] at q hs
      rintro v H2 s2 ⟨p2, rfl, hp2, bo⟩
      obtain ⟨x1, x2⟩ := hs _ rfl
      exact ⟨p, p2, rfl, rfl, h a b p p2 H2 (s1.trans s2) (st_same s2 hp) hp2 ao bo x1 x2 fun v H3 s3 g => q v H3 ((s1.trans s2).trans s3) g⟩
end
end K68

namespace K68
open PySem PySem.Spec PyProof.Rows L2 KR KK
local macro_rules | `(tactic| walk_at "u") => `(tactic| try dsimp only [tSeq, tCutS, tCutE, tCutT, tIfS, tRet, tRetN, tNext, tBreak, tCont, tDrop, tAsg, tPar, gName, gTup, gCons, gNil, tOr, tAnd, tNot, tB, tTest, tCB, tCons, tNil, tC, tVar, tAndV, tOrV, tNotV, tOp, tUn, tIf, tIsN, tNotN, tTup, tLst, tCall, tCallS, tBM, tBM0, tSl, tPart, tNoPart, tYes, iList, iTup, iSeq, iStr, iRng1, iRng2, iEnumA, rI, rI0, rU, cxOf, Cx.nox, Cx.wish, L2.start, List.map, List.set, Nat.repeat, List.length_cons, List.length_nil, List.replicate, List.nil_append, List.cons_append, List.append_nil, Nat.reduceAdd, Nat.reduceSub, E0, tBad, tTr])

theorem Fen.ok.mem0 {a : Fen} (h : a.ok) (c : a.st = 0) (v : Int) : a.mem v ↔ v = a.lo := by
  have := h.st0 c
  unfold Fen.mem
  constructor
  · rintro ⟨h1, h2, _⟩
    omega
  · intro e
    subst e
    exact ⟨Int.le_refl _, by omega, by rw [Int.sub_self]; exact Int.dvd_zero _⟩
theorem met_pt_l {a b : Fen} (ao : a.ok) (bo : b.ok) (c : a.st = 0) : IsMet a b (if hasF b a.lo = true then some a else none) := by
  by_cases h : hasF b a.lo = true
  · rw [if_pos h]
    refine ⟨ao, fun v => ⟨fun z => ⟨z, ?_⟩, fun z => z.1⟩⟩
    rw [(ao.mem0 c v).mp z]
    exact (hasF_mem bo _).mp h
  · rw [if_neg h]
    intro v z
    rw [(ao.mem0 c v).mp z.1] at z
    exact h ((hasF_mem bo _).mpr z.2)
theorem met_pt_r {a b : Fen} (ao : a.ok) (bo : b.ok) (c : b.st = 0) : IsMet a b (if hasF a b.lo = true then some b else none) := by
  by_cases h : hasF a b.lo = true
  · rw [if_pos h]
    refine ⟨bo, fun v => ⟨fun z => ⟨?_, z⟩, fun z => z.2⟩⟩
    rw [(bo.mem0 c v).mp z]
    exact (hasF_mem ao _).mp h
  · rw [if_neg h]
    intro v z
    rw [(bo.mem0 c v).mp z.2] at z
    exact h ((hasF_mem ao _).mpr z.1)
section
variable {P : Program} {w : World} {K : PySem.W.Frag} {mg : Str → Option Value} {base : Heap}
def gEither (K : PySem.W.Frag) : Fen × Fen → V → Hp → Prop := fun ab v H => gFen K (eitherF ab.1 ab.2) v H
def gBehind (K : PySem.W.Frag) : Fen × Fen → V → Hp → Prop := fun ab v H => gFen K (behindF ab.1 ab.2) v H
def gWithin : Fen × Fen → V → Hp → Prop := fun ab v _ => ∃ c : Bool, v = .bl c ∧ (c = true ↔ ∀ x, ab.1.mem x → ab.2.mem x)
def spEitherT (K : PySem.W.Frag) : Sp := fun vs H Q _ => ∃ p q a b, vs = [.ref p, .ref q] ∧ SqT K H p a.V ∧ SqT K H q b.V ∧ a.ok ∧ b.ok ∧ ∀ v H', Same H H' → gFen K (eitherF a b) v H' → Q v H'
theorem ok_either_fence {f : Addr} {fd : FuncData} (B : Bi mg) (F : Fun K "either_fence" "either_fence" s_either_fence f fd) : FnOk P w K mg base CX0 1 f fd p_either_fence (spEitherT K) := by
  refine F.ok sc_either_fence (fun vs H Q E h => ?_) (fun cdv A outer s H vs Q E hr h => ?_)
  · obtain ⟨p, q, a, b, rfl, _⟩ := h
    rfl
  · obtain ⟨p, p2, a, b, rfl, hp, hp2, ao, bo, q⟩ := h
    refine ⟨_, (pss_cons (ps_set (i := 2) sc_either_fence.nd rfl (by first | exact .inl rfl | exact .inr rfl) (pe_callBfun cr_gcd (by rfl) B.gcd (pa_cons (pe_callBfun cr_gcd (by rfl) B.gcd (pa_cons (pe_ix (ix_tupK (K := K) rfl) (pv 0) pe_int (fun _ _ => rfl)) (pa_cons (pe_ix (ix_tupK (K := K) rfl) (pv 1) pe_int (fun _ _ => rfl)) pa_nil))) (pa_cons (pe_op op_sub (pe_ix (ix_tupK (K := K) rfl) (pv 1) pe_int (fun _ _ => rfl)) (pe_ix (ix_tupK (K := K) rfl) (pv 0) pe_int (fun _ _ => rfl))) pa_nil))))
      (pss_one (ps_ret (pe_tup (pa_cons (pe_callB (call_min2 (by rfl)) (by rfl) B.min (by decide +kernel) (pa_cons (pe_ix (ix_tupK (K := K) rfl) (pv 0) pe_int (fun _ _ => rfl)) (pa_cons (pe_ix (ix_tupK (K := K) rfl) (pv 1) pe_int (fun _ _ => rfl)) pa_nil))) (pa_cons (pe_callB (call_max2 (by rfl)) (by rfl) B.max (by decide +kernel) (pa_cons (pe_ix (ix_tupK (K := K) rfl) (pv 0) pe_int (fun _ _ => rfl)) (pa_cons (pe_ix (ix_tupK (K := K) rfl) (pv 1) pe_int (fun _ _ => rfl)) pa_nil))) (pa_cons (pv 2) pa_nil))))))), ?_⟩
    walk_at "u"
    refine ⟨_, rfl, p, _, 2, _, rfl, rfl, hp, atI_nat (j := 2) rfl, _, rfl, p2, _, 2, _, rfl, rfl, hp2, atI_nat (j := 2) rfl, _, _, rfl, ?_⟩
    refine ⟨_, rfl, p2, _, 0, _, rfl, rfl, hp2, atI_nat (j := 0) rfl, _, rfl, p, _, 0, _, rfl, rfl, hp, atI_nat (j := 0) rfl, _, _, rfl, rfl, _, _, rfl, ?_⟩
    refine ⟨_, rfl, p, _, 0, _, rfl, rfl, hp, atI_nat (j := 0) rfl, _, rfl, p2, _, 0, _, rfl, rfl, hp2, atI_nat (j := 0) rfl, _, _, rfl, ?_⟩
    refine ⟨_, rfl, p, _, 1, _, rfl, rfl, hp, atI_nat (j := 1) rfl, _, rfl, p2, _, 1, _, rfl, rfl, hp2, atI_nat (j := 1) rfl, _, _, rfl, _, rfl, by show 3 ≤ sizeLine; decide, fun t ht => ?_⟩
    rw [max_if, min_if]
    exact q _ _ (same_new ht) ⟨t, rfl, SqT.of upd_same, either_ok ao bo⟩
theorem ok_fence_either {f : Addr} {fd : FuncData} (B : Bi mg) (T : BadF "BadRow" P w K mg base) (N : BadF "BadNumber" P w K mg base) (F : Fun K "fence_either" "fence_either" s_fence_either f fd)
    (Ccheck_fence : Cal P w K mg base (L2.CX P w) 3 "check_fence" p_check_fence (spCheckF K T.C N.C)) (Ccheck_other_fence : Cal P w K mg base (L2.CX P w) 3 "check_other_fence" p_check_other_fence (spOther K T.C N.C)) (Ceither_fence : Cal P w K mg base CX0 1 "either_fence" p_either_fence (spEitherT K)) : FnOk P w K mg base (L2.CX P w) 4 f fd p_fence_either (spTwo K T.C N.C (gEither K)) := by
  refine F.okX sc_fence_either (fun vs H Q E h => ?_) (fun cdv A outer s H vs Q E hr h => ?_)
  · obtain ⟨v1, v2, o1, o2, rfl, _⟩ := h
    rfl
  · obtain ⟨v1, v2, o1, o2, rfl, r1, r2, hs, q⟩ := h
    refine ⟨_, (pss_cons (ps_set (i := 2) sc_fence_either.nd rfl (by first | exact .inl rfl | exact .inr rfl) (pe_call Ccheck_fence.G (hr.mono (by decide)) (by rfl) Ccheck_fence.g Ccheck_fence.kp Ccheck_fence.b .nil (passes_call (takes_of (E := E) rfl rfl rfl rfl) (fun _ _ _ _ h => h)) (pa_cons (pv 0) pa_nil)))
      (pss_one (ps_ret (pe_call Ceither_fence.G (hr.mono (by decide)) (by rfl) Ceither_fence.g Ceither_fence.kp Ceither_fence.b .nil pass0 (pa_cons (pv 2) (pa_cons (pe_call Ccheck_other_fence.G (hr.mono (by decide)) (by rfl) Ccheck_other_fence.g Ccheck_other_fence.kp Ccheck_other_fence.b .nil (passes_call (takes_of (E := E) rfl rfl rfl rfl) (fun _ _ _ _ h => h)) (pa_cons (pv 1) pa_nil)) pa_nil)))))), ?_⟩
    walk_at "u"
    refine ⟨v1, rfl, v1, o1, rfl, r1, ?_⟩
    unfold twoF at q hs
    cases e1 : checkF o1 with
    | row z => rw [e1] at q; exact q
    | num z => rw [e1] at q; exact q
    | ok a =>
      rw [e1] at q hs
      rintro v H1 s1 ⟨p, rfl, hp, ao⟩
      walk_at "u"
      refine ⟨_, rfl, v2, rfl, v2, o2, rfl, r2.same s1, ?_⟩
      cases e2 : checkO o2 with
      | row z => rw [e2] at q; exact OutR.same q s1
      | num z => rw [e2] at q; exact OutR.same q s1
      | ok b =>
        rw [e2] at q hs
        rintro v H2 s2 ⟨p2, rfl, hp2, bo⟩
        obtain ⟨sa, sb⟩ := hs _ rfl
        have q : ∀ v H', Same H H' → (gEither K) (a, b) v H' → Q v H' := q
        have s3 := s1.trans s2
        replace hp := st_same s2 hp
        clear s1 s2
        walk_at "u"
        exact ⟨p, p2, a, b, rfl, hp, hp2, ao, bo, fun v H3 s4 g => q v H3 (s3.trans s4) g⟩
theorem ok_fence_behind {f : Addr} {fd : FuncData} (B : Bi mg) (T : BadF "BadRow" P w K mg base) (N : BadF "BadNumber" P w K mg base) (F : Fun K "fence_behind" "fence_behind" s_fence_behind f fd)
    (Ccheck_fence : Cal P w K mg base (L2.CX P w) 3 "check_fence" p_check_fence (spCheckF K T.C N.C)) (Ccheck_other_fence : Cal P w K mg base (L2.CX P w) 3 "check_other_fence" p_check_other_fence (spOther K T.C N.C)) : FnOk P w K mg base (L2.CX P w) 4 f fd p_fence_behind (spTwo K T.C N.C (gBehind K)) := by
  refine F.okX sc_fence_behind (fun vs H Q E h => ?_) (fun cdv A outer s H vs Q E hr h => ?_)
  · obtain ⟨v1, v2, o1, o2, rfl, _⟩ := h
    rfl
  · obtain ⟨v1, v2, o1, o2, rfl, r1, r2, hs, q⟩ := h
    refine ⟨_, (pss_cons (ps_set (i := 2) sc_fence_behind.nd rfl (by first | exact .inl rfl | exact .inr rfl) (pe_call Ccheck_fence.G (hr.mono (by decide)) (by rfl) Ccheck_fence.g Ccheck_fence.kp Ccheck_fence.b .nil (passes_call (takes_of (E := E) rfl rfl rfl rfl) (fun _ _ _ _ h => h)) (pa_cons (pv 0) pa_nil)))
      (pss_cons (ps_set (i := 3) sc_fence_behind.nd rfl (by first | exact .inl rfl | exact .inr rfl) (pe_call Ccheck_other_fence.G (hr.mono (by decide)) (by rfl) Ccheck_other_fence.g Ccheck_other_fence.kp Ccheck_other_fence.b .nil (passes_call (takes_of (E := E) rfl rfl rfl rfl) (fun _ _ _ _ h => h)) (pa_cons (pv 1) pa_nil)))
      (pss_one (ps_ret (pe_tup (pa_cons (pe_op op_add (pe_ix (ix_tupK (K := K) rfl) (pv 2) pe_int (fun _ _ => rfl)) (pe_ix (ix_tupK (K := K) rfl) (pv 3) pe_int (fun _ _ => rfl))) (pa_cons (pe_op op_add (pe_ix (ix_tupK (K := K) rfl) (pv 2) pe_int (fun _ _ => rfl)) (pe_ix (ix_tupK (K := K) rfl) (pv 3) pe_int (fun _ _ => rfl))) (pa_cons (pe_callBfun cr_gcd (by rfl) B.gcd (pa_cons (pe_ix (ix_tupK (K := K) rfl) (pv 2) pe_int (fun _ _ => rfl)) (pa_cons (pe_ix (ix_tupK (K := K) rfl) (pv 3) pe_int (fun _ _ => rfl)) pa_nil))) pa_nil)))))))), ?_⟩
    walk_at "u"
    refine ⟨v1, rfl, v1, o1, rfl, r1, ?_⟩
    unfold twoF at q hs
    cases e1 : checkF o1 with
    | row z => rw [e1] at q; exact q
    | num z => rw [e1] at q; exact q
    | ok a =>
      rw [e1] at q hs
      rintro v H1 s1 ⟨p, rfl, hp, ao⟩
      walk_at "u"
      refine ⟨v2, rfl, v2, o2, rfl, r2.same s1, ?_⟩
      cases e2 : checkO o2 with
      | row z => rw [e2] at q; exact OutR.same q s1
      | num z => rw [e2] at q; exact OutR.same q s1
      | ok b =>
        rw [e2] at q hs
        rintro v H2 s2 ⟨p2, rfl, hp2, bo⟩
        obtain ⟨sa, sb⟩ := hs _ rfl
        have q : ∀ v H', Same H H' → (gBehind K) (a, b) v H' → Q v H' := q
        have s3 := s1.trans s2
        replace hp := st_same s2 hp
        clear s1 s2
        walk_at "u"
        refine ⟨_, rfl, p, _, 0, _, rfl, rfl, hp, atI_nat (j := 0) rfl, _, rfl, p2, _, 0, _, rfl, rfl, hp2, atI_nat (j := 0) rfl, _, _, rfl, rfl, ?_⟩
        refine ⟨_, rfl, p, _, 1, _, rfl, rfl, hp, atI_nat (j := 1) rfl, _, rfl, p2, _, 1, _, rfl, rfl, hp2, atI_nat (j := 1) rfl, _, _, rfl, rfl, ?_⟩
        refine ⟨_, rfl, p, _, 2, _, rfl, rfl, hp, atI_nat (j := 2) rfl, _, rfl, p2, _, 2, _, rfl, rfl, hp2, atI_nat (j := 2) rfl, _, _, rfl, by show 3 ≤ sizeLine; decide, fun t ht => ?_⟩
        exact q _ _ (s3.trans (same_new ht)) ⟨t, rfl, SqT.of upd_same, behind_ok ao bo⟩
theorem ok_is_fence_within {f : Addr} {fd : FuncData} (B : Bi mg) (T : BadF "BadRow" P w K mg base) (N : BadF "BadNumber" P w K mg base) (F : Fun K "is_fence_within" "is_fence_within" s_is_fence_within f fd)
    (Ccheck_fence : Cal P w K mg base (L2.CX P w) 3 "check_fence" p_check_fence (spCheckF K T.C N.C)) (Ccheck_other_fence : Cal P w K mg base (L2.CX P w) 3 "check_other_fence" p_check_other_fence (spOther K T.C N.C)) (Cholds_number : Cal P w K mg base CX0 1 "holds_number" p_holds_number (spHolds K)) : FnOk P w K mg base (L2.CX P w) 4 f fd p_is_fence_within (spTwo K T.C N.C (gWithin)) := by
  refine F.okX sc_is_fence_within (fun vs H Q E h => ?_) (fun cdv A outer s H vs Q E hr h => ?_)
  · obtain ⟨v1, v2, o1, o2, rfl, _⟩ := h
    rfl
  · obtain ⟨v1, v2, o1, o2, rfl, r1, r2, hs, q⟩ := h
    refine ⟨_, (pss_cons (ps_set (i := 2) sc_is_fence_within.nd rfl (by first | exact .inl rfl | exact .inr rfl) (pe_call Ccheck_fence.G (hr.mono (by decide)) (by rfl) Ccheck_fence.g Ccheck_fence.kp Ccheck_fence.b .nil (passes_call (takes_of (E := E) rfl rfl rfl rfl) (fun _ _ _ _ h => h)) (pa_cons (pv 0) pa_nil)))
      (pss_cons (ps_set (i := 3) sc_is_fence_within.nd rfl (by first | exact .inl rfl | exact .inr rfl) (pe_call Ccheck_other_fence.G (hr.mono (by decide)) (by rfl) Ccheck_other_fence.g Ccheck_other_fence.kp Ccheck_other_fence.b .nil (passes_call (takes_of (E := E) rfl rfl rfl rfl) (fun _ _ _ _ h => h)) (pa_cons (pv 1) pa_nil)))
      (pss_cons (ps_if (PW.pt (pw_or (pt_not (pt_val (pe_call Cholds_number.G (hr.mono (by decide)) (by rfl) Cholds_number.g Cholds_number.kp Cholds_number.b .nil pass0 (pa_cons (pv 3) (pa_cons (pe_ix (ix_tupK (K := K) rfl) (pv 2) pe_int (fun _ _ => rfl)) pa_nil))))) (pw_or1 (pt_not (pt_val (pe_call Cholds_number.G (hr.mono (by decide)) (by rfl) Cholds_number.g Cholds_number.kp Cholds_number.b .nil pass0 (pa_cons (pv 3) (pa_cons (pe_ix (ix_tupK (K := K) rfl) (pv 2) pe_int (fun _ _ => rfl)) pa_nil))))))))
      (pss_one (ps_ret pe_bl))
      pss_nil)
      (pss_one (ps_ret (pe_or (pe_cmpR op_eq (pe_ix (ix_tupK (K := K) rfl) (pv 2) pe_int (fun _ _ => rfl)) pe_int (nomark _)) (pe_one (pe_cmpR op_eq (pe_op op_mod (pe_ix (ix_tupK (K := K) rfl) (pv 2) pe_int (fun _ _ => rfl)) (pe_ix (ix_tupK (K := K) rfl) (pv 3) pe_int (fun _ _ => rfl))) pe_int (nomark _))))))))), ?_⟩
    walk_at "u"
    refine ⟨v1, rfl, v1, o1, rfl, r1, ?_⟩
    unfold twoF at q hs
    cases e1 : checkF o1 with
    | row z => rw [e1] at q; exact q
    | num z => rw [e1] at q; exact q
    | ok a =>
      rw [e1] at q hs
      rintro v H1 s1 ⟨p, rfl, hp, ao⟩
      walk_at "u"
      refine ⟨v2, rfl, v2, o2, rfl, r2.same s1, ?_⟩
      cases e2 : checkO o2 with
      | row z => rw [e2] at q; exact OutR.same q s1
      | num z => rw [e2] at q; exact OutR.same q s1
      | ok b =>
        rw [e2] at q hs
        rintro v H2 s2 ⟨p2, rfl, hp2, bo⟩
        obtain ⟨sa, sb⟩ := hs _ rfl
        have q : ∀ v H', Same H H' → (gWithin) (a, b) v H' → Q v H' := q
        have s3 := s1.trans s2
        replace hp := st_same s2 hp
        clear s1 s2
        walk_at "u"
        have key := within_iff ao bo
        refine ⟨_, rfl, _, rfl, p, _, 0, _, rfl, rfl, hp, atI_nat (j := 0) rfl, p2, b, a.lo, rfl, hp2, bo, _, rfl, ?_⟩
        cases h1 : hasF b a.lo with
        | false =>
          exact iteT (iteT (q _ _ s3 ⟨false, rfl, ⟨fun z => (by cases z), fun z => absurd ((hasF_mem bo _).mpr (key.mp z).1) (by rw [h1]; exact Bool.false_ne_true)⟩⟩))
        | true =>
          refine iteF ⟨_, rfl, _, rfl, p, _, 1, _, rfl, rfl, hp, atI_nat (j := 1) rfl, p2, b, a.hi, rfl, hp2, bo, _, rfl, ?_⟩
          cases h2 : hasF b a.hi with
          | false =>
            exact iteT (q _ _ s3 ⟨false, rfl, ⟨fun z => (by cases z), fun z => absurd ((hasF_mem bo _).mpr (key.mp z).2.1) (by rw [h2]; exact Bool.false_ne_true)⟩⟩)
          | true =>
            have m1 := (hasF_mem bo _).mp h1
            have m2 := (hasF_mem bo _).mp h2
            refine iteF ⟨_, rfl, p, _, 2, _, rfl, rfl, hp, atI_nat (j := 2) rfl, rfl, _, rfl, ?_⟩
            by_cases c : a.st = 0
            · refine ifT (decide_eq_true (by rw [c])) (q _ _ s3 ⟨true, rfl, ⟨fun _ => key.mpr ⟨m1, m2, by rw [c]; exact Int.dvd_zero _⟩, fun _ => rfl⟩⟩)
            · have lt : a.lo < a.hi := by
                have x1 := ao.2.1
                have x2 := ao.2.2.2
                omega
              have bp : 0 < b.st := bo.stp (by
                obtain ⟨y1, y2, _⟩ := m1
                obtain ⟨y3, y4, _⟩ := m2
                omega)
              refine ifF (decide_eq_false fun z => c (V.int.inj z)) ⟨_, rfl, p, _, 2, _, rfl, rfl, hp, atI_nat (j := 2) rfl, _, rfl, p2, _, 2, _, rfl, rfl, hp2, atI_nat (j := 2) rfl, _, _, rfl, rfl, bp, rfl, q _ _ s3 ⟨_, rfl, ?_⟩⟩
              rw [decide_eq_true_iff, key]
              constructor
              · intro z
                exact ⟨m1, m2, Int.dvd_of_emod_eq_zero (V.int.inj z)⟩
              · rintro ⟨_, _, z⟩
                rw [Int.emod_eq_zero_of_dvd z]
theorem ok_fences_met {f : Addr} {fd : FuncData} (B : Bi mg) (T : BadF "BadRow" P w K mg base) (N : BadF "BadNumber" P w K mg base) (F : Fun K "fences_met" "fences_met" s_fences_met f fd)
    (Ccheck_fence : Cal P w K mg base (L2.CX P w) 3 "check_fence" p_check_fence (spCheckF K T.C N.C)) (Ccheck_other_fence : Cal P w K mg base (L2.CX P w) 3 "check_other_fence" p_check_other_fence (spOther K T.C N.C)) (Cholds_number : Cal P w K mg base CX0 1 "holds_number" p_holds_number (spHolds K)) (Ccommon_numbers : Cal P w K mg base CX0 2 "common_numbers" p_common_numbers (spCommon K)) : FnOk P w K mg base (L2.CX P w) 4 f fd p_fences_met (spTwo K T.C N.C (gMet K)) := by
  refine F.okX sc_fences_met (fun vs H Q E h => ?_) (fun cdv A outer s H vs Q E hr h => ?_)
  · obtain ⟨v1, v2, o1, o2, rfl, _⟩ := h
    rfl
  · obtain ⟨v1, v2, o1, o2, rfl, r1, r2, hs, q⟩ := h
    refine ⟨_, (pss_cons (ps_set (i := 2) sc_fences_met.nd rfl (by first | exact .inl rfl | exact .inr rfl) (pe_call Ccheck_fence.G (hr.mono (by decide)) (by rfl) Ccheck_fence.g Ccheck_fence.kp Ccheck_fence.b .nil (passes_call (takes_of (E := E) rfl rfl rfl rfl) (fun _ _ _ _ h => h)) (pa_cons (pv 0) pa_nil)))
      (pss_cons (ps_set (i := 3) sc_fences_met.nd rfl (by first | exact .inl rfl | exact .inr rfl) (pe_call Ccheck_other_fence.G (hr.mono (by decide)) (by rfl) Ccheck_other_fence.g Ccheck_other_fence.kp Ccheck_other_fence.b .nil (passes_call (takes_of (E := E) rfl rfl rfl rfl) (fun _ _ _ _ h => h)) (pa_cons (pv 1) pa_nil)))
      (pss_cons (ps_if (pt_cmpR op_eq (pe_ix (ix_tupK (K := K) rfl) (pv 2) pe_int (fun _ _ => rfl)) pe_int (nomark _))
      (pss_one (ps_ret (pe_ifExp (pt_val (pe_call Cholds_number.G (hr.mono (by decide)) (by rfl) Cholds_number.g Cholds_number.kp Cholds_number.b .nil pass0 (pa_cons (pv 3) (pa_cons (pe_ix (ix_tupK (K := K) rfl) (pv 2) pe_int (fun _ _ => rfl)) pa_nil)))) (pv 2) pe_non)))
      pss_nil)
      (pss_cons (ps_if (pt_cmpR op_eq (pe_ix (ix_tupK (K := K) rfl) (pv 3) pe_int (fun _ _ => rfl)) pe_int (nomark _))
      (pss_one (ps_ret (pe_ifExp (pt_val (pe_call Cholds_number.G (hr.mono (by decide)) (by rfl) Cholds_number.g Cholds_number.kp Cholds_number.b .nil pass0 (pa_cons (pv 2) (pa_cons (pe_ix (ix_tupK (K := K) rfl) (pv 3) pe_int (fun _ _ => rfl)) pa_nil)))) (pv 3) pe_non)))
      pss_nil)
      (pss_one (ps_ret (pe_call Ccommon_numbers.G (hr.mono (by decide)) (by rfl) Ccommon_numbers.g Ccommon_numbers.kp Ccommon_numbers.b .nil pass0 (pa_cons (pv 2) (pa_cons (pv 3) pa_nil))))))))), ?_⟩
    walk_at "u"
    refine ⟨v1, rfl, v1, o1, rfl, r1, ?_⟩
    unfold twoF at q hs
    cases e1 : checkF o1 with
    | row z => rw [e1] at q; exact q
    | num z => rw [e1] at q; exact q
    | ok a =>
      rw [e1] at q hs
      rintro v H1 s1 ⟨p, rfl, hp, ao⟩
      walk_at "u"
      refine ⟨v2, rfl, v2, o2, rfl, r2.same s1, ?_⟩
      cases e2 : checkO o2 with
      | row z => rw [e2] at q; exact OutR.same q s1
      | num z => rw [e2] at q; exact OutR.same q s1
      | ok b =>
        rw [e2] at q hs
        rintro v H2 s2 ⟨p2, rfl, hp2, bo⟩
        obtain ⟨sa, sb⟩ := hs _ rfl
        have q : ∀ v H', Same H H' → (gMet K) (a, b) v H' → Q v H' := q
        have s3 := s1.trans s2
        replace hp := st_same s2 hp
        clear s1 s2
        walk_at "u"
        refine ⟨_, rfl, p, _, 2, _, rfl, rfl, hp, atI_nat (j := 2) rfl, rfl, _, rfl, ?_⟩
        by_cases c : a.st = 0
        · have M := met_pt_l (b := b) ao bo c
          refine ifT (decide_eq_true (by rw [c])) ⟨_, rfl, _, rfl, p, _, 0, _, rfl, rfl, hp, atI_nat (j := 0) rfl, p2, b, a.lo, rfl, hp2, bo, _, rfl, ?_⟩
          cases h1 : hasF b a.lo with
          | false =>
            rw [h1] at M
            exact iteF (q _ _ s3 ⟨none, M, rfl⟩)
          | true =>
            rw [h1] at M
            exact iteT ⟨_, rfl, q _ _ s3 ⟨some a, M, p, rfl, hp, ao⟩⟩
        · refine ifF (decide_eq_false fun z => c (V.int.inj z)) ⟨_, rfl, p2, _, 2, _, rfl, rfl, hp2, atI_nat (j := 2) rfl, rfl, _, rfl, ?_⟩
          by_cases c2 : b.st = 0
          · have M := met_pt_r (a := a) ao bo c2
            refine ifT (decide_eq_true (by rw [c2])) ⟨_, rfl, _, rfl, p2, _, 0, _, rfl, rfl, hp2, atI_nat (j := 0) rfl, p, a, b.lo, rfl, hp, ao, _, rfl, ?_⟩
            cases h1 : hasF a b.lo with
            | false =>
              rw [h1] at M
              exact iteF (q _ _ s3 ⟨none, M, rfl⟩)
            | true =>
              rw [h1] at M
              exact iteT ⟨_, rfl, q _ _ s3 ⟨some b, M, p2, rfl, hp2, bo⟩⟩
          · have x1 := ao.1
            have x2 := bo.1
            exact ifF (decide_eq_false fun z => c2 (V.int.inj z)) ⟨_, rfl, _, rfl, p, p2, a, b, rfl, hp, hp2, ao, bo, by omega, by omega, sa, sb, fun v H3 o s4 M g => q _ _ (s3.trans s4) ⟨o, M, g⟩⟩
/-! ### fence_times -/
def timesR (o : Option (List V)) (k : V) : Res (Int × Fen) := match checkF o with
  | .ok f => match checkN k 1 with
    | .ok k => .ok (k, f)
    | .row z => .row z
    | .num z => .num z
  | .row z => .row z
  | .num z => .num z
def gTimes (K : PySem.W.Frag) : Int × Fen → V → Hp → Prop := fun kf v H => gFen K (timesF kf.1 kf.2) v H
theorem checkN_ok {v : V} {l k : Int} (h : checkN v l = .ok k) : v = .int k ∧ l ≤ k := by
  unfold checkN at h
  split at h
  · split at h
    · cases h
    · cases h
      exact ⟨rfl, by omega⟩
  · cases h
def spTimes (K : PySem.W.Frag) (C N : Addr) : Sp := fun vs H Q E => ∃ v o k, vs = [v, k] ∧ RowA K H v o ∧ flat k = true ∧ (∀ kf, timesR o k = .ok kf → kf.1.natAbs < 2 ^ 390 ∧ kf.2.sml 390) ∧ OutR K C N H (gTimes K) (timesR o k) Q E
theorem ok_fence_times {f : Addr} {fd : FuncData} (B : Bi mg) (T : BadF "BadRow" P w K mg base) (N : BadF "BadNumber" P w K mg base) (F : Fun K "fence_times" "fence_times" s_fence_times f fd)
    (Ccheck_fence : Cal P w K mg base (L2.CX P w) 3 "check_fence" p_check_fence (spCheckF K T.C N.C)) (Ccheck_number : Cal P w K mg base (L2.CX P w) 3 "check_number" p_check_number (spCheckN K T.C N.C)) : FnOk P w K mg base (L2.CX P w) 4 f fd p_fence_times (spTimes K T.C N.C) := by
  refine F.okX sc_fence_times (fun vs H Q E h => ?_) (fun cdv A outer s H vs Q E hr h => ?_)
  · obtain ⟨v, o, k, rfl, _⟩ := h
    rfl
  · obtain ⟨v, o, k, rfl, ra, fk, hs, q⟩ := h
    refine ⟨_, (pss_cons (ps_asg (pe_call Ccheck_fence.G (hr.mono (by decide)) (by rfl) Ccheck_fence.g Ccheck_fence.kp Ccheck_fence.b .nil (passes_call (takes_of (E := E) rfl rfl rfl rfl) (fun _ _ _ _ h => h)) (pa_cons (pv 0) pa_nil)) (pg_tup rfl (pgs_cons (pg_name (i := 2) sc_fence_times.nd rfl (by first | exact .inl rfl | exact .inr rfl)) (pgs_cons (pg_name (i := 3) sc_fence_times.nd rfl (by first | exact .inl rfl | exact .inr rfl)) (pgs_cons (pg_name (i := 4) sc_fence_times.nd rfl (by first | exact .inl rfl | exact .inr rfl)) pgs_nil)))))
      (pss_cons (ps_expr (pe_call Ccheck_number.G (hr.mono (by decide)) (by rfl) Ccheck_number.g Ccheck_number.kp Ccheck_number.b .nil (passes_call (takes_of (E := E) rfl rfl rfl rfl) (fun _ _ _ _ h => h)) (pa_cons (pv 1) (pa_cons pe_int pa_nil))))
      (pss_one (ps_ret (pe_tup (pa_cons (pe_op op_mulW (pv 1) (pv 2)) (pa_cons (pe_op op_mulW (pv 1) (pv 3)) (pa_cons (pv 4) pa_nil)))))))), ?_⟩
    walk_at "u"
    refine ⟨v, rfl, v, o, rfl, ra, ?_⟩
    unfold timesR at q hs
    cases e1 : checkF o with
    | row z => rw [e1] at q; exact q
    | num z => rw [e1] at q; exact q
    | ok a =>
      rw [e1] at q hs
      rintro v' H1 s1 ⟨p, rfl, hp, ao⟩
      refine ⟨p, _, rfl, hp, rfl, _, _, rfl, _, _, rfl, _, _, rfl, rfl, ?_⟩
      walk_at "u"
      refine ⟨k, rfl, k, 1, rfl, fk, ?_⟩
      cases e2 : checkN k 1 with
      | row z => rw [e2] at q; exact OutR.same q s1
      | num z => rw [e2] at q; exact OutR.same q s1
      | ok i =>
        rw [e2] at q hs
        rintro v' H2 s2 -
        obtain ⟨rfl, ki⟩ := checkN_ok e2
        have q : ∀ v H', Same H H' → gTimes K (i, a) v H' → Q v H' := q
        obtain ⟨z1, z2⟩ := hs _ rfl
        exact ⟨_, rfl, _, rfl, _, _, rfl, rfl, mulW z1 z2.1 (by decide) (by decide), _, rfl, _, rfl, _, _, rfl, rfl, mulW z1 z2.2 (by decide) (by decide), _, rfl, by show 3 ≤ sizeLine; decide, fun t ht => q _ _ ((s1.trans s2).trans (same_new ht)) ⟨t, rfl, SqT.of upd_same, times_ok ki ao⟩⟩
end
end K68

namespace K68
open PySem PySem.Spec PyProof.Rows L2 KR KK
local macro_rules | `(tactic| walk_at "u") => `(tactic| try dsimp only [tSeq, tCutS, tCutE, tCutT, tIfS, tRet, tRetN, tNext, tBreak, tCont, tDrop, tAsg, tPar, gName, gTup, gCons, gNil, tOr, tAnd, tNot, tB, tTest, tCB, tCons, tNil, tC, tVar, tAndV, tOrV, tNotV, tOp, tUn, tIf, tIsN, tNotN, tTup, tLst, tCall, tCallS, tBM, tBM0, tSl, tPart, tNoPart, tYes, iList, iTup, iSeq, iStr, iRng1, iRng2, iEnumA, rI, rI0, rU, cxOf, Cx.nox, Cx.wish, L2.start, List.map, List.set, Nat.repeat, List.length_cons, List.length_nil, List.replicate, List.nil_append, List.cons_append, List.append_nil, Nat.reduceAdd, Nat.reduceSub, E0, tBad, tTr])

theorem pair_at {α β : Type} {F : α → β → Prop} : ∀ {l₁ : List α} {l₂ : List β} {i : Nat} {x : α}, Paired F l₁ l₂ → l₁[i]? = some x → ∃ y, l₂[i]? = some y ∧ F x y
  | _, _, _, _, .nil, h => by simp at h
  | _, _, 0, _, .cons f _, h => by
    have e := Option.some.inj h
    subst e
    exact ⟨_, rfl, f⟩
  | _, _, i + 1, _, .cons _ r, h => pair_at (i := i) r h
theorem pair_cat {α β : Type} {F : α → β → Prop} : ∀ {l₁ : List α} {l₂ : List β} {m₁ : List α} {m₂ : List β}, Paired F l₁ l₂ → Paired F m₁ m₂ → Paired F (l₁ ++ m₁) (l₂ ++ m₂)
  | _, _, _, _, .nil, h => h
  | _, _, _, _, .cons f r, h => .cons f (pair_cat r h)
theorem free_of {H H1 : Hp} {D : Addr} (e : Same H H1) (h : H1 D = none) : H D = none := by
  cases z : H D with
  | none => rfl
  | some u =>
    rw [e _ _ z] at h
    cases h
/-! ### _law_equal: two values of one datum -/
mutual
def okD : PyData → Bool
  | .none => true
  | .bool _ => true
  | .int _ => true
  | .str s => PyData.strOk s && decide (s.length ≤ 1000)
  | .tuple ds => okAll ds
  | .list _ => false
  | .dict _ => false
def okAll : List PyData → Bool
  | [] => true
  | d :: ds => okD d && okAll ds
end
mutual
def nodes : PyData → Nat
  | .tuple ds => 1 + nodesAll ds
  | .none => 1
  | .bool _ => 1
  | .int _ => 1
  | .str _ => 1
  | .list _ => 1
  | .dict _ => 1
def nodesAll : List PyData → Nat
  | [] => 0
  | d :: ds => nodes d + nodesAll ds
end
theorem nodes_pos : ∀ d : PyData, 1 ≤ nodes d
  | .tuple ds => by simp only [nodes]; omega
  | .none => by simp only [nodes]; omega
  | .bool _ => by simp only [nodes]; omega
  | .int _ => by simp only [nodes]; omega
  | .str _ => by simp only [nodes]; omega
  | .list _ => by simp only [nodes]; omega
  | .dict _ => by simp only [nodes]; omega
theorem nodesAll_cat : ∀ (a b : List PyData), nodesAll (a ++ b) = nodesAll a + nodesAll b
  | [], b => by simp [nodesAll]
  | d :: a, b => by
    show nodesAll (d :: (a ++ b)) = _
    simp only [nodesAll]
    rw [nodesAll_cat a b]
    omega
theorem nodesAll_len : ∀ (a : List PyData), a.length ≤ nodesAll a
  | [] => by simp [nodesAll]
  | d :: a => by
    simp only [nodesAll, List.length_cons]
    have h1 := nodes_pos d
    have h2 := nodesAll_len a
    omega
theorem nodesAll_take (a : List PyData) (i : Nat) : nodesAll (a.take i) ≤ nodesAll a := by
  have h := nodesAll_cat (a.take i) (a.drop i)
  rw [List.take_append_drop] at h
  omega
theorem okAll_mem : ∀ {a : List PyData}, okAll a = true → ∀ d ∈ a, okD d = true
  | [], _, d, m => by cases m
  | x :: r, h, d, m => by
    have h' : (okD x && okAll r) = true := by simpa only [okAll] using h
    rw [Bool.and_eq_true] at h'
    rcases List.mem_cons.mp m with z | z
    · rw [z]; exact h'.1
    · exact okAll_mem h'.2 d z
theorem dpAll_at {K : PySem.W.Frag} {H : Hp} : ∀ {vs : List V} {ds : List PyData} {i : Nat} {d : PyData}, DpAll K H vs ds → ds[i]? = some d → ∃ v, vs[i]? = some v ∧ Dp K H v d
  | _, _, _, _, .nil, h => by simp at h
  | _, _, 0, _, .cons f _, h => by
    have e := Option.some.inj h
    subst e
    exact ⟨_, rfl, f⟩
  | _, _, i + 1, _, .cons _ r, h => dpAll_at (i := i) r h
theorem dpAll_len {K : PySem.W.Frag} {H : Hp} : ∀ {vs : List V} {ds : List PyData}, DpAll K H vs ds → vs.length = ds.length
  | _, _, .nil => rfl
  | _, _, .cons _ r => by rw [List.length_cons, List.length_cons, dpAll_len r]
theorem pair_last {α β : Type} {F : α → β → Prop} : ∀ {l : List α} {x : α} {m : List β}, Paired F (l ++ [x]) m → ∃ m0 d, m = m0 ++ [d] ∧ Paired F l m0 ∧ F x d
  | [], x, _, .cons f .nil => ⟨[], _, rfl, .nil, f⟩
  | a :: l, x, _, .cons f r => by
    obtain ⟨m0, d, rfl, h1, h2⟩ := pair_last r
    exact ⟨_ :: m0, d, rfl, .cons f h1, h2⟩
mutual
theorem dp_b {K : PySem.W.Frag} {H H' : Hp} {w : Addr} {ws : List V} (hw : H w = some (.lst ws)) (e : SameB w H H') : ∀ {d : PyData} {v : V}, okD d = true → Dp K H v d → Dp K H' v d
  | .none, _, _, h => by cases h; exact .non
  | .bool b, _, _, h => by cases h; exact .bl b
  | .int i, _, _, h => by cases h; exact .int i
  | .str x, _, _, h => by cases h; exact .str x
  | .list ds, _, z, h => by simp [okD] at z
  | .tuple ds, _, z, h => by
    cases h with
    | tup hs ha => exact .tup (st_b hw e hs) (dpAll_b hw e (by simpa only [okD] using z) ha)
  | .dict _, _, _, h => by cases h
theorem dpAll_b {K : PySem.W.Frag} {H H' : Hp} {w : Addr} {ws : List V} (hw : H w = some (.lst ws)) (e : SameB w H H') : ∀ {ds : List PyData} {vs : List V}, okAll ds = true → DpAll K H vs ds → DpAll K H' vs ds
  | [], _, _, h => by cases h; exact .nil
  | d :: ds, _, z, h => by
    have z' : (okD d && okAll ds) = true := by simpa only [okAll] using z
    rw [Bool.and_eq_true] at z'
    cases h with
    | cons h1 h2 => exact .cons (dp_b hw e z'.1 h1) (dpAll_b hw e z'.2 h2)
end
/-- a pair that waits -/
def IsPr (K : PySem.W.Frag) (H : Hp) (x : V) (d : PyData) : Prop := okD d = true ∧ ∃ t a b, x = .ref t ∧ SqT K H t [a, b] ∧ Dp K H a d ∧ Dp K H b d
theorem IsPr.same {K : PySem.W.Frag} {H H' : Hp} {x : V} {d : PyData} (e : Same H H') (h : IsPr K H x d) : IsPr K H' x d := by
  obtain ⟨o, t, a, b, r, h1, h2, h3⟩ := h
  exact ⟨o, t, a, b, r, st_same e h1, dp_same e h2, dp_same e h3⟩
theorem IsPr.b {K : PySem.W.Frag} {H H' : Hp} {w : Addr} {ws : List V} {x : V} {d : PyData} (hw : H w = some (.lst ws)) (e : SameB w H H') (h : IsPr K H x d) : IsPr K H' x d := by
  obtain ⟨z, t, a, b, r, h1, h2, h3⟩ := h
  exact ⟨z, t, a, b, r, st_b hw e h1, dp_b hw e z h2, dp_b hw e z h3⟩
theorem r_neSame {H : Hp} {b : Bool} {Q : VK} (q : Q (.bl false) H) : rNe (.bl b) (.bl b) H Q := ⟨rfl, by rw [decide_eq_true rfl]; exact q⟩
theorem r_neEq {H : Hp} {i j : Int} {Q : VK} (e : i = j) (q : Q (.bl false) H) : rNe (.int i) (.int j) H Q := ⟨rfl, by rw [e, decide_eq_true rfl]; exact q⟩
theorem r_neDSame {K : PySem.W.Frag} {H : Hp} {v : V} {Q : VK} (h : flat v = true) (q : Q (.bl false) H) : rNeD K v v H Q := by
  refine ⟨_, _, dp_flat h, dp_flat h, shaped_flat h, shaped_flat h, ?_⟩
  have e : PyData.eqv (toD v) (toD v) = true := by
    cases v with
    | non => show PyData.eqv .none .none = true; simp only [PyData.eqv]
    | bl b => show PyData.eqv (.bool b) (.bool b) = true; simp [PyData.eqv]
    | int i => show PyData.eqv (.int i) (.int i) = true; simp [PyData.eqv]
    | str t => show PyData.eqv (.str t) (.str t) = true; simp [PyData.eqv]
    | _ => cases h
  rw [e]
  exact q
section
variable {P : Program} {w : World} {K : PySem.W.Frag} {mg : Str → Option Value} {base : Heap}
def spJust (K : PySem.W.Frag) : Sp := fun vs H Q _ => ∃ a b d, vs = [a, b] ∧ Dp K H a d ∧ Dp K H b d ∧ okD d = true ∧ nodes d ≤ 100000 ∧ ∀ H', Same H H' → Q (.bl true) H'
theorem ok_law_just {f : Addr} {fd : FuncData} (B : Bi mg) (F : Fun K "_law_just" "_law_just" s_law_just f fd) : FnOk P w K mg base CX0 1 f fd p_law_just (spJust K) := by
  refine F.ok sc_law_just (fun vs H Q E h => ?_) (fun cdv A outer s H vs Q E hr h => ?_)
  · obtain ⟨a, b, d, rfl, _⟩ := h
    rfl
  · obtain ⟨told, due, d, rfl, h1, h2, hok, hn, q⟩ := h
    refine ⟨_, (pss_cons (ps_set (i := 2) sc_law_just.nd rfl (by first | exact .inl rfl | exact .inr rfl) (pe_lst (pa_cons (pe_tup (pa_cons (pv 0) (pa_cons (pv 1) pa_nil))) pa_nil)))
      (pss_cons (ps_for PassesOwn.never rfl (pi_range1 rfl B.range (pa_cons pe_int pa_nil)) (pg_name (i := 3) sc_law_just.nd rfl (by first | exact .inl rfl | exact .inr rfl))
      (pss_cons (ps_if (pt_cmpR op_eq (pe_callB (call_lenK (K := K) rfl) (by rfl) B.len PySem.boot_len (pa_cons (pv 2) pa_nil)) pe_int (nomark _))
      (pss_one (ps_ret pe_bl))
      pss_nil)
      (pss_cons (ps_asg (pe_bm0 PySem.F.plainAttrs_list PySem.F.slot_list_pop PySem.F.type_list_pop mt_pop (pv 2)) (pg_tup rfl (pgs_cons (pg_name (i := 4) sc_law_just.nd rfl (by first | exact .inl rfl | exact .inr rfl)) (pgs_cons (pg_name (i := 5) sc_law_just.nd rfl (by first | exact .inl rfl | exact .inr rfl)) pgs_nil))))
      (pss_one (ps_if (pt_val (pe_callB (call_isiK1 (K := K) rfl) (by rfl) B.isinstance (by decide +kernel) (pa_cons (pv 5) (pa_cons (pe_bltn (v := .ty "tuple") (by rfl) B.tuple_ (by decide +kernel) rfl) pa_nil))))
      (pss_cons (ps_if (PW.pt (pw_or (pt_not (pt_val (pe_callB (call_isiK1 (K := K) rfl) (by rfl) B.isinstance (by decide +kernel) (pa_cons (pv 4) (pa_cons (pe_bltn (v := .ty "tuple") (by rfl) B.tuple_ (by decide +kernel) rfl) pa_nil))))) (pw_or1 (pt_cmpR op_ne (pe_callB (call_lenK (K := K) rfl) (by rfl) B.len PySem.boot_len (pa_cons (pv 4) pa_nil)) (pe_callB (call_lenK (K := K) rfl) (by rfl) B.len PySem.boot_len (pa_cons (pv 5) pa_nil)) (nomark _)))))
      (pss_one (ps_ret pe_bl))
      pss_nil)
      (pss_one (ps_for PassesOwn.never rfl (pi_range1 rfl B.range (pa_cons (pe_callB (call_lenK (K := K) rfl) (by rfl) B.len PySem.boot_len (pa_cons (pv 5) pa_nil)) pa_nil)) (pg_name (i := 6) sc_law_just.nd rfl (by first | exact .inl rfl | exact .inr rfl))
      (pss_one (ps_expr (pe_bm PySem.F.plainAttrs_list PySem.F.slot_list_append PySem.F.type_list_append mt_append (pv 2) (pa_cons (pe_tup (pa_cons (pe_ix (ix_tupK (K := K) rfl) (pv 4) (pv 6) (fun _ _ => rfl)) (pa_cons (pe_ix (ix_tupK (K := K) rfl) (pv 5) (pv 6) (fun _ _ => rfl)) pa_nil))) pa_nil)))))))
      (pss_one (ps_if (pt_cmp (pc_isN (pv 5)))
      (pss_one (ps_if (pt_cmp (pc_notN (pv 4)))
      (pss_one (ps_ret pe_bl))
      pss_nil))
      (pss_one (ps_if (pt_val (pe_callB (call_isiK1 (K := K) rfl) (by rfl) B.isinstance (by decide +kernel) (pa_cons (pv 5) (pa_cons (pe_bltn (v := .ty "bool") (by rfl) B.bool_ (by decide +kernel) rfl) pa_nil))))
      (pss_one (ps_if (PW.pt (pw_or (pt_not (pt_val (pe_callB (call_isiK1 (K := K) rfl) (by rfl) B.isinstance (by decide +kernel) (pa_cons (pv 4) (pa_cons (pe_bltn (v := .ty "bool") (by rfl) B.bool_ (by decide +kernel) rfl) pa_nil))))) (pw_or1 (pt_cmpR (op_neDK (K := K) rfl hr.units) (pv 4) (pv 5) (nomark _)))))
      (pss_one (ps_ret pe_bl))
      pss_nil))
      (pss_one (ps_if (pt_val (pe_callB (call_isiK1 (K := K) rfl) (by rfl) B.isinstance (by decide +kernel) (pa_cons (pv 5) (pa_cons (pe_bltn (v := .ty "int") (by rfl) B.int_ (by decide +kernel) rfl) pa_nil))))
      (pss_one (ps_if (PW.pt (pw_or (pt_not (pt_val (pe_callB (call_isiK1 (K := K) rfl) (by rfl) B.isinstance (by decide +kernel) (pa_cons (pv 4) (pa_cons (pe_bltn (v := .ty "int") (by rfl) B.int_ (by decide +kernel) rfl) pa_nil))))) (pw_or (pt_val (pe_callB (call_isiK1 (K := K) rfl) (by rfl) B.isinstance (by decide +kernel) (pa_cons (pv 4) (pa_cons (pe_bltn (v := .ty "bool") (by rfl) B.bool_ (by decide +kernel) rfl) pa_nil)))) (pw_or1 (pt_cmpR (op_neDK (K := K) rfl hr.units) (pv 4) (pv 5) (nomark _))))))
      (pss_one (ps_ret pe_bl))
      pss_nil))
      (pss_one (ps_if (PW.pt (pw_or (pt_not (pt_val (pe_callB (call_isiK1 (K := K) rfl) (by rfl) B.isinstance (by decide +kernel) (pa_cons (pv 4) (pa_cons (pe_bltn (v := .ty "str") (by rfl) B.str_ (by decide +kernel) rfl) pa_nil))))) (pw_or1 (pt_cmpR (op_neDK (K := K) rfl hr.units) (pv 4) (pv 5) (nomark _)))))
      (pss_one (ps_ret pe_bl))
      pss_nil)))))))))))))
      (pss_one (ps_ret pe_bl)))), ?_⟩
    walk_at "u"
    refine ⟨_, rfl, _, rfl, by show 2 ≤ sizeLine; decide, fun t ht => ⟨by show 1 ≤ sizeLine; decide, fun wt hwt => ?_⟩⟩
    have sm1 : Same H (upd H t (.tup [told, due])) := same_new ht
    have hwH : H wt = none := free_of sm1 hwt
    have ex : ∀ (σ : L2.St) (H' : Hp), (Same H H' ∧ ∃ ws ds y3 y4 y5 y6, σ = [some told, some due, some (.ref wt), y3, y4, y5, y6] ∧ H' wt = some (.lst ws) ∧ Paired (IsPr K H') ws ds ∧ nodesAll ds ≤ 100000) → Q (.bl true) H' := fun σ H' p => q H' p.1
    refine t_for (walk_range (lo := 0) (n := 400000)) (fun R r => by
      walk_at "u"
      exact ⟨400000, rfl, by decide, by decide, r⟩) (fun i σ H' => Same H H' ∧ ∃ ws ds y3 y4 y5 y6, σ = [some told, some due, some (.ref wt), y3, y4, y5, y6] ∧ H' wt = some (.lst ws) ∧ Paired (IsPr K H') ws ds ∧ nodesAll ds ≤ 100000)
      ⟨sm1.trans (same_new hwt), [.ref t], [d], none, none, none, none, rfl, upd_same, .cons ⟨hok, t, told, due, rfl, st_same (same_new hwt) (SqT.of upd_same), dp_same (sm1.trans (same_new hwt)) h1, dp_same (sm1.trans (same_new hwt)) h2⟩ .nil, by simp only [nodesAll]; omega⟩
      (fun _ _ _ _ _ => trivial) (fun i x σ H1 H2 hi p y => ?_) (fun σ H1 p => ex σ H1 p)
    obtain ⟨rfl, rfl⟩ := y
    obtain ⟨sm, ws, ds, y3, y4, y5, y6, rfl, eW, pr, hsum⟩ := p
    walk_at "u"
    refine ⟨_, rfl, wt, ws, rfl, .inl (.inl (.inl eW)), rfl, _, rfl, ?_⟩
    rcases List.eq_nil_or_concat ws with rfl | ⟨ws0, x, rfl⟩
    · exact iteT (q H2 sm)
    · rw [List.concat_eq_append] at eW pr ⊢
      obtain ⟨ds0, d, rfl, pr0, hx⟩ := pair_last pr
      rw [nodesAll_cat] at hsum
      have hsum' : nodesAll ds0 + nodes d ≤ 100000 := by simpa [nodesAll] using hsum
      have hne : decide (V.int (((ws0 ++ [x]).length : Nat) : Int) = V.int 0) = false := decide_eq_false fun z => by
        have := V.int.inj z
        rw [List.length_append, List.length_singleton] at this
        omega
      rw [hne]
      refine iteF ⟨_, rfl, .inl ⟨rfl, _, .inl (.inl eW)⟩, wt, _, x, rfl, rfl, eW, by simp, ?_⟩
      rw [List.dropLast_concat]
      obtain ⟨od, tx, a, b, rfl, hT, ha, hb⟩ := hx
      refine ⟨tx, [a, b], rfl, st_b eW SameB.upd hT, rfl, _, _, rfl, _, _, rfl, rfl, ?_⟩
      have pr1 : Paired (IsPr K (upd H2 wt (.lst ws0))) ws0 ds0 := L2.Paired.mapP pr0 fun _ _ z => z.b eW SameB.upd
      have ha1 : Dp K (upd H2 wt (.lst ws0)) a d := dp_b eW SameB.upd od ha
      have hb1 : Dp K (upd H2 wt (.lst ws0)) b d := dp_b eW SameB.upd od hb
      have sm2 : Same H (upd H2 wt (.lst ws0)) := same_mut hwH ((SameB.of sm).trans SameB.upd)
      have eW1 : (upd H2 wt (.lst ws0)) wt = some (.lst ws0) := upd_same
      generalize upd H2 wt (.lst ws0) = H3 at pr1 ha1 hb1 sm2 eW1 ⊢
      clear pr0 ha hb hT sm eW pr
      walk_at "u"
      by_cases hsc : ∃ v : V, flat v = true ∧ v ≠ .non ∧ a = v ∧ b = v
      · obtain ⟨v, fv, nv, ea, eb⟩ := hsc
        rw [ea, eb]
        refine ⟨v, rfl, r_isTup (.flat fv) ⟨_, rfl, iteF ⟨v, rfl, false, by rw [decide_eq_false nv], iteF ?_⟩⟩⟩
        refine ⟨v, rfl, r_isBl (.flat fv) ⟨_, rfl, ?_⟩⟩
        cases v with
        | non => exact absurd rfl nv
        | bl y =>
          refine iteT ⟨_, rfl, r_isBl (.flat fv) ⟨_, rfl, iteF ⟨_, rfl, _, rfl, r_neDSame fv ⟨_, rfl, iteF ?_⟩⟩⟩⟩
          exact ⟨sm2, ws0, ds0, _, _, _, _, rfl, eW1, pr1, by omega⟩
        | int y =>
          refine iteF ⟨_, rfl, r_isInt (.flat fv) ⟨_, rfl, iteT ⟨_, rfl, r_isInt (.flat fv) ⟨_, rfl, iteF ⟨_, rfl, r_isBl (.flat fv) ⟨_, rfl, iteF ⟨_, rfl, _, rfl, r_neDSame fv ⟨_, rfl, iteF ?_⟩⟩⟩⟩⟩⟩⟩⟩
          exact ⟨sm2, ws0, ds0, _, _, _, _, rfl, eW1, pr1, by omega⟩
        | str y =>
          refine iteF ⟨_, rfl, r_isInt (.flat fv) ⟨_, rfl, iteF ⟨_, rfl, r_isStr (.flat fv) ⟨_, rfl, iteF ⟨_, rfl, _, rfl, r_neDSame fv ⟨_, rfl, iteF ?_⟩⟩⟩⟩⟩⟩
          exact ⟨sm2, ws0, ds0, _, _, _, _, rfl, eW1, pr1, by omega⟩
        | byt _ => cases fv
        | flt _ => cases fv
        | ref _ => cases fv
        | ty _ => cases fv
      cases d with
      | none =>
        cases ha1
        cases hb1
        exact ⟨_, rfl, r_isTup (.flat rfl) ⟨_, rfl, iteF ⟨_, rfl, true, rfl, iteT ⟨_, rfl, false, rfl, iteF ⟨sm2, ws0, ds0, _, _, _, _, rfl, eW1, pr1, by omega⟩⟩⟩⟩⟩
      | bool k =>
        cases ha1
        cases hb1
        exact absurd ⟨.bl k, rfl, (fun z => by cases z), rfl, rfl⟩ hsc
      | int k =>
        cases ha1
        cases hb1
        exact absurd ⟨.int k, rfl, (fun z => by cases z), rfl, rfl⟩ hsc
      | str k =>
        cases ha1
        cases hb1
        exact absurd ⟨.str k, (by simp only [okD] at od; exact od), (fun z => by cases z), rfl, rfl⟩ hsc
      | list ds' => simp [okD] at od
      | dict ds' => simp [okD] at od
      | tuple ds' =>
        have oA : okAll ds' = true := by simpa only [okD] using od
        have hnd : nodesAll ds0 + (1 + nodesAll ds') ≤ 100000 := by simpa only [nodes] using hsum'
        have hdl := nodesAll_len ds'
        cases ha1 with
        | @tup a1 os1 _ hSa hDa =>
        cases hb1 with
        | @tup b1 os2 _ hSb hDb =>
        have l1 := dpAll_len hDa
        have l2 := dpAll_len hDb
        refine ⟨_, rfl, r_isTup (.tup hSb) ⟨_, rfl, iteT ⟨_, rfl, r_isTup (.tup hSa) ⟨_, rfl, iteF ⟨_, rfl, a1, os1, rfl, .inr hSa, _, rfl, b1, os2, rfl, .inr hSb, r_neEq (by rw [l1, l2]) ⟨_, rfl, iteF ?_⟩⟩⟩⟩⟩⟩
        refine t_for (H1 := H3) (walk_range (lo := 0) (n := os2.length)) (fun R r => by
          walk_at "u"
          exact ⟨_, rfl, b1, os2, rfl, .inr hSb, _, rfl, by omega, by omega, by rw [Int.toNat_natCast]; exact r⟩) (fun j σ H' => (SameB wt H3 H' ∧ Same H H') ∧ ∃ ws y6, σ = [some told, some due, some (.ref wt), some (V.int (0 + (i : Nat))), some (.ref a1), some (.ref b1), y6] ∧ H' wt = some (.lst ws) ∧ Paired (IsPr K H') ws (ds0 ++ ds'.take j))
          ⟨⟨SameB.refl _, sm2⟩, ws0, _, rfl, eW1, by rw [List.take_zero, List.append_nil]; exact pr1⟩ (fun _ _ _ _ _ => trivial) (fun j x σ H4 H5 hj p y => ?_) (fun σ H4 p => ?_)
        · obtain ⟨rfl, rfl⟩ := y
          obtain ⟨⟨sb, sm5⟩, ws, y6, rfl, eW5, pr5⟩ := p
          walk_at "u"
          have hlt : j < ds'.length := by omega
          obtain ⟨v1, e1, D1⟩ := dpAll_at hDa (List.getElem?_eq_getElem hlt)
          obtain ⟨v2, e2, D2⟩ := dpAll_at hDb (List.getElem?_eq_getElem hlt)
          have ej : (0 : Int) + (j : Nat) = (j : Int) := by omega
          refine ⟨_, rfl, .inl ⟨rfl, _, .inl (.inl eW5)⟩, _, rfl, _, rfl, a1, os1, _, v1, rfl, rfl, st_b eW1 sb hSa, at_of ej e1, _, rfl, _, rfl, b1, os2, _, v2, rfl, rfl, st_b eW1 sb hSb, at_of ej e2, by show 2 ≤ sizeLine; decide, fun t ht => ?_⟩
          have s6 := same_new (o := .tup [v1, v2]) ht
          have eW6 := s6 _ _ eW5
          have lw := Paired.length pr5
          refine ⟨wt, ws, .ref t, rfl, rfl, eW6, ?_, ⟨(sb.trans (SameB.of s6)).trans SameB.upd, same_mut hwH ((SameB.of (sm5.trans s6)).trans SameB.upd)⟩, _, _, rfl, upd_same, ?_⟩
          · rw [lw, List.length_append, List.length_take]
            have h1 := nodesAll_len ds0
            exact Nat.lt_of_le_of_lt (show ds0.length + min j ds'.length ≤ 200000 by omega) (by decide)
          · rw [List.take_add_one, List.getElem?_eq_getElem hlt, ← List.append_assoc]
            refine pair_cat (L2.Paired.mapP pr5 fun _ _ z => (z.same s6).b eW6 SameB.upd) (.cons ?_ .nil)
            have od1 := okAll_mem oA _ (List.getElem_mem hlt)
            exact ⟨od1, t, v1, v2, rfl, st_b eW6 SameB.upd (SqT.of upd_same), dp_b eW6 SameB.upd od1 (dp_same s6 (dp_b eW1 sb od1 D1)), dp_b eW6 SameB.upd od1 (dp_same s6 (dp_b eW1 sb od1 D2))⟩
        · obtain ⟨⟨sb, sm5⟩, ws, y6, rfl, eW5, pr5⟩ := p
          refine ⟨sm5, ws, _, _, _, _, _, rfl, eW5, pr5, ?_⟩
          rw [nodesAll_cat]
          have := nodesAll_take ds' os2.length
          omega
end
end K68

namespace K68
open PySem PySem.Spec PyProof.Rows L2 KR KK
local macro_rules | `(tactic| walk_at "u") => `(tactic| try dsimp only [tSeq, tCutS, tCutE, tCutT, tIfS, tRet, tRetN, tNext, tBreak, tCont, tDrop, tAsg, tPar, gName, gTup, gCons, gNil, tOr, tAnd, tNot, tB, tTest, tCB, tCons, tNil, tC, tVar, tAndV, tOrV, tNotV, tOp, tUn, tIf, tIsN, tNotN, tTup, tLst, tCall, tCallS, tBM, tBM0, tSl, tPart, tNoPart, tYes, iList, iTup, iSeq, iStr, iRng1, iRng2, iEnumA, rI, rI0, rU, cxOf, Cx.nox, Cx.wish, L2.start, List.map, List.set, Nat.repeat, List.length_cons, List.length_nil, List.replicate, List.nil_append, List.cons_append, List.append_nil, Nat.reduceAdd, Nat.reduceSub, E0, tBad, tTr])

/-! ### the draws -/
/-- a list of whole numbers -/
def IntL (H : Hp) (d : Addr) : Prop := ∃ ns : List Int, H d = some (.lst (ns.map V.int))
section
variable {P : Program} {w : World} {K : PySem.W.Frag} {mg : Str → Option Value} {base : Heap}
def spDraws (K : PySem.W.Frag) : Sp := fun vs H Q _ => ∃ (a : Addr) (ns : List Int), vs = [.ref a] ∧ SqL K H a (ns.map V.int) ∧ ns.length ≤ 63 ∧ ∀ d H', Same H H' → IntL H' d → Q (.ref d) H'
theorem ok_law_draws {f : Addr} {fd : FuncData} (B : Bi mg) (F : Fun K "_law_draws" "_law_draws" s_law_draws f fd) : FnOk P w K mg base CX0 1 f fd p_law_draws (spDraws K) := by
  refine F.ok sc_law_draws (fun vs H Q E h => ?_) (fun cdv A outer s H vs Q E hr h => ?_)
  · obtain ⟨a, ns, rfl, _⟩ := h
    rfl
  · obtain ⟨a, ns, rfl, hL, hl, q⟩ := h
    refine ⟨_, (pss_cons (ps_set (i := 1) sc_law_draws.nd rfl (by first | exact .inl rfl | exact .inr rfl) (pe_lst pa_nil))
      (pss_cons (ps_for PassesOwn.never rfl (pi_range1 rfl B.range (pa_cons (pe_callB (call_min2 (by rfl)) (by rfl) B.min (by decide +kernel) (pa_cons (pe_callB (call_lenK (K := K) rfl) (by rfl) B.len PySem.boot_len (pa_cons (pv 0) pa_nil)) (pa_cons pe_int pa_nil))) pa_nil)) (pg_name (i := 2) sc_law_draws.nd rfl (by first | exact .inl rfl | exact .inr rfl))
      (pss_cons (ps_set (i := 3) sc_law_draws.nd rfl (by first | exact .inl rfl | exact .inr rfl) (pe_callTy call_int1 (by rfl) B.int_ (by decide +kernel) (pa_cons (pe_ix (ix_listK (K := K) rfl) (pv 0) (pv 2) (fun _ _ => rfl)) pa_nil)))
      (pss_cutS (ps_if (pt_cmpR op_lt (pv 3) pe_int (nomark _))
      (pss_one (ps_set (i := 3) sc_law_draws.nd rfl (by first | exact .inl rfl | exact .inr rfl) (pe_op op_sub pe_int (pe_op op_mul pe_int (pv 3)))))
      pss_nil)
      (pss_cons (ps_set (i := 3) sc_law_draws.nd rfl (by first | exact .inl rfl | exact .inr rfl) (pe_op op_modN (pe_callTy call_int1 (by rfl) B.int_ (by decide +kernel) (pa_cons (pv 3) pa_nil)) (pe_op op_pow pe_int pe_int)))
      (pss_one (ps_for PassesOwn.never rfl (pi_range1 rfl B.range (pa_cons pe_int pa_nil)) (pg_name (i := 4) sc_law_draws.nd rfl (by first | exact .inl rfl | exact .inr rfl))
      (pss_cons (ps_expr (pe_bm PySem.F.plainAttrs_list PySem.F.slot_list_append PySem.F.type_list_append mt_append (pv 1) (pa_cons (pe_op op_modN (pe_callTy call_int1 (by rfl) B.int_ (by decide +kernel) (pa_cons (pv 3) pa_nil)) pe_int) pa_nil)))
      (pss_cons (ps_set (i := 3) sc_law_draws.nd rfl (by first | exact .inl rfl | exact .inr rfl) (pe_op op_fdivN (pv 3) pe_int))
      (pss_one (ps_if (pt_cmpR op_eq (pv 3) pe_int (nomark _))
      (pss_one ps_break)
      pss_nil))))))))))
      (pss_cons (ps_expr (pe_bm0 PySem.F.plainAttrs_list PySem.F.slot_list_reverse PySem.F.type_list_reverse mt_reverse (pv 1)))
      (pss_one (ps_ret (pv 1)))))), ?_⟩
    walk_at "u"
    refine ⟨Nat.zero_le _, fun d hd => ?_⟩
    have em : (if (63 : Int) < ((ns.map V.int).length : Nat) then (63 : Int) else ((ns.map V.int).length : Nat)) = (ns.length : Nat) := by
      rw [List.length_map, if_neg (by omega)]
    refine t_for (walk_range (lo := 0) (n := ns.length)) (fun R r => by
      walk_at "u"
      refine ⟨_, rfl, a, _, rfl, .inl ((same_new hd).seq hL), _, _, rfl, ?_⟩
      rw [em]
      exact ⟨_, rfl, by omega, by omega, by rw [Int.toNat_natCast]; exact r⟩) (fun i σ H' => Same H H' ∧ ∃ ms y2 y3 y4, σ = [some (.ref a), some (.ref d), y2, y3, y4] ∧ H' d = some (.lst (ms.map V.int)) ∧ ms.length ≤ 24 * i)
      ⟨same_new hd, [], none, none, none, rfl, upd_same, Nat.le_refl _⟩ (fun _ _ _ _ _ => trivial) (fun i x σ H1 H2 hi p y => ?_) (fun σ H1 p => ?_)
    · obtain ⟨rfl, rfl⟩ := y
      obtain ⟨sm, ms, y2, y3, y4, rfl, eD, hm⟩ := p
      walk_at "u"
      have ei : (0 : Int) + (i : Nat) = (i : Int) := by omega
      refine ⟨_, rfl, _, rfl, a, _, _, .int ns[i], rfl, rfl, sm.seq hL, at_of ei (by rw [List.getElem?_map, List.getElem?_eq_getElem hi]; rfl), .inl ⟨_, rfl, ?_⟩⟩
      refine ⟨fun σ' H' => H' = H2 ∧ ∃ c : Int, σ' = [some (.ref a), some (.ref d), some (V.int (0 + (i : Nat))), some (.int c), y4], ?_, ?_⟩
      · refine ⟨_, rfl, _, _, rfl, rfl, _, rfl, ite2 (fun _ => ?_) (fun _ => ⟨rfl, _, rfl⟩)⟩
        exact ⟨_, rfl, _, _, rfl, rfl, .inl ⟨by decide, by decide⟩, _, _, rfl, rfl, rfl, _, rfl⟩
      · rintro σ' H' ⟨rfl, c, rfl⟩
        refine ⟨_, rfl, .inl ⟨_, rfl, _, _, rfl, rfl, ⟨by decide, by decide, by decide⟩, _, _, rfl, rfl, by decide, ?_⟩⟩
        generalize Int.fmod c _ = c2
        walk_at "u"
        refine t_for (walk_range (lo := 0) (n := 24)) (fun R r => by
          walk_at "u"
          exact ⟨24, rfl, by decide, by decide, r⟩) (fun j σ H' => Same H H' ∧ ∃ ms c y4, σ = [some (.ref a), some (.ref d), some (V.int (0 + (i : Nat))), some (.int c), y4] ∧ H' d = some (.lst (ms.map V.int)) ∧ ms.length ≤ 24 * i + j)
          ⟨sm, ms, c2, y4, rfl, eD, hm⟩ (fun _ _ _ _ _ => trivial) (fun j x σ H4 H5 hj p y => ?_) (fun σ H4 p => ?_)
        · obtain ⟨rfl, rfl⟩ := y
          obtain ⟨sm5, ms5, c5, y5, rfl, eD5, hm5⟩ := p
          walk_at "u"
          have sm6 : ∀ z : Int, Same H (upd H5 d (.lst (ms5.map V.int ++ [.int z]))) := fun z => same_mut hd ((SameB.of sm5).trans SameB.upd)
          refine ⟨_, rfl, .inl ⟨rfl, _, .inl (.inl eD5)⟩, _, rfl, .inl ⟨_, rfl, _, _, rfl, rfl, by decide, d, _, _, rfl, rfl, eD5, ?_, ?_⟩⟩
          · rw [List.length_map]
            exact Nat.lt_of_le_of_lt (show ms5.length ≤ 2000 by omega) (by decide)
          · refine ⟨_, rfl, _, _, rfl, rfl, ⟨by decide, by decide⟩, _, rfl, rfl, _, rfl, ite2 (fun _ => ?_) (fun _ => ?_)⟩
            · refine ⟨sm6 _, ms5 ++ [_], _, _, _, rfl, by rw [upd_same, List.map_append]; rfl, ?_⟩
              rw [List.length_append]
              show ms5.length + 1 ≤ _
              omega
            · refine ⟨sm6 _, ms5 ++ [_], _, _, rfl, by rw [upd_same, List.map_append]; rfl, ?_⟩
              rw [List.length_append]
              show ms5.length + 1 ≤ _
              omega
        · obtain ⟨sm5, ms5, c5, y5, rfl, eD5, hm5⟩ := p
          exact ⟨sm5, ms5, _, _, _, rfl, eD5, by omega⟩
    · obtain ⟨sm, ms, y2, y3, y4, rfl, eD, hm⟩ := p
      walk_at "u"
      refine ⟨_, rfl, .inl ⟨rfl, _, .inl (.inl eD)⟩, d, _, rfl, rfl, eD, _, rfl, ?_⟩
      refine q d _ (same_mut hd ((SameB.of sm).trans SameB.upd)) ⟨ms.reverse, ?_⟩
      rw [upd_same, List.map_reverse]
/-! ### the drawn -/
/-- int(draws.pop()) % many, 0 where none is left -/
def spTake (K : PySem.W.Frag) : Sp := fun vs H Q _ => ∃ (d : Addr) (many : Int), vs = [.ref d, .int many] ∧ IntL H d ∧ 0 < many ∧ ∀ r H', 0 ≤ r → r < many → SameB d H H' → IntL H' d → Q (.int r) H'
theorem ok_law_take {f : Addr} {fd : FuncData} (B : Bi mg) (F : Fun K "_law_take" "_law_take" s_law_take f fd) : FnOk P w K mg base CX0 1 f fd p_law_take (spTake K) := by
  refine F.ok sc_law_take (fun vs H Q E h => ?_) (fun cdv A outer s H vs Q E hr h => ?_)
  · obtain ⟨d, many, rfl, _⟩ := h
    rfl
  · obtain ⟨d, many, rfl, ⟨ns, eD⟩, hm, q⟩ := h
    refine ⟨_, (pss_cons (ps_if (pt_cmpR op_eq (pe_callB (call_lenK (K := K) rfl) (by rfl) B.len PySem.boot_len (pa_cons (pv 0) pa_nil)) pe_int (nomark _))
      (pss_one (ps_ret pe_int))
      pss_nil)
      (pss_one (ps_ret (pe_op op_modN (pe_callTy call_int1 (by rfl) B.int_ (by decide +kernel) (pa_cons (pe_bm0 PySem.F.plainAttrs_list PySem.F.slot_list_pop PySem.F.type_list_pop mt_pop (pv 0)) pa_nil)) (pv 1))))), ?_⟩
    walk_at "u"
    refine ⟨_, rfl, d, _, rfl, .inl (.inl (.inl eD)), rfl, _, rfl, ?_⟩
    rcases List.eq_nil_or_concat ns with rfl | ⟨ns0, x, rfl⟩
    · exact iteT (q 0 H (by omega) hm (SameB.refl H) ⟨[], eD⟩)
    · rw [List.concat_eq_append] at eD ⊢
      have hne : decide (V.int ((((ns0 ++ [x]).map V.int).length : Nat) : Int) = V.int 0) = false := decide_eq_false fun z => by
        have := V.int.inj z
        rw [List.length_map, List.length_append, List.length_singleton] at this
        omega
      rw [hne]
      refine iteF ⟨_, rfl, .inl ⟨rfl, _, .inl (.inl eD)⟩, d, _, .int x, rfl, rfl, eD, by simp, .inl ⟨_, rfl, _, rfl, _, _, rfl, rfl, by omega, ?_⟩⟩
      refine q _ _ ?_ ?_ SameB.upd ⟨ns0, ?_⟩
      · rw [Int.fmod_eq_emod_of_nonneg _ (by omega)]
        exact Int.emod_nonneg _ (by omega)
      · rw [Int.fmod_eq_emod_of_nonneg _ (by omega)]
        exact Int.emod_lt_of_pos _ hm
      · rw [upd_same, List.map_append]
        show some (HO.lst ((ns0.map V.int ++ [V.int x]).dropLast)) = _
        rw [List.dropLast_concat]
end
end K68

namespace K68
open PySem PySem.Spec PyProof.Rows L2 KR KK
local macro_rules | `(tactic| walk_at "u") => `(tactic| try dsimp only [tSeq, tCutS, tCutE, tCutT, tIfS, tRet, tRetN, tNext, tBreak, tCont, tDrop, tAsg, tPar, gName, gTup, gCons, gNil, tOr, tAnd, tNot, tB, tTest, tCB, tCons, tNil, tC, tVar, tAndV, tOrV, tNotV, tOp, tUn, tIf, tIsN, tNotN, tTup, tLst, tCall, tCallS, tBM, tBM0, tSl, tPart, tNoPart, tYes, iList, iTup, iSeq, iStr, iRng1, iRng2, iEnumA, rI, rI0, rU, cxOf, Cx.nox, Cx.wish, L2.start, List.map, List.set, Nat.repeat, List.length_cons, List.length_nil, List.replicate, List.nil_append, List.cons_append, List.append_nil, Nat.reduceAdd, Nat.reduceSub, E0, tBad, tTr])

theorem half_mod {L R : Int} (hR : 0 < R) (h : R < L) : L % R * 2 ≤ L := by
  have e := Int.emod_add_mul_ediv L R
  have h1 := Int.emod_lt_of_pos L hR
  have h2 : 1 ≤ L / R := Int.le_ediv_of_mul_le hR (by omega)
  have h3 : R * 1 ≤ R * (L / R) := Int.mul_le_mul_of_nonneg_left h2 (by omega)
  omega
theorem shrink {L R M : Int} {i : Nat} (hR : 0 < R) (h : R < L) (b : L * R * 2 ^ i ≤ M) : R * (L % R) * 2 ^ (i + 1) ≤ M := by
  have h1 := half_mod hR h
  have h2 : R * (L % R * 2) ≤ R * L := Int.mul_le_mul_of_nonneg_left h1 (by omega)
  have p : (0 : Int) ≤ 2 ^ i := Int.pow_nonneg (by decide)
  have h3 := Int.mul_le_mul_of_nonneg_right h2 p
  have e1 : R * (L % R * 2) * 2 ^ i = R * (L % R) * 2 ^ (i + 1) := by
    rw [Int.pow_succ, ← Int.mul_assoc, Int.mul_assoc (R * (L % R)), Int.mul_comm 2 ((2 : Int) ^ i)]
  have e2 : R * L * 2 ^ i = L * R * 2 ^ i := by rw [Int.mul_comm R L]
  rw [e1, e2] at h3
  omega
theorem over {L R B : Int} {i k : Nat} (hR : 0 < R) (h : R < L) (hb : B.natAbs < 2 ^ k) (hi : 2 * k ≤ i) : ¬ L * R * 2 ^ i ≤ B * B := by
  intro z
  have e0 : B * B = ((B.natAbs * B.natAbs : Nat) : Int) := by rw [Int.natCast_mul, Int.natAbs_mul_self']
  have h1 : B.natAbs * B.natAbs < 2 ^ k * 2 ^ k := Nat.mul_lt_mul'' hb hb
  rw [← Nat.pow_add] at h1
  have h2 : (2 : Nat) ^ (k + k) ≤ 2 ^ i := Nat.pow_le_pow_right (by decide) (by omega)
  have h3 : B.natAbs * B.natAbs < 2 ^ i := Nat.lt_of_lt_of_le h1 h2
  have e1 : (2 : Int) ^ i = ((2 ^ i : Nat) : Int) := by rw [Int.natCast_pow]; rfl
  rw [e1, e0] at z
  have h4 : (1 : Int) ≤ L * R := by
    have := Int.mul_le_mul_of_nonneg_left (show (1 : Int) ≤ R by omega) (show 0 ≤ L by omega)
    omega
  have h5 := Int.mul_le_mul_of_nonneg_right h4 (show (0 : Int) ≤ ((2 ^ i : Nat) : Int) by omega)
  omega
section
variable {P : Program} {w : World} {K : PySem.W.Frag} {mg : Str → Option Value} {base : Heap}
def spGcd (K : PySem.W.Frag) : Sp := fun vs H Q _ => ∃ a b : Int, vs = [.int a, .int b] ∧ b.natAbs < 2 ^ 149 ∧ Q (.int (gcdI a b)) H
theorem ok_law_gcd {f : Addr} {fd : FuncData} (B : Bi mg) (F : Fun K "_law_gcd" "_law_gcd" s_law_gcd f fd) : FnOk P w K mg base CX0 1 f fd p_law_gcd (spGcd K) := by
  refine F.ok sc_law_gcd (fun vs H Q E h => ?_) (fun cdv A outer s H vs Q E hr h => ?_)
  · obtain ⟨a, b, rfl, _⟩ := h
    rfl
  · obtain ⟨a, b, rfl, hb, q⟩ := h
    refine ⟨_, (pss_cons (ps_set (i := 0) sc_law_gcd.nd rfl (by first | exact .inl rfl | exact .inr rfl) (pe_callB call_abs (by rfl) B.abs (by decide +kernel) (pa_cons (pv 0) pa_nil)))
      (pss_cons (ps_set (i := 1) sc_law_gcd.nd rfl (by first | exact .inl rfl | exact .inr rfl) (pe_callB call_abs (by rfl) B.abs (by decide +kernel) (pa_cons (pv 1) pa_nil)))
      (pss_cons (ps_for PassesOwn.never rfl (pi_range1 rfl B.range (pa_cons pe_int pa_nil)) (pg_name (i := 2) sc_law_gcd.nd rfl (by first | exact .inl rfl | exact .inr rfl))
      (pss_cons (ps_if (pt_cmpR op_eq (pv 1) pe_int (nomark _))
      (pss_one ps_break)
      pss_nil)
      (pss_one (ps_par (i := 0) (j := 1) (by rfl) sc_law_gcd.nd rfl rfl (by decide) rfl rfl (pa_cons (pv 1) (pa_cons (pe_op op_mod (pe_callTy call_int1 (by rfl) B.int_ (by decide +kernel) (pa_cons (pv 0) pa_nil)) (pe_callTy call_int1 (by rfl) B.int_ (by decide +kernel) (pa_cons (pv 1) pa_nil))) pa_nil)) rfl))))
      (pss_one (ps_ret (pv 0)))))), ?_⟩
    walk_at "u"
    have ab : ∀ i : Int, (if i < 0 then -i else i) = (i.natAbs : Int) := fun i => by split <;> omega
    refine ⟨_, rfl, _, rfl, ?_⟩
    walk_at "u"
    refine ⟨_, rfl, _, rfl, ?_⟩
    rw [ab, ab]
    refine t_for (H1 := H) (walk_range (lo := 0) (n := 300)) (fun R r => by
      walk_at "u"
      exact ⟨300, rfl, by decide, by decide, r⟩) (fun i σ H' => H' = H ∧ ∃ (m n : Nat) (y : Option V), σ = [some (.int (m : Int)), some (.int (n : Int)), y] ∧ Nat.gcd m n = Nat.gcd a.natAbs b.natAbs ∧ ((i = 0 ∧ n = b.natAbs) ∨ (1 ≤ i ∧ n < m ∧ (m : Int) * n * 2 ^ (i - 1) ≤ b * b)))
      ⟨rfl, _, _, _, rfl, rfl, .inl ⟨rfl, rfl⟩⟩ (fun _ _ _ _ _ => trivial) (fun i x σ H1 H2 hi p y => ?_) (fun σ H1 p => ?_)
    · obtain ⟨rfl, rfl⟩ := y
      obtain ⟨rfl, m, n, y2, rfl, eg, hc⟩ := p
      walk_at "u"
      refine ⟨_, rfl, rfl, _, rfl, ?_⟩
      by_cases c : n = 0
      · subst c
        refine iteT ⟨_, rfl, ?_⟩
        rw [Nat.gcd_zero_right] at eg
        rw [eg]
        exact q
      · refine ifF (decide_eq_false fun z => c (by have := V.int.inj z; omega)) ⟨_, rfl, _, rfl, .inl ⟨_, rfl, _, rfl, .inl ⟨_, rfl, _, _, rfl, rfl, by omega, _, _, rfl, rfl, n, m % n, some (V.int (0 + (i : Nat))), ?_, ?_, .inr ⟨by omega, Nat.mod_lt _ (by omega), ?_⟩⟩⟩⟩
        · rw [Int.natCast_emod]
        · rw [← eg, Nat.gcd_comm m n, Nat.gcd_rec n m, Nat.gcd_comm]
        · rcases hc with ⟨rfl, e⟩ | ⟨h1, h2, h3⟩
          · show (n : Int) * ((m % n : Nat) : Int) * 2 ^ 0 ≤ b * b
            have e0 : b * b = (n : Int) * n := by
              rw [e, Int.natAbs_mul_self']
            have l : ((m % n : Nat) : Int) ≤ n := by
              have := Nat.mod_lt m (show 0 < n by omega)
              omega
            rw [e0, Int.pow_zero, Int.mul_one]
            exact Int.mul_le_mul_of_nonneg_left l (by omega)
          · have z := shrink (L := m) (R := n) (i := i - 1) (M := b * b) (by omega) (by omega) h3
            rw [show i - 1 + 1 = i + 1 - 1 by omega] at z
            rw [Int.natCast_emod]
            exact z
    · obtain ⟨rfl, m, n, y2, rfl, eg, hc⟩ := p
      walk_at "u"
      refine ⟨_, rfl, ?_⟩
      have n0 : n = 0 := by
        rcases hc with ⟨e, _⟩ | ⟨h1, h2, h3⟩
        · cases e
        · by_cases c : n = 0
          · exact c
          · exact absurd h3 (over (L := m) (R := n) (k := 149) (by omega) (by omega) hb (by decide))
      subst n0
      rw [Nat.gcd_zero_right] at eg
      rw [eg]
      exact q
theorem ok_law_inverse {f : Addr} {fd : FuncData} (B : Bi mg) (F : Fun K "_law_inverse" "_law_inverse" s_law_inverse f fd) : FnOk P w K mg base CX0 1 f fd p_law_inverse (fun vs H Q _ => ∃ n b : Int, vs = [.int n, .int b] ∧ 0 < b ∧ b.natAbs < 2 ^ 299 ∧ (∀ d, d ∣ n → d ∣ b → d ∣ 1) ∧ ∀ r, 0 ≤ r → r < b → b ∣ r * n - 1 → Q (.int r) H) := by
  refine F.ok sc_law_inverse (fun vs H Q E h => ?_) (fun cdv A outer s H vs Q E hr h => ?_)
  · obtain ⟨n, b, rfl, _⟩ := h
    rfl
  · obtain ⟨n, b, rfl, hb, hs, co, q⟩ := h
    refine ⟨_, (pss_cons (ps_set (i := 2) sc_law_inverse.nd rfl (by first | exact .inl rfl | exact .inr rfl) (pv 1))
      (pss_cons (ps_set (i := 3) sc_law_inverse.nd rfl (by first | exact .inl rfl | exact .inr rfl) (pe_op op_mod (pe_callTy call_int1 (by rfl) B.int_ (by decide +kernel) (pa_cons (pv 0) pa_nil)) (pv 1)))
      (pss_cons (ps_set (i := 4) sc_law_inverse.nd rfl (by first | exact .inl rfl | exact .inr rfl) pe_int)
      (pss_cons (ps_set (i := 5) sc_law_inverse.nd rfl (by first | exact .inl rfl | exact .inr rfl) pe_int)
      (pss_cons (ps_for PassesOwn.never rfl (pi_range1 rfl B.range (pa_cons pe_int pa_nil)) (pg_name (i := 6) sc_law_inverse.nd rfl (by first | exact .inl rfl | exact .inr rfl))
      (pss_cons (ps_if (pt_cmpR op_eq (pv 3) pe_int (nomark _))
      (pss_one ps_break)
      pss_nil)
      (pss_cons (ps_set (i := 7) sc_law_inverse.nd rfl (by first | exact .inl rfl | exact .inr rfl) (pe_op op_fdivW (pv 2) (pv 3)))
      (pss_cons (ps_par (i := 2) (j := 3) (by rfl) sc_law_inverse.nd rfl rfl (by decide) rfl rfl (pa_cons (pv 3) (pa_cons (pe_op op_sub (pv 2) (pe_op op_mulW (pv 7) (pv 3))) pa_nil)) rfl)
      (pss_one (ps_par (i := 4) (j := 5) (by rfl) sc_law_inverse.nd rfl rfl (by decide) rfl rfl (pa_cons (pv 5) (pa_cons (pe_op op_sub (pv 4) (pe_op op_mulW (pv 7) (pv 5))) pa_nil)) rfl))))))
      (pss_one (ps_ret (pe_op op_mod (pe_callTy call_int1 (by rfl) B.int_ (by decide +kernel) (pa_cons (pv 4) pa_nil)) (pv 1))))))))), ?_⟩
    walk_at "u"
    refine ⟨_, rfl, _, rfl, .inl ⟨_, rfl, _, rfl, _, _, rfl, rfl, hb, ?_⟩⟩
    walk_at "u"
    have b5 : b.natAbs < 2 ^ 500 := Nat.lt_of_lt_of_le hs (Nat.pow_le_pow_right (by decide) (by decide))
    have fin : ∀ (L less more : Int), Inv0 n b L 0 less more → Q (.int (less % b)) H := fun L less more I => q _ (Int.emod_nonneg _ (by omega)) (Int.emod_lt_of_pos _ hb) (inv0_end I co)
    refine t_for (H1 := H) (walk_range (lo := 0) (n := 600)) (fun R r => by
      walk_at "u"
      exact ⟨600, rfl, by decide, by decide, r⟩) (fun i σ H' => H' = H ∧ ∃ (L R less more : Int) (y6 y7 : Option V), σ = [some (.int n), some (.int b), some (.int L), some (.int R), some (.int less), some (.int more), y6, y7] ∧ Inv0 n b L R less more ∧ L * R * 2 ^ i ≤ b * b)
      ⟨rfl, _, _, _, _, _, _, rfl, inv0_start hb, ?_⟩ (fun _ _ _ _ _ => trivial) (fun i x σ H1 H2 hi p y => ?_) (fun σ H1 p => ?_)
    · rw [Int.pow_zero, Int.mul_one]
      have := Int.emod_lt_of_pos n hb
      exact Int.mul_le_mul_of_nonneg_left (by omega) (by omega)
    · obtain ⟨rfl, rfl⟩ := y
      obtain ⟨rfl, L, R, less, more, y6, y7, rfl, I, hbd⟩ := p
      walk_at "u"
      refine ⟨_, rfl, rfl, _, rfl, ?_⟩
      by_cases c : R = 0
      · subst c
        exact iteT ⟨_, rfl, .inl ⟨_, rfl, _, rfl, _, _, rfl, rfl, hb, fin _ _ _ I⟩⟩
      · have r0 := I.r0
        have rl := I.rl
        have lb := I.lb
        have ml := I.more_le
        have hL : L.natAbs < 2 ^ 500 := by omega
        have hR : R.natAbs < 2 ^ 500 := by omega
        have hM : more.natAbs < 2 ^ 500 := by omega
        have t0 : 0 ≤ L / R := Int.ediv_nonneg (by omega) (by omega)
        have t1 : L / R ≤ L := Int.ediv_le_self _ (by omega)
        have hT : (L / R).natAbs < 2 ^ 500 := by omega
        refine ifF (decide_eq_false fun z => c (V.int.inj z)) ⟨_, rfl, _, rfl, _, _, rfl, rfl, divW (by omega) hR (by decide), ?_⟩
        walk_at "u"
        refine ⟨_, rfl, _, rfl, _, rfl, _, rfl, _, _, rfl, rfl, mulW hT hR (by decide) (by decide), _, _, rfl, rfl, _, _, rfl, ?_⟩
        refine ⟨_, rfl, _, rfl, _, rfl, _, rfl, _, _, rfl, rfl, mulW hT hM (by decide) (by decide), _, _, rfl, rfl, _, _, rfl, rfl, _, _, _, _, _, _, rfl, inv0_step I c, ?_⟩
        rw [sub_mod]
        exact shrink (by omega) rl hbd
    · obtain ⟨rfl, L, R, less, more, y6, y7, rfl, I, hbd⟩ := p
      have r0 := I.r0
      have c : R = 0 := by
        by_cases c : R = 0
        · exact c
        · exact absurd hbd (over (k := 299) (by omega) I.rl hs (by decide))
      subst c
      walk_at "u"
      exact ⟨_, rfl, .inl ⟨_, rfl, _, rfl, _, _, rfl, rfl, hb, fin _ _ _ I⟩⟩
def spHasL (K : PySem.W.Frag) : Sp := fun vs H Q _ => ∃ p f v, vs = [.ref p, .int v] ∧ SqT K H p f.V ∧ f.ok ∧ Q (.bl (hasF f v)) H
theorem ok_law_has {f : Addr} {fd : FuncData} (B : Bi mg) (F : Fun K "_law_has" "_law_has" s_law_has f fd) : FnOk P w K mg base CX0 1 f fd p_law_has (spHasL K) := by
  refine F.ok sc_law_has (fun vs H Q E h => ?_) (fun cdv A outer s H vs Q E hr h => ?_)
  · obtain ⟨p, f, v, rfl, _⟩ := h
    rfl
  · obtain ⟨p, f, v, rfl, hp, fo, q⟩ := h
    refine ⟨_, (pss_cons (ps_if (pt_cmpR op_eq (pe_ix (ix_tupK (K := K) rfl) (pv 0) pe_int (fun _ _ => rfl)) pe_int (nomark _))
      (pss_one (ps_ret (pe_cmpR op_eq (pv 1) (pe_ix (ix_tupK (K := K) rfl) (pv 0) pe_int (fun _ _ => rfl)) (nomark _))))
      pss_nil)
      (pss_one (ps_ret (pe_and (pe_cmpR op_le (pe_ix (ix_tupK (K := K) rfl) (pv 0) pe_int (fun _ _ => rfl)) (pv 1) (nomark _)) (pe_and (pe_cmpR op_le (pv 1) (pe_ix (ix_tupK (K := K) rfl) (pv 0) pe_int (fun _ _ => rfl)) (nomark _)) (pe_one (pe_cmpR op_eq (pe_op op_mod (pe_callTy call_int1 (by rfl) B.int_ (by decide +kernel) (pa_cons (pe_op op_sub (pv 1) (pe_ix (ix_tupK (K := K) rfl) (pv 0) pe_int (fun _ _ => rfl))) pa_nil)) (pe_ix (ix_tupK (K := K) rfl) (pv 0) pe_int (fun _ _ => rfl))) pe_int (nomark _)))))))), ?_⟩
    walk_at "u"
    obtain ⟨lo, hi, st⟩ := f
    have q' : Q (.bl (if st = 0 then decide (v = lo) else decide (lo ≤ v) && decide (v ≤ hi) && decide ((v - lo) % st = 0))) H := q
    have h0 : 0 ≤ st := fo.1
    refine ⟨_, rfl, p, _, 2, _, rfl, rfl, hp, atI_nat (j := 2) rfl, rfl, _, rfl, ?_⟩
    by_cases c : st = 0
    · rw [if_pos c] at q'
      rw [c] at hp ⊢
      refine iteT ⟨_, rfl, _, rfl, p, _, 0, _, rfl, rfl, hp, atI_nat (j := 0) rfl, rfl, ?_⟩
      have e : decide (V.int v = V.int lo) = decide (v = lo) := by simp
      rw [e]
      exact q'
    · rw [if_neg c] at q'
      refine ifF (decide_eq_false fun z => c (V.int.inj z)) ⟨_, rfl, p, _, 0, _, rfl, rfl, hp, atI_nat (j := 0) rfl, _, rfl, _, _, rfl, rfl, _, rfl, ?_⟩
      cases e1 : decide (lo ≤ v) with
      | false =>
        rw [e1] at q'
        exact iteF q'
      | true =>
        rw [e1, Bool.true_and] at q'
        refine iteT ⟨_, rfl, _, rfl, p, _, 1, _, rfl, rfl, hp, atI_nat (j := 1) rfl, _, _, rfl, rfl, _, rfl, ?_⟩
        cases e2 : decide (v ≤ hi) with
        | false =>
          rw [e2] at q'
          exact iteF q'
        | true =>
          rw [e2, Bool.true_and] at q'
          refine iteT ⟨_, rfl, _, rfl, p, _, 0, _, rfl, rfl, hp, atI_nat (j := 0) rfl, _, _, rfl, rfl, .inl ⟨_, rfl, _, rfl, p, _, 2, _, rfl, rfl, hp, atI_nat (j := 2) rfl, _, _, rfl, rfl, (by show 0 < st; omega), rfl, ?_⟩⟩
          have e : decide (V.int ((v - lo) % st) = V.int 0) = decide ((v - lo) % st = 0) := by simp
          rw [e]
          exact q'
end
end K68

namespace K68
open PySem PySem.Spec PyProof.Rows L2 KR KK
local macro_rules | `(tactic| walk_at "u") => `(tactic| try dsimp only [tSeq, tCutS, tCutE, tCutT, tIfS, tRet, tRetN, tNext, tBreak, tCont, tDrop, tAsg, tPar, gName, gTup, gCons, gNil, tOr, tAnd, tNot, tB, tTest, tCB, tCons, tNil, tC, tVar, tAndV, tOrV, tNotV, tOp, tUn, tIf, tIsN, tNotN, tTup, tLst, tCall, tCallS, tBM, tBM0, tSl, tPart, tNoPart, tYes, iList, iTup, iSeq, iStr, iRng1, iRng2, iEnumA, rI, rI0, rU, cxOf, Cx.nox, Cx.wish, L2.start, List.map, List.set, Nat.repeat, List.length_cons, List.length_nil, List.replicate, List.nil_append, List.cons_append, List.append_nil, Nat.reduceAdd, Nat.reduceSub, E0, tBad, tTr])

theorem up_to2 {x low whole : Int} (hw : 0 < whole) : whole ∣ low + (x - low) % whole - x ∧ low ≤ low + (x - low) % whole ∧ low + (x - low) % whole < low + whole := by
  have e := Int.emod_add_mul_ediv (x - low) whole
  have h0 := Int.emod_nonneg (x - low) (show whole ≠ 0 by omega)
  have h1 := Int.emod_lt_of_pos (x - low) hw
  exact ⟨⟨-((x - low) / whole), by rw [Int.mul_neg]; omega⟩, by omega, by omega⟩
theorem down_to2 {x high whole : Int} (hw : 0 < whole) : whole ∣ high - (high - x) % whole - x ∧ high - (high - x) % whole ≤ high ∧ high < high - (high - x) % whole + whole := by
  have e := Int.emod_add_mul_ediv (high - x) whole
  have h0 := Int.emod_nonneg (high - x) (show whole ≠ 0 by omega)
  have h1 := Int.emod_lt_of_pos (high - x) hw
  exact ⟨⟨(high - x) / whole, by omega⟩, by omega, by omega⟩
section
variable {P : Program} {w : World} {K : PySem.W.Frag} {mg : Str → Option Value} {base : Heap}
def spInvL : Sp := fun vs H Q _ => ∃ n b : Int, vs = [.int n, .int b] ∧ 0 < b ∧ b.natAbs < 2 ^ 299 ∧ (∀ d, d ∣ n → d ∣ b → d ∣ 1) ∧ ∀ r, 0 ≤ r → r < b → b ∣ r * n - 1 → Q (.int r) H
def spMetL (K : PySem.W.Frag) : Sp := fun vs H Q _ => ∃ p q a b, vs = [.ref p, .ref q] ∧ SqT K H p a.V ∧ SqT K H q b.V ∧ a.ok ∧ b.ok ∧ a.sml 390 ∧ b.sml 390 ∧ b.st.natAbs < 2 ^ 149 ∧ ∀ v H' o, Same H H' → IsMet a b o → gOptF K o v H' → Q v H'
theorem ok_law_met {f : Addr} {fd : FuncData} (B : Bi mg) (F : Fun K "_law_met" "_law_met" s_law_met f fd)
    (Claw_has : Cal P w K mg base CX0 1 "_law_has" p_law_has (spHasL K)) (Claw_gcd : Cal P w K mg base CX0 1 "_law_gcd" p_law_gcd (spGcd K)) (Claw_inverse : Cal P w K mg base CX0 1 "_law_inverse" p_law_inverse spInvL) : FnOk P w K mg base CX0 2 f fd p_law_met (spMetL K) := by
  refine F.ok sc_law_met (fun vs H Q E h => ?_) (fun cdv A outer s H vs Q E hr h => ?_)
  · obtain ⟨p, q, a, b, rfl, _⟩ := h
    rfl
  · obtain ⟨p, p2, a, b, rfl, hp, hp2, ao, bo, sa, sb, zb, q⟩ := h
    refine ⟨_, (pss_cons (ps_if (pt_cmpR op_eq (pe_ix (ix_tupK (K := K) rfl) (pv 0) pe_int (fun _ _ => rfl)) pe_int (nomark _))
      (pss_cons (ps_if (pt_val (pe_call Claw_has.G (hr.mono (by decide)) (by rfl) Claw_has.g Claw_has.kp Claw_has.b .nil pass0 (pa_cons (pv 1) (pa_cons (pe_ix (ix_tupK (K := K) rfl) (pv 0) pe_int (fun _ _ => rfl)) pa_nil))))
      (pss_one (ps_ret (pv 0)))
      pss_nil)
      (pss_one (ps_ret pe_non)))
      pss_nil)
      (pss_cons (ps_if (pt_cmpR op_eq (pe_ix (ix_tupK (K := K) rfl) (pv 1) pe_int (fun _ _ => rfl)) pe_int (nomark _))
      (pss_cons (ps_if (pt_val (pe_call Claw_has.G (hr.mono (by decide)) (by rfl) Claw_has.g Claw_has.kp Claw_has.b .nil pass0 (pa_cons (pv 0) (pa_cons (pe_ix (ix_tupK (K := K) rfl) (pv 1) pe_int (fun _ _ => rfl)) pa_nil))))
      (pss_one (ps_ret (pv 1)))
      pss_nil)
      (pss_one (ps_ret pe_non)))
      pss_nil)
      (pss_cons (ps_set (i := 2) sc_law_met.nd rfl (by first | exact .inl rfl | exact .inr rfl) (pe_call Claw_gcd.G (hr.mono (by decide)) (by rfl) Claw_gcd.g Claw_gcd.kp Claw_gcd.b .nil pass0 (pa_cons (pe_ix (ix_tupK (K := K) rfl) (pv 0) pe_int (fun _ _ => rfl)) (pa_cons (pe_ix (ix_tupK (K := K) rfl) (pv 1) pe_int (fun _ _ => rfl)) pa_nil))))
      (pss_cons (ps_if (pt_cmpR op_ne (pe_op op_mod (pe_callTy call_int1 (by rfl) B.int_ (by decide +kernel) (pa_cons (pe_op op_sub (pe_ix (ix_tupK (K := K) rfl) (pv 1) pe_int (fun _ _ => rfl)) (pe_ix (ix_tupK (K := K) rfl) (pv 0) pe_int (fun _ _ => rfl))) pa_nil)) (pv 2)) pe_int (nomark _))
      (pss_one (ps_ret pe_non))
      pss_nil)
      (pss_cons (ps_set (i := 3) sc_law_met.nd rfl (by first | exact .inl rfl | exact .inr rfl) (pe_op op_fdivW (pe_ix (ix_tupK (K := K) rfl) (pv 1) pe_int (fun _ _ => rfl)) (pv 2)))
      (pss_cons (ps_set (i := 4) sc_law_met.nd rfl (by first | exact .inl rfl | exact .inr rfl) (pe_op op_mod (pe_callTy call_int1 (by rfl) B.int_ (by decide +kernel) (pa_cons (pe_op op_mulW (pe_op op_fdivW (pe_op op_sub (pe_ix (ix_tupK (K := K) rfl) (pv 1) pe_int (fun _ _ => rfl)) (pe_ix (ix_tupK (K := K) rfl) (pv 0) pe_int (fun _ _ => rfl))) (pv 2)) (pe_call Claw_inverse.G (hr.mono (by decide)) (by rfl) Claw_inverse.g Claw_inverse.kp Claw_inverse.b .nil pass0 (pa_cons (pe_op op_fdivW (pe_ix (ix_tupK (K := K) rfl) (pv 0) pe_int (fun _ _ => rfl)) (pv 2)) (pa_cons (pv 3) pa_nil)))) pa_nil)) (pv 3)))
      (pss_cons (ps_set (i := 5) sc_law_met.nd rfl (by first | exact .inl rfl | exact .inr rfl) (pe_op op_add (pe_ix (ix_tupK (K := K) rfl) (pv 0) pe_int (fun _ _ => rfl)) (pe_op op_mulW (pe_ix (ix_tupK (K := K) rfl) (pv 0) pe_int (fun _ _ => rfl)) (pv 4))))
      (pss_cons (ps_set (i := 6) sc_law_met.nd rfl (by first | exact .inl rfl | exact .inr rfl) (pe_op op_mulW (pe_op op_fdivW (pe_ix (ix_tupK (K := K) rfl) (pv 0) pe_int (fun _ _ => rfl)) (pv 2)) (pe_ix (ix_tupK (K := K) rfl) (pv 1) pe_int (fun _ _ => rfl))))
      (pss_cons (ps_set (i := 7) sc_law_met.nd rfl (by first | exact .inl rfl | exact .inr rfl) (pe_callB (call_max2 (by rfl)) (by rfl) B.max (by decide +kernel) (pa_cons (pe_ix (ix_tupK (K := K) rfl) (pv 0) pe_int (fun _ _ => rfl)) (pa_cons (pe_ix (ix_tupK (K := K) rfl) (pv 1) pe_int (fun _ _ => rfl)) pa_nil))))
      (pss_cons (ps_set (i := 8) sc_law_met.nd rfl (by first | exact .inl rfl | exact .inr rfl) (pe_callB (call_min2 (by rfl)) (by rfl) B.min (by decide +kernel) (pa_cons (pe_ix (ix_tupK (K := K) rfl) (pv 0) pe_int (fun _ _ => rfl)) (pa_cons (pe_ix (ix_tupK (K := K) rfl) (pv 1) pe_int (fun _ _ => rfl)) pa_nil))))
      (pss_cons (ps_set (i := 5) sc_law_met.nd rfl (by first | exact .inl rfl | exact .inr rfl) (pe_op op_add (pv 7) (pe_op op_mod (pe_callTy call_int1 (by rfl) B.int_ (by decide +kernel) (pa_cons (pe_op op_sub (pv 5) (pv 7)) pa_nil)) (pv 6))))
      (pss_cons (ps_if (pt_cmpR op_gt (pv 5) (pv 8) (nomark _))
      (pss_one (ps_ret pe_non))
      pss_nil)
      (pss_cons (ps_set (i := 9) sc_law_met.nd rfl (by first | exact .inl rfl | exact .inr rfl) (pe_op op_sub (pv 8) (pe_op op_mod (pe_callTy call_int1 (by rfl) B.int_ (by decide +kernel) (pa_cons (pe_op op_sub (pv 8) (pv 5)) pa_nil)) (pv 6))))
      (pss_cons (ps_if (pt_cmpR op_eq (pv 9) (pv 5) (nomark _))
      (pss_one (ps_ret (pe_tup (pa_cons (pv 5) (pa_cons (pv 5) (pa_cons pe_int pa_nil))))))
      pss_nil)
      (pss_one (ps_ret (pe_tup (pa_cons (pv 5) (pa_cons (pv 9) (pa_cons (pv 6) pa_nil)))))))))))))))))))), ?_⟩
    walk_at "u"
    refine ⟨_, rfl, p, _, 2, _, rfl, rfl, hp, atI_nat (j := 2) rfl, rfl, _, rfl, ?_⟩
    by_cases c : a.st = 0
    · have M := met_pt_l (b := b) ao bo c
      refine ifT (decide_eq_true (by rw [c])) ⟨_, rfl, _, rfl, p, _, 0, _, rfl, rfl, hp, atI_nat (j := 0) rfl, p2, b, a.lo, rfl, hp2, bo, _, rfl, ?_⟩
      cases h1 : hasF b a.lo with
      | false =>
        rw [h1] at M
        exact iteF (q _ _ none (Same.refl H) M rfl)
      | true =>
        rw [h1] at M
        exact iteT ⟨_, rfl, q _ _ (some a) (Same.refl H) M ⟨p, rfl, hp, ao⟩⟩
    refine ifF (decide_eq_false fun z => c (V.int.inj z)) ⟨_, rfl, p2, _, 2, _, rfl, rfl, hp2, atI_nat (j := 2) rfl, rfl, _, rfl, ?_⟩
    by_cases c2 : b.st = 0
    · have M := met_pt_r (a := a) ao bo c2
      refine ifT (decide_eq_true (by rw [c2])) ⟨_, rfl, _, rfl, p2, _, 0, _, rfl, rfl, hp2, atI_nat (j := 0) rfl, p, a, b.lo, rfl, hp, ao, _, rfl, ?_⟩
      cases h1 : hasF a b.lo with
      | false =>
        rw [h1] at M
        exact iteF (q _ _ none (Same.refl H) M rfl)
      | true =>
        rw [h1] at M
        exact iteT ⟨_, rfl, q _ _ (some b) (Same.refl H) M ⟨p2, rfl, hp2, bo⟩⟩
    have as : 0 < a.st := by have := ao.1; omega
    have bs : 0 < b.st := by have := bo.1; omega
    have zas := ao.st_sml sa
    have zbs := bo.st_sml sb
    have hg0 : 0 < gcdI a.st b.st := gcdI_pos as
    obtain ⟨g1, g2⟩ := dvd_gcdI.mp (Int.dvd_refl (gcdI a.st b.st))
    have gle : gcdI a.st b.st ≤ a.st := Int.le_of_dvd as g1
    have zg : (gcdI a.st b.st).natAbs < 2 ^ 391 := by omega
    refine ifF (decide_eq_false fun z => c2 (V.int.inj z)) ⟨_, rfl, p, _, 2, _, rfl, rfl, hp, atI_nat (j := 2) rfl, _, rfl, p2, _, 2, _, rfl, rfl, hp2, atI_nat (j := 2) rfl, a.st, b.st, rfl, zb, ?_⟩
    walk_at "u"
    refine ⟨_, rfl, p2, _, 0, _, rfl, rfl, hp2, atI_nat (j := 0) rfl, _, rfl, p, _, 0, _, rfl, rfl, hp, atI_nat (j := 0) rfl, _, _, rfl, rfl, .inl ⟨_, rfl, _, rfl, _, _, rfl, rfl, hg0, rfl, _, rfl, ?_⟩⟩
    by_cases c0 : gcdI a.st b.st ∣ b.lo - a.lo
    · rw [Int.emod_eq_zero_of_dvd c0]
      obtain ⟨qq, eq⟩ := c0
      have zd : (b.lo - a.lo).natAbs < 2 ^ 391 := by
        have := sa.1
        have := sb.1
        omega
      have ear : gcdI a.st b.st * (b.st / gcdI a.st b.st) = b.st := Int.mul_ediv_cancel' g2
      have har : 0 < b.st / gcdI a.st b.st := Int.ediv_pos_of_pos_of_dvd bs (by omega) g2
      have zar : (b.st / gcdI a.st b.st).natAbs < 2 ^ 149 := div_lt zb
      have zan : (a.st / gcdI a.st b.st).natAbs < 2 ^ 391 := div_lt zas
      have zq : ((b.lo - a.lo) / gcdI a.st b.st).natAbs < 2 ^ 391 := div_lt zd
      have eqq : (b.lo - a.lo) / gcdI a.st b.st = qq := by rw [eq]; exact Int.mul_ediv_cancel_left _ (by omega)
      refine iteF ⟨_, rfl, p2, _, 2, _, rfl, rfl, hp2, atI_nat (j := 2) rfl, _, rfl, _, _, rfl, rfl, divW hg0 zg (by decide), ?_⟩
      walk_at "u"
      refine ⟨_, rfl, p2, _, 0, _, rfl, rfl, hp2, atI_nat (j := 0) rfl, _, rfl, p, _, 0, _, rfl, rfl, hp, atI_nat (j := 0) rfl, _, _, rfl, rfl, _, rfl, _, _, rfl, rfl, divW hg0 zg (by decide), ?_⟩
      refine ⟨_, rfl, p, _, 2, _, rfl, rfl, hp, atI_nat (j := 2) rfl, _, rfl, _, _, rfl, rfl, divW hg0 zg (by decide), _, rfl, _, _, rfl, har, Nat.lt_of_lt_of_le zar (Nat.pow_le_pow_right (by decide) (by decide)), parted_co as, fun r r0 r1 rd => ?_⟩
      have zr : r.natAbs < 2 ^ 149 := by omega
      refine ⟨_, _, rfl, rfl, mulW zq zr (by decide) (by decide), .inl ⟨_, rfl, _, rfl, _, _, rfl, rfl, har, ?_⟩⟩
      have hcr := crt (t := (b.lo - a.lo) / gcdI a.st b.st * r % (b.st / gcdI a.st b.st)) g1 g2 hg0 eq rd (by
        rw [eqq]
        exact ⟨-(qq * r / (b.st / gcdI a.st b.st)), by
          have := Int.emod_add_mul_ediv (qq * r) (b.st / gcdI a.st b.st)
          rw [Int.mul_neg]
          omega⟩)
      have zt : ((b.lo - a.lo) / gcdI a.st b.st * r % (b.st / gcdI a.st b.st)).natAbs < 2 ^ 149 := by
        have := Int.emod_nonneg ((b.lo - a.lo) / gcdI a.st b.st * r) (show b.st / gcdI a.st b.st ≠ 0 by omega)
        have := Int.emod_lt_of_pos ((b.lo - a.lo) / gcdI a.st b.st * r) har
        omega
      walk_at "u"
      refine ⟨_, rfl, p, _, 0, _, rfl, rfl, hp, atI_nat (j := 0) rfl, _, rfl, p, _, 2, _, rfl, rfl, hp, atI_nat (j := 2) rfl, _, rfl, _, _, rfl, rfl, mulW zas zt (by decide) (by decide), _, _, rfl, rfl, ?_⟩
      generalize a.st * ((b.lo - a.lo) / gcdI a.st b.st * r % (b.st / gcdI a.st b.st)) = xt at hcr ⊢
      obtain ⟨hx1, hx2⟩ := hcr
      walk_at "u"
      have hw0 := lcm_pos as bs
      have hw := lcm_dvd_iff (m := a.st) (n := b.st)
      rw [lcm_whole as bs] at hw0
      have hw : ∀ d, a.st / gcdI a.st b.st * b.st ∣ d ↔ a.st ∣ d ∧ b.st ∣ d := fun d => by rw [← lcm_whole as bs]; exact hw d
      refine ⟨_, rfl, p, _, 2, _, rfl, rfl, hp, atI_nat (j := 2) rfl, _, rfl, _, _, rfl, rfl, divW hg0 zg (by decide), _, rfl, p2, _, 2, _, rfl, rfl, hp2, atI_nat (j := 2) rfl, _, _, rfl, rfl, mulW zan zbs (by decide) (by decide), ?_⟩
      generalize a.st / gcdI a.st b.st * b.st = whole at hw0 hw ⊢
      walk_at "u"
      refine ⟨_, rfl, p, _, 0, _, rfl, rfl, hp, atI_nat (j := 0) rfl, _, rfl, p2, _, 0, _, rfl, rfl, hp2, atI_nat (j := 0) rfl, _, _, rfl, ?_⟩
      walk_at "u"
      refine ⟨_, rfl, p, _, 1, _, rfl, rfl, hp, atI_nat (j := 1) rfl, _, rfl, p2, _, 1, _, rfl, rfl, hp2, atI_nat (j := 1) rfl, _, _, rfl, ?_⟩
      rw [max_if, min_if]
      walk_at "u"
      refine ⟨_, rfl, _, rfl, _, rfl, _, _, rfl, rfl, .inl ⟨_, rfl, _, rfl, _, _, rfl, rfl, hw0, _, _, rfl, rfl, ?_⟩⟩
      obtain ⟨u1, u2, u3⟩ := up_to2 (x := a.lo + xt) (low := max a.lo b.lo) hw0
      generalize max a.lo b.lo + (a.lo + xt - max a.lo b.lo) % whole = first at u1 u2 u3 ⊢
      walk_at "u"
      refine ⟨_, rfl, _, rfl, _, _, rfl, rfl, _, rfl, ?_⟩
      by_cases c1 : min a.hi b.hi < first
      · rw [decide_eq_true c1]
        exact iteT (q .non H none (Same.refl H) (met_over hx1 hx2 hw0 hw u1 u3 c1) rfl)
      · rw [decide_eq_false c1]
        refine iteF ⟨_, rfl, _, rfl, _, rfl, _, _, rfl, rfl, .inl ⟨_, rfl, _, rfl, _, _, rfl, rfl, hw0, _, _, rfl, rfl, ?_⟩⟩
        obtain ⟨w1, w2, w3⟩ := down_to2 (x := first) (high := min a.hi b.hi) hw0
        generalize min a.hi b.hi - (min a.hi b.hi - first) % whole = last at w1 w2 w3 ⊢
        have M := met_some hx1 hx2 hw0 hw u1 u2 u3 (by omega) w1 w2 w3
        walk_at "u"
        refine ⟨_, rfl, _, rfl, rfl, _, rfl, ?_⟩
        by_cases c2 : first = last
        · rw [if_pos c2] at M
          subst c2
          exact ifT (decide_eq_true rfl) ⟨_, rfl, _, rfl, by show 3 ≤ sizeLine; decide, fun t ht => q _ _ _ (same_new ht) M ⟨t, rfl, SqT.of upd_same, M.1⟩⟩
        · rw [if_neg c2] at M
          exact ifF (decide_eq_false fun z => c2 (V.int.inj z).symm) ⟨_, rfl, _, rfl, _, rfl, by show 3 ≤ sizeLine; decide, fun t ht => q _ _ _ (same_new ht) M ⟨t, rfl, SqT.of upd_same, M.1⟩⟩
    · rw [decide_eq_false fun z => c0 (Int.dvd_of_emod_eq_zero (V.int.inj z))]
      exact iteT (q .non H none (Same.refl H) (met_none g1 g2 c0) rfl)
def spEitherL (K : PySem.W.Frag) : Sp := fun vs H Q _ => ∃ p q a b, vs = [.ref p, .ref q] ∧ SqT K H p a.V ∧ SqT K H q b.V ∧ a.ok ∧ b.ok ∧ a.sml 147 ∧ b.sml 147 ∧ ∀ v H', Same H H' → gFen K (eitherF a b) v H' → Q v H'
theorem ok_law_either {f : Addr} {fd : FuncData} (B : Bi mg) (F : Fun K "_law_either" "_law_either" s_law_either f fd) (Claw_gcd : Cal P w K mg base CX0 1 "_law_gcd" p_law_gcd (spGcd K)) : FnOk P w K mg base CX0 2 f fd p_law_either (spEitherL K) := by
  refine F.ok sc_law_either (fun vs H Q E h => ?_) (fun cdv A outer s H vs Q E hr h => ?_)
  · obtain ⟨p, q, a, b, rfl, _⟩ := h
    rfl
  · obtain ⟨p, p2, a, b, rfl, hp, hp2, ao, bo, sa, sb, q⟩ := h
    have zb := bo.st_sml sb
    have z1 : b.st.natAbs < 2 ^ 149 := by omega
    have z2 : (b.lo - a.lo).natAbs < 2 ^ 149 := by
      have := sa.1
      have := sb.1
      omega
    refine ⟨_, (pss_cons (ps_set (i := 2) sc_law_either.nd rfl (by first | exact .inl rfl | exact .inr rfl) (pe_call Claw_gcd.G (hr.mono (by decide)) (by rfl) Claw_gcd.g Claw_gcd.kp Claw_gcd.b .nil pass0 (pa_cons (pe_call Claw_gcd.G (hr.mono (by decide)) (by rfl) Claw_gcd.g Claw_gcd.kp Claw_gcd.b .nil pass0 (pa_cons (pe_ix (ix_tupK (K := K) rfl) (pv 0) pe_int (fun _ _ => rfl)) (pa_cons (pe_ix (ix_tupK (K := K) rfl) (pv 1) pe_int (fun _ _ => rfl)) pa_nil))) (pa_cons (pe_op op_sub (pe_ix (ix_tupK (K := K) rfl) (pv 1) pe_int (fun _ _ => rfl)) (pe_ix (ix_tupK (K := K) rfl) (pv 0) pe_int (fun _ _ => rfl))) pa_nil))))
      (pss_one (ps_ret (pe_tup (pa_cons (pe_callB (call_min2 (by rfl)) (by rfl) B.min (by decide +kernel) (pa_cons (pe_ix (ix_tupK (K := K) rfl) (pv 0) pe_int (fun _ _ => rfl)) (pa_cons (pe_ix (ix_tupK (K := K) rfl) (pv 1) pe_int (fun _ _ => rfl)) pa_nil))) (pa_cons (pe_callB (call_max2 (by rfl)) (by rfl) B.max (by decide +kernel) (pa_cons (pe_ix (ix_tupK (K := K) rfl) (pv 0) pe_int (fun _ _ => rfl)) (pa_cons (pe_ix (ix_tupK (K := K) rfl) (pv 1) pe_int (fun _ _ => rfl)) pa_nil))) (pa_cons (pv 2) pa_nil))))))), ?_⟩
    walk_at "u"
    refine ⟨_, rfl, p, _, 2, _, rfl, rfl, hp, atI_nat (j := 2) rfl, _, rfl, p2, _, 2, _, rfl, rfl, hp2, atI_nat (j := 2) rfl, _, _, rfl, z1, ?_⟩
    refine ⟨_, rfl, p2, _, 0, _, rfl, rfl, hp2, atI_nat (j := 0) rfl, _, rfl, p, _, 0, _, rfl, rfl, hp, atI_nat (j := 0) rfl, _, _, rfl, rfl, _, _, rfl, z2, ?_⟩
    walk_at "u"
    refine ⟨_, rfl, p, _, 0, _, rfl, rfl, hp, atI_nat (j := 0) rfl, _, rfl, p2, _, 0, _, rfl, rfl, hp2, atI_nat (j := 0) rfl, _, _, rfl, ?_⟩
    refine ⟨_, rfl, p, _, 1, _, rfl, rfl, hp, atI_nat (j := 1) rfl, _, rfl, p2, _, 1, _, rfl, rfl, hp2, atI_nat (j := 1) rfl, _, _, rfl, _, rfl, by show 3 ≤ sizeLine; decide, fun t ht => ?_⟩
    rw [max_if, min_if]
    exact q _ _ (same_new ht) ⟨t, rfl, SqT.of upd_same, either_ok ao bo⟩
def spBehindL (K : PySem.W.Frag) : Sp := fun vs H Q _ => ∃ p q a b, vs = [.ref p, .ref q] ∧ SqT K H p a.V ∧ SqT K H q b.V ∧ a.ok ∧ b.ok ∧ b.sml 147 ∧ ∀ v H', Same H H' → gFen K (behindF a b) v H' → Q v H'
theorem ok_law_behind {f : Addr} {fd : FuncData} (B : Bi mg) (F : Fun K "_law_behind" "_law_behind" s_law_behind f fd) (Claw_gcd : Cal P w K mg base CX0 1 "_law_gcd" p_law_gcd (spGcd K)) : FnOk P w K mg base CX0 2 f fd p_law_behind (spBehindL K) := by
  refine F.ok sc_law_behind (fun vs H Q E h => ?_) (fun cdv A outer s H vs Q E hr h => ?_)
  · obtain ⟨p, q, a, b, rfl, _⟩ := h
    rfl
  · obtain ⟨p, p2, a, b, rfl, hp, hp2, ao, bo, sb, q⟩ := h
    have zb := bo.st_sml sb
    have z1 : b.st.natAbs < 2 ^ 149 := by omega
    refine ⟨_, (pss_one (ps_ret (pe_tup (pa_cons (pe_op op_add (pe_ix (ix_tupK (K := K) rfl) (pv 0) pe_int (fun _ _ => rfl)) (pe_ix (ix_tupK (K := K) rfl) (pv 1) pe_int (fun _ _ => rfl))) (pa_cons (pe_op op_add (pe_ix (ix_tupK (K := K) rfl) (pv 0) pe_int (fun _ _ => rfl)) (pe_ix (ix_tupK (K := K) rfl) (pv 1) pe_int (fun _ _ => rfl))) (pa_cons (pe_call Claw_gcd.G (hr.mono (by decide)) (by rfl) Claw_gcd.g Claw_gcd.kp Claw_gcd.b .nil pass0 (pa_cons (pe_ix (ix_tupK (K := K) rfl) (pv 0) pe_int (fun _ _ => rfl)) (pa_cons (pe_ix (ix_tupK (K := K) rfl) (pv 1) pe_int (fun _ _ => rfl)) pa_nil))) pa_nil)))))), ?_⟩
    walk_at "u"
    refine ⟨_, rfl, p, _, 0, _, rfl, rfl, hp, atI_nat (j := 0) rfl, _, rfl, p2, _, 0, _, rfl, rfl, hp2, atI_nat (j := 0) rfl, _, _, rfl, rfl, ?_⟩
    refine ⟨_, rfl, p, _, 1, _, rfl, rfl, hp, atI_nat (j := 1) rfl, _, rfl, p2, _, 1, _, rfl, rfl, hp2, atI_nat (j := 1) rfl, _, _, rfl, rfl, ?_⟩
    refine ⟨_, rfl, p, _, 2, _, rfl, rfl, hp, atI_nat (j := 2) rfl, _, rfl, p2, _, 2, _, rfl, rfl, hp2, atI_nat (j := 2) rfl, _, _, rfl, z1, by show 3 ≤ sizeLine; decide, fun t ht => ?_⟩
    exact q _ _ (same_new ht) ⟨t, rfl, SqT.of upd_same, behind_ok ao bo⟩
def spWithinL (K : PySem.W.Frag) : Sp := fun vs H Q _ => ∃ (p q : Addr) (a b : Fen), vs = [.ref p, .ref q] ∧ SqT K H p a.V ∧ SqT K H q b.V ∧ a.ok ∧ b.ok ∧ ∀ c : Bool, (c = true ↔ ∀ x, a.mem x → b.mem x) → Q (.bl c) H
theorem ok_law_within {f : Addr} {fd : FuncData} (B : Bi mg) (F : Fun K "_law_within" "_law_within" s_law_within f fd) (Claw_has : Cal P w K mg base CX0 1 "_law_has" p_law_has (spHasL K)) : FnOk P w K mg base CX0 2 f fd p_law_within (spWithinL K) := by
  refine F.ok sc_law_within (fun vs H Q E h => ?_) (fun cdv A outer s H vs Q E hr h => ?_)
  · obtain ⟨p, q, a, b, rfl, _⟩ := h
    rfl
  · obtain ⟨p, p2, a, b, rfl, hp, hp2, ao, bo, q⟩ := h
    refine ⟨_, (pss_cons (ps_if (PW.pt (pw_or (pt_not (pt_val (pe_call Claw_has.G (hr.mono (by decide)) (by rfl) Claw_has.g Claw_has.kp Claw_has.b .nil pass0 (pa_cons (pv 1) (pa_cons (pe_ix (ix_tupK (K := K) rfl) (pv 0) pe_int (fun _ _ => rfl)) pa_nil))))) (pw_or1 (pt_not (pt_val (pe_call Claw_has.G (hr.mono (by decide)) (by rfl) Claw_has.g Claw_has.kp Claw_has.b .nil pass0 (pa_cons (pv 1) (pa_cons (pe_ix (ix_tupK (K := K) rfl) (pv 0) pe_int (fun _ _ => rfl)) pa_nil))))))))
      (pss_one (ps_ret pe_bl))
      pss_nil)
      (pss_one (ps_ret (pe_or (pe_cmpR op_eq (pe_ix (ix_tupK (K := K) rfl) (pv 0) pe_int (fun _ _ => rfl)) pe_int (nomark _)) (pe_one (pe_cmpR op_eq (pe_op op_mod (pe_callTy call_int1 (by rfl) B.int_ (by decide +kernel) (pa_cons (pe_ix (ix_tupK (K := K) rfl) (pv 0) pe_int (fun _ _ => rfl)) pa_nil)) (pe_ix (ix_tupK (K := K) rfl) (pv 1) pe_int (fun _ _ => rfl))) pe_int (nomark _))))))), ?_⟩
    walk_at "u"
    have key := within_iff ao bo
    refine ⟨_, rfl, _, rfl, p, _, 0, _, rfl, rfl, hp, atI_nat (j := 0) rfl, p2, b, a.lo, rfl, hp2, bo, _, rfl, ?_⟩
    cases h1 : hasF b a.lo with
    | false => exact iteT (iteT (q false ⟨fun z => (by cases z), fun z => absurd ((hasF_mem bo _).mpr (key.mp z).1) (by rw [h1]; exact Bool.false_ne_true)⟩))
    | true =>
      refine iteF ⟨_, rfl, _, rfl, p, _, 1, _, rfl, rfl, hp, atI_nat (j := 1) rfl, p2, b, a.hi, rfl, hp2, bo, _, rfl, ?_⟩
      cases h2 : hasF b a.hi with
      | false => exact iteT (q false ⟨fun z => (by cases z), fun z => absurd ((hasF_mem bo _).mpr (key.mp z).2.1) (by rw [h2]; exact Bool.false_ne_true)⟩)
      | true =>
        have m1 := (hasF_mem bo _).mp h1
        have m2 := (hasF_mem bo _).mp h2
        refine iteF ⟨_, rfl, p, _, 2, _, rfl, rfl, hp, atI_nat (j := 2) rfl, rfl, _, rfl, ?_⟩
        by_cases c : a.st = 0
        · exact ifT (decide_eq_true (by rw [c])) (q true ⟨fun _ => key.mpr ⟨m1, m2, by rw [c]; exact Int.dvd_zero _⟩, fun _ => rfl⟩)
        · have lt : a.lo < a.hi := by
            have x1 := ao.2.1
            have x2 := ao.2.2.2
            omega
          have bp : 0 < b.st := bo.stp (by
            obtain ⟨y1, y2, _⟩ := m1
            obtain ⟨y3, y4, _⟩ := m2
            omega)
          refine ifF (decide_eq_false fun z => c (V.int.inj z)) ⟨_, rfl, p, _, 2, _, rfl, rfl, hp, atI_nat (j := 2) rfl, .inl ⟨_, rfl, _, rfl, p2, _, 2, _, rfl, rfl, hp2, atI_nat (j := 2) rfl, _, _, rfl, rfl, bp, rfl, q _ ?_⟩⟩
          rw [decide_eq_true_iff, key]
          constructor
          · intro z
            exact ⟨m1, m2, Int.dvd_of_emod_eq_zero (V.int.inj z)⟩
          · rintro ⟨_, _, z⟩
            rw [Int.emod_eq_zero_of_dvd z]
end
end K68

namespace K68
open PySem PySem.Spec PyProof.Rows L2 KR KK
local macro_rules | `(tactic| walk_at "u") => `(tactic| try dsimp only [tSeq, tCutS, tCutE, tCutT, tIfS, tRet, tRetN, tNext, tBreak, tCont, tDrop, tAsg, tPar, gName, gTup, gCons, gNil, tOr, tAnd, tNot, tB, tTest, tCB, tCons, tNil, tC, tVar, tAndV, tOrV, tNotV, tOp, tUn, tIf, tIsN, tNotN, tTup, tLst, tCall, tCallS, tBM, tBM0, tSl, tPart, tNoPart, tYes, iList, iTup, iSeq, iStr, iRng1, iRng2, iEnumA, rI, rI0, rU, cxOf, Cx.nox, Cx.wish, L2.start, List.map, List.set, Nat.repeat, List.length_cons, List.length_nil, List.replicate, List.nil_append, List.cons_append, List.append_nil, Nat.reduceAdd, Nat.reduceSub, E0, tBad, tTr])

theorem sb_mut {d D : Addr} {H H' : Hp} {o : HO} (h : H D = none) (e : SameB d H H') : SameB d H (upd H' D o) := fun b u n hb => by
  rw [upd_ne (ne_of_none hb h)]
  exact e b u n hb
theorem intL_same {H H' : Hp} {d : Addr} (e : Same H H') (h : IntL H d) : IntL H' d := by
  obtain ⟨ns, h⟩ := h
  exact ⟨ns, e _ _ h⟩
theorem intL_ne {H : Hp} {d D : Addr} (n : d ≠ D) {o : HO} (h : IntL H d) : IntL (upd H D o) d := by
  obtain ⟨ns, h⟩ := h
  exact ⟨ns, by rw [upd_ne n]; exact h⟩
theorem sb_at {d D : Addr} {H H' : Hp} {o : HO} (e : SameB d H H') (n : D ≠ d) (h : H D = some o) : H' D = some o := e _ _ n h
theorem st_sb {K : PySem.W.Frag} {H H' : Hp} {d a : Addr} {xs : List V} (hd : IntL H d) (e : SameB d H H') (h : SqT K H a xs) : SqT K H' a xs := by
  obtain ⟨ns, hd⟩ := hd
  exact st_b hd e h
/-- a drawn fence, the n-th -/
def Dr (n : Nat) (f : Fen) : Prop := f.ok ∧ f.lo.natAbs ≤ 2 ^ 101 + n * 2 ^ 137 ∧ (f.hi - f.lo).natAbs ≤ 2 ^ 131
theorem Dr.sml {f : Fen} (h : Dr 3 f) : f.sml 140 := by
  obtain ⟨h1, h2, h3⟩ := h
  have h4 := h1.2.1
  have b : (2 : Nat) ^ 101 + 3 * 2 ^ 137 + 2 ^ 131 < 2 ^ 140 := by decide +kernel
  show f.lo.natAbs < 2 ^ 140 ∧ f.hi.natAbs < 2 ^ 140
  revert h2 h3 b
  generalize (2 : Nat) ^ 101 = x1
  generalize (2 : Nat) ^ 137 = x2
  generalize (2 : Nat) ^ 131 = x3
  generalize (2 : Nat) ^ 140 = x4
  intro h2 h3 b
  constructor <;> omega
theorem Dr.mono {n m : Nat} {f : Fen} (h : Dr n f) (l : n ≤ m) : Dr m f := by
  obtain ⟨h1, h2, h3⟩ := h
  exact ⟨h1, Nat.le_trans h2 (Nat.add_le_add_left (Nat.mul_le_mul_right _ l) _), h3⟩
theorem far_le {l a x s : Int} {g0 g1 g2 g3 g4 : Nat} (h1 : l.natAbs ≤ g4 + g0) (h2 : l ≤ a) (h3 : a ≤ l + 29 * (g2 : Int)) (h4 : 0 ≤ x) (h5 : x ≤ s * 29) (h6 : s ≤ (g3 : Int)) (h7 : 29 * g2 + 29 * g3 ≤ g1) : (a - x).natAbs ≤ g4 + (g0 + g1) := by omega
theorem mod_up {x m : Int} (h : 0 ≤ x) (hm : 0 < m) : 0 ≤ x % m ∧ x % m ≤ x := by
  have e := Int.emod_add_mul_ediv x m
  have h1 := Int.emod_nonneg x (show m ≠ 0 by omega)
  have h2 : 0 ≤ m * (x / m) := Int.mul_nonneg (by omega) (Int.ediv_nonneg h (by omega))
  exact ⟨h1, by omega⟩
section
variable {P : Program} {w : World} {K : PySem.W.Frag} {mg : Str → Option Value} {base : Heap}
/-- the fences that stand in a list -/
def FenL (K : PySem.W.Frag) (H : Hp) (v : V) (f : Fen) : Prop := ∃ p, v = .ref p ∧ SqT K H p f.V
theorem FenL.same {H H' : Hp} {v : V} {f : Fen} (e : Same H H') (h : FenL K H v f) : FenL K H' v f := by
  obtain ⟨p, r, h⟩ := h
  exact ⟨p, r, st_same e h⟩
theorem lo_at {r : Int} (h0 : 0 ≤ r) (h1 : r < 5) : ∃ n : Int, n.natAbs ≤ 2 ^ 101 ∧ atI [V.int 0, .int 1, .int (-7), .int ((10 : Int) ^ (30 : Int).toNat), .int (-((10 : Int) ^ (18 : Int).toNat))] r = some (.int n) := by
  obtain ⟨m, rfl⟩ : ∃ m : Nat, r = (m : Int) := ⟨r.toNat, by omega⟩
  have hm : m < 5 := by omega
  have key : ∀ m : Nat, m < 5 → ∃ n : Int, n.natAbs ≤ 2 ^ 101 ∧ [V.int 0, .int 1, .int (-7), .int ((10 : Int) ^ (30 : Int).toNat), .int (-((10 : Int) ^ (18 : Int).toNat))][m]? = some (.int n) := by
    intro m hm
    match m, hm with
    | 0, _ => exact ⟨_, by decide, rfl⟩
    | 1, _ => exact ⟨_, by decide, rfl⟩
    | 2, _ => exact ⟨_, by decide, rfl⟩
    | 3, _ => exact ⟨_, by decide +kernel, rfl⟩
    | 4, _ => exact ⟨_, by decide +kernel, rfl⟩
  obtain ⟨n, h2, e⟩ := key m hm
  exact ⟨n, h2, atI_nat e⟩
theorem st_at {r : Int} (h0 : 0 ≤ r) (h1 : r < 7) : ∃ n : Int, 0 ≤ n ∧ n < 2 ^ 111 ∧ atI [V.int 0, .int 1, .int 2, .int 6, .int ((10 : Int) ^ (9 : Int).toNat + 7), .int ((10 : Int) ^ (9 : Int).toNat + 9), .int (12 * (10 : Int) ^ (32 : Int).toNat + 6)] r = some (.int n) := by
  obtain ⟨m, rfl⟩ : ∃ m : Nat, r = (m : Int) := ⟨r.toNat, by omega⟩
  have hm : m < 7 := by omega
  have key : ∀ m : Nat, m < 7 → ∃ n : Int, 0 ≤ n ∧ n < 2 ^ 111 ∧ [V.int 0, .int 1, .int 2, .int 6, .int ((10 : Int) ^ (9 : Int).toNat + 7), .int ((10 : Int) ^ (9 : Int).toNat + 9), .int (12 * (10 : Int) ^ (32 : Int).toNat + 6)][m]? = some (.int n) := by
    intro m hm
    match m, hm with
    | 0, _ => exact ⟨_, by decide, by decide +kernel, rfl⟩
    | 1, _ => exact ⟨_, by decide, by decide +kernel, rfl⟩
    | 2, _ => exact ⟨_, by decide, by decide +kernel, rfl⟩
    | 3, _ => exact ⟨_, by decide, by decide +kernel, rfl⟩
    | 4, _ => exact ⟨_, by decide +kernel, by decide +kernel, rfl⟩
    | 5, _ => exact ⟨_, by decide +kernel, by decide +kernel, rfl⟩
    | 6, _ => exact ⟨_, by decide +kernel, by decide +kernel, rfl⟩
  obtain ⟨n, h2, h3, e⟩ := key m hm
  exact ⟨n, h2, h3, atI_nat e⟩
theorem many_at {r : Int} (h0 : 0 ≤ r) (h1 : r < 5) : ∃ n : Int, 0 ≤ n ∧ n ≤ 1000000 ∧ atI [V.int 1, .int 0, .int 3, .int 10, .int ((10 : Int) ^ (6 : Int).toNat)] r = some (.int n) := by
  obtain ⟨m, rfl⟩ : ∃ m : Nat, r = (m : Int) := ⟨r.toNat, by omega⟩
  have hm : m < 5 := by omega
  have key : ∀ m : Nat, m < 5 → ∃ n : Int, 0 ≤ n ∧ n ≤ 1000000 ∧ [V.int 1, .int 0, .int 3, .int 10, .int ((10 : Int) ^ (6 : Int).toNat)][m]? = some (.int n) := by
    intro m hm
    match m, hm with
    | 0, _ => exact ⟨_, by decide, by decide, rfl⟩
    | 1, _ => exact ⟨_, by decide, by decide, rfl⟩
    | 2, _ => exact ⟨_, by decide, by decide, rfl⟩
    | 3, _ => exact ⟨_, by decide, by decide, rfl⟩
    | 4, _ => exact ⟨_, by decide +kernel, by decide +kernel, rfl⟩
  obtain ⟨n, h2, h3, e⟩ := key m hm
  exact ⟨n, h2, h3, atI_nat e⟩
def spDrawn (K : PySem.W.Frag) : Sp := fun vs H Q _ => ∃ (d e : Addr) (es : List V) (fs : List Fen), vs = [.ref d, .ref e] ∧ d ≠ e ∧ IntL H d ∧ H e = some (.lst es) ∧ Paired (FenL K H) es fs ∧ fs.length ≤ 2 ∧ (∀ f ∈ fs, Dr fs.length f) ∧
  ∀ p H' f, SameB d H H' → IntL H' d → SqT K H' p f.V → Dr (fs.length + 1) f → Q (.ref p) H'
theorem ok_law_fence_drawn {f : Addr} {fd : FuncData} (B : Bi mg) (F : Fun K "_law_fence_drawn" "_law_fence_drawn" s_law_fence_drawn f fd)
    (Claw_take : Cal P w K mg base CX0 1 "_law_take" p_law_take (spTake K)) : FnOk P w K mg base CX0 2 f fd p_law_fence_drawn (spDrawn K) := by
  refine F.ok sc_law_fence_drawn (fun vs H Q E h => ?_) (fun cdv A outer s H vs Q E hr h => ?_)
  · obtain ⟨d, e, es, fs, rfl, _⟩ := h
    rfl
  · obtain ⟨d, e, es, fs, rfl, nde, hd, he, fr, l2, hfs, q⟩ := h
    refine ⟨_, (pss_cons (ps_set (i := 2) sc_law_fence_drawn.nd rfl (by first | exact .inl rfl | exact .inr rfl) (pe_ix (ix_listK (K := K) rfl) (pe_lst (pa_cons pe_int (pa_cons pe_int (pa_cons (pe_un un_neg pe_int) (pa_cons (pe_op op_pow pe_int pe_int) (pa_cons (pe_un un_neg (pe_op op_pow pe_int pe_int)) pa_nil)))))) (pe_call Claw_take.G (hr.mono (by decide)) (by rfl) Claw_take.g Claw_take.kp Claw_take.b .nil pass0 (pa_cons (pv 0) (pa_cons pe_int pa_nil))) (fun _ _ => rfl)))
      (pss_cons (ps_set (i := 3) sc_law_fence_drawn.nd rfl (by first | exact .inl rfl | exact .inr rfl) (pe_ix (ix_listK (K := K) rfl) (pe_lst (pa_cons pe_int (pa_cons pe_int (pa_cons pe_int (pa_cons pe_int (pa_cons (pe_op op_add (pe_op op_pow pe_int pe_int) pe_int) (pa_cons (pe_op op_add (pe_op op_pow pe_int pe_int) pe_int) (pa_cons (pe_op op_add (pe_op op_mulW pe_int (pe_op op_pow pe_int pe_int)) pe_int) pa_nil)))))))) (pe_call Claw_take.G (hr.mono (by decide)) (by rfl) Claw_take.g Claw_take.kp Claw_take.b .nil pass0 (pa_cons (pv 0) (pa_cons pe_int pa_nil))) (fun _ _ => rfl)))
      (pss_cons (ps_set (i := 4) sc_law_fence_drawn.nd rfl (by first | exact .inl rfl | exact .inr rfl) (pe_ix (ix_listK (K := K) rfl) (pe_lst (pa_cons pe_int (pa_cons pe_int (pa_cons pe_int (pa_cons pe_int (pa_cons (pe_op op_pow pe_int pe_int) pa_nil)))))) (pe_call Claw_take.G (hr.mono (by decide)) (by rfl) Claw_take.g Claw_take.kp Claw_take.b .nil pass0 (pa_cons (pv 0) (pa_cons pe_int pa_nil))) (fun _ _ => rfl)))
      (pss_cutS (ps_if (pt_cmpR op_eq (pv 3) pe_int (nomark _))
      (pss_one (ps_set (i := 4) sc_law_fence_drawn.nd rfl (by first | exact .inl rfl | exact .inr rfl) pe_int))
      pss_nil)
      (pss_cutS (ps_if (pt_cmpR op_eq (pv 4) pe_int (nomark _))
      (pss_one (ps_set (i := 3) sc_law_fence_drawn.nd rfl (by first | exact .inl rfl | exact .inr rfl) pe_int))
      pss_nil)
      (pss_cutS (ps_if (PW.pt (pw_and (pt_cmpR op_gt (pe_callB (call_lenK (K := K) rfl) (by rfl) B.len PySem.boot_len (pa_cons (pv 1) pa_nil)) pe_int (nomark _)) (pw_and1 (pt_cmpR op_eq (pe_call Claw_take.G (hr.mono (by decide)) (by rfl) Claw_take.g Claw_take.kp Claw_take.b .nil pass0 (pa_cons (pv 0) (pa_cons pe_int pa_nil))) pe_int (nomark _)))))
      (pss_cons (ps_set (i := 5) sc_law_fence_drawn.nd rfl (by first | exact .inl rfl | exact .inr rfl) (pe_ix (ix_listK (K := K) rfl) (pv 1) (pe_call Claw_take.G (hr.mono (by decide)) (by rfl) Claw_take.g Claw_take.kp Claw_take.b .nil pass0 (pa_cons (pv 0) (pa_cons (pe_callB (call_lenK (K := K) rfl) (by rfl) B.len PySem.boot_len (pa_cons (pv 1) pa_nil)) pa_nil))) (fun _ _ => rfl)))
      (pss_cons (ps_set (i := 6) sc_law_fence_drawn.nd rfl (by first | exact .inl rfl | exact .inr rfl) (pe_ix (ix_tupK (K := K) rfl) (pv 5) pe_int (fun _ _ => rfl)))
      (pss_cutS (ps_if (pt_cmpR op_gt (pe_ix (ix_tupK (K := K) rfl) (pv 5) pe_int (fun _ _ => rfl)) pe_int (nomark _))
      (pss_one (ps_set (i := 6) sc_law_fence_drawn.nd rfl (by first | exact .inl rfl | exact .inr rfl) (pe_op op_add (pe_ix (ix_tupK (K := K) rfl) (pv 5) pe_int (fun _ _ => rfl)) (pe_op op_mulW (pe_ix (ix_tupK (K := K) rfl) (pv 5) pe_int (fun _ _ => rfl)) (pe_op op_mod (pe_callTy call_int1 (by rfl) B.int_ (by decide +kernel) (pa_cons (pe_call Claw_take.G (hr.mono (by decide)) (by rfl) Claw_take.g Claw_take.kp Claw_take.b .nil pass0 (pa_cons (pv 0) (pa_cons pe_int pa_nil))) pa_nil)) (pe_op op_add (pe_op op_fdivW (pe_op op_sub (pe_ix (ix_tupK (K := K) rfl) (pv 5) pe_int (fun _ _ => rfl)) (pe_ix (ix_tupK (K := K) rfl) (pv 5) pe_int (fun _ _ => rfl))) (pe_ix (ix_tupK (K := K) rfl) (pv 5) pe_int (fun _ _ => rfl))) pe_int))))))
      pss_nil)
      (pss_one (ps_set (i := 2) sc_law_fence_drawn.nd rfl (by first | exact .inl rfl | exact .inr rfl) (pe_op op_sub (pv 6) (pe_op op_mulW (pv 3) (pe_op op_mod (pe_callTy call_int1 (by rfl) B.int_ (by decide +kernel) (pa_cons (pe_call Claw_take.G (hr.mono (by decide)) (by rfl) Claw_take.g Claw_take.kp Claw_take.b .nil pass0 (pa_cons (pv 0) (pa_cons pe_int pa_nil))) pa_nil)) (pe_op op_add (pv 4) pe_int)))))))))
      pss_nil)
      (pss_one (ps_ret (pe_tup (pa_cons (pv 2) (pa_cons (pe_op op_add (pv 2) (pe_op op_mulW (pv 3) (pv 4))) (pa_cons (pv 3) pa_nil)))))))))))), ?_⟩
    walk_at "u"
    have cp : ∀ j : Int, 0 ≤ j → j ≤ 1000 → CPow 10 j := fun j h0 h1 => ⟨h0, by omega, by decide⟩
    refine ⟨7, rfl, 10, 30, rfl, rfl, cp 30 (by decide) (by decide), 10, 18, rfl, rfl, cp 18 (by decide) (by decide), _, rfl, by show 5 ≤ sizeLine; decide, fun l hl => ?_⟩
    have ne_of : ∀ {H' : Hp} {l : Addr}, IntL H' d → H' l = none → l ≠ d := fun {H' l} h hl z => by
      obtain ⟨ns, e⟩ := h
      rw [z, e] at hl
      cases hl
    refine ⟨_, rfl, d, 5, rfl, intL_same (same_new hl) hd, by decide, fun r H1 r0 r1 s1 hd1 => ?_⟩
    obtain ⟨lo, zlo, elo⟩ := lo_at r0 r1
    refine ⟨l, _, r, _, rfl, rfl, .inl (.inl (s1 _ _ (ne_of hd hl) upd_same)), elo, ?_⟩
    have sb1 : SameB d H H1 := (SameB.of (same_new hl)).trans s1
    clear hl s1 elo r0 r1
    walk_at "u"
    refine ⟨10, 9, rfl, rfl, cp 9 (by decide) (by decide), _, _, rfl, rfl, 10, 9, rfl, rfl, cp 9 (by decide) (by decide), _, _, rfl, rfl, 10, 32, rfl, rfl, cp 32 (by decide) (by decide), _, _, rfl, rfl, mulW (a := 10) (b := 200) (by decide) (by decide +kernel) (by decide) (by decide), _, _, rfl, rfl, by show 7 ≤ sizeLine; decide, fun l hl => ?_⟩
    refine ⟨_, rfl, d, 7, rfl, intL_same (same_new hl) hd1, by decide, fun r H2 r0 r1 s2 hd2 => ?_⟩
    obtain ⟨st, st0, st1, est⟩ := st_at r0 r1
    refine ⟨l, _, r, _, rfl, rfl, .inl (.inl (s2 _ _ (ne_of hd1 hl) upd_same)), est, ?_⟩
    have sb2 : SameB d H H2 := (sb1.trans (SameB.of (same_new hl))).trans s2
    clear hl s2 est r0 r1 sb1 hd1
    walk_at "u"
    refine ⟨10, 6, rfl, rfl, cp 6 (by decide) (by decide), by show 5 ≤ sizeLine; decide, fun l hl => ?_⟩
    refine ⟨_, rfl, d, 5, rfl, intL_same (same_new hl) hd2, by decide, fun r H3 r0 r1 s3 hd3 => ?_⟩
    obtain ⟨mn, mn0, mn1, emn⟩ := many_at r0 r1
    refine ⟨l, _, r, _, rfl, rfl, .inl (.inl (s3 _ _ (ne_of hd2 hl) upd_same)), emn, ?_⟩
    have sb3 : SameB d H H3 := (sb2.trans (SameB.of (same_new hl))).trans s3
    clear hl s3 emn r0 r1 sb2 hd2
    walk_at "u"
    refine ⟨fun σ' H' => H' = H3 ∧ ∃ m : Int, σ' = [some (.ref d), some (.ref e), some (.int lo), some (.int st), some (.int m), none, none] ∧ 0 ≤ m ∧ m ≤ 1000000 ∧ (st = 0 → m = 0), ?_, ?_⟩
    · refine ⟨_, rfl, rfl, _, rfl, ?_⟩
      by_cases c : st = 0
      · exact ifT (decide_eq_true (by rw [c])) ⟨rfl, 0, rfl, by decide, by decide, fun _ => rfl⟩
      · exact ifF (decide_eq_false fun z => c (V.int.inj z)) ⟨rfl, mn, rfl, mn0, mn1, fun z => absurd z c⟩
    rintro σ' H' ⟨rfl, m, rfl, m0, m1, hm⟩
    refine ⟨fun σ' H'' => H'' = H' ∧ ∃ s : Int, σ' = [some (.ref d), some (.ref e), some (.int lo), some (.int s), some (.int m), none, none] ∧ 0 ≤ s ∧ s < 2 ^ 111 ∧ (s = 0 ∧ m = 0 ∨ 0 < s ∧ 0 < m), ?_, ?_⟩
    · refine ⟨_, rfl, rfl, _, rfl, ?_⟩
      by_cases c : m = 0
      · exact ifT (decide_eq_true (by rw [c])) ⟨rfl, 0, rfl, by decide, by decide, .inl ⟨rfl, c⟩⟩
      · exact ifF (decide_eq_false fun z => c (V.int.inj z)) ⟨rfl, st, rfl, st0, st1, .inr ⟨by omega, by omega⟩⟩
    rintro σ' H'' ⟨rfl, s, rfl, s0, s1, hsm⟩
    clear hm st0 st1 mn0 mn1
    have zs : s.natAbs < 2 ^ 111 := by omega
    refine ⟨fun σ' H2 => SameB d H H2 ∧ IntL H2 d ∧ ∃ (lo' : Int) (y5 y6 : Option V), σ' = [some (.ref d), some (.ref e), some (.int lo'), some (.int s), some (.int m), y5, y6] ∧ lo'.natAbs ≤ 2 ^ 101 + (fs.length + 1) * 2 ^ 137, ?_, ?_⟩
    · have lo0 : lo.natAbs ≤ 2 ^ 101 + (fs.length + 1) * 2 ^ 137 := Nat.le_trans zlo (Nat.le_add_right _ _)
      have heE : H'' e = some (.lst es) := sb3 _ _ (Ne.symm nde) he
      have hlen := Paired.length fr
      refine ⟨_, rfl, e, es, rfl, .inl (.inl (.inl heE)), _, _, rfl, rfl, _, rfl, ?_⟩
      by_cases c : 0 < es.length
      · refine ifT (decide_eq_true (by omega)) ⟨_, rfl, d, 2, rfl, hd3, by decide, fun r H4 r0 r1 s4 hd4 => ⟨rfl, _, rfl, ?_⟩⟩
        have sb4 := sb3.trans s4
        by_cases c2 : r = 1
        · refine ifT (decide_eq_true (by rw [c2])) ?_
          have heE4 : H4 e = some (.lst es) := sb4 _ _ (Ne.symm nde) he
          refine ⟨_, rfl, _, rfl, _, rfl, e, es, rfl, .inl (.inl (.inl heE4)), d, (es.length : Nat), rfl, hd4, by omega, fun r2 H5 r20 r21 s5 hd5 => ?_⟩
          have sb5 := sb4.trans s5
          have heE5 : H5 e = some (.lst es) := sb5 _ _ (Ne.symm nde) he
          obtain ⟨k, rfl⟩ : ∃ k : Nat, r2 = (k : Int) := ⟨r2.toNat, by omega⟩
          have hk : k < es.length := by omega
          obtain ⟨f, ef, pf, epf, hpf⟩ := pair_at fr (List.getElem?_eq_getElem hk)
          have df := hfs f (List.mem_of_getElem? ef)
          have hpf5 := st_sb hd sb5 hpf
          refine ⟨e, es, _, .ref pf, rfl, rfl, .inl (.inl heE5), atI_nat (by rw [List.getElem?_eq_getElem hk, epf]), ?_⟩
          walk_at "u"
          obtain ⟨fo, flo, fhi⟩ := df
          have fh := fo.2.1
          have fle := fo.st_le
          have fs0 := fo.1
          refine ⟨_, rfl, pf, _, 0, _, rfl, rfl, hpf5, atI_nat (j := 0) rfl, ?_⟩
          have p131 : (2 : Int) ^ 131 = ((2 ^ 131 : Nat) : Int) := by decide +kernel
          have zst : f.st.natAbs ≤ 2 ^ 131 := by omega
          have fst : f.st ≤ ((2 ^ 131 : Nat) : Int) := by omega
          refine ⟨fun σ' H6 => SameB d H H6 ∧ IntL H6 d ∧ ∃ at_ : Int, σ' = [some (.ref d), some (.ref e), some (.int lo), some (.int s), some (.int m), some (.ref pf), some (.int at_)] ∧ f.lo ≤ at_ ∧ at_ ≤ f.lo + 29 * ((2 ^ 131 : Nat) : Int), ?_, ?_⟩
          · refine ⟨_, rfl, pf, _, 2, _, rfl, rfl, hpf5, atI_nat (j := 2) rfl, _, _, rfl, rfl, _, rfl, ?_⟩
            by_cases c3 : 0 < f.st
            · refine ifT (decide_eq_true c3) ⟨_, rfl, pf, _, 0, _, rfl, rfl, hpf5, atI_nat (j := 0) rfl, _, rfl, pf, _, 2, _, rfl, rfl, hpf5, atI_nat (j := 2) rfl, _, rfl, d, 30, rfl, hd5, by decide, fun t H6 t0 t1 s6 hd6 => .inl ⟨_, rfl, ?_⟩⟩
              have hpf6 := st_sb hd (sb5.trans s6) hpf
              have q0 : 0 ≤ (f.hi - f.lo) / f.st := Int.ediv_nonneg (by omega) (by omega)
              obtain ⟨w0, w1⟩ := mod_up (x := t) (m := (f.hi - f.lo) / f.st + 1) t0 (by omega)
              have zst' : f.st.natAbs < 2 ^ 132 := Nat.lt_of_le_of_lt zst (by decide +kernel)
              refine ⟨_, rfl, pf, _, 1, _, rfl, rfl, hpf6, atI_nat (j := 1) rfl, _, rfl, pf, _, 0, _, rfl, rfl, hpf6, atI_nat (j := 0) rfl, _, _, rfl, rfl, _, rfl, pf, _, 2, _, rfl, rfl, hpf6, atI_nat (j := 2) rfl, _, _, rfl, rfl, divW c3 zst' (by decide), _, _, rfl, rfl, _, _, rfl, rfl, by omega, _, _, rfl, rfl, mulW zst' (b := 10) (by omega) (by decide) (by decide), _, _, rfl, rfl, sb5.trans s6, hd6, _, rfl, ?_, ?_⟩
              · have := Int.mul_nonneg fs0 w0
                omega
              · have x1 : f.st * (t % ((f.hi - f.lo) / f.st + 1)) ≤ f.st * 29 := Int.mul_le_mul_of_nonneg_left (by omega) fs0
                omega
            · exact ifF (decide_eq_false c3) ⟨sb5, hd5, _, rfl, Int.le_refl _, by omega⟩
          · rintro σ' H6 ⟨sb6, hd6, at_, rfl, a0, a1⟩
            walk_at "u"
            refine ⟨_, rfl, _, rfl, _, rfl, d, 30, rfl, hd6, by decide, fun t H7 t0 t1 s7 hd7 => .inl ⟨_, rfl, _, rfl, _, _, rfl, rfl, _, _, rfl, rfl, by omega, ?_⟩⟩
            obtain ⟨w0, w1⟩ := mod_up (x := t) (m := m + 1) t0 (by omega)
            refine ⟨_, _, rfl, rfl, mulW zs (b := 10) (by omega) (by decide) (by decide), _, _, rfl, rfl, sb6.trans s7, hd7, _, _, _, rfl, ?_⟩
            have x1 : s * (t % (m + 1)) ≤ s * 29 := Int.mul_le_mul_of_nonneg_left (by omega) s0
            have x0 := Int.mul_nonneg s0 w0
            have b1 : 29 * (2 : Nat) ^ 131 + 29 * 2 ^ 111 ≤ 2 ^ 137 := by decide +kernel
            have zs' : s ≤ ((2 ^ 111 : Nat) : Int) := by omega
            have e1 : (fs.length + 1) * (2 : Nat) ^ 137 = fs.length * 2 ^ 137 + 2 ^ 137 := Nat.succ_mul _ _
            rw [e1]
            exact far_le flo a0 a1 x0 x1 zs' b1
        · exact ifF (decide_eq_false fun z => c2 (V.int.inj z)) ⟨sb4, hd4, _, _, _, rfl, lo0⟩
      · refine ifF (decide_eq_false (by omega)) (iteF ⟨sb3, hd3, _, _, _, rfl, lo0⟩)
    · rintro σ' H4 ⟨sb4, hd4, lo', y5, y6, rfl, zl⟩
      walk_at "u"
      have sm : 0 ≤ s * m := Int.mul_nonneg s0 m0
      refine ⟨_, rfl, _, rfl, _, rfl, _, rfl, _, _, rfl, rfl, mulW zs (b := 30) (by omega) (by decide) (by decide), _, _, rfl, rfl, _, rfl, by show 3 ≤ sizeLine; decide, fun t ht => ?_⟩
      refine q t _ ⟨lo', lo' + s * m, s⟩ (sb4.trans (SameB.of (same_new ht))) (intL_same (same_new ht) hd4) (SqT.of upd_same) ⟨⟨s0, by show lo' ≤ lo' + s * m; omega, ⟨m, by show lo' + s * m - lo' = s * m; omega⟩, fun z => ?_⟩, zl, ?_⟩
      · have z' : lo' = lo' + s * m := z
        rcases hsm with ⟨z1, _⟩ | ⟨z1, z2⟩
        · exact z1
        · have := Int.mul_pos z1 z2
          omega
      · show (lo' + s * m - lo').natAbs ≤ 2 ^ 131
        have x1 : s * m ≤ s * 1000000 := Int.mul_le_mul_of_nonneg_left m1 s0
        have b1 : 1000000 * (2 : Nat) ^ 111 ≤ 2 ^ 131 := by decide +kernel
        omega
end
end K68

namespace K68
open PySem PySem.Spec PyProof.Rows L2 KR KK
local macro_rules | `(tactic| walk_at "u") => `(tactic| try dsimp only [tSeq, tCutS, tCutE, tCutT, tIfS, tRet, tRetN, tNext, tBreak, tCont, tDrop, tAsg, tPar, gName, gTup, gCons, gNil, tOr, tAnd, tNot, tB, tTest, tCB, tCons, tNil, tC, tVar, tAndV, tOrV, tNotV, tOp, tUn, tIf, tIsN, tNotN, tTup, tLst, tCall, tCallS, tBM, tBM0, tSl, tPart, tNoPart, tYes, iList, iTup, iSeq, iStr, iRng1, iRng2, iEnumA, rI, rI0, rU, cxOf, Cx.nox, Cx.wish, L2.start, List.map, List.set, Nat.repeat, List.length_cons, List.length_nil, List.replicate, List.nil_append, List.cons_append, List.append_nil, Nat.reduceAdd, Nat.reduceSub, E0, tBad, tTr])

def fD (f : Fen) : PyData := .tuple [.int f.lo, .int f.hi, .int f.st]
theorem okD_fD (f : Fen) : okD (fD f) = true ∧ nodes (fD f) ≤ 100000 := by
  constructor
  · simp [fD, okD, okAll]
  · simp [fD, nodes, nodesAll]
theorem dp_fen {K : PySem.W.Frag} {H : Hp} {p : Addr} {f : Fen} (h : SqT K H p f.V) : Dp K H (.ref p) (fD f) := .tup h (.cons (.int _) (.cons (.int _) (.cons (.int _) .nil)))
theorem dp_gFen {K : PySem.W.Frag} {H : Hp} {v : V} {f : Fen} (h : gFen K f v H) : Dp K H v (fD f) := by
  obtain ⟨p, rfl, hp, _⟩ := h
  exact dp_fen hp
def oD : Option Fen → PyData
  | none => .none
  | some f => fD f
theorem okD_oD (o : Option Fen) : okD (oD o) = true ∧ nodes (oD o) ≤ 100000 := by
  cases o with
  | none => constructor <;> simp [oD, okD, nodes]
  | some f => exact okD_fD f
theorem dp_opt {K : PySem.W.Frag} {H : Hp} {v : V} {o : Option Fen} (h : gOptF K o v H) : Dp K H v (oD o) := by
  cases o with
  | none =>
    have e : v = .non := h
    subst e
    exact .non
  | some f => exact dp_gFen h
theorem okD_b (b : Bool) : okD (.bool b) = true ∧ nodes (.bool b) ≤ 100000 := by constructor <;> simp [okD, nodes]
theorem okD_i (i : Int) : okD (.int i) = true ∧ nodes (.int i) ≤ 100000 := by constructor <;> simp [okD, nodes]
theorem r_just {K : PySem.W.Frag} {H : Hp} {a b : V} {d : PyData} {Q : VK} {E : XK} (h1 : Dp K H a d) (h2 : Dp K H b d) (o : okD d = true ∧ nodes d ≤ 100000) (q : ∀ H', Same H H' → Q (.bl true) H') : spJust K [a, b] H Q E := ⟨a, b, d, rfl, h1, h2, o.1, o.2, q⟩
theorem two_good {a b : Fen} (ao : a.ok) (bo : b.ok) : twoF (some a.V) (some b.V) = .ok (a, b) := by
  unfold twoF
  rw [checkF_good ao]
  show (match checkO (some b.V) with
    | .ok b => Res.ok (a, b)
    | .row z => .row z
    | .num z => .num z) = _
  rw [checkO_good bo]
theorem fT {K : PySem.W.Frag} {H : Hp} {p : Addr} {f : Fen} (h : SqT K H p f.V) : RowA K H (.ref p) (some f.V) := .tup h rfl (by show 3 ≤ 1000; decide)
theorem fL {K : PySem.W.Frag} {H : Hp} {p : Addr} {f : Fen} (h : SqL K H p f.V) : RowA K H (.ref p) (some f.V) := .lst h rfl (by show 3 ≤ 1000; decide)
theorem sml_mono {f : Fen} {m n : Nat} (h : f.sml m) (l : m ≤ n) : f.sml n := by
  have e := Nat.pow_le_pow_right (n := 2) (by decide) l
  exact ⟨Nat.lt_of_lt_of_le h.1 e, Nat.lt_of_lt_of_le h.2 e⟩
/-- a call with two fences -/
theorem r_two {K : PySem.W.Frag} {C N : Addr} {good : Fen × Fen → V → Hp → Prop} {H : Hp} {v1 v2 : V} {a b : Fen} {Q : VK} {E : XK} (h1 : RowA K H v1 (some a.V)) (h2 : RowA K H v2 (some b.V)) (ao : a.ok) (bo : b.ok) (sa : a.sml 390) (sb : b.sml 390) (q : ∀ v H', Same H H' → good (a, b) v H' → Q v H') : spTwo K C N good [v1, v2] H Q E := by
  refine ⟨v1, v2, _, _, rfl, h1, h2, fun ab e => ?_, ?_⟩
  · rw [two_good ao bo] at e
    cases e
    exact ⟨sa, sb⟩
  · rw [two_good ao bo]
    exact q
theorem shaped_fD (f : Fen) : SeqAt.shaped (fD f) = true := shaped_tup (xs := f.V) rfl
theorem shaped_oD (o : Option Fen) : SeqAt.shaped (oD o) = true := by
  cases o with
  | none => exact shaped_flat (v := .non) rfl
  | some f => exact shaped_fD f
theorem eqv_fD (a b : Fen) : PyData.eqv (fD a) (fD b) = true ↔ a = b := by
  have h := eqvAll_sc (xs := a.V) (ys := b.V) rfl rfl
  have e : PyData.eqv (fD a) (fD b) = PyData.eqvAll (a.V.map toD) (b.V.map toD) := by
    show PyData.eqv (.tuple _) (.tuple _) = _
    simp only [PyData.eqv]
    rfl
  rw [e, h, decide_eq_true_iff]
  constructor
  · intro z
    obtain ⟨a1, a2, a3⟩ := a
    obtain ⟨b1, b2, b3⟩ := b
    have z' : [V.int a1, .int a2, .int a3] = [V.int b1, .int b2, .int b3] := z
    simp only [List.cons.injEq, V.int.injEq, and_true] at z'
    obtain ⟨rfl, rfl, rfl⟩ := z'
    rfl
  · intro z
    rw [z]
theorem eqv_oD (o : Option Fen) (b : Fen) : PyData.eqv (oD o) (fD b) = true ↔ o = some b := by
  cases o with
  | none =>
    show PyData.eqv .none (.tuple _) = true ↔ _
    simp [PyData.eqv]
  | some a =>
    show PyData.eqv (fD a) (fD b) = true ↔ _
    rw [eqv_fD, Option.some.injEq]
theorem bl_eq {a b : Bool} {p : Prop} (h1 : a = true ↔ p) (h2 : b = true ↔ p) : a = b := by
  cases a with
  | true => exact (h2.mpr (h1.mp rfl)).symm
  | false =>
    cases b with
    | false => rfl
    | true => exact absurd (h1.mpr (h2.mp rfl)) Bool.false_ne_true
section
variable {P : Program} {w : World} {K : PySem.W.Frag} {mg : Str → Option Value} {base : Heap}
def spPair (K : PySem.W.Frag) : Sp := fun vs H Q _ => ∃ (p q : Addr) (a b : Fen), vs = [.ref p, .ref q] ∧ SqT K H p a.V ∧ SqT K H q b.V ∧ a.ok ∧ b.ok ∧ a.sml 140 ∧ b.sml 140 ∧ ∀ H', Same H H' → Q (.bl true) H'
theorem ok_law_pair_asked {f : Addr} {fd : FuncData} (B : Bi mg) (T : BadF "BadRow" P w K mg base) (N : BadF "BadNumber" P w K mg base) (F : Fun K "_law_pair_asked" "_law_pair_asked" s_law_pair_asked f fd)
    (Claw_either : Cal P w K mg base CX0 2 "_law_either" p_law_either (spEitherL K)) (Claw_behind : Cal P w K mg base CX0 2 "_law_behind" p_law_behind (spBehindL K)) (Claw_met : Cal P w K mg base CX0 2 "_law_met" p_law_met (spMetL K)) (Claw_within : Cal P w K mg base CX0 2 "_law_within" p_law_within (spWithinL K))
    (Claw_just : Cal P w K mg base CX0 1 "_law_just" p_law_just (spJust K)) (Cfence_either : Cal P w K mg base (L2.CX P w) 4 "fence_either" p_fence_either (spTwo K T.C N.C (gEither K))) (Cfence_behind : Cal P w K mg base (L2.CX P w) 4 "fence_behind" p_fence_behind (spTwo K T.C N.C (gBehind K)))
    (Cfences_met : Cal P w K mg base (L2.CX P w) 4 "fences_met" p_fences_met (spTwo K T.C N.C (gMet K))) (Cis_fence_within : Cal P w K mg base (L2.CX P w) 4 "is_fence_within" p_is_fence_within (spTwo K T.C N.C gWithin)) : FnOk P w K mg base CX0 5 f fd p_law_pair_asked (spPair K) := by
  refine F.ok sc_law_pair_asked (fun vs H Q E h => ?_) (fun cdv A outer s H vs Q E hr h => ?_)
  · obtain ⟨p, q, a, b, rfl, _⟩ := h
    rfl
  · obtain ⟨p, p2, a, b, rfl, hp, hp2, ao, bo, sa, sb, q⟩ := h
    refine ⟨_, (pss_cons (ps_set (i := 2) sc_law_pair_asked.nd rfl (by first | exact .inl rfl | exact .inr rfl) (pe_call Claw_either.G (hr.mono (by decide)) (by rfl) Claw_either.g Claw_either.kp Claw_either.b .nil pass0 (pa_cons (pv 0) (pa_cons (pv 1) pa_nil))))
      (pss_cons (ps_if (pt_cut (PW.pt (pw_or (pt_not (pt_val (pe_call Claw_just.G (hr.mono (by decide)) (by rfl) Claw_just.g Claw_just.kp Claw_just.b .nil pass0 (pa_cons (pe_call Cfence_either.G (hr.mono (by decide)) (by rfl) Cfence_either.g Cfence_either.kp Cfence_either.b .nil passL (pa_cons (pv 0) (pa_cons (pe_callTy (call_listK (K := K) rfl) (by rfl) B.list_ (by decide +kernel) (pa_cons (pv 1) pa_nil)) pa_nil))) (pa_cons (pv 2) pa_nil))))) (pw_or1 (pt_not (pt_val (pe_call Claw_just.G (hr.mono (by decide)) (by rfl) Claw_just.g Claw_just.kp Claw_just.b .nil pass0 (pa_cons (pe_call Cfence_behind.G (hr.mono (by decide)) (by rfl) Cfence_behind.g Cfence_behind.kp Cfence_behind.b .nil passL (pa_cons (pe_callTy (call_listK (K := K) rfl) (by rfl) B.list_ (by decide +kernel) (pa_cons (pv 0) pa_nil)) (pa_cons (pv 1) pa_nil))) (pa_cons (pe_call Claw_behind.G (hr.mono (by decide)) (by rfl) Claw_behind.g Claw_behind.kp Claw_behind.b .nil pass0 (pa_cons (pv 0) (pa_cons (pv 1) pa_nil))) pa_nil)))))))))
      (pss_one (ps_ret pe_bl))
      pss_nil)
      (pss_cons (ps_set (i := 3) sc_law_pair_asked.nd rfl (by first | exact .inl rfl | exact .inr rfl) (pe_call Claw_met.G (hr.mono (by decide)) (by rfl) Claw_met.g Claw_met.kp Claw_met.b .nil pass0 (pa_cons (pv 0) (pa_cons (pv 1) pa_nil))))
      (pss_cons (ps_if (pt_cut (PW.pt (pw_and (pt_cmp (pc_notN (pv 3))) (pw_and1 (pt_not (pt_cut (PW.pt (pw_and (pt_val (pe_call Claw_within.G (hr.mono (by decide)) (by rfl) Claw_within.g Claw_within.kp Claw_within.b .nil pass0 (pa_cons (pv 3) (pa_cons (pv 0) pa_nil)))) (pw_and1 (pt_val (pe_call Claw_within.G (hr.mono (by decide)) (by rfl) Claw_within.g Claw_within.kp Claw_within.b .nil pass0 (pa_cons (pv 3) (pa_cons (pv 1) pa_nil)))))))))))))
      (pss_one (ps_ret pe_bl))
      pss_nil)
      (pss_cons (ps_set (i := 4) sc_law_pair_asked.nd rfl (by first | exact .inl rfl | exact .inr rfl) (pe_call Claw_within.G (hr.mono (by decide)) (by rfl) Claw_within.g Claw_within.kp Claw_within.b .nil pass0 (pa_cons (pv 0) (pa_cons (pv 1) pa_nil))))
      (pss_cons (ps_if (pt_cut (PW.pt (pw_or (pt_not (pt_val (pe_call Claw_just.G (hr.mono (by decide)) (by rfl) Claw_just.g Claw_just.kp Claw_just.b .nil pass0 (pa_cons (pe_call Cfences_met.G (hr.mono (by decide)) (by rfl) Cfences_met.g Cfences_met.kp Cfences_met.b .nil passL (pa_cons (pv 0) (pa_cons (pv 1) pa_nil))) (pa_cons (pv 3) pa_nil))))) (pw_or1 (pt_not (pt_val (pe_call Claw_just.G (hr.mono (by decide)) (by rfl) Claw_just.g Claw_just.kp Claw_just.b .nil pass0 (pa_cons (pe_call Cis_fence_within.G (hr.mono (by decide)) (by rfl) Cis_fence_within.g Cis_fence_within.kp Cis_fence_within.b .nil passL (pa_cons (pv 0) (pa_cons (pv 1) pa_nil))) (pa_cons (pv 4) pa_nil)))))))))
      (pss_one (ps_ret pe_bl))
      pss_nil)
      (pss_one (ps_ret (pe_cut (pe_and (pe_cmpR op_eq (pv 4) (pe_cmpR (op_eqDK (K := K) rfl hr.units) (pv 2) (pv 1) (nomark _)) (nomark _)) (pe_one (pe_cmpR op_eq (pv 4) (pe_cmpR (op_eqDK (K := K) rfl hr.units) (pv 3) (pv 0) (nomark _)) (nomark _))))))))))))), ?_⟩
    walk_at "u"
    have sa147 := sml_mono sa (n := 147) (by decide)
    have sb147 := sml_mono sb (n := 147) (by decide)
    have sa390 := sml_mono sa (n := 390) (by decide)
    have sb390 := sml_mono sb (n := 390) (by decide)
    have zb : b.st.natAbs < 2 ^ 149 := by
      have := bo.st_sml sb147
      omega
    refine ⟨_, rfl, _, rfl, p, p2, a, b, rfl, hp, hp2, ao, bo, sa147, sb147, fun ve H1 s1 ge => ?_⟩
    walk_at "u"
    refine ⟨fun b' H' => b' = false ∧ Same H1 H', ?_, ?_⟩
    · refine ⟨_, rfl, _, rfl, p2, _, rfl, .inr (st_same s1 hp2), fun l hl => ?_⟩
      have s2 := s1.trans (same_new (o := .lst b.V) hl)
      refine r_two (fT (st_same s2 hp)) (fL (SqL.of upd_same)) ao bo sa390 sb390 fun v H2 s3 g => ⟨_, rfl, ?_⟩
      have s4 := (same_new (o := .lst b.V) hl).trans s3
      refine r_just (dp_gFen g) (dp_gFen (gFen.same s4 ge)) (okD_fD _) fun H3 s5 => ⟨_, rfl, iteF ?_⟩
      have s6 := s4.trans s5
      refine ⟨_, rfl, p, _, rfl, .inr (st_same (s1.trans s6) hp), fun l2 hl2 => ⟨_, rfl, ?_⟩⟩
      have s7 := s6.trans (same_new (o := .lst a.V) hl2)
      refine r_two (fL (SqL.of upd_same)) (fT (st_same (s1.trans s7) hp2)) ao bo sa390 sb390 fun v H4 s8 g2 => ?_
      have s9 := s7.trans s8
      refine ⟨_, rfl, _, rfl, p, p2, a, b, rfl, st_same (s1.trans s9) hp, st_same (s1.trans s9) hp2, ao, bo, sb147, fun vb H5 s10 gb => ?_⟩
      exact r_just (dp_gFen (gFen.same s10 g2)) (dp_gFen gb) (okD_fD _) fun H6 s11 => ⟨_, rfl, rfl, (s9.trans s10).trans s11⟩
    rintro _ H2 ⟨rfl, s2⟩
    have s3 := s1.trans s2
    refine iteF ⟨_, rfl, _, rfl, p, p2, a, b, rfl, st_same s3 hp, st_same s3 hp2, ao, bo, sa390, sb390, zb, fun vm H3 o s4 M gm => ?_⟩
    have ge3 := gFen.same (s2.trans s4) ge
    have s5 := s3.trans s4
    clear s1 s2 s3 s4 ge
    walk_at "u"
    refine ⟨fun b' H' => b' = false ∧ Same H3 H', ?_, ?_⟩
    · cases o with
      | none =>
        have e : vm = .non := gm
        subst e
        exact ⟨_, rfl, false, rfl, iteF ⟨rfl, Same.refl _⟩⟩
      | some m =>
        obtain ⟨pm, rfl, hpm, mo⟩ := gm
        refine ⟨_, rfl, true, rfl, iteT ⟨fun b' H' => b' = true ∧ Same H3 H', ?_, ?_⟩⟩
        · refine ⟨_, rfl, _, rfl, pm, p, m, a, rfl, hpm, st_same s5 hp, mo, ao, fun c hc => ⟨c, rfl, ?_⟩⟩
          have e : c = true := hc.mpr fun x hx => ((M.2 x).mp hx).1
          rw [e]
          refine iteT ⟨_, rfl, _, rfl, pm, p2, m, b, rfl, hpm, st_same s5 hp2, mo, bo, fun c hc => ⟨c, rfl, ?_, Same.refl _⟩⟩
          exact hc.mpr fun x hx => ((M.2 x).mp hx).2
        · rintro _ H4 ⟨rfl, s4⟩
          exact ⟨rfl, s4⟩
    rintro _ H4 ⟨rfl, s4⟩
    have s6 := s5.trans s4
    have ge4 := gFen.same s4 ge3
    have gm4 := gOptF_same s4 gm
    refine iteF ⟨_, rfl, _, rfl, p, p2, a, b, rfl, st_same s6 hp, st_same s6 hp2, ao, bo, fun c hc => ?_⟩
    clear ge3 gm s4 s5
    walk_at "u"
    refine ⟨fun b' H' => b' = false ∧ Same H4 H', ?_, ?_⟩
    · refine ⟨_, rfl, _, rfl, r_two (fT (st_same s6 hp)) (fT (st_same s6 hp2)) ao bo sa390 sb390 fun v H5 s7 g => ⟨_, rfl, ?_⟩⟩
      obtain ⟨o', M', g'⟩ := g
      have e := isSet_uniq M' M
      subst e
      refine r_just (dp_opt g') (dp_opt (gOptF_same s7 gm4)) (okD_oD _) fun H6 s8 => ⟨_, rfl, iteF ⟨_, rfl, _, rfl, ?_⟩⟩
      have s9 := s7.trans s8
      refine r_two (fT (st_same (s6.trans s9) hp)) (fT (st_same (s6.trans s9) hp2)) ao bo sa390 sb390 fun v H7 s10 g => ⟨_, rfl, ?_⟩
      obtain ⟨c', rfl, hc'⟩ := g
      have e := bl_eq hc' hc
      subst e
      exact r_just (.bl _) (.bl _) (okD_b _) fun H8 s11 => ⟨_, rfl, rfl, (s9.trans s10).trans s11⟩
    rintro _ H5 ⟨rfl, s7⟩
    have s8 := s6.trans s7
    have ge5 := dp_gFen (gFen.same s7 ge4)
    have gm5 := dp_opt (gOptF_same s7 gm4)
    refine iteF ?_
    have e1 : PyData.eqv (fD (eitherF a b)) (fD b) = c := bl_eq ((eqv_fD _ _).trans (either_within ao bo)) hc
    have e2 : PyData.eqv (oD o) (fD a) = c := bl_eq ((eqv_oD _ _).trans (met_within ao M)) hc
    walk_at "u"
    refine ⟨fun v H' => v = .bl true ∧ Same H5 H', ⟨_, rfl, _, rfl, _, rfl, _, _, ge5, dp_fen (st_same s8 hp2), shaped_fD _, shaped_fD _, ?_⟩, ?_⟩
    · rw [e1]
      refine ⟨rfl, _, rfl, ifT (decide_eq_true rfl) ⟨_, rfl, _, rfl, _, rfl, _, _, gm5, dp_fen (st_same s8 hp), shaped_oD _, shaped_fD _, ?_⟩⟩
      rw [e2]
      exact ⟨rfl, by rw [decide_eq_true rfl]; exact ⟨rfl, Same.refl _⟩⟩
    · rintro _ H6 ⟨rfl, s9⟩
      exact q _ (s8.trans s9)
end
end K68

namespace K68
open PySem PySem.Spec PyProof.Rows L2 KR KK
local macro_rules | `(tactic| walk_at "u") => `(tactic| try dsimp only [tSeq, tCutS, tCutE, tCutT, tIfS, tRet, tRetN, tNext, tBreak, tCont, tDrop, tAsg, tPar, gName, gTup, gCons, gNil, tOr, tAnd, tNot, tB, tTest, tCB, tCons, tNil, tC, tVar, tAndV, tOrV, tNotV, tOp, tUn, tIf, tIsN, tNotN, tTup, tLst, tCall, tCallS, tBM, tBM0, tSl, tPart, tNoPart, tYes, iList, iTup, iSeq, iStr, iRng1, iRng2, iEnumA, rI, rI0, rU, cxOf, Cx.nox, Cx.wish, L2.start, List.map, List.set, Nat.repeat, List.length_cons, List.length_nil, List.replicate, List.nil_append, List.cons_append, List.append_nil, Nat.reduceAdd, Nat.reduceSub, E0, tBad, tTr])

theorem either_sml {a b : Fen} {n : Nat} (ha : a.sml n) (hb : b.sml n) : (eitherF a b).sml n := by
  obtain ⟨h1, h2⟩ := ha
  obtain ⟨h3, h4⟩ := hb
  constructor
  · show (min a.lo b.lo).natAbs < _
    omega
  · show (max a.hi b.hi).natAbs < _
    omega
theorem behind_sml {a b : Fen} {n : Nat} (ha : a.sml n) (hb : b.sml n) : (behindF a b).sml (n + 1) := by
  obtain ⟨h1, h2⟩ := ha
  obtain ⟨h3, h4⟩ := hb
  constructor
  · show (a.lo + b.lo).natAbs < _
    rw [Nat.pow_succ]
    omega
  · show (a.hi + b.hi).natAbs < _
    rw [Nat.pow_succ]
    omega
theorem met_sml {a b m : Fen} {n : Nat} (h : IsMet a b (some m)) (ha : a.sml n) : m.sml n := by
  obtain ⟨h1, h2⟩ := met_bounds h
  obtain ⟨h3, h4⟩ := ha
  have h5 := h.1.2.1
  constructor <;> omega
theorem gOptF_b {K : PySem.W.Frag} {H H' : Hp} {D : Addr} {ds : List V} {o : Option Fen} {v : V} (hd : H D = some (.lst ds)) (e : SameB D H H') (h : gOptF K o v H) : gOptF K o v H' := by
  cases o with
  | none => exact h
  | some f =>
    obtain ⟨p, r, h1, h2⟩ := h
    exact ⟨p, r, st_b hd e h1, h2⟩
def S3 (a b c : Fen) : Int → Prop := fun v => (a.mem v ∧ b.mem v) ∧ c.mem v
section
variable {P : Program} {w : World} {K : PySem.W.Frag} {mg : Str → Option Value} {base : Heap}
def spThree (K : PySem.W.Frag) : Sp := fun vs H Q _ => ∃ (p q r : Addr) (a b c : Fen), vs = [.ref p, .ref q, .ref r] ∧ SqT K H p a.V ∧ SqT K H q b.V ∧ SqT K H r c.V ∧ (a.ok ∧ b.ok ∧ c.ok) ∧ (a.sml 140 ∧ b.sml 140 ∧ c.sml 140) ∧ ∀ H', Same H H' → Q (.bl true) H'
theorem ok_law_three_asked {f : Addr} {fd : FuncData} (B : Bi mg) (T : BadF "BadRow" P w K mg base) (N : BadF "BadNumber" P w K mg base) (F : Fun K "_law_three_asked" "_law_three_asked" s_law_three_asked f fd)
    (Claw_either : Cal P w K mg base CX0 2 "_law_either" p_law_either (spEitherL K)) (Claw_behind : Cal P w K mg base CX0 2 "_law_behind" p_law_behind (spBehindL K)) (Claw_met : Cal P w K mg base CX0 2 "_law_met" p_law_met (spMetL K))
    (Claw_just : Cal P w K mg base CX0 1 "_law_just" p_law_just (spJust K)) (Cfence_either : Cal P w K mg base (L2.CX P w) 4 "fence_either" p_fence_either (spTwo K T.C N.C (gEither K))) (Cfence_behind : Cal P w K mg base (L2.CX P w) 4 "fence_behind" p_fence_behind (spTwo K T.C N.C (gBehind K)))
    (Cfences_met : Cal P w K mg base (L2.CX P w) 4 "fences_met" p_fences_met (spTwo K T.C N.C (gMet K))) : FnOk P w K mg base CX0 5 f fd p_law_three_asked (spThree K) := by
  refine F.ok sc_law_three_asked (fun vs H Q E h => ?_) (fun cdv A outer s H vs Q E hr h => ?_)
  · obtain ⟨p, q, r, a, b, c, rfl, _⟩ := h
    rfl
  · obtain ⟨p, p2, p3, a, b, c, rfl, hp, hp2, hp3, ⟨ao, bo, co⟩, ⟨sa, sb, sc⟩, q⟩ := h
    refine ⟨_, (pss_cons (ps_set (i := 3) sc_law_three_asked.nd rfl (by first | exact .inl rfl | exact .inr rfl) (pe_call Cfence_either.G (hr.mono (by decide)) (by rfl) Cfence_either.g Cfence_either.kp Cfence_either.b .nil passL (pa_cons (pe_call Cfence_either.G (hr.mono (by decide)) (by rfl) Cfence_either.g Cfence_either.kp Cfence_either.b .nil passL (pa_cons (pv 0) (pa_cons (pv 1) pa_nil))) (pa_cons (pv 2) pa_nil))))
      (pss_cons (ps_set (i := 4) sc_law_three_asked.nd rfl (by first | exact .inl rfl | exact .inr rfl) (pe_call Cfence_either.G (hr.mono (by decide)) (by rfl) Cfence_either.g Cfence_either.kp Cfence_either.b .nil passL (pa_cons (pv 0) (pa_cons (pe_call Cfence_either.G (hr.mono (by decide)) (by rfl) Cfence_either.g Cfence_either.kp Cfence_either.b .nil passL (pa_cons (pv 1) (pa_cons (pv 2) pa_nil))) pa_nil))))
      (pss_cons (ps_if (pt_cut (PW.pt (pw_or (pt_not (pt_val (pe_call Claw_just.G (hr.mono (by decide)) (by rfl) Claw_just.g Claw_just.kp Claw_just.b .nil pass0 (pa_cons (pv 3) (pa_cons (pe_call Claw_either.G (hr.mono (by decide)) (by rfl) Claw_either.g Claw_either.kp Claw_either.b .nil pass0 (pa_cons (pe_call Claw_either.G (hr.mono (by decide)) (by rfl) Claw_either.g Claw_either.kp Claw_either.b .nil pass0 (pa_cons (pv 0) (pa_cons (pv 1) pa_nil))) (pa_cons (pv 2) pa_nil))) pa_nil))))) (pw_or1 (pt_not (pt_val (pe_call Claw_just.G (hr.mono (by decide)) (by rfl) Claw_just.g Claw_just.kp Claw_just.b .nil pass0 (pa_cons (pv 4) (pa_cons (pv 3) pa_nil)))))))))
      (pss_one (ps_ret pe_bl))
      pss_nil)
      (pss_cons (ps_set (i := 3) sc_law_three_asked.nd rfl (by first | exact .inl rfl | exact .inr rfl) (pe_call Cfence_behind.G (hr.mono (by decide)) (by rfl) Cfence_behind.g Cfence_behind.kp Cfence_behind.b .nil passL (pa_cons (pe_call Cfence_either.G (hr.mono (by decide)) (by rfl) Cfence_either.g Cfence_either.kp Cfence_either.b .nil passL (pa_cons (pv 0) (pa_cons (pv 1) pa_nil))) (pa_cons (pv 2) pa_nil))))
      (pss_cons (ps_set (i := 4) sc_law_three_asked.nd rfl (by first | exact .inl rfl | exact .inr rfl) (pe_call Cfence_either.G (hr.mono (by decide)) (by rfl) Cfence_either.g Cfence_either.kp Cfence_either.b .nil passL (pa_cons (pe_call Cfence_behind.G (hr.mono (by decide)) (by rfl) Cfence_behind.g Cfence_behind.kp Cfence_behind.b .nil passL (pa_cons (pv 0) (pa_cons (pv 2) pa_nil))) (pa_cons (pe_call Cfence_behind.G (hr.mono (by decide)) (by rfl) Cfence_behind.g Cfence_behind.kp Cfence_behind.b .nil passL (pa_cons (pv 1) (pa_cons (pv 2) pa_nil))) pa_nil))))
      (pss_cons (ps_if (pt_cut (PW.pt (pw_or (pt_not (pt_val (pe_call Claw_just.G (hr.mono (by decide)) (by rfl) Claw_just.g Claw_just.kp Claw_just.b .nil pass0 (pa_cons (pv 3) (pa_cons (pe_call Claw_behind.G (hr.mono (by decide)) (by rfl) Claw_behind.g Claw_behind.kp Claw_behind.b .nil pass0 (pa_cons (pe_call Claw_either.G (hr.mono (by decide)) (by rfl) Claw_either.g Claw_either.kp Claw_either.b .nil pass0 (pa_cons (pv 0) (pa_cons (pv 1) pa_nil))) (pa_cons (pv 2) pa_nil))) pa_nil))))) (pw_or1 (pt_not (pt_val (pe_call Claw_just.G (hr.mono (by decide)) (by rfl) Claw_just.g Claw_just.kp Claw_just.b .nil pass0 (pa_cons (pv 4) (pa_cons (pv 3) pa_nil)))))))))
      (pss_one (ps_ret pe_bl))
      pss_nil)
      (pss_cons (ps_set (i := 5) sc_law_three_asked.nd rfl (by first | exact .inl rfl | exact .inr rfl) (pe_lst pa_nil))
      (pss_cons (ps_for PassesOwn.never rfl (pi_list (pe_lst (pa_cons (pe_tup (pa_cons (pv 0) (pa_cons (pv 1) (pa_cons (pv 2) pa_nil)))) (pa_cons (pe_tup (pa_cons (pv 1) (pa_cons (pv 2) (pa_cons (pv 0) pa_nil)))) pa_nil)))) (pg_name (i := 6) sc_law_three_asked.nd rfl (by first | exact .inl rfl | exact .inr rfl))
      (pss_cons (ps_set (i := 7) sc_law_three_asked.nd rfl (by first | exact .inl rfl | exact .inr rfl) (pe_call Cfences_met.G (hr.mono (by decide)) (by rfl) Cfences_met.g Cfences_met.kp Cfences_met.b .nil passL (pa_cons (pe_ix (ix_tupK (K := K) rfl) (pv 6) pe_int (fun _ _ => rfl)) (pa_cons (pe_ix (ix_tupK (K := K) rfl) (pv 6) pe_int (fun _ _ => rfl)) pa_nil))))
      (pss_cutS (ps_if (pt_cmp (pc_notN (pv 7)))
      (pss_one (ps_set (i := 7) sc_law_three_asked.nd rfl (by first | exact .inl rfl | exact .inr rfl) (pe_call Cfences_met.G (hr.mono (by decide)) (by rfl) Cfences_met.g Cfences_met.kp Cfences_met.b .nil passL (pa_cons (pv 7) (pa_cons (pe_ix (ix_tupK (K := K) rfl) (pv 6) pe_int (fun _ _ => rfl)) pa_nil)))))
      pss_nil)
      (pss_one (ps_expr (pe_bm PySem.F.plainAttrs_list PySem.F.slot_list_append PySem.F.type_list_append mt_append (pv 5) (pa_cons (pv 7) pa_nil)))))))
      (pss_cons (ps_set (i := 8) sc_law_three_asked.nd rfl (by first | exact .inl rfl | exact .inr rfl) (pe_call Claw_met.G (hr.mono (by decide)) (by rfl) Claw_met.g Claw_met.kp Claw_met.b .nil pass0 (pa_cons (pv 0) (pa_cons (pv 1) pa_nil))))
      (pss_cutS (ps_if (pt_cmp (pc_notN (pv 8)))
      (pss_one (ps_set (i := 8) sc_law_three_asked.nd rfl (by first | exact .inl rfl | exact .inr rfl) (pe_call Claw_met.G (hr.mono (by decide)) (by rfl) Claw_met.g Claw_met.kp Claw_met.b .nil pass0 (pa_cons (pv 8) (pa_cons (pv 2) pa_nil)))))
      pss_nil)
      (pss_one (ps_ret (pe_cut (pe_and (pe_call Claw_just.G (hr.mono (by decide)) (by rfl) Claw_just.g Claw_just.kp Claw_just.b .nil pass0 (pa_cons (pe_ix (ix_listK (K := K) rfl) (pv 5) pe_int (fun _ _ => rfl)) (pa_cons (pv 8) pa_nil))) (pe_one (pe_call Claw_just.G (hr.mono (by decide)) (by rfl) Claw_just.g Claw_just.kp Claw_just.b .nil pass0 (pa_cons (pe_ix (ix_listK (K := K) rfl) (pv 5) pe_int (fun _ _ => rfl)) (pa_cons (pv 8) pa_nil)))))))))))))))))), ?_⟩
    walk_at "u"
    have s390 : ∀ {f : Fen} {n : Nat}, f.sml n → n ≤ 390 → f.sml 390 := fun h l => sml_mono h l
    have ab := either_ok ao bo
    have bc := either_ok bo co
    have zab := either_sml sa sb
    have zbc := either_sml sb sc
    have l140 : (140 : Nat) ≤ 390 := by decide
    -- near, far
    refine ⟨_, rfl, _, rfl, r_two (fT hp) (fT hp2) ao bo (s390 sa l140) (s390 sb l140) fun v1 H1 s1 g1 => ⟨_, rfl, ?_⟩⟩
    obtain ⟨q1, rfl, hq1, _⟩ := g1
    refine r_two (fT hq1) (fT (st_same s1 hp3)) ab co (s390 zab l140) (s390 sc l140) fun vn H2 s2 gn => ?_
    have s12 := s1.trans s2
    walk_at "u"
    refine ⟨_, rfl, _, rfl, _, rfl, r_two (fT (st_same s12 hp2)) (fT (st_same s12 hp3)) bo co (s390 sb l140) (s390 sc l140) fun v2 H3 s3 g2 => ?_⟩
    obtain ⟨q2, rfl, hq2, _⟩ := g2
    have s13 := s12.trans s3
    refine r_two (fT (st_same s13 hp)) (fT hq2) ao bc (s390 sa l140) (s390 zbc l140) fun vf H4 s4 gf => ?_
    have s14 := s13.trans s4
    have gn4 := gFen.same (s3.trans s4) gn
    clear gn s1 s2 s3 s4 s12 s13 hq1 hq2
    walk_at "u"
    refine ⟨fun b' H' => b' = false ∧ Same H4 H', ?_, ?_⟩
    · refine ⟨_, rfl, _, rfl, _, rfl, p, p2, a, b, rfl, st_same s14 hp, st_same s14 hp2, ao, bo, sml_mono sa (by decide), sml_mono sb (by decide), fun v H5 s5 g => ⟨_, rfl, ?_⟩⟩
      obtain ⟨q5, rfl, hq5, _⟩ := g
      refine ⟨q5, p3, eitherF a b, c, rfl, hq5, st_same (s14.trans s5) hp3, ab, co, sml_mono zab (by decide), sml_mono sc (by decide), fun v H6 s6 g6 => ?_⟩
      have s56 := s5.trans s6
      refine r_just (dp_gFen (gFen.same s56 gn4)) (dp_gFen g6) (okD_fD _) fun H7 s7 => ⟨_, rfl, iteF ⟨_, rfl, _, rfl, ?_⟩⟩
      have s57 := s56.trans s7
      rw [either_assoc] at gn4
      exact r_just (dp_gFen (gFen.same s57 gf)) (dp_gFen (gFen.same s57 gn4)) (okD_fD _) fun H8 s8 => ⟨_, rfl, rfl, s57.trans s8⟩
    rintro _ H5 ⟨rfl, s5⟩
    refine iteF ?_
    have t5 := s14.trans s5
    clear gn4 gf s5 s14
    -- near, far, behind
    refine ⟨_, rfl, _, rfl, r_two (fT (st_same t5 hp)) (fT (st_same t5 hp2)) ao bo (s390 sa l140) (s390 sb l140) fun v1 H6 s1 g1 => ⟨_, rfl, ?_⟩⟩
    obtain ⟨q1, rfl, hq1, _⟩ := g1
    refine r_two (fT hq1) (fT (st_same (t5.trans s1) hp3)) ab co (s390 zab l140) (s390 sc l140) fun vn H7 s2 gn => ?_
    have t7 := (t5.trans s1).trans s2
    walk_at "u"
    refine ⟨_, rfl, _, rfl, r_two (fT (st_same t7 hp)) (fT (st_same t7 hp3)) ao co (s390 sa l140) (s390 sc l140) fun v2 H8 s3 g2 => ⟨_, rfl, _, rfl, ?_⟩⟩
    obtain ⟨q2, rfl, hq2, _⟩ := g2
    have t8 := t7.trans s3
    refine r_two (fT (st_same t8 hp2)) (fT (st_same t8 hp3)) bo co (s390 sb l140) (s390 sc l140) fun v3 H9 s4 g3 => ?_
    obtain ⟨q3, rfl, hq3, _⟩ := g3
    refine r_two (fT (st_same s4 hq2)) (fT hq3) (behind_ok ao co) (behind_ok bo co) (s390 (behind_sml sa sc) (by decide)) (s390 (behind_sml sb sc) (by decide)) fun vf H10 s5 gf => ?_
    have t10 := (t8.trans s4).trans s5
    have gn10 := gFen.same ((s3.trans s4).trans s5) gn
    clear gn s1 s2 s3 s4 s5 t5 t7 t8 hq1 hq2 hq3
    walk_at "u"
    refine ⟨fun b' H' => b' = false ∧ Same H10 H', ?_, ?_⟩
    · refine ⟨_, rfl, _, rfl, _, rfl, p, p2, a, b, rfl, st_same t10 hp, st_same t10 hp2, ao, bo, sml_mono sa (by decide), sml_mono sb (by decide), fun v H11 s5 g => ⟨_, rfl, ?_⟩⟩
      obtain ⟨q5, rfl, hq5, _⟩ := g
      refine ⟨q5, p3, eitherF a b, c, rfl, hq5, st_same (t10.trans s5) hp3, ab, co, sml_mono sc (by decide), fun v H12 s6 g6 => ?_⟩
      have s56 := s5.trans s6
      refine r_just (dp_gFen (gFen.same s56 gn10)) (dp_gFen g6) (okD_fD _) fun H13 s7 => ⟨_, rfl, iteF ⟨_, rfl, _, rfl, ?_⟩⟩
      have s57 := s56.trans s7
      have gn11 : gFen K (behindF (eitherF a b) c) vn H10 := gn10
      rw [behind_either] at gn11
      exact r_just (dp_gFen (gFen.same s57 gf)) (dp_gFen (gFen.same s57 gn11)) (okD_fD _) fun H14 s8 => ⟨_, rfl, rfl, s57.trans s8⟩
    rintro _ H11 ⟨rfl, s11⟩
    refine iteF ?_
    have t11 := t10.trans s11
    clear gn10 gf s11 t10
    walk_at "u"
    -- told
    refine ⟨Nat.zero_le _, fun D hD => ⟨_, rfl, _, rfl, _, rfl, by show 3 ≤ sizeLine; decide, fun t1 ht1 => ⟨_, rfl, _, rfl, _, rfl, by show 3 ≤ sizeLine; decide, fun t2 ht2 => ⟨by show 2 ≤ sizeLine; decide, fun l hl => ?_⟩⟩⟩⟩
    have u1 := ((same_new (o := .lst []) hD).trans (same_new (o := .tup [.ref p, .ref p2, .ref p3]) ht1)).trans ((same_new (o := .tup [.ref p2, .ref p3, .ref p]) ht2).trans (same_new (o := .lst [.ref t1, .ref t2]) hl))
    have u2 := ((same_new (o := .tup [.ref p, .ref p2, .ref p3]) ht1).trans (same_new (o := .tup [.ref p2, .ref p3, .ref p]) ht2)).trans (same_new (o := .lst [.ref t1, .ref t2]) hl)
    have eD := u2 _ _ (upd_same (H := H11) (a := D) (o := .lst []))
    have hT1 := st_same ((same_new (o := .tup [.ref p2, .ref p3, .ref p]) ht2).trans (same_new (o := .lst [.ref t1, .ref t2]) hl)) (SqT.of (K := K) (upd_same (H := upd H11 D (.lst [])) (a := t1) (o := .tup [.ref p, .ref p2, .ref p3])))
    have hT2 := st_same (same_new (o := .lst [.ref t1, .ref t2]) hl) (SqT.of (K := K) (upd_same (a := t2) (o := .tup [.ref p2, .ref p3, .ref p])))
    have nlD : D ≠ l := fun z => by
      have e := ((same_new (o := .tup [.ref p, .ref p2, .ref p3]) ht1).trans (same_new (o := .tup [.ref p2, .ref p3, .ref p]) ht2)) _ _ (upd_same (H := H11) (a := D) (o := .lst []))
      rw [z] at e
      rw [z, e] at hl
      cases hl
    have hLl : SqL K (upd (upd (upd (upd H11 D (.lst [])) t1 (.tup [.ref p, .ref p2, .ref p3])) t2 (.tup [.ref p2, .ref p3, .ref p])) l (.lst [.ref t1, .ref t2])) l [.ref t1, .ref t2] := .inl (.inl upd_same)
    generalize upd (upd (upd (upd H11 D (.lst [])) t1 (.tup [.ref p, .ref p2, .ref p3])) t2 (.tup [.ref p2, .ref p3, .ref p])) l (.lst [.ref t1, .ref t2]) = H12 at u1 eD hT1 hT2 hLl ⊢
    clear u2 hl ht1 ht2
    replace hp := st_same (t11.trans u1) hp
    replace hp2 := st_same (t11.trans u1) hp2
    replace hp3 := st_same (t11.trans u1) hp3
    refine ⟨l, rfl, ⟨_, hLl⟩, for_it (walk_list (xs := [.ref t1, .ref t2])) (fun i σ H' => SameB D H12 H' ∧ ∃ vs y6 y7, σ = [some (.ref p), some (.ref p2), some (.ref p3), some vn, some vf, some (.ref D), y6, y7, none] ∧ H' D = some (.lst vs) ∧ vs.length = i ∧ ∀ v ∈ vs, ∃ o, IsSet (S3 a b c) o ∧ gOptF K o v H') ⟨SameB.refl _, [], _, _, rfl, eD, rfl, fun v hv => by cases hv⟩ (fun i σ H' _ p => sl_b (ds := []) p.1 (Ne.symm nlD) hLl) (fun i x σ H13 H14 hi pp y => ?_) (fun σ H13 pp => ?_)⟩
    · obtain ⟨sbD, vs, y6, y7, rfl, eV, lv, hv⟩ := pp
      obtain ⟨rfl, f2⟩ := y
      have hi2 : i < 2 := hi
      obtain ⟨tt, x1, x2, x3, fa, fb, fc, rfl, hTT, h1, h2, h3, ⟨o1, o2, o3⟩, ⟨z1, z2, z3⟩, hS⟩ : ∃ (tt x1 x2 x3 : Addr) (fa fb fc : Fen), x = .ref tt ∧ SqT K H12 tt [.ref x1, .ref x2, .ref x3] ∧ SqT K H12 x1 fa.V ∧ SqT K H12 x2 fb.V ∧ SqT K H12 x3 fc.V ∧ (fa.ok ∧ fb.ok ∧ fc.ok) ∧ (fa.sml 140 ∧ fb.sml 140 ∧ fc.sml 140) ∧ ∀ v, (fa.mem v ∧ fb.mem v) ∧ fc.mem v ↔ S3 a b c v := by
        match i, hi2, f2 with
        | 0, _, f => exact ⟨t1, p, p2, p3, a, b, c, (Option.some.inj f).symm, hT1, hp, hp2, hp3, ⟨ao, bo, co⟩, ⟨sa, sb, sc⟩, fun v => Iff.rfl⟩
        | 1, _, f => exact ⟨t2, p2, p3, p, b, c, a, (Option.some.inj f).symm, hT2, hp2, hp3, hp, ⟨bo, co, ao⟩, ⟨sb, sc, sa⟩, fun v => ⟨fun z => ⟨⟨z.2, z.1.1⟩, z.1.2⟩, fun z => ⟨⟨z.1.2, z.2⟩, z.1.1⟩⟩⟩
      replace hTT := st_b eD sbD hTT
      replace h1 := st_b eD sbD h1
      replace h2 := st_b eD sbD h2
      replace h3 := st_b eD sbD h3
      walk_at "u"
      refine ⟨_, rfl, tt, _, 0, _, rfl, rfl, hTT, atI_nat (j := 0) rfl, _, rfl, tt, _, 1, _, rfl, rfl, hTT, atI_nat (j := 1) rfl, r_two (fT h1) (fT h2) o1 o2 (s390 z1 l140) (s390 z2 l140) fun vm H15 s15 g => ?_⟩
      obtain ⟨o, M, g⟩ := g
      walk_at "u"
      refine ⟨fun σ' H' => Same H14 H' ∧ ∃ v' o', σ' = [some (.ref p), some (.ref p2), some (.ref p3), some vn, some vf, some (.ref D), some (.ref tt), some v', none] ∧ IsSet (S3 a b c) o' ∧ gOptF K o' v' H', ?_, ?_⟩
      · cases o with
        | none =>
          have e : vm = .non := g
          subst e
          exact ⟨_, rfl, false, rfl, iteF ⟨s15, _, none, rfl, fun v z => M v ((hS v).mpr z).1, rfl⟩⟩
        | some m =>
          obtain ⟨pm, rfl, hpm, mo⟩ := g
          refine ⟨_, rfl, true, rfl, iteT ⟨_, rfl, _, rfl, tt, _, 2, _, rfl, rfl, st_same s15 hTT, atI_nat (j := 2) rfl, r_two (fT hpm) (fT (st_same s15 h3)) mo o3 (s390 (met_sml M z1) l140) (s390 z3 l140) fun vm2 H16 s16 g2 => ?_⟩⟩
          obtain ⟨o', M', g'⟩ := g2
          exact ⟨s15.trans s16, _, o', rfl, isSet_congr (fun v => by rw [← hS v]; show (m.mem v ∧ fc.mem v) ↔ _; rw [M.2 v]) M', g'⟩
      · rintro _ H16 ⟨s16, v', o', rfl, M', g'⟩
        walk_at "u"
        have eV16 := s16 _ _ eV
        refine ⟨_, rfl, .inl ⟨rfl, _, .inl (.inl eV16)⟩, _, rfl, D, vs, v', rfl, rfl, eV16, small1000 (by omega), (sbD.trans (SameB.of s16)).trans SameB.upd, vs ++ [v'], _, _, rfl, upd_same, by rw [List.length_append, lv]; rfl, fun v hvv => ?_⟩
        rcases List.mem_append.mp hvv with z | z
        · obtain ⟨o2, w1, w2⟩ := hv v z
          exact ⟨o2, w1, gOptF_b eV16 SameB.upd (gOptF_same s16 w2)⟩
        · rw [List.mem_singleton.mp z]
          exact ⟨o', M', gOptF_b eV16 SameB.upd g'⟩
    · obtain ⟨sbD, vs, y6, y7, rfl, eV, lv, hv⟩ := pp
      have lv2 : vs.length = 2 := lv
      obtain ⟨w1, w2, rfl⟩ : ∃ w1 w2, vs = [w1, w2] := by
        match vs, lv2 with
        | [x, y], _ => exact ⟨x, y, rfl⟩
      obtain ⟨o, M, g1⟩ := hv w1 (by simp)
      obtain ⟨o', M', g2⟩ := hv w2 (by simp)
      have e := isSet_uniq M' M
      subst e
      replace hp := st_b eD sbD hp
      replace hp2 := st_b eD sbD hp2
      replace hp3 := st_b eD sbD hp3
      have back : Same H H13 := t11.trans (same_mut hD ((SameB.of u1).trans sbD))
      clear hv M' sbD
      walk_at "u"
      have zb : b.st.natAbs < 2 ^ 149 := by
        have := bo.st_sml sb
        omega
      have zc : c.st.natAbs < 2 ^ 149 := by
        have := co.st_sml sc
        omega
      refine ⟨_, rfl, _, rfl, p, p2, a, b, rfl, hp, hp2, ao, bo, s390 sa l140, s390 sb l140, zb, fun vd H14 od s14 Md gd => ?_⟩
      walk_at "u"
      refine ⟨fun σ' H' => Same H13 H' ∧ ∃ v', σ' = [some (.ref p), some (.ref p2), some (.ref p3), some vn, some vf, some (.ref D), y6, y7, some v'] ∧ gOptF K o' v' H', ?_, ?_⟩
      · cases od with
        | none =>
          have e : vd = .non := gd
          subst e
          have e2 : o' = none := isSet_uniq M (o' := none) fun v z => Md v z.1
          subst e2
          exact ⟨_, rfl, false, rfl, iteF ⟨s14, _, rfl, rfl⟩⟩
        | some m =>
          obtain ⟨pm, rfl, hpm, mo⟩ := gd
          refine ⟨_, rfl, true, rfl, iteT ⟨_, rfl, _, rfl, pm, p3, m, c, rfl, hpm, st_same s14 hp3, mo, co, s390 (met_sml Md sa) l140, s390 sc l140, zc, fun v2 H15 o2 s15 M2 g3 => ?_⟩⟩
          have e2 : o2 = o' := isSet_uniq (isSet_congr (P' := S3 a b c) (fun v => by show (m.mem v ∧ c.mem v) ↔ _; rw [Md.2 v]; rfl) M2) M
          subst e2
          exact ⟨s14.trans s15, _, rfl, g3⟩
      · rintro _ H15 ⟨s15, v', rfl, gv⟩
        walk_at "u"
        have eV15 := s15 _ _ eV
        refine ⟨fun v H' => v = .bl true ∧ Same H15 H', ?_, ?_⟩
        · refine ⟨_, rfl, D, _, 0, _, rfl, rfl, .inl (.inl eV15), atI_nat (j := 0) rfl, _, rfl, r_just (dp_opt (gOptF_same s15 g1)) (dp_opt gv) (okD_oD _) fun H16 s16 => ⟨_, rfl, iteT ?_⟩⟩
          exact ⟨_, rfl, D, _, 1, _, rfl, rfl, .inl (.inl (s16 _ _ eV15)), atI_nat (j := 1) rfl, _, rfl, r_just (dp_opt (gOptF_same (s15.trans s16) g2)) (dp_opt (gOptF_same s16 gv)) (okD_oD _) fun H17 s17 => ⟨rfl, s16.trans s17⟩⟩
        · rintro _ H16 ⟨rfl, s16⟩
          exact q _ ((back.trans s15).trans s16)
end
end K68

namespace K68
open PySem PySem.Spec PyProof.Rows L2 KR KK
local macro_rules | `(tactic| walk_at "u") => `(tactic| try dsimp only [tSeq, tCutS, tCutE, tCutT, tIfS, tRet, tRetN, tNext, tBreak, tCont, tDrop, tAsg, tPar, gName, gTup, gCons, gNil, tOr, tAnd, tNot, tB, tTest, tCB, tCons, tNil, tC, tVar, tAndV, tOrV, tNotV, tOp, tUn, tIf, tIsN, tNotN, tTup, tLst, tCall, tCallS, tBM, tBM0, tSl, tPart, tNoPart, tYes, iList, iTup, iSeq, iStr, iRng1, iRng2, iEnumA, rI, rI0, rU, cxOf, Cx.nox, Cx.wish, L2.start, List.map, List.set, Nat.repeat, List.length_cons, List.length_nil, List.replicate, List.nil_append, List.cons_append, List.append_nil, Nat.reduceAdd, Nat.reduceSub, E0, tBad, tTr])

theorem checkN_good {k l : Int} (h : l ≤ k) : checkN (.int k) l = .ok k := by
  show (if k < l then _ else _) = _
  rw [if_neg (by omega)]
theorem times_good {a : Fen} {k : Int} (ao : a.ok) (hk : 1 ≤ k) : timesR (some a.V) (.int k) = .ok (k, a) := by
  unfold timesR
  rw [checkF_good ao]
  show (match checkN (.int k) 1 with
    | .ok k => Res.ok (k, a)
    | .row z => .row z
    | .num z => .num z) = _
  rw [checkN_good hk]
theorem r_times {K : PySem.W.Frag} {C N : Addr} {H : Hp} {v : V} {a : Fen} {k : Int} {Q : VK} {E : XK} (h : RowA K H v (some a.V)) (ao : a.ok) (hk : 1 ≤ k) (zk : k.natAbs < 2 ^ 390) (sa : a.sml 390) (q : ∀ v H', Same H H' → gFen K (timesF k a) v H' → Q v H') : spTimes K C N [v, .int k] H Q E := by
  refine ⟨v, _, _, rfl, h, rfl, fun kf e => ?_, ?_⟩
  · rw [times_good ao hk] at e
    cases e
    exact ⟨zk, sa⟩
  · rw [times_good ao hk]
    exact q
theorem times_sml {a : Fen} {k : Int} {m n : Nat} (sa : a.sml m) (hk : k.natAbs < 2 ^ n) : (timesF k a).sml (n + m) := ⟨wide_lt hk sa.1, wide_lt hk sa.2⟩
theorem dvd_stepGo {d c : Int} : ∀ {ns : List Int} {g : Int}, d ∣ stepGo c ns g ↔ d ∣ g ∧ ∀ x ∈ ns, d ∣ x - c
  | [], g => ⟨fun h => ⟨h, fun x hx => by cases hx⟩, fun h => h.1⟩
  | n :: r, g => by
    show d ∣ stepGo c r (gcdI g (n - c)) ↔ _
    rw [dvd_stepGo, dvd_gcdI]
    constructor
    · rintro ⟨⟨h1, h2⟩, h3⟩
      refine ⟨h1, fun x hx => ?_⟩
      rcases List.mem_cons.mp hx with e | hx
      · rw [e]; exact h2
      · exact h3 x hx
    · rintro ⟨h1, h2⟩
      exact ⟨⟨h1, h2 n List.mem_cons_self⟩, fun x hx => h2 x (List.mem_cons_of_mem _ hx)⟩
theorem stepGo_nn {c : Int} : ∀ {ns : List Int} {g : Int}, 0 ≤ g → 0 ≤ stepGo c ns g
  | [], _, h => h
  | _ :: r, _, _ => stepGo_nn (ns := r) (gcdI_nn _ _)
theorem stepGo_eq {c c' : Int} {ns : List Int} (h : c ∈ ns) (h' : c' ∈ ns) : stepGo c ns 0 = stepGo c' ns 0 := by
  refine eq_of_div (stepGo_nn (Int.le_refl _)) (stepGo_nn (Int.le_refl _)) fun d => ?_
  rw [dvd_stepGo, dvd_stepGo]
  exact ⟨fun ⟨z, k⟩ => ⟨z, fun x hx => dvd_tri (k x hx) (dvd_flip (k c' h'))⟩, fun ⟨z, k⟩ => ⟨z, fun x hx => dvd_tri (k x hx) (dvd_flip (k c h))⟩⟩
theorem foldl_min : ∀ (r : List Int) (n : Int), r.foldl min n ∈ n :: r ∧ ∀ y ∈ n :: r, r.foldl min n ≤ y
  | [], n => ⟨List.mem_cons_self, fun y hy => by rw [List.mem_singleton.mp hy]; exact Int.le_refl _⟩
  | x :: r, n => by
    obtain ⟨h1, h2⟩ := foldl_min r (min n x)
    refine ⟨?_, fun y hy => ?_⟩
    · show r.foldl min (min n x) ∈ _
      rcases List.mem_cons.mp h1 with e | h
      · rw [e]
        rcases Int.le_total n x with g | g
        · rw [Int.min_eq_left g]; exact List.mem_cons_self
        · rw [Int.min_eq_right g]; exact List.mem_cons_of_mem _ List.mem_cons_self
      · exact List.mem_cons_of_mem _ (List.mem_cons_of_mem _ h)
    · show r.foldl min (min n x) ≤ y
      have h3 := h2 _ List.mem_cons_self
      rcases List.mem_cons.mp hy with e | hy
      · omega
      · rcases List.mem_cons.mp hy with e | hy
        · omega
        · exact h2 y (List.mem_cons_of_mem _ hy)
theorem foldl_max : ∀ (r : List Int) (n : Int), r.foldl max n ∈ n :: r ∧ ∀ y ∈ n :: r, y ≤ r.foldl max n
  | [], n => ⟨List.mem_cons_self, fun y hy => by rw [List.mem_singleton.mp hy]; exact Int.le_refl _⟩
  | x :: r, n => by
    obtain ⟨h1, h2⟩ := foldl_max r (max n x)
    refine ⟨?_, fun y hy => ?_⟩
    · show r.foldl max (max n x) ∈ _
      rcases List.mem_cons.mp h1 with e | h
      · rw [e]
        rcases Int.le_total n x with g | g
        · rw [Int.max_eq_right g]; exact List.mem_cons_of_mem _ List.mem_cons_self
        · rw [Int.max_eq_left g]; exact List.mem_cons_self
      · exact List.mem_cons_of_mem _ (List.mem_cons_of_mem _ h)
    · show y ≤ r.foldl max (max n x)
      have h3 := h2 _ List.mem_cons_self
      rcases List.mem_cons.mp hy with e | hy
      · omega
      · rcases List.mem_cons.mp hy with e | hy
        · omega
        · exact h2 y (List.mem_cons_of_mem _ hy)
theorem intGo_ints : ∀ (ns : List Int) (i : Nat), intGo (ns.map V.int) i = none
  | [], _ => rfl
  | _ :: r, i => intGo_ints r (i + 1)
theorem intsOf_ints : ∀ ns : List Int, intsOf (ns.map V.int) = ns
  | [] => rfl
  | n :: r => by
    show n :: intsOf (r.map V.int) = _
    rw [intsOf_ints r]
theorem checkI_good {n : Int} {r : List Int} : checkI (some ((n :: r).map V.int)) = .ok (n :: r) := by
  show (match intGo ((n :: r).map V.int) 0 with
    | none => Res.ok (intsOf ((n :: r).map V.int))
    | some i => .row (.int (i : Nat))) = _
  rw [intGo_ints, intsOf_ints]
theorem flat_ints (ns : List Int) : (ns.map V.int).all flat = true := List.all_eq_true.mpr fun v hv => by
  obtain ⟨i, _, rfl⟩ := List.mem_map.mp hv
  rfl
section
variable {P : Program} {w : World} {K : PySem.W.Frag} {mg : Str → Option Value} {base : Heap}
def spTimesL (K : PySem.W.Frag) : Sp := fun vs H Q _ => ∃ (p : Addr) (a : Fen) (j k : Int), vs = [.ref p, .int j, .int k] ∧ SqT K H p a.V ∧ a.ok ∧ a.sml 140 ∧ (1 ≤ j ∧ j.natAbs < 2 ^ 70) ∧ (1 ≤ k ∧ k.natAbs < 2 ^ 70) ∧ ∀ H', Same H H' → Q (.bl true) H'
theorem ok_law_times_asked {f : Addr} {fd : FuncData} (B : Bi mg) (T : BadF "BadRow" P w K mg base) (N : BadF "BadNumber" P w K mg base) (F : Fun K "_law_times_asked" "_law_times_asked" s_law_times_asked f fd)
    (Claw_just : Cal P w K mg base CX0 1 "_law_just" p_law_just (spJust K)) (Cfence_behind : Cal P w K mg base (L2.CX P w) 4 "fence_behind" p_fence_behind (spTwo K T.C N.C (gBehind K))) (Cfence_times : Cal P w K mg base (L2.CX P w) 4 "fence_times" p_fence_times (spTimes K T.C N.C)) : FnOk P w K mg base CX0 5 f fd p_law_times_asked (spTimesL K) := by
  refine F.ok sc_law_times_asked (fun vs H Q E h => ?_) (fun cdv A outer s H vs Q E hr h => ?_)
  · obtain ⟨p, a, j, k, rfl, _⟩ := h
    rfl
  · obtain ⟨p, a, j, k, rfl, hp, ao, sa, ⟨j1, zj⟩, ⟨k1, zk⟩, q⟩ := h
    refine ⟨_, (pss_cons (ps_asg (pv 0) (pg_tup rfl (pgs_cons (pg_name (i := 3) sc_law_times_asked.nd rfl (by first | exact .inl rfl | exact .inr rfl)) (pgs_cons (pg_name (i := 4) sc_law_times_asked.nd rfl (by first | exact .inl rfl | exact .inr rfl)) (pgs_cons (pg_name (i := 5) sc_law_times_asked.nd rfl (by first | exact .inl rfl | exact .inr rfl)) pgs_nil)))))
      (pss_cons (ps_for PassesOwn.never rfl (pi_list (pe_lst (pa_cons (pv 1) (pa_cons (pv 2) (pa_cons (pe_op op_add (pv 1) (pv 2)) pa_nil))))) (pg_name (i := 6) sc_law_times_asked.nd rfl (by first | exact .inl rfl | exact .inr rfl))
      (pss_one (ps_if (pt_not (pt_val (pe_call Claw_just.G (hr.mono (by decide)) (by rfl) Claw_just.g Claw_just.kp Claw_just.b .nil pass0 (pa_cons (pe_call Cfence_times.G (hr.mono (by decide)) (by rfl) Cfence_times.g Cfence_times.kp Cfence_times.b .nil passL (pa_cons (pv 0) (pa_cons (pv 6) pa_nil))) (pa_cons (pe_tup (pa_cons (pe_op op_mulW (pv 6) (pv 3)) (pa_cons (pe_op op_mulW (pv 6) (pv 4)) (pa_cons (pv 5) pa_nil)))) pa_nil)))))
      (pss_one (ps_ret pe_bl))
      pss_nil)))
      (pss_one (ps_ret (pe_call Claw_just.G (hr.mono (by decide)) (by rfl) Claw_just.g Claw_just.kp Claw_just.b .nil pass0 (pa_cons (pe_call Cfence_behind.G (hr.mono (by decide)) (by rfl) Cfence_behind.g Cfence_behind.kp Cfence_behind.b .nil passL (pa_cons (pe_call Cfence_times.G (hr.mono (by decide)) (by rfl) Cfence_times.g Cfence_times.kp Cfence_times.b .nil passL (pa_cons (pe_callTy (call_listK (K := K) rfl) (by rfl) B.list_ (by decide +kernel) (pa_cons (pv 0) pa_nil)) (pa_cons (pv 1) pa_nil))) (pa_cons (pe_call Cfence_times.G (hr.mono (by decide)) (by rfl) Cfence_times.g Cfence_times.kp Cfence_times.b .nil passL (pa_cons (pv 0) (pa_cons (pv 2) pa_nil))) pa_nil))) (pa_cons (pe_call Cfence_times.G (hr.mono (by decide)) (by rfl) Cfence_times.g Cfence_times.kp Cfence_times.b .nil passL (pa_cons (pv 0) (pa_cons (pe_op op_add (pv 1) (pv 2)) pa_nil))) pa_nil))))))), ?_⟩
    walk_at "u"
    have sa390 := sml_mono sa (n := 390) (by decide)
    have zj390 : j.natAbs < 2 ^ 390 := Nat.lt_of_lt_of_le zj (Nat.pow_le_pow_right (by decide) (by decide))
    have zk390 : k.natAbs < 2 ^ 390 := Nat.lt_of_lt_of_le zk (Nat.pow_le_pow_right (by decide) (by decide))
    have zjk : (j + k).natAbs < 2 ^ 390 := by
      have : (2 : Nat) ^ 70 + 2 ^ 70 ≤ 2 ^ 390 := by decide +kernel
      omega
    refine ⟨_, rfl, p, _, rfl, hp, rfl, _, _, rfl, _, _, rfl, _, _, rfl, rfl, ?_⟩
    walk_at "u"
    refine ⟨_, rfl, _, rfl, _, rfl, _, rfl, _, _, rfl, rfl, by show 3 ≤ sizeLine; decide, fun l hl => ⟨l, rfl, ⟨_, .inl (.inl upd_same)⟩, for_it (walk_list (xs := [V.int j, .int k, .int (j + k)])) (fun i σ H' => Same (upd H l (.lst [V.int j, .int k, .int (j + k)])) H' ∧ ∃ y, σ = [some (.ref p), some (.int j), some (.int k), some (.int a.lo), some (.int a.hi), some (.int a.st), y]) ⟨Same.refl _, _, rfl⟩ (fun i σ H' _ pp => pp.1.seq (.inl (.inl upd_same))) (fun i x σ H1 H2 hi pp y => ?_) (fun σ H1 pp => ?_)⟩⟩
    · obtain ⟨s1, y6, rfl⟩ := pp
      obtain ⟨rfl, f2⟩ := y
      have hi3 : i < 3 := hi
      obtain ⟨m, rfl, m1, zm⟩ : ∃ m : Int, x = .int m ∧ 1 ≤ m ∧ m.natAbs < 2 ^ 390 := by
        match i, hi3, f2 with
        | 0, _, f => exact ⟨j, (Option.some.inj f).symm, j1, zj390⟩
        | 1, _, f => exact ⟨k, (Option.some.inj f).symm, k1, zk390⟩
        | 2, _, f => exact ⟨j + k, (Option.some.inj f).symm, by omega, zjk⟩
      walk_at "u"
      refine ⟨_, rfl, _, rfl, r_times (fT (st_same ((same_new hl).trans s1) hp)) ao m1 zm sa390 fun v H3 s3 g => ?_⟩
      refine ⟨_, rfl, _, rfl, _, _, rfl, rfl, mulW zm sa390.1 (by decide) (by decide), _, rfl, _, rfl, _, _, rfl, rfl, mulW zm sa390.2 (by decide) (by decide), _, rfl, by show 3 ≤ sizeLine; decide, fun t ht => ?_⟩
      exact r_just (dp_gFen (gFen.same (same_new ht) g)) (dp_fen (f := timesF m a) (SqT.of upd_same)) (okD_fD _) fun H4 s4 => ⟨_, rfl, iteF ⟨s1.trans ((s3.trans (same_new ht)).trans s4), _, rfl⟩⟩
    · obtain ⟨s1, y6, rfl⟩ := pp
      have s2 := (same_new hl).trans s1
      walk_at "u"
      refine ⟨_, rfl, p, _, rfl, .inr (st_same s2 hp), fun l2 hl2 => ⟨_, rfl, ?_⟩⟩
      have s3 := s2.trans (same_new (o := .lst a.V) hl2)
      refine r_times (fL (SqL.of upd_same)) ao j1 zj390 sa390 fun v H3 s4 g => ⟨_, rfl, _, rfl, ?_⟩
      obtain ⟨q1, rfl, hq1, o1⟩ := g
      have s5 := s3.trans s4
      refine r_times (fT (st_same s5 hp)) ao k1 zk390 sa390 fun v H4 s6 g2 => ?_
      obtain ⟨q2, rfl, hq2, o2⟩ := g2
      refine r_two (fT (st_same s6 hq1)) (fT hq2) o1 o2 (sml_mono (times_sml sa zj) (by decide)) (sml_mono (times_sml sa zk) (by decide)) fun v H5 s7 g3 => ⟨_, rfl, _, rfl, _, rfl, _, _, rfl, rfl, ?_⟩
      have s8 := (s5.trans s6).trans s7
      refine r_times (fT (st_same s8 hp)) ao (by omega) zjk sa390 fun v2 H6 s9 g4 => ?_
      have g3' : gFen K (behindF (timesF j a) (timesF k a)) v H5 := g3
      rw [behind_times ao] at g3'
      exact r_just (dp_gFen (gFen.same s9 g3')) (dp_gFen g4) (okD_fD _) fun H7 s10 => q _ ((s8.trans s9).trans s10)
def spMembers (K : PySem.W.Frag) : Sp := fun vs H Q _ => ∃ (p p2 l : Addr) (a b : Fen) (x0 x1 : Int), vs = [.ref p, .ref p2, .ref l] ∧ SqT K H p a.V ∧ SqT K H p2 b.V ∧ SqL K H l [.int x0, .int x1] ∧ (a.ok ∧ b.ok) ∧ (a.sml 140 ∧ b.sml 140) ∧ (0 ≤ x0 ∧ x0 < 30) ∧ (0 ≤ x1 ∧ x1 < 30) ∧ ∀ H', Same H H' → Q (.bl true) H'
theorem ok_law_members_asked {f : Addr} {fd : FuncData} (B : Bi mg) (T : BadF "BadRow" P w K mg base) (N : BadF "BadNumber" P w K mg base) (F : Fun K "_law_members_asked" "_law_members_asked" s_law_members_asked f fd)
    (Claw_just : Cal P w K mg base CX0 1 "_law_just" p_law_just (spJust K)) (Claw_has : Cal P w K mg base CX0 1 "_law_has" p_law_has (spHasL K)) (Claw_gcd : Cal P w K mg base CX0 1 "_law_gcd" p_law_gcd (spGcd K)) (Cfence_size : Cal P w K mg base (L2.CX P w) 4 "fence_size" p_fence_size (spSize K T.C N.C))
    (Chas_number : Cal P w K mg base (L2.CX P w) 4 "has_number" p_has_number (spHas K T.C N.C)) (Cfence_of : Cal P w K mg base (L2.CX P w) 4 "fence_of" p_fence_of (spFenceOf K T.C N.C)) : FnOk P w K mg base CX0 5 f fd p_law_members_asked (spMembers K) := by
  refine F.ok sc_law_members_asked (fun vs H Q E h => ?_) (fun cdv A outer s H vs Q E hr h => ?_)
  · obtain ⟨p, p2, l, a, b, x0, x1, rfl, _⟩ := h
    rfl
  · obtain ⟨p, p2, l, a, b, x0, x1, rfl, hp, hp2, hL, ⟨ao, bo⟩, ⟨sa, sb⟩, ⟨x00, x01⟩, ⟨x10, x11⟩, q⟩ := h
    refine ⟨_, (pss_cons (ps_set (i := 3) sc_law_members_asked.nd rfl (by first | exact .inl rfl | exact .inr rfl) pe_int)
      (pss_cutS (ps_if (pt_cmpR op_gt (pe_ix (ix_tupK (K := K) rfl) (pv 0) pe_int (fun _ _ => rfl)) pe_int (nomark _))
      (pss_one (ps_set (i := 3) sc_law_members_asked.nd rfl (by first | exact .inl rfl | exact .inr rfl) (pe_op op_add (pe_op op_fdivW (pe_op op_sub (pe_ix (ix_tupK (K := K) rfl) (pv 0) pe_int (fun _ _ => rfl)) (pe_ix (ix_tupK (K := K) rfl) (pv 0) pe_int (fun _ _ => rfl))) (pe_ix (ix_tupK (K := K) rfl) (pv 0) pe_int (fun _ _ => rfl))) pe_int)))
      pss_nil)
      (pss_cons (ps_if (pt_not (pt_val (pe_call Claw_just.G (hr.mono (by decide)) (by rfl) Claw_just.g Claw_just.kp Claw_just.b .nil pass0 (pa_cons (pe_call Cfence_size.G (hr.mono (by decide)) (by rfl) Cfence_size.g Cfence_size.kp Cfence_size.b .nil passL (pa_cons (pe_callTy (call_listK (K := K) rfl) (by rfl) B.list_ (by decide +kernel) (pa_cons (pv 0) pa_nil)) pa_nil)) (pa_cons (pv 3) pa_nil)))))
      (pss_one (ps_ret pe_bl))
      pss_nil)
      (pss_cons (ps_set (i := 4) sc_law_members_asked.nd rfl (by first | exact .inl rfl | exact .inr rfl) (pe_op op_add (pe_ix (ix_tupK (K := K) rfl) (pv 0) pe_int (fun _ _ => rfl)) (pe_op op_mulW (pe_ix (ix_tupK (K := K) rfl) (pv 0) pe_int (fun _ _ => rfl)) (pe_op op_mod (pe_callTy call_int1 (by rfl) B.int_ (by decide +kernel) (pa_cons (pe_ix (ix_listK (K := K) rfl) (pv 2) pe_int (fun _ _ => rfl)) pa_nil)) (pv 3)))))
      (pss_cons (ps_set (i := 5) sc_law_members_asked.nd rfl (by first | exact .inl rfl | exact .inr rfl) (pe_lst (pa_cons (pe_ix (ix_tupK (K := K) rfl) (pv 0) pe_int (fun _ _ => rfl)) (pa_cons (pe_ix (ix_tupK (K := K) rfl) (pv 0) pe_int (fun _ _ => rfl)) (pa_cons (pv 4) (pa_cons (pe_op op_sub (pe_ix (ix_tupK (K := K) rfl) (pv 0) pe_int (fun _ _ => rfl)) pe_int) (pa_cons (pe_op op_add (pe_ix (ix_tupK (K := K) rfl) (pv 0) pe_int (fun _ _ => rfl)) pe_int) (pa_cons (pe_op op_sub (pe_ix (ix_tupK (K := K) rfl) (pv 0) pe_int (fun _ _ => rfl)) (pe_ix (ix_tupK (K := K) rfl) (pv 0) pe_int (fun _ _ => rfl))) (pa_cons (pe_op op_add (pe_ix (ix_tupK (K := K) rfl) (pv 0) pe_int (fun _ _ => rfl)) (pe_ix (ix_tupK (K := K) rfl) (pv 0) pe_int (fun _ _ => rfl))) (pa_cons (pe_op op_add (pv 4) pe_int) (pa_cons (pe_ix (ix_tupK (K := K) rfl) (pv 1) pe_int (fun _ _ => rfl)) (pa_cons (pe_ix (ix_tupK (K := K) rfl) (pv 1) pe_int (fun _ _ => rfl)) pa_nil))))))))))))
      (pss_cons (ps_for PassesOwn.never rfl (pi_list (pv 5)) (pg_name (i := 6) sc_law_members_asked.nd rfl (by first | exact .inl rfl | exact .inr rfl))
      (pss_one (ps_if (pt_not (pt_val (pe_call Claw_just.G (hr.mono (by decide)) (by rfl) Claw_just.g Claw_just.kp Claw_just.b .nil pass0 (pa_cons (pe_call Chas_number.G (hr.mono (by decide)) (by rfl) Chas_number.g Chas_number.kp Chas_number.b .nil passL (pa_cons (pv 0) (pa_cons (pv 6) pa_nil))) (pa_cons (pe_call Claw_has.G (hr.mono (by decide)) (by rfl) Claw_has.g Claw_has.kp Claw_has.b .nil pass0 (pa_cons (pv 0) (pa_cons (pv 6) pa_nil))) pa_nil)))))
      (pss_one (ps_ret pe_bl))
      pss_nil)))
      (pss_cons (ps_set (i := 7) sc_law_members_asked.nd rfl (by first | exact .inl rfl | exact .inr rfl) (pe_slice (sl_listK (K := K) rfl) (pe_lst (pa_cons (pv 4) (pa_cons (pe_ix (ix_tupK (K := K) rfl) (pv 1) pe_int (fun _ _ => rfl)) (pa_cons (pe_ix (ix_tupK (K := K) rfl) (pv 0) pe_int (fun _ _ => rfl)) (pa_cons (pv 4) (pa_cons (pe_ix (ix_tupK (K := K) rfl) (pv 1) pe_int (fun _ _ => rfl)) pa_nil)))))) po_none (po_some (pe_op op_add pe_int (pe_op op_mod (pe_callTy call_int1 (by rfl) B.int_ (by decide +kernel) (pa_cons (pe_ix (ix_listK (K := K) rfl) (pv 2) pe_int (fun _ _ => rfl)) pa_nil)) pe_int)))))
      (pss_cons (ps_set (i := 8) sc_law_members_asked.nd rfl (by first | exact .inl rfl | exact .inr rfl) pe_int)
      (pss_cons (ps_for PassesOwn.never rfl (pi_list (pv 7)) (pg_name (i := 9) sc_law_members_asked.nd rfl (by first | exact .inl rfl | exact .inr rfl))
      (pss_one (ps_set (i := 8) sc_law_members_asked.nd rfl (by first | exact .inl rfl | exact .inr rfl) (pe_call Claw_gcd.G (hr.mono (by decide)) (by rfl) Claw_gcd.g Claw_gcd.kp Claw_gcd.b .nil pass0 (pa_cons (pv 8) (pa_cons (pe_op op_sub (pv 9) (pe_ix (ix_listK (K := K) rfl) (pv 7) pe_int (fun _ _ => rfl))) pa_nil))))))
      (pss_one (ps_ret (pe_call Claw_just.G (hr.mono (by decide)) (by rfl) Claw_just.g Claw_just.kp Claw_just.b .nil pass0 (pa_cons (pe_call Cfence_of.G (hr.mono (by decide)) (by rfl) Cfence_of.g Cfence_of.kp Cfence_of.b .nil passL (pa_cons (pv 7) pa_nil)) (pa_cons (pe_tup (pa_cons (pe_callB (cr_min (by rfl)) (by rfl) B.min (by decide +kernel) (pa_cons (pv 7) pa_nil)) (pa_cons (pe_callB (cr_max (by rfl)) (by rfl) B.max (by decide +kernel) (pa_cons (pv 7) pa_nil)) (pa_cons (pv 8) pa_nil)))) pa_nil)))))))))))))), ?_⟩
    walk_at "u"
    have sa390 := sml_mono sa (n := 390) (by decide)
    have zst := ao.st_sml sa
    have a0 := ao.1
    refine ⟨fun σ' H' => H' = H ∧ σ' = [some (.ref p), some (.ref p2), some (.ref l), some (.int (sizeF a)), none, none, none, none, none, none], ?_, ?_⟩
    · refine ⟨_, rfl, p, _, 2, _, rfl, rfl, hp, atI_nat (j := 2) rfl, _, _, rfl, rfl, _, rfl, ?_⟩
      by_cases c : 0 < a.st
      · refine ifT (decide_eq_true c) ⟨_, rfl, p, _, 1, _, rfl, rfl, hp, atI_nat (j := 1) rfl, _, rfl, p, _, 0, _, rfl, rfl, hp, atI_nat (j := 0) rfl, _, _, rfl, rfl, _, rfl, p, _, 2, _, rfl, rfl, hp, atI_nat (j := 2) rfl, _, _, rfl, rfl, divW c zst (by decide), _, _, rfl, rfl, rfl, ?_⟩
        have e : sizeF a = (a.hi - a.lo) / a.st + 1 := if_neg (by omega)
        rw [e]
      · refine ifF (decide_eq_false c) ⟨rfl, ?_⟩
        have e : sizeF a = 1 := if_pos (by omega)
        rw [e]
    rintro σ' H' ⟨rfl, rfl⟩
    have size1 : 1 ≤ sizeF a := by
      unfold sizeF
      have := ao.2.1
      split
      · exact Int.le_refl _
      · have := Int.ediv_nonneg (show 0 ≤ a.hi - a.lo by omega) a0
        omega
    walk_at "u"
    refine ⟨_, rfl, p, _, rfl, .inr hp, fun l1 hl1 => ?_⟩
    have s1 := same_new (o := .lst a.V) hl1
    refine ⟨_, _, rfl, fL (SqL.of upd_same), fun f e => ?_, ?_⟩
    · rw [checkF_good ao] at e
      cases e
      exact sa390
    rw [checkF_good ao]
    rintro v H1 s2 rfl
    have s3 := s1.trans s2
    refine ⟨_, rfl, r_just (.int _) (.int _) (okD_i _) fun H2 s4 => ⟨_, rfl, iteF ?_⟩⟩
    have s5 := s3.trans s4
    have hp5 := st_same s5 hp
    have hp25 := st_same s5 hp2
    have hL5 := s5.seq hL
    clear s1 s2 s3 s4 hl1
    obtain ⟨w0, w1⟩ := mod_up (x := x0) (m := sizeF a) x00 (by omega)
    walk_at "u"
    refine ⟨_, rfl, p, _, 0, _, rfl, rfl, hp5, atI_nat (j := 0) rfl, _, rfl, p, _, 2, _, rfl, rfl, hp5, atI_nat (j := 2) rfl, _, rfl, l, _, 0, _, rfl, rfl, hL5, atI_nat (j := 0) rfl, .inl ⟨_, rfl, _, rfl, _, _, rfl, rfl, by omega, _, _, rfl, rfl, mulW zst (b := 10) (by omega) (by decide) (by decide), _, _, rfl, rfl, ?_⟩⟩
    have zin : (a.lo + a.st * (x0 % sizeF a)).natAbs < 2 ^ 147 := by
      have x2 : a.st * (x0 % sizeF a) ≤ a.st * 30 := Int.mul_le_mul_of_nonneg_left (by omega) a0
      have x3 := Int.mul_nonneg a0 w0
      have h1 := sa.1
      omega
    generalize a.lo + a.st * (x0 % sizeF a) = inner at zin ⊢
    walk_at "u"
    refine ⟨_, rfl, p, _, 0, _, rfl, rfl, hp5, atI_nat (j := 0) rfl, _, rfl, p, _, 1, _, rfl, rfl, hp5, atI_nat (j := 1) rfl, _, rfl, _, rfl, p, _, 0, _, rfl, rfl, hp5, atI_nat (j := 0) rfl, _, _, rfl, rfl, _, rfl, p, _, 1, _, rfl, rfl, hp5, atI_nat (j := 1) rfl, _, _, rfl, rfl, _, rfl, p, _, 0, _, rfl, rfl, hp5, atI_nat (j := 0) rfl, _, rfl, p, _, 2, _, rfl, rfl, hp5, atI_nat (j := 2) rfl, _, _, rfl, rfl, _, rfl, p, _, 1, _, rfl, rfl, hp5, atI_nat (j := 1) rfl, _, rfl, p, _, 2, _, rfl, rfl, hp5, atI_nat (j := 2) rfl, _, _, rfl, rfl, _, rfl, _, _, rfl, rfl, _, rfl, p2, _, 0, _, rfl, rfl, hp25, atI_nat (j := 0) rfl, _, rfl, p2, _, 1, _, rfl, rfl, hp25, atI_nat (j := 1) rfl, by show 10 ≤ sizeLine; decide, fun l2 hl2 => ?_⟩
    walk_at "u"
    have hN : SqL K (upd H2 l2 (.lst [V.int a.lo, .int a.hi, .int inner, .int (a.lo - 1), .int (a.hi + 1), .int (a.lo - a.st), .int (a.hi + a.st), .int (inner + 1), .int b.lo, .int b.hi])) l2 ([a.lo, a.hi, inner, a.lo - 1, a.hi + 1, a.lo - a.st, a.hi + a.st, inner + 1, b.lo, b.hi].map V.int) := .inl (.inl upd_same)
    have s6 := same_new (o := .lst [V.int a.lo, .int a.hi, .int inner, .int (a.lo - 1), .int (a.hi + 1), .int (a.lo - a.st), .int (a.hi + a.st), .int (inner + 1), .int b.lo, .int b.hi]) hl2
    generalize upd H2 l2 (.lst [V.int a.lo, .int a.hi, .int inner, .int (a.lo - 1), .int (a.hi + 1), .int (a.lo - a.st), .int (a.hi + a.st), .int (inner + 1), .int b.lo, .int b.hi]) = H3 at hN s6 ⊢
    generalize [a.lo, a.hi, inner, a.lo - 1, a.hi + 1, a.lo - a.st, a.hi + a.st, inner + 1, b.lo, b.hi] = nums at hN
    have s7 := s5.trans s6
    replace hp5 := st_same s6 hp5
    replace hp25 := st_same s6 hp25
    replace hL5 := s6.seq hL5
    clear hl2 s5 s6
    refine t_for (H1 := H3) (walk_list (xs := nums.map V.int)) (fun R r => ⟨_, rfl, l2, rfl, ⟨_, hN⟩, r⟩) (fun i σ H' => Same H3 H' ∧ ∃ y, σ = [some (.ref p), some (.ref p2), some (.ref l), some (.int (sizeF a)), some (.int inner), some (.ref l2), y, none, none, none]) ⟨Same.refl _, _, rfl⟩ (fun i σ H' _ pp => pp.1.seq hN) (fun i x σ H4 H5 hi pp y => ?_) (fun σ H4 pp => ?_)
    · obtain ⟨s8, y6, rfl⟩ := pp
      obtain ⟨rfl, f2⟩ := y
      obtain ⟨n, rfl⟩ : ∃ n, x = .int n := by
        rw [List.getElem?_map] at f2
        cases e : nums[i]? with
        | none => rw [e] at f2; cases f2
        | some k => rw [e] at f2; exact ⟨k, (Option.some.inj f2).symm⟩
      walk_at "u"
      have ck : checkH (some a.V) (.int n) = .ok (hasF a n) := by
        unfold checkH
        rw [checkF_good ao]
      refine ⟨_, rfl, _, rfl, _, _, _, rfl, fT (st_same s8 hp5), rfl, ?_⟩
      rw [ck]
      rintro v H6 s9 rfl
      have s10 := s8.trans s9
      refine ⟨_, rfl, _, rfl, p, a, n, rfl, st_same s10 hp5, ao, r_just (.bl _) (.bl _) (okD_b _) fun H7 s11 => ⟨_, rfl, iteF ⟨s10.trans s11, _, rfl⟩⟩⟩
    · obtain ⟨s8, y6, rfl⟩ := pp
      replace hp5 := st_same s8 hp5
      replace hp25 := st_same s8 hp25
      replace hL5 := s8.seq hL5
      have s9 := s7.trans s8
      clear s7 s8 hN
      walk_at "u"
      refine ⟨_, rfl, _, rfl, p2, _, 1, _, rfl, rfl, hp25, atI_nat (j := 1) rfl, _, rfl, p, _, 1, _, rfl, rfl, hp5, atI_nat (j := 1) rfl, _, rfl, _, rfl, p2, _, 0, _, rfl, rfl, hp25, atI_nat (j := 0) rfl, by show 5 ≤ sizeLine; decide, fun l3 hl3 => ?_⟩
      obtain ⟨k, hk, ek⟩ : ∃ k : Nat, k < 5 ∧ 1 + x1 % 5 = ((k + 1 : Nat) : Int) := ⟨(x1 % 5).toNat, by omega, by omega⟩
      have s10 := same_new (o := .lst [V.int inner, .int b.hi, .int a.hi, .int inner, .int b.lo]) hl3
      refine ⟨_, rfl, l, _, 1, _, rfl, rfl, s10.seq hL5, atI_nat (j := 1) rfl, .inl ⟨_, rfl, _, _, rfl, rfl, by decide, _, _, rfl, rfl, _, rfl, l3, _, rfl, .inl (.inl upd_same), fun l4 hl4 => ?_⟩⟩
      have s11 := s10.trans (same_new (o := .lst (cutV [V.int inner, .int b.hi, .int a.hi, .int inner, .int b.lo] none (some (1 + x1 % 5)))) hl4)
      have hV : SqL K (upd (upd H4 l3 (.lst [V.int inner, .int b.hi, .int a.hi, .int inner, .int b.lo])) l4 (.lst (cutV [V.int inner, .int b.hi, .int a.hi, .int inner, .int b.lo] none (some (1 + x1 % 5))))) l4 ((inner :: [b.hi, a.hi, inner, b.lo].take k).map V.int) := by
        refine .inl (.inl ?_)
        rw [upd_same, ek, cut_to]
        congr 2
        match k, hk with
        | 0, _ => rfl
        | 1, _ => rfl
        | 2, _ => rfl
        | 3, _ => rfl
        | 4, _ => rfl
      have hB : ∀ x ∈ inner :: [b.hi, a.hi, inner, b.lo].take k, x.natAbs < 2 ^ 147 := by
        intro x hx
        have z1 := sml_mono sa (n := 147) (by decide)
        have z2 := sml_mono sb (n := 147) (by decide)
        rcases List.mem_cons.mp hx with e | hx
        · rw [e]; exact zin
        · have hx := List.mem_of_mem_take hx
          rcases List.mem_cons.mp hx with e | hx
          · rw [e]; exact z2.2
          rcases List.mem_cons.mp hx with e | hx
          · rw [e]; exact z1.2
          rcases List.mem_cons.mp hx with e | hx
          · rw [e]; exact zin
          · rw [List.mem_singleton.mp hx]; exact z2.1
      have hlen : (inner :: [b.hi, a.hi, inner, b.lo].take k).length ≤ 1000 := by
        rw [List.length_cons, List.length_take]
        simp only [List.length_cons, List.length_nil]
        omega
      generalize upd (upd H4 l3 (.lst [V.int inner, .int b.hi, .int a.hi, .int inner, .int b.lo])) l4 (.lst (cutV [V.int inner, .int b.hi, .int a.hi, .int inner, .int b.lo] none (some (1 + x1 % 5)))) = H6 at hV s11 ⊢
      generalize [b.hi, a.hi, inner, b.lo].take k = r at hV hB hlen
      have s12 := s9.trans s11
      clear hl3 hl4 s9 s10 s11 ek hp5 hp25 hL5
      refine t_for (H1 := H6) (walk_list (xs := (inner :: r).map V.int)) (fun R r => ⟨_, rfl, l4, rfl, ⟨_, hV⟩, r⟩) (fun i σ H' => H' = H6 ∧ ∃ g y9, σ = [some (.ref p), some (.ref p2), some (.ref l), some (.int (sizeF a)), some (.int inner), some (.ref l2), y6, some (.ref l4), some (.int g), y9] ∧ stepGo inner (inner :: r) 0 = stepGo inner ((inner :: r).drop i) g) ⟨rfl, 0, _, rfl, rfl⟩ (fun i σ H' _ pp => by rw [pp.1]; exact hV) (fun i x σ H7 H8 hi pp y => ?_) (fun σ H7 pp => ?_)
      · obtain ⟨rfl, g, y9, rfl, eg⟩ := pp
        obtain ⟨rfl, f2⟩ := y
        obtain ⟨n, en, rfl⟩ : ∃ n, (inner :: r)[i]? = some n ∧ x = .int n := by
          rw [List.getElem?_map] at f2
          cases e : (inner :: r)[i]? with
          | none => rw [e] at f2; cases f2
          | some k => rw [e] at f2; exact ⟨k, rfl, (Option.some.inj f2).symm⟩
        walk_at "u"
        rw [stepGo_drop en] at eg
        have zn := hB n (List.mem_of_getElem? en)
        exact ⟨_, rfl, _, rfl, _, rfl, l4, _, 0, _, rfl, rfl, hV, atI_nat (j := 0) rfl, _, _, rfl, rfl, _, _, rfl, by omega, rfl, _, _, rfl, eg⟩
      · obtain ⟨rfl, g, y9, rfl, eg⟩ := pp
        rw [List.length_map, List.drop_length] at eg
        have eg' : stepGo inner (inner :: r) 0 = g := eg
        walk_at "u"
        refine ⟨_, rfl, _, some ((inner :: r).map V.int), rfl, .lst hV (flat_ints _) (by rw [List.length_map]; exact hlen), ?_⟩
        rw [checkI_good]
        rintro v H8 s13 ⟨pv, rfl, hpv⟩
        obtain ⟨f1, f2⟩ := foldl_min r inner
        obtain ⟨f3, f4⟩ := foldl_max r inner
        refine ⟨_, rfl, l4, inner :: r, rfl, s13.seq hV, by simp, fun m hm hm2 => ⟨_, rfl, l4, inner :: r, rfl, s13.seq hV, by simp, fun M hM hM2 => ⟨_, rfl, by show 3 ≤ sizeLine; decide, fun t ht => ?_⟩⟩⟩
        have e1 : m = r.foldl min inner := by
          have x := hm2 _ f1
          have y := f2 _ hm
          omega
        have e2 : M = r.foldl max inner := by
          have x := hM2 _ f3
          have y := f4 _ hM
          omega
        have e3 : (rowF (inner :: r)).V = [.int m, .int M, .int g] := by
          rw [e1, e2, ← eg', stepGo_eq List.mem_cons_self f1]
          rfl
        have hpv' := hpv
        refine r_just (d := fD (rowF (inner :: r))) (dp_fen (st_same (same_new ht) hpv)) ?_ (okD_fD _) fun H9 s14 => q _ (((s12.trans s13).trans (same_new ht)).trans s14)
        refine dp_fen ?_
        rw [e3]
        exact SqT.of upd_same
end
end K68

namespace K68
open PySem PySem.Spec PyProof.Rows L2 KR KK
local macro_rules | `(tactic| walk_at "u") => `(tactic| try dsimp only [tSeq, tCutS, tCutE, tCutT, tIfS, tRet, tRetN, tNext, tBreak, tCont, tDrop, tAsg, tPar, gName, gTup, gCons, gNil, tOr, tAnd, tNot, tB, tTest, tCB, tCons, tNil, tC, tVar, tAndV, tOrV, tNotV, tOp, tUn, tIf, tIsN, tNotN, tTup, tLst, tCall, tCallS, tBM, tBM0, tSl, tPart, tNoPart, tYes, iList, iTup, iSeq, iStr, iRng1, iRng2, iEnumA, rI, rI0, rU, cxOf, Cx.nox, Cx.wish, L2.start, List.map, List.set, Nat.repeat, List.length_cons, List.length_nil, List.replicate, List.nil_append, List.cons_append, List.append_nil, Nat.reduceAdd, Nat.reduceSub, E0, tBad, tTr])

def Res.un {α : Type} : Res α → Res Unit
  | .ok _ => .ok ()
  | .row z => .row z
  | .num z => .num z
theorem out_un {K : PySem.W.Frag} {C N : Addr} {α : Type} {H : Hp} {good : α → V → Hp → Prop} {r : Res α} {Q : VK} {E : XK} (h : OutR K C N H (fun (_ : Unit) _ _ => True) r.un Q E) : OutR K C N H good r Q E := by
  cases r with
  | ok a => exact fun v H' e _ => h v H' e trivial
  | row z => exact h
  | num z => exact h
/-- what is called, and how it ends -/
inductive Call (K : PySem.W.Frag) (H : Hp) : Int → V → V → Res Unit → Prop
  | two {i : Nat} {v1 v2 : V} {o1 o2 : Option (List V)} (hi : i < 4) (h1 : RowA K H v1 o1) (h2 : RowA K H v2 o2) (hs : ∀ ab, twoF o1 o2 = .ok ab → ab.1.sml 390 ∧ ab.2.sml 390) : Call K H (i : Nat) v1 v2 (twoF o1 o2).un
  | has {v1 v2 : V} {o : Option (List V)} (h1 : RowA K H v1 o) (h2 : flat v2 = true) : Call K H 4 v1 v2 (checkH o v2).un
  | times {v1 v2 : V} {o : Option (List V)} (h1 : RowA K H v1 o) (h2 : flat v2 = true) (hs : ∀ kf, timesR o v2 = .ok kf → kf.1.natAbs < 2 ^ 390 ∧ kf.2.sml 390) : Call K H 5 v1 v2 (timesR o v2).un
  | size {v1 v2 : V} {o : Option (List V)} (h1 : RowA K H v1 o) (hs : ∀ f, checkF o = .ok f → f.sml 390) : Call K H 6 v1 v2 (checkF o).un
  | of {v1 v2 : V} {o : Option (List V)} (h1 : RowA K H v1 o) : Call K H 7 v1 v2 (checkI o).un
  | num {v1 : V} {least : Int} (h1 : flat v1 = true) : Call K H 8 v1 (.int least) (checkN v1 least).un
theorem Call.same {K : PySem.W.Frag} {H H' : Hp} {i : Int} {v1 v2 : V} {r : Res Unit} (e : Same H H') (h : Call K H i v1 v2 r) : Call K H' i v1 v2 r := by
  cases h with
  | two hi h1 h2 hs => exact .two hi (h1.same e) (h2.same e) hs
  | has h1 h2 => exact .has (h1.same e) h2
  | times h1 h2 hs => exact .times (h1.same e) h2 hs
  | size h1 hs => exact .size (h1.same e) hs
  | of h1 => exact .of (h1.same e)
  | num h1 => exact .num h1
/-- what is told of it -/
def refD : Res Unit → PyData
  | .ok _ => .tuple [.str "let"]
  | .row z => .tuple [.str "row", z, .bool true, .bool false]
  | .num z => .tuple [.str "number", z, .bool true, .bool false]
structure VarF (K : PySem.W.Frag) (mg : Str → Option Value) (CR CN : Addr) where
  CV : Addr
  gV : mg "VariesError" = some (.ref CV)
  kRV : PySem.W.kitOne K (.ref CR) (.ref CV) = some true
  kRN : PySem.W.kitOne K (.ref CR) (.ref CN) = some false
  kNV : PySem.W.kitOne K (.ref CN) (.ref CV) = some true
  kNR : PySem.W.kitOne K (.ref CN) (.ref CR) = some false
  eNR : PySem.W.exmOne K (.ref CN) (.ref CR) = some false
section
variable {P : Program} {w : World} {K : PySem.W.Frag} {mg : Str → Option Value} {base : Heap}
def spAsked (K : PySem.W.Frag) : Sp := fun vs H Q _ => ∃ (l pk : Addr) (es : List V) (fs : List Fen) (j k x0 x1 : Int), vs = [.ref l, .int j, .int k, .ref pk] ∧ SqL K H l es ∧ Paired (FenL K H) es fs ∧ fs.length = 3 ∧ (∀ f ∈ fs, f.ok ∧ f.sml 140) ∧ SqL K H pk [.int x0, .int x1] ∧ (0 ≤ x0 ∧ x0 < 30) ∧ (0 ≤ x1 ∧ x1 < 30) ∧ (1 ≤ j ∧ j.natAbs < 2 ^ 70) ∧ (1 ≤ k ∧ k.natAbs < 2 ^ 70) ∧ ∀ H', Same H H' → Q (.bl true) H'
theorem ok_law_asked {f : Addr} {fd : FuncData} (B : Bi mg) (T : BadF "BadRow" P w K mg base) (N : BadF "BadNumber" P w K mg base) (F : Fun K "_law_asked" "_law_asked" s_law_asked f fd)
    (Claw_pair_asked : Cal P w K mg base CX0 5 "_law_pair_asked" p_law_pair_asked (spPair K)) (Claw_times_asked : Cal P w K mg base CX0 5 "_law_times_asked" p_law_times_asked (spTimesL K)) (Claw_members_asked : Cal P w K mg base CX0 5 "_law_members_asked" p_law_members_asked (spMembers K)) (Claw_three_asked : Cal P w K mg base CX0 5 "_law_three_asked" p_law_three_asked (spThree K))
    (Claw_just : Cal P w K mg base CX0 1 "_law_just" p_law_just (spJust K)) (Ccheck_number : Cal P w K mg base (L2.CX P w) 3 "check_number" p_check_number (spCheckN K T.C N.C)) : FnOk P w K mg base CX0 6 f fd p_law_asked (spAsked K) := by
  refine F.ok sc_law_asked (fun vs H Q E h => ?_) (fun cdv A outer s H vs Q E hr h => ?_)
  · obtain ⟨l, pk, es, fs, j, k, x0, x1, rfl, _⟩ := h
    rfl
  · obtain ⟨l, pk, es, fs, j, k, x0, x1, rfl, hL, fr, hlen, hf, hP, hx0, hx1, hj, hk, q⟩ := h
    refine ⟨_, (pss_cons (ps_for PassesOwn.never rfl (pi_list (pv 0)) (pg_name (i := 4) sc_law_asked.nd rfl (by first | exact .inl rfl | exact .inr rfl))
      (pss_cons (ps_for PassesOwn.never rfl (pi_list (pv 0)) (pg_name (i := 5) sc_law_asked.nd rfl (by first | exact .inl rfl | exact .inr rfl))
      (pss_one (ps_if (pt_not (pt_val (pe_call Claw_pair_asked.G (hr.mono (by decide)) (by rfl) Claw_pair_asked.g Claw_pair_asked.kp Claw_pair_asked.b .nil pass0 (pa_cons (pv 4) (pa_cons (pv 5) pa_nil)))))
      (pss_one (ps_ret pe_bl))
      pss_nil)))
      (pss_cons (ps_if (pt_not (pt_val (pe_call Claw_times_asked.G (hr.mono (by decide)) (by rfl) Claw_times_asked.g Claw_times_asked.kp Claw_times_asked.b .nil pass0 (pa_cons (pv 4) (pa_cons (pv 1) (pa_cons (pv 2) pa_nil))))))
      (pss_one (ps_ret pe_bl))
      pss_nil)
      (pss_one (ps_for PassesOwn.never rfl (pi_list (pv 0)) (pg_name (i := 5) sc_law_asked.nd rfl (by first | exact .inl rfl | exact .inr rfl))
      (pss_one (ps_if (pt_not (pt_val (pe_call Claw_members_asked.G (hr.mono (by decide)) (by rfl) Claw_members_asked.g Claw_members_asked.kp Claw_members_asked.b .nil pass0 (pa_cons (pv 4) (pa_cons (pv 5) (pa_cons (pv 3) pa_nil))))))
      (pss_one (ps_ret pe_bl))
      pss_nil)))))))
      (pss_cons (ps_if (pt_cut (PW.pt (pw_or (pt_not (pt_val (pe_call Claw_three_asked.G (hr.mono (by decide)) (by rfl) Claw_three_asked.g Claw_three_asked.kp Claw_three_asked.b .nil pass0 (pa_cons (pe_ix (ix_listK (K := K) rfl) (pv 0) pe_int (fun _ _ => rfl)) (pa_cons (pe_ix (ix_listK (K := K) rfl) (pv 0) pe_int (fun _ _ => rfl)) (pa_cons (pe_ix (ix_listK (K := K) rfl) (pv 0) pe_int (fun _ _ => rfl)) pa_nil)))))) (pw_or1 (pt_not (pt_val (pe_call Claw_three_asked.G (hr.mono (by decide)) (by rfl) Claw_three_asked.g Claw_three_asked.kp Claw_three_asked.b .nil pass0 (pa_cons (pe_ix (ix_listK (K := K) rfl) (pv 0) pe_int (fun _ _ => rfl)) (pa_cons (pe_ix (ix_listK (K := K) rfl) (pv 0) pe_int (fun _ _ => rfl)) (pa_cons (pe_ix (ix_listK (K := K) rfl) (pv 0) pe_int (fun _ _ => rfl)) pa_nil))))))))))
      (pss_one (ps_ret pe_bl))
      pss_nil)
      (pss_one (ps_ret (pe_cut (pe_and (pe_call Claw_just.G (hr.mono (by decide)) (by rfl) Claw_just.g Claw_just.kp Claw_just.b .nil pass0 (pa_cons (pe_call Ccheck_number.G (hr.mono (by decide)) (by rfl) Ccheck_number.g Ccheck_number.kp Ccheck_number.b .nil passL (pa_cons (pv 2) (pa_cons pe_int pa_nil))) (pa_cons (pv 2) pa_nil))) (pe_one (pe_call Claw_just.G (hr.mono (by decide)) (by rfl) Claw_just.g Claw_just.kp Claw_just.b .nil pass0 (pa_cons (pe_call Ccheck_number.G (hr.mono (by decide)) (by rfl) Ccheck_number.g Ccheck_number.kp Ccheck_number.b .nil passL (pa_cons (pe_ix (ix_tupK (K := K) rfl) (pe_ix (ix_listK (K := K) rfl) (pv 0) pe_int (fun _ _ => rfl)) pe_int (fun _ _ => rfl)) (pa_cons (pe_ix (ix_tupK (K := K) rfl) (pe_ix (ix_listK (K := K) rfl) (pv 0) pe_int (fun _ _ => rfl)) pe_int (fun _ _ => rfl)) pa_nil))) (pa_cons (pe_ix (ix_tupK (K := K) rfl) (pe_ix (ix_listK (K := K) rfl) (pv 0) pe_int (fun _ _ => rfl)) pe_int (fun _ _ => rfl)) pa_nil)))))))))), ?_⟩
    walk_at "u"
    refine t_for (H1 := H) (walk_list (xs := es)) (fun R r => ⟨_, rfl, l, rfl, ⟨_, hL⟩, r⟩) (fun i σ H' => Same H H' ∧ ∃ y4 y5, σ = [some (.ref l), some (.int j), some (.int k), some (.ref pk), y4, y5]) ⟨Same.refl _, _, _, rfl⟩ (fun i σ H' _ pp => pp.1.seq hL) (fun i x σ H1 H2 hi pp y => ?_) (fun σ H1 pp => ?_)
    · obtain ⟨s1, y4, y5, rfl⟩ := pp
      obtain ⟨rfl, f2⟩ := y
      obtain ⟨a, ea, pa, rfl, ha⟩ := pair_at fr f2
      obtain ⟨ao, sa⟩ := hf a (List.mem_of_getElem? ea)
      walk_at "u"
      refine t_for (H1 := H2) (walk_list (xs := es)) (fun R r => ⟨_, rfl, l, rfl, ⟨_, s1.seq hL⟩, r⟩) (fun i σ H' => Same H2 H' ∧ ∃ y5, σ = [some (.ref l), some (.int j), some (.int k), some (.ref pk), some (.ref pa), y5]) ⟨Same.refl _, _, rfl⟩ (fun i σ H' _ pp => (s1.trans pp.1).seq hL) (fun i x σ H3 H4 hi pp y => ?_) (fun σ H3 pp => ?_)
      · obtain ⟨s2, y5, rfl⟩ := pp
        obtain ⟨rfl, g2⟩ := y
        obtain ⟨b, eb, pb, rfl, hb⟩ := pair_at fr g2
        obtain ⟨bo, sb⟩ := hf b (List.mem_of_getElem? eb)
        have s3 := s1.trans s2
        walk_at "u"
        exact ⟨_, rfl, _, rfl, pa, pb, a, b, rfl, st_same s3 ha, st_same s3 hb, ao, bo, sa, sb, fun H5 s5 => ⟨_, rfl, iteF ⟨s2.trans s5, _, rfl⟩⟩⟩
      · obtain ⟨s2, y5, rfl⟩ := pp
        have s3 := s1.trans s2
        walk_at "u"
        refine ⟨_, rfl, _, rfl, _, rfl, pa, a, j, k, rfl, st_same s3 ha, ao, sa, hj, hk, fun H5 s5 => ⟨_, rfl, iteF ?_⟩⟩
        have s6 := s3.trans s5
        refine t_for (H1 := H5) (walk_list (xs := es)) (fun R r => ⟨_, rfl, l, rfl, ⟨_, s6.seq hL⟩, r⟩) (fun i σ H' => Same H5 H' ∧ ∃ y5, σ = [some (.ref l), some (.int j), some (.int k), some (.ref pk), some (.ref pa), y5]) ⟨Same.refl _, _, rfl⟩ (fun i σ H' _ pp => (s6.trans pp.1).seq hL) (fun i x σ H7 H8 hi pp y => ?_) (fun σ H7 pp => ?_)
        · obtain ⟨s7, y5, rfl⟩ := pp
          obtain ⟨rfl, g2⟩ := y
          obtain ⟨b, eb, pb, rfl, hb⟩ := pair_at fr g2
          obtain ⟨bo, sb⟩ := hf b (List.mem_of_getElem? eb)
          have s8 := s6.trans s7
          walk_at "u"
          exact ⟨_, rfl, _, rfl, _, rfl, pa, pb, pk, a, b, x0, x1, rfl, st_same s8 ha, st_same s8 hb, s8.seq hP, ⟨ao, bo⟩, ⟨sa, sb⟩, hx0, hx1, fun H9 s9 => ⟨_, rfl, iteF ⟨s7.trans s9, _, rfl⟩⟩⟩
        · obtain ⟨s7, y5, rfl⟩ := pp
          exact ⟨s6.trans s7, _, _, rfl⟩
    · obtain ⟨s1, y4, y5, rfl⟩ := pp
      have hle := Paired.length fr
      have at_ : ∀ i : Nat, i < 3 → ∃ (p : Addr) (f : Fen), es[i]? = some (.ref p) ∧ SqT K H p f.V ∧ f.ok ∧ f.sml 140 := fun i hi => by
        have hi' : i < es.length := by omega
        obtain ⟨f, ef, p, ep, h⟩ := pair_at fr (List.getElem?_eq_getElem hi')
        obtain ⟨o1, o2⟩ := hf f (List.mem_of_getElem? ef)
        exact ⟨p, f, by rw [List.getElem?_eq_getElem hi', ep], h, o1, o2⟩
      obtain ⟨p0, f0, e0, h0, o0, z0⟩ := at_ 0 (by decide)
      obtain ⟨p1, f1, e1, h1, o1, z1⟩ := at_ 1 (by decide)
      obtain ⟨p2, f2, e2, h2, o2, z2⟩ := at_ 2 (by decide)
      clear at_ hf fr
      walk_at "u"
      refine ⟨fun b' H' => b' = false ∧ Same H1 H', ?_, ?_⟩
      · refine ⟨_, rfl, l, _, 0, _, rfl, rfl, s1.seq hL, atI_nat (j := 0) e0, _, rfl, l, _, 1, _, rfl, rfl, s1.seq hL, atI_nat (j := 1) e1, _, rfl, l, _, 2, _, rfl, rfl, s1.seq hL, atI_nat (j := 2) e2, ?_⟩
        refine ⟨p0, p1, p2, f0, f1, f2, rfl, st_same s1 h0, st_same s1 h1, st_same s1 h2, ⟨o0, o1, o2⟩, ⟨z0, z1, z2⟩, fun H2 s2 => ⟨_, rfl, iteF ?_⟩⟩
        have s3 := s1.trans s2
        refine ⟨_, rfl, l, _, 2, _, rfl, rfl, s3.seq hL, atI_nat (j := 2) e2, _, rfl, l, _, 0, _, rfl, rfl, s3.seq hL, atI_nat (j := 0) e0, _, rfl, l, _, 1, _, rfl, rfl, s3.seq hL, atI_nat (j := 1) e1, ?_⟩
        exact ⟨p2, p0, p1, f2, f0, f1, rfl, st_same s3 h2, st_same s3 h0, st_same s3 h1, ⟨o2, o0, o1⟩, ⟨z2, z0, z1⟩, fun H3 s4 => ⟨_, rfl, rfl, s2.trans s4⟩⟩
      rintro _ H2 ⟨rfl, s2⟩
      have s3 := s1.trans s2
      refine iteF ⟨fun v H' => v = .bl true ∧ Same H2 H', ?_, ?_⟩
      · refine ⟨_, rfl, .int k, 1, rfl, rfl, ?_⟩
        rw [checkN_good hk.1]
        rintro v H3 s4 rfl
        refine ⟨_, rfl, r_just (.int _) (.int _) (okD_i _) fun H4 s5 => ⟨_, rfl, iteT ?_⟩⟩
        have s6 := s3.trans (s4.trans s5)
        refine ⟨_, rfl, l, _, 0, _, rfl, rfl, s6.seq hL, atI_nat (j := 0) e0, p0, _, 0, _, rfl, rfl, st_same s6 h0, atI_nat (j := 0) rfl, _, rfl, l, _, 0, _, rfl, rfl, s6.seq hL, atI_nat (j := 0) e0, p0, _, 0, _, rfl, rfl, st_same s6 h0, atI_nat (j := 0) rfl, .int f0.lo, f0.lo, rfl, rfl, ?_⟩
        rw [checkN_good (Int.le_refl _)]
        rintro v H5 s7 rfl
        have s8 := s6.trans s7
        exact ⟨_, rfl, l, _, 0, _, rfl, rfl, s8.seq hL, atI_nat (j := 0) e0, p0, _, 0, _, rfl, rfl, st_same s8 h0, atI_nat (j := 0) rfl, r_just (.int _) (.int _) (okD_i _) fun H6 s9 => ⟨rfl, ((s4.trans s5).trans s7).trans s9⟩⟩
      · rintro _ H3 ⟨rfl, s4⟩
        exact q _ (s3.trans s4)
def spCall (K : PySem.W.Frag) (C N : Addr) : Sp := fun vs H Q E => ∃ which v1 v2 r, vs = [.int which, v1, v2] ∧ Call K H which v1 v2 r ∧ OutR K C N H (fun (_ : Unit) _ _ => True) r Q E
theorem ok_law_call {f : Addr} {fd : FuncData} (B : Bi mg) (T : BadF "BadRow" P w K mg base) (N : BadF "BadNumber" P w K mg base) (F : Fun K "_law_call" "_law_call" s_law_call f fd)
    (Cfence_either : Cal P w K mg base (L2.CX P w) 4 "fence_either" p_fence_either (spTwo K T.C N.C (gEither K))) (Cfence_behind : Cal P w K mg base (L2.CX P w) 4 "fence_behind" p_fence_behind (spTwo K T.C N.C (gBehind K)))
    (Cfences_met : Cal P w K mg base (L2.CX P w) 4 "fences_met" p_fences_met (spTwo K T.C N.C (gMet K))) (Cis_fence_within : Cal P w K mg base (L2.CX P w) 4 "is_fence_within" p_is_fence_within (spTwo K T.C N.C gWithin))
    (Chas_number : Cal P w K mg base (L2.CX P w) 4 "has_number" p_has_number (spHas K T.C N.C)) (Cfence_of : Cal P w K mg base (L2.CX P w) 4 "fence_of" p_fence_of (spFenceOf K T.C N.C)) (Cfence_times : Cal P w K mg base (L2.CX P w) 4 "fence_times" p_fence_times (spTimes K T.C N.C))
    (Cfence_size : Cal P w K mg base (L2.CX P w) 4 "fence_size" p_fence_size (spSize K T.C N.C)) (Ccheck_number : Cal P w K mg base (L2.CX P w) 3 "check_number" p_check_number (spCheckN K T.C N.C)) : FnOk P w K mg base (L2.CX P w) 5 f fd p_law_call (spCall K T.C N.C) := by
  refine F.okX sc_law_call (fun vs H Q E h => ?_) (fun cdv A outer s H vs Q E hr h => ?_)
  · obtain ⟨which, v1, v2, r, rfl, _⟩ := h
    rfl
  · obtain ⟨which, v1, v2, r, rfl, hC, q⟩ := h
    refine ⟨_, (pss_cons (ps_if (pt_cmpR op_eq (pv 0) pe_int (nomark _))
      (pss_one (ps_ret (pe_call Cfences_met.G (hr.mono (by decide)) (by rfl) Cfences_met.g Cfences_met.kp Cfences_met.b .nil (passes_call (takes_of (E := E) rfl rfl rfl rfl) (fun _ _ _ _ h => h)) (pa_cons (pv 1) (pa_cons (pv 2) pa_nil)))))
      pss_nil)
      (pss_cons (ps_if (pt_cmpR op_eq (pv 0) pe_int (nomark _))
      (pss_one (ps_ret (pe_call Cis_fence_within.G (hr.mono (by decide)) (by rfl) Cis_fence_within.g Cis_fence_within.kp Cis_fence_within.b .nil (passes_call (takes_of (E := E) rfl rfl rfl rfl) (fun _ _ _ _ h => h)) (pa_cons (pv 1) (pa_cons (pv 2) pa_nil)))))
      pss_nil)
      (pss_cons (ps_if (pt_cmpR op_eq (pv 0) pe_int (nomark _))
      (pss_one (ps_ret (pe_call Cfence_behind.G (hr.mono (by decide)) (by rfl) Cfence_behind.g Cfence_behind.kp Cfence_behind.b .nil (passes_call (takes_of (E := E) rfl rfl rfl rfl) (fun _ _ _ _ h => h)) (pa_cons (pv 1) (pa_cons (pv 2) pa_nil)))))
      pss_nil)
      (pss_cons (ps_if (pt_cmpR op_eq (pv 0) pe_int (nomark _))
      (pss_one (ps_ret (pe_call Cfence_either.G (hr.mono (by decide)) (by rfl) Cfence_either.g Cfence_either.kp Cfence_either.b .nil (passes_call (takes_of (E := E) rfl rfl rfl rfl) (fun _ _ _ _ h => h)) (pa_cons (pv 1) (pa_cons (pv 2) pa_nil)))))
      pss_nil)
      (pss_cons (ps_if (pt_cmpR op_eq (pv 0) pe_int (nomark _))
      (pss_one (ps_ret (pe_call Chas_number.G (hr.mono (by decide)) (by rfl) Chas_number.g Chas_number.kp Chas_number.b .nil (passes_call (takes_of (E := E) rfl rfl rfl rfl) (fun _ _ _ _ h => h)) (pa_cons (pv 1) (pa_cons (pv 2) pa_nil)))))
      pss_nil)
      (pss_cons (ps_if (pt_cmpR op_eq (pv 0) pe_int (nomark _))
      (pss_one (ps_ret (pe_call Cfence_times.G (hr.mono (by decide)) (by rfl) Cfence_times.g Cfence_times.kp Cfence_times.b .nil (passes_call (takes_of (E := E) rfl rfl rfl rfl) (fun _ _ _ _ h => h)) (pa_cons (pv 1) (pa_cons (pv 2) pa_nil)))))
      pss_nil)
      (pss_cons (ps_if (pt_cmpR op_eq (pv 0) pe_int (nomark _))
      (pss_one (ps_ret (pe_call Cfence_size.G (hr.mono (by decide)) (by rfl) Cfence_size.g Cfence_size.kp Cfence_size.b .nil (passes_call (takes_of (E := E) rfl rfl rfl rfl) (fun _ _ _ _ h => h)) (pa_cons (pv 1) pa_nil))))
      pss_nil)
      (pss_cons (ps_if (pt_cmpR op_eq (pv 0) pe_int (nomark _))
      (pss_one (ps_ret (pe_call Cfence_of.G (hr.mono (by decide)) (by rfl) Cfence_of.g Cfence_of.kp Cfence_of.b .nil (passes_call (takes_of (E := E) rfl rfl rfl rfl) (fun _ _ _ _ h => h)) (pa_cons (pv 1) pa_nil))))
      pss_nil)
      (pss_one (ps_ret (pe_call Ccheck_number.G (hr.mono (by decide)) (by rfl) Ccheck_number.g Ccheck_number.kp Ccheck_number.b .nil (passes_call (takes_of (E := E) rfl rfl rfl rfl) (fun _ _ _ _ h => h)) (pa_cons (pv 1) (pa_cons (pv 2) pa_nil))))))))))))), ?_⟩
    walk_at "u"
    have no : ∀ {i j : Int} {A B : Prop}, i ≠ j → B → if decide (V.int i = V.int j) = true then A else B := fun h b => ifF (decide_eq_false fun z => h (V.int.inj z)) b
    have ye : ∀ {i : Int} {A B : Prop}, A → if decide (V.int i = V.int i) = true then A else B := fun a => ifT (decide_eq_true rfl) a
    cases hC with
    | @two i _ _ o1 o2 hi h1 h2 hs =>
      have q2 : ∀ good : Fen × Fen → V → Hp → Prop, OutR K T.C N.C H good (twoF o1 o2) Q E := fun good => out_un q
      match i, hi with
      | 0, _ => exact ⟨_, rfl, rfl, _, rfl, ye ⟨_, rfl, _, rfl, _, _, o1, o2, rfl, h1, h2, hs, q2 _⟩⟩
      | 1, _ => exact ⟨_, rfl, rfl, _, rfl, no (by decide) ⟨_, rfl, rfl, _, rfl, ye ⟨_, rfl, _, rfl, _, _, o1, o2, rfl, h1, h2, hs, q2 _⟩⟩⟩
      | 2, _ => exact ⟨_, rfl, rfl, _, rfl, no (by decide) ⟨_, rfl, rfl, _, rfl, no (by decide) ⟨_, rfl, rfl, _, rfl, ye ⟨_, rfl, _, rfl, _, _, o1, o2, rfl, h1, h2, hs, q2 _⟩⟩⟩⟩
      | 3, _ => exact ⟨_, rfl, rfl, _, rfl, no (by decide) ⟨_, rfl, rfl, _, rfl, no (by decide) ⟨_, rfl, rfl, _, rfl, no (by decide) ⟨_, rfl, rfl, _, rfl, ye ⟨_, rfl, _, rfl, _, _, o1, o2, rfl, h1, h2, hs, q2 _⟩⟩⟩⟩⟩
    | @has _ _ o h1 h2 =>
      exact ⟨_, rfl, rfl, _, rfl, no (by decide) ⟨_, rfl, rfl, _, rfl, no (by decide) ⟨_, rfl, rfl, _, rfl, no (by decide) ⟨_, rfl, rfl, _, rfl, no (by decide) ⟨_, rfl, rfl, _, rfl, ye ⟨_, rfl, _, rfl, _, o, _, rfl, h1, h2, out_un q⟩⟩⟩⟩⟩⟩
    | @times _ _ o h1 h2 hs =>
      exact ⟨_, rfl, rfl, _, rfl, no (by decide) ⟨_, rfl, rfl, _, rfl, no (by decide) ⟨_, rfl, rfl, _, rfl, no (by decide) ⟨_, rfl, rfl, _, rfl, no (by decide) ⟨_, rfl, rfl, _, rfl, no (by decide) ⟨_, rfl, rfl, _, rfl, ye ⟨_, rfl, _, rfl, _, o, _, rfl, h1, h2, hs, out_un q⟩⟩⟩⟩⟩⟩⟩
    | @size _ _ o h1 hs =>
      exact ⟨_, rfl, rfl, _, rfl, no (by decide) ⟨_, rfl, rfl, _, rfl, no (by decide) ⟨_, rfl, rfl, _, rfl, no (by decide) ⟨_, rfl, rfl, _, rfl, no (by decide) ⟨_, rfl, rfl, _, rfl, no (by decide) ⟨_, rfl, rfl, _, rfl, no (by decide) ⟨_, rfl, rfl, _, rfl, ye ⟨_, rfl, _, o, rfl, h1, hs, out_un q⟩⟩⟩⟩⟩⟩⟩⟩
    | @of _ _ o h1 =>
      exact ⟨_, rfl, rfl, _, rfl, no (by decide) ⟨_, rfl, rfl, _, rfl, no (by decide) ⟨_, rfl, rfl, _, rfl, no (by decide) ⟨_, rfl, rfl, _, rfl, no (by decide) ⟨_, rfl, rfl, _, rfl, no (by decide) ⟨_, rfl, rfl, _, rfl, no (by decide) ⟨_, rfl, rfl, _, rfl, no (by decide) ⟨_, rfl, rfl, _, rfl, ye ⟨_, rfl, _, o, rfl, h1, out_un q⟩⟩⟩⟩⟩⟩⟩⟩⟩
    | @num _ least h1 =>
      exact ⟨_, rfl, rfl, _, rfl, no (by decide) ⟨_, rfl, rfl, _, rfl, no (by decide) ⟨_, rfl, rfl, _, rfl, no (by decide) ⟨_, rfl, rfl, _, rfl, no (by decide) ⟨_, rfl, rfl, _, rfl, no (by decide) ⟨_, rfl, rfl, _, rfl, no (by decide) ⟨_, rfl, rfl, _, rfl, no (by decide) ⟨_, rfl, rfl, _, rfl, no (by decide) ⟨_, rfl, _, rfl, _, least, rfl, h1, out_un q⟩⟩⟩⟩⟩⟩⟩⟩⟩
def spRefused (K : PySem.W.Frag) : Sp := fun vs H Q _ => ∃ which v1 v2 r, vs = [.int which, v1, v2] ∧ Call K H which v1 v2 r ∧ ∀ v H', Same H H' → Dp K H' v (refD r) → Q v H'
theorem ok_law_refused {f : Addr} {fd : FuncData} (B : Bi mg) (T : BadF "BadRow" P w K mg base) (N : BadF "BadNumber" P w K mg base) (Vf : VarF K mg T.C N.C) (F : Fun K "_law_refused" "_law_refused" s_law_refused f fd)
    (Claw_call : Cal P w K mg base (L2.CX P w) 5 "_law_call" p_law_call (spCall K T.C N.C)) : FnOk P w K mg base CX0 6 f fd p_law_refused (spRefused K) := by
  refine F.ok sc_law_refused (fun vs H Q E h => ?_) (fun cdv A outer s H vs Q E hr h => ?_)
  · obtain ⟨which, v1, v2, r, rfl, _⟩ := h
    rfl
  · obtain ⟨which, v1, v2, r, rfl, hC, q⟩ := h
    refine ⟨_, (pss_cons (ps_set (i := 3) sc_law_refused.nd rfl (by first | exact .inl rfl | exact .inr rfl) (pe_tup (pa_cons pe_str pa_nil)))
      (pss_cutS (ps_try_all rfl rfl takes_no (fun W pn xe tk hpa => (pss_one (ps_expr (pe_callS Claw_call.G (hr.mono (by decide)) (by rfl) Claw_call.g Claw_call.kp Claw_call.b (fun σ => passAt tk σ) (pa_cons (pv 0) (pa_cons (pv 1) (pa_cons (pv 2) pa_nil))))))) (HdsA.named (i := 4) sc_law_refused.nd rfl (by rfl) ⟨rfl, by decide, .inl T.T.gC⟩ (fun a oe cls d pn hz hf => (pss_one (ps_set (i := 3) sc_law_refused.nd rfl (by first | exact .inl rfl | exact .inr rfl) (pe_tup (pa_cons pe_str (pa_cons (pe_xf T.T.xf T.T.noA hz hf (pv 4)) (pa_cons (pe_callB (call_isX T.T.is hz hf) (by rfl) B.isinstance (by decide +kernel) (pa_cons (pv 4) (pa_cons (pe_glob (v := .ref Vf.CV) (by rfl) Vf.gV rfl) pa_nil))) (pa_cons (pe_callB (call_isX T.T.is hz hf) (by rfl) B.isinstance (by decide +kernel) (pa_cons (pv 4) (pa_cons (pe_glob (v := .ref N.C) (by rfl) N.T.gC rfl) pa_nil))) pa_nil)))))))) (HdsA.named (i := 4) sc_law_refused.nd rfl (by rfl) ⟨rfl, by decide, .inl N.T.gC⟩ (fun a oe cls d pn hz hf => (pss_one (ps_set (i := 3) sc_law_refused.nd rfl (by first | exact .inl rfl | exact .inr rfl) (pe_tup (pa_cons pe_str (pa_cons (pe_xf N.T.xf N.T.noA hz hf (pv 4)) (pa_cons (pe_callB (call_isX N.T.is hz hf) (by rfl) B.isinstance (by decide +kernel) (pa_cons (pv 4) (pa_cons (pe_glob (v := .ref Vf.CV) (by rfl) Vf.gV rfl) pa_nil))) (pa_cons (pe_callB (call_isX N.T.is hz hf) (by rfl) B.isinstance (by decide +kernel) (pa_cons (pv 4) (pa_cons (pe_glob (v := .ref T.C) (by rfl) T.T.gC rfl) pa_nil))) pa_nil)))))))) (HdsA.plain ⟨rfl, by decide, .inl Vf.gV⟩ (fun a oe cls d pn hz hf => (pss_one (ps_set (i := 3) sc_law_refused.nd rfl (by first | exact .inl rfl | exact .inr rfl) (pe_tup (pa_cons pe_str pa_nil))))) HdsA.nil))))
      (pss_one (ps_ret (pv 3))))), ?_⟩
    walk_at "u"
    refine ⟨by show 1 ≤ sizeLine; decide, fun t ht => ?_⟩
    have s1 := same_new (o := .tup [.str "let"]) ht
    refine ⟨fun σ' H' => ∃ v, σ'[3]? = some (some v) ∧ Q v H', ?_, fun σ' H' h => h⟩
    refine ⟨_, rfl, _, rfl, _, rfl, which, v1, v2, r, rfl, hC.same s1, ?_⟩
    cases r with
    | ok _ =>
      rintro v H' s -
      exact ⟨.ref t, rfl, q _ _ (s1.trans s) (.tup (st_same s (SqT.of upd_same)) (.cons (.str _) .nil))⟩
    | row z =>
      intro d y H' s hd hy
      refine ⟨true, T.T.te, fun _ a ha => ?_, nofun⟩
      dsimp only [suIn]
      walk_at "u"
      refine ⟨_, rfl, rfl, rfl, d, _, y, rfl, hd, by simp [List.lookup], _, rfl, Vf.CV, d, _, true, rfl, rfl, rfl, hd, Vf.kRV, _, rfl, N.C, d, _, false, rfl, rfl, rfl, hd, Vf.kRN, by show 4 ≤ sizeLine; decide, fun t2 ht2 => ⟨.ref t2, rfl, ?_⟩⟩
      exact q _ _ ((s1.trans s).trans (same_new ht2)) (.tup (SqT.of upd_same) (.cons (.str _) (.cons (dp_same (same_new ht2) hy) (.cons (.bl _) (.cons (.bl _) .nil)))))
    | num z =>
      intro d y H' s hd hy
      refine ⟨false, Vf.eNR, nofun, fun _ => ⟨true, N.T.te, fun _ a ha => ?_, nofun⟩⟩
      dsimp only [suIn]
      walk_at "u"
      refine ⟨_, rfl, rfl, rfl, d, _, y, rfl, hd, by simp [List.lookup], _, rfl, Vf.CV, d, _, true, rfl, rfl, rfl, hd, Vf.kNV, _, rfl, T.C, d, _, false, rfl, rfl, rfl, hd, Vf.kNR, by show 4 ≤ sizeLine; decide, fun t2 ht2 => ⟨.ref t2, rfl, ?_⟩⟩
      exact q _ _ ((s1.trans s).trans (same_new ht2)) (.tup (SqT.of upd_same) (.cons (.str _) (.cons (dp_same (same_new ht2) hy) (.cons (.bl _) (.cons (.bl _) .nil)))))
end
end K68

namespace K68
open PySem PySem.Spec PyProof.Rows L2 KR KK
local macro_rules | `(tactic| walk_at "u") => `(tactic| try dsimp only [tSeq, tCutS, tCutE, tCutT, tIfS, tRet, tRetN, tNext, tBreak, tCont, tDrop, tAsg, tPar, gName, gTup, gCons, gNil, tOr, tAnd, tNot, tB, tTest, tCB, tCons, tNil, tC, tVar, tAndV, tOrV, tNotV, tOp, tUn, tIf, tIsN, tNotN, tTup, tLst, tCall, tCallS, tBM, tBM0, tSl, tPart, tNoPart, tYes, iList, iTup, iSeq, iStr, iRng1, iRng2, iEnumA, rI, rI0, rU, cxOf, Cx.nox, Cx.wish, L2.start, List.map, List.set, Nat.repeat, List.length_cons, List.length_nil, List.replicate, List.nil_append, List.cons_append, List.append_nil, Nat.reduceAdd, Nat.reduceSub, E0, tBad, tTr])

/-- a wrong fence, and what is wrong in it -/
def WrongI (K : PySem.W.Frag) (H : Hp) (x : V) : Prop := ∃ t wv o, ∃ i : Int, x = .ref t ∧ SqT K H t [wv, .int i] ∧ RowA K H wv o ∧ wrongF o = .int i
theorem WrongI.same {K : PySem.W.Frag} {H H' : Hp} {x : V} (h : WrongI K H x) (e : Same H H') : WrongI K H' x := by
  obtain ⟨t, wv, o, i, r, h1, h2, h3⟩ := h
  exact ⟨t, wv, o, i, r, st_same e h1, h2.same e, h3⟩
theorem wi_flat {K : PySem.W.Frag} {H : Hp} {t : Addr} {v : V} {i : Int} (ht : H t = none) (fv : flat v = true) (e : wrongF none = .int i) : WrongI K (upd H t (.tup [v, .int i])) (.ref t) := ⟨t, v, none, i, rfl, SqT.of upd_same, .no fv, e⟩
theorem wi_tup {K : PySem.W.Frag} {H : Hp} {u t : Addr} {xs : List V} {i : Int} (hu : H u = none) (ht : (upd H u (.tup xs)) t = none) (f : xs.all flat = true) (l : xs.length ≤ 1000) (e : wrongF (some xs) = .int i) : WrongI K (upd (upd H u (.tup xs)) t (.tup [.ref u, .int i])) (.ref t) :=
  ⟨t, _, some xs, i, rfl, SqT.of upd_same, .tup (st_same (same_new ht) (SqT.of upd_same)) f l, e⟩
def OfI (K : PySem.W.Frag) (H : Hp) (x : V) : Prop := ∃ t wv o, ∃ i : Int, x = .ref t ∧ SqT K H t [wv, .int i] ∧ RowA K H wv o ∧ checkI o = .row (.int i)
theorem OfI.same {K : PySem.W.Frag} {H H' : Hp} {x : V} (h : OfI K H x) (e : Same H H') : OfI K H' x := by
  obtain ⟨t, wv, o, i, r, h1, h2, h3⟩ := h
  exact ⟨t, wv, o, i, r, st_same e h1, h2.same e, h3⟩
theorem oi_flat {K : PySem.W.Frag} {H : Hp} {t : Addr} {v : V} {i : Int} (ht : H t = none) (fv : flat v = true) (e : checkI none = .row (.int i)) : OfI K (upd H t (.tup [v, .int i])) (.ref t) := ⟨t, v, none, i, rfl, SqT.of upd_same, .no fv, e⟩
theorem oi_tup {K : PySem.W.Frag} {H : Hp} {u t : Addr} {xs : List V} {i : Int} (hu : H u = none) (ht : (upd H u (.tup xs)) t = none) (f : xs.all flat = true) (l : xs.length ≤ 1000) (e : checkI (some xs) = .row (.int i)) : OfI K (upd (upd H u (.tup xs)) t (.tup [.ref u, .int i])) (.ref t) :=
  ⟨t, _, some xs, i, rfl, SqT.of upd_same, .tup (st_same (same_new ht) (SqT.of upd_same)) f l, e⟩
theorem checkF_bad {o : Option (List V)} {z : Int} (e : wrongF o = .int z) : checkF o = .row (.int z) := by
  unfold checkF
  rw [if_neg (by rw [e]; intro h; cases h), e]
  rfl
theorem checkO_bad {o : Option (List V)} {z : Int} (e : wrongF o = .int z) : checkO o = .row (.tuple [.int (-2), .int z]) := by
  unfold checkO
  rw [if_neg (by rw [e]; intro h; cases h), e]
  rfl
theorem call1 {K : PySem.W.Frag} {H : Hp} {wv : V} {o : Option (List V)} {z : Int} (h : RowA K H wv o) (e : wrongF o = .int z) : ∀ i : Nat, i < 7 → Call K H (i : Nat) wv (.str "2") (.row (.int z)) := by
  have e1 := checkF_bad e
  have f2 : flat (.str "2") = true := by decide +kernel
  have e2 : ∀ o2, twoF o o2 = .row (.int z) := fun o2 => by unfold twoF; rw [e1]
  have c4 : ∀ i : Nat, i < 4 → Call K H (i : Nat) wv (.str "2") (.row (.int z)) := fun i hi => by
    have := Call.two (K := K) (H := H) (v1 := wv) (v2 := .str "2") (o1 := o) (o2 := none) hi h (.no f2) (fun ab x => by rw [e2] at x; cases x)
    rw [e2] at this
    exact this
  intro i hi
  match i, hi with
  | 0, _ => exact c4 0 (by decide)
  | 1, _ => exact c4 1 (by decide)
  | 2, _ => exact c4 2 (by decide)
  | 3, _ => exact c4 3 (by decide)
  | 4, _ =>
    have c : checkH o (.str "2") = .row (.int z) := by unfold checkH; rw [e1]
    have := Call.has (K := K) (H := H) (v1 := wv) (v2 := .str "2") h f2
    rw [c] at this
    exact this
  | 5, _ =>
    have c : timesR o (.str "2") = .row (.int z) := by unfold timesR; rw [e1]
    have := Call.times (K := K) (H := H) (v1 := wv) (v2 := .str "2") h f2 (fun kf x => by rw [c] at x; cases x)
    rw [c] at this
    exact this
  | 6, _ =>
    have := Call.size (K := K) (H := H) (v1 := wv) (v2 := .str "2") h (fun f x => by rw [e1] at x; cases x)
    rw [e1] at this
    exact this
theorem call2 {K : PySem.W.Frag} {H : Hp} {p : Addr} {f : Fen} {wv : V} {o : Option (List V)} {z : Int} (hp : SqT K H p f.V) (fo : f.ok) (h : RowA K H wv o) (e : wrongF o = .int z) (i : Nat) (hi : i < 4) : Call K H (i : Nat) (.ref p) wv (.row (.tuple [.int (-2), .int z])) := by
  have e2 : twoF (some f.V) o = .row (.tuple [.int (-2), .int z]) := by
    unfold twoF
    rw [checkF_good fo]
    show (match checkO o with
      | .ok b => Res.ok (f, b)
      | .row z => .row z
      | .num z => .num z) = _
    rw [checkO_bad e]
  have := Call.two (K := K) (H := H) (v1 := .ref p) (v2 := wv) (o1 := some f.V) (o2 := o) hi (fT hp) h (fun ab x => by rw [e2] at x; cases x)
  rw [e2] at this
  exact this
theorem callH {K : PySem.W.Frag} {H : Hp} {p : Addr} {f : Fen} {v : V} (hp : SqT K H p f.V) (fo : f.ok) (fv : flat v = true) (nv : isIntV v = false) : Call K H 4 (.ref p) v (.num (toD v)) := by
  have e : checkH (some f.V) v = .num (toD v) := by
    unfold checkH
    rw [checkF_good fo]
    cases v with
    | int i => cases nv
    | _ => rfl
  have := Call.has (K := K) (H := H) (v1 := .ref p) (v2 := v) (fT hp) fv
  rw [e] at this
  exact this
theorem callT {K : PySem.W.Frag} {H : Hp} {p : Addr} {f : Fen} {v : V} {z : PyData} (hp : SqT K H p f.V) (fo : f.ok) (fv : flat v = true) (c : checkN v 1 = .num z) : Call K H 5 (.ref p) v (.num z) := by
  have e : timesR (some f.V) v = .num z := by
    unfold timesR
    rw [checkF_good fo]
    show (match checkN v 1 with
      | .ok k => Res.ok (k, f)
      | .row z => .row z
      | .num z => .num z) = _
    rw [c]
  have := Call.times (K := K) (H := H) (v1 := .ref p) (v2 := v) (fT hp) fv (fun kf x => by rw [e] at x; cases x)
  rw [e] at this
  exact this
theorem callN {K : PySem.W.Frag} {H : Hp} {v : V} {z : PyData} (fv : flat v = true) (c : checkN v 1 = .num z) : Call K H 8 v (.int 1) (.num z) := by
  have := Call.num (K := K) (H := H) (v1 := v) (least := 1) fv
  rw [c] at this
  exact this
theorem callO {K : PySem.W.Frag} {H : Hp} {wv : V} {o : Option (List V)} {z : Int} (h : RowA K H wv o) (e : checkI o = .row (.int z)) : Call K H 7 wv (.int 0) (.row (.int z)) := by
  have := Call.of (K := K) (H := H) (v1 := wv) (v2 := .int 0) h
  rw [e] at this
  exact this
theorem callL {K : PySem.W.Frag} {H : Hp} {p : Addr} {f : Fen} (hp : SqT K H p f.V) (fo : f.ok) (sf : f.sml 390) : Call K H 5 (.ref p) (.int 1) (.ok ()) := by
  have e := times_good (k := 1) fo (Int.le_refl _)
  have := Call.times (K := K) (H := H) (v1 := .ref p) (v2 := .int 1) (fT hp) rfl (fun kf x => by
    rw [e] at x
    cases x
    exact ⟨by show (1 : Int).natAbs < 2 ^ 390; decide +kernel, sf⟩)
  rw [e] at this
  exact this
theorem okD_row {z : PyData} (h : okD z = true) (n : nodes z ≤ 1000) : okD (refD (.row z)) = true ∧ nodes (refD (.row z)) ≤ 100000 := by
  constructor
  · simp only [refD, okD, okAll, h, Bool.and_true]
    decide +kernel
  · simp only [refD, nodes, nodesAll]
    omega
theorem okD_num {z : PyData} (h : okD z = true) (n : nodes z ≤ 1000) : okD (refD (.num z)) = true ∧ nodes (refD (.num z)) ≤ 100000 := by
  constructor
  · simp only [refD, okD, okAll, h, Bool.and_true]
    decide +kernel
  · simp only [refD, nodes, nodesAll]
    omega
theorem okD_flat {v : V} (h : flat v = true) : okD (toD v) = true ∧ nodes (toD v) ≤ 1000 := by
  cases v with
  | non => constructor <;> simp [toD, okD, nodes]
  | bl b => constructor <;> simp [toD, okD, nodes]
  | int i => constructor <;> simp [toD, okD, nodes]
  | str s =>
    refine ⟨?_, by simp [toD, nodes]⟩
    simp only [toD, okD]
    exact h
  | byt _ => cases h
  | flt _ => cases h
  | ref _ => cases h
  | ty _ => cases h
theorem okD_2 {z : Int} : okD (.tuple [.int (-2), .int z]) = true ∧ nodes (.tuple [.int (-2), .int z]) ≤ 1000 := by constructor <;> simp [okD, okAll, nodes, nodesAll]
section
variable {P : Program} {w : World} {K : PySem.W.Frag} {mg : Str → Option Value} {base : Heap}
theorem dp_row {H : Hp} {t : Addr} {y : V} {z : PyData} (h : Dp K (upd H t (.tup [.str "row", y, .bl true, .bl false])) y z) : Dp K (upd H t (.tup [.str "row", y, .bl true, .bl false])) (.ref t) (refD (.row z)) := .tup (SqT.of upd_same) (.cons (.str _) (.cons h (.cons (.bl _) (.cons (.bl _) .nil))))
theorem dp_num {H : Hp} {t : Addr} {y : V} {z : PyData} (h : Dp K (upd H t (.tup [.str "number", y, .bl true, .bl false])) y z) : Dp K (upd H t (.tup [.str "number", y, .bl true, .bl false])) (.ref t) (refD (.num z)) := .tup (SqT.of upd_same) (.cons (.str _) (.cons h (.cons (.bl _) (.cons (.bl _) .nil))))
def spRefuses (K : PySem.W.Frag) : Sp := fun vs H Q _ => ∃ (p : Addr) (f : Fen) (way : Int), vs = [.ref p, .int way] ∧ SqT K H p f.V ∧ f.ok ∧ f.sml 140 ∧ 0 ≤ way ∧ ∀ H', Same H H' → Q (.bl true) H'
theorem ok_law_refuses {f : Addr} {fd : FuncData} (B : Bi mg) (F : Fun K "_law_refuses" "_law_refuses" s_law_refuses f fd)
    (Claw_just : Cal P w K mg base CX0 1 "_law_just" p_law_just (spJust K)) (Claw_refused : Cal P w K mg base CX0 6 "_law_refused" p_law_refused (spRefused K)) : FnOk P w K mg base CX0 7 f fd p_law_refuses (spRefuses K) := by
  refine F.ok sc_law_refuses (fun vs H Q E h => ?_) (fun cdv A outer s H vs Q E hr h => ?_)
  · obtain ⟨p, f, way, rfl, _⟩ := h
    rfl
  · obtain ⟨p, fe, way, rfl, hp, fo, sf, w0, q⟩ := h
    refine ⟨_, (pss_cons (ps_set (i := 2) sc_law_refuses.nd rfl (by first | exact .inl rfl | exact .inr rfl) (pe_lst (pa_cons (pe_tup (pa_cons pe_int (pa_cons (pe_un un_neg pe_int) pa_nil))) (pa_cons (pe_tup (pa_cons (pe_tup (pa_cons pe_int (pa_cons pe_int pa_nil))) (pa_cons (pe_un un_neg pe_int) pa_nil))) (pa_cons (pe_tup (pa_cons (pe_tup (pa_cons pe_str (pa_cons pe_int (pa_cons pe_int pa_nil)))) (pa_cons pe_int pa_nil))) (pa_cons (pe_tup (pa_cons (pe_tup (pa_cons pe_int (pa_cons pe_int (pa_cons pe_int pa_nil)))) (pa_cons pe_int pa_nil))) (pa_cons (pe_tup (pa_cons (pe_tup (pa_cons pe_int (pa_cons pe_int (pa_cons pe_int pa_nil)))) (pa_cons pe_int pa_nil))) (pa_cons (pe_tup (pa_cons (pe_tup (pa_cons pe_int (pa_cons pe_int (pa_cons pe_int pa_nil)))) (pa_cons pe_int pa_nil))) (pa_cons (pe_tup (pa_cons (pe_tup (pa_cons pe_int (pa_cons pe_int (pa_cons pe_int pa_nil)))) (pa_cons pe_int pa_nil))) (pa_cons (pe_tup (pa_cons (pe_tup (pa_cons pe_int (pa_cons pe_bl (pa_cons pe_int pa_nil)))) (pa_cons pe_int pa_nil))) (pa_cons (pe_tup (pa_cons (pe_tup (pa_cons pe_int (pa_cons pe_int (pa_cons (pe_un un_neg pe_int) pa_nil)))) (pa_cons pe_int pa_nil))) (pa_cons (pe_tup (pa_cons pe_non (pa_cons (pe_un un_neg pe_int) pa_nil))) pa_nil))))))))))))
      (pss_cons (ps_for PassesOwn.never rfl (pi_list (pe_lst (pa_cons (pe_op op_mod (pe_callTy call_int1 (by rfl) B.int_ (by decide +kernel) (pa_cons (pv 1) pa_nil)) pe_int) (pa_cons (pe_op op_mod (pe_callTy call_int1 (by rfl) B.int_ (by decide +kernel) (pa_cons (pe_op op_fdivW (pv 1) pe_int) pa_nil)) pe_int) pa_nil)))) (pg_name (i := 3) sc_law_refuses.nd rfl (by first | exact .inl rfl | exact .inr rfl))
      (pss_cons (ps_for PassesOwn.never rfl (pi_range1 rfl B.range (pa_cons pe_int pa_nil)) (pg_name (i := 4) sc_law_refuses.nd rfl (by first | exact .inl rfl | exact .inr rfl))
      (pss_one (ps_if (pt_not (pt_val (pe_call Claw_just.G (hr.mono (by decide)) (by rfl) Claw_just.g Claw_just.kp Claw_just.b .nil pass0 (pa_cons (pe_call Claw_refused.G (hr.mono (by decide)) (by rfl) Claw_refused.g Claw_refused.kp Claw_refused.b .nil pass0 (pa_cons (pv 4) (pa_cons (pe_ix (ix_tupK (K := K) rfl) (pe_ix (ix_listK (K := K) rfl) (pv 2) (pv 3) (fun _ _ => rfl)) pe_int (fun _ _ => rfl)) (pa_cons pe_str pa_nil)))) (pa_cons (pe_tup (pa_cons pe_str (pa_cons (pe_ix (ix_tupK (K := K) rfl) (pe_ix (ix_listK (K := K) rfl) (pv 2) (pv 3) (fun _ _ => rfl)) pe_int (fun _ _ => rfl)) (pa_cons pe_bl (pa_cons pe_bl pa_nil))))) pa_nil)))))
      (pss_one (ps_ret pe_bl))
      pss_nil)))
      (pss_one (ps_for PassesOwn.never rfl (pi_range1 rfl B.range (pa_cons pe_int pa_nil)) (pg_name (i := 4) sc_law_refuses.nd rfl (by first | exact .inl rfl | exact .inr rfl))
      (pss_one (ps_if (pt_not (pt_val (pe_call Claw_just.G (hr.mono (by decide)) (by rfl) Claw_just.g Claw_just.kp Claw_just.b .nil pass0 (pa_cons (pe_call Claw_refused.G (hr.mono (by decide)) (by rfl) Claw_refused.g Claw_refused.kp Claw_refused.b .nil pass0 (pa_cons (pv 4) (pa_cons (pv 0) (pa_cons (pe_ix (ix_tupK (K := K) rfl) (pe_ix (ix_listK (K := K) rfl) (pv 2) (pv 3) (fun _ _ => rfl)) pe_int (fun _ _ => rfl)) pa_nil)))) (pa_cons (pe_tup (pa_cons pe_str (pa_cons (pe_tup (pa_cons (pe_un un_neg pe_int) (pa_cons (pe_ix (ix_tupK (K := K) rfl) (pe_ix (ix_listK (K := K) rfl) (pv 2) (pv 3) (fun _ _ => rfl)) pe_int (fun _ _ => rfl)) pa_nil))) (pa_cons pe_bl (pa_cons pe_bl pa_nil))))) pa_nil)))))
      (pss_one (ps_ret pe_bl))
      pss_nil))))))
      (pss_cons (ps_if (pt_cut (PW.pt (pw_or (pt_not (pt_val (pe_call Claw_just.G (hr.mono (by decide)) (by rfl) Claw_just.g Claw_just.kp Claw_just.b .nil pass0 (pa_cons (pe_call Claw_refused.G (hr.mono (by decide)) (by rfl) Claw_refused.g Claw_refused.kp Claw_refused.b .nil pass0 (pa_cons pe_int (pa_cons (pv 0) (pa_cons pe_non pa_nil)))) (pa_cons (pe_tup (pa_cons pe_str (pa_cons pe_non (pa_cons pe_bl (pa_cons pe_bl pa_nil))))) pa_nil))))) (pw_or1 (pt_not (pt_val (pe_call Claw_just.G (hr.mono (by decide)) (by rfl) Claw_just.g Claw_just.kp Claw_just.b .nil pass0 (pa_cons (pe_call Claw_refused.G (hr.mono (by decide)) (by rfl) Claw_refused.g Claw_refused.kp Claw_refused.b .nil pass0 (pa_cons pe_int (pa_cons (pv 0) (pa_cons pe_bl pa_nil)))) (pa_cons (pe_tup (pa_cons pe_str (pa_cons pe_bl (pa_cons pe_bl (pa_cons pe_bl pa_nil))))) pa_nil)))))))))
      (pss_one (ps_ret pe_bl))
      pss_nil)
      (pss_cons (ps_for PassesOwn.never rfl (pi_list (pe_lst (pa_cons pe_int (pa_cons (pe_un un_neg pe_int) (pa_cons pe_bl (pa_cons pe_str (pa_cons pe_non pa_nil))))))) (pg_name (i := 5) sc_law_refuses.nd rfl (by first | exact .inl rfl | exact .inr rfl))
      (pss_cons (ps_if (pt_not (pt_val (pe_call Claw_just.G (hr.mono (by decide)) (by rfl) Claw_just.g Claw_just.kp Claw_just.b .nil pass0 (pa_cons (pe_call Claw_refused.G (hr.mono (by decide)) (by rfl) Claw_refused.g Claw_refused.kp Claw_refused.b .nil pass0 (pa_cons pe_int (pa_cons (pv 0) (pa_cons (pv 5) pa_nil)))) (pa_cons (pe_tup (pa_cons pe_str (pa_cons (pv 5) (pa_cons pe_bl (pa_cons pe_bl pa_nil))))) pa_nil)))))
      (pss_one (ps_ret pe_bl))
      pss_nil)
      (pss_one (ps_if (pt_not (pt_val (pe_call Claw_just.G (hr.mono (by decide)) (by rfl) Claw_just.g Claw_just.kp Claw_just.b .nil pass0 (pa_cons (pe_call Claw_refused.G (hr.mono (by decide)) (by rfl) Claw_refused.g Claw_refused.kp Claw_refused.b .nil pass0 (pa_cons pe_int (pa_cons (pv 5) (pa_cons pe_int pa_nil)))) (pa_cons (pe_tup (pa_cons pe_str (pa_cons (pv 5) (pa_cons pe_bl (pa_cons pe_bl pa_nil))))) pa_nil)))))
      (pss_one (ps_ret pe_bl))
      pss_nil))))
      (pss_cons (ps_for PassesOwn.never rfl (pi_list (pe_lst (pa_cons (pe_tup (pa_cons (pe_tup pa_nil) (pa_cons (pe_un un_neg pe_int) pa_nil))) (pa_cons (pe_tup (pa_cons pe_int (pa_cons (pe_un un_neg pe_int) pa_nil))) (pa_cons (pe_tup (pa_cons (pe_tup (pa_cons pe_int (pa_cons pe_str (pa_cons pe_non pa_nil)))) (pa_cons pe_int pa_nil))) (pa_cons (pe_tup (pa_cons (pe_tup (pa_cons pe_bl pa_nil)) (pa_cons pe_int pa_nil))) pa_nil)))))) (pg_name (i := 6) sc_law_refuses.nd rfl (by first | exact .inl rfl | exact .inr rfl))
      (pss_one (ps_if (pt_not (pt_val (pe_call Claw_just.G (hr.mono (by decide)) (by rfl) Claw_just.g Claw_just.kp Claw_just.b .nil pass0 (pa_cons (pe_call Claw_refused.G (hr.mono (by decide)) (by rfl) Claw_refused.g Claw_refused.kp Claw_refused.b .nil pass0 (pa_cons pe_int (pa_cons (pe_ix (ix_tupK (K := K) rfl) (pv 6) pe_int (fun _ _ => rfl)) (pa_cons pe_int pa_nil)))) (pa_cons (pe_tup (pa_cons pe_str (pa_cons (pe_ix (ix_tupK (K := K) rfl) (pv 6) pe_int (fun _ _ => rfl)) (pa_cons pe_bl (pa_cons pe_bl pa_nil))))) pa_nil)))))
      (pss_one (ps_ret pe_bl))
      pss_nil)))
      (pss_one (ps_ret (pe_call Claw_just.G (hr.mono (by decide)) (by rfl) Claw_just.g Claw_just.kp Claw_just.b .nil pass0 (pa_cons (pe_call Claw_refused.G (hr.mono (by decide)) (by rfl) Claw_refused.g Claw_refused.kp Claw_refused.b .nil pass0 (pa_cons pe_int (pa_cons (pv 0) (pa_cons pe_int pa_nil)))) (pa_cons (pe_tup (pa_cons pe_str pa_nil)) pa_nil)))))))))), ?_⟩
    walk_at "u"
    refine ⟨1, rfl, by show 2 ≤ sizeLine; decide, fun at1 ah1 => ?_⟩
    have aW1 := wi_flat (K := K) (v := .int 7) (i := -1) ah1 rfl rfl
    have ar1 := same_new (o := .tup [.int 7, .int (-1)]) ah1
    generalize upd H at1 _ = aG1 at aW1 ar1 ⊢
    have as := ar1
    clear ar1 ah1
    refine ⟨by show 2 ≤ sizeLine; decide, fun au2 ag2 => ⟨1, rfl, by show 2 ≤ sizeLine; decide, fun at2 ah2 => ?_⟩⟩
    have aW2 := wi_tup (K := K) (xs := [.int 0, .int 1]) (i := -1) ag2 ah2 (by decide +kernel) (by decide) rfl
    have ar2 := (same_new (o := .tup [.int 0, .int 1]) ag2).trans (same_new (o := .tup [.ref au2, .int (-1)]) ah2)
    generalize upd (upd aG1 au2 _) at2 _ = aG2 at aW2 ar2 ⊢
    replace aW1 := aW1.same ar2
    have as := as.trans ar2
    clear ar2 ah2 ag2
    refine ⟨by show 3 ≤ sizeLine; decide, fun au3 ag3 => ⟨by show 2 ≤ sizeLine; decide, fun at3 ah3 => ?_⟩⟩
    have aW3 := wi_tup (K := K) (xs := [.str "0", .int 1, .int 1]) (i := 0) ag3 ah3 (by decide +kernel) (by decide) rfl
    have ar3 := (same_new (o := .tup [.str "0", .int 1, .int 1]) ag3).trans (same_new (o := .tup [.ref au3, .int 0]) ah3)
    generalize upd (upd aG2 au3 _) at3 _ = aG3 at aW3 ar3 ⊢
    replace aW1 := aW1.same ar3
    replace aW2 := aW2.same ar3
    have as := as.trans ar3
    clear ar3 ah3 ag3
    refine ⟨by show 3 ≤ sizeLine; decide, fun au4 ag4 => ⟨by show 2 ≤ sizeLine; decide, fun at4 ah4 => ?_⟩⟩
    have aW4 := wi_tup (K := K) (xs := [.int 1, .int 0, .int 1]) (i := 1) ag4 ah4 (by decide +kernel) (by decide) rfl
    have ar4 := (same_new (o := .tup [.int 1, .int 0, .int 1]) ag4).trans (same_new (o := .tup [.ref au4, .int 1]) ah4)
    generalize upd (upd aG3 au4 _) at4 _ = aG4 at aW4 ar4 ⊢
    replace aW1 := aW1.same ar4
    replace aW2 := aW2.same ar4
    replace aW3 := aW3.same ar4
    have as := as.trans ar4
    clear ar4 ah4 ag4
    refine ⟨by show 3 ≤ sizeLine; decide, fun au5 ag5 => ⟨by show 2 ≤ sizeLine; decide, fun at5 ah5 => ?_⟩⟩
    have aW5 := wi_tup (K := K) (xs := [.int 0, .int 1, .int 0]) (i := 2) ag5 ah5 (by decide +kernel) (by decide) rfl
    have ar5 := (same_new (o := .tup [.int 0, .int 1, .int 0]) ag5).trans (same_new (o := .tup [.ref au5, .int 2]) ah5)
    generalize upd (upd aG4 au5 _) at5 _ = aG5 at aW5 ar5 ⊢
    replace aW1 := aW1.same ar5
    replace aW2 := aW2.same ar5
    replace aW3 := aW3.same ar5
    replace aW4 := aW4.same ar5
    have as := as.trans ar5
    clear ar5 ah5 ag5
    refine ⟨by show 3 ≤ sizeLine; decide, fun au6 ag6 => ⟨by show 2 ≤ sizeLine; decide, fun at6 ah6 => ?_⟩⟩
    have aW6 := wi_tup (K := K) (xs := [.int 0, .int 3, .int 2]) (i := 2) ag6 ah6 (by decide +kernel) (by decide) rfl
    have ar6 := (same_new (o := .tup [.int 0, .int 3, .int 2]) ag6).trans (same_new (o := .tup [.ref au6, .int 2]) ah6)
    generalize upd (upd aG5 au6 _) at6 _ = aG6 at aW6 ar6 ⊢
    replace aW1 := aW1.same ar6
    replace aW2 := aW2.same ar6
    replace aW3 := aW3.same ar6
    replace aW4 := aW4.same ar6
    replace aW5 := aW5.same ar6
    have as := as.trans ar6
    clear ar6 ah6 ag6
    refine ⟨by show 3 ≤ sizeLine; decide, fun au7 ag7 => ⟨by show 2 ≤ sizeLine; decide, fun at7 ah7 => ?_⟩⟩
    have aW7 := wi_tup (K := K) (xs := [.int 0, .int 0, .int 1]) (i := 2) ag7 ah7 (by decide +kernel) (by decide) rfl
    have ar7 := (same_new (o := .tup [.int 0, .int 0, .int 1]) ag7).trans (same_new (o := .tup [.ref au7, .int 2]) ah7)
    generalize upd (upd aG6 au7 _) at7 _ = aG7 at aW7 ar7 ⊢
    replace aW1 := aW1.same ar7
    replace aW2 := aW2.same ar7
    replace aW3 := aW3.same ar7
    replace aW4 := aW4.same ar7
    replace aW5 := aW5.same ar7
    replace aW6 := aW6.same ar7
    have as := as.trans ar7
    clear ar7 ah7 ag7
    refine ⟨by show 3 ≤ sizeLine; decide, fun au8 ag8 => ⟨by show 2 ≤ sizeLine; decide, fun at8 ah8 => ?_⟩⟩
    have aW8 := wi_tup (K := K) (xs := [.int 0, .bl true, .int 1]) (i := 1) ag8 ah8 (by decide +kernel) (by decide) rfl
    have ar8 := (same_new (o := .tup [.int 0, .bl true, .int 1]) ag8).trans (same_new (o := .tup [.ref au8, .int 1]) ah8)
    generalize upd (upd aG7 au8 _) at8 _ = aG8 at aW8 ar8 ⊢
    replace aW1 := aW1.same ar8
    replace aW2 := aW2.same ar8
    replace aW3 := aW3.same ar8
    replace aW4 := aW4.same ar8
    replace aW5 := aW5.same ar8
    replace aW6 := aW6.same ar8
    replace aW7 := aW7.same ar8
    have as := as.trans ar8
    clear ar8 ah8 ag8
    refine ⟨1, rfl, by show 3 ≤ sizeLine; decide, fun au9 ag9 => ⟨by show 2 ≤ sizeLine; decide, fun at9 ah9 => ?_⟩⟩
    have aW9 := wi_tup (K := K) (xs := [.int 0, .int 1, .int (-1)]) (i := 2) ag9 ah9 (by decide +kernel) (by decide) rfl
    have ar9 := (same_new (o := .tup [.int 0, .int 1, .int (-1)]) ag9).trans (same_new (o := .tup [.ref au9, .int 2]) ah9)
    generalize upd (upd aG8 au9 _) at9 _ = aG9 at aW9 ar9 ⊢
    replace aW1 := aW1.same ar9
    replace aW2 := aW2.same ar9
    replace aW3 := aW3.same ar9
    replace aW4 := aW4.same ar9
    replace aW5 := aW5.same ar9
    replace aW6 := aW6.same ar9
    replace aW7 := aW7.same ar9
    replace aW8 := aW8.same ar9
    have as := as.trans ar9
    clear ar9 ah9 ag9
    refine ⟨1, rfl, by show 2 ≤ sizeLine; decide, fun at10 ah10 => ?_⟩
    have aW10 := wi_flat (K := K) (v := .non) (i := -1) ah10 rfl rfl
    have ar10 := same_new (o := .tup [.non, .int (-1)]) ah10
    generalize upd aG9 at10 _ = aG10 at aW10 ar10 ⊢
    replace aW1 := aW1.same ar10
    replace aW2 := aW2.same ar10
    replace aW3 := aW3.same ar10
    replace aW4 := aW4.same ar10
    replace aW5 := aW5.same ar10
    replace aW6 := aW6.same ar10
    replace aW7 := aW7.same ar10
    replace aW8 := aW8.same ar10
    replace aW9 := aW9.same ar10
    have as := as.trans ar10
    clear ar10 ah10
    refine ⟨by show 10 ≤ sizeLine; decide, fun lw al => ?_⟩
    have aq := same_new (o := .lst [V.ref at1, V.ref at2, V.ref at3, V.ref at4, V.ref at5, V.ref at6, V.ref at7, V.ref at8, V.ref at9, V.ref at10]) al
    have aL : SqL K (upd aG10 lw (.lst [V.ref at1, V.ref at2, V.ref at3, V.ref at4, V.ref at5, V.ref at6, V.ref at7, V.ref at8, V.ref at9, V.ref at10])) lw [V.ref at1, V.ref at2, V.ref at3, V.ref at4, V.ref at5, V.ref at6, V.ref at7, V.ref at8, V.ref at9, V.ref at10] := .inl (.inl upd_same)
    generalize upd aG10 lw _ = aH at aq aL ⊢
    replace aW1 := aW1.same aq
    replace aW2 := aW2.same aq
    replace aW3 := aW3.same aq
    replace aW4 := aW4.same aq
    replace aW5 := aW5.same aq
    replace aW6 := aW6.same aq
    replace aW7 := aW7.same aq
    replace aW8 := aW8.same aq
    replace aW9 := aW9.same aq
    replace aW10 := aW10.same aq
    have as := as.trans aq
    clear aq al
    have aA : ∀ x ∈ [V.ref at1, V.ref at2, V.ref at3, V.ref at4, V.ref at5, V.ref at6, V.ref at7, V.ref at8, V.ref at9, V.ref at10], WrongI K aH x := by
      intro x hx
      rcases List.mem_cons.mp hx with e | hx
      · rw [e]; exact aW1
      rcases List.mem_cons.mp hx with e | hx
      · rw [e]; exact aW2
      rcases List.mem_cons.mp hx with e | hx
      · rw [e]; exact aW3
      rcases List.mem_cons.mp hx with e | hx
      · rw [e]; exact aW4
      rcases List.mem_cons.mp hx with e | hx
      · rw [e]; exact aW5
      rcases List.mem_cons.mp hx with e | hx
      · rw [e]; exact aW6
      rcases List.mem_cons.mp hx with e | hx
      · rw [e]; exact aW7
      rcases List.mem_cons.mp hx with e | hx
      · rw [e]; exact aW8
      rcases List.mem_cons.mp hx with e | hx
      · rw [e]; exact aW9
      rw [List.mem_singleton.mp hx]; exact aW10
    have aN : [V.ref at1, V.ref at2, V.ref at3, V.ref at4, V.ref at5, V.ref at6, V.ref at7, V.ref at8, V.ref at9, V.ref at10].length = 10 := rfl
    generalize [V.ref at1, V.ref at2, V.ref at3, V.ref at4, V.ref at5, V.ref at6, V.ref at7, V.ref at8, V.ref at9, V.ref at10] = ax at aL aA aN
    clear aW1 aW2 aW3 aW4 aW5 aW6 aW7 aW8 aW9 aW10
    walk_at "u"
    have sp0 := sml_mono sf (n := 390) (by decide)
    replace hp := st_same as hp
    have hsame : Same H aH := as
    refine ⟨_, rfl, .inl ⟨_, rfl, _, _, rfl, rfl, (by show (0 : Int) < 10; decide), _, rfl, _, _, rfl, rfl, divW (by decide) (b := 2) (by decide) (by decide), .inl ⟨_, rfl, _, _, rfl, rfl, (by show (0 : Int) < 10; decide), by show 2 ≤ sizeLine; decide, fun m hm => ⟨m, rfl, ⟨_, .inl (.inl upd_same)⟩, for_it (walk_list (xs := [V.int (way % 10), V.int (way / 3 % 10)])) (fun i σ H' => Same aH H' ∧ SqL K H' m [V.int (way % 10), V.int (way / 3 % 10)] ∧ ∃ y3 y4, σ = [some (.ref p), some (.int way), some (.ref lw), y3, y4, none, none]) ⟨same_new hm, .inl (.inl upd_same), _, _, rfl⟩ (fun i σ H' _ pp => pp.2.1) (fun i x σ H1 H2 hi pp y => ?_) (fun σ H1 pp => ?_)⟩⟩⟩⟩
    · obtain ⟨s1, hm1, y3, y4, rfl⟩ := pp
      obtain ⟨rfl, f2⟩ := y
      have hi2 : i < 2 := hi
      obtain ⟨n, hn, rfl⟩ : ∃ n : Nat, n < 10 ∧ x = .int (n : Int) := by
        match i, hi2, f2 with
        | 0, _, f => exact ⟨(way % 10).toNat, by omega, by rw [← Option.some.inj f]; congr 1; omega⟩
        | 1, _, f => exact ⟨(way / 3 % 10).toNat, by omega, by rw [← Option.some.inj f]; congr 1; omega⟩
      have hna : n < ax.length := by omega
      have en := List.getElem?_eq_getElem hna
      obtain ⟨t, wv, o, z, ex, hT, rw_, ew⟩ := aA _ (List.getElem_mem hna)
      rw [ex] at en
      walk_at "u"
      refine t_for (H1 := H2) (walk_range (lo := 0) (n := 7)) (fun R r => by
        walk_at "u"
        exact ⟨7, rfl, by decide, by decide, r⟩) (fun i σ H' => Same H2 H' ∧ ∃ y4, σ = [some (.ref p), some (.int way), some (.ref lw), some (.int (n : Int)), y4, none, none]) ⟨Same.refl _, _, rfl⟩ (fun _ _ _ _ _ => trivial) (fun i x σ H3 H4 hi pp y => ?_) (fun σ H3 pp => ?_)
      · obtain ⟨s2, y4, rfl⟩ := pp
        obtain ⟨rfl, rfl⟩ := y
        have s3 := s1.trans s2
        walk_at "u"
        have e0 : (0 : Int) + (i : Nat) = (i : Int) := by omega
        rw [e0]
        refine ⟨_, rfl, _, rfl, _, rfl, lw, ax, _, _, rfl, rfl, s3.seq aL, atI_nat en, t, _, 0, wv, rfl, rfl, st_same s3 hT, atI_nat (j := 0) rfl, _, _, _, _, rfl, call1 (rw_.same s3) ew i hi, fun v H5 s5 dv => ?_⟩
        have s6 := s3.trans s5
        refine ⟨_, rfl, _, rfl, lw, ax, _, _, rfl, rfl, s6.seq aL, atI_nat en, t, _, 1, _, rfl, rfl, st_same s6 hT, atI_nat (j := 1) rfl, by show 4 ≤ sizeLine; decide, fun t2 ht2 => ?_⟩
        exact r_just (dp_same (same_new ht2) dv) (dp_row (.int _)) (okD_row (okD_i _).1 (by simp [nodes])) fun H6 s7 => ⟨_, rfl, iteF ⟨s2.trans ((s5.trans (same_new ht2)).trans s7), _, rfl⟩⟩
      · obtain ⟨s2, y4, rfl⟩ := pp
        have s3 := s1.trans s2
        walk_at "u"
        refine t_for (H1 := H3) (walk_range (lo := 0) (n := 4)) (fun R r => by
          walk_at "u"
          exact ⟨4, rfl, by decide, by decide, r⟩) (fun i σ H' => Same H3 H' ∧ ∃ y4, σ = [some (.ref p), some (.int way), some (.ref lw), some (.int (n : Int)), y4, none, none]) ⟨Same.refl _, _, rfl⟩ (fun _ _ _ _ _ => trivial) (fun i x σ H4 H5 hi pp y => ?_) (fun σ H4 pp => ?_)
        · obtain ⟨s4, y4, rfl⟩ := pp
          obtain ⟨rfl, rfl⟩ := y
          have s5 := s3.trans s4
          walk_at "u"
          have e0 : (0 : Int) + (i : Nat) = (i : Int) := by omega
          rw [e0]
          refine ⟨_, rfl, _, rfl, _, rfl, _, rfl, lw, ax, _, _, rfl, rfl, s5.seq aL, atI_nat en, t, _, 0, wv, rfl, rfl, st_same s5 hT, atI_nat (j := 0) rfl, _, _, _, _, rfl, call2 (st_same s5 hp) fo (rw_.same s5) ew i hi, fun v H6 s6 dv => ?_⟩
          have s7 := s5.trans s6
          refine ⟨2, rfl, _, rfl, _, rfl, lw, ax, _, _, rfl, rfl, s7.seq aL, atI_nat en, t, _, 1, _, rfl, rfl, st_same s7 hT, atI_nat (j := 1) rfl, by show 2 ≤ sizeLine; decide, fun t3 ht3 => ⟨by show 4 ≤ sizeLine; decide, fun t2 ht2 => ?_⟩⟩
          exact r_just (dp_same ((same_new ht3).trans (same_new ht2)) dv) (dp_row (dp_same (same_new ht2) (.tup (SqT.of upd_same) (.cons (.int _) (.cons (.int _) .nil))))) (okD_row okD_2.1 okD_2.2) fun H8 s8 => ⟨_, rfl, iteF ⟨s4.trans ((s6.trans ((same_new ht3).trans (same_new ht2))).trans s8), _, rfl⟩⟩
        · obtain ⟨s4, y4, rfl⟩ := pp
          exact ⟨s3.trans s4, (s2.trans s4).seq hm1, _, _, rfl⟩
    obtain ⟨s1, _, y3, y4, rfl⟩ := pp
    replace hp := st_same s1 hp
    have sH1 := hsame.trans s1
    clear hm aL aA aN as hsame
    walk_at "u"
    refine ⟨fun b' H' => b' = false ∧ Same H1 H', ?_, ?_⟩
    · refine ⟨_, rfl, _, _, _, _, rfl, callH hp fo rfl rfl, fun v H2 s2 dv => ⟨by show 4 ≤ sizeLine; decide, fun t2 ht2 => ?_⟩⟩
      refine r_just (dp_same (same_new ht2) dv) (dp_num .non) (okD_num (okD_flat (v := .non) rfl).1 (okD_flat (v := .non) rfl).2) fun H3 s3 => ⟨_, rfl, iteF ?_⟩
      have s4 := (s2.trans (same_new ht2)).trans s3
      refine ⟨_, rfl, _, _, _, _, rfl, callH (st_same s4 hp) fo rfl rfl, fun v H4 s5 dv => ⟨by show 4 ≤ sizeLine; decide, fun t3 ht3 => ?_⟩⟩
      exact r_just (dp_same (same_new ht3) dv) (dp_num (.bl _)) (okD_num (okD_flat (v := .bl true) rfl).1 (okD_flat (v := .bl true) rfl).2) fun H5 s6 => ⟨_, rfl, rfl, ((s4.trans s5).trans (same_new ht3)).trans s6⟩
    rintro _ H2 ⟨rfl, s2⟩
    replace hp := st_same s2 hp
    replace sH1 := sH1.trans s2
    clear s1 s2
    refine iteF ?_
    walk_at "u"
    have f2 : flat (.str "2") = true := by decide +kernel
    refine ⟨1, rfl, by show 5 ≤ sizeLine; decide, fun m hm => ⟨m, rfl, ⟨_, .inl (.inl upd_same)⟩, for_it (walk_list (xs := [V.int 0, .int (-1), .bl true, .str "2", .non])) (fun i σ H' => Same H2 H' ∧ SqL K H' m [V.int 0, .int (-1), .bl true, .str "2", .non] ∧ ∃ y5, σ = [some (.ref p), some (.int way), some (.ref lw), y3, y4, y5, none]) ⟨same_new hm, .inl (.inl upd_same), _, rfl⟩ (fun i σ H' _ pp => pp.2.1) (fun i x σ H3 H4 hi pp y => ?_) (fun σ H3 pp => ?_)⟩⟩
    · obtain ⟨s3, hm3, y5, rfl⟩ := pp
      obtain ⟨rfl, g2⟩ := y
      have hi5 : i < 5 := hi
      obtain ⟨fx, cx⟩ : flat x = true ∧ checkN x 1 = .num (toD x) := by
        match i, hi5, g2 with
        | 0, _, f => rw [← Option.some.inj f]; exact ⟨rfl, rfl⟩
        | 1, _, f => rw [← Option.some.inj f]; exact ⟨rfl, rfl⟩
        | 2, _, f => rw [← Option.some.inj f]; exact ⟨rfl, rfl⟩
        | 3, _, f => rw [← Option.some.inj f]; exact ⟨f2, rfl⟩
        | 4, _, f => rw [← Option.some.inj f]; exact ⟨rfl, rfl⟩
      obtain ⟨ox, nx⟩ := okD_flat fx
      walk_at "u"
      refine ⟨_, rfl, _, rfl, _, _, _, _, rfl, callT (st_same s3 hp) fo fx cx, fun v H5 s5 dv => ⟨_, rfl, by show 4 ≤ sizeLine; decide, fun t2 ht2 => ?_⟩⟩
      refine r_just (dp_same (same_new ht2) dv) (dp_num (dp_flat fx)) (okD_num ox nx) fun H6 s6 => ⟨_, rfl, iteF ?_⟩
      have s7 := (s5.trans (same_new ht2)).trans s6
      refine ⟨_, rfl, _, _, _, _, rfl, callN fx cx, fun v H7 s8 dv => ⟨_, rfl, by show 4 ≤ sizeLine; decide, fun t3 ht3 => ?_⟩⟩
      refine r_just (dp_same (same_new ht3) dv) (dp_num (dp_flat fx)) (okD_num ox nx) fun H8 s9 => ⟨_, rfl, iteF ?_⟩
      have s10 := ((s7.trans s8).trans (same_new ht3)).trans s9
      exact ⟨s3.trans s10, s10.seq hm3, _, rfl⟩
    obtain ⟨s3, _, y5, rfl⟩ := pp
    replace hp := st_same s3 hp
    replace sH1 := sH1.trans s3
    clear s3 hm
    walk_at "u"
    refine ⟨Nat.zero_le _, fun cu1 cg1 => ⟨1, rfl, by show 2 ≤ sizeLine; decide, fun ct1 ch1 => ?_⟩⟩
    have cW1 := oi_tup (K := K) (xs := []) (i := -1) cg1 ch1 (by decide +kernel) (by decide) rfl
    have cr1 := (same_new (o := .tup []) cg1).trans (same_new (o := .tup [.ref cu1, .int (-1)]) ch1)
    generalize upd (upd _ cu1 _) ct1 _ = cG1 at cW1 cr1 ⊢
    have cs := cr1
    clear cr1 ch1 cg1
    refine ⟨1, rfl, by show 2 ≤ sizeLine; decide, fun ct2 ch2 => ?_⟩
    have cW2 := oi_flat (K := K) (v := .int 7) (i := -1) ch2 rfl rfl
    have cr2 := same_new (o := .tup [.int 7, .int (-1)]) ch2
    generalize upd cG1 ct2 _ = cG2 at cW2 cr2 ⊢
    replace cW1 := cW1.same cr2
    have cs := cs.trans cr2
    clear cr2 ch2
    refine ⟨by show 3 ≤ sizeLine; decide, fun cu3 cg3 => ⟨by show 2 ≤ sizeLine; decide, fun ct3 ch3 => ?_⟩⟩
    have cW3 := oi_tup (K := K) (xs := [.int 1, .str "2", .non]) (i := 1) cg3 ch3 (by decide +kernel) (by decide) rfl
    have cr3 := (same_new (o := .tup [.int 1, .str "2", .non]) cg3).trans (same_new (o := .tup [.ref cu3, .int 1]) ch3)
    generalize upd (upd cG2 cu3 _) ct3 _ = cG3 at cW3 cr3 ⊢
    replace cW1 := cW1.same cr3
    replace cW2 := cW2.same cr3
    have cs := cs.trans cr3
    clear cr3 ch3 cg3
    refine ⟨by show 1 ≤ sizeLine; decide, fun cu4 cg4 => ⟨by show 2 ≤ sizeLine; decide, fun ct4 ch4 => ?_⟩⟩
    have cW4 := oi_tup (K := K) (xs := [.bl true]) (i := 0) cg4 ch4 (by decide +kernel) (by decide) rfl
    have cr4 := (same_new (o := .tup [.bl true]) cg4).trans (same_new (o := .tup [.ref cu4, .int 0]) ch4)
    generalize upd (upd cG3 cu4 _) ct4 _ = cG4 at cW4 cr4 ⊢
    replace cW1 := cW1.same cr4
    replace cW2 := cW2.same cr4
    replace cW3 := cW3.same cr4
    have cs := cs.trans cr4
    clear cr4 ch4 cg4
    refine ⟨by show 4 ≤ sizeLine; decide, fun lo cl => ?_⟩
    have cq := same_new (o := .lst [V.ref ct1, V.ref ct2, V.ref ct3, V.ref ct4]) cl
    have cL : SqL K (upd cG4 lo (.lst [V.ref ct1, V.ref ct2, V.ref ct3, V.ref ct4])) lo [V.ref ct1, V.ref ct2, V.ref ct3, V.ref ct4] := .inl (.inl upd_same)
    generalize upd cG4 lo _ = cH at cq cL ⊢
    replace cW1 := cW1.same cq
    replace cW2 := cW2.same cq
    replace cW3 := cW3.same cq
    replace cW4 := cW4.same cq
    have cs := cs.trans cq
    clear cq cl
    have cA : ∀ x ∈ [V.ref ct1, V.ref ct2, V.ref ct3, V.ref ct4], OfI K cH x := by
      intro x hx
      rcases List.mem_cons.mp hx with e | hx
      · rw [e]; exact cW1
      rcases List.mem_cons.mp hx with e | hx
      · rw [e]; exact cW2
      rcases List.mem_cons.mp hx with e | hx
      · rw [e]; exact cW3
      rw [List.mem_singleton.mp hx]; exact cW4
    have cN : [V.ref ct1, V.ref ct2, V.ref ct3, V.ref ct4].length = 4 := rfl
    generalize [V.ref ct1, V.ref ct2, V.ref ct3, V.ref ct4] = cx at cL cA cN
    clear cW1 cW2 cW3 cW4
    replace hp := st_same cs hp
    replace sH1 := sH1.trans cs
    refine ⟨lo, rfl, ⟨_, cL⟩, for_it (walk_list (xs := cx)) (fun i σ H' => Same cH H' ∧ ∃ y6, σ = [some (.ref p), some (.int way), some (.ref lw), y3, y4, y5, y6]) ⟨Same.refl _, _, rfl⟩ (fun i σ H' _ pp => pp.1.seq cL) (fun i x σ H4 H5 hi pp y => ?_) (fun σ H4 pp => ?_)⟩
    · obtain ⟨s3, y6, rfl⟩ := pp
      obtain ⟨rfl, g2⟩ := y
      obtain ⟨t, wv, o, z, rfl, hT, rw_, ew⟩ := cA x (List.mem_of_getElem? g2)
      walk_at "u"
      refine ⟨_, rfl, t, _, 0, wv, rfl, rfl, st_same s3 hT, atI_nat (j := 0) rfl, _, _, _, _, rfl, callO (rw_.same s3) ew, fun v H6 s6 dv => ?_⟩
      have s7 := s3.trans s6
      refine ⟨_, rfl, t, _, 1, _, rfl, rfl, st_same s7 hT, atI_nat (j := 1) rfl, by show 4 ≤ sizeLine; decide, fun t2 ht2 => ?_⟩
      exact r_just (dp_same (same_new ht2) dv) (dp_row (.int _)) (okD_row (okD_i _).1 (by simp [nodes])) fun H7 s8 => ⟨_, rfl, iteF ⟨(s7.trans (same_new ht2)).trans s8, _, rfl⟩⟩
    · obtain ⟨s3, y6, rfl⟩ := pp
      walk_at "u"
      refine ⟨_, rfl, _, _, _, _, rfl, callL (st_same s3 hp) fo sp0, fun v H5 s5 dv => ⟨by show 1 ≤ sizeLine; decide, fun t2 ht2 => ?_⟩⟩
      refine r_just (dp_same (same_new ht2) dv) (d := refD (.ok ())) (.tup (SqT.of upd_same) (.cons (.str _) .nil)) ⟨by simp only [refD, okD, okAll, Bool.and_true]; decide +kernel, by simp [refD, nodes, nodesAll]⟩ fun H6 s6 => ?_
      exact q _ (sH1.trans (((s3.trans s5).trans (same_new ht2)).trans s6))
end
end K68

namespace K68
open PySem PySem.Spec PyProof.Rows L2 KR KK
local macro_rules | `(tactic| walk_at "u") => `(tactic| try dsimp only [tSeq, tCutS, tCutE, tCutT, tIfS, tRet, tRetN, tNext, tBreak, tCont, tDrop, tAsg, tPar, gName, gTup, gCons, gNil, tOr, tAnd, tNot, tB, tTest, tCB, tCons, tNil, tC, tVar, tAndV, tOrV, tNotV, tOp, tUn, tIf, tIsN, tNotN, tTup, tLst, tCall, tCallS, tBM, tBM0, tSl, tPart, tNoPart, tYes, iList, iTup, iSeq, iStr, iRng1, iRng2, iEnumA, rI, rI0, rU, cxOf, Cx.nox, Cx.wish, L2.start, List.map, List.set, Nat.repeat, List.length_cons, List.length_nil, List.replicate, List.nil_append, List.cons_append, List.append_nil, Nat.reduceAdd, Nat.reduceSub, E0, tBad, tTr])

theorem k_at {r : Int} (h0 : 0 ≤ r) (h1 : r < 4) : ∃ n : Int, 1 ≤ n ∧ n.natAbs < 2 ^ 70 ∧ atI [V.int 1, .int 2, .int 7, .int ((10 : Int) ^ (20 : Int).toNat)] r = some (.int n) := by
  obtain ⟨m, rfl⟩ : ∃ m : Nat, r = (m : Int) := ⟨r.toNat, by omega⟩
  have hm : m < 4 := by omega
  have key : ∀ m : Nat, m < 4 → ∃ n : Int, 1 ≤ n ∧ n.natAbs < 2 ^ 70 ∧ [V.int 1, .int 2, .int 7, .int ((10 : Int) ^ (20 : Int).toNat)][m]? = some (.int n) := by
    intro m hm
    match m, hm with
    | 0, _ => exact ⟨_, by decide, by decide +kernel, rfl⟩
    | 1, _ => exact ⟨_, by decide, by decide +kernel, rfl⟩
    | 2, _ => exact ⟨_, by decide, by decide +kernel, rfl⟩
    | 3, _ => exact ⟨_, by decide +kernel, by decide +kernel, rfl⟩
  obtain ⟨n, h2, h3, e⟩ := key m hm
  exact ⟨n, h2, h3, atI_nat e⟩
theorem fenL_sb {K : PySem.W.Frag} {H H' : Hp} {d : Addr} {es : List V} {fs : List Fen} (hd : IntL H d) (e : SameB d H H') (h : Paired (FenL K H) es fs) : Paired (FenL K H') es fs := L2.Paired.mapP h fun _ _ ⟨a, r, z⟩ => ⟨a, r, st_sb hd e z⟩
theorem fenL_b {K : PySem.W.Frag} {H : Hp} {D : Addr} {ds : List V} {o : HO} {es : List V} {fs : List Fen} (hd : H D = some (.lst ds)) (h : Paired (FenL K H) es fs) : Paired (FenL K (upd H D o)) es fs := L2.Paired.mapP h fun _ _ ⟨a, r, z⟩ => ⟨a, r, st_b hd SameB.upd z⟩
theorem fenL_same {K : PySem.W.Frag} {H H' : Hp} {es : List V} {fs : List Fen} (e : Same H H') (h : Paired (FenL K H) es fs) : Paired (FenL K H') es fs := L2.Paired.mapP h fun _ _ z => z.same e
section
variable {P : Program} {w : World} {K : PySem.W.Frag} {mg : Str → Option Value} {base : Heap}
def spLaw (K : PySem.W.Frag) : Sp := fun vs H Q _ => ∃ (a : Addr) (ns : List Int), vs = [.ref a] ∧ SqL K H a (ns.map V.int) ∧ ns.length ≤ 63 ∧ ∀ H', Q (.bl true) H'
theorem ok_law {f : Addr} {fd : FuncData} (B : Bi mg) (F : Fun K "law" "law" s_law f fd)
    (Claw_draws : Cal P w K mg base CX0 1 "_law_draws" p_law_draws (spDraws K)) (Claw_take : Cal P w K mg base CX0 1 "_law_take" p_law_take (spTake K)) (Claw_fence_drawn : Cal P w K mg base CX0 2 "_law_fence_drawn" p_law_fence_drawn (spDrawn K))
    (Claw_asked : Cal P w K mg base CX0 6 "_law_asked" p_law_asked (spAsked K)) (Claw_refuses : Cal P w K mg base CX0 7 "_law_refuses" p_law_refuses (spRefuses K)) : FnOk P w K mg base CX0 8 f fd p_law (spLaw K) := by
  refine F.ok sc_law (fun vs H Q E h => ?_) (fun cdv A outer s H vs Q E hr h => ?_)
  · obtain ⟨a, ns, rfl, _⟩ := h
    rfl
  · obtain ⟨a, ns, rfl, hL, hl, q⟩ := h
    refine ⟨_, (pss_cons (ps_set (i := 1) sc_law.nd rfl (by first | exact .inl rfl | exact .inr rfl) (pe_call Claw_draws.G (hr.mono (by decide)) (by rfl) Claw_draws.g Claw_draws.kp Claw_draws.b .nil pass0 (pa_cons (pv 0) pa_nil)))
      (pss_cons (ps_set (i := 2) sc_law.nd rfl (by first | exact .inl rfl | exact .inr rfl) (pe_lst pa_nil))
      (pss_cons (ps_for PassesOwn.never rfl (pi_range1 rfl B.range (pa_cons pe_int pa_nil)) (pg_name (i := 3) sc_law.nd rfl (by first | exact .inl rfl | exact .inr rfl))
      (pss_one (ps_expr (pe_bm PySem.F.plainAttrs_list PySem.F.slot_list_append PySem.F.type_list_append mt_append (pv 2) (pa_cons (pe_call Claw_fence_drawn.G (hr.mono (by decide)) (by rfl) Claw_fence_drawn.g Claw_fence_drawn.kp Claw_fence_drawn.b .nil pass0 (pa_cons (pv 1) (pa_cons (pv 2) pa_nil))) pa_nil)))))
      (pss_cons (ps_set (i := 4) sc_law.nd rfl (by first | exact .inl rfl | exact .inr rfl) (pe_op op_add pe_int (pe_call Claw_take.G (hr.mono (by decide)) (by rfl) Claw_take.g Claw_take.kp Claw_take.b .nil pass0 (pa_cons (pv 1) (pa_cons pe_int pa_nil)))))
      (pss_cons (ps_set (i := 5) sc_law.nd rfl (by first | exact .inl rfl | exact .inr rfl) (pe_ix (ix_listK (K := K) rfl) (pe_lst (pa_cons pe_int (pa_cons pe_int (pa_cons pe_int (pa_cons (pe_op op_pow pe_int pe_int) pa_nil))))) (pe_call Claw_take.G (hr.mono (by decide)) (by rfl) Claw_take.g Claw_take.kp Claw_take.b .nil pass0 (pa_cons (pv 1) (pa_cons pe_int pa_nil))) (fun _ _ => rfl)))
      (pss_cons (ps_set (i := 6) sc_law.nd rfl (by first | exact .inl rfl | exact .inr rfl) (pe_lst (pa_cons (pe_call Claw_take.G (hr.mono (by decide)) (by rfl) Claw_take.g Claw_take.kp Claw_take.b .nil pass0 (pa_cons (pv 1) (pa_cons pe_int pa_nil))) (pa_cons (pe_call Claw_take.G (hr.mono (by decide)) (by rfl) Claw_take.g Claw_take.kp Claw_take.b .nil pass0 (pa_cons (pv 1) (pa_cons pe_int pa_nil))) pa_nil))))
      (pss_cons (ps_set (i := 7) sc_law.nd rfl (by first | exact .inl rfl | exact .inr rfl) (pe_call Claw_take.G (hr.mono (by decide)) (by rfl) Claw_take.g Claw_take.kp Claw_take.b .nil pass0 (pa_cons (pv 1) (pa_cons pe_int pa_nil))))
      (pss_cons (ps_set (i := 8) sc_law.nd rfl (by first | exact .inl rfl | exact .inr rfl) pe_bl)
      (pss_cutS (ps_try_thru0 (pss_one (ps_set (i := 8) sc_law.nd rfl (by first | exact .inl rfl | exact .inr rfl) (pe_call Claw_asked.G (hr.mono (by decide)) (by rfl) Claw_asked.g Claw_asked.kp Claw_asked.b .nil pass0 (pa_cons (pv 2) (pa_cons (pv 4) (pa_cons (pv 5) (pa_cons (pv 6) pa_nil))))))))
      (pss_one (ps_ret (pe_cut (pe_and (pv 8) (pe_one (pe_call Claw_refuses.G (hr.mono (by decide)) (by rfl) Claw_refuses.g Claw_refuses.kp Claw_refuses.b .nil pass0 (pa_cons (pe_ix (ix_listK (K := K) rfl) (pv 2) pe_int (fun _ _ => rfl)) (pa_cons (pv 7) pa_nil))))))))))))))))), ?_⟩
    walk_at "u"
    refine ⟨_, rfl, a, ns, rfl, hL, hl, fun d H1 s1 hd1 => ⟨Nat.zero_le _, fun D hD => ?_⟩⟩
    have nde : d ≠ D := fun z => by
      obtain ⟨ns, e⟩ := hd1
      rw [z, hD] at e
      cases e
    walk_at "u"
    refine t_for (walk_range (lo := 0) (n := 3)) (fun R r => by
      walk_at "u"
      exact ⟨3, rfl, by decide, by decide, r⟩) (fun i σ H' => IntL H' d ∧ ∃ es fs y3, σ = [some (.ref a), some (.ref d), some (.ref D), y3, none, none, none, none, none] ∧ H' D = some (.lst es) ∧ Paired (FenL K H') es fs ∧ fs.length = i ∧ ∀ f ∈ fs, Dr fs.length f)
      ⟨intL_ne nde hd1, [], [], _, rfl, upd_same, .nil, rfl, fun f hf => by cases hf⟩ (fun _ _ _ _ _ => trivial) (fun i x σ H2 H3 hi pp y => ?_) (fun σ H2 pp => ?_)
    · obtain ⟨rfl, rfl⟩ := y
      obtain ⟨hd2, es, fs, y3, rfl, eD, fr, lf, hf⟩ := pp
      walk_at "u"
      refine ⟨_, rfl, .inl ⟨rfl, _, .inl (.inl eD)⟩, _, rfl, _, rfl, d, D, es, fs, rfl, nde, hd2, eD, fr, by omega, hf, fun p H4 g sb hd4 hp dg => ?_⟩
      have eD4 : H4 D = some (.lst es) := sb _ _ (Ne.symm nde) eD
      have hle := Paired.length fr
      refine ⟨D, es, .ref p, rfl, rfl, eD4, small1000 (by omega), intL_ne nde hd4, es ++ [.ref p], fs ++ [g], _, rfl, upd_same, fenL_b eD4 (pair_cat (fenL_sb hd2 sb fr) (.cons ⟨p, rfl, hp⟩ .nil)), by rw [List.length_append, lf]; rfl, fun f hff => ?_⟩
      rw [List.length_append, List.length_singleton]
      rcases List.mem_append.mp hff with z | z
      · exact (hf f z).mono (Nat.le_succ _)
      · rw [List.mem_singleton.mp z]; exact dg
    · obtain ⟨hd2, es, fs, y3, rfl, eD, fr, lf, hf⟩ := pp
      have lf3 : fs.length = 3 := lf
      rw [lf3] at hf
      walk_at "u"
      refine ⟨_, rfl, d, 5, rfl, hd2, by decide, fun j H3 j0 j5 s3 hd3 => ⟨_, _, rfl, rfl, ?_⟩⟩
      walk_at "u"
      refine ⟨10, 20, rfl, rfl, ⟨by decide, by decide, by decide⟩, by show 4 ≤ sizeLine; decide, fun l hl => ⟨_, rfl, d, 4, rfl, intL_same (same_new hl) hd3, by decide, fun r H4 r0 r1 s4 hd4 => ?_⟩⟩
      obtain ⟨k, k1, zk, ek⟩ := k_at r0 r1
      have nl : l ≠ d := fun z => by
        obtain ⟨ns, e⟩ := hd3
        rw [z, e] at hl
        cases hl
      refine ⟨l, _, r, _, rfl, rfl, .inl (.inl (s4 _ _ nl upd_same)), ek, ?_⟩
      have sb4 := (s3.trans (SameB.of (same_new hl))).trans s4
      clear ek hl s4 s3 nl r0 r1
      walk_at "u"
      refine ⟨_, rfl, d, 30, rfl, hd4, by decide, fun x0 H5 x00 x01 s5 hd5 => ⟨_, rfl, d, 30, rfl, hd5, by decide, fun x1 H6 x10 x11 s6 hd6 => ⟨by show 2 ≤ sizeLine; decide, fun lp hlp => ?_⟩⟩⟩
      have nlp : lp ≠ d := fun z => by
        obtain ⟨ns, e⟩ := hd6
        rw [z, e] at hlp
        cases hlp
      walk_at "u"
      refine ⟨_, rfl, d, 30, rfl, intL_same (same_new hlp) hd6, by decide, fun way H7 w0 w1 s7 hd7 => ?_⟩
      have sb7 := (((sb4.trans s5).trans s6).trans (SameB.of (same_new hlp))).trans s7
      have hP : SqL K H7 lp [.int x0, .int x1] := .inl (.inl (s7 _ _ nlp upd_same))
      have eD7 : H7 D = some (.lst es) := sb7 _ _ (Ne.symm nde) eD
      have fr7 := fenL_sb hd2 sb7 fr
      have hfs : ∀ f ∈ fs, f.ok ∧ f.sml 140 := fun f h => ⟨(hf f h).1, (hf f h).sml⟩
      clear sb4 s5 s6 s7 hlp sb7 fr hd2 hd3 hd4 hd5 hd6 hd7 eD
      walk_at "u"
      refine ⟨fun σ' H' => Same H7 H' ∧ σ' = [some (.ref a), some (.ref d), some (.ref D), y3, some (.int (1 + j)), some (.int k), some (.ref lp), some (.int way), some (.bl true)], ?_, ?_⟩
      · exact ⟨_, rfl, _, rfl, _, rfl, _, rfl, D, lp, es, fs, 1 + j, k, x0, x1, rfl, .inl (.inl eD7), fr7, lf3, hfs, hP, ⟨x00, x01⟩, ⟨x10, x11⟩, ⟨by omega, by omega⟩, ⟨k1, zk⟩, fun H8 s8 => ⟨s8, rfl⟩⟩
      · rintro _ H8 ⟨s8, rfl⟩
        have hle := Paired.length fr7
        have h0 : 0 < es.length := by omega
        obtain ⟨g, eg, p, ep, hp⟩ := pair_at fr7 (List.getElem?_eq_getElem h0)
        obtain ⟨go, gs⟩ := hfs g (List.mem_of_getElem? eg)
        walk_at "u"
        refine ⟨fun v H' => v = .bl true, ?_, ?_⟩
        · exact ⟨_, rfl, true, rfl, iteT ⟨_, rfl, D, es, 0, _, rfl, rfl, .inl (.inl (s8 _ _ eD7)), atI_nat (j := 0) (by rw [List.getElem?_eq_getElem h0, ep]), _, rfl, p, g, way, rfl, st_same s8 hp, go, gs, w0, fun _ _ => rfl⟩⟩
        · rintro _ H9 rfl
          exact q _
end
end K68

namespace K68
open PySem PySem.Spec PyProof.Rows L2 KR KK
theorem exm_self {K : PySem.W.Frag} {S : Addr} (h1 : PySem.W.subIn K (.ref S) (.type "BaseException") = some true) (h2 : PySem.W.isClsIn K S = true) (h3 : PySem.W.typeIn K (.ref S) = some (.type "type")) (h4 : PySem.W.subIn K (.ref S) (.ref S) = some true) :
    PySem.W.exmOne K (.ref S) (.ref S) = some true := by
  have e1 : (PySem.W.subIn K (.ref S) (.type "BaseException") == some true) = true := by rw [h1] <;> rfl
  have e2 : ((PySem.W.clsIn K S).isSome && PySem.W.typeIn K (.ref S) == some (.type "type")) = true := by
    have h2' : (PySem.W.clsIn K S).isSome = true := h2
    rw [h2', h3] <;> rfl
  show (if (PySem.W.subIn K (.ref S) (.type "BaseException") == some true) = true then (if ((PySem.W.clsIn K S).isSome && PySem.W.typeIn K (.ref S) == some (.type "type")) = true then PySem.W.subIn K (.ref S) (.ref S) else none) else none) = some true
  rw [if_pos e1, if_pos e2]
  exact h4
theorem exm_b {K : PySem.W.Frag} {S C : Addr} {b : Bool} (h1 : PySem.W.subIn K (.ref S) (.type "BaseException") = some true) (h2 : PySem.W.isClsIn K S = true) (h3 : PySem.W.typeIn K (.ref S) = some (.type "type")) (h4 : PySem.W.subIn K (.ref C) (.ref S) = some b) : PySem.W.exmOne K (.ref C) (.ref S) = some b := by
  have e1 : (PySem.W.subIn K (.ref S) (.type "BaseException") == some true) = true := by rw [h1] <;> rfl
  have e2 : ((PySem.W.clsIn K S).isSome && PySem.W.typeIn K (.ref S) == some (.type "type")) = true := by
    have h2' : (PySem.W.clsIn K S).isSome = true := h2
    rw [h2', h3] <;> rfl
  show (if (PySem.W.subIn K (.ref S) (.type "BaseException") == some true) = true then (if ((PySem.W.clsIn K S).isSome && PySem.W.typeIn K (.ref S) == some (.type "type")) = true then PySem.W.subIn K (.ref C) (.ref S) else none) else none) = some b
  rw [if_pos e1, if_pos e2]
  exact h4
theorem kit_c {K : PySem.W.Frag} {S C : Addr} {b : Bool} (h2 : PySem.W.isClsIn K S = true) (h3 : PySem.W.typeIn K (.ref S) = some (.type "type")) (h4 : PySem.W.subIn K (.ref C) (.ref S) = some b) : PySem.W.kitCls K (.ref C) (.ref S) = some b := by
  have e2 : ((PySem.W.clsIn K S).isSome && PySem.W.typeIn K (.ref S) == some (.type "type")) = true := by
    have h2' : (PySem.W.clsIn K S).isSome = true := h2
    rw [h2', h3] <;> rfl
  show (if ((PySem.W.clsIn K S).isSome && PySem.W.typeIn K (.ref S) == some (.type "type")) = true then PySem.W.subIn K (.ref C) (.ref S) else none) = some b
  rw [if_pos e2]
  exact h4
theorem kit_t {K : PySem.W.Frag} {S C : Addr} (h2 : PySem.W.isClsIn K S = true) (h3 : PySem.W.typeIn K (.ref S) = some (.type "type")) (h4 : PySem.W.subIn K (.ref C) (.ref S) = some true) : PySem.W.kitOne K (.ref C) (.ref S) = some true := by
  unfold PySem.W.kitOne
  split
  · rfl
  · exact kit_c h2 h3 h4
theorem kit_f {K : PySem.W.Frag} {S C : Addr} (h2 : PySem.W.isClsIn K S = true) (h3 : PySem.W.typeIn K (.ref S) = some (.type "type")) (hs : PySem.W.subIn K (.ref C) (.ref C) = some true) (h4 : PySem.W.subIn K (.ref C) (.ref S) = some false) : PySem.W.kitOne K (.ref C) (.ref S) = some false := by
  unfold PySem.W.kitOne
  split
  · rename_i e
    have e' : C = S := Value.ref.inj (beq_iff_eq.mp e)
    subst e'
    rw [hs] at h4
    cases h4
  · exact kit_c h2 h3 h4
theorem all_mk {P : Program} {w : World} {K : PySem.W.Frag} {h : Heap} {mg : Str → Option Value} {fa f0 f1 f2 f3 f4 f5 f6 f7 f8 f9 f10 f11 f12 f13 f14 f15 f16 f17 f18 f19 f20 f21 f22 f23 f24 f25 f26 f27 f28 f29 f30 f31 f32 f33 f34 f35 f36 f37 f38 f39 CR fIR CN fIN CV : Addr} (X : K.In h) (G : h.Ns mainGlobals mg) (hfa : mg "law" = some (.ref fa))
    {nmR qR : Str} {NR : Addr} {bsR bmR : List Value} {snR : List Str} {subR : List Value} {abR : Bool} {colR : Option Bool} {ddR : Option Addr} {m0R m1R m2R m3R m5R : Option Value}
    {odIR anIR : Option Addr} {slIR : Array (Option Value)} {ocIR kVIR dcIR pmIR cdIR ctIR : Value}
    (aCR : PySem.W.nsIn K mainGlobals "BadRow" = some (some (.ref CR)))
    (xCR : K.lookup CR = some (excClassObj nmR qR CR NR bsR bmR true snR subR abR colR ddR m0R m1R m2R m3R m5R "ValueError.__new__"))
    (rCR : PySem.HandSPX.refsVE bmR = true)
    (saCR : PySem.W.findIn K (.ref CR) "__setattr__" = some (some (.builtin "object.__setattr__")))
    (gaCR : PySem.W.findIn K (.ref CR) "__getattribute__" = some (some (.builtin "BaseException.__getattribute__")))
    (ggCR : PySem.W.findIn K (.ref CR) "__getattr__" = some none)
    (nbCR : PySem.W.findIn K (.ref CR) "at" = some none)
    (aIR : PySem.W.findIn K (.ref CR) "__init__" = some (some (.ref fIR)))
    (tIR : PySem.W.typeIn K (.ref fIR) = some (.type "function"))
    (lIR : K.lookup fIR = some ⟨ocIR, odIR, .func (PySem.W.fnOf "__init__" "BadRow.__init__" (defArgs s_BadRow___init__) (defBody s_BadRow___init__) (defScope s_BadRow___init__) .none kVIR dcIR pmIR anIR cdIR ctIR), slIR⟩)
    (cIR : PySem.W.codeIn K cdIR "BadRow.__init__" = true)
    (kIR : PySem.W.keepIn K (.ref fIR) = true)
    (kCR : PySem.W.keepIn K (.ref CR) = true)
    (eCR : PySem.W.subIn K (.ref CR) (.type "BaseException") = some true)
    (tCR : PySem.W.typeIn K (.ref CR) = some (.type "type"))
    (hCR : PySem.W.hasDictIn K CR = true)
    (iCR : PySem.W.isClsIn K CR = true)
    (sCR : PySem.W.subIn K (.ref CR) (.ref CR) = some true)
    (clCR : PySem.W.findIn K (.ref CR) "__class__" = some (some (.builtin "object.__class__")))
    (mrCR : PySem.W.mroIn K CR (.type "object") = some true)
    {nmN qN : Str} {NN : Addr} {bsN bmN : List Value} {snN : List Str} {subN : List Value} {abN : Bool} {colN : Option Bool} {ddN : Option Addr} {m0N m1N m2N m3N m5N : Option Value}
    {odIN anIN : Option Addr} {slIN : Array (Option Value)} {ocIN kVIN dcIN pmIN cdIN ctIN : Value}
    (aCN : PySem.W.nsIn K mainGlobals "BadNumber" = some (some (.ref CN)))
    (xCN : K.lookup CN = some (excClassObj nmN qN CN NN bsN bmN true snN subN abN colN ddN m0N m1N m2N m3N m5N "ValueError.__new__"))
    (rCN : PySem.HandSPX.refsVE bmN = true)
    (saCN : PySem.W.findIn K (.ref CN) "__setattr__" = some (some (.builtin "object.__setattr__")))
    (gaCN : PySem.W.findIn K (.ref CN) "__getattribute__" = some (some (.builtin "BaseException.__getattribute__")))
    (ggCN : PySem.W.findIn K (.ref CN) "__getattr__" = some none)
    (nbCN : PySem.W.findIn K (.ref CN) "at" = some none)
    (aIN : PySem.W.findIn K (.ref CN) "__init__" = some (some (.ref fIN)))
    (tIN : PySem.W.typeIn K (.ref fIN) = some (.type "function"))
    (lIN : K.lookup fIN = some ⟨ocIN, odIN, .func (PySem.W.fnOf "__init__" "BadNumber.__init__" (defArgs s_BadNumber___init__) (defBody s_BadNumber___init__) (defScope s_BadNumber___init__) .none kVIN dcIN pmIN anIN cdIN ctIN), slIN⟩)
    (cIN : PySem.W.codeIn K cdIN "BadNumber.__init__" = true)
    (kIN : PySem.W.keepIn K (.ref fIN) = true)
    (kCN : PySem.W.keepIn K (.ref CN) = true)
    (eCN : PySem.W.subIn K (.ref CN) (.type "BaseException") = some true)
    (tCN : PySem.W.typeIn K (.ref CN) = some (.type "type"))
    (hCN : PySem.W.hasDictIn K CN = true)
    (iCN : PySem.W.isClsIn K CN = true)
    (sCN : PySem.W.subIn K (.ref CN) (.ref CN) = some true)
    (clCN : PySem.W.findIn K (.ref CN) "__class__" = some (some (.builtin "object.__class__")))
    (mrCN : PySem.W.mroIn K CN (.type "object") = some true)
    (gD : PySem.W.specialIn K (.builtin "object.__class__") "__get__" = some (some (.builtin "getset_descriptor.__get__")))
    (tD : PySem.W.takesIn K (.builtin "object.__class__") = some true)
    (aV : PySem.W.nsIn K mainGlobals "VariesError" = some (some (.ref CV)))
    (iCV : PySem.W.isClsIn K CV = true)
    (tCV : PySem.W.typeIn K (.ref CV) = some (.type "type"))
    (bRV : PySem.W.subIn K (.ref CR) (.ref CV) = some true)
    (bRN : PySem.W.subIn K (.ref CR) (.ref CN) = some false)
    (bNV : PySem.W.subIn K (.ref CN) (.ref CV) = some true)
    (bNR : PySem.W.subIn K (.ref CN) (.ref CR) = some false)
    (y0 : PySem.W.nsIn K mainGlobals "gcd" = some (some (.builtin "math.gcd")))
    (y1 : PySem.W.nsIn K mainGlobals "lcm" = some (some (.builtin "math.lcm")))
    {od0 an0 : Option Addr} {sl0 : Array (Option Value)} {oc0 kV0 dc0 pm0 cd0 ct0 : Value}
    (a0 : PySem.W.nsIn K mainGlobals "is_int" = some (some (.ref f0)))
    (l0 : K.lookup f0 = some ⟨oc0, od0, .func (PySem.W.fnOf "is_int" "is_int" (defArgs s_is_int) (defBody s_is_int) (defScope s_is_int) .none kV0 dc0 pm0 an0 cd0 ct0), sl0⟩)
    (c0 : PySem.W.codeIn K cd0 "is_int" = true) (k0 : PySem.W.keepIn K (.ref f0) = true)
    {od1 an1 : Option Addr} {sl1 : Array (Option Value)} {oc1 kV1 dc1 pm1 cd1 ct1 : Value}
    (a1 : PySem.W.nsIn K mainGlobals "plain_form" = some (some (.ref f1)))
    (l1 : K.lookup f1 = some ⟨oc1, od1, .func (PySem.W.fnOf "plain_form" "plain_form" (defArgs s_plain_form) (defBody s_plain_form) (defScope s_plain_form) .none kV1 dc1 pm1 an1 cd1 ct1), sl1⟩)
    (c1 : PySem.W.codeIn K cd1 "plain_form" = true) (k1 : PySem.W.keepIn K (.ref f1) = true)
    {od2 an2 : Option Addr} {sl2 : Array (Option Value)} {oc2 kV2 dc2 pm2 cd2 ct2 : Value}
    (a2 : PySem.W.nsIn K mainGlobals "check_number" = some (some (.ref f2)))
    (l2 : K.lookup f2 = some ⟨oc2, od2, .func (PySem.W.fnOf "check_number" "check_number" (defArgs s_check_number) (defBody s_check_number) (defScope s_check_number) .none kV2 dc2 pm2 an2 cd2 ct2), sl2⟩)
    (c2 : PySem.W.codeIn K cd2 "check_number" = true) (k2 : PySem.W.keepIn K (.ref f2) = true)
    {od3 an3 : Option Addr} {sl3 : Array (Option Value)} {oc3 kV3 dc3 pm3 cd3 ct3 : Value}
    (a3 : PySem.W.nsIn K mainGlobals "wrong_fence_part" = some (some (.ref f3)))
    (l3 : K.lookup f3 = some ⟨oc3, od3, .func (PySem.W.fnOf "wrong_fence_part" "wrong_fence_part" (defArgs s_wrong_fence_part) (defBody s_wrong_fence_part) (defScope s_wrong_fence_part) .none kV3 dc3 pm3 an3 cd3 ct3), sl3⟩)
    (c3 : PySem.W.codeIn K cd3 "wrong_fence_part" = true) (k3 : PySem.W.keepIn K (.ref f3) = true)
    {od4 an4 : Option Addr} {sl4 : Array (Option Value)} {oc4 kV4 dc4 pm4 cd4 ct4 : Value}
    (a4 : PySem.W.nsIn K mainGlobals "check_fence" = some (some (.ref f4)))
    (l4 : K.lookup f4 = some ⟨oc4, od4, .func (PySem.W.fnOf "check_fence" "check_fence" (defArgs s_check_fence) (defBody s_check_fence) (defScope s_check_fence) .none kV4 dc4 pm4 an4 cd4 ct4), sl4⟩)
    (c4 : PySem.W.codeIn K cd4 "check_fence" = true) (k4 : PySem.W.keepIn K (.ref f4) = true)
    {od5 an5 : Option Addr} {sl5 : Array (Option Value)} {oc5 kV5 dc5 pm5 cd5 ct5 : Value}
    (a5 : PySem.W.nsIn K mainGlobals "check_other_fence" = some (some (.ref f5)))
    (l5 : K.lookup f5 = some ⟨oc5, od5, .func (PySem.W.fnOf "check_other_fence" "check_other_fence" (defArgs s_check_other_fence) (defBody s_check_other_fence) (defScope s_check_other_fence) .none kV5 dc5 pm5 an5 cd5 ct5), sl5⟩)
    (c5 : PySem.W.codeIn K cd5 "check_other_fence" = true) (k5 : PySem.W.keepIn K (.ref f5) = true)
    {od6 an6 : Option Addr} {sl6 : Array (Option Value)} {oc6 kV6 dc6 pm6 cd6 ct6 : Value}
    (a6 : PySem.W.nsIn K mainGlobals "check_integers" = some (some (.ref f6)))
    (l6 : K.lookup f6 = some ⟨oc6, od6, .func (PySem.W.fnOf "check_integers" "check_integers" (defArgs s_check_integers) (defBody s_check_integers) (defScope s_check_integers) .none kV6 dc6 pm6 an6 cd6 ct6), sl6⟩)
    (c6 : PySem.W.codeIn K cd6 "check_integers" = true) (k6 : PySem.W.keepIn K (.ref f6) = true)
    {od7 an7 : Option Addr} {sl7 : Array (Option Value)} {oc7 kV7 dc7 pm7 cd7 ct7 : Value}
    (a7 : PySem.W.nsIn K mainGlobals "holds_number" = some (some (.ref f7)))
    (l7 : K.lookup f7 = some ⟨oc7, od7, .func (PySem.W.fnOf "holds_number" "holds_number" (defArgs s_holds_number) (defBody s_holds_number) (defScope s_holds_number) .none kV7 dc7 pm7 an7 cd7 ct7), sl7⟩)
    (c7 : PySem.W.codeIn K cd7 "holds_number" = true) (k7 : PySem.W.keepIn K (.ref f7) = true)
    {od8 an8 : Option Addr} {sl8 : Array (Option Value)} {oc8 kV8 dc8 pm8 cd8 ct8 : Value}
    (a8 : PySem.W.nsIn K mainGlobals "fence_of_plain" = some (some (.ref f8)))
    (l8 : K.lookup f8 = some ⟨oc8, od8, .func (PySem.W.fnOf "fence_of_plain" "fence_of_plain" (defArgs s_fence_of_plain) (defBody s_fence_of_plain) (defScope s_fence_of_plain) .none kV8 dc8 pm8 an8 cd8 ct8), sl8⟩)
    (c8 : PySem.W.codeIn K cd8 "fence_of_plain" = true) (k8 : PySem.W.keepIn K (.ref f8) = true)
    {od9 an9 : Option Addr} {sl9 : Array (Option Value)} {oc9 kV9 dc9 pm9 cd9 ct9 : Value}
    (a9 : PySem.W.nsIn K mainGlobals "fence_of" = some (some (.ref f9)))
    (l9 : K.lookup f9 = some ⟨oc9, od9, .func (PySem.W.fnOf "fence_of" "fence_of" (defArgs s_fence_of) (defBody s_fence_of) (defScope s_fence_of) .none kV9 dc9 pm9 an9 cd9 ct9), sl9⟩)
    (c9 : PySem.W.codeIn K cd9 "fence_of" = true) (k9 : PySem.W.keepIn K (.ref f9) = true)
    {od10 an10 : Option Addr} {sl10 : Array (Option Value)} {oc10 kV10 dc10 pm10 cd10 ct10 : Value}
    (a10 : PySem.W.nsIn K mainGlobals "has_number" = some (some (.ref f10)))
    (l10 : K.lookup f10 = some ⟨oc10, od10, .func (PySem.W.fnOf "has_number" "has_number" (defArgs s_has_number) (defBody s_has_number) (defScope s_has_number) .none kV10 dc10 pm10 an10 cd10 ct10), sl10⟩)
    (c10 : PySem.W.codeIn K cd10 "has_number" = true) (k10 : PySem.W.keepIn K (.ref f10) = true)
    {od11 an11 : Option Addr} {sl11 : Array (Option Value)} {oc11 kV11 dc11 pm11 cd11 ct11 : Value}
    (a11 : PySem.W.nsIn K mainGlobals "fence_size" = some (some (.ref f11)))
    (l11 : K.lookup f11 = some ⟨oc11, od11, .func (PySem.W.fnOf "fence_size" "fence_size" (defArgs s_fence_size) (defBody s_fence_size) (defScope s_fence_size) .none kV11 dc11 pm11 an11 cd11 ct11), sl11⟩)
    (c11 : PySem.W.codeIn K cd11 "fence_size" = true) (k11 : PySem.W.keepIn K (.ref f11) = true)
    {od12 an12 : Option Addr} {sl12 : Array (Option Value)} {oc12 kV12 dc12 pm12 cd12 ct12 : Value}
    (a12 : PySem.W.nsIn K mainGlobals "turned_by" = some (some (.ref f12)))
    (l12 : K.lookup f12 = some ⟨oc12, od12, .func (PySem.W.fnOf "turned_by" "turned_by" (defArgs s_turned_by) (defBody s_turned_by) (defScope s_turned_by) .none kV12 dc12 pm12 an12 cd12 ct12), sl12⟩)
    (c12 : PySem.W.codeIn K cd12 "turned_by" = true) (k12 : PySem.W.keepIn K (.ref f12) = true)
    {od13 an13 : Option Addr} {sl13 : Array (Option Value)} {oc13 kV13 dc13 pm13 cd13 ct13 : Value}
    (a13 : PySem.W.nsIn K mainGlobals "common_numbers" = some (some (.ref f13)))
    (l13 : K.lookup f13 = some ⟨oc13, od13, .func (PySem.W.fnOf "common_numbers" "common_numbers" (defArgs s_common_numbers) (defBody s_common_numbers) (defScope s_common_numbers) .none kV13 dc13 pm13 an13 cd13 ct13), sl13⟩)
    (c13 : PySem.W.codeIn K cd13 "common_numbers" = true) (k13 : PySem.W.keepIn K (.ref f13) = true)
    {od14 an14 : Option Addr} {sl14 : Array (Option Value)} {oc14 kV14 dc14 pm14 cd14 ct14 : Value}
    (a14 : PySem.W.nsIn K mainGlobals "either_fence" = some (some (.ref f14)))
    (l14 : K.lookup f14 = some ⟨oc14, od14, .func (PySem.W.fnOf "either_fence" "either_fence" (defArgs s_either_fence) (defBody s_either_fence) (defScope s_either_fence) .none kV14 dc14 pm14 an14 cd14 ct14), sl14⟩)
    (c14 : PySem.W.codeIn K cd14 "either_fence" = true) (k14 : PySem.W.keepIn K (.ref f14) = true)
    {od15 an15 : Option Addr} {sl15 : Array (Option Value)} {oc15 kV15 dc15 pm15 cd15 ct15 : Value}
    (a15 : PySem.W.nsIn K mainGlobals "fence_either" = some (some (.ref f15)))
    (l15 : K.lookup f15 = some ⟨oc15, od15, .func (PySem.W.fnOf "fence_either" "fence_either" (defArgs s_fence_either) (defBody s_fence_either) (defScope s_fence_either) .none kV15 dc15 pm15 an15 cd15 ct15), sl15⟩)
    (c15 : PySem.W.codeIn K cd15 "fence_either" = true) (k15 : PySem.W.keepIn K (.ref f15) = true)
    {od16 an16 : Option Addr} {sl16 : Array (Option Value)} {oc16 kV16 dc16 pm16 cd16 ct16 : Value}
    (a16 : PySem.W.nsIn K mainGlobals "fence_behind" = some (some (.ref f16)))
    (l16 : K.lookup f16 = some ⟨oc16, od16, .func (PySem.W.fnOf "fence_behind" "fence_behind" (defArgs s_fence_behind) (defBody s_fence_behind) (defScope s_fence_behind) .none kV16 dc16 pm16 an16 cd16 ct16), sl16⟩)
    (c16 : PySem.W.codeIn K cd16 "fence_behind" = true) (k16 : PySem.W.keepIn K (.ref f16) = true)
    {od17 an17 : Option Addr} {sl17 : Array (Option Value)} {oc17 kV17 dc17 pm17 cd17 ct17 : Value}
    (a17 : PySem.W.nsIn K mainGlobals "is_fence_within" = some (some (.ref f17)))
    (l17 : K.lookup f17 = some ⟨oc17, od17, .func (PySem.W.fnOf "is_fence_within" "is_fence_within" (defArgs s_is_fence_within) (defBody s_is_fence_within) (defScope s_is_fence_within) .none kV17 dc17 pm17 an17 cd17 ct17), sl17⟩)
    (c17 : PySem.W.codeIn K cd17 "is_fence_within" = true) (k17 : PySem.W.keepIn K (.ref f17) = true)
    {od18 an18 : Option Addr} {sl18 : Array (Option Value)} {oc18 kV18 dc18 pm18 cd18 ct18 : Value}
    (a18 : PySem.W.nsIn K mainGlobals "fences_met" = some (some (.ref f18)))
    (l18 : K.lookup f18 = some ⟨oc18, od18, .func (PySem.W.fnOf "fences_met" "fences_met" (defArgs s_fences_met) (defBody s_fences_met) (defScope s_fences_met) .none kV18 dc18 pm18 an18 cd18 ct18), sl18⟩)
    (c18 : PySem.W.codeIn K cd18 "fences_met" = true) (k18 : PySem.W.keepIn K (.ref f18) = true)
    {od19 an19 : Option Addr} {sl19 : Array (Option Value)} {oc19 kV19 dc19 pm19 cd19 ct19 : Value}
    (a19 : PySem.W.nsIn K mainGlobals "fence_times" = some (some (.ref f19)))
    (l19 : K.lookup f19 = some ⟨oc19, od19, .func (PySem.W.fnOf "fence_times" "fence_times" (defArgs s_fence_times) (defBody s_fence_times) (defScope s_fence_times) .none kV19 dc19 pm19 an19 cd19 ct19), sl19⟩)
    (c19 : PySem.W.codeIn K cd19 "fence_times" = true) (k19 : PySem.W.keepIn K (.ref f19) = true)
    {od20 an20 : Option Addr} {sl20 : Array (Option Value)} {oc20 kV20 dc20 pm20 cd20 ct20 : Value}
    (a20 : PySem.W.nsIn K mainGlobals "_law_just" = some (some (.ref f20)))
    (l20 : K.lookup f20 = some ⟨oc20, od20, .func (PySem.W.fnOf "_law_just" "_law_just" (defArgs s_law_just) (defBody s_law_just) (defScope s_law_just) .none kV20 dc20 pm20 an20 cd20 ct20), sl20⟩)
    (c20 : PySem.W.codeIn K cd20 "_law_just" = true) (k20 : PySem.W.keepIn K (.ref f20) = true)
    {od21 an21 : Option Addr} {sl21 : Array (Option Value)} {oc21 kV21 dc21 pm21 cd21 ct21 : Value}
    (a21 : PySem.W.nsIn K mainGlobals "_law_draws" = some (some (.ref f21)))
    (l21 : K.lookup f21 = some ⟨oc21, od21, .func (PySem.W.fnOf "_law_draws" "_law_draws" (defArgs s_law_draws) (defBody s_law_draws) (defScope s_law_draws) .none kV21 dc21 pm21 an21 cd21 ct21), sl21⟩)
    (c21 : PySem.W.codeIn K cd21 "_law_draws" = true) (k21 : PySem.W.keepIn K (.ref f21) = true)
    {od22 an22 : Option Addr} {sl22 : Array (Option Value)} {oc22 kV22 dc22 pm22 cd22 ct22 : Value}
    (a22 : PySem.W.nsIn K mainGlobals "_law_take" = some (some (.ref f22)))
    (l22 : K.lookup f22 = some ⟨oc22, od22, .func (PySem.W.fnOf "_law_take" "_law_take" (defArgs s_law_take) (defBody s_law_take) (defScope s_law_take) .none kV22 dc22 pm22 an22 cd22 ct22), sl22⟩)
    (c22 : PySem.W.codeIn K cd22 "_law_take" = true) (k22 : PySem.W.keepIn K (.ref f22) = true)
    {od23 an23 : Option Addr} {sl23 : Array (Option Value)} {oc23 kV23 dc23 pm23 cd23 ct23 : Value}
    (a23 : PySem.W.nsIn K mainGlobals "_law_gcd" = some (some (.ref f23)))
    (l23 : K.lookup f23 = some ⟨oc23, od23, .func (PySem.W.fnOf "_law_gcd" "_law_gcd" (defArgs s_law_gcd) (defBody s_law_gcd) (defScope s_law_gcd) .none kV23 dc23 pm23 an23 cd23 ct23), sl23⟩)
    (c23 : PySem.W.codeIn K cd23 "_law_gcd" = true) (k23 : PySem.W.keepIn K (.ref f23) = true)
    {od24 an24 : Option Addr} {sl24 : Array (Option Value)} {oc24 kV24 dc24 pm24 cd24 ct24 : Value}
    (a24 : PySem.W.nsIn K mainGlobals "_law_inverse" = some (some (.ref f24)))
    (l24 : K.lookup f24 = some ⟨oc24, od24, .func (PySem.W.fnOf "_law_inverse" "_law_inverse" (defArgs s_law_inverse) (defBody s_law_inverse) (defScope s_law_inverse) .none kV24 dc24 pm24 an24 cd24 ct24), sl24⟩)
    (c24 : PySem.W.codeIn K cd24 "_law_inverse" = true) (k24 : PySem.W.keepIn K (.ref f24) = true)
    {od25 an25 : Option Addr} {sl25 : Array (Option Value)} {oc25 kV25 dc25 pm25 cd25 ct25 : Value}
    (a25 : PySem.W.nsIn K mainGlobals "_law_has" = some (some (.ref f25)))
    (l25 : K.lookup f25 = some ⟨oc25, od25, .func (PySem.W.fnOf "_law_has" "_law_has" (defArgs s_law_has) (defBody s_law_has) (defScope s_law_has) .none kV25 dc25 pm25 an25 cd25 ct25), sl25⟩)
    (c25 : PySem.W.codeIn K cd25 "_law_has" = true) (k25 : PySem.W.keepIn K (.ref f25) = true)
    {od26 an26 : Option Addr} {sl26 : Array (Option Value)} {oc26 kV26 dc26 pm26 cd26 ct26 : Value}
    (a26 : PySem.W.nsIn K mainGlobals "_law_met" = some (some (.ref f26)))
    (l26 : K.lookup f26 = some ⟨oc26, od26, .func (PySem.W.fnOf "_law_met" "_law_met" (defArgs s_law_met) (defBody s_law_met) (defScope s_law_met) .none kV26 dc26 pm26 an26 cd26 ct26), sl26⟩)
    (c26 : PySem.W.codeIn K cd26 "_law_met" = true) (k26 : PySem.W.keepIn K (.ref f26) = true)
    {od27 an27 : Option Addr} {sl27 : Array (Option Value)} {oc27 kV27 dc27 pm27 cd27 ct27 : Value}
    (a27 : PySem.W.nsIn K mainGlobals "_law_either" = some (some (.ref f27)))
    (l27 : K.lookup f27 = some ⟨oc27, od27, .func (PySem.W.fnOf "_law_either" "_law_either" (defArgs s_law_either) (defBody s_law_either) (defScope s_law_either) .none kV27 dc27 pm27 an27 cd27 ct27), sl27⟩)
    (c27 : PySem.W.codeIn K cd27 "_law_either" = true) (k27 : PySem.W.keepIn K (.ref f27) = true)
    {od28 an28 : Option Addr} {sl28 : Array (Option Value)} {oc28 kV28 dc28 pm28 cd28 ct28 : Value}
    (a28 : PySem.W.nsIn K mainGlobals "_law_behind" = some (some (.ref f28)))
    (l28 : K.lookup f28 = some ⟨oc28, od28, .func (PySem.W.fnOf "_law_behind" "_law_behind" (defArgs s_law_behind) (defBody s_law_behind) (defScope s_law_behind) .none kV28 dc28 pm28 an28 cd28 ct28), sl28⟩)
    (c28 : PySem.W.codeIn K cd28 "_law_behind" = true) (k28 : PySem.W.keepIn K (.ref f28) = true)
    {od29 an29 : Option Addr} {sl29 : Array (Option Value)} {oc29 kV29 dc29 pm29 cd29 ct29 : Value}
    (a29 : PySem.W.nsIn K mainGlobals "_law_within" = some (some (.ref f29)))
    (l29 : K.lookup f29 = some ⟨oc29, od29, .func (PySem.W.fnOf "_law_within" "_law_within" (defArgs s_law_within) (defBody s_law_within) (defScope s_law_within) .none kV29 dc29 pm29 an29 cd29 ct29), sl29⟩)
    (c29 : PySem.W.codeIn K cd29 "_law_within" = true) (k29 : PySem.W.keepIn K (.ref f29) = true)
    {od30 an30 : Option Addr} {sl30 : Array (Option Value)} {oc30 kV30 dc30 pm30 cd30 ct30 : Value}
    (a30 : PySem.W.nsIn K mainGlobals "_law_fence_drawn" = some (some (.ref f30)))
    (l30 : K.lookup f30 = some ⟨oc30, od30, .func (PySem.W.fnOf "_law_fence_drawn" "_law_fence_drawn" (defArgs s_law_fence_drawn) (defBody s_law_fence_drawn) (defScope s_law_fence_drawn) .none kV30 dc30 pm30 an30 cd30 ct30), sl30⟩)
    (c30 : PySem.W.codeIn K cd30 "_law_fence_drawn" = true) (k30 : PySem.W.keepIn K (.ref f30) = true)
    {od31 an31 : Option Addr} {sl31 : Array (Option Value)} {oc31 kV31 dc31 pm31 cd31 ct31 : Value}
    (a31 : PySem.W.nsIn K mainGlobals "_law_pair_asked" = some (some (.ref f31)))
    (l31 : K.lookup f31 = some ⟨oc31, od31, .func (PySem.W.fnOf "_law_pair_asked" "_law_pair_asked" (defArgs s_law_pair_asked) (defBody s_law_pair_asked) (defScope s_law_pair_asked) .none kV31 dc31 pm31 an31 cd31 ct31), sl31⟩)
    (c31 : PySem.W.codeIn K cd31 "_law_pair_asked" = true) (k31 : PySem.W.keepIn K (.ref f31) = true)
    {od32 an32 : Option Addr} {sl32 : Array (Option Value)} {oc32 kV32 dc32 pm32 cd32 ct32 : Value}
    (a32 : PySem.W.nsIn K mainGlobals "_law_three_asked" = some (some (.ref f32)))
    (l32 : K.lookup f32 = some ⟨oc32, od32, .func (PySem.W.fnOf "_law_three_asked" "_law_three_asked" (defArgs s_law_three_asked) (defBody s_law_three_asked) (defScope s_law_three_asked) .none kV32 dc32 pm32 an32 cd32 ct32), sl32⟩)
    (c32 : PySem.W.codeIn K cd32 "_law_three_asked" = true) (k32 : PySem.W.keepIn K (.ref f32) = true)
    {od33 an33 : Option Addr} {sl33 : Array (Option Value)} {oc33 kV33 dc33 pm33 cd33 ct33 : Value}
    (a33 : PySem.W.nsIn K mainGlobals "_law_times_asked" = some (some (.ref f33)))
    (l33 : K.lookup f33 = some ⟨oc33, od33, .func (PySem.W.fnOf "_law_times_asked" "_law_times_asked" (defArgs s_law_times_asked) (defBody s_law_times_asked) (defScope s_law_times_asked) .none kV33 dc33 pm33 an33 cd33 ct33), sl33⟩)
    (c33 : PySem.W.codeIn K cd33 "_law_times_asked" = true) (k33 : PySem.W.keepIn K (.ref f33) = true)
    {od34 an34 : Option Addr} {sl34 : Array (Option Value)} {oc34 kV34 dc34 pm34 cd34 ct34 : Value}
    (a34 : PySem.W.nsIn K mainGlobals "_law_members_asked" = some (some (.ref f34)))
    (l34 : K.lookup f34 = some ⟨oc34, od34, .func (PySem.W.fnOf "_law_members_asked" "_law_members_asked" (defArgs s_law_members_asked) (defBody s_law_members_asked) (defScope s_law_members_asked) .none kV34 dc34 pm34 an34 cd34 ct34), sl34⟩)
    (c34 : PySem.W.codeIn K cd34 "_law_members_asked" = true) (k34 : PySem.W.keepIn K (.ref f34) = true)
    {od35 an35 : Option Addr} {sl35 : Array (Option Value)} {oc35 kV35 dc35 pm35 cd35 ct35 : Value}
    (a35 : PySem.W.nsIn K mainGlobals "_law_asked" = some (some (.ref f35)))
    (l35 : K.lookup f35 = some ⟨oc35, od35, .func (PySem.W.fnOf "_law_asked" "_law_asked" (defArgs s_law_asked) (defBody s_law_asked) (defScope s_law_asked) .none kV35 dc35 pm35 an35 cd35 ct35), sl35⟩)
    (c35 : PySem.W.codeIn K cd35 "_law_asked" = true) (k35 : PySem.W.keepIn K (.ref f35) = true)
    {od36 an36 : Option Addr} {sl36 : Array (Option Value)} {oc36 kV36 dc36 pm36 cd36 ct36 : Value}
    (a36 : PySem.W.nsIn K mainGlobals "_law_call" = some (some (.ref f36)))
    (l36 : K.lookup f36 = some ⟨oc36, od36, .func (PySem.W.fnOf "_law_call" "_law_call" (defArgs s_law_call) (defBody s_law_call) (defScope s_law_call) .none kV36 dc36 pm36 an36 cd36 ct36), sl36⟩)
    (c36 : PySem.W.codeIn K cd36 "_law_call" = true) (k36 : PySem.W.keepIn K (.ref f36) = true)
    {od37 an37 : Option Addr} {sl37 : Array (Option Value)} {oc37 kV37 dc37 pm37 cd37 ct37 : Value}
    (a37 : PySem.W.nsIn K mainGlobals "_law_refused" = some (some (.ref f37)))
    (l37 : K.lookup f37 = some ⟨oc37, od37, .func (PySem.W.fnOf "_law_refused" "_law_refused" (defArgs s_law_refused) (defBody s_law_refused) (defScope s_law_refused) .none kV37 dc37 pm37 an37 cd37 ct37), sl37⟩)
    (c37 : PySem.W.codeIn K cd37 "_law_refused" = true) (k37 : PySem.W.keepIn K (.ref f37) = true)
    {od38 an38 : Option Addr} {sl38 : Array (Option Value)} {oc38 kV38 dc38 pm38 cd38 ct38 : Value}
    (a38 : PySem.W.nsIn K mainGlobals "_law_refuses" = some (some (.ref f38)))
    (l38 : K.lookup f38 = some ⟨oc38, od38, .func (PySem.W.fnOf "_law_refuses" "_law_refuses" (defArgs s_law_refuses) (defBody s_law_refuses) (defScope s_law_refuses) .none kV38 dc38 pm38 an38 cd38 ct38), sl38⟩)
    (c38 : PySem.W.codeIn K cd38 "_law_refuses" = true) (k38 : PySem.W.keepIn K (.ref f38) = true)
    {od39 an39 : Option Addr} {sl39 : Array (Option Value)} {oc39 kV39 dc39 pm39 cd39 ct39 : Value}
    (a39 : PySem.W.nsIn K mainGlobals "law" = some (some (.ref f39)))
    (l39 : K.lookup f39 = some ⟨oc39, od39, .func (PySem.W.fnOf "law" "law" (defArgs s_law) (defBody s_law) (defScope s_law) .none kV39 dc39 pm39 an39 cd39 ct39), sl39⟩)
    (c39 : PySem.W.codeIn K cd39 "law" = true) (k39 : PySem.W.keepIn K (.ref f39) = true)
    (z0 : PySem.W.nsIn K mainGlobals "len" = some none)
    (z1 : PySem.W.nsIn K mainGlobals "isinstance" = some none)
    (z2 : PySem.W.nsIn K mainGlobals "enumerate" = some none)
    (z3 : PySem.W.nsIn K mainGlobals "range" = some none)
    (z4 : PySem.W.nsIn K mainGlobals "min" = some none)
    (z5 : PySem.W.nsIn K mainGlobals "max" = some none)
    (z6 : PySem.W.nsIn K mainGlobals "abs" = some none)
    (z7 : PySem.W.nsIn K mainGlobals "int" = some none)
    (z8 : PySem.W.nsIn K mainGlobals "bool" = some none)
    (z9 : PySem.W.nsIn K mainGlobals "str" = some none)
    (z10 : PySem.W.nsIn K mainGlobals "list" = some none)
    (z11 : PySem.W.nsIn K mainGlobals "tuple" = some none)
    : ∃ fd : FuncData, (∀ (s : Shared) (v : Value), BindsTo s fd ⟨[v], []⟩ [("script", v)]) ∧ ∀ base : Heap, K.In base → base.Ns mainGlobals mg → FnOk P w K mg base CX0 8 fa fd p_law (spLaw K) := by
  have e := hfa.symm.trans (PySem.W.mg_of X G a39)
  cases e
  have F0 := fun_mk (st := s_is_int) l0 c0 k0
  have F1 := fun_mk (st := s_plain_form) l1 c1 k1
  have F2 := fun_mk (st := s_check_number) l2 c2 k2
  have F3 := fun_mk (st := s_wrong_fence_part) l3 c3 k3
  have F4 := fun_mk (st := s_check_fence) l4 c4 k4
  have F5 := fun_mk (st := s_check_other_fence) l5 c5 k5
  have F6 := fun_mk (st := s_check_integers) l6 c6 k6
  have F7 := fun_mk (st := s_holds_number) l7 c7 k7
  have F8 := fun_mk (st := s_fence_of_plain) l8 c8 k8
  have F9 := fun_mk (st := s_fence_of) l9 c9 k9
  have F10 := fun_mk (st := s_has_number) l10 c10 k10
  have F11 := fun_mk (st := s_fence_size) l11 c11 k11
  have F12 := fun_mk (st := s_turned_by) l12 c12 k12
  have F13 := fun_mk (st := s_common_numbers) l13 c13 k13
  have F14 := fun_mk (st := s_either_fence) l14 c14 k14
  have F15 := fun_mk (st := s_fence_either) l15 c15 k15
  have F16 := fun_mk (st := s_fence_behind) l16 c16 k16
  have F17 := fun_mk (st := s_is_fence_within) l17 c17 k17
  have F18 := fun_mk (st := s_fences_met) l18 c18 k18
  have F19 := fun_mk (st := s_fence_times) l19 c19 k19
  have F20 := fun_mk (st := s_law_just) l20 c20 k20
  have F21 := fun_mk (st := s_law_draws) l21 c21 k21
  have F22 := fun_mk (st := s_law_take) l22 c22 k22
  have F23 := fun_mk (st := s_law_gcd) l23 c23 k23
  have F24 := fun_mk (st := s_law_inverse) l24 c24 k24
  have F25 := fun_mk (st := s_law_has) l25 c25 k25
  have F26 := fun_mk (st := s_law_met) l26 c26 k26
  have F27 := fun_mk (st := s_law_either) l27 c27 k27
  have F28 := fun_mk (st := s_law_behind) l28 c28 k28
  have F29 := fun_mk (st := s_law_within) l29 c29 k29
  have F30 := fun_mk (st := s_law_fence_drawn) l30 c30 k30
  have F31 := fun_mk (st := s_law_pair_asked) l31 c31 k31
  have F32 := fun_mk (st := s_law_three_asked) l32 c32 k32
  have F33 := fun_mk (st := s_law_times_asked) l33 c33 k33
  have F34 := fun_mk (st := s_law_members_asked) l34 c34 k34
  have F35 := fun_mk (st := s_law_asked) l35 c35 k35
  have F36 := fun_mk (st := s_law_call) l36 c36 k36
  have F37 := fun_mk (st := s_law_refused) l37 c37 k37
  have F38 := fun_mk (st := s_law_refuses) l38 c38 k38
  have F39 := fun_mk (st := s_law) l39 c39 k39
  have b0 := F0.binds (ps := p_is_int) fun _ _ _ _ _ _ us hl => match us, hl with | [_], _ => rfl
  have b1 := F1.binds (ps := p_plain_form) fun _ _ _ _ _ _ us hl => match us, hl with | [_], _ => rfl
  have b2 := F2.binds (ps := p_check_number) fun _ _ _ _ _ _ us hl => match us, hl with | [_, _], _ => rfl
  have b3 := F3.binds (ps := p_wrong_fence_part) fun _ _ _ _ _ _ us hl => match us, hl with | [_], _ => rfl
  have b4 := F4.binds (ps := p_check_fence) fun _ _ _ _ _ _ us hl => match us, hl with | [_], _ => rfl
  have b5 := F5.binds (ps := p_check_other_fence) fun _ _ _ _ _ _ us hl => match us, hl with | [_], _ => rfl
  have b6 := F6.binds (ps := p_check_integers) fun _ _ _ _ _ _ us hl => match us, hl with | [_], _ => rfl
  have b7 := F7.binds (ps := p_holds_number) fun _ _ _ _ _ _ us hl => match us, hl with | [_, _], _ => rfl
  have b8 := F8.binds (ps := p_fence_of_plain) fun _ _ _ _ _ _ us hl => match us, hl with | [_], _ => rfl
  have b9 := F9.binds (ps := p_fence_of) fun _ _ _ _ _ _ us hl => match us, hl with | [_], _ => rfl
  have b10 := F10.binds (ps := p_has_number) fun _ _ _ _ _ _ us hl => match us, hl with | [_, _], _ => rfl
  have b11 := F11.binds (ps := p_fence_size) fun _ _ _ _ _ _ us hl => match us, hl with | [_], _ => rfl
  have b12 := F12.binds (ps := p_turned_by) fun _ _ _ _ _ _ us hl => match us, hl with | [_, _], _ => rfl
  have b13 := F13.binds (ps := p_common_numbers) fun _ _ _ _ _ _ us hl => match us, hl with | [_, _], _ => rfl
  have b14 := F14.binds (ps := p_either_fence) fun _ _ _ _ _ _ us hl => match us, hl with | [_, _], _ => rfl
  have b15 := F15.binds (ps := p_fence_either) fun _ _ _ _ _ _ us hl => match us, hl with | [_, _], _ => rfl
  have b16 := F16.binds (ps := p_fence_behind) fun _ _ _ _ _ _ us hl => match us, hl with | [_, _], _ => rfl
  have b17 := F17.binds (ps := p_is_fence_within) fun _ _ _ _ _ _ us hl => match us, hl with | [_, _], _ => rfl
  have b18 := F18.binds (ps := p_fences_met) fun _ _ _ _ _ _ us hl => match us, hl with | [_, _], _ => rfl
  have b19 := F19.binds (ps := p_fence_times) fun _ _ _ _ _ _ us hl => match us, hl with | [_, _], _ => rfl
  have b20 := F20.binds (ps := p_law_just) fun _ _ _ _ _ _ us hl => match us, hl with | [_, _], _ => rfl
  have b21 := F21.binds (ps := p_law_draws) fun _ _ _ _ _ _ us hl => match us, hl with | [_], _ => rfl
  have b22 := F22.binds (ps := p_law_take) fun _ _ _ _ _ _ us hl => match us, hl with | [_, _], _ => rfl
  have b23 := F23.binds (ps := p_law_gcd) fun _ _ _ _ _ _ us hl => match us, hl with | [_, _], _ => rfl
  have b24 := F24.binds (ps := p_law_inverse) fun _ _ _ _ _ _ us hl => match us, hl with | [_, _], _ => rfl
  have b25 := F25.binds (ps := p_law_has) fun _ _ _ _ _ _ us hl => match us, hl with | [_, _], _ => rfl
  have b26 := F26.binds (ps := p_law_met) fun _ _ _ _ _ _ us hl => match us, hl with | [_, _], _ => rfl
  have b27 := F27.binds (ps := p_law_either) fun _ _ _ _ _ _ us hl => match us, hl with | [_, _], _ => rfl
  have b28 := F28.binds (ps := p_law_behind) fun _ _ _ _ _ _ us hl => match us, hl with | [_, _], _ => rfl
  have b29 := F29.binds (ps := p_law_within) fun _ _ _ _ _ _ us hl => match us, hl with | [_, _], _ => rfl
  have b30 := F30.binds (ps := p_law_fence_drawn) fun _ _ _ _ _ _ us hl => match us, hl with | [_, _], _ => rfl
  have b31 := F31.binds (ps := p_law_pair_asked) fun _ _ _ _ _ _ us hl => match us, hl with | [_, _], _ => rfl
  have b32 := F32.binds (ps := p_law_three_asked) fun _ _ _ _ _ _ us hl => match us, hl with | [_, _, _], _ => rfl
  have b33 := F33.binds (ps := p_law_times_asked) fun _ _ _ _ _ _ us hl => match us, hl with | [_, _, _], _ => rfl
  have b34 := F34.binds (ps := p_law_members_asked) fun _ _ _ _ _ _ us hl => match us, hl with | [_, _, _], _ => rfl
  have b35 := F35.binds (ps := p_law_asked) fun _ _ _ _ _ _ us hl => match us, hl with | [_, _, _, _], _ => rfl
  have b36 := F36.binds (ps := p_law_call) fun _ _ _ _ _ _ us hl => match us, hl with | [_, _, _], _ => rfl
  have b37 := F37.binds (ps := p_law_refused) fun _ _ _ _ _ _ us hl => match us, hl with | [_, _, _], _ => rfl
  have b38 := F38.binds (ps := p_law_refuses) fun _ _ _ _ _ _ us hl => match us, hl with | [_, _], _ => rfl
  have FIR := fun_mk (st := s_BadRow___init__) lIR cIR kIR
  have bIR := FIR.binds (ps := ["self", "at"]) fun _ _ _ _ _ _ us hl => match us, hl with | [_, _], _ => rfl
  have BTR : BadT "BadRow" K mg CR fIR := { gC := PySem.W.mg_of X G aCR, ox := ⟨⟨nmR, qR, NR, bsR, bmR, snR, subR, abR, colR, ddR, m0R, m1R, m2R, m3R, m5R, xCR, rCR⟩, saCR, eCR, tCR, kCR⟩, xf := ⟨gaCR, ggCR, eCR, hCR⟩, is := ⟨gaCR, ggCR, eCR, iCR, clCR, gD, tD, mrCR⟩, noA := nbCR, iC := aIR, tI := tIR, te := exm_self eCR iCR tCR sCR }
  have FIN := fun_mk (st := s_BadNumber___init__) lIN cIN kIN
  have bIN := FIN.binds (ps := ["self", "at"]) fun _ _ _ _ _ _ us hl => match us, hl with | [_, _], _ => rfl
  have BTN : BadT "BadNumber" K mg CN fIN := { gC := PySem.W.mg_of X G aCN, ox := ⟨⟨nmN, qN, NN, bsN, bmN, snN, subN, abN, colN, ddN, m0N, m1N, m2N, m3N, m5N, xCN, rCN⟩, saCN, eCN, tCN, kCN⟩, xf := ⟨gaCN, ggCN, eCN, hCN⟩, is := ⟨gaCN, ggCN, eCN, iCN, clCN, gD, tD, mrCN⟩, noA := nbCN, iC := aIN, tI := tIN, te := exm_self eCN iCN tCN sCN }
  have B : Bi mg := { len := PySem.W.mg_none_of X G z0, isinstance := PySem.W.mg_none_of X G z1, enumerate := PySem.W.mg_none_of X G z2, range := PySem.W.mg_none_of X G z3, min := PySem.W.mg_none_of X G z4, max := PySem.W.mg_none_of X G z5, abs := PySem.W.mg_none_of X G z6, int_ := PySem.W.mg_none_of X G z7, bool_ := PySem.W.mg_none_of X G z8, str_ := PySem.W.mg_none_of X G z9, list_ := PySem.W.mg_none_of X G z10, tuple_ := PySem.W.mg_none_of X G z11, gcd := PySem.W.mg_of X G y0, lcm := PySem.W.mg_of X G y1 }
  refine ⟨PySem.W.fnOf "law" "law" (defArgs s_law) (defBody s_law) (defScope s_law) .none kV39 dc39 pm39 an39 cd39 ct39, fun s v => .of_eq rfl, fun base _ _ => ?_⟩
  let T : BadF "BadRow" P w K mg base := ⟨CR, fIR, _, BTR, ok_initR FIR, bIR⟩
  let N : BadF "BadNumber" P w K mg base := ⟨CN, fIN, _, BTN, ok_initN FIN, bIN⟩
  have Vf : VarF K mg T.C N.C := ⟨CV, PySem.W.mg_of X G aV, kit_t iCV tCV bRV, kit_f iCN tCN sCR bRN, kit_t iCV tCV bNV, kit_f iCR tCR sCN bNR, exm_b eCR iCR tCR bNR⟩
  have Cis_int : Cal P w K mg base CX0 1 "is_int" p_is_int (spIsInt K) := ⟨f0, _, ok_is_int B F0 , PySem.W.mg_of X G a0, k0, b0⟩
  have Cplain_form : Cal P w K mg base CX0 1 "plain_form" p_plain_form (spPlain K) := ⟨f1, _, ok_plain_form B F1 , PySem.W.mg_of X G a1, k1, b1⟩
  have Ccheck_number : Cal P w K mg base (L2.CX P w) 3 "check_number" p_check_number (spCheckN K T.C N.C) := ⟨f2, _, ok_check_number B T N F2 Cis_int Cplain_form, PySem.W.mg_of X G a2, k2, b2⟩
  have Cwrong_fence_part : Cal P w K mg base CX0 2 "wrong_fence_part" p_wrong_fence_part (spWrong K) := ⟨f3, _, ok_wrong_fence_part B F3 Cis_int, PySem.W.mg_of X G a3, k3, b3⟩
  have Ccheck_fence : Cal P w K mg base (L2.CX P w) 3 "check_fence" p_check_fence (spCheckF K T.C N.C) := ⟨f4, _, ok_check_fence B T N F4 Cwrong_fence_part, PySem.W.mg_of X G a4, k4, b4⟩
  have Ccheck_other_fence : Cal P w K mg base (L2.CX P w) 3 "check_other_fence" p_check_other_fence (fun vs H Q E => ∃ v o, vs = [v] ∧ RowA K H v o ∧ OutR K T.C N.C H (gFen K) (checkO o) Q E) := ⟨f5, _, ok_check_other_fence B T N F5 Cwrong_fence_part, PySem.W.mg_of X G a5, k5, b5⟩
  have Ccheck_integers : Cal P w K mg base (L2.CX P w) 3 "check_integers" p_check_integers (spCheckI K T.C N.C) := ⟨f6, _, ok_check_integers B T N F6 Cis_int, PySem.W.mg_of X G a6, k6, b6⟩
  have Cholds_number : Cal P w K mg base CX0 1 "holds_number" p_holds_number (spHolds K) := ⟨f7, _, ok_holds_number B F7 , PySem.W.mg_of X G a7, k7, b7⟩
  have Cfence_of_plain : Cal P w K mg base CX0 1 "fence_of_plain" p_fence_of_plain (spRowF K) := ⟨f8, _, ok_fence_of_plain B F8 , PySem.W.mg_of X G a8, k8, b8⟩
  have Cfence_of : Cal P w K mg base (L2.CX P w) 4 "fence_of" p_fence_of (spFenceOf K T.C N.C) := ⟨f9, _, ok_fence_of B T N F9 Ccheck_integers Cfence_of_plain, PySem.W.mg_of X G a9, k9, b9⟩
  have Chas_number : Cal P w K mg base (L2.CX P w) 4 "has_number" p_has_number (spHas K T.C N.C) := ⟨f10, _, ok_has_number B T N F10 Ccheck_fence Cis_int Cplain_form Cholds_number, PySem.W.mg_of X G a10, k10, b10⟩
  have Cfence_size : Cal P w K mg base (L2.CX P w) 4 "fence_size" p_fence_size (spSize K T.C N.C) := ⟨f11, _, ok_fence_size B T N F11 Ccheck_fence, PySem.W.mg_of X G a11, k11, b11⟩
  have Cturned_by : Cal P w K mg base CX0 1 "turned_by" p_turned_by (spInv K) := ⟨f12, _, ok_turned_by B F12 , PySem.W.mg_of X G a12, k12, b12⟩
  have Ccommon_numbers : Cal P w K mg base CX0 2 "common_numbers" p_common_numbers (spCommon K) := ⟨f13, _, ok_common_numbers B F13 Cturned_by, PySem.W.mg_of X G a13, k13, b13⟩
  have Ceither_fence : Cal P w K mg base CX0 1 "either_fence" p_either_fence (spEitherT K) := ⟨f14, _, ok_either_fence B F14 , PySem.W.mg_of X G a14, k14, b14⟩
  have Cfence_either : Cal P w K mg base (L2.CX P w) 4 "fence_either" p_fence_either (spTwo K T.C N.C (gEither K)) := ⟨f15, _, ok_fence_either B T N F15 Ccheck_fence Ccheck_other_fence Ceither_fence, PySem.W.mg_of X G a15, k15, b15⟩
  have Cfence_behind : Cal P w K mg base (L2.CX P w) 4 "fence_behind" p_fence_behind (spTwo K T.C N.C (gBehind K)) := ⟨f16, _, ok_fence_behind B T N F16 Ccheck_fence Ccheck_other_fence, PySem.W.mg_of X G a16, k16, b16⟩
  have Cis_fence_within : Cal P w K mg base (L2.CX P w) 4 "is_fence_within" p_is_fence_within (spTwo K T.C N.C (gWithin)) := ⟨f17, _, ok_is_fence_within B T N F17 Ccheck_fence Ccheck_other_fence Cholds_number, PySem.W.mg_of X G a17, k17, b17⟩
  have Cfences_met : Cal P w K mg base (L2.CX P w) 4 "fences_met" p_fences_met (spTwo K T.C N.C (gMet K)) := ⟨f18, _, ok_fences_met B T N F18 Ccheck_fence Ccheck_other_fence Cholds_number Ccommon_numbers, PySem.W.mg_of X G a18, k18, b18⟩
  have Cfence_times : Cal P w K mg base (L2.CX P w) 4 "fence_times" p_fence_times (spTimes K T.C N.C) := ⟨f19, _, ok_fence_times B T N F19 Ccheck_fence Ccheck_number, PySem.W.mg_of X G a19, k19, b19⟩
  have Claw_just : Cal P w K mg base CX0 1 "_law_just" p_law_just (spJust K) := ⟨f20, _, ok_law_just B F20 , PySem.W.mg_of X G a20, k20, b20⟩
  have Claw_draws : Cal P w K mg base CX0 1 "_law_draws" p_law_draws (spDraws K) := ⟨f21, _, ok_law_draws B F21 , PySem.W.mg_of X G a21, k21, b21⟩
  have Claw_take : Cal P w K mg base CX0 1 "_law_take" p_law_take (spTake K) := ⟨f22, _, ok_law_take B F22 , PySem.W.mg_of X G a22, k22, b22⟩
  have Claw_gcd : Cal P w K mg base CX0 1 "_law_gcd" p_law_gcd (spGcd K) := ⟨f23, _, ok_law_gcd B F23 , PySem.W.mg_of X G a23, k23, b23⟩
  have Claw_inverse : Cal P w K mg base CX0 1 "_law_inverse" p_law_inverse (fun vs H Q _ => ∃ n b : Int, vs = [.int n, .int b] ∧ 0 < b ∧ b.natAbs < 2 ^ 299 ∧ (∀ d, d ∣ n → d ∣ b → d ∣ 1) ∧ ∀ r, 0 ≤ r → r < b → b ∣ r * n - 1 → Q (.int r) H) := ⟨f24, _, ok_law_inverse B F24 , PySem.W.mg_of X G a24, k24, b24⟩
  have Claw_has : Cal P w K mg base CX0 1 "_law_has" p_law_has (spHasL K) := ⟨f25, _, ok_law_has B F25 , PySem.W.mg_of X G a25, k25, b25⟩
  have Claw_met : Cal P w K mg base CX0 2 "_law_met" p_law_met (spMetL K) := ⟨f26, _, ok_law_met B F26 Claw_has Claw_gcd Claw_inverse, PySem.W.mg_of X G a26, k26, b26⟩
  have Claw_either : Cal P w K mg base CX0 2 "_law_either" p_law_either (spEitherL K) := ⟨f27, _, ok_law_either B F27 Claw_gcd, PySem.W.mg_of X G a27, k27, b27⟩
  have Claw_behind : Cal P w K mg base CX0 2 "_law_behind" p_law_behind (spBehindL K) := ⟨f28, _, ok_law_behind B F28 Claw_gcd, PySem.W.mg_of X G a28, k28, b28⟩
  have Claw_within : Cal P w K mg base CX0 2 "_law_within" p_law_within (spWithinL K) := ⟨f29, _, ok_law_within B F29 Claw_has, PySem.W.mg_of X G a29, k29, b29⟩
  have Claw_fence_drawn : Cal P w K mg base CX0 2 "_law_fence_drawn" p_law_fence_drawn (spDrawn K) := ⟨f30, _, ok_law_fence_drawn B F30 Claw_take, PySem.W.mg_of X G a30, k30, b30⟩
  have Claw_pair_asked : Cal P w K mg base CX0 5 "_law_pair_asked" p_law_pair_asked (spPair K) := ⟨f31, _, ok_law_pair_asked B T N F31 Claw_either Claw_behind Claw_met Claw_within Claw_just Cfence_either Cfence_behind Cfences_met Cis_fence_within, PySem.W.mg_of X G a31, k31, b31⟩
  have Claw_three_asked : Cal P w K mg base CX0 5 "_law_three_asked" p_law_three_asked (spThree K) := ⟨f32, _, ok_law_three_asked B T N F32 Claw_either Claw_behind Claw_met Claw_just Cfence_either Cfence_behind Cfences_met, PySem.W.mg_of X G a32, k32, b32⟩
  have Claw_times_asked : Cal P w K mg base CX0 5 "_law_times_asked" p_law_times_asked (spTimesL K) := ⟨f33, _, ok_law_times_asked B T N F33 Claw_just Cfence_behind Cfence_times, PySem.W.mg_of X G a33, k33, b33⟩
  have Claw_members_asked : Cal P w K mg base CX0 5 "_law_members_asked" p_law_members_asked (spMembers K) := ⟨f34, _, ok_law_members_asked B T N F34 Claw_just Claw_has Claw_gcd Cfence_size Chas_number Cfence_of, PySem.W.mg_of X G a34, k34, b34⟩
  have Claw_asked : Cal P w K mg base CX0 6 "_law_asked" p_law_asked (spAsked K) := ⟨f35, _, ok_law_asked B T N F35 Claw_pair_asked Claw_times_asked Claw_members_asked Claw_three_asked Claw_just Ccheck_number, PySem.W.mg_of X G a35, k35, b35⟩
  have Claw_call : Cal P w K mg base (L2.CX P w) 5 "_law_call" p_law_call (spCall K T.C N.C) := ⟨f36, _, ok_law_call B T N F36 Cfence_either Cfence_behind Cfences_met Cis_fence_within Chas_number Cfence_of Cfence_times Cfence_size Ccheck_number, PySem.W.mg_of X G a36, k36, b36⟩
  have Claw_refused : Cal P w K mg base CX0 6 "_law_refused" p_law_refused (spRefused K) := ⟨f37, _, ok_law_refused B T N Vf F37 Claw_call, PySem.W.mg_of X G a37, k37, b37⟩
  have Claw_refuses : Cal P w K mg base CX0 7 "_law_refuses" p_law_refuses (spRefuses K) := ⟨f38, _, ok_law_refuses B F38 Claw_just Claw_refused, PySem.W.mg_of X G a38, k38, b38⟩
  exact ok_law B F39 Claw_draws Claw_take Claw_fence_drawn Claw_asked Claw_refuses
end K68

open PySem PySem.W PyProof.Rows
set_option maxHeartbeats 0 in
theorem PySem.Challenge.cw_onlywhatvaries_k68_fences_as_a_lattice_holds : PySem.Challenge.rw_onlywhatvaries_k68_fences_as_a_lattice.Holds := by
  w_on; o_law; k_head; (case hw => w_witness2)
  k_fill
  refine L2.walk_of (l := PySem.Challenge.rw_onlywhatvaries_k68_fences_as_a_lattice) (n := 63) (k := 8) (x := "script") (CX := fun _ => L2.CX0) (sp := fun w => K68.spLaw _) rfl (by decide) rfl ⟨rfl, by decide, by decide⟩ (fun w h Y => PySem.W.kIn_of Y) ?F (fun _ _ a ns hl _ hS => ⟨a, ns, rfl, hS, hl, fun _ => rfl⟩) (fun _ _ _ _ _ h => h)
  case F =>
    intro w mg fa h KX G hmg
    refine' K68.all_mk KX G hmg ?aCR ?xCR ?rCR ?saCR ?gaCR ?ggCR ?nbCR ?aIR ?tIR ?lIR ?cIR ?kIR ?kCR ?eCR ?tCR ?hCR ?iCR ?sCR ?clCR ?mrCR ?aCN ?xCN ?rCN ?saCN ?gaCN ?ggCN ?nbCN ?aIN ?tIN ?lIN ?cIN ?kIN ?kCN ?eCN ?tCN ?hCN ?iCN ?sCN ?clCN ?mrCN ?gD ?tD ?aV ?iCV ?tCV ?bRV ?bRN ?bNV ?bNR ?y0 ?y1 ?a0 ?l0 ?c0 ?k0 ?a1 ?l1 ?c1 ?k1 ?a2 ?l2 ?c2 ?k2 ?a3 ?l3 ?c3 ?k3 ?a4 ?l4 ?c4 ?k4 ?a5 ?l5 ?c5 ?k5 ?a6 ?l6 ?c6 ?k6 ?a7 ?l7 ?c7 ?k7 ?a8 ?l8 ?c8 ?k8 ?a9 ?l9 ?c9 ?k9 ?a10 ?l10 ?c10 ?k10 ?a11 ?l11 ?c11 ?k11 ?a12 ?l12 ?c12 ?k12 ?a13 ?l13 ?c13 ?k13 ?a14 ?l14 ?c14 ?k14 ?a15 ?l15 ?c15 ?k15 ?a16 ?l16 ?c16 ?k16 ?a17 ?l17 ?c17 ?k17 ?a18 ?l18 ?c18 ?k18 ?a19 ?l19 ?c19 ?k19 ?a20 ?l20 ?c20 ?k20 ?a21 ?l21 ?c21 ?k21 ?a22 ?l22 ?c22 ?k22 ?a23 ?l23 ?c23 ?k23 ?a24 ?l24 ?c24 ?k24 ?a25 ?l25 ?c25 ?k25 ?a26 ?l26 ?c26 ?k26 ?a27 ?l27 ?c27 ?k27 ?a28 ?l28 ?c28 ?k28 ?a29 ?l29 ?c29 ?k29 ?a30 ?l30 ?c30 ?k30 ?a31 ?l31 ?c31 ?k31 ?a32 ?l32 ?c32 ?k32 ?a33 ?l33 ?c33 ?k33 ?a34 ?l34 ?c34 ?k34 ?a35 ?l35 ?c35 ?k35 ?a36 ?l36 ?c36 ?k36 ?a37 ?l37 ?c37 ?k37 ?a38 ?l38 ?c38 ?k38 ?a39 ?l39 ?c39 ?k39 ?z0 ?z1 ?z2 ?z3 ?z4 ?z5 ?z6 ?z7 ?z8 ?z9 ?z10 ?z11
    (case aCR => k_is)
    (case xCR => k_is)
    (case rCR => first | rfl | decide +kernel)
    (case saCR => k_is)
    (case gaCR => k_is)
    (case ggCR => k_is)
    (case nbCR => k_is)
    (case aIR => k_is)
    (case tIR => k_is)
    (case lIR => k_is)
    (case cIR => k_is)
    (case kIR => k_is)
    (case kCR => k_is)
    (case eCR => k_is)
    (case tCR => k_is)
    (case hCR => k_is)
    (case iCR => k_is)
    (case sCR => first | rfl | k_is | decide +kernel)
    (case clCR => k_is)
    (case mrCR => k_is)
    (case aCN => k_is)
    (case xCN => k_is)
    (case rCN => first | rfl | decide +kernel)
    (case saCN => k_is)
    (case gaCN => k_is)
    (case ggCN => k_is)
    (case nbCN => k_is)
    (case aIN => k_is)
    (case tIN => k_is)
    (case lIN => k_is)
    (case cIN => k_is)
    (case kIN => k_is)
    (case kCN => k_is)
    (case eCN => k_is)
    (case tCN => k_is)
    (case hCN => k_is)
    (case iCN => k_is)
    (case sCN => first | rfl | k_is | decide +kernel)
    (case clCN => k_is)
    (case mrCN => k_is)
    (case gD => k_is)
    (case tD => k_is)
    (case aV => k_is)
    (case iCV => k_is)
    (case tCV => k_is)
    (case bRV => first | rfl | k_is | decide +kernel)
    (case bRN => first | rfl | k_is | decide +kernel)
    (case bNV => first | rfl | k_is | decide +kernel)
    (case bNR => first | rfl | k_is | decide +kernel)
    (case y0 => k_is)
    (case y1 => k_is)
    (case a0 => k_is)
    (case l0 => k_is)
    (case c0 => k_is)
    (case k0 => k_is)
    (case a1 => k_is)
    (case l1 => k_is)
    (case c1 => k_is)
    (case k1 => k_is)
    (case a2 => k_is)
    (case l2 => k_is)
    (case c2 => k_is)
    (case k2 => k_is)
    (case a3 => k_is)
    (case l3 => k_is)
    (case c3 => k_is)
    (case k3 => k_is)
    (case a4 => k_is)
    (case l4 => k_is)
    (case c4 => k_is)
    (case k4 => k_is)
    (case a5 => k_is)
    (case l5 => k_is)
    (case c5 => k_is)
    (case k5 => k_is)
    (case a6 => k_is)
    (case l6 => k_is)
    (case c6 => k_is)
    (case k6 => k_is)
    (case a7 => k_is)
    (case l7 => k_is)
    (case c7 => k_is)
    (case k7 => k_is)
    (case a8 => k_is)
    (case l8 => k_is)
    (case c8 => k_is)
    (case k8 => k_is)
    (case a9 => k_is)
    (case l9 => k_is)
    (case c9 => k_is)
    (case k9 => k_is)
    (case a10 => k_is)
    (case l10 => k_is)
    (case c10 => k_is)
    (case k10 => k_is)
    (case a11 => k_is)
    (case l11 => k_is)
    (case c11 => k_is)
    (case k11 => k_is)
    (case a12 => k_is)
    (case l12 => k_is)
    (case c12 => k_is)
    (case k12 => k_is)
    (case a13 => k_is)
    (case l13 => k_is)
    (case c13 => k_is)
    (case k13 => k_is)
    (case a14 => k_is)
    (case l14 => k_is)
    (case c14 => k_is)
    (case k14 => k_is)
    (case a15 => k_is)
    (case l15 => k_is)
    (case c15 => k_is)
    (case k15 => k_is)
    (case a16 => k_is)
    (case l16 => k_is)
    (case c16 => k_is)
    (case k16 => k_is)
    (case a17 => k_is)
    (case l17 => k_is)
    (case c17 => k_is)
    (case k17 => k_is)
    (case a18 => k_is)
    (case l18 => k_is)
    (case c18 => k_is)
    (case k18 => k_is)
    (case a19 => k_is)
    (case l19 => k_is)
    (case c19 => k_is)
    (case k19 => k_is)
    (case a20 => k_is)
    (case l20 => k_is)
    (case c20 => k_is)
    (case k20 => k_is)
    (case a21 => k_is)
    (case l21 => k_is)
    (case c21 => k_is)
    (case k21 => k_is)
    (case a22 => k_is)
    (case l22 => k_is)
    (case c22 => k_is)
    (case k22 => k_is)
    (case a23 => k_is)
    (case l23 => k_is)
    (case c23 => k_is)
    (case k23 => k_is)
    (case a24 => k_is)
    (case l24 => k_is)
    (case c24 => k_is)
    (case k24 => k_is)
    (case a25 => k_is)
    (case l25 => k_is)
    (case c25 => k_is)
    (case k25 => k_is)
    (case a26 => k_is)
    (case l26 => k_is)
    (case c26 => k_is)
    (case k26 => k_is)
    (case a27 => k_is)
    (case l27 => k_is)
    (case c27 => k_is)
    (case k27 => k_is)
    (case a28 => k_is)
    (case l28 => k_is)
    (case c28 => k_is)
    (case k28 => k_is)
    (case a29 => k_is)
    (case l29 => k_is)
    (case c29 => k_is)
    (case k29 => k_is)
    (case a30 => k_is)
    (case l30 => k_is)
    (case c30 => k_is)
    (case k30 => k_is)
    (case a31 => k_is)
    (case l31 => k_is)
    (case c31 => k_is)
    (case k31 => k_is)
    (case a32 => k_is)
    (case l32 => k_is)
    (case c32 => k_is)
    (case k32 => k_is)
    (case a33 => k_is)
    (case l33 => k_is)
    (case c33 => k_is)
    (case k33 => k_is)
    (case a34 => k_is)
    (case l34 => k_is)
    (case c34 => k_is)
    (case k34 => k_is)
    (case a35 => k_is)
    (case l35 => k_is)
    (case c35 => k_is)
    (case k35 => k_is)
    (case a36 => k_is)
    (case l36 => k_is)
    (case c36 => k_is)
    (case k36 => k_is)
    (case a37 => k_is)
    (case l37 => k_is)
    (case c37 => k_is)
    (case k37 => k_is)
    (case a38 => k_is)
    (case l38 => k_is)
    (case c38 => k_is)
    (case k38 => k_is)
    (case a39 => k_is)
    (case l39 => k_is)
    (case c39 => k_is)
    (case k39 => k_is)
    (case z0 => k_is)
    (case z1 => k_is)
    (case z2 => k_is)
    (case z3 => k_is)
    (case z4 => k_is)
    (case z5 => k_is)
    (case z6 => k_is)
    (case z7 => k_is)
    (case z8 => k_is)
    (case z9 => k_is)
    (case z10 => k_is)
    (case z11 => k_is)

