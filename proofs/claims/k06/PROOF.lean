import PyProof.Rows.All
import Wide.All
import OpenK.AllK
import Wide.FinOn
import HandS.ForMost
import HandS.Walk
import HandS.Zip
import HandS.TupAny
import HandS.IsInst
import HandS.Strs
import KE.GoesMore
import HandS.SetFor
import HandS.SortInts
import PyProof.Rows.SortShellAny
import PySem.Challenge.RW_saidcounts_k06_whole_sayings_by_rules
set_option Elab.async false
set_option linter.all false
set_option maxRecDepth 100000
set_option maxHeartbeats 4000000
/-! Rules of our own over the hand layer: text * int, enumerate of a text and of a tuple, sum of a tuple. -/
namespace Say
open PySem PySem.Spec PyProof.Rows L2

/-! ### text * int -/
def rMulS : V → V → Hp → VK → Prop := fun x y H Q => ∃ (z : Str) (n : Int), x = .str z ∧ y = .int n ∧ z.length ≤ 16 ∧ n ≤ 1000 ∧ -(2 ^ 63) ≤ n ∧ Q (.str (Txt.mul z n)) H
theorem op_mulS {X : Cx} : OpR X (binaryOp .Mult) rMulS := by
  intro pins s σ H x y v u Q I rx ry h
  obtain ⟨z, n, rfl, rfl, hz, hn, hlo, q⟩ := h
  obtain ⟨t, rfl⟩ := rx
  obtain ⟨t', rfl⟩ := ry
  exact SB.mul (mulOk_of 16 1000 hz hn hlo (by decide) (by decide)) fun t2 k => ⟨.str (Txt.mul z n), H, I.tok _, ⟨_, rfl⟩, q⟩

/-! ### sum of a tuple -/
section
variable {prog : Program} {w : World} {A : Around} {E : Value → Shared → Prop} {s : Shared} {l : Addr} {its : List Value} {ns : List Int} {Q : Value → Shared → Prop}
theorem sum_tup (hh : A.handled = none) (hl : s.heap.IsTuple l its.toArray) (hi : IntsAre its ns)
    (h : ∀ h' tk t', (∀ b o, s.heap.get? b = some o → h'.get? b = some o) → Q (.int ns.sum t') { s with heap := h', toks := tk }) : wpAny (model prog w) A (call (.builtin "sum") [.ref l]) Q E s := by
  obtain ⟨xs, e⟩ := hi.allInts.items
  have hn : numsOf (intItems xs).toList = ns := by rw [← e]; exact hi.numsOf
  rw [nums_intItems] at hn
  rw [e] at hl
  have hlt : l < s.heap.objs.size := by obtain ⟨_, q, _⟩ := hl; exact Heap.lt_size q
  have hne : l ≠ s.heap.objs.size := Nat.ne_of_lt hlt
  refine call_sum_walkG (wpAny_pyIter_tuple hl ⟨s.heap.objs.size, _, _, _, _, _, numAt xs, rfl, Walks.tuple (A := A.in1) hh s.heap.objs.size l hne (intItems xs),
    ⟨⟨_, Heap.get?_push_size _ rfl, rfl, rfl⟩, hl.push _⟩, fun b hb => ?_, fun _ _ => intItems_at, fun h' tk t' hk => ?_⟩)
  · show b < (s.heap.push _).objs.size
    rw [Heap.size_push]
    have e2 : b = s.heap.objs.size ∨ b = l := by simpa using hb
    rcases e2 with z | z
    · rw [z]; exact Nat.lt_succ_self _
    · rw [z]; exact Nat.lt_succ_of_lt hlt
  · have q := h h' tk t' fun b o ob => hk b o (fun hm => absurd (Heap.lt_size ob) (by rw [List.mem_singleton.mp hm]; exact Nat.lt_irrefl _)) (Heap.get?_push_of_some _ ob)
    rw [preSum_eq, List.take_of_length_le (by simp [intItems]), hn]
    exact q
end
def rSumT (K : PySem.W.Frag) : List V → Hp → VK → Prop := fun vs H Q => ∃ (a : Addr) (ns : List Int), vs = [V.ref a] ∧ SqT K H a (ns.map V.int) ∧ Q (.int ns.sum) H
theorem cr_sumT {X : Cx} (hc : X.calm = true) : CallR X (.builtin "sum") (rSumT X.K) := by
  intro pins s σ H vs us Q I r h
  obtain ⟨a, ns, rfl, hs, q⟩ := h
  obtain ⟨its, rv, hl, _⟩ := I.tuple hs
  rw [Vals.ref1 r]
  exact sum_tup (I.ok.hd hc) hl rv.ints fun h' tk t' hk => ⟨.int _, H, I.kept hk, ⟨_, rfl⟩, q⟩

/-! ### enumerate over whatever draws -/
/-- the turns of an enumerate object e over an iterator it: what may be drawn is told by J -/
theorem turn_enumG {P : Program} {w : World} {K : PySem.W.Frag} {elts : List Expr} {kk : Nat} {tpos : Pos} {J : It} {e it : Addr} {Sn : Nat → Heap → Prop} (hei : e ≠ it)
    (hfr : ∀ i h h', Sn i h → (∀ o, h.get? it = some o → h'.get? it = some o) → Sn i h') (hob : ∀ i h, Sn i h → ∃ o, h.get? it = some o ∧ ∀ v, o.data ≠ .cell v)
    (hgo : ∀ (X : Cx), X.prog = P → X.w = w → X.K = K → X.calm = true → ∀ (i : Nat) (pins : List (Addr × Obj)) (s : Shared) (σ : L2.St) (H : Hp), Inv X pins σ H s → Sn i s.heap → (∃ o, s.heap.get? e = some o ∧ o.cls = .type "enumerate") → J.go i H →
      ∃ fp n Pv Sn', Draws P w X.A.in1 it fp n Pv Sn' ∧ Sn' i s.heap ∧ i < n ∧ e ∉ fp ∧ (∀ h', Sn' (i + 1) h' → Sn (i + 1) h') ∧ ∀ u, Pv i u → ∃ x, RelV x u ∧ ∀ T, H T = none → J.yld i H (.ref T) (upd H T (.tup [.int (i : Nat), x])))
    (hend : ∀ (X : Cx), X.prog = P → X.w = w → X.K = K → X.calm = true → ∀ (i : Nat) (pins : List (Addr × Obj)) (s : Shared) (σ : L2.St) (H : Hp), Inv X pins σ H s → Sn i s.heap → J.stop i H →
      ∃ fp Pv Sn', Draws P w X.A.in1 it fp i Pv Sn' ∧ Sn' i s.heap) :
    Turn P w K (.Tuple elts kk tpos) J [e, it] e (fun i h => (∃ old, IsEnum h e it ((i : Nat) : Int) old) ∧ Sn i h) where
  mem := List.mem_cons_self
  obj := fun i h st b hb => by
    obtain ⟨⟨old, he⟩, hst⟩ := st
    have e2 : b = e ∨ b = it := by simpa using hb
    rcases e2 with z | z
    · subst z
      exact ⟨_, he, fun v q => nomatch q⟩
    · subst z
      exact hob i h hst
  keep := fun i h h' st k => by
    obtain ⟨⟨old, he⟩, hst⟩ := st
    exact ⟨⟨old, k e (by simp) _ he⟩, hfr i h h' hst fun o q => k it (by simp) o q⟩
  item := by
    intro X hP hw hK hc i pins s σ H E I hf st hg
    obtain ⟨⟨old, he⟩, hst⟩ := st
    obtain ⟨fp, n, Pv, Sn', D, hst', hin, hef, hback, hY⟩ := hgo X hP hw hK hc i pins s σ H I hst ⟨_, he, rfl⟩ hg
    subst hP hw hK
    have hel : e < s.heap.objs.size := Heap.lt_size he
    have hil : it < s.heap.objs.size := by
      obtain ⟨o, q, _⟩ := hob i _ hst
      exact Heap.lt_size q
    refine wpAny_pyNext_enum_itemD D he hst' hin hei hef fun u h' tk hPu ho hs2 hT hsz hk => ?_
    obtain ⟨x, ru, hx⟩ := hY u hPu
    have hs3 := hback h' hs2
    refine ⟨_, rfl, wpAny_letOwnedTupleGo_enum (s := { s with heap := h', toks := tk + 1 }) ho fun h2 he2 sb => ?_⟩
    have hT2 := (sb.2 _ (Nat.ne_of_gt hel)).trans hT
    have new : ObjOk X.prog X.w (upd H s.heap.objs.size (.tup [.int (i : Nat), x])) h2 s.heap.objs.size (.tup [.int (i : Nat), x]) :=
      ⟨by show 2 ≤ sizeLine; decide, [.int i tk, u], .cons ⟨_, rfl⟩ (.cons ru .nil), ⟨_, hT2, rfl, _, rfl⟩⟩
    have kept : ∀ b o, b ∉ [e, it] → s.heap.get? b = some o → h2.get? b = some o := fun b o hb q =>
      (sb.2 b fun z => hb (z ▸ List.mem_cons_self)).trans (hk b o (fun z => hb (z ▸ List.mem_cons_self)) (fun z => hb (z ▸ List.mem_cons_of_mem _ List.mem_cons_self)) q)
    have I1 := I.turnedNew (h' := h2) (t' := tk + 1) kept hf (Nat.le_refl _) new
    refine ⟨.ref s.heap.objs.size, _, I1, rfl, hx _ (I.hok.fresh (Nat.le_refl _)), ⟨⟨u, ?_⟩, hfr _ h' h2 hs3 fun o q => (sb.2 it (Ne.symm hei)).trans q⟩, fun b hb => ?_⟩
    · rw [show ((i + 1 : Nat) : Int) = (i : Int) + 1 by omega]
      exact he2
    · have hb2 : b < s.heap.objs.size := by
        have e2 : b = e ∨ b = it := by simpa using hb
        rcases e2 with z | z <;> rw [z] <;> assumption
      rw [upd_ne (Nat.ne_of_lt hb2)]
      exact (hf b hb).1
  done := by
    intro X hP hw hK hc i pins s σ H E I hf st hg
    obtain ⟨⟨old, he⟩, hst⟩ := st
    obtain ⟨fp, Pv, Sn', D, hst'⟩ := hend X hP hw hK hc i pins s σ H I hst hg
    subst hP hw hK
    obtain ⟨f0, f1, f2, f3, f4, f5⟩ := hf it (by simp)
    exact wpAny_pyNext_enum_endD D he hst' fun h' eb => ⟨rfl, I.turned (t' := s.toks) (fun b o hb q => eb b o hb q) f0 f1 f3 f4 f5⟩
  self := fun A i s Q E st h => by
    obtain ⟨⟨_, he⟩, _⟩ := st
    exact wpAny_pyIter_enum he h

set_option maxHeartbeats 4000000 in
/-- enumerate(v) made: its iterator and itself, two new objects -/
theorem meets_enum1 {v : Value} {o : Obj} {G : Heap → Prop} (B : Begins v o G) :
    Meets (Builtin.«enumerate.__new__» ⟨[.type "enumerate", v], []⟩) (fun _ R s => G s.heap ∧
      R (.ok (.ret (.ref (s.heap.push o).objs.size))) { s with heap := (s.heap.push o).push { cls := .type "enumerate", data := .fields #[.none, .bool false, .ref s.heap.objs.size, rawInt 0, .none, .none] } }) :=
  .of_wp fun prog w A R s hyp => by
    obtain ⟨hp, g, d, tk, os⟩ := s
    obtain ⟨g1, fin⟩ := hyp
    have hsub := sub_enumerate
    have q0 : ∀ {A' : Around} {E' : Value → Shared → Prop} {Q' : Value → Shared → Prop}, Q' (.ref hp.objs.size) ⟨hp.push o, g, d, tk, os⟩ → wpAny (model prog w) A' (pyIter v) Q' E' ⟨hp, g, d, tk, os⟩ :=
      fun q => B.iter prog w _ _ ⟨hp, g, d, tk, os⟩ _ g1 q
    wp_walk using q0
    refine wpAny_stack_any fun stk => wpAny_pure ?_
    split
    · rename_i c _ _ _ _ _
      cases (c == Value.type "enumerate") <;> (wp_walk using q0; exact ⟨_, rfl, fin⟩)
    · wp_walk using q0
      exact ⟨_, rfl, fin⟩
theorem enum_made {prog : Program} {w : World} {A : Around} {E : Value → Shared → Prop} {s : Shared} {v : Value} {o : Obj} {G : Heap → Prop} {Q : Value → Shared → Prop} (B : Begins v o G) (g1 : G s.heap)
    (fin : ∀ h', IsEnum h' (s.heap.objs.size + 1) s.heap.objs.size 0 .none → h'.get? s.heap.objs.size = some o → (∀ b u, s.heap.get? b = some u → h'.get? b = some u) → Q (.ref (s.heap.objs.size + 1)) { s with heap := h' }) :
    wpAny (model prog w) A (call (.type "enumerate") [v]) Q E s := by
  refine callType_new F.called_enumerate (by decide) (F.typeCall_enumerate_1 _) (F.newCall_enumerate_1 _) (fun obj => F.args_object_init_2 obj _) F.entry_enumerate_new (meets_enum1 B) ⟨g1, ?_⟩
  have hz : (s.heap.push o).objs.size = s.heap.objs.size + 1 := Heap.size_push ..
  have he := Heap.get?_push_size (s.heap.push o) (o := { cls := .type "enumerate", data := .fields #[.none, .bool false, .ref s.heap.objs.size, rawInt 0, .none, .none] }) rfl
  show _ ∧ _
  rw [hz] at he ⊢
  exact ⟨⟨_, he, rfl⟩, fin _ he (Heap.get?_push_of_some _ (Heap.get?_push_size _ B.free)) fun b u q => Heap.get?_push_of_some _ (Heap.get?_push_of_some _ q)⟩

/-- the turns of enumerate(z), z a text -/
def ItES (z : Str) : It :=
  ⟨fun i _ => i < z.cps.size, fun i H v H' => ∃ T c, z.cps[i]? = some c ∧ v = .ref T ∧ H T = none ∧ H' = upd H T (.tup [.int (i : Nat), .str ⟨#[c]⟩]), fun i _ => i = z.cps.size⟩
/-- the turns of enumerate(t), t a tuple at a -/
def ItET (K : PySem.W.Frag) (a : Addr) : It :=
  ⟨fun i H => ∃ (xs : List V) (x : V), SqT K H a xs ∧ xs[i]? = some x, fun i H v H' => ∃ T x, (∀ xs, SqT K H a xs → xs[i]? = some x) ∧ v = .ref T ∧ H T = none ∧ H' = upd H T (.tup [.int (i : Nat), x]), fun i H => ∃ xs : List V, SqT K H a xs ∧ i = xs.length⟩
def iEnumS (ta : TA) : TI := fun σ H R => ta σ H fun vs H1 => ∃ z : Str, vs = [.str z] ∧ R (ItES z) H1
def iEnumT (K : PySem.W.Frag) (ta : TA) : TI := fun σ H R => ta σ H fun vs H1 => ∃ (a : Addr) (xs : List V), vs = [.ref a] ∧ SqT K H1 a xs ∧ R (ItET K a) H1
section
variable {X : Cx} {e : Expr} {ta : TA} {p pos tpos : Pos} {elts : List Expr} {kk : Nat}
theorem fp_two {pins : List (Addr × Obj)} {σ : L2.St} {H : Hp} {s : Shared} (I : Inv X pins σ H s) : ∀ b ∈ [s.heap.objs.size + 1, s.heap.objs.size], FpOk X pins H b := fun b hb => by
  have e2 : b = s.heap.objs.size + 1 ∨ b = s.heap.objs.size := by simpa using hb
  have hle : s.heap.objs.size ≤ b := by
    rcases e2 with z | z
    · rw [z]; exact Nat.le_succ _
    · rw [z]; exact Nat.le_refl _
  exact I.fpOk hle (I.hok.fresh hle)
theorem pi_enumS (hg : Gl X "enumerate") (hm : X.mg "enumerate" = none) (ha : PA X [e] ta) (hs : starEach [e] X.env = [(false, eval e X.env)] := by rfl) :
    PI X (.Tuple elts kk tpos) (.Call (.Name "enumerate" p) [e] [] pos) (iEnumS ta) := by
  refine ⟨fun pins s σ H R I h => ?_⟩
  refine Call_ (ld_blt I hg hm boot_enumerate (PyProof.Rows.callWith_type1 (thn (ha.run pos pins s σ H _ I h) fun us s1 ⟨vs, H1, I1, r1, z, ex, q⟩ => ?_) hs rfl))
  subst ex
  cases r1 with
  | cons r rr =>
    cases rr
    obtain ⟨t, rfl⟩ := r
    refine enum_made (begins_text z t) trivial fun h' he hit hk => wpAny_pyIter_enum he ?_
    have I2 : Inv X pins σ H1 { s1 with heap := h' } := I1.kept (t' := s1.toks) hk
    refine ⟨s1.heap.objs.size + 1, [s1.heap.objs.size + 1, s1.heap.objs.size], _, _, H1, rfl, I2,
      turn_enumG (J := ItES z) (Sn := fun i h => h.IsStrIter s1.heap.objs.size (strIterType z) z t i) (Nat.succ_ne_self _) (fun i h h2 st k => ?_) (fun i h st => ?_) (fun X' hP hw hK hc i pins' s' σ' H' I' st he' hg' => ?_) (fun X' hP hw hK hc i pins' s' σ' H' I' st hg' => ?_),
      ⟨⟨.none, he⟩, ⟨_, hit, rfl, rfl⟩⟩, fp_two I1, q⟩
    · obtain ⟨o, ho, r⟩ := st
      exact ⟨o, k o ho, r⟩
    · obtain ⟨o, ho, _, hd⟩ := st
      exact ⟨o, ho, fun v q => by rw [hd] at q; cases q⟩
    · refine ⟨_, _, _, _, Draws.text (by simpa using I'.ok.hd hc) _ z t, st, hg', by simp, fun _ x => x, fun u hu => ?_⟩
      obtain ⟨c, tk, hcz, rfl⟩ := hu
      exact ⟨.str ⟨#[c]⟩, ⟨tk, rfl⟩, fun T nT => ⟨T, c, hcz, rfl, nT, rfl⟩⟩
    · have hg2 : i = z.cps.size := hg'
      subst hg2
      exact ⟨_, _, _, Draws.text (by simpa using I'.ok.hd hc) _ z t, st⟩
theorem pi_enumT (hg : Gl X "enumerate") (hm : X.mg "enumerate" = none) (ha : PA X [e] ta) (hs : starEach [e] X.env = [(false, eval e X.env)] := by rfl) :
    PI X (.Tuple elts kk tpos) (.Call (.Name "enumerate" p) [e] [] pos) (iEnumT X.K ta) := by
  refine ⟨fun pins s σ H R I h => ?_⟩
  refine Call_ (ld_blt I hg hm boot_enumerate (PyProof.Rows.callWith_type1 (thn (ha.run pos pins s σ H _ I h) fun us s1 ⟨vs, H1, I1, r1, a, xs, ex, hq, q⟩ => ?_) hs rfl))
  subst ex
  cases r1 with
  | cons r rr =>
    cases rr
    cases r
    obtain ⟨its0, rv0, p0, _⟩ := I1.tuple hq
    have hal : a < s1.heap.objs.size := by
      obtain ⟨_, q, _⟩ := p0
      exact Heap.lt_size q
    refine enum_made (begins_tuple a its0.toArray) p0 fun h' he hit hk => wpAny_pyIter_enum he ?_
    have I2 : Inv X pins σ H1 { s1 with heap := h' } := I1.kept (t' := s1.toks) hk
    refine ⟨s1.heap.objs.size + 1, [s1.heap.objs.size + 1, s1.heap.objs.size], _, _, H1, rfl, I2,
      turn_enumG (J := ItET X.K a) (Sn := fun i h => h.IsTupleIter s1.heap.objs.size a i) (Nat.succ_ne_self _) (fun i h h2 st k => st.at k) (fun i h st => ?_) (fun X' hP hw hK hc i pins' s' σ' H' I' st he' hg' => ?_) (fun X' hP hw hK hc i pins' s' σ' H' I' st hg' => ?_),
      ⟨⟨.none, he⟩, ⟨_, hit, rfl, rfl⟩⟩, fp_two I1, q⟩
    · obtain ⟨o, ho, _, hd⟩ := st
      exact ⟨o, ho, fun v q => by rw [hd] at q; cases q⟩
    · obtain ⟨ys, x, hy, hx⟩ := hg'

      rw [← hK] at hy ⊢
      obtain ⟨its, rv, p1, _⟩ := I'.tuple hy
      obtain ⟨u, hu, ru⟩ := rv.get hx
      have hlen : i < its.toArray.size := by
        rw [List.size_toArray]
        exact (List.getElem?_eq_some_iff.mp hu).1
      have hae : s1.heap.objs.size + 1 ≠ a := Nat.ne_of_gt (Nat.lt_succ_of_lt hal)
      refine ⟨_, _, _, _, Draws.tuple (by simpa using I'.ok.hd hc) s1.heap.objs.size a (Nat.ne_of_lt hal) its.toArray, ⟨st, p1⟩, hlen, by simp [hae], fun _ x => x.1, fun v hv => ?_⟩
      have ev : v = u := Option.some.inj (hv.symm.trans (by simpa using hu))
      subst ev
      exact ⟨x, ru, fun T nT => ⟨T, x, fun zs hz => by rw [I'.tuple_inj hz hy]; exact hx, rfl, nT, rfl⟩⟩
    · obtain ⟨ys, hy, hx⟩ := hg'

      rw [← hK] at hy
      obtain ⟨its, rv, p1, _⟩ := I'.tuple hy
      have hlen : i = its.toArray.size := by
        rw [List.size_toArray, ← rv.length]
        exact hx
      have D := Draws.tuple (prog := X.prog) (w := X.w) (A := X'.A.in1) (by simpa using I'.ok.hd hc) s1.heap.objs.size a (Nat.ne_of_lt hal) its.toArray
      rw [← hlen] at D
      exact ⟨_, _, _, D, ⟨st, p1⟩⟩
end
theorem walk_enumS {z : Str} : Walk (ItES z) z.cps.size (fun _ => True) (fun i H v H' => ∃ T c, z.cps[i]? = some c ∧ v = .ref T ∧ H T = none ∧ H' = upd H T (.tup [.int (i : Nat), .str ⟨#[c]⟩])) :=
  ⟨fun _ _ hi _ => hi, fun _ _ => rfl, fun _ _ _ _ _ _ y => y⟩
theorem walk_enumT {K : PySem.W.Frag} {a : Addr} {xs : List V} : Walk (ItET K a) xs.length (fun H => SqT K H a xs) (fun i H v H' => ∃ T x, xs[i]? = some x ∧ v = .ref T ∧ H T = none ∧ H' = upd H T (.tup [.int (i : Nat), x])) := by
  refine ⟨fun i _ hi q => ⟨xs, xs[i], q, by simp [hi]⟩, fun _ q => ⟨xs, q, rfl⟩, fun i H v H' hi q y => ?_⟩
  obtain ⟨T, x, h1, h2, h3, h4⟩ := y
  exact ⟨T, x, h1 xs q, h2, h3, h4⟩
end Say

set_option Elab.async false
set_option linter.all false
set_option maxRecDepth 100000
set_option maxHeartbeats 4000000
/-! Rules of our own: set(list) told by any word that each add keeps; sets of ints and of texts so made; sorted of a set of texts. -/
namespace Say
open PySem PySem.Spec PyProof.Rows L2

/-! ### set(list), whatever is known of the set -/
/-- the set as it is made empty -/
abbrev freshSet (w : World) : Obj := { cls := .type "set", dict := none, data := .set #[] 0 (.fresh 0 0 (!w.params.followText "set-order")) }
section
variable {P : Program} {w : World}
theorem set_loopG {A : Around} {I S : Addr} {fp wr : List Addr} {G : Array GenState → Array GenState → Prop} {n : Nat} {Pv : Nat → Value → Prop} {Sn : Nat → Shared → Prop} {R : Result → Shared → Prop}
    (W : WalksS P w A.in1 I fp wr G n Pv Sn) (hS : S ∉ fp) (SI : Nat → Heap → Prop) (hfr : ∀ i h h', SI i h → (∀ o, h.get? S = some o → h'.get? S = some o) → SI i h')
    (hadd : ∀ (i : Nat) (v : Value) (s : Shared) (Q : Bool → Shared → Prop) (E : Value → Shared → Prop), i < n → Pv i v → SI i s.heap →
      (∀ h' tk b, s.toks ≤ tk → Heap.SameBut S s.heap h' → SI (i + 1) h' → Q b { s with heap := h', toks := tk }) → wpAny (model P w) A.in1 (setAdd S v) Q E s) :
    ∀ (k i : Nat) (s : Shared), i + k = n → Sn i s → SI i s.heap → (∀ s', Moved (S :: wr) G s s' → SI n s'.heap → R (.ok (.ret .none)) s') →
      codeAny (model P w) A (.builtin "set.update.loop" ⟨[.ref S, .ref I], []⟩) R s
  | 0, i, s, hk, hst, hSI, hR => by
    have e : i = n := by omega
    subst e
    refine codeAny_builtin F.entry_set_update_loop ?_
    rw [Around.under_plainId F.plain_set_update_loop _]
    refine wpAny_bind (W.done s _ _ hst fun s1 mv => wpAny_pure (hR s1 (mv.mono fun b hb => List.mem_cons_of_mem _ hb) (hfr _ _ _ hSI fun o q => mv.heap S o (fun z => hS (W.sub _ z)) q)))
  | k + 1, i, s, hk, hst, hSI, hR => by
    have hlt : i < n := by omega
    refine codeAny_builtin F.entry_set_update_loop ?_
    rw [Around.under_plainId F.plain_set_update_loop _]
    refine wpAny_bind (W.item i s _ _ hlt hst fun v s1 pv hst1 mv => ?_)
    have hSI1 : SI i s1.heap := hfr _ _ _ hSI fun o q => mv.heap S o (fun z => hS (W.sub _ z)) q
    show wpAny _ A.in1 (holding [v] (setAdd S v) >>= _) _ _ s1
    refine wpAny_bind (wpAny_holding (hadd i v s1 _ _ hlt pv hSI1 fun h' tk b htk sb hSI2 => ?_))
    have old : ∀ c o, c ≠ S → s1.heap.get? c = some o → h'.get? c = some o := fun c o hc q => (sb.2 c hc).trans q
    refine wpAny_pure ⟨plainId_quiet F.plain_set_update_loop _, set_loopG W hS SI hfr hadd k (i + 1) _ (by omega) (W.frame _ s1 h' tk hst1 htk fun c hc o q => old c o (fun z => hS (z ▸ hc)) q) hSI2 fun s2 mv2 hSI3 => ?_⟩
    refine hR s2 (Moved.trans W.gtrans ((mv.mono fun c hc => List.mem_cons_of_mem _ hc).then_heap htk fun c o hc q => old c o (fun z => hc (z ▸ List.mem_cons_self)) q) mv2) hSI3

set_option maxRecDepth 100000 in
/-- set(l), l a list: SI holds of the empty set and is kept by each add -/
theorem set_of_list {A : Around} {E : Value → Shared → Prop} {s : Shared} {l : Addr} {items : Array Value} {Q : Value → Shared → Prop} (SI : Nat → Heap → Prop) (hh : A.handled = none) (hl : s.heap.IsList l items)
    (hfr : ∀ i h h', SI i h → (∀ o, h.get? s.heap.objs.size = some o → h'.get? s.heap.objs.size = some o) → SI i h')
    (h0 : ∀ h, h.get? s.heap.objs.size = some (freshSet w) → SI 0 h)
    (hadd : ∀ (A' : Around) (i : Nat) (v : Value) (s1 : Shared) (Q : Bool → Shared → Prop) (E : Value → Shared → Prop), items[i]? = some v → SI i s1.heap →
      (∀ h' tk b, s1.toks ≤ tk → Heap.SameBut s.heap.objs.size s1.heap h' → SI (i + 1) h' → Q b { s1 with heap := h', toks := tk }) → wpAny (model P w) A' (setAdd s.heap.objs.size v) Q E s1)
    (fin : ∀ (h' : Heap) (tk : Nat), SI items.size h' → (∀ b o, s.heap.get? b = some o → h'.get? b = some o) → Q (.ref s.heap.objs.size) { s with heap := h', toks := tk }) :
    wpAny (model P w) A (call (.type "set") [.ref l]) Q E s := by
  obtain ⟨c, tl, hmro⟩ := F.called_set.mro
  have hmade := F.called_set.made
  have hsub := F.called_set.sub
  refine wpAny_call (codeAny_of_tree ?_)
  show wpAny _ _ (callAny (.type "set") _) _ _ _
  refine wpAny_pure ⟨Code.quiet_builtin _ (by decide +kernel), codeAny_builtin F.entry_type_call ?_⟩
  rw [Around.under_plain (weight_type_call_type "set" [.ref l] []) rfl]
  have h1 := F.called_set.notType
  have h2 := F.called_set.canCreate
  have hct := F.typeCall_set_1 (.ref l)
  repeat (any_goals (first | assumption | wp_step))
  refine codeAny_mono (code_set_led1 (.ref l) (E := E) (Q₁ := fun obj s₁ => obj = .ref s.heap.objs.size ∧ s₁ = { s with heap := s.heap.push (freshSet w) }) ⟨rfl, rfl⟩) fun r s₁ hr => ?_
  match r, hr with
  | .error e, hr => exact hr
  | .ok (.ret obj), ⟨e1, e2⟩ =>
    subst e1 e2
    have hS : (s.heap.push (freshSet w)).get? s.heap.objs.size = some (freshSet w) := Heap.get?_push_size _ rfl
    have hT : Shared.TypeIs { s with heap := s.heap.push (freshSet w) } (.ref s.heap.objs.size) "set" := ⟨_, hS, rfl⟩
    have hli := F.called_set.init.lookup
    have hbi := F.called_set.init.bind (.ref s.heap.objs.size)
    repeat (any_goals (first | assumption | wp_step))
    refine codeAny_mono (codeAny_call_builtin (R := wants (fun r s₂ => r = .none ∧ ∃ h' tk, s₂ = { s with heap := h', toks := tk } ∧ SI items.size h' ∧ ∀ b o, s.heap.get? b = some o → h'.get? b = some o) E)
      F.called_set.init.plain F.entry_set_init (check_set_init_1 hT ?_)) fun r₂ s₂ hr₂ => ?_
    · obtain ⟨⟨ocls, odict, odata, oslots⟩, hol, hcl, nl, hdl⟩ := hl
      simp only at hcl hdl
      subst hcl hdl
      have hlS : l < s.heap.objs.size := Heap.lt_size hol
      have hol2 := Heap.get?_push_of_some (freshSet w) hol
      have a1 := F.sub_list_set
      have a2 := F.sub_list_frozenset
      have a3 : (Value.type "list" == Value.type "dict") = false := by decide
      have hl1 : (s.heap.push (freshSet w)).IsList l items := ⟨_, hol2, rfl, nl, rfl⟩
      unfold Builtin.«set.__init__» noKeywords Builtin.Frozenset.updateFrom
      generalize hPI : pyIter = PI
      wp_walk
      subst hPI
      refine wpAny_pyIter_list hl1 ?_
      refine wpAny_bind (wpAny_runValue ?_)
      have hz : (s.heap.push (freshSet w)).objs.size = s.heap.objs.size + 1 := Heap.size_push ..
      have hneI : l ≠ (s.heap.push (freshSet w)).objs.size := by rw [hz]; exact Nat.ne_of_lt (Nat.lt_succ_of_lt hlS)
      have hSf : s.heap.objs.size ∉ [(s.heap.push (freshSet w)).objs.size, l] := fun hm => by
        rw [hz] at hm
        rcases List.mem_cons.mp hm with z | z
        · exact Nat.ne_of_lt (Nat.lt_succ_self _) z
        · exact Nat.ne_of_gt hlS (List.mem_singleton.mp z)
      refine set_loopG (Walks.list (by simp [hh]) _ l hneI items).toS hSf SI hfr (fun i v s1 Q E hi pv hSI q => hadd _ i v s1 Q E pv hSI q) items.size 0 _ (Nat.zero_add _)
        ⟨⟨_, Heap.get?_push_size _ rfl, rfl, rfl⟩, hl1.push _⟩ (h0 _ (Heap.get?_push_of_some _ hS)) fun s' mv hSI => ?_
      obtain ⟨h', g2, d2, tk, os2⟩ := s'
      obtain ⟨mh, mg, md, mo, mt⟩ := mv
      dsimp only at mh mg md mo mt
      subst mg md mo
      show wpAny _ _ _ _ _ _
      refine wpAny_pure ?_
      show wpAny _ _ (ret Value.none) _ _ _
      refine wpAny_pure ⟨rfl, h', tk, rfl, hSI, fun b o q => mh b o (fun hm => ?_) (Heap.get?_push_of_some _ (Heap.get?_push_of_some _ q))⟩
      have hb := Heap.lt_size q
      rcases List.mem_cons.mp hm with z | z
      · exact Nat.ne_of_lt hb z
      · have z2 := List.mem_singleton.mp z
        rw [hz] at z2
        exact Nat.ne_of_lt (Nat.lt_succ_of_lt hb) z2
    · match r₂, hr₂ with
      | .error e, hr₂ => exact hr₂
      | .ok (.ret r), ⟨e1, h', tk, e2, hSI, hk⟩ =>
        subst e1 e2
        repeat (any_goals (first | assumption | wp_step))
        exact fin _ _ hSI hk
end
end Say

set_option Elab.async false
set_option linter.all false
set_option maxRecDepth 100000
set_option maxHeartbeats 4000000
namespace Say
open PySem PySem.Spec PyProof.Rows L2
theorem mem_take_succ {α : Type} {l : List α} {i : Nat} (h : i < l.length) (x : α) : x ∈ l.take (i + 1) ↔ x ∈ l.take i ∨ x = l[i] := by
  rw [List.take_add_one, List.getElem?_eq_getElem h]
  show x ∈ _ ++ [l[i]] ↔ _
  rw [List.mem_append, List.mem_singleton]

/-! ### set(list of ints) -/
section
variable {P : Program} {w : World}
theorem cr_setI {X : Cx} (hc : X.calm = true) : CallR X (.type "set") (fun vs H Q => ∃ (a : Addr) (ns : List Int), vs = [V.ref a] ∧ SqL X.K H a (ns.map V.int) ∧ ns.length ≤ 1000 ∧
    ∀ p n S, n ≤ ns.length → (∀ k, S k = true ↔ k ∈ ns) → H p = none → Q (.ref p) (upd H p (SetO X.w p S n))) := by
  intro pins s σ H vs us Q I r h
  obtain ⟨a, ns, rfl, hs, hlen, q⟩ := h
  obtain ⟨its, rv, hl, _⟩ := I.list hs
  rw [Vals.ref1 r]
  have hi : IntsAre its ns := rv.ints
  have hz : its.length = ns.length := by rw [← rv.length, List.length_map]
  have hsz : its.toArray.size = ns.length := by rw [List.size_toArray, hz]
  refine set_of_list (w := X.w) (fun i h' => ∃ c, c ≤ i ∧ SetR X.w h' s.heap.objs.size (fun j => decide (j ∈ ns.take i)) c) (I.ok.hd hc) hl.isList (fun i h1 h2 st k => ?_) (fun h1 e => ?_) (fun A' i v s1 Q' E' hv st k => ?_) (fun h' tk st hk => ?_)
  · obtain ⟨c, hc1, R⟩ := st
    exact ⟨c, hc1, R.at k⟩
  · exact ⟨0, Nat.le_refl _, setR_new_at e⟩
  · obtain ⟨c, hc1, R⟩ := st
    have hin : i < ns.length := by
      rw [← hsz]
      exact (Array.getElem?_eq_some_iff.mp hv).1
    obtain ⟨t, e⟩ := hi.int_at i v (by simpa using hv)
    rw [List.getD_eq_getElem?_getD, List.getElem?_eq_getElem hin] at e
    have e2 : v = .int ns[i] t := e
    subst e2
    unfold setAdd
    refine wpAny_holding (wpAny_bind ((intKind X.prog X.w).pyHash (intKind_is _ _ _ t) ?_))
    refine setR_add_hashed (s := { s1 with toks := s1.toks + 1 }) R (by unfold scanBound; omega) fun h' sb R2 => ?_
    refine k h' (s1.toks + 1) _ (Nat.le_succ _) sb ⟨_, ?_, R2.congr fun j => ?_⟩
    · split <;> omega
    · rw [Bool.eq_iff_iff, Bool.or_eq_true, decide_eq_true_eq, decide_eq_true_eq, decide_eq_true_eq]
      exact mem_take_succ hin j
  · obtain ⟨c, hc1, R⟩ := st
    rw [hsz, List.take_length] at R
    refine ⟨.ref _, upd H s.heap.objs.size (SetO X.w s.heap.objs.size (fun j => decide (j ∈ ns)) c), I.laid (t' := tk) hk (Nat.le_refl _) (setO_new R), rfl, q _ _ _ (by omega) (fun j => by rw [decide_eq_true_eq]) (I.hok.fresh (Nat.le_refl _))⟩

/-! ### sets of texts -/
/-- the text that a value is -/
def txtOf : Value → Str
  | .str x _ => x
  | _ => Str.empty
/-- the set of texts at a: its members, each once, in some order -/
def TSet (w : World) (h : Heap) (a : Addr) (ks : List Str) : Prop :=
  ∃ o es ep t, h.get? a = some o ∧ o.ExactSet ∧ o.data = .set es ep t ∧ (∀ e ∈ es.toList, ∃ x tk, e = (hashStr w x, Value.str x tk)) ∧ (es.toList.map fun e => txtOf e.2).Perm ks ∧ ks.Nodup ∧
    es.size < scanBound ∧ t.fits es.size = true ∧ Ris t.place.toList ∧ (w.params.followText "set-order" = true ∨ t.led = true)
theorem TSet.at {h h' : Heap} {a : Addr} {ks : List Str} (R : TSet w h a ks) (k : ∀ o, h.get? a = some o → h'.get? a = some o) : TSet w h' a ks := by
  obtain ⟨o, es, ep, t, ho, r⟩ := R
  exact ⟨o, es, ep, t, k o ho, r⟩
theorem tset_fresh {h : Heap} {a : Addr} (e : h.get? a = some (freshSet w)) : TSet w h a [] := by
  refine ⟨_, #[], 0, _, e, ⟨rfl, rfl, rfl⟩, rfl, fun e he => ?_, List.Perm.refl _, List.nodup_nil, by decide, by rfl, List.Pairwise.nil, ?_⟩
  · simp at he
  · show _ ∨ (!w.params.followText "set-order") = true
    cases w.params.followText "set-order"
    · exact .inr rfl
    · exact .inl rfl
theorem elems_txt {l : List (Int × Value)} (g : ∀ e ∈ l, ∃ x tk, e = (hashStr w x, Value.str x tk)) : ElemsOf (strKind P w) l := fun e he => by
  obtain ⟨x, tk, rfl⟩ := g e he
  exact ⟨⟨x, strKind_is P w x tk, rfl⟩, rfl⟩
theorem find_txt {l : List (Int × Value)} (g : ∀ e ∈ l, ∃ x tk, e = (hashStr w x, Value.str x tk)) (x : Str) : x ∈ l.map (fun e => txtOf e.2) ↔ ∃ e ∈ l, (strKind P w).is x e.2 = true := by
  have one : ∀ e ∈ l, (txtOf e.2 = x ↔ (strKind P w).is x e.2 = true) := fun e he => by
    obtain ⟨y, tk, rfl⟩ := g e he
    show y = x ↔ (y == x) = true
    exact beq_iff_eq.symm
  rw [List.mem_map]
  exact ⟨fun ⟨e, he, q⟩ => ⟨e, he, (one e he).1 q⟩, fun ⟨e, he, q⟩ => ⟨e, he, (one e he).2 q⟩⟩
/-- the new entries stored, and laid anew where the table is too full -/
theorem tset_store {A : Around} {E : Value → Shared → Prop} {s : Shared} {a : Addr} {g : Bool → Sem Unit} (hg : ∀ (b : Bool) (s₁ : Shared) (Q' : Unit → Shared → Prop), Q' () s₁ → wpAny (model P w) A (g b) Q' E s₁)
    {o : Obj} {es es1 : Array (Int × Value)} {ep : Nat} {t t2 : SetTable} {ks : List Str} {wd : Bool} {R : Option Bool → Shared → Prop} (ho : s.heap.get? a = some o) (hex : o.ExactSet) (hd : o.data = .set es ep t)
    (hm : ∀ e ∈ es1.toList, ∃ x tk, e = (hashStr w x, Value.str x tk)) (hp : (es1.toList.map fun e => txtOf e.2).Perm ks) (hn : ks.Nodup) (hb : es1.size < scanBound) (hf : t2.fits es1.size = true) (hr : Ris t2.place.toList)
    (hl : w.params.followText "set-order" = true ∨ t2.led = true) (hR : ∀ h', Heap.SameBut a s.heap h' → TSet w h' a ks → R (some true) { s with heap := h' }) :
    wpAny (model P w) A (do
        storeSet a es1 t2
        if (!wd && t2.tooFull) = true then do
            g (relayAll t2 es1 (SetTable.grown es1.size)).2.2
            storeSet a (relayAll t2 es1 (SetTable.grown es1.size)).1 (relayAll t2 es1 (SetTable.grown es1.size)).2.1
            pure (some true)
          else pure (some true)) R E s := by
  have same1 := Heap.SameBut.update s.heap a (Obj.putSet es1 t2)
  have at1 := store_at (es' := es1) (t' := t2) ho hd
  refine wpAny_bind (wpAny_storeSet_of ho hd ?_ (fits_of_scanBound hb))
  by_cases full : (!wd && t2.tooFull) = true
  · rw [if_pos full]
    have p2 := relayAll_perm t2 es1 (SetTable.grown es1.size)
    have f2 := relayAll_fits t2 es1 (SetTable.grown es1.size)
    have r2 := relayAll_ris t2 es1 (SetTable.grown es1.size)
    have l2 := relayAll_led t2 es1 (SetTable.grown es1.size)
    generalize relayAll t2 es1 (SetTable.grown es1.size) = Z at p2 f2 r2 l2 ⊢
    obtain ⟨es2, t3, gave⟩ := Z
    dsimp only at p2 f2 r2 l2 ⊢
    have sz : es2.size = es1.size := by
      have q := p2.length_eq
      rwa [Array.length_toList, Array.length_toList] at q
    refine wpAny_bind (hg _ _ _ (wpAny_bind (wpAny_storeSet_of at1 rfl (wpAny_pure (hR _ (same1.trans (Heap.SameBut.update _ a _)) ?_)) (fits_of_scanBound (by rw [sz]; exact hb)))))
    exact ⟨_, es2, _, t3, store_at (es' := es2) (t' := t3) at1 rfl, hex, rfl, fun e he => hm e (p2.mem_iff.mp he), (p2.map _).trans hp, hn, by rw [sz]; exact hb, f2, r2, hl.imp id fun z => by rw [l2]; exact z⟩
  · rw [if_neg full]
    exact wpAny_pure (hR _ same1 ⟨_, es1, _, t2, at1, hex, rfl, hm, hp, hn, hb, hf, hr, hl⟩)
theorem tset_add {A : Around} {E : Value → Shared → Prop} {s : Shared} {a : Addr} {ks : List Str} {x : Str} {tk : Tok} {Q : Bool → Shared → Prop} (R : TSet w s.heap a ks) (room : ks.length + 1 < scanBound)
    (h1 : x ∈ ks → ∀ b, Q b s) (h2 : x ∉ ks → ∀ h' b, Heap.SameBut a s.heap h' → TSet w h' a (x :: ks) → Q b { s with heap := h' }) :
    wpAny (model P w) A (setAddHashed a (.str x tk) (hashStr w x)) Q E s := by
  obtain ⟨o, es, ep, t, ho, hex, hd, g, hp, hn, hb, hf, hr, hl⟩ := R
  have key : (strKind P w).is x (.str x tk) = true := strKind_is P w x tk
  have sc : (Value.str x tk).scannable = true := rfl
  have el : ElemsOf (strKind P w) es.toList := elems_txt g
  have hh : hashStr w x = (strKind P w).hash x := rfl
  have hlen : es.size = ks.length := by
    have q := hp.length_eq
    rwa [List.length_map, Array.length_toList] at q
  unfold setAddHashed setAddHashedIn
  refine wpAny_holding (wpAny_bind (wpAny_setState_of ho hd hf ?_))
  dsimp only
  rw [byScan_of sc hb el]
  simp only [↓reduceIte]
  unfold setAddByScan
  rw [hh]
  refine wpAny_bind (wpAny_bind (wpAny_rule (wpAny_bind (wpAny_setScan_of key ho hd hf el ?_))))
  have memb := find_txt (P := P) g x
  cases hfi : List.findIdx? (fun e => (strKind P w).is x e.2) es.toList with
  | some j =>
    obtain ⟨hj, pj, _⟩ := List.findIdx?_eq_some_iff_getElem.mp hfi
    exact wpAny_pure (wpAny_pure (h1 (hp.mem_iff.mp (memb.2 ⟨es.toList[j], List.getElem_mem hj, pj⟩)) _))
  | none =>
    have hno : x ∉ ks := fun z => by
      obtain ⟨e, he, q⟩ := memb.1 (hp.mem_iff.mpr z)
      have c := List.findIdx?_eq_none_iff.mp hfi e he
      rw [q] at c
      cases c
    dsimp only
    have gw : ∀ (b : Bool) {s₁ : Shared} {Q' : Unit → Shared → Prop}, Q' () s₁ → wpAny (model P w) A (match b with | true => rule "set.scan.the-table-gave-way" | false => pure ()) Q' E s₁ := fun b s₁ Q' q => by
      cases b
      · exact wpAny_pure q
      · exact wpAny_rule q
    have p1 := layNew_perm t es ((strKind P w).hash x) (.str x tk)
    have f1 := layNew_fits t es ((strKind P w).hash x) (.str x tk)
    have r1 := layNew_ris t es ((strKind P w).hash x) (.str x tk) hr
    have l1 := layNew_led t es ((strKind P w).hash x) (.str x tk)
    generalize layNew t es ((strKind P w).hash x) (.str x tk) = Z at p1 f1 r1 l1 ⊢
    obtain ⟨es1, t1, wd, gave⟩ := Z
    dsimp only at p1 f1 r1 l1 ⊢
    rw [Array.toList_push] at p1
    have pc := p1.trans (List.perm_append_singleton _ _)
    have m1 : ∀ e ∈ es1.toList, ∃ y tk, e = (hashStr w y, Value.str y tk) := fun e he => by
      rcases List.mem_cons.mp (pc.mem_iff.mp he) with z | z
      · exact ⟨x, tk, z⟩
      · exact g e z
    have pk : (es1.toList.map fun e => txtOf e.2).Perm (x :: ks) := (pc.map _).trans (hp.cons x)
    have b1 : es1.size < scanBound := by
      have q := pk.length_eq
      rw [List.length_map, Array.length_toList, List.length_cons] at q
      omega
    have led : w.params.followText "set-order" = true ∨ t1.led = true := hl.imp id fun z => by rw [l1]; exact z
    have fin : ∀ h', Heap.SameBut a s.heap h' → TSet w h' a (x :: ks) → ∀ b, Q b { s with heap := h' } := fun h' sb r b => h2 hno h' b sb r
    refine wpAny_bind (gw _ ?_)
    split
    · refine wpAny_bind ?_
      rw [hashByValue_scannable 8 sc]
      refine wpAny_pure (tset_store ?_ ho hex hd m1 pk (List.nodup_cons.mpr ⟨hno, hn⟩) b1 ?_ ?_ ?_ fun h' sb r => wpAny_pure (fin h' sb r _))
      · exact fun b s₁ Q' q => gw b q
      · first | exact f1 | (split <;> first | exact f1 | exact SetTable.fits_plain_off f1)
      · first | exact r1 | (split <;> exact r1)
      · first | exact led | (split <;> exact led)
    · refine wpAny_bind (wpAny_pure ?_)
      simp only [↓reduceIte]
      exact tset_store (fun b s₁ Q' q => gw b q) ho hex hd m1 pk (List.nodup_cons.mpr ⟨hno, hn⟩) b1 f1 r1 led fun h' sb r => wpAny_pure (fin h' sb r _)
/-- the set of texts as a thing of the heap -/
def SetTx (w : World) (a : Addr) (ks : List Str) : HO := .ext fun h => TSet w h a ks
theorem setTx_new {H : Hp} {h : Heap} {a : Addr} {ks : List Str} (R : TSet w h a ks) : ObjOk P w H h a (SetTx w a ks) := by
  obtain ⟨o, es, ep, t, ho, r⟩ := id R
  exact ⟨R, ⟨o, ho⟩, fun h1 h2 p k => TSet.at p k⟩
theorem cr_setS {X : Cx} (hc : X.calm = true) : CallR X (.type "set") (fun vs H Q => ∃ (a : Addr) (xs : List Str), vs = [V.ref a] ∧ SqL X.K H a (xs.map V.str) ∧ xs.length ≤ 1000 ∧
    ∀ p ks, ks.Nodup → (∀ k, k ∈ ks ↔ k ∈ xs) → ks.length ≤ xs.length → H p = none → Q (.ref p) (upd H p (SetTx X.w p ks))) := by
  intro pins s σ H vs us Q I r h
  obtain ⟨a, xs, rfl, hs, hlen, q⟩ := h
  obtain ⟨its, rv, hl, _⟩ := I.list hs
  rw [Vals.ref1 r]
  have hi : StrsAre its xs := strsAre_of rv
  have hz : its.length = xs.length := by rw [← rv.length, List.length_map]
  have hsz : its.toArray.size = xs.length := by rw [List.size_toArray, hz]
  refine set_of_list (w := X.w) (fun i h' => ∃ ks, TSet X.w h' s.heap.objs.size ks ∧ ks.Nodup ∧ (∀ k, k ∈ ks ↔ k ∈ xs.take i) ∧ ks.length ≤ i) (I.ok.hd hc) hl.isList (fun i h1 h2 st k => ?_) (fun h1 e => ?_) (fun A' i v s1 Q' E' hv st k => ?_) (fun h' tk st hk => ?_)
  · obtain ⟨ks, R, r⟩ := st
    exact ⟨ks, R.at k, r⟩
  · exact ⟨[], tset_fresh e, List.nodup_nil, fun k => by simp, Nat.le_refl _⟩
  · obtain ⟨ks, R, hn, hm, hle⟩ := st
    have hin : i < xs.length := by
      rw [← hsz]
      exact (Array.getElem?_eq_some_iff.mp hv).1
    obtain ⟨t, e⟩ := SS.strs_at hi i v (by simpa using hv)
    rw [List.getD_eq_getElem?_getD, List.getElem?_eq_getElem hin] at e
    have e2 : v = .str xs[i] t := e
    subst e2
    have mem2 : ∀ j, j ∈ xs.take (i + 1) ↔ j ∈ xs.take i ∨ j = xs[i] := fun j => mem_take_succ hin j
    unfold setAdd
    refine wpAny_holding (wpAny_bind ((strKind X.prog X.w).pyHash (strKind_is _ _ _ t) ?_))
    refine tset_add (s := { s1 with toks := s1.toks + 1 }) R (by unfold scanBound; omega) (fun hin2 b => ?_) (fun hno h' b sb R2 => ?_)
    · exact k s1.heap (s1.toks + 1) b (Nat.le_succ _) (Heap.SameBut.refl _ _) ⟨ks, R, hn, fun j => by rw [mem2, ← hm]; exact ⟨.inl, fun z => z.elim id fun z => z ▸ hin2⟩, by omega⟩
    · refine k h' (s1.toks + 1) b (Nat.le_succ _) sb ⟨_, R2, List.nodup_cons.mpr ⟨hno, hn⟩, fun j => ?_, by rw [List.length_cons]; omega⟩
      rw [mem2, ← hm, List.mem_cons]
      exact Or.comm
  · obtain ⟨ks, R, hn, hm, hle⟩ := st
    rw [hsz] at hle
    rw [hsz, List.take_length] at hm
    exact ⟨.ref _, upd H s.heap.objs.size (SetTx X.w s.heap.objs.size ks), I.laid (t' := tk) hk (Nat.le_refl _) (setTx_new R), rfl, q _ _ hn hm hle (I.hok.fresh (Nat.le_refl _))⟩

/-! ### sorted(set of texts) -/
theorem vals_txt : ∀ {l : List Value}, (∀ v ∈ l, ∃ x t, v = Value.str x t) → Vals ((l.map txtOf).map V.str) l
  | [], _ => .nil
  | v :: l, h => by
    obtain ⟨x, t, rfl⟩ := h v List.mem_cons_self
    exact .cons ⟨t, rfl⟩ (vals_txt fun u hu => h u (List.mem_cons_of_mem _ hu))
theorem snd_pairs (vs : List Value) : (pairsOf vs).toList.map (·.2) = vs := by
  rw [pairsOf_toList]
  exact List.map_snd_zip (by simp)
theorem cr_sortedTx {X : Cx} (hc : X.calm = true) : CallR X (.builtin "sorted") (fun vs H Q => ∃ (a : Addr) (ks : List Str), vs = [V.ref a] ∧ H a = some (SetTx X.w a ks) ∧
    ∀ (ys : List Str) (p : Addr), ys.Perm ks → H p = none → Q (.ref p) (upd H p (.lst (ys.map V.str)))) := by
  intro pins s σ H vs us Q I r h
  obtain ⟨a, ks, rfl, ha, q⟩ := h
  have R : TSet X.w s.heap a ks := (I.hok a _ ha).1
  rw [Vals.ref1 r]
  obtain ⟨o, es, ep, t, ho, hex, hd, g, hp, hn, hb, hf, hr, hl⟩ := R
  refine Calls.call_function_entry kind_sorted plain_sorted entry_sorted (args_sorted1 _) ?_
  unfold Builtin.«sorted»
  refine wpAny_bind (m := checkCount "sorted" 1 1 _) (wpAny_pure ?_)
  refine wpAny_bind (collect_set (A := X.A.in1) (by simpa using I.ok.hd hc) ⟨o, ho, hex.1, hd⟩ hf hb hr hl fun s1 out k1 z1 g1 o1 pm => ?_)
  have str : ∀ v ∈ out, ∃ x t, v = Value.str x t := fun v hv => by
    obtain ⟨e, he, rfl⟩ := List.mem_map.mp (pm.mem_iff.mp hv)
    obtain ⟨x, tk, rfl⟩ := g e he
    exact ⟨x, tk, rfl⟩
  have hol : out.length ≤ sizeLine := by
    rw [pm.length_eq, List.length_map, Array.length_toList]
    exact fits_of_scanBound hb
  have pk : (out.map txtOf).Perm ks := by
    have q := pm.map txtOf
    rw [List.map_map] at q
    exact q.trans hp
  have hoL : (s1.heap.push (seqObj "list" out.toArray 0)).get? s1.heap.objs.size = some (seqObj "list" out.toArray 0) := Heap.get?_push_size _ rfl
  have hS : StrsAre out (out.map txtOf) := (vals_txt str).strs
  have hK : KeysOf PyProof.Rows.strKind (pairsOf out) := fun p hp => by
    have hm : p.1 ∈ out := by
      rw [pairsOf_toList] at hp
      exact (List.of_mem_zip hp).1
    obtain ⟨x, t, e⟩ := str _ hm
    exact ⟨x.cps.toList, by rw [e]⟩
  refine wpAny_bind (wpAny_newList ?_ hol)
  refine wpAny_bind (wpAny_holding (wpAny_call_entry slot_list_sort ⟨_, hoL, rfl⟩ entry_list_sort (list_sort_treeKAny (κ := PyProof.Rows.strKind) strKind_oneLt hoL hK (fun v₁ v₂ rest e => keyKind_strs (ss := out.map txtOf) (by rw [← e]; exact hS)) hol fun st' a1 a2 => ⟨_, rfl, ?_⟩) (args_list_sort _)))
  obtain ⟨n, hn2⟩ := sortedHeap_at (vs := out) (out := (arrOf st').map (·.2)) hoL
  have pv : ((arrOf st').map (·.2)).toList.Perm out := by
    have z := (Array.perm_iff_toList_perm.mp a1).map (·.2)
    rw [snd_pairs] at z
    rw [Array.toList_map]
    exact z
  have str2 : ∀ v ∈ ((arrOf st').map (·.2)).toList, ∃ x t, v = Value.str x t := fun v hv => str v (pv.mem_iff.mp hv)
  have old : ∀ b u, s.heap.get? b = some u → (sortedHeap (s1.heap.push (seqObj "list" out.toArray 0)) s1.heap.objs.size out ((arrOf st').map (·.2))).get? b = some u := fun b u e => by
    have q1 := k1 b u e
    have lt := Heap.lt_size q1
    rw [sortedHeap_old (Nat.ne_of_lt lt) (by rw [size_push']; exact Nat.lt_succ_of_lt lt)]
    exact Heap.get?_push_of_some _ q1
  have hlen2 : ((((arrOf st').map (·.2)).toList.map txtOf).map V.str).length ≤ sizeLine := by
    rw [List.length_map, List.length_map, pv.length_eq]
    exact hol
  obtain ⟨hp1, gens1, dr1, tk1, os1⟩ := s1
  dsimp only at g1 o1
  subst g1 o1
  have J : Inv X pins σ (upd H hp1.objs.size (.lst ((((arrOf st').map (·.2)).toList.map txtOf).map V.str))) { s with heap := sortedHeap (hp1.push (seqObj "list" out.toArray 0)) hp1.objs.size out ((arrOf st').map (·.2)), drawn := dr1, toks := tk1 } :=
    I.call (g' := s.gens) (ch := []) (Un.laid old z1 (I.hok.fresh z1)) (I.hok.laid old z1 ⟨hlen2, _, n, vals_txt str2, hn2⟩) I.bare (fun _ z => nomatch z)
  exact wpAny_pure ⟨_, rfl, .ref _, _, J, rfl, q _ _ ((pv.map txtOf).trans pk) (I.hok.fresh z1)⟩
end
end Say

/-! The mirrors: plain functions over lists of letters. -/
namespace Say
def cnt (c : Nat) : List Nat → Nat
  | [] => 0
  | x :: r => bif Nat.beq x c then cnt c r + 1 else cnt c r
/-- a word said: the letters so far (last first), the rest -/
def sayR (f : Nat → Nat) : List Nat → List Nat → List Nat
  | _, [] => []
  | p, c :: r => List.replicate (f (cnt c p + 1)) c ++ sayR f (c :: p) r
/-- runs of a word told from its end, the last one first -/
def runsR : List Nat → List (Nat × Nat)
  | [] => []
  | c :: r => match runsR r with
    | [] => [(c, cnt c r + 1)]
    | (d, m) :: q => bif Nat.beq d c then (c, cnt c r + 1) :: q else (c, cnt c r + 1) :: (d, m) :: q
def lastc (c : Nat) : List (Nat × Nat) → Nat
  | [] => 0
  | (d, m) :: q => bif Nat.beq d c then m else lastc c q
/-- the word, told from its end, with some runs, the last one first -/
def wordR : List (Nat × Nat) → List Nat
  | [] => []
  | (c, n) :: q => List.replicate (n - lastc c q) c ++ wordR q
def hasN (n : Nat) : List Nat → Bool
  | [] => false
  | x :: r => bif Nat.beq x n then true else hasN n r
def snds : List (Nat × Nat) → List Nat
  | [] => []
  | (_, n) :: q => n :: snds q
/-- the numbers k - 1, .., 0 that stand in a list, ascending ahead of acc -/
def upTo (cs : List Nat) : Nat → List Nat → List Nat
  | 0, acc => acc
  | k + 1, acc => bif hasN k cs then upTo cs k (k :: acc) else upTo cs k acc
def marksM (w : List Nat) : List Nat := upTo (0 :: snds (runsR w.reverse)) (w.length + 1) []
def idxN (n : Nat) : List Nat → Nat
  | [] => 0
  | x :: r => bif Nat.beq x n then 0 else idxN n r + 1
def reix (ms : List Nat) : List (Nat × Nat) → List (Nat × Nat)
  | [] => []
  | (c, n) :: q => (c, idxN n ms) :: reix ms q
def coreM (w : List Nat) : List Nat := (wordR (reix (marksM w) (runsR w.reverse))).reverse
def diffsN : List Nat → List Nat
  | [] => []
  | x :: r => match r with
    | [] => []
    | y :: _ => (y - x) :: diffsN r
def gapsM (w : List Nat) : List Nat := diffsN (marksM w)
def leL : List Nat → List Nat → Bool
  | x :: r, y :: q => bif Nat.ble x y then leL r q else false
  | _, _ => true
def eqL : List Nat → List Nat → Bool
  | [], [] => true
  | x :: r, y :: q => bif Nat.beq x y then eqL r q else false
  | _, _ => false
def sayingM (a b : List Nat) : Bool := bif eqL (coreM a) (coreM b) then leL (gapsM a) (gapsM b) else false
def prodN : List Nat → Nat
  | [] => 1
  | x :: r => x * prodN r
/-- rows of numbers from 1 to 3, as many as told -/
def rowsM : Nat → List (List Nat)
  | 0 => [[]]
  | n + 1 => (rowsM n).flatMap fun r => [r ++ [1], r ++ [2], r ++ [3]]
def letM (many : Nat) : List Nat := [97, 98, 99].take many
def wordsM (many : Nat) : Nat → List (List Nat)
  | 0 => [[]]
  | n + 1 => (wordsM many n).flatMap fun w => (letM many).map fun c => w ++ [c]
/-- the k-th number of a row -/
def nth (r : List Nat) (k : Nat) : Nat := r.getD (k - 1) 0
def imgM (r w : List Nat) : List Nat := sayR (nth r) [] w
def maxCnt (w : List Nat) : Nat := max (max (cnt 97 w) (cnt 98 w)) (max (cnt 99 w) (cnt 100 w))
def heldM (many : Nat) (o : List Nat) : Nat → Nat
  | 0 => 0
  | k + 1 => heldM many o k + ((wordsM many k).filter fun w => sayingM w o).length



end Say

set_option Elab.async false
set_option linter.all false
set_option maxRecDepth 100000
namespace Say
open PySem PySem.Spec PyProof.Rows L2
/-! ### the text by places -/
def top (i : Nat) : Stmt := PySem.Challenge.pw_saidcounts_k06_whole_sayings_by_rules.main.body.getD i (.Pass ⟨0, 0, 0, 0⟩)
abbrev sIsInt : Stmt := top 11
abbrev sIsFrom : Stmt := top 12
abbrev sNeedWord : Stmt := top 13
abbrev sNeedRule : Stmt := top 14
abbrev sTimes : Stmt := top 15
abbrev sSum : Stmt := top 16
abbrev sCounts : Stmt := top 17
abbrev sLen : Stmt := top 18
abbrev sSaidOf : Stmt := top 19
abbrev sSaid : Stmt := top 20
abbrev sRuns : Stmt := top 22
abbrev sMarks : Stmt := top 23
abbrev sWordOf : Stmt := top 24
abbrev sCore : Stmt := top 25
abbrev sGaps : Stmt := top 26
abbrev sNeedTwo : Stmt := top 28
abbrev sGrows : Stmt := top 29
abbrev sIsSaying : Stmt := top 30
abbrev sProd : Stmt := top 31
abbrev sCountU : Stmt := top 32
abbrev sTaken : Stmt := top 34
abbrev sPick : Stmt := top 35
abbrev sWord : Stmt := top 36
abbrev sRows : Stmt := top 37
abbrev sRowSaid : Stmt := top 38
abbrev sLaw : Stmt := top 39
theorem scIsInt : FnScope ["value"] ["value"] (defScope sIsInt) := ⟨rfl, rfl, rfl, by decide +kernel, rfl, by decide +kernel, by decide +kernel⟩
theorem scIsFrom : FnScope ["value", "least", "most"] ["value", "least", "most"] (defScope sIsFrom) := ⟨rfl, rfl, rfl, by decide +kernel, rfl, by decide +kernel, by decide +kernel⟩
theorem scNeedWord : FnScope ["value", "place", "sign"] ["value"] (defScope sNeedWord) := ⟨rfl, rfl, rfl, by decide +kernel, rfl, by decide +kernel, by decide +kernel⟩
theorem scNeedRule : FnScope ["value", "index", "times"] ["value"] (defScope sNeedRule) := ⟨rfl, rfl, rfl, by decide +kernel, rfl, by decide +kernel, by decide +kernel⟩
theorem scTimes : FnScope ["rule", "number"] ["rule", "number"] (defScope sTimes) := ⟨rfl, rfl, rfl, by decide +kernel, rfl, by decide +kernel, by decide +kernel⟩
theorem scSum : FnScope ["rule", "count"] ["rule", "count"] (defScope sSum) := ⟨rfl, rfl, rfl, by decide +kernel, rfl, by decide +kernel, by decide +kernel⟩
theorem scCounts : FnScope ["word", "letter"] ["word"] (defScope sCounts) := ⟨rfl, rfl, rfl, by decide +kernel, rfl, by decide +kernel, by decide +kernel⟩
theorem scLen : FnScope ["rule", "word", "count"] ["rule", "word"] (defScope sLen) := ⟨rfl, rfl, rfl, by decide +kernel, rfl, by decide +kernel, by decide +kernel⟩
theorem scSaidOf : FnScope ["rule", "word", "known", "found", "letter"] ["rule", "word"] (defScope sSaidOf) := ⟨rfl, rfl, rfl, by decide +kernel, rfl, by decide +kernel, by decide +kernel⟩
theorem scSaid : FnScope ["rule", "word"] ["rule", "word"] (defScope sSaid) := ⟨rfl, rfl, rfl, by decide +kernel, rfl, by decide +kernel, by decide +kernel⟩
theorem scRuns : FnScope ["word", "known", "found", "letter"] ["word"] (defScope sRuns) := ⟨rfl, rfl, rfl, by decide +kernel, rfl, by decide +kernel, by decide +kernel⟩
theorem scMarks : FnScope ["word", "letter", "count"] ["word"] (defScope sMarks) := ⟨rfl, rfl, rfl, by decide +kernel, rfl, by decide +kernel, by decide +kernel⟩
theorem scWordOf : FnScope ["runs", "known", "found", "letter", "count"] ["runs"] (defScope sWordOf) := ⟨rfl, rfl, rfl, by decide +kernel, rfl, by decide +kernel, by decide +kernel⟩
theorem scCore : FnScope ["word", "marks", "letter", "count"] ["word"] (defScope sCore) := ⟨rfl, rfl, rfl, by decide +kernel, rfl, by decide +kernel, by decide +kernel⟩
theorem scGaps : FnScope ["word", "marks", "at"] ["word"] (defScope sGaps) := ⟨rfl, rfl, rfl, by decide +kernel, rfl, by decide +kernel, by decide +kernel⟩
theorem scNeedTwo : FnScope ["one", "other"] ["one", "other"] (defScope sNeedTwo) := ⟨rfl, rfl, rfl, by decide +kernel, rfl, by decide +kernel, by decide +kernel⟩
theorem scGrows : FnScope ["one", "other", "a", "b"] ["one", "other"] (defScope sGrows) := ⟨rfl, rfl, rfl, by decide +kernel, rfl, by decide +kernel, by decide +kernel⟩
theorem scIsSaying : FnScope ["one", "other"] ["one", "other"] (defScope sIsSaying) := ⟨rfl, rfl, rfl, by decide +kernel, rfl, by decide +kernel, by decide +kernel⟩
theorem scProd : FnScope ["told", "found", "one"] ["told"] (defScope sProd) := ⟨rfl, rfl, rfl, by decide +kernel, rfl, by decide +kernel, by decide +kernel⟩
theorem scCountU : FnScope ["word"] ["word"] (defScope sCountU) := ⟨rfl, rfl, rfl, by decide +kernel, rfl, by decide +kernel, by decide +kernel⟩
theorem scTaken : FnScope ["_law_row", "_law_many", "_law_found", "_law_cell"] ["_law_row", "_law_many"] (defScope sTaken) := ⟨rfl, rfl, rfl, by decide +kernel, rfl, by decide +kernel, by decide +kernel⟩
theorem scPick : FnScope ["_law_row", "_law_things"] ["_law_row", "_law_things"] (defScope sPick) := ⟨rfl, rfl, rfl, by decide +kernel, rfl, by decide +kernel, by decide +kernel⟩
theorem scWord : FnScope ["_law_row", "_law_most", "_law_many", "_law_found", "_law_last", "_law_turn"] ["_law_row", "_law_most", "_law_many"] (defScope sWord) := ⟨rfl, rfl, rfl, by decide +kernel, rfl, by decide +kernel, by decide +kernel⟩
theorem scRows : FnScope ["_law_most", "_law_found", "_law_top", "_law_later", "_law_row", "_law_one"] ["_law_most"] (defScope sRows) := ⟨rfl, rfl, rfl, by decide +kernel, rfl, by decide +kernel, by decide +kernel⟩
theorem scRowSaid : FnScope ["_law_told", "_law_word_here", "_law_found", "_law_known", "_law_letter"] ["_law_told", "_law_word_here"] (defScope sRowSaid) := ⟨rfl, rfl, rfl, by decide +kernel, rfl, by decide +kernel, by decide +kernel⟩
theorem scLaw : FnScope ["_law_script", "_law_row", "_law_many", "_law_one", "_law_last", "_law_rows_here", "_law_images", "_law_other", "_law_found", "_law_counts", "_law_words", "_law_turn", "_law_later", "_law_word_here", "_law_held", "_law_size", "_law_some", "_law_letter", "_law_told"] ["_law_script"] (defScope sLaw) := ⟨rfl, rfl, rfl, by decide +kernel, rfl, by decide +kernel, by decide +kernel⟩
end Say

set_option Elab.async false
set_option linter.all false
set_option maxRecDepth 100000
set_option maxHeartbeats 4000000
namespace Say
open PySem PySem.Spec PyProof.Rows L2
/-! ### texts as lists of signs -/
def tx (l : List Nat) : Str := ⟨l.toArray⟩
theorem tx_cps (l : List Nat) : (tx l).cps.toList = l := rfl
theorem tx_len (l : List Nat) : (tx l).length = l.length := by
  show l.toArray.size = _
  exact List.size_toArray
theorem tx_inj {a b : List Nat} (h : tx a = tx b) : a = b := by
  have q := congrArg (fun z : Str => z.cps.toList) h
  exact q
theorem tx_sz (l : List Nat) : (tx l).cps.size = l.length := List.size_toArray
theorem tx_get (l : List Nat) (i : Nat) : (tx l).cps[i]? = l[i]? := by
  show l.toArray[i]? = _
  exact List.getElem?_toArray
theorem tx_one (c : Nat) : (⟨#[c]⟩ : Str) = tx [c] := rfl
theorem same_upd {H : Hp} {p : Addr} {o : HO} (h : H p = none) : Same H (upd H p o) := fun b x e => by
  rw [upd_ne (ne_of_none e h)]
  exact e
/-- the letters of a word -/
def Let4 (l : List Nat) : Prop := ∀ c ∈ l, c = 97 ∨ c = 98 ∨ c = 99 ∨ c = 100
theorem let4_in {c : Nat} (h : c = 97 ∨ c = 98 ∨ c = 99 ∨ c = 100) : c ∈ ("abcd" : Str).cps.toList := by
  rcases h with rfl | rfl | rfl | rfl <;> decide +kernel
/-- what stands in the module's names: built-ins, and constants -/
structure Glb (mg : Str → Option Value) : Prop where
  isi : mg "isinstance" = none
  int : mg "int" = none
  bool : mg "bool" = none
  str : mg "str" = none
  tuple : mg "tuple" = none
  len : mg "len" = none
  enum : mg "enumerate" = none
  min : mg "min" = none
  max : mg "max" = none
  sum : mg "sum" = none
  sorted : mg "sorted" = none
  set : mg "set" = none
  range : mg "range" = none
  zip : mg "zip" = none
  all : mg "all" = none
  letters : ∃ t, mg "LETTERS" = some (.str "abcd" t)
  mostWord : ∃ t, mg "MOST_WORD" = some (.int 2000 t)
  mostSaid : ∃ t, mg "MOST_SAID" = some (.int 20000 t)
  mostRule : ∃ t, mg "MOST_RULE" = some (.int 30 t)
  mostTimes : ∃ t, mg "MOST_TIMES" = some (.int 1000000 t)
section
variable {P : Program} {w : World} {K : PySem.W.Frag} {mg : Str → Option Value} {base : Heap}
/-! ### is_int, is_from -/
def spIsInt : Sp := fun vs H Q _ => ∃ i, vs = [.int i] ∧ Q (.bl true) H
theorem ok_isInt {f : Addr} {fd : FuncData} (F : Fun K "is_int" "is_int" sIsInt f fd) (G : Glb mg) : FnOk P w K mg base CX0 1 f fd ["value"] spIsInt := by
  refine F.ok scIsInt (fun vs H Q E h => ?_) (fun cdv A outer s H vs Q E hr h => ?_)
  · obtain ⟨i, rfl, _⟩ := h
    rfl
  · obtain ⟨i, rfl, q⟩ := h
    refine ⟨_, pss_one (ps_ret (pe_and (pe_callB call_isi (by rfl) G.isi boot_isinstance (pa_cons (pv 0) (pa_cons (pe_bltn (v := .ty "int") (by rfl) G.int boot_int rfl) pa_nil)))
      (pe_one (pe_not (pe_callB call_isi (by rfl) G.isi boot_isinstance (pa_cons (pv 0) (pa_cons (pe_bltn (v := .ty "bool") (by rfl) G.bool boot_bool rfl) pa_nil))))))), ?_⟩
    refine ⟨_, rfl, _, _, _, _, true, rfl, .ty _, .base (.int i), kit_ty (by decide +kernel), true, rfl, iteT ?_⟩
    exact ⟨_, rfl, _, _, _, _, false, rfl, .ty _, .base (.int i), kit_ty (by decide +kernel), false, rfl, q⟩
def spIsFrom : Sp := fun vs H Q _ => ∃ i a b : Int, vs = [.int i, .int a, .int b] ∧ a ≤ i ∧ i ≤ b ∧ Q (.bl true) H
theorem ok_isFrom {f f1 : Addr} {fd fd1 : FuncData} (F : Fun K "is_from" "is_from" sIsFrom f fd) (F1 : Fun K "is_int" "is_int" sIsInt f1 fd1) (b1 : Binds K fd1 ["value"] []) (m1 : mg "is_int" = some (.ref f1)) (G : Glb mg) :
    FnOk P w K mg base CX0 2 f fd ["value", "least", "most"] spIsFrom := by
  have G1 : FnOk P w K mg base CX0 1 f1 fd1 ["value"] spIsInt := ok_isInt F1 G
  refine F.ok scIsFrom (fun vs H Q E h => ?_) (fun cdv A outer s H vs Q E hr h => ?_)
  · obtain ⟨i, a, b, rfl, _⟩ := h
    rfl
  · obtain ⟨i, a, b, rfl, h1, h2, q⟩ := h
    refine ⟨_, pss_one (ps_ret (pe_and (pe_call G1 hr (by rfl) m1 F1.kp b1 .nil pass0 (pa_cons (pv 0) pa_nil)) (pe_one (pe_chain op_le op_le (pv 1) (pv 0) (pv 2))))), ?_⟩
    refine ⟨_, rfl, i, rfl, true, rfl, iteT ?_⟩
    refine ⟨_, rfl, _, rfl, a, i, rfl, rfl, _, rfl, ?_⟩
    rw [decide_eq_true h1]
    refine iteT ⟨_, rfl, i, b, rfl, rfl, ?_⟩
    show Q (V.bl (decide (i ≤ b))) H
    rw [decide_eq_true h2]
    exact q
/-! ### need_word, need_two -/
def spNeedWord : Sp := fun vs H Q _ => ∃ l : List Nat, vs = [.str (tx l)] ∧ l.length ≤ 2000 ∧ Let4 l ∧ ∀ H', Same H H' → Q .non H'
theorem ok_needWord {f : Addr} {fd : FuncData} (F : Fun K "need_word" "need_word" sNeedWord f fd) (G : Glb mg) : FnOk P w K mg base CX0 1 f fd ["value"] spNeedWord := by
  obtain ⟨t1, hL⟩ := G.letters
  obtain ⟨t2, hM⟩ := G.mostWord
  refine F.ok scNeedWord (fun vs H Q E h => ?_) (fun cdv A outer s H vs Q E hr h => ?_)
  · obtain ⟨l, rfl, _⟩ := h
    rfl
  · obtain ⟨l, rfl, hl, h4, q⟩ := h
    refine ⟨_, pss_cons (ps_if (PW.pt (pw_or (pt_not (pt_val (pe_callB call_isi (by rfl) G.isi boot_isinstance (pa_cons (pv 0) (pa_cons (pe_bltn (v := .ty "str") (by rfl) G.str boot_str rfl) pa_nil)))))
        (pw_or1 (pt_cmpR op_gt (pe_callB call_len_str (by rfl) G.len PySem.boot_len (pa_cons (pv 0) pa_nil)) (pe_glob (v := .int 2000) (by rfl) hM ⟨_, rfl⟩) (nomark _))))) (pss_one ps_never) pss_nil)
      (pss_one (ps_for PassesOwn.never rfl (pi_enumS (by rfl) G.enum (pa_cons (pv 0) pa_nil))
        (pg_tup rfl (pgs_cons (pg_name (i := 1) scNeedWord.nd rfl (.inl rfl)) (pgs_cons (pg_name (i := 2) scNeedWord.nd rfl (.inl rfl)) pgs_nil)))
        (pss_one (ps_if (pt_cmpR op_notIn_sign (pv 2) (pe_glob (v := .str "abcd") (by rfl) hL ⟨_, rfl⟩) rfl) (pss_one ps_never) pss_nil)))), ?_⟩
    refine ⟨_, rfl, _, _, _, _, true, rfl, .ty _, .base (.str _), kit_ty (by decide +kernel), true, rfl, iteF ?_⟩
    refine ⟨_, rfl, _, rfl, by rw [tx_len, sizeLine_eq]; omega, _, _, rfl, rfl, _, rfl, ?_⟩
    rw [tx_len, decide_eq_false (by omega)]
    refine iteF ⟨_, rfl, _, rfl, for_it walk_enumS (fun i σ H' => ∃ y1 y2, σ = [some (.str (tx l)), y1, y2] ∧ Same H H') ⟨_, _, rfl, Same.refl H⟩ (fun _ _ _ _ _ => trivial) ?_ ?_⟩
    · rintro i x σ H1 H2 hi ⟨y1, y2, rfl, s1⟩ ⟨T, c, hc, rfl, nT, rfl⟩
      rw [tx_get] at hc
      have hc4 := let4_in (h4 c (List.mem_of_getElem? hc))
      refine ⟨T, _, rfl, .inl (.inl upd_same), rfl, _, _, rfl, _, _, rfl, rfl, ?_⟩
      refine ⟨_, rfl, c, _, rfl, rfl, _, rfl, ?_⟩
      rw [decide_eq_true hc4]
      exact iteF ⟨_, _, rfl, s1.trans (same_upd nT)⟩
    · rintro σ H1 ⟨y1, y2, rfl, s1⟩
      exact q _ s1
def spNeedTwo : Sp := fun vs H Q _ => ∃ a b : List Nat, vs = [.str (tx a), .str (tx b)] ∧ a.length ≤ 2000 ∧ Let4 a ∧ b.length ≤ 2000 ∧ Let4 b ∧ ∀ H', Same H H' → Q .non H'
theorem ok_needTwo {f f1 : Addr} {fd fd1 : FuncData} (F : Fun K "need_two" "need_two" sNeedTwo f fd) (F1 : Fun K "need_word" "need_word" sNeedWord f1 fd1) (b1 : Binds K fd1 ["value"] []) (m1 : mg "need_word" = some (.ref f1)) (G : Glb mg) :
    FnOk P w K mg base CX0 2 f fd ["one", "other"] spNeedTwo := by
  have G1 : FnOk P w K mg base CX0 1 f1 fd1 ["value"] spNeedWord := ok_needWord F1 G
  refine F.ok scNeedTwo (fun vs H Q E h => ?_) (fun cdv A outer s H vs Q E hr h => ?_)
  · obtain ⟨a, b, rfl, _⟩ := h
    rfl
  · obtain ⟨a, b, rfl, h1, h2, h3, h4, q⟩ := h
    refine ⟨_, pss_cons (ps_expr (pe_call G1 hr (by rfl) m1 F1.kp b1 .nil pass0 (pa_cons (pv 0) pa_nil))) (pss_one (ps_expr (pe_call G1 hr (by rfl) m1 F1.kp b1 .nil pass0 (pa_cons (pv 1) pa_nil)))), ?_⟩
    exact ⟨_, rfl, a, rfl, h1, h2, fun H1 s1 => ⟨_, rfl, b, rfl, h3, h4, fun H2 s2 => q _ (s1.trans s2)⟩⟩
end
end Say

set_option Elab.async false
set_option linter.all false
set_option maxRecDepth 100000
set_option maxHeartbeats 4000000
namespace Say
open PySem PySem.Spec PyProof.Rows L2
theorem str_ext {a b : Str} (h : a.cps.toList = b.cps.toList) : a = b := by
  obtain ⟨⟨x⟩⟩ := a
  obtain ⟨⟨y⟩⟩ := b
  have e : x = y := h
  rw [e]
theorem tx_append (a b : List Nat) : tx a ++ tx b = tx (a ++ b) := str_ext (by
  show (a.toArray ++ b.toArray).toList = a ++ b
  simp)
theorem fold_rep (c : Nat) : ∀ (n : Nat) (acc : List Nat), (List.replicate n #[c]).foldl (· ++ ·) acc.toArray = (acc ++ List.replicate n c).toArray
  | 0, acc => by simp
  | n + 1, acc => by
    rw [List.replicate_succ, List.foldl_cons]
    have e : acc.toArray ++ #[c] = (acc ++ [c]).toArray := by simp
    rw [e, fold_rep c n (acc ++ [c]), List.append_assoc]
    rfl
theorem mul_tx (c : Nat) (n : Int) : Txt.mul (tx [c]) n = tx (List.replicate n.toNat c) := by
  unfold Txt.mul
  by_cases h : n < 1
  · rw [if_pos h, show n.toNat = 0 by omega]
    rfl
  · rw [if_neg h]
    by_cases h2 : (n == 1 || (tx [c]).length == 0) = true
    · rw [if_pos h2]
      have e : n = 1 := by
        rcases Bool.or_eq_true _ _ ▸ h2 with q | q
        · exact beq_iff_eq.mp q
        · exact absurd (beq_iff_eq.mp q) (by rw [tx_len]; simp)
      rw [e]
      rfl
    · rw [if_neg h2]
      have q := fold_rep c n.toNat []
      show Str.mk _ = Str.mk _
      exact congrArg Str.mk q
theorem join_tx : ∀ ys : List (List Nat), Txt.join Str.empty (ys.map tx) = tx ys.flatten := by
  intro ys
  rw [show Txt.join Str.empty (ys.map tx) = Str.join Str.empty (ys.map tx) from TL.join_eq _ _]
  induction ys with
  | nil => rfl
  | cons y r ih =>
    cases r with
    | nil =>
      show tx y = tx (y ++ [])
      rw [List.append_nil]
    | cons z q =>
      show tx y ++ tx [] ++ Str.join Str.empty ((z :: q).map tx) = tx (y ++ (z :: q).flatten)
      rw [ih, tx_append, tx_append, List.append_nil]
theorem cnt_one (c x : Nat) (r : List Nat) : cnt c (x :: r) = if x = c then cnt c r + 1 else cnt c r := by
  by_cases h : x = c
  · rw [if_pos h]
    show (bif Nat.beq x c then cnt c r + 1 else cnt c r) = _
    rw [show Nat.beq x c = true from Nat.beq_eq.mpr h]
    rfl
  · rw [if_neg h]
    show (bif Nat.beq x c then cnt c r + 1 else cnt c r) = _
    rw [show Nat.beq x c = false from Bool.eq_false_iff.mpr fun q => h (Nat.beq_eq.mp q)]
    rfl
theorem count_tx (c : Nat) (l : List Nat) : Txt.count (tx l) (tx [c]) = (cnt c l : Nat) := by
  rw [← tx_one, PyProof.Rows.count_cnt]
  show (PyProof.Rows.cnt c l : Int) = _
  induction l with
  | nil => rfl
  | cons x r ih =>
    rw [PyProof.Rows.cnt_cons, ih, cnt_one]
    by_cases h : x = c
    · subst h
      rw [if_pos rfl, if_pos rfl]
      omega
    · rw [if_neg h]
      simp [h]
theorem cnt_le (c : Nat) : ∀ l : List Nat, cnt c l ≤ l.length
  | [] => Nat.le_refl _
  | x :: r => by
    unfold cnt
    have q := cnt_le c r
    rw [List.length_cons]
    cases Nat.beq x c
    · exact Nat.le_succ_of_le q
    · exact Nat.succ_le_succ q
theorem cnt_app (c : Nat) : ∀ a b : List Nat, cnt c (a ++ b) = cnt c a + cnt c b
  | [], b => by simp [cnt]
  | x :: r, b => by
    rw [List.cons_append, cnt_one, cnt_one, cnt_app c r b]
    split <;> omega
theorem cnt_rev (c : Nat) : ∀ a : List Nat, cnt c a.reverse = cnt c a
  | [] => rfl
  | x :: r => by
    rw [List.reverse_cons, cnt_app, cnt_rev c r, cnt_one, cnt_one]
    show _ + (if x = c then 0 + 1 else 0) = _
    split <;> omega
end Say

set_option Elab.async false
set_option linter.all false
set_option maxRecDepth 100000
set_option maxHeartbeats 4000000
namespace Say
open PySem PySem.Spec PyProof.Rows L2
/-! ### small lemmas -/
abbrev vn (n : Nat) : V := .int (n : Int)
theorem vn_ints (ns : List Nat) : ns.map vn = (ns.map fun n : Nat => (n : Int)).map V.int := by
  rw [List.map_map]
  rfl
theorem sum_ints (ns : List Nat) : (ns.map fun n : Nat => (n : Int)).sum = ((ns.sum : Nat) : Int) := by
  induction ns with
  | nil => rfl
  | cons x r ih => rw [List.map_cons, List.sum_cons, List.sum_cons, ih]; omega
theorem sum_take_le (ns : List Nat) : ∀ k, (ns.take k).sum ≤ ns.sum := by
  induction ns with
  | nil => intro k; simp
  | cons x r ih =>
    intro k
    cases k with
    | zero => simp
    | succ k => rw [List.take_succ_cons, List.sum_cons, List.sum_cons]; have := ih k; omega
theorem small_size {n : Nat} (h : n ≤ 100000) : n ≤ sizeLine := by
  rw [sizeLine_eq]
  omega
theorem small_lt {n : Nat} (h : n ≤ 100000) : n < sizeLine := by
  rw [sizeLine_eq]
  omega
/-- a dict of how often each letter has come -/
def Knows (kvs : List (Key × V)) (f : Nat → Nat) : Prop := ∀ c, valV kvs (Sum.inr (tx [c])) = if f c = 0 then none else some (vn (f c))
theorem knows_nil : Knows [] (fun _ => 0) := fun _ => rfl
theorem knows_get {kvs : List (Key × V)} {f : Nat → Nat} (h : Knows kvs f) (c : Nat) : (valV kvs (Sum.inr (tx [c]))).getD (.int 0) = vn (f c) := by
  rw [h c]
  by_cases z : f c = 0
  · rw [if_pos z, z]
    rfl
  · rw [if_neg z]
    rfl
theorem knows_put {kvs : List (Key × V)} {f : Nat → Nat} (h : Knows kvs f) (c n : Nat) (hn : n ≠ 0) : Knows (putK kvs (Sum.inr (tx [c])) (vn n)) (fun d => if d = c then n else f d) := by
  intro d
  rw [valV_put]
  by_cases e : d = c
  · subst e
    show _ = if (if d = d then n else f d) = 0 then _ else some (vn (if d = d then n else f d))
    rw [if_pos rfl, if_pos rfl, if_neg hn]
  · have ne : ¬ (Sum.inr (tx [d]) : Key) = Sum.inr (tx [c]) := fun q => e (by
      have q2 := tx_inj (Sum.inr.inj q)
      exact (List.cons.inj q2).1)
    rw [if_neg ne, h d]
    show _ = if (if d = c then n else f d) = 0 then _ else some (vn (if d = c then n else f d))
    rw [if_neg e]
theorem knows_val {kvs : List (Key × V)} {f : Nat → Nat} (h : Knows kvs f) {c : Nat} (hc : f c ≠ 0) : valV kvs (Sum.inr (tx [c])) = some (vn (f c)) := by
  rw [h c, if_neg hc]
theorem knows_cnt {kvs : List (Key × V)} {p : List Nat} {c : Nat} (h : Knows kvs fun d => cnt d p) : Knows (putK kvs (Sum.inr (tx [c])) (vn (cnt c p + 1))) (fun d => cnt d (c :: p)) := by
  have q := knows_put h c (cnt c p + 1) (Nat.succ_ne_zero _)
  have e : (fun d => if d = c then cnt c p + 1 else cnt d p) = fun d => cnt d (c :: p) := funext fun d => by
    rw [cnt_one]
    by_cases z : d = c
    · subst z; simp
    · rw [if_neg z, if_neg fun y => z y.symm]
  rw [e] at q
  exact q
section
variable {P : Program} {w : World} {K : PySem.W.Frag} {mg : Str → Option Value} {base : Heap}
/-! ### need_rule -/
def spNeedRule : Sp := fun vs H Q _ => ∃ (a : Addr) (ns : List Nat), vs = [.ref a] ∧ H a = some (.tup (ns.map vn)) ∧ 1 ≤ ns.length ∧ ns.length ≤ 30 ∧ (∀ n ∈ ns, n ≤ 1000000) ∧ ∀ H', Same H H' → Q .non H'
theorem ok_needRule {f f1 : Addr} {fd fd1 : FuncData} (F : Fun K "need_rule" "need_rule" sNeedRule f fd) (F1 : Fun K "is_from" "is_from" sIsFrom f1 fd1) (b1 : Binds K fd1 ["value", "least", "most"] []) (m1 : mg "is_from" = some (.ref f1))
    (G1 : FnOk P w K mg base CX0 2 f1 fd1 ["value", "least", "most"] spIsFrom) (G : Glb mg) : FnOk P w K mg base CX0 3 f fd ["value"] spNeedRule := by
  obtain ⟨t1, hR⟩ := G.mostRule
  obtain ⟨t2, hT⟩ := G.mostTimes
  refine F.ok scNeedRule (fun vs H Q E h => ?_) (fun cdv A outer s H vs Q E hr h => ?_)
  · obtain ⟨a, ns, rfl, _⟩ := h
    rfl
  · obtain ⟨a, ns, rfl, ha, l1, l2, hn, q⟩ := h
    have hlen : (ns.map vn).length = ns.length := List.length_map _
    refine ⟨_, pss_cons (ps_if (PW.pt (pw_or (pt_not (pt_val (pe_callB call_isi (by rfl) G.isi boot_isinstance (pa_cons (pv 0) (pa_cons (pe_bltn (v := .ty "tuple") (by rfl) G.tuple boot_tuple rfl) pa_nil)))))
        (pw_or1 (pt_not (pt_chain op_le op_le pe_int (pe_callB call_len_seq (by rfl) G.len PySem.boot_len (pa_cons (pv 0) pa_nil)) (pe_glob (v := .int 30) (by rfl) hR ⟨_, rfl⟩)))))) (pss_one ps_never) pss_nil)
      (pss_one (ps_for PassesOwn.never rfl (pi_enumT (by rfl) G.enum (pa_cons (pv 0) pa_nil))
        (pg_tup rfl (pgs_cons (pg_name (i := 1) scNeedRule.nd rfl (.inl rfl)) (pgs_cons (pg_name (i := 2) scNeedRule.nd rfl (.inl rfl)) pgs_nil)))
        (pss_one (ps_if (pt_not (pt_val (pe_call G1 hr (by rfl) m1 F1.kp b1 .nil pass0 (pa_cons (pv 2) (pa_cons pe_int (pa_cons (pe_glob (v := .int 1000000) (by rfl) hT ⟨_, rfl⟩) pa_nil)))))) (pss_one ps_never) pss_nil)))), ?_⟩
    refine ⟨_, rfl, _, _, _, _, true, rfl, .ty _, .base (.tup ha), kit_ty (by decide +kernel), true, rfl, iteF ?_⟩
    refine ⟨_, rfl, a, _, rfl, .inr (.inl (.inl ha)), 1, _, rfl, rfl, _, rfl, ?_⟩
    rw [hlen, decide_eq_true (by omega)]
    refine iteT ⟨_, _, rfl, rfl, _, rfl, ?_⟩
    rw [decide_eq_true (by omega)]
    refine iteF ⟨_, rfl, a, _, rfl, .inl (.inl ha), for_it (walk_enumT (xs := ns.map vn)) (fun i σ H' => ∃ y1 y2, σ = [some (.ref a), y1, y2] ∧ Same H H') ⟨_, _, rfl, Same.refl H⟩ (fun i σ H' _ hp => ?_) ?_ ?_⟩
    · obtain ⟨_, _, _, s1⟩ := hp
      exact .inl (.inl (s1 _ _ ha))
    · rintro i x σ H1 H2 hi ⟨y1, y2, rfl, s1⟩ ⟨T, x0, hx, rfl, nT, rfl⟩
      rw [List.getElem?_map] at hx
      obtain ⟨n, hni, rfl⟩ := Option.map_eq_some_iff.mp hx
      have hb := hn n (List.mem_of_getElem? hni)
      refine ⟨T, _, rfl, .inl (.inl upd_same), rfl, _, _, rfl, _, _, rfl, rfl, ?_⟩
      refine ⟨_, rfl, (n : Int), 0, 1000000, rfl, by omega, by omega, true, rfl, ?_⟩
      exact iteF ⟨_, _, rfl, s1.trans (same_upd nT)⟩
    · rintro σ H1 ⟨y1, y2, rfl, s1⟩
      exact q _ s1
/-! ### times_of, sum_of -/
def spTimes : Sp := fun vs H Q _ => ∃ (a : Addr) (ns : List Nat) (k : Nat), vs = [.ref a, .int k] ∧ H a = some (.tup (ns.map vn)) ∧ 1 ≤ k ∧ k ≤ ns.length ∧ Q (vn (nth ns k)) H
theorem ok_times {f : Addr} {fd : FuncData} (F : Fun K "times_of" "times_of" sTimes f fd) (G : Glb mg) : FnOk P w K mg base CX0 1 f fd ["rule", "number"] spTimes := by
  refine F.ok scTimes (fun vs H Q E h => ?_) (fun cdv A outer s H vs Q E hr h => ?_)
  · obtain ⟨a, ns, k, rfl, _⟩ := h
    rfl
  · obtain ⟨a, ns, k, rfl, ha, k1, k2, q⟩ := h
    have hlen : (ns.map vn).length = ns.length := List.length_map _
    refine ⟨_, pss_one (ps_ret (pe_ix ix_tup (pv 0) (pe_op op_sub (pe_callB (call_min2 rfl) (by rfl) G.min boot_min (pa_cons (pv 1) (pa_cons (pe_callB call_len_seq (by rfl) G.len PySem.boot_len (pa_cons (pv 0) pa_nil)) pa_nil))) pe_int) (fun _ _ => rfl))), ?_⟩
    refine ⟨_, rfl, _, rfl, _, rfl, a, _, rfl, .inr (.inl (.inl ha)), (k : Int), ((ns.map vn).length : Nat), rfl, ?_⟩
    have e1 : (if (((ns.map vn).length : Nat) : Int) < (k : Int) then (((ns.map vn).length : Nat) : Int) else (k : Int)) = (k : Int) := by
      rw [hlen]
      split <;> omega
    rw [e1]
    refine ⟨_, _, rfl, rfl, a, _, _, vn (nth ns k), rfl, rfl, .inl (.inl ha), ?_, q⟩
    have e2 : (k : Int) - 1 = ((k - 1 : Nat) : Int) := by omega
    rw [e2]
    refine atI_nat ?_
    have hk : k - 1 < ns.length := by omega
    rw [List.getElem?_map, List.getElem?_eq_getElem hk]
    show some (vn ns[k - 1]) = _
    unfold nth
    rw [List.getD_eq_getElem?_getD, List.getElem?_eq_getElem hk]
    rfl
def spSum : Sp := fun vs H Q _ => ∃ (a : Addr) (ns : List Nat) (k : Nat), vs = [.ref a, .int k] ∧ H a = some (.tup (ns.map vn)) ∧ k ≤ ns.length ∧ ∀ (m : Nat) (H' : Hp), Same H H' → m ≤ ns.sum → Q (vn m) H'
theorem ok_sum {f : Addr} {fd : FuncData} (F : Fun K "sum_of" "sum_of" sSum f fd) (G : Glb mg) : FnOk P w K mg base CX0 1 f fd ["rule", "count"] spSum := by
  refine F.ok scSum (fun vs H Q E h => ?_) (fun cdv A outer s H vs Q E hr h => ?_)
  · obtain ⟨a, ns, k, rfl, _⟩ := h
    rfl
  · obtain ⟨a, ns, k, rfl, ha, hk, q⟩ := h
    have hlen : (ns.map vn).length = ns.length := List.length_map _
    refine ⟨_, pss_cons (ps_if (pt_cmpR op_le (pv 1) (pe_callB call_len_seq (by rfl) G.len PySem.boot_len (pa_cons (pv 0) pa_nil)) (nomark _))
      (pss_one (ps_ret (pe_callB (cr_sumT rfl) (by rfl) G.sum boot_sum (pa_cons (pe_slice sl_tupA (pv 0) po_none (po_some (pv 1))) pa_nil)))) pss_nil) (pss_one ps_never), ?_⟩
    refine ⟨_, rfl, _, rfl, a, _, rfl, .inr (.inl (.inl ha)), (k : Int), _, rfl, rfl, _, rfl, ?_⟩
    rw [hlen, decide_eq_true (by omega)]
    refine iteT ⟨_, rfl, _, rfl, (k : Int), rfl, a, _, rfl, .inl (.inl ha), fun hw => ?_, fun hw p np => ?_⟩
    · refine ⟨a, _, rfl, .inl (.inl (ha.trans (by rw [vn_ints]))), ?_⟩
      rw [sum_ints]
      exact q _ _ (Same.refl H) (Nat.le_refl _)
    · have ec : cutV (ns.map vn) none (some (k : Int)) = (ns.take k).map vn := by
        unfold cutV
        rw [HT.sIx_nat, HT.sIx_none, List.drop_zero, Nat.sub_zero, hlen, Nat.min_eq_left hk, List.map_take]
      rw [ec]
      refine ⟨p, _, rfl, .inl (.inl (upd_same.trans (by rw [vn_ints]))), ?_⟩
      rw [sum_ints]
      exact q _ _ (same_upd np) (sum_take_le ns k)
end
end Say

set_option Elab.async false
set_option linter.all false
set_option maxRecDepth 100000
set_option maxHeartbeats 4000000
namespace Say
open PySem PySem.Spec PyProof.Rows L2
section
variable {P : Program} {w : World} {K : PySem.W.Frag} {mg : Str → Option Value} {base : Heap}
/-! ### counts_of, said_length -/
theorem yes_in {σ : L2.St} {H : Hp} {A B : Hp → Prop} (h : A H) : tYes σ H (fun b H3 => if b = true then A H3 else B H3) := h

theorem abcd_at {i c : Nat} (h : ("abcd" : Str).cps[i]? = some c) : [97, 98, 99, 100][i]? = some c := by
  have e : ("abcd" : Str).cps = #[97, 98, 99, 100] := by decide +kernel
  rw [e] at h
  simpa using h
theorem abcd_size : ("abcd" : Str).cps.size = 4 := by decide +kernel
def spCounts : Sp := fun vs H Q _ => ∃ l : List Nat, vs = [.str (tx l)] ∧ ∀ H' p, Same H H' → H p = none → H' p = some (.lst ([97, 98, 99, 100].map fun c => vn (cnt c l))) → Q (.ref p) H'
theorem ok_counts {f : Addr} {fd : FuncData} (F : Fun K "counts_of" "counts_of" sCounts f fd) (G : Glb mg) : FnOk P w K mg base CX0 1 f fd ["word"] spCounts := by
  obtain ⟨t1, hL⟩ := G.letters
  refine F.ok scCounts (fun vs H Q E h => ?_) (fun cdv A outer s H vs Q E hr h => ?_)
  · obtain ⟨l, rfl, _⟩ := h
    rfl
  · obtain ⟨l, rfl, q⟩ := h
    refine ⟨_, pss_one (ps_ret (pe_lc (own := [("letter", 1)]) (g := gName 1) (tt := tYes) rfl scCounts.nd (pi_str (pe_glob (v := .str "abcd") (by rfl) hL ⟨_, rfl⟩)) (blkOk_by (N := ["word", "letter"]) (sc := defScope sCounts) (by decide +kernel))
      (fun _ _ _ _ _ => pg_name (i := 1) scCounts.nd rfl (Or.inl rfl)) (fun _ _ _ _ _ => pts_nil) (fun _ _ _ _ _ => pe_m1 PySem.F.slot_str_count PySem.F.type_str_count mt_count (pv 0) (pv 1)))), ?_⟩
    refine ⟨_, rfl, fun D nD => lc_it walk_str (fun i H' => Same H H' ∧ H' D = some (.lst (([97, 98, 99, 100].take i).map fun c => vn (cnt c l)))) ⟨same_upd nD, upd_same⟩ (fun _ _ _ _ => trivial) ?_ ?_⟩
    · rintro i x H1 H2 hi ⟨s1, hD⟩ ⟨rfl, c, hc, rfl⟩
      have hc2 := abcd_at hc
      refine ⟨rfl, yes_in ?_⟩
      refine ⟨_, rfl, ⟨_, rfl⟩, _, rfl, _, _, rfl, rfl, _, hD, small_lt ?_, fun b o e => ?_, ?_⟩
      · rw [List.length_map, List.length_take]
        show min i 4 ≤ _
        omega
      · rw [upd_ne (ne_of_none e nD)]
        exact s1 _ _ e
      · rw [upd_same, List.take_add_one, hc2, List.map_append, tx_one, count_tx]
        rfl
    · rintro H1 ⟨s1, hD⟩
      rw [abcd_size] at hD
      exact q _ _ s1 nD hD
def spLen : Sp := fun vs H Q _ => ∃ (a : Addr) (ns l : List Nat), vs = [.ref a, .str (tx l)] ∧ H a = some (.tup (ns.map vn)) ∧ (∀ c, cnt c l ≤ ns.length) ∧ ∀ (m : Nat) (H' : Hp), Same H H' → m ≤ 4 * ns.sum → Q (vn m) H'
theorem sum_le4 {ms : List Nat} {b : Nat} (hl : ms.length = 4) (h : ∀ m ∈ ms, m ≤ b) : ms.sum ≤ 4 * b := by
  match ms, hl with
  | [x, y, z, u], _ =>
    have h1 := h x (by simp)
    have h2 := h y (by simp)
    have h3 := h z (by simp)
    have h4 := h u (by simp)
    show x + (y + (z + (u + 0))) ≤ _
    omega
theorem ok_len {f f1 f2 : Addr} {fd fd1 fd2 : FuncData} (F : Fun K "said_length" "said_length" sLen f fd) (F1 : Fun K "sum_of" "sum_of" sSum f1 fd1) (b1 : Binds K fd1 ["rule", "count"] []) (m1 : mg "sum_of" = some (.ref f1))
    (F2 : Fun K "counts_of" "counts_of" sCounts f2 fd2) (b2 : Binds K fd2 ["word"] []) (m2 : mg "counts_of" = some (.ref f2)) (G : Glb mg) : FnOk P w K mg base CX0 2 f fd ["rule", "word"] spLen := by
  have G1 : FnOk P w K mg base CX0 1 f1 fd1 ["rule", "count"] spSum := ok_sum F1 G
  have G2 : FnOk P w K mg base CX0 1 f2 fd2 ["word"] spCounts := ok_counts F2 G
  refine F.ok scLen (fun vs H Q E h => ?_) (fun cdv A outer s H vs Q E hr h => ?_)
  · obtain ⟨a, ns, l, rfl, _⟩ := h
    rfl
  · obtain ⟨a, ns, l, rfl, ha, hl, q⟩ := h
    refine ⟨_, pss_one (ps_ret (pe_callB (cr_sum rfl) (by rfl) G.sum boot_sum (pa_cons (pe_lc (own := [("count", 2)]) (g := gName 2) (tt := tYes) rfl scLen.nd (pi_list (pe_call G2 hr (by rfl) m2 F2.kp b2 .nil pass0 (pa_cons (pv 1) pa_nil)))
      (blkOk_by (N := ["rule", "word", "count"]) (sc := defScope sLen) (by decide +kernel)) (fun _ _ _ _ _ => pg_name (i := 2) scLen.nd rfl (Or.inl rfl)) (fun _ _ _ _ _ => pts_nil)
      (fun _ _ _ _ _ => pe_call G1 hr (by rfl) m1 F1.kp b1 .nil pass0 (pa_cons (pv 0) (pa_cons (pv 2) pa_nil)))) pa_nil))), ?_⟩
    refine ⟨_, rfl, l, rfl, fun H1 p s1 np hp => ⟨p, rfl, ⟨_, .inl (.inl hp)⟩, fun D nD => ?_⟩⟩
    have npD : p ≠ D := ne_of_none hp nD
    refine lc_it (walk_list (K := K) (a := p) (xs := [97, 98, 99, 100].map fun c => vn (cnt c l))) (fun i H' => Same H H' ∧ H' p = some (.lst ([97, 98, 99, 100].map fun c => vn (cnt c l))) ∧ ∃ ms : List Nat, ms.length = i ∧ (∀ m ∈ ms, m ≤ ns.sum) ∧ H' D = some (.lst (ms.map vn)))
      ⟨s1.trans (same_upd nD), by rw [upd_ne npD]; exact hp, [], rfl, (fun _ h => nomatch h), upd_same⟩ (fun _ _ _ h => .inl (.inl h.2.1)) ?_ ?_
    · rintro i x H2 H3 hi ⟨s2, hp2, ms, lm, hm, hD⟩ ⟨rfl, hx⟩
      rw [List.getElem?_map] at hx
      obtain ⟨c, hc, rfl⟩ := Option.map_eq_some_iff.mp hx
      refine ⟨rfl, yes_in ?_⟩
      refine ⟨_, rfl, _, rfl, a, ns, cnt c l, rfl, s2 _ _ ha, hl c, fun m H4 s3 hm2 => ?_⟩
      refine ⟨_, s3 _ _ hD, small_lt ?_, fun b o e => ?_, by rw [upd_ne npD]; exact s3 _ _ hp2, ms ++ [m], by simp [lm], fun k hk => ?_, ?_⟩
      · rw [List.length_map, lm]
        have : i < 4 := hi
        omega
      · have e2 : b ≠ D := fun z => by
          subst z
          exact absurd ((s1 _ _ e).symm.trans nD) (by simp)
        rw [upd_ne e2]
        exact s3 _ _ (s2 _ _ e)
      · rcases List.mem_append.mp hk with z | z
        · exact hm k z
        · rw [List.mem_singleton.mp z]; exact hm2
      · rw [upd_same, List.map_append]
        rfl
    · rintro H2 ⟨s2, _, ms, lm, hm, hD⟩
      refine ⟨D, _, rfl, .inl (.inl (hD.trans (by rw [vn_ints]))), ?_⟩
      rw [sum_ints]
      exact q _ _ s2 (sum_le4 lm hm)
end
end Say

set_option Elab.async false
set_option linter.all false
set_option maxRecDepth 100000
set_option maxHeartbeats 4000000
namespace Say
open PySem PySem.Spec PyProof.Rows L2
/-! ### words said: the plain part -/
theorem nth_le {ns : List Nat} {b : Nat} (h : ∀ n ∈ ns, n ≤ b) (k : Nat) : nth ns k ≤ b := by
  unfold nth
  rw [List.getD_eq_getElem?_getD]
  cases e : ns[k - 1]? with
  | none => exact Nat.zero_le _
  | some x => exact h x (List.mem_of_getElem? e)
theorem say_step {f : Nat → Nat} {l : List Nat} {i c : Nat} (h : l[i]? = some c) : sayR f (l.take i).reverse (l.drop i) = List.replicate (f (cnt c (l.take i).reverse + 1)) c ++ sayR f (l.take (i + 1)).reverse (l.drop (i + 1)) := by
  obtain ⟨hi, e⟩ := List.getElem?_eq_some_iff.mp h
  rw [List.drop_eq_getElem_cons hi, e, List.take_add_one, h]
  show _ = _ ++ sayR f (List.reverse (l.take i ++ [c])) _
  rw [List.reverse_append]
  rfl
theorem take_rev {l : List Nat} {i c : Nat} (h : l[i]? = some c) : (l.take (i + 1)).reverse = c :: (l.take i).reverse := by
  rw [List.take_add_one, h]
  show List.reverse (l.take i ++ [c]) = _
  rw [List.reverse_append]
  rfl
theorem cnt_next {l : List Nat} {i c : Nat} (h : l[i]? = some c) : cnt c (l.take i).reverse + 1 ≤ cnt c l := by
  have e1 : cnt c (l.take (i + 1)).reverse = cnt c (l.take i).reverse + 1 := by
    rw [take_rev h, cnt_one, if_pos rfl]
  have e2 : cnt c l = cnt c (l.take (i + 1)).reverse + cnt c (l.drop (i + 1)) := by
    rw [cnt_rev, ← cnt_app, List.take_append_drop]
  omega
theorem flat_len {ys : List (List Nat)} {b : Nat} (h : ∀ y ∈ ys, y.length ≤ b) : ys.flatten.length ≤ ys.length * b := by
  induction ys with
  | nil => simp
  | cons y r ih =>
    have h1 := h y List.mem_cons_self
    have h2 := ih fun z hz => h z (List.mem_cons_of_mem _ hz)
    rw [List.flatten_cons, List.length_append, List.length_cons, Nat.succ_mul]
    omega
theorem tx_lens (ys : List (List Nat)) : ((ys.map tx).map (·.length)).sum = ys.flatten.length := by
  induction ys with
  | nil => rfl
  | cons y r ih =>
    rw [List.map_cons, List.map_cons, List.sum_cons, ih, List.flatten_cons, List.length_append, tx_len]
theorem mul_nat (c n : Nat) : Txt.mul (tx [c]) (n : Int) = tx (List.replicate n c) := by
  rw [mul_tx, Int.toNat_natCast]
section
variable {P : Program} {w : World} {K : PySem.W.Frag} {mg : Str → Option Value} {base : Heap}
def spSaidOf : Sp := fun vs H Q _ => ∃ (a : Addr) (ns l : List Nat), vs = [.ref a, .str (tx l)] ∧ H a = some (.tup (ns.map vn)) ∧ (∀ c, cnt c l ≤ ns.length) ∧ l.length ≤ 100 ∧ (∀ n ∈ ns, n ≤ 9) ∧
  ∀ H', Same H H' → Q (.str (tx (sayR (nth ns) [] l))) H'
theorem ok_saidOf {f f1 : Addr} {fd fd1 : FuncData} (F : Fun K "said_of" "said_of" sSaidOf f fd) (F1 : Fun K "times_of" "times_of" sTimes f1 fd1) (b1 : Binds K fd1 ["rule", "number"] []) (m1 : mg "times_of" = some (.ref f1)) (G : Glb mg) :
    FnOk P w K mg base CX0 2 f fd ["rule", "word"] spSaidOf := by
  have G1 : FnOk P w K mg base CX0 1 f1 fd1 ["rule", "number"] spTimes := ok_times F1 G
  refine F.ok scSaidOf (fun vs H Q E h => ?_) (fun cdv A outer s H vs Q E hr h => ?_)
  · obtain ⟨a, ns, l, rfl, _⟩ := h
    rfl
  · obtain ⟨a, ns, l, rfl, ha, hcn, hll, h9, q⟩ := h
    refine ⟨_, pss_cons (ps_par (i := 2) (j := 3) (by rfl) scSaidOf.nd rfl rfl (by decide) rfl rfl (pa_cons pe_dnewK (pa_cons (pe_lst pa_nil) pa_nil)) (by rfl))
      (pss_cons (ps_for PassesOwn.never rfl (pi_str (pv 1)) (pg_name (i := 4) scSaidOf.nd rfl (Or.inl rfl))
        (pss_cons (ps_dput (hu_of hr) (pv 2) (pv 4) (pe_op op_add (pe_dget2 (hu_of hr) (pv 2) (pv 4) pe_int ⟨rfl, rfl, rfl, rfl⟩) pe_int) rfl)
        (pss_one (ps_expr (pe_bm PySem.F.plainAttrs_list PySem.F.slot_list_append PySem.F.type_list_append mt_append (pv 3) (pa_cons (pe_op op_mulS (pv 4)
          (pe_call G1 hr (by rfl) m1 F1.kp b1 .nil pass0 (pa_cons (pv 0) (pa_cons (pe_dget (hu_of hr) (pv 2) (pv 4) (fun _ _ => rfl)) pa_nil)))) pa_nil))))))
      (pss_one (ps_ret (pe_join pe_str (pv 3))))), ?_⟩
    refine fun d nd => ⟨Nat.zero_le _, fun o no => ⟨_, _, rfl, ?_⟩⟩
    have s0 : Same H (upd (upd H d (.dK [])) o (.lst [])) := (same_upd nd).trans (same_upd no)
    have ndo : d ≠ o := fun z => by
      rw [← z, upd_same] at no
      cases no
    have no0 : H o = none := (same_upd nd).free no
    refine ⟨_, rfl, _, rfl, for_it walk_str (fun i σ H' => ∃ (kvs : List (Key × V)) (ys : List (List Nat)) (y4 : Option V), σ = [some (.ref a), some (.str (tx l)), some (.ref d), some (.ref o), y4] ∧ Same H H' ∧ H' d = some (.dK kvs) ∧
        (Knows kvs fun c => cnt c (l.take i).reverse) ∧ kvs.length ≤ i ∧ H' o = some (.lst ((ys.map tx).map V.str)) ∧ ys.length = i ∧ (∀ y ∈ ys, y.length ≤ 9) ∧ ys.flatten ++ sayR (nth ns) (l.take i).reverse (l.drop i) = sayR (nth ns) [] l)
      ⟨[], [], none, rfl, s0, by rw [upd_ne ndo, upd_same], knows_nil, Nat.le_refl _, upd_same, rfl, (fun _ h => nomatch h), rfl⟩ (fun _ _ _ _ _ => trivial) ?_ ?_⟩
    · rintro i x σ H1 H2 hi ⟨kvs, ys, y4, rfl, s1, hd, hk, lk, ho, ly, y9, eq⟩ ⟨rfl, c, hc, rfl⟩
      rw [tx_get] at hc
      rw [tx_sz] at hi
      have hcn1 := Nat.le_trans (cnt_next hc) (hcn c)
      have kn := knows_cnt (c := c) hk
      refine ⟨_, rfl, d, rfl, .inl ⟨kvs, .inl hd⟩, _, rfl, _, DGet.k (k := Sum.inr (tx [c])) hd, _, _, knows_get hk c, rfl, _, rfl, _, rfl, d, _, rfl, DPut.k (k := Sum.inr (tx [c])) hd (small_lt (by omega)), ?_⟩
      have nod : o ≠ d := ndo.symm
      refine ⟨_, rfl, .inl ⟨rfl, _, .inl (.inl (by rw [upd_ne nod]; exact ho))⟩, _, rfl, _, rfl, _, rfl, _, rfl, d, _, rfl, ?dg, a, ns, cnt c (l.take i).reverse + 1, rfl, ?ha, Nat.succ_le_succ (Nat.zero_le _), hcn1, ?_⟩
      case dg =>
        have q1 := DGet.k (k := Sum.inr (tx [c])) (upd_same (H := H2) (a := d) (o := .dK (putK kvs (Sum.inr (tx [c])) (.int ((cnt c (l.take i).reverse : Int) + 1)))))
        have q2 : valV (putK kvs (Sum.inr (tx [c])) (.int ((cnt c (l.take i).reverse : Int) + 1))) (Sum.inr (tx [c])) = some (vn (cnt c (l.take i).reverse + 1)) := by
          rw [valV_put, if_pos rfl]
          rfl
        rw [q2] at q1
        exact q1
      case ha =>
        have nad : a ≠ d := ne_of_none ha nd
        rw [upd_ne nad]
        exact s1 _ _ ha
      refine ⟨tx [c], _, rfl, rfl, (by rw [tx_len]; exact (by decide : 1 ≤ 16)), ?_, ?_, o, _, _, rfl, rfl, (by rw [upd_ne nod]; exact ho), small_lt (by rw [List.length_map, List.length_map, ly]; omega), ?_⟩
      · have := nth_le h9 (cnt c (l.take i).reverse + 1)
        omega
      · omega
      refine ⟨_, ys ++ [List.replicate (nth ns (cnt c (l.take i).reverse + 1)) c], _, rfl, fun b z e => ?_, by rw [upd_ne ndo, upd_same], ?_, ?_, ?_, by simp [ly], fun y hy => ?_, ?_⟩
      · rw [upd_ne (ne_of_none e no0), upd_ne (ne_of_none e nd)]
        exact s1 _ _ e
      · rw [take_rev hc]
        exact kn
      · exact Nat.le_trans (length_putK kvs (Sum.inr (tx [c]) : Key) _) (Nat.succ_le_succ lk)
      · rw [upd_same, mul_nat, List.map_append, List.map_append]
        rfl
      · rcases List.mem_append.mp hy with z | z
        · exact y9 y z
        · rw [List.mem_singleton.mp z, List.length_replicate]
          exact nth_le h9 _
      · rw [List.flatten_append, ← eq, say_step hc]
        simp
    · rintro σ H1 ⟨kvs, ys, y4, rfl, s1, hd, hk, lk, ho, ly, y9, eq⟩
      rw [tx_sz] at ly eq
      refine ⟨⟨_, rfl⟩, _, rfl, _, o, ys.map tx, rfl, rfl, .inl (.inl (.inl ho)), ?_, ?_⟩
      · have := flat_len y9
        rw [tx_lens, List.length_map]
        show _ + _ * 0 ≤ _
        omega
      · rw [show ("" : Str) = Str.empty from rfl, join_tx]
        rw [List.drop_length] at eq
        have e2 : ys.flatten = sayR (nth ns) [] l := by
          rw [← eq]
          simp [sayR]
        rw [e2]
        exact q _ s1
end
end Say

set_option Elab.async false
set_option linter.all false
set_option maxRecDepth 100000
set_option maxHeartbeats 4000000
namespace Say
open PySem PySem.Spec PyProof.Rows L2
section
variable {P : Program} {w : World} {K : PySem.W.Frag} {mg : Str → Option Value} {base : Heap}
theorem sum_le {b : Nat} : ∀ {ns : List Nat}, (∀ n ∈ ns, n ≤ b) → ns.sum ≤ ns.length * b
  | [], _ => by simp
  | x :: r, h => by
    have h1 := h x List.mem_cons_self
    have h2 := sum_le (ns := r) fun n hn => h n (List.mem_cons_of_mem _ hn)
    rw [List.sum_cons, List.length_cons, Nat.succ_mul]
    omega
def spSaid : Sp := fun vs H Q _ => ∃ (a : Addr) (ns l : List Nat), vs = [.ref a, .str (tx l)] ∧ H a = some (.tup (ns.map vn)) ∧ 1 ≤ ns.length ∧ ns.length ≤ 30 ∧ (∀ c, cnt c l ≤ ns.length) ∧ l.length ≤ 100 ∧ Let4 l ∧ (∀ n ∈ ns, n ≤ 9) ∧
  ∀ H', Same H H' → Q (.str (tx (sayR (nth ns) [] l))) H'
theorem ok_said {f f1 f2 f3 f4 : Addr} {fd fd1 fd2 fd3 fd4 : FuncData} (F : Fun K "said" "said" sSaid f fd)
    (k1 : PySem.W.keepIn K (.ref f1) = true) (b1 : Binds K fd1 ["value"] []) (m1 : mg "need_rule" = some (.ref f1)) (G1 : FnOk P w K mg base CX0 3 f1 fd1 ["value"] spNeedRule)
    (k2 : PySem.W.keepIn K (.ref f2) = true) (b2 : Binds K fd2 ["value"] []) (m2 : mg "need_word" = some (.ref f2)) (G2 : FnOk P w K mg base CX0 1 f2 fd2 ["value"] spNeedWord)
    (k3 : PySem.W.keepIn K (.ref f3) = true) (b3 : Binds K fd3 ["rule", "word"] []) (m3 : mg "said_length" = some (.ref f3)) (G3 : FnOk P w K mg base CX0 2 f3 fd3 ["rule", "word"] spLen)
    (k4 : PySem.W.keepIn K (.ref f4) = true) (b4 : Binds K fd4 ["rule", "word"] []) (m4 : mg "said_of" = some (.ref f4)) (G4 : FnOk P w K mg base CX0 2 f4 fd4 ["rule", "word"] spSaidOf)
    (G : Glb mg) : FnOk P w K mg base CX0 4 f fd ["rule", "word"] spSaid := by
  obtain ⟨t1, hM⟩ := G.mostSaid
  refine F.ok scSaid (fun vs H Q E h => ?_) (fun cdv A outer s H vs Q E hr h => ?_)
  · obtain ⟨a, ns, l, rfl, _⟩ := h
    rfl
  · obtain ⟨a, ns, l, rfl, ha, l1, l2, hcn, hl, h4, h9, q⟩ := h
    have r1 : Room 1 _ := hr.mono (by decide)
    have r2 : Room 2 _ := hr.mono (by decide)
    refine ⟨_, pss_cons (ps_expr (pe_call G1 hr (by rfl) m1 k1 b1 .nil pass0 (pa_cons (pv 0) pa_nil)))
      (pss_cons (ps_expr (pe_call G2 r1 (by rfl) m2 k2 b2 .nil pass0 (pa_cons (pv 1) pa_nil)))
      (pss_cons (ps_if (pt_cmpR op_gt (pe_call G3 r2 (by rfl) m3 k3 b3 .nil pass0 (pa_cons (pv 0) (pa_cons (pv 1) pa_nil))) (pe_glob (v := .int 20000) (by rfl) hM ⟨_, rfl⟩) (nomark _)) (pss_one ps_never) pss_nil)
      (pss_one (ps_ret (pe_call G4 r2 (by rfl) m4 k4 b4 .nil pass0 (pa_cons (pv 0) (pa_cons (pv 1) pa_nil))))))), ?_⟩
    refine ⟨_, rfl, a, ns, rfl, ha, l1, l2, fun n hn => Nat.le_trans (h9 n hn) (by decide), fun H1 s1 => ?_⟩
    refine ⟨_, rfl, l, rfl, by omega, h4, fun H2 s2 => ?_⟩
    refine ⟨_, rfl, _, rfl, a, ns, l, rfl, s2 _ _ (s1 _ _ ha), hcn, fun m H3 s3 hm => ?_⟩
    refine ⟨(m : Int), 20000, rfl, rfl, _, rfl, ?_⟩
    have hs := sum_le h9
    have hs2 : ns.length * 9 ≤ 30 * 9 := Nat.mul_le_mul_right 9 l2
    rw [decide_eq_false (by omega)]
    refine iteF ⟨_, rfl, _, rfl, a, ns, l, rfl, s3 _ _ (s2 _ _ (s1 _ _ ha)), hcn, hl, h9, fun H4 s4 => ?_⟩
    exact q _ (s1.trans (s2.trans (s3.trans s4)))
/-! ### _law_row_said -/
def spRowSaid : Sp := fun vs H Q _ => ∃ (a : Addr) (ns l : List Nat), vs = [.ref a, .str (tx l)] ∧ H a = some (.tup (ns.map vn)) ∧ (∀ c, cnt c l ≤ ns.length) ∧ l.length ≤ 100 ∧ (∀ n ∈ ns, n ≤ 9) ∧
  ∀ H', Same H H' → Q (.str (tx (imgM ns l))) H'
theorem ok_rowSaid {f : Addr} {fd : FuncData} (F : Fun K "_law_row_said" "_law_row_said" sRowSaid f fd) (G : Glb mg) : FnOk P w K mg base CX0 1 f fd ["_law_told", "_law_word_here"] spRowSaid := by
  refine F.ok scRowSaid (fun vs H Q E h => ?_) (fun cdv A outer s H vs Q E hr h => ?_)
  · obtain ⟨a, ns, l, rfl, _⟩ := h
    rfl
  · obtain ⟨a, ns, l, rfl, ha, hcn, hll, h9, q⟩ := h
    refine ⟨_, pss_cons (ps_par (i := 2) (j := 3) (by rfl) scRowSaid.nd rfl rfl (by decide) rfl rfl (pa_cons pe_str (pa_cons pe_dnewK pa_nil)) (by rfl))
      (pss_cons (ps_for PassesOwn.never rfl (pi_str (pv 1)) (pg_name (i := 4) scRowSaid.nd rfl (Or.inl rfl))
        (pss_cons (ps_dput (hu_of hr) (pv 3) (pv 4) (pe_op op_add (pe_dget2 (hu_of hr) (pv 3) (pv 4) pe_int ⟨rfl, rfl, rfl, rfl⟩) pe_int) rfl)
        (pss_one (ps_set (i := 2) scRowSaid.nd rfl (.inl rfl) (pe_op op_add_str (pv 2) (pe_op op_mulS (pv 4) (pe_ix ix_tup (pv 0) (pe_op op_sub (pe_dget (hu_of hr) (pv 3) (pv 4) (fun _ _ => rfl)) pe_int) (fun _ _ => rfl))))))))
      (pss_one (ps_ret (pv 2)))), ?_⟩
    refine fun d nd => ⟨_, _, rfl, ?_⟩
    have s0 : Same H (upd H d (.dK [])) := same_upd nd
    refine ⟨_, rfl, _, rfl, for_it walk_str (fun i σ H' => ∃ (kvs : List (Key × V)) (ys : List Nat) (y4 : Option V), σ = [some (.ref a), some (.str (tx l)), some (.str (tx ys)), some (.ref d), y4] ∧ Same H H' ∧ H' d = some (.dK kvs) ∧
        (Knows kvs fun c => cnt c (l.take i).reverse) ∧ kvs.length ≤ i ∧ ys.length ≤ i * 9 ∧ ys ++ sayR (nth ns) (l.take i).reverse (l.drop i) = imgM ns l)
      ⟨[], [], none, rfl, s0, upd_same, knows_nil, Nat.le_refl _, Nat.zero_le _, rfl⟩ (fun _ _ _ _ _ => trivial) ?_ ?_⟩
    · rintro i x σ H1 H2 hi ⟨kvs, ys, y4, rfl, s1, hd, hk, lk, ly, eq⟩ ⟨rfl, c, hc, rfl⟩
      rw [tx_get] at hc
      rw [tx_sz] at hi
      have hcn1 := Nat.le_trans (cnt_next hc) (hcn c)
      have kn := knows_cnt (c := c) hk
      have hlen : (ns.map vn).length = ns.length := List.length_map _
      refine ⟨_, rfl, d, rfl, .inl ⟨kvs, .inl hd⟩, _, rfl, _, DGet.k (k := Sum.inr (tx [c])) hd, _, _, knows_get hk c, rfl, _, rfl, _, rfl, d, _, rfl, DPut.k (k := Sum.inr (tx [c])) hd (small_lt (by omega)), ?_⟩
      refine ⟨_, rfl, _, rfl, _, rfl, _, rfl, _, rfl, d, vn (cnt c (l.take i).reverse + 1), rfl, ?dg, ((cnt c (l.take i).reverse + 1 : Nat) : Int), 1, rfl, rfl, a, ns.map vn, _, vn (nth ns (cnt c (l.take i).reverse + 1)), rfl, rfl, .inl (.inl ?ha), ?hat, ?_⟩
      case dg =>
        have q1 := DGet.k (k := Sum.inr (tx [c])) (upd_same (H := H2) (a := d) (o := .dK (putK kvs (Sum.inr (tx [c])) (.int ((cnt c (l.take i).reverse : Int) + 1)))))
        have q2 : valV (putK kvs (Sum.inr (tx [c])) (.int ((cnt c (l.take i).reverse : Int) + 1))) (Sum.inr (tx [c])) = some (vn (cnt c (l.take i).reverse + 1)) := by
          rw [valV_put, if_pos rfl]
          rfl
        rw [q2] at q1
        exact q1
      case ha =>
        have nad : a ≠ d := ne_of_none ha nd
        rw [upd_ne nad]
        exact s1 _ _ ha
      case hat =>
        have e2 : (((cnt c (l.take i).reverse + 1 : Nat) : Int) - 1) = ((cnt c (l.take i).reverse : Nat) : Int) := by omega
        rw [e2]
        refine atI_nat ?_
        rw [List.getElem?_map, List.getElem?_eq_getElem hcn1]
        show some (vn ns[cnt c (l.take i).reverse]) = _
        unfold nth
        rw [Nat.add_sub_cancel, List.getD_eq_getElem?_getD, List.getElem?_eq_getElem hcn1]
        rfl
      have n9 := nth_le h9 (cnt c (l.take i).reverse + 1)
      refine ⟨tx [c], _, rfl, rfl, (by rw [tx_len]; exact (by decide : 1 ≤ 16)), by omega, by omega, tx ys, _, rfl, rfl, ?_, ?_⟩
      · rw [mul_nat, tx_len, tx_len, List.length_replicate]
        exact small_size (by omega)
      rw [mul_nat, tx_append]
      refine ⟨_, _, _, rfl, fun b z e => ?_, upd_same, ?_, ?_, ?_, ?_⟩
      · rw [upd_ne (ne_of_none e nd)]
        exact s1 _ _ e
      · rw [take_rev hc]
        exact kn
      · exact Nat.le_trans (length_putK kvs (Sum.inr (tx [c]) : Key) _) (Nat.succ_le_succ lk)
      · rw [List.length_append, List.length_replicate]
        omega
      · rw [← eq, say_step hc, List.append_assoc]
    · rintro σ H1 ⟨kvs, ys, y4, rfl, s1, hd, hk, lk, ly, eq⟩
      rw [tx_sz, List.drop_length] at eq
      have e2 : ys = imgM ns l := by
        rw [← eq]
        simp [sayR]
      refine ⟨_, rfl, ?_⟩
      rw [e2]
      exact q _ s1
/-! ### product_of -/
theorem prod_app : ∀ (xs : List Nat) (y : Nat), prodN (xs ++ [y]) = prodN xs * y
  | [], y => by simp [prodN]
  | x :: r, y => by
    show x * prodN (r ++ [y]) = x * prodN r * y
    rw [prod_app r y, Nat.mul_assoc]
def spProd : Sp := fun vs H Q _ => ∃ (a : Addr) (ns : List Nat), vs = [.ref a] ∧ H a = some (.lst (ns.map vn)) ∧ (∀ n ∈ ns, n ≤ 1000) ∧ ∀ H', Same H H' → Q (vn (prodN ns)) H'
theorem ok_prod {f : Addr} {fd : FuncData} (F : Fun K "product_of" "product_of" sProd f fd) (G : Glb mg) : FnOk P w K mg base CX0 1 f fd ["told"] spProd := by
  refine F.ok scProd (fun vs H Q E h => ?_) (fun cdv A outer s H vs Q E hr h => ?_)
  · obtain ⟨a, ns, rfl, _⟩ := h
    rfl
  · obtain ⟨a, ns, rfl, ha, hn, q⟩ := h
    refine ⟨_, pss_cons (ps_set (i := 1) scProd.nd rfl (.inl rfl) pe_int) (pss_cons (ps_for PassesOwn.never rfl (pi_list (pv 0)) (pg_name (i := 2) scProd.nd rfl (Or.inl rfl))
      (pss_one (ps_aug (i := 1) scProd.nd rfl (.inl rfl) (pv 2) iop_mul))) (pss_one (ps_ret (pv 1)))), ?_⟩
    refine ⟨_, rfl, a, rfl, ⟨_, .inl (.inl ha)⟩, for_it (walk_list (K := K) (a := a) (xs := ns.map vn)) (fun i σ H' => ∃ y2, σ = [some (.ref a), some (vn (prodN (ns.take i))), y2] ∧ H' = H) ⟨none, rfl, rfl⟩ (fun _ _ _ _ ⟨_, _, e⟩ => .inl (.inl (by rw [e]; exact ha))) ?_ ?_⟩
    · rintro i x σ H1 H2 hi ⟨y2, rfl, rfl⟩ ⟨rfl, hx⟩
      rw [List.getElem?_map] at hx
      obtain ⟨n, hni, rfl⟩ := Option.map_eq_some_iff.mp hx
      have hb := hn n (List.mem_of_getElem? hni)
      refine ⟨_, rfl, _, rfl, _, _, rfl, rfl, .inr (by constructor <;> omega), some (vn n), ?_, rfl⟩
      rw [List.take_add_one, hni]
      show [_, some (V.int ((prodN (ns.take i) : Int) * (n : Int))), _] = [_, some (vn (prodN (ns.take i ++ [n]))), _]
      rw [prod_app]
      show _ = [_, some (V.int ((prodN (ns.take i) * n : Nat) : Int)), _]
      rw [Int.natCast_mul]
    · rintro σ H1 ⟨y2, rfl, rfl⟩
      refine ⟨_, rfl, ?_⟩
      rw [List.length_map, List.take_length]
      exact q _ (Same.refl _)
end
end Say

set_option Elab.async false
set_option linter.all false
set_option maxRecDepth 100000
set_option maxHeartbeats 4000000
namespace Say
open PySem PySem.Spec PyProof.Rows L2
/-! ### lists of pairs (letter, number) -/
theorem two_fit : 2 ≤ sizeLine := by decide
def prV (r : Nat × Nat) : HO := .tup [.str (tx [r.1]), vn r.2]
def Tups (H : Hp) : List Addr → List (Nat × Nat) → Prop
  | [], [] => True
  | t :: ts, r :: rs => H t = some (prV r) ∧ Tups H ts rs
  | [], _ :: _ => False
  | _ :: _, [] => False
theorem Tups.same {H H' : Hp} (s : Same H H') : ∀ {ts : List Addr} {rs : List (Nat × Nat)}, Tups H ts rs → Tups H' ts rs
  | [], [], _ => trivial
  | _ :: _, _ :: _, h => ⟨s _ _ h.1, Tups.same s h.2⟩
  | [], _ :: _, h => h.elim
  | _ :: _, [], h => h.elim
theorem Tups.len {H : Hp} : ∀ {ts : List Addr} {rs : List (Nat × Nat)}, Tups H ts rs → ts.length = rs.length
  | [], [], _ => rfl
  | _ :: _, _ :: _, h => congrArg (· + 1) (Tups.len h.2)
  | [], _ :: _, h => h.elim
  | _ :: _, [], h => h.elim
theorem Tups.app {H : Hp} : ∀ {ts : List Addr} {rs : List (Nat × Nat)} {ts2 : List Addr} {rs2 : List (Nat × Nat)}, Tups H ts rs → Tups H ts2 rs2 → Tups H (ts ++ ts2) (rs ++ rs2)
  | [], [], _, _, _, h => h
  | _ :: _, _ :: _, _, _, h, h2 => ⟨h.1, Tups.app h.2 h2⟩
  | [], _ :: _, _, _, h, _ => h.elim
  | _ :: _, [], _, _, h, _ => h.elim
theorem Tups.rev {H : Hp} : ∀ {ts : List Addr} {rs : List (Nat × Nat)}, Tups H ts rs → Tups H ts.reverse rs.reverse
  | [], [], _ => trivial
  | t :: ts, r :: rs, h => by
    rw [List.reverse_cons, List.reverse_cons]
    exact Tups.app (Tups.rev h.2) ⟨h.1, trivial⟩
  | [], _ :: _, h => h.elim
  | _ :: _, [], h => h.elim
theorem Tups.get {H : Hp} : ∀ {ts : List Addr} {rs : List (Nat × Nat)} {i : Nat} {t : Addr}, Tups H ts rs → ts[i]? = some t → ∃ r, rs[i]? = some r ∧ H t = some (prV r)
  | [], [], i, t, _, e => by simp at e
  | t0 :: ts, r0 :: rs, 0, t, h, e => by
    have e2 : t0 = t := by simpa using e
    subst e2
    exact ⟨r0, rfl, h.1⟩
  | t0 :: ts, r0 :: rs, i + 1, t, h, e => Tups.get (i := i) h.2 (by simpa using e)
  | [], _ :: _, _, _, h, _ => h.elim
  | _ :: _, [], _, _, h, _ => h.elim
theorem Tups.upd {H : Hp} {d : Addr} {o : HO} (hd : ∀ r, H d ≠ some (prV r)) : ∀ {ts : List Addr} {rs : List (Nat × Nat)}, Tups H ts rs → Tups (L2.upd H d o) ts rs
  | [], [], _ => trivial
  | t :: ts, r :: rs, h => ⟨by
      have ne : t ≠ d := fun z => hd r (z ▸ h.1)
      rw [upd_ne ne]
      exact h.1, Tups.upd hd h.2⟩
  | [], _ :: _, h => h.elim
  | _ :: _, [], h => h.elim
def pairD (r : Nat × Nat) : PyData := .tuple [.str (tx [r.1]), .int r.2]
theorem ok_letter {c : Nat} (h : c = 97 ∨ c = 98 ∨ c = 99 ∨ c = 100) : PyData.canLay0 (.str (tx [c])) = true := by
  rcases h with rfl | rfl | rfl | rfl <;> decide +kernel
theorem lay_runs : ∀ {rs : List (Nat × Nat)}, (∀ r ∈ rs, r.1 = 97 ∨ r.1 = 98 ∨ r.1 = 99 ∨ r.1 = 100) → PyData.canLayAll0 (rs.map pairD) = true ∧ PyData.depthAll (rs.map pairD) ≤ 1
  | [], _ => ⟨by simp [PyData.canLayAll0], by simp [PyData.depthAll]⟩
  | r :: rs, h => by
    have ih := lay_runs fun x hx => h x (List.mem_cons_of_mem _ hx)
    have h1 := ok_letter (h r List.mem_cons_self)
    rw [List.map_cons]
    constructor
    · simp [PyData.canLayAll0, pairD, PyData.canLay0, ih.1] at h1 ⊢
      exact h1
    · simp [PyData.depthAll, pairD, PyData.depth]
      exact Nat.max_le.mpr ⟨Nat.le_refl _, ih.2⟩
theorem shaped_runs {rs : List (Nat × Nat)} (h : ∀ r ∈ rs, r.1 = 97 ∨ r.1 = 98 ∨ r.1 = 99 ∨ r.1 = 100) : SeqAt.shaped (.list (rs.map pairD)) = true := by
  obtain ⟨h1, h2⟩ := lay_runs h
  unfold SeqAt.shaped
  rw [Bool.and_eq_true]
  constructor
  · simp [PyData.canLay0, h1]
  · simp [PyData.depth]
    omega
theorem Tups.dp {K : PySem.W.Frag} {H : Hp} : ∀ {ts : List Addr} {rs : List (Nat × Nat)}, Tups H ts rs → DpAll K H (ts.map V.ref) (rs.map pairD)
  | [], [], _ => .nil
  | t :: ts, r :: rs, h => .cons (.tup (.inl (.inl h.1)) (.cons (.str _) (.cons (.int _) .nil))) (Tups.dp h.2)
  | [], _ :: _, h => h.elim
  | _ :: _, [], h => h.elim
/-! ### runs: the plain part -/
theorem runs_let : ∀ {p : List Nat}, Let4 p → ∀ r ∈ runsR p, r.1 = 97 ∨ r.1 = 98 ∨ r.1 = 99 ∨ r.1 = 100
  | [], _, r, h => by simp [runsR] at h
  | c :: p, h4, r, h => by
    have hc := h4 c List.mem_cons_self
    have ih := runs_let (p := p) fun x hx => h4 x (List.mem_cons_of_mem _ hx)
    unfold runsR at h
    cases e : runsR p with
    | nil =>
      rw [e] at h
      have h2 : r = (c, cnt c p + 1) := by simpa using h
      rw [h2]
      exact hc
    | cons x q =>
      obtain ⟨d, m⟩ := x
      rw [e] at h ih
      cases b : Nat.beq d c with
      | true =>
        simp only [b, cond_true] at h
        rcases List.mem_cons.mp h with z | z
        · rw [z]; exact hc
        · exact ih r (List.mem_cons_of_mem _ z)
      | false =>
        simp only [b, cond_false] at h
        rcases List.mem_cons.mp h with z | z
        · rw [z]; exact hc
        · exact ih r z
theorem runs_nil (c : Nat) {p : List Nat} (e : runsR p = []) : runsR (c :: p) = [(c, cnt c p + 1)] := by
  show (match runsR p with
    | [] => [(c, cnt c p + 1)]
    | (d, m) :: q => bif Nat.beq d c then (c, cnt c p + 1) :: q else (c, cnt c p + 1) :: (d, m) :: q) = _
  rw [e]
theorem runs_eq {c m : Nat} {p : List Nat} {q : List (Nat × Nat)} (e : runsR p = (c, m) :: q) : runsR (c :: p) = (c, cnt c p + 1) :: q := by
  show (match runsR p with
    | [] => [(c, cnt c p + 1)]
    | (d, m) :: q => bif Nat.beq d c then (c, cnt c p + 1) :: q else (c, cnt c p + 1) :: (d, m) :: q) = _
  rw [e]
  show (bif Nat.beq c c then _ else _) = _
  rw [Nat.beq_refl]
  rfl
theorem runs_ne {c d m : Nat} {p : List Nat} {q : List (Nat × Nat)} (e : runsR p = (d, m) :: q) (h : d ≠ c) : runsR (c :: p) = (c, cnt c p + 1) :: (d, m) :: q := by
  show (match runsR p with
    | [] => [(c, cnt c p + 1)]
    | (d, m) :: q => bif Nat.beq d c then (c, cnt c p + 1) :: q else (c, cnt c p + 1) :: (d, m) :: q) = _
  rw [e]
  show (bif Nat.beq d c then _ else _) = _
  rw [show Nat.beq d c = false from Bool.eq_false_iff.mpr fun q => h (Nat.beq_eq.mp q)]
  rfl
theorem runs_len : ∀ p : List Nat, (runsR p).length ≤ p.length
  | [] => Nat.le_refl _
  | c :: p => by
    have ih := runs_len p
    rw [List.length_cons]
    cases e : runsR p with
    | nil => rw [runs_nil c e]; simp
    | cons x q =>
      obtain ⟨d, m⟩ := x
      rw [e] at ih
      by_cases h : d = c
      · subst h
        rw [runs_eq e]
        simp at ih ⊢
        omega
      · rw [runs_ne e h]
        simp at ih ⊢
        omega
section
variable {P : Program} {w : World} {K : PySem.W.Frag} {mg : Str → Option Value} {base : Heap}
def spRuns : Sp := fun vs H Q _ => ∃ l : List Nat, vs = [.str (tx l)] ∧ l.length ≤ 100 ∧ Let4 l ∧ ∀ (H' : Hp) (o : Addr) (ts : List Addr), Same H H' → H o = none → H' o = some (.lst (ts.map V.ref)) → Tups H' ts (runsR l.reverse).reverse → Q (.ref o) H'
theorem let_one {l : List Nat} {i : Nat} (h : Let4 l) : Let4 (l.take i).reverse := fun c hc => h c (List.mem_of_mem_take (List.mem_reverse.mp hc))
theorem ok_runs {f : Addr} {fd : FuncData} (F : Fun K "runs_of" "runs_of" sRuns f fd) (G : Glb mg) : FnOk P w K mg base CX0 1 f fd ["word"] spRuns := by
  refine F.ok scRuns (fun vs H Q E h => ?_) (fun cdv A outer s H vs Q E hr h => ?_)
  · obtain ⟨l, rfl, _⟩ := h
    rfl
  · obtain ⟨l, rfl, hl, h4, q⟩ := h
    refine ⟨_, pss_cons (ps_par (i := 1) (j := 2) (by rfl) scRuns.nd rfl rfl (by decide) rfl rfl (pa_cons pe_dnewK (pa_cons (pe_lst pa_nil) pa_nil)) (by rfl))
      (pss_cons (ps_for PassesOwn.never rfl (pi_str (pv 0)) (pg_name (i := 3) scRuns.nd rfl (Or.inl rfl))
        (pss_cons (ps_dput (hu_of hr) (pv 1) (pv 3) (pe_op op_add (pe_dget2 (hu_of hr) (pv 1) (pv 3) pe_int ⟨rfl, rfl, rfl, rfl⟩) pe_int) rfl)
        (pss_one (ps_if (PW.pt (pw_and (pt_cmpR (op_neD hr.units) (pv 2) (pe_lst pa_nil) (nomark _)) (pw_and1 (pt_cmpR op_eq (pe_ix ix_tup (pe_ix ix_list (pv 2) (pe_un un_neg pe_int) (fun _ _ => rfl)) pe_int (fun _ _ => rfl)) (pv 3) (nomark _)))))
          (pss_one (ps_asg (pe_tup (pa_cons (pv 3) (pa_cons (pe_dget (hu_of hr) (pv 1) (pv 3) (fun _ _ => rfl)) pa_nil))) (pg_sub (pv 2) (pe_un un_neg pe_int) set_list)))
          (pss_one (ps_expr (pe_bm PySem.F.plainAttrs_list PySem.F.slot_list_append PySem.F.type_list_append mt_append (pv 2) (pa_cons (pe_tup (pa_cons (pv 3) (pa_cons (pe_dget (hu_of hr) (pv 1) (pv 3) (fun _ _ => rfl)) pa_nil))) pa_nil))))))))
      (pss_one (ps_ret (pv 2)))), ?_⟩
    refine fun d nd => ⟨Nat.zero_le _, fun o no => ⟨_, _, rfl, ?_⟩⟩
    have s0 : Same H (upd (upd H d (.dK [])) o (.lst [])) := (same_upd nd).trans (same_upd no)
    have ndo : d ≠ o := fun z => by
      rw [← z, upd_same] at no
      cases no
    have no0 : H o = none := (same_upd nd).free no
    refine ⟨_, rfl, _, rfl, for_it walk_str (fun i σ H' => ∃ (kvs : List (Key × V)) (tr : List Addr) (y3 : Option V), σ = [some (.str (tx l)), some (.ref d), some (.ref o), y3] ∧ Same H H' ∧ H' d = some (.dK kvs) ∧
        (Knows kvs fun c => cnt c (l.take i).reverse) ∧ kvs.length ≤ i ∧ H' o = some (.lst (tr.reverse.map V.ref)) ∧ Tups H' tr (runsR (l.take i).reverse))
      ⟨[], [], none, rfl, s0, by rw [upd_ne ndo, upd_same], knows_nil, Nat.le_refl _, upd_same, trivial⟩ (fun _ _ _ _ _ => trivial) ?_ ?_⟩
    · rintro i x σ H1 H2 hi ⟨kvs, tr, y3, rfl, s1, hd, hk, lk, ho, ht⟩ ⟨rfl, c, hc, rfl⟩
      rw [tx_get] at hc
      rw [tx_sz] at hi
      have hcl := h4 c (List.mem_of_getElem? hc)
      have kn := knows_cnt (c := c) hk
      have lt := runs_let (let_one (i := i) h4)
      have nod : o ≠ d := ndo.symm
      generalize hp : (l.take i).reverse = p at hk kn ht lt
      refine ⟨_, rfl, d, rfl, .inl ⟨kvs, .inl hd⟩, _, rfl, _, DGet.k (k := Sum.inr (tx [c])) hd, _, _, knows_get hk c, rfl, _, rfl, _, rfl, d, upd H2 d (.dK (putK kvs (Sum.inr (tx [c])) (vn (cnt c p + 1)))), rfl, DPut.k (k := Sum.inr (tx [c])) hd (small_lt (by omega)), ?_⟩
      have val : valV (putK kvs (Sum.inr (tx [c])) (vn (cnt c p + 1))) (Sum.inr (tx [c])) = some (vn (cnt c p + 1)) := by
        rw [valV_put, if_pos rfl]
      have kl := Nat.le_trans (length_putK kvs (Sum.inr (tx [c]) : Key) (vn (cnt c p + 1))) (Nat.succ_le_succ lk)
      generalize putK kvs (Sum.inr (tx [c])) (vn (cnt c p + 1)) = kvs2 at kn val kl ⊢
      have ho2 : (upd H2 d (.dK kvs2)) o = some (.lst (tr.reverse.map V.ref)) := by rw [upd_ne nod]; exact ho
      have ht2 : Tups (upd H2 d (.dK kvs2)) tr (runsR p) := ht.upd fun r => by rw [hd]; intro z; cases z
      have hd2 : (upd H2 d (.dK kvs2)) d = some (.dK kvs2) := upd_same
      have s2 : Same H (upd H2 d (.dK kvs2)) := fun b z e => by
        rw [upd_ne (ne_of_none e nd)]
        exact s1 _ _ e
      generalize upd H2 d (.dK kvs2) = H3 at ho2 ht2 hd2 s2 ⊢
      have fin : ∀ (H4 : Hp) (T : Addr) (tr2 : List Addr), Same H3 H4 → H4 T = none → Tups (upd H4 T (prV (c, cnt c p + 1))) tr2 (runsR (c :: p)) →
          ∃ (kvs : List (Key × V)) (tr : List Addr) (y3 : Option V), [some (V.str (tx l)), some (.ref d), some (.ref o), some (.str ⟨#[c]⟩)] = [some (.str (tx l)), some (.ref d), some (.ref o), y3] ∧ Same H (upd (upd H4 T (prV (c, cnt c p + 1))) o (.lst (tr2.reverse.map V.ref))) ∧
            (upd (upd H4 T (prV (c, cnt c p + 1))) o (.lst (tr2.reverse.map V.ref))) d = some (.dK kvs) ∧ (Knows kvs fun c => cnt c (l.take (i + 1)).reverse) ∧ kvs.length ≤ i + 1 ∧
            (upd (upd H4 T (prV (c, cnt c p + 1))) o (.lst (tr2.reverse.map V.ref))) o = some (.lst (tr.reverse.map V.ref)) ∧ Tups (upd (upd H4 T (prV (c, cnt c p + 1))) o (.lst (tr2.reverse.map V.ref))) tr (runsR (l.take (i + 1)).reverse) := by
        intro H4 T tr2 s4 nT t2
        have nT2 : o ≠ T := ne_of_none (s4 _ _ ho2) nT
        refine ⟨kvs2, tr2, _, rfl, fun b z e => ?_, ?_, ?_, kl, upd_same, ?_⟩
        · have e4 := s4 _ _ (s2 _ _ e)
          rw [upd_ne (ne_of_none e no0), upd_ne (ne_of_none e4 nT)]
          exact e4
        · rw [upd_ne ndo, upd_ne (ne_of_none (s4 _ _ hd2) nT)]
          exact s4 _ _ hd2
        · rw [take_rev hc, hp]
          exact kn
        · rw [take_rev hc, hp]
          refine t2.upd fun r => ?_
          rw [upd_ne nT2, s4 _ _ ho2]
          intro z
          cases z
      have dg : ∀ H4, Same H3 H4 → DGet H4 d (.str ⟨#[c]⟩) (some (vn (cnt c p + 1))) := fun H4 s4 => by
        have q1 := DGet.k (k := Sum.inr (tx [c])) (s4 _ _ hd2)
        rw [val] at q1
        exact q1
      refine ⟨_, rfl, Nat.zero_le _, fun e ne => ?_⟩
      have s4 : Same H3 (upd H3 e (.lst [])) := same_upd ne
      have t4 := ht2.same s4
      have ho4 := s4 _ _ ho2
      have lt2 : ∀ r ∈ (runsR p).reverse, r.1 = 97 ∨ r.1 = 98 ∨ r.1 = 99 ∨ r.1 = 100 := fun r hr => lt r (List.mem_reverse.mp hr)
      refine ⟨.list ((runsR p).reverse.map pairD), .list [], .lst (.inl (.inl ho4)) t4.rev.dp, .lst (.inl (.inl upd_same)) .nil, shaped_runs lt2, (by decide +kernel), _, rfl, ?_⟩
      cases er : runsR p with
      | nil =>
        rw [er] at t4
        have etr : tr = [] := List.length_eq_zero_iff.mp t4.len
        subst etr
        refine iteF ?_
        refine ⟨_, rfl, .inl ⟨rfl, _, .inl (.inl ho4)⟩, _, rfl, _, rfl, _, rfl, d, _, rfl, dg _ s4, two_fit, fun T nT => ?_⟩
        refine ⟨o, _, _, rfl, rfl, (by rw [upd_ne (ne_of_none ho4 nT)]; exact ho4), (by decide), ?_⟩
        exact fin _ T [T] s4 nT (by rw [runs_nil c er]; exact ⟨upd_same, trivial⟩)
      | cons x rq =>
        obtain ⟨d0, m⟩ := x
        rw [er] at t4
        obtain ⟨t, tq, rfl⟩ : ∃ t tq, tr = t :: tq := by
          cases tr with
          | nil => exact t4.elim
          | cons t tq => exact ⟨t, tq, rfl⟩
        have e1 : (t :: tq).reverse.map V.ref = tq.reverse.map V.ref ++ [V.ref t] := by
          rw [List.reverse_cons, List.map_append]
          rfl
        have eqv : PyData.eqv (.list (((d0, m) :: rq).reverse.map pairD)) (.list []) = false := by
          rw [List.reverse_cons, List.map_append]
          cases rq.reverse.map pairD with
          | nil => rfl
          | cons y ys => rfl
        rw [eqv]
        rw [e1] at ho4
        refine iteT ?_
        refine ⟨_, rfl, 1, rfl, o, _, _, .ref t, rfl, rfl, .inl (.inl ho4), atI_last _ _, t, _, 0, .str (tx [d0]), rfl, rfl, .inl (.inl t4.1), atI_nat (j := 0) rfl, _, rfl, rfl, _, rfl, ?_⟩
        by_cases h : d0 = c
        · subst h
          rw [decide_eq_true (by rfl)]
          refine iteT ⟨_, rfl, _, rfl, _, rfl, d, _, rfl, dg _ s4, two_fit, fun T nT => ?_⟩
          have hoT : (upd (upd H3 e (.lst [])) T (prV (d0, cnt d0 p + 1))) o = some (.lst (tq.reverse.map V.ref ++ [V.ref t])) := by
            rw [upd_ne (ne_of_none ho4 nT)]
            exact ho4
          refine ⟨_, rfl, 1, rfl, o, _, _, tq.reverse.length, rfl, rfl, hoT, ?_, ?_⟩
          · unfold ixN
            rw [List.length_append, List.length_map]
            show (if (0 : Int) ≤ -1 then _ else _) = _
            rw [if_neg (by decide), if_pos (by show -((_ + 1 : Nat) : Int) ≤ -1; omega)]
            show some ((-1 : Int) + ((_ + 1 : Nat) : Int)).toNat = _
            congr 1
            omega
          · have e2 : (tq.reverse.map V.ref ++ [V.ref t]).set tq.reverse.length (V.ref T) = (T :: tq).reverse.map V.ref := by
              rw [List.reverse_cons, List.map_append, List.set_append_right _ _ (by rw [List.length_map]; exact Nat.le_refl _), List.length_map, Nat.sub_self]
              rfl
            rw [e2]
            refine fin _ T (T :: tq) s4 nT ?_
            rw [runs_eq er]
            exact ⟨upd_same, t4.2.same (same_upd nT)⟩
        · rw [show decide (V.str (tx [d0]) = V.str ⟨#[c]⟩) = false from decide_eq_false (fun z => h (List.cons.inj (tx_inj (b := [c]) (V.str.inj z))).1)]
          refine iteF ⟨_, rfl, .inl ⟨rfl, _, .inl (.inl ho4)⟩, _, rfl, _, rfl, _, rfl, d, _, rfl, dg _ s4, two_fit, fun T nT => ?_⟩
          have hoT : (upd (upd H3 e (.lst [])) T (prV (c, cnt c p + 1))) o = some (.lst (tq.reverse.map V.ref ++ [V.ref t])) := by
            rw [upd_ne (ne_of_none ho4 nT)]
            exact ho4
          have tl : (t :: tq).length ≤ 100 := by
            have z := t4.len
            have z2 := runs_len p
            rw [er] at z2
            have z3 : p.length ≤ 100 := by
              rw [← hp, List.length_reverse, List.length_take]
              omega
            omega
          refine ⟨o, _, _, rfl, rfl, hoT, small_lt ?_, ?_⟩
          · rw [← e1, List.length_map, List.length_reverse]
            omega
          · have e2 : (tq.reverse.map V.ref ++ [V.ref t]) ++ [V.ref T] = (T :: t :: tq).reverse.map V.ref := by
              rw [List.reverse_cons, List.map_append, e1]
              rfl
            rw [e2]
            refine fin _ T (T :: t :: tq) s4 nT ?_
            rw [runs_ne er h]
            exact ⟨upd_same, t4.same (same_upd nT)⟩
    · rintro σ H1 ⟨kvs, tr, y3, rfl, s1, hd, hk, lk, ho, ht⟩
      rw [tx_sz, List.take_length] at ht
      exact ⟨_, rfl, q _ _ _ s1 no0 ho ht.rev⟩
end
end Say

set_option Elab.async false
set_option linter.all false
set_option maxRecDepth 100000
set_option maxHeartbeats 4000000
namespace Say
open PySem PySem.Spec PyProof.Rows L2
/-! ### word_of -/
/-- what is known, with 0 where nothing is -/
def KnowsD (kvs : List (Key × V)) (f : Nat → Nat) : Prop := ∀ c, (valV kvs (Sum.inr (tx [c]))).getD (.int 0) = vn (f c)
theorem knowsD_put {kvs : List (Key × V)} {f : Nat → Nat} (h : KnowsD kvs f) (c n : Nat) : KnowsD (putK kvs (Sum.inr (tx [c])) (vn n)) (fun d => bif Nat.beq c d then n else f d) := by
  intro d
  rw [valV_put]
  by_cases e : d = c
  · subst e
    show _ = vn (bif Nat.beq d d then n else f d)
    rw [if_pos rfl, Nat.beq_refl]
    rfl
  · have ne : ¬ (Sum.inr (tx [d]) : Key) = Sum.inr (tx [c]) := fun q => e (List.cons.inj (tx_inj (Sum.inr.inj q))).1
    rw [if_neg ne]
    show _ = vn (bif Nat.beq c d then n else f d)
    rw [show Nat.beq c d = false from Bool.eq_false_iff.mpr fun q => e (Nat.beq_eq.mp q).symm]
    exact h d
theorem take_revP {α : Type} {l : List α} {i : Nat} {c : α} (h : l[i]? = some c) : (l.take (i + 1)).reverse = c :: (l.take i).reverse := by
  rw [List.take_add_one, h]
  show List.reverse (l.take i ++ [c]) = _
  rw [List.reverse_append]
  rfl
section
variable {P : Program} {w : World} {K : PySem.W.Frag} {mg : Str → Option Value} {base : Heap}
def spWordOf : Sp := fun vs H Q _ => ∃ (a : Addr) (ts : List Addr) (rs : List (Nat × Nat)), vs = [.ref a] ∧ H a = some (.lst (ts.map V.ref)) ∧ Tups H ts rs ∧ rs.length ≤ 100 ∧ (∀ r ∈ rs, r.2 ≤ 100) ∧ ∀ H', Same H H' → Q (.str (tx (wordR rs.reverse).reverse)) H'
theorem ok_wordOf {f : Addr} {fd : FuncData} (F : Fun K "word_of" "word_of" sWordOf f fd) (G : Glb mg) : FnOk P w K mg base CX0 1 f fd ["runs"] spWordOf := by
  refine F.ok scWordOf (fun vs H Q E h => ?_) (fun cdv A outer s H vs Q E hr h => ?_)
  · obtain ⟨a, ts, rs, rfl, _⟩ := h
    rfl
  · obtain ⟨a, ts, rs, rfl, ha, ht, hl, hb, q⟩ := h
    refine ⟨_, pss_cons (ps_par (i := 1) (j := 2) (by rfl) scWordOf.nd rfl rfl (by decide) rfl rfl (pa_cons pe_dnewK (pa_cons (pe_lst pa_nil) pa_nil)) (by rfl))
      (pss_cons (ps_for PassesOwn.never rfl (pi_list (pv 0)) (pg_tup rfl (pgs_cons (pg_name (i := 3) scWordOf.nd rfl (Or.inl rfl)) (pgs_cons (pg_name (i := 4) scWordOf.nd rfl (Or.inl rfl)) pgs_nil)))
        (pss_cons (ps_expr (pe_bm PySem.F.plainAttrs_list PySem.F.slot_list_append PySem.F.type_list_append mt_append (pv 2) (pa_cons (pe_op op_mulS (pv 3) (pe_op op_sub (pv 4)
            (pe_dget2 (hu_of hr) (pv 1) (pv 3) pe_int ⟨rfl, rfl, rfl, rfl⟩))) pa_nil)))
        (pss_one (ps_dput (hu_of hr) (pv 1) (pv 3) (pv 4) rfl))))
      (pss_one (ps_ret (pe_join pe_str (pv 2))))), ?_⟩
    refine fun d nd => ⟨Nat.zero_le _, fun o no => ⟨_, _, rfl, ?_⟩⟩
    have s0 : Same H (upd (upd H d (.dK [])) o (.lst [])) := (same_upd nd).trans (same_upd no)
    have ndo : d ≠ o := fun z => by
      rw [← z, upd_same] at no
      cases no
    have nod : o ≠ d := ndo.symm
    have no0 : H o = none := (same_upd nd).free no
    have hlen : ts.length = rs.length := ht.len
    refine ⟨_, rfl, a, rfl, ⟨_, .inl (.inl (s0 _ _ ha))⟩, for_it (walk_list (K := K) (a := a) (xs := ts.map V.ref)) (fun i σ H' => ∃ (kvs : List (Key × V)) (ys : List (List Nat)) (y3 y4 : Option V), σ = [some (.ref a), some (.ref d), some (.ref o), y3, y4] ∧ Same H H' ∧ H' d = some (.dK kvs) ∧
        (KnowsD kvs fun c => lastc c (rs.take i).reverse) ∧ kvs.length ≤ i ∧ H' o = some (.lst ((ys.map tx).map V.str)) ∧ ys.length = i ∧ (∀ y ∈ ys, y.length ≤ 100) ∧ ys.flatten = (wordR (rs.take i).reverse).reverse)
      ⟨[], [], none, none, rfl, s0, by rw [upd_ne ndo, upd_same], fun _ => rfl, Nat.le_refl _, upd_same, rfl, (fun _ h => nomatch h), rfl⟩ (fun i σ H' _ hp => ?_) ?_ ?_⟩
    · obtain ⟨_, _, _, _, _, s1, _⟩ := hp
      exact .inl (.inl (s1 _ _ ha))
    · rintro i x σ H1 H2 hi ⟨kvs, ys, y3, y4, rfl, s1, hd, hk, lk, ho, ly, yb, eq⟩ ⟨rfl, hx⟩
      rw [List.length_map] at hi
      rw [List.getElem?_map] at hx
      obtain ⟨t, hti, rfl⟩ := Option.map_eq_some_iff.mp hx
      obtain ⟨r, hri, hT⟩ := ht.get hti
      have hT2 := s1 _ _ hT
      have hrb := hb r (List.mem_of_getElem? hri)
      have hmul : Txt.mul (tx [r.1]) ((r.2 : Int) - (lastc r.1 (rs.take i).reverse : Int)) = tx (List.replicate (r.2 - lastc r.1 (rs.take i).reverse) r.1) := by
        rw [mul_tx]
        congr 2
        omega
      refine ⟨t, _, rfl, .inl (.inl hT2), rfl, _, _, rfl, _, _, rfl, rfl, ?_⟩
      refine ⟨_, rfl, .inl ⟨rfl, _, .inl (.inl ho)⟩, _, rfl, _, rfl, _, rfl, d, rfl, .inl ⟨kvs, .inl hd⟩, _, rfl, _, DGet.k (k := Sum.inr (tx [r.1])) hd, _, _, rfl, hk r.1, ?_⟩
      refine ⟨tx [r.1], _, rfl, rfl, (by rw [tx_len]; exact (by decide : 1 ≤ 16)), by omega, ?_, o, _, _, rfl, rfl, ho, small_lt (by rw [List.length_map, List.length_map, ly]; omega), ?_⟩
      · have lb : ∀ (q : List (Nat × Nat)), (∀ r ∈ q, r.2 ≤ 100) → lastc r.1 q ≤ 100 := fun q => by
          induction q with
          | nil => intro _; exact Nat.zero_le _
          | cons y q ih =>
            intro h
            obtain ⟨dd, m⟩ := y
            show (bif Nat.beq dd r.1 then m else lastc r.1 q) ≤ 100
            cases Nat.beq dd r.1
            · exact ih fun z hz => h z (List.mem_cons_of_mem _ hz)
            · exact h _ List.mem_cons_self
        have := lb (rs.take i).reverse fun z hz => hb z (List.mem_of_mem_take (List.mem_reverse.mp hz))
        show -(2 ^ 63) ≤ (r.2 : Int) - ((lastc r.1 (rs.take i).reverse : Nat) : Int)
        omega
      rw [hmul]
      refine ⟨_, rfl, _, rfl, _, rfl, d, upd (upd H2 o _) d (.dK (putK kvs (Sum.inr (tx [r.1])) (vn r.2))), rfl, DPut.k (k := Sum.inr (tx [r.1])) (by rw [upd_ne ndo]; exact hd) (small_lt (by omega)), ?_⟩
      refine ⟨_, ys ++ [List.replicate (r.2 - lastc r.1 (rs.take i).reverse) r.1], _, _, rfl, fun b z e => ?_, upd_same, ?_, ?_, ?_, by simp [ly], fun y hy => ?_, ?_⟩
      · rw [upd_ne (ne_of_none e nd), upd_ne (ne_of_none e no0)]
        exact s1 _ _ e
      · rw [take_revP hri]
        exact knowsD_put hk r.1 r.2
      · exact Nat.le_trans (length_putK kvs (Sum.inr (tx [r.1]) : Key) (vn r.2)) (Nat.succ_le_succ lk)
      · rw [upd_ne nod, upd_same, List.map_append, List.map_append]
        rfl
      · rcases List.mem_append.mp hy with z | z
        · exact yb y z
        · rw [List.mem_singleton.mp z, List.length_replicate]
          omega
      · rw [take_revP hri, List.flatten_append, eq]
        obtain ⟨r1, r2⟩ := r
        show _ = (List.replicate (r2 - lastc r1 (rs.take i).reverse) r1 ++ wordR (rs.take i).reverse).reverse
        rw [List.reverse_append, List.reverse_replicate]
        simp
    · rintro σ H1 ⟨kvs, ys, y3, y4, rfl, s1, hd, hk, lk, ho, ly, yb, eq⟩
      rw [List.length_map, hlen] at ly eq
      rw [List.take_length] at eq
      refine ⟨⟨_, rfl⟩, _, rfl, _, o, ys.map tx, rfl, rfl, .inl (.inl (.inl ho)), ?_, ?_⟩
      · have := flat_len yb
        have h2 : ys.length * 100 ≤ 100 * 100 := Nat.mul_le_mul_right 100 (by omega)
        rw [tx_lens, List.length_map]
        show _ + _ * 0 ≤ _
        omega
      · rw [show ("" : Str) = Str.empty from rfl, join_tx, eq]
        exact q _ s1
end
end Say

set_option Elab.async false
set_option linter.all false
set_option maxRecDepth 100000
set_option maxHeartbeats 4000000
namespace Say
open PySem PySem.Spec PyProof.Rows L2
/-! ### marks: the plain part -/
theorem hasN_iff (n : Nat) : ∀ l : List Nat, hasN n l = true ↔ n ∈ l
  | [] => by simp [hasN]
  | x :: r => by
    show (bif Nat.beq x n then true else hasN n r) = true ↔ _
    by_cases h : x = n
    · subst h
      rw [Nat.beq_refl]
      simp
    · rw [show Nat.beq x n = false from Bool.eq_false_iff.mpr fun q => h (Nat.beq_eq.mp q)]
      show hasN n r = true ↔ _
      rw [hasN_iff n r, List.mem_cons]
      exact ⟨.inr, fun z => z.elim (fun z => absurd z.symm h) id⟩
theorem upTo_spec (cs : List Nat) : ∀ (k : Nat) (acc : List Nat), acc.Pairwise (· < ·) → (∀ x ∈ acc, k ≤ x) → (upTo cs k acc).Pairwise (· < ·) ∧ ∀ n, n ∈ upTo cs k acc ↔ (n < k ∧ n ∈ cs) ∨ n ∈ acc
  | 0, acc, h, _ => ⟨h, fun n => by show n ∈ acc ↔ _; simp⟩
  | k + 1, acc, h, hb => by
    by_cases c : hasN k cs = true
    · have e : upTo cs (k + 1) acc = upTo cs k (k :: acc) := by
        show (bif hasN k cs then _ else _) = _
        rw [c]
        rfl
      have q := upTo_spec cs k (k :: acc) (List.pairwise_cons.mpr ⟨fun x hx => hb x hx, h⟩) fun x hx => by
        rcases List.mem_cons.mp hx with z | z
        · omega
        · have := hb x z; omega
      rw [e]
      refine ⟨q.1, fun n => (q.2 n).trans ?_⟩
      rw [List.mem_cons]
      have hk := (hasN_iff k cs).mp c
      constructor
      · rintro (⟨a, b⟩ | rfl | z)
        · exact .inl ⟨by omega, b⟩
        · exact .inl ⟨by omega, hk⟩
        · exact .inr z
      · rintro (⟨a, b⟩ | z)
        · by_cases e2 : n = k
          · exact .inr (.inl e2)
          · exact .inl ⟨by omega, b⟩
        · exact .inr (.inr z)
    · have e : upTo cs (k + 1) acc = upTo cs k acc := by
        show (bif hasN k cs then _ else _) = _
        rw [show hasN k cs = false from Bool.eq_false_iff.mpr c]
        rfl
      have q := upTo_spec cs k acc h fun x hx => by have := hb x hx; omega
      rw [e]
      refine ⟨q.1, fun n => (q.2 n).trans ?_⟩
      have hk : k ∉ cs := fun z => c ((hasN_iff k cs).mpr z)
      constructor
      · rintro (⟨a, b⟩ | z)
        · exact .inl ⟨by omega, b⟩
        · exact .inr z
      · rintro (⟨a, b⟩ | z)
        · by_cases e2 : n = k
          · subst e2; exact absurd b hk
          · exact .inl ⟨by omega, b⟩
        · exact .inr z
theorem snds_map : ∀ rs : List (Nat × Nat), snds rs = rs.map (·.2)
  | [] => rfl
  | r :: rs => congrArg (r.2 :: ·) (snds_map rs)
theorem runs_le : ∀ (p : List Nat), ∀ r ∈ runsR p, 1 ≤ r.2 ∧ r.2 ≤ p.length
  | [], r, h => by simp [runsR] at h
  | c :: p, r, h => by
    have ih := runs_le p
    have hc : 1 ≤ cnt c p + 1 ∧ cnt c p + 1 ≤ (c :: p).length := by
      have := cnt_le c p
      rw [List.length_cons]
      omega
    have up : ∀ x : Nat × Nat, (1 ≤ x.2 ∧ x.2 ≤ p.length) → 1 ≤ x.2 ∧ x.2 ≤ (c :: p).length := fun x hx => by
      rw [List.length_cons]
      omega
    cases e : runsR p with
    | nil =>
      rw [runs_nil c e] at h
      rw [List.mem_singleton.mp h]
      exact hc
    | cons x q =>
      obtain ⟨d, m⟩ := x
      rw [e] at ih
      by_cases z : d = c
      · subst z
        rw [runs_eq e] at h
        rcases List.mem_cons.mp h with z | z
        · rw [z]; exact hc
        · exact up r (ih r (List.mem_cons_of_mem _ z))
      · rw [runs_ne e z] at h
        rcases List.mem_cons.mp h with z | z
        · rw [z]; exact hc
        · exact up r (ih r z)
theorem marks_spec (l : List Nat) : (marksM l).Pairwise (· < ·) ∧ ∀ n, n ∈ marksM l ↔ n ∈ 0 :: snds (runsR l.reverse) := by
  have q := upTo_spec (0 :: snds (runsR l.reverse)) (l.length + 1) [] List.Pairwise.nil fun _ h => nomatch h
  refine ⟨q.1, fun n => (q.2 n).trans ?_⟩
  constructor
  · rintro (⟨_, b⟩ | z)
    · exact b
    · cases z
  · intro h
    refine .inl ⟨?_, h⟩
    rcases List.mem_cons.mp h with z | z
    · omega
    · rw [snds_map] at z
      obtain ⟨r, hr, rfl⟩ := List.mem_map.mp z
      have := (runs_le _ r hr).2
      rw [List.length_reverse] at this
      omega
/-- two rising lists with the same members are one -/
theorem rising_same : ∀ {a b : List Int}, a.Pairwise (· < ·) → b.Pairwise (· < ·) → (∀ n, n ∈ a ↔ n ∈ b) → a = b
  | [], [], _, _, _ => rfl
  | [], y :: b, _, _, h => absurd ((h y).mpr List.mem_cons_self) (by simp)
  | x :: a, [], _, _, h => absurd ((h x).mp List.mem_cons_self) (by simp)
  | x :: a, y :: b, ha, hb, h => by
    obtain ⟨a1, a2⟩ := List.pairwise_cons.mp ha
    obtain ⟨b1, b2⟩ := List.pairwise_cons.mp hb
    have e : x = y := by
      rcases List.mem_cons.mp ((h x).mp List.mem_cons_self) with z | z
      · exact z
      · rcases List.mem_cons.mp ((h y).mpr List.mem_cons_self) with z2 | z2
        · exact z2.symm
        · have h1 := b1 x z
          have h2 := a1 y z2
          omega
    subst e
    congr 1
    refine rising_same a2 b2 fun n => ?_
    constructor
    · intro hn
      rcases List.mem_cons.mp ((h n).mp (List.mem_cons_of_mem _ hn)) with z | z
      · have := a1 n hn; omega
      · exact z
    · intro hn
      rcases List.mem_cons.mp ((h n).mpr (List.mem_cons_of_mem _ hn)) with z | z
      · have := b1 n hn; omega
      · exact z
section
variable {P : Program} {w : World} {K : PySem.W.Frag} {mg : Str → Option Value} {base : Heap}
def spMarks : Sp := fun vs H Q _ => ∃ l : List Nat, vs = [.str (tx l)] ∧ l.length ≤ 60 ∧ Let4 l ∧ ∀ (H' : Hp) (o : Addr), Same H H' → H o = none → H' o = some (.lst ((marksM l).map vn)) → Q (.ref o) H'
theorem ok_marks {f f1 : Addr} {fd fd1 : FuncData} (F : Fun K "marks_of" "marks_of" sMarks f fd) (k1 : PySem.W.keepIn K (.ref f1) = true) (b1 : Binds K fd1 ["word"] []) (m1 : mg "runs_of" = some (.ref f1))
    (G1 : FnOk P w K mg base CX0 1 f1 fd1 ["word"] spRuns) (G : Glb mg) : FnOk P w K mg base CX0 2 f fd ["word"] spMarks := by
  refine F.ok scMarks (fun vs H Q E h => ?_) (fun cdv A outer s H vs Q E hr h => ?_)
  · obtain ⟨l, rfl, _⟩ := h
    rfl
  · obtain ⟨l, rfl, hl, h4, q⟩ := h
    refine ⟨_, pss_one (ps_ret (pe_callB (cr_sortedSet rfl) (by rfl) G.sorted boot_sorted (pa_cons (pe_callTy (cr_setI rfl) (by rfl) G.set PyProof.Rows.boot_set (pa_cons (pe_op op_cat (pe_lst (pa_cons pe_int pa_nil))
      (pe_lc (own := [("letter", 1), ("count", 2)]) (g := gTup K 2 (gCons (gName 1) (gCons (gName 2) gNil))) (tt := tYes) rfl scMarks.nd (pi_list (pe_call G1 hr (by rfl) m1 k1 b1 .nil pass0 (pa_cons (pv 0) pa_nil)))
        (blkOk_by (N := ["word", "letter", "count"]) (sc := defScope sMarks) (by decide +kernel))
        (fun _ _ _ _ _ => pg_tup rfl (pgs_cons (pg_name (i := 1) scMarks.nd rfl (Or.inl rfl)) (pgs_cons (pg_name (i := 2) scMarks.nd rfl (Or.inl rfl)) pgs_nil))) (fun _ _ _ _ _ => pts_nil) (fun _ _ _ _ _ => pv 2))) pa_nil)) pa_nil))), ?_⟩
    refine ⟨(by decide), fun z nz => ?_⟩
    have sz : Same H (upd H z (.lst [.int 0])) := same_upd nz
    refine ⟨_, rfl, l, rfl, by omega, h4, fun H1 o ts s1 no ho ht => ⟨o, rfl, ⟨_, .inl (.inl ho)⟩, fun D nD => ?_⟩⟩
    have noD : o ≠ D := ne_of_none ho nD
    have hz1 : H1 z = some (.lst [.int 0]) := s1 _ _ upd_same
    have nzD : z ≠ D := ne_of_none hz1 nD
    generalize hrs : (runsR l.reverse).reverse = rs at ht
    have hlen : ts.length = rs.length := ht.len
    have rl : rs.length ≤ 60 := by
      have := runs_len l.reverse
      rw [← hrs, List.length_reverse]
      rw [List.length_reverse] at this
      omega
    refine lc_it (walk_list (K := K) (a := o) (xs := ts.map V.ref)) (fun i H' => Same H1 H' ∧ H' D = some (.lst ((rs.take i).map fun r => vn r.2))) ⟨same_upd nD, upd_same⟩ (fun _ _ _ h => .inl (.inl (h.1 _ _ ho))) ?_ ?_
    · rintro i x H2 H3 hi ⟨s2, hD⟩ ⟨rfl, hx⟩
      rw [List.length_map] at hi
      rw [List.getElem?_map] at hx
      obtain ⟨t, hti, rfl⟩ := Option.map_eq_some_iff.mp hx
      obtain ⟨r, hri, hT⟩ := ht.get hti
      refine ⟨t, _, rfl, .inl (.inl (s2 _ _ hT)), rfl, _, _, rfl, _, _, rfl, rfl, ?_⟩
      refine ⟨rfl, yes_in ?_⟩
      refine ⟨_, rfl, _, hD, small_lt ?_, fun b e he => ?_, ?_⟩
      · rw [List.length_map, List.length_take]
        omega
      · rw [upd_ne (ne_of_none he nD)]
        exact s2 _ _ he
      · rw [upd_same, List.take_add_one, hri, List.map_append]
        rfl
    · rintro H2 ⟨s2, hD⟩
      rw [List.length_map, hlen, List.take_length] at hD
      refine ⟨z, D, [.int 0], _, rfl, rfl, s2 _ _ hz1, hD, by simp; exact small_size (by omega), fun C nC => ?_⟩
      have eC : ([V.int 0] ++ rs.map fun r => vn r.2) = (((0 : Int) :: rs.map fun r => (r.2 : Int))).map V.int := by
        rw [List.map_cons, List.map_map]
        rfl
      refine ⟨C, _, rfl, .inl (.inl (upd_same.trans (by rw [eC]))), by rw [List.length_cons, List.length_map]; omega, fun p n S hn hS np => ?_⟩
      rw [List.length_cons, List.length_map] at hn
      refine ⟨p, S, n, rfl, upd_same, by omega, fun ns p2 hns hmem _ np2 => ?_⟩
      have e : ns = (marksM l).map fun n : Nat => (n : Int) := by
        obtain ⟨m1, m2⟩ := marks_spec l
        refine rising_same hns (List.pairwise_map.mpr (m1.imp fun h => Int.ofNat_lt.mpr h)) fun k => ?_
        rw [hmem, hS, List.mem_cons, List.mem_map, List.mem_map]
        constructor
        · rintro (rfl | ⟨r, hr, rfl⟩)
          · exact ⟨0, (m2 0).mpr List.mem_cons_self, rfl⟩
          · refine ⟨r.2, (m2 _).mpr (List.mem_cons_of_mem _ ?_), rfl⟩
            rw [snds_map]
            exact List.mem_map.mpr ⟨r, List.mem_reverse.mp (hrs ▸ hr), rfl⟩
        · rintro ⟨n, hn, rfl⟩
          rcases List.mem_cons.mp ((m2 n).mp hn) with y | y
          · exact .inl (by rw [y]; rfl)
          · rw [snds_map] at y
            obtain ⟨r, hr, rfl⟩ := List.mem_map.mp y
            exact .inr ⟨r, hrs ▸ List.mem_reverse.mpr hr, rfl⟩
      have sall : Same H (upd (upd (upd H2 C (.lst ([V.int 0] ++ rs.map fun r => vn r.2))) p (SetO w p S n)) p2 (.lst (ns.map V.int))) :=
        (sz.trans (s1.trans (s2.trans ((same_upd nC).trans ((same_upd np).trans (same_upd np2))))))
      refine q _ _ sall ?_ ?_
      · exact (sz.trans (s1.trans (s2.trans ((same_upd nC).trans (same_upd np))))).free np2
      · rw [upd_same, e, vn_ints]
end
end Say

set_option Elab.async false
set_option linter.all false
set_option maxRecDepth 100000
set_option maxHeartbeats 4000000
namespace Say
open PySem PySem.Spec PyProof.Rows L2
/-! ### places in the marks: the plain part -/
theorem idxN_at : ∀ {ms : List Nat} {n : Nat}, n ∈ ms → ms[idxN n ms]? = some n ∧ ∀ m z, m < idxN n ms → ms[m]? = some z → z ≠ n
  | [], n, h => by simp at h
  | x :: r, n, h => by
    by_cases e : x = n
    · subst e
      have z : idxN x (x :: r) = 0 := by
        show (bif Nat.beq x x then 0 else idxN x r + 1) = 0
        rw [Nat.beq_refl]
        rfl
      rw [z]
      exact ⟨rfl, fun m _ hm => absurd hm (Nat.not_lt_zero m)⟩
    · have z : idxN n (x :: r) = idxN n r + 1 := by
        show (bif Nat.beq x n then 0 else idxN n r + 1) = _
        rw [show Nat.beq x n = false from Bool.eq_false_iff.mpr fun q => e (Nat.beq_eq.mp q)]
        rfl
      rw [z]
      have hr : n ∈ r := by
        rcases List.mem_cons.mp h with y | y
        · exact absurd y.symm e
        · exact y
      obtain ⟨h1, h2⟩ := idxN_at hr
      refine ⟨by simpa using h1, fun m y hm hy => ?_⟩
      cases m with
      | zero =>
        have y2 : x = y := by simpa using hy
        rw [← y2]; exact e
      | succ m => exact h2 m y (by omega) (by simpa using hy)
theorem rise_ge : ∀ {ms : List Nat} {k : Nat}, ms.Pairwise (· < ·) → (∀ x ∈ ms, k ≤ x) → ∀ {j x : Nat}, ms[j]? = some x → k + j ≤ x
  | [], _, _, _, j, x, h => by simp at h
  | y :: r, k, hp, hk, 0, x, h => by
    have e : y = x := by simpa using h
    rw [← e]
    exact hk y List.mem_cons_self
  | y :: r, k, hp, hk, j + 1, x, h => by
    obtain ⟨p1, p2⟩ := List.pairwise_cons.mp hp
    have h2 := hk y List.mem_cons_self
    have := rise_ge (k := k + 1) p2 (fun z hz => by have := p1 z hz; omega) (j := j) (x := x) (by simpa using h)
    omega
theorem reix_map (ms : List Nat) : ∀ rs : List (Nat × Nat), reix ms rs = rs.map fun r => (r.1, idxN r.2 ms)
  | [] => rfl
  | r :: rs => congrArg ((r.1, idxN r.2 ms) :: ·) (reix_map ms rs)
theorem diffs_len : ∀ ms : List Nat, (diffsN ms).length = ms.length - 1
  | [] => rfl
  | [_] => rfl
  | x :: y :: r => by
    show (diffsN (y :: r)).length + 1 = _
    rw [diffs_len (y :: r)]
    simp
theorem diffs_at : ∀ {ms : List Nat} {i x y : Nat}, ms[i]? = some x → ms[i + 1]? = some y → (diffsN ms)[i]? = some (y - x)
  | [], _, _, _, h, _ => by simp at h
  | [_], 0, _, _, _, h => by simp at h
  | [_], _ + 1, _, _, h, _ => by simp at h
  | a :: b :: r, 0, x, y, h, h2 => by
    have e1 : a = x := by simpa using h
    have e2 : b = y := by simpa using h2
    subst e1 e2
    rfl
  | a :: b :: r, i + 1, x, y, h, h2 => by
    show (diffsN (b :: r))[i]? = _
    exact diffs_at (i := i) (by simpa using h) (by simpa using h2)
theorem eqV_int (a b : Nat) : eqV (vn a) (vn b) = decide (a = b) := by
  show ((a : Int) == (b : Int)) = _
  by_cases h : a = b
  · subst h; simp
  · simp [h]
    omega
theorem flat_vn (ns : List Nat) : (ns.map vn).all flatV = true := by
  rw [List.all_eq_true]
  intro x hx
  obtain ⟨n, _, rfl⟩ := List.mem_map.mp hx
  rfl
theorem marks_bd (l : List Nat) : ∀ n ∈ marksM l, n ≤ l.length := fun n hn => by
  rcases List.mem_cons.mp (((marks_spec l).2 n).mp hn) with z | z
  · omega
  · rw [snds_map] at z
    obtain ⟨r, hr, rfl⟩ := List.mem_map.mp z
    have := (runs_le _ r hr).2
    rwa [List.length_reverse] at this
theorem marks_len (l : List Nat) : (marksM l).length ≤ l.length + 1 := by
  cases e : (marksM l).length with
  | zero => omega
  | succ n =>
    have hn : n < (marksM l).length := by omega
    have h1 := rise_ge (k := 0) (marks_spec l).1 (fun _ _ => Nat.zero_le _) (List.getElem?_eq_getElem hn)
    have h2 := marks_bd l _ (List.getElem_mem hn)
    omega
section
variable {P : Program} {w : World} {K : PySem.W.Frag} {mg : Str → Option Value} {base : Heap}
def spCore : Sp := fun vs H Q _ => ∃ l : List Nat, vs = [.str (tx l)] ∧ l.length ≤ 60 ∧ Let4 l ∧ ∀ H', Same H H' → Q (.str (tx (coreM l))) H'
theorem ok_core {f f1 f2 f3 : Addr} {fd fd1 fd2 fd3 : FuncData} (F : Fun K "core_of" "core_of" sCore f fd)
    (k1 : PySem.W.keepIn K (.ref f1) = true) (b1 : Binds K fd1 ["word"] []) (m1 : mg "runs_of" = some (.ref f1)) (G1 : FnOk P w K mg base CX0 1 f1 fd1 ["word"] spRuns)
    (k2 : PySem.W.keepIn K (.ref f2) = true) (b2 : Binds K fd2 ["word"] []) (m2 : mg "marks_of" = some (.ref f2)) (G2 : FnOk P w K mg base CX0 2 f2 fd2 ["word"] spMarks)
    (k3 : PySem.W.keepIn K (.ref f3) = true) (b3 : Binds K fd3 ["runs"] []) (m3 : mg "word_of" = some (.ref f3)) (G3 : FnOk P w K mg base CX0 1 f3 fd3 ["runs"] spWordOf)
    (G : Glb mg) : FnOk P w K mg base CX0 3 f fd ["word"] spCore := by
  refine F.ok scCore (fun vs H Q E h => ?_) (fun cdv A outer s H vs Q E hr h => ?_)
  · obtain ⟨l, rfl, _⟩ := h
    rfl
  · obtain ⟨l, rfl, hl, h4, q⟩ := h
    have r1 : Room 1 _ := hr.mono (by decide)
    refine ⟨_, pss_cons (ps_set (i := 1) scCore.nd rfl (Or.inr rfl) (pe_call G2 hr (by rfl) m2 k2 b2 .nil pass0 (pa_cons (pv 0) pa_nil)))
      (pss_one (ps_ret (pe_call G3 r1 (by rfl) m3 k3 b3 .nil pass0 (pa_cons (pe_lc (own := [("letter", 2), ("count", 3)]) (g := gTup K 2 (gCons (gName 2) (gCons (gName 3) gNil))) (tt := tYes) (te := tTup (tCons (tVar 2) (tCons (tBM K "list" (rIndex K) (tVar 1) (tCons (tVar 3) tNil)) tNil))) rfl scCore.nd
        (pi_list (pe_call G1 r1 (by rfl) m1 k1 b1 .nil pass0 (pa_cons (pv 0) pa_nil))) (blkOk_by (N := ["word", "marks", "letter", "count"]) (sc := defScope sCore) (by decide +kernel))
        (fun _ _ _ _ _ => pg_tup rfl (pgs_cons (pg_name (i := 2) scCore.nd rfl (Or.inl rfl)) (pgs_cons (pg_name (i := 3) scCore.nd rfl (Or.inl rfl)) pgs_nil))) (fun _ _ _ _ _ => pts_nil)
        (fun _ _ _ _ _ => pe_tup (pa_cons (pv 2) (pa_cons (pe_bm PySem.F.plainAttrs_list PySem.F.slot_list_index PySem.F.type_list_index mt_index (pv 1) (pa_cons (pv 3) pa_nil)) pa_nil)))) pa_nil)))), ?_⟩
    refine ⟨_, rfl, l, rfl, hl, h4, fun H0 mo s0 nmo hmo => ?_⟩
    refine ⟨_, rfl, l, rfl, by omega, h4, fun H1 o ts s1 no ho ht => ⟨o, rfl, ⟨_, .inl (.inl ho)⟩, fun D nD => ?_⟩⟩
    have hmo1 := s1 _ _ hmo
    generalize hrs : (runsR l.reverse).reverse = rs at ht
    have hlen : ts.length = rs.length := ht.len
    have rl : rs.length ≤ 60 := by
      have := runs_len l.reverse
      rw [← hrs, List.length_reverse]
      rw [List.length_reverse] at this
      omega
    have mem : ∀ r ∈ rs, r.2 ∈ marksM l := fun r hr => ((marks_spec l).2 r.2).mpr (List.mem_cons_of_mem _ (by
      rw [snds_map]
      exact List.mem_map.mpr ⟨r, List.mem_reverse.mp (hrs ▸ hr), rfl⟩))
    refine lc_it (walk_list (K := K) (a := o) (xs := ts.map V.ref)) (fun i H' => Same H1 H' ∧ ∃ ts2 : List Addr, H' D = some (.lst (ts2.map V.ref)) ∧ Tups H' ts2 ((reix (marksM l) rs).take i)) ⟨same_upd nD, [], upd_same, trivial⟩ (fun _ _ _ h => .inl (.inl (h.1 _ _ ho))) ?_ ?_
    · rintro i x H2 H3 hi ⟨s2, ts2, hD, t2⟩ ⟨rfl, hx⟩
      rw [List.length_map] at hi
      rw [List.getElem?_map] at hx
      obtain ⟨t, hti, rfl⟩ := Option.map_eq_some_iff.mp hx
      obtain ⟨r, hri, hT⟩ := ht.get hti
      obtain ⟨i1, i2⟩ := idxN_at (mem r (List.mem_of_getElem? hri))
      have re : (reix (marksM l) rs)[i]? = some (r.1, idxN r.2 (marksM l)) := by
        rw [reix_map, List.getElem?_map, hri]
        rfl
      have ln : ts2.length = i := by
        have z := t2.len
        rw [List.length_take, reix_map, List.length_map] at z
        omega
      refine ⟨t, _, rfl, .inl (.inl (s2 _ _ hT)), rfl, _, _, rfl, _, _, rfl, rfl, ?_⟩
      refine ⟨rfl, yes_in ?_⟩
      refine ⟨_, rfl, _, rfl, .inl ⟨rfl, _, .inl (.inl (s2 _ _ hmo1))⟩, _, rfl, mo, (marksM l).map vn, vn r.2, idxN r.2 (marksM l), vn r.2, rfl, rfl, .inl (.inl (s2 _ _ hmo1)), rfl, flat_vn _, ?_, ?_, fun m z' hm hz => ?_, two_fit, fun T nT => ?_⟩
      · rw [List.getElem?_map, i1]
        rfl
      · rw [eqV_int, decide_eq_true rfl]
      · rw [List.getElem?_map] at hz
        obtain ⟨y, hy, rfl⟩ := Option.map_eq_some_iff.mp hz
        rw [eqV_int, decide_eq_false (i2 m y hm hy)]
      have hDT : D ≠ T := ne_of_none hD nT
      refine ⟨ts2.map V.ref, by rw [upd_ne hDT]; exact hD, small_lt (by rw [List.length_map]; omega), fun b e he => ?_, ts2 ++ [T], ?_, ?_⟩
      · rw [upd_ne (ne_of_none he nD), upd_ne (ne_of_none (s2 _ _ he) nT)]
        exact s2 _ _ he
      · rw [upd_same, List.map_append]
        rfl
      · rw [List.take_add_one, re]
        have z1 : Tups (upd (upd H3 T (prV (r.1, idxN r.2 (marksM l)))) D (.lst (ts2.map V.ref ++ [V.ref T]))) ts2 ((reix (marksM l) rs).take i) :=
          (t2.same (same_upd nT)).upd fun r => by rw [upd_ne hDT, hD]; intro z; cases z
        exact z1.app ⟨by rw [upd_ne hDT.symm, upd_same], trivial⟩
    · rintro H2 ⟨s2, ts2, hD, t2⟩
      rw [List.length_map, hlen] at t2
      have el : (reix (marksM l) rs).take rs.length = reix (marksM l) rs := List.take_of_length_le (by rw [reix_map, List.length_map]; exact Nat.le_refl _)
      rw [el] at t2
      refine ⟨D, ts2, reix (marksM l) rs, rfl, hD, t2, by rw [reix_map, List.length_map]; omega, fun r hr => ?_, fun H3 s3 => ?_⟩
      · rw [reix_map] at hr
        obtain ⟨r0, h0, rfl⟩ := List.mem_map.mp hr
        have i1 := (idxN_at (mem r0 h0)).1
        have h1 := rise_ge (k := 0) (marks_spec l).1 (fun _ _ => Nat.zero_le _) i1
        have h2 := marks_bd l _ (mem r0 h0)
        show idxN r0.2 (marksM l) ≤ 100
        omega
      · have e : (wordR (reix (marksM l) rs).reverse).reverse = coreM l := by
          unfold coreM
          rw [← hrs, reix_map, reix_map, List.map_reverse, List.reverse_reverse]
        rw [e]
        exact q _ (s0.trans (s1.trans (s2.trans s3)))
/-! ### gaps_of -/
def spGaps : Sp := fun vs H Q _ => ∃ l : List Nat, vs = [.str (tx l)] ∧ l.length ≤ 60 ∧ Let4 l ∧ ∀ (H' : Hp) (o : Addr), Same H H' → H o = none → H' o = some (.lst ((gapsM l).map vn)) → Q (.ref o) H'
theorem ok_gaps {f f2 : Addr} {fd fd2 : FuncData} (F : Fun K "gaps_of" "gaps_of" sGaps f fd) (k2 : PySem.W.keepIn K (.ref f2) = true) (b2 : Binds K fd2 ["word"] []) (m2 : mg "marks_of" = some (.ref f2))
    (G2 : FnOk P w K mg base CX0 2 f2 fd2 ["word"] spMarks) (G : Glb mg) : FnOk P w K mg base CX0 3 f fd ["word"] spGaps := by
  refine F.ok scGaps (fun vs H Q E h => ?_) (fun cdv A outer s H vs Q E hr h => ?_)
  · obtain ⟨l, rfl, _⟩ := h
    rfl
  · obtain ⟨l, rfl, hl, h4, q⟩ := h
    refine ⟨_, pss_cons (ps_set (i := 1) scGaps.nd rfl (Or.inr rfl) (pe_call G2 hr (by rfl) m2 k2 b2 .nil pass0 (pa_cons (pv 0) pa_nil)))
      (pss_one (ps_ret (pe_lc (own := [("at", 2)]) (g := gName 2) (tt := tYes) (te := tOp (rI0 fun i j => .int (i - j)) (tOp (rIxL K) (tVar 1) (tVar 2)) (tOp (rIxL K) (tVar 1) (tOp (rI0 fun i j => .int (i - j)) (tVar 2) (tC (.int 1))))) rfl scGaps.nd (pi_range2 (by rfl) G.range (pa_cons pe_int (pa_cons (pe_callB call_len_seq (by rfl) G.len PySem.boot_len (pa_cons (pv 1) pa_nil)) pa_nil)))
        (blkOk_by (N := ["word", "marks", "at"]) (sc := defScope sGaps) (by decide +kernel)) (fun _ _ _ _ _ => pg_name (i := 2) scGaps.nd rfl (Or.inl rfl)) (fun _ _ _ _ _ => pts_nil)
        (fun _ _ _ _ _ => pe_op op_sub (pe_ix ix_list (pv 1) (pv 2) (fun _ _ => rfl)) (pe_ix ix_list (pv 1) (pe_op op_sub (pv 2) pe_int) (fun _ _ => rfl)))))), ?_⟩
    have ml := marks_len l
    refine ⟨_, rfl, l, rfl, hl, h4, fun H1 mo s1 nmo hmo => ?_⟩
    have hmlen : ((marksM l).map vn).length = (marksM l).length := List.length_map _
    refine ⟨_, rfl, mo, _, rfl, .inl (.inl (.inl hmo)), 1, _, rfl, by rw [hmlen]; refine ⟨by decide, by decide, by omega, by omega⟩, fun D nD => ?_⟩
    refine lc_it walk_range (fun i H' => Same H1 H' ∧ H' D = some (.lst (((gapsM l).take i).map vn))) ⟨same_upd nD, upd_same⟩ (fun _ _ _ _ => trivial) ?_ ?_
    · rintro i x H2 H3 hi ⟨s2, hD⟩ ⟨rfl, rfl⟩
      rw [hmlen] at hi
      have hi1 : i + 1 < (marksM l).length := by omega
      have g0 := List.getElem?_eq_getElem (l := marksM l) (i := i) (by omega)
      have g1 := List.getElem?_eq_getElem (l := marksM l) (i := i + 1) hi1
      have gd := diffs_at g0 g1
      have lt : (marksM l)[i]'(by omega) < (marksM l)[i + 1] := by
        have p := List.pairwise_iff_getElem.mp (marks_spec l).1
        exact p i (i + 1) _ _ (Nat.lt_succ_self i)
      have e1 : (1 : Int) + (i : Nat) = ((i + 1 : Nat) : Int) := by omega
      have e2 : (((i + 1 : Nat) : Int) - 1) = ((i : Nat) : Int) := by omega
      refine ⟨rfl, yes_in ?_⟩
      refine ⟨_, rfl, _, rfl, mo, _, _, vn (marksM l)[i + 1], rfl, rfl, .inl (.inl (s2 _ _ hmo)), ?_, _, rfl, _, rfl, _, _, rfl, rfl, mo, _, _, vn ((marksM l)[i]'(by omega)), rfl, rfl, .inl (.inl (s2 _ _ hmo)), ?_, _, _, rfl, rfl, _, hD, small_lt ?_, fun b e he => ?_, ?_⟩
      · rw [e1]
        exact atI_nat (by rw [List.getElem?_map, g1]; rfl)
      · rw [e1, e2]
        exact atI_nat (by rw [List.getElem?_map, g0]; rfl)
      · rw [List.length_map, List.length_take]
        omega
      · rw [upd_ne (ne_of_none he nD)]
        exact s2 _ _ he
      · have e3 : (gapsM l)[i]? = some ((marksM l)[i + 1] - (marksM l)[i]'(by omega)) := gd
        rw [upd_same, List.take_add_one, e3, List.map_append]
        show some (HO.lst (_ ++ [V.int (((marksM l)[i + 1] : Int) - ((marksM l)[i]'(by omega) : Int))])) = some (HO.lst (_ ++ [V.int (((marksM l)[i + 1] - (marksM l)[i]'(by omega) : Nat) : Int)]))
        rw [Int.ofNat_sub (Nat.le_of_lt lt)]
    · rintro H2 ⟨s2, hD⟩
      rw [hmlen, show (((marksM l).length : Int) - 1).toNat = (marksM l).length - 1 by omega, ← diffs_len] at hD
      have e : (gapsM l).take (diffsN (marksM l)).length = gapsM l := List.take_length
      rw [e] at hD
      exact q _ _ (s1.trans s2) (s1.free nD) hD
end
end Say

set_option Elab.async false
set_option linter.all false
set_option maxRecDepth 100000
set_option maxHeartbeats 4000000
namespace Say
open PySem PySem.Spec PyProof.Rows L2
theorem eqL_iff : ∀ a b : List Nat, eqL a b = true ↔ a = b
  | [], [] => by simp [eqL]
  | [], _ :: _ => by simp [eqL]
  | _ :: _, [] => by simp [eqL]
  | x :: r, y :: q => by
    show (bif Nat.beq x y then eqL r q else false) = true ↔ _
    by_cases h : x = y
    · subst h
      rw [Nat.beq_refl]
      show eqL r q = true ↔ _
      rw [eqL_iff r q]
      simp
    · rw [show Nat.beq x y = false from Bool.eq_false_iff.mpr fun q => h (Nat.beq_eq.mp q)]
      simp [h]
theorem leL_zip : ∀ a b : List Nat, leL a b = (List.zipWith (fun x y => decide (x ≤ y)) a b).all id
  | [], _ => by simp [leL]
  | _ :: _, [] => by simp [leL]
  | x :: r, y :: q => by
    show (bif Nat.ble x y then leL r q else false) = _
    rw [leL_zip r q, List.zipWith_cons_cons, List.all_cons]
    by_cases h : x ≤ y
    · rw [show Nat.ble x y = true from Nat.ble_eq.mpr h, decide_eq_true h]
      rfl
    · rw [show Nat.ble x y = false from Bool.eq_false_iff.mpr fun q => h (Nat.ble_eq.mp q), decide_eq_false h]
      rfl
theorem diffs_bd : ∀ {ms : List Nat} {b : Nat}, (∀ m ∈ ms, m ≤ b) → ∀ g ∈ diffsN ms, g ≤ b
  | [], _, _, g, h => by simp [diffsN] at h
  | [_], _, _, g, h => by simp [diffsN] at h
  | x :: y :: r, b, hb, g, h => by
    have h2 : g = y - x ∨ g ∈ diffsN (y :: r) := List.mem_cons.mp h
    rcases h2 with z | z
    · have := hb y (by simp)
      omega
    · exact diffs_bd (fun m hm => hb m (List.mem_cons_of_mem _ hm)) g z
section
variable {P : Program} {w : World} {K : PySem.W.Frag} {mg : Str → Option Value} {base : Heap}
def spGrows : Sp := fun vs H Q _ => ∃ a b : List Nat, vs = [.str (tx a), .str (tx b)] ∧ a.length ≤ 60 ∧ Let4 a ∧ b.length ≤ 60 ∧ Let4 b ∧ ∀ H', Same H H' → Q (.bl (sayingM a b)) H'
theorem ok_grows {f f1 f2 : Addr} {fd fd1 fd2 : FuncData} (F : Fun K "grows_to" "grows_to" sGrows f fd)
    (k1 : PySem.W.keepIn K (.ref f1) = true) (b1 : Binds K fd1 ["word"] []) (m1 : mg "core_of" = some (.ref f1)) (G1 : FnOk P w K mg base CX0 3 f1 fd1 ["word"] spCore)
    (k2 : PySem.W.keepIn K (.ref f2) = true) (b2 : Binds K fd2 ["word"] []) (m2 : mg "gaps_of" = some (.ref f2)) (G2 : FnOk P w K mg base CX0 3 f2 fd2 ["word"] spGaps)
    (G : Glb mg) : FnOk P w K mg base CX0 4 f fd ["one", "other"] spGrows := by
  refine F.ok scGrows (fun vs H Q E h => ?_) (fun cdv A outer s H vs Q E hr h => ?_)
  · obtain ⟨a, b, rfl, _⟩ := h
    rfl
  · obtain ⟨a, b, rfl, la, a4, lb, b4, q⟩ := h
    refine ⟨_, pss_cons (ps_if (pt_cmpR op_ne (pe_call G1 hr (by rfl) m1 k1 b1 .nil pass0 (pa_cons (pv 0) pa_nil)) (pe_call G1 hr (by rfl) m1 k1 b1 .nil pass0 (pa_cons (pv 1) pa_nil)) (nomark _)) (pss_one (ps_ret pe_bl)) pss_nil)
      (pss_one (ps_ret (pe_callB (cr_all rfl) (by rfl) G.all boot_all (pa_cons (pe_lc (own := [("a", 2), ("b", 3)]) (g := gTup K 2 (gCons (gName 2) (gCons (gName 3) gNil))) (tt := tYes) rfl scGrows.nd
        (pi_zip (by rfl) G.zip (pa_cons (pe_call G2 hr (by rfl) m2 k2 b2 .nil pass0 (pa_cons (pv 0) pa_nil)) (pa_cons (pe_call G2 hr (by rfl) m2 k2 b2 .nil pass0 (pa_cons (pv 1) pa_nil)) pa_nil)))
        (blkOk_by (N := ["one", "other", "a", "b"]) (sc := defScope sGrows) (by decide +kernel))
        (fun _ _ _ _ _ => pg_tup rfl (pgs_cons (pg_name (i := 2) scGrows.nd rfl (Or.inl rfl)) (pgs_cons (pg_name (i := 3) scGrows.nd rfl (Or.inl rfl)) pgs_nil))) (fun _ _ _ _ _ => pts_nil)
        (fun _ _ _ _ _ => pe_cmpR op_le (pv 2) (pv 3) (nomark _))) pa_nil)))), ?_⟩
    refine ⟨_, rfl, a, rfl, la, a4, fun H1 s1 => ⟨_, rfl, b, rfl, lb, b4, fun H2 s2 => ⟨rfl, _, rfl, ?_⟩⟩⟩
    by_cases hc : coreM a = coreM b
    · have es : sayingM a b = leL (gapsM a) (gapsM b) := by
        unfold sayingM
        rw [(eqL_iff _ _).mpr hc]
        rfl
      rw [show decide (V.str (tx (coreM a)) = V.str (tx (coreM b))) = true from decide_eq_true (by rw [hc])]
      refine iteF ?_
      refine ⟨_, rfl, a, rfl, la, a4, fun H3 g1 s3 n1 h1 => ⟨_, rfl, b, rfl, lb, b4, fun H4 g2 s4 n2 h2 => ?_⟩⟩
      have h1b := s4 _ _ h1
      have la2 : (gapsM a).length ≤ 60 := by
        have := marks_len a
        show (diffsN (marksM a)).length ≤ 60
        rw [diffs_len]
        omega
      have hmin : min ((gapsM a).map vn).length ((gapsM b).map vn).length = (List.zipWith (fun x y => decide (x ≤ y)) (gapsM a) (gapsM b)).length := by
        rw [List.length_map, List.length_map, List.length_zipWith]
      generalize hbs : List.zipWith (fun x y => decide (x ≤ y)) (gapsM a) (gapsM b) = bs at hmin
      have lbs : bs.length ≤ 60 := by
        rw [← hbs, List.length_zipWith]
        omega
      refine ⟨g1, g2, _, _, rfl, .inl (.inl h1b), .inl (.inl h2), fun D nD => ?_⟩
      refine lc_it (walk_zip (K := K) (a := g1) (b := g2) (xs := (gapsM a).map vn) (ys := (gapsM b).map vn) hmin.symm) (fun i H' => Same H4 H' ∧ H' D = some (.lst ((bs.take i).map V.bl))) ⟨same_upd nD, upd_same⟩
        (fun _ _ _ h => ⟨.inl (.inl (h.1 _ _ h1b)), .inl (.inl (h.1 _ _ h2))⟩) ?_ ?_
      · rintro i x H5 H6 hi ⟨s5, hD⟩ ⟨T, u, v, rfl, nT, rfl, hu, hv⟩
        dsimp only at hu hv
        rw [List.getElem?_map] at hu hv
        obtain ⟨n, hn, rfl⟩ := Option.map_eq_some_iff.mp hu
        obtain ⟨m, hm, rfl⟩ := Option.map_eq_some_iff.mp hv
        have hb : bs[i]? = some (decide (n ≤ m)) := by
          rw [← hbs, List.getElem?_zipWith, hn, hm]
        have hDT : D ≠ T := ne_of_none hD nT
        refine ⟨T, _, rfl, .inl (.inl upd_same), rfl, _, _, rfl, _, _, rfl, rfl, ?_⟩
        refine ⟨rfl, yes_in ?_⟩
        refine ⟨_, rfl, _, rfl, (n : Int), (m : Int), rfl, rfl, _, (by rw [upd_ne hDT]; exact hD), small_lt ?_, fun c e he => ?_, ?_⟩
        · rw [List.length_map, List.length_take]
          omega
        · rw [upd_ne (ne_of_none he nD), upd_ne (ne_of_none (s5 _ _ he) nT)]
          exact s5 _ _ he
        · rw [upd_same, List.take_add_one, hb, List.map_append]
          have e : decide ((n : Int) ≤ (m : Int)) = decide (n ≤ m) := by
            by_cases z : n ≤ m
            · rw [decide_eq_true z, decide_eq_true (by omega)]
            · rw [decide_eq_false z, decide_eq_false (by omega)]
          show some (HO.lst (_ ++ [V.bl (decide ((n : Int) ≤ (m : Int)))])) = _
          rw [e]
          rfl
      · rintro H5 ⟨s5, hD⟩
        rw [List.take_length] at hD
        refine ⟨D, bs, rfl, .inl (.inl hD), ?_⟩
        have qq := q H5 (s1.trans (s2.trans (s3.trans (s4.trans s5))))
        rw [es, leL_zip, hbs] at qq
        exact qq
    · have es : sayingM a b = false := by
        unfold sayingM
        rw [show eqL (coreM a) (coreM b) = false from Bool.eq_false_iff.mpr fun z => hc ((eqL_iff _ _).mp z)]
        rfl
      rw [show decide (V.str (tx (coreM a)) = V.str (tx (coreM b))) = false from decide_eq_false (fun z => hc (tx_inj (V.str.inj z)))]
      refine iteT ?_
      have qq := q H2 (s1.trans s2)
      rw [es] at qq
      exact qq
theorem ok_isSaying {f f1 f2 : Addr} {fd fd1 fd2 : FuncData} (F : Fun K "is_saying" "is_saying" sIsSaying f fd)
    (k1 : PySem.W.keepIn K (.ref f1) = true) (b1 : Binds K fd1 ["one", "other"] []) (m1 : mg "need_two" = some (.ref f1)) (G1 : FnOk P w K mg base CX0 2 f1 fd1 ["one", "other"] spNeedTwo)
    (k2 : PySem.W.keepIn K (.ref f2) = true) (b2 : Binds K fd2 ["one", "other"] []) (m2 : mg "grows_to" = some (.ref f2)) (G2 : FnOk P w K mg base CX0 4 f2 fd2 ["one", "other"] spGrows)
    (G : Glb mg) : FnOk P w K mg base CX0 5 f fd ["one", "other"] spGrows := by
  refine F.ok scIsSaying (fun vs H Q E h => ?_) (fun cdv A outer s H vs Q E hr h => ?_)
  · obtain ⟨a, b, rfl, _⟩ := h
    rfl
  · obtain ⟨a, b, rfl, la, a4, lb, b4, q⟩ := h
    have r2 : Room 2 _ := hr.mono (by decide)
    refine ⟨_, pss_cons (ps_expr (pe_call G1 r2 (by rfl) m1 k1 b1 .nil pass0 (pa_cons (pv 0) (pa_cons (pv 1) pa_nil)))) (pss_one (ps_ret (pe_call G2 hr (by rfl) m2 k2 b2 .nil pass0 (pa_cons (pv 0) (pa_cons (pv 1) pa_nil))))), ?_⟩
    exact ⟨_, rfl, _, rfl, a, b, rfl, by omega, a4, by omega, b4, fun H1 s1 => ⟨_, rfl, _, rfl, a, b, rfl, la, a4, lb, b4, fun H2 s2 => q _ (s1.trans s2)⟩⟩
def spCountU : Sp := fun vs H Q _ => ∃ a : List Nat, vs = [.str (tx a)] ∧ a.length ≤ 60 ∧ Let4 a ∧ ∀ H', Same H H' → Q (vn (prodN (gapsM a))) H'
theorem ok_countU {f f1 f2 f3 : Addr} {fd fd1 fd2 fd3 : FuncData} (F : Fun K "count_unsayings" "count_unsayings" sCountU f fd)
    (k1 : PySem.W.keepIn K (.ref f1) = true) (b1 : Binds K fd1 ["value"] []) (m1 : mg "need_word" = some (.ref f1)) (G1 : FnOk P w K mg base CX0 1 f1 fd1 ["value"] spNeedWord)
    (k2 : PySem.W.keepIn K (.ref f2) = true) (b2 : Binds K fd2 ["word"] []) (m2 : mg "gaps_of" = some (.ref f2)) (G2 : FnOk P w K mg base CX0 3 f2 fd2 ["word"] spGaps)
    (k3 : PySem.W.keepIn K (.ref f3) = true) (b3 : Binds K fd3 ["told"] []) (m3 : mg "product_of" = some (.ref f3)) (G3 : FnOk P w K mg base CX0 1 f3 fd3 ["told"] spProd)
    (G : Glb mg) : FnOk P w K mg base CX0 4 f fd ["word"] spCountU := by
  refine F.ok scCountU (fun vs H Q E h => ?_) (fun cdv A outer s H vs Q E hr h => ?_)
  · obtain ⟨a, rfl, _⟩ := h
    rfl
  · obtain ⟨a, rfl, la, a4, q⟩ := h
    have r1 : Room 1 _ := hr.mono (by decide)
    refine ⟨_, pss_cons (ps_expr (pe_call G1 r1 (by rfl) m1 k1 b1 .nil pass0 (pa_cons (pv 0) pa_nil)))
      (pss_one (ps_ret (pe_call G3 r1 (by rfl) m3 k3 b3 .nil pass0 (pa_cons (pe_call G2 hr (by rfl) m2 k2 b2 .nil pass0 (pa_cons (pv 0) pa_nil)) pa_nil)))), ?_⟩
    refine ⟨_, rfl, a, rfl, by omega, a4, fun H1 s1 => ⟨_, rfl, a, rfl, la, a4, fun H2 o s2 no ho => ⟨o, gapsM a, rfl, ho, fun g hg => ?_, fun H3 s3 => q _ (s1.trans (s2.trans s3))⟩⟩⟩
    have := diffs_bd (marks_bd a) g hg
    omega
end
end Say

set_option Elab.async false
set_option linter.all false
set_option maxRecDepth 100000
set_option maxHeartbeats 4000000
namespace Say
open PySem PySem.Spec PyProof.Rows L2
/-- all but what stands at r is kept -/
def But (r : Addr) (H H' : Hp) : Prop := ∀ b o, b ≠ r → H b = some o → H' b = some o
theorem But.trans {r : Addr} {H H1 H2 : Hp} (a : But r H H1) (b : But r H1 H2) : But r H H2 := fun c o hc h => b c o hc (a c o hc h)
theorem But.upd {r : Addr} {H : Hp} {o : HO} : But r H (L2.upd H r o) := fun b x hb e => by
  rw [upd_ne hb]
  exact e
theorem Same.but {r : Addr} {H H' : Hp} (s : Same H H') : But r H H' := fun b o _ e => s b o e
/-- the row of the draws: the script, and three numbers -/
def RowOk (K : PySem.W.Frag) (ns : List Int) (H0 H : Hp) (r a : Addr) : Prop :=
  Same H0 H ∧ H0 r = none ∧ SqL K H0 a (ns.map V.int) ∧ ∃ p q t : Int, 0 ≤ p ∧ H r = some (.lst [.ref a, .int p, .int q, .int t])
theorem RowOk.put {K : PySem.W.Frag} {ns : List Int} {H0 H : Hp} {r a : Addr} {p q t : Int} (R : RowOk K ns H0 H r a) (hp : 0 ≤ p) : RowOk K ns H0 (L2.upd H r (.lst [.ref a, .int p, .int q, .int t])) r a := by
  obtain ⟨s, n, x, _⟩ := R
  refine ⟨fun b o e => ?_, n, x, p, q, t, hp, upd_same⟩
  rw [upd_ne (ne_of_none e n)]
  exact s b o e
theorem RowOk.same {K : PySem.W.Frag} {ns : List Int} {H0 H H' : Hp} {r a : Addr} (R : RowOk K ns H0 H r a) (s : Same H H') : RowOk K ns H0 H' r a := by
  obtain ⟨s1, n, x, p, q, t, hp, h⟩ := R
  exact ⟨s1.trans s, n, x, p, q, t, hp, s _ _ h⟩
section
variable {P : Program} {w : World} {K : PySem.W.Frag} {mg : Str → Option Value} {base : Heap}
def spTaken (K : PySem.W.Frag) : Sp := fun vs H Q _ => ∃ (H0 : Hp) (r a : Addr) (ns : List Int) (m : Nat), vs = [.ref r, .int m] ∧ RowOk K ns H0 H r a ∧ 1 ≤ m ∧ m ≤ 1000 ∧
  ∀ (H' : Hp) (v : Nat), But r H H' → RowOk K ns H0 H' r a → v < m → Q (vn v) H'
theorem mod_nat {m : Nat} (i : Int) (h : 1 ≤ m) : ∃ v : Nat, v < m ∧ i % (m : Int) = (v : Int) := by
  have h1 := Int.emod_nonneg i (show (m : Int) ≠ 0 by omega)
  have h2 := Int.emod_lt_of_pos i (show (0 : Int) < m by omega)
  exact ⟨(i % (m : Int)).toNat, by omega, by omega⟩
theorem ok_taken {f : Addr} {fd : FuncData} (F : Fun K "_law_taken" "_law_taken" sTaken f fd) (G : Glb mg) : FnOk P w K mg base CX0 1 f fd ["_law_row", "_law_many"] (spTaken K) := by
  refine F.ok scTaken (fun vs H Q E h => ?_) (fun cdv A outer s H vs Q E hr h => ?_)
  · obtain ⟨H0, r, a, ns, m, rfl, _⟩ := h
    rfl
  · obtain ⟨H0, r, a, ns, m, rfl, R, m1, m2, q⟩ := h
    obtain ⟨s0, nr, hs, p, x, t, hp, hr0⟩ := id R
    refine ⟨_, pss_cons (ps_if (pt_cmpR op_gt (pe_ix ix_list (pv 0) pe_int (fun _ _ => rfl)) pe_int (nomark _))
        (pss_cons (ps_set (i := 2) scTaken.nd rfl (.inl rfl) (pe_op op_mod (pe_callTy call_int1 (by rfl) G.int boot_int (pa_cons (pe_ix ix_list (pv 0) pe_int (fun _ _ => rfl)) pa_nil)) (pv 1)))
        (pss_cons (ps_asg (pe_op op_fdiv (pe_ix ix_list (pv 0) pe_int (fun _ _ => rfl)) (pv 1)) (pg_sub (pv 0) pe_int set_list)) (pss_one (ps_ret (pv 2))))) pss_nil)
      (pss_cons (ps_asg (pe_op op_add (pe_ix ix_list (pv 0) pe_int (fun _ _ => rfl)) pe_int) (pg_sub (pv 0) pe_int set_list))
      (pss_cons (ps_if (pt_cmpR op_gt (pe_ix ix_list (pv 0) pe_int (fun _ _ => rfl)) (pe_callB call_len_seq (by rfl) G.len PySem.boot_len (pa_cons (pe_ix ix_list (pv 0) pe_int (fun _ _ => rfl)) pa_nil)) (nomark _))
        (pss_cons (ps_asg (pe_op op_mod (pe_callTy call_int1 (by rfl) G.int boot_int (pa_cons (pe_op op_add (pe_op op_mul (pe_ix ix_list (pv 0) pe_int (fun _ _ => rfl)) pe_int) pe_int) pa_nil)) pe_int) (pg_sub (pv 0) pe_int set_list))
        (pss_one (ps_ret (pe_op op_mod (pe_callTy call_int1 (by rfl) G.int boot_int (pa_cons (pe_op op_fdiv (pe_ix ix_list (pv 0) pe_int (fun _ _ => rfl)) pe_int) pa_nil)) (pv 1))))) pss_nil)
      (pss_cons (ps_set (i := 3) scTaken.nd rfl (.inl rfl) (pe_ix ix_list (pe_ix ix_list (pv 0) pe_int (fun _ _ => rfl)) (pe_op op_sub (pe_ix ix_list (pv 0) pe_int (fun _ _ => rfl)) pe_int) (fun _ _ => rfl)))
      (pss_cons (ps_asg (pe_op op_mod (pe_callTy call_int1 (by rfl) G.int boot_int (pa_cons (pe_op op_add (pe_op op_add (pe_op op_mul (pe_ix ix_list (pv 0) pe_int (fun _ _ => rfl)) pe_int) (pv 3)) pe_int) pa_nil)) pe_int) (pg_sub (pv 0) pe_int set_list))
      (pss_cons (ps_if (pt_cmpR op_ge (pv 3) (pe_op op_pow pe_int pe_int) (nomark _)) (pss_one (ps_asg (pe_op op_fdiv (pv 3) (pv 1)) (pg_sub (pv 0) pe_int set_list))) pss_nil)
      (pss_one (ps_ret (pe_op op_mod (pe_callTy call_int1 (by rfl) G.int boot_int (pa_cons (pv 3) pa_nil)) (pv 1))))))))), ?_⟩
    refine ⟨_, rfl, r, _, 3, _, rfl, rfl, .inl (.inl hr0), atI_nat (j := 3) rfl, t, 0, rfl, rfl, _, rfl, ?_⟩
    refine ite2 (fun h1 => ?_) (fun h1 => ?_)
    · obtain ⟨v, hv, ev⟩ := mod_nat t m1
      refine ⟨_, rfl, r, _, 3, _, rfl, rfl, .inl (.inl hr0), atI_nat (j := 3) rfl, .inl ⟨t, rfl, _, rfl, t, (m : Int), rfl, rfl, by omega, ?_⟩⟩
      refine ⟨_, rfl, r, _, 3, _, rfl, rfl, .inl (.inl hr0), atI_nat (j := 3) rfl, _, rfl, t, (m : Int), rfl, rfl, ⟨by omega, by omega⟩, _, rfl, r, _, 3, 3, rfl, rfl, hr0, rfl, ?_⟩
      refine ⟨_, rfl, ?_⟩
      show Q (V.int (t % (m : Int))) _
      rw [ev]
      exact q _ v But.upd (R.put hp) hv
    · refine ⟨_, rfl, r, _, 1, _, rfl, rfl, .inl (.inl hr0), atI_nat (j := 1) rfl, p, 1, rfl, rfl, _, rfl, r, _, 1, 1, rfl, rfl, hr0, rfl, ?_⟩
      have R1 : RowOk K ns H0 (upd H r (.lst [.ref a, .int (p + 1), .int x, .int t])) r a := R.put (by omega)
      have hr1 : (upd H r (.lst [.ref a, .int (p + 1), .int x, .int t])) r = some (.lst [.ref a, .int (p + 1), .int x, .int t]) := upd_same
      have b1 : But r H (upd H r (.lst [.ref a, .int (p + 1), .int x, .int t])) := But.upd
      show Ends.nx _ _ (upd H r (.lst [.ref a, .int (p + 1), .int x, .int t]))
      generalize upd H r (.lst [.ref a, .int (p + 1), .int x, .int t]) = H1 at R1 hr1 b1 ⊢
      have hs1 := R1.1.seq hs
      refine ⟨_, rfl, r, _, 1, _, rfl, rfl, .inl (.inl hr1), atI_nat (j := 1) rfl, _, rfl, r, _, 0, .ref a, rfl, rfl, .inl (.inl hr1), atI_nat (j := 0) rfl, a, _, rfl, .inl hs1, p + 1, _, rfl, rfl, _, rfl, ?_⟩
      rw [List.length_map]
      refine ite2 (fun h2 => ?_) (fun h2 => ?_)
      · refine ⟨_, rfl, r, _, 2, _, rfl, rfl, .inl (.inl hr1), atI_nat (j := 2) rfl, x, 48271, rfl, rfl, .inr (by constructor <;> decide), _, 11, rfl, rfl, .inl ⟨_, rfl, _, 2147483647, rfl, rfl, (by decide : (0 : Int) < 2147483647), _, rfl, r, _, 2, 2, rfl, rfl, hr1, rfl, ?_⟩⟩
        have R2 : RowOk K ns H0 (upd H1 r (.lst [.ref a, .int (p + 1), .int ((x * 48271 + 11) % 2147483647), .int t])) r a := R1.put (by omega)
        have hr2 : (upd H1 r (.lst [.ref a, .int (p + 1), .int ((x * 48271 + 11) % 2147483647), .int t])) r = some (.lst [.ref a, .int (p + 1), .int ((x * 48271 + 11) % 2147483647), .int t]) := upd_same
        have b2 := b1.trans (But.upd (r := r) (H := H1) (o := .lst [.ref a, .int (p + 1), .int ((x * 48271 + 11) % 2147483647), .int t]))
        show Ends.nx _ _ (upd H1 r (.lst [.ref a, .int (p + 1), .int ((x * 48271 + 11) % 2147483647), .int t]))
        generalize upd H1 r (.lst [.ref a, .int (p + 1), .int ((x * 48271 + 11) % 2147483647), .int t]) = H2 at R2 hr2 b2 ⊢
        obtain ⟨v, hv, ev⟩ := mod_nat ((x * 48271 + 11) % 2147483647 / 7) m1
        refine ⟨_, rfl, r, _, 2, _, rfl, rfl, .inl (.inl hr2), atI_nat (j := 2) rfl, _, 7, rfl, rfl, ⟨by decide, by decide⟩, .inl ⟨_, rfl, _, rfl, _, (m : Int), rfl, rfl, by omega, ?_⟩⟩
        show Q (V.int ((x * 48271 + 11) % 2147483647 / 7 % (m : Int))) _
        rw [ev]
        exact q _ v b2 R2 hv
      · have h3 := Int.not_lt.mp (of_decide_eq_false (Bool.eq_false_iff.mpr h2))
        have hpl : p.toNat < ns.length := by omega
        have eix : p + 1 - 1 = ((p.toNat : Nat) : Int) := by omega
        refine ⟨_, rfl, r, _, 0, .ref a, rfl, rfl, .inl (.inl hr1), atI_nat (j := 0) rfl, _, rfl, r, _, 1, .int (p + 1), rfl, rfl, .inl (.inl hr1), atI_nat (j := 1) rfl, p + 1, 1, rfl, rfl, a, _, _, .int ns[p.toNat], rfl, rfl, hs1, ?_, ?_⟩
        · rw [eix]
          exact atI_nat (by rw [List.getElem?_map, List.getElem?_eq_getElem hpl]; rfl)
        generalize ns[p.toNat] = z
        refine ⟨_, rfl, r, _, 2, _, rfl, rfl, .inl (.inl hr1), atI_nat (j := 2) rfl, x, 48271, rfl, rfl, .inr (by constructor <;> decide), _, rfl, _, z, rfl, rfl, _, 11, rfl, rfl, .inl ⟨_, rfl, _, 2147483647, rfl, rfl, (by decide : (0 : Int) < 2147483647), _, rfl, r, _, 2, 2, rfl, rfl, hr1, rfl, ?_⟩⟩
        have R2 : RowOk K ns H0 (upd H1 r (.lst [.ref a, .int (p + 1), .int ((x * 48271 + z + 11) % 2147483647), .int t])) r a := R1.put (by omega)
        have hr2 : (upd H1 r (.lst [.ref a, .int (p + 1), .int ((x * 48271 + z + 11) % 2147483647), .int t])) r = some (.lst [.ref a, .int (p + 1), .int ((x * 48271 + z + 11) % 2147483647), .int t]) := upd_same
        have b2 := b1.trans (But.upd (r := r) (H := H1) (o := .lst [.ref a, .int (p + 1), .int ((x * 48271 + z + 11) % 2147483647), .int t]))
        show Ends.nx _ _ (upd H1 r (.lst [.ref a, .int (p + 1), .int ((x * 48271 + z + 11) % 2147483647), .int t]))
        generalize upd H1 r (.lst [.ref a, .int (p + 1), .int ((x * 48271 + z + 11) % 2147483647), .int t]) = H2 at R2 hr2 b2 ⊢
        obtain ⟨v, hv, ev⟩ := mod_nat z m1
        refine ⟨_, rfl, 10, 18, rfl, rfl, ⟨by decide, by decide, by decide⟩, z, _, rfl, rfl, _, rfl, ?_⟩
        refine ite2 (fun h4 => ?_) (fun h4 => ?_)
        · refine ⟨_, rfl, _, rfl, z, (m : Int), rfl, rfl, ⟨by omega, by omega⟩, _, rfl, r, _, 3, 3, rfl, rfl, hr2, rfl, ?_⟩
          refine ⟨_, rfl, .inl ⟨z, rfl, _, rfl, z, (m : Int), rfl, rfl, by omega, ?_⟩⟩
          show Q (V.int (z % (m : Int))) _
          rw [ev]
          exact q _ v (b2.trans But.upd) (R2.put (by omega)) hv
        · refine ⟨_, rfl, .inl ⟨z, rfl, _, rfl, z, (m : Int), rfl, rfl, by omega, ?_⟩⟩
          show Q (V.int (z % (m : Int))) _
          rw [ev]
          exact q _ v b2 R2 hv
end
end Say

set_option Elab.async false
set_option linter.all false
set_option maxRecDepth 100000
set_option maxHeartbeats 4000000
namespace Say
open PySem PySem.Spec PyProof.Rows L2
/-! ### lists of tuples of numbers -/
def RowsAt (H : Hp) : List Addr → List (List Nat) → Prop
  | [], [] => True
  | t :: ts, r :: rs => H t = some (.tup (r.map vn)) ∧ RowsAt H ts rs
  | [], _ :: _ => False
  | _ :: _, [] => False
theorem RowsAt.same {H H' : Hp} (s : Same H H') : ∀ {ts : List Addr} {rs : List (List Nat)}, RowsAt H ts rs → RowsAt H' ts rs
  | [], [], _ => trivial
  | _ :: _, _ :: _, h => ⟨s _ _ h.1, RowsAt.same s h.2⟩
  | [], _ :: _, h => h.elim
  | _ :: _, [], h => h.elim
theorem RowsAt.len {H : Hp} : ∀ {ts : List Addr} {rs : List (List Nat)}, RowsAt H ts rs → ts.length = rs.length
  | [], [], _ => rfl
  | _ :: _, _ :: _, h => congrArg (· + 1) (RowsAt.len h.2)
  | [], _ :: _, h => h.elim
  | _ :: _, [], h => h.elim
theorem RowsAt.app {H : Hp} : ∀ {ts : List Addr} {rs : List (List Nat)} {ts2 : List Addr} {rs2 : List (List Nat)}, RowsAt H ts rs → RowsAt H ts2 rs2 → RowsAt H (ts ++ ts2) (rs ++ rs2)
  | [], [], _, _, _, h => h
  | _ :: _, _ :: _, _, _, h, h2 => ⟨h.1, RowsAt.app h.2 h2⟩
  | [], _ :: _, _, _, h, _ => h.elim
  | _ :: _, [], _, _, h, _ => h.elim
theorem RowsAt.get {H : Hp} : ∀ {ts : List Addr} {rs : List (List Nat)} {i : Nat} {t : Addr}, RowsAt H ts rs → ts[i]? = some t → ∃ r, rs[i]? = some r ∧ H t = some (.tup (r.map vn))
  | [], [], i, t, _, e => by simp at e
  | t0 :: ts, r0 :: rs, 0, t, h, e => by
    have e2 : t0 = t := by simpa using e
    subst e2
    exact ⟨r0, rfl, h.1⟩
  | t0 :: ts, r0 :: rs, i + 1, t, h, e => RowsAt.get (i := i) h.2 (by simpa using e)
  | [], _ :: _, _, _, h, _ => h.elim
  | _ :: _, [], _, _, h, _ => h.elim
theorem RowsAt.upd {H : Hp} {d : Addr} {o : HO} (hd : ∀ r, H d ≠ some (.tup r)) : ∀ {ts : List Addr} {rs : List (List Nat)}, RowsAt H ts rs → RowsAt (L2.upd H d o) ts rs
  | [], [], _ => trivial
  | t :: ts, r :: rs, h => ⟨by
      have ne : t ≠ d := fun z => hd _ (z ▸ h.1)
      rw [upd_ne ne]
      exact h.1, RowsAt.upd hd h.2⟩
  | [], _ :: _, h => h.elim
  | _ :: _, [], h => h.elim
def ext3 (r : List Nat) : List (List Nat) := [r ++ [1], r ++ [2], r ++ [3]]
theorem flat_step {α β : Type} {l : List α} {f : α → List β} {j : Nat} {r : α} (h : l[j]? = some r) : (l.take (j + 1)).flatMap f = (l.take j).flatMap f ++ f r := by
  rw [List.take_add_one, h, List.flatMap_append]
  simp
theorem rows_len : ∀ k, (rowsM k).length = 3 ^ k
  | 0 => rfl
  | k + 1 => by
    have ih := rows_len k
    have e : ∀ l : List (List Nat), (l.flatMap ext3).length = l.length * 3 := fun l => by
      induction l with
      | nil => rfl
      | cons x r ih => rw [List.flatMap_cons, List.length_append, ih, List.length_cons]; show 3 + _ = _; omega
    show ((rowsM k).flatMap ext3).length = _
    rw [e, ih, Nat.pow_succ]
theorem rows_row : ∀ k, ∀ r ∈ rowsM k, r.length = k ∧ ∀ n ∈ r, n ≤ 3
  | 0, r, h => by
    have e : r = [] := by simpa [rowsM] using h
    subst e
    exact ⟨rfl, fun _ h => nomatch h⟩
  | k + 1, r, h => by
    have h2 : r ∈ (rowsM k).flatMap ext3 := h
    obtain ⟨r0, h0, hr⟩ := List.mem_flatMap.mp h2
    obtain ⟨i1, i2⟩ := rows_row k r0 h0
    have one : ∀ m, m ≤ 3 → r = r0 ++ [m] → r.length = k + 1 ∧ ∀ n ∈ r, n ≤ 3 := fun m hm e => by
      subst e
      refine ⟨by simp [i1], fun n hn => ?_⟩
      rcases List.mem_append.mp hn with z | z
      · exact i2 n z
      · rw [List.mem_singleton.mp z]; exact hm
    have h3 : r = r0 ++ [1] ∨ r = r0 ++ [2] ∨ r = r0 ++ [3] := by simpa [ext3] using hr
    rcases h3 with z | z | z
    · exact one 1 (by decide) z
    · exact one 2 (by decide) z
    · exact one 3 (by decide) z
theorem take_len {α : Type} (l : List α) {f : α → List β} {b : Nat} (h : ∀ x, (f x).length ≤ b) (j : Nat) : ((l.take j).flatMap f).length ≤ l.length * b := by
  induction l generalizing j with
  | nil => simp
  | cons x r ih =>
    cases j with
    | zero => simp
    | succ j =>
      rw [List.take_succ_cons, List.flatMap_cons, List.length_append, List.length_cons, Nat.succ_mul]
      have := h x
      have := ih j
      omega
section
variable {P : Program} {w : World} {K : PySem.W.Frag} {mg : Str → Option Value} {base : Heap}
/-! ### _law_pick -/
def spPick (K : PySem.W.Frag) : Sp := fun vs H Q _ => ∃ (H0 : Hp) (r a : Addr) (ns : List Int) (g : Addr) (xs : List V), vs = [.ref r, .ref g] ∧ RowOk K ns H0 H r a ∧ g ≠ r ∧ H g = some (.lst xs) ∧ 1 ≤ xs.length ∧ xs.length ≤ 1000 ∧
  ∀ (H' : Hp) (x : V), But r H H' → RowOk K ns H0 H' r a → x ∈ xs → Q x H'
theorem ok_pick {f f1 : Addr} {fd fd1 : FuncData} (F : Fun K "_law_pick" "_law_pick" sPick f fd) (k1 : PySem.W.keepIn K (.ref f1) = true) (b1 : Binds K fd1 ["_law_row", "_law_many"] []) (m1 : mg "_law_taken" = some (.ref f1))
    (G1 : FnOk P w K mg base CX0 1 f1 fd1 ["_law_row", "_law_many"] (spTaken K)) (G : Glb mg) : FnOk P w K mg base CX0 2 f fd ["_law_row", "_law_things"] (spPick K) := by
  refine F.ok scPick (fun vs H Q E h => ?_) (fun cdv A outer s H vs Q E hr h => ?_)
  · obtain ⟨H0, r, a, ns, g, xs, rfl, _⟩ := h
    rfl
  · obtain ⟨H0, r, a, ns, g, xs, rfl, R, ngr, hg, l1, l2, q⟩ := h
    refine ⟨_, pss_one (ps_ret (pe_ix ix_list (pv 1) (pe_call G1 hr (by rfl) m1 k1 b1 .nil pass0 (pa_cons (pv 0) (pa_cons (pe_callB call_len_seq (by rfl) G.len PySem.boot_len (pa_cons (pv 1) pa_nil)) pa_nil))) (fun _ _ => rfl))), ?_⟩
    refine ⟨_, rfl, _, rfl, _, rfl, g, _, rfl, .inl (.inl (.inl hg)), H0, r, a, ns, xs.length, rfl, R, l1, l2, fun H1 v bt R1 hv => ?_⟩
    exact ⟨g, xs, _, xs[v], rfl, rfl, .inl (.inl (bt _ _ ngr hg)), atI_nat (List.getElem?_eq_getElem hv), q _ _ bt R1 (List.getElem_mem hv)⟩
/-! ### _law_word -/
def spWord (K : PySem.W.Frag) : Sp := fun vs H Q _ => ∃ (H0 : Hp) (r a : Addr) (ns : List Int) (most many : Nat), vs = [.ref r, .int most, .int many] ∧ RowOk K ns H0 H r a ∧ most ≤ 20 ∧ 1 ≤ many ∧ many ≤ 3 ∧
  ∀ (H' : Hp) (l : List Nat), But r H H' → RowOk K ns H0 H' r a → l.length ≤ most → (∀ c ∈ l, c ∈ letM many) → Q (.str (tx l)) H'
theorem let_at {many v : Nat} (hm : many ≤ 3) (hv : v < many) : ∃ c, ("abcd" : Str).cps[v]? = some c ∧ c ∈ letM many := by
  have e : ("abcd" : Str).cps = #[97, 98, 99, 100] := by decide +kernel
  rw [e]
  have h3 : ∀ m, m ≤ 3 → ∀ v, v < m → ∃ c, (#[97, 98, 99, 100] : Array Nat)[v]? = some c ∧ c ∈ letM m := by
    intro m hm v hv
    match m, v, hm, hv with
    | 1, 0, _, _ => exact ⟨97, rfl, by decide⟩
    | 2, 0, _, _ => exact ⟨97, rfl, by decide⟩
    | 2, 1, _, _ => exact ⟨98, rfl, by decide⟩
    | 3, 0, _, _ => exact ⟨97, rfl, by decide⟩
    | 3, 1, _, _ => exact ⟨98, rfl, by decide⟩
    | 3, 2, _, _ => exact ⟨99, rfl, by decide⟩
  exact h3 many hm v hv
theorem let_a {many : Nat} (h : 1 ≤ many) : 97 ∈ letM many := by
  cases many with
  | zero => omega
  | succ n => simp [letM]
theorem abcd_len : ("abcd" : Str).length = 4 := by decide +kernel
theorem ok_word {f f1 : Addr} {fd fd1 : FuncData} (F : Fun K "_law_word" "_law_word" sWord f fd) (k1 : PySem.W.keepIn K (.ref f1) = true) (b1 : Binds K fd1 ["_law_row", "_law_many"] []) (m1 : mg "_law_taken" = some (.ref f1))
    (G1 : FnOk P w K mg base CX0 1 f1 fd1 ["_law_row", "_law_many"] (spTaken K)) (G : Glb mg) : FnOk P w K mg base CX0 2 f fd ["_law_row", "_law_most", "_law_many"] (spWord K) := by
  refine F.ok scWord (fun vs H Q E h => ?_) (fun cdv A outer s H vs Q E hr h => ?_)
  · obtain ⟨H0, r, a, ns, most, many, rfl, _⟩ := h
    rfl
  · obtain ⟨H0, r, a, ns, most, many, rfl, R, lm, k0, k3, q⟩ := h
    refine ⟨_, pss_cons (ps_asg (pe_tup (pa_cons pe_str (pa_cons pe_str pa_nil))) (pg_tup rfl (pgs_cons (pg_name (i := 3) scWord.nd rfl (Or.inl rfl)) (pgs_cons (pg_name (i := 4) scWord.nd rfl (Or.inl rfl)) pgs_nil))))
      (pss_cons (ps_for PassesOwn.never rfl (pi_range1 (by rfl) G.range (pa_cons (pe_call G1 hr (by rfl) m1 k1 b1 .nil pass0 (pa_cons (pv 0) (pa_cons (pe_op op_add (pv 1) pe_int) pa_nil))) pa_nil)) (pg_name (i := 5) scWord.nd rfl (Or.inl rfl))
        (pss_cons (ps_if (pt_cmpR op_gt (pe_call G1 hr (by rfl) m1 k1 b1 .nil pass0 (pa_cons (pv 0) (pa_cons pe_int pa_nil))) pe_int (nomark _))
            (pss_one (ps_set (i := 4) scWord.nd rfl (.inl rfl) (pe_item_str pe_str (pe_call G1 hr (by rfl) m1 k1 b1 .nil pass0 (pa_cons (pv 0) (pa_cons (pv 2) pa_nil))) (fun _ _ => rfl)))) pss_nil)
        (pss_one (ps_set (i := 3) scWord.nd rfl (.inl rfl) (pe_op op_add_str (pv 3) (pv 4))))))
      (pss_one (ps_ret (pv 3)))), ?_⟩
    refine ⟨(by decide), fun T nT => ⟨T, _, rfl, .inl (.inl upd_same), rfl, _, _, rfl, _, _, rfl, rfl, ?_⟩⟩
    have sT := same_upd (o := .tup [.str "", .str "a"]) nT
    refine ⟨_, rfl, _, rfl, (most : Int), 1, rfl, rfl, H0, r, a, ns, most + 1, rfl, R.same sT, by omega, by omega, fun H1 v bt0 R1 hv => ?_⟩
    have bt := (Say.Same.but (r := r) sT).trans bt0
    refine ⟨(v : Int), rfl, by omega, by omega, ?_⟩
    rw [Int.toNat_natCast]
    refine for_it walk_range (fun i σ H' => ∃ (l : List Nat) (c : Nat) (y5 : Option V), σ = [some (.ref r), some (.int most), some (.int many), some (.str (tx l)), some (.str (tx [c])), y5] ∧ But r H H' ∧ RowOk K ns H0 H' r a ∧ l.length ≤ i ∧ (∀ c ∈ l, c ∈ letM many) ∧ c ∈ letM many)
      ⟨[], 97, none, rfl, bt, R1, Nat.le_refl _, (fun _ h => nomatch h), let_a k0⟩ (fun _ _ _ _ _ => trivial) ?_ ?_
    · rintro i x σ H2 H3 hi ⟨l, c, y5, rfl, b2, R2, ll, hl, hc⟩ ⟨rfl, rfl⟩
      have fin : ∀ (H4 : Hp) (d : Nat), But r H H4 → RowOk K ns H0 H4 r a → d ∈ letM many → ∃ (l' : List Nat) (c' : Nat) (y5 : Option V), [some (V.ref r), some (.int most), some (.int many), some (.str (tx l ++ tx [d])), some (.str (tx [d])), some (V.int (0 + (i : Nat)))] =
          [some (.ref r), some (.int most), some (.int many), some (.str (tx l')), some (.str (tx [c'])), y5] ∧ But r H H4 ∧ RowOk K ns H0 H4 r a ∧ l'.length ≤ i + 1 ∧ (∀ c ∈ l', c ∈ letM many) ∧ c' ∈ letM many := fun H4 d b4 R4 hd => by
        refine ⟨l ++ [d], d, _, by rw [tx_append], b4, R4, by simp; omega, fun z hz => ?_, hd⟩
        rcases List.mem_append.mp hz with y | y
        · exact hl z y
        · rw [List.mem_singleton.mp y]; exact hd
      have sz : ∀ d, (tx l).length + (tx [d]).length ≤ sizeLine := fun d => by
        rw [tx_len, tx_len]
        exact small_size (by simp; omega)
      refine ⟨_, rfl, H0, r, a, ns, 3, rfl, R2, by decide, by decide, fun H4 u b3 R3 hu => ⟨(u : Int), 0, rfl, rfl, _, rfl, ?_⟩⟩
      refine ite2 (fun _ => ?_) (fun _ => ?_)
      · refine ⟨_, rfl, _, rfl, H0, r, a, ns, many, rfl, R3, k0, by omega, fun H5 k b5 R5 hk => ?_⟩
        obtain ⟨d, hd1, hd2⟩ := let_at k3 hk
        refine ⟨_, (k : Int), d, rfl, rfl, by omega, by omega, by rw [abcd_len]; omega, by rw [Int.toNat_natCast]; exact hd1, ?_⟩
        exact ⟨_, rfl, _, rfl, tx l, tx [d], rfl, rfl, sz d, fin _ d (b2.trans (b3.trans b5)) R5 hd2⟩
      · exact ⟨_, rfl, _, rfl, tx l, tx [c], rfl, rfl, sz c, fin _ c (b2.trans b3) R3 hc⟩
    · rintro σ H2 ⟨l, c, y5, rfl, b2, R2, ll, hl, hc⟩
      exact ⟨_, rfl, q _ _ b2 R2 (by omega) hl⟩
end
end Say

set_option Elab.async false
set_option linter.all false
set_option maxRecDepth 100000
set_option maxHeartbeats 4000000
namespace Say
open PySem PySem.Spec PyProof.Rows L2
section
variable {P : Program} {w : World} {K : PySem.W.Frag} {mg : Str → Option Value} {base : Heap}
/-! ### _law_rows -/
theorem one_fit : 1 ≤ sizeLine := by decide
def spRows : Sp := fun vs H Q _ => ∃ (g : Addr) (k : Nat), vs = [.ref g] ∧ H g = some (.lst (List.replicate k (.int 3))) ∧ k ≤ 4 ∧ ∀ (H' : Hp) (o : Addr) (ts : List Addr), Same H H' → H o = none → H' o = some (.lst (ts.map V.ref)) → RowsAt H' ts (rowsM k) → Q (.ref o) H'
theorem ext_at {r : List Nat} {i : Nat} (h : i < 3) : (ext3 r)[i]? = some (r ++ [i + 1]) := by
  match i, h with
  | 0, _ => rfl
  | 1, _ => rfl
  | 2, _ => rfl
theorem ok_rows {f : Addr} {fd : FuncData} (F : Fun K "_law_rows" "_law_rows" sRows f fd) (G : Glb mg) : FnOk P w K mg base CX0 1 f fd ["_law_most"] spRows := by
  refine F.ok scRows (fun vs H Q E h => ?_) (fun cdv A outer s H vs Q E hr h => ?_)
  · obtain ⟨g, k, rfl, _⟩ := h
    rfl
  · obtain ⟨g, k, rfl, hg, lk, q⟩ := h
    refine ⟨_, pss_cons (ps_set (i := 1) scRows.nd rfl (.inl rfl) (pe_lst (pa_cons (pe_tup pa_nil) pa_nil)))
      (pss_cons (ps_for PassesOwn.never rfl (pi_list (pv 0)) (pg_name (i := 2) scRows.nd rfl (Or.inl rfl))
        (pss_cons (ps_set (i := 3) scRows.nd rfl (.inl rfl) (pe_lst pa_nil))
        (pss_cons (ps_for PassesOwn.never rfl (pi_list (pv 1)) (pg_name (i := 4) scRows.nd rfl (Or.inr rfl))
          (pss_one (ps_set (i := 3) scRows.nd rfl (.inl rfl) (pe_op op_cat (pv 3)
            (pe_lc (own := [("_law_one", 5)]) (g := gName 5) (tt := tYes) (te := tOp (rCatA K) (tVar 4) (tTup (tCons (tVar 5) tNil))) rfl scRows.nd (pi_range2 (by rfl) G.range (pa_cons pe_int (pa_cons (pe_op op_add (pv 2) pe_int) pa_nil)))
              (blkOk_by (N := ["_law_most", "_law_found", "_law_top", "_law_later", "_law_row", "_law_one"]) (sc := defScope sRows) (by decide +kernel)) (fun _ _ _ _ _ => pg_name (i := 5) scRows.nd rfl (Or.inl rfl)) (fun _ _ _ _ _ => pts_nil)
              (fun _ _ _ _ _ => pe_op op_catA (pv 4) (pe_tup (pa_cons (pv 5) pa_nil))))))))
        (pss_one (ps_set (i := 1) scRows.nd rfl (.inl rfl) (pv 3))))))
      (pss_one (ps_ret (pv 1)))), ?_⟩
    refine ⟨Nat.zero_le _, fun p0 np0 => ⟨one_fit, fun o0 no0 => ?_⟩⟩
    have s0 := (same_upd (o := .tup []) np0).trans (same_upd (o := .lst [.ref p0]) no0)
    have no00 : H o0 = none := (same_upd (o := .tup []) np0).free no0
    have npo : p0 ≠ o0 := fun z => by
      rw [← z, upd_same] at no0
      cases no0
    refine ⟨_, rfl, g, rfl, ⟨_, .inl (.inl (s0 _ _ hg))⟩, for_it (walk_list (K := K) (a := g) (xs := List.replicate k (.int 3)))
      (fun i σ H' => ∃ (o : Addr) (ts : List Addr) (y2 y3 y4 y5 : Option V), σ = [some (.ref g), some (.ref o), y2, y3, y4, y5] ∧ Same H H' ∧ H o = none ∧ H' o = some (.lst (ts.map V.ref)) ∧ RowsAt H' ts (rowsM i))
      ⟨o0, [p0], none, none, none, none, rfl, s0, no00, upd_same, ⟨by rw [upd_ne npo, upd_same]; rfl, trivial⟩⟩ (fun _ _ _ _ ⟨_, _, _, _, _, _, _, s1, _⟩ => .inl (.inl (s1 _ _ hg))) ?_ ?_⟩
    · rintro i x σ H1 H2 hi ⟨o, ts, y2, y3, y4, y5, rfl, s1, no, ho, ht⟩ ⟨rfl, hx⟩
      rw [List.length_replicate] at hi
      have ex : x = .int 3 := by
        rw [List.getElem?_replicate, if_pos hi] at hx
        exact (Option.some.inj hx).symm
      subst ex
      have hlen := ht.len
      have hl81 : (rowsM i).length ≤ 81 := by
        rw [rows_len]
        have h4 : i ≤ 4 := by omega
        exact Nat.pow_le_pow_right (by decide) h4
      refine ⟨Nat.zero_le _, fun l0 nl0 => ?_⟩
      have sl := same_upd (o := .lst []) nl0
      refine ⟨_, rfl, o, rfl, ⟨_, .inl (.inl (sl _ _ ho))⟩, for_it (walk_list (K := K) (a := o) (xs := ts.map V.ref))
        (fun j σ H' => ∃ (ol : Addr) (us : List Addr) (y4 y5 : Option V), σ = [some (.ref g), some (.ref o), some (.int 3), some (.ref ol), y4, y5] ∧ Same H2 H' ∧ H2 ol = none ∧ H' ol = some (.lst (us.map V.ref)) ∧ RowsAt H' us (((rowsM i).take j).flatMap ext3))
        ⟨l0, [], y4, y5, rfl, sl, nl0, upd_same, trivial⟩ (fun _ _ _ _ ⟨_, _, _, _, _, s2, _⟩ => .inl (.inl (s2 _ _ ho))) ?_ ?_⟩
      · rintro j x σ H3 H4 hj ⟨ol, us, y4, y5, rfl, s3, nol, hol, hu⟩ ⟨rfl, hx⟩
        rw [List.length_map] at hj
        rw [List.getElem?_map] at hx
        obtain ⟨t, htj, rfl⟩ := Option.map_eq_some_iff.mp hx
        obtain ⟨r, hrj, hT⟩ := ht.get htj
        have hT3 := s3 _ _ hT
        have rlen : r.length ≤ 4 := by
          have := (rows_row i r (List.mem_of_getElem? hrj)).1
          omega
        refine ⟨_, rfl, _, rfl, 3, 1, rfl, rfl, 1, 4, rfl, (by refine ⟨by decide, by decide, by decide, by decide⟩), fun D nD => ?_⟩
        refine lc_it walk_range (fun m H' => Same H4 H' ∧ ∃ qs : List Addr, H' D = some (.lst (qs.map V.ref)) ∧ RowsAt H' qs ((ext3 r).take m)) ⟨same_upd nD, [], upd_same, trivial⟩ (fun _ _ _ _ => trivial) ?_ ?_
        · rintro m x H5 H6 hm ⟨s5, qs, hD, hq⟩ ⟨rfl, rfl⟩
          have hm3 : m < 3 := hm
          have ql : qs.length ≤ 3 := by
            have := hq.len
            rw [List.length_take] at this
            have e3 : (ext3 r).length = 3 := rfl
            omega
          have fin : ∀ (H7 : Hp) (p : Addr), Same H6 H7 → H6 p = none → H7 p = some (.tup ((r ++ [m + 1]).map vn)) → ∃ acc, H7 D = some (.lst acc) ∧ acc.length < sizeLine ∧ Same H4 (upd H7 D (.lst (acc ++ [.ref p]))) ∧
              ∃ qs : List Addr, (upd H7 D (.lst (acc ++ [.ref p]))) D = some (.lst (qs.map V.ref)) ∧ RowsAt (upd H7 D (.lst (acc ++ [.ref p]))) qs ((ext3 r).take (m + 1)) := fun H7 p s7 np hp => by
            refine ⟨qs.map V.ref, s7 _ _ hD, small_lt (by rw [List.length_map]; omega), fun b e he => ?_, qs ++ [p], by rw [upd_same, List.map_append]; rfl, ?_⟩
            · rw [upd_ne (ne_of_none he nD)]
              exact s7 _ _ (s5 _ _ he)
            · rw [List.take_add_one, ext_at hm3]
              have hD7 := s7 _ _ hD
              have pD : p ≠ D := fun z => by rw [z, hD] at np; cases np
              have z1 : RowsAt (upd H7 D (.lst (qs.map V.ref ++ [.ref p]))) qs ((ext3 r).take m) := (hq.same s7).upd fun r2 => by rw [hD7]; intro z; cases z
              exact z1.app ⟨by rw [upd_ne pD]; exact hp, trivial⟩
          refine ⟨rfl, yes_in ?_⟩
          refine ⟨_, rfl, _, rfl, one_fit, fun T nT => ?_⟩
          have e1 : V.int (1 + (m : Nat)) = vn (m + 1) := by
            show V.int (1 + (m : Int)) = V.int ((m + 1 : Nat) : Int)
            congr 1
            omega
          dsimp only
          rw [e1]
          have sT := same_upd (o := .tup [vn (m + 1)]) nT
          have hT6 := sT _ _ (s5 _ _ hT3)
          refine ⟨t, T, r.map vn, [vn (m + 1)], rfl, rfl, .inl (.inl hT6), .inl (.inl upd_same), small_size (by rw [List.length_map, List.length_singleton]; omega), fun e0 => ?_, fun _ e0 => (by cases e0), fun _ _ p np => ?_⟩
          · have er : r = [] := List.map_eq_nil_iff.mp e0
            refine fin _ T sT nT ?_
            rw [upd_same, er]
            rfl
          · refine fin _ p (sT.trans (same_upd np)) (sT.free np) ?_
            rw [upd_same, List.map_append]
            rfl
        · rintro H5 ⟨s5, qs, hD, hq⟩
          have e3 : (ext3 r).take (4 - 1 : Int).toNat = ext3 r := rfl
          rw [e3] at hq
          have hD5 := hD
          have hol5 := s5 _ _ hol
          have ul := hu.len
          have ul2 := take_len (rowsM i) (f := ext3) (b := 3) (fun _ => Nat.le_refl _) j
          have ql := hq.len
          have e33 : (ext3 r).length = 3 := rfl
          refine ⟨ol, D, _, _, rfl, rfl, hol5, hD5, small_size (by rw [List.length_map, List.length_map]; omega), fun C nC => ?_⟩
          have sC := same_upd (o := .lst (us.map V.ref ++ qs.map V.ref)) nC
          refine ⟨C, us ++ qs, _, _, rfl, s3.trans (s5.trans sC), (s3.trans s5).free nC, by rw [upd_same, List.map_append], ?_⟩
          rw [flat_step hrj]
          exact (hu.same (s5.trans sC)).app (hq.same sC)
      · rintro σ H3 ⟨ol, us, y4, y5, rfl, s3, nol, hol, hu⟩
        rw [List.length_map, hlen, List.take_length] at hu
        exact ⟨_, rfl, ol, us, _, _, _, _, rfl, s1.trans s3, s1.free nol, hol, hu⟩
    · rintro σ H1 ⟨o, ts, y2, y3, y4, y5, rfl, s1, no, ho, ht⟩
      rw [List.length_replicate] at ht
      exact ⟨_, rfl, q _ _ _ s1 no ho ht⟩
end
end Say

set_option Elab.async false
set_option linter.all false
set_option maxRecDepth 100000
set_option maxHeartbeats 8000000
namespace Say
open PySem PySem.Spec PyProof.Rows L2
/-! ### the law: plain parts -/
abbrev lawN : List Str := ["_law_script", "_law_row", "_law_many", "_law_one", "_law_last", "_law_rows_here", "_law_images", "_law_other", "_law_found", "_law_counts", "_law_words", "_law_turn", "_law_later", "_law_word_here", "_law_held", "_law_size", "_law_some", "_law_letter", "_law_told"]
theorem let_let4 {many : Nat} {l : List Nat} (h : ∀ c ∈ l, c ∈ letM many) : Let4 l := fun c hc => by
  have h2 : c ∈ [97, 98, 99] := List.mem_of_mem_take (h c hc)
  simp at h2
  omega
theorem say_congr {f g : Nat → Nat} : ∀ (l p : List Nat), (∀ c, f (cnt c p + 1) = g (cnt c p + 1) ∨ c ∉ l) → (∀ k, (∃ c ∈ l, k ≤ cnt c p + cnt c l) → f k = g k) → sayR f p l = sayR g p l
  | [], p, _, _ => rfl
  | c :: r, p, h0, h => by
    show List.replicate (f (cnt c p + 1)) c ++ sayR f (c :: p) r = List.replicate (g (cnt c p + 1)) c ++ sayR g (c :: p) r
    have h1 : f (cnt c p + 1) = g (cnt c p + 1) := h _ ⟨c, List.mem_cons_self, by rw [cnt_one, if_pos rfl]; omega⟩
    rw [h1, say_congr r (c :: p) (fun d => ?_) (fun k hk => ?_)]
    · by_cases hd : d ∈ r
      · refine .inl (h _ ⟨d, List.mem_cons_of_mem _ hd, ?_⟩)
        have hpos : 1 ≤ cnt d r := by
          clear h0 h h1
          induction r with
          | nil => simp at hd
          | cons x q ih =>
            rw [cnt_one]
            rcases List.mem_cons.mp hd with z | z
            · rw [if_pos z.symm]; omega
            · have := ih z
              split <;> omega
        rw [cnt_one, cnt_one]
        split <;> omega
      · exact .inr hd
    · obtain ⟨d, hd, hk⟩ := hk
      refine h k ⟨d, List.mem_cons_of_mem _ hd, ?_⟩
      rw [cnt_one] at hk ⊢
      split at hk <;> rename_i z
      · rw [if_pos z]; omega
      · rw [if_neg z]; omega
theorem said_img {r one : List Nat} (h : ∀ c, cnt c one ≤ r.length) : sayR (nth (r ++ [1])) [] one = imgM r one := by
  refine say_congr one [] (fun c => ?_) fun k hk => ?_
  · by_cases hc : c ∈ one
    · left
      by_cases z : r.length = 0
      · have e : r = [] := List.length_eq_zero_iff.mp z
        have h2 := h c
        rw [z] at h2
        exfalso
        have hpos : 1 ≤ cnt c one := by
          clear h h2
          induction one with
          | nil => simp at hc
          | cons x q ih =>
            rw [cnt_one]
            rcases List.mem_cons.mp hc with z | z
            · rw [if_pos z.symm]; omega
            · have := ih z
              split <;> omega
        omega
      · show (r ++ [1]).getD (cnt c [] + 1 - 1) 0 = r.getD (cnt c [] + 1 - 1) 0
        have e0 : cnt c [] + 1 - 1 = 0 := rfl
        rw [e0, List.getD_eq_getElem?_getD, List.getD_eq_getElem?_getD, List.getElem?_append_left (by omega)]
    · exact .inr hc
  · obtain ⟨c, hc, hk⟩ := hk
    have h2 := h c
    have hk2 : k ≤ cnt c one := by
      have e0 : cnt c [] = 0 := rfl
      omega
    show (r ++ [1]).getD (k - 1) 0 = r.getD (k - 1) 0
    have hpos : 1 ≤ r.length := by
      have hpos : 1 ≤ cnt c one := by
        clear h h2 hk2 hk
        induction one with
        | nil => simp at hc
        | cons x q ih =>
          rw [cnt_one]
          rcases List.mem_cons.mp hc with z | z
          · rw [if_pos z.symm]; omega
          · have := ih z
            split <;> omega
      omega
    rw [List.getD_eq_getElem?_getD, List.getD_eq_getElem?_getD, List.getElem?_append_left (by omega)]
theorem cut_tx (l : List Nat) (k : Nat) : cutS (tx l) none (some (k : Int)) = tx (l.take k) := by
  unfold cutS
  rw [HT.sIx_nat, HT.sIx_none, List.drop_zero, Nat.sub_zero, tx_len, tx_cps]
  show tx (l.take (min k l.length)) = _
  rw [Nat.min_def]
  split
  · rfl
  · rw [List.take_of_length_le (Nat.le_refl _), List.take_of_length_le (by omega)]
theorem abc_eq : ("abc" : Str) = tx [97, 98, 99] := by decide +kernel
theorem words_len {many : Nat} (h : many ≤ 3) : ∀ k, (wordsM many k).length ≤ 3 ^ k
  | 0 => Nat.le_refl _
  | k + 1 => by
    have ih := words_len h k
    have hl : (letM many).length ≤ 3 := by
      unfold letM
      rw [List.length_take]
      omega
    have e : ∀ l : List (List Nat), (l.flatMap fun w => (letM many).map fun c => w ++ [c]).length ≤ l.length * 3 := fun l => by
      induction l with
      | nil => exact Nat.le_refl _
      | cons x r ih => rw [List.flatMap_cons, List.length_append, List.length_map, List.length_cons]; omega
    have := e (wordsM many k)
    rw [Nat.pow_succ]
    show ((wordsM many k).flatMap fun w => (letM many).map fun c => w ++ [c]).length ≤ _
    omega
theorem mem_words {many : Nat} : ∀ (k : Nat) (w : List Nat), w ∈ wordsM many k ↔ w.length = k ∧ ∀ c ∈ w, c ∈ letM many
  | 0, w => by
    show w ∈ [[]] ↔ _
    rw [List.mem_singleton]
    constructor
    · rintro rfl
      exact ⟨rfl, fun _ h => nomatch h⟩
    · rintro ⟨h, _⟩
      exact List.length_eq_zero_iff.mp h
  | k + 1, w => by
    show w ∈ (wordsM many k).flatMap (fun w => (letM many).map fun c => w ++ [c]) ↔ _
    rw [List.mem_flatMap]
    constructor
    · rintro ⟨u, hu, hw⟩
      obtain ⟨c, hc, rfl⟩ := List.mem_map.mp hw
      obtain ⟨h1, h2⟩ := (mem_words k u).mp hu
      refine ⟨by simp [h1], fun d hd => ?_⟩
      rcases List.mem_append.mp hd with z | z
      · exact h2 d z
      · rw [List.mem_singleton.mp z]; exact hc
    · rintro ⟨h1, h2⟩
      have hne : w ≠ [] := fun z => by rw [z] at h1; cases h1
      refine ⟨w.dropLast, (mem_words k _).mpr ⟨by rw [List.length_dropLast, h1]; rfl, fun c hc => h2 c ((List.dropLast_sublist w).subset hc)⟩, List.mem_map.mpr ⟨w.getLast hne, h2 _ (List.getLast_mem hne), List.dropLast_concat_getLast hne⟩⟩
theorem nodup_words {many : Nat} (h : (letM many).Nodup) : ∀ k, (wordsM many k).Nodup
  | 0 => by
    show [[]].Nodup
    simp
  | k + 1 => by
    have ih := nodup_words h k
    show ((wordsM many k).flatMap fun w => (letM many).map fun c => w ++ [c]).Nodup
    refine List.pairwise_flatMap.mpr ⟨fun w _ => ?_, ?_⟩
    · refine List.pairwise_map.mpr (h.imp ?_)
      intro a b hab e
      exact hab (List.cons.inj (List.append_cancel_left e)).1
    · refine ih.imp ?_
      intro a b hab x hx y hy e
      obtain ⟨c, _, rfl⟩ := List.mem_map.mp hx
      obtain ⟨d, _, rfl⟩ := List.mem_map.mp hy
      exact hab (List.append_inj_left' e rfl)
/-- the beginnings of so many letters of all words are all words of so many letters -/
theorem mem_begin {many : Nat} (h : 97 ∈ letM many) {L k : Nat} (hk : k ≤ L) (w : List Nat) : (∃ u ∈ wordsM many L, u.take k = w) ↔ w ∈ wordsM many k := by
  constructor
  · rintro ⟨u, hu, rfl⟩
    obtain ⟨h1, h2⟩ := (mem_words L u).mp hu
    exact (mem_words k _).mpr ⟨by rw [List.length_take]; omega, fun c hc => h2 c (List.mem_of_mem_take hc)⟩
  · intro hw
    obtain ⟨h1, h2⟩ := (mem_words k w).mp hw
    refine ⟨w ++ List.replicate (L - k) 97, (mem_words L _).mpr ⟨by simp; omega, fun c hc => ?_⟩, by rw [List.take_append_of_le_length (by omega), List.take_of_length_le (by omega)]⟩
    rcases List.mem_append.mp hc with z | z
    · exact h2 c z
    · rw [(List.mem_replicate.mp z).2]; exact h
theorem nodup_let : ∀ many, many ≤ 3 → (letM many).Nodup := by
  intro many h
  match many, h with
  | 0, _ => decide
  | 1, _ => decide
  | 2, _ => decide
  | 3, _ => decide
end Say

set_option Elab.async false
set_option linter.all false
set_option maxRecDepth 100000
set_option maxHeartbeats 16000000
namespace Say
open PySem PySem.Spec PyProof.Rows L2
/-- texts of a list of words, as values -/
abbrev tvs (ws : List (List Nat)) : List V := ws.map fun w => V.str (tx w)
theorem tvs_str (ws : List (List Nat)) : tvs ws = (ws.map tx).map V.str := by
  rw [List.map_map]
  rfl
theorem tvs_app (a b : List (List Nat)) : tvs a ++ tvs b = tvs (a ++ b) := (List.map_append).symm
theorem catA_new {K : PySem.W.Frag} {t T : Addr} {r : List Nat} {m : Nat} {H : Hp} {Q : VK} (ht : H t = some (.tup (r.map vn))) (hT : H T = some (.tup [vn m])) (hl : r.length ≤ 1000)
    (hQ : ∀ p H', Same H H' → H' p = some (.tup ((r ++ [m]).map vn)) → Q (.ref p) H') : rCatA K (.ref t) (.ref T) H Q := by
  refine ⟨t, T, r.map vn, [vn m], rfl, rfl, .inl (.inl ht), .inl (.inl hT), small_size (by rw [List.length_map, List.length_singleton]; omega), fun e0 => ?_, fun _ e0 => (by cases e0), fun _ _ p np => ?_⟩
  · have er : r = [] := List.map_eq_nil_iff.mp e0
    refine hQ T H (Same.refl H) ?_
    rw [hT, er]
    rfl
  · refine hQ p _ (same_upd np) ?_
    rw [upd_same, List.map_append]
    rfl
section
variable {P : Program} {w : World} {K : PySem.W.Frag} {mg : Str → Option Value} {base : Heap}
theorem law_tail {f fS fR fY fU : Addr} {fdS fdR fdY fdU : FuncData}
    (kS : PySem.W.keepIn K (.ref fS) = true) (bS : Binds K fdS ["rule", "word"] []) (mS : mg "said" = some (.ref fS)) (GS : FnOk P w K mg base CX0 4 fS fdS ["rule", "word"] spSaid)
    (kR : PySem.W.keepIn K (.ref fR) = true) (bR : Binds K fdR ["_law_told", "_law_word_here"] []) (mR : mg "_law_row_said" = some (.ref fR)) (GR : FnOk P w K mg base CX0 1 fR fdR ["_law_told", "_law_word_here"] spRowSaid)
    (kY : PySem.W.keepIn K (.ref fY) = true) (bY : Binds K fdY ["one", "other"] []) (mY : mg "is_saying" = some (.ref fY)) (GY : FnOk P w K mg base CX0 5 fY fdY ["one", "other"] spGrows)
    (kU : PySem.W.keepIn K (.ref fU) = true) (bU : Binds K fdU ["word"] []) (mU : mg "count_unsayings" = some (.ref fU)) (GU : FnOk P w K mg base CX0 4 fU fdU ["word"] spCountU)
    (G : Glb mg) (cdv : Value) (A : Around) (outer : List Env) (s : Shared) (H : Hp) (E : XK) (hr : Room 5 (A.deeper (envOfC "law" (defScope sLaw) s.heap.objs.size f cdv))) :
    ∃ t, PSs (cxOf CX0 P w K mg base lawN "law" (defScope sLaw) f cdv A outer s H E).nox ((defBody sLaw).drop 10) t ∧
      ∀ (D : Ends) (H9 : Hp) (many : Nat) (one o : List Nat) (o5 : Addr) (ts : List Addr) (k : Nat) (y0 y1 y4 y6 y8 y9 : Option V), 1 ≤ many → many ≤ 3 → one.length ≤ 4 → Let4 one → o.length ≤ 12 → (∀ c ∈ o, c ∈ letM many) → k ≤ 4 → (∀ c, cnt c one ≤ k) →
        H9 o5 = some (.lst (ts.map V.ref)) → RowsAt H9 ts (rowsM k) → (o.length ≤ 6 → heldM many o (o.length + 1) = prodN (gapsM o)) → (∀ H', D.rt (.bl true) H') →
        t D [y0, y1, some (vn many), some (.str (tx one)), y4, some (.ref o5), y6, some (.str (tx o)), y8, y9, none, none, none, none, none, none, none, none, none] H9 := by
  have r1 : Room 1 _ := hr.mono (by decide)
  have r4 : Room 4 _ := hr.mono (by decide)
  refine ⟨_, pss_cons (ps_if (pt_cmpR (op_neD hr.units) (pe_lc (own := [("_law_told", 18)]) (g := gName 18)
        (tt := tTest (tOp rNe (tCall spSaid [] E0 (tCons (tOp (rCatA K) (tVar 18) (tTup (tCons (tC (.int 1)) tNil))) (tCons (tVar 3) tNil))) (tCall spRowSaid [] E0 (tCons (tVar 18) (tCons (tVar 3) tNil))))) (te := tVar 18)
        rfl scLaw.nd (pi_list (pv 5)) (blkOk_by (N := lawN) (sc := defScope sLaw) (by decide +kernel)) (fun _ _ _ _ _ => pg_name (i := 18) scLaw.nd rfl (Or.inl rfl))
        (fun _ _ _ _ _ => pts_one (pt_cmpR op_ne (pe_call GS r4 (by rfl) mS kS bS .nil pass0 (pa_cons (pe_op op_catA (pv 18) (pe_tup (pa_cons pe_int pa_nil))) (pa_cons (pv 3) pa_nil)))
          (pe_call GR r1 (by rfl) mR kR bR .nil pass0 (pa_cons (pv 18) (pa_cons (pv 3) pa_nil))) (nomark _))) (fun _ _ _ _ _ => pv 18)) (pe_lst pa_nil) (nomark _)) (pss_one (ps_ret pe_bl)) pss_nil)
    (pss_cons (ps_set (i := 10) scLaw.nd rfl (.inl rfl) (pe_lst (pa_cons pe_str pa_nil)))
    (pss_cons (ps_for PassesOwn.never rfl (pi_range1 (by rfl) G.range (pa_cons (pe_callB (call_min2 rfl) (by rfl) G.min boot_min (pa_cons (pe_callB call_len_str (by rfl) G.len PySem.boot_len (pa_cons (pv 7) pa_nil)) (pa_cons pe_int pa_nil))) pa_nil)) (pg_name (i := 11) scLaw.nd rfl (Or.inl rfl))
      (pss_cons (ps_set (i := 12) scLaw.nd rfl (.inl rfl) (pe_lst pa_nil))
      (pss_cons (ps_for PassesOwn.never rfl (pi_list (pv 10)) (pg_name (i := 13) scLaw.nd rfl (Or.inr rfl))
        (pss_one (ps_set (i := 12) scLaw.nd rfl (.inl rfl) (pe_op op_cat (pv 12) (pe_lc (own := [("_law_letter", 17)]) (g := gName 17) (tt := tYes) rfl scLaw.nd (pi_str (pe_slice sl_str pe_str po_none (po_some (pv 2))))
          (blkOk_by (N := lawN) (sc := defScope sLaw) (by decide +kernel)) (fun _ _ _ _ _ => pg_name (i := 17) scLaw.nd rfl (Or.inl rfl)) (fun _ _ _ _ _ => pts_nil) (fun _ _ _ _ _ => pe_op op_add_str (pv 13) (pv 17)))))))
      (pss_one (ps_set (i := 10) scLaw.nd rfl (.inl rfl) (pv 12))))))
    (pss_cons (ps_if (pt_cmpR op_gt (pe_callB call_len_str (by rfl) G.len PySem.boot_len (pa_cons (pv 7) pa_nil)) pe_int (nomark _)) (pss_one (ps_ret pe_bl)) pss_nil)
    (pss_cons (ps_set (i := 14) scLaw.nd rfl (.inl rfl) pe_int)
    (pss_cons (ps_for PassesOwn.never rfl (pi_range1 (by rfl) G.range (pa_cons (pe_op op_add (pe_callB call_len_str (by rfl) G.len PySem.boot_len (pa_cons (pv 7) pa_nil)) pe_int) pa_nil)) (pg_name (i := 15) scLaw.nd rfl (Or.inr rfl))
      (pss_cons (ps_set (i := 16) scLaw.nd rfl (.inl rfl) (pe_callB (cr_sortedTx rfl) (by rfl) G.sorted boot_sorted (pa_cons (pe_callTy (cr_setS rfl) (by rfl) G.set PyProof.Rows.boot_set (pa_cons
          (pe_lc (own := [("_law_word_here", 13)]) (g := gName 13) (tt := tYes) rfl scLaw.nd (pi_list (pv 10)) (blkOk_by (N := lawN) (sc := defScope sLaw) (by decide +kernel)) (fun _ _ _ _ _ => pg_name (i := 13) scLaw.nd rfl (Or.inl rfl)) (fun _ _ _ _ _ => pts_nil)
            (fun _ _ _ _ _ => pe_slice sl_str (pv 13) po_none (po_some (pv 15)))) pa_nil)) pa_nil)))
      (pss_one (ps_set (i := 14) scLaw.nd rfl (.inl rfl) (pe_op op_add (pv 14) (pe_callB call_len_seq (by rfl) G.len PySem.boot_len (pa_cons
          (pe_lc (own := [("_law_word_here", 13)]) (g := gName 13) (tt := tTest (tCall spGrows [] E0 (tCons (tVar 13) (tCons (tVar 7) tNil)))) (te := tVar 13) rfl scLaw.nd (pi_list (pv 16)) (blkOk_by (N := lawN) (sc := defScope sLaw) (by decide +kernel))
            (fun _ _ _ _ _ => pg_name (i := 13) scLaw.nd rfl (Or.inl rfl)) (fun _ _ _ _ _ => pts_one (pt_val (pe_call GY hr (by rfl) mY kY bY .nil pass0 (pa_cons (pv 13) (pa_cons (pv 7) pa_nil))))) (fun _ _ _ _ _ => pv 13)) pa_nil)))))))
    (pss_one (ps_ret (pe_cmpR op_eq (pe_call GU r4 (by rfl) mU kU bU .nil pass0 (pa_cons (pv 7) pa_nil)) (pv 14) (nomark _))))))))), ?_⟩
  rintro D H9 many one o o5 ts k y0 y1 y4 y6 y8 y9 m1 m3 l1 let1 lo leto k4 hcn ho5 hts hP4 hq
  have hlen := hts.len
  have leto4 := let_let4 leto
  -- if [..] != []: return False
  refine ⟨_, rfl, o5, rfl, ⟨_, .inl (.inl ho5)⟩, fun D1 nD1 => lc_it (walk_list (K := K) (a := o5) (xs := ts.map V.ref)) (fun i H' => Same H9 H' ∧ H' D1 = some (.lst [])) ⟨same_upd nD1, upd_same⟩ (fun _ _ _ h => .inl (.inl (h.1 _ _ ho5))) ?_ ?_⟩
  · rintro i x H1 H2 hi ⟨s1, hD⟩ ⟨rfl, hx⟩
    rw [List.getElem?_map] at hx
    obtain ⟨t, hti, rfl⟩ := Option.map_eq_some_iff.mp hx
    obtain ⟨r, hri, hT⟩ := hts.get hti
    obtain ⟨rl, r3⟩ := rows_row k r (List.mem_of_getElem? hri)
    have hT1 := s1 _ _ hT
    refine ⟨rfl, ?_⟩
    refine ⟨_, rfl, one_fit, fun T nT => ?_⟩
    have sT := same_upd (o := .tup [vn 1]) nT
    refine catA_new (m := 1) (sT _ _ hT1) upd_same (by omega) fun p H3 s3 hp => ?_
    refine ⟨_, rfl, p, r ++ [1], one, rfl, hp, by simp, by simp; omega, fun c => by have := hcn c; simp; omega, by omega, let1, fun n hn => ?_, fun H4 s4 => ?_⟩
    · rcases List.mem_append.mp hn with z | z
      · have := r3 n z; omega
      · rw [List.mem_singleton.mp z]; decide
    have hT4 := s4 _ _ (s3 _ _ (sT _ _ hT1))
    refine ⟨_, rfl, _, rfl, t, r, one, rfl, hT4, fun c => by have := hcn c; omega, by omega, fun n hn => by have := r3 n hn; omega, fun H5 s5 => ?_⟩
    refine ⟨rfl, _, rfl, ?_⟩
    rw [said_img (fun c => by have := hcn c; omega), decide_eq_true rfl]
    exact iteF ⟨s1.trans (sT.trans (s3.trans (s4.trans s5))), s5 _ _ (s4 _ _ (s3 _ _ (sT _ _ hD)))⟩
  rintro H1 ⟨s1, hD1⟩
  refine ⟨Nat.zero_le _, fun e1 ne1 => ?_⟩
  refine ⟨.list [], .list [], .lst (.inl (.inl (same_upd ne1 _ _ hD1))) .nil, .lst (.inl (.inl upd_same)) .nil, (by decide +kernel), (by decide +kernel), _, rfl, ?_⟩
  refine iteF ?_
  generalize upd H1 e1 (.lst []) = H2
  -- words = ['']
  refine ⟨one_fit, fun ow now => ?_⟩
  have how : (upd H2 ow (.lst [V.str ""])) ow = some (.lst (tvs (wordsM many 0))) := upd_same
  show Ends.nx _ _ (upd H2 ow (.lst [V.str ""]))
  generalize upd H2 ow (.lst [V.str ""]) = H3 at how ⊢
  -- the loop that makes words
  refine ⟨_, rfl, tx o, rfl, by rw [tx_len]; exact small_size (by omega), _, 6, rfl, ?_⟩
  rw [tx_len]
  have emin : (if (6 : Int) < (o.length : Int) then (6 : Int) else (o.length : Int)) = ((min o.length 6 : Nat) : Int) := by
    split <;> omega
  rw [emin]
  refine ⟨((min o.length 6 : Nat) : Int), rfl, by omega, by omega, ?_⟩
  rw [Int.toNat_natCast]
  refine for_it walk_range (fun i σ H' => ∃ (ow : Addr) (y11 y12 y13 : Option V), σ = [y0, y1, some (vn many), some (.str (tx one)), y4, some (.ref o5), y6, some (.str (tx o)), y8, y9, some (.ref ow), y11, y12, y13, none, none, none, none, none] ∧ H' ow = some (.lst (tvs (wordsM many i))))
    ⟨ow, none, none, none, rfl, how⟩ (fun _ _ _ _ _ => trivial) ?_ ?_
  · rintro i x σ H4 H5 hi ⟨ow, y11, y12, y13, rfl, how⟩ ⟨rfl, rfl⟩
    have wl : (wordsM many i).length ≤ 729 := by
      have := words_len m3 i
      have h6 : 3 ^ i ≤ 3 ^ 6 := Nat.pow_le_pow_right (by decide) (by omega)
      omega
    refine ⟨Nat.zero_le _, fun l0 nl0 => ?_⟩
    have how2 := same_upd (o := .lst []) nl0 _ _ how
    refine ⟨_, rfl, ow, rfl, ⟨_, .inl (.inl how2)⟩, for_it (walk_list (K := K) (a := ow) (xs := tvs (wordsM many i)))
      (fun j σ H' => ∃ (ol : Addr) (y13 : Option V), σ = [y0, y1, some (vn many), some (.str (tx one)), y4, some (.ref o5), y6, some (.str (tx o)), y8, y9, some (.ref ow), some (.int (0 + (i : Nat))), some (.ref ol), y13, none, none, none, none, none] ∧
        H' ow = some (.lst (tvs (wordsM many i))) ∧ H' ol = some (.lst (tvs (((wordsM many i).take j).flatMap fun w => (letM many).map fun c => w ++ [c]))))
      ⟨l0, y13, rfl, how2, upd_same⟩ (fun _ _ _ _ ⟨_, _, _, h, _⟩ => .inl (.inl h)) ?_ ?_⟩
    · rintro j x σ H6 H7 hj ⟨ol, y13, rfl, how3, hol⟩ ⟨rfl, hx⟩
      rw [List.getElem?_map] at hx
      obtain ⟨w0, hw, rfl⟩ := Option.map_eq_some_iff.mp hx
      have w0l : w0.length ≤ 6 := by
        have := ((mem_words i w0).mp (List.mem_of_getElem? hw)).1
        omega
      refine ⟨_, rfl, _, rfl, (many : Int), rfl, tx [97, 98, 99], congrArg V.str abc_eq, by rw [tx_len]; exact small_size (by decide), ?_⟩
      rw [cut_tx]
      refine ⟨tx (letM many), rfl, fun D2 nD2 => ?_⟩
      have lml : (letM many).length ≤ 3 := by
        unfold letM
        rw [List.length_take]
        exact Nat.min_le_right _ _
      refine lc_it walk_str (fun m H' => H' ow = some (.lst (tvs (wordsM many i))) ∧ H' ol = some (.lst (tvs (((wordsM many i).take j).flatMap fun w => (letM many).map fun c => w ++ [c]))) ∧ H' D2 = some (.lst (tvs (((letM many).take m).map fun c => w0 ++ [c]))))
        ⟨same_upd nD2 _ _ how3, same_upd nD2 _ _ hol, upd_same⟩ (fun _ _ _ _ => trivial) ?_ ?_
      · rintro m x H8 H9b hm ⟨h1, h2, hD2⟩ ⟨rfl, c, hc, rfl⟩
        rw [tx_get] at hc
        rw [tx_sz] at hm
        have nwD : ow ≠ D2 := ne_of_none how3 nD2
        have nlD : ol ≠ D2 := ne_of_none hol nD2
        refine ⟨rfl, yes_in ?_⟩
        refine ⟨_, rfl, _, rfl, tx w0, tx [c], rfl, rfl, by rw [tx_len, tx_len]; exact small_size (by simp; omega), _, hD2, small_lt (by rw [List.length_map, List.length_map, List.length_take]; omega), by rw [upd_ne nwD]; exact h1, by rw [upd_ne nlD]; exact h2, ?_⟩
        rw [upd_same, List.take_add_one, hc, List.map_append, tx_append]
        show some (HO.lst _) = some (HO.lst (List.map _ (_ ++ [w0 ++ [c]])))
        rw [List.map_append]
        rfl
      · rintro H8 ⟨h1, h2, hD2⟩
        rw [tx_sz, List.take_length] at hD2
        have fl : (((wordsM many i).take j).flatMap fun w => (letM many).map fun c => w ++ [c]).length ≤ (wordsM many i).length * 3 := take_len _ (fun w => by rw [List.length_map]; exact lml) j
        refine ⟨ol, D2, _, _, rfl, rfl, h2, hD2, small_size (by rw [List.length_map, List.length_map, List.length_map]; omega), fun C nC => ?_⟩
        refine ⟨C, _, rfl, same_upd nC _ _ h1, ?_⟩
        rw [upd_same, flat_step hw, tvs_app]
    · rintro σ H6 ⟨ol, y13, rfl, how3, hol⟩
      rw [List.length_map, List.take_length] at hol
      exact ⟨_, rfl, ol, _, _, _, rfl, hol⟩
  rintro σ H4 ⟨ow, y11, y12, y13, rfl, how⟩
  -- if len(other) > 6: return True
  refine ⟨_, rfl, tx o, rfl, by rw [tx_len]; exact small_size (by omega), _, 6, rfl, rfl, _, rfl, ?_⟩
  rw [tx_len]
  refine ite2 (fun _ => hq _) (fun h6 => ?_)
  have ol6 : o.length ≤ 6 := by
    have := of_decide_eq_false (Bool.eq_false_iff.mpr h6)
    omega
  rw [Nat.min_eq_left ol6] at how
  have a97 := let_a m1
  have wl : (wordsM many o.length).length ≤ 729 := by
    have := words_len m3 o.length
    have h6 : 3 ^ o.length ≤ 3 ^ 6 := Nat.pow_le_pow_right (by decide) ol6
    omega
  -- the loop that counts
  refine ⟨_, rfl, tx o, rfl, by rw [tx_len]; exact small_size (by omega), _, 1, rfl, rfl, (o.length : Int) + 1, by rw [tx_len], by omega, by omega, ?_⟩
  rw [show ((o.length : Int) + 1).toNat = o.length + 1 by omega]
  refine for_it walk_range (fun i σ H' => ∃ (y11 y12 y13 y15 y16 : Option V), σ = [y0, y1, some (vn many), some (.str (tx one)), y4, some (.ref o5), y6, some (.str (tx o)), y8, y9, some (.ref ow), y11, y12, y13, some (vn (heldM many o i)), y15, y16, none, none] ∧ H' ow = some (.lst (tvs (wordsM many o.length))))
    ⟨y11, y12, y13, none, none, rfl, how⟩ (fun _ _ _ _ _ => trivial) ?_ ?_
  · rintro i x σ H5 H6 hi ⟨y11, y12, y13, y15, y16, rfl, how⟩ ⟨rfl, rfl⟩
    refine ⟨_, rfl, ow, rfl, ⟨_, .inl (.inl how)⟩, fun D2 nD2 => ?_⟩
    have nwD : ow ≠ D2 := ne_of_none how nD2
    refine lc_it (walk_list (K := K) (a := ow) (xs := tvs (wordsM many o.length))) (fun m H' => H' ow = some (.lst (tvs (wordsM many o.length))) ∧ H' D2 = some (.lst (tvs (((wordsM many o.length).take m).map fun w => w.take i))))
      ⟨same_upd nD2 _ _ how, upd_same⟩ (fun _ _ _ h => .inl (.inl h.1)) ?_ ?_
    · rintro m x H7 H8 hm ⟨h1, hD2⟩ ⟨rfl, hx⟩
      rw [List.getElem?_map] at hx
      obtain ⟨w0, hw, rfl⟩ := Option.map_eq_some_iff.mp hx
      have w0l : w0.length ≤ 6 := by
        have := ((mem_words _ w0).mp (List.mem_of_getElem? hw)).1
        omega
      refine ⟨rfl, yes_in ?_⟩
      refine ⟨_, rfl, _, rfl, _, rfl, tx w0, rfl, by rw [tx_len]; exact small_size (by omega), ?_⟩
      have ei : (0 : Int) + (i : Nat) = ((i : Nat) : Int) := by omega
      rw [ei, cut_tx]
      refine ⟨_, hD2, small_lt (by rw [List.length_map, List.length_map, List.length_take]; omega), by rw [upd_ne nwD]; exact h1, ?_⟩
      rw [upd_same, List.take_add_one, hw, List.map_append]
      show some (HO.lst _) = some (HO.lst (List.map _ (_ ++ [w0.take i])))
      rw [List.map_append]
      rfl
    rintro H7 ⟨h1, hD2⟩
    rw [List.length_map, List.take_length] at hD2
    refine ⟨D2, ((wordsM many o.length).map fun w => w.take i).map tx, rfl, .inl (.inl (by rw [← tvs_str]; exact hD2)), by rw [List.length_map, List.length_map]; omega, fun p ks knd kmem klen np => ?_⟩
    refine ⟨p, ks, rfl, upd_same, fun ys p2 perm np2 => ?_⟩
    have hws : ∀ y, y ∈ ys ↔ ∃ w, w ∈ wordsM many i ∧ tx w = y := fun y => by
      rw [perm.mem_iff, kmem, List.mem_map]
      constructor
      · rintro ⟨w, hw, rfl⟩
        obtain ⟨u, hu, rfl⟩ := List.mem_map.mp hw
        exact ⟨_, (mem_begin a97 (show i ≤ o.length by omega) _).mp ⟨u, hu, rfl⟩, rfl⟩
      · rintro ⟨w, hw, rfl⟩
        obtain ⟨u, hu, e⟩ := (mem_begin a97 (show i ≤ o.length by omega) w).mpr hw
        exact ⟨w, List.mem_map.mpr ⟨u, hu, e⟩, rfl⟩
    have eys : ys = (ys.map fun y => y.cps.toList).map tx := by
      rw [List.map_map]
      exact (List.map_id' _ |>.symm) |> fun z => z
    generalize ys.map (fun y => y.cps.toList) = zs at eys
    subst eys
    have pz : zs.Perm (wordsM many i) := by
      refine (List.perm_ext_iff_of_nodup ?_ (nodup_words (nodup_let many m3) i)).mpr fun w => ?_
      · exact List.Pairwise.of_map tx (fun a b h e => h (congrArg tx e)) (perm.nodup_iff.mpr knd)
      · constructor
        · intro hw
          obtain ⟨v, hv, e⟩ := (hws (tx w)).mp (List.mem_map.mpr ⟨w, hw, rfl⟩)
          rw [← tx_inj e]
          exact hv
        · intro hw
          obtain ⟨v, hv, e⟩ := List.mem_map.mp ((hws (tx w)).mpr ⟨w, hw, rfl⟩)
          rw [← tx_inj e]
          exact hv
    have zl : zs.length ≤ 729 := by
      rw [pz.length_eq]
      have := words_len m3 i
      have h6 : 3 ^ i ≤ 3 ^ 6 := Nat.pow_le_pow_right (by decide) (by omega)
      omega
    have hz : (upd (upd H7 p (SetTx w p ks)) p2 (.lst ((zs.map tx).map V.str))) p2 = some (.lst (tvs zs)) := by rw [upd_same, tvs_str]
    have how8 : (upd (upd H7 p (SetTx w p ks)) p2 (.lst ((zs.map tx).map V.str))) ow = some (.lst (tvs (wordsM many o.length))) := same_upd (o := .lst ((zs.map tx).map V.str)) np2 _ _ (same_upd (o := SetTx w p ks) np _ _ h1)
    show Ends.nx _ _ (upd (upd H7 p (SetTx w p ks)) p2 (.lst ((zs.map tx).map V.str)))
    generalize upd (upd H7 p (SetTx w p ks)) p2 (.lst ((zs.map tx).map V.str)) = H8 at hz how8 ⊢
    refine ⟨_, rfl, _, rfl, p2, rfl, ⟨_, .inl (.inl hz)⟩, fun D3 nD3 => ?_⟩
    have n2D : p2 ≠ D3 := ne_of_none hz nD3
    have nwD3 : ow ≠ D3 := ne_of_none how8 nD3
    refine lc_it (walk_list (K := K) (a := p2) (xs := tvs zs)) (fun m H' => H' ow = some (.lst (tvs (wordsM many o.length))) ∧ H' p2 = some (.lst (tvs zs)) ∧ H' D3 = some (.lst (tvs ((zs.take m).filter fun w => sayingM w o))))
      ⟨same_upd nD3 _ _ how8, same_upd nD3 _ _ hz, upd_same⟩ (fun _ _ _ h => .inl (.inl h.2.1)) ?_ ?_
    · rintro m x H10 H11 hm ⟨h1, h2, hD3⟩ ⟨rfl, hx⟩
      rw [List.getElem?_map] at hx
      obtain ⟨w0, hw, rfl⟩ := Option.map_eq_some_iff.mp hx
      obtain ⟨w1, w2⟩ := (mem_words i w0).mp (pz.mem_iff.mp (List.mem_of_getElem? hw))
      refine ⟨rfl, ?_⟩
      refine ⟨_, rfl, _, rfl, w0, o, rfl, by omega, let_let4 w2, by omega, leto4, fun H12 s12 => ⟨_, rfl, ?_⟩⟩
      have et : (zs.take (m + 1)).filter (fun w => sayingM w o) = (zs.take m).filter (fun w => sayingM w o) ++ (if sayingM w0 o = true then [w0] else []) := by
        rw [List.take_add_one, hw, List.filter_append]
        congr 1
        show List.filter _ [w0] = _
        rw [List.filter_cons]
        rfl
      rw [et]
      refine ite2 (fun hb => ?_) (fun hb => ?_)
      · refine ⟨_, rfl, _, s12 _ _ hD3, small_lt ?_, by rw [upd_ne nwD3]; exact s12 _ _ h1, by rw [upd_ne n2D]; exact s12 _ _ h2, ?_⟩
        · rw [List.length_map]
          have := List.length_filter_le (fun w => sayingM w o) (zs.take m)
          rw [List.length_take] at this
          omega
        · rw [upd_same, if_pos hb, ← tvs_app]
          rfl
      · rw [if_neg hb, List.append_nil]
        exact ⟨s12 _ _ h1, s12 _ _ h2, s12 _ _ hD3⟩
    · rintro H10 ⟨h1, h2, hD3⟩
      rw [List.length_map, List.take_length] at hD3
      refine ⟨D3, _, rfl, .inl (.inl (.inl hD3)), _, _, rfl, rfl, y11, y12, y13, some (.int (0 + (i : Nat))), some (.ref p2), ?_, h1⟩
      have e : heldM many o (i + 1) = heldM many o i + (zs.filter fun w => sayingM w o).length := by
        show heldM many o i + _ = _
        rw [(pz.filter _).length_eq]
      rw [e, List.length_map]
      rfl
  rintro σ H5 ⟨y11, y12, y13, y15, y16, rfl, how⟩
  -- return count_unsayings(other) == held
  refine ⟨_, rfl, o, rfl, by omega, leto4, fun H6 s6 => ⟨_, rfl, rfl, ?_⟩⟩
  rw [decide_eq_true (by rw [hP4 ol6])]
  exact hq _
end
end Say

set_option Elab.async false
set_option linter.all false
set_option maxRecDepth 100000
set_option maxHeartbeats 16000000
namespace Say
open PySem PySem.Spec PyProof.Rows L2
theorem say_mem {f : Nat → Nat} : ∀ {l p : List Nat} {c : Nat}, c ∈ sayR f p l → c ∈ l
  | [], _, c, h => by simp [sayR] at h
  | x :: r, p, c, h => by
    rcases List.mem_append.mp h with z | z
    · rw [(List.mem_replicate.mp z).2]; exact List.mem_cons_self
    · exact List.mem_cons_of_mem _ (say_mem z)
theorem say_len {f : Nat → Nat} {b : Nat} (hf : ∀ k, f k ≤ b) : ∀ (l p : List Nat), (sayR f p l).length ≤ l.length * b
  | [], _ => by simp [sayR]
  | x :: r, p => by
    show (List.replicate (f (cnt x p + 1)) x ++ sayR f (x :: p) r).length ≤ _
    have := hf (cnt x p + 1)
    have := say_len hf r (x :: p)
    rw [List.length_append, List.length_replicate, List.length_cons, Nat.succ_mul]
    omega
theorem cnt_none {c : Nat} : ∀ {l : List Nat}, c ∉ l → cnt c l = 0
  | [], _ => rfl
  | x :: r, h => by
    rw [cnt_one, if_neg (fun z : x = c => h (by rw [z]; exact List.mem_cons_self))]
    exact cnt_none fun z => h (List.mem_cons_of_mem _ z)
theorem max_ge {l : List Nat} (h : Let4 l) (c : Nat) : cnt c l ≤ maxCnt l := by
  by_cases hc : c ∈ l
  · unfold maxCnt
    rcases h c hc with z | z | z | z <;> subst z <;> omega
  · rw [cnt_none hc]
    exact Nat.zero_le _
theorem max_le (l : List Nat) : maxCnt l ≤ l.length := by
  have h1 := cnt_le 97 l
  have h2 := cnt_le 98 l
  have h3 := cnt_le 99 l
  have h4 := cnt_le 100 l
  unfold maxCnt
  omega
abbrev cnts (l : List Nat) : List Int := [97, 98, 99, 100].map fun c => ((cnt c l : Nat) : Int)
theorem cnts_v (l : List Nat) : ([97, 98, 99, 100].map fun c => vn (cnt c l)) = (cnts l).map V.int := rfl
theorem max_is {l : List Nat} {m : Int} (h1 : m ∈ cnts l) (h2 : ∀ y, y ∈ cnts l → y ≤ m) : m = ((maxCnt l : Nat) : Int) := by
  have a1 := h2 _ (show ((cnt 97 l : Nat) : Int) ∈ cnts l by simp [cnts])
  have a2 := h2 _ (show ((cnt 98 l : Nat) : Int) ∈ cnts l by simp [cnts])
  have a3 := h2 _ (show ((cnt 99 l : Nat) : Int) ∈ cnts l by simp [cnts])
  have a4 := h2 _ (show ((cnt 100 l : Nat) : Int) ∈ cnts l by simp [cnts])
  have h3 : m = ((cnt 97 l : Nat) : Int) ∨ m = ((cnt 98 l : Nat) : Int) ∨ m = ((cnt 99 l : Nat) : Int) ∨ m = ((cnt 100 l : Nat) : Int) := by simpa [cnts] using h1
  unfold maxCnt
  omega
theorem rep_flat (k : Nat) (x : V) : (List.replicate k [x]).flatten = List.replicate k x := by
  induction k with
  | zero => rfl
  | succ n ih => rw [List.replicate_succ, List.flatten_cons, ih, List.replicate_succ]; rfl
theorem RowsAt.but {r : Addr} {H H' : Hp} {xs : List V} (hr : H r = some (.lst xs)) (b : But r H H') : ∀ {ts : List Addr} {rs : List (List Nat)}, RowsAt H ts rs → RowsAt H' ts rs
  | [], [], _ => trivial
  | t :: ts, q :: rs, h => ⟨b _ _ (fun z => by
      have e := h.1
      rw [z, hr] at e
      cases e) h.1, RowsAt.but hr b h.2⟩
  | [], _ :: _, h => h.elim
  | _ :: _, [], h => h.elim
theorem inV_imgs (o : List Nat) (ws : List (List Nat)) : inV (.str (tx o)) (tvs ws) = decide (o ∈ ws) := by
  unfold inV
  rw [Bool.eq_iff_iff, List.any_eq_true, decide_eq_true_eq]
  constructor
  · rintro ⟨y, hy, e⟩
    obtain ⟨w, hw, rfl⟩ := List.mem_map.mp hy
    have e2 : (tx w == tx o) = true := e
    rw [← tx_inj (beq_iff_eq.mp e2)]
    exact hw
  · intro h
    exact ⟨_, List.mem_map.mpr ⟨o, h, rfl⟩, beq_self_eq_true (tx o)⟩
theorem flat_tvs (ws : List (List Nat)) : (tvs ws).all flatV = true := by
  rw [List.all_eq_true]
  intro x hx
  obtain ⟨n, _, rfl⟩ := List.mem_map.mp hx
  rfl
/-- two ways that end alike -/
theorem draw2 {ta tb : TE} {σ : L2.St} {H : Hp} {Q : VK} {k : Bool} (C : List Nat → Hp → Prop) (hQ : ∀ o H', C o H' → Q (.str (tx o)) H') (ha : ∀ Q' : VK, (∀ o H', C o H' → Q' (.str (tx o)) H') → ta σ H Q')
    (hb : ∀ Q' : VK, (∀ o H', C o H' → Q' (.str (tx o)) H') → tb σ H Q') : if k = true then ta σ H Q else tb σ H Q := by
  cases k
  · exact iteF (hb Q hQ)
  · exact iteT (ha Q hQ)
theorem nx_in {t : L2.St → Hp → Prop} {rt : VK} {bk ct : L2.St → Hp → Prop} {σ : L2.St} {H : Hp} (h : t σ H) : Ends.nx ⟨t, rt, bk, ct⟩ σ H := h
theorem split_seq {st rest : TS} {D : Ends} {σ : L2.St} {H : Hp} (C : L2.St → Hp → Prop) (h1 : ∀ D' : Ends, (∀ σ' H', C σ' H' → D'.nx σ' H') → st D' σ H) (h2 : ∀ σ' H', C σ' H' → rest D σ' H') : tSeq st rest D σ H := h1 { D with nx := rest D } h2
/-- what the plain part owes -/
structure Plain : Prop where
  p1 : ∀ one r, one.length ≤ 4 → (∀ c ∈ one, c ∈ letM 3) → r ∈ rowsM (maxCnt one) → sayingM one (imgM r one) = true
  p2 : ∀ one o, one.length ≤ 4 → (∀ c ∈ one, c ∈ letM 3) → o.length ≤ 7 → (∀ c ∈ o, c ∈ letM 3) → sayingM one o = true → (∃ r ∈ rowsM (maxCnt one), imgM r one = o) ∨ 3 < maxCnt o
  p4 : ∀ many o, 1 ≤ many → many ≤ 3 → o.length ≤ 6 → (∀ c ∈ o, c ∈ letM many) → heldM many o (o.length + 1) = prodN (gapsM o)
theorem let_up {many c : Nat} (h : c ∈ letM many) : c ∈ letM 3 := List.mem_of_mem_take h
section
variable {P : Program} {w : World} {K : PySem.W.Frag} {mg : Str → Option Value} {base : Heap}
def spLaw (K : PySem.W.Frag) : Sp := fun vs H Q _ => ∃ (a : Addr) (ns : List Int), vs = [.ref a] ∧ SqL K H a (ns.map V.int) ∧ ns.length ≤ 63 ∧ ∀ H', Q (.bl true) H'
theorem ok_law {f fT fP fW fL fS fR fY fU : Addr} {fd fdT fdP fdW fdL fdS fdR fdY fdU : FuncData} (F : Fun K "law" "law" sLaw f fd) (PL : Plain)
    (kT : PySem.W.keepIn K (.ref fT) = true) (bT : Binds K fdT ["_law_row", "_law_many"] []) (mT : mg "_law_taken" = some (.ref fT)) (GT : FnOk P w K mg base CX0 1 fT fdT ["_law_row", "_law_many"] (spTaken K))
    (kP : PySem.W.keepIn K (.ref fP) = true) (bP : Binds K fdP ["_law_row", "_law_things"] []) (mP : mg "_law_pick" = some (.ref fP)) (GP : FnOk P w K mg base CX0 2 fP fdP ["_law_row", "_law_things"] (spPick K))
    (kW : PySem.W.keepIn K (.ref fW) = true) (bW : Binds K fdW ["_law_row", "_law_most", "_law_many"] []) (mW : mg "_law_word" = some (.ref fW)) (GW : FnOk P w K mg base CX0 2 fW fdW ["_law_row", "_law_most", "_law_many"] (spWord K))
    (kL : PySem.W.keepIn K (.ref fL) = true) (bL : Binds K fdL ["_law_most"] []) (mL : mg "_law_rows" = some (.ref fL)) (GL : FnOk P w K mg base CX0 1 fL fdL ["_law_most"] spRows)
    (kS : PySem.W.keepIn K (.ref fS) = true) (bS : Binds K fdS ["rule", "word"] []) (mS : mg "said" = some (.ref fS)) (GS : FnOk P w K mg base CX0 4 fS fdS ["rule", "word"] spSaid)
    (kR : PySem.W.keepIn K (.ref fR) = true) (bR : Binds K fdR ["_law_told", "_law_word_here"] []) (mR : mg "_law_row_said" = some (.ref fR)) (GR : FnOk P w K mg base CX0 1 fR fdR ["_law_told", "_law_word_here"] spRowSaid)
    (kY : PySem.W.keepIn K (.ref fY) = true) (bY : Binds K fdY ["one", "other"] []) (mY : mg "is_saying" = some (.ref fY)) (GY : FnOk P w K mg base CX0 5 fY fdY ["one", "other"] spGrows)
    (kU : PySem.W.keepIn K (.ref fU) = true) (bU : Binds K fdU ["word"] []) (mU : mg "count_unsayings" = some (.ref fU)) (GU : FnOk P w K mg base CX0 4 fU fdU ["word"] spCountU)
    (G : Glb mg) : FnOk P w K mg base CX0 6 f fd ["_law_script"] (spLaw K) := by
  refine F.ok scLaw (fun vs H Q E h => ?_) (fun cdv A outer s H vs Q E hr h => ?_)
  · obtain ⟨a, ns, rfl, _⟩ := h
    rfl
  · obtain ⟨a, ns, rfl, hS, hlen, q⟩ := h
    have r1 : Room 1 _ := hr.mono (by decide)
    have r2 : Room 2 _ := hr.mono (by decide)
    obtain ⟨tl, hp, htl⟩ := law_tail (f := f) (base := base) kS bS mS GS kR bR mR GR kY bY mY GY kU bU mU GU G cdv A outer s H E hr
    refine ⟨_, pss_cons (ps_set (i := 1) scLaw.nd rfl (.inl rfl) (pe_lst (pa_cons (pv 0) (pa_cons pe_int (pa_cons pe_int (pa_cons pe_int pa_nil))))))
      (pss_cons (ps_set (i := 2) scLaw.nd rfl (.inl rfl) (pe_op op_add pe_int (pe_call GT r1 (by rfl) mT kT bT .nil pass0 (pa_cons (pv 1) (pa_cons pe_int pa_nil)))))
      (pss_cons (ps_set (i := 3) scLaw.nd rfl (.inr rfl) (pe_call GW r2 (by rfl) mW kW bW .nil pass0 (pa_cons (pv 1) (pa_cons pe_int (pa_cons (pv 2) pa_nil)))))
      (pss_cons (ps_set (i := 4) scLaw.nd rfl (.inl rfl) (pe_callB (cr_max rfl) (by rfl) G.max boot_max (pa_cons (pe_lc (own := [("_law_letter", 17)]) (g := gName 17) (tt := tYes) rfl scLaw.nd (pi_str pe_str)
        (blkOk_by (N := lawN) (sc := defScope sLaw) (by decide +kernel)) (fun _ _ _ _ _ => pg_name (i := 17) scLaw.nd rfl (Or.inl rfl)) (fun _ _ _ _ _ => pts_nil) (fun _ _ _ _ _ => pe_m1 PySem.F.slot_str_count PySem.F.type_str_count mt_count (pv 3) (pv 17))) pa_nil)))
      (pss_cons (ps_set (i := 5) scLaw.nd rfl (.inl rfl) (pe_call GL r1 (by rfl) mL kL bL .nil pass0 (pa_cons (pe_op op_rep (pe_lst (pa_cons pe_int pa_nil)) (pv 4)) pa_nil)))
      (pss_cons (ps_setLc (i := 6) (own := [("_law_told", 18)]) (g := gName 18) (tt := tYes) rfl scLaw.nd rfl rfl (sw_true rfl rfl rfl (by decide +kernel)) (pi_list (pv 5)) (blkOk_by (N := lawN) (sc := defScope sLaw) (by decide +kernel))
        (fun _ _ _ _ _ => pg_name (i := 18) scLaw.nd rfl (Or.inl rfl)) (fun _ _ _ _ _ => pts_nil) (fun _ _ _ _ _ => pe_call GR r1 (by rfl) mR kR bR .nil pass0 (pa_cons (pv 18) (pa_cons (pv 3) pa_nil))))
      (pss_cons (ps_set (i := 7) scLaw.nd rfl (.inr rfl) (pe_ifExp (pt_cmpR op_eq (pe_call GT r1 (by rfl) mT kT bT .nil pass0 (pa_cons (pv 1) (pa_cons pe_int pa_nil))) pe_int (nomark _))
        (pe_call GP r2 (by rfl) mP kP bP .nil pass0 (pa_cons (pv 1) (pa_cons (pv 6) pa_nil))) (pe_call GW r2 (by rfl) mW kW bW .nil pass0 (pa_cons (pv 1) (pa_cons pe_int (pa_cons (pv 2) pa_nil))))))
      (pss_cons (ps_set (i := 8) scLaw.nd rfl (.inl rfl) (pe_call GY hr (by rfl) mY kY bY .nil pass0 (pa_cons (pv 3) (pa_cons (pv 7) pa_nil))))
      (pss_cons (ps_if (PW.pt (pw_and (pt_cmpR op_in_seq (pv 7) (pv 6) (by rfl)) (pw_and1 (pt_not (pt_val (pv 8)))))) (pss_one (ps_ret pe_bl)) pss_nil)
      (pss_cons (ps_if (PW.pt (pw_and (pt_val (pv 8)) (pw_and (pt_cmpR op_le (pe_callB call_len_str (by rfl) G.len PySem.boot_len (pa_cons (pv 7) pa_nil)) pe_int (nomark _)) (pw_and1 (pt_cmpR op_notIn_seq (pv 7) (pv 6) (by rfl))))))
        (pss_cons (ps_setLc (i := 9) (own := [("_law_letter", 17)]) (g := gName 17) (tt := tYes) rfl scLaw.nd rfl rfl (sw_true rfl rfl rfl (by decide +kernel)) (pi_str pe_str) (blkOk_by (N := lawN) (sc := defScope sLaw) (by decide +kernel))
          (fun _ _ _ _ _ => pg_name (i := 17) scLaw.nd rfl (Or.inl rfl)) (fun _ _ _ _ _ => pts_nil) (fun _ _ _ _ _ => pe_m1 PySem.F.slot_str_count PySem.F.type_str_count mt_count (pv 7) (pv 17)))
        (pss_one (ps_if (pt_cmpR op_le (pe_callB (cr_max rfl) (by rfl) G.max boot_max (pa_cons (pv 9) pa_nil)) pe_int (nomark _)) (pss_one (ps_ret pe_bl)) pss_nil))) pss_nil)
      hp))))))))), ?_⟩
    -- the row of the draws
    refine ⟨_, rfl, (by show 4 ≤ sizeLine; decide), fun r nr => ?_⟩
    have R0 : RowOk K ns H (upd H r (.lst [.ref a, .int 0, .int 4606, .int 0])) r a := ⟨same_upd nr, nr, hS, 0, 4606, 0, Int.le_refl _, upd_same⟩
    show Ends.nx _ _ (upd H r (.lst [.ref a, .int 0, .int 4606, .int 0]))
    generalize upd H r (.lst [.ref a, .int 0, .int 4606, .int 0]) = Hr at R0 ⊢
    -- many, one
    refine ⟨_, rfl, H, r, a, ns, 3, rfl, R0, by decide, by decide, fun H1 v _ R1 hv => ⟨1, (v : Int), rfl, rfl, ?_⟩⟩
    have m1 : 1 ≤ 1 + v := by omega
    have m3 : 1 + v ≤ 3 := by omega
    refine ⟨_, rfl, _, rfl, H, r, a, ns, 4, 1 + v, rfl, R1, by decide, m1, m3, fun H2 one _ R2 l1 hone => ?_⟩
    have one4 := let_let4 hone
    have one3 : ∀ c ∈ one, c ∈ letM 3 := fun c hc => let_up (hone c hc)
    have k4 : maxCnt one ≤ 4 := Nat.le_trans (max_le one) l1
    have hcn := max_ge one4
    -- last
    refine ⟨_, rfl, fun D1 nD1 => ?_⟩
    refine lc_it walk_str (fun i H' => Same H2 H' ∧ H' D1 = some (.lst (([97, 98, 99, 100].take i).map fun c => vn (cnt c one)))) ⟨same_upd nD1, upd_same⟩ (fun _ _ _ _ => trivial) ?_ ?_
    · rintro i x H3 H4 hi ⟨s1, hD⟩ ⟨rfl, c, hc, rfl⟩
      have hc2 := abcd_at hc
      refine ⟨rfl, yes_in ?_⟩
      refine ⟨_, rfl, ⟨_, rfl⟩, _, rfl, _, _, rfl, rfl, _, hD, small_lt ?_, fun b o e => ?_, ?_⟩
      · rw [List.length_map, List.length_take]
        show min i 4 ≤ _
        omega
      · rw [upd_ne (ne_of_none e nD1)]
        exact s1 _ _ e
      · rw [upd_same, List.take_add_one, hc2, List.map_append, tx_one, count_tx]
        rfl
    rintro H3 ⟨s3, hD1⟩
    rw [abcd_size] at hD1
    refine ⟨D1, cnts one, rfl, .inl (.inl hD1), (by decide : 0 < 4), fun m hm1 hm2 => ?_⟩
    obtain rfl := max_is hm1 hm2
    have R3 := R2.same s3
    -- rows_here
    refine ⟨one_fit, fun g0 ng0 => ?_⟩
    have s4 := same_upd (o := .lst [.int 3]) ng0
    refine ⟨_, rfl, g0, ((maxCnt one : Nat) : Int), [.int 3], rfl, rfl, upd_same, by omega, by omega, small_size (by rw [Int.toNat_natCast]; show 1 * _ ≤ _; omega), fun g ng => ?_⟩
    have s5 := same_upd (o := .lst (List.replicate ((maxCnt one : Nat) : Int).toNat [V.int 3]).flatten) ng
    have R5 := (R3.same s4).same s5
    have hg : (upd (upd H3 g0 (.lst [.int 3])) g (.lst (List.replicate ((maxCnt one : Nat) : Int).toNat [V.int 3]).flatten)) g = some (.lst (List.replicate (maxCnt one) (.int 3))) := by
      rw [upd_same, Int.toNat_natCast, rep_flat]
    refine ⟨g, maxCnt one, rfl, hg, k4, fun H6 o5 ts s6 no5 ho5 hts => ?_⟩
    have R6 := R5.same s6
    have o5r : o5 ≠ r := by
      obtain ⟨_, _, _, _, _, _, _, hrow5⟩ := R5
      exact (ne_of_none hrow5 no5).symm
    -- images
    have hlen := hts.len
    generalize himg : (rowsM (maxCnt one)).map (fun q => imgM q one) = imgs
    have imgl : imgs.length = (rowsM (maxCnt one)).length := by rw [← himg, List.length_map]
    have l81 : (rowsM (maxCnt one)).length ≤ 81 := by
      rw [rows_len]
      exact Nat.pow_le_pow_right (by decide) k4
    refine ⟨_, rfl, o5, rfl, ⟨_, .inl (.inl ho5)⟩, fun D6 nD6 => ?_⟩
    refine lc_it (walk_list (K := K) (a := o5) (xs := ts.map V.ref)) (fun i H' => Same H6 H' ∧ H' D6 = some (.lst (tvs (imgs.take i)))) ⟨same_upd nD6, upd_same⟩ (fun _ _ _ h => .inl (.inl (h.1 _ _ ho5))) ?_ ?_
    · rintro i x H7 H8 hi ⟨s7, hD⟩ ⟨rfl, hx⟩
      rw [List.getElem?_map] at hx
      obtain ⟨t, hti, rfl⟩ := Option.map_eq_some_iff.mp hx
      obtain ⟨q0, hqi, hT⟩ := hts.get hti
      obtain ⟨ql, q3⟩ := rows_row _ q0 (List.mem_of_getElem? hqi)
      refine ⟨rfl, yes_in ?_⟩
      refine ⟨_, rfl, _, rfl, t, q0, one, rfl, s7 _ _ hT, fun c => by rw [ql]; exact hcn c, by omega, fun n hn => Nat.le_trans (q3 n hn) (by decide), fun H9 s9 => ?_⟩
      refine ⟨_, s9 _ _ hD, small_lt (by rw [List.length_map, List.length_take]; omega), fun b o e => ?_, ?_⟩
      · rw [upd_ne (ne_of_none e nD6)]
        exact s9 _ _ (s7 _ _ e)
      · have hi2 : imgs[i]? = some (imgM q0 one) := by
          rw [← himg, List.getElem?_map, hqi]
          rfl
        rw [upd_same, List.take_add_one, hi2, ← tvs_app]
        rfl
    rintro H7 ⟨s7, hD6⟩
    have etk : imgs.take (ts.map V.ref).length = imgs := List.take_of_length_le (by rw [List.length_map]; omega)
    rw [etk] at hD6
    have R7 := R6.same s7
    have ho7 := s7 _ _ ho5
    have hts7 := hts.same s7
    have D6r : D6 ≠ r := by
      obtain ⟨_, _, _, _, _, _, _, h⟩ := R6
      exact (ne_of_none h nD6).symm
    have hrow7 : ∃ xs, H7 r = some (.lst xs) := by
      obtain ⟨_, _, _, _, _, _, _, h⟩ := R7
      exact ⟨_, h⟩
    obtain ⟨rowxs, hrow7⟩ := hrow7
    have imgp : ∀ o ∈ imgs, o.length ≤ 12 ∧ ∀ c ∈ o, c ∈ letM (1 + v) := fun o ho => by
      rw [← himg] at ho
      obtain ⟨q0, hq, rfl⟩ := List.mem_map.mp ho
      have q3 := (rows_row _ q0 hq).2
      refine ⟨?_, fun c hc => hone c (say_mem hc)⟩
      have := say_len (fun k => nth_le q3 k) one []
      show (sayR (nth q0) [] one).length ≤ 12
      omega
    -- other
    refine ⟨_, rfl, H, r, a, ns, 2, rfl, R7, by decide, by decide, fun H8 v2 b8 R8 _ => ⟨rfl, _, rfl, ?_⟩⟩
    refine draw2 (fun o H' => But r H7 H' ∧ o.length ≤ 12 ∧ (∀ c ∈ o, c ∈ letM (1 + v)) ∧ (o ∈ imgs ∨ o.length ≤ 7)) ?_ ?_ ?_
    rotate_left
    · intro Q' hQ'
      refine ⟨_, rfl, _, rfl, H, r, a, ns, D6, tvs imgs, rfl, R8, D6r, b8 _ _ D6r hD6, ?_, by rw [List.length_map]; omega, fun H9 x b9 _ hx => ?_⟩
      · rw [List.length_map, imgl, rows_len]
        exact Nat.pow_pos (by decide)
      · obtain ⟨o, ho, rfl⟩ := List.mem_map.mp hx
        exact hQ' o H9 ⟨b8.trans b9, (imgp o ho).1, (imgp o ho).2, .inl ho⟩
    · intro Q' hQ'
      exact ⟨_, rfl, _, rfl, H, r, a, ns, 7, 1 + v, rfl, R8, by decide, m1, m3, fun H9 o b9 _ lo ho => hQ' o H9 ⟨b8.trans b9, by omega, ho, .inr lo⟩⟩
    rintro o H9 ⟨b9, lo, leto, hor⟩
    have leto4 := let_let4 leto
    have ho9 := b9 _ _ o5r ho7
    have hD9 := b9 _ _ D6r hD6
    have hts9 := RowsAt.but hrow7 b9 hts7
    -- found
    refine ⟨_, rfl, _, rfl, one, o, rfl, by omega, one4, by omega, leto4, fun H10 s10 => ?_⟩
    have hD10 := s10 _ _ hD9
    have img_says : o ∈ imgs → sayingM one o = true := fun ho => by
      rw [← himg] at ho
      obtain ⟨q0, hq, rfl⟩ := List.mem_map.mp ho
      exact PL.p1 one q0 l1 one3 hq
    have rows_ok : ∀ H', Same H10 H' → H' o5 = some (.lst (ts.map V.ref)) ∧ RowsAt H' ts (rowsM (maxCnt one)) := fun H' s => ⟨s _ _ (s10 _ _ ho9), (hts9.same s10).same s⟩
    -- if other in images and not found: return False
    refine nx_in ?_
    refine split_seq (st := tIfS _ _ _) (fun σ' H' => σ' = [some (.ref a), some (.ref r), some (vn (1 + v)), some (.str (tx one)), some (.int ((maxCnt one : Nat) : Int)), some (.ref o5), some (.ref D6), some (.str (tx o)), some (.bl (sayingM one o)), none, none, none, none, none, none, none, none, none, none] ∧ H' = H10) ?_ ?_
    · intro D' hnx
      refine ⟨_, rfl, _, rfl, D6, tvs imgs, rfl, .inl (.inl (.inl hD10)), rfl, flat_tvs _, decide (o ∈ imgs), congrArg V.bl (inV_imgs o imgs), ?_⟩
      refine ite2 (fun ho => ?_) (fun _ => iteF (hnx _ _ ⟨rfl, rfl⟩))
      exact ⟨_, rfl, true, congrArg V.bl (img_says (of_decide_eq_true ho)), iteF (hnx _ _ ⟨rfl, rfl⟩)⟩
    rintro σ' H' ⟨rfl, rfl⟩
    -- if found and len(other) <= 12 and other not in images: ..
    refine split_seq (st := tIfS _ _ _) (fun σ' H'' => ∃ y9, σ' = [some (.ref a), some (.ref r), some (vn (1 + v)), some (.str (tx one)), some (.int ((maxCnt one : Nat) : Int)), some (.ref o5), some (.ref D6), some (.str (tx o)), some (.bl (sayingM one o)), y9, none, none, none, none, none, none, none, none, none] ∧ Same H' H'') ?_ ?_
    · intro D' hnx
      refine ⟨_, rfl, _, rfl, ite2 (fun hs => ?_) (fun _ => iteF (hnx _ _ ⟨_, rfl, Same.refl _⟩))⟩
      refine ⟨_, rfl, tx o, rfl, by rw [tx_len]; exact small_size (by omega), _, 12, rfl, rfl, _, rfl, ite2 (fun _ => ?_) (fun _ => iteF (hnx _ _ ⟨_, rfl, Same.refl _⟩))⟩
      refine ⟨_, rfl, _, rfl, D6, tvs imgs, rfl, .inl (.inl (.inl hD10)), rfl, flat_tvs _, !decide (o ∈ imgs), congrArg (fun b => V.bl (!b)) (inV_imgs o imgs), ?_⟩
      refine ite2 (fun hno => ?_) (fun _ => hnx _ _ ⟨_, rfl, Same.refl _⟩)
      have hno2 : o ∉ imgs := by simpa using hno
      have lo7 : o.length ≤ 7 := hor.elim (fun z => absurd z hno2) id
      have mx : 3 < maxCnt o := by
        rcases PL.p2 one o l1 one3 lo7 (fun c hc => let_up (leto c hc)) hs with z | z
        · obtain ⟨q0, hq, e⟩ := z
          exact absurd (by rw [← himg]; exact List.mem_map.mpr ⟨q0, hq, e⟩) hno2
        · exact z
      refine ⟨_, rfl, fun D1 nD1 => ?_⟩
      refine lc_it walk_str (fun i H'' => Same H' H'' ∧ H'' D1 = some (.lst (([97, 98, 99, 100].take i).map fun c => vn (cnt c o)))) ⟨same_upd nD1, upd_same⟩ (fun _ _ _ _ => trivial) ?_ ?_
      · rintro i x H3 H4 hi ⟨s1, hD⟩ ⟨rfl, c, hc, rfl⟩
        have hc2 := abcd_at hc
        refine ⟨rfl, yes_in ?_⟩
        refine ⟨_, rfl, ⟨_, rfl⟩, _, rfl, _, _, rfl, rfl, _, hD, small_lt ?_, fun b o e => ?_, ?_⟩
        · rw [List.length_map, List.length_take]
          show min i 4 ≤ _
          omega
        · rw [upd_ne (ne_of_none e nD1)]
          exact s1 _ _ e
        · rw [upd_same, List.take_add_one, hc2, List.map_append, tx_one, count_tx]
          rfl
      rintro H3 ⟨s3, hD1⟩
      rw [abcd_size] at hD1
      refine ⟨_, rfl, D1, cnts o, rfl, .inl (.inl hD1), (by decide : 0 < 4), fun m hm1 hm2 => ?_⟩
      obtain rfl := max_is hm1 hm2
      refine ⟨_, 3, rfl, rfl, _, rfl, ?_⟩
      rw [decide_eq_false (by omega)]
      exact iteF (hnx _ _ ⟨_, rfl, s3⟩)
    rintro σ' H'' ⟨y9, rfl, s11⟩
    obtain ⟨hr1, hr2⟩ := rows_ok H'' s11
    exact htl _ H'' (1 + v) one o o5 ts (maxCnt one) _ _ _ _ _ _ m1 m3 l1 one4 lo leto k4 hcn hr1 hr2 (fun h6 => PL.p4 (1 + v) o m1 m3 h6 leto) (fun H' => q H')
end
end Say

set_option Elab.async false
set_option linter.all false
set_option maxRecDepth 1000000
set_option maxHeartbeats 16000000
namespace Say
/-- a list of small numbers as one number -/
def enc : List Nat → Nat
  | [] => 1
  | x :: r => enc r * 128 + x
def ent (w : List Nat) : Nat × List Nat := (enc (coreM w), gapsM w)
def tb1_0_0 : List (Nat × List Nat) := [(nat_lit 1, [])]
def tc1_0 : List (List (Nat × List Nat)) := [tb1_0_0]
def tb1_1_0 : List (Nat × List Nat) := [(nat_lit 225, [nat_lit 1])]
def tc1_1 : List (List (Nat × List Nat)) := [tb1_1_0]
def tb1_2_0 : List (Nat × List Nat) := [(nat_lit 225, [nat_lit 2])]
def tc1_2 : List (List (Nat × List Nat)) := [tb1_2_0]
def tb1_3_0 : List (Nat × List Nat) := [(nat_lit 225, [nat_lit 3])]
def tc1_3 : List (List (Nat × List Nat)) := [tb1_3_0]
def tb1_4_0 : List (Nat × List Nat) := [(nat_lit 225, [nat_lit 4])]
def tc1_4 : List (List (Nat × List Nat)) := [tb1_4_0]
def tb1_5_0 : List (Nat × List Nat) := [(nat_lit 225, [nat_lit 5])]
def tc1_5 : List (List (Nat × List Nat)) := [tb1_5_0]
def tb1_6_0 : List (Nat × List Nat) := [(nat_lit 225, [nat_lit 6])]
def tc1_6 : List (List (Nat × List Nat)) := [tb1_6_0]
def tb2_0_0 : List (Nat × List Nat) := [(nat_lit 1, [])]
def tc2_0 : List (List (Nat × List Nat)) := [tb2_0_0]
def tb2_1_0 : List (Nat × List Nat) := [(nat_lit 225, [nat_lit 1]),
(nat_lit 226, [nat_lit 1])]
def tc2_1 : List (List (Nat × List Nat)) := [tb2_1_0]
def tb2_2_0 : List (Nat × List Nat) := [(nat_lit 225, [nat_lit 2]),
(nat_lit 29025, [nat_lit 1]),
(nat_lit 28898, [nat_lit 1]),
(nat_lit 226, [nat_lit 2])]
def tc2_2 : List (List (Nat × List Nat)) := [tb2_2_0]
def tb2_3_0 : List (Nat × List Nat) := [(nat_lit 225, [nat_lit 3]),
(nat_lit 3715297, [nat_lit 1, nat_lit 1]),
(nat_lit 3699041, [nat_lit 1, nat_lit 1]),
(nat_lit 3715425, [nat_lit 1, nat_lit 1]),
(nat_lit 3698914, [nat_lit 1, nat_lit 1]),
(nat_lit 3715298, [nat_lit 1, nat_lit 1]),
(nat_lit 3699042, [nat_lit 1, nat_lit 1]),
(nat_lit 226, [nat_lit 3])]
def tc2_3 : List (List (Nat × List Nat)) := [tb2_3_0]
def tb2_4_0 : List (Nat × List Nat) := [(nat_lit 225, [nat_lit 4]),
(nat_lit 3715297, [nat_lit 1, nat_lit 2]),
(nat_lit 473477345, [nat_lit 1, nat_lit 1, nat_lit 1]),
(nat_lit 29025, [nat_lit 2]),
(nat_lit 3699041, [nat_lit 1, nat_lit 2]),
(nat_lit 475558241, [nat_lit 1, nat_lit 1]),
(nat_lit 473477473, [nat_lit 1, nat_lit 1]),
(nat_lit 3715425, [nat_lit 1, nat_lit 2]),
(nat_lit 3698914, [nat_lit 1, nat_lit 2]),
(nat_lit 475558114, [nat_lit 1, nat_lit 1]),
(nat_lit 473477346, [nat_lit 1, nat_lit 1]),
(nat_lit 3715298, [nat_lit 1, nat_lit 2]),
(nat_lit 28898, [nat_lit 2]),
(nat_lit 475558242, [nat_lit 1, nat_lit 1, nat_lit 1]),
(nat_lit 3699042, [nat_lit 1, nat_lit 2]),
(nat_lit 226, [nat_lit 4])]
def tc2_4 : List (List (Nat × List Nat)) := [tb2_4_0]
def tb2_5_0 : List (Nat × List Nat) := [(nat_lit 225, [nat_lit 5]),
(nat_lit 3715297, [nat_lit 1, nat_lit 3]),
(nat_lit 473477345, [nat_lit 1, nat_lit 2, nat_lit 1]),
(nat_lit 3715297, [nat_lit 2, nat_lit 1]),
(nat_lit 473477345, [nat_lit 1, nat_lit 1, nat_lit 2]),
(nat_lit 60871454945, [nat_lit 1, nat_lit 1, nat_lit 1]),
(nat_lit 3699041, [nat_lit 2, nat_lit 1]),
(nat_lit 3715425, [nat_lit 2, nat_lit 1]),
(nat_lit 3699041, [nat_lit 1, nat_lit 3]),
(nat_lit 60871438689, [nat_lit 1, nat_lit 1, nat_lit 1]),
(nat_lit 60605100385, [nat_lit 1, nat_lit 1, nat_lit 1]),
(nat_lit 60873535841, [nat_lit 1, nat_lit 1, nat_lit 1]),
(nat_lit 60603019617, [nat_lit 1, nat_lit 1, nat_lit 1]),
(nat_lit 60871455073, [nat_lit 1, nat_lit 1, nat_lit 1]),
(nat_lit 60605116769, [nat_lit 1, nat_lit 1, nat_lit 1]),
(nat_lit 3715425, [nat_lit 1, nat_lit 3]),
(nat_lit 3698914, [nat_lit 1, nat_lit 3]),
(nat_lit 60871438562, [nat_lit 1, nat_lit 1, nat_lit 1]),
(nat_lit 60605100258, [nat_lit 1, nat_lit 1, nat_lit 1]),
(nat_lit 60873535714, [nat_lit 1, nat_lit 1, nat_lit 1]),
(nat_lit 60603019490, [nat_lit 1, nat_lit 1, nat_lit 1]),
(nat_lit 60871454946, [nat_lit 1, nat_lit 1, nat_lit 1]),
(nat_lit 60605116642, [nat_lit 1, nat_lit 1, nat_lit 1]),
(nat_lit 3715298, [nat_lit 1, nat_lit 3]),
(nat_lit 3698914, [nat_lit 2, nat_lit 1]),
(nat_lit 3715298, [nat_lit 2, nat_lit 1]),
(nat_lit 60605100386, [nat_lit 1, nat_lit 1, nat_lit 1]),
(nat_lit 475558242, [nat_lit 1, nat_lit 1, nat_lit 2]),
(nat_lit 3699042, [nat_lit 2, nat_lit 1]),
(nat_lit 475558242, [nat_lit 1, nat_lit 2, nat_lit 1]),
(nat_lit 3699042, [nat_lit 1, nat_lit 3]),
(nat_lit 226, [nat_lit 5])]
def tc2_5 : List (List (Nat × List Nat)) := [tb2_5_0]
def tb2_6_0 : List (Nat × List Nat) := [(nat_lit 225, [nat_lit 6]),
(nat_lit 3715297, [nat_lit 1, nat_lit 4]),
(nat_lit 473477345, [nat_lit 1, nat_lit 3, nat_lit 1]),
(nat_lit 3715297, [nat_lit 2, nat_lit 2]),
(nat_lit 473477345, [nat_lit 1, nat_lit 2, nat_lit 2]),
(nat_lit 7791546233057, [nat_lit 1, nat_lit 1, nat_lit 1, nat_lit 1]),
(nat_lit 473477345, [nat_lit 2, nat_lit 1, nat_lit 1]),
(nat_lit 29025, [nat_lit 3]),
(nat_lit 473477345, [nat_lit 1, nat_lit 1, nat_lit 3]),
(nat_lit 60871454945, [nat_lit 1, nat_lit 1, nat_lit 2]),
(nat_lit 7757452849377, [nat_lit 1, nat_lit 1, nat_lit 1, nat_lit 1]),
(nat_lit 7791812587745, [nat_lit 1, nat_lit 1, nat_lit 1]),
(nat_lit 3699041, [nat_lit 2, nat_lit 2]),
(nat_lit 475558241, [nat_lit 2, nat_lit 1]),
(nat_lit 473477473, [nat_lit 2, nat_lit 1]),
(nat_lit 3715425, [nat_lit 2, nat_lit 2]),
(nat_lit 3699041, [nat_lit 1, nat_lit 4]),
(nat_lit 60871438689, [nat_lit 1, nat_lit 1, nat_lit 2]),
(nat_lit 7757452833121, [nat_lit 1, nat_lit 1, nat_lit 1, nat_lit 1]),
(nat_lit 475558241, [nat_lit 1, nat_lit 2]),
(nat_lit 60605100385, [nat_lit 1, nat_lit 1, nat_lit 2]),
(nat_lit 7791546233185, [nat_lit 1, nat_lit 1, nat_lit 1]),
(nat_lit 7757454930273, [nat_lit 1, nat_lit 1, nat_lit 1]),
(nat_lit 60873535841, [nat_lit 1, nat_lit 1, nat_lit 2]),
(nat_lit 60603019617, [nat_lit 1, nat_lit 1, nat_lit 2]),
(nat_lit 7791544152417, [nat_lit 1, nat_lit 1, nat_lit 1]),
(nat_lit 7757452849505, [nat_lit 1, nat_lit 1, nat_lit 1]),
(nat_lit 60871455073, [nat_lit 1, nat_lit 1, nat_lit 2]),
(nat_lit 473477473, [nat_lit 1, nat_lit 2]),
(nat_lit 7791546249569, [nat_lit 1, nat_lit 1, nat_lit 1, nat_lit 1]),
(nat_lit 60605116769, [nat_lit 1, nat_lit 1, nat_lit 2]),
(nat_lit 3715425, [nat_lit 1, nat_lit 4]),
(nat_lit 3698914, [nat_lit 1, nat_lit 4]),
(nat_lit 60871438562, [nat_lit 1, nat_lit 1, nat_lit 2]),
(nat_lit 7757452832994, [nat_lit 1, nat_lit 1, nat_lit 1, nat_lit 1]),
(nat_lit 475558114, [nat_lit 1, nat_lit 2]),
(nat_lit 60605100258, [nat_lit 1, nat_lit 1, nat_lit 2]),
(nat_lit 7791546233058, [nat_lit 1, nat_lit 1, nat_lit 1]),
(nat_lit 7757454930146, [nat_lit 1, nat_lit 1, nat_lit 1]),
(nat_lit 60873535714, [nat_lit 1, nat_lit 1, nat_lit 2]),
(nat_lit 60603019490, [nat_lit 1, nat_lit 1, nat_lit 2]),
(nat_lit 7791544152290, [nat_lit 1, nat_lit 1, nat_lit 1]),
(nat_lit 7757452849378, [nat_lit 1, nat_lit 1, nat_lit 1]),
(nat_lit 60871454946, [nat_lit 1, nat_lit 1, nat_lit 2]),
(nat_lit 473477346, [nat_lit 1, nat_lit 2]),
(nat_lit 7791546249442, [nat_lit 1, nat_lit 1, nat_lit 1, nat_lit 1]),
(nat_lit 60605116642, [nat_lit 1, nat_lit 1, nat_lit 2]),
(nat_lit 3715298, [nat_lit 1, nat_lit 4]),
(nat_lit 3698914, [nat_lit 2, nat_lit 2]),
(nat_lit 475558114, [nat_lit 2, nat_lit 1]),
(nat_lit 473477346, [nat_lit 2, nat_lit 1]),
(nat_lit 3715298, [nat_lit 2, nat_lit 2]),
(nat_lit 7757186494818, [nat_lit 1, nat_lit 1, nat_lit 1]),
(nat_lit 7791546233186, [nat_lit 1, nat_lit 1, nat_lit 1, nat_lit 1]),
(nat_lit 60605100386, [nat_lit 1, nat_lit 1, nat_lit 2]),
(nat_lit 475558242, [nat_lit 1, nat_lit 1, nat_lit 3]),
(nat_lit 28898, [nat_lit 3]),
(nat_lit 475558242, [nat_lit 2, nat_lit 1, nat_lit 1]),
(nat_lit 7757452849506, [nat_lit 1, nat_lit 1, nat_lit 1, nat_lit 1]),
(nat_lit 475558242, [nat_lit 1, nat_lit 2, nat_lit 2]),
(nat_lit 3699042, [nat_lit 2, nat_lit 2]),
(nat_lit 475558242, [nat_lit 1, nat_lit 3, nat_lit 1]),
(nat_lit 3699042, [nat_lit 1, nat_lit 4]),
(nat_lit 226, [nat_lit 6])]
def tc2_6 : List (List (Nat × List Nat)) := [tb2_6_0]
def tb3_0_0 : List (Nat × List Nat) := [(nat_lit 1, [])]
def tc3_0 : List (List (Nat × List Nat)) := [tb3_0_0]
def tb3_1_0 : List (Nat × List Nat) := [(nat_lit 225, [nat_lit 1]),
(nat_lit 226, [nat_lit 1]),
(nat_lit 227, [nat_lit 1])]
def tc3_1 : List (List (Nat × List Nat)) := [tb3_1_0]
def tb3_2_0 : List (Nat × List Nat) := [(nat_lit 225, [nat_lit 2]),
(nat_lit 29025, [nat_lit 1]),
(nat_lit 29153, [nat_lit 1]),
(nat_lit 28898, [nat_lit 1]),
(nat_lit 226, [nat_lit 2]),
(nat_lit 29154, [nat_lit 1]),
(nat_lit 28899, [nat_lit 1]),
(nat_lit 29027, [nat_lit 1]),
(nat_lit 227, [nat_lit 2])]
def tc3_2 : List (List (Nat × List Nat)) := [tb3_2_0]
def tb3_3_0 : List (Nat × List Nat) := [(nat_lit 225, [nat_lit 3]),
(nat_lit 3715297, [nat_lit 1, nat_lit 1]),
(nat_lit 3731681, [nat_lit 1, nat_lit 1]),
(nat_lit 3699041, [nat_lit 1, nat_lit 1]),
(nat_lit 3715425, [nat_lit 1, nat_lit 1]),
(nat_lit 3731809, [nat_lit 1]),
(nat_lit 3699169, [nat_lit 1, nat_lit 1]),
(nat_lit 3715553, [nat_lit 1]),
(nat_lit 3731937, [nat_lit 1, nat_lit 1]),
(nat_lit 3698914, [nat_lit 1, nat_lit 1]),
(nat_lit 3715298, [nat_lit 1, nat_lit 1]),
(nat_lit 3731682, [nat_lit 1]),
(nat_lit 3699042, [nat_lit 1, nat_lit 1]),
(nat_lit 226, [nat_lit 3]),
(nat_lit 3731810, [nat_lit 1, nat_lit 1]),
(nat_lit 3699170, [nat_lit 1]),
(nat_lit 3715554, [nat_lit 1, nat_lit 1]),
(nat_lit 3731938, [nat_lit 1, nat_lit 1]),
(nat_lit 3698915, [nat_lit 1, nat_lit 1]),
(nat_lit 3715299, [nat_lit 1]),
(nat_lit 3731683, [nat_lit 1, nat_lit 1]),
(nat_lit 3699043, [nat_lit 1]),
(nat_lit 3715427, [nat_lit 1, nat_lit 1]),
(nat_lit 3731811, [nat_lit 1, nat_lit 1]),
(nat_lit 3699171, [nat_lit 1, nat_lit 1]),
(nat_lit 3715555, [nat_lit 1, nat_lit 1]),
(nat_lit 227, [nat_lit 3])]
def tc3_3 : List (List (Nat × List Nat)) := [tb3_3_0]
def tb3_4_0 : List (Nat × List Nat) := [(nat_lit 225, [nat_lit 4]),
(nat_lit 3715297, [nat_lit 1, nat_lit 2]),
(nat_lit 3731681, [nat_lit 1, nat_lit 2]),
(nat_lit 473477345, [nat_lit 1, nat_lit 1, nat_lit 1]),
(nat_lit 29025, [nat_lit 2]),
(nat_lit 477671649, [nat_lit 1, nat_lit 1]),
(nat_lit 473493729, [nat_lit 1, nat_lit 1, nat_lit 1]),
(nat_lit 475590881, [nat_lit 1, nat_lit 1]),
(nat_lit 29153, [nat_lit 2]),
(nat_lit 3699041, [nat_lit 1, nat_lit 2]),
(nat_lit 475558241, [nat_lit 1, nat_lit 1]),
(nat_lit 477655393, [nat_lit 1, nat_lit 1]),
(nat_lit 473477473, [nat_lit 1, nat_lit 1]),
(nat_lit 3715425, [nat_lit 1, nat_lit 2]),
(nat_lit 477671777, [nat_lit 1, nat_lit 1]),
(nat_lit 473493857, [nat_lit 1, nat_lit 1]),
(nat_lit 475591009, [nat_lit 1, nat_lit 1]),
(nat_lit 477688161, [nat_lit 1, nat_lit 1]),
(nat_lit 3699169, [nat_lit 1, nat_lit 2]),
(nat_lit 475558369, [nat_lit 1, nat_lit 1]),
(nat_lit 477655521, [nat_lit 1, nat_lit 1]),
(nat_lit 473477601, [nat_lit 1, nat_lit 1]),
(nat_lit 475574753, [nat_lit 1, nat_lit 1]),
(nat_lit 477671905, [nat_lit 1, nat_lit 1]),
(nat_lit 473493985, [nat_lit 1, nat_lit 1]),
(nat_lit 475591137, [nat_lit 1, nat_lit 1]),
(nat_lit 3731937, [nat_lit 1, nat_lit 2]),
(nat_lit 3698914, [nat_lit 1, nat_lit 2]),
(nat_lit 475558114, [nat_lit 1, nat_lit 1]),
(nat_lit 477655266, [nat_lit 1, nat_lit 1]),
(nat_lit 473477346, [nat_lit 1, nat_lit 1]),
(nat_lit 3715298, [nat_lit 1, nat_lit 2]),
(nat_lit 477671650, [nat_lit 1, nat_lit 1]),
(nat_lit 473493730, [nat_lit 1, nat_lit 1]),
(nat_lit 475590882, [nat_lit 1, nat_lit 1]),
(nat_lit 477688034, [nat_lit 1, nat_lit 1]),
(nat_lit 28898, [nat_lit 2]),
(nat_lit 475558242, [nat_lit 1, nat_lit 1, nat_lit 1]),
(nat_lit 477655394, [nat_lit 1, nat_lit 1]),
(nat_lit 3699042, [nat_lit 1, nat_lit 2]),
(nat_lit 226, [nat_lit 4]),
(nat_lit 3731810, [nat_lit 1, nat_lit 2]),
(nat_lit 473493858, [nat_lit 1, nat_lit 1]),
(nat_lit 475591010, [nat_lit 1, nat_lit 1, nat_lit 1]),
(nat_lit 29154, [nat_lit 2]),
(nat_lit 473461218, [nat_lit 1, nat_lit 1]),
(nat_lit 475558370, [nat_lit 1, nat_lit 1]),
(nat_lit 477655522, [nat_lit 1, nat_lit 1]),
(nat_lit 473477602, [nat_lit 1, nat_lit 1]),
(nat_lit 3715554, [nat_lit 1, nat_lit 2]),
(nat_lit 477671906, [nat_lit 1, nat_lit 1]),
(nat_lit 473493986, [nat_lit 1, nat_lit 1]),
(nat_lit 475591138, [nat_lit 1, nat_lit 1]),
(nat_lit 3731938, [nat_lit 1, nat_lit 2]),
(nat_lit 3698915, [nat_lit 1, nat_lit 2]),
(nat_lit 475558115, [nat_lit 1, nat_lit 1]),
(nat_lit 477655267, [nat_lit 1, nat_lit 1]),
(nat_lit 473477347, [nat_lit 1, nat_lit 1]),
(nat_lit 475574499, [nat_lit 1, nat_lit 1]),
(nat_lit 477671651, [nat_lit 1, nat_lit 1]),
(nat_lit 473493731, [nat_lit 1, nat_lit 1]),
(nat_lit 475590883, [nat_lit 1, nat_lit 1]),
(nat_lit 3731683, [nat_lit 1, nat_lit 2]),
(nat_lit 473461091, [nat_lit 1, nat_lit 1]),
(nat_lit 475558243, [nat_lit 1, nat_lit 1]),
(nat_lit 477655395, [nat_lit 1, nat_lit 1]),
(nat_lit 473477475, [nat_lit 1, nat_lit 1]),
(nat_lit 3715427, [nat_lit 1, nat_lit 2]),
(nat_lit 477671779, [nat_lit 1, nat_lit 1]),
(nat_lit 473493859, [nat_lit 1, nat_lit 1]),
(nat_lit 475591011, [nat_lit 1, nat_lit 1]),
(nat_lit 3731811, [nat_lit 1, nat_lit 2]),
(nat_lit 28899, [nat_lit 2]),
(nat_lit 475558371, [nat_lit 1, nat_lit 1]),
(nat_lit 477655523, [nat_lit 1, nat_lit 1, nat_lit 1]),
(nat_lit 473477603, [nat_lit 1, nat_lit 1]),
(nat_lit 29027, [nat_lit 2]),
(nat_lit 477671907, [nat_lit 1, nat_lit 1, nat_lit 1]),
(nat_lit 3699171, [nat_lit 1, nat_lit 2]),
(nat_lit 3715555, [nat_lit 1, nat_lit 2]),
(nat_lit 227, [nat_lit 4])]
def tc3_4 : List (List (Nat × List Nat)) := [tb3_4_0]
def tb3_5_0 : List (Nat × List Nat) := [(nat_lit 225, [nat_lit 5]),
(nat_lit 3715297, [nat_lit 1, nat_lit 3]),
(nat_lit 3731681, [nat_lit 1, nat_lit 3]),
(nat_lit 473477345, [nat_lit 1, nat_lit 2, nat_lit 1]),
(nat_lit 3715297, [nat_lit 2, nat_lit 1]),
(nat_lit 477671649, [nat_lit 1, nat_lit 2]),
(nat_lit 473493729, [nat_lit 1, nat_lit 2, nat_lit 1]),
(nat_lit 475590881, [nat_lit 1, nat_lit 2]),
(nat_lit 3731681, [nat_lit 2, nat_lit 1]),
(nat_lit 473477345, [nat_lit 1, nat_lit 1, nat_lit 2]),
(nat_lit 60871454945, [nat_lit 1, nat_lit 1, nat_lit 1]),
(nat_lit 61139890401, [nat_lit 1, nat_lit 1, nat_lit 1]),
(nat_lit 3699041, [nat_lit 2, nat_lit 1]),
(nat_lit 3715425, [nat_lit 2, nat_lit 1]),
(nat_lit 61141987553, [nat_lit 1, nat_lit 1]),
(nat_lit 60607213793, [nat_lit 1, nat_lit 1, nat_lit 1]),
(nat_lit 60875649249, [nat_lit 1, nat_lit 1]),
(nat_lit 61144084705, [nat_lit 1, nat_lit 1]),
(nat_lit 473493729, [nat_lit 1, nat_lit 1, nat_lit 2]),
(nat_lit 60871471329, [nat_lit 1, nat_lit 1, nat_lit 1]),
(nat_lit 61139906785, [nat_lit 1, nat_lit 1, nat_lit 1]),
(nat_lit 60605133025, [nat_lit 1, nat_lit 1, nat_lit 1]),
(nat_lit 60873568481, [nat_lit 1, nat_lit 1]),
(nat_lit 61142003937, [nat_lit 1, nat_lit 1]),
(nat_lit 3699169, [nat_lit 2, nat_lit 1]),
(nat_lit 60875665633, [nat_lit 1, nat_lit 1]),
(nat_lit 3731937, [nat_lit 2, nat_lit 1]),
(nat_lit 3699041, [nat_lit 1, nat_lit 3]),
(nat_lit 60871438689, [nat_lit 1, nat_lit 1, nat_lit 1]),
(nat_lit 477655393, [nat_lit 1, nat_lit 2]),
(nat_lit 60605100385, [nat_lit 1, nat_lit 1, nat_lit 1]),
(nat_lit 60873535841, [nat_lit 1, nat_lit 1, nat_lit 1]),
(nat_lit 61141971297, [nat_lit 1, nat_lit 1]),
(nat_lit 60607197537, [nat_lit 1, nat_lit 1, nat_lit 1]),
(nat_lit 60875632993, [nat_lit 1, nat_lit 1]),
(nat_lit 61144068449, [nat_lit 1, nat_lit 1]),
(nat_lit 60603019617, [nat_lit 1, nat_lit 1, nat_lit 1]),
(nat_lit 60871455073, [nat_lit 1, nat_lit 1, nat_lit 1]),
(nat_lit 61139890529, [nat_lit 1, nat_lit 1]),
(nat_lit 60605116769, [nat_lit 1, nat_lit 1, nat_lit 1]),
(nat_lit 3715425, [nat_lit 1, nat_lit 3]),
(nat_lit 477671777, [nat_lit 1, nat_lit 2]),
(nat_lit 60607213921, [nat_lit 1, nat_lit 1]),
(nat_lit 60875649377, [nat_lit 1, nat_lit 1, nat_lit 1]),
(nat_lit 61144084833, [nat_lit 1, nat_lit 1]),
(nat_lit 473493857, [nat_lit 1, nat_lit 2]),
(nat_lit 60871471457, [nat_lit 1, nat_lit 1]),
(nat_lit 61139906913, [nat_lit 1, nat_lit 1]),
(nat_lit 60605133153, [nat_lit 1, nat_lit 1]),
(nat_lit 475591009, [nat_lit 1, nat_lit 2]),
(nat_lit 61142004065, [nat_lit 1, nat_lit 1]),
(nat_lit 60607230305, [nat_lit 1, nat_lit 1]),
(nat_lit 60875665761, [nat_lit 1, nat_lit 1]),
(nat_lit 477688161, [nat_lit 1, nat_lit 2]),
(nat_lit 3699169, [nat_lit 1, nat_lit 3]),
(nat_lit 475558369, [nat_lit 1, nat_lit 2]),
(nat_lit 61139874273, [nat_lit 1, nat_lit 1, nat_lit 1]),
(nat_lit 60605100513, [nat_lit 1, nat_lit 1, nat_lit 1]),
(nat_lit 60873535969, [nat_lit 1, nat_lit 1]),
(nat_lit 61141971425, [nat_lit 1, nat_lit 1]),
(nat_lit 60607197665, [nat_lit 1, nat_lit 1, nat_lit 1]),
(nat_lit 60875633121, [nat_lit 1, nat_lit 1]),
(nat_lit 61144068577, [nat_lit 1, nat_lit 1, nat_lit 1]),
(nat_lit 473477601, [nat_lit 1, nat_lit 2]),
(nat_lit 60871455201, [nat_lit 1, nat_lit 1]),
(nat_lit 61139890657, [nat_lit 1, nat_lit 1]),
(nat_lit 60605116897, [nat_lit 1, nat_lit 1]),
(nat_lit 475574753, [nat_lit 1, nat_lit 2]),
(nat_lit 61141987809, [nat_lit 1, nat_lit 1]),
(nat_lit 60607214049, [nat_lit 1, nat_lit 1]),
(nat_lit 60875649505, [nat_lit 1, nat_lit 1]),
(nat_lit 477671905, [nat_lit 1, nat_lit 2]),
(nat_lit 60603036129, [nat_lit 1, nat_lit 1, nat_lit 1]),
(nat_lit 60871471585, [nat_lit 1, nat_lit 1]),
(nat_lit 61139907041, [nat_lit 1, nat_lit 1, nat_lit 1]),
(nat_lit 60605133281, [nat_lit 1, nat_lit 1]),
(nat_lit 60873568737, [nat_lit 1, nat_lit 1]),
(nat_lit 61142004193, [nat_lit 1, nat_lit 1, nat_lit 1]),
(nat_lit 60607230433, [nat_lit 1, nat_lit 1, nat_lit 1]),
(nat_lit 475591137, [nat_lit 1, nat_lit 2]),
(nat_lit 3731937, [nat_lit 1, nat_lit 3])]
def tb3_5_1 : List (Nat × List Nat) := [(nat_lit 3698914, [nat_lit 1, nat_lit 3]),
(nat_lit 60871438562, [nat_lit 1, nat_lit 1, nat_lit 1]),
(nat_lit 477655266, [nat_lit 1, nat_lit 2]),
(nat_lit 60605100258, [nat_lit 1, nat_lit 1, nat_lit 1]),
(nat_lit 60873535714, [nat_lit 1, nat_lit 1, nat_lit 1]),
(nat_lit 61141971170, [nat_lit 1, nat_lit 1]),
(nat_lit 60607197410, [nat_lit 1, nat_lit 1, nat_lit 1]),
(nat_lit 60875632866, [nat_lit 1, nat_lit 1]),
(nat_lit 61144068322, [nat_lit 1, nat_lit 1]),
(nat_lit 60603019490, [nat_lit 1, nat_lit 1, nat_lit 1]),
(nat_lit 60871454946, [nat_lit 1, nat_lit 1, nat_lit 1]),
(nat_lit 61139890402, [nat_lit 1, nat_lit 1]),
(nat_lit 60605116642, [nat_lit 1, nat_lit 1, nat_lit 1]),
(nat_lit 3715298, [nat_lit 1, nat_lit 3]),
(nat_lit 477671650, [nat_lit 1, nat_lit 2]),
(nat_lit 60607213794, [nat_lit 1, nat_lit 1]),
(nat_lit 60875649250, [nat_lit 1, nat_lit 1, nat_lit 1]),
(nat_lit 61144084706, [nat_lit 1, nat_lit 1]),
(nat_lit 473493730, [nat_lit 1, nat_lit 2]),
(nat_lit 60871471330, [nat_lit 1, nat_lit 1]),
(nat_lit 61139906786, [nat_lit 1, nat_lit 1]),
(nat_lit 60605133026, [nat_lit 1, nat_lit 1]),
(nat_lit 475590882, [nat_lit 1, nat_lit 2]),
(nat_lit 61142003938, [nat_lit 1, nat_lit 1]),
(nat_lit 60607230178, [nat_lit 1, nat_lit 1]),
(nat_lit 60875665634, [nat_lit 1, nat_lit 1]),
(nat_lit 477688034, [nat_lit 1, nat_lit 2]),
(nat_lit 3698914, [nat_lit 2, nat_lit 1]),
(nat_lit 3715298, [nat_lit 2, nat_lit 1]),
(nat_lit 61139874146, [nat_lit 1, nat_lit 1]),
(nat_lit 60605100386, [nat_lit 1, nat_lit 1, nat_lit 1]),
(nat_lit 475558242, [nat_lit 1, nat_lit 1, nat_lit 2]),
(nat_lit 61141971298, [nat_lit 1, nat_lit 1, nat_lit 1]),
(nat_lit 60607197538, [nat_lit 1, nat_lit 1]),
(nat_lit 60875632994, [nat_lit 1, nat_lit 1, nat_lit 1]),
(nat_lit 61144068450, [nat_lit 1, nat_lit 1]),
(nat_lit 3699042, [nat_lit 2, nat_lit 1]),
(nat_lit 475558242, [nat_lit 1, nat_lit 2, nat_lit 1]),
(nat_lit 477655394, [nat_lit 1, nat_lit 2]),
(nat_lit 3699042, [nat_lit 1, nat_lit 3]),
(nat_lit 226, [nat_lit 5]),
(nat_lit 3731810, [nat_lit 1, nat_lit 3]),
(nat_lit 473493858, [nat_lit 1, nat_lit 2]),
(nat_lit 475591010, [nat_lit 1, nat_lit 2, nat_lit 1]),
(nat_lit 3731810, [nat_lit 2, nat_lit 1]),
(nat_lit 60603036002, [nat_lit 1, nat_lit 1]),
(nat_lit 60871471458, [nat_lit 1, nat_lit 1, nat_lit 1]),
(nat_lit 61139906914, [nat_lit 1, nat_lit 1]),
(nat_lit 60605133154, [nat_lit 1, nat_lit 1, nat_lit 1]),
(nat_lit 475591010, [nat_lit 1, nat_lit 1, nat_lit 2]),
(nat_lit 61142004066, [nat_lit 1, nat_lit 1, nat_lit 1]),
(nat_lit 60607230306, [nat_lit 1, nat_lit 1]),
(nat_lit 3715554, [nat_lit 2, nat_lit 1]),
(nat_lit 3731938, [nat_lit 2, nat_lit 1]),
(nat_lit 473461218, [nat_lit 1, nat_lit 2]),
(nat_lit 60871438818, [nat_lit 1, nat_lit 1]),
(nat_lit 61139874274, [nat_lit 1, nat_lit 1]),
(nat_lit 60605100514, [nat_lit 1, nat_lit 1]),
(nat_lit 475558370, [nat_lit 1, nat_lit 2]),
(nat_lit 61141971426, [nat_lit 1, nat_lit 1]),
(nat_lit 60607197666, [nat_lit 1, nat_lit 1]),
(nat_lit 60875633122, [nat_lit 1, nat_lit 1]),
(nat_lit 477655522, [nat_lit 1, nat_lit 2]),
(nat_lit 60603019746, [nat_lit 1, nat_lit 1]),
(nat_lit 60871455202, [nat_lit 1, nat_lit 1, nat_lit 1]),
(nat_lit 61139890658, [nat_lit 1, nat_lit 1]),
(nat_lit 473477602, [nat_lit 1, nat_lit 2]),
(nat_lit 3715554, [nat_lit 1, nat_lit 3]),
(nat_lit 61141987810, [nat_lit 1, nat_lit 1, nat_lit 1]),
(nat_lit 60607214050, [nat_lit 1, nat_lit 1]),
(nat_lit 60875649506, [nat_lit 1, nat_lit 1, nat_lit 1]),
(nat_lit 61144084962, [nat_lit 1, nat_lit 1, nat_lit 1]),
(nat_lit 60603036130, [nat_lit 1, nat_lit 1]),
(nat_lit 60871471586, [nat_lit 1, nat_lit 1]),
(nat_lit 61139907042, [nat_lit 1, nat_lit 1, nat_lit 1]),
(nat_lit 60605133282, [nat_lit 1, nat_lit 1]),
(nat_lit 60873568738, [nat_lit 1, nat_lit 1, nat_lit 1]),
(nat_lit 61142004194, [nat_lit 1, nat_lit 1, nat_lit 1]),
(nat_lit 473493986, [nat_lit 1, nat_lit 2]),
(nat_lit 60875665890, [nat_lit 1, nat_lit 1, nat_lit 1]),
(nat_lit 3731938, [nat_lit 1, nat_lit 3])]
def tb3_5_2 : List (Nat × List Nat) := [(nat_lit 3698915, [nat_lit 1, nat_lit 3]),
(nat_lit 475558115, [nat_lit 1, nat_lit 2]),
(nat_lit 61139874019, [nat_lit 1, nat_lit 1, nat_lit 1]),
(nat_lit 60605100259, [nat_lit 1, nat_lit 1, nat_lit 1]),
(nat_lit 60873535715, [nat_lit 1, nat_lit 1]),
(nat_lit 61141971171, [nat_lit 1, nat_lit 1]),
(nat_lit 60607197411, [nat_lit 1, nat_lit 1, nat_lit 1]),
(nat_lit 60875632867, [nat_lit 1, nat_lit 1]),
(nat_lit 61144068323, [nat_lit 1, nat_lit 1, nat_lit 1]),
(nat_lit 473477347, [nat_lit 1, nat_lit 2]),
(nat_lit 60871454947, [nat_lit 1, nat_lit 1]),
(nat_lit 61139890403, [nat_lit 1, nat_lit 1]),
(nat_lit 60605116643, [nat_lit 1, nat_lit 1]),
(nat_lit 475574499, [nat_lit 1, nat_lit 2]),
(nat_lit 61141987555, [nat_lit 1, nat_lit 1]),
(nat_lit 60607213795, [nat_lit 1, nat_lit 1]),
(nat_lit 60875649251, [nat_lit 1, nat_lit 1]),
(nat_lit 477671651, [nat_lit 1, nat_lit 2]),
(nat_lit 60603035875, [nat_lit 1, nat_lit 1, nat_lit 1]),
(nat_lit 60871471331, [nat_lit 1, nat_lit 1]),
(nat_lit 61139906787, [nat_lit 1, nat_lit 1, nat_lit 1]),
(nat_lit 60605133027, [nat_lit 1, nat_lit 1]),
(nat_lit 60873568483, [nat_lit 1, nat_lit 1]),
(nat_lit 61142003939, [nat_lit 1, nat_lit 1, nat_lit 1]),
(nat_lit 60607230179, [nat_lit 1, nat_lit 1, nat_lit 1]),
(nat_lit 475590883, [nat_lit 1, nat_lit 2]),
(nat_lit 3731683, [nat_lit 1, nat_lit 3]),
(nat_lit 473461091, [nat_lit 1, nat_lit 2]),
(nat_lit 60871438691, [nat_lit 1, nat_lit 1]),
(nat_lit 61139874147, [nat_lit 1, nat_lit 1]),
(nat_lit 60605100387, [nat_lit 1, nat_lit 1]),
(nat_lit 475558243, [nat_lit 1, nat_lit 2]),
(nat_lit 61141971299, [nat_lit 1, nat_lit 1]),
(nat_lit 60607197539, [nat_lit 1, nat_lit 1]),
(nat_lit 60875632995, [nat_lit 1, nat_lit 1]),
(nat_lit 477655395, [nat_lit 1, nat_lit 2]),
(nat_lit 60603019619, [nat_lit 1, nat_lit 1]),
(nat_lit 60871455075, [nat_lit 1, nat_lit 1, nat_lit 1]),
(nat_lit 61139890531, [nat_lit 1, nat_lit 1]),
(nat_lit 473477475, [nat_lit 1, nat_lit 2]),
(nat_lit 3715427, [nat_lit 1, nat_lit 3]),
(nat_lit 61141987683, [nat_lit 1, nat_lit 1, nat_lit 1]),
(nat_lit 60607213923, [nat_lit 1, nat_lit 1]),
(nat_lit 60875649379, [nat_lit 1, nat_lit 1, nat_lit 1]),
(nat_lit 61144084835, [nat_lit 1, nat_lit 1, nat_lit 1]),
(nat_lit 60603036003, [nat_lit 1, nat_lit 1]),
(nat_lit 60871471459, [nat_lit 1, nat_lit 1]),
(nat_lit 61139906915, [nat_lit 1, nat_lit 1, nat_lit 1]),
(nat_lit 60605133155, [nat_lit 1, nat_lit 1]),
(nat_lit 60873568611, [nat_lit 1, nat_lit 1, nat_lit 1]),
(nat_lit 61142004067, [nat_lit 1, nat_lit 1, nat_lit 1]),
(nat_lit 473493859, [nat_lit 1, nat_lit 2]),
(nat_lit 60875665763, [nat_lit 1, nat_lit 1, nat_lit 1]),
(nat_lit 3731811, [nat_lit 1, nat_lit 3]),
(nat_lit 3698915, [nat_lit 2, nat_lit 1]),
(nat_lit 60871438819, [nat_lit 1, nat_lit 1]),
(nat_lit 3731683, [nat_lit 2, nat_lit 1]),
(nat_lit 60605100515, [nat_lit 1, nat_lit 1]),
(nat_lit 60873535971, [nat_lit 1, nat_lit 1]),
(nat_lit 61141971427, [nat_lit 1, nat_lit 1, nat_lit 1]),
(nat_lit 60607197667, [nat_lit 1, nat_lit 1, nat_lit 1]),
(nat_lit 60875633123, [nat_lit 1, nat_lit 1, nat_lit 1]),
(nat_lit 477655523, [nat_lit 1, nat_lit 1, nat_lit 2]),
(nat_lit 60603019747, [nat_lit 1, nat_lit 1]),
(nat_lit 60871455203, [nat_lit 1, nat_lit 1]),
(nat_lit 61139890659, [nat_lit 1, nat_lit 1, nat_lit 1]),
(nat_lit 60605116899, [nat_lit 1, nat_lit 1]),
(nat_lit 3715427, [nat_lit 2, nat_lit 1]),
(nat_lit 3731811, [nat_lit 2, nat_lit 1]),
(nat_lit 60607214051, [nat_lit 1, nat_lit 1, nat_lit 1]),
(nat_lit 60875649507, [nat_lit 1, nat_lit 1, nat_lit 1]),
(nat_lit 477671907, [nat_lit 1, nat_lit 1, nat_lit 2]),
(nat_lit 3699171, [nat_lit 2, nat_lit 1]),
(nat_lit 475558371, [nat_lit 1, nat_lit 2]),
(nat_lit 477655523, [nat_lit 1, nat_lit 2, nat_lit 1]),
(nat_lit 473477603, [nat_lit 1, nat_lit 2]),
(nat_lit 3715555, [nat_lit 2, nat_lit 1]),
(nat_lit 477671907, [nat_lit 1, nat_lit 2, nat_lit 1]),
(nat_lit 3699171, [nat_lit 1, nat_lit 3]),
(nat_lit 3715555, [nat_lit 1, nat_lit 3]),
(nat_lit 227, [nat_lit 5])]
def tc3_5 : List (List (Nat × List Nat)) := [tb3_5_0, tb3_5_1, tb3_5_2]
def tb3_6_0 : List (Nat × List Nat) := [(nat_lit 225, [nat_lit 6]),
(nat_lit 3715297, [nat_lit 1, nat_lit 4]),
(nat_lit 3731681, [nat_lit 1, nat_lit 4]),
(nat_lit 473477345, [nat_lit 1, nat_lit 3, nat_lit 1]),
(nat_lit 3715297, [nat_lit 2, nat_lit 2]),
(nat_lit 477671649, [nat_lit 1, nat_lit 3]),
(nat_lit 473493729, [nat_lit 1, nat_lit 3, nat_lit 1]),
(nat_lit 475590881, [nat_lit 1, nat_lit 3]),
(nat_lit 3731681, [nat_lit 2, nat_lit 2]),
(nat_lit 473477345, [nat_lit 1, nat_lit 2, nat_lit 2]),
(nat_lit 7791546233057, [nat_lit 1, nat_lit 1, nat_lit 1, nat_lit 1]),
(nat_lit 61139890401, [nat_lit 1, nat_lit 2, nat_lit 1]),
(nat_lit 473477345, [nat_lit 2, nat_lit 1, nat_lit 1]),
(nat_lit 29025, [nat_lit 3]),
(nat_lit 7826174406881, [nat_lit 1, nat_lit 1, nat_lit 1]),
(nat_lit 60607213793, [nat_lit 1, nat_lit 2, nat_lit 1]),
(nat_lit 7792083103969, [nat_lit 1, nat_lit 1, nat_lit 1]),
(nat_lit 7826442842337, [nat_lit 1, nat_lit 1, nat_lit 1]),
(nat_lit 473493729, [nat_lit 1, nat_lit 2, nat_lit 2]),
(nat_lit 60871471329, [nat_lit 1, nat_lit 2, nat_lit 1]),
(nat_lit 7825908068577, [nat_lit 1, nat_lit 1, nat_lit 1, nat_lit 1]),
(nat_lit 60605133025, [nat_lit 1, nat_lit 2, nat_lit 1]),
(nat_lit 7791816765665, [nat_lit 1, nat_lit 1, nat_lit 1]),
(nat_lit 7826176504033, [nat_lit 1, nat_lit 1, nat_lit 1]),
(nat_lit 473493729, [nat_lit 2, nat_lit 1, nat_lit 1]),
(nat_lit 7792085201121, [nat_lit 1, nat_lit 1, nat_lit 1]),
(nat_lit 29153, [nat_lit 3]),
(nat_lit 473477345, [nat_lit 1, nat_lit 1, nat_lit 3]),
(nat_lit 60871454945, [nat_lit 1, nat_lit 1, nat_lit 2]),
(nat_lit 61139890401, [nat_lit 1, nat_lit 1, nat_lit 2]),
(nat_lit 7757452849377, [nat_lit 1, nat_lit 1, nat_lit 1, nat_lit 1]),
(nat_lit 7791812587745, [nat_lit 1, nat_lit 1, nat_lit 1]),
(nat_lit 7826172326113, [nat_lit 1, nat_lit 1, nat_lit 1]),
(nat_lit 7757721284833, [nat_lit 1, nat_lit 1, nat_lit 1, nat_lit 1]),
(nat_lit 7792081023201, [nat_lit 1, nat_lit 1, nat_lit 1]),
(nat_lit 7826440761569, [nat_lit 1, nat_lit 1, nat_lit 1]),
(nat_lit 3699041, [nat_lit 2, nat_lit 2]),
(nat_lit 475558241, [nat_lit 2, nat_lit 1]),
(nat_lit 7825905987809, [nat_lit 1, nat_lit 1, nat_lit 1]),
(nat_lit 473477473, [nat_lit 2, nat_lit 1]),
(nat_lit 3715425, [nat_lit 2, nat_lit 2]),
(nat_lit 7826174423265, [nat_lit 1, nat_lit 1, nat_lit 1]),
(nat_lit 7757723381985, [nat_lit 1, nat_lit 1, nat_lit 1]),
(nat_lit 7792083120353, [nat_lit 1, nat_lit 1, nat_lit 1]),
(nat_lit 3731809, [nat_lit 2]),
(nat_lit 60607213793, [nat_lit 1, nat_lit 1, nat_lit 2]),
(nat_lit 7791548346593, [nat_lit 1, nat_lit 1, nat_lit 1]),
(nat_lit 7825908084961, [nat_lit 1, nat_lit 1, nat_lit 1]),
(nat_lit 7757457043681, [nat_lit 1, nat_lit 1, nat_lit 1]),
(nat_lit 7791816782049, [nat_lit 1, nat_lit 1, nat_lit 1]),
(nat_lit 7826176520417, [nat_lit 1, nat_lit 1]),
(nat_lit 7757725479137, [nat_lit 1, nat_lit 1, nat_lit 1]),
(nat_lit 7792085217505, [nat_lit 1, nat_lit 1]),
(nat_lit 7826444955873, [nat_lit 1, nat_lit 1, nat_lit 1]),
(nat_lit 473493729, [nat_lit 1, nat_lit 1, nat_lit 3]),
(nat_lit 60871471329, [nat_lit 1, nat_lit 1, nat_lit 2]),
(nat_lit 61139906785, [nat_lit 1, nat_lit 1, nat_lit 2]),
(nat_lit 7757452865761, [nat_lit 1, nat_lit 1, nat_lit 1, nat_lit 1]),
(nat_lit 7791812604129, [nat_lit 1, nat_lit 1, nat_lit 1]),
(nat_lit 7826172342497, [nat_lit 1, nat_lit 1, nat_lit 1]),
(nat_lit 7757721301217, [nat_lit 1, nat_lit 1, nat_lit 1, nat_lit 1]),
(nat_lit 7792081039585, [nat_lit 1, nat_lit 1, nat_lit 1]),
(nat_lit 7826440777953, [nat_lit 1, nat_lit 1, nat_lit 1]),
(nat_lit 60605133025, [nat_lit 1, nat_lit 1, nat_lit 2]),
(nat_lit 7791546265825, [nat_lit 1, nat_lit 1, nat_lit 1]),
(nat_lit 7825906004193, [nat_lit 1, nat_lit 1, nat_lit 1]),
(nat_lit 7757454962913, [nat_lit 1, nat_lit 1, nat_lit 1]),
(nat_lit 7791814701281, [nat_lit 1, nat_lit 1, nat_lit 1]),
(nat_lit 7826174439649, [nat_lit 1, nat_lit 1]),
(nat_lit 7757723398369, [nat_lit 1, nat_lit 1, nat_lit 1]),
(nat_lit 7792083136737, [nat_lit 1, nat_lit 1]),
(nat_lit 7826442875105, [nat_lit 1, nat_lit 1, nat_lit 1]),
(nat_lit 3699169, [nat_lit 2, nat_lit 2]),
(nat_lit 7791548362977, [nat_lit 1, nat_lit 1, nat_lit 1]),
(nat_lit 477655521, [nat_lit 2, nat_lit 1]),
(nat_lit 7757457060065, [nat_lit 1, nat_lit 1, nat_lit 1]),
(nat_lit 3715553, [nat_lit 2]),
(nat_lit 7826176536801, [nat_lit 1, nat_lit 1, nat_lit 1]),
(nat_lit 473493985, [nat_lit 2, nat_lit 1]),
(nat_lit 7792085233889, [nat_lit 1, nat_lit 1, nat_lit 1]),
(nat_lit 3731937, [nat_lit 2, nat_lit 2])]
def tb3_6_1 : List (Nat × List Nat) := [(nat_lit 3699041, [nat_lit 1, nat_lit 4]),
(nat_lit 60871438689, [nat_lit 1, nat_lit 1, nat_lit 2]),
(nat_lit 477655393, [nat_lit 1, nat_lit 3]),
(nat_lit 7757452833121, [nat_lit 1, nat_lit 1, nat_lit 1, nat_lit 1]),
(nat_lit 475558241, [nat_lit 1, nat_lit 2]),
(nat_lit 7826172309857, [nat_lit 1, nat_lit 1, nat_lit 1]),
(nat_lit 60607197537, [nat_lit 1, nat_lit 2, nat_lit 1]),
(nat_lit 7792081006945, [nat_lit 1, nat_lit 1, nat_lit 1]),
(nat_lit 7826440745313, [nat_lit 1, nat_lit 1, nat_lit 1]),
(nat_lit 60605100385, [nat_lit 1, nat_lit 1, nat_lit 2]),
(nat_lit 7791546233185, [nat_lit 1, nat_lit 1, nat_lit 1]),
(nat_lit 7825905971553, [nat_lit 1, nat_lit 1, nat_lit 1]),
(nat_lit 7757454930273, [nat_lit 1, nat_lit 1, nat_lit 1]),
(nat_lit 60873535841, [nat_lit 1, nat_lit 1, nat_lit 2]),
(nat_lit 7826174407009, [nat_lit 1, nat_lit 1, nat_lit 1]),
(nat_lit 7757723365729, [nat_lit 1, nat_lit 1, nat_lit 1]),
(nat_lit 7792083104097, [nat_lit 1, nat_lit 1, nat_lit 1]),
(nat_lit 7826442842465, [nat_lit 1, nat_lit 1]),
(nat_lit 60607197537, [nat_lit 1, nat_lit 1, nat_lit 2]),
(nat_lit 7791548330337, [nat_lit 1, nat_lit 1, nat_lit 1]),
(nat_lit 7825908068705, [nat_lit 1, nat_lit 1, nat_lit 1]),
(nat_lit 7757457027425, [nat_lit 1, nat_lit 1, nat_lit 1]),
(nat_lit 7791816765793, [nat_lit 1, nat_lit 1, nat_lit 1]),
(nat_lit 7826176504161, [nat_lit 1, nat_lit 1]),
(nat_lit 7757725462881, [nat_lit 1, nat_lit 1, nat_lit 1]),
(nat_lit 7792085201249, [nat_lit 1, nat_lit 1]),
(nat_lit 7826444939617, [nat_lit 1, nat_lit 1, nat_lit 1]),
(nat_lit 60603019617, [nat_lit 1, nat_lit 1, nat_lit 2]),
(nat_lit 7791544152417, [nat_lit 1, nat_lit 1, nat_lit 1]),
(nat_lit 7825903890785, [nat_lit 1, nat_lit 1, nat_lit 1]),
(nat_lit 7757452849505, [nat_lit 1, nat_lit 1, nat_lit 1]),
(nat_lit 60871455073, [nat_lit 1, nat_lit 1, nat_lit 2]),
(nat_lit 7826172326241, [nat_lit 1, nat_lit 1, nat_lit 1]),
(nat_lit 7757721284961, [nat_lit 1, nat_lit 1, nat_lit 1]),
(nat_lit 7792081023329, [nat_lit 1, nat_lit 1, nat_lit 1]),
(nat_lit 7826440761697, [nat_lit 1, nat_lit 1]),
(nat_lit 473477473, [nat_lit 1, nat_lit 2]),
(nat_lit 7791546249569, [nat_lit 1, nat_lit 1, nat_lit 1, nat_lit 1]),
(nat_lit 7825905987937, [nat_lit 1, nat_lit 1, nat_lit 1]),
(nat_lit 60605116769, [nat_lit 1, nat_lit 1, nat_lit 2]),
(nat_lit 3715425, [nat_lit 1, nat_lit 4]),
(nat_lit 477671777, [nat_lit 1, nat_lit 3]),
(nat_lit 7757723382113, [nat_lit 1, nat_lit 1, nat_lit 1]),
(nat_lit 60875649377, [nat_lit 1, nat_lit 2, nat_lit 1]),
(nat_lit 7826442858849, [nat_lit 1, nat_lit 1, nat_lit 1]),
(nat_lit 7757188608353, [nat_lit 1, nat_lit 1, nat_lit 1]),
(nat_lit 7791548346721, [nat_lit 1, nat_lit 1, nat_lit 1]),
(nat_lit 7825908085089, [nat_lit 1, nat_lit 1]),
(nat_lit 7757457043809, [nat_lit 1, nat_lit 1, nat_lit 1]),
(nat_lit 60875649377, [nat_lit 1, nat_lit 1, nat_lit 2]),
(nat_lit 7826176520545, [nat_lit 1, nat_lit 1, nat_lit 1]),
(nat_lit 7757725479265, [nat_lit 1, nat_lit 1]),
(nat_lit 7792085217633, [nat_lit 1, nat_lit 1, nat_lit 1]),
(nat_lit 7826444956001, [nat_lit 1, nat_lit 1, nat_lit 1]),
(nat_lit 473493857, [nat_lit 1, nat_lit 3]),
(nat_lit 7791544168801, [nat_lit 1, nat_lit 1, nat_lit 1]),
(nat_lit 7825903907169, [nat_lit 1, nat_lit 1, nat_lit 1]),
(nat_lit 7757452865889, [nat_lit 1, nat_lit 1, nat_lit 1]),
(nat_lit 7791812604257, [nat_lit 1, nat_lit 1, nat_lit 1]),
(nat_lit 7826172342625, [nat_lit 1, nat_lit 1]),
(nat_lit 7757721301345, [nat_lit 1, nat_lit 1, nat_lit 1]),
(nat_lit 7792081039713, [nat_lit 1, nat_lit 1]),
(nat_lit 7826440778081, [nat_lit 1, nat_lit 1, nat_lit 1]),
(nat_lit 7757186527585, [nat_lit 1, nat_lit 1, nat_lit 1]),
(nat_lit 7791546265953, [nat_lit 1, nat_lit 1, nat_lit 1]),
(nat_lit 7825906004321, [nat_lit 1, nat_lit 1]),
(nat_lit 7757454963041, [nat_lit 1, nat_lit 1, nat_lit 1]),
(nat_lit 475591009, [nat_lit 1, nat_lit 3]),
(nat_lit 7826174439777, [nat_lit 1, nat_lit 1, nat_lit 1]),
(nat_lit 7757723398497, [nat_lit 1, nat_lit 1]),
(nat_lit 7792083136865, [nat_lit 1, nat_lit 1, nat_lit 1]),
(nat_lit 7826442875233, [nat_lit 1, nat_lit 1, nat_lit 1]),
(nat_lit 7757188624737, [nat_lit 1, nat_lit 1, nat_lit 1]),
(nat_lit 7791548363105, [nat_lit 1, nat_lit 1]),
(nat_lit 7825908101473, [nat_lit 1, nat_lit 1, nat_lit 1]),
(nat_lit 7757457060193, [nat_lit 1, nat_lit 1]),
(nat_lit 7791816798561, [nat_lit 1, nat_lit 1, nat_lit 1]),
(nat_lit 7826176536929, [nat_lit 1, nat_lit 1, nat_lit 1]),
(nat_lit 7757725495649, [nat_lit 1, nat_lit 1, nat_lit 1]),
(nat_lit 7792085234017, [nat_lit 1, nat_lit 1, nat_lit 1]),
(nat_lit 477688161, [nat_lit 1, nat_lit 3])]
def tb3_6_2 : List (Nat × List Nat) := [(nat_lit 3699169, [nat_lit 1, nat_lit 4]),
(nat_lit 475558369, [nat_lit 1, nat_lit 3]),
(nat_lit 61139874273, [nat_lit 1, nat_lit 1, nat_lit 2]),
(nat_lit 60605100513, [nat_lit 1, nat_lit 2, nat_lit 1]),
(nat_lit 7791812571617, [nat_lit 1, nat_lit 1, nat_lit 1]),
(nat_lit 7826172309985, [nat_lit 1, nat_lit 1, nat_lit 1]),
(nat_lit 7757721268705, [nat_lit 1, nat_lit 1, nat_lit 1, nat_lit 1]),
(nat_lit 7792081007073, [nat_lit 1, nat_lit 1, nat_lit 1]),
(nat_lit 477655521, [nat_lit 1, nat_lit 2]),
(nat_lit 60605100513, [nat_lit 1, nat_lit 1, nat_lit 2]),
(nat_lit 7791546233313, [nat_lit 1, nat_lit 1, nat_lit 1]),
(nat_lit 7825905971681, [nat_lit 1, nat_lit 1, nat_lit 1]),
(nat_lit 7757454930401, [nat_lit 1, nat_lit 1, nat_lit 1]),
(nat_lit 7791814668769, [nat_lit 1, nat_lit 1, nat_lit 1]),
(nat_lit 7826174407137, [nat_lit 1, nat_lit 1]),
(nat_lit 7757723365857, [nat_lit 1, nat_lit 1, nat_lit 1]),
(nat_lit 7792083104225, [nat_lit 1, nat_lit 1]),
(nat_lit 7826442842593, [nat_lit 1, nat_lit 1, nat_lit 1]),
(nat_lit 60607197665, [nat_lit 1, nat_lit 1, nat_lit 2]),
(nat_lit 7791548330465, [nat_lit 1, nat_lit 1, nat_lit 1]),
(nat_lit 7825908068833, [nat_lit 1, nat_lit 1, nat_lit 1]),
(nat_lit 7757457027553, [nat_lit 1, nat_lit 1, nat_lit 1]),
(nat_lit 7791816765921, [nat_lit 1, nat_lit 1]),
(nat_lit 7826176504289, [nat_lit 1, nat_lit 1, nat_lit 1]),
(nat_lit 7757725463009, [nat_lit 1, nat_lit 1, nat_lit 1]),
(nat_lit 7792085201377, [nat_lit 1, nat_lit 1, nat_lit 1]),
(nat_lit 61144068577, [nat_lit 1, nat_lit 1, nat_lit 2]),
(nat_lit 473477601, [nat_lit 1, nat_lit 3]),
(nat_lit 7791544152545, [nat_lit 1, nat_lit 1, nat_lit 1]),
(nat_lit 7825903890913, [nat_lit 1, nat_lit 1, nat_lit 1]),
(nat_lit 7757452849633, [nat_lit 1, nat_lit 1, nat_lit 1]),
(nat_lit 7791812588001, [nat_lit 1, nat_lit 1, nat_lit 1]),
(nat_lit 7826172326369, [nat_lit 1, nat_lit 1]),
(nat_lit 7757721285089, [nat_lit 1, nat_lit 1, nat_lit 1]),
(nat_lit 7792081023457, [nat_lit 1, nat_lit 1]),
(nat_lit 7826440761825, [nat_lit 1, nat_lit 1, nat_lit 1]),
(nat_lit 7757186511329, [nat_lit 1, nat_lit 1, nat_lit 1]),
(nat_lit 7791546249697, [nat_lit 1, nat_lit 1, nat_lit 1]),
(nat_lit 7825905988065, [nat_lit 1, nat_lit 1]),
(nat_lit 7757454946785, [nat_lit 1, nat_lit 1, nat_lit 1]),
(nat_lit 475574753, [nat_lit 1, nat_lit 3]),
(nat_lit 7826174423521, [nat_lit 1, nat_lit 1, nat_lit 1]),
(nat_lit 7757723382241, [nat_lit 1, nat_lit 1]),
(nat_lit 7792083120609, [nat_lit 1, nat_lit 1, nat_lit 1]),
(nat_lit 7826442858977, [nat_lit 1, nat_lit 1, nat_lit 1]),
(nat_lit 7757188608481, [nat_lit 1, nat_lit 1, nat_lit 1]),
(nat_lit 7791548346849, [nat_lit 1, nat_lit 1]),
(nat_lit 7825908085217, [nat_lit 1, nat_lit 1, nat_lit 1]),
(nat_lit 7757457043937, [nat_lit 1, nat_lit 1]),
(nat_lit 7791816782305, [nat_lit 1, nat_lit 1, nat_lit 1]),
(nat_lit 7826176520673, [nat_lit 1, nat_lit 1, nat_lit 1]),
(nat_lit 7757725479393, [nat_lit 1, nat_lit 1, nat_lit 1]),
(nat_lit 7792085217761, [nat_lit 1, nat_lit 1, nat_lit 1]),
(nat_lit 477671905, [nat_lit 1, nat_lit 3]),
(nat_lit 60603036129, [nat_lit 1, nat_lit 1, nat_lit 2]),
(nat_lit 7791544168929, [nat_lit 1, nat_lit 1, nat_lit 1]),
(nat_lit 7825903907297, [nat_lit 1, nat_lit 1, nat_lit 1]),
(nat_lit 7757452866017, [nat_lit 1, nat_lit 1, nat_lit 1]),
(nat_lit 7791812604385, [nat_lit 1, nat_lit 1]),
(nat_lit 7826172342753, [nat_lit 1, nat_lit 1, nat_lit 1]),
(nat_lit 7757721301473, [nat_lit 1, nat_lit 1, nat_lit 1]),
(nat_lit 7792081039841, [nat_lit 1, nat_lit 1, nat_lit 1]),
(nat_lit 61139907041, [nat_lit 1, nat_lit 1, nat_lit 2]),
(nat_lit 7757186527713, [nat_lit 1, nat_lit 1, nat_lit 1]),
(nat_lit 7791546266081, [nat_lit 1, nat_lit 1]),
(nat_lit 7825906004449, [nat_lit 1, nat_lit 1, nat_lit 1]),
(nat_lit 7757454963169, [nat_lit 1, nat_lit 1]),
(nat_lit 7791814701537, [nat_lit 1, nat_lit 1, nat_lit 1]),
(nat_lit 7826174439905, [nat_lit 1, nat_lit 1, nat_lit 1]),
(nat_lit 7757723398625, [nat_lit 1, nat_lit 1, nat_lit 1]),
(nat_lit 7792083136993, [nat_lit 1, nat_lit 1, nat_lit 1]),
(nat_lit 61142004193, [nat_lit 1, nat_lit 1, nat_lit 2]),
(nat_lit 473493985, [nat_lit 1, nat_lit 2]),
(nat_lit 7791548363233, [nat_lit 1, nat_lit 1, nat_lit 1]),
(nat_lit 7825908101601, [nat_lit 1, nat_lit 1, nat_lit 1, nat_lit 1]),
(nat_lit 7757457060321, [nat_lit 1, nat_lit 1, nat_lit 1]),
(nat_lit 7791816798689, [nat_lit 1, nat_lit 1, nat_lit 1]),
(nat_lit 61142004193, [nat_lit 1, nat_lit 2, nat_lit 1]),
(nat_lit 60607230433, [nat_lit 1, nat_lit 1, nat_lit 2]),
(nat_lit 475591137, [nat_lit 1, nat_lit 3]),
(nat_lit 3731937, [nat_lit 1, nat_lit 4])]
def tb3_6_3 : List (Nat × List Nat) := [(nat_lit 3698914, [nat_lit 1, nat_lit 4]),
(nat_lit 60871438562, [nat_lit 1, nat_lit 1, nat_lit 2]),
(nat_lit 477655266, [nat_lit 1, nat_lit 3]),
(nat_lit 7757452832994, [nat_lit 1, nat_lit 1, nat_lit 1, nat_lit 1]),
(nat_lit 475558114, [nat_lit 1, nat_lit 2]),
(nat_lit 7826172309730, [nat_lit 1, nat_lit 1, nat_lit 1]),
(nat_lit 60607197410, [nat_lit 1, nat_lit 2, nat_lit 1]),
(nat_lit 7792081006818, [nat_lit 1, nat_lit 1, nat_lit 1]),
(nat_lit 7826440745186, [nat_lit 1, nat_lit 1, nat_lit 1]),
(nat_lit 60605100258, [nat_lit 1, nat_lit 1, nat_lit 2]),
(nat_lit 7791546233058, [nat_lit 1, nat_lit 1, nat_lit 1]),
(nat_lit 7825905971426, [nat_lit 1, nat_lit 1, nat_lit 1]),
(nat_lit 7757454930146, [nat_lit 1, nat_lit 1, nat_lit 1]),
(nat_lit 60873535714, [nat_lit 1, nat_lit 1, nat_lit 2]),
(nat_lit 7826174406882, [nat_lit 1, nat_lit 1, nat_lit 1]),
(nat_lit 7757723365602, [nat_lit 1, nat_lit 1, nat_lit 1]),
(nat_lit 7792083103970, [nat_lit 1, nat_lit 1, nat_lit 1]),
(nat_lit 7826442842338, [nat_lit 1, nat_lit 1]),
(nat_lit 60607197410, [nat_lit 1, nat_lit 1, nat_lit 2]),
(nat_lit 7791548330210, [nat_lit 1, nat_lit 1, nat_lit 1]),
(nat_lit 7825908068578, [nat_lit 1, nat_lit 1, nat_lit 1]),
(nat_lit 7757457027298, [nat_lit 1, nat_lit 1, nat_lit 1]),
(nat_lit 7791816765666, [nat_lit 1, nat_lit 1, nat_lit 1]),
(nat_lit 7826176504034, [nat_lit 1, nat_lit 1]),
(nat_lit 7757725462754, [nat_lit 1, nat_lit 1, nat_lit 1]),
(nat_lit 7792085201122, [nat_lit 1, nat_lit 1]),
(nat_lit 7826444939490, [nat_lit 1, nat_lit 1, nat_lit 1]),
(nat_lit 60603019490, [nat_lit 1, nat_lit 1, nat_lit 2]),
(nat_lit 7791544152290, [nat_lit 1, nat_lit 1, nat_lit 1]),
(nat_lit 7825903890658, [nat_lit 1, nat_lit 1, nat_lit 1]),
(nat_lit 7757452849378, [nat_lit 1, nat_lit 1, nat_lit 1]),
(nat_lit 60871454946, [nat_lit 1, nat_lit 1, nat_lit 2]),
(nat_lit 7826172326114, [nat_lit 1, nat_lit 1, nat_lit 1]),
(nat_lit 7757721284834, [nat_lit 1, nat_lit 1, nat_lit 1]),
(nat_lit 7792081023202, [nat_lit 1, nat_lit 1, nat_lit 1]),
(nat_lit 7826440761570, [nat_lit 1, nat_lit 1]),
(nat_lit 473477346, [nat_lit 1, nat_lit 2]),
(nat_lit 7791546249442, [nat_lit 1, nat_lit 1, nat_lit 1, nat_lit 1]),
(nat_lit 7825905987810, [nat_lit 1, nat_lit 1, nat_lit 1]),
(nat_lit 60605116642, [nat_lit 1, nat_lit 1, nat_lit 2]),
(nat_lit 3715298, [nat_lit 1, nat_lit 4]),
(nat_lit 477671650, [nat_lit 1, nat_lit 3]),
(nat_lit 7757723381986, [nat_lit 1, nat_lit 1, nat_lit 1]),
(nat_lit 60875649250, [nat_lit 1, nat_lit 2, nat_lit 1]),
(nat_lit 7826442858722, [nat_lit 1, nat_lit 1, nat_lit 1]),
(nat_lit 7757188608226, [nat_lit 1, nat_lit 1, nat_lit 1]),
(nat_lit 7791548346594, [nat_lit 1, nat_lit 1, nat_lit 1]),
(nat_lit 7825908084962, [nat_lit 1, nat_lit 1]),
(nat_lit 7757457043682, [nat_lit 1, nat_lit 1, nat_lit 1]),
(nat_lit 60875649250, [nat_lit 1, nat_lit 1, nat_lit 2]),
(nat_lit 7826176520418, [nat_lit 1, nat_lit 1, nat_lit 1]),
(nat_lit 7757725479138, [nat_lit 1, nat_lit 1]),
(nat_lit 7792085217506, [nat_lit 1, nat_lit 1, nat_lit 1]),
(nat_lit 7826444955874, [nat_lit 1, nat_lit 1, nat_lit 1]),
(nat_lit 473493730, [nat_lit 1, nat_lit 3]),
(nat_lit 7791544168674, [nat_lit 1, nat_lit 1, nat_lit 1]),
(nat_lit 7825903907042, [nat_lit 1, nat_lit 1, nat_lit 1]),
(nat_lit 7757452865762, [nat_lit 1, nat_lit 1, nat_lit 1]),
(nat_lit 7791812604130, [nat_lit 1, nat_lit 1, nat_lit 1]),
(nat_lit 7826172342498, [nat_lit 1, nat_lit 1]),
(nat_lit 7757721301218, [nat_lit 1, nat_lit 1, nat_lit 1]),
(nat_lit 7792081039586, [nat_lit 1, nat_lit 1]),
(nat_lit 7826440777954, [nat_lit 1, nat_lit 1, nat_lit 1]),
(nat_lit 7757186527458, [nat_lit 1, nat_lit 1, nat_lit 1]),
(nat_lit 7791546265826, [nat_lit 1, nat_lit 1, nat_lit 1]),
(nat_lit 7825906004194, [nat_lit 1, nat_lit 1]),
(nat_lit 7757454962914, [nat_lit 1, nat_lit 1, nat_lit 1]),
(nat_lit 475590882, [nat_lit 1, nat_lit 3]),
(nat_lit 7826174439650, [nat_lit 1, nat_lit 1, nat_lit 1]),
(nat_lit 7757723398370, [nat_lit 1, nat_lit 1]),
(nat_lit 7792083136738, [nat_lit 1, nat_lit 1, nat_lit 1]),
(nat_lit 7826442875106, [nat_lit 1, nat_lit 1, nat_lit 1]),
(nat_lit 7757188624610, [nat_lit 1, nat_lit 1, nat_lit 1]),
(nat_lit 7791548362978, [nat_lit 1, nat_lit 1]),
(nat_lit 7825908101346, [nat_lit 1, nat_lit 1, nat_lit 1]),
(nat_lit 7757457060066, [nat_lit 1, nat_lit 1]),
(nat_lit 7791816798434, [nat_lit 1, nat_lit 1, nat_lit 1]),
(nat_lit 7826176536802, [nat_lit 1, nat_lit 1, nat_lit 1]),
(nat_lit 7757725495522, [nat_lit 1, nat_lit 1, nat_lit 1]),
(nat_lit 7792085233890, [nat_lit 1, nat_lit 1, nat_lit 1]),
(nat_lit 477688034, [nat_lit 1, nat_lit 3])]
def tb3_6_4 : List (Nat × List Nat) := [(nat_lit 3698914, [nat_lit 2, nat_lit 2]),
(nat_lit 475558114, [nat_lit 2, nat_lit 1]),
(nat_lit 7825903874402, [nat_lit 1, nat_lit 1, nat_lit 1]),
(nat_lit 473477346, [nat_lit 2, nat_lit 1]),
(nat_lit 3715298, [nat_lit 2, nat_lit 2]),
(nat_lit 7826172309858, [nat_lit 1, nat_lit 1, nat_lit 1]),
(nat_lit 7757721268578, [nat_lit 1, nat_lit 1, nat_lit 1]),
(nat_lit 7792081006946, [nat_lit 1, nat_lit 1, nat_lit 1]),
(nat_lit 3731682, [nat_lit 2]),
(nat_lit 7757186494818, [nat_lit 1, nat_lit 1, nat_lit 1]),
(nat_lit 7791546233186, [nat_lit 1, nat_lit 1, nat_lit 1, nat_lit 1]),
(nat_lit 7825905971554, [nat_lit 1, nat_lit 1, nat_lit 1]),
(nat_lit 60605100386, [nat_lit 1, nat_lit 1, nat_lit 2]),
(nat_lit 475558242, [nat_lit 1, nat_lit 1, nat_lit 3]),
(nat_lit 61141971298, [nat_lit 1, nat_lit 1, nat_lit 2]),
(nat_lit 7757723365730, [nat_lit 1, nat_lit 1, nat_lit 1]),
(nat_lit 7792083104098, [nat_lit 1, nat_lit 1, nat_lit 1, nat_lit 1]),
(nat_lit 7826442842466, [nat_lit 1, nat_lit 1, nat_lit 1]),
(nat_lit 7757188591970, [nat_lit 1, nat_lit 1, nat_lit 1]),
(nat_lit 7791548330338, [nat_lit 1, nat_lit 1, nat_lit 1]),
(nat_lit 7825908068706, [nat_lit 1, nat_lit 1]),
(nat_lit 7757457027426, [nat_lit 1, nat_lit 1, nat_lit 1]),
(nat_lit 60875632994, [nat_lit 1, nat_lit 1, nat_lit 2]),
(nat_lit 7826176504162, [nat_lit 1, nat_lit 1, nat_lit 1]),
(nat_lit 7757725462882, [nat_lit 1, nat_lit 1]),
(nat_lit 7792085201250, [nat_lit 1, nat_lit 1, nat_lit 1]),
(nat_lit 7826444939618, [nat_lit 1, nat_lit 1, nat_lit 1]),
(nat_lit 28898, [nat_lit 3]),
(nat_lit 475558242, [nat_lit 2, nat_lit 1, nat_lit 1]),
(nat_lit 7825903890786, [nat_lit 1, nat_lit 1, nat_lit 1]),
(nat_lit 7757452849506, [nat_lit 1, nat_lit 1, nat_lit 1, nat_lit 1]),
(nat_lit 475558242, [nat_lit 1, nat_lit 2, nat_lit 2]),
(nat_lit 61141971298, [nat_lit 1, nat_lit 2, nat_lit 1]),
(nat_lit 7757721284962, [nat_lit 1, nat_lit 1, nat_lit 1]),
(nat_lit 60875632994, [nat_lit 1, nat_lit 2, nat_lit 1]),
(nat_lit 7826440761698, [nat_lit 1, nat_lit 1, nat_lit 1]),
(nat_lit 3699042, [nat_lit 2, nat_lit 2]),
(nat_lit 475558242, [nat_lit 1, nat_lit 3, nat_lit 1]),
(nat_lit 477655394, [nat_lit 1, nat_lit 3]),
(nat_lit 3699042, [nat_lit 1, nat_lit 4]),
(nat_lit 226, [nat_lit 6]),
(nat_lit 3731810, [nat_lit 1, nat_lit 4]),
(nat_lit 473493858, [nat_lit 1, nat_lit 3]),
(nat_lit 475591010, [nat_lit 1, nat_lit 3, nat_lit 1]),
(nat_lit 3731810, [nat_lit 2, nat_lit 2]),
(nat_lit 7757188608354, [nat_lit 1, nat_lit 1, nat_lit 1]),
(nat_lit 60871471458, [nat_lit 1, nat_lit 2, nat_lit 1]),
(nat_lit 7825908085090, [nat_lit 1, nat_lit 1, nat_lit 1]),
(nat_lit 60605133154, [nat_lit 1, nat_lit 2, nat_lit 1]),
(nat_lit 475591010, [nat_lit 1, nat_lit 2, nat_lit 2]),
(nat_lit 7826176520546, [nat_lit 1, nat_lit 1, nat_lit 1, nat_lit 1]),
(nat_lit 7757725479266, [nat_lit 1, nat_lit 1, nat_lit 1]),
(nat_lit 475591010, [nat_lit 2, nat_lit 1, nat_lit 1]),
(nat_lit 29154, [nat_lit 3]),
(nat_lit 7757184430434, [nat_lit 1, nat_lit 1, nat_lit 1]),
(nat_lit 7791544168802, [nat_lit 1, nat_lit 1, nat_lit 1]),
(nat_lit 7825903907170, [nat_lit 1, nat_lit 1]),
(nat_lit 7757452865890, [nat_lit 1, nat_lit 1, nat_lit 1]),
(nat_lit 60871471458, [nat_lit 1, nat_lit 1, nat_lit 2]),
(nat_lit 7826172342626, [nat_lit 1, nat_lit 1, nat_lit 1]),
(nat_lit 7757721301346, [nat_lit 1, nat_lit 1]),
(nat_lit 7792081039714, [nat_lit 1, nat_lit 1, nat_lit 1]),
(nat_lit 7826440778082, [nat_lit 1, nat_lit 1, nat_lit 1]),
(nat_lit 7757186527586, [nat_lit 1, nat_lit 1, nat_lit 1]),
(nat_lit 7791546265954, [nat_lit 1, nat_lit 1, nat_lit 1, nat_lit 1]),
(nat_lit 7825906004322, [nat_lit 1, nat_lit 1, nat_lit 1]),
(nat_lit 60605133154, [nat_lit 1, nat_lit 1, nat_lit 2]),
(nat_lit 475591010, [nat_lit 1, nat_lit 1, nat_lit 3]),
(nat_lit 61142004066, [nat_lit 1, nat_lit 1, nat_lit 2]),
(nat_lit 7757723398498, [nat_lit 1, nat_lit 1, nat_lit 1]),
(nat_lit 7792083136866, [nat_lit 1, nat_lit 1, nat_lit 1, nat_lit 1]),
(nat_lit 7826442875234, [nat_lit 1, nat_lit 1, nat_lit 1]),
(nat_lit 3699170, [nat_lit 2]),
(nat_lit 7791548363106, [nat_lit 1, nat_lit 1, nat_lit 1]),
(nat_lit 7825908101474, [nat_lit 1, nat_lit 1, nat_lit 1]),
(nat_lit 7757457060194, [nat_lit 1, nat_lit 1, nat_lit 1]),
(nat_lit 3715554, [nat_lit 2, nat_lit 2]),
(nat_lit 477671906, [nat_lit 2, nat_lit 1]),
(nat_lit 7757725495650, [nat_lit 1, nat_lit 1, nat_lit 1]),
(nat_lit 475591138, [nat_lit 2, nat_lit 1]),
(nat_lit 3731938, [nat_lit 2, nat_lit 2])]
def tb3_6_5 : List (Nat × List Nat) := [(nat_lit 473461218, [nat_lit 1, nat_lit 3]),
(nat_lit 7791544136162, [nat_lit 1, nat_lit 1, nat_lit 1]),
(nat_lit 7825903874530, [nat_lit 1, nat_lit 1, nat_lit 1]),
(nat_lit 7757452833250, [nat_lit 1, nat_lit 1, nat_lit 1]),
(nat_lit 7791812571618, [nat_lit 1, nat_lit 1, nat_lit 1]),
(nat_lit 7826172309986, [nat_lit 1, nat_lit 1]),
(nat_lit 7757721268706, [nat_lit 1, nat_lit 1, nat_lit 1]),
(nat_lit 7792081007074, [nat_lit 1, nat_lit 1]),
(nat_lit 7826440745442, [nat_lit 1, nat_lit 1, nat_lit 1]),
(nat_lit 7757186494946, [nat_lit 1, nat_lit 1, nat_lit 1]),
(nat_lit 7791546233314, [nat_lit 1, nat_lit 1, nat_lit 1]),
(nat_lit 7825905971682, [nat_lit 1, nat_lit 1]),
(nat_lit 7757454930402, [nat_lit 1, nat_lit 1, nat_lit 1]),
(nat_lit 475558370, [nat_lit 1, nat_lit 3]),
(nat_lit 7826174407138, [nat_lit 1, nat_lit 1, nat_lit 1]),
(nat_lit 7757723365858, [nat_lit 1, nat_lit 1]),
(nat_lit 7792083104226, [nat_lit 1, nat_lit 1, nat_lit 1]),
(nat_lit 7826442842594, [nat_lit 1, nat_lit 1, nat_lit 1]),
(nat_lit 7757188592098, [nat_lit 1, nat_lit 1, nat_lit 1]),
(nat_lit 7791548330466, [nat_lit 1, nat_lit 1]),
(nat_lit 7825908068834, [nat_lit 1, nat_lit 1, nat_lit 1]),
(nat_lit 7757457027554, [nat_lit 1, nat_lit 1]),
(nat_lit 7791816765922, [nat_lit 1, nat_lit 1, nat_lit 1]),
(nat_lit 7826176504290, [nat_lit 1, nat_lit 1, nat_lit 1]),
(nat_lit 7757725463010, [nat_lit 1, nat_lit 1, nat_lit 1]),
(nat_lit 7792085201378, [nat_lit 1, nat_lit 1, nat_lit 1]),
(nat_lit 477655522, [nat_lit 1, nat_lit 3]),
(nat_lit 7757184414178, [nat_lit 1, nat_lit 1, nat_lit 1]),
(nat_lit 7791544152546, [nat_lit 1, nat_lit 1, nat_lit 1]),
(nat_lit 7825903890914, [nat_lit 1, nat_lit 1]),
(nat_lit 7757452849634, [nat_lit 1, nat_lit 1, nat_lit 1]),
(nat_lit 60871455202, [nat_lit 1, nat_lit 1, nat_lit 2]),
(nat_lit 7826172326370, [nat_lit 1, nat_lit 1, nat_lit 1]),
(nat_lit 7757721285090, [nat_lit 1, nat_lit 1]),
(nat_lit 7792081023458, [nat_lit 1, nat_lit 1, nat_lit 1]),
(nat_lit 7826440761826, [nat_lit 1, nat_lit 1, nat_lit 1]),
(nat_lit 7757186511330, [nat_lit 1, nat_lit 1, nat_lit 1]),
(nat_lit 60871455202, [nat_lit 1, nat_lit 2, nat_lit 1]),
(nat_lit 7825905988066, [nat_lit 1, nat_lit 1, nat_lit 1]),
(nat_lit 473477602, [nat_lit 1, nat_lit 3]),
(nat_lit 3715554, [nat_lit 1, nat_lit 4]),
(nat_lit 61141987810, [nat_lit 1, nat_lit 1, nat_lit 2]),
(nat_lit 7757723382242, [nat_lit 1, nat_lit 1, nat_lit 1]),
(nat_lit 7792083120610, [nat_lit 1, nat_lit 1, nat_lit 1, nat_lit 1]),
(nat_lit 477671906, [nat_lit 1, nat_lit 2]),
(nat_lit 7757188608482, [nat_lit 1, nat_lit 1]),
(nat_lit 7791548346850, [nat_lit 1, nat_lit 1, nat_lit 1]),
(nat_lit 7825908085218, [nat_lit 1, nat_lit 1, nat_lit 1]),
(nat_lit 7757457043938, [nat_lit 1, nat_lit 1, nat_lit 1]),
(nat_lit 60875649506, [nat_lit 1, nat_lit 1, nat_lit 2]),
(nat_lit 7826176520674, [nat_lit 1, nat_lit 1, nat_lit 1]),
(nat_lit 7757725479394, [nat_lit 1, nat_lit 1, nat_lit 1]),
(nat_lit 7792085217762, [nat_lit 1, nat_lit 1, nat_lit 1]),
(nat_lit 61144084962, [nat_lit 1, nat_lit 1, nat_lit 2]),
(nat_lit 7757184430562, [nat_lit 1, nat_lit 1, nat_lit 1]),
(nat_lit 7791544168930, [nat_lit 1, nat_lit 1]),
(nat_lit 7825903907298, [nat_lit 1, nat_lit 1, nat_lit 1]),
(nat_lit 7757452866018, [nat_lit 1, nat_lit 1]),
(nat_lit 7791812604386, [nat_lit 1, nat_lit 1, nat_lit 1]),
(nat_lit 7826172342754, [nat_lit 1, nat_lit 1, nat_lit 1]),
(nat_lit 7757721301474, [nat_lit 1, nat_lit 1, nat_lit 1]),
(nat_lit 7792081039842, [nat_lit 1, nat_lit 1, nat_lit 1]),
(nat_lit 61139907042, [nat_lit 1, nat_lit 1, nat_lit 2]),
(nat_lit 7757186527714, [nat_lit 1, nat_lit 1]),
(nat_lit 7791546266082, [nat_lit 1, nat_lit 1, nat_lit 1]),
(nat_lit 7825906004450, [nat_lit 1, nat_lit 1, nat_lit 1]),
(nat_lit 7757454963170, [nat_lit 1, nat_lit 1, nat_lit 1]),
(nat_lit 60873568738, [nat_lit 1, nat_lit 1, nat_lit 2]),
(nat_lit 7826174439906, [nat_lit 1, nat_lit 1, nat_lit 1]),
(nat_lit 7757723398626, [nat_lit 1, nat_lit 1, nat_lit 1]),
(nat_lit 7792083136994, [nat_lit 1, nat_lit 1, nat_lit 1]),
(nat_lit 61142004194, [nat_lit 1, nat_lit 1, nat_lit 2]),
(nat_lit 7757188624866, [nat_lit 1, nat_lit 1, nat_lit 1]),
(nat_lit 7791548363234, [nat_lit 1, nat_lit 1, nat_lit 1]),
(nat_lit 61139907042, [nat_lit 1, nat_lit 2, nat_lit 1]),
(nat_lit 7757457060322, [nat_lit 1, nat_lit 1, nat_lit 1]),
(nat_lit 475591138, [nat_lit 1, nat_lit 2]),
(nat_lit 7826176537058, [nat_lit 1, nat_lit 1, nat_lit 1, nat_lit 1]),
(nat_lit 473493986, [nat_lit 1, nat_lit 3]),
(nat_lit 60875665890, [nat_lit 1, nat_lit 1, nat_lit 2]),
(nat_lit 3731938, [nat_lit 1, nat_lit 4])]
def tb3_6_6 : List (Nat × List Nat) := [(nat_lit 3698915, [nat_lit 1, nat_lit 4]),
(nat_lit 475558115, [nat_lit 1, nat_lit 3]),
(nat_lit 61139874019, [nat_lit 1, nat_lit 1, nat_lit 2]),
(nat_lit 60605100259, [nat_lit 1, nat_lit 2, nat_lit 1]),
(nat_lit 7791812571363, [nat_lit 1, nat_lit 1, nat_lit 1]),
(nat_lit 7826172309731, [nat_lit 1, nat_lit 1, nat_lit 1]),
(nat_lit 7757721268451, [nat_lit 1, nat_lit 1, nat_lit 1, nat_lit 1]),
(nat_lit 7792081006819, [nat_lit 1, nat_lit 1, nat_lit 1]),
(nat_lit 477655267, [nat_lit 1, nat_lit 2]),
(nat_lit 60605100259, [nat_lit 1, nat_lit 1, nat_lit 2]),
(nat_lit 7791546233059, [nat_lit 1, nat_lit 1, nat_lit 1]),
(nat_lit 7825905971427, [nat_lit 1, nat_lit 1, nat_lit 1]),
(nat_lit 7757454930147, [nat_lit 1, nat_lit 1, nat_lit 1]),
(nat_lit 7791814668515, [nat_lit 1, nat_lit 1, nat_lit 1]),
(nat_lit 7826174406883, [nat_lit 1, nat_lit 1]),
(nat_lit 7757723365603, [nat_lit 1, nat_lit 1, nat_lit 1]),
(nat_lit 7792083103971, [nat_lit 1, nat_lit 1]),
(nat_lit 7826442842339, [nat_lit 1, nat_lit 1, nat_lit 1]),
(nat_lit 60607197411, [nat_lit 1, nat_lit 1, nat_lit 2]),
(nat_lit 7791548330211, [nat_lit 1, nat_lit 1, nat_lit 1]),
(nat_lit 7825908068579, [nat_lit 1, nat_lit 1, nat_lit 1]),
(nat_lit 7757457027299, [nat_lit 1, nat_lit 1, nat_lit 1]),
(nat_lit 7791816765667, [nat_lit 1, nat_lit 1]),
(nat_lit 7826176504035, [nat_lit 1, nat_lit 1, nat_lit 1]),
(nat_lit 7757725462755, [nat_lit 1, nat_lit 1, nat_lit 1]),
(nat_lit 7792085201123, [nat_lit 1, nat_lit 1, nat_lit 1]),
(nat_lit 61144068323, [nat_lit 1, nat_lit 1, nat_lit 2]),
(nat_lit 473477347, [nat_lit 1, nat_lit 3]),
(nat_lit 7791544152291, [nat_lit 1, nat_lit 1, nat_lit 1]),
(nat_lit 7825903890659, [nat_lit 1, nat_lit 1, nat_lit 1]),
(nat_lit 7757452849379, [nat_lit 1, nat_lit 1, nat_lit 1]),
(nat_lit 7791812587747, [nat_lit 1, nat_lit 1, nat_lit 1]),
(nat_lit 7826172326115, [nat_lit 1, nat_lit 1]),
(nat_lit 7757721284835, [nat_lit 1, nat_lit 1, nat_lit 1]),
(nat_lit 7792081023203, [nat_lit 1, nat_lit 1]),
(nat_lit 7826440761571, [nat_lit 1, nat_lit 1, nat_lit 1]),
(nat_lit 7757186511075, [nat_lit 1, nat_lit 1, nat_lit 1]),
(nat_lit 7791546249443, [nat_lit 1, nat_lit 1, nat_lit 1]),
(nat_lit 7825905987811, [nat_lit 1, nat_lit 1]),
(nat_lit 7757454946531, [nat_lit 1, nat_lit 1, nat_lit 1]),
(nat_lit 475574499, [nat_lit 1, nat_lit 3]),
(nat_lit 7826174423267, [nat_lit 1, nat_lit 1, nat_lit 1]),
(nat_lit 7757723381987, [nat_lit 1, nat_lit 1]),
(nat_lit 7792083120355, [nat_lit 1, nat_lit 1, nat_lit 1]),
(nat_lit 7826442858723, [nat_lit 1, nat_lit 1, nat_lit 1]),
(nat_lit 7757188608227, [nat_lit 1, nat_lit 1, nat_lit 1]),
(nat_lit 7791548346595, [nat_lit 1, nat_lit 1]),
(nat_lit 7825908084963, [nat_lit 1, nat_lit 1, nat_lit 1]),
(nat_lit 7757457043683, [nat_lit 1, nat_lit 1]),
(nat_lit 7791816782051, [nat_lit 1, nat_lit 1, nat_lit 1]),
(nat_lit 7826176520419, [nat_lit 1, nat_lit 1, nat_lit 1]),
(nat_lit 7757725479139, [nat_lit 1, nat_lit 1, nat_lit 1]),
(nat_lit 7792085217507, [nat_lit 1, nat_lit 1, nat_lit 1]),
(nat_lit 477671651, [nat_lit 1, nat_lit 3]),
(nat_lit 60603035875, [nat_lit 1, nat_lit 1, nat_lit 2]),
(nat_lit 7791544168675, [nat_lit 1, nat_lit 1, nat_lit 1]),
(nat_lit 7825903907043, [nat_lit 1, nat_lit 1, nat_lit 1]),
(nat_lit 7757452865763, [nat_lit 1, nat_lit 1, nat_lit 1]),
(nat_lit 7791812604131, [nat_lit 1, nat_lit 1]),
(nat_lit 7826172342499, [nat_lit 1, nat_lit 1, nat_lit 1]),
(nat_lit 7757721301219, [nat_lit 1, nat_lit 1, nat_lit 1]),
(nat_lit 7792081039587, [nat_lit 1, nat_lit 1, nat_lit 1]),
(nat_lit 61139906787, [nat_lit 1, nat_lit 1, nat_lit 2]),
(nat_lit 7757186527459, [nat_lit 1, nat_lit 1, nat_lit 1]),
(nat_lit 7791546265827, [nat_lit 1, nat_lit 1]),
(nat_lit 7825906004195, [nat_lit 1, nat_lit 1, nat_lit 1]),
(nat_lit 7757454962915, [nat_lit 1, nat_lit 1]),
(nat_lit 7791814701283, [nat_lit 1, nat_lit 1, nat_lit 1]),
(nat_lit 7826174439651, [nat_lit 1, nat_lit 1, nat_lit 1]),
(nat_lit 7757723398371, [nat_lit 1, nat_lit 1, nat_lit 1]),
(nat_lit 7792083136739, [nat_lit 1, nat_lit 1, nat_lit 1]),
(nat_lit 61142003939, [nat_lit 1, nat_lit 1, nat_lit 2]),
(nat_lit 473493731, [nat_lit 1, nat_lit 2]),
(nat_lit 7791548362979, [nat_lit 1, nat_lit 1, nat_lit 1]),
(nat_lit 7825908101347, [nat_lit 1, nat_lit 1, nat_lit 1, nat_lit 1]),
(nat_lit 7757457060067, [nat_lit 1, nat_lit 1, nat_lit 1]),
(nat_lit 7791816798435, [nat_lit 1, nat_lit 1, nat_lit 1]),
(nat_lit 61142003939, [nat_lit 1, nat_lit 2, nat_lit 1]),
(nat_lit 60607230179, [nat_lit 1, nat_lit 1, nat_lit 2]),
(nat_lit 475590883, [nat_lit 1, nat_lit 3]),
(nat_lit 3731683, [nat_lit 1, nat_lit 4])]
def tb3_6_7 : List (Nat × List Nat) := [(nat_lit 473461091, [nat_lit 1, nat_lit 3]),
(nat_lit 7791544136035, [nat_lit 1, nat_lit 1, nat_lit 1]),
(nat_lit 7825903874403, [nat_lit 1, nat_lit 1, nat_lit 1]),
(nat_lit 7757452833123, [nat_lit 1, nat_lit 1, nat_lit 1]),
(nat_lit 7791812571491, [nat_lit 1, nat_lit 1, nat_lit 1]),
(nat_lit 7826172309859, [nat_lit 1, nat_lit 1]),
(nat_lit 7757721268579, [nat_lit 1, nat_lit 1, nat_lit 1]),
(nat_lit 7792081006947, [nat_lit 1, nat_lit 1]),
(nat_lit 7826440745315, [nat_lit 1, nat_lit 1, nat_lit 1]),
(nat_lit 7757186494819, [nat_lit 1, nat_lit 1, nat_lit 1]),
(nat_lit 7791546233187, [nat_lit 1, nat_lit 1, nat_lit 1]),
(nat_lit 7825905971555, [nat_lit 1, nat_lit 1]),
(nat_lit 7757454930275, [nat_lit 1, nat_lit 1, nat_lit 1]),
(nat_lit 475558243, [nat_lit 1, nat_lit 3]),
(nat_lit 7826174407011, [nat_lit 1, nat_lit 1, nat_lit 1]),
(nat_lit 7757723365731, [nat_lit 1, nat_lit 1]),
(nat_lit 7792083104099, [nat_lit 1, nat_lit 1, nat_lit 1]),
(nat_lit 7826442842467, [nat_lit 1, nat_lit 1, nat_lit 1]),
(nat_lit 7757188591971, [nat_lit 1, nat_lit 1, nat_lit 1]),
(nat_lit 7791548330339, [nat_lit 1, nat_lit 1]),
(nat_lit 7825908068707, [nat_lit 1, nat_lit 1, nat_lit 1]),
(nat_lit 7757457027427, [nat_lit 1, nat_lit 1]),
(nat_lit 7791816765795, [nat_lit 1, nat_lit 1, nat_lit 1]),
(nat_lit 7826176504163, [nat_lit 1, nat_lit 1, nat_lit 1]),
(nat_lit 7757725462883, [nat_lit 1, nat_lit 1, nat_lit 1]),
(nat_lit 7792085201251, [nat_lit 1, nat_lit 1, nat_lit 1]),
(nat_lit 477655395, [nat_lit 1, nat_lit 3]),
(nat_lit 7757184414051, [nat_lit 1, nat_lit 1, nat_lit 1]),
(nat_lit 7791544152419, [nat_lit 1, nat_lit 1, nat_lit 1]),
(nat_lit 7825903890787, [nat_lit 1, nat_lit 1]),
(nat_lit 7757452849507, [nat_lit 1, nat_lit 1, nat_lit 1]),
(nat_lit 60871455075, [nat_lit 1, nat_lit 1, nat_lit 2]),
(nat_lit 7826172326243, [nat_lit 1, nat_lit 1, nat_lit 1]),
(nat_lit 7757721284963, [nat_lit 1, nat_lit 1]),
(nat_lit 7792081023331, [nat_lit 1, nat_lit 1, nat_lit 1]),
(nat_lit 7826440761699, [nat_lit 1, nat_lit 1, nat_lit 1]),
(nat_lit 7757186511203, [nat_lit 1, nat_lit 1, nat_lit 1]),
(nat_lit 60871455075, [nat_lit 1, nat_lit 2, nat_lit 1]),
(nat_lit 7825905987939, [nat_lit 1, nat_lit 1, nat_lit 1]),
(nat_lit 473477475, [nat_lit 1, nat_lit 3]),
(nat_lit 3715427, [nat_lit 1, nat_lit 4]),
(nat_lit 61141987683, [nat_lit 1, nat_lit 1, nat_lit 2]),
(nat_lit 7757723382115, [nat_lit 1, nat_lit 1, nat_lit 1]),
(nat_lit 7792083120483, [nat_lit 1, nat_lit 1, nat_lit 1, nat_lit 1]),
(nat_lit 477671779, [nat_lit 1, nat_lit 2]),
(nat_lit 7757188608355, [nat_lit 1, nat_lit 1]),
(nat_lit 7791548346723, [nat_lit 1, nat_lit 1, nat_lit 1]),
(nat_lit 7825908085091, [nat_lit 1, nat_lit 1, nat_lit 1]),
(nat_lit 7757457043811, [nat_lit 1, nat_lit 1, nat_lit 1]),
(nat_lit 60875649379, [nat_lit 1, nat_lit 1, nat_lit 2]),
(nat_lit 7826176520547, [nat_lit 1, nat_lit 1, nat_lit 1]),
(nat_lit 7757725479267, [nat_lit 1, nat_lit 1, nat_lit 1]),
(nat_lit 7792085217635, [nat_lit 1, nat_lit 1, nat_lit 1]),
(nat_lit 61144084835, [nat_lit 1, nat_lit 1, nat_lit 2]),
(nat_lit 7757184430435, [nat_lit 1, nat_lit 1, nat_lit 1]),
(nat_lit 7791544168803, [nat_lit 1, nat_lit 1]),
(nat_lit 7825903907171, [nat_lit 1, nat_lit 1, nat_lit 1]),
(nat_lit 7757452865891, [nat_lit 1, nat_lit 1]),
(nat_lit 7791812604259, [nat_lit 1, nat_lit 1, nat_lit 1]),
(nat_lit 7826172342627, [nat_lit 1, nat_lit 1, nat_lit 1]),
(nat_lit 7757721301347, [nat_lit 1, nat_lit 1, nat_lit 1]),
(nat_lit 7792081039715, [nat_lit 1, nat_lit 1, nat_lit 1]),
(nat_lit 61139906915, [nat_lit 1, nat_lit 1, nat_lit 2]),
(nat_lit 7757186527587, [nat_lit 1, nat_lit 1]),
(nat_lit 7791546265955, [nat_lit 1, nat_lit 1, nat_lit 1]),
(nat_lit 7825906004323, [nat_lit 1, nat_lit 1, nat_lit 1]),
(nat_lit 7757454963043, [nat_lit 1, nat_lit 1, nat_lit 1]),
(nat_lit 60873568611, [nat_lit 1, nat_lit 1, nat_lit 2]),
(nat_lit 7826174439779, [nat_lit 1, nat_lit 1, nat_lit 1]),
(nat_lit 7757723398499, [nat_lit 1, nat_lit 1, nat_lit 1]),
(nat_lit 7792083136867, [nat_lit 1, nat_lit 1, nat_lit 1]),
(nat_lit 61142004067, [nat_lit 1, nat_lit 1, nat_lit 2]),
(nat_lit 7757188624739, [nat_lit 1, nat_lit 1, nat_lit 1]),
(nat_lit 7791548363107, [nat_lit 1, nat_lit 1, nat_lit 1]),
(nat_lit 61139906915, [nat_lit 1, nat_lit 2, nat_lit 1]),
(nat_lit 7757457060195, [nat_lit 1, nat_lit 1, nat_lit 1]),
(nat_lit 475591011, [nat_lit 1, nat_lit 2]),
(nat_lit 7826176536931, [nat_lit 1, nat_lit 1, nat_lit 1, nat_lit 1]),
(nat_lit 473493859, [nat_lit 1, nat_lit 3]),
(nat_lit 60875665763, [nat_lit 1, nat_lit 1, nat_lit 2]),
(nat_lit 3731811, [nat_lit 1, nat_lit 4])]
def tb3_6_8 : List (Nat × List Nat) := [(nat_lit 3698915, [nat_lit 2, nat_lit 2]),
(nat_lit 7791544136163, [nat_lit 1, nat_lit 1, nat_lit 1]),
(nat_lit 477655267, [nat_lit 2, nat_lit 1]),
(nat_lit 7757452833251, [nat_lit 1, nat_lit 1, nat_lit 1]),
(nat_lit 3715299, [nat_lit 2]),
(nat_lit 7826172309987, [nat_lit 1, nat_lit 1, nat_lit 1]),
(nat_lit 473493731, [nat_lit 2, nat_lit 1]),
(nat_lit 7792081007075, [nat_lit 1, nat_lit 1, nat_lit 1]),
(nat_lit 3731683, [nat_lit 2, nat_lit 2]),
(nat_lit 7757186494947, [nat_lit 1, nat_lit 1, nat_lit 1]),
(nat_lit 7791546233315, [nat_lit 1, nat_lit 1]),
(nat_lit 7825905971683, [nat_lit 1, nat_lit 1, nat_lit 1]),
(nat_lit 7757454930403, [nat_lit 1, nat_lit 1]),
(nat_lit 7791814668771, [nat_lit 1, nat_lit 1, nat_lit 1]),
(nat_lit 7826174407139, [nat_lit 1, nat_lit 1, nat_lit 1]),
(nat_lit 7757723365859, [nat_lit 1, nat_lit 1, nat_lit 1]),
(nat_lit 7792083104227, [nat_lit 1, nat_lit 1, nat_lit 1]),
(nat_lit 61141971427, [nat_lit 1, nat_lit 1, nat_lit 2]),
(nat_lit 7757188592099, [nat_lit 1, nat_lit 1, nat_lit 1]),
(nat_lit 7791548330467, [nat_lit 1, nat_lit 1, nat_lit 1]),
(nat_lit 7825908068835, [nat_lit 1, nat_lit 1, nat_lit 1, nat_lit 1]),
(nat_lit 7757457027555, [nat_lit 1, nat_lit 1, nat_lit 1]),
(nat_lit 7791816765923, [nat_lit 1, nat_lit 1, nat_lit 1]),
(nat_lit 7826176504291, [nat_lit 1, nat_lit 1, nat_lit 1, nat_lit 1]),
(nat_lit 60607197667, [nat_lit 1, nat_lit 1, nat_lit 2]),
(nat_lit 60875633123, [nat_lit 1, nat_lit 1, nat_lit 2]),
(nat_lit 477655523, [nat_lit 1, nat_lit 1, nat_lit 3]),
(nat_lit 7757184414179, [nat_lit 1, nat_lit 1, nat_lit 1]),
(nat_lit 7791544152547, [nat_lit 1, nat_lit 1]),
(nat_lit 7825903890915, [nat_lit 1, nat_lit 1, nat_lit 1]),
(nat_lit 7757452849635, [nat_lit 1, nat_lit 1]),
(nat_lit 7791812588003, [nat_lit 1, nat_lit 1, nat_lit 1]),
(nat_lit 7826172326371, [nat_lit 1, nat_lit 1, nat_lit 1]),
(nat_lit 7757721285091, [nat_lit 1, nat_lit 1, nat_lit 1]),
(nat_lit 7792081023459, [nat_lit 1, nat_lit 1, nat_lit 1]),
(nat_lit 61139890659, [nat_lit 1, nat_lit 1, nat_lit 2]),
(nat_lit 3699043, [nat_lit 2]),
(nat_lit 7791546249699, [nat_lit 1, nat_lit 1, nat_lit 1]),
(nat_lit 7825905988067, [nat_lit 1, nat_lit 1, nat_lit 1]),
(nat_lit 7757454946787, [nat_lit 1, nat_lit 1, nat_lit 1]),
(nat_lit 3715427, [nat_lit 2, nat_lit 2]),
(nat_lit 477671779, [nat_lit 2, nat_lit 1]),
(nat_lit 7757723382243, [nat_lit 1, nat_lit 1, nat_lit 1]),
(nat_lit 475591011, [nat_lit 2, nat_lit 1]),
(nat_lit 3731811, [nat_lit 2, nat_lit 2]),
(nat_lit 7757188608483, [nat_lit 1, nat_lit 1, nat_lit 1]),
(nat_lit 7791548346851, [nat_lit 1, nat_lit 1, nat_lit 1]),
(nat_lit 7825908085219, [nat_lit 1, nat_lit 1, nat_lit 1, nat_lit 1]),
(nat_lit 7757457043939, [nat_lit 1, nat_lit 1, nat_lit 1]),
(nat_lit 7791816782307, [nat_lit 1, nat_lit 1, nat_lit 1]),
(nat_lit 7826176520675, [nat_lit 1, nat_lit 1, nat_lit 1, nat_lit 1]),
(nat_lit 60607214051, [nat_lit 1, nat_lit 1, nat_lit 2]),
(nat_lit 60875649507, [nat_lit 1, nat_lit 1, nat_lit 2]),
(nat_lit 477671907, [nat_lit 1, nat_lit 1, nat_lit 3]),
(nat_lit 28899, [nat_lit 3]),
(nat_lit 7791544168931, [nat_lit 1, nat_lit 1, nat_lit 1]),
(nat_lit 477655523, [nat_lit 2, nat_lit 1, nat_lit 1]),
(nat_lit 7757452866019, [nat_lit 1, nat_lit 1, nat_lit 1]),
(nat_lit 7791812604387, [nat_lit 1, nat_lit 1, nat_lit 1]),
(nat_lit 61141971427, [nat_lit 1, nat_lit 2, nat_lit 1]),
(nat_lit 7757721301475, [nat_lit 1, nat_lit 1, nat_lit 1, nat_lit 1]),
(nat_lit 60875633123, [nat_lit 1, nat_lit 2, nat_lit 1]),
(nat_lit 477655523, [nat_lit 1, nat_lit 2, nat_lit 2]),
(nat_lit 7757186527715, [nat_lit 1, nat_lit 1, nat_lit 1]),
(nat_lit 7791546266083, [nat_lit 1, nat_lit 1, nat_lit 1]),
(nat_lit 61139890659, [nat_lit 1, nat_lit 2, nat_lit 1]),
(nat_lit 7757454963171, [nat_lit 1, nat_lit 1, nat_lit 1]),
(nat_lit 29027, [nat_lit 3]),
(nat_lit 477671907, [nat_lit 2, nat_lit 1, nat_lit 1]),
(nat_lit 60607214051, [nat_lit 1, nat_lit 2, nat_lit 1]),
(nat_lit 7792083136995, [nat_lit 1, nat_lit 1, nat_lit 1, nat_lit 1]),
(nat_lit 477671907, [nat_lit 1, nat_lit 2, nat_lit 2]),
(nat_lit 3699171, [nat_lit 2, nat_lit 2]),
(nat_lit 475558371, [nat_lit 1, nat_lit 3]),
(nat_lit 477655523, [nat_lit 1, nat_lit 3, nat_lit 1]),
(nat_lit 473477603, [nat_lit 1, nat_lit 3]),
(nat_lit 3715555, [nat_lit 2, nat_lit 2]),
(nat_lit 477671907, [nat_lit 1, nat_lit 3, nat_lit 1]),
(nat_lit 3699171, [nat_lit 1, nat_lit 4]),
(nat_lit 3715555, [nat_lit 1, nat_lit 4]),
(nat_lit 227, [nat_lit 6])]
def tc3_6 : List (List (Nat × List Nat)) := [tb3_6_0, tb3_6_1, tb3_6_2, tb3_6_3, tb3_6_4, tb3_6_5, tb3_6_6, tb3_6_7, tb3_6_8]
def tab : Nat → Nat → List (List (Nat × List Nat))
  | 1, 0 => tc1_0
  | 1, 1 => tc1_1
  | 1, 2 => tc1_2
  | 1, 3 => tc1_3
  | 1, 4 => tc1_4
  | 1, 5 => tc1_5
  | 1, 6 => tc1_6
  | 2, 0 => tc2_0
  | 2, 1 => tc2_1
  | 2, 2 => tc2_2
  | 2, 3 => tc2_3
  | 2, 4 => tc2_4
  | 2, 5 => tc2_5
  | 2, 6 => tc2_6
  | 3, 0 => tc3_0
  | 3, 1 => tc3_1
  | 3, 2 => tc3_2
  | 3, 3 => tc3_3
  | 3, 4 => tc3_4
  | 3, 5 => tc3_5
  | 3, 6 => tc3_6
  | _, _ => []
def tone : List (Nat × List Nat × List Nat) := [(nat_lit 1, [], []),
(nat_lit 225, [nat_lit 1], [nat_lit 97]),
(nat_lit 226, [nat_lit 1], [nat_lit 98]),
(nat_lit 227, [nat_lit 1], [nat_lit 99]),
(nat_lit 225, [nat_lit 2], [nat_lit 97, nat_lit 97]),
(nat_lit 29025, [nat_lit 1], [nat_lit 97, nat_lit 98]),
(nat_lit 29153, [nat_lit 1], [nat_lit 97, nat_lit 99]),
(nat_lit 28898, [nat_lit 1], [nat_lit 98, nat_lit 97]),
(nat_lit 226, [nat_lit 2], [nat_lit 98, nat_lit 98]),
(nat_lit 29154, [nat_lit 1], [nat_lit 98, nat_lit 99]),
(nat_lit 28899, [nat_lit 1], [nat_lit 99, nat_lit 97]),
(nat_lit 29027, [nat_lit 1], [nat_lit 99, nat_lit 98]),
(nat_lit 227, [nat_lit 2], [nat_lit 99, nat_lit 99]),
(nat_lit 225, [nat_lit 3], [nat_lit 97, nat_lit 97, nat_lit 97]),
(nat_lit 3715297, [nat_lit 1, nat_lit 1], [nat_lit 97, nat_lit 97, nat_lit 98]),
(nat_lit 3731681, [nat_lit 1, nat_lit 1], [nat_lit 97, nat_lit 97, nat_lit 99]),
(nat_lit 3699041, [nat_lit 1, nat_lit 1], [nat_lit 97, nat_lit 98, nat_lit 97]),
(nat_lit 3715425, [nat_lit 1, nat_lit 1], [nat_lit 97, nat_lit 98, nat_lit 98]),
(nat_lit 3731809, [nat_lit 1], [nat_lit 97, nat_lit 98, nat_lit 99]),
(nat_lit 3699169, [nat_lit 1, nat_lit 1], [nat_lit 97, nat_lit 99, nat_lit 97]),
(nat_lit 3715553, [nat_lit 1], [nat_lit 97, nat_lit 99, nat_lit 98]),
(nat_lit 3731937, [nat_lit 1, nat_lit 1], [nat_lit 97, nat_lit 99, nat_lit 99]),
(nat_lit 3698914, [nat_lit 1, nat_lit 1], [nat_lit 98, nat_lit 97, nat_lit 97]),
(nat_lit 3715298, [nat_lit 1, nat_lit 1], [nat_lit 98, nat_lit 97, nat_lit 98]),
(nat_lit 3731682, [nat_lit 1], [nat_lit 98, nat_lit 97, nat_lit 99]),
(nat_lit 3699042, [nat_lit 1, nat_lit 1], [nat_lit 98, nat_lit 98, nat_lit 97]),
(nat_lit 226, [nat_lit 3], [nat_lit 98, nat_lit 98, nat_lit 98]),
(nat_lit 3731810, [nat_lit 1, nat_lit 1], [nat_lit 98, nat_lit 98, nat_lit 99]),
(nat_lit 3699170, [nat_lit 1], [nat_lit 98, nat_lit 99, nat_lit 97]),
(nat_lit 3715554, [nat_lit 1, nat_lit 1], [nat_lit 98, nat_lit 99, nat_lit 98]),
(nat_lit 3731938, [nat_lit 1, nat_lit 1], [nat_lit 98, nat_lit 99, nat_lit 99]),
(nat_lit 3698915, [nat_lit 1, nat_lit 1], [nat_lit 99, nat_lit 97, nat_lit 97]),
(nat_lit 3715299, [nat_lit 1], [nat_lit 99, nat_lit 97, nat_lit 98]),
(nat_lit 3731683, [nat_lit 1, nat_lit 1], [nat_lit 99, nat_lit 97, nat_lit 99]),
(nat_lit 3699043, [nat_lit 1], [nat_lit 99, nat_lit 98, nat_lit 97]),
(nat_lit 3715427, [nat_lit 1, nat_lit 1], [nat_lit 99, nat_lit 98, nat_lit 98]),
(nat_lit 3731811, [nat_lit 1, nat_lit 1], [nat_lit 99, nat_lit 98, nat_lit 99]),
(nat_lit 3699171, [nat_lit 1, nat_lit 1], [nat_lit 99, nat_lit 99, nat_lit 97]),
(nat_lit 3715555, [nat_lit 1, nat_lit 1], [nat_lit 99, nat_lit 99, nat_lit 98]),
(nat_lit 227, [nat_lit 3], [nat_lit 99, nat_lit 99, nat_lit 99]),
(nat_lit 225, [nat_lit 4], [nat_lit 97, nat_lit 97, nat_lit 97, nat_lit 97]),
(nat_lit 3715297, [nat_lit 1, nat_lit 2], [nat_lit 97, nat_lit 97, nat_lit 97, nat_lit 98]),
(nat_lit 3731681, [nat_lit 1, nat_lit 2], [nat_lit 97, nat_lit 97, nat_lit 97, nat_lit 99]),
(nat_lit 473477345, [nat_lit 1, nat_lit 1, nat_lit 1], [nat_lit 97, nat_lit 97, nat_lit 98, nat_lit 97]),
(nat_lit 29025, [nat_lit 2], [nat_lit 97, nat_lit 97, nat_lit 98, nat_lit 98]),
(nat_lit 477671649, [nat_lit 1, nat_lit 1], [nat_lit 97, nat_lit 97, nat_lit 98, nat_lit 99]),
(nat_lit 473493729, [nat_lit 1, nat_lit 1, nat_lit 1], [nat_lit 97, nat_lit 97, nat_lit 99, nat_lit 97]),
(nat_lit 475590881, [nat_lit 1, nat_lit 1], [nat_lit 97, nat_lit 97, nat_lit 99, nat_lit 98]),
(nat_lit 29153, [nat_lit 2], [nat_lit 97, nat_lit 97, nat_lit 99, nat_lit 99]),
(nat_lit 3699041, [nat_lit 1, nat_lit 2], [nat_lit 97, nat_lit 98, nat_lit 97, nat_lit 97]),
(nat_lit 475558241, [nat_lit 1, nat_lit 1], [nat_lit 97, nat_lit 98, nat_lit 97, nat_lit 98]),
(nat_lit 477655393, [nat_lit 1, nat_lit 1], [nat_lit 97, nat_lit 98, nat_lit 97, nat_lit 99]),
(nat_lit 473477473, [nat_lit 1, nat_lit 1], [nat_lit 97, nat_lit 98, nat_lit 98, nat_lit 97]),
(nat_lit 3715425, [nat_lit 1, nat_lit 2], [nat_lit 97, nat_lit 98, nat_lit 98, nat_lit 98]),
(nat_lit 477671777, [nat_lit 1, nat_lit 1], [nat_lit 97, nat_lit 98, nat_lit 98, nat_lit 99]),
(nat_lit 473493857, [nat_lit 1, nat_lit 1], [nat_lit 97, nat_lit 98, nat_lit 99, nat_lit 97]),
(nat_lit 475591009, [nat_lit 1, nat_lit 1], [nat_lit 97, nat_lit 98, nat_lit 99, nat_lit 98]),
(nat_lit 477688161, [nat_lit 1, nat_lit 1], [nat_lit 97, nat_lit 98, nat_lit 99, nat_lit 99]),
(nat_lit 3699169, [nat_lit 1, nat_lit 2], [nat_lit 97, nat_lit 99, nat_lit 97, nat_lit 97]),
(nat_lit 475558369, [nat_lit 1, nat_lit 1], [nat_lit 97, nat_lit 99, nat_lit 97, nat_lit 98]),
(nat_lit 477655521, [nat_lit 1, nat_lit 1], [nat_lit 97, nat_lit 99, nat_lit 97, nat_lit 99]),
(nat_lit 473477601, [nat_lit 1, nat_lit 1], [nat_lit 97, nat_lit 99, nat_lit 98, nat_lit 97]),
(nat_lit 475574753, [nat_lit 1, nat_lit 1], [nat_lit 97, nat_lit 99, nat_lit 98, nat_lit 98]),
(nat_lit 477671905, [nat_lit 1, nat_lit 1], [nat_lit 97, nat_lit 99, nat_lit 98, nat_lit 99]),
(nat_lit 473493985, [nat_lit 1, nat_lit 1], [nat_lit 97, nat_lit 99, nat_lit 99, nat_lit 97]),
(nat_lit 475591137, [nat_lit 1, nat_lit 1], [nat_lit 97, nat_lit 99, nat_lit 99, nat_lit 98]),
(nat_lit 3731937, [nat_lit 1, nat_lit 2], [nat_lit 97, nat_lit 99, nat_lit 99, nat_lit 99]),
(nat_lit 3698914, [nat_lit 1, nat_lit 2], [nat_lit 98, nat_lit 97, nat_lit 97, nat_lit 97]),
(nat_lit 475558114, [nat_lit 1, nat_lit 1], [nat_lit 98, nat_lit 97, nat_lit 97, nat_lit 98]),
(nat_lit 477655266, [nat_lit 1, nat_lit 1], [nat_lit 98, nat_lit 97, nat_lit 97, nat_lit 99]),
(nat_lit 473477346, [nat_lit 1, nat_lit 1], [nat_lit 98, nat_lit 97, nat_lit 98, nat_lit 97]),
(nat_lit 3715298, [nat_lit 1, nat_lit 2], [nat_lit 98, nat_lit 97, nat_lit 98, nat_lit 98]),
(nat_lit 477671650, [nat_lit 1, nat_lit 1], [nat_lit 98, nat_lit 97, nat_lit 98, nat_lit 99]),
(nat_lit 473493730, [nat_lit 1, nat_lit 1], [nat_lit 98, nat_lit 97, nat_lit 99, nat_lit 97]),
(nat_lit 475590882, [nat_lit 1, nat_lit 1], [nat_lit 98, nat_lit 97, nat_lit 99, nat_lit 98]),
(nat_lit 477688034, [nat_lit 1, nat_lit 1], [nat_lit 98, nat_lit 97, nat_lit 99, nat_lit 99]),
(nat_lit 28898, [nat_lit 2], [nat_lit 98, nat_lit 98, nat_lit 97, nat_lit 97]),
(nat_lit 475558242, [nat_lit 1, nat_lit 1, nat_lit 1], [nat_lit 98, nat_lit 98, nat_lit 97, nat_lit 98]),
(nat_lit 477655394, [nat_lit 1, nat_lit 1], [nat_lit 98, nat_lit 98, nat_lit 97, nat_lit 99]),
(nat_lit 3699042, [nat_lit 1, nat_lit 2], [nat_lit 98, nat_lit 98, nat_lit 98, nat_lit 97]),
(nat_lit 226, [nat_lit 4], [nat_lit 98, nat_lit 98, nat_lit 98, nat_lit 98]),
(nat_lit 3731810, [nat_lit 1, nat_lit 2], [nat_lit 98, nat_lit 98, nat_lit 98, nat_lit 99]),
(nat_lit 473493858, [nat_lit 1, nat_lit 1], [nat_lit 98, nat_lit 98, nat_lit 99, nat_lit 97]),
(nat_lit 475591010, [nat_lit 1, nat_lit 1, nat_lit 1], [nat_lit 98, nat_lit 98, nat_lit 99, nat_lit 98]),
(nat_lit 29154, [nat_lit 2], [nat_lit 98, nat_lit 98, nat_lit 99, nat_lit 99]),
(nat_lit 473461218, [nat_lit 1, nat_lit 1], [nat_lit 98, nat_lit 99, nat_lit 97, nat_lit 97]),
(nat_lit 475558370, [nat_lit 1, nat_lit 1], [nat_lit 98, nat_lit 99, nat_lit 97, nat_lit 98]),
(nat_lit 477655522, [nat_lit 1, nat_lit 1], [nat_lit 98, nat_lit 99, nat_lit 97, nat_lit 99]),
(nat_lit 473477602, [nat_lit 1, nat_lit 1], [nat_lit 98, nat_lit 99, nat_lit 98, nat_lit 97]),
(nat_lit 3715554, [nat_lit 1, nat_lit 2], [nat_lit 98, nat_lit 99, nat_lit 98, nat_lit 98]),
(nat_lit 477671906, [nat_lit 1, nat_lit 1], [nat_lit 98, nat_lit 99, nat_lit 98, nat_lit 99]),
(nat_lit 473493986, [nat_lit 1, nat_lit 1], [nat_lit 98, nat_lit 99, nat_lit 99, nat_lit 97]),
(nat_lit 475591138, [nat_lit 1, nat_lit 1], [nat_lit 98, nat_lit 99, nat_lit 99, nat_lit 98]),
(nat_lit 3731938, [nat_lit 1, nat_lit 2], [nat_lit 98, nat_lit 99, nat_lit 99, nat_lit 99]),
(nat_lit 3698915, [nat_lit 1, nat_lit 2], [nat_lit 99, nat_lit 97, nat_lit 97, nat_lit 97]),
(nat_lit 475558115, [nat_lit 1, nat_lit 1], [nat_lit 99, nat_lit 97, nat_lit 97, nat_lit 98]),
(nat_lit 477655267, [nat_lit 1, nat_lit 1], [nat_lit 99, nat_lit 97, nat_lit 97, nat_lit 99]),
(nat_lit 473477347, [nat_lit 1, nat_lit 1], [nat_lit 99, nat_lit 97, nat_lit 98, nat_lit 97]),
(nat_lit 475574499, [nat_lit 1, nat_lit 1], [nat_lit 99, nat_lit 97, nat_lit 98, nat_lit 98]),
(nat_lit 477671651, [nat_lit 1, nat_lit 1], [nat_lit 99, nat_lit 97, nat_lit 98, nat_lit 99]),
(nat_lit 473493731, [nat_lit 1, nat_lit 1], [nat_lit 99, nat_lit 97, nat_lit 99, nat_lit 97]),
(nat_lit 475590883, [nat_lit 1, nat_lit 1], [nat_lit 99, nat_lit 97, nat_lit 99, nat_lit 98]),
(nat_lit 3731683, [nat_lit 1, nat_lit 2], [nat_lit 99, nat_lit 97, nat_lit 99, nat_lit 99]),
(nat_lit 473461091, [nat_lit 1, nat_lit 1], [nat_lit 99, nat_lit 98, nat_lit 97, nat_lit 97]),
(nat_lit 475558243, [nat_lit 1, nat_lit 1], [nat_lit 99, nat_lit 98, nat_lit 97, nat_lit 98]),
(nat_lit 477655395, [nat_lit 1, nat_lit 1], [nat_lit 99, nat_lit 98, nat_lit 97, nat_lit 99]),
(nat_lit 473477475, [nat_lit 1, nat_lit 1], [nat_lit 99, nat_lit 98, nat_lit 98, nat_lit 97]),
(nat_lit 3715427, [nat_lit 1, nat_lit 2], [nat_lit 99, nat_lit 98, nat_lit 98, nat_lit 98]),
(nat_lit 477671779, [nat_lit 1, nat_lit 1], [nat_lit 99, nat_lit 98, nat_lit 98, nat_lit 99]),
(nat_lit 473493859, [nat_lit 1, nat_lit 1], [nat_lit 99, nat_lit 98, nat_lit 99, nat_lit 97]),
(nat_lit 475591011, [nat_lit 1, nat_lit 1], [nat_lit 99, nat_lit 98, nat_lit 99, nat_lit 98]),
(nat_lit 3731811, [nat_lit 1, nat_lit 2], [nat_lit 99, nat_lit 98, nat_lit 99, nat_lit 99]),
(nat_lit 28899, [nat_lit 2], [nat_lit 99, nat_lit 99, nat_lit 97, nat_lit 97]),
(nat_lit 475558371, [nat_lit 1, nat_lit 1], [nat_lit 99, nat_lit 99, nat_lit 97, nat_lit 98]),
(nat_lit 477655523, [nat_lit 1, nat_lit 1, nat_lit 1], [nat_lit 99, nat_lit 99, nat_lit 97, nat_lit 99]),
(nat_lit 473477603, [nat_lit 1, nat_lit 1], [nat_lit 99, nat_lit 99, nat_lit 98, nat_lit 97]),
(nat_lit 29027, [nat_lit 2], [nat_lit 99, nat_lit 99, nat_lit 98, nat_lit 98]),
(nat_lit 477671907, [nat_lit 1, nat_lit 1, nat_lit 1], [nat_lit 99, nat_lit 99, nat_lit 98, nat_lit 99]),
(nat_lit 3699171, [nat_lit 1, nat_lit 2], [nat_lit 99, nat_lit 99, nat_lit 99, nat_lit 97]),
(nat_lit 3715555, [nat_lit 1, nat_lit 2], [nat_lit 99, nat_lit 99, nat_lit 99, nat_lit 98]),
(nat_lit 227, [nat_lit 4], [nat_lit 99, nat_lit 99, nat_lit 99, nat_lit 99])]
noncomputable def hits (c : Nat) (g : List Nat) (T : List (Nat × List Nat)) : Nat := List.rec (motive := fun _ => Nat) 0 (fun p _ ih => Bool.rec (motive := fun _ => Nat) ih (Bool.rec (motive := fun _ => Nat) ih (Nat.succ ih) (leL p.2 g)) (Nat.beq p.1 c)) T
noncomputable def hitsL (c : Nat) (g : List Nat) (T : List (List (Nat × List Nat))) : Nat := List.rec (motive := fun _ => Nat) 0 (fun p _ ih => Nat.add (hits c g p) ih) T
noncomputable def held2 (m c : Nat) (g : List Nat) (k : Nat) : Nat := Nat.rec (motive := fun _ => Nat) 0 (fun k ih => Nat.add ih (hitsL c g (tab m k))) k
noncomputable def okC (m k : Nat) (C : List (Nat × List Nat)) : Bool := C.all fun p => Nat.beq (held2 m p.1 p.2 (k + 1)) (prodN p.2)
noncomputable def chk (o : List Nat) : Bool := tone.all fun p => Bool.rec (motive := fun _ => Bool) true (Bool.rec (motive := fun _ => Bool) true (Bool.rec (motive := fun _ => Bool) ((rowsM (maxCnt p.2.2)).any fun r => eqL (imgM r p.2.2) o) true (Nat.ble 4 (maxCnt o))) (leL p.2.1 (gapsM o))) (Nat.beq p.1 (enc (coreM o)))
def chk1 (one : List Nat) : Bool := (rowsM (maxCnt one)).all fun r => sayingM one (imgM r one)
def words4 : List (List Nat) := wordsM 3 0 ++ (wordsM 3 1 ++ (wordsM 3 2 ++ (wordsM 3 3 ++ wordsM 3 4)))
theorem tone_is : words4.map (fun w => (enc (coreM w), gapsM w, w)) = tone := by decide +kernel
theorem tb10 : (wordsM 1 0).map ent = (tab 1 0).flatten := by decide +kernel
theorem tb11 : (wordsM 1 1).map ent = (tab 1 1).flatten := by decide +kernel
theorem tb12 : (wordsM 1 2).map ent = (tab 1 2).flatten := by decide +kernel
theorem tb13 : (wordsM 1 3).map ent = (tab 1 3).flatten := by decide +kernel
theorem tb14 : (wordsM 1 4).map ent = (tab 1 4).flatten := by decide +kernel
theorem tb15 : (wordsM 1 5).map ent = (tab 1 5).flatten := by decide +kernel
theorem tb16 : (wordsM 1 6).map ent = (tab 1 6).flatten := by decide +kernel
theorem tb20 : (wordsM 2 0).map ent = (tab 2 0).flatten := by decide +kernel
theorem tb21 : (wordsM 2 1).map ent = (tab 2 1).flatten := by decide +kernel
theorem tb22 : (wordsM 2 2).map ent = (tab 2 2).flatten := by decide +kernel
theorem tb23 : (wordsM 2 3).map ent = (tab 2 3).flatten := by decide +kernel
theorem tb24 : (wordsM 2 4).map ent = (tab 2 4).flatten := by decide +kernel
theorem tb25 : (wordsM 2 5).map ent = (tab 2 5).flatten := by decide +kernel
theorem tb26 : (wordsM 2 6).map ent = (tab 2 6).flatten := by decide +kernel
theorem tb30 : (wordsM 3 0).map ent = (tab 3 0).flatten := by decide +kernel
theorem tb31 : (wordsM 3 1).map ent = (tab 3 1).flatten := by decide +kernel
theorem tb32 : (wordsM 3 2).map ent = (tab 3 2).flatten := by decide +kernel
theorem tb33 : (wordsM 3 3).map ent = (tab 3 3).flatten := by decide +kernel
theorem tb34 : (wordsM 3 4).map ent = (tab 3 4).flatten := by decide +kernel
theorem tb35 : (wordsM 3 5).map ent = (tab 3 5).flatten := by decide +kernel
theorem tb36 : (wordsM 3 6).map ent = (tab 3 6).flatten := by decide +kernel
theorem ok10 : (tab 1 0).all (okC 1 0) = true := by decide +kernel
theorem ok11 : (tab 1 1).all (okC 1 1) = true := by decide +kernel
theorem ok12 : (tab 1 2).all (okC 1 2) = true := by decide +kernel
theorem ok13 : (tab 1 3).all (okC 1 3) = true := by decide +kernel
theorem ok14 : (tab 1 4).all (okC 1 4) = true := by decide +kernel
theorem ok15 : (tab 1 5).all (okC 1 5) = true := by decide +kernel
theorem ok16 : (tab 1 6).all (okC 1 6) = true := by decide +kernel
theorem ok20 : (tab 2 0).all (okC 2 0) = true := by decide +kernel
theorem ok21 : (tab 2 1).all (okC 2 1) = true := by decide +kernel
theorem ok22 : (tab 2 2).all (okC 2 2) = true := by decide +kernel
theorem ok23 : (tab 2 3).all (okC 2 3) = true := by decide +kernel
theorem ok24 : (tab 2 4).all (okC 2 4) = true := by decide +kernel
theorem ok25 : (tab 2 5).all (okC 2 5) = true := by decide +kernel
theorem ok26 : (tab 2 6).all (okC 2 6) = true := by decide +kernel
theorem ok30 : (tab 3 0).all (okC 3 0) = true := by decide +kernel
theorem ok31 : (tab 3 1).all (okC 3 1) = true := by decide +kernel
theorem ok32 : (tab 3 2).all (okC 3 2) = true := by decide +kernel
theorem ok33 : (tab 3 3).all (okC 3 3) = true := by decide +kernel
theorem ok34 : (tab 3 4).all (okC 3 4) = true := by decide +kernel
theorem ok35 : (tab 3 5).all (okC 3 5) = true := by decide +kernel
theorem ok36 : (tab 3 6).all (okC 3 6) = true := by decide +kernel
theorem c10 : (wordsM 3 0).all chk1 = true := by decide +kernel
theorem c11 : (wordsM 3 1).all chk1 = true := by decide +kernel
theorem c12 : (wordsM 3 2).all chk1 = true := by decide +kernel
theorem c13 : (wordsM 3 3).all chk1 = true := by decide +kernel
theorem c14 : (wordsM 3 4).all chk1 = true := by decide +kernel
theorem c20 : (wordsM 3 0).all chk = true := by decide +kernel
theorem c21 : (wordsM 3 1).all chk = true := by decide +kernel
theorem c22 : (wordsM 3 2).all chk = true := by decide +kernel
theorem c23 : (wordsM 3 3).all chk = true := by decide +kernel
theorem c24 : (wordsM 3 4).all chk = true := by decide +kernel
theorem c25 : (wordsM 3 5).all chk = true := by decide +kernel
theorem c26 : (wordsM 3 6).all chk = true := by decide +kernel
theorem c27 : (wordsM 3 7).all chk = true := by decide +kernel
theorem run_mem : ∀ (l : List Nat) {c n : Nat}, (c, n) ∈ runsR l → c ∈ l
  | [], _, _, h => nomatch h
  | x :: r, c, n, h => by
    have ih := @run_mem r
    have h' : (c, n) ∈ (match runsR r with
      | [] => [(x, cnt x r + 1)]
      | (d, m) :: q => bif Nat.beq d x then (x, cnt x r + 1) :: q else (x, cnt x r + 1) :: (d, m) :: q) := h
    split at h'
    · have e := List.mem_singleton.mp h'
      cases e
      exact List.mem_cons_self
    · rename_i d m q e
      cases hb : Nat.beq d x <;> rw [hb] at h'
      · rcases List.mem_cons.mp h' with z | z
        · cases z; exact List.mem_cons_self
        · exact List.mem_cons_of_mem _ (ih (by rw [e]; exact z))
      · rcases List.mem_cons.mp h' with z | z
        · cases z; exact List.mem_cons_self
        · exact List.mem_cons_of_mem _ (ih (by rw [e]; exact List.mem_cons_of_mem _ z))
theorem reix_mem (ms : List Nat) : ∀ (q : List (Nat × Nat)) {c n : Nat}, (c, n) ∈ reix ms q → ∃ m, (c, m) ∈ q
  | [], _, _, h => nomatch h
  | (d, k) :: q, c, n, h => by
    rcases List.mem_cons.mp (show (c, n) ∈ (d, idxN k ms) :: reix ms q from h) with z | z
    · cases z; exact ⟨k, List.mem_cons_self⟩
    · obtain ⟨m, hm⟩ := reix_mem ms q z
      exact ⟨m, List.mem_cons_of_mem _ hm⟩
theorem wordR_mem : ∀ (q : List (Nat × Nat)) {c : Nat}, c ∈ wordR q → ∃ n, (c, n) ∈ q
  | [], _, h => nomatch h
  | (d, k) :: q, c, h => by
    rcases List.mem_append.mp (show c ∈ List.replicate (k - lastc d q) d ++ wordR q from h) with z | z
    · rw [(List.mem_replicate.mp z).2]; exact ⟨k, List.mem_cons_self⟩
    · obtain ⟨m, hm⟩ := wordR_mem q z
      exact ⟨m, List.mem_cons_of_mem _ hm⟩
theorem core_mem {w : List Nat} {c : Nat} (h : c ∈ coreM w) : c ∈ w := by
  obtain ⟨n, hn⟩ := wordR_mem _ (List.mem_reverse.mp h)
  obtain ⟨m, hm⟩ := reix_mem _ _ hn
  exact List.mem_reverse.mp (run_mem _ hm)
theorem enc_pos : ∀ a, 1 ≤ enc a
  | [] => Nat.le_refl 1
  | x :: r => by
    have := enc_pos r
    show 1 ≤ enc r * 128 + x
    omega
theorem enc_inj : ∀ {a b : List Nat}, (∀ c ∈ a, c < 128) → (∀ c ∈ b, c < 128) → enc a = enc b → a = b
  | [], [], _, _, _ => rfl
  | [], y :: q, _, _, e => by
    have := enc_pos q
    have e' : 1 = enc q * 128 + y := e
    omega
  | x :: r, [], _, _, e => by
    have := enc_pos r
    have e' : enc r * 128 + x = 1 := e
    omega
  | x :: r, y :: q, ha, hb, e => by
    have e' : enc r * 128 + x = enc q * 128 + y := e
    have h1 := ha x List.mem_cons_self
    have h2 := hb y List.mem_cons_self
    have h3 : x = y := by omega
    have h4 : enc r = enc q := by omega
    rw [h3, enc_inj (fun c h => ha c (List.mem_cons_of_mem _ h)) (fun c h => hb c (List.mem_cons_of_mem _ h)) h4]
theorem let_small {many c : Nat} (h : c ∈ letM many) : c < 128 := by
  have h3 : c ∈ [97, 98, 99] := List.mem_of_mem_take h
  simp only [List.mem_cons, List.mem_nil_iff, or_false] at h3
  omega
theorem eqL_enc {u v : List Nat} (hu : ∀ c ∈ u, c ∈ letM 3) (hv : ∀ c ∈ v, c ∈ letM 3) : eqL (coreM u) (coreM v) = Nat.beq (enc (coreM u)) (enc (coreM v)) := by
  rw [Bool.eq_iff_iff, eqL_iff]
  constructor
  · intro h
    rw [h]
    exact Nat.beq_refl _
  · intro h
    exact enc_inj (fun c hc => let_small (hu c (core_mem hc))) (fun c hc => let_small (hv c (core_mem hc))) (Nat.eq_of_beq_eq_true h)
theorem hits_is {o : List Nat} (ho : ∀ c ∈ o, c ∈ letM 3) : ∀ (ws : List (List Nat)), (∀ w ∈ ws, ∀ c ∈ w, c ∈ letM 3) → (ws.filter fun w => sayingM w o).length = hits (enc (coreM o)) (gapsM o) (ws.map ent)
  | [], _ => rfl
  | w :: r, h => by
    have ih := hits_is ho r fun u hu => h u (List.mem_cons_of_mem _ hu)
    have e := eqL_enc (h w List.mem_cons_self) ho
    show _ = Bool.rec (motive := fun _ => Nat) (hits (enc (coreM o)) (gapsM o) (r.map ent)) (Bool.rec (motive := fun _ => Nat) (hits (enc (coreM o)) (gapsM o) (r.map ent)) (Nat.succ (hits (enc (coreM o)) (gapsM o) (r.map ent))) (leL (gapsM w) (gapsM o))) (Nat.beq (enc (coreM w)) (enc (coreM o)))
    rw [← ih, ← e, List.filter_cons]
    unfold sayingM
    cases eqL (coreM w) (coreM o)
    · rfl
    · cases leL (gapsM w) (gapsM o)
      · rfl
      · rfl
theorem hits_app (c : Nat) (g : List Nat) : ∀ (a b : List (Nat × List Nat)), hits c g (a ++ b) = hits c g a + hits c g b
  | [], b => (Nat.zero_add _).symm
  | p :: a, b => by
    have ih := hits_app c g a b
    show Bool.rec (motive := fun _ => Nat) (hits c g (a ++ b)) (Bool.rec (motive := fun _ => Nat) (hits c g (a ++ b)) (Nat.succ (hits c g (a ++ b))) (leL p.2 g)) (Nat.beq p.1 c) = Bool.rec (motive := fun _ => Nat) (hits c g a) (Bool.rec (motive := fun _ => Nat) (hits c g a) (Nat.succ (hits c g a)) (leL p.2 g)) (Nat.beq p.1 c) + hits c g b
    rw [ih]
    cases Nat.beq p.1 c
    · rfl
    · cases leL p.2 g
      · rfl
      · exact (Nat.succ_add _ _).symm
theorem hits_flat (c : Nat) (g : List Nat) : ∀ (T : List (List (Nat × List Nat))), hits c g T.flatten = hitsL c g T
  | [] => rfl
  | a :: r => by
    rw [List.flatten_cons, hits_app, hits_flat c g r]
    rfl
theorem tab_is (m k : Nat) (h1 : 1 ≤ m) (h3 : m ≤ 3) (hk : k ≤ 6) : (wordsM m k).map ent = (tab m k).flatten := by
  obtain rfl | rfl | rfl : m = 1 ∨ m = 2 ∨ m = 3 := by omega
  · match k, hk with
    | 0, _ => exact tb10
    | 1, _ => exact tb11
    | 2, _ => exact tb12
    | 3, _ => exact tb13
    | 4, _ => exact tb14
    | 5, _ => exact tb15
    | 6, _ => exact tb16
  · match k, hk with
    | 0, _ => exact tb20
    | 1, _ => exact tb21
    | 2, _ => exact tb22
    | 3, _ => exact tb23
    | 4, _ => exact tb24
    | 5, _ => exact tb25
    | 6, _ => exact tb26
  · match k, hk with
    | 0, _ => exact tb30
    | 1, _ => exact tb31
    | 2, _ => exact tb32
    | 3, _ => exact tb33
    | 4, _ => exact tb34
    | 5, _ => exact tb35
    | 6, _ => exact tb36
theorem ok_is (m k : Nat) (h1 : 1 ≤ m) (h3 : m ≤ 3) (hk : k ≤ 6) : (tab m k).all (okC m k) = true := by
  obtain rfl | rfl | rfl : m = 1 ∨ m = 2 ∨ m = 3 := by omega
  · match k, hk with
    | 0, _ => exact ok10
    | 1, _ => exact ok11
    | 2, _ => exact ok12
    | 3, _ => exact ok13
    | 4, _ => exact ok14
    | 5, _ => exact ok15
    | 6, _ => exact ok16
  · match k, hk with
    | 0, _ => exact ok20
    | 1, _ => exact ok21
    | 2, _ => exact ok22
    | 3, _ => exact ok23
    | 4, _ => exact ok24
    | 5, _ => exact ok25
    | 6, _ => exact ok26
  · match k, hk with
    | 0, _ => exact ok30
    | 1, _ => exact ok31
    | 2, _ => exact ok32
    | 3, _ => exact ok33
    | 4, _ => exact ok34
    | 5, _ => exact ok35
    | 6, _ => exact ok36
theorem held_is {m : Nat} {o : List Nat} (h1 : 1 ≤ m) (h3 : m ≤ 3) (ho : ∀ c ∈ o, c ∈ letM 3) : ∀ k, k ≤ 7 → heldM m o k = held2 m (enc (coreM o)) (gapsM o) k
  | 0, _ => rfl
  | k + 1, hk => by
    show heldM m o k + ((wordsM m k).filter fun w => sayingM w o).length = held2 m (enc (coreM o)) (gapsM o) k + hitsL (enc (coreM o)) (gapsM o) (tab m k)
    rw [held_is h1 h3 ho k (by omega), hits_is ho _ (fun w hw c hc => let_up (((mem_words k w).mp hw).2 c hc)), tab_is m k h1 h3 (by omega), hits_flat]
theorem plain4 (many : Nat) (o : List Nat) (h1 : 1 ≤ many) (h3 : many ≤ 3) (hl : o.length ≤ 6) (ho : ∀ c ∈ o, c ∈ letM many) : heldM many o (o.length + 1) = prodN (gapsM o) := by
  have hm : ent o ∈ (tab many o.length).flatten := by
    rw [← tab_is many o.length h1 h3 hl]
    exact List.mem_map.mpr ⟨o, (mem_words _ o).mpr ⟨rfl, ho⟩, rfl⟩
  obtain ⟨C, hC, hoC⟩ := List.mem_flatten.mp hm
  have h5 := List.all_eq_true.mp (List.all_eq_true.mp (ok_is many o.length h1 h3 hl) C hC) _ hoC
  rw [held_is h1 h3 (fun c hc => let_up (ho c hc)) _ (by omega)]
  exact Nat.eq_of_beq_eq_true h5
theorem mem_words4 {w : List Nat} (h : w.length ≤ 4) (hw : ∀ c ∈ w, c ∈ letM 3) : w ∈ words4 := by
  unfold words4
  have hm : w ∈ wordsM 3 w.length := (mem_words _ w).mpr ⟨rfl, hw⟩
  generalize w.length = k at hm h
  match k, h with
  | 0, _ => exact List.mem_append_left _ hm
  | 1, _ => exact List.mem_append_right _ (List.mem_append_left _ hm)
  | 2, _ => exact List.mem_append_right _ (List.mem_append_right _ (List.mem_append_left _ hm))
  | 3, _ => exact List.mem_append_right _ (List.mem_append_right _ (List.mem_append_right _ (List.mem_append_left _ hm)))
  | 4, _ => exact List.mem_append_right _ (List.mem_append_right _ (List.mem_append_right _ (List.mem_append_right _ hm)))
theorem plain1 (one r : List Nat) (hl : one.length ≤ 4) (h1 : ∀ c ∈ one, c ∈ letM 3) (hr : r ∈ rowsM (maxCnt one)) : sayingM one (imgM r one) = true := by
  have hm : one ∈ wordsM 3 one.length := (mem_words _ one).mpr ⟨rfl, h1⟩
  have hc : (wordsM 3 one.length).all chk1 = true := by
    generalize one.length = k at hl
    match k, hl with
    | 0, _ => exact c10
    | 1, _ => exact c11
    | 2, _ => exact c12
    | 3, _ => exact c13
    | 4, _ => exact c14
  exact List.all_eq_true.mp (List.all_eq_true.mp hc one hm) r hr
theorem plain2 (one o : List Nat) (hl : one.length ≤ 4) (h1 : ∀ c ∈ one, c ∈ letM 3) (hlo : o.length ≤ 7) (h2 : ∀ c ∈ o, c ∈ letM 3) (hs : sayingM one o = true) : (∃ r ∈ rowsM (maxCnt one), imgM r one = o) ∨ 3 < maxCnt o := by
  have hm : o ∈ wordsM 3 o.length := (mem_words _ o).mpr ⟨rfl, h2⟩
  have hc : (wordsM 3 o.length).all chk = true := by
    generalize o.length = k at hlo
    match k, hlo with
    | 0, _ => exact c20
    | 1, _ => exact c21
    | 2, _ => exact c22
    | 3, _ => exact c23
    | 4, _ => exact c24
    | 5, _ => exact c25
    | 6, _ => exact c26
    | 7, _ => exact c27
  have ht : (enc (coreM one), gapsM one, one) ∈ tone := by
    rw [← tone_is]
    exact List.mem_map.mpr ⟨one, mem_words4 hl h1, rfl⟩
  have h := List.all_eq_true.mp (List.all_eq_true.mp hc o hm) _ ht
  have h' : Bool.rec (motive := fun _ => Bool) true (Bool.rec (motive := fun _ => Bool) true (Bool.rec (motive := fun _ => Bool) ((rowsM (maxCnt one)).any fun r => eqL (imgM r one) o) true (Nat.ble 4 (maxCnt o))) (leL (gapsM one) (gapsM o))) (Nat.beq (enc (coreM one)) (enc (coreM o))) = true := h
  rw [← eqL_enc h1 h2] at h'
  unfold sayingM at hs
  cases e1 : eqL (coreM one) (coreM o)
  · rw [e1] at hs; cases hs
  · rw [e1] at hs h'
    cases e2 : leL (gapsM one) (gapsM o)
    · rw [e2] at hs; cases hs
    · rw [e2] at h'
      cases e3 : Nat.ble 4 (maxCnt o)
      · rw [e3] at h'
        obtain ⟨r, hr, e⟩ := List.any_eq_true.mp h'
        exact .inl ⟨r, hr, (eqL_iff _ _).mp e⟩
      · exact .inr (Nat.le_of_ble_eq_true e3)
theorem plain : Plain := ⟨plain1, plain2, plain4⟩
end Say

set_option Elab.async false
set_option linter.all false
set_option maxRecDepth 100000
set_option maxHeartbeats 16000000
namespace Say
open PySem PySem.Spec PyProof.Rows L2
theorem all_mk {l : PySem.W.OpenLaw} {w : World} {K : PySem.W.Frag} {h : Heap} {mg : Str → Option Value} {fa f1 f2 f3 f4 f5 f6 f7 f8 f9 f10 f11 f12 f13 f14 f15 f16 f17 f18 f19 f20 f21 f22 f23 f24 f25 f26 : Addr} (PL : Plain) (X : K.In h) (G : h.Ns mainGlobals mg) (hfa : mg "law" = some (.ref fa))
    {od1 an1 od2 an2 od3 an3 od4 an4 od5 an5 od6 an6 od7 an7 od8 an8 od9 an9 od10 an10 od11 an11 od12 an12 od13 an13 od14 an14 od15 an15 od16 an16 od17 an17 od18 an18 od19 an19 od20 an20 od21 an21 od22 an22 od23 an23 od24 an24 od25 an25 od26 an26 : Option Addr} {sl1 sl2 sl3 sl4 sl5 sl6 sl7 sl8 sl9 sl10 sl11 sl12 sl13 sl14 sl15 sl16 sl17 sl18 sl19 sl20 sl21 sl22 sl23 sl24 sl25 sl26 : Array (Option Value)} {oc1 kV1 dc1 pm1 cd1 ct1 oc2 kV2 dc2 pm2 cd2 ct2 oc3 kV3 dc3 pm3 cd3 ct3 oc4 kV4 dc4 pm4 cd4 ct4 oc5 kV5 dc5 pm5 cd5 ct5 oc6 kV6 dc6 pm6 cd6 ct6 oc7 kV7 dc7 pm7 cd7 ct7 oc8 kV8 dc8 pm8 cd8 ct8 oc9 kV9 dc9 pm9 cd9 ct9 oc10 kV10 dc10 pm10 cd10 ct10 oc11 kV11 dc11 pm11 cd11 ct11 oc12 kV12 dc12 pm12 cd12 ct12 oc13 kV13 dc13 pm13 cd13 ct13 oc14 kV14 dc14 pm14 cd14 ct14 oc15 kV15 dc15 pm15 cd15 ct15 oc16 kV16 dc16 pm16 cd16 ct16 oc17 kV17 dc17 pm17 cd17 ct17 oc18 kV18 dc18 pm18 cd18 ct18 oc19 kV19 dc19 pm19 cd19 ct19 oc20 kV20 dc20 pm20 cd20 ct20 oc21 kV21 dc21 pm21 cd21 ct21 oc22 kV22 dc22 pm22 cd22 ct22 oc23 kV23 dc23 pm23 cd23 ct23 oc24 kV24 dc24 pm24 cd24 ct24 oc25 kV25 dc25 pm25 cd25 ct25 oc26 kV26 dc26 pm26 cd26 ct26 : Value} {u1 u2 u3 u4 u5 : Tok}
    (a1 : PySem.W.nsIn K mainGlobals "is_int" = some (some (.ref f1))) (l1 : K.lookup f1 = some ⟨oc1, od1, .func (PySem.W.fnOf "is_int" "is_int" (defArgs sIsInt) (defBody sIsInt) (defScope sIsInt) .none kV1 dc1 pm1 an1 cd1 ct1), sl1⟩) (c1 : PySem.W.codeIn K cd1 "is_int" = true) (k1 : PySem.W.keepIn K (.ref f1) = true)
    (a2 : PySem.W.nsIn K mainGlobals "is_from" = some (some (.ref f2))) (l2 : K.lookup f2 = some ⟨oc2, od2, .func (PySem.W.fnOf "is_from" "is_from" (defArgs sIsFrom) (defBody sIsFrom) (defScope sIsFrom) .none kV2 dc2 pm2 an2 cd2 ct2), sl2⟩) (c2 : PySem.W.codeIn K cd2 "is_from" = true) (k2 : PySem.W.keepIn K (.ref f2) = true)
    (a3 : PySem.W.nsIn K mainGlobals "need_word" = some (some (.ref f3))) (l3 : K.lookup f3 = some ⟨oc3, od3, .func (PySem.W.fnOf "need_word" "need_word" (defArgs sNeedWord) (defBody sNeedWord) (defScope sNeedWord) .none kV3 dc3 pm3 an3 cd3 ct3), sl3⟩) (c3 : PySem.W.codeIn K cd3 "need_word" = true) (k3 : PySem.W.keepIn K (.ref f3) = true)
    (a4 : PySem.W.nsIn K mainGlobals "need_rule" = some (some (.ref f4))) (l4 : K.lookup f4 = some ⟨oc4, od4, .func (PySem.W.fnOf "need_rule" "need_rule" (defArgs sNeedRule) (defBody sNeedRule) (defScope sNeedRule) .none kV4 dc4 pm4 an4 cd4 ct4), sl4⟩) (c4 : PySem.W.codeIn K cd4 "need_rule" = true) (k4 : PySem.W.keepIn K (.ref f4) = true)
    (a5 : PySem.W.nsIn K mainGlobals "times_of" = some (some (.ref f5))) (l5 : K.lookup f5 = some ⟨oc5, od5, .func (PySem.W.fnOf "times_of" "times_of" (defArgs sTimes) (defBody sTimes) (defScope sTimes) .none kV5 dc5 pm5 an5 cd5 ct5), sl5⟩) (c5 : PySem.W.codeIn K cd5 "times_of" = true) (k5 : PySem.W.keepIn K (.ref f5) = true)
    (a6 : PySem.W.nsIn K mainGlobals "sum_of" = some (some (.ref f6))) (l6 : K.lookup f6 = some ⟨oc6, od6, .func (PySem.W.fnOf "sum_of" "sum_of" (defArgs sSum) (defBody sSum) (defScope sSum) .none kV6 dc6 pm6 an6 cd6 ct6), sl6⟩) (c6 : PySem.W.codeIn K cd6 "sum_of" = true) (k6 : PySem.W.keepIn K (.ref f6) = true)
    (a7 : PySem.W.nsIn K mainGlobals "counts_of" = some (some (.ref f7))) (l7 : K.lookup f7 = some ⟨oc7, od7, .func (PySem.W.fnOf "counts_of" "counts_of" (defArgs sCounts) (defBody sCounts) (defScope sCounts) .none kV7 dc7 pm7 an7 cd7 ct7), sl7⟩) (c7 : PySem.W.codeIn K cd7 "counts_of" = true) (k7 : PySem.W.keepIn K (.ref f7) = true)
    (a8 : PySem.W.nsIn K mainGlobals "said_length" = some (some (.ref f8))) (l8 : K.lookup f8 = some ⟨oc8, od8, .func (PySem.W.fnOf "said_length" "said_length" (defArgs sLen) (defBody sLen) (defScope sLen) .none kV8 dc8 pm8 an8 cd8 ct8), sl8⟩) (c8 : PySem.W.codeIn K cd8 "said_length" = true) (k8 : PySem.W.keepIn K (.ref f8) = true)
    (a9 : PySem.W.nsIn K mainGlobals "said_of" = some (some (.ref f9))) (l9 : K.lookup f9 = some ⟨oc9, od9, .func (PySem.W.fnOf "said_of" "said_of" (defArgs sSaidOf) (defBody sSaidOf) (defScope sSaidOf) .none kV9 dc9 pm9 an9 cd9 ct9), sl9⟩) (c9 : PySem.W.codeIn K cd9 "said_of" = true) (k9 : PySem.W.keepIn K (.ref f9) = true)
    (a10 : PySem.W.nsIn K mainGlobals "said" = some (some (.ref f10))) (l10 : K.lookup f10 = some ⟨oc10, od10, .func (PySem.W.fnOf "said" "said" (defArgs sSaid) (defBody sSaid) (defScope sSaid) .none kV10 dc10 pm10 an10 cd10 ct10), sl10⟩) (c10 : PySem.W.codeIn K cd10 "said" = true) (k10 : PySem.W.keepIn K (.ref f10) = true)
    (a11 : PySem.W.nsIn K mainGlobals "runs_of" = some (some (.ref f11))) (l11 : K.lookup f11 = some ⟨oc11, od11, .func (PySem.W.fnOf "runs_of" "runs_of" (defArgs sRuns) (defBody sRuns) (defScope sRuns) .none kV11 dc11 pm11 an11 cd11 ct11), sl11⟩) (c11 : PySem.W.codeIn K cd11 "runs_of" = true) (k11 : PySem.W.keepIn K (.ref f11) = true)
    (a12 : PySem.W.nsIn K mainGlobals "marks_of" = some (some (.ref f12))) (l12 : K.lookup f12 = some ⟨oc12, od12, .func (PySem.W.fnOf "marks_of" "marks_of" (defArgs sMarks) (defBody sMarks) (defScope sMarks) .none kV12 dc12 pm12 an12 cd12 ct12), sl12⟩) (c12 : PySem.W.codeIn K cd12 "marks_of" = true) (k12 : PySem.W.keepIn K (.ref f12) = true)
    (a13 : PySem.W.nsIn K mainGlobals "word_of" = some (some (.ref f13))) (l13 : K.lookup f13 = some ⟨oc13, od13, .func (PySem.W.fnOf "word_of" "word_of" (defArgs sWordOf) (defBody sWordOf) (defScope sWordOf) .none kV13 dc13 pm13 an13 cd13 ct13), sl13⟩) (c13 : PySem.W.codeIn K cd13 "word_of" = true) (k13 : PySem.W.keepIn K (.ref f13) = true)
    (a14 : PySem.W.nsIn K mainGlobals "core_of" = some (some (.ref f14))) (l14 : K.lookup f14 = some ⟨oc14, od14, .func (PySem.W.fnOf "core_of" "core_of" (defArgs sCore) (defBody sCore) (defScope sCore) .none kV14 dc14 pm14 an14 cd14 ct14), sl14⟩) (c14 : PySem.W.codeIn K cd14 "core_of" = true) (k14 : PySem.W.keepIn K (.ref f14) = true)
    (a15 : PySem.W.nsIn K mainGlobals "gaps_of" = some (some (.ref f15))) (l15 : K.lookup f15 = some ⟨oc15, od15, .func (PySem.W.fnOf "gaps_of" "gaps_of" (defArgs sGaps) (defBody sGaps) (defScope sGaps) .none kV15 dc15 pm15 an15 cd15 ct15), sl15⟩) (c15 : PySem.W.codeIn K cd15 "gaps_of" = true) (k15 : PySem.W.keepIn K (.ref f15) = true)
    (a16 : PySem.W.nsIn K mainGlobals "need_two" = some (some (.ref f16))) (l16 : K.lookup f16 = some ⟨oc16, od16, .func (PySem.W.fnOf "need_two" "need_two" (defArgs sNeedTwo) (defBody sNeedTwo) (defScope sNeedTwo) .none kV16 dc16 pm16 an16 cd16 ct16), sl16⟩) (c16 : PySem.W.codeIn K cd16 "need_two" = true) (k16 : PySem.W.keepIn K (.ref f16) = true)
    (a17 : PySem.W.nsIn K mainGlobals "grows_to" = some (some (.ref f17))) (l17 : K.lookup f17 = some ⟨oc17, od17, .func (PySem.W.fnOf "grows_to" "grows_to" (defArgs sGrows) (defBody sGrows) (defScope sGrows) .none kV17 dc17 pm17 an17 cd17 ct17), sl17⟩) (c17 : PySem.W.codeIn K cd17 "grows_to" = true) (k17 : PySem.W.keepIn K (.ref f17) = true)
    (a18 : PySem.W.nsIn K mainGlobals "is_saying" = some (some (.ref f18))) (l18 : K.lookup f18 = some ⟨oc18, od18, .func (PySem.W.fnOf "is_saying" "is_saying" (defArgs sIsSaying) (defBody sIsSaying) (defScope sIsSaying) .none kV18 dc18 pm18 an18 cd18 ct18), sl18⟩) (c18 : PySem.W.codeIn K cd18 "is_saying" = true) (k18 : PySem.W.keepIn K (.ref f18) = true)
    (a19 : PySem.W.nsIn K mainGlobals "product_of" = some (some (.ref f19))) (l19 : K.lookup f19 = some ⟨oc19, od19, .func (PySem.W.fnOf "product_of" "product_of" (defArgs sProd) (defBody sProd) (defScope sProd) .none kV19 dc19 pm19 an19 cd19 ct19), sl19⟩) (c19 : PySem.W.codeIn K cd19 "product_of" = true) (k19 : PySem.W.keepIn K (.ref f19) = true)
    (a20 : PySem.W.nsIn K mainGlobals "count_unsayings" = some (some (.ref f20))) (l20 : K.lookup f20 = some ⟨oc20, od20, .func (PySem.W.fnOf "count_unsayings" "count_unsayings" (defArgs sCountU) (defBody sCountU) (defScope sCountU) .none kV20 dc20 pm20 an20 cd20 ct20), sl20⟩) (c20 : PySem.W.codeIn K cd20 "count_unsayings" = true) (k20 : PySem.W.keepIn K (.ref f20) = true)
    (a21 : PySem.W.nsIn K mainGlobals "_law_taken" = some (some (.ref f21))) (l21 : K.lookup f21 = some ⟨oc21, od21, .func (PySem.W.fnOf "_law_taken" "_law_taken" (defArgs sTaken) (defBody sTaken) (defScope sTaken) .none kV21 dc21 pm21 an21 cd21 ct21), sl21⟩) (c21 : PySem.W.codeIn K cd21 "_law_taken" = true) (k21 : PySem.W.keepIn K (.ref f21) = true)
    (a22 : PySem.W.nsIn K mainGlobals "_law_pick" = some (some (.ref f22))) (l22 : K.lookup f22 = some ⟨oc22, od22, .func (PySem.W.fnOf "_law_pick" "_law_pick" (defArgs sPick) (defBody sPick) (defScope sPick) .none kV22 dc22 pm22 an22 cd22 ct22), sl22⟩) (c22 : PySem.W.codeIn K cd22 "_law_pick" = true) (k22 : PySem.W.keepIn K (.ref f22) = true)
    (a23 : PySem.W.nsIn K mainGlobals "_law_word" = some (some (.ref f23))) (l23 : K.lookup f23 = some ⟨oc23, od23, .func (PySem.W.fnOf "_law_word" "_law_word" (defArgs sWord) (defBody sWord) (defScope sWord) .none kV23 dc23 pm23 an23 cd23 ct23), sl23⟩) (c23 : PySem.W.codeIn K cd23 "_law_word" = true) (k23 : PySem.W.keepIn K (.ref f23) = true)
    (a24 : PySem.W.nsIn K mainGlobals "_law_rows" = some (some (.ref f24))) (l24 : K.lookup f24 = some ⟨oc24, od24, .func (PySem.W.fnOf "_law_rows" "_law_rows" (defArgs sRows) (defBody sRows) (defScope sRows) .none kV24 dc24 pm24 an24 cd24 ct24), sl24⟩) (c24 : PySem.W.codeIn K cd24 "_law_rows" = true) (k24 : PySem.W.keepIn K (.ref f24) = true)
    (a25 : PySem.W.nsIn K mainGlobals "_law_row_said" = some (some (.ref f25))) (l25 : K.lookup f25 = some ⟨oc25, od25, .func (PySem.W.fnOf "_law_row_said" "_law_row_said" (defArgs sRowSaid) (defBody sRowSaid) (defScope sRowSaid) .none kV25 dc25 pm25 an25 cd25 ct25), sl25⟩) (c25 : PySem.W.codeIn K cd25 "_law_row_said" = true) (k25 : PySem.W.keepIn K (.ref f25) = true)
    (a26 : PySem.W.nsIn K mainGlobals "law" = some (some (.ref f26))) (l26 : K.lookup f26 = some ⟨oc26, od26, .func (PySem.W.fnOf "law" "law" (defArgs sLaw) (defBody sLaw) (defScope sLaw) .none kV26 dc26 pm26 an26 cd26 ct26), sl26⟩) (c26 : PySem.W.codeIn K cd26 "law" = true) (k26 : PySem.W.keepIn K (.ref f26) = true)
    (z1 : PySem.W.nsIn K mainGlobals "isinstance" = some none)
    (z2 : PySem.W.nsIn K mainGlobals "int" = some none)
    (z3 : PySem.W.nsIn K mainGlobals "bool" = some none)
    (z4 : PySem.W.nsIn K mainGlobals "str" = some none)
    (z5 : PySem.W.nsIn K mainGlobals "tuple" = some none)
    (z6 : PySem.W.nsIn K mainGlobals "len" = some none)
    (z7 : PySem.W.nsIn K mainGlobals "enumerate" = some none)
    (z8 : PySem.W.nsIn K mainGlobals "min" = some none)
    (z9 : PySem.W.nsIn K mainGlobals "max" = some none)
    (z10 : PySem.W.nsIn K mainGlobals "sum" = some none)
    (z11 : PySem.W.nsIn K mainGlobals "sorted" = some none)
    (z12 : PySem.W.nsIn K mainGlobals "set" = some none)
    (z13 : PySem.W.nsIn K mainGlobals "range" = some none)
    (z14 : PySem.W.nsIn K mainGlobals "zip" = some none)
    (z15 : PySem.W.nsIn K mainGlobals "all" = some none)
    (y1 : PySem.W.nsIn K mainGlobals "LETTERS" = some (some (.str "abcd" u1)))
    (y2 : PySem.W.nsIn K mainGlobals "MOST_WORD" = some (some (.int 2000 u2)))
    (y3 : PySem.W.nsIn K mainGlobals "MOST_SAID" = some (some (.int 20000 u3)))
    (y4 : PySem.W.nsIn K mainGlobals "MOST_RULE" = some (some (.int 30 u4)))
    (y5 : PySem.W.nsIn K mainGlobals "MOST_TIMES" = some (some (.int 1000000 u5)))
    : ∃ fd : FuncData, (∀ (s : Shared) (v : Value), BindsTo s fd ⟨[v], []⟩ [("_law_script", v)]) ∧ ∀ base : Heap, K.In base → base.Ns mainGlobals mg → FnOk l.prog w K mg base CX0 6 fa fd ["_law_script"] (spLaw K) := by
  have e := hfa.symm.trans (PySem.W.mg_of X G a26)
  cases e
  have GB : Glb mg := ⟨PySem.W.mg_none_of X G z1, PySem.W.mg_none_of X G z2, PySem.W.mg_none_of X G z3, PySem.W.mg_none_of X G z4, PySem.W.mg_none_of X G z5, PySem.W.mg_none_of X G z6, PySem.W.mg_none_of X G z7, PySem.W.mg_none_of X G z8, PySem.W.mg_none_of X G z9, PySem.W.mg_none_of X G z10, PySem.W.mg_none_of X G z11, PySem.W.mg_none_of X G z12, PySem.W.mg_none_of X G z13, PySem.W.mg_none_of X G z14, PySem.W.mg_none_of X G z15, ⟨_, PySem.W.mg_of X G y1⟩, ⟨_, PySem.W.mg_of X G y2⟩, ⟨_, PySem.W.mg_of X G y3⟩, ⟨_, PySem.W.mg_of X G y4⟩, ⟨_, PySem.W.mg_of X G y5⟩⟩
  have F1 := fun_mk (st := sIsInt) l1 c1 k1
  have b1 := F1.binds (ps := ["value"]) fun _ _ _ _ _ _ us hl => match us, hl with | [_], _ => rfl
  have m1 := PySem.W.mg_of X G a1
  have F2 := fun_mk (st := sIsFrom) l2 c2 k2
  have b2 := F2.binds (ps := ["value", "least", "most"]) fun _ _ _ _ _ _ us hl => match us, hl with | [_, _, _], _ => rfl
  have m2 := PySem.W.mg_of X G a2
  have F3 := fun_mk (st := sNeedWord) l3 c3 k3
  have b3 := F3.binds (ps := ["value"]) fun _ _ _ _ _ _ us hl => match us, hl with | [_], _ => rfl
  have m3 := PySem.W.mg_of X G a3
  have F4 := fun_mk (st := sNeedRule) l4 c4 k4
  have b4 := F4.binds (ps := ["value"]) fun _ _ _ _ _ _ us hl => match us, hl with | [_], _ => rfl
  have m4 := PySem.W.mg_of X G a4
  have F5 := fun_mk (st := sTimes) l5 c5 k5
  have b5 := F5.binds (ps := ["rule", "number"]) fun _ _ _ _ _ _ us hl => match us, hl with | [_, _], _ => rfl
  have m5 := PySem.W.mg_of X G a5
  have F6 := fun_mk (st := sSum) l6 c6 k6
  have b6 := F6.binds (ps := ["rule", "count"]) fun _ _ _ _ _ _ us hl => match us, hl with | [_, _], _ => rfl
  have m6 := PySem.W.mg_of X G a6
  have F7 := fun_mk (st := sCounts) l7 c7 k7
  have b7 := F7.binds (ps := ["word"]) fun _ _ _ _ _ _ us hl => match us, hl with | [_], _ => rfl
  have m7 := PySem.W.mg_of X G a7
  have F8 := fun_mk (st := sLen) l8 c8 k8
  have b8 := F8.binds (ps := ["rule", "word"]) fun _ _ _ _ _ _ us hl => match us, hl with | [_, _], _ => rfl
  have m8 := PySem.W.mg_of X G a8
  have F9 := fun_mk (st := sSaidOf) l9 c9 k9
  have b9 := F9.binds (ps := ["rule", "word"]) fun _ _ _ _ _ _ us hl => match us, hl with | [_, _], _ => rfl
  have m9 := PySem.W.mg_of X G a9
  have F10 := fun_mk (st := sSaid) l10 c10 k10
  have b10 := F10.binds (ps := ["rule", "word"]) fun _ _ _ _ _ _ us hl => match us, hl with | [_, _], _ => rfl
  have m10 := PySem.W.mg_of X G a10
  have F11 := fun_mk (st := sRuns) l11 c11 k11
  have b11 := F11.binds (ps := ["word"]) fun _ _ _ _ _ _ us hl => match us, hl with | [_], _ => rfl
  have m11 := PySem.W.mg_of X G a11
  have F12 := fun_mk (st := sMarks) l12 c12 k12
  have b12 := F12.binds (ps := ["word"]) fun _ _ _ _ _ _ us hl => match us, hl with | [_], _ => rfl
  have m12 := PySem.W.mg_of X G a12
  have F13 := fun_mk (st := sWordOf) l13 c13 k13
  have b13 := F13.binds (ps := ["runs"]) fun _ _ _ _ _ _ us hl => match us, hl with | [_], _ => rfl
  have m13 := PySem.W.mg_of X G a13
  have F14 := fun_mk (st := sCore) l14 c14 k14
  have b14 := F14.binds (ps := ["word"]) fun _ _ _ _ _ _ us hl => match us, hl with | [_], _ => rfl
  have m14 := PySem.W.mg_of X G a14
  have F15 := fun_mk (st := sGaps) l15 c15 k15
  have b15 := F15.binds (ps := ["word"]) fun _ _ _ _ _ _ us hl => match us, hl with | [_], _ => rfl
  have m15 := PySem.W.mg_of X G a15
  have F16 := fun_mk (st := sNeedTwo) l16 c16 k16
  have b16 := F16.binds (ps := ["one", "other"]) fun _ _ _ _ _ _ us hl => match us, hl with | [_, _], _ => rfl
  have m16 := PySem.W.mg_of X G a16
  have F17 := fun_mk (st := sGrows) l17 c17 k17
  have b17 := F17.binds (ps := ["one", "other"]) fun _ _ _ _ _ _ us hl => match us, hl with | [_, _], _ => rfl
  have m17 := PySem.W.mg_of X G a17
  have F18 := fun_mk (st := sIsSaying) l18 c18 k18
  have b18 := F18.binds (ps := ["one", "other"]) fun _ _ _ _ _ _ us hl => match us, hl with | [_, _], _ => rfl
  have m18 := PySem.W.mg_of X G a18
  have F19 := fun_mk (st := sProd) l19 c19 k19
  have b19 := F19.binds (ps := ["told"]) fun _ _ _ _ _ _ us hl => match us, hl with | [_], _ => rfl
  have m19 := PySem.W.mg_of X G a19
  have F20 := fun_mk (st := sCountU) l20 c20 k20
  have b20 := F20.binds (ps := ["word"]) fun _ _ _ _ _ _ us hl => match us, hl with | [_], _ => rfl
  have m20 := PySem.W.mg_of X G a20
  have F21 := fun_mk (st := sTaken) l21 c21 k21
  have b21 := F21.binds (ps := ["_law_row", "_law_many"]) fun _ _ _ _ _ _ us hl => match us, hl with | [_, _], _ => rfl
  have m21 := PySem.W.mg_of X G a21
  have F22 := fun_mk (st := sPick) l22 c22 k22
  have b22 := F22.binds (ps := ["_law_row", "_law_things"]) fun _ _ _ _ _ _ us hl => match us, hl with | [_, _], _ => rfl
  have m22 := PySem.W.mg_of X G a22
  have F23 := fun_mk (st := sWord) l23 c23 k23
  have b23 := F23.binds (ps := ["_law_row", "_law_most", "_law_many"]) fun _ _ _ _ _ _ us hl => match us, hl with | [_, _, _], _ => rfl
  have m23 := PySem.W.mg_of X G a23
  have F24 := fun_mk (st := sRows) l24 c24 k24
  have b24 := F24.binds (ps := ["_law_most"]) fun _ _ _ _ _ _ us hl => match us, hl with | [_], _ => rfl
  have m24 := PySem.W.mg_of X G a24
  have F25 := fun_mk (st := sRowSaid) l25 c25 k25
  have b25 := F25.binds (ps := ["_law_told", "_law_word_here"]) fun _ _ _ _ _ _ us hl => match us, hl with | [_, _], _ => rfl
  have m25 := PySem.W.mg_of X G a25
  have F26 := fun_mk (st := sLaw) l26 c26 k26
  refine ⟨PySem.W.fnOf "law" "law" (defArgs sLaw) (defBody sLaw) (defScope sLaw) .none kV26 dc26 pm26 an26 cd26 ct26, fun s v => .of_eq rfl, fun base _ _ => ?_⟩
  have g3 : FnOk l.prog w K mg base CX0 1 f3 _ ["value"] spNeedWord := ok_needWord F3 GB
  have g2 : FnOk l.prog w K mg base CX0 2 f2 _ ["value", "least", "most"] spIsFrom := ok_isFrom F2 F1 b1 m1 GB
  have g16 : FnOk l.prog w K mg base CX0 2 f16 _ ["one", "other"] spNeedTwo := ok_needTwo F16 F3 b3 m3 GB
  have g4 : FnOk l.prog w K mg base CX0 3 f4 _ ["value"] spNeedRule := ok_needRule F4 F2 b2 m2 g2 GB
  have g8 : FnOk l.prog w K mg base CX0 2 f8 _ ["rule", "word"] spLen := ok_len F8 F6 b6 m6 F7 b7 m7 GB
  have g9 : FnOk l.prog w K mg base CX0 2 f9 _ ["rule", "word"] spSaidOf := ok_saidOf F9 F5 b5 m5 GB
  have g10 : FnOk l.prog w K mg base CX0 4 f10 _ ["rule", "word"] spSaid := ok_said F10 k4 b4 m4 g4 k3 b3 m3 g3 k8 b8 m8 g8 k9 b9 m9 g9 GB
  have g11 : FnOk l.prog w K mg base CX0 1 f11 _ ["word"] spRuns := ok_runs F11 GB
  have g12 : FnOk l.prog w K mg base CX0 2 f12 _ ["word"] spMarks := ok_marks F12 k11 b11 m11 g11 GB
  have g13 : FnOk l.prog w K mg base CX0 1 f13 _ ["runs"] spWordOf := ok_wordOf F13 GB
  have g14 : FnOk l.prog w K mg base CX0 3 f14 _ ["word"] spCore := ok_core F14 k11 b11 m11 g11 k12 b12 m12 g12 k13 b13 m13 g13 GB
  have g15 : FnOk l.prog w K mg base CX0 3 f15 _ ["word"] spGaps := ok_gaps F15 k12 b12 m12 g12 GB
  have g17 : FnOk l.prog w K mg base CX0 4 f17 _ ["one", "other"] spGrows := ok_grows F17 k14 b14 m14 g14 k15 b15 m15 g15 GB
  have g18 : FnOk l.prog w K mg base CX0 5 f18 _ ["one", "other"] spGrows := ok_isSaying F18 k16 b16 m16 g16 k17 b17 m17 g17 GB
  have g19 : FnOk l.prog w K mg base CX0 1 f19 _ ["told"] spProd := ok_prod F19 GB
  have g20 : FnOk l.prog w K mg base CX0 4 f20 _ ["word"] spCountU := ok_countU F20 k3 b3 m3 g3 k15 b15 m15 g15 k19 b19 m19 g19 GB
  have g21 : FnOk l.prog w K mg base CX0 1 f21 _ ["_law_row", "_law_many"] (spTaken K) := ok_taken F21 GB
  have g22 : FnOk l.prog w K mg base CX0 2 f22 _ ["_law_row", "_law_things"] (spPick K) := ok_pick F22 k21 b21 m21 g21 GB
  have g23 : FnOk l.prog w K mg base CX0 2 f23 _ ["_law_row", "_law_most", "_law_many"] (spWord K) := ok_word F23 k21 b21 m21 g21 GB
  have g24 : FnOk l.prog w K mg base CX0 1 f24 _ ["_law_most"] spRows := ok_rows F24 GB
  have g25 : FnOk l.prog w K mg base CX0 1 f25 _ ["_law_told", "_law_word_here"] spRowSaid := ok_rowSaid F25 GB
  exact ok_law F26 PL k21 b21 m21 g21 k22 b22 m22 g22 k23 b23 m23 g23 k24 b24 m24 g24 k10 b10 m10 g10 k25 b25 m25 g25 k18 b18 m18 g18 k20 b20 m20 g20 GB
end Say
open PySem PySem.W PyProof.Rows in
set_option maxRecDepth 100000 in
set_option maxHeartbeats 0 in
theorem PySem.Challenge.cw_saidcounts_k06_whole_sayings_by_rules_holds : PySem.Challenge.rw_saidcounts_k06_whole_sayings_by_rules.Holds := by
  w_on; o_law; k_head; (case hw => w_witness2)
  k_fill
  refine L2.walk_of (l := PySem.Challenge.rw_saidcounts_k06_whole_sayings_by_rules) (n := 63) (k := 6) (x := "_law_script") (CX := fun _ => L2.CX0) (sp := fun w => Say.spLaw _) rfl (by decide) rfl ⟨rfl, by decide, by decide⟩ (fun w h Y => PySem.W.kIn_of Y) ?F (fun _ _ a ns hl _ hS => ⟨a, ns, rfl, hS, hl, fun _ => rfl⟩) (fun _ _ _ _ _ h => h)
  case F =>
    intro w mg fa h KX G hmg
    refine' Say.all_mk Say.plain KX G hmg ?a1 ?l1 ?c1 ?k1 ?a2 ?l2 ?c2 ?k2 ?a3 ?l3 ?c3 ?k3 ?a4 ?l4 ?c4 ?k4 ?a5 ?l5 ?c5 ?k5 ?a6 ?l6 ?c6 ?k6 ?a7 ?l7 ?c7 ?k7 ?a8 ?l8 ?c8 ?k8 ?a9 ?l9 ?c9 ?k9 ?a10 ?l10 ?c10 ?k10 ?a11 ?l11 ?c11 ?k11 ?a12 ?l12 ?c12 ?k12 ?a13 ?l13 ?c13 ?k13 ?a14 ?l14 ?c14 ?k14 ?a15 ?l15 ?c15 ?k15 ?a16 ?l16 ?c16 ?k16 ?a17 ?l17 ?c17 ?k17 ?a18 ?l18 ?c18 ?k18 ?a19 ?l19 ?c19 ?k19 ?a20 ?l20 ?c20 ?k20 ?a21 ?l21 ?c21 ?k21 ?a22 ?l22 ?c22 ?k22 ?a23 ?l23 ?c23 ?k23 ?a24 ?l24 ?c24 ?k24 ?a25 ?l25 ?c25 ?k25 ?a26 ?l26 ?c26 ?k26 ?z1 ?z2 ?z3 ?z4 ?z5 ?z6 ?z7 ?z8 ?z9 ?z10 ?z11 ?z12 ?z13 ?z14 ?z15 ?y1 ?y2 ?y3 ?y4 ?y5
    (case a1 => k_is)
    (case l1 => k_is)
    (case c1 => k_is)
    (case k1 => k_is)
    (case a2 => k_is)
    (case l2 => k_is)
    (case c2 => k_is)
    (case k2 => k_is)
    (case a3 => k_is)
    (case l3 => k_is)
    (case c3 => k_is)
    (case k3 => k_is)
    (case a4 => k_is)
    (case l4 => k_is)
    (case c4 => k_is)
    (case k4 => k_is)
    (case a5 => k_is)
    (case l5 => k_is)
    (case c5 => k_is)
    (case k5 => k_is)
    (case a6 => k_is)
    (case l6 => k_is)
    (case c6 => k_is)
    (case k6 => k_is)
    (case a7 => k_is)
    (case l7 => k_is)
    (case c7 => k_is)
    (case k7 => k_is)
    (case a8 => k_is)
    (case l8 => k_is)
    (case c8 => k_is)
    (case k8 => k_is)
    (case a9 => k_is)
    (case l9 => k_is)
    (case c9 => k_is)
    (case k9 => k_is)
    (case a10 => k_is)
    (case l10 => k_is)
    (case c10 => k_is)
    (case k10 => k_is)
    (case a11 => k_is)
    (case l11 => k_is)
    (case c11 => k_is)
    (case k11 => k_is)
    (case a12 => k_is)
    (case l12 => k_is)
    (case c12 => k_is)
    (case k12 => k_is)
    (case a13 => k_is)
    (case l13 => k_is)
    (case c13 => k_is)
    (case k13 => k_is)
    (case a14 => k_is)
    (case l14 => k_is)
    (case c14 => k_is)
    (case k14 => k_is)
    (case a15 => k_is)
    (case l15 => k_is)
    (case c15 => k_is)
    (case k15 => k_is)
    (case a16 => k_is)
    (case l16 => k_is)
    (case c16 => k_is)
    (case k16 => k_is)
    (case a17 => k_is)
    (case l17 => k_is)
    (case c17 => k_is)
    (case k17 => k_is)
    (case a18 => k_is)
    (case l18 => k_is)
    (case c18 => k_is)
    (case k18 => k_is)
    (case a19 => k_is)
    (case l19 => k_is)
    (case c19 => k_is)
    (case k19 => k_is)
    (case a20 => k_is)
    (case l20 => k_is)
    (case c20 => k_is)
    (case k20 => k_is)
    (case a21 => k_is)
    (case l21 => k_is)
    (case c21 => k_is)
    (case k21 => k_is)
    (case a22 => k_is)
    (case l22 => k_is)
    (case c22 => k_is)
    (case k22 => k_is)
    (case a23 => k_is)
    (case l23 => k_is)
    (case c23 => k_is)
    (case k23 => k_is)
    (case a24 => k_is)
    (case l24 => k_is)
    (case c24 => k_is)
    (case k24 => k_is)
    (case a25 => k_is)
    (case l25 => k_is)
    (case c25 => k_is)
    (case k25 => k_is)
    (case a26 => k_is)
    (case l26 => k_is)
    (case c26 => k_is)
    (case k26 => k_is)
    (case z1 => k_is)
    (case z2 => k_is)
    (case z3 => k_is)
    (case z4 => k_is)
    (case z5 => k_is)
    (case z6 => k_is)
    (case z7 => k_is)
    (case z8 => k_is)
    (case z9 => k_is)
    (case z10 => k_is)
    (case z11 => k_is)
    (case z12 => k_is)
    (case z13 => k_is)
    (case z14 => k_is)
    (case z15 => k_is)
    (case y1 => k_is)
    (case y2 => k_is)
    (case y3 => k_is)
    (case y4 => k_is)
    (case y5 => k_is)
